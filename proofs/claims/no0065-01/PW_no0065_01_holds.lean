import PyProof.Rows.All
import Wide.All
import OpenK.AllK
import Wide.FinOn
import PySem.Challenge.RW_no0065_01
set_option Elab.async false
local macro_rules | `(tactic| walk_at $s:str) => `(tactic| k_extra $(Lean.Syntax.mkStrLit ("m " ++ s.getString)))
section
open PySem PySem.W PyProof.Rows PySem.Calls
namespace Mine
/-- no decoder at work on an object -/
def nd (c : Code) : Prop := ∀ id v vs kw, c = .builtin id ⟨v :: vs, kw⟩ → Builtin.Bytes.decodersThatHold.contains id = false
def ND (l : List (Code × Pos)) : Prop := ∀ x ∈ l, nd x.1
/-- as wpAny, of the contexts without a decoder; nothing is raised -/
def wpR {α : Type} (M : Model) (A : Around) (t : Sem α) (Q : α → Shared → Prop) (s : Shared) : Prop :=
  ∀ Γ p, Γ.In A → nd Γ.code → ND Γ.below → Sem.wp M Γ t (fun a _ s' => Q a s') (fun _ _ _ => False) p s
def codeR (M : Model) (A : Around) (c : Code) (R : Flow → Shared → Prop) (s : Shared) : Prop :=
  ∀ Γ p, Γ.code = c → Γ.Below A → ND Γ.below → wpCode M Γ (fun r s' => match r with | .ok f => R f s' | .error _ => False) p s

section
variable {α β : Type} {M : Model} {A : Around} {s : Shared}
theorem wpR_any {t : Sem α} {Q : α → Shared → Prop} (h : wpAny M A t Q (fun _ _ => False) s) : wpR M A t Q s := fun Γ p hi _ _ => h Γ p hi
theorem wpR_mono {t : Sem α} {Q Q' : α → Shared → Prop} (h : wpR M A t Q s) (hQ : ∀ a s, Q a s → Q' a s) : wpR M A t Q' s :=
  fun Γ p hi h1 h2 => Sem.wp_mono M Γ t (fun a _ s => hQ a s) (fun _ _ _ x => x) p s (h Γ p hi h1 h2)
theorem wpR_bind {m : Sem α} {f : α → Sem β} {Q : β → Shared → Prop} (h : wpR M A m (fun a s' => wpR M A (f a) Q s') s) : wpR M A (m >>= f) Q s := fun Γ p hi h1 h2 => by
  rw [Sem.wp_bind']
  exact Sem.wp_mono M Γ m (fun a p' s' h' => h' Γ p' hi h1 h2) (fun _ _ _ x => x) p s (h Γ p hi h1 h2)
theorem wpR_first {m : Sem α} {f : α → Sem β} {Q : β → Shared → Prop} (h : wpAny M A m (fun a s' => wpR M A (f a) Q s') (fun _ _ => False) s) : wpR M A (m >>= f) Q s := wpR_bind (wpR_any h)
theorem wpR_pure {a : α} {Q : α → Shared → Prop} (h : Q a s) : wpR M A (pure a) Q s := wpR_any (wpAny_pure h)
theorem wpR_onRaise {m : Sem α} {k : Value → Sem Unit} {Q : α → Shared → Prop} (h : wpR M A m Q s) : wpR M A (m.onRaise k) Q s := fun Γ p hi h1 h2 => by
  rw [Sem.wp_onRaise]
  exact Sem.wp_mono M Γ m (fun _ _ _ x => x) (fun _ _ _ x => x.elim) p s (h Γ p hi h1 h2)
theorem wpR_holding {vs : List Value} {m : Sem α} {Q : α → Shared → Prop} (h : wpR M A m Q s) : wpR M A (holding vs m) Q s := fun Γ p hi h1 h2 => by
  rw [Sem.wp_holding]
  exact h Γ p hi h1 h2
theorem nd_enter {Γ : Ctx} {c : Code} {hd : Option Value} {p : Pos} (h1 : nd Γ.code) (h2 : ND Γ.below) : ND (Γ.enter c hd p).below := by
  intro x hx
  rcases List.mem_cons.mp hx with rfl | hx
  · exact h1
  · exact h2 x hx
theorem wpR_run {c : Code} {h : Option Value} {Q : Flow → Shared → Prop} (hc : codeR M (A.mark h) c Q s) (hnb : h ≠ some byPass := by intro x; cases x) : wpR M A (run c h) Q s := fun Γ p hi h1 h2 => by
  rw [Sem.wp_run]
  refine wpCode_mono (fun r s' q => ?_) (hc _ p rfl (hi.enter c h p hnb) (nd_enter h1 h2))
  cases r with
  | ok f => exact q
  | error e => exact q.elim
theorem wpR_runValue {c : Code} {Q : Value → Shared → Prop} (hc : codeR M A c (fun f s' => match f with | .ret v => Q v s' | _ => False) s) : wpR M A (runValue c) Q s := fun Γ p hi h1 h2 => by
  rw [Sem.wp_runValue]
  refine wpCode_mono (fun r s' q => ?_) (hc _ p rfl (hi.enter c none p (by intro x; cases x)) (nd_enter h1 h2))
  cases r with
  | ok f => cases f <;> exact q
  | error e => exact q.elim
theorem wpR_call {f : Value} {pos : List Value} {kw : List (PySem.Str × Value)} {Q : Value → Shared → Prop}
    (hc : codeR M A (.call f ⟨pos, kw⟩) (fun f s' => match f with | .ret v => Q v s' | _ => False) s) : wpR M A (call f pos kw) Q s := wpR_runValue hc
theorem codeR_mono {c : Code} {R R' : Flow → Shared → Prop} (h : codeR M A c R s) (hR : ∀ r s, R r s → R' r s) : codeR M A c R' s :=
  fun Γ p hc hΓ hn => wpCode_mono (fun r s' q => by cases r with | ok f => exact hR f s' q | error e => exact q) (h Γ p hc hΓ hn)
theorem codeR_any {c : Code} {R : Flow → Shared → Prop} (h : codeAny M A c (fun r s' => match r with | .ok f => R f s' | .error _ => False) s) : codeR M A c R s := fun Γ p hc hΓ _ => h Γ p hc hΓ
theorem codeR_of_tree {c : Code} {R : Flow → Shared → Prop} (hn : nd c)
    (h : wpR M (A.under c) (M.den c) (fun fin s' => match fin with | .done f => R f s' | .again c' => c'.quiet = true ∧ codeR M A c' R s') s) : codeR M A c R s := fun Γ p hc hΓ hb => by
  rw [wpCode_iff_wp, hc]
  refine Sem.wp_mono M Γ _ (fun fin p' s' h' => ?_) (fun _ _ _ h' => h'.elim) p s (h Γ p (hc ▸ hΓ.in) (hc ▸ hn) hb)
  cases fin with
  | done f => exact h'
  | again c' => exact ⟨h'.1, h'.2 (Γ.goto c') p' rfl (hΓ.goto c') hb⟩
theorem codeR_loop {c : Code} {R : Flow → Shared → Prop} (hn : nd c) (hq : c.quiet = true) (I : Nat → Shared → Prop)
    (turn : ∀ n s, I n s → wpR M (A.under c) (M.den c)
      (fun fin s' => match fin with
        | .done f => R f s'
        | .again c' => (c' = c ∧ ∃ m, m < n ∧ I m s') ∨ (c'.quiet = true ∧ codeR M A c' R s')) s)
    (n : Nat) (h : I n s) : codeR M A c R s := by
  induction n using Nat.strongRecOn generalizing s with
  | ind n ih =>
    refine codeR_of_tree hn (wpR_mono (turn n s h) (fun fin s' hf => ?_))
    cases fin with
    | done f => exact hf
    | again c' =>
      rcases hf with ⟨rfl, m, hm, hI⟩ | hf
      · exact ⟨hq, ih m hm hI⟩
      · exact hf
theorem execs_app {env : Env} {post : List Stmt} : ∀ pre : List Stmt, execs (pre ++ post) env = (execs pre env >>= fun f => match f with | .next => execs post env | f => pure f)
  | [] => rfl
  | st :: rest => by
    rw [List.cons_append, execs_cons, execs_cons, bind_assoc]
    congr 1
    funext f
    cases f
    · exact execs_app rest
    all_goals rfl
theorem wpR_execs_app {env : Env} {pre post : List Stmt} {Q : Flow → Shared → Prop}
    (h : wpR M A (execs pre env) (fun f s' => match f with | .next => wpR M A (execs post env) Q s' | f => Q f s') s) : wpR M A (execs (pre ++ post) env) Q s := by
  rw [execs_app]
  exact wpR_bind (wpR_mono h fun f s' q => by cases f <;> first | exact q | exact wpR_pure q)
theorem wpR_execs_cons {env : Env} {st : Stmt} {post : List Stmt} {Q : Flow → Shared → Prop}
    (h : wpR M A (exec st env) (fun f s' => match f with | .next => wpR M A (execs post env) Q s' | f => Q f s') s) : wpR M A (execs (st :: post) env) Q s := by
  rw [execs_cons]
  exact wpR_bind (wpR_mono h fun f s' q => by cases f <;> first | exact q | exact wpR_pure q)
end
section
variable {prog : Program} {w : World} {A : Around} {s : Shared} {R : Flow → Shared → Prop}
theorem codeR_func {body : List Stmt} {env : Env}
    (h : wpR (model prog w) (A.deeper env) (execs body env) (fun f s' => R (.ret (match f with | .ret v => v | _ => .none)) s') s) : codeR (model prog w) A (.func body env) R s := by
  refine codeR_of_tree (fun _ _ _ _ e => by cases e) ?_
  show wpR _ (A.deeper env) (do point; match ← (execs body env).onRaise (leaving env) with | .ret v => ret v | _ => ret .none) _ s
  refine wpR_first (wpAny_point (wpR_bind (wpR_onRaise (wpR_mono h fun f s' h' => ?_))))
  cases f <;> exact wpR_pure h'
theorem codeR_def {a : Addr} {o : Obj} {fd : FuncData} {body : List Stmt} {args : Args} {binds : List (PySem.Str × Value)}
    (hroom : A.depth < recursionLimit) (ho : s.heap.get? a = some o) (hdata : o.data = .func fd) (hlim : s.heap.NoLimit) (hcd : s.heap.CodeRec fd.code fd.qualname)
    (hbody : fd.body = .stmts body) (hbind : BindsTo s fd args binds)
    (hcell : ∀ x ∈ fd.scope.names, x.2 ≠ .cell) (hloc : ∀ x ∈ binds, fd.scope.names.lookup x.1 = some .local)
    (h : ∀ h₀, h₀.Ns s.heap.objs.size (fun x => binds.reverse.lookup x) → (∀ b o, s.heap.get? b = some o → h₀.get? b = some o) →
      wpR (model prog w) (A.deeper (callEnv fd s.heap.objs.size a)) (execs body (callEnv fd s.heap.objs.size a)) (fun f s' => R (.ret (match f with | .ret v => v | _ => .none)) s')
        { s with heap := h₀, toks := s.toks + binds.length })
    (hco : fd.scope.isCoroutine = false := by rfl) (hgen : fd.scope.isGenerator = false := by rfl) (hk : fd.scope.kind = .function := by rfl) :
    codeR (model prog w) A (.call (.ref a) args) R s := by
  refine codeR_of_tree (fun _ _ _ _ e => by cases e) (wpR_any ?_)
  show wpAny _ A.in1 (callAny (.ref a) args) _ _ s
  simp only [callAny]
  refine wpAny_bind (wpAny_load ho ?_)
  obtain ⟨c, oc, vs, tq, hc, hoc, hdc, hq⟩ := hcd
  simp only [hdata, callFunction, hco, hgen, hbody, hc]
  refine wpAny_bind (m := field (.ref c) 1) (wpAny_field hoc hdc hq (wpAny_bind (wpAny_pure ?_)))
  refine wpAny_bind (hbind _ _ _ _ (wpAny_bind ?_))
  rw [← hc]
  refine wpAny_newFunctionEnv hcell hloc (fun h₀ hns₀ hsb₀ => ?_) hk
  refine wpAny_bind (wpAny_enterFrame (hlim.fresh _ hsb₀) hroom (wpAny_pure ⟨rfl, codeR_func (h h₀ hns₀ fun b o e => ?_)⟩))
  exact hsb₀.extBut b o (Nat.ne_of_lt (Heap.lt_size e)) (Heap.get?_push_of_some _ e)
theorem codeR_forLoop {target : PySem.Expr} {it : Value} {body : List Stmt} {env : Env} (I : Nat → Shared → Prop)
    (turn : ∀ n s, I n s → wpAny (model prog w) A (pyNext it) (fun r s₁ => match r with
      | none => R .next s₁
      | some v => wpAny (model prog w) A (assign target env v) (fun _ s₂ => wpR (model prog w) A (execs body env) (fun f s₃ => match f with
          | .next | .cont => ∃ m, m < n ∧ I m s₃
          | .brk => R .next s₃
          | .ret v => R (.ret v) s₃) s₂) (fun _ _ => False) s₁) (fun _ _ => False) s)
    (n : Nat) (h : I n s) (ht : ∀ v, letOwnedTupleGo target it v = pure () := by intro _; rfl) : codeR (model prog w) A (.forLoop target it body [] env) R s := by
  refine codeR_loop (fun _ _ _ _ e => by cases e) rfl I (fun n s hI => ?_) n h
  show wpR _ _ ((forTurn target it body [] env).onRaise (fun x => do noteFrame x env; theTreesLotGoes x)) _ s
  refine wpR_onRaise ?_
  simp only [forTurn]
  refine wpR_first (wpAny_standAt (wpR_bind (wpR_onRaise (wpR_any (wpAny_mono (turn n s hI) (fun r s₁ h₁ => ?_) fun _ _ h' => h')))))
  cases r with
  | none => exact wpR_pure (.inr ⟨rfl, codeR_any (codeAny_block (wpAny_execs_nil h₁))⟩)
  | some v =>
    refine wpR_first (wpAny_of_eq (ht v) ?_)
    refine wpR_first (wpAny_mono h₁ (fun _ s₂ h₂ => wpR_bind (wpR_mono h₂ (fun f s₃ h₃ => ?_))) fun _ _ h' => h')
    cases f with
    | next => exact wpR_pure (.inl ⟨rfl, h₃⟩)
    | cont => exact wpR_pure (.inl ⟨rfl, h₃⟩)
    | brk => exact wpR_pure h₃
    | ret v => exact wpR_pure h₃
theorem wpR_For {target iter : PySem.Expr} {body : List Stmt} {pos : Pos} {env : Env} {Q : Flow → Shared → Prop}
    (h : wpAny (model prog w) A (eval iter env) (fun x s₁ => wpAny (model prog w) A (pyIter x) (fun it s₂ =>
      codeR (model prog w) A (.forLoop target it body [] env) Q s₂) (fun _ _ => False) s₁) (fun _ _ => False) s)
    (hs : ∀ x, foldedSetIterable iter env x = pure x := by intro _; rfl) :
    wpR (model prog w) A (exec (.For target iter body [] pos) env) Q s := by
  rw [exec_For]
  refine wpR_first (wpAny_standAt (wpR_first (wpAny_mono h (fun x s₁ h₁ => wpR_first (wpAny_of_eq (hs x) (wpR_first (wpAny_standAt (wpR_first (wpAny_holding
    (wpAny_mono h₁ (fun it s₂ h₂ => ?_) fun _ _ h' => h'))))))) fun _ _ h' => h')))
  unfold runOwn
  exact wpR_onRaise (wpR_run h₂)
end
end Mine
end

section
open PySem PySem.W PyProof.Rows PySem.Calls
set_option maxRecDepth 100000
namespace Mine
theorem sub_bytes_none : isSubtype (.type "bytes") (.type "NoneType") = pure false := by rw [isSubtype_type]; kernel_rfl
theorem slot_bytes_eq_refl : Slot "bytes" (cmpInfo .Eq).2.2 "bytes.__eq__" := FB.slot_bytes_eq
theorem gives_none_bytes (b : Array UInt8) (t : Tok) : Gives (Builtin.«NoneType.__eq__» ⟨[.none, .bytes b t], []⟩) (.val (Value.notImplemented)) :=
  .of_wp fun M A E s Q h => by obtain ⟨hp, g, d, tk, os⟩ := s; wp_walk; exact ⟨_, rfl, h⟩
theorem gives_bytes_none (b : Array UInt8) (t : Tok) : Gives (Builtin.«bytes.__eq__» ⟨[.bytes b t, .none], []⟩) (.val (Value.notImplemented)) := by
  refine .of_wp fun M A E s Q hq => ?_
  have e : isInstance .none (.type "bytes") = pure false := by rw [show isInstance .none (.type "bytes") = isSubtype (.type "NoneType") (.type "bytes") from rfl, isSubtype_type]; kernel_rfl
  have k : wpAny M A (do
      let r ← isInstance .none (.type "bytes")
      if (!r) = true then do
          rule (toString "bytes." ++ toString "__eq__" ++ toString ".declined")
          ret Value.notImplemented
        else do
          let x ← Builtin.Bytes.payload (Value.bytes b t)
          let y ← Builtin.Bytes.payload Value.none
          ret (Value.bool (Builtin.Bytes.holds "__eq__" (Builtin.Bytes.order x.toList y.toList)))) (fun fin s' => ∃ v, fin = PySem.Fin.done (Flow.ret v) ∧ Q v s') E s := by
    refine wpAny_bind (wpAny_of_eq e ?_)
    exact wpAny_bind (wpAny_rule (wpAny_pure ⟨_, rfl, hq⟩))
  exact k
theorem eq_none_bytes {prog : Program} {w : World} {A : Around} {E : Value → Shared → Prop} {s : Shared} {Q : Value → Shared → Prop} {b : Array UInt8} {t : Tok} (h : Q (.bool false) s) : wpAny (model prog w) A (compareOp .Eq .none (.bytes b t)) Q E s := by
  show wpAny _ A (richCompare .Eq _ _) Q E s
  exact EqNone.wpAny_richCompare_eq_decline (k := false) (fun _ => rfl) (fun s' => typeIs_bytes s' b t) (by decide) sub_bytes_none F.slot_NoneType_eq slot_bytes_eq_refl rfl
    (call_gives F.slot_NoneType_eq rfl F.entry_NoneType_eq (F.args_NoneType_eq_2 _ _) (gives_none_bytes b t)
      ⟨rfl, call_gives slot_bytes_eq_refl (typeIs_bytes s b t) FB.entry_bytes_eq (FB.args_bytes_eq_2 _ _) (gives_bytes_none b t) ⟨rfl, h⟩⟩)
end Mine
end

section
open PySem PySem.W PyProof.Rows PySem.Calls
set_option maxRecDepth 100000
namespace Mine
namespace BF
theorem mro : mroOf (.type "bytearray") = pure [.type "bytearray", .type "object"] := by rw [mroOf_type]; kernel_rfl
theorem lookup_new : typeLookup (.type "bytearray") "__new__" = pure (some (.builtin "bytearray.__new__")) := by rw [typeLookup_type, builtinLookup_eq_fast]; kernel_rfl
theorem slot_init : Slot "bytearray" "__init__" "bytearray.__init__" :=
  .of (owner := "bytearray") (n := "__init__") (by rw [typeLookup_type, builtinLookup_eq_fast]; kernel_rfl) (by decide +kernel) (by decide +kernel) (by decide +kernel)
    (by first | exact .inl (by decide +kernel) | exact .inr (by decide +kernel)) (by rw [isSubtype_type]; kernel_rfl)
theorem sub_self : isSubtype (.type "bytearray") (.type "bytearray") = pure true := by rw [isSubtype_type]; kernel_rfl
theorem called : TypeCalled "bytearray" "bytearray.__new__" "bytearray.__init__" :=
  ⟨by decide +kernel, by decide +kernel, ⟨_, _, mro⟩, madeBy_type mro lookup_new (by decide +kernel), by decide +kernel, sub_self, slot_init⟩
theorem typeCall (a : Value) : checkTypeCall "bytearray" ⟨[a], []⟩ = pure () := by kernel_rfl
theorem newCall (a : Value) : checkBuiltinCall "bytearray.__new__" ⟨[.type "bytearray", a], []⟩ = pure () := by kernel_rfl
theorem entry_new : entryFor table "bytearray.__new__" = some Builtin.«list.__new__» := entryFor_alias (id' := "list.__new__") (by kernel_rfl) (by first | rfl | decide +kernel) (by decide +kernel) (by kernel_rfl)
theorem plain_new : plainId "bytearray.__new__" = true := by decide +kernel
theorem entry_init : entryFor table "bytearray.__init__" = some Builtin.«bytearray.__init__» := by first | exact entryFor_of_tree (by kernel_rfl) | exact entryFor_of_fast (by kernel_rfl)
theorem args_init (a b : Value) : argsOk "bytearray.__init__" ⟨[a, b], []⟩ := by
  unfold argsOk; kernel_rfl
theorem plain_init : plainId "bytearray.__init__" = true := by decide +kernel
theorem look_buffer : typeLookup (.type "bytearray") "__buffer__" = pure (some (.builtin "bytearray.__buffer__")) := by rw [typeLookup_type, builtinLookup_eq_fast]; kernel_rfl
theorem look_release : typeLookup (.type "bytearray") "__release_buffer__" = pure (some (.builtin "bytearray.__release_buffer__")) := by rw [typeLookup_type, builtinLookup_eq_fast]; kernel_rfl
theorem bytes_no_index (b : Array UInt8) (t : Tok) : specialOf (.bytes b t) "__index__" = pure none := KBy.special_eq (by rw [typeLookup_type, builtinLookup_eq_fast]; kernel_rfl)
end BF
set_option maxRecDepth 1000000 in
set_option maxHeartbeats 4000000 in
theorem owner_new : ("bytearray.__new__".splitOn ".__new__").headD "" = "bytearray" := by rw [PySem.W.split_bytearray]; rfl
section
variable {prog : Program} {w : World} {A : Around} {E : Value → Shared → Prop} {s : Shared}
theorem code_ba_new (a : Value) {Q₁ : Value → Shared → Prop}
    (h : Q₁ (.ref s.heap.objs.size) { s with heap := s.heap.push { cls := .type "bytearray", data := .bytearray #[] } }) :
    codeAny (model prog w) A (.call (.builtin "bytearray.__new__") ⟨[.type "bytearray", a], []⟩) (wants Q₁ E) s := by
  refine codeAny_of_tree ?_
  show wpAny _ A.in1 (do checkBuiltinCall "bytearray.__new__" ⟨[.type "bytearray", a], []⟩; again (.builtin "bytearray.__new__" ⟨[.type "bytearray", a], []⟩)) _ _ s
  refine wpAny_bind (wpAny_of_eq (BF.newCall a) (wpAny_pure ⟨plainId_quiet BF.plain_new _, codeAny_builtin_stack BF.entry_new rfl fun p st => ?_⟩))
  rw [Around.under_plainId BF.plain_new _]
  have hsub := BF.sub_self
  have hown := owner_new
  obtain ⟨hp, g, d, tk, os⟩ := s
  simp only [hown]
  wp_walk
  exact h
theorem codeR_builtin {id : String} {args : Args} {b : Builtin} {R : Flow → Shared → Prop} (hn : nd (.builtin id args)) (hb : entryFor table id = some b)
    (h : wpR (model prog w) (A.under (.builtin id args)) (b args) (fun fin s' => match fin with | .done f => R f s' | .again c' => c'.quiet = true ∧ codeR (model prog w) A c' R s') s) :
    codeR (model prog w) A (.builtin id args) R s := by
  refine codeR_of_tree hn ?_
  have hden : (model prog w).den (.builtin id args) = b args := by
    show (match entryFor table id with | some b => b args | none => unsupported ((withoutEnding? id "#data").getD id)) = _
    rw [hb]
  rw [hden]
  exact h
theorem special_ba {a : Addr} {o : Obj} {name : PySem.Str} {r : Option Value} {M : Model} {Q : Option Value → Shared → Prop} (ho : s.heap.get? a = some o) (hc : o.cls = .type "bytearray") (h : typeLookup (.type "bytearray") name = pure r) (hq : Q r s) :
    wpAny M A (specialOf (.ref a) name) Q E s := wpAny_specialOf (s := s) (T := "bytearray") ⟨o, ho, hc⟩ h hq
theorem ba_release {a : Addr} {o : Obj} {M : Model} {Q : Bool → Shared → Prop} (ho : s.heap.get? a = some o) (hc : o.cls = .type "bytearray") (hq : Q false s) : wpAny M A (Builtin.Bytes.ownRelease (.ref a)) Q E s := by
  unfold Builtin.Bytes.ownRelease Builtin.Bytes.slotIsOwn
  refine wpAny_bind (wpAny_bind (special_ba ho hc BF.look_release ?_))
  dsimp only
  split
  · rename_i hx
    exact absurd hx (by decide +kernel)
  · have e : isSubtype (.type "bytearray") (.type ("bytearray.__release_buffer__".dropRight ("__release_buffer__".length + 1))) = pure true := by rw [isSubtype_type]; kernel_rfl
    exact wpAny_isInstance (s := s) (T := "bytearray") ⟨o, ho, hc⟩ e (wpAny_pure hq)
theorem ba_write {a : Addr} {b : Array UInt8} {n : Nat} {f : Array UInt8 → Array UInt8} {M : Model} {Q : Unit → Shared → Prop} (ho : s.heap.get? a = some { cls := .type "bytearray", data := .bytearray b n }) (hz : (f b).size ≤ 1000)
    (hq : Q () { s with heap := s.heap.update a (Obj.mapBytearray f) }) : wpAny M A (Builtin.Bytes.write (.ref a) f) Q E s := by
  show wpAny M A (updateBytearray a f) Q E s
  unfold updateBytearray
  refine wpAny_bind (wpAny_load ho ?_)
  show wpAny M A (update a (Obj.mapBytearray f) >>= fun _ => lookBehind a) Q E s
  refine wpAny_bind (wpAny_update ho ?_)
  refine wpAny_lookBehind (Heap.get?_update_self (Obj.mapBytearray f) ho rfl) ?_ hq
  show (if (f b).size > sizeLine then some "bytearray:memory" else none) = none
  rw [if_neg]
  rw [sizeLine_eq]
  omega
theorem ba_updated {h : Heap} {a : Addr} {b : Array UInt8} {n : Nat} {f : Array UInt8 → Array UInt8} (ho : h.get? a = some { cls := .type "bytearray", data := .bytearray b n }) : (h.update a (Obj.mapBytearray f)).get? a = some { cls := .type "bytearray", data := .bytearray (f b) n } :=
  Heap.get?_update_self (Obj.mapBytearray f) ho rfl
theorem ba_exported {a : Addr} {M : Model} {Q : Bool → Shared → Prop} (hg : A.guards = some []) (hq : Q false s) : wpR M A (Builtin.Bytes.exported (.ref a)) Q s := by
  intro Γ p hi h1 h2
  have hG : guardsOf ((Γ.code, p) :: Γ.below) = [] := by rw [guardsOf_cons]; exact hi.2.2.2.1 _ hg
  have hN : ND ((Γ.code, p) :: Γ.below) := by
    intro x hx
    rcases List.mem_cons.mp hx with rfl | hx
    · exact h1
    · exact h2 x hx
  unfold Builtin.Bytes.exported
  rw [Sem.wp_bind']
  unfold stack
  rw [Sem.wp_stack]
  simp only [Sem.wp_pure, Sem.wp_pure']
  generalize hl : (Γ.code, p) :: Γ.below = l at hG hN
  have key : ∀ f : Code × Pos → Bool, (∀ x ∈ l, f x = false) → l.any f = false := fun f hf => by
    rw [List.any_eq_false]
    intro x hx
    rw [hf x hx]
    exact Bool.false_ne_true
  rw [key]
  · exact hq
  · rintro ⟨c, q⟩ hx
    have hng : c.isGuard = false := by
      cases hc : c.isGuard with
      | false => rfl
      | true =>
        have : c ∈ guardsOf l := List.mem_filter.mpr ⟨List.mem_map.mpr ⟨_, hx, rfl⟩, hc⟩
        rw [hG] at this
        cases this
    have hnd := hN _ hx
    dsimp only at hnd ⊢
    split
    all_goals (first | rfl | (rename_i heq; injection heq with e1 _; subst e1; first
      | (rw [hnd _ _ _ _ rfl, Bool.and_false])
      | (exact absurd (show guardIds.contains "bytearray.__contains__" = false from hng) (by decide +kernel))
      | (exact absurd (show guardIds.contains "bytearray.__mod__" = false from hng) (by decide +kernel))
      | (exact absurd (show guardIds.contains "bytearray.__rmod__" = false from hng) (by decide +kernel))
      | (exact absurd (show guardIds.contains "_struct.pack_into.held" = false from hng) (by decide +kernel))
      | (exact absurd (show guardIds.contains "bytearray.find.held" = false from hng) (by decide +kernel))))
theorem wpR_bytearray {b : Array UInt8} {t : Tok} {Q : Value → Shared → Prop} (hg : A.guards = some []) (hz : b.size ≤ 1000)
    (h : ∀ h', h'.get? s.heap.objs.size = some { cls := .type "bytearray", data := .bytearray b } → Heap.SameBut s.heap.objs.size (s.heap.push { cls := .type "bytearray", data := .bytearray #[] }) h' → Q (.ref s.heap.objs.size) { s with heap := h' }) :
    wpR (model prog w) A (call (.type "bytearray") [.bytes b t]) Q s := by
  refine wpR_call (codeR_of_tree (fun _ _ _ _ e => by cases e) ?_)
  show wpR _ _ (callAny (.type "bytearray") _) _ _
  refine wpR_pure ⟨Code.quiet_builtin _ (by decide +kernel), codeR_builtin (fun id v vs kw e => by cases e; decide +kernel) F.entry_type_call ?_⟩
  rw [Around.under_plain (weight_type_call_type "bytearray" _ []) (units_type_call_type "bytearray" _ [])]
  have hmro := BF.mro
  have hmade := BF.called.made
  have hsub := BF.sub_self
  have h1 := BF.called.notType
  have h2 := BF.called.canCreate
  have h3 := BF.typeCall (.bytes b t)
  unfold Builtin.«type.__call__»
  dsimp only
  simp only [h1, h2, h3, hmro, hmade, pure_bind, Bool.false_eq_true, if_false, List.isEmpty_cons]
  refine wpR_first (wpAny_holding (wpAny_call ?_))
  refine codeAny_mono (code_ba_new (E := fun _ _ => False) (Q₁ := fun obj s₁ => obj = .ref s.heap.objs.size ∧ s₁ = { s with heap := s.heap.push { cls := .type "bytearray", data := .bytearray #[] } }) (.bytes b t) ⟨rfl, rfl⟩) fun r s₁ hr => ?_
  cases r with
  | error e => exact hr
  | ok fl =>
    cases fl with
    | ret obj =>
      obtain ⟨rfl, rfl⟩ := hr
      have hget : (s.heap.push { cls := .type "bytearray", data := .bytearray #[] }).get? s.heap.objs.size = some { cls := .type "bytearray", data := .bytearray #[] } := Heap.get?_push_size _ rfl
      have hT : ({ s with heap := s.heap.push { cls := .type "bytearray", data := .bytearray #[] } } : Shared).TypeIs (.ref s.heap.objs.size) "bytearray" := ⟨_, hget, rfl⟩
      refine wpR_first (wpAny_isInstance hT hsub ?_)
      simp only [Bool.not_true, Bool.false_eq_true, if_false]
      refine wpR_bind (wpR_holding ?_)
      simp only [callSpecial?]
      refine wpR_first (wpAny_specialOf hT BF.slot_init.lookup ?_)
      simp only [BF.slot_init.bind, pure_bind]
      refine wpR_holding (wpR_bind (wpR_call (codeR_of_tree (fun _ _ _ _ e => by cases e) ?_)))
      show wpR _ A.in1.in1 (do checkBuiltinCall "bytearray.__init__" ⟨[.ref s.heap.objs.size, .bytes b t], []⟩; again (.builtin "bytearray.__init__" ⟨[.ref s.heap.objs.size, .bytes b t], []⟩)) _ _
      refine wpR_first (BF.slot_init.check _ _ _ _ _ _ _ _ hT (BF.args_init _ _) (wpR_pure ⟨plainId_quiet BF.plain_init _, codeR_builtin (fun id v vs kw e => by cases e; decide +kernel) BF.entry_init ?_⟩))
      rw [Around.under_plainId BF.plain_init _]
      unfold Builtin.«bytearray.__init__»
      dsimp only
      refine wpR_first (ba_release hget rfl ?_)
      simp only [Bool.false_eq_true, if_false]
      refine wpR_first (wpAny_of_eq (a := [some (.bytes b t), none, none]) (by kernel_rfl) ?_)
      dsimp only
      refine wpR_first (wpAny_of_eq (a := ()) rfl (wpR_first (wpAny_of_eq (a := ()) rfl ?_)))
      have hg' : A.in1.in1.guards = some [] := hg
      refine wpR_bind ?_
      unfold orM
      refine wpR_bind (ba_exported (A := A.in1.in1) hg ?_)
      show wpR _ _ (Builtin.Bytes.exportsOf (Value.ref s.heap.objs.size) >>= fun x => _) _ _
      refine wpR_first ?_
      unfold Builtin.Bytes.exportsOf
      refine wpAny_bind (wpAny_load hget (wpAny_pure ?_))
      refine wpR_pure ?_
      simp only [Nat.lt_irrefl, decide_false, Bool.false_eq_true, if_false, gt_iff_lt]
      refine wpR_first (ba_write hget (by simp) ?_)
      have hget₁ := ba_updated (f := fun _ => #[]) hget
      refine wpR_first (wpAny_of_eq (a := none) rfl ?_)
      simp only [Option.isSome_none, Bool.false_eq_true, if_false]
      refine wpR_first (wpAny_of_eq (a := ()) rfl ?_)
      refine wpR_first (wpAny_of_eq (a := none) (BF.bytes_no_index b t) ?_)
      simp only [Option.isSome_none, Bool.false_eq_true, if_false]
      refine wpR_first (wpAny_of_eq (a := some b) KBy.buffer_eq ?_)
      dsimp only
      refine wpR_first (wpAny_rule ?_)
      refine wpR_first (ba_write hget₁ (by simpa using hz) ?_)
      have hget₂ := ba_updated (f := fun _ => b) hget₁
      refine wpR_pure ?_
      dsimp only
      refine wpR_pure ?_
      dsimp only
      rw [if_neg (by decide)]
      exact wpR_pure (h _ hget₂ ((Heap.SameBut.update ..).trans (Heap.SameBut.update ..)))
    | _ => exact hr.elim
end
end Mine
end

section
open PySem PySem.W PyProof.Rows PySem.Calls
set_option maxRecDepth 100000
namespace Mine
/-- an object of which nothing is said -/
def keepObj (o : Obj) : Obj := o
/-- a turn of a loop has gone by: what it stores, what stands -/
def TurnEnd (h₀ : Heap) (L : Addr) (x : PySem.Str) (stored : List PySem.Str) (m₀ : PySem.Str → Option Value) (news : List (Addr × Obj)) (s : Shared) (f : Flow) (s' : Shared) : Prop :=
  f = .next ∧ ∃ h' tk' m', s' = { s with heap := h', toks := tk' } ∧ (∀ z, z ≠ x → stored.contains z = false → m' z = m₀ z) ∧ Fr h₀ L h' m' ∧ News h₀ L h' news
/-- a range stands to be walked -/
def RangeAt (h₀ : Heap) (L : Addr) (n : Nat) (m₀ : PySem.Str → Option Value) (news : List (Addr × Obj)) (s : Shared) (v : Value) (s₁ : Shared) : Prop :=
  ∃ (r : Addr) (t u v' : Tok) (h : Heap) (tk : Nat), v = .ref r ∧ s₁ = { s with heap := h, toks := tk } ∧ IsRange h r 0 (n : Int) 1 t u v' ∧ Fr h₀ L h m₀ ∧ News h₀ L h news
theorem News.sub {h₀ h : Heap} {L : Addr} {l l' : List (Addr × Obj)} (N : News h₀ L h l) (hs : SubL l' l) : News h₀ L h l' := fun p hp => N p (hs.mem p hp)
theorem ba_led {h₀ h h' : Heap} {L : Addr} {m : PySem.Str → Option Value} {news : List (Addr × Obj)} {o o0 : Obj} (F : Fr h₀ L h m) (N : News h₀ L h news) (hget : h'.get? h.objs.size = some o) (hs : Heap.SameBut h.objs.size (h.push o0) h') :
    Fr h₀ L h' m ∧ News h₀ L h' ((h.objs.size, o) :: news) ∧ ∀ p ∈ news, p.1 < h.objs.size := by
  have hnew : h₀.get? h.objs.size = none := next_is_new F
  have hL : L ≠ h.objs.size := Nat.ne_of_lt F.ns.lt
  have hlt : ∀ p ∈ news, p.1 < h.objs.size := fun p hp => Heap.lt_size (N p hp).1
  refine ⟨(F.push o0).change hs hL.symm hnew, fun p hp => ?_, hlt⟩
  rcases List.mem_cons.mp hp with rfl | hp
  · exact ⟨hget, hL.symm, hnew⟩
  · exact ⟨(hs.2 _ (Nat.ne_of_lt (hlt p hp))).trans (Heap.get?_push_of_some _ (N p hp).1), (N p hp).2⟩
section
variable {prog : Program} {w : World} {A : Around} {s : Shared} {env : Env} {h₀ : Heap} {news : List (Addr × Obj)}
theorem News.ext {h h' : Heap} {L : Addr} {I : Addr} {l : List (Addr × Obj)} (N : News h₀ L h l) (hI : ∀ p ∈ l, p.1 ≠ I) (he : Heap.ExtBut I h h') : News h₀ L h' l :=
  fun p hp => ⟨he _ _ (hI p hp) (N p hp).1, (N p hp).2⟩
theorem Fr.ext {h h' : Heap} {L : Addr} {I : Addr} {m : PySem.Str → Option Value} (F : Fr h₀ L h m) (hI : h₀.get? I = none) (hL : L ≠ I) (he : Heap.ExtBut I h h') : Fr h₀ L h' m :=
  ⟨F.ns.at' fun o e => he _ _ hL e, fun b o e => he _ _ (fun q => by rw [q, hI] at e; cases e) (F.keep b o e), F.above⟩
theorem forList_R {x : PySem.Str} {px pos : Pos} {iter : PySem.Expr} {body : List Stmt} {l : Addr} {vs : List Value} {ns : List Int} {nl : Nat} {m₀ : PySem.Str → Option Value} (stored : List PySem.Str) {Q : Flow → Shared → Prop}
    (hh : A.handled = none) (hx : env.kindOf x = some .local) (hp : (env.scope.kind == .class || (env.scope.kind == .module && env.locals != env.globals)) = false)
    (hi : IntsAre vs ns) (hl : (l, W.listOf vs.toArray nl) ∈ news) (F : Fr h₀ env.locals s.heap m₀) (N : News h₀ env.locals s.heap news)
    (hiter : wpAny (model prog w) A (eval iter env) (fun v s₁ => v = .ref l ∧ s₁ = s) (fun _ _ => False) s)
    (turn : ∀ k t h tk (u : PySem.Str → Option Value) (I : Addr) (it : Obj), k ∈ ns → (∀ p ∈ news, p.1 < I) → Fr h₀ env.locals h (fun y => if y = x then some (.int k t) else if stored.contains y then u y else m₀ y) → News h₀ env.locals h ((I, keepObj it) :: news) →
      wpR (model prog w) A (execs body env) (TurnEnd h₀ env.locals x stored m₀ ((I, keepObj it) :: news) s) { s with heap := h, toks := tk })
    (done : ∀ h tk (u : PySem.Str → Option Value), Fr h₀ env.locals h (fun y => if y = x then u y else if stored.contains y then u y else m₀ y) → News h₀ env.locals h news → Q .next { s with heap := h, toks := tk })
    (hs : ∀ x, foldedSetIterable iter env x = pure x := by intro _; rfl) (ht : ∀ it v, letOwnedTupleGo (.Name x px) it v = pure () := by intro _ _; rfl) :
    wpR (model prog w) A (exec (.For (.Name x px) iter body [] pos) env) Q s := by
  have hol : s.heap.get? l = some (W.listOf vs.toArray nl) := (N _ hl).1
  have hls : s.heap.IsList l vs.toArray := ⟨_, hol, rfl, nl, rfl⟩
  refine wpR_For (wpAny_mono hiter (fun v s₁ h₁ => ?_) fun _ _ e => e) hs
  obtain ⟨rfl, rfl⟩ := h₁
  refine wpAny_pyIter_list hls ?_
  have hIlt : ∀ p ∈ news, p.1 < s₁.heap.objs.size := fun p hp => Heap.lt_size (N p hp).1
  have hIne : ∀ p ∈ news, p.1 ≠ s₁.heap.objs.size := fun p hp => Nat.ne_of_lt (hIlt p hp)
  have hne : l ≠ s₁.heap.objs.size := hIne _ hl
  have hnew : h₀.get? s₁.heap.objs.size = none := next_is_new F
  have hL : env.locals ≠ s₁.heap.objs.size := Nat.ne_of_lt F.ns.lt
  have norm : ∀ (h : Heap) (m : PySem.Str → Option Value), (∀ z, z ≠ x → stored.contains z = false → m z = m₀ z) → Fr h₀ env.locals h m → Fr h₀ env.locals h (fun y => if y = x then m y else if stored.contains y then m y else m₀ y) := by
    intro h m hm F₁
    have e : (fun y => if y = x then m y else if stored.contains y then m y else m₀ y) = m := by
      funext y
      by_cases h1 : y = x
      · rw [if_pos h1]
      · rw [if_neg h1]
        cases h2 : stored.contains y with
        | true => simp
        | false => simp only [Bool.false_eq_true, if_false]; exact (hm y h1 h2).symm
    rw [e]
    exact F₁
  refine codeR_forLoop (fun k s' => ∃ h' tk m i, s' = { s₁ with heap := h', toks := tk } ∧ h'.IsListIter s₁.heap.objs.size l i ∧ (∀ z, z ≠ x → stored.contains z = false → m z = m₀ z) ∧ Fr h₀ env.locals h' m ∧ News h₀ env.locals h' news ∧ i ≤ ns.length ∧ k = ns.length - i) ?_ ns.length
    ⟨_, s₁.toks, m₀, 0, rfl, ⟨_, Heap.get?_push_size _ rfl, rfl, rfl⟩, fun _ _ _ => rfl, F.push _, fun p hp => ⟨Heap.get?_push_of_some _ (N p hp).1, (N p hp).2⟩, Nat.zero_le _, rfl⟩ (ht _)
  rintro k s' ⟨h', tk, m, i, rfl, hit, hm, F₁, N₁, hle, rfl⟩
  have hlist : h'.IsList l vs.toArray := ⟨_, (N₁ _ hl).1, rfl, nl, rfl⟩
  by_cases hlt : i < ns.length
  · have hlen : vs.length = ns.length := hi.length
    obtain ⟨v, hv⟩ : ∃ v, vs[i]? = some v := ⟨vs[i]'(by omega), List.getElem?_eq_getElem (by omega)⟩
    obtain ⟨n, t, rfl, hn⟩ := IntsAre.at hi i v hv
    refine wpAny_pyNext_list_item hit hlist (by simpa using hv) fun h₁ hit₁ hsb => ?_
    have F₂ := Fr.ext F₁ hnew hL hsb.extBut
    have N₂ := News.ext N₁ hIne hsb.extBut
    refine wpAny_assign_Name (wpAny_storeName_local hx F₂.ns (fun h₂ hn₂ hs₂ => ?_) hp)
    have F₃ := F₂.set hn₂ hs₂
    have N₃ := N₂.set hs₂
    have hit₂ : h₂.IsListIter s₁.heap.objs.size l (i + 1) := hit₁.at fun o e => (hs₂.2 _ hL.symm).trans e
    obtain ⟨it, hito, hitr⟩ := id hit₂
    have F₃' : Fr h₀ env.locals h₂ (fun y => if y = x then some (.int n t) else if stored.contains y then m y else m₀ y) := by
      have e : (fun y => if y = x then some (Value.int n t) else if stored.contains y then m y else m₀ y) = fun y => if y = x then some (Value.int n t) else m y := by
        funext y
        by_cases h1 : y = x
        · rw [if_pos h1, if_pos h1]
        · rw [if_neg h1, if_neg h1]
          cases h2 : stored.contains y with
          | true => simp
          | false => simp only [Bool.false_eq_true, if_false]; exact (hm y h1 h2).symm
      rw [e]
      exact F₃
    have N₄ : News h₀ env.locals h₂ ((s₁.heap.objs.size, keepObj it) :: news) := by
      intro p hp
      rcases List.mem_cons.mp hp with rfl | hp
      · exact ⟨hito, hL.symm, hnew⟩
      · exact N₃ p hp
    refine wpR_mono (turn n t h₂ (tk + 1) m _ it (List.mem_of_getElem? hn) hIlt F₃' N₄) fun f s' h' => ?_
    obtain ⟨rfl, h₄, tk₄, m₄, rfl, hm₄, F₄, N₅⟩ := h'
    refine ⟨ns.length - (i + 1), by omega, h₄, tk₄, m₄, i + 1, rfl, ?_, hm₄, F₄, fun p hp => N₅ p (List.mem_cons_of_mem _ hp), by omega, rfl⟩
    exact ⟨it, (N₅ _ (List.mem_cons_self ..)).1, hitr⟩
  · have hin : i = ns.length := by omega
    subst hin
    have hlen : vs.length = ns.length := hi.length
    refine wpAny_pyNext_list_end hh hit hlist (by simp [hlen]) fun h₁ he => ?_
    exact done h₁ tk m (norm _ _ hm (Fr.ext F₁ hnew hL he)) (News.ext N₁ hIne he)
theorem forRange_R {x : PySem.Str} {px pos : Pos} {iter : PySem.Expr} {body : List Stmt} {n : Nat} {m₀ : PySem.Str → Option Value} (stored : List PySem.Str) {Q : Flow → Shared → Prop}
    (hh : A.handled = none) (hx : env.kindOf x = some .local) (hp : (env.scope.kind == .class || (env.scope.kind == .module && env.locals != env.globals)) = false)
    (_F : Fr h₀ env.locals s.heap m₀) (_N : News h₀ env.locals s.heap news)
    (hiter : wpAny (model prog w) A (eval iter env) (RangeAt h₀ env.locals n m₀ news s) (fun _ _ => False) s)
    (hsmall : Builtin.Range.small 0 (n : Int) 1 = true) (hsz : Builtin.Range.rangeSize 0 (n : Int) 1 = (n : Int))
    (turn : ∀ k t h tk (u : PySem.Str → Option Value) (I : Addr) (it : Obj), 0 ≤ k → k < (n : Int) → (∀ p ∈ news, p.1 < I) → Fr h₀ env.locals h (fun y => if y = x then some (.int k t) else if stored.contains y then u y else m₀ y) → News h₀ env.locals h ((I, keepObj it) :: news) →
      wpR (model prog w) A (execs body env) (TurnEnd h₀ env.locals x stored m₀ ((I, keepObj it) :: news) s) { s with heap := h, toks := tk })
    (done : ∀ h tk (u : PySem.Str → Option Value), Fr h₀ env.locals h (fun y => if y = x then u y else if stored.contains y then u y else m₀ y) → News h₀ env.locals h news → Q .next { s with heap := h, toks := tk })
    (hs : ∀ x, foldedSetIterable iter env x = pure x := by intro _; rfl) (ht : ∀ it v, letOwnedTupleGo (.Name x px) it v = pure () := by intro _ _; rfl) :
    wpR (model prog w) A (exec (.For (.Name x px) iter body [] pos) env) Q s := by
  refine wpR_For (wpAny_mono hiter (fun v s₁ h₁ => ?_) fun _ _ e => e) hs
  obtain ⟨r, t, u, v', hp₀, tk₀, rfl, rfl, hr, F, N⟩ := h₁
  refine wpAny_pyIter_range hr hsmall ?_
  generalize hI0 : ({ s with heap := hp₀, toks := tk₀ } : Shared).heap.objs.size = I₀
  have hI0' : hp₀.objs.size = I₀ := hI0
  have hIlt : ∀ p ∈ news, p.1 < I₀ := fun p hp => hI0' ▸ Heap.lt_size (N p hp).1
  have hIne : ∀ p ∈ news, p.1 ≠ I₀ := fun p hp => Nat.ne_of_lt (hIlt p hp)
  have hnew : h₀.get? I₀ = none := hI0' ▸ next_is_new F
  have hL : env.locals ≠ I₀ := hI0' ▸ Nat.ne_of_lt F.ns.lt
  have norm : ∀ (h : Heap) (m : PySem.Str → Option Value), (∀ z, z ≠ x → stored.contains z = false → m z = m₀ z) → Fr h₀ env.locals h m → Fr h₀ env.locals h (fun y => if y = x then m y else if stored.contains y then m y else m₀ y) := by
    intro h m hm F₁
    have e : (fun y => if y = x then m y else if stored.contains y then m y else m₀ y) = m := by
      funext y
      by_cases h1 : y = x
      · rw [if_pos h1]
      · rw [if_neg h1]
        cases h2 : stored.contains y with
        | true => simp
        | false => simp only [Bool.false_eq_true, if_false]; exact (hm y h1 h2).symm
    rw [e]
    exact F₁
  have hit0 : IsRangeIter (hp₀.push { cls := .type "range_iterator", data := .fields #[rawInt 0, rawInt (Builtin.Range.rangeSize 0 (n : Int) 1), rawInt 1] }) I₀ ((0 : Nat) : Int) ((n : Int) - ((0 : Nat) : Int)) 1 := by
    rw [hsz, ← hI0']
    simpa using Heap.get?_push_size _ rfl
  refine codeR_forLoop (fun k s' => ∃ h' tk m i, s' = { s with heap := h', toks := tk } ∧ IsRangeIter h' I₀ ((i : Nat) : Int) ((n : Int) - (i : Int)) 1 ∧ (∀ z, z ≠ x → stored.contains z = false → m z = m₀ z) ∧ Fr h₀ env.locals h' m ∧ News h₀ env.locals h' news ∧ i ≤ n ∧ k = n - i) ?_ n
    ⟨_, tk₀, m₀, 0, rfl, hit0, fun _ _ _ => rfl, F.push _, fun p hp => ⟨Heap.get?_push_of_some _ (N p hp).1, (N p hp).2⟩, Nat.zero_le _, rfl⟩ (ht _)
  rintro k s' ⟨h', tk, m, i, rfl, hit, hm, F₁, N₁, hle, rfl⟩
  by_cases hlt : i < n
  · refine wpAny_pyNext_range_item hit (by omega) fun h₁ hit₁ hsb => ?_
    have F₂ := Fr.ext F₁ hnew hL hsb.extBut
    have N₂ := News.ext N₁ hIne hsb.extBut
    refine wpAny_assign_Name (wpAny_storeName_local hx F₂.ns (fun h₂ hn₂ hs₂ => ?_) hp)
    have F₃ := F₂.set hn₂ hs₂
    have N₃ := N₂.set hs₂
    have hit₂ : h₂.get? I₀ = some _ := (hs₂.2 _ hL.symm).trans hit₁
    have F₃' : Fr h₀ env.locals h₂ (fun y => if y = x then some (.int (i : Int) tk) else if stored.contains y then m y else m₀ y) := by
      have e : (fun y => if y = x then some (Value.int (i : Int) tk) else if stored.contains y then m y else m₀ y) = fun y => if y = x then some (Value.int (i : Int) tk) else m y := by
        funext y
        by_cases h1 : y = x
        · rw [if_pos h1, if_pos h1]
        · rw [if_neg h1, if_neg h1]
          cases h2 : stored.contains y with
          | true => simp
          | false => simp only [Bool.false_eq_true, if_false]; exact (hm y h1 h2).symm
      rw [e]
      exact F₃
    refine wpR_mono (turn (i : Int) tk h₂ (tk + 1 + 1) m I₀ { cls := .type "range_iterator", data := .fields #[rawInt ((i : Int) + 1), rawInt ((n : Int) - (i : Int) - 1), rawInt 1] } (by omega) (by omega) hIlt F₃' (fun p hp => ?_)) fun f s' h' => ?_
    · rcases List.mem_cons.mp hp with rfl | hp
      · exact ⟨hit₂, hL.symm, hnew⟩
      · exact N₃ p hp
    · obtain ⟨rfl, h₄, tk₄, m₄, rfl, hm₄, F₄, N₅⟩ := h'
      refine ⟨n - (i + 1), by omega, h₄, tk₄, m₄, i + 1, rfl, ?_, hm₄, F₄, fun p hp => N₅ p (List.mem_cons_of_mem _ hp), by omega, rfl⟩
      have e1 : (((i + 1 : Nat) : Nat) : Int) = (i : Int) + 1 := by push_cast; rfl
      have e2 : (n : Int) - (((i + 1 : Nat) : Nat) : Int) = (n : Int) - (i : Int) - 1 := by push_cast; omega
      rw [e1, show (n : Int) - ((i : Int) + 1) = (n : Int) - (i : Int) - 1 from by omega]
      exact (N₅ _ (List.mem_cons_self ..)).1
  · have hin : i = n := by omega
    subst hin
    refine wpAny_pyNext_range_end hh hit (by omega) fun h₁ he => ?_
    exact done h₁ tk m (norm _ _ hm (Fr.ext F₁ hnew hL he)) (News.ext N₁ hIne he)
end
section
variable {M : Model} {A : Around} {s : Shared} {env : Env}
theorem wpR_Call {func : PySem.Expr} {args : List PySem.Expr} {pos : Pos} {Q : Value → Shared → Prop}
    (h : wpAny M A (eval func env) (fun f s₁ => wpR M A (callWith pos f [] (backTo pos (starEach args env)) []) Q s₁) (fun _ _ => False) s)
    (he : eval (.Call func args [] pos) env = (do callWith pos (← eval func env) [] (backTo pos (starEach args env)) (backToKw pos (keywordEach [] env))) := by rfl) :
    wpR M A (eval (.Call func args [] pos) env) Q s := by
  rw [he]
  exact wpR_first h
theorem wpR_callWith_type1 {pos : Pos} {T : String} {e : PySem.Expr} {rest : List PySem.Expr} {Q : Value → Shared → Prop}
    (h : wpAny M A (spliced (backTo pos (starEach (e :: rest) env))) (fun vs s₁ => wpR M A (call (.type T) vs) Q s₁) (fun _ _ => False) s)
    (he : starEach (e :: rest) env = (false, eval e env) :: starEach rest env := by rfl)
    (hplain : (backTo pos (starEach rest env)).any (·.1) = false := by rfl) :
    wpR M A (callWith pos (.type T) [] (backTo pos (starEach (e :: rest) env)) []) Q s := by
  rw [he] at h ⊢
  have hp : (backTo pos ((false, eval e env) :: starEach rest env)).any (·.1) = false := by show (false || (backTo pos (starEach rest env)).any (·.1)) = false; rw [hplain]; rfl
  have h' : wpAny M A (evalArgs (.type T) true (backTo pos ((false, eval e env) :: starEach rest env)) []) (fun a s₁ => wpR M A (call (.type T) ([] ++ a.pos) a.kw) Q s₁) (fun _ _ => False) s := evalArgs_plain h
  unfold callWith
  refine wpR_first (wpAny_holding (wpAny_mono h' (fun a s₁ h₁ => wpR_first (wpAny_standAt ?_)) fun _ _ x => x))
  simp only [hp, List.any_nil, Bool.or_false]
  refine wpR_first (wpAny_pure ?_)
  exact wpR_bind (wpR_mono h₁ (fun r s₂ hr => wpR_first (wpAny_holding (wpAny_point (wpR_pure hr)))))
theorem wpR_Assign {x : PySem.Str} {pos' pos : Pos} {value : PySem.Expr} {Q : Flow → Shared → Prop}
    (h : wpR M A (eval value env) (fun v s₁ => wpAny M A (storeName env x v) (fun _ s₂ => Q .next s₂) (fun _ _ => False) s₁) s)
    (hs : swapsWith value (some (.Name x pos')) pos.line env = pure false := by rfl) : wpR M A (exec (.Assign [.Name x pos'] value pos) env) Q s := by
  rw [exec_Assign_Name env x pos' value pos hs]
  refine wpR_first (wpAny_standAt (wpR_bind (wpR_mono h fun v s₁ h₁ => wpR_first (wpAny_standAt (wpR_first (wpAny_bindName ?_))))))
  exact wpAny_mono h₁ (fun _ s₂ q => wpR_pure q) fun _ _ e => e
end
end Mine
end

section
open PySem PySem.W PyProof.Rows PySem.Calls
set_option maxRecDepth 100000
namespace Mine
namespace BF
theorem slot_get : Slot "bytearray" "__getitem__" "bytearray.__getitem__" :=
  .of (owner := "bytearray") (n := "__getitem__") (by rw [typeLookup_type, builtinLookup_eq_fast]; kernel_rfl) (by decide +kernel) (by decide +kernel) (by decide +kernel)
    (by first | exact .inl (by decide +kernel) | exact .inr (by decide +kernel)) (by rw [isSubtype_type]; kernel_rfl)
theorem slot_set : Slot "bytearray" "__setitem__" "bytearray.__setitem__" :=
  .of (owner := "bytearray") (n := "__setitem__") (by rw [typeLookup_type, builtinLookup_eq_fast]; kernel_rfl) (by decide +kernel) (by decide +kernel) (by decide +kernel)
    (by first | exact .inl (by decide +kernel) | exact .inr (by decide +kernel)) (by rw [isSubtype_type]; kernel_rfl)
theorem entry_get : entryFor table "bytearray.__getitem__" = some Builtin.«bytearray.__getitem__» := by first | exact entryFor_of_tree (by kernel_rfl) | exact entryFor_of_fast (by kernel_rfl)
theorem entry_set : entryFor table "bytearray.__setitem__" = some Builtin.«bytearray.__setitem__» := by first | exact entryFor_of_tree (by kernel_rfl) | exact entryFor_of_fast (by kernel_rfl)
theorem args_get (a b : Value) : argsOk "bytearray.__getitem__" ⟨[a, b], []⟩ := by unfold argsOk; kernel_rfl
theorem args_set (a b c : Value) : argsOk "bytearray.__setitem__" ⟨[a, b, c], []⟩ := by unfold argsOk; kernel_rfl
theorem no_bytes : typeLookup (.type "bytearray") "__bytes__" = pure none := by rw [typeLookup_type, builtinLookup_eq_fast]; kernel_rfl
theorem noIndex : typeLookup (.type "bytearray") "__index__" = pure none := by rw [typeLookup_type, builtinLookup_eq_fast]; kernel_rfl
end BF
section
variable {prog : Program} {w : World} {A : Around} {E : Value → Shared → Prop} {s : Shared}
theorem ba_sub {k : Int} {t : Tok} {M : Model} {Q : Option Int → Shared → Prop} (h0 : 0 ≤ k) (h1 : k < 1000) (h : Q (some k) s) : wpAny M A (Builtin.Bytes.subscript? (.int k t)) Q E s := by
  unfold Builtin.Bytes.subscript?
  refine wpAny_bind (wpAny_specialOf (typeIs_int s k t) F.slot_int_index.lookup ?_)
  show wpAny M A (if (!Builtin.Bytes.fitsIndex k) = true then _ else pure (some k)) _ E s
  rw [if_neg]
  · exact wpAny_pure h
  · have : Builtin.Bytes.fitsIndex k = true := by simp only [Builtin.Bytes.fitsIndex, Bool.and_eq_true, decide_eq_true_eq]; omega
    rw [this]
    decide
theorem ba_payload {a : Addr} {b : Array UInt8} {n : Nat} {M : Model} {Q : Array UInt8 → Shared → Prop} (ho : s.heap.get? a = some { cls := .type "bytearray", data := .bytearray b n }) (h : Q b s) : wpAny M A (Builtin.Bytes.payload (.ref a)) Q E s := by
  unfold Builtin.Bytes.payload Builtin.Bytes.payload?
  exact wpAny_bind (wpAny_bind (wpAny_load ho (wpAny_pure (wpAny_pure h))))
theorem seq_at {k : Int} {n : Nat} (h0 : 0 ≤ k) (h1 : k < n) : seqIndex? k n = some k.toNat := by
  have hn : ¬ k < 0 := by omega
  simp [seqIndex?, hn, h0, h1]
theorem ba_getItem {a : Addr} {b : Array UInt8} {n : Nat} {k : Int} {t : Tok} {Q : Value → Shared → Prop} (ho : s.heap.get? a = some { cls := .type "bytearray", data := .bytearray b n }) (h0 : 0 ≤ k) (h1 : k < b.size) (hz : b.size ≤ 1000)
    (h : Q (.int (b.toList.getD k.toNat 0).toNat s.toks) { s with toks := s.toks + 1 }) : wpAny (model prog w) A (getItem (.ref a) (.int k t)) Q E s := by
  have hT : s.TypeIs (.ref a) "bytearray" := ⟨_, ho, rfl⟩
  unfold getItem
  try with_reducible refine wpAny_holding ?_
  first | refine wpAny_bind (wpAny_pure ?_) | skip
  refine wpAny_bind (wpAny_sequenceKey hT (by decide) ?_)
  refine wpAny_bind (wpAny_callSpecial?_slot (name := PySem.Str.ofString "__getitem__") hT BF.slot_get
    (wpAny_call_entry BF.slot_get hT BF.entry_get ?_ (BF.args_get _ _)))
  show wpAny _ _ (Builtin.Bytes.subscript? (.int k t) >>= _) _ _ s
  refine wpAny_bind (ba_sub h0 (by omega) ?_)
  show wpAny _ _ (Builtin.Bytes.payload (.ref a) >>= _) _ _ s
  refine wpAny_bind (ba_payload ho ?_)
  rw [seq_at h0 h1]
  have hl : k.toNat < b.size := by omega
  have e : (some k.toNat).bind (b[·]?) = some (b.toList.getD k.toNat 0) := by simp [hl]
  rw [e]
  show wpAny _ _ ((mkInt _ >>= _) >>= _) _ _ s
  exact wpAny_bind (wpAny_bind (wpAny_mkInt (wpAny_pure (wpAny_pure ⟨_, rfl, wpAny_pure h⟩))))
theorem ba_setItem {a : Addr} {b : Array UInt8} {n : Nat} {k v : Int} {t u : Tok} {Q : Unit → Shared → Prop} (ho : s.heap.get? a = some { cls := .type "bytearray", data := .bytearray b n }) (h0 : 0 ≤ k) (h1 : k < b.size) (hz : b.size ≤ 1000) (hv0 : 0 ≤ v) (hv1 : v < 256)
    (h : ∀ h', h'.get? a = some { cls := .type "bytearray", data := .bytearray (b.setIfInBounds k.toNat v.toNat.toUInt8) n } → Heap.SameBut a s.heap h' → Q () { s with heap := h' }) : wpAny (model prog w) A (setItem (.ref a) (.int k t) (.int v u)) Q E s := by
  have hT : s.TypeIs (.ref a) "bytearray" := ⟨_, ho, rfl⟩
  unfold setItem
  try with_reducible refine wpAny_holding ?_
  first | refine wpAny_bind (wpAny_pure ?_) | skip
  refine wpAny_bind (wpAny_sequenceKey hT (by decide) ?_)
  refine wpAny_bind (wpAny_callSpecial?_slot (name := PySem.Str.ofString "__setitem__") hT BF.slot_set
    (wpAny_call_entry BF.slot_set hT BF.entry_set ?_ (BF.args_set _ _ _)))
  show wpAny _ _ (Builtin.Bytes.subscript? (.int k t) >>= _) _ _ s
  refine wpAny_bind (ba_sub h0 (by omega) ?_)
  show wpAny _ _ (Builtin.Bytes.byteValue (.int v u) >>= _) _ _ s
  refine wpAny_bind ?_
  unfold Builtin.Bytes.byteValue
  refine wpAny_bind (wpAny_of_eq (rfl : asIndex (.int v u) = pure v) ?_)
  refine bm_if_false (by simp only [Bool.or_eq_false_iff, decide_eq_false_iff_not]; omega) ?_
  refine wpAny_pure ?_
  show wpAny _ _ (Builtin.Bytes.payload (.ref a) >>= _) _ _ s
  refine wpAny_bind (ba_payload ho ?_)
  rw [seq_at h0 h1]
  dsimp only
  refine wpAny_bind (ba_write ho (by simpa using hz) ?_)
  exact wpAny_pure ⟨_, rfl, wpAny_pure (h _ (ba_updated ho) (Heap.SameBut.update ..))⟩
theorem ba_ownBuffer {a : Addr} {o : Obj} {M : Model} {Q : Bool → Shared → Prop} (ho : s.heap.get? a = some o) (hc : o.cls = .type "bytearray") (hq : Q true s) : wpAny M A (Builtin.Bytes.slotIsOwn (.ref a) "__buffer__") Q E s := by
  unfold Builtin.Bytes.slotIsOwn
  refine wpAny_bind (special_ba ho hc BF.look_buffer ?_)
  dsimp only
  split
  · rename_i hx
    exact absurd hx (by decide +kernel)
  · have e : isSubtype (.type "bytearray") (.type ("bytearray.__buffer__".dropRight ("__buffer__".length + 1))) = pure true := by rw [isSubtype_type]; kernel_rfl
    exact wpAny_isInstance (s := s) (T := "bytearray") ⟨o, ho, hc⟩ e hq
theorem ba_bytes_new {a : Addr} {b : Array UInt8} {n : Nat} {Q : Value → Shared → Prop} (ho : s.heap.get? a = some { cls := .type "bytearray", data := .bytearray b n }) (hz : b.size ≤ 1000)
    (hQ : ∀ t k, Q (.bytes b t) { s with toks := k }) :
    codeAny (model prog w) A (.call (.builtin "bytes.__new__") ⟨[.type "bytes", .ref a], []⟩) (wants Q E) s := by
  refine codeAny_of_tree ?_
  show wpAny _ A.in1 (do checkBuiltinCall "bytes.__new__" ⟨[.type "bytes", .ref a], []⟩; again (.builtin "bytes.__new__" ⟨[.type "bytes", .ref a], []⟩)) _ _ s
  refine wpAny_bind (wpAny_of_eq (F.bm_newCall _) (wpAny_pure ⟨plainId_quiet F.bm_plain _, codeAny_builtin F.bm_entry ?_⟩))
  rw [Around.under_plainId F.bm_plain _]
  have hT : s.TypeIs (.ref a) "bytearray" := ⟨_, ho, rfl⟩
  unfold Builtin.«bytes.__new__»
  refine wpAny_bind (wpAny_of_eq (a := true) rfl ?_)
  refine bm_if_false rfl ?_
  refine wpAny_bind (wpAny_of_eq F.bm_sub ?_)
  refine bm_if_false rfl ?_
  refine wpAny_bind (wpAny_of_eq (F.bm_bind _) ?_)
  refine wpAny_bind (wpAny_of_eq (a := ()) rfl ?_)
  refine wpAny_bind (wpAny_of_eq (a := ()) rfl ?_)
  refine bm_if_false rfl ?_
  refine wpAny_bind (wpAny_specialOf hT BF.no_bytes ?_)
  refine wpAny_bind (wpAny_bind ?_)
  show wpAny _ _ (load a >>= _) _ _ _
  refine wpAny_bind (wpAny_load ho ?_)
  refine wpAny_pure (wpAny_pure ?_)
  refine bm_if_false rfl ?_
  refine wpAny_bind (wpAny_specialOf hT BF.noIndex ?_)
  refine bm_if_true rfl ?_
  first
    | show wpAny _ _ (Builtin.Bytes.buffer? "bytes.__new__" (.ref a) true >>= _) _ _ _
    | (refine wpAny_bind ?_; show wpAny _ _ (Builtin.Bytes.buffer? "bytes.__new__" (.ref a) true >>= _) _ _ _)
  refine wpAny_bind ?_
  unfold Builtin.Bytes.buffer?
  refine wpAny_bind (wpAny_specialOf hT BF.look_buffer ?_)
  dsimp only
  refine wpAny_bind (ba_ownBuffer ho rfl ?_)
  refine bm_if_false rfl ?_
  refine wpAny_bind (wpAny_specialOf hT BF.look_buffer ?_)
  refine wpAny_bind (ba_release ho rfl ?_)
  refine bm_if_false rfl ?_
  refine wpAny_bind (ba_payload ho (wpAny_pure ?_))
  refine wpAny_bind (wpAny_rule (wpAny_bind (wpAny_mkBytes (b := b) ?_ (by rw [sizeLine_eq]; omega))))
  show wpAny _ _ (if (Value.type "bytes" == Value.type "bytes") = true then _ else _) _ _ _
  refine bm_if_true (by decide) ?_
  first
    | exact wpAny_pure (hQ _ _)
    | exact wpAny_bind (wpAny_pure (wpAny_pure (hQ _ _)))
theorem ba_bytes {a : Addr} {b : Array UInt8} {n : Nat} {Q : Value → Shared → Prop} (ho : s.heap.get? a = some { cls := .type "bytearray", data := .bytearray b n }) (hz : b.size ≤ 1000)
    (hQ : ∀ t k, Q (.bytes b t) { s with toks := k }) : wpAny (model prog w) A (call (.type "bytes") [.ref a]) Q E s := by
  refine callType_codes (Q₁ := fun obj s₁ => s₁.TypeIs obj "bytes" ∧ Q obj s₁) F.bm_called (F.bm_typeCall _) F.entry_object_init
    (ba_bytes_new ho hz fun t k => ⟨PySem.W.typeIs_bytes _ _ _, hQ t k⟩) fun obj s₁ h₁ => ?_
  exact ⟨h₁.1, F.args_object_init_2 obj _, object_init_meets F.bm_called.init.lookup F.bm_called.made (by decide) prog w A.in1 _ s₁ ⟨h₁.1, rfl, h₁.2⟩⟩
end
end Mine
namespace Mine
section
variable {prog : Program} {w : World} {A : Around} {E : Value → Shared → Prop} {s : Shared} {h₀ : Heap} {L a : Addr} {m : PySem.Str → Option Value} {news : List (Addr × Obj)} {b : Array UInt8} {n : Nat}
abbrev baObj (b : Array UInt8) (n : Nat) : Obj := { cls := .type "bytearray", data := .bytearray b n }
theorem baSub_K {value slice : PySem.Expr} {k : Int} {t : Tok} {Q : Value → Shared → Prop} (N : News h₀ L s.heap news) (hm : (a, baObj b n) ∈ news) (h0 : 0 ≤ k) (h1 : k < b.size) (hz : b.size ≤ 1000)
    (h : ∀ t' tk (x : Int), x = ((b.toList.getD k.toNat 0).toNat : Int) → 0 ≤ x → x < 256 → Q (.int x t') { s with toks := tk })
    (hs : subscripted slice false (.ref a) (.int k t) = operate [.ref a, .int k t] (getItem (.ref a) (.int k t)) := by with_unfolding_all rfl) :
    wpAny (model prog w) A (subscriptTail value slice (.ref a) (.int k t)) Q E s := by
  have ho := (N _ hm).1
  have hT : s.TypeIs (.ref a) "bytearray" := ⟨_, ho, rfl⟩
  have hb := (b.toList.getD k.toNat 0).toNat_lt
  exact tail_any hT BF.slot_get.lookup (ba_getItem ho h0 h1 hz (h _ _ _ rfl (by omega) (by omega))) hs
theorem baSet_K {k v : Int} {t u : Tok} {Q : Unit → Shared → Prop} (F : Fr h₀ L s.heap m) (N : News h₀ L s.heap ((a, baObj b n) :: news)) (hlt : ∀ p ∈ news, p.1 < a) (h0 : 0 ≤ k) (h1 : k < b.size) (hz : b.size ≤ 1000) (hv0 : 0 ≤ v) (hv1 : v < 256)
    (h : ∀ h' (c : Array UInt8), c = b.setIfInBounds k.toNat v.toNat.toUInt8 → c.size = b.size → Fr h₀ L h' m → News h₀ L h' ((a, baObj c n) :: news) → Q () { s with heap := h' }) : wpAny (model prog w) A (setItem (.ref a) (.int k t) (.int v u)) Q E s := by
  have ho := N _ (List.mem_cons_self ..)
  refine ba_setItem ho.1 h0 h1 hz hv0 hv1 fun h' hg hs => h h' _ rfl (by simp) (F.change hs ho.2.1 ho.2.2) fun p hp => ?_
  rcases List.mem_cons.mp hp with rfl | hp
  · exact ⟨hg, ho.2⟩
  · exact ⟨(hs.2 _ (Nat.ne_of_lt (hlt p hp))).trans (N p (List.mem_cons_of_mem _ hp)).1, (N p (List.mem_cons_of_mem _ hp)).2⟩
theorem baBytes_K {Q : Value → Shared → Prop} (N : News h₀ L s.heap news) (hm : (a, baObj b n) ∈ news) (hz : b.size ≤ 1000) (h : ∀ t k, Q (.bytes b t) { s with toks := k }) : wpAny (model prog w) A (call (.type "bytes") [.ref a]) Q E s :=
  ba_bytes (N _ hm).1 hz h
end
end Mine
namespace Mine
theorem wpR_bytearray_K {prog : Program} {w : World} {A : Around} {s : Shared} {h₀ : Heap} {L : Addr} {m : PySem.Str → Option Value} {news : List (Addr × Obj)} {b : Array UInt8} {t : Tok} {Q : Value → Shared → Prop} (F : Fr h₀ L s.heap m) (N : News h₀ L s.heap news) (hg : A.guards = some []) (hz : b.size ≤ 1000)
    (h : ∀ a h', (∀ p ∈ news, p.1 < a) → Fr h₀ L h' m → News h₀ L h' ((a, baObj b 0) :: news) → Q (.ref a) { s with heap := h' }) :
    wpR (model prog w) A (call (.type "bytearray") [.bytes b t]) Q s :=
  wpR_bytearray hg hz fun h' hget hs => by
    obtain ⟨F', N', hlt⟩ := ba_led F N hget hs
    exact h _ h' hlt F' N'
end Mine
end

section
open PySem PySem.W PyProof.Rows PySem.Calls
set_option maxRecDepth 100000
namespace Mine
theorem int_no_bytes : typeLookup (.type "int") "__bytes__" = pure none := by rw [typeLookup_type, builtinLookup_eq_fast]; kernel_rfl
section
variable {prog : Program} {w : World} {A : Around} {E : Value → Shared → Prop} {s : Shared}
theorem int_bytes_new {u : Tok} {Q : Value → Shared → Prop}
    (hQ : ∀ t k, Q (.bytes (Array.replicate 15 0) t) { s with toks := k }) :
    codeAny (model prog w) A (.call (.builtin "bytes.__new__") ⟨[.type "bytes", .int 15 u], []⟩) (wants Q E) s := by
  refine codeAny_of_tree ?_
  show wpAny _ A.in1 (do checkBuiltinCall "bytes.__new__" ⟨[.type "bytes", .int 15 u], []⟩; again (.builtin "bytes.__new__" ⟨[.type "bytes", .int 15 u], []⟩)) _ _ s
  refine wpAny_bind (wpAny_of_eq (F.bm_newCall _) (wpAny_pure ⟨plainId_quiet F.bm_plain _, codeAny_builtin F.bm_entry ?_⟩))
  rw [Around.under_plainId F.bm_plain _]
  unfold Builtin.«bytes.__new__»
  refine wpAny_bind (wpAny_of_eq (a := true) rfl ?_)
  refine bm_if_false rfl ?_
  refine wpAny_bind (wpAny_of_eq F.bm_sub ?_)
  refine bm_if_false rfl ?_
  refine wpAny_bind (wpAny_of_eq (F.bm_bind _) ?_)
  refine wpAny_bind (wpAny_of_eq (a := ()) rfl ?_)
  refine wpAny_bind (wpAny_of_eq (a := ()) rfl ?_)
  refine bm_if_false rfl ?_
  refine wpAny_bind (wpAny_specialOf (typeIs_int s 15 u) int_no_bytes ?_)
  refine wpAny_bind (wpAny_of_eq (a := false) rfl ?_)
  refine bm_if_false rfl ?_
  refine wpAny_bind (wpAny_specialOf (typeIs_int s 15 u) F.slot_int_index.lookup ?_)
  refine bm_if_false rfl ?_
  refine wpAny_bind (wpAny_attempt (wpAny_of_eq (rfl : asIndex (.int 15 u) = pure 15) ?_))
  dsimp only
  refine bm_if_false (by decide) ?_
  rw [if_neg (by decide), if_neg (by decide)]
  refine bm_if_false (by decide) ?_
  refine wpAny_bind (wpAny_rule (wpAny_bind (wpAny_mkBytes (b := Array.replicate 15 0) ?_ (by rw [sizeLine_eq]; decide))))
  show wpAny _ _ (if (Value.type "bytes" == Value.type "bytes") = true then _ else _) _ _ _
  refine bm_if_true (by decide) ?_
  first
    | exact wpAny_pure (hQ _ _)
    | exact wpAny_bind (wpAny_pure (wpAny_pure (hQ _ _)))
theorem int_bytes {u : Tok} {Q : Value → Shared → Prop} (hQ : ∀ t k, Q (.bytes (Array.replicate 15 0) t) { s with toks := k }) : wpAny (model prog w) A (call (.type "bytes") [.int 15 u]) Q E s := by
  refine callType_codes (Q₁ := fun obj s₁ => s₁.TypeIs obj "bytes" ∧ Q obj s₁) F.bm_called (F.bm_typeCall _) F.entry_object_init
    (int_bytes_new fun t k => ⟨PySem.W.typeIs_bytes _ _ _, hQ t k⟩) fun obj s₁ h₁ => ?_
  exact ⟨h₁.1, F.args_object_init_2 obj _, object_init_meets F.bm_called.init.lookup F.bm_called.made (by decide) prog w A.in1 _ s₁ ⟨h₁.1, rfl, h₁.2⟩⟩
end
end Mine
end

section
open PySem PySem.W PyProof.Rows PySem.Calls
namespace Mine
section
variable {prog : Program} {w : World} {A : Around} {s : Shared} {R : Flow → Shared → Prop}
theorem codeR_full {name : PySem.Str} {params : Arguments} {body : List Stmt} {scope : Scope} {dV kV pm cd doc : Value} {a : Addr} {o : Obj} {args : Args} {binds : List (PySem.Str × Value)}
    (hroom : A.depth < recursionLimit) (ho : s.heap.get? a = some o) (hdata : o.data = .func { docDef name params body scope pm cd doc with defaults := dV, kwdefaults := kV }) (hlim : s.heap.NoLimit) (hcd : s.heap.CodeRec cd name)
    (hbind : BindsTo s { docDef name params body scope pm cd doc with defaults := dV, kwdefaults := kV } args binds)
    (hloc : ∀ x ∈ binds, scope.names.lookup x.1 = some .local)
    (h : ∀ h₁, Fr s.heap s.heap.objs.size h₁ (fun x => binds.reverse.lookup x) →
      wpR (model prog w) (A.deeper (envOf name scope s.heap.objs.size a cd)) (execs body (envOf name scope s.heap.objs.size a cd))
        (fun f s' => R (.ret (match f with | .ret v => v | _ => .none)) s') { s with heap := h₁, toks := s.toks + binds.length })
    (hco : scope.isCoroutine = false := by rfl) (hgen : scope.isGenerator = false := by rfl) (hk : scope.kind = .function := by rfl)
    (hcell : ∀ x ∈ scope.names, x.2 ≠ .cell := by decide) :
    codeR (model prog w) A (.call (.ref a) args) R s :=
  codeR_def hroom ho hdata hlim hcd rfl hbind hcell hloc (fun h₁ hns hkeep => h h₁ ⟨hns, hkeep, Nat.le_refl _⟩) hco hgen hk
theorem wpR_cut {env : Env} {pre post : List Stmt} {Q : Flow → Shared → Prop} (P : Shared → Prop)
    (h2 : ∀ s', P s' → wpR (model prog w) A (execs post env) Q s') (h1 : wpR (model prog w) A (execs pre env) (fun f s' => f = .next ∧ P s') s) : wpR (model prog w) A (execs (pre ++ post) env) Q s :=
  wpR_execs_app (wpR_mono h1 fun f s' q => by
    obtain ⟨rfl, hp⟩ := q
    exact h2 s' hp)
end
end Mine
end

section
open PySem PySem.W PyProof.Rows PySem.Calls PySem.Spec
set_option maxRecDepth 100000
namespace Mine
/-- a call whose tree is walked in the restricted way: it ends as the claim says -/
theorem callFrom_R {c : ClaimW} {tree : List Value → Sem PySem.Fin} {w : World} {s : Shared} {free : Addr → Prop} {gens : Prop} {kept : Heap → Prop} (hz : s.asleep) (hgens : s.gens = #[])
    (hspec : ∀ args, c.pre args = true → WData.layableAll args = true → ∀ ord : List DictEntry → List DictEntry, (∀ l, (ord l).Perm l) →
      ∃ vs s₁, layAllW c.records (classAt s.heap) w.params ord args s = some (vs, s₁) ∧
        wpR (model c.prog w) callerA (tree vs) (fun fin s' => ∃ f, fin = .done f ∧ (c.Ends s args vs s₁ (.ok f) s' ∧ s'.os = s.os ∧ AllBare s'.gens ∧ kept s'.heap)) s₁) :
    c.CallFrom (fun vs => ⟨tree vs, .builtin "claim.caller" {}, default, []⟩) w free gens kept s := by
  intro args hpre hlay ord hord
  obtain ⟨vs, s₁, hlaid, hcode⟩ := hspec args hpre hlay ord hord
  have hal := layAllW_rest _ _ _ hlaid
  have hw := hcode ⟨.builtin "claim.caller" {}, none, none, [], none⟩ default caller_in (fun id v vs kw e => by cases e) (fun x hx => nomatch hx)
  obtain ⟨k, r, s', s'', hsched, hrun, hfo, ⟨f, rfl⟩, hends, hos, hkp⟩ := wp_halts_full (M := model c.prog w) (R := fun r s' => (∃ f, r = .ok f) ∧ c.Ends s args vs s₁ r s' ∧ s'.os = s.os ∧ kept s'.heap)
    (Shared.asleep_of_life hal.2.2.2 hz) (Sem.wp_mono _ _ _ (fun fin p' s' h => by
      obtain ⟨f, rfl, h1, h2, h3, h4⟩ := h
      exact ⟨⟨⟨f, rfl⟩, h1, h2, h4⟩, leftWithCleanup_false_of_bare h3⟩) (fun _ _ _ h => h.elim) default s₁ hw)
  obtain ⟨eh, _, _, eo, _⟩ := Shared.forget_eq hfo
  have hends' := ClaimW.Ends.congr eh hends
  have hkp' : kept s''.heap := by rw [eh]; exact hkp
  have hos' : s''.os = s.os := eo.trans hos
  have hlife : s''.heap.life = s.heap.life := (runN_life _ _ _ hrun).trans hal.2.2.2
  refine ⟨vs, s₁, hlaid, k, _, s'', hsched, ?_, (fun _ i x hx => by rw [hgens] at hx; simp at hx), hkp', by rw [hlife], Shared.rest_eq hos'⟩
  rcases hends' with ⟨v, e, d1, d2, d3, d4, d5⟩ | ⟨e, ob, cls, e', _⟩
  · cases e
    exact .inl ⟨v, rfl, d1, d2, d3, fun b o y _ => d4 b o y, d5⟩
  · cases e'
abbrev WalkR (q : Program) (loose : List PySem.Str) (XP : (PySem.Str → Option Value) → Heap → Prop) (YP : World → Heap → Prop) (r : RowW) (d : DefRec) (kwd : List (PySem.Str × PySem.Expr)) : Prop :=
  ∀ (w : World) (s₀ s₁ : Shared) (mg mb : PySem.Str → Option Value), Ground q loose r.records XP w s₀ mg mb s₁.heap → YP w s₁.heap → ∀ (a : Addr) (o : Obj) (pm cd doc dV kV : Value), s₁.heap.get? a = some o →
    o.data = .func { docDef d.name d.params d.body d.scope pm cd doc with defaults := dV, kwdefaults := kV } → s₁.heap.CodeRec cd d.name → Dflts mg s₁.heap d.params kwd dV kV → mg d.name = some (.ref a) → s₁.gens = #[] →
    ∀ (args : List WData) (vals : List Value) (as : List Addr), r.claim.pre args = true → WData.layableAll args = true → ReadsAllW r.records (classAt s₀.heap) s₁.heap vals args as → WellAll w.params s₁.heap vals args → (∀ a ∈ as, (a == sysModules) = false) →
      wpR (model r.prog w) callerA (PySem.call (.ref a) vals) (fun v s' => GoodWG r.claim (classAt s₀.heap) (ExcName.means s₀.heap) args s₁ (.ok (.ret v)) s') s₁
namespace PySem.W
/-- the head, over a call that is walked in the restricted way -/
theorem holds_open {r : OpenRow} {q : Program} {loose : List PySem.Str} {Xt : Shared → Bool} {XP : (PySem.Str → Option Value) → Heap → Prop} {α : Type} {Yf : Shared → α} {Ya : World → α} {YP : World → Heap → Prop} {d : DefRec} {kwd : List (PySem.Str × PySem.Expr)} {N : Nat}
    (left : LeftO r.prog q loose Xt Yf Ya N) (hY : ∀ w s, Yf s = Ya w → YP w s.heap) (hYk : ∀ w h h', YP w h → (∀ b o, h.get? b = some o → h'.get? b = some o) → YP w h')
    (hX : ∀ s, Xt s = true → XP (s.heap.nsMap mainGlobals) s.heap) (hXk : ∀ mg h h', XP mg h → (∀ b o, h.get? b = some o → h'.get? b = some o) → XP mg h')
    (hdef : defOf q r.name = some (d, kwd)) (hp : r.prog.theDef r.name = some (d.params, d.body, d.scope)) (hk : kwWritten? d.params.kwonlyargs d.params.kw_defaults = some kwd) (hRf : ∀ s, Xt s = true → RecFacts r.records s.heap) (hwr : (!r.writes || r.records.isEmpty) = true)
    (k1 : r.wellSaid = true) (ok : (chainsOk q && opensWell r.prog && (frees r.toRowW && r.within.isEmpty)) = true) (hb : r.prog.bare) (hw : r.toRowW.promised)
    (call : WalkR q loose XP YP r.toRowW d kwd) : r.Holds := by
  simp only [Bool.and_eq_true] at ok
  obtain ⟨⟨hch, o1⟩, k5, k6⟩ := ok
  obtain ⟨hsame, hu, ha, hap, hm⟩ := frees_parts k5
  refine ⟨k1, hw, ⟨hb, o1, by show r.toRowW.makers.map _ = []; rw [hm]; rfl⟩, hw.witness, fun w => ⟨(left.behind hX hch w).1, fun s' hs' => ?_⟩⟩
  obtain ⟨s₀, hf, hg0, s, hT, hz, hgens, hg, G00, y⟩ := (left.behind (XP := fun mg h => XP mg h ∧ RecFacts r.toRowW.records h) (fun s hs => ⟨hX s hs, hRf s hs⟩) hch w).2 s' hs'
  have G0 : Ground q loose [] XP w s (s.heap.nsMap mainGlobals) (s.heap.nsMap builtinsNs) s.heap := ⟨G00.T, G00.B, G00.D, G00.TE, G00.TD, G00.W, G00.X.1, G00.cls, G00.has, G00.apart, G00.once, G00.K⟩
  have RF := G00.X.2
  have G : Ground q loose r.toRowW.records XP w s _ _ s.heap := RF.ground G0
  have hgens : s.gens = #[] := Array.eq_empty_of_size_eq_zero (beq_iff_eq.mp hgens)
  refine ⟨s₀, hf, hg0, s, hT, fun n hn => ?_, RF.1, RF.2.1, ?_⟩
  · obtain rfl : n = r.name := by split at hn <;> simp_all
    exact pinned_of_view hg G0 hdef hp hk
  refine callFrom_R (c := r.toRowW.claim) hz hgens fun args hpre hlay ord hord => ?_
  obtain ⟨⟨vs, s₁⟩, hlaid⟩ := Option.isSome_iff_exists.mp (layAllW_isSome (P := w.params) (ord := ord) G.has args r.toRowW.args s (pre_splitW hpre).1)
  have keeps := layAllW_keeps _ _ _ hlaid
  have hal := layAllW_rest _ _ _ hlaid
  obtain ⟨as, hrd, hin, hold⟩ := reads_layAllW hord _ _ _ hlaid hlay s₁.heap (fun _ _ e => e)
  have L : Laid r.toRowW.records w s s₁ args vs as := ⟨⟨ord, hord, hlaid⟩, hrd, hin, hold, keeps, hal.1.trans hgens, hal.2.2.1⟩
  have G₁ := G.keeps hXk keeps
  obtain ⟨a, o, pm, cd, doc, dV, kV, h1, h2, h3, h4, h5⟩ := G₁.fn hdef
  have main := call w s s₁ _ _ G₁ (hYk _ _ _ (hY w s y) keeps) a o pm cd doc dV kV h2 h3 h4 h5 (by rw [defOf_name hdef]; exact h1) L.gens args vs as hpre hlay L.reads L.well (L.low G.low)
  have hi := ident_freeW hu ha hap
  have hwi : r.toRowW.claim.within = [] := List.isEmpty_iff.mp k6
  refine ⟨vs, s₁, hlaid, wpR_first (wpAny_nsGet G₁.T.g ?_)⟩
  rw [h1]
  refine wpR_bind (wpR_mono main fun v s' g => wpR_pure ⟨_, rfl, ?_⟩)
  have z := g.laid (c := r.toRowW.claim) hsame hwi hi L
  exact ⟨z.1, z.2.1, z.2.2, fun q => ⟨namesKept_of hT hg _ keeps g.2.1.old, noTable hwr q⟩⟩
end PySem.W
end Mine
end

section
open PySem PySem.W PyProof.Rows
namespace Mine
set_option maxRecDepth 100000 in
set_option maxHeartbeats 8000000 in
open_top hd for PySem.Challenge.rw_no0065_01
end Mine
end

section
open PySem PySem.W PyProof.Rows
namespace Mine
abbrev PG : Program := PySem.Challenge.rw_no0065_01.row.prog
abbrev TopM (mean : ExcName → Option Value) (mg mb : PySem.Str → Option Value) (h : Heap) : Prop := Top hd.view_39 (looseW hd.view_39 []) mean mg mb h

/-- a call of a def of the text that changes nothing of the ledger -/
abbrev Cl (w : World) (f : Addr) (vs : List Value) (news : List (Addr × Obj)) (R : Tok → Value) : Prop :=
  ∀ (mean : ExcName → Option Value) (mg mb : PySem.Str → Option Value) (dp un : Nat) (gd : Option (List Code)) (cn : PySem.Str) (cs : Scope) (a : Addr) (ccd : Value) (cl : List (PySem.Str × Addr)) (outer : List Env) (A₀ : Around) (base h₀ : Heap) (L : Addr) (m : PySem.Str → Option Value) (s : Shared) (Q E : Value → Shared → Prop),
    Below A₀ base outer h₀ → Fr h₀ L s.heap m → (hd.heap_39 w.params).In h₀ → News h₀ L s.heap news → TopM mean mg mb h₀ → cs.kind = .function →
    dp + 40 < recursionLimit → un + 80 < cLine → CbRet h₀ L m news s Q R →
      wpAny (model PySem.Challenge.rw_no0065_01.row.prog w) (ktrTop dp un gd cn cs L a ccd cl outer) (call (.ref f) vs) Q E s
end Mine
end

section
open PySem PySem.W PyProof.Rows
namespace Mine
/-- the octets of a token -/
def tok (n : Int) : Array UInt8 := byteArr (List.map (fun k' => (n * 37 + k').fmod 256) (rangeKs 0 (16 - 0 : Int).toNat))
set_option maxRecDepth 100000 in
set_option maxHeartbeats 8000000 in
theorem token (w : World) (n : Int) (tn : Tok) (news : List (Addr × Obj)) : Cl w 142 [.int n tn] news (fun t => .bytes (tok n) t) := by
  unfold Cl
  w_top off
  k_with_none
  k_fill
  intro mean mg mb dp un gd cn cs a ccd cl outer A₀ base h₀ L m s Q E B F X N T hcs hdp hun hret

  refine wpAny_call ?_
  k_dflt (refine' code_defC ?k1 ?k2 ?k3 ?k4 ?k5 ?kA ?kF ?kK ?k6 ?k7 ?k8 ?k9 ?kB ?kD ?_ ?c2 ?c3 ?c4; (case kA => exact rfl); (case kF => exact rfl); (case kK => assumption); (case k1 => k_asm); (case k2 => k_asm); (case k3 => k_asm); (case k4 => k_asm); (case k5 => k_asm); (case k6 => k_is); (case k7 => k_is); (case k8 => ktr_room); (case k9 => exact BindsTo.of_eq rfl); (case kB => exact rfl); (case kD => decide +kernel); (case c2 => exact rfl); (case c3 => exact rfl); (case c4 => exact rfl); k_whole; intro g' L' h' tk' cells' FG' F' N' Y' B' X' T' l1; (try k_lt l1); k_cells Y'; (try simp only [List.cons_append, List.nil_append] at N'); (try dsimp only); (try k_lift B'); (try k_fold))
  k_steps
  refine hret _ _ _ (by assumption) (cb_drop (by assumption) ?_)
  intro p hp
  exact List.mem_cons_of_mem _ (List.mem_cons_of_mem _ hp)
end Mine
end

section
open PySem PySem.W PyProof.Rows
namespace Mine
/-- the attributes of the user, as they are laid -/
abbrev attrs (P : Params) (k1 k2 k3 k4 k5 k6 k7 k8 : Tok) (known current used prior told retire empty : Value) (limit : Value) : List DictEntry :=
  [⟨PyData.keyHash P (PySem.Str.ofString "limit"), .str (PySem.Str.ofString "limit") k1, limit⟩,
   ⟨PyData.keyHash P (PySem.Str.ofString "known"), .str (PySem.Str.ofString "known") k2, known⟩,
   ⟨PyData.keyHash P (PySem.Str.ofString "current"), .str (PySem.Str.ofString "current") k3, current⟩,
   ⟨PyData.keyHash P (PySem.Str.ofString "used"), .str (PySem.Str.ofString "used") k4, used⟩,
   ⟨PyData.keyHash P (PySem.Str.ofString "retire_prior"), .str (PySem.Str.ofString "retire_prior") k5, prior⟩,
   ⟨PyData.keyHash P (PySem.Str.ofString "told"), .str (PySem.Str.ofString "told") k6, told⟩,
   ⟨PyData.keyHash P (PySem.Str.ofString "to_retire"), .str (PySem.Str.ofString "to_retire") k7, retire⟩,
   ⟨PyData.keyHash P (PySem.Str.ofString "is_empty"), .str (PySem.Str.ofString "is_empty") k8, empty⟩]
end Mine
end

section
open PySem PySem.W PyProof.Rows
namespace Mine
/-- what is_reset answers: the token that is in force is tv -/
def resetOf (D : Array UInt8) (tv : Value) : Bool := match tv with
  | .bytes b _ => decide (21 ≤ D.size) && (b.toList == (KBy.picked D (some ((D.size : Int) - 16)) none).toList)
  | _ => false
theorem resetOf_short {D : Array UInt8} {tv : Value} (h : (D.size : Int) < 21) : resetOf D tv = false := by
  cases tv <;> simp only [resetOf]
  rw [decide_eq_false (by omega)]
  rfl
theorem resetOf_bytes {D b : Array UInt8} {t : Tok} {v : Bool} (h : ¬ (D.size : Int) < 21) (e : (b.toList == (KBy.picked D (some ((D.size : Int) - 16)) none).toList) = v) : resetOf D (.bytes b t) = v := by
  simp only [resetOf]
  rw [decide_eq_true (by omega), e]
  cases v <;> rfl
set_option maxRecDepth 100000 in
set_option maxHeartbeats 8000000 in
theorem reset0n (w : World) (x dx dk lu tc : Addr) (ok : Obj) (k1 k2 k3 k4 k5 k6 k7 k8 u0 u1 u2 tcur tcid tD : Tok) (vprior vtold vret vemp vlim : Value) (nA nU nT : Nat) (cid D : Array UInt8) (kvs : List (Int × Value)) (news : List (Addr × Obj))
    (hx : (x, instObj 133 dx) ∈ news) (hdx : (dx, dictOf (attrs w.params k1 k2 k3 k4 k5 k6 k7 k8 (.ref dk) (.int 0 tcur) (.ref lu) vprior vtold vret vemp vlim) nA) ∈ news)
    (hdk : (dk, ok) ∈ news) (hlu : (lu, W.listOf #[.int 0 u0] nU) ∈ news) (htc : (tc, ({ cls := .type "tuple", data := .seq #[.bytes cid tcid, .none] nT } : Obj)) ∈ news)
    (hsm : (dk == sysModules) = false) (hok : ok.IsDictOf (PySem.intKind PG w) kvs)  (h0 : valueAt kvs 0 = some (.ref tc)) (hD : D.size ≤ 1000) :
    Cl w 130 [.ref x, .bytes D tD] news (fun _ => .bool (resetOf D .none)) := by
  unfold Cl
  w_top off
  k_with_none
  (k_with "m compareOp In int ref" => (k_here; k_dflt (first | refine kda_in (knd := PySem.intKind _ _) (by k_asm) (by k_mem) (by k_asm) (by k_asm) (intKind_is _ _ _ _) true (by rw [show valueAt _ _ = some _ from by assumption]; rfl) ?_ | refine kda_in (knd := PySem.intKind _ _) (by k_asm) (by k_mem) (by k_asm) (by k_asm) (intKind_is _ _ _ _) false (by rw [show valueAt _ _ = none from by assumption]; rfl) ?_)))
  (k_with "m subscriptTail" => (k_here; (with_reducible show wpAny _ _ (subscriptTail _ _ (Value.ref _) (Value.int _ _)) _ _ _); k_dflt (refine kdt_tail (knd := PySem.intKind _ _) (by k_asm) (by k_mem) (by k_asm) ?_)))
  (k_with "m getItem ref int" => (k_here; k_dflt (refine kdt_getItem (knd := PySem.intKind _ _) (by k_asm) (by k_mem) (by k_asm) (intKind_is _ _ _ _) (by assumption) ?_)))
  (k_with "m subscriptTail" => (k_here; (with_reducible show wpAny _ _ (subscriptTail _ (Expr.Slice _ _ none _) (Value.bytes _ _) (Value.ref _)) _ _ _); (with_reducible rename Fr _ _ _ _ => F'); (with_reducible rename News _ _ _ _ => N'); (refine KBc.slice_K (s := ⟨_, _, _, _, _⟩) F' N' rfl (by constructor) (by constructor) (by rw [KBw.ints_length]; omega) ?_); intro _ _ _ _ _ kbcK; clear kbcK))
  (k_with "m pyIter ref" => (k_here; (with_reducible show wpAny _ _ (pyIter (Value.ref _)) (fun it s₂ => LoopAtV _ _ _ _ _ (PySem.Str.ofString "number") _ _ _ it s₂) _ _); (rename Fr _ _ _ _ => lF'); (rename News _ _ _ _ => lN'); (with_unfolding_all refine iter_listUnr (by rfl) lF' lN' (by k_mem) (by rfl) (by rfl) ?_); clear lF' lN'; intro i' l1))
  (k_with "m UnrEnd" => ((rename News _ _ _ _ => N9); (rename ∀ (p : Addr × Obj), p ∈ _ → _ => l9); (refine UnrEnd.intro (by assumption) N9 _ (fun p hp => hp) (fun p hp => Nat.ne_of_lt (l9 p hp)) ⟨by k_mem, ?_⟩)))
  (k_with "m compareOp Eq" => (k_here; (with_reducible show wpAny _ _ (compareOp CmpOp.Eq Value.none (Value.bytes _ _)) _ _ _); (refine eq_none_bytes ?_)))
  (k_with "m compareOp Eq" => (k_here; (with_reducible show wpAny _ _ (compareOp CmpOp.Eq (Value.bytes _ _) (Value.bytes _ _)) _ _ _); (refine eq_bytes ?_)))
  k_fill
  intro mean mg mb dp un gd cn cs a ccd cl outer A₀ base h₀ L m s Q E B F X N' T hcs hdp hun hret
  have N0 : News h₀ L s.heap [(x, instObj 133 dx), (dx, dictOf (attrs w.params k1 k2 k3 k4 k5 k6 k7 k8 (.ref dk) (.int 0 tcur) (.ref lu) vprior vtold vret vemp vlim) nA), (dk, ok), (lu, W.listOf #[.int 0 u0] nU), (tc, ({ cls := .type "tuple", data := .seq #[.bytes cid tcid, .none] nT } : Obj))] := by
    intro p hp
    simp only [List.mem_cons, List.not_mem_nil, or_false] at hp
    rcases hp with (rfl | rfl | rfl | rfl | rfl)
    all_goals exact N' _ (by assumption)
  have N : News h₀ L s.heap ([(x, instObj 133 dx), (dx, dictOf (attrs w.params k1 k2 k3 k4 k5 k6 k7 k8 (.ref dk) (.int 0 tcur) (.ref lu) vprior vtold vret vemp vlim) nA), (dk, ok), (lu, W.listOf #[.int 0 u0] nU), (tc, ({ cls := .type "tuple", data := .seq #[.bytes cid tcid, .none] nT } : Obj))] ++ news) := fun p hp => (List.mem_append.mp hp).elim (N0 p) (N' p)
  clear N'
  refine wpAny_call ?_
  k_dflt cell_enter
  k_steps
  all_goals (rename News _ _ _ _ => kN9; refine cb_retB hret ?_ (by assumption) (cb_drop kN9 ?_))
  all_goals first
    | exact (resetOf_short (by assumption)).symm
    | exact (resetOf_bytes (by assumption) (by assumption)).symm
    | rfl
    | (intro p hp; repeat first | exact hp | exact List.mem_append_right _ hp | refine List.mem_cons_of_mem _ ?_)

set_option maxRecDepth 100000 in
set_option maxHeartbeats 8000000 in
theorem reset0b (w : World) (x dx dk lu tc : Addr) (ok : Obj) (k1 k2 k3 k4 k5 k6 k7 k8 u0 u1 u2 tcur tcid tD : Tok) (vprior vtold vret vemp vlim : Value) (nA nU nT : Nat) (cid D : Array UInt8) (b : Array UInt8) (tb : Tok) (kvs : List (Int × Value)) (news : List (Addr × Obj))
    (hx : (x, instObj 133 dx) ∈ news) (hdx : (dx, dictOf (attrs w.params k1 k2 k3 k4 k5 k6 k7 k8 (.ref dk) (.int 0 tcur) (.ref lu) vprior vtold vret vemp vlim) nA) ∈ news)
    (hdk : (dk, ok) ∈ news) (hlu : (lu, W.listOf #[.int 0 u0] nU) ∈ news) (htc : (tc, ({ cls := .type "tuple", data := .seq #[.bytes cid tcid, (.bytes b tb)] nT } : Obj)) ∈ news)
    (hsm : (dk == sysModules) = false) (hok : ok.IsDictOf (PySem.intKind PG w) kvs)  (h0 : valueAt kvs 0 = some (.ref tc)) (hD : D.size ≤ 1000) :
    Cl w 130 [.ref x, .bytes D tD] news (fun _ => .bool (resetOf D (.bytes b tb))) := by
  unfold Cl
  w_top off
  k_with_none
  (k_with "m compareOp In int ref" => (k_here; k_dflt (first | refine kda_in (knd := PySem.intKind _ _) (by k_asm) (by k_mem) (by k_asm) (by k_asm) (intKind_is _ _ _ _) true (by rw [show valueAt _ _ = some _ from by assumption]; rfl) ?_ | refine kda_in (knd := PySem.intKind _ _) (by k_asm) (by k_mem) (by k_asm) (by k_asm) (intKind_is _ _ _ _) false (by rw [show valueAt _ _ = none from by assumption]; rfl) ?_)))
  (k_with "m subscriptTail" => (k_here; (with_reducible show wpAny _ _ (subscriptTail _ _ (Value.ref _) (Value.int _ _)) _ _ _); k_dflt (refine kdt_tail (knd := PySem.intKind _ _) (by k_asm) (by k_mem) (by k_asm) ?_)))
  (k_with "m getItem ref int" => (k_here; k_dflt (refine kdt_getItem (knd := PySem.intKind _ _) (by k_asm) (by k_mem) (by k_asm) (intKind_is _ _ _ _) (by assumption) ?_)))
  (k_with "m subscriptTail" => (k_here; (with_reducible show wpAny _ _ (subscriptTail _ (Expr.Slice _ _ none _) (Value.bytes _ _) (Value.ref _)) _ _ _); (with_reducible rename Fr _ _ _ _ => F'); (with_reducible rename News _ _ _ _ => N'); (refine KBc.slice_K (s := ⟨_, _, _, _, _⟩) F' N' rfl (by constructor) (by constructor) (by rw [KBw.ints_length]; omega) ?_); intro _ _ _ _ _ kbcK; clear kbcK))
  (k_with "m pyIter ref" => (k_here; (with_reducible show wpAny _ _ (pyIter (Value.ref _)) (fun it s₂ => LoopAtV _ _ _ _ _ (PySem.Str.ofString "number") _ _ _ it s₂) _ _); (rename Fr _ _ _ _ => lF'); (rename News _ _ _ _ => lN'); (with_unfolding_all refine iter_listUnr (by rfl) lF' lN' (by k_mem) (by rfl) (by rfl) ?_); clear lF' lN'; intro i' l1))
  (k_with "m UnrEnd" => ((rename News _ _ _ _ => N9); (rename ∀ (p : Addr × Obj), p ∈ _ → _ => l9); (refine UnrEnd.intro (by assumption) N9 _ (fun p hp => hp) (fun p hp => Nat.ne_of_lt (l9 p hp)) ⟨by k_mem, ?_⟩)))
  (k_with "m compareOp Eq" => (k_here; (with_reducible show wpAny _ _ (compareOp CmpOp.Eq Value.none (Value.bytes _ _)) _ _ _); (refine eq_none_bytes ?_)))
  (k_with "m compareOp Eq" => (k_here; (with_reducible show wpAny _ _ (compareOp CmpOp.Eq (Value.bytes _ _) (Value.bytes _ _)) _ _ _); (refine eq_bytes ?_)))
  k_fill
  intro mean mg mb dp un gd cn cs a ccd cl outer A₀ base h₀ L m s Q E B F X N' T hcs hdp hun hret
  have N0 : News h₀ L s.heap [(x, instObj 133 dx), (dx, dictOf (attrs w.params k1 k2 k3 k4 k5 k6 k7 k8 (.ref dk) (.int 0 tcur) (.ref lu) vprior vtold vret vemp vlim) nA), (dk, ok), (lu, W.listOf #[.int 0 u0] nU), (tc, ({ cls := .type "tuple", data := .seq #[.bytes cid tcid, (.bytes b tb)] nT } : Obj))] := by
    intro p hp
    simp only [List.mem_cons, List.not_mem_nil, or_false] at hp
    rcases hp with (rfl | rfl | rfl | rfl | rfl)
    all_goals exact N' _ (by assumption)
  have N : News h₀ L s.heap ([(x, instObj 133 dx), (dx, dictOf (attrs w.params k1 k2 k3 k4 k5 k6 k7 k8 (.ref dk) (.int 0 tcur) (.ref lu) vprior vtold vret vemp vlim) nA), (dk, ok), (lu, W.listOf #[.int 0 u0] nU), (tc, ({ cls := .type "tuple", data := .seq #[.bytes cid tcid, (.bytes b tb)] nT } : Obj))] ++ news) := fun p hp => (List.mem_append.mp hp).elim (N0 p) (N' p)
  clear N'
  refine wpAny_call ?_
  k_dflt cell_enter
  k_steps
  all_goals (rename News _ _ _ _ => kN9; refine cb_retB hret ?_ (by assumption) (cb_drop kN9 ?_))
  all_goals first
    | exact (resetOf_short (by assumption)).symm
    | exact (resetOf_bytes (by assumption) (by assumption)).symm
    | rfl
    | (intro p hp; repeat first | exact hp | exact List.mem_append_right _ hp | refine List.mem_cons_of_mem _ ?_)

set_option maxRecDepth 100000 in
set_option maxHeartbeats 8000000 in
theorem reset1b (w : World) (x dx dk lu tc : Addr) (ok : Obj) (k1 k2 k3 k4 k5 k6 k7 k8 u0 u1 u2 tcur tcid tD : Tok) (vprior vtold vret vemp vlim : Value) (nA nU nT : Nat) (cid D : Array UInt8) (b : Array UInt8) (tb : Tok) (kvs : List (Int × Value)) (news : List (Addr × Obj))
    (hx : (x, instObj 133 dx) ∈ news) (hdx : (dx, dictOf (attrs w.params k1 k2 k3 k4 k5 k6 k7 k8 (.ref dk) (.int 1 tcur) (.ref lu) vprior vtold vret vemp vlim) nA) ∈ news)
    (hdk : (dk, ok) ∈ news) (hlu : (lu, W.listOf #[.int 0 u0, .int 1 u1] nU) ∈ news) (htc : (tc, ({ cls := .type "tuple", data := .seq #[.bytes cid tcid, (.bytes b tb)] nT } : Obj)) ∈ news)
    (hsm : (dk == sysModules) = false) (hok : ok.IsDictOf (PySem.intKind PG w) kvs) (h0 : valueAt kvs 0 = none) (h1 : valueAt kvs 1 = some (.ref tc)) (hD : D.size ≤ 1000) :
    Cl w 130 [.ref x, .bytes D tD] news (fun _ => .bool (resetOf D (.bytes b tb))) := by
  unfold Cl
  w_top off
  k_with_none
  (k_with "m compareOp In int ref" => (k_here; k_dflt (first | refine kda_in (knd := PySem.intKind _ _) (by k_asm) (by k_mem) (by k_asm) (by k_asm) (intKind_is _ _ _ _) true (by rw [show valueAt _ _ = some _ from by assumption]; rfl) ?_ | refine kda_in (knd := PySem.intKind _ _) (by k_asm) (by k_mem) (by k_asm) (by k_asm) (intKind_is _ _ _ _) false (by rw [show valueAt _ _ = none from by assumption]; rfl) ?_)))
  (k_with "m subscriptTail" => (k_here; (with_reducible show wpAny _ _ (subscriptTail _ _ (Value.ref _) (Value.int _ _)) _ _ _); k_dflt (refine kdt_tail (knd := PySem.intKind _ _) (by k_asm) (by k_mem) (by k_asm) ?_)))
  (k_with "m getItem ref int" => (k_here; k_dflt (refine kdt_getItem (knd := PySem.intKind _ _) (by k_asm) (by k_mem) (by k_asm) (intKind_is _ _ _ _) (by assumption) ?_)))
  (k_with "m subscriptTail" => (k_here; (with_reducible show wpAny _ _ (subscriptTail _ (Expr.Slice _ _ none _) (Value.bytes _ _) (Value.ref _)) _ _ _); (with_reducible rename Fr _ _ _ _ => F'); (with_reducible rename News _ _ _ _ => N'); (refine KBc.slice_K (s := ⟨_, _, _, _, _⟩) F' N' rfl (by constructor) (by constructor) (by rw [KBw.ints_length]; omega) ?_); intro _ _ _ _ _ kbcK; clear kbcK))
  (k_with "m pyIter ref" => (k_here; (with_reducible show wpAny _ _ (pyIter (Value.ref _)) (fun it s₂ => LoopAtV _ _ _ _ _ (PySem.Str.ofString "number") _ _ _ it s₂) _ _); (rename Fr _ _ _ _ => lF'); (rename News _ _ _ _ => lN'); (with_unfolding_all refine iter_listUnr (by rfl) lF' lN' (by k_mem) (by rfl) (by rfl) ?_); clear lF' lN'; intro i' l1))
  (k_with "m UnrEnd" => ((rename News _ _ _ _ => N9); (rename ∀ (p : Addr × Obj), p ∈ _ → _ => l9); (refine UnrEnd.intro (by assumption) N9 _ (fun p hp => hp) (fun p hp => Nat.ne_of_lt (l9 p hp)) ⟨by k_mem, ?_⟩)))
  (k_with "m compareOp Eq" => (k_here; (with_reducible show wpAny _ _ (compareOp CmpOp.Eq Value.none (Value.bytes _ _)) _ _ _); (refine eq_none_bytes ?_)))
  (k_with "m compareOp Eq" => (k_here; (with_reducible show wpAny _ _ (compareOp CmpOp.Eq (Value.bytes _ _) (Value.bytes _ _)) _ _ _); (refine eq_bytes ?_)))
  k_fill
  intro mean mg mb dp un gd cn cs a ccd cl outer A₀ base h₀ L m s Q E B F X N' T hcs hdp hun hret
  have N0 : News h₀ L s.heap [(x, instObj 133 dx), (dx, dictOf (attrs w.params k1 k2 k3 k4 k5 k6 k7 k8 (.ref dk) (.int 1 tcur) (.ref lu) vprior vtold vret vemp vlim) nA), (dk, ok), (lu, W.listOf #[.int 0 u0, .int 1 u1] nU), (tc, ({ cls := .type "tuple", data := .seq #[.bytes cid tcid, (.bytes b tb)] nT } : Obj))] := by
    intro p hp
    simp only [List.mem_cons, List.not_mem_nil, or_false] at hp
    rcases hp with (rfl | rfl | rfl | rfl | rfl)
    all_goals exact N' _ (by assumption)
  have N : News h₀ L s.heap ([(x, instObj 133 dx), (dx, dictOf (attrs w.params k1 k2 k3 k4 k5 k6 k7 k8 (.ref dk) (.int 1 tcur) (.ref lu) vprior vtold vret vemp vlim) nA), (dk, ok), (lu, W.listOf #[.int 0 u0, .int 1 u1] nU), (tc, ({ cls := .type "tuple", data := .seq #[.bytes cid tcid, (.bytes b tb)] nT } : Obj))] ++ news) := fun p hp => (List.mem_append.mp hp).elim (N0 p) (N' p)
  clear N'
  refine wpAny_call ?_
  k_dflt cell_enter
  k_steps
  all_goals (rename News _ _ _ _ => kN9; refine cb_retB hret ?_ (by assumption) (cb_drop kN9 ?_))
  all_goals first
    | exact (resetOf_short (by assumption)).symm
    | exact (resetOf_bytes (by assumption) (by assumption)).symm
    | rfl
    | (intro p hp; repeat first | exact hp | exact List.mem_append_right _ hp | refine List.mem_cons_of_mem _ ?_)

set_option maxRecDepth 100000 in
set_option maxHeartbeats 8000000 in
theorem reset2b (w : World) (x dx dk lu tc : Addr) (ok : Obj) (k1 k2 k3 k4 k5 k6 k7 k8 u0 u1 u2 tcur tcid tD : Tok) (vprior vtold vret vemp vlim : Value) (nA nU nT : Nat) (cid D : Array UInt8) (b : Array UInt8) (tb : Tok) (kvs : List (Int × Value)) (news : List (Addr × Obj))
    (hx : (x, instObj 133 dx) ∈ news) (hdx : (dx, dictOf (attrs w.params k1 k2 k3 k4 k5 k6 k7 k8 (.ref dk) (.int 2 tcur) (.ref lu) vprior vtold vret vemp vlim) nA) ∈ news)
    (hdk : (dk, ok) ∈ news) (hlu : (lu, W.listOf #[.int 0 u0, .int 1 u1, .int 2 u2] nU) ∈ news) (htc : (tc, ({ cls := .type "tuple", data := .seq #[.bytes cid tcid, (.bytes b tb)] nT } : Obj)) ∈ news)
    (hsm : (dk == sysModules) = false) (hok : ok.IsDictOf (PySem.intKind PG w) kvs) (h0 : valueAt kvs 0 = none) (h1 : valueAt kvs 1 = none) (h2 : valueAt kvs 2 = some (.ref tc)) (hD : D.size ≤ 1000) :
    Cl w 130 [.ref x, .bytes D tD] news (fun _ => .bool (resetOf D (.bytes b tb))) := by
  unfold Cl
  w_top off
  k_with_none
  (k_with "m compareOp In int ref" => (k_here; k_dflt (first | refine kda_in (knd := PySem.intKind _ _) (by k_asm) (by k_mem) (by k_asm) (by k_asm) (intKind_is _ _ _ _) true (by rw [show valueAt _ _ = some _ from by assumption]; rfl) ?_ | refine kda_in (knd := PySem.intKind _ _) (by k_asm) (by k_mem) (by k_asm) (by k_asm) (intKind_is _ _ _ _) false (by rw [show valueAt _ _ = none from by assumption]; rfl) ?_)))
  (k_with "m subscriptTail" => (k_here; (with_reducible show wpAny _ _ (subscriptTail _ _ (Value.ref _) (Value.int _ _)) _ _ _); k_dflt (refine kdt_tail (knd := PySem.intKind _ _) (by k_asm) (by k_mem) (by k_asm) ?_)))
  (k_with "m getItem ref int" => (k_here; k_dflt (refine kdt_getItem (knd := PySem.intKind _ _) (by k_asm) (by k_mem) (by k_asm) (intKind_is _ _ _ _) (by assumption) ?_)))
  (k_with "m subscriptTail" => (k_here; (with_reducible show wpAny _ _ (subscriptTail _ (Expr.Slice _ _ none _) (Value.bytes _ _) (Value.ref _)) _ _ _); (with_reducible rename Fr _ _ _ _ => F'); (with_reducible rename News _ _ _ _ => N'); (refine KBc.slice_K (s := ⟨_, _, _, _, _⟩) F' N' rfl (by constructor) (by constructor) (by rw [KBw.ints_length]; omega) ?_); intro _ _ _ _ _ kbcK; clear kbcK))
  (k_with "m pyIter ref" => (k_here; (with_reducible show wpAny _ _ (pyIter (Value.ref _)) (fun it s₂ => LoopAtV _ _ _ _ _ (PySem.Str.ofString "number") _ _ _ it s₂) _ _); (rename Fr _ _ _ _ => lF'); (rename News _ _ _ _ => lN'); (with_unfolding_all refine iter_listUnr (by rfl) lF' lN' (by k_mem) (by rfl) (by rfl) ?_); clear lF' lN'; intro i' l1))
  (k_with "m UnrEnd" => ((rename News _ _ _ _ => N9); (rename ∀ (p : Addr × Obj), p ∈ _ → _ => l9); (refine UnrEnd.intro (by assumption) N9 _ (fun p hp => hp) (fun p hp => Nat.ne_of_lt (l9 p hp)) ⟨by k_mem, ?_⟩)))
  (k_with "m compareOp Eq" => (k_here; (with_reducible show wpAny _ _ (compareOp CmpOp.Eq Value.none (Value.bytes _ _)) _ _ _); (refine eq_none_bytes ?_)))
  (k_with "m compareOp Eq" => (k_here; (with_reducible show wpAny _ _ (compareOp CmpOp.Eq (Value.bytes _ _) (Value.bytes _ _)) _ _ _); (refine eq_bytes ?_)))
  k_fill
  intro mean mg mb dp un gd cn cs a ccd cl outer A₀ base h₀ L m s Q E B F X N' T hcs hdp hun hret
  have N0 : News h₀ L s.heap [(x, instObj 133 dx), (dx, dictOf (attrs w.params k1 k2 k3 k4 k5 k6 k7 k8 (.ref dk) (.int 2 tcur) (.ref lu) vprior vtold vret vemp vlim) nA), (dk, ok), (lu, W.listOf #[.int 0 u0, .int 1 u1, .int 2 u2] nU), (tc, ({ cls := .type "tuple", data := .seq #[.bytes cid tcid, (.bytes b tb)] nT } : Obj))] := by
    intro p hp
    simp only [List.mem_cons, List.not_mem_nil, or_false] at hp
    rcases hp with (rfl | rfl | rfl | rfl | rfl)
    all_goals exact N' _ (by assumption)
  have N : News h₀ L s.heap ([(x, instObj 133 dx), (dx, dictOf (attrs w.params k1 k2 k3 k4 k5 k6 k7 k8 (.ref dk) (.int 2 tcur) (.ref lu) vprior vtold vret vemp vlim) nA), (dk, ok), (lu, W.listOf #[.int 0 u0, .int 1 u1, .int 2 u2] nU), (tc, ({ cls := .type "tuple", data := .seq #[.bytes cid tcid, (.bytes b tb)] nT } : Obj))] ++ news) := fun p hp => (List.mem_append.mp hp).elim (N0 p) (N' p)
  clear N'
  refine wpAny_call ?_
  k_dflt cell_enter
  k_steps
  all_goals (rename News _ _ _ _ => kN9; refine cb_retB hret ?_ (by assumption) (cb_drop kN9 ?_))
  all_goals first
    | exact (resetOf_short (by assumption)).symm
    | exact (resetOf_bytes (by assumption) (by assumption)).symm
    | rfl
    | (intro p hp; repeat first | exact hp | exact List.mem_append_right _ hp | refine List.mem_cons_of_mem _ ?_)
end Mine
end

section
open PySem PySem.W PyProof.Rows
namespace Mine
/-- what is_reset answers in a state -/
def ResetAt (w : World) (x : Addr) (led : List (Addr × Obj)) (tv : Value) : Prop :=
  ∀ (D : Array UInt8) (tD : Tok) (news : List (Addr × Obj)), D.size ≤ 1000 → SubL led news → Cl w 130 [.ref x, .bytes D tD] news (fun _ => .bool (resetOf D tv))
/-- the token that is in force is that of k -/
def isTok (k : Int) : Value → Bool
  | .bytes b _ => b.toList == (tok k).toList
  | _ => false
/-- the state ahead of the law's last loop -/
def Mid (w : World) (h₀ : Heap) (L : Addr) (s₁ s' : Shared) : Prop :=
  ∃ (h : Heap) (tk : Nat) (m : PySem.Str → Option Value) (x dx dk lu tc kd ul sl : Addr) (ok okd olu otc : Obj) (k1 k2 k3 k4 k5 k6 k7 k8 tcur : Tok) (vprior vtold vret vemp vlim : Value) (nA nUl nS : Nat) (tv : Value) (us vs : List Value) (ns nsu : List Int) (kvd : List (Int × Value)) (c : Int) (f : Int → Bool),
    s' = { s₁ with heap := h, toks := tk } ∧ Fr h₀ L h m ∧
    News h₀ L h [(x, instObj 133 dx), (dx, dictOf (attrs w.params k1 k2 k3 k4 k5 k6 k7 k8 (.ref dk) (.int c tcur) (.ref lu) vprior vtold vret vemp vlim) nA), (dk, keepObj ok), (lu, keepObj olu), (tc, keepObj otc), (kd, okd), (ul, W.listOf us.toArray nUl), (sl, W.listOf vs.toArray nS)] ∧
    m (PySem.Str.ofString "some") = some (.ref sl) ∧ m (PySem.Str.ofString "user") = some (.ref x) ∧ m (PySem.Str.ofString "known") = some (.ref kd) ∧ m (PySem.Str.ofString "used") = some (.ref ul) ∧
    okd.IsDictOf (PySem.intKind PG w) kvd ∧ (kd == sysModules) = false ∧ IntsAre vs ns ∧ IntsAre us nsu ∧ nsu.length ≤ 3 ∧ 0 ≤ c ∧ c ≤ 2 ∧ (tv = .none ∨ ∃ t, tv = .bytes (tok c) t) ∧
    (∀ k, 0 ≤ k → k < 6 → k ∈ nsu → valueAt kvd k = some (.bool (f k)) ∨ (valueAt kvd k = none ∧ f k = false)) ∧
    (∀ k, 0 ≤ k → k < 6 → (decide (k ∈ nsu) && f k) = isTok k tv) ∧
    ResetAt w x [(x, instObj 133 dx), (dx, dictOf (attrs w.params k1 k2 k3 k4 k5 k6 k7 k8 (.ref dk) (.int c tcur) (.ref lu) vprior vtold vret vemp vlim) nA), (dk, keepObj ok), (lu, keepObj olu), (tc, keepObj otc)] tv
end Mine
end

section
open PySem PySem.W PyProof.Rows PySem.Calls
namespace Mine
theorem item_size {prog : Program} {w : World} {A : Around} {E : Value → Shared → Prop} {s : Shared} {h₀ : Heap} {L : Addr} {news : List (Addr × Obj)} {value slice : PySem.Expr} {l : Addr} {vs : List Value} {n : Nat} {k : Int} {u : Tok} {Q : Value → Shared → Prop}
    (N : News h₀ L s.heap news) (hm : (l, W.listOf vs.toArray n) ∈ news) (hi : IntsAre vs [0, 4, 5, 6, 24]) (h0 : 0 ≤ k) (h1 : k < 5)
    (h : ∀ t z, 0 ≤ z → z ≤ 24 → Q (.int z t) s)
    (hs : subscripted slice false (.ref l) (.int k u) = operate [.ref l, .int k u] (getItem (.ref l) (.int k u)) := by with_unfolding_all rfl) :
    wpAny (model prog w) A (subscriptTail value slice (.ref l) (.int k u)) Q E s := by
  have hl : s.heap.IsList l vs.toArray := ⟨_, (N _ hm).1, rfl, n, rfl⟩
  have hlen := hi.length
  have hk : k.toNat < 5 := by omega
  obtain ⟨v, hv⟩ : ∃ v, vs[k.toNat]? = some v := ⟨vs[k.toNat]'(by rw [hlen]; exact hk), List.getElem?_eq_getElem _⟩
  obtain ⟨z, t, rfl, hz⟩ := IntsAre.at hi _ v hv
  have hb : 0 ≤ z ∧ z ≤ 24 := by
    have hm := List.mem_of_getElem? hz
    simp only [List.mem_cons, List.not_mem_nil, or_false] at hm
    omega
  exact tail_any hl.typeIs slot_list_getitem.lookup (wpAny_getItem_list hl h0 (by omega) (by simpa using hv) (h t z hb.1 hb.2)) hs
theorem mem_flat {z : Nat} {a n : Int} (h : n ∈ (List.replicate z [a]).flatten) : n = a := by
  obtain ⟨l, hl, hn⟩ := List.mem_flatten.mp h
  rw [(List.mem_replicate.mp hl).2] at hn
  exact List.mem_singleton.mp hn
theorem flat_length {z : Nat} {a : Int} : ((List.replicate z [a]).flatten).length = z := by
  induction z with
  | zero => rfl
  | succ z ih => rw [List.replicate_succ, List.flatten_cons, List.length_append, ih]; simp; omega
theorem mk_head {prog : Program} {w : World} {A : Around} {E : Value → Shared → Prop} {s : Shared} {h₀ : Heap} {L D : Addr} {m : PySem.Str → Option Value} {news : List (Addr × Obj)} {vs : List Value} {nn : Nat} {z a : Int} {Q : Value → Shared → Prop}
    (F : Fr h₀ L s.heap m) (N : News h₀ L s.heap news) (hh : A.handled = none) (hl : (D, W.listOf vs.toArray nn) ∈ news) (hi : IntsAre vs (List.replicate z.toNat [a]).flatten) (hz : z ≤ 24) (h0 : 0 ≤ a) (h1 : a < 256)
    (h : ∀ (B : Array UInt8) t h' k, B.size = z.toNat → Fr h₀ L h' m → News h₀ L h' news → Q (.bytes B t) { s with heap := h', toks := k }) : wpAny (model prog w) A (call (.type "bytes") [.ref D]) Q E s := by
  refine KBa.make_K F N hh ⟨_, (N _ hl).1, rfl, nn, rfl⟩ hi (fun n hn => ?_) (by rw [flat_length]; omega) fun h' t k F' N' _ => h _ t h' k ?_ F' N'
  · rw [mem_flat hn]
    exact ⟨h0, h1⟩
  · rw [byteArr_size, flat_length]
end Mine
namespace Mine
theorem get_law {prog : Program} {w : World} {A : Around} {E : Value → Shared → Prop} {s : Shared} {h₀ : Heap} {L : Addr} {news : List (Addr × Obj)} {kd : Addr} {okd : Obj} {kvd : List (Int × Value)} {k : Int} {t : Tok} {b : Bool} {Q : Value → Shared → Prop}
    (N : News h₀ L s.heap news) (hm : (kd, okd) ∈ news) (hd : okd.IsDictOf (PySem.intKind prog w) kvd) (lo : (kd == sysModules) = false) (hf : valueAt kvd k = some (.bool b) ∨ (valueAt kvd k = none ∧ b = false))
    (h : Q (.bool b) { s with toks := s.toks + 1 }) : wpAny (model prog w) A (call (.builtin "dict.get") [.ref kd, .int k t, .bool false]) Q E s := by
  rcases hf with hf | ⟨hf, rfl⟩
  · exact kdg_get2 (knd := PySem.intKind _ _) N hm hd lo (intKind_is _ _ _ _) (some _) hf h
  · exact kdg_get2 (knd := PySem.intKind _ _) N hm hd lo (intKind_is _ _ _ _) none hf h
end Mine
end

section
open PySem PySem.W PyProof.Rows
namespace Mine
/-! the plain law: what the tokens and the datagrams say -/
theorem tok_size (n : Int) : (tok n).size = 16 := by
  unfold tok
  rw [byteArr_size, List.length_map, rangeKs_length]
  rfl
theorem picked_tail {D : Array UInt8} (h : 16 ≤ D.size) : (KBy.picked D (some ((D.size : Int) - 16)) none).toList = D.toList.drop (D.size - 16) := by
  rw [KBc.picked_eq]
  simp only [Option.elim]
  have e : clipAt D.size ((D.size : Int) - 16) = D.size - 16 := by
    have : ((D.size : Int) - 16) = ((D.size - 16 : Nat) : Int) := by omega
    rw [this, clipAt_nat]
    omega
  rw [e]
  rw [List.take_of_length_le]
  rw [List.length_drop, Array.length_toList]
  omega
theorem resetOf_tail {B c : Array UInt8} {tv : Value} (hc : c.size = 16) : resetOf (B ++ c) tv = (decide (21 ≤ B.size + 16) && match tv with | .bytes b _ => b.toList == c.toList | _ => false) := by
  have e : (B ++ c).size = B.size + 16 := by rw [Array.size_append, hc]
  have e2 : ((B ++ c).toList).drop ((B ++ c).size - 16) = c.toList := by
    rw [e, Array.toList_append, List.drop_append]
    have h1 : B.toList.length = B.size := Array.length_toList
    rw [List.drop_of_length_le (by omega), h1]
    simp
  cases tv <;> simp only [resetOf, Bool.and_false]
  rw [picked_tail (by omega), e2, e]
theorem resetOf_head {B : Array UInt8} {k : Int} {tv : Value} : resetOf (B ++ tok k) tv = (decide (21 ≤ B.size + 16) && isTok k tv) := by
  rw [resetOf_tail (tok_size k)]
  cases tv <;> rfl
theorem ResetAt.use {w : World} {x : Addr} {led news : List (Addr × Obj)} {tv : Value} {D : Array UInt8} {tD : Tok} (h : ResetAt w x led tv) (hz : D.size ≤ 1000) (hs : SubL led news) : Cl w 130 [.ref x, .bytes D tD] news (fun _ => .bool (resetOf D tv)) := h D tD news hz hs
theorem any_mem {l : List Int} {k : Int} (h : (l.any fun x => x == k) = true) : k ∈ l := by
  obtain ⟨x, hx, e⟩ := List.any_eq_true.mp h
  exact (beq_iff_eq.mp e) ▸ hx
theorem any_not {l : List Int} {k : Int} (h : (l.any fun x => x == k) = false) : k ∉ l := fun hm => by
  rw [List.any_eq_false] at h
  exact h k hm (beq_self_eq_true k)
end Mine
namespace Mine
theorem bent_ne {b : Array UInt8} {i : Nat} {x k v : Int} (hi : i < b.size) (hx : x = ((b.toList.getD i 0).toNat : Int)) (hv : v = (x + 1 + k.fmod 255).fmod 256) : (b.setIfInBounds i v.toNat.toUInt8).toList ≠ b.toList := by
  intro e
  have h1 : (b.setIfInBounds i v.toNat.toUInt8).toList[i]? = b.toList[i]? := by rw [e]
  have hb : b.toList[i]? = some (b.toList.getD i 0) := by
    have : i < b.toList.length := by rw [Array.length_toList]; exact hi
    rw [List.getD_eq_getElem?_getD, List.getElem?_eq_getElem this]
    rfl
  rw [hb] at h1
  have h2 : (b.setIfInBounds i v.toNat.toUInt8).toList[i]? = some v.toNat.toUInt8 := by simp [hi]
  rw [h2] at h1
  have h3 : v.toNat.toUInt8 = b.toList.getD i 0 := Option.some.inj h1
  have h4 := (b.toList.getD i 0).toNat_lt
  have h5 : 0 ≤ k.fmod 255 := Int.fmod_nonneg_of_pos _ (by decide)
  have h6 : k.fmod 255 < 255 := Int.fmod_lt_of_pos _ (by decide)
  have h7 : v = (x + 1 + k.fmod 255) % 256 := by rw [hv, Int.fmod_eq_emod_of_nonneg _ (by decide)]
  have h8 : (v.toNat.toUInt8).toNat = v.toNat := by
    show v.toNat % 256 = v.toNat
    omega
  rw [h3] at h8
  omega
theorem reset_bent {B c : Array UInt8} {k : Int} {tv : Value} {cc : Int} (htv : tv = .none ∨ ∃ t, tv = .bytes (tok cc) t) (hs : c.size = (tok cc).size) (hne : c.toList ≠ (tok cc).toList) : resetOf (B ++ c) tv = false := by
  rw [resetOf_tail (hs.trans (tok_size cc))]
  rcases htv with rfl | ⟨t, rfl⟩
  · simp
  · have : ((tok cc).toList == c.toList) = false := by
      rw [beq_eq_false_iff_ne]
      exact fun e => hne e.symm
    simp only [this, Bool.and_false]
theorem reset_cut {b : Array UInt8} {lo hi : Option Int} {tv : Value} (h : b.size = 16) : resetOf (KBy.picked b lo hi) tv = false :=
  resetOf_short (by have := KBc.size_picked_le b lo hi; omega)
theorem reset_short {b : Array UInt8} {tv : Value} (h : b.size < 21) : resetOf b tv = false := resetOf_short (by omega)
end Mine
namespace Mine
section
variable {B : Array UInt8} {z k : Int} {tv : Value} {nsu : List Int} {f : Int → Bool}
theorem leaf1 (hB : B.size = z.toNat) (h : 21 ≤ z + 16) (ha : (nsu.any fun x => x == k) = true) (hf : (decide (k ∈ nsu) && f k) = isTok k tv) (hne : (resetOf (B ++ tok k) tv != f k) = true) : False := by
  rw [resetOf_head, ← hf, decide_eq_true (any_mem ha), decide_eq_true (by omega), Bool.true_and, Bool.true_and] at hne
  simp at hne
theorem leaf2 (ha : (nsu.any fun x => x == k) = false) (hf : (decide (k ∈ nsu) && f k) = isTok k tv) (hne : (resetOf (B ++ tok k) tv != (nsu.any fun x => x == k)) = true) : False := by
  rw [resetOf_head, ← hf, decide_eq_false (any_not ha), ha] at hne
  simp at hne
theorem leaf3 (hB : B.size = z.toNat) (hz0 : 0 ≤ z) (h : ¬ 21 ≤ z + 16) (hne : (resetOf (B ++ tok k) tv != decide (21 ≤ z + 16)) = true) : False := by
  rw [resetOf_head, decide_eq_false (p := 21 ≤ B.size + 16) (by omega), decide_eq_false h] at hne
  simp at hne
end
/-- the law has come to its end with True -/
def LawEnd (h₀ : Heap) (L : Addr) (s₁ : Shared) (f : Flow) (s' : Shared) : Prop := f = .ret (.bool true) ∧ ∃ h tk m, s' = { s₁ with heap := h, toks := tk } ∧ Fr h₀ L h m
theorem LawEnd.good {s₁ s' : Shared} {L : Addr} {f : Flow} {cl : PySem.Str → Option Addr} {mean : ExcName → Option Value} {args : List WData} (hg : s₁.gens = #[]) (h : LawEnd s₁.heap L s₁ f s') :
    ∃ v, f = .ret v ∧ GoodWG PySem.Challenge.rw_no0065_01.row.claim cl mean args s₁ (.ok (.ret v)) s' := by
  obtain ⟨rfl, h, tk, m, rfl, F⟩ := h
  exact ⟨_, rfl, GoodW.toG (goodW_bool F hg (raisesW_false (r := PySem.Challenge.rw_no0065_01.row.toRowW) fun ct hct => nomatch hct) (postW_of (r := PySem.Challenge.rw_no0065_01.row.toRowW) (X := (true == true)) rfl (w_eq_bool (w_res rfl) w_lit) rfl))⟩
end Mine
namespace Mine
theorem leaf4 {B c9 : Array UInt8} {cc k x : Int} {tv : Value} (hx : x = (((tok cc).toList.getD (k.fmod 16).toNat 0).toNat : Int)) (hc : c9 = (tok cc).setIfInBounds (k.fmod 16).toNat ((x + 1 + k.fmod 255).fmod 256).toNat.toUInt8) (hs : c9.size = (tok cc).size)
    (htv : tv = .none ∨ ∃ t, tv = .bytes (tok cc) t) (h : resetOf (B ++ c9) tv = true) : False := by
  have h0 : 0 ≤ k.fmod 16 := Int.fmod_nonneg_of_pos _ (by decide)
  have h1 : k.fmod 16 < 16 := Int.fmod_lt_of_pos _ (by decide)
  rw [reset_bent (k := 0) htv hs (by rw [hc]; exact bent_ne (k := k) (by rw [tok_size]; omega) hx rfl)] at h
  cases h
theorem leaf5 {cc : Int} {lo hi : Option Int} {tv : Value} (h : resetOf (KBy.picked (tok cc) lo hi) tv = true) : False := by
  rw [reset_cut (tok_size cc)] at h
  cases h
theorem leaf6 {tv : Value} (h : resetOf #[] tv = true) : False := by
  rw [reset_short (by decide)] at h
  cases h
end Mine
end

section
open PySem PySem.W PyProof.Rows PySem.Calls
set_option maxRecDepth 100000
namespace Mine
section
variable {prog : Program} {w : World} {A : Around} {E : Value → Shared → Prop} {s : Shared} {env : Env} {h₀ : Heap} {news : List (Addr × Obj)} {x : PySem.Str} {body : List Stmt} {Q : Flow → Shared → Prop}
/-- a turn of a loop that keeps all has gone by -/
def TurnStill (h₀ : Heap) (L : Addr) (x : PySem.Str) (m₀ : PySem.Str → Option Value) (news : List (Addr × Obj)) (s : Shared) (f : Flow) (s' : Shared) : Prop :=
  f = .next ∧ ∃ h' tk' m', s' = { s with heap := h', toks := tk' } ∧ (∀ z, z ≠ x → m' z = m₀ z) ∧ Fr h₀ L h' m' ∧ News h₀ L h' news
theorem valueAt_of_at {K : Type} [DecidableEq K] {kvs : List (K × Value)} (hn : (kvs.map (·.1)).Nodup) {i : Nat} {k : K} {v : Value} (h : kvs[i]? = some (k, v)) : valueAt kvs k = some v := by
  induction kvs generalizing i with
  | nil => simp at h
  | cons p r ih =>
    obtain ⟨k', v'⟩ := p
    simp only [List.map_cons, List.nodup_cons] at hn
    cases i with
    | zero =>
      simp only [List.getElem?_cons_zero, Option.some.injEq, Prod.mk.injEq] at h
      obtain ⟨rfl, rfl⟩ := h
      simp [valueAt]
    | succ i =>
      have h' : r[i]? = some (k, v) := by simpa using h
      have hne : k' ≠ k := fun e => hn.1 (e ▸ List.mem_map.mpr ⟨(k, v), List.mem_of_getElem? h', rfl⟩)
      have := ih hn.2 h'
      simp [valueAt, hne] at this ⊢
      exact this
theorem still {fp wr : List Addr} {n : Nat} {P : Nat → Value → Prop} {St : Nat → Heap → Prop} {m₀ : PySem.Str → Option Value} {o : Obj}
    (W : Walks prog w A s.heap.objs.size fp wr n P St) (hL : env.locals ∉ fp) (hwr : wr = [s.heap.objs.size]) (hfp : s.heap.objs.size ∈ fp) (hst : St 0 (s.heap.push o))
    (hit : ∀ i h, St i h → ∃ it, h.get? s.heap.objs.size = some it) (hin2 : ∀ b ∈ fp, b = s.heap.objs.size ∨ ∃ o, (b, o) ∈ news)
    (F : Fr h₀ env.locals s.heap m₀) (N : News h₀ env.locals s.heap news)
    (turn : ∀ i v h tk (it : Obj), P i v → (∀ p ∈ news, p.1 < s.heap.objs.size) → Fr h₀ env.locals h (fun y => if y = x then some v else m₀ y) → News h₀ env.locals h ((s.heap.objs.size, keepObj it) :: news) →
      wpAny (model prog w) A (execs body env) (TurnStill h₀ env.locals x m₀ ((s.heap.objs.size, keepObj it) :: news) s) E { s with heap := h, toks := tk })
    (done : ∀ h tk (u : PySem.Str → Option Value), Fr h₀ env.locals h (fun y => if y = x then u y else m₀ y) → News h₀ env.locals h news → Q .next { s with heap := h, toks := tk }) :
    LoopAtV prog w A h₀ env x body Q E (.ref s.heap.objs.size) { s with heap := s.heap.push o } := by
  have hnew := next_is_new F
  have hIlt : ∀ p ∈ news, p.1 < s.heap.objs.size := fun p hp => Heap.lt_size (N p hp).1
  refine ⟨_, _, _, _, _, _, m₀, news, fun _ m₁ news₁ => (∀ z, z ≠ x → m₁ z = m₀ z) ∧ ∀ p ∈ news, p ∈ news₁, rfl, W, hL, ?_, ?_, hst, F.push _, fun p hp => ⟨Heap.get?_push_of_some _ (N p hp).1, (N p hp).2⟩, ⟨fun _ _ => rfl, fun _ h => h⟩, ?_, ?_⟩
  · intro b hb
    rw [hwr] at hb
    rw [List.mem_singleton.mp hb]
    exact hnew
  · intro p hp hI
    rw [hwr] at hI
    exact absurd (hIlt p hp) ((List.mem_singleton.mp hI) ▸ Nat.lt_irrefl _)
  · rintro i v m₁ news₁ s₁ own ⟨hh', tk', rfl⟩ hin hP ⟨hm, hsub⟩ hoff hown hget hall hst' F₁ N₁
    obtain ⟨it, hitt⟩ := hit _ _ hst'
    have hmemI := hall s.heap.objs.size hfp hnew _ hitt
    have N₂ : News h₀ env.locals hh' ((s.heap.objs.size, keepObj it) :: news) := fun p hp => by
      rcases List.mem_cons.mp hp with rfl | hp
      · exact N₁ _ (List.mem_append_left _ hmemI)
      · exact N₁ _ (List.mem_append_right _ (hsub p hp))
    have F₂ : Fr h₀ env.locals hh' (fun y => if y = x then some v else m₀ y) := by
      have e : (fun y => if y = x then some v else m₀ y) = fun y => if y = x then some v else m₁ y := by
        funext y
        by_cases h1 : y = x
        · rw [if_pos h1, if_pos h1]
        · rw [if_neg h1, if_neg h1, hm y h1]
      rw [e]
      exact F₁
    refine wpAny_mono (turn i v hh' tk' it hP hIlt F₂ N₂) (fun f s₂ p => ?_) fun _ _ e => e
    obtain ⟨rfl, h₄, tk₄, m₄, rfl, hm₄, F₄, N₄⟩ := p
    refine ⟨rfl, h₄, tk₄, m₄, news, rfl, F₄, fun p hp => ?_, fun p hp hI => ?_, hm₄, fun p hp => hp⟩
    · rcases List.mem_append.mp hp with h1 | h1
      · have h2 : hh'.get? p.1 = some p.2 := hget p h1
        rcases hin2 _ (hown p h1) with h3 | ⟨o', h3⟩
        · have h4 : p = (s.heap.objs.size, it) := by
            rw [h3, hitt] at h2
            exact Prod.ext h3 (Option.some.inj h2).symm
          rw [h4]; exact N₄ _ (List.mem_cons_self ..)
        · have h4 : p = (p.1, o') := by
            have h5 := (N₁ _ (List.mem_append_right _ (hsub _ h3))).1
            rw [h5] at h2
            exact Prod.ext rfl (Option.some.inj h2).symm
          rw [h4]; exact N₄ _ (List.mem_cons_of_mem _ h3)
      · exact N₄ p (List.mem_cons_of_mem _ h1)
    · rw [hwr] at hI
      exact absurd (hIlt p hp) ((List.mem_singleton.mp hI) ▸ Nat.lt_irrefl _)
  · rintro h' tk' m' news' F' N' _ ⟨hm, hsub⟩
    refine done h' tk' m' ?_ (fun p hp => N' p (hsub p hp))
    have e : (fun y => if y = x then m' y else m₀ y) = m' := by
      funext y
      by_cases h1 : y = x
      · rw [if_pos h1]
      · rw [if_neg h1, hm y h1]
    rw [e]
    exact F'
theorem still_keys {d : Addr} {od : Obj} {kvs : List (Int × Value)} {m₀ : PySem.Str → Option Value}
    (hh : A.handled = none) (F : Fr h₀ env.locals s.heap m₀) (N : News h₀ env.locals s.heap news) (hm : (d, od) ∈ news) (hd : od.IsDictOf (PySem.intKind prog w) kvs) (lo : (d == sysModules) = false)
    (turn : ∀ k v t h tk (I : Addr) (it : Obj), (k, v) ∈ kvs → valueAt kvs k = some v → (∀ p ∈ news, p.1 < I) → Fr h₀ env.locals h (fun y => if y = x then some (.int k t) else m₀ y) → News h₀ env.locals h ((I, keepObj it) :: news) →
      wpAny (model prog w) A (execs body env) (TurnStill h₀ env.locals x m₀ ((I, keepObj it) :: news) s) E { s with heap := h, toks := tk })
    (done : ∀ h tk (u : PySem.Str → Option Value), Fr h₀ env.locals h (fun y => if y = x then u y else m₀ y) → News h₀ env.locals h news → Q .next { s with heap := h, toks := tk }) :
    wpAny (model prog w) A (pyIter (.ref d)) (fun it s₂ => LoopAtV prog w A h₀ env x body Q E it s₂) E s := by
  have hax := N _ hm
  obtain ⟨ep, hat⟩ := (kda_dict N hm hd).dictAt
  have hne : d ≠ s.heap.objs.size := Nat.ne_of_lt hat.lt_size
  refine wpAny_pyIter_dict lo hat ?_
  refine still (Walks.dictKeys (knd := PySem.intKind prog w) hh s.heap.objs.size d hne kvs ep) ?_ rfl (List.mem_cons_self ..) ⟨⟨_, Heap.get?_push_size _ rfl, rfl, rfl⟩, hat.push _⟩ ?_ ?_ F N ?_ done
  · intro hmm
    rcases List.mem_cons.mp hmm with e | hmm
    · exact absurd F.ns.lt (e ▸ Nat.lt_irrefl _)
    · exact hax.2.1 (List.mem_singleton.mp hmm).symm
  · rintro i h ⟨⟨o, ho, _⟩, _⟩
    exact ⟨o, ho⟩
  · intro b hb
    rcases List.mem_cons.mp hb with e | hb
    · exact .inl e
    · exact .inr ⟨od, (List.mem_singleton.mp hb) ▸ hm⟩
  · rintro i v h tk it ⟨k, v', hx, hk⟩ l1 F' N'
    obtain ⟨t', rfl⟩ := Value.isInt_shape hk
    exact turn k v' t' h tk _ it (List.mem_of_getElem? hx) (valueAt_of_at (keysNodup_of_isDictOf hd) hx) l1 F' N'
theorem still_list {l : Addr} {vs : List Value} {ns : List Int} {nl : Nat} {m₀ : PySem.Str → Option Value}
    (hh : A.handled = none) (F : Fr h₀ env.locals s.heap m₀) (N : News h₀ env.locals s.heap news) (hm : (l, W.listOf vs.toArray nl) ∈ news) (hi : IntsAre vs ns)
    (turn : ∀ k t h tk (I : Addr) (it : Obj), k ∈ ns → (∀ p ∈ news, p.1 < I) → Fr h₀ env.locals h (fun y => if y = x then some (.int k t) else m₀ y) → News h₀ env.locals h ((I, keepObj it) :: news) →
      wpAny (model prog w) A (execs body env) (TurnStill h₀ env.locals x m₀ ((I, keepObj it) :: news) s) E { s with heap := h, toks := tk })
    (done : ∀ h tk (u : PySem.Str → Option Value), Fr h₀ env.locals h (fun y => if y = x then u y else m₀ y) → News h₀ env.locals h news → Q .next { s with heap := h, toks := tk }) :
    wpAny (model prog w) A (pyIter (.ref l)) (fun it s₂ => LoopAtV prog w A h₀ env x body Q E it s₂) E s := by
  have hax := N _ hm
  have hl : s.heap.IsList l vs.toArray := ⟨_, hax.1, rfl, nl, rfl⟩
  have hlt : l < s.heap.objs.size := Heap.lt_size hax.1
  have hne : l ≠ s.heap.objs.size := Nat.ne_of_lt hlt
  refine wpAny_pyIter_list hl ?_
  refine still (Walks.list (prog := prog) (w := w) hh s.heap.objs.size l hne vs.toArray) ?_ rfl (List.mem_cons_self ..) ⟨⟨_, Heap.get?_push_size _ rfl, rfl, rfl⟩, hl.at fun o e => Heap.get?_push_of_some _ e⟩ ?_ ?_ F N ?_ done
  · intro hmm
    rcases List.mem_cons.mp hmm with e | hmm
    · exact absurd F.ns.lt (e ▸ Nat.lt_irrefl _)
    · exact hax.2.1 (List.mem_singleton.mp hmm).symm
  · rintro i h ⟨⟨o, ho, _⟩, _⟩
    exact ⟨o, ho⟩
  · intro b hb
    rcases List.mem_cons.mp hb with e | hb
    · exact .inl e
    · exact .inr ⟨_, (List.mem_singleton.mp hb) ▸ hm⟩
  · rintro i v h tk it hv l1 F' N'
    have hv' : vs[i]? = some v := by simpa using hv
    obtain ⟨k, t', rfl, hk⟩ := IntsAre.at hi i v hv'
    exact turn k t' h tk _ it (List.mem_of_getElem? hk) l1 F' N'
end
end Mine
end

section
open PySem PySem.W PyProof.Rows PySem.Calls
set_option maxRecDepth 100000
namespace Mine
section
variable {prog : Program} {w : World} {A : Around} {E : Value → Shared → Prop} {s : Shared} {h₀ : Heap} {L : Addr} {m : PySem.Str → Option Value} {news : List (Addr × Obj)} {Q : Value → Shared → Prop}
theorem sorted_keys {d : Addr} {od : Obj} {kvs : List (Int × Value)} (hh : A.handled = none) (F : Fr h₀ L s.heap m) (N : News h₀ L s.heap news) (hm : (d, od) ∈ news) (hd : od.IsDictOf (PySem.intKind prog w) kvs) (lo : (d == sysModules) = false) (hz : kvs.length < 64)
    (h : ∀ (D : Addr) (vs : List Value) (ns : List Int) (c : Nat) (h' : Heap) (tk : Nat), Fr h₀ L h' m → News h₀ L h' ((D, W.listOf vs.toArray c) :: news) → (∀ q ∈ news, q.1 < D) → IntsAre vs ns → ns.Perm (kvs.map (·.1)) → ns.Pairwise (fun x y => x ≤ y) → Q (.ref D) { s with heap := h', toks := tk }) :
    wpAny (model prog w) A (call (.builtin "sorted") [.ref d]) Q E s := by
  obtain ⟨ep, hat⟩ := (kda_dict N hm hd).dictAt
  refine kdu_sorted (kdl_dict (knd := PySem.intKind prog w) (kvs := kvs) (ep := ep) lo) hh F N hat (kdl_size (by omega)) fun D h' tk vs F' N' l1 hl hv => ?_
  refine ksk_lsort (ns := kvs.map (·.1)) F' N' (fun o => Upd.head fun p hp => Nat.ne_of_lt (l1 p hp)) rfl ?_ (by rw [List.length_map]; exact hz) fun vs' ns' c h'' F'' N'' hi' _ hp hs _ => h D vs' ns' c h'' tk F'' N'' l1 hi' hp hs
  refine kdy_ints (by rw [hl, List.length_map]) fun j v hvj => ?_
  obtain ⟨k, x, hx, hk⟩ := hv j v hvj
  obtain ⟨t, rfl⟩ := Value.isInt_shape hk
  exact ⟨k, by rw [List.getElem?_map, hx]; rfl, t, rfl⟩
theorem eq_bytes_no {b c : Array UInt8} {t u : Tok} (h : (b.toList == c.toList) = false) (hQ : Q (.bool false) s) : wpAny (model prog w) A (compareOp CmpOp.Eq (.bytes b t) (.bytes c u)) Q E s :=
  eq_bytes (by rw [h]; exact hQ)
theorem lt_no {a b : Int} {t u : Tok} (h : b ≤ a) (hQ : Q (.bool false) s) : wpAny (model prog w) A (compareOp CmpOp.Lt (.int a t) (.int b u)) Q E s :=
  wpAny_lt_int (by rw [decide_eq_false (by omega)]; exact hQ)
theorem gt_no {a b : Int} {t u : Tok} (h : a ≤ b) (hQ : Q (.bool false) s) : wpAny (model prog w) A (compareOp CmpOp.Gt (.int a t) (.int b u)) Q E s :=
  PyProof.Rows.gt_int (by rw [decide_eq_false (by omega)]; exact hQ)
end
end Mine
end

section
open PySem PySem.W PyProof.Rows
namespace Mine
abbrev tup (vs : Array Value) (n : Nat) : Obj := { cls := .type "tuple", data := .seq vs n }
theorem News.moreK {h₀ h : Heap} {L : Addr} {p : Addr × Obj} {l : List (Addr × Obj)} (n : Nat) (N : News h₀ L h l) (hp : p ∈ l.drop n) : News h₀ L h (p :: l) := fun q hq => by
  rcases List.mem_cons.mp hq with rfl | hq
  · exact N _ (List.mem_of_mem_drop hp)
  · exact N _ hq
theorem News.dropK {h₀ h : Heap} {L : Addr} {l : List (Addr × Obj)} (n : Nat) (N : News h₀ L h l) : News h₀ L h (l.drop n) := fun _ hq => N _ (List.mem_of_mem_drop hq)
theorem stored_new {kvs : List (Int × Value)} {n : Int} {v : Value} (h : valueAt kvs n = none) : stored kvs n v = kvs ++ [(n, v)] := by
  have : kvs.any (fun kv => decide (kv.1 = n)) = false := by
    rw [List.any_eq_false]
    intro p hp e
    simp only [valueAt, Option.map_eq_none_iff, List.find?_eq_none] at h
    exact h p hp e
  unfold stored
  rw [this]
  rfl
theorem stored_le6 {kvs : List (Int × Value)} {n : Int} {v : Value} (h : valueAt kvs n = none) (hl : kvs.length ≤ 5) : (stored kvs n v).length ≤ 6 := by
  rw [stored_new h, List.length_append, List.length_singleton]
  omega
theorem stored_le6i {kvs : List (Int × Value)} {n : Int} {v : Value} (h : valueAt kvs n = none) (hl : kvs.length ≤ 5) : ((stored kvs n v).length : Int) ≤ 6 := by
  have := stored_le6 (v := v) h hl
  omega
theorem stored_lo {kvs : List (Int × Value)} {n k : Int} {v : Value} {ns : List Int} (hp : ns.Perm ((stored kvs n v).map (·.1))) (hk : k ∈ ns) (h : valueAt kvs n = none) (hl : ∀ p ∈ kvs, 0 ≤ p.1) (hn : 0 ≤ n) : 0 ≤ k := by
  rw [stored_new h] at hp
  have := hp.mem_iff.mp hk
  rw [List.map_append, List.mem_append] at this
  rcases this with h1 | h1
  · obtain ⟨p, h2, rfl⟩ := List.mem_map.mp h1
    exact hl p h2
  · rw [List.map_cons, List.map_nil, List.mem_singleton] at h1
    rw [h1]
    exact hn
local macro_rules | `(tactic| k_all) => `(tactic| assumption)
set_option maxRecDepth 100000 in
set_option maxHeartbeats 8000000 in
theorem on_new (w : World) (x dx dk dt : Addr) (lu lr : Value) (okd ot : Obj) (k1 k2 k3 k4 k5 k6 k7 k8 tcur tp t6 tn t0 tcid : Tok) (c n : Int) (cid : Array UInt8) (v : Value) (kvs kvt : List (Int × Value)) (own : List (Addr × Obj))
    (h1 : @Ne Nat x dx) (h2 : @Ne Nat x dk) (h3 : @Ne Nat x dt) (h4 : @Ne Nat dx dk) (h5 : @Ne Nat dx dt) (h6 : @Ne Nat dk dt)
    (o1 : ∀ p ∈ own, p.1 ≠ dx) (o2 : ∀ p ∈ own, p.1 ≠ dk) (o3 : ∀ p ∈ own, p.1 ≠ dt)
    (m1 : (dk == sysModules) = false) (m2 : (dt == sysModules) = false)
    (hdk : okd.IsDictOf (PySem.intKind PG w) kvs) (ht : ot.IsDictOf (PySem.intKind PG w) kvt)
    (hn : 0 ≤ n) (hk0 : ∀ p ∈ kvs, 0 ≤ p.1) (hkl : kvs.length ≤ 5) (htl : kvt.length ≤ 5) (hkn : valueAt kvs n = none) (htn : valueAt kvt n = none)
    (hT : ∀ k y, (k, y) ∈ kvt → ∃ a c' t' v' nT, y = .ref a ∧ (a, tup #[.bytes c' t', v'] nT) ∈ own ∧ (c'.toList == cid.toList) = false) :
    ∀ (mean : ExcName → Option Value) (mg mb : PySem.Str → Option Value) (dp un : Nat) (gd : Option (List Code)) (cn : PySem.Str) (cs : Scope) (a : Addr) (ccd : Value) (cl : List (PySem.Str × Addr)) (outer : List Env) (A₀ : Around) (base h₀ : Heap) (L : Addr) (m : PySem.Str → Option Value) (s : Shared) (Q E : Value → Shared → Prop)
    (B : Below A₀ base outer h₀) (F : Fr h₀ L s.heap m) (X : (hd.heap_39 w.params).In h₀)
    (N : News h₀ L s.heap ([(x, instObj 133 dx), (dx, dictOf (attrs w.params k1 k2 k3 k4 k5 k6 k7 k8 (.ref dk) (.int c tcur) lu (.int 0 tp) (.ref dt) lr (.bool false) (.int 6 t6)) 8), (dk, okd), (dt, ot)] ++ own))
    (T : TopM mean mg mb h₀) (hcs : cs.kind = .function) (hdp : dp + 40 < recursionLimit) (hun : un + 80 < cLine)
    (hret : ∀ (h' : Heap) (tk' : Nat) (a1 a2 : Addr) (okd' ot' : Obj), Fr h₀ L h' m →
      News h₀ L h' ([(a1, tup #[.bytes cid tcid, v] 0), (a2, tup #[.bytes cid tcid, v] 0), (x, instObj 133 dx), (dx, dictOf (attrs w.params k1 k2 k3 k4 k5 k6 k7 k8 (.ref dk) (.int c tcur) lu (.int 0 tp) (.ref dt) lr (.bool false) (.int 6 t6)) 8), (dk, okd'), (dt, ot')] ++ own) →
      okd'.IsDictOf (PySem.intKind PG w) (stored kvs n (.ref a2)) → ot'.IsDictOf (PySem.intKind PG w) (stored kvt n (.ref a1)) → Q .none { s with heap := h', toks := tk' }),
    wpAny (model PySem.Challenge.rw_no0065_01.row.prog w) (ktrTop dp un gd cn cs L a ccd cl outer) (call (.ref 76) [.ref x, .int n tn, .int 0 t0, .bytes cid tcid, v]) Q E s := by
  w_top off
  k_with_none
  (k_with "m call ref" => (k_here; (with_reducible show wpAny _ _ (call (Value.ref _) (Value.ref _ :: _)) _ _ _); k_dflt (refine wpAny_call ?_; first | (refine' code_def ?k1Z33 ?k2Z33 ?k3Z33 ?k4Z33 ?k5Z33 ?kAZ33 ?kFZ33 ?kKZ33 ?k6Z33 ?k7Z33 ?k8Z33 ?k9Z33 ?kBZ33 ?_ ?c2Z33 ?c3Z33 ?c4Z33 ?c5Z33; (case kAZ33 => exact rfl); (case kFZ33 => exact rfl); (case kKZ33 => exact rfl); (case k1Z33 => k_asm); (case k2Z33 => k_asm); (case k3Z33 => k_asm); (case k4Z33 => k_asm); (case k5Z33 => k_asm); (case k6Z33 => k_is); (case k7Z33 => k_is); (case k8Z33 => ktr_room); (case k9Z33 => exact BindsTo.of_eq rfl); (case c5Z33 => decide); (case kBZ33 => exact locs rfl); (case c2Z33 => exact rfl); (case c3Z33 => exact rfl); (case c4Z33 => exact rfl); k_whole; intro g' L' h' FG' F' N' B' X' T'; (try dsimp only); (try k_lift B'); (try k_fold)))))
  (k_with "m pyIter ref" => (k_here; (with_reducible show wpAny _ _ (pyIter (Value.ref _)) (fun it s₂ => LoopAtV _ _ _ _ _ (PySem.Str.ofString "other") _ _ _ it s₂) _ _); (rename Fr _ _ _ _ => lF'); (rename News _ _ _ _ => lN'); (with_unfolding_all refine still_keys (by rfl) lF' lN' (by k_mem) (by k_asm) (by k_asm) ?_ ?_); all_goals (first | (intro k9 v9 t9 h9 tk9 I9 it9 hk9 hv9 l9 F9 N9; (rename ∀ (k : Int) (y : Value), (k, y) ∈ _ → _ => hT9); (obtain ⟨a9, c9, t8, v8, n9, e9, ho9, hc9⟩ := hT9 _ _ hk9); subst e9; (first | replace N9 := News.moreK 5 N9 ho9 | replace N9 := News.moreK 4 N9 ho9 | replace N9 := News.moreK 6 N9 ho9)) | (intro h9 tk9 u9 F9 N9)); clear lF' lN'))
  (k_with "m pyIter ref" => (k_here; (with_reducible show wpAny _ _ (pyIter (Value.ref _)) (fun it s₂ => LoopAtV _ _ _ _ _ (PySem.Str.ofString "number") _ _ _ it s₂) _ _); (rename Fr _ _ _ _ => lF'); (rename News _ _ _ _ => lN'); (with_unfolding_all refine still_list (by rfl) lF' lN' (by k_mem) (by assumption) ?_ ?_); all_goals (first | (intro k9 t9 h9 tk9 I9 it9 hk9 l9 F9 N9; (rename List.Perm _ _ => hp9); have k0 := stored_lo hp9 hk9 (by assumption) (by assumption) (by assumption)) | (intro h9 tk9 u9 F9 N9)); clear lF' lN'))
  (k_with "m compareOp In int ref" => (k_here; k_dflt (refine kda_in (knd := PySem.intKind _ _) (by k_asm) (by k_mem) (by k_asm) (by k_asm) (intKind_is _ _ _ _) false (by rw [show valueAt _ _ = none from by assumption]; rfl) ?_)))
  (k_with "m call builtin:sorted" => (k_here; (with_reducible show wpAny _ _ (call (Value.builtin "sorted") [Value.ref _]) _ _ _); k_dflt (refine' sorted_keys rfl ?FZ37 ?NZ37 ?mZ37 ?dZ37 ?loZ37 ?zZ37 ?_; (case FZ37 => k_asm); (case NZ37 => k_asm); (case mZ37 => k_mem); (case dZ37 => k_asm); (case loZ37 => k_asm); (case zZ37 => exact Nat.lt_of_le_of_lt (stored_le6 (by assumption) (by assumption)) (by decide))); intro D' vs' ns' c' h' tk' F' N' l1 hi' hp' hs'; (try k_lt l1)))
  (k_with "m setItem ref int" => (k_here; k_dflt (refine' kda_set (knd := PySem.intKind _ _) ?FZ38 ?NZ38 ?UZ38 ?dZ38 (intKind_is _ _ _ _) ?zZ38 ?_; (case FZ38 => k_asm); (case NZ38 => k_asm); (case UZ38 => k_updF); (case dZ38 => k_asm); (case zZ38 => (rw [sizeLine_eq]; omega))); intro h' o' F' N' hd'; (try dsimp only at N')))
  (k_with "m call builtin:len" => (k_here; (with_reducible show wpAny _ _ (call (Value.builtin "len") [Value.ref _]) _ _ _); k_dflt (refine kda_len (knd := PySem.intKind _ _) (by k_asm) (by k_mem) (by k_asm) (by k_asm) (Nat.le_trans (stored_le6 (by assumption) (by assumption)) (by decide)) ?_)))
  (k_with "m subscriptTail" => (k_here; (with_reducible show wpAny _ _ (subscriptTail _ _ (Value.ref _) (Value.int _ _)) _ _ _); k_dflt (refine kdt_tail (knd := PySem.intKind _ _) (by k_asm) (by k_mem) (by k_asm) ?_)))
  (k_with "m getItem ref int" => (k_here; k_dflt (refine kdt_getItem (knd := PySem.intKind _ _) (by k_asm) (by k_mem) (by k_asm) (intKind_is _ _ _ _) (by assumption) ?_)))
  (k_with "m setAttr ref" => (k_here; (with_reducible show wpAny _ _ (setAttr _ _ (Value.int (if 0 > 0 then 0 else 0) _)) _ _ _); rw [if_neg (by decide), if_neg (by decide)]))
  (k_with "m compareOp Eq" => (k_here; (with_reducible show wpAny _ _ (compareOp CmpOp.Eq (Value.bytes _ _) (Value.bytes _ _)) _ _ _); (refine eq_bytes_no (by assumption) ?_)))
  (k_with "m compareOp Gt int int" => (k_here; (with_reducible show wpAny _ _ (compareOp CmpOp.Gt (Value.int _ _) (Value.int _ _)) _ _ _); (refine gt_no (stored_le6i (by assumption) (by assumption)) ?_)))
  k_fill
  intro mean mg mb dp un gd cn cs a ccd cl outer A₀ base h₀ L m s Q E B F X N T hcs hdp hun hret
  simp only [List.cons_append, List.nil_append] at N
  refine wpAny_call ?_
  k_dflt cell_enter
  k_steps
  all_goals first
    | ((rename Fr _ _ _ _ => F9); (rename News _ _ _ _ => N9); exact ⟨rfl, _, _, _, rfl, fun z h1 => if_neg h1, F9, by first | exact N9 | exact News.dropK 1 N9⟩)
    | (refine' hret _ _ _ _ _ _ ?kF ?kN ?ka ?kb; (case ka => assumption); (case kb => assumption); (case kF => assumption); (case kN => (rename News _ _ _ _ => N9; refine' fun p hp => N9 p (List.forall_mem_append.mpr ⟨?ka, ?kb⟩ p hp); (case kb => (intro p hp; repeat (first | exact hp | refine List.mem_cons_of_mem _ ?_))); (case ka => ((repeat (refine' List.forall_mem_cons.mpr ⟨?kz, ?_⟩; (case kz => k_mem))); exact List.forall_mem_nil _)))))


end Mine
end

section
open PySem PySem.W PyProof.Rows
namespace Mine
/-- what a turn of the list of the unused does -/
def unusedG (nsu : List Int) (l : List Int) (k : Int) : List Int := if nsu.any (fun x => x == k) = true then l else l ++ [k]
abbrev unusedOf {nsu ks : List Int} {c : Int} (_ : ∀ k ∈ ks, nsu.any (fun x => x == k) = decide (k ≤ c)) : List Int → Int → List Int := unusedG nsu
theorem unused_fold (nsu : List Int) : ∀ (ns l : List Int), ns.foldl (unusedG nsu) l = l ++ ns.filter (fun k => !(nsu.any (fun x => x == k)))
  | [], l => by simp
  | k :: r, l => by
    rw [List.foldl_cons, unused_fold nsu r]
    cases h : nsu.any (fun x => x == k) with
    | true => simp [unusedG, h]
    | false => simp [unusedG, h]
theorem unused_grows (nsu : List Int) : KPfGrows (unusedG nsu) := fun l k => by
  unfold unusedG
  split
  · omega
  · simp
theorem fresh_head {ns nsu ks : List Int} {c : Int} (hp : ns.Perm ks) (hs : ns.Pairwise (fun x y => x ≤ y)) (hm : c + 1 ∈ ks) (hu : ∀ k ∈ ks, nsu.any (fun x => x == k) = decide (k ≤ c)) :
    ∃ tl, ns.foldl (unusedG nsu) [] = (c + 1) :: tl := by
  rw [unused_fold, List.nil_append]
  have hm' : c + 1 ∈ ns.filter (fun k => !(nsu.any (fun x => x == k))) := by
    rw [List.mem_filter]
    refine ⟨hp.mem_iff.mpr hm, ?_⟩
    rw [hu _ hm, decide_eq_false (by omega)]
    rfl
  have hs' := hs.sublist (List.filter_sublist (p := fun k => !(nsu.any (fun x => x == k))))
  cases e : ns.filter (fun k => !(nsu.any (fun x => x == k))) with
  | nil => rw [e] at hm'; cases hm'
  | cons a tl =>
    have ha : a ∈ ns.filter (fun k => !(nsu.any (fun x => x == k))) := by rw [e]; exact List.mem_cons_self ..
    rw [List.mem_filter] at ha
    have h1 := hu a (hp.mem_iff.mp ha.1)
    have h2 : ¬ a ≤ c := by
      intro hle
      rw [h1, decide_eq_true hle] at ha
      exact absurd ha.2 (by decide)
    rw [e] at hm' hs'
    have h3 : a ≤ c + 1 := by
      rcases List.mem_cons.mp hm' with h | h
      · omega
      · exact (List.pairwise_cons.mp hs').1 _ h
    have h4 : a = c + 1 := by omega
    exact ⟨tl, by rw [h4]⟩
theorem ints_cons {ys : List Value} {a : Int} {tl : List Int} (h : IntsAre ys (a :: tl)) : ∃ t ys', ys = .int a t :: ys' ∧ ys'.length = tl.length := by
  obtain ⟨v, hv⟩ : ∃ v, ys[0]? = some v := by
    have := h.length
    rw [List.length_cons] at this
    exact ⟨ys[0]'(by omega), List.getElem?_eq_getElem (by omega)⟩
  obtain ⟨n, t, rfl, hn⟩ := IntsAre.at h 0 v hv
  simp only [List.getElem?_cons_zero, Option.some.injEq] at hn
  subst hn
  cases ys with
  | nil => simp at hv
  | cons y r =>
    simp only [List.getElem?_cons_zero, Option.some.injEq] at hv
    subst hv
    refine ⟨t, r, rfl, ?_⟩
    have := h.length
    simpa using this
section
variable {prog : Program} {w : World} {A : Around} {E : Value → Shared → Prop} {s : Shared} {h₀ : Heap} {L : Addr} {news : List (Addr × Obj)} {Q : Value → Shared → Prop} {l : Addr} {v : Value} {ys : List Value}
theorem len_cons (N : News h₀ L s.heap news) (hm : (l, LCg.lst (v :: ys)) ∈ news) (hz : ys.length < 64) (h : ∀ z t k, 0 < z → Q (.int z t) { s with toks := k }) : wpAny (model prog w) A (call (.builtin "len") [.ref l]) Q E s := by
  refine len_list (items := (v :: ys).toArray) ⟨_, (N _ hm).1, rfl, _, rfl⟩ ?_ ?_
  · simp only [List.size_toArray, List.length_cons]
    omega
  · exact h _ _ _ (by simp only [List.size_toArray, List.length_cons]; omega)
theorem item_cons {value slice : PySem.Expr} {u : Tok} (N : News h₀ L s.heap news) (hm : (l, LCg.lst (v :: ys)) ∈ news) (h : Q v s)
    (hs : subscripted slice false (.ref l) (.int 0 u) = operate [.ref l, .int 0 u] (getItem (.ref l) (.int 0 u)) := by with_unfolding_all rfl) : wpAny (model prog w) A (subscriptTail value slice (.ref l) (.int 0 u)) Q E s := by
  have hl : s.heap.IsList l (v :: ys).toArray := ⟨_, (N _ hm).1, rfl, _, rfl⟩
  exact tail_any hl.typeIs slot_list_getitem.lookup (wpAny_getItem_list hl (by decide) (by simp) (by simp) h) hs
end
theorem fin_unused {ns nsu : List Int} {kvs : List (Int × Value)} {c : Int} {n : Nat} {Fin : List Value → List (Addr × Obj) → Prop} {news : List (Addr × Obj)} (hp : ns.Perm (kvs.map (·.1))) (hs : ns.Pairwise (fun x y => x ≤ y)) (hm : c + 1 ∈ kvs.map (·.1)) (hu : ∀ k ∈ kvs.map (·.1), nsu.any (fun x => x == k) = decide (k ≤ c)) (hz : kvs.length < 64)
    (h : ∀ t ys', ys'.length < 64 → Fin (.int (c + 1) t :: ys') news) : KPfDone (∀ ys, IntsAre ys (ns.foldl (unusedOf hu) []) → ys.length ≤ n → Fin ys news) := by
  intro ys hy _
  obtain ⟨tl, e⟩ := fresh_head hp hs hm hu
  have h1 : (ns.foldl (unusedG nsu) []).length ≤ ns.length := by
    rw [unused_fold, List.nil_append]
    exact List.length_filter_le ..
  have hy' : IntsAre ys (ns.foldl (unusedG nsu) []) := hy
  rw [e] at hy' h1
  obtain ⟨t, ys', rfl, hl⟩ := ints_cons hy'
  refine h t ys' ?_
  rw [hp.length_eq, List.length_map, List.length_cons] at h1
  omega
section
variable {h₀ : Heap} {L I C D : Addr} {m : PySem.Str → Option Value} {s₁ : Shared} {oI oC oD : Obj} {S : List (Addr × Obj) → Prop} {h' : Heap} {tk : Nat} {news : List (Addr × Obj)} {nsu l : List Int} {k : Int} {t : Tok}
theorem comp_el (F : Fr h₀ L h' m) (N : News h₀ L h' ((I, oI) :: (C, oC) :: (D, oD) :: news)) (off : LCg.Off3 I C D news) (hS : S news) (e : nsu.any (fun x => x == k) = false) :
    LCg.CompEnd h₀ L m s₁ I oI C oC D oD S (fun y news' => KCiEl news l (unusedG nsu l k) y news') (.int k t) { s₁ with heap := h', toks := tk } :=
  LCg.CompEnd.intro F N news (fun _ hp => hp) off hS (kci_el (by simp [unusedG, e]) rfl rfl)
theorem comp_no {y : Value} (F : Fr h₀ L h' m) (N : News h₀ L h' ((I, oI) :: (C, oC) :: (D, oD) :: news)) (off : LCg.Off3 I C D news) (hS : S news) (e : nsu.any (fun x => x == k) = true) :
    LCg.CompEnd h₀ L m s₁ I oI C oC D oD S (fun _ news' => KCiNo news l (unusedG nsu l k) news') y { s₁ with heap := h', toks := tk } :=
  LCg.CompEnd.intro F N news (fun _ hp => hp) off hS (kci_no (by simp [unusedG, e]) rfl)
end
set_option maxRecDepth 100000 in
set_option maxHeartbeats 8000000 in
theorem fresh (w : World) (x dx dk lu : Addr) (okd : Obj) (k1 k2 k3 k4 k5 k6 k7 k8 tcur : Tok) (vprior vtold vret vemp vlim : Value) (c : Int) (nA nU : Nat) (us : List Value) (nsu : List Int) (kvs : List (Int × Value)) (news : List (Addr × Obj))
    (hx : (x, instObj 133 dx) ∈ news) (hdx : (dx, dictOf (attrs w.params k1 k2 k3 k4 k5 k6 k7 k8 (.ref dk) (.int c tcur) (.ref lu) vprior vtold vret vemp vlim) nA) ∈ news)
    (hdk : (dk, okd) ∈ news) (hlu : (lu, W.listOf us.toArray nU) ∈ news)
    (hsm : (dk == sysModules) = false) (hok : okd.IsDictOf (PySem.intKind PG w) kvs) (hus : IntsAre us nsu) (hz : kvs.length < 64) (hc1 : c + 1 ∈ kvs.map (·.1)) (hu : ∀ k ∈ kvs.map (·.1), nsu.any (fun x => x == k) = decide (k ≤ c)) :
    Cl w 109 [.ref x] news (fun t => .int (c + 1) t) := by
  unfold Cl
  w_top off
  k_with_none
  (k_with "m call builtin:sorted" => (k_here; (with_reducible show wpAny _ _ (call (Value.builtin "sorted") [Value.ref _]) _ _ _); k_dflt (refine' sorted_keys rfl ?FZ45 ?NZ45 ?mZ45 ?dZ45 ?loZ45 ?zZ45 ?_; (case FZ45 => k_asm); (case NZ45 => k_asm); (case mZ45 => k_mem); (case dZ45 => k_asm); (case loZ45 => k_asm); (case zZ45 => assumption)); intro D' vs' ns' c' h' tk' F' N' l1 hi' hp' hs'; (try k_lt l1)))
  (k_with "m CompSrcT" => (k_here; (rename List.Perm _ _ => hp9); k_dflt (refine LCt.CompSrcT.ledger (by rfl) (by k_asm) (by k_asm) (by k_mem) (by rw [List.size_toArray, IntsAre.length (by assumption), List.Perm.length_eq hp9, List.length_map, PySem.sizeLine_eq]; omega) ?_); intro g'; ((rename ∀ k ∈ List.map _ _, List.any _ _ = _ => hu9); refine' kci_list (unusedOf hu9) (by assumption) (fun k9 t9 I9 oI9 C9 oC9 D9 m9 ys9 l9 h9 tk9 E9 hk9 hI9 hC9 hx9 F9 N9 off9 ne9 => ?_) ?_ (unused_grows _)); (all_goals (try ((show KPfMark → _); intro hMark')))))
  (k_with "m CompEnd" => first | exact comp_el (by assumption) (by assumption) (by assumption) (by lcg_src) (by assumption) | exact comp_no (by assumption) (by assumption) (by assumption) (by lcg_src) (by assumption))
  (k_with "m KPfDone" => ((rename List.Perm _ _ => hp9); (rename ∀ k ∈ List.map _ _, List.any _ _ = _ => hu9); (rename List.Pairwise _ _ => hs9); (refine fin_unused hp9 hs9 (by assumption) hu9 (by assumption) ?_); intro t9 y9 z9))
  (k_with "m call builtin:len" => (k_here; (with_reducible show wpAny _ _ (call (Value.builtin "len") [Value.ref _]) _ _ _); k_dflt (refine' len_cons ?NZ49 ?mZ49 ?zZ49 ?_; (case NZ49 => k_asm); (case mZ49 => k_mem); (case zZ49 => assumption)); intro z9 t9 k9 hz9))
  (k_with "m subscriptTail" => (k_here; (with_reducible show wpAny _ _ (subscriptTail _ _ (Value.ref _) (Value.int 0 _)) _ _ _); k_dflt (refine' item_cons ?NZ50 ?mZ50 ?_; (case NZ50 => k_asm); (case mZ50 => k_mem))))
  k_fill
  intro mean mg mb dp un gd cn cs a ccd cl outer A₀ base h₀ L m s Q E B F X N' T hcs hdp hun hret
  have N0 : News h₀ L s.heap [(x, instObj 133 dx), (dx, dictOf (attrs w.params k1 k2 k3 k4 k5 k6 k7 k8 (.ref dk) (.int c tcur) (.ref lu) vprior vtold vret vemp vlim) nA), (dk, okd), (lu, W.listOf us.toArray nU)] := by
    intro p hp
    simp only [List.mem_cons, List.not_mem_nil, or_false] at hp
    rcases hp with (rfl | rfl | rfl | rfl)
    all_goals exact N' _ (by assumption)
  have N : News h₀ L s.heap ([(x, instObj 133 dx), (dx, dictOf (attrs w.params k1 k2 k3 k4 k5 k6 k7 k8 (.ref dk) (.int c tcur) (.ref lu) vprior vtold vret vemp vlim) nA), (dk, okd), (lu, W.listOf us.toArray nU)] ++ news) := fun p hp => (List.mem_append.mp hp).elim (N0 p) (N' p)
  clear N' N0
  simp only [List.cons_append, List.nil_append] at N
  refine wpAny_call ?_
  k_dflt (refine' code_defC ?k1 ?k2 ?k3 ?k4 ?k5 ?kA ?kF ?kK ?k6 ?k7 ?k8 ?k9 ?kB ?kD ?_ ?c2 ?c3 ?c4; (case kA => exact rfl); (case kF => exact rfl); (case kK => assumption); (case k1 => k_asm); (case k2 => k_asm); (case k3 => k_asm); (case k4 => k_asm); (case k5 => k_asm); (case k6 => k_is); (case k7 => k_is); (case k8 => ktr_room); (case k9 => exact BindsTo.of_eq rfl); (case kB => exact rfl); (case kD => decide +kernel); (case c2 => exact rfl); (case c3 => exact rfl); (case c4 => exact rfl); k_whole; intro g' L' h' tk' cells' FG' F' N' Y' B' X' T' l1; (try k_lt l1); k_cells Y'; (try simp only [List.cons_append, List.nil_append] at N'); (try dsimp only); (try k_lift B'); (try k_fold))
  k_steps
  refine hret _ _ _ (by assumption) ?_
  (rename News _ _ _ _ => N9)
  exact cb_drop N9 (by intro p hp; repeat first | exact hp | refine List.mem_cons_of_mem _ ?_)
end Mine
end

section
open PySem PySem.W PyProof.Rows
namespace Mine
section
variable {prog : Program} {w : World} {A : Around} {E : Value → Shared → Prop} {s : Shared} {h₀ : Heap} {L : Addr} {news : List (Addr × Obj)} {Q : Value → Shared → Prop} {l : Addr} {vs : List Value} {n : Nat} {ns : List Int} {k : Int} {t : Tok}
theorem notin_new (N : News h₀ L s.heap news) (hm : (l, W.listOf vs.toArray n) ∈ news) (hi : IntsAre vs ns) (ha : (ns.any fun x => x == k) = false) (h : Q (.bool true) s) : wpAny (model prog w) A (compareOp .NotIn (.int k t) (.ref l)) Q E s :=
  notin_list_ints ⟨_, (N _ hm).1, rfl, _, rfl⟩ hi (by rw [ha]; exact h)
theorem eq_no {a b : Int} {u : Tok} (h : a ≠ b) (hQ : Q (.bool false) s) : wpAny (model prog w) A (compareOp .Eq (.int a t) (.int b u)) Q E s :=
  PyProof.Rows.eq_int (by rw [beq_eq_false_iff_ne.mpr h]; exact hQ)
end
local macro_rules | `(tactic| k_all) => `(tactic| assumption)
set_option maxRecDepth 100000 in
set_option maxHeartbeats 8000000 in
theorem change (w : World) (x dx dk lu lr : Addr) (okd : Obj) (k1 k2 k3 k4 k5 k6 k7 k8 tcur : Tok) (vprior vtold vemp vlim v0 : Value) (c : Int) (nU nR : Nat) (us rs : List Value) (nsu : List Int) (kvs : List (Int × Value)) (own : List (Addr × Obj))
    (h1 : @Ne Nat x dx) (h2 : @Ne Nat x dk) (h3 : @Ne Nat x lu) (h4 : @Ne Nat x lr) (h5 : @Ne Nat dx dk) (h6 : @Ne Nat dx lu) (h7 : @Ne Nat dx lr) (h8 : @Ne Nat dk lu) (h9 : @Ne Nat dk lr) (h10 : @Ne Nat lu lr)
    (o1 : ∀ p ∈ own, p.1 ≠ dx) (o2 : ∀ p ∈ own, p.1 ≠ dk) (o3 : ∀ p ∈ own, p.1 ≠ lu) (o4 : ∀ p ∈ own, p.1 ≠ lr)
    (hsm : (dk == sysModules) = false) (hok : okd.IsDictOf (PySem.intKind PG w) kvs) (hus : IntsAre us nsu) (huz : us.length < 64) (hrz : rs.length < 64) (hz : kvs.length < 64) (hc0 : valueAt kvs c = some v0) (hc1 : c + 1 ∈ kvs.map (·.1)) (hu : ∀ k ∈ kvs.map (·.1), nsu.any (fun x => x == k) = decide (k ≤ c)) :
    ∀ (mean : ExcName → Option Value) (mg mb : PySem.Str → Option Value) (dp un : Nat) (gd : Option (List Code)) (cn : PySem.Str) (cs : Scope) (a : Addr) (ccd : Value) (cl : List (PySem.Str × Addr)) (outer : List Env) (A₀ : Around) (base h₀ : Heap) (L : Addr) (m : PySem.Str → Option Value) (s : Shared) (Q E : Value → Shared → Prop)
    (B : Below A₀ base outer h₀) (F : Fr h₀ L s.heap m) (X : (hd.heap_39 w.params).In h₀)
    (N : News h₀ L s.heap ([(x, instObj 133 dx), (dx, dictOf (attrs w.params k1 k2 k3 k4 k5 k6 k7 k8 (.ref dk) (.int c tcur) (.ref lu) vprior vtold (.ref lr) vemp vlim) 8), (dk, okd), (lu, W.listOf us.toArray nU), (lr, W.listOf rs.toArray nR)] ++ own))
    (T : TopM mean mg mb h₀) (hcs : cs.kind = .function) (hdp : dp + 60 < recursionLimit) (hun : un + 120 < cLine)
    (hret : ∀ (h' : Heap) (tk' : Nat) (okd' : Obj) (t : Tok) (nU' nR' : Nat), Fr h₀ L h' m →
      News h₀ L h' ([(x, instObj 133 dx), (dx, dictOf (attrs w.params k1 k2 k3 k4 k5 k6 k7 k8 (.ref dk) (.int (c + 1) t) (.ref lu) vprior vtold (.ref lr) vemp vlim) 8), (dk, okd'), (lu, W.listOf (us.toArray.push (.int (c + 1) t)) nU'), (lr, W.listOf (rs.toArray.push (.int c tcur)) nR')] ++ own) →
      okd'.IsDictOf (PySem.intKind PG w) (without kvs c) → Q (.bool true) { s with heap := h', toks := tk' }),
    wpAny (model PySem.Challenge.rw_no0065_01.row.prog w) (ktrTop dp un gd cn cs L a ccd cl outer) (call (.ref 116) [.ref x]) Q E s := by
  w_top off
  k_with_none
  (k_with "m call ref" => (k_here; (with_reducible show wpAny _ _ (call (Value.ref _) (Value.ref _ :: _)) _ _ _); k_dflt (refine wpAny_call ?_; first | (refine' code_def ?k1Z51 ?k2Z51 ?k3Z51 ?k4Z51 ?k5Z51 ?kAZ51 ?kFZ51 ?kKZ51 ?k6Z51 ?k7Z51 ?k8Z51 ?k9Z51 ?kBZ51 ?_ ?c2Z51 ?c3Z51 ?c4Z51 ?c5Z51; (case kAZ51 => exact rfl); (case kFZ51 => exact rfl); (case kKZ51 => exact rfl); (case k1Z51 => k_asm); (case k2Z51 => k_asm); (case k3Z51 => k_asm); (case k4Z51 => k_asm); (case k5Z51 => k_asm); (case k6Z51 => k_is); (case k7Z51 => k_is); (case k8Z51 => ktr_room); (case k9Z51 => exact BindsTo.of_eq rfl); (case c5Z51 => decide); (case kBZ51 => exact locs rfl); (case c2Z51 => exact rfl); (case c3Z51 => exact rfl); (case c4Z51 => exact rfl); k_whole; intro g' L' h' FG' F' N' B' X' T'; (try dsimp only); (try k_lift B'); (try k_fold)))))
  (k_with "m call ref" => (k_here; k_dflt ((show wpAny _ _ (call (Value.ref 109) [Value.ref _]) _ _ _); refine' (fresh _ _ _ _ _ _ _ _ _ _ _ _ _ _ _ _ _ _ _ _ _ _ _ _ _ _ _ ?hxZ52 ?hdxZ52 ?hdkZ52 ?hluZ52 ?hsmZ52 ?hokZ52 ?husZ52 ?hzZ52 ?hc1Z52 ?huZ52) _ _ _ _ _ _ _ _ _ _ _ _ _ _ _ _ _ _ _ _ ?k1Z52 ?k2Z52 ?k3Z52 ?k4Z52 ?k5Z52 ?kKZ52 ?kdZ52 ?kuZ52 ?_; (case k1Z52 => k_asm); (case k2Z52 => k_asm); (case k3Z52 => k_asm); (case k4Z52 => k_asm); (case k5Z52 => k_asm); (case kKZ52 => rfl); (case kdZ52 => ktr_room); (case kuZ52 => ktr_room); (case hxZ52 => k_mem); (case hdxZ52 => k_mem); (case hdkZ52 => k_mem); (case hluZ52 => k_mem); (case hsmZ52 => assumption); (case hokZ52 => assumption); (case husZ52 => assumption); (case hzZ52 => assumption); (case hc1Z52 => assumption); (case huZ52 => assumption)); intro t9 h9 tk9 F9 N9; (try dsimp only); (try k_fold)))
  (k_with "m compareOp Eq int int" => (k_here; (with_reducible show wpAny _ _ (compareOp CmpOp.Eq (Value.int _ _) (Value.int _ _)) _ _ _); (refine eq_no (by omega) ?_)))
  (k_with "m compareOp NotIn int ref" => (k_here; k_dflt (refine' notin_new ?NZ54 ?mZ54 ?iZ54 ?aZ54 ?_; (case NZ54 => k_asm); (case mZ54 => k_mem); (case iZ54 => assumption); (case aZ54 => assumption))))
  (k_with "m call builtin:dict.pop" => (k_here; k_dflt ((with_reducible show wpAny _ _ (call (Value.builtin "dict.pop") [Value.ref _, Value.int _ _]) _ _ _); refine' kob_pop (knd := PySem.intKind _ _) (more := []) ?FZ55 ?NZ55 ?UZ55 ?dZ55 (intKind_is _ _ _ _) (.inl rfl) (by rfl) (PySem.F.args_dict_pop_2 _ _) ?lZ55 ?zZ55 ?_; (case FZ55 => k_asm); (case NZ55 => k_asm); (case UZ55 => k_updF); (case dZ55 => k_asm); (case lZ55 => assumption); (case zZ55 => (rw [sizeLine_eq]; omega))); intro h' o' F' N' hd'; (try dsimp only at N')))
  k_fill
  intro mean mg mb dp un gd cn cs a ccd cl outer A₀ base h₀ L m s Q E B F X N T hcs hdp hun hret
  simp only [List.cons_append, List.nil_append] at N
  have hn1 : (nsu.any fun x => x == c + 1) = false := by rw [hu _ hc1, decide_eq_false (by omega)]
  refine wpAny_call ?_
  k_dflt cell_enter
  k_steps
  all_goals (refine' hret _ _ _ _ _ _ ?kF ?kN ?ka; (case ka => assumption); (case kF => assumption); (case kN => (rename News _ _ _ _ => N9; refine' fun p hp => N9 p (List.forall_mem_append.mpr ⟨?ka, ?kb⟩ p hp); (case kb => (intro p hp; repeat (first | exact hp | refine List.mem_cons_of_mem _ ?_))); (case ka => ((repeat (refine' List.forall_mem_cons.mpr ⟨?kz, ?_⟩; (case kz => k_mem))); exact List.forall_mem_nil _)))))
end Mine
end

section
open PySem PySem.W PyProof.Rows PySem.Calls
set_option maxRecDepth 100000
namespace Mine
/-- a turn of a loop has gone by, and what is kept stands for the next -/
def TurnJ (h₀ : Heap) (L I : Addr) (it : Obj) (J : (PySem.Str → Option Value) → List (Addr × Obj) → Prop) (s : Shared) (f : Flow) (s' : Shared) : Prop :=
  f = .next ∧ ∃ h' tk' m' news', s' = { s with heap := h', toks := tk' } ∧ Fr h₀ L h' m' ∧ News h₀ L h' ((I, keepObj it) :: news') ∧ (∀ p ∈ news', p.1 ≠ I) ∧ J m' news'
/-- a range of n numbers from a stands to be walked -/
def RangeJ (h₀ : Heap) (L : Addr) (a : Int) (n : Nat) (J : (PySem.Str → Option Value) → List (Addr × Obj) → Prop) (s : Shared) (v : Value) (s₁ : Shared) : Prop :=
  ∃ (r : Addr) (t u v' : Tok) (h : Heap) (tk : Nat) (m : PySem.Str → Option Value) (news : List (Addr × Obj)) (b : Int), v = .ref r ∧ s₁ = { s with heap := h, toks := tk } ∧ IsRange h r a b 1 t u v' ∧ b = a + (n : Int) ∧ Fr h₀ L h m ∧ News h₀ L h news ∧ J m news
section
variable {prog : Program} {w : World} {A : Around} {s : Shared} {env : Env} {h₀ : Heap}
theorem forRangeJ {x : PySem.Str} {px pos : Pos} {iter : PySem.Expr} {body : List Stmt} {a : Int} {n : Nat} (J : Nat → (PySem.Str → Option Value) → List (Addr × Obj) → Prop) {Q : Flow → Shared → Prop}
    (hh : A.handled = none) (hx : env.kindOf x = some .local) (hp : (env.scope.kind == .class || (env.scope.kind == .module && env.locals != env.globals)) = false)
    (hiter : wpAny (model prog w) A (eval iter env) (RangeJ h₀ env.locals a n (J 0) s) (fun _ _ => False) s)
    (hsmall : Builtin.Range.small a (a + (n : Int)) 1 = true) (hsz : Builtin.Range.rangeSize a (a + (n : Int)) 1 = (n : Int))
    (turn : ∀ i t h tk m news (I : Addr) (it : Obj), i < n → it.cls = .type "range_iterator" → (∀ p ∈ news, p.1 ≠ I) → Fr h₀ env.locals h (fun y => if y = x then some (.int (a + (i : Int)) t) else m y) → News h₀ env.locals h ((I, keepObj it) :: news) → J i m news →
      wpR (model prog w) A (execs body env) (TurnJ h₀ env.locals I it (J (i + 1)) s) { s with heap := h, toks := tk })
    (done : ∀ h tk m news, Fr h₀ env.locals h m → News h₀ env.locals h news → J n m news → Q .next { s with heap := h, toks := tk })
    (hs : ∀ x, foldedSetIterable iter env x = pure x := by intro _; rfl) (ht : ∀ it v, letOwnedTupleGo (.Name x px) it v = pure () := by intro _ _; rfl) :
    wpR (model prog w) A (exec (.For (.Name x px) iter body [] pos) env) Q s := by
  refine wpR_For (wpAny_mono hiter (fun v s₁ h₁ => ?_) fun _ _ e => e) hs
  obtain ⟨r, t, u, v', hp₀, tk₀, m₀, news₀, b, rfl, rfl, hr, rfl, F, N, hJ₀⟩ := h₁
  refine wpAny_pyIter_range hr hsmall ?_
  generalize hI0 : ({ s with heap := hp₀, toks := tk₀ } : Shared).heap.objs.size = I₀
  have hI0' : hp₀.objs.size = I₀ := hI0
  have hIne : ∀ p ∈ news₀, p.1 ≠ I₀ := fun p hp => Nat.ne_of_lt (hI0' ▸ Heap.lt_size (N p hp).1)
  have hnew : h₀.get? I₀ = none := hI0' ▸ next_is_new F
  have hL : env.locals ≠ I₀ := hI0' ▸ Nat.ne_of_lt F.ns.lt
  have hit0 : IsRangeIter (hp₀.push { cls := .type "range_iterator", data := .fields #[rawInt a, rawInt (Builtin.Range.rangeSize a (a + (n : Int)) 1), rawInt 1] }) I₀ (a + ((0 : Nat) : Int)) ((n : Int) - ((0 : Nat) : Int)) 1 := by
    rw [hsz, ← hI0']
    simpa using Heap.get?_push_size _ rfl
  refine codeR_forLoop (fun k s' => ∃ h' tk m news i, s' = { s with heap := h', toks := tk } ∧ IsRangeIter h' I₀ (a + ((i : Nat) : Int)) ((n : Int) - (i : Int)) 1 ∧ (∀ p ∈ news, p.1 ≠ I₀) ∧ Fr h₀ env.locals h' m ∧ News h₀ env.locals h' news ∧ J i m news ∧ i ≤ n ∧ k = n - i) ?_ n
    ⟨_, tk₀, m₀, news₀, 0, rfl, hit0, hIne, F.push _, fun p hp => ⟨Heap.get?_push_of_some _ (N p hp).1, (N p hp).2⟩, hJ₀, Nat.zero_le _, rfl⟩ (ht _)
  rintro k s' ⟨h', tk, m, news, i, rfl, hit, hIn, F₁, N₁, hJ, hle, rfl⟩
  by_cases hlt : i < n
  · refine wpAny_pyNext_range_item hit (by omega) fun h₁ hit₁ hsb => ?_
    have F₂ := Fr.ext F₁ hnew hL hsb.extBut
    have N₂ := News.ext N₁ hIn hsb.extBut
    refine wpAny_assign_Name (wpAny_storeName_local hx F₂.ns (fun h₂ hn₂ hs₂ => ?_) hp)
    have F₃ := F₂.set hn₂ hs₂
    have N₃ := N₂.set hs₂
    have hit₂ : h₂.get? I₀ = some _ := (hs₂.2 _ hL.symm).trans hit₁
    refine wpR_mono (turn i tk h₂ (tk + 1 + 1) m news I₀ { cls := .type "range_iterator", data := .fields #[rawInt (a + (i : Int) + 1), rawInt ((n : Int) - (i : Int) - 1), rawInt 1] } hlt rfl hIn F₃ (fun p hp => ?_) hJ) fun f s' h' => ?_
    · rcases List.mem_cons.mp hp with rfl | hp
      · exact ⟨hit₂, hL.symm, hnew⟩
      · exact N₃ p hp
    · obtain ⟨rfl, h₄, tk₄, m₄, news₄, rfl, F₄, N₄, hIn₄, hJ₄⟩ := h'
      refine ⟨n - (i + 1), by omega, h₄, tk₄, m₄, news₄, i + 1, rfl, ?_, hIn₄, F₄, fun p hp => N₄ p (List.mem_cons_of_mem _ hp), hJ₄, hlt, rfl⟩
      have e1 : a + ((((i + 1 : Nat) : Nat)) : Int) = a + (i : Int) + 1 := by push_cast; omega
      rw [e1, show (n : Int) - (((i + 1 : Nat)) : Int) = (n : Int) - (i : Int) - 1 from by push_cast; omega]
      exact (N₄ _ (List.mem_cons_self ..)).1
  · have hin : i = n := by omega
    subst hin
    refine wpAny_pyNext_range_end hh hit (by omega) fun h₁ he => ?_
    exact done h₁ tk m news (Fr.ext F₁ hnew hL he) (News.ext N₁ hIn he) hJ
end
end Mine
end

section
open PySem PySem.W PyProof.Rows
namespace Mine
theorem nd9 {a b c d e f g h i : Nat} {P : Prop} (H : ([a, b, c, d, e, f, g, h, i] : List Nat).Nodup) (k : ¬ a = b → ¬ a = c → ¬ a = d → ¬ a = e → ¬ a = f → ¬ a = g → ¬ a = h → ¬ a = i → ¬ b = c → ¬ b = d → ¬ b = e → ¬ b = f → ¬ b = g → ¬ b = h → ¬ b = i → ¬ c = d → ¬ c = e → ¬ c = f → ¬ c = g → ¬ c = h → ¬ c = i → ¬ d = e → ¬ d = f → ¬ d = g → ¬ d = h → ¬ d = i → ¬ e = f → ¬ e = g → ¬ e = h → ¬ e = i → ¬ f = g → ¬ f = h → ¬ f = i → ¬ g = h → ¬ g = i → ¬ h = i → P) : P := by
  simp only [List.nodup_cons, List.mem_cons, List.not_mem_nil, or_false, not_or, not_false_eq_true, List.nodup_nil, and_true] at H
  exact k H.1.1 H.1.2.1 H.1.2.2.1 H.1.2.2.2.1 H.1.2.2.2.2.1 H.1.2.2.2.2.2.1 H.1.2.2.2.2.2.2.1 H.1.2.2.2.2.2.2.2 H.2.1.1 H.2.1.2.1 H.2.1.2.2.1 H.2.1.2.2.2.1 H.2.1.2.2.2.2.1 H.2.1.2.2.2.2.2.1 H.2.1.2.2.2.2.2.2 H.2.2.1.1 H.2.2.1.2.1 H.2.2.1.2.2.1 H.2.2.1.2.2.2.1 H.2.2.1.2.2.2.2.1 H.2.2.1.2.2.2.2.2 H.2.2.2.1.1 H.2.2.2.1.2.1 H.2.2.2.1.2.2.1 H.2.2.2.1.2.2.2.1 H.2.2.2.1.2.2.2.2 H.2.2.2.2.1.1 H.2.2.2.2.1.2.1 H.2.2.2.2.1.2.2.1 H.2.2.2.2.1.2.2.2 H.2.2.2.2.2.1.1 H.2.2.2.2.2.1.2.1 H.2.2.2.2.2.1.2.2 H.2.2.2.2.2.2.1.1 H.2.2.2.2.2.2.1.2 H.2.2.2.2.2.2.2
theorem ac {α : Type} {P : α → Prop} {a : α} {l : List α} (h : P a) (h2 : ∀ p ∈ l, P p) : ∀ p ∈ a :: l, P p := List.forall_mem_cons.mpr ⟨h, h2⟩
theorem ac0 {α : Type} {P : α → Prop} : ∀ p ∈ ([] : List α), P p := fun _ h => nomatch h
theorem News.part {h₀ h : Heap} {L : Addr} {A B : List (Addr × Obj)} (N : News h₀ L h B) (hs : ∀ p ∈ A, p ∈ B) : News h₀ L h A := fun p hp => N p (hs p hp)
/-- all that has a name ahead of the law's last loop -/
structure Nm where
  x : Addr
  dx : Addr
  dk : Addr
  lu : Addr
  dt : Addr
  lr : Addr
  kd : Addr
  ul : Addr
  sl : Addr
  okd : Obj
  ot : Obj
  okl : Obj
  k1 : Tok
  k2 : Tok
  k3 : Tok
  k4 : Tok
  k5 : Tok
  k6 : Tok
  k7 : Tok
  k8 : Tok
  tcur : Tok
  tp : Tok
  t6 : Tok
  nU : Nat
  nR : Nat
  nUl : Nat
  nS : Nat
  kvs : List (Int × Value)
  kvt : List (Int × Value)
  kvd : List (Int × Value)
  us : List Value
  us2 : List Value
  rs : List Value
  own : List (Addr × Obj)
/-- the ledger -/
abbrev ledO (w : World) (c : Nat) (vs : List Value) (u : Nm) : List (Addr × Obj) :=
  [(u.x, instObj 133 u.dx), (u.dx, dictOf (attrs w.params u.k1 u.k2 u.k3 u.k4 u.k5 u.k6 u.k7 u.k8 (.ref u.dk) (.int c u.tcur) (.ref u.lu) (.int 0 u.tp) (.ref u.dt) (.ref u.lr) (.bool false) (.int 6 u.t6)) 8), (u.dk, u.okd), (u.lu, W.listOf u.us.toArray u.nU), (u.dt, u.ot), (u.lr, W.listOf u.rs.toArray u.nR), (u.kd, u.okl), (u.ul, W.listOf u.us2.toArray u.nUl), (u.sl, W.listOf vs.toArray u.nS)] ++ u.own
/-- the octets of an id -/
def cidOf (k : Int) : Array UInt8 := if k = 0 then #[102, 105, 114, 115, 116] else byteArr [k, 1]
def usedTo (c : Nat) : List Int := (List.range (c + 1)).map Int.ofNat
/-- the token of an id in the user's tables -/
def tokIs (v0 : Value) (k : Int) (tv : Value) : Prop := if k = 0 then tv = v0 else ∃ t, tv = .bytes (tok k) t
structure US (w : World) (b0 : Bool) (v0 : Value) (n c : Nat) (u : Nm) : Prop where
  nd : ([u.x, u.dx, u.dk, u.lu, u.dt, u.lr, u.kd, u.ul, u.sl] : List Nat).Nodup
  tups : ∀ p ∈ u.own, p.2.cls = .type "tuple"
  off : ∀ p ∈ u.own, p.1 ∉ ([u.x, u.dx, u.dk, u.lu, u.dt, u.lr, u.kd, u.ul, u.sl] : List Nat)
  m1 : (u.dk == sysModules) = false
  m2 : (u.dt == sysModules) = false
  m3 : (u.kd == sysModules) = false
  hk : u.okd.IsDictOf (PySem.intKind PG w) u.kvs
  ht : u.ot.IsDictOf (PySem.intKind PG w) u.kvt
  hl : u.okl.IsDictOf (PySem.intKind PG w) u.kvd
  kk : ∀ k : Int, k ∈ u.kvs.map (·.1) ↔ (c : Int) ≤ k ∧ k < n
  kt : ∀ k : Int, k ∈ u.kvt.map (·.1) ↔ 0 ≤ k ∧ k < n
  lk : u.kvs.length ≤ n
  lt : u.kvt.length ≤ n
  ll : u.kvd.length ≤ n
  tk : ∀ k y, (k, y) ∈ u.kvs → ∃ a cid t tv nT, y = .ref a ∧ (a, tup #[.bytes cid t, tv] nT) ∈ u.own ∧ tokIs v0 k tv
  tt : ∀ k y, (k, y) ∈ u.kvt → ∃ a t tv nT, y = .ref a ∧ (a, tup #[.bytes (cidOf k) t, tv] nT) ∈ u.own
  kd : ∀ k : Int, valueAt u.kvd k = if (c : Int) ≤ k ∧ k < n then some (.bool (decide (k ≠ 0) || b0)) else none
  iu : IntsAre u.us (usedTo c)
  iu2 : IntsAre u.us2 (usedTo c)
  lrs : u.rs.length ≤ c
theorem ne_I {w : World} {c : Nat} {vs : List Value} {u : Nm} {I : Addr} (hI : ∀ p ∈ ledO w c vs u, p.1 ≠ I) : ∀ b ∈ ([u.x, u.dx, u.dk, u.lu, u.dt, u.lr, u.kd, u.ul, u.sl] : List Nat), ¬ b = I := by
  simp only [ledO, List.cons_append, List.nil_append, List.mem_cons, forall_eq_or_imp] at hI
  exact ac hI.1 (ac hI.2.1 (ac hI.2.2.1 (ac hI.2.2.2.1 (ac hI.2.2.2.2.1 (ac hI.2.2.2.2.2.1 (ac hI.2.2.2.2.2.2.1 (ac hI.2.2.2.2.2.2.2.1 (ac hI.2.2.2.2.2.2.2.2.1 ac0))))))))
/-- what is read by its name -/
def Reads (m : PySem.Str → Option Value) (u : Nm) : Prop :=
  m (PySem.Str.ofString "some") = some (.ref u.sl) ∧ m (PySem.Str.ofString "user") = some (.ref u.x) ∧ m (PySem.Str.ofString "known") = some (.ref u.kd) ∧ m (PySem.Str.ofString "used") = some (.ref u.ul)
def JU (w : World) (b0 : Bool) (v0 : Value) (vs : List Value) (n c : Nat) (m : PySem.Str → Option Value) (news : List (Addr × Obj)) : Prop :=
  ∃ u : Nm, news = ledO w c vs u ∧ US w b0 v0 n c u ∧ Reads m u
section
variable {kvs : List (Int × Value)} {k n : Int} {v : Value}
theorem valueAt_none (h : k ∉ kvs.map (·.1)) : valueAt kvs k = none := by
  simp only [valueAt, Option.map_eq_none_iff, List.find?_eq_none]
  intro p hp e
  exact h (List.mem_map.mpr ⟨p, hp, of_decide_eq_true e⟩)
theorem valueAt_some (h : k ∈ kvs.map (·.1)) : ∃ v, valueAt kvs k = some v ∧ (k, v) ∈ kvs := by
  cases e : kvs.find? (fun kv => decide (kv.1 = k)) with
  | none =>
    rw [List.find?_eq_none] at e
    obtain ⟨p, hp, e2⟩ := List.mem_map.mp h
    exact absurd (decide_eq_true e2) (e p hp)
  | some p =>
    have h1 := List.find?_some e
    have h2 := List.mem_of_find?_eq_some e
    have h3 : p.1 = k := of_decide_eq_true h1
    refine ⟨p.2, by simp only [valueAt, e]; rfl, ?_⟩
    rw [← h3]
    exact h2
theorem keys_stored (h : valueAt kvs n = none) : k ∈ (stored kvs n v).map (·.1) ↔ k ∈ kvs.map (·.1) ∨ k = n := by
  rw [stored_new h, List.map_append, List.mem_append, List.map_cons, List.map_nil, List.mem_singleton]
theorem keys_without : k ∈ (without kvs n).map (·.1) ↔ k ∈ kvs.map (·.1) ∧ k ≠ n := by
  simp only [without, List.mem_map, List.mem_filter, decide_eq_true_eq]
  constructor
  · rintro ⟨p, ⟨h1, h2⟩, rfl⟩
    exact ⟨⟨p, h1, rfl⟩, h2⟩
  · rintro ⟨⟨p, h1, rfl⟩, h2⟩
    exact ⟨p, ⟨h1, h2⟩, rfl⟩
theorem mem_stored {p : Int × Value} (h : valueAt kvs n = none) (hp : p ∈ stored kvs n v) : p ∈ kvs ∨ p = (n, v) := by
  rw [stored_new h, List.mem_append, List.mem_singleton] at hp
  exact hp
theorem mem_without {p : Int × Value} (hp : p ∈ without kvs n) : p ∈ kvs := (List.mem_filter.mp hp).1
theorem valueAt_append_none (h : valueAt kvs k = none) : valueAt (kvs ++ [(n, v)]) k = if k = n then some v else none := by
  simp only [valueAt, Option.map_eq_none_iff] at h
  simp only [valueAt, List.find?_append, h, Option.none_or]
  by_cases e : k = n
  · simp [e]
  · have : ¬ n = k := fun x => e x.symm
    simp [e, this]
theorem valueAt_append_some {y : Value} (h : valueAt kvs k = some y) : valueAt (kvs ++ [(n, v)]) k = some y := by
  simp only [valueAt, Option.map_eq_some_iff] at h
  obtain ⟨p, hp, rfl⟩ := h
  simp only [valueAt, List.find?_append, hp, Option.some_or]
  rfl
theorem valueAt_without : valueAt (without kvs n) k = if k = n then none else valueAt kvs k := by
  simp only [valueAt, without, List.find?_filter]
  by_cases e : k = n
  · subst e
    rw [if_pos rfl, Option.map_eq_none_iff, List.find?_eq_none]
    intro p hp
    simp
  · rw [if_neg e]
    congr 1
    congr 1
    funext p
    by_cases e2 : p.1 = k
    · have : ¬ p.1 = n := fun z => e (e2 ▸ z)
      simp [e2, e]
    · simp [e2]
end
theorem usedTo_succ (c : Nat) : usedTo (c + 1) = usedTo c ++ [((c : Int) + 1)] := by
  unfold usedTo
  rw [List.range_succ, List.map_append, List.map_cons, List.map_nil]
  rfl
theorem usedTo_any (c : Nat) (k : Int) : ((usedTo c).any fun x => x == k) = decide (0 ≤ k ∧ k ≤ c) := by
  unfold usedTo
  rw [Bool.eq_iff_iff, List.any_eq_true, decide_eq_true_eq]
  constructor
  · rintro ⟨x, hx, e⟩
    obtain ⟨i, hi, rfl⟩ := List.mem_map.mp hx
    have := List.mem_range.mp hi
    have e' := beq_iff_eq.mp e
    have e2 : Int.ofNat i = (i : Int) := rfl
    omega
  · rintro ⟨h1, h2⟩
    exact ⟨Int.ofNat k.toNat, List.mem_map.mpr ⟨k.toNat, List.mem_range.mpr (by omega), rfl⟩, beq_iff_eq.mpr (Int.toNat_of_nonneg h1)⟩
end Mine
end

section
open PySem PySem.W PyProof.Rows
namespace Mine
theorem byteArr_toList (l : List Int) : (byteArr l).toList = l.map fun i => i.toNat.toUInt8 := by
  unfold byteArr
  simp
theorem cid_ne {k n : Int} (h0 : 0 ≤ k) (h1 : k < n) (h2 : n < 256) : ((cidOf k).toList == (cidOf n).toList) = false := by
  rw [beq_eq_false_iff_ne]
  intro e
  unfold cidOf at e
  rw [if_neg (show ¬ n = 0 by omega)] at e
  by_cases hk : k = 0
  · rw [if_pos hk] at e
    have := congrArg List.length e
    rw [byteArr_toList] at this
    simp at this
  · rw [if_neg hk, byteArr_toList, byteArr_toList] at e
    simp only [List.map_cons, List.cons.injEq] at e
    have h3 : k.toNat.toUInt8.toNat = n.toNat.toUInt8.toNat := by rw [e.1]
    have h4 : k.toNat % 256 = n.toNat % 256 := h3
    omega
theorem tok_at {a b : Int} {t : Tok} (h : a = b) : ∃ t2, Value.bytes (tok a) t = Value.bytes (tok b) t2 := ⟨t, by rw [h]⟩
theorem US.step {w : World} {b0 : Bool} {v0 : Value} {n : Nat} {u : Nm} (U : US w b0 v0 n 0 u) (hn : 1 ≤ n) {a1 a2 : Addr} {okd' ot' okl' : Obj} {t1 : Tok} {cid : Array UInt8} {tv : Value}
    (hk : okd'.IsDictOf (PySem.intKind PG w) (stored u.kvs n (.ref a2))) (ht : ot'.IsDictOf (PySem.intKind PG w) (stored u.kvt n (.ref a1))) (hl : okl'.IsDictOf (PySem.intKind PG w) (stored u.kvd n (.bool true)))
    (hc : cid = cidOf n) (hv : ∃ t2, tv = .bytes (tok n) t2)
    (o1 : a1 ∉ ([u.x, u.dx, u.dk, u.lu, u.dt, u.lr, u.kd, u.ul, u.sl] : List Nat)) (o2 : a2 ∉ ([u.x, u.dx, u.dk, u.lu, u.dt, u.lr, u.kd, u.ul, u.sl] : List Nat)) :
    US w b0 v0 (n + 1) 0 { u with okd := okd', ot := ot', okl := okl', kvs := stored u.kvs n (.ref a2), kvt := stored u.kvt n (.ref a1), kvd := stored u.kvd n (.bool true), own := (a1, tup #[.bytes cid t1, tv] 0) :: (a2, tup #[.bytes cid t1, tv] 0) :: u.own } := by
  subst hc
  obtain ⟨t2, rfl⟩ := hv
  have ek : valueAt u.kvs n = none := valueAt_none fun h => by have := (U.kk n).mp h; omega
  have et : valueAt u.kvt n = none := valueAt_none fun h => by have := (U.kt n).mp h; omega
  have el : valueAt u.kvd n = none := by rw [U.kd, if_neg (by omega)]
  refine ⟨U.nd, ?_, ?_, U.m1, U.m2, U.m3, hk, ht, hl, ?_, ?_, ?_, ?_, ?_, ?_, ?_, ?_, U.iu, U.iu2, U.lrs⟩
  · intro p hp
    rcases List.mem_cons.mp hp with rfl | hp
    · rfl
    · rcases List.mem_cons.mp hp with rfl | hp
      · rfl
      · exact U.tups p hp
  · intro p hp
    rcases List.mem_cons.mp hp with rfl | hp
    · exact o1
    · rcases List.mem_cons.mp hp with rfl | hp
      · exact o2
      · exact U.off p hp
  · intro k
    rw [keys_stored ek, U.kk]
    push_cast
    omega
  · intro k
    rw [keys_stored et, U.kt]
    push_cast
    omega
  · rw [stored_new ek, List.length_append, List.length_singleton]
    have := U.lk
    omega
  · rw [stored_new et, List.length_append, List.length_singleton]
    have := U.lt
    omega
  · rw [stored_new el, List.length_append, List.length_singleton]
    have := U.ll
    omega
  · intro k y hy
    rcases mem_stored ek hy with h | h
    · obtain ⟨a, cid, t, tv, nT, e, hm, hi⟩ := U.tk k y h
      exact ⟨a, cid, t, tv, nT, e, List.mem_cons_of_mem _ (List.mem_cons_of_mem _ hm), hi⟩
    · obtain ⟨rfl, rfl⟩ := Prod.mk.inj h
      refine ⟨a2, _, _, _, _, rfl, List.mem_cons_of_mem _ (List.mem_cons_self ..), ?_⟩
      unfold tokIs
      rw [if_neg (by omega)]
      exact ⟨_, rfl⟩
  · intro k y hy
    rcases mem_stored et hy with h | h
    · obtain ⟨a, t, tv, nT, e, hm⟩ := U.tt k y h
      exact ⟨a, t, tv, nT, e, List.mem_cons_of_mem _ (List.mem_cons_of_mem _ hm)⟩
    · obtain ⟨rfl, rfl⟩ := Prod.mk.inj h
      exact ⟨a1, _, _, _, rfl, List.mem_cons_self ..⟩
  · intro k
    rw [stored_new el]
    by_cases h : valueAt u.kvd k = none
    · rw [valueAt_append_none h]
      have h2 := h
      rw [U.kd] at h2
      by_cases hkn : k = n
      · subst hkn
        rw [if_pos rfl, if_pos (by push_cast; omega)]
        rw [decide_eq_true (by omega)]
        rfl
      · rw [if_neg hkn, if_neg ?_]
        intro h3
        rw [if_pos (by push_cast at h3; omega)] at h2
        cases h2
    · obtain ⟨y, hy⟩ := Option.ne_none_iff_exists'.mp h
      rw [valueAt_append_some hy]
      rw [U.kd] at hy
      by_cases h3 : (((0 : Nat) : Int) ≤ k ∧ k < n)
      · rw [if_pos h3] at hy
        rw [if_pos (by push_cast at h3 ⊢; omega)]
        exact hy.symm
      · rw [if_neg h3] at hy
        cases hy
theorem US.shift {w : World} {b0 : Bool} {v0 : Value} {n c : Nat} {u : Nm} (U : US w b0 v0 n c u) {okd' okl' : Obj} {t t2 t3 : Tok} {q1 q2 q3 : Nat}
    (hk : okd'.IsDictOf (PySem.intKind PG w) (without u.kvs c)) (hl : okl'.IsDictOf (PySem.intKind PG w) (without u.kvd c)) :
    US w b0 v0 n (c + 1) { u with okd := okd', okl := okl', tcur := t, nU := q1, nUl := q2, nR := q3, us := u.us ++ [.int ((c : Int) + 1) t], us2 := u.us2 ++ [.int ((c : Int) + 1) t2], rs := u.rs ++ [.int c t3], kvs := without u.kvs c, kvd := without u.kvd c } := by
  refine ⟨U.nd, U.tups, U.off, U.m1, U.m2, U.m3, hk, U.ht, hl, ?_, U.kt, ?_, U.lt, ?_, ?_, U.tt, ?_, ?_, ?_, ?_⟩
  · intro k
    rw [keys_without, U.kk]
    push_cast
    omega
  · exact Nat.le_trans (List.length_filter_le _ _) U.lk
  · exact Nat.le_trans (List.length_filter_le _ _) U.ll
  · intro k y hy
    exact U.tk k y (mem_without hy)
  · intro k
    rw [valueAt_without, U.kd]
    by_cases h : k = c
    · rw [if_pos h, if_neg (by push_cast; omega)]
    · rw [if_neg h]
      by_cases h2 : ((c : Int) ≤ k ∧ k < n)
      · rw [if_pos h2, if_pos (by push_cast; omega)]
      · rw [if_neg h2, if_neg (by push_cast; omega)]
  · rw [usedTo_succ]
    exact IntsAre.append U.iu (.cons _ _ .nil)
  · rw [usedTo_succ]
    exact IntsAre.append U.iu2 (.cons _ _ .nil)
  · rw [List.length_append, List.length_singleton]
    have := U.lrs
    omega
end Mine
end

section
open PySem PySem.W PyProof.Rows
namespace Mine
theorem isTok_tok {k c : Int} {t : Tok} (h0 : 0 ≤ k) (h6 : k < 6) (c0 : 0 ≤ c) (c2 : c ≤ 2) : isTok k (.bytes (tok c) t) = decide (k = c) := by
  have hk : k = 0 ∨ k = 1 ∨ k = 2 ∨ k = 3 ∨ k = 4 ∨ k = 5 := by omega
  have hc : c = 0 ∨ c = 1 ∨ c = 2 := by omega
  show ((tok c).toList == (tok k).toList) = decide (k = c)
  rcases hk with rfl | rfl | rfl | rfl | rfl | rfl <;> rcases hc with rfl | rfl | rfl <;> decide +kernel
theorem ints1 {us : List Value} {a : Int} (h : IntsAre us [a]) : ∃ u0, us = [.int a u0] := by
  cases h with
  | cons n t h => cases h; exact ⟨t, rfl⟩
theorem ints2 {us : List Value} {a b : Int} (h : IntsAre us [a, b]) : ∃ u0 u1, us = [.int a u0, .int b u1] := by
  cases h with
  | cons n t h =>
    obtain ⟨u1, rfl⟩ := ints1 h
    exact ⟨t, u1, rfl⟩
theorem ints3 {us : List Value} {a b c : Int} (h : IntsAre us [a, b, c]) : ∃ u0 u1 u2, us = [.int a u0, .int b u1, .int c u2] := by
  cases h with
  | cons n t h =>
    obtain ⟨u1, u2, rfl⟩ := ints2 h
    exact ⟨t, u1, u2, rfl⟩
/-- the datum that the law keeps of an id -/
def flagOf (b0 : Bool) (c : Nat) (k : Int) : Bool := decide (k = c) && (decide (k ≠ 0) || b0)
theorem mid_of {w : World} {h₀ h : Heap} {L : Addr} {s₁ : Shared} {tk : Nat} {m : PySem.Str → Option Value} {news : List (Addr × Obj)} {vs : List Value} {ns : List Int} {n c : Nat} {b0 : Bool} {v0 : Value}
    (F : Fr h₀ L h m) (N : News h₀ L h news) (J : JU w b0 v0 vs n c m news) (hvs : IntsAre vs ns) (hc : c ≤ 2) (hcn : c < n) (hb : (b0 = false ∧ v0 = .none) ∨ (b0 = true ∧ ∃ t, v0 = .bytes (tok 0) t)) :
    Mid w h₀ L s₁ { s₁ with heap := h, toks := tk } := by
  obtain ⟨u, rfl, U, r1, r2, r3, r4⟩ := J
  obtain ⟨y, hy, hmem⟩ := valueAt_some (kvs := u.kvs) (k := (c : Int)) ((U.kk c).mpr ⟨by omega, by omega⟩)
  obtain ⟨tc, cid, tcid, tv, nT, rfl, htc, htv⟩ := U.tk _ _ hmem
  have htv' : tv = .none ∨ ∃ t, tv = .bytes (tok c) t := by
    unfold tokIs at htv
    by_cases h : (c : Int) = 0
    · rw [if_pos h] at htv
      rw [htv, h]
      rcases hb with ⟨_, rfl⟩ | ⟨_, t, rfl⟩
      · exact .inl rfl
      · exact .inr ⟨t, rfl⟩
    · rw [if_neg h] at htv
      exact .inr htv
  have hno : ∀ k : Int, k < c → valueAt u.kvs k = none := fun k hk => valueAt_none fun hh => by have := (U.kk k).mp hh; omega
  refine ⟨h, tk, m, u.x, u.dx, u.dk, u.lu, tc, u.kd, u.ul, u.sl, u.okd, u.okl, W.listOf u.us.toArray u.nU, tup #[.bytes cid tcid, tv] nT, u.k1, u.k2, u.k3, u.k4, u.k5, u.k6, u.k7, u.k8, u.tcur, .int 0 u.tp, .ref u.dt, .ref u.lr, .bool false, .int 6 u.t6, 8, u.nUl, u.nS, tv, u.us2, vs, ns, usedTo c, u.kvd, (c : Int), flagOf b0 c, rfl, F, ?_, r1, r2, r3, r4, U.hl, U.m3, hvs, U.iu2, ?_, by omega, by omega, htv', ?_, ?_, ?_⟩
  · refine News.part N ?_
    iterate 4 (refine ac (by repeat (first | exact List.Mem.head _ | refine List.Mem.tail _ ?_)) ?_)
    refine ac (List.mem_append_right _ htc) ?_
    iterate 3 (refine ac (by repeat (first | exact List.Mem.head _ | refine List.Mem.tail _ ?_)) ?_)
    exact ac0
  · unfold usedTo
    rw [List.length_map, List.length_range]
    omega
  · intro k h0 h6 hk
    have hk' : (usedTo c).any (fun x => x == k) = true := List.any_eq_true.mpr ⟨k, hk, beq_self_eq_true k⟩
    rw [usedTo_any, decide_eq_true_eq] at hk'
    rw [U.kd]
    by_cases e : k = c
    · rw [if_pos (by omega)]
      refine .inl ?_
      unfold flagOf
      rw [decide_eq_true e, Bool.true_and]
    · rw [if_neg (by omega)]
      refine .inr ⟨rfl, ?_⟩
      unfold flagOf
      rw [decide_eq_false e, Bool.false_and]
  · intro k h0 h6
    have hm : decide (k ∈ usedTo c) = decide (0 ≤ k ∧ k ≤ c) := by
      rw [← usedTo_any]
      rw [Bool.eq_iff_iff, decide_eq_true_eq, List.any_eq_true]
      constructor
      · intro hh
        exact ⟨k, hh, beq_self_eq_true k⟩
      · rintro ⟨z, hz, e⟩
        exact (beq_iff_eq.mp e) ▸ hz
    rw [hm]
    unfold tokIs at htv
    by_cases h : (c : Int) = 0
    · rw [if_pos h] at htv
      subst htv
      unfold flagOf
      rcases hb with ⟨rfl, rfl⟩ | ⟨rfl, t, rfl⟩
      · show _ = false
        by_cases e : k = c
        · rw [e, h]; simp
        · rw [decide_eq_false e]; simp
      · rw [isTok_tok h0 h6 (by decide) (by decide)]
        by_cases e : k = c
        · rw [e, h]; simp
        · rw [decide_eq_false e, decide_eq_false (p := k = 0) (by omega)]; simp
    · rw [if_neg h] at htv
      obtain ⟨t, rfl⟩ := htv
      rw [isTok_tok h0 h6 (by omega) (by omega)]
      unfold flagOf
      by_cases e : k = c
      · rw [decide_eq_true e, decide_eq_true (p := 0 ≤ k ∧ k ≤ c) (by omega), decide_eq_true (p := k ≠ 0) (by omega)]
        rfl
      · rw [decide_eq_false e]; simp
  · intro D tD nw hD hs
    have a1 := hs.mem _ (List.mem_cons_self ..)
    have a2 := hs.mem _ (List.mem_cons_of_mem _ (List.mem_cons_self ..))
    have a3 := hs.mem _ (List.mem_cons_of_mem _ (List.mem_cons_of_mem _ (List.mem_cons_self ..)))
    have a4 := hs.mem _ (List.mem_cons_of_mem _ (List.mem_cons_of_mem _ (List.mem_cons_of_mem _ (List.mem_cons_self ..))))
    have a5 := hs.mem _ (List.mem_cons_of_mem _ (List.mem_cons_of_mem _ (List.mem_cons_of_mem _ (List.mem_cons_of_mem _ (List.mem_cons_self ..)))))
    have iu := U.iu
    have hcc : c = 0 ∨ c = 1 ∨ c = 2 := by omega
    rcases hcc with rfl | rfl | rfl
    · obtain ⟨u0, e⟩ := ints1 (a := 0) iu
      rw [e] at a4
      unfold tokIs at htv
      rw [if_pos (show ((0 : Nat) : Int) = 0 from rfl)] at htv
      subst htv
      rcases hb with ⟨rfl, rfl⟩ | ⟨rfl, t, rfl⟩
      · exact reset0n (u1 := 0) (u2 := 0) (D := D) (tD := tD) (hx := a1) (hdx := a2) (hdk := a3) (hlu := a4) (htc := a5) (hsm := U.m1) (hok := U.hk) (h0 := hy) (hD := hD)
      · exact reset0b (u1 := 0) (u2 := 0) (D := D) (tD := tD) (hx := a1) (hdx := a2) (hdk := a3) (hlu := a4) (htc := a5) (hsm := U.m1) (hok := U.hk) (h0 := hy) (hD := hD)
    · obtain ⟨u0, u1, e⟩ := ints2 (a := 0) (b := 1) iu
      rw [e] at a4
      unfold tokIs at htv
      rw [if_neg (by decide)] at htv
      obtain ⟨t, rfl⟩ := htv
      exact reset1b (u2 := 0) (D := D) (tD := tD) (hx := a1) (hdx := a2) (hdk := a3) (hlu := a4) (htc := a5) (hsm := U.m1) (hok := U.hk) (h0 := hno 0 (by decide)) (h1 := hy) (hD := hD)
    · obtain ⟨u0, u1, u2, e⟩ := ints3 (a := 0) (b := 1) (c := 2) iu
      rw [e] at a4
      unfold tokIs at htv
      rw [if_neg (by decide)] at htv
      obtain ⟨t, rfl⟩ := htv
      exact reset2b (D := D) (tD := tD) (hx := a1) (hdx := a2) (hdk := a3) (hlu := a4) (htc := a5) (hsm := U.m1) (hok := U.hk) (h0 := hno 0 (by decide)) (h1 := hno 1 (by decide)) (h2 := hy) (hD := hD)
end Mine
end

section
open PySem PySem.W PyProof.Rows
namespace Mine
/-- the first token and what the law says of it -/
def HB (b0 : Bool) (v0 : Value) : Prop := (b0 = false ∧ v0 = .none) ∨ (b0 = true ∧ ∃ t, v0 = .bytes (tok 0) t)
theorem HB.yes {z : Int} {t : Tok} (h : z.fmod 2 = 0) : HB (z.fmod 2 == 0) (.bytes (tok 0) t) := .inr ⟨beq_iff_eq.mpr h, t, rfl⟩
theorem HB.no {z : Int} (h : z.fmod 2 ≠ 0) : HB (z.fmod 2 == 0) .none := .inl ⟨beq_eq_false_iff_ne.mpr h, rfl⟩
abbrev ledA (w : World) (vs : List Value) (v0 : Value) (x dx dk lu dt lr sl a1 a2 : Addr) (okd ot : Obj) (k1 k2 k3 k4 k5 k6 k7 k8 tcur tp t6 u0 t1 t2 : Tok) (nU nR nS n1 n2 : Nat) : List (Addr × Obj) :=
  [(x, instObj 133 dx), (dx, dictOf (attrs w.params k1 k2 k3 k4 k5 k6 k7 k8 (.ref dk) (.int 0 tcur) (.ref lu) (.int 0 tp) (.ref dt) (.ref lr) (.bool false) (.int 6 t6)) 8), (dk, okd), (lu, W.listOf #[.int 0 u0] nU), (dt, ot), (lr, W.listOf #[] nR), (sl, W.listOf vs.toArray nS), (a1, tup #[.bytes #[102, 105, 114, 115, 116] t1, v0] n1), (a2, tup #[.bytes #[102, 105, 114, 115, 116] t2, v0] n2)]
/-- the state after the first three statements -/
def PA (w : World) (h₀ : Heap) (L : Addr) (s₁ s' : Shared) : Prop :=
  ∃ (h : Heap) (tk : Nat) (m : PySem.Str → Option Value) (vs : List Value) (ns : List Int) (v0 : Value) (x dx dk lu dt lr sl a1 a2 : Addr) (okd ot : Obj) (k1 k2 k3 k4 k5 k6 k7 k8 tcur tp t6 u0 t1 t2 : Tok) (nU nR nS n1 n2 : Nat),
    s' = { s₁ with heap := h, toks := tk } ∧ Fr h₀ L h m ∧ News h₀ L h (ledA w vs v0 x dx dk lu dt lr sl a1 a2 okd ot k1 k2 k3 k4 k5 k6 k7 k8 tcur tp t6 u0 t1 t2 nU nR nS n1 n2) ∧
    ([x, dx, dk, lu, dt, lr, sl, a1, a2] : List Nat).Nodup ∧ (dk == sysModules) = false ∧ (dt == sysModules) = false ∧ okd.IsDictOf (PySem.intKind PG w) [(0, .ref a1)] ∧ ot.IsDictOf (PySem.intKind PG w) [(0, .ref a2)] ∧
    m (PySem.Str.ofString "some") = some (.ref sl) ∧ m (PySem.Str.ofString "user") = some (.ref x) ∧ IntsAre vs ns ∧ 3 ≤ ns.length ∧ HB ((ns.getD 0 0).fmod 2 == 0) v0
theorem PA.intro {w : World} {h₀ : Heap} {L : Addr} {s₁ : Shared} {h : Heap} {tk : Nat} {m : PySem.Str → Option Value} {vs : List Value} {ns : List Int} {v0 : Value} {x dx dk lu dt lr sl a1 a2 : Addr} {okd ot : Obj} {k1 k2 k3 k4 k5 k6 k7 k8 tcur tp t6 u0 t1 t2 : Tok} {nU nR nS n1 n2 : Nat} {all : List (Addr × Obj)}
    (F : Fr h₀ L h m) (N : News h₀ L h all) (e1 : m (PySem.Str.ofString "some") = some (.ref sl)) (e2 : m (PySem.Str.ofString "user") = some (.ref x))
    (q1 : (x, instObj 133 dx) ∈ all) (q2 : (dx, dictOf (attrs w.params k1 k2 k3 k4 k5 k6 k7 k8 (.ref dk) (.int 0 tcur) (.ref lu) (.int 0 tp) (.ref dt) (.ref lr) (.bool false) (.int 6 t6)) 8) ∈ all) (q3 : (dk, okd) ∈ all) (q4 : (dt, ot) ∈ all)
    (hd : okd.IsDictOf (PySem.intKind PG w) [(0, .ref a1)]) (ht : ot.IsDictOf (PySem.intKind PG w) [(0, .ref a2)]) (q5 : (lu, W.listOf #[.int 0 u0] nU) ∈ all) (q6 : (lr, W.listOf #[] nR) ∈ all) (q7 : (sl, W.listOf vs.toArray nS) ∈ all)
    (q8 : (a1, tup #[.bytes #[102, 105, 114, 115, 116] t1, v0] n1) ∈ all) (q9 : (a2, tup #[.bytes #[102, 105, 114, 115, 116] t2, v0] n2) ∈ all) (sm1 : (dk == sysModules) = false) (sm2 : (dt == sysModules) = false)
    (hi : IntsAre vs ns) (hz : 3 ≤ ns.length) (hb : HB ((ns.getD 0 0).fmod 2 == 0) v0) (nd : ([x, dx, dk, lu, dt, lr, sl, a1, a2] : List Nat).Nodup) : PA w h₀ L s₁ { s₁ with heap := h, toks := tk } := by
  refine ⟨h, tk, m, vs, ns, v0, x, dx, dk, lu, dt, lr, sl, a1, a2, okd, ot, k1, k2, k3, k4, k5, k6, k7, k8, tcur, tp, t6, u0, t1, t2, nU, nR, nS, n1, n2, rfl, F, News.part N ?_, nd, sm1, sm2, hd, ht, e1, e2, hi, hz, hb⟩
  exact ac q1 (ac q2 (ac q3 (ac q5 (ac q4 (ac q6 (ac q7 (ac q8 (ac q9 ac0))))))))
end Mine
end

section
open PySem PySem.W PyProof.Rows
namespace Mine
theorem item_some {prog : Program} {w : World} {A : Around} {E : Value → Shared → Prop} {s : Shared} {h₀ : Heap} {L : Addr} {news : List (Addr × Obj)} {value slice : PySem.Expr} {l : Addr} {vs : List Value} {ns : List Int} {n : Nat} {k : Int} {u : Tok} {Q : Value → Shared → Prop}
    (N : News h₀ L s.heap news) (hm : (l, W.listOf vs.toArray n) ∈ news) (hi : IntsAre vs ns) (hz : 3 ≤ ns.length) (h0 : 0 ≤ k) (h1 : k < 3)
    (h : ∀ t, Q (.int (ns.getD k.toNat 0) t) s)
    (hs : subscripted slice false (.ref l) (.int k u) = operate [.ref l, .int k u] (getItem (.ref l) (.int k u)) := by with_unfolding_all rfl) :
    wpAny (model prog w) A (subscriptTail value slice (.ref l) (.int k u)) Q E s := by
  have hl : s.heap.IsList l vs.toArray := ⟨_, (N _ hm).1, rfl, n, rfl⟩
  have hlen := hi.length
  obtain ⟨v, hv⟩ : ∃ v, vs[k.toNat]? = some v := ⟨vs[k.toNat]'(by omega), List.getElem?_eq_getElem _⟩
  obtain ⟨z, t, rfl, hz⟩ := IntsAre.at hi _ v hv
  have e : ns.getD k.toNat 0 = z := by rw [List.getD_eq_getElem?_getD, hz]; rfl
  exact tail_any hl.typeIs slot_list_getitem.lookup (wpAny_getItem_list hl h0 (by omega) (by simpa using hv) (e ▸ h t)) hs
/-- the state ahead of the loop that gives ids -/
def PB (w : World) (h₀ : Heap) (L : Addr) (s₁ s' : Shared) : Prop :=
  ∃ (h : Heap) (tk : Nat) (m : PySem.Str → Option Value) (news : List (Addr × Obj)) (vs : List Value) (ns : List Int) (v0 : Value),
    s' = { s₁ with heap := h, toks := tk } ∧ Fr h₀ L h m ∧ News h₀ L h news ∧ JU w ((ns.getD 0 0).fmod 2 == 0) v0 vs 1 0 m news ∧ IntsAre vs ns ∧ 3 ≤ ns.length ∧ HB ((ns.getD 0 0).fmod 2 == 0) v0
theorem PB.intro {w : World} {h₀ : Heap} {L : Addr} {s₁ : Shared} {h : Heap} {tk : Nat} {m : PySem.Str → Option Value} {vs : List Value} {ns : List Int} {v0 : Value} {x dx dk lu dt lr sl a1 a2 kd ul : Addr} {okd ot okl : Obj} {k1 k2 k3 k4 k5 k6 k7 k8 tcur tp t6 u0 u1 t1 t2 : Tok} {nU nR nS n1 n2 nUl : Nat} {all : List (Addr × Obj)}
    (F : Fr h₀ L h m) (N : News h₀ L h all) (e1 : m (PySem.Str.ofString "some") = some (.ref sl)) (e2 : m (PySem.Str.ofString "user") = some (.ref x)) (e3 : m (PySem.Str.ofString "known") = some (.ref kd)) (e4 : m (PySem.Str.ofString "used") = some (.ref ul))
    (sub : SubL (ledA w vs v0 x dx dk lu dt lr sl a1 a2 okd ot k1 k2 k3 k4 k5 k6 k7 k8 tcur tp t6 u0 t1 t2 nU nR nS n1 n2) all) (q1 : (kd, okl) ∈ all) (q2 : (ul, W.listOf #[.int 0 u1] nUl) ∈ all)
    (hd : okd.IsDictOf (PySem.intKind PG w) [(0, .ref a1)]) (ht : ot.IsDictOf (PySem.intKind PG w) [(0, .ref a2)]) (hl : okl.IsDictOf (PySem.intKind PG w) [(0, .bool ((ns.getD 0 0).fmod 2 == 0))])
    (sm1 : (dk == sysModules) = false) (sm2 : (dt == sysModules) = false) (sm3 : (kd == sysModules) = false)
    (hi : IntsAre vs ns) (hz : 3 ≤ ns.length) (hb : HB ((ns.getD 0 0).fmod 2 == 0) v0) (nd : ([x, dx, dk, lu, dt, lr, sl, a1, a2] : List Nat).Nodup) (l1 : @LT.lt Nat _ x kd ∧ @LT.lt Nat _ dx kd ∧ @LT.lt Nat _ dk kd ∧ @LT.lt Nat _ lu kd ∧ @LT.lt Nat _ dt kd ∧ @LT.lt Nat _ lr kd ∧ @LT.lt Nat _ sl kd ∧ @LT.lt Nat _ a1 kd ∧ @LT.lt Nat _ a2 kd) (l2 : @LT.lt Nat _ kd ul ∧ @LT.lt Nat _ x ul ∧ @LT.lt Nat _ dx ul ∧ @LT.lt Nat _ dk ul ∧ @LT.lt Nat _ lu ul ∧ @LT.lt Nat _ dt ul ∧ @LT.lt Nat _ lr ul ∧ @LT.lt Nat _ sl ul ∧ @LT.lt Nat _ a1 ul ∧ @LT.lt Nat _ a2 ul) :
    PB w h₀ L s₁ { s₁ with heap := h, toks := tk } := by
  refine ⟨h, tk, m, _, vs, ns, v0, rfl, F, fun p hp => N p ?_, ⟨{ x := x, dx := dx, dk := dk, lu := lu, dt := dt, lr := lr, kd := kd, ul := ul, sl := sl, okd := okd, ot := ot, okl := okl, k1 := k1, k2 := k2, k3 := k3, k4 := k4, k5 := k5, k6 := k6, k7 := k7, k8 := k8, tcur := tcur, tp := tp, t6 := t6, nU := nU, nR := nR, nUl := nUl, nS := nS, kvs := [(0, .ref a1)], kvt := [(0, .ref a2)], kvd := [(0, .bool ((ns.getD 0 0).fmod 2 == 0))], us := [.int 0 u0], us2 := [.int 0 u1], rs := [], own := [(a1, tup #[.bytes #[102, 105, 114, 115, 116] t1, v0] n1), (a2, tup #[.bytes #[102, 105, 114, 115, 116] t2, v0] n2)] }, rfl, ?_, e1, e2, e3, e4⟩, hi, hz, hb⟩
  · have hsub : ∀ p ∈ ledA w vs v0 x dx dk lu dt lr sl a1 a2 okd ot k1 k2 k3 k4 k5 k6 k7 k8 tcur tp t6 u0 t1 t2 nU nR nS n1 n2, p ∈ all := fun p hp => sub.mem p hp
    simp only [ledA, List.mem_cons, List.not_mem_nil, or_false, forall_eq_or_imp, forall_eq] at hsub
    obtain ⟨c1, c2, c3, c4, c5, c6, c7, c8, c9⟩ := hsub
    simp only [ledO, List.cons_append, List.nil_append, List.mem_cons, List.not_mem_nil, or_false] at hp
    rcases hp with rfl | rfl | rfl | rfl | rfl | rfl | rfl | rfl | rfl | rfl | rfl <;> assumption
  · have o3 : kd ≠ ul := Nat.ne_of_lt l2.1
    have nm : ∀ (L : List Nat) (a : Nat), (∀ z ∈ L, z < a) → a ∉ L := fun L a h hm => Nat.lt_irrefl _ (h a hm)
    have o1 : kd ∉ ([x, dx, dk, lu, dt, lr, sl, a1, a2] : List Nat) := nm _ _ (by simpa using l1)
    have o2 : ul ∉ ([x, dx, dk, lu, dt, lr, sl, a1, a2] : List Nat) := nm _ _ (by simpa using l2.2)
    have o1' : ∀ z ∈ ([x, dx, dk, lu, dt, lr, sl, a1, a2] : List Nat), ¬ z = kd := fun z hz e => o1 (e ▸ hz)
    have o2' : ∀ z ∈ ([x, dx, dk, lu, dt, lr, sl, a1, a2] : List Nat), ¬ z = ul := fun z hz e => o2 (e ▸ hz)
    have nd' : ∀ z ∈ ([x, dx, dk, lu, dt, lr, sl] : List Nat), ¬ a1 = z ∧ ¬ a2 = z := by
      have h := List.nodup_append.mp (show (([x, dx, dk, lu, dt, lr, sl] : List Nat) ++ [a1, a2]).Nodup from nd)
      intro z hz
      exact ⟨fun e => h.2.2 z hz a1 (List.mem_cons_self ..) e.symm, fun e => h.2.2 z hz a2 (List.mem_cons_of_mem _ (List.mem_cons_self ..)) e.symm⟩
    simp only [List.nodup_cons, List.mem_cons, List.not_mem_nil, or_false, not_or, not_false_eq_true, List.nodup_nil, and_true, forall_eq_or_imp, forall_eq] at nd o1 o2 o1' o2' nd'
    refine ⟨?_, ?_, ?_, sm1, sm2, sm3, hd, ht, hl, ?_, ?_, Nat.le_refl _, Nat.le_refl _, Nat.le_refl _, ?_, ?_, ?_, ?_, ?_, Nat.le_refl _⟩
    · simp only [List.nodup_cons, List.mem_cons, List.not_mem_nil, or_false, not_or, not_false_eq_true, List.nodup_nil, and_true]
      simp [nd, o1', o2', o3, o1, o2]
    · intro p hp
      simp only [List.mem_cons, List.not_mem_nil, or_false] at hp
      rcases hp with rfl | rfl <;> rfl
    · intro p hp
      simp only [List.mem_cons, List.not_mem_nil, or_false] at hp
      simp only [List.mem_cons, List.not_mem_nil, or_false, not_or]
      rcases hp with rfl | rfl
      · simp [nd', o1', o2']
      · simp [nd', o1', o2']
    · intro k
      simp only [List.map_cons, List.map_nil, List.mem_singleton]
      omega
    · intro k
      simp only [List.map_cons, List.map_nil, List.mem_singleton]
      omega
    · intro k y hy
      obtain ⟨rfl, rfl⟩ := Prod.mk.inj (List.mem_singleton.mp hy)
      exact ⟨a1, _, _, _, _, rfl, List.mem_cons_self .., by unfold tokIs; rw [if_pos rfl]⟩
    · intro k y hy
      obtain ⟨rfl, rfl⟩ := Prod.mk.inj (List.mem_singleton.mp hy)
      exact ⟨a2, t2, v0, n2, rfl, List.mem_cons_of_mem _ (List.mem_cons_self ..)⟩
    · intro k
      by_cases h : k = 0
      · subst h
        rw [if_pos (by omega)]
        simp [valueAt]
      · rw [if_neg (by omega)]
        have : ¬ 0 = k := fun e => h e.symm
        simp [valueAt, this]
    · exact .cons _ _ .nil
    · exact .cons _ _ .nil
end Mine
end

section
open PySem PySem.W PyProof.Rows
namespace Mine
theorem apart_cls {h₀ h : Heap} {L : Addr} {news : List (Addr × Obj)} (N : News h₀ L h news) {p q : Addr × Obj} (hp : p ∈ news) (hq : q ∈ news) (hne : p.2.cls ≠ q.2.cls) : p.1 ≠ q.1 :=
  News.twoPlaces N hp hq fun e => hne (by rw [e])
theorem dict_cls {w : World} {o : Obj} {kvs : List (Int × Value)} (h : o.IsDictOf (PySem.intKind PG w) kvs) : o.cls = .type "dict" := by
  obtain ⟨es, ep, hx, _⟩ := h
  exact hx.1
set_option maxHeartbeats 4000000 in
theorem give {w : World} {b0 : Bool} {v0 : Value} {n : Nat} {u : Nm} {vs : List Value} (U : US w b0 v0 n 0 u) (hn1 : 1 ≤ n) (hn5 : n ≤ 5) (I : Addr) (it : Obj) (hI : ∀ p ∈ ledO w 0 vs u, p.1 ≠ I) (hit : it.cls = .type "range_iterator")
    (z : Int) (hzn : z = n) (tn t0 tcid : Tok) (cid : Array UInt8) (v : Value) (hcid : cid = cidOf n) :
    ∀ (mean : ExcName → Option Value) (mg mb : PySem.Str → Option Value) (dp un : Nat) (gd : Option (List Code)) (cn : PySem.Str) (cs : Scope) (a : Addr) (ccd : Value) (cl : List (PySem.Str × Addr)) (outer : List Env) (A₀ : Around) (base h₀ : Heap) (L : Addr) (m : PySem.Str → Option Value) (s : Shared) (Q E : Value → Shared → Prop)
    (_ : Below A₀ base outer h₀) (_ : Fr h₀ L s.heap m) (_ : (hd.heap_39 w.params).In h₀)
    (_ : News h₀ L s.heap ((I, keepObj it) :: ledO w 0 vs u))
    (_ : TopM mean mg mb h₀) (_ : cs.kind = .function) (_ : dp + 40 < recursionLimit) (_ : un + 80 < cLine)
    (_ : ∀ (h' : Heap) (tk' : Nat) (a1 a2 : Addr) (okd' ot' : Obj), Fr h₀ L h' m →
      News h₀ L h' ((I, keepObj it) :: (a1, tup #[.bytes cid tcid, v] 0) :: (a2, tup #[.bytes cid tcid, v] 0) :: ledO w 0 vs { u with okd := okd', ot := ot' }) →
      okd'.IsDictOf (PySem.intKind PG w) (stored u.kvs n (.ref a2)) → ot'.IsDictOf (PySem.intKind PG w) (stored u.kvt n (.ref a1)) →
      a1 ≠ I → a2 ≠ I → a1 ∉ ([u.x, u.dx, u.dk, u.lu, u.dt, u.lr, u.kd, u.ul, u.sl] : List Nat) → a2 ∉ ([u.x, u.dx, u.dk, u.lu, u.dt, u.lr, u.kd, u.ul, u.sl] : List Nat) → Q .none { s with heap := h', toks := tk' }),
    wpAny (model PySem.Challenge.rw_no0065_01.row.prog w) (ktrTop dp un gd cn cs L a ccd cl outer) (call (.ref 76) [.ref u.x, .int z tn, .int 0 t0, .bytes cid tcid, v]) Q E s := by
  subst hzn
  intro mean mg mb dp un gd cn cs a ccd cl outer A₀ base h₀ L m s Q E B F X N T hcs hdp hun hret
  have ek : valueAt u.kvs n = none := valueAt_none fun h => by have := (U.kk n).mp h; omega
  have et : valueAt u.kvt n = none := valueAt_none fun h => by have := (U.kt n).mp h; omega
  refine nd9 U.nd fun x1 x2 x3 x4 x5 x6 x7 x8 d1 d2 d3 d4 d5 d6 d7 k1 k2 k3 k4 k5 k6 l1 l2 l3 l4 l5 t1 t2 t3 t4 r1 r2 r3 e1 e2 g1 => ?_
  have hsub : ∀ p ∈ ([(u.x, instObj 133 u.dx), (u.dx, dictOf (attrs w.params u.k1 u.k2 u.k3 u.k4 u.k5 u.k6 u.k7 u.k8 (.ref u.dk) (.int (0 : Nat) u.tcur) (.ref u.lu) (.int 0 u.tp) (.ref u.dt) (.ref u.lr) (.bool false) (.int 6 u.t6)) 8), (u.dk, u.okd), (u.dt, u.ot)] ++ ((I, keepObj it) :: (u.lu, W.listOf u.us.toArray u.nU) :: (u.lr, W.listOf u.rs.toArray u.nR) :: (u.kd, u.okl) :: (u.ul, W.listOf u.us2.toArray u.nUl) :: (u.sl, W.listOf vs.toArray u.nS) :: u.own) : List (Addr × Obj)), p ∈ (I, keepObj it) :: ledO w 0 vs u := by
    iterate 10 (refine ac (by repeat (first | exact List.Mem.head _ | refine List.Mem.tail _ ?_)) ?_)
    exact (fun p hp => by repeat (first | exact hp | refine List.Mem.tail _ ?_))
  have hown : ∀ b : Nat, b ∈ ([u.x, u.dx, u.dk, u.lu, u.dt, u.lr, u.kd, u.ul, u.sl] : List Nat) → ¬ b = u.lu → ¬ b = u.lr → ¬ b = u.kd → ¬ b = u.ul → ¬ b = u.sl → ∀ p ∈ ((I, keepObj it) :: (u.lu, W.listOf u.us.toArray u.nU) :: (u.lr, W.listOf u.rs.toArray u.nR) :: (u.kd, u.okl) :: (u.ul, W.listOf u.us2.toArray u.nUl) :: (u.sl, W.listOf vs.toArray u.nS) :: u.own : List (Addr × Obj)), p.1 ≠ b :=
    fun b hb q1 q2 q3 q4 q5 => ac (fun e => ne_I hI b hb e.symm) (ac (fun e => q1 e.symm) (ac (fun e => q2 e.symm) (ac (fun e => q3 e.symm) (ac (fun e => q4 e.symm) (ac (fun e => q5 e.symm) fun p hp e => U.off p hp (e ▸ hb))))))
  refine on_new w u.x u.dx u.dk u.dt (.ref u.lu) (.ref u.lr) u.okd u.ot u.k1 u.k2 u.k3 u.k4 u.k5 u.k6 u.k7 u.k8 u.tcur u.tp u.t6 tn t0 tcid (0 : Nat) n cid v u.kvs u.kvt _ x1 x2 x4 d1 d3 k2 (hown u.dx (.tail _ (.head _)) d2 d4 d5 d6 d7) (hown u.dk (.tail _ (.tail _ (.head _))) k1 k3 k4 k5 k6) (hown u.dt (.tail _ (.tail _ (.tail _ (.tail _ (.head _))))) (fun e => l1 e.symm) t1 t2 t3 t4) U.m1 U.m2 U.hk U.ht (by omega) ?_ (Nat.le_trans U.lk hn5) (Nat.le_trans U.lt hn5) ek et ?_ mean mg mb dp un gd cn cs a ccd cl outer A₀ base h₀ L m s Q E B F X (fun p hp => N p (hsub p hp)) T hcs hdp hun ?_
  · intro p hp
    have := (U.kk p.1).mp (List.mem_map.mpr ⟨p, hp, rfl⟩)
    omega
  · intro k y hy
    obtain ⟨a, t, tv, nT, e, hm⟩ := U.tt k y hy
    have hk := (U.kt k).mp (List.mem_map.mpr ⟨_, hy, rfl⟩)
    refine ⟨a, _, t, tv, nT, e, ?_, by rw [hcid]; exact cid_ne hk.1 hk.2 (by omega)⟩
    simp [hm]
  · intro h' tk' a1 a2 okd' ot' F' N' hd1 hd2
    have hk1 := dict_cls hd1
    have hk2 := dict_cls hd2
    have hk3 := dict_cls U.hl
    have N2 : News h₀ L h' ((I, keepObj it) :: (a1, tup #[.bytes cid tcid, v] 0) :: (a2, tup #[.bytes cid tcid, v] 0) :: ledO w 0 vs { u with okd := okd', ot := ot' }) := by
      refine News.part N' ?_
      iterate 12 (refine ac (by repeat (first | exact List.Mem.head _ | refine List.Mem.tail _ ?_)) ?_)
      exact (fun p hp => by repeat (first | exact hp | refine List.Mem.tail _ ?_))
    have ne : ∀ (b : Addr) (o : Obj), o.cls ≠ .type "tuple" → (b, o) ∈ ((I, keepObj it) :: (a1, tup #[.bytes cid tcid, v] 0) :: (a2, tup #[.bytes cid tcid, v] 0) :: ledO w 0 vs { u with okd := okd', ot := ot' }) → a1 ≠ b ∧ a2 ≠ b := fun b o ho hb =>
      ⟨apart_cls N2 (List.mem_cons_of_mem _ (List.mem_cons_self ..)) hb fun e => ho e.symm, apart_cls N2 (List.mem_cons_of_mem _ (List.mem_cons_of_mem _ (List.mem_cons_self ..))) hb fun e => ho e.symm⟩
    have nI := ne I (keepObj it) (by show it.cls ≠ _; rw [hit]; decide) (List.mem_cons_self ..)
    have nine : ∀ b ∈ ([u.x, u.dx, u.dk, u.lu, u.dt, u.lr, u.kd, u.ul, u.sl] : List Nat), a1 ≠ b ∧ a2 ≠ b := by
      refine ac (ne _ (instObj 133 u.dx) (by show Value.ref 133 ≠ Value.type "tuple"; decide) (by repeat (first | exact List.Mem.head _ | refine List.Mem.tail _ ?_))) ?_
      refine ac (ne _ (dictOf (attrs w.params u.k1 u.k2 u.k3 u.k4 u.k5 u.k6 u.k7 u.k8 (.ref u.dk) (.int (0 : Nat) u.tcur) (.ref u.lu) (.int 0 u.tp) (.ref u.dt) (.ref u.lr) (.bool false) (.int 6 u.t6)) 8) (by show Value.type "dict" ≠ _; decide) (by repeat (first | exact List.Mem.head _ | refine List.Mem.tail _ ?_))) ?_
      refine ac (ne _ okd' (by rw [hk1]; decide) (by repeat (first | exact List.Mem.head _ | refine List.Mem.tail _ ?_))) ?_
      refine ac (ne _ (W.listOf u.us.toArray u.nU) (by show Value.type "list" ≠ _; decide) (by repeat (first | exact List.Mem.head _ | refine List.Mem.tail _ ?_))) ?_
      refine ac (ne _ ot' (by rw [hk2]; decide) (by repeat (first | exact List.Mem.head _ | refine List.Mem.tail _ ?_))) ?_
      refine ac (ne _ (W.listOf u.rs.toArray u.nR) (by show Value.type "list" ≠ _; decide) (by repeat (first | exact List.Mem.head _ | refine List.Mem.tail _ ?_))) ?_
      refine ac (ne _ u.okl (by rw [hk3]; decide) (by repeat (first | exact List.Mem.head _ | refine List.Mem.tail _ ?_))) ?_
      refine ac (ne _ (W.listOf u.us2.toArray u.nUl) (by show Value.type "list" ≠ _; decide) (by repeat (first | exact List.Mem.head _ | refine List.Mem.tail _ ?_))) ?_
      refine ac (ne _ (W.listOf vs.toArray u.nS) (by show Value.type "list" ≠ _; decide) (by repeat (first | exact List.Mem.head _ | refine List.Mem.tail _ ?_))) ?_
      exact ac0
    exact hret h' tk' a1 a2 okd' ot' F' N2 hd1 hd2 nI.1 nI.2 (fun hm => (nine a1 hm).1 rfl) (fun hm => (nine a2 hm).2 rfl)
end Mine
end

section
open PySem PySem.W PyProof.Rows
namespace Mine
theorem cid_bytes (i : Nat) : (#[(1 + (i : Int)).toNat.toUInt8, (Int.toNat 1).toUInt8] : Array UInt8) = cidOf ((i + 1 : Nat) : Int) := by
  unfold cidOf
  rw [if_neg (by omega), show (((i + 1 : Nat)) : Int) = 1 + (i : Int) by omega]
  rfl
theorem give_rest {w : World} {b0 : Bool} {v0 : Value} {n : Nat} {u : Nm} {vs : List Value} {h₀ h' : Heap} {L I a1 a2 : Addr} {it okd' ot' o1 o2 : Obj} (U : US w b0 v0 n 0 u) (hI : ∀ p ∈ ledO w 0 vs u, p.1 ≠ I)
    (N : News h₀ L h' ((I, keepObj it) :: (a1, o1) :: (a2, o2) :: ledO w 0 vs { u with okd := okd', ot := ot' }))
    (n1 : a1 ∉ ([u.x, u.dx, u.dk, u.lu, u.dt, u.lr, u.kd, u.ul, u.sl] : List Nat)) (n2 : a2 ∉ ([u.x, u.dx, u.dk, u.lu, u.dt, u.lr, u.kd, u.ul, u.sl] : List Nat)) :
    ∃ rest, News h₀ L h' ((u.kd, u.okl) :: rest) ∧ (∀ p ∈ rest, p.1 ≠ u.kd) ∧ ∀ okl' h'', News h₀ L h'' ((u.kd, okl') :: rest) → News h₀ L h'' ((I, keepObj it) :: ledO w 0 vs { u with okd := okd', ot := ot', okl := okl', own := (a1, o1) :: (a2, o2) :: u.own }) := by
  refine ⟨(I, keepObj it) :: (a1, o1) :: (a2, o2) :: (u.x, instObj 133 u.dx) :: (u.dx, dictOf (attrs w.params u.k1 u.k2 u.k3 u.k4 u.k5 u.k6 u.k7 u.k8 (.ref u.dk) (.int (0 : Nat) u.tcur) (.ref u.lu) (.int 0 u.tp) (.ref u.dt) (.ref u.lr) (.bool false) (.int 6 u.t6)) 8) :: (u.dk, okd') :: (u.lu, W.listOf u.us.toArray u.nU) :: (u.dt, ot') :: (u.lr, W.listOf u.rs.toArray u.nR) :: (u.ul, W.listOf u.us2.toArray u.nUl) :: (u.sl, W.listOf vs.toArray u.nS) :: u.own, News.part N ?_, ?_, fun okl' h'' N' => News.part N' ?_⟩
  · iterate 12 (refine ac (by repeat (first | exact List.Mem.head _ | refine List.Mem.tail _ ?_)) ?_)
    exact (fun p hp => by repeat (first | exact hp | refine List.Mem.tail _ ?_))
  · refine nd9 U.nd fun x1 x2 x3 x4 x5 x6 x7 x8 d1 d2 d3 d4 d5 d6 d7 k1 k2 k3 k4 k5 k6 l1 l2 l3 l4 l5 t1 t2 t3 t4 r1 r2 r3 e1 e2 g1 => ?_
    simp only [List.mem_cons, List.not_mem_nil, or_false, not_or] at n1 n2
    exact ac (fun e => ne_I hI u.kd (.tail _ (.tail _ (.tail _ (.tail _ (.tail _ (.tail _ (.head _))))))) e.symm) (ac n1.2.2.2.2.2.2.1 (ac n2.2.2.2.2.2.2.1 (ac x6 (ac d5 (ac k4 (ac l3 (ac t2 (ac r1 (ac (fun e => e1 e.symm) (ac (fun e => e2 e.symm) fun p hp e => U.off p hp (e ▸ .tail _ (.tail _ (.tail _ (.tail _ (.tail _ (.tail _ (.head _))))))))))))))))) 
  · iterate 12 (refine ac (by repeat (first | exact List.Mem.head _ | refine List.Mem.tail _ ?_)) ?_)
    exact (fun p hp => by repeat (first | exact hp | refine List.Mem.tail _ ?_))
theorem off_I {w : World} {n : Nat} {u : Nm} {vs : List Value} {I a1 a2 : Addr} {okd' ot' okl' o1 o2 : Obj} (hI : ∀ p ∈ ledO w 0 vs u, p.1 ≠ I) (m1 : a1 ≠ I) (m2 : a2 ≠ I) {kvs kvt kvd : List (Int × Value)} :
    ∀ p ∈ ledO w 0 vs { u with okd := okd', ot := ot', okl := okl', kvs := kvs, kvt := kvt, kvd := kvd, own := (a1, o1) :: (a2, o2) :: u.own }, p.1 ≠ I := by
  simp only [ledO, List.cons_append, List.nil_append, List.mem_cons, forall_eq_or_imp] at hI ⊢
  obtain ⟨i1, i2, i3, i4, i5, i6, i7, i8, i9, i10⟩ := hI
  exact ⟨i1, i2, i3, i4, i5, i6, i7, i8, i9, m1, m2, i10⟩
end Mine
end

section
open PySem PySem.W PyProof.Rows
namespace Mine
set_option maxHeartbeats 4000000 in
theorem take {w : World} {b0 : Bool} {v0 : Value} {n c : Nat} {u : Nm} {vs : List Value} (U : US w b0 v0 n c u) (hcn : c + 1 < n) (hn : n ≤ 5) (I : Addr) (it : Obj) (hI : ∀ p ∈ ledO w c vs u, p.1 ≠ I) :
    ∀ (mean : ExcName → Option Value) (mg mb : PySem.Str → Option Value) (dp un : Nat) (gd : Option (List Code)) (cn : PySem.Str) (cs : Scope) (a : Addr) (ccd : Value) (cl : List (PySem.Str × Addr)) (outer : List Env) (A₀ : Around) (base h₀ : Heap) (L : Addr) (m : PySem.Str → Option Value) (s : Shared) (Q E : Value → Shared → Prop)
    (_ : Below A₀ base outer h₀) (_ : Fr h₀ L s.heap m) (_ : (hd.heap_39 w.params).In h₀)
    (_ : News h₀ L s.heap ((I, keepObj it) :: ledO w c vs u))
    (_ : TopM mean mg mb h₀) (_ : cs.kind = .function) (_ : dp + 60 < recursionLimit) (_ : un + 120 < cLine)
    (_ : ∀ (h' : Heap) (tk' : Nat) (okd' : Obj) (t : Tok) (nU' nR' : Nat), Fr h₀ L h' m →
      News h₀ L h' ((I, keepObj it) :: ledO w (c + 1) vs { u with okd := okd', tcur := t, nU := nU', nR := nR', us := u.us ++ [.int ((c : Int) + 1) t], rs := u.rs ++ [.int c u.tcur] }) →
      okd'.IsDictOf (PySem.intKind PG w) (without u.kvs c) → Q (.bool true) { s with heap := h', toks := tk' }),
    wpAny (model PySem.Challenge.rw_no0065_01.row.prog w) (ktrTop dp un gd cn cs L a ccd cl outer) (call (.ref 116) [.ref u.x]) Q E s := by
  intro mean mg mb dp un gd cn cs a ccd cl outer A₀ base h₀ L m s Q E B F X N T hcs hdp hun hret
  refine nd9 U.nd fun x1 x2 x3 x4 x5 x6 x7 x8 d1 d2 d3 d4 d5 d6 d7 k1 k2 k3 k4 k5 k6 l1 l2 l3 l4 l5 t1 t2 t3 t4 r1 r2 r3 e1 e2 g1 => ?_
  have iI := ne_I hI
  have hown : ∀ b : Nat, b ∈ ([u.x, u.dx, u.dk, u.lu, u.dt, u.lr, u.kd, u.ul, u.sl] : List Nat) → ¬ b = u.dt → ¬ b = u.kd → ¬ b = u.ul → ¬ b = u.sl → ∀ p ∈ ((I, keepObj it) :: (u.dt, u.ot) :: (u.kd, u.okl) :: (u.ul, W.listOf u.us2.toArray u.nUl) :: (u.sl, W.listOf vs.toArray u.nS) :: u.own : List (Addr × Obj)), p.1 ≠ b :=
    fun b hb q1 q2 q3 q4 => ac (fun e => iI b hb e.symm) (ac (fun e => q1 e.symm) (ac (fun e => q2 e.symm) (ac (fun e => q3 e.symm) (ac (fun e => q4 e.symm) fun p hp e => U.off p hp (e ▸ hb)))))
  obtain ⟨y, hy, _⟩ := valueAt_some (kvs := u.kvs) (k := (c : Int)) ((U.kk c).mpr ⟨by omega, by omega⟩)
  have hus := U.iu.length
  have hul : (usedTo c).length = c + 1 := by unfold usedTo; rw [List.length_map, List.length_range]
  have hrs := U.lrs
  have hlk := U.lk
  refine change w u.x u.dx u.dk u.lu u.lr u.okd u.k1 u.k2 u.k3 u.k4 u.k5 u.k6 u.k7 u.k8 u.tcur (.int 0 u.tp) (.ref u.dt) (.bool false) (.int 6 u.t6) y c u.nU u.nR u.us u.rs (usedTo c) u.kvs _ x1 x2 x3 x5 d1 d2 d4 k1 k3 l2
    (hown u.dx (.tail _ (.head _)) d3 d5 d6 d7) (hown u.dk (.tail _ (.tail _ (.head _))) k2 k4 k5 k6) (hown u.lu (.tail _ (.tail _ (.tail _ (.head _)))) l1 l3 l4 l5) (hown u.lr (.tail _ (.tail _ (.tail _ (.tail _ (.tail _ (.head _)))))) (fun e => t1 e.symm) r1 r2 r3)
    U.m1 U.hk U.iu (by omega) (by omega) (by omega) hy ((U.kk _).mpr ⟨by omega, by omega⟩) ?_ mean mg mb dp un gd cn cs a ccd cl outer A₀ base h₀ L m s Q E B F X (News.part N ?_) T hcs hdp hun ?_
  · intro k hk
    have := (U.kk k).mp hk
    rw [usedTo_any]
    exact decide_eq_decide.mpr ⟨fun h => h.2, fun h => ⟨by omega, h⟩⟩
  · iterate 9 (refine ac (by repeat (first | exact List.Mem.head _ | refine List.Mem.tail _ ?_)) ?_)
    exact (fun p hp => by repeat (first | exact hp | refine List.Mem.tail _ ?_))
  · intro h' tk' okd' t nU' nR' F' N' hd1
    rw [List.push_toArray, List.push_toArray] at N'
    refine hret h' tk' okd' t nU' nR' F' (News.part N' ?_) hd1
    iterate 10 (refine ac (by repeat (first | exact List.Mem.head _ | refine List.Mem.tail _ ?_)) ?_)
    exact (fun p hp => by repeat (first | exact hp | refine List.Mem.tail _ ?_))
end Mine
end

section
open PySem PySem.W PyProof.Rows
namespace Mine
theorem take_rest {w : World} {c : Nat} {u : Nm} {vs : List Value} {h₀ h' : Heap} {L I : Addr} {it : Obj} (nd : ([u.x, u.dx, u.dk, u.lu, u.dt, u.lr, u.kd, u.ul, u.sl] : List Nat).Nodup)
    (off : ∀ p ∈ u.own, p.1 ∉ ([u.x, u.dx, u.dk, u.lu, u.dt, u.lr, u.kd, u.ul, u.sl] : List Nat)) (hk : u.kd ≠ I) (hu : u.ul ≠ I)
    (N : News h₀ L h' ((I, keepObj it) :: ledO w c vs u)) :
    ∃ rest, News h₀ L h' ((u.kd, u.okl) :: (u.ul, W.listOf u.us2.toArray u.nUl) :: (u.x, instObj 133 u.dx) :: (u.dx, dictOf (attrs w.params u.k1 u.k2 u.k3 u.k4 u.k5 u.k6 u.k7 u.k8 (.ref u.dk) (.int c u.tcur) (.ref u.lu) (.int 0 u.tp) (.ref u.dt) (.ref u.lr) (.bool false) (.int 6 u.t6)) 8) :: rest) ∧
      (∀ p ∈ rest, p.1 ≠ u.kd) ∧ (∀ p ∈ rest, p.1 ≠ u.ul) ∧ @Ne Nat u.kd u.ul ∧ @Ne Nat u.x u.kd ∧ @Ne Nat u.dx u.kd ∧ @Ne Nat u.x u.ul ∧ @Ne Nat u.dx u.ul ∧
      ∀ okl' v nUl' h'', News h₀ L h'' ((u.kd, okl') :: (u.ul, W.listOf (u.us2.toArray.push v) nUl') :: (u.x, instObj 133 u.dx) :: (u.dx, dictOf (attrs w.params u.k1 u.k2 u.k3 u.k4 u.k5 u.k6 u.k7 u.k8 (.ref u.dk) (.int c u.tcur) (.ref u.lu) (.int 0 u.tp) (.ref u.dt) (.ref u.lr) (.bool false) (.int 6 u.t6)) 8) :: rest) →
        News h₀ L h'' ((I, keepObj it) :: ledO w c vs { u with okl := okl', us2 := u.us2 ++ [v], nUl := nUl' }) := by
  refine nd9 nd fun x1 x2 x3 x4 x5 x6 x7 x8 d1 d2 d3 d4 d5 d6 d7 k1 k2 k3 k4 k5 k6 l1 l2 l3 l4 l5 t1 t2 t3 t4 r1 r2 r3 e1 e2 g1 => ?_
  refine ⟨(I, keepObj it) :: (u.dk, u.okd) :: (u.lu, W.listOf u.us.toArray u.nU) :: (u.dt, u.ot) :: (u.lr, W.listOf u.rs.toArray u.nR) :: (u.sl, W.listOf vs.toArray u.nS) :: u.own, News.part N ?_, ?_, ?_, e1, x6, d5, x7, d6, fun okl' v nUl' h'' N' => News.part N' ?_⟩
  · iterate 10 (refine ac (by repeat (first | exact List.Mem.head _ | refine List.Mem.tail _ ?_)) ?_)
    exact (fun p hp => by repeat (first | exact hp | refine List.Mem.tail _ ?_))
  · exact ac (fun e => hk e.symm) (ac k4 (ac l3 (ac t2 (ac r1 (ac (fun e => e2 e.symm) fun p hp e => off p hp (e ▸ .tail _ (.tail _ (.tail _ (.tail _ (.tail _ (.tail _ (.head _))))))))))))
  · exact ac (fun e => hu e.symm) (ac k5 (ac l4 (ac t3 (ac r2 (ac (fun e => g1 e.symm) fun p hp e => off p hp (e ▸ .tail _ (.tail _ (.tail _ (.tail _ (.tail _ (.tail _ (.tail _ (.head _)))))))))))))
  · rw [List.push_toArray]
    iterate 10 (refine ac (by repeat (first | exact List.Mem.head _ | refine List.Mem.tail _ ?_)) ?_)
    exact (fun p hp => by repeat (first | exact hp | refine List.Mem.tail _ ?_))
theorem off_T {w : World} {c c' : Nat} {u : Nm} {vs : List Value} {I : Addr} (hI : ∀ p ∈ ledO w c vs u, p.1 ≠ I) {okd' okl' : Obj} {t : Tok} {q1 q2 q3 : Nat} {us us2 rs : List Value} {kvs kvd : List (Int × Value)} :
    ∀ p ∈ ledO w c' vs { u with okd := okd', okl := okl', tcur := t, nU := q1, nUl := q2, nR := q3, us := us, us2 := us2, rs := rs, kvs := kvs, kvd := kvd }, p.1 ≠ I := by
  simp only [ledO, List.cons_append, List.nil_append, List.mem_cons, forall_eq_or_imp] at hI ⊢
  exact hI
end Mine
end

section
open PySem PySem.W PyProof.Rows
namespace Mine
/-- the walk waits here -/
def Halt (p : Prop) : Prop := p
theorem Halt.out {p : Prop} (h : Halt p) : p := h
theorem Halt.into {p : Prop} (h : p) : Halt p := h
local macro_rules | `(tactic| k_all) => `(tactic| assumption)
set_option maxRecDepth 100000 in
set_option maxHeartbeats 16000000 in
theorem main : PySem.Challenge.rw_no0065_01.Holds := hd (by
  k_fill
  intro w s₀ s₁ mg mb G Y fa o pm cd doc dV kV ho hdd hcd hD hmg hg args vals as hpre hlay hrd hwl hlo
  have KX := kIn_of Y
  have X := (Ground.X G).1
  have V := (Ground.X G).2
  refine Ground.open G ?_
  intro T B D TE TW
  obtain ⟨_, _, M⟩ := bmod_of_top T
  clear hmg
  wrow_args hpre hlay hrd hwl hlo
  have K0 := below_caller (Top.heap T)
  have he := Dflts.none hD rfl
  subst he
  refine wpR_call (codeR_full (by decide) ho hdd (Top.nolimit T) hcd (BindsTo.of_eq rfl) (locs rfl) fun h₁ F => ?_)
  w_binds F
  have N0 := (News.nil : News _ _ _ []).at F
  clear hdd hD ho
  refine wpR_mono (Q := LawEnd s₁.heap s₁.heap.objs.size s₁) ?_ (fun f s' hend => by
    obtain ⟨v, rfl, hgood⟩ := LawEnd.good hg hend
    exact hgood)
  refine wpR_cut (pre := [_, _, _, _, _, _]) (Mid w s₁.heap s₁.heap.objs.size s₁) ?_ ?_
  · w_top off
    k_with_none
    (k_with "m call ref" => (k_here; (with_reducible show wpAny _ _ (call (Value.ref 142) [Value.int _ _]) _ _ _); k_dflt (refine' (token _ _ _ _) _ _ _ _ _ _ _ _ _ _ _ _ _ _ _ _ _ _ _ _ ?k1Z56 ?k2Z56 ?k3Z56 ?k4Z56 ?k5Z56 ?kKZ56 ?kdZ56 ?kuZ56 ?_; (case k1Z56 => k_asm); (case k2Z56 => k_asm); (case k3Z56 => k_asm); (case k4Z56 => k_asm); (case k5Z56 => k_asm); (case kKZ56 => rfl); (case kdZ56 => decide); (case kuZ56 => decide)); intro t9 h9 tk9 F9 N9; (try dsimp only); (try k_fold)))
    (k_with "m subscriptTail" => (k_here; (with_reducible show wpAny _ _ (subscriptTail (PySem.Expr.List _ _) _ (Value.ref _) (Value.int _ _)) _ _ _); k_dflt (refine' item_size ?NZ57 ?mZ57 ?iZ57 ?loZ57 ?hiZ57 ?_; (case NZ57 => k_asm); (case mZ57 => k_mem); (case iZ57 => l_ints); (case loZ57 => exact fmod_lo _ (by decide)); (case hiZ57 => exact fmod_hi _ (by decide))); intro t9 z9 hz0 hz1))
    (k_with "m call type:bytes" => (k_here; (with_reducible show wpAny _ _ (call (Value.type "bytes") [Value.ref _]) _ _ _); k_dflt (refine' mk_head ?FZ58 ?NZ58 ?hhZ58 ?lZ58 ?iZ58 ?zZ58 ?loZ58 ?hiZ58 ?_; (case FZ58 => k_asm); (case NZ58 => k_asm); (case hhZ58 => rfl); (case lZ58 => k_mem); (case iZ58 => assumption); (case zZ58 => assumption); (case loZ58 => exact fmod_lo _ (by decide)); (case hiZ58 => exact fmod_hi _ (by decide))); intro B9 t9 h9 k9 hB9 F9 N9))
    (k_with "m call type:bytes" => (k_here; (with_reducible show wpAny _ _ (call (Value.type "bytes") [Value.ref _]) _ _ _); k_dflt (refine' baBytes_K ?NZ59 ?mZ59 ?zZ59 ?_; (case NZ59 => k_asm); (case mZ59 => k_mem); (case zZ59 => (simp only [tok_size] at *; omega))); intro t9 k9))
    (k_with "m binaryOp Add" => (k_here; (with_reducible show wpAny _ _ (binaryOp Operator.Add (Value.bytes _ _) (Value.bytes _ _)) _ _ _); (refine KBy.add_bytes (by first | (rw [tok_size]; omega) | (simp only [tok_size] at *; omega)) ?_); intro t9 k9))
    (k_with "m call builtin:dict.get" => (k_here; (rename ∀ k : Int, 0 ≤ k → k < 6 → k ∈ _ → _ => hf9); (rename List.any _ _ = true => ha9); k_dflt (refine' get_law ?NZ61 ?mZ61 ?dZ61 ?loZ61 (hf9 _ (by assumption) (by assumption) (any_mem ha9)) ?_; (case NZ61 => k_asm); (case mZ61 => k_mem); (case dZ61 => assumption); (case loZ61 => assumption))))
    (k_with "m call ref" => (k_here; (with_reducible show wpAny _ _ (call (Value.ref 130) _) _ _ _); (rename ResetAt _ _ _ _ => hR9); k_dflt (refine' (ResetAt.use hR9 ?szZ62 ?subZ62) _ _ _ _ _ _ _ _ _ _ _ _ _ _ _ _ _ _ _ _ ?k1Z62 ?k2Z62 ?k3Z62 ?k4Z62 ?k5Z62 ?kKZ62 ?kdZ62 ?kuZ62 ?_; (case k1Z62 => k_asm); (case k2Z62 => k_asm); (case k3Z62 => k_asm); (case k4Z62 => k_asm); (case k5Z62 => k_asm); (case kKZ62 => rfl); (case kdZ62 => decide); (case kuZ62 => decide); (case szZ62 => first | (rw [Array.size_append, tok_size]; omega) | (simp only [tok_size] at *; rw [Array.size_append]; omega) | (exact Nat.le_trans (KBc.size_picked_le _ _ _) (by rw [tok_size]; decide)) | decide); (case subZ62 => k_subL)); intro t9 h9 tk9 F9 N9; (try dsimp only); (try k_fold)))
    (k_with "m subscriptTail" => (k_here; (with_reducible show wpAny _ _ (subscriptTail (PySem.Expr.Name (PySem.Str.ofString "bent") _) _ (Value.ref _) (Value.int _ _)) _ _ _); k_dflt (refine' baSub_K ?NZ63 ?mZ63 ?loZ63 ?hiZ63 ?zZ63 ?_; (case NZ63 => k_asm); (case mZ63 => k_mem); (case loZ63 => exact fmod_lo _ (by decide)); (case hiZ63 => (rw [tok_size]; exact fmod_hi _ (by decide))); (case zZ63 => (rw [tok_size]; decide))); intro t9 tk9 x9 hx9 hx0 hx1))
    (k_with "m setItem ref int" => (k_here; (with_reducible show wpAny _ _ (setItem (Value.ref _) (Value.int _ _) (Value.int _ _)) _ _ _); (rename ∀ (p : Addr × Obj), p ∈ _ → _ => l9); k_dflt (refine' baSet_K ?FZ64 ?NZ64 l9 ?loZ64 ?hiZ64 ?zZ64 ?v0Z64 ?v1Z64 ?_; (case FZ64 => k_asm); (case NZ64 => k_asm); (case loZ64 => exact fmod_lo _ (by decide)); (case hiZ64 => (rw [tok_size]; exact fmod_hi _ (by decide))); (case zZ64 => (rw [tok_size]; decide)); (case v0Z64 => exact fmod_lo _ (by decide)); (case v1Z64 => exact fmod_hi _ (by decide))); intro h9 c9 hc9 hcs9 F9 N9))
    (k_with "m subscriptTail" => (k_here; (with_reducible show wpAny _ _ (subscriptTail _ (Expr.Slice _ _ none _) (Value.bytes _ _) (Value.ref _)) _ _ _); (with_reducible rename Fr _ _ _ _ => F'); (with_reducible rename News _ _ _ _ => N'); (refine KBc.slice_K (s := ⟨_, _, _, _, _⟩) F' N' rfl (by constructor) (by constructor) (by rw [KBw.ints_length, tok_size]; decide) ?_); intro _ _ _ _ _ kbcK; clear kbcK))
    (k_with "m call type:bytes" => (k_here; (with_reducible show wpAny _ _ (call (Value.type "bytes") [Value.int 15 _]) _ _ _); (refine int_bytes ?_); intro t9 k9))
    clear F N0
    rintro s' ⟨h, tk, m, x, dx, dk, lu, tc, kd, ul, sl, ok, okd, olu, otc, k1, k2, k3, k4, k5, k6, k7, k8, tcur, vprior, vtold, vret, vemp, vlim, nA, nUl, nS, tv, us, vs, ns, nsu, kvd, c, f, rfl, F, N, m1, m2, m3, m4, hokd, hsm, hvs, hus, hnu, hc0, hc2, htv, hf1, hf2, hres⟩
    have em : m = fun y => if y = PySem.Str.ofString "some" then some (Value.ref sl) else if y = PySem.Str.ofString "user" then some (Value.ref x) else if y = PySem.Str.ofString "known" then some (Value.ref kd) else if y = PySem.Str.ofString "used" then some (Value.ref ul) else m y := by
      funext y
      repeat' split
      all_goals first | rfl | (subst_vars; assumption)
    rw [em] at F
    clear m1 m2 m3 m4 em
    refine wpR_execs_cons (forList_R [PySem.Str.ofString "size", PySem.Str.ofString "head", PySem.Str.ofString "other", PySem.Str.ofString "due", PySem.Str.ofString "bent"] rfl rfl rfl hvs (by k_mem) F N (ld F rfl ⟨rfl, rfl⟩) ?_ ?_)
    · clear F N
      intro k t h tk u I it hk hI F N
      have l1 := hI
      k_lt l1
      refine wpR_execs_app (pre := [_, _]) (wpR_any ?_)
      k_steps
      (rename Array UInt8 => Bh)
      (rename _ = Int.toNat _ => hBh)
      (rename Fr _ _ _ _ => F9)
      (rename News _ _ _ _ => N9)
      dsimp only
      refine wpR_execs_cons (forRange_R (n := 6) [PySem.Str.ofString "due"] rfl rfl rfl F9 N9 ?_ (by decide) (by decide) ?_ ?_)
      · k_steps
        exact ⟨_, _, _, _, _, _, rfl, rfl, by assumption, by assumption, by assumption⟩
      · intro k2 t2 h2 tk2 u2 I2 it2 hk0 hk6 hI2 F2 N2
        have l2 := hI2
        k_lt l2
        refine wpR_any ?_
        k_steps
        all_goals first
          | exact (leaf1 hBh (by assumption) (by assumption) (hf2 _ hk0 hk6) (by assumption)).elim
          | exact (leaf2 (by assumption) (hf2 _ hk0 hk6) (by assumption)).elim
          | exact (leaf3 hBh (by assumption) (by assumption) (by assumption)).elim
          | ((rename Fr _ _ _ _ => F9); (rename News _ _ _ _ => N9); refine ⟨rfl, _, _, _, rfl, ?_, F9, News.sub N9 (by k_subL)⟩; (intro z h1 h3; simp only [List.contains_cons, List.contains_nil, Bool.or_false, Bool.or_eq_false_iff, beq_eq_false_iff_ne, ne_eq] at h3; simp [h1, h3]))
      · clear F9 N9
        intro h tk u F N
        dsimp only
        refine wpR_execs_cons (wpR_Assign (wpR_Call ?_))
        k_steps
        refine wpR_callWith_type1 ?_
        k_steps
        (rename Fr _ _ _ _ => F9)
        (rename News _ _ _ _ => N9)
        refine wpR_bytearray_K F9 N9 rfl (by rw [tok_size]; decide) ?_
        clear F9 N9
        intro a9 h9 hl9 F9 N9
        have l3 := hl9
        k_lt l3
        k_steps
        dsimp only
        refine wpR_any ?_
        k_steps
        all_goals first
          | exact (leaf4 (by assumption) (by assumption) (by assumption) htv (by assumption)).elim
          | exact (leaf5 (by assumption)).elim
          | ((rename Fr _ _ _ _ => F9); (rename News _ _ _ _ => N9); refine ⟨rfl, _, _, _, rfl, ?_, F9, News.sub N9 (by k_subL)⟩; (intro z h1 h3; simp only [List.contains_cons, List.contains_nil, Bool.or_false, Bool.or_eq_false_iff, beq_eq_false_iff_ne, ne_eq] at h3; simp [h1, h3]))
    · intro h tk u F N
      dsimp only
      refine wpR_any ?_
      k_steps
      all_goals first
        | exact (leaf6 (by assumption)).elim
        | (rw [reset_short (by decide)]; exact ⟨rfl, _, _, _, rfl, by assumption⟩)
  refine wpR_cut (pre := [_, _, _, _]) (PB w s₁.heap s₁.heap.objs.size s₁) ?_ ?_
  · w_top off
    k_with_none
    (k_with "m call ref" => (k_here; (with_reducible show wpAny _ _ (call (Value.ref 142) [Value.int _ _]) _ _ _); k_dflt (refine' (token _ _ _ _) _ _ _ _ _ _ _ _ _ _ _ _ _ _ _ _ _ _ _ _ ?k1Z67 ?k2Z67 ?k3Z67 ?k4Z67 ?k5Z67 ?kKZ67 ?kdZ67 ?kuZ67 ?_; (case k1Z67 => k_asm); (case k2Z67 => k_asm); (case k3Z67 => k_asm); (case k4Z67 => k_asm); (case k5Z67 => k_asm); (case kKZ67 => rfl); (case kdZ67 => decide); (case kuZ67 => decide)); intro t9 h9 tk9 F9 N9; (try dsimp only); (try k_fold)))
    (k_with "m eval Dict" => (k_here; k_dflt (refine' kdn_int ?qZ68 ?FZ68 ?NZ68 ?bZ68 ?aZ68 ?lZ68 ?eZ68 ?nZ68 ?_; (case qZ68 => rfl); (case FZ68 => k_asm); (case NZ68 => first | k_asm | exact News.nil); (case bZ68 => exact Top.nolimit (by k_asm)); (case aZ68 => rfl); (case lZ68 => rfl); (case eZ68 => exact List.cons_ne_nil _ _); (case nZ68 => exact Nat.le_of_ble_eq_true rfl)); intro d' h' o' F' N' l1 lo' hd'; (try k_lt l1)))
    (k_with "m subscriptTail" => (k_here; (with_reducible show wpAny _ _ (subscriptTail (PySem.Expr.Name (PySem.Str.ofString "some") _) _ (Value.ref _) (Value.int _ _)) _ _ _); k_dflt (refine' item_some ?NZ69 ?mZ69 ?iZ69 ?zZ69 ?loZ69 ?hiZ69 ?_; (case NZ69 => k_asm); (case mZ69 => k_mem); (case iZ69 => assumption); (case zZ69 => assumption); (case loZ69 => decide); (case hiZ69 => decide)); intro t9))
    (k_with "m setItem ref int" => (k_here; (with_reducible show wpAny _ _ (setItem (Value.ref _) (Value.int _ _) (Value.bool _)) _ _ _); k_dflt (refine' kda_set (knd := PySem.intKind _ _) ?FZ70 ?NZ70 ?UZ70 ?dZ70 (intKind_is _ _ _ _) ?zZ70 ?_; (case FZ70 => k_asm); (case NZ70 => k_asm); (case UZ70 => k_updF); (case dZ70 => k_asm); (case zZ70 => (rw [sizeLine_eq]; omega))); intro h' o' F' N' hd'; (try dsimp only at N')))
    (k_with "m call ref" => (k_here; (with_reducible show wpAny _ _ (call (Value.ref 76) _) _ _ _); refine Halt.out ?_))
    (k_with "m call ref" => (k_here; (with_reducible show wpAny _ _ (call (Value.ref 116) _) _ _ _); refine Halt.out ?_))
    (k_with "m call builtin:dict.pop" => (k_here; k_dflt ((with_reducible show wpAny _ _ (call (Value.builtin "dict.pop") [Value.ref _, Value.int _ _]) _ _ _); refine' kob_pop (knd := PySem.intKind _ _) (more := []) ?FZ73 ?NZ73 ?UZ73 ?dZ73 (intKind_is _ _ _ _) (.inl rfl) (by rfl) (PySem.F.args_dict_pop_2 _ _) ?lZ73 ?zZ73 ?_; (case FZ73 => k_asm); (case NZ73 => k_asm); (case UZ73 => k_updF); (case dZ73 => k_asm); (case lZ73 => assumption); (case zZ73 => (rw [sizeLine_eq]; omega))); intro h' o' F' N' hd'; (try dsimp only at N')))
    clear F N0
    rintro s' ⟨h, tk, m, news, vs, ns, v0, rfl, F, N, J, hi, hz, hb⟩
    generalize ((ns.getD 0 0).fmod 2 == 0) = b0 at J hb
    have hr0 : 0 ≤ (ns.getD 1 0).fmod 3 := Int.fmod_nonneg_of_pos _ (by decide)
    have hr1 : (ns.getD 1 0).fmod 3 < 3 := Int.fmod_lt_of_pos _ (by decide)
    obtain ⟨n, hn⟩ : ∃ n : Nat, (n : Int) = 2 + (ns.getD 1 0).fmod 3 := ⟨(2 + (ns.getD 1 0).fmod 3).toNat, by omega⟩
    have hn3 : n = 2 ∨ n = 3 ∨ n = 4 := by omega
    refine wpR_execs_cons (forRangeJ (h₀ := s₁.heap) (a := 1) (n := n) (fun i m news => JU w b0 v0 vs (i + 1) 0 m news) rfl rfl rfl ?_ (by rcases hn3 with rfl | rfl | rfl <;> decide) (by rcases hn3 with rfl | rfl | rfl <;> decide) ?_ ?_)
    · obtain ⟨u, rfl, U, r1, r2, r3, r4⟩ := id J
      have em : m = fun y => if y = PySem.Str.ofString "some" then some (Value.ref u.sl) else m y := by
        funext y
        repeat' split
        all_goals first | rfl | (subst_vars; assumption)
      rw [em] at F J
      have N1 : News s₁.heap s₁.heap.objs.size h ((u.sl, W.listOf vs.toArray u.nS) :: ledO w 0 vs u) := fun p hp => N p (by
        rcases List.mem_cons.mp hp with rfl | hp
        · simp [ledO]
        · exact hp)
      clear N em U r1 r2 r3 r4
      generalize hled : ledO w 0 vs u = led at N1 J
      k_steps
      exact ⟨_, _, _, _, _, _, _, _, _, rfl, rfl, by assumption, by (show (3 + (ns.getD 1 0).fmod 3 : Int) = 1 + (n : Int)); omega, by assumption, fun p hp => (by assumption : News _ _ _ (_ :: led)) p (List.mem_cons_of_mem _ hp), J⟩
    · clear F N J
      intro i t h tk m news I it hin hcls hI F N J
      obtain ⟨u, rfl, U, r1, r2, r3, r4⟩ := J
      have em : m = fun y => if y = PySem.Str.ofString "some" then some (Value.ref u.sl) else if y = PySem.Str.ofString "user" then some (Value.ref u.x) else if y = PySem.Str.ofString "known" then some (Value.ref u.kd) else if y = PySem.Str.ofString "used" then some (Value.ref u.ul) else m y := by
        funext y
        repeat' split
        all_goals first | rfl | (subst_vars; assumption)
      rw [em] at F
      clear r1 r2 r3 r4 em
      have N1 : News s₁.heap s₁.heap.objs.size h ((u.x, instObj 133 u.dx) :: (u.dx, dictOf (attrs w.params u.k1 u.k2 u.k3 u.k4 u.k5 u.k6 u.k7 u.k8 (.ref u.dk) (.int (0 : Nat) u.tcur) (.ref u.lu) (.int 0 u.tp) (.ref u.dt) (.ref u.lr) (.bool false) (.int 6 u.t6)) 8) :: (I, keepObj it) :: ledO w 0 vs u) := fun p hp => N p (by
        rcases List.mem_cons.mp hp with rfl | hp
        · simp [ledO]
        · rcases List.mem_cons.mp hp with rfl | hp
          · simp [ledO]
          · exact hp)
      clear N
      generalize hled : (I, keepObj it) :: ledO w 0 vs u = led at N1
      have hlo : (0 : Int) ≤ 1 + (i : Int) := by omega
      have hhi : 1 + (i : Int) < 256 := by omega
      refine wpR_any ?_
      k_steps
      refine Halt.into ?_
      (rename Fr _ _ _ _ => F9)
      (rename News _ _ _ _ => N9)
      have N2 : News s₁.heap s₁.heap.objs.size _ led := fun p hp => N9 p (by repeat (first | exact hp | refine List.mem_cons_of_mem _ ?_))
      subst hled
      k_dflt (refine' give U (by omega) (by omega) I it hI hcls (1 + i) ?hz _ _ _ _ _ (cid_bytes i) _ _ _ _ _ _ _ _ _ _ _ _ _ _ _ _ _ _ _ _ ?k1 ?k2 ?k3 ?k4 ?k5 ?kK ?kd ?ku ?kR; (case hz => (push_cast; omega)); (case k1 => k_asm); (case k2 => exact F9); (case k3 => k_asm); (case k4 => exact N2); (case k5 => k_asm); (case kK => rfl); (case kd => decide); (case ku => decide))
      clear F9 N9 N2
      intro h3 tk3 a1 a2 okd' ot' F3 N3 hd1 hd2 ni1 ni2 na1 na2
      obtain ⟨rest, N4, hne, hfin⟩ := give_rest U hI N3 na1 na2
      clear N3
      have hl5 : u.kvd.length ≤ 5 := Nat.le_trans U.ll (by omega)
      have hkl := U.hl
      have hm3 := U.m3
      dsimp only
      k_steps
      (rename Fr _ _ _ _ => F5)
      (rename News _ _ _ _ => N5)
      (rename Obj.IsDictOf _ _ (stored u.kvd _ _) => hd5)
      have hcast : (1 : Int) + (i : Int) = ((i + 1 : Nat) : Int) := by push_cast; omega
      rw [hcast] at hd5
      refine' ⟨rfl, _, _, _, _, rfl, F5, hfin _ _ N5, off_I hI ni1 ni2, ⟨_, ?zE9, US.step U (by omega) hd1 hd2 hd5 (cid_bytes i) ?zV9 na1 na2, rfl, rfl, rfl, rfl⟩⟩
      case zE9 => rfl
      case zV9 => exact tok_at hcast
      all_goals exact (0 : Nat)
    · clear F N J
      intro h tk m news F N J
      have hc0 : 0 ≤ (ns.getD 2 0).fmod 3 := Int.fmod_nonneg_of_pos _ (by decide)
      have hc1 : (ns.getD 2 0).fmod 3 < 3 := Int.fmod_lt_of_pos _ (by decide)
      obtain ⟨e, he⟩ : ∃ e : Nat, (e : Int) = (ns.getD 2 0).fmod 3 := ⟨((ns.getD 2 0).fmod 3).toNat, by omega⟩
      have he3 : e = 0 ∨ e = 1 ∨ e = 2 := by omega
      refine wpR_execs_cons (forRangeJ (h₀ := s₁.heap) (a := 0) (n := e) (fun c m news => JU w b0 v0 vs (n + 1) c m news) rfl rfl rfl ?_ (by rcases he3 with rfl | rfl | rfl <;> decide) (by rcases he3 with rfl | rfl | rfl <;> decide) ?_ ?_)
      · obtain ⟨u, rfl, U, r1, r2, r3, r4⟩ := id J
        have em : m = fun y => if y = PySem.Str.ofString "some" then some (Value.ref u.sl) else m y := by
          funext y
          repeat' split
          all_goals first | rfl | (subst_vars; assumption)
        rw [em] at F J
        have N1 : News s₁.heap s₁.heap.objs.size h ((u.sl, W.listOf vs.toArray u.nS) :: ledO w 0 vs u) := fun p hp => N p (by
          rcases List.mem_cons.mp hp with rfl | hp
          · simp [ledO]
          · exact hp)
        clear N em U r1 r2 r3 r4
        generalize hled : ledO w 0 vs u = led at N1 J
        k_steps
        exact ⟨_, _, _, _, _, _, _, _, _, rfl, rfl, by assumption, by (show ((ns.getD 2 0).fmod 3 : Int) = 0 + (e : Int)); omega, by assumption, fun p hp => (by assumption : News _ _ _ (_ :: led)) p (List.mem_cons_of_mem _ hp), J⟩
      · clear F N J
        intro c t h tk m news I it hin hcls hI F N J
        obtain ⟨u, rfl, U, r1, r2, r3, r4⟩ := J
        have em : m = fun y => if y = PySem.Str.ofString "some" then some (Value.ref u.sl) else if y = PySem.Str.ofString "user" then some (Value.ref u.x) else if y = PySem.Str.ofString "known" then some (Value.ref u.kd) else if y = PySem.Str.ofString "used" then some (Value.ref u.ul) else m y := by
          funext y
          repeat' split
          all_goals first | rfl | (subst_vars; assumption)
        rw [em] at F
        clear r1 r2 r3 r4 em
        have N1 : News s₁.heap s₁.heap.objs.size h ((u.x, instObj 133 u.dx) :: (u.dx, dictOf (attrs w.params u.k1 u.k2 u.k3 u.k4 u.k5 u.k6 u.k7 u.k8 (.ref u.dk) (.int c u.tcur) (.ref u.lu) (.int 0 u.tp) (.ref u.dt) (.ref u.lr) (.bool false) (.int 6 u.t6)) 8) :: (I, keepObj it) :: ledO w c vs u) := fun p hp => N p (by
          rcases List.mem_cons.mp hp with rfl | hp
          · simp [ledO]
          · rcases List.mem_cons.mp hp with rfl | hp
            · simp [ledO]
            · exact hp)
        clear N
        generalize hled : (I, keepObj it) :: ledO w c vs u = led at N1
        refine wpR_any ?_
        k_steps
        refine Halt.into ?_
        (rename Fr _ _ _ _ => F9)
        (rename News _ _ _ _ => N9)
        have N2 : News s₁.heap s₁.heap.objs.size _ led := fun p hp => N9 p (by repeat (first | exact hp | refine List.mem_cons_of_mem _ ?_))
        subst hled
        have hIk : u.kd ≠ I := hI (u.kd, u.okl) (by simp [ledO])
        have hIu : u.ul ≠ I := hI (u.ul, W.listOf u.us2.toArray u.nUl) (by simp [ledO])
        k_dflt (refine' take U (by omega) (by omega) I it hI _ _ _ _ _ _ _ _ _ _ _ _ _ _ _ _ _ _ _ _ ?k1 ?k2 ?k3 ?k4 ?k5 ?kK ?kd ?ku ?kT; (case k1 => k_asm); (case k2 => exact F9); (case k3 => k_asm); (case k4 => exact N2); (case k5 => k_asm); (case kK => rfl); (case kd => decide); (case ku => decide))
        clear F9 N9 N2
        intro h3 tk3 okd' t2 nU' nR' F3 N3 hd1
        obtain ⟨rest, N4, q1, q2, q3, q4, q5, q6, q7, hfin⟩ := take_rest (u := { u with okd := okd', tcur := t2, nU := nU', nR := nR', us := u.us ++ [Value.int ((c : Int) + 1) t2], rs := u.rs ++ [Value.int c u.tcur] }) U.nd U.off hIk hIu N3
        clear N3
        have hl5 : u.kvd.length ≤ 5 := Nat.le_trans U.ll (by omega)
        have hkl := U.hl
        have hm3 := U.m3
        have hv : valueAt u.kvd (c : Int) = some (.bool (decide ((c : Int) ≠ 0) || b0)) := by rw [U.kd, if_pos (by push_cast; omega)]
        have huz : u.us2.length < 64 := by
          rw [U.iu2.length]
          unfold usedTo
          rw [List.length_map, List.length_range]
          omega
        dsimp only at N4 q1 q2 q3 q4 q5 q6 q7 hfin ⊢
        k_steps
        (rename Fr _ _ _ _ => F5)
        (rename News _ _ _ _ => N5)
        (rename Obj.IsDictOf _ _ (without u.kvd _) => hd5)
        refine' ⟨rfl, _, _, _, _, rfl, F5, hfin _ _ _ _ N5, off_T hI, ⟨_, ?zE9, US.shift U hd1 hd5, rfl, rfl, rfl, rfl⟩⟩
        case zE9 => rfl
        all_goals exact (0 : Nat)
      · clear F N J
        intro h tk m news F N J
        refine wpR_any ?_
        k_steps
        exact mid_of F N J hi (by omega) (by omega) hb
  refine wpR_cut (pre := [_, _, _]) (PA w s₁.heap s₁.heap.objs.size s₁) ?_ ?_
  · w_top off
    k_with_none
    (k_with "m call ref" => (k_here; (with_reducible show wpAny _ _ (call (Value.ref 142) [Value.int _ _]) _ _ _); k_dflt (refine' (token _ _ _ _) _ _ _ _ _ _ _ _ _ _ _ _ _ _ _ _ _ _ _ _ ?k1Z74 ?k2Z74 ?k3Z74 ?k4Z74 ?k5Z74 ?kKZ74 ?kdZ74 ?kuZ74 ?_; (case k1Z74 => k_asm); (case k2Z74 => k_asm); (case k3Z74 => k_asm); (case k4Z74 => k_asm); (case k5Z74 => k_asm); (case kKZ74 => rfl); (case kdZ74 => decide); (case kuZ74 => decide)); intro t9 h9 tk9 F9 N9; (try dsimp only); (try k_fold)))
    (k_with "m eval Dict" => (k_here; k_dflt (refine' kdn_int ?qZ75 ?FZ75 ?NZ75 ?bZ75 ?aZ75 ?lZ75 ?eZ75 ?nZ75 ?_; (case qZ75 => rfl); (case FZ75 => k_asm); (case NZ75 => first | k_asm | exact News.nil); (case bZ75 => exact Top.nolimit (by k_asm)); (case aZ75 => rfl); (case lZ75 => rfl); (case eZ75 => exact List.cons_ne_nil _ _); (case nZ75 => exact Nat.le_of_ble_eq_true rfl)); intro d' h' o' F' N' l1 lo' hd'; (try k_lt l1)))
    (k_with "m subscriptTail" => (k_here; (with_reducible show wpAny _ _ (subscriptTail (PySem.Expr.Name (PySem.Str.ofString "some") _) _ (Value.ref _) (Value.int _ _)) _ _ _); k_dflt (refine' item_some ?NZ76 ?mZ76 ?iZ76 ?zZ76 ?loZ76 ?hiZ76 ?_; (case NZ76 => k_asm); (case mZ76 => k_mem); (case iZ76 => assumption); (case zZ76 => assumption); (case loZ76 => decide); (case hiZ76 => decide)); intro t9))
    clear F N0
    rintro s' ⟨h, tk, m, vs, ns, v0, x, dx, dk, lu, dt, lr, sl, a1, a2, okd, ot, k1, k2, k3, k4, k5, k6, k7, k8, tcur, tp, t6, u0, t1, t2, nU, nR, nS, n1, n2, rfl, F, N, nd, sm1, sm2, hdk, hdt, e1, e2, hi, hz, hb⟩
    have em : m = fun y => if y = PySem.Str.ofString "some" then some (Value.ref sl) else if y = PySem.Str.ofString "user" then some (Value.ref x) else m y := by
      funext y
      repeat' split
      all_goals first | rfl | (subst_vars; assumption)
    rw [em] at F
    clear e1 e2 em
    refine wpR_any ?_
    k_steps
    all_goals ((rename Fr _ _ _ _ => F9); (rename News _ _ _ _ => N9); (refine' PB.intro F9 N9 ?e1 ?e2 ?e3 ?e4 ?sub ?q1 ?q2 hdk hdt ?hl sm1 sm2 ?s3 hi hz hb nd ?o1 ?o2; (case e1 => rfl); (case e2 => rfl); (case e3 => rfl); (case e4 => rfl); (case sub => k_subL); (case q1 => k_mem); (case q2 => k_mem); (case hl => assumption); (case s3 => assumption); (case o1 => assumption); (case o2 => assumption)))
  w_top off
  k_with_none
  (k_with "m call ref" => (k_here; (with_reducible show wpAny _ _ (call (Value.ref 142) [Value.int _ _]) _ _ _); k_dflt (refine' (token _ _ _ _) _ _ _ _ _ _ _ _ _ _ _ _ _ _ _ _ _ _ _ _ ?k1Z77 ?k2Z77 ?k3Z77 ?k4Z77 ?k5Z77 ?kKZ77 ?kdZ77 ?kuZ77 ?_; (case k1Z77 => k_asm); (case k2Z77 => k_asm); (case k3Z77 => k_asm); (case k4Z77 => k_asm); (case k5Z77 => k_asm); (case kKZ77 => rfl); (case kdZ77 => decide); (case kuZ77 => decide)); intro t9 h9 tk9 F9 N9; (try dsimp only); (try k_fold)))
  (k_with "m eval Dict" => (k_here; k_dflt (refine' kdn_int ?qZ78 ?FZ78 ?NZ78 ?bZ78 ?aZ78 ?lZ78 ?eZ78 ?nZ78 ?_; (case qZ78 => rfl); (case FZ78 => k_asm); (case NZ78 => first | k_asm | exact News.nil); (case bZ78 => exact Top.nolimit (by k_asm)); (case aZ78 => rfl); (case lZ78 => rfl); (case eZ78 => exact List.cons_ne_nil _ _); (case nZ78 => exact Nat.le_of_ble_eq_true rfl)); intro d' h' o' F' N' l1 lo' hd'; (try k_lt l1)))
  refine wpR_any ?_
  k_steps
  all_goals ((rename Fr _ _ _ _ => F9); (rename News _ _ _ _ => N9); (refine' PA.intro F9 N9 ?e1 ?e2 ?q1 ?q2 ?q3 ?q4 ?hd ?ht ?q5 ?q6 ?q7 ?q8 ?q9 ?s1 ?s2 ?hi ?hz ?hb ?nd; (case e1 => rfl); (case e2 => rfl); (case q1 => k_mem); (case q2 => k_mem); (case q3 => k_mem); (case q4 => k_mem); (case hd => assumption); (case ht => assumption); (case q5 => k_mem); (case q6 => k_mem); (case q7 => k_mem); (case q8 => k_mem); (case q9 => k_mem); (case s1 => assumption); (case s2 => assumption); (case hi => assumption); (case hz => simp); (case hb => first | exact HB.yes (by assumption) | exact HB.no (by assumption)); (case nd => (simp only [List.nodup_cons, List.mem_cons, List.not_mem_nil, or_false, not_or, not_false_eq_true, List.nodup_nil, and_true]; omega)))))
end Mine
end

theorem PySem.Challenge.cw_no0065_01_holds : PySem.Challenge.rw_no0065_01.Holds := by
  exact Mine.main
