import PyProof.Rows.All
import Wide.All
import OpenK.AllK
import Wide.FinOn
import PySem.Challenge.RW_nu0056_01
set_option Elab.async false
set_option compiler.extract_closed false
set_option maxRecDepth 100000
set_option maxHeartbeats 8000000
section
open PySem PySem.W PyProof.Rows
namespace Mine
open_top hd for PySem.Challenge.rw_nu0056_01
end Mine
end
namespace Mine
section
open PySem PySem.W PySem.Calls PyProof.Rows
abbrev Pg : Program := PySem.Challenge.rw_nu0056_01.row.prog
theorem enterX {w : World} {A : Around} {s : Shared} {K : Frag} {f : Addr} {args : List Value} {Q : Value → Shared → Prop} {E : Value → Shared → Prop}
    {name qual : Str} {params : Arguments} {body : List Stmt} {scope : Scope} {dV kV doc pm cdv ct oc : Value} {an od : Option Addr} {osl : Array (Option Value)} {binds : List (Str × Value)}
    (X : List Addr) (KX : K.In (hideAll s.heap X)) (hlim : s.heap.NoLimit)
    (ho : K.lookup f = some ⟨oc, od, .func (fnOf name qual params body scope dV kV doc pm an cdv ct), osl⟩) (hcd : codeIn K cdv qual = true) (hroom : A.depth < recursionLimit)
    (hbind : BindsTo s (fnOf name qual params body scope dV kV doc pm an cdv ct) ⟨args, []⟩ binds) (hloc : ∀ y ∈ binds, scope.names.lookup y.1 = some .local)
    (h : ∀ h₁, Fr (hideAll s.heap X) s.heap.objs.size h₁ (fun y => binds.reverse.lookup y) → (∀ b o, s.heap.get? b = some o → h₁.get? b = some o) →
      wpAny (model Pg w) (A.deeper (envOf qual scope s.heap.objs.size f cdv)) (execs body (envOf qual scope s.heap.objs.size f cdv))
        (fun fl s' => Q (match fl with | .ret v => v | _ => .none) s') (fun _ _ => False) { s with heap := h₁, toks := s.toks + binds.length })
    (hco : scope.isCoroutine = false := by rfl) (hgen : scope.isGenerator = false := by rfl) (hk : scope.kind = .function := by rfl)
    (hcell : ∀ x ∈ scope.names, x.2 ≠ .cell := by decide) : wpAny (model Pg w) A (call (.ref f) args) Q E s := by
  have Ks : K.In s.heap := fun b o e => of_hideAll X (KX b o e)
  refine wpAny_call (codeAny_call_def (fd := fnOf name qual params body scope dV kV doc pm an cdv ct) (body := body) (binds := binds) hroom (Ks _ _ ho) rfl hlim (codeRec_of Ks hcd) rfl hbind hcell hloc (fun h₁ hns hk₁ => ?_) hco hgen hk)
  refine wpAny_mono (h h₁ ⟨hns, fun b o e => hk₁ b o (of_hideAll X e), Nat.le_of_eq (hideAll_size _ _)⟩ hk₁) (fun fl s' hq => hq) fun _ _ x => x.elim
structure Wd (w : World) (h : Heap) : Prop where
  kx : (hd.heap_39 w.params).In h
  top : ∃ mean mg mb, Top hd.view_39 (looseW hd.view_39 []) mean mg mb h
/-- the world stands within the heap -/
structure St (w : World) (h₀ h : Heap) : Prop where
  wd : Wd w h₀
  st : h₀.StaysIn h
theorem Wd.keeps {w : World} {h h' : Heap} (W : Wd w h) (k : ∀ b o, h.get? b = some o → h'.get? b = some o) : Wd w h' :=
  ⟨W.kx.keeps k, let ⟨a, b, c, t⟩ := W.top; ⟨a, b, c, t.keeps k⟩⟩
theorem St.hide {w : World} {h₀ h : Heap} (S : St w h₀ h) (X : List Addr) (hx : ∀ x ∈ X, h₀.get? x = none) : Wd w (hideAll h X) :=
  S.wd.keeps fun b o e => hideAll_get X (S.st b o e) fun q => by rw [hx b q] at e; cases e
theorem St.here {w : World} {h₀ h : Heap} (S : St w h₀ h) : Wd w h := S.wd.keeps S.st
theorem Wd.lim {w : World} {h : Heap} (W : Wd w h) : h.NoLimit := let ⟨_, _, _, t⟩ := W.top; t.nolimit
/-- all but X is as it was -/
structure Ext (X : List Addr) (h h' : Heap) : Prop where
  keep : ∀ b o, b ∉ X → h.get? b = some o → h'.get? b = some o
  size : h.objs.size ≤ h'.objs.size
end
section
open PySem PySem.W PySem.Calls PyProof.Rows
abbrev Md (w : World) : Model := model PySem.Challenge.rw_nu0056_01.row.prog w
abbrev Bad : Value → Shared → Prop := fun _ _ => False
abbrev stt (s : Shared) (h : Heap) (tk : Nat) : Shared := { s with heap := h, toks := tk }
/-- what the function at hand knows: its frame over the base heap g, and some objects of its own with what holds of each -/
structure Cx (g : Heap) (L : Addr) (m : Str → Option Value) (led : List (Addr × (Obj → Prop))) (h : Heap) : Prop where
  F : Fr g L h m
  at_ : ∀ p ∈ led, p.1 ≠ L ∧ g.get? p.1 = none ∧ ∃ o, h.get? p.1 = some o ∧ p.2 o
  nd : (led.map (·.1)).Nodup
section
variable {h h' g : Heap} {L a : Addr} {m m' : Str → Option Value} {led led' : List (Addr × (Obj → Prop))} {P P' : Obj → Prop}
theorem Cx.kept (C : Cx g L m led h) (F : Fr g L h' m') (k : ∀ b o, b ≠ L → h.get? b = some o → h'.get? b = some o) : Cx g L m' led h' :=
  ⟨F, fun p hp => let ⟨h1, h2, o, h3, h4⟩ := C.at_ p hp; ⟨h1, h2, o, k _ _ h1 h3, h4⟩, C.nd⟩
theorem Cx.grow (C : Cx g L m led h) (k : ∀ b o, h.get? b = some o → h'.get? b = some o) : Cx g L m led h' :=
  C.kept (C.F.keeps k) fun b o _ e => k b o e
theorem Cx.here (C : Cx g L m led h) (hp : (a, P) ∈ led) : ∃ o, h.get? a = some o ∧ P o := (C.at_ _ hp).2.2
theorem Cx.lt (C : Cx g L m led h) (hp : (a, P) ∈ led) : a < h.objs.size := let ⟨_, e, _⟩ := C.here hp; Heap.lt_size e
theorem Cx.Llt (C : Cx g L m led h) : L < h.objs.size := C.F.ns.lt
theorem Cx.new (C : Cx g L m led h) (k : ∀ b o, h.get? b = some o → h'.get? b = some o) (ha : h.objs.size ≤ a) (hp : ∃ o, h'.get? a = some o ∧ P o) : Cx g L m ((a, P) :: led) h' := by
  have C' := C.grow k
  refine ⟨C'.F, fun p hp' => ?_, ?_⟩
  · rcases List.mem_cons.mp hp' with rfl | hp'
    · refine ⟨Nat.ne_of_gt (Nat.lt_of_lt_of_le C.Llt ha), ?_, hp⟩
      cases e : g.get? a with
      | none => rfl
      | some o => exact absurd (Nat.lt_of_lt_of_le (Heap.lt_size (C.F.keep _ _ e)) ha) (Nat.lt_irrefl _)
    · exact C'.at_ p hp'
  · refine List.nodup_cons.mpr ⟨fun hm => ?_, C.nd⟩
    obtain ⟨⟨b, R⟩, hb, e⟩ := List.mem_map.mp hm
    obtain rfl : b = a := e
    exact absurd (Nat.lt_of_lt_of_le (C.lt hb) ha) (Nat.lt_irrefl _)
theorem Cx.set (C : Cx g L m ((a, P) :: led) h) (k : ∀ b o, b ≠ a → h.get? b = some o → h'.get? b = some o) (hp : ∃ o, h'.get? a = some o ∧ P' o) : Cx g L m ((a, P') :: led) h' := by
  obtain ⟨h1, h2, _⟩ := C.at_ (a, P) (.head _)
  have nd := List.nodup_cons.mp C.nd
  obtain ⟨oL, es, ep, hL, r⟩ := C.F.ns
  refine ⟨⟨⟨oL, es, ep, k _ _ (Ne.symm h1) hL, r⟩, fun b o e => k b o (fun q => by rw [q] at e; exact absurd (h2.symm.trans e) (by simp)) (C.F.keep b o e), C.F.above⟩, fun p hp' => ?_, C.nd⟩
  rcases List.mem_cons.mp hp' with rfl | hp'
  · exact ⟨h1, h2, hp⟩
  · obtain ⟨q1, q2, o, q3, q4⟩ := C.at_ p (.tail _ hp')
    exact ⟨q1, q2, o, k _ _ (fun q => nd.1 (List.mem_map.mpr ⟨p, hp', q⟩)) q3, q4⟩
theorem Cx.drop (C : Cx g L m ((a, P) :: led) h) : Cx g L m led h := ⟨C.F, fun p hp => C.at_ p (.tail _ hp), (List.nodup_cons.mp C.nd).2⟩
theorem Cx.nil (C : Cx g L m led h) : Cx g L m [] h := ⟨C.F, (fun _ hp => nomatch hp), List.nodup_nil⟩
theorem Cx.weak (C : Cx g L m ((a, P) :: led) h) (k : ∀ o, P o → P' o) : Cx g L m ((a, P') :: led) h :=
  C.set (fun _ _ _ e => e) (let ⟨o, e, p⟩ := C.here (.head _); ⟨o, e, k o p⟩)
theorem Cx.perm (C : Cx g L m led h) (p : led'.Perm led) : Cx g L m led' h := ⟨C.F, fun q hq => C.at_ q (p.mem_iff.mp hq), (p.map _).nodup_iff.mpr C.nd⟩
theorem Cx.swap {b : Addr} {R : Obj → Prop} (C : Cx g L m ((a, P) :: (b, R) :: led) h) : Cx g L m ((b, R) :: (a, P) :: led) h := C.perm (List.Perm.swap ..)
theorem Cx.sub (C : Cx g L m led h) (s : led'.Sublist led) : Cx g L m led' h := ⟨C.F, fun q hq => C.at_ q (s.subset hq), (s.map _).nodup C.nd⟩
theorem Cx.locals (C : Cx g L m led h) (e : ∀ x, m x = m' x) : Cx g L m' led h := (funext e : m = m') ▸ C
/-- to the library's own ledger and back -/
theorem Cx.toNews2 (C : Cx g L m led h) : ∃ news, News g L h news ∧ (∀ h' m', Fr g L h' m' → News g L h' news → Cx g L m' led h') ∧ ∀ q ∈ led, ∃ o, (q.1, o) ∈ news := by
  obtain ⟨news, h1, h2⟩ : ∃ news : List (Addr × Obj), (∀ p ∈ news, p.1 ≠ L ∧ g.get? p.1 = none ∧ h.get? p.1 = some p.2) ∧ ∀ q ∈ led, ∃ o, (q.1, o) ∈ news ∧ q.2 o := by
    have := C.at_
    clear C
    induction led with
    | nil => exact ⟨[], fun _ hp => (nomatch hp), fun _ hp => (nomatch hp)⟩
    | cons q r ih =>
      obtain ⟨news, h1, h2⟩ := ih fun p hp => this p (.tail _ hp)
      obtain ⟨a1, a2, o, a3, a4⟩ := this q (.head _)
      refine ⟨(q.1, o) :: news, fun p hp => ?_, fun p hp => ?_⟩
      · rcases List.mem_cons.mp hp with rfl | hp
        · exact ⟨a1, a2, a3⟩
        · exact h1 p hp
      · rcases List.mem_cons.mp hp with rfl | hp
        · exact ⟨o, .head _, a4⟩
        · obtain ⟨o', b1, b2⟩ := h2 p hp
          exact ⟨o', .tail _ b1, b2⟩
  refine ⟨news, fun p hp => ⟨(h1 p hp).2.2, (h1 p hp).1, (h1 p hp).2.1⟩, fun h' m' F' N' => ⟨F', fun q hq => ?_, C.nd⟩, fun q hq => let ⟨o, e, _⟩ := h2 q hq; ⟨o, e⟩⟩
  obtain ⟨o, b1, b2⟩ := h2 q hq
  exact ⟨(N' _ b1).2.1, (N' _ b1).2.2, o, (N' _ b1).1, b2⟩
theorem Cx.toNews (C : Cx g L m led h) : ∃ news, News g L h news ∧ ∀ h' m', Fr g L h' m' → News g L h' news → Cx g L m' led h' := let ⟨n, a, b, _⟩ := C.toNews2; ⟨n, a, b⟩
end
def upd (m : Str → Option Value) (x : Str) (v : Value) : Str → Option Value := fun y => if y = x then some v else m y
theorem upd_self {m : Str → Option Value} {x : Str} {v : Value} : upd m x v x = some v := if_pos rfl
theorem upd_ne {m : Str → Option Value} {x y : Str} {v : Value} (h : (y == x) = false) : upd m x v y = m y := if_neg (by simpa using h)
def gtab : List (Str × Value) := [("add_all", .ref 28), ("START", .int 0 196), ("Automaton", .ref 127), ("_law_pool", .ref 138), ("_law_take", .ref 145), ("_law_one", .ref 152),
  ("_law_particle", .ref 157), ("_law_once", .ref 164), ("_law_fits_row", .ref 171), ("_law_fits", .ref 178), ("_law_row", .ref 185)]
def btab : List (Str × Value) := [("len", .builtin "len"), ("int", .type "int"), ("range", .type "range"), ("tuple", .type "tuple"), ("list", .type "list"), ("sorted", .builtin "sorted"), ("max", .builtin "max")]
theorem gtab_ok (P : Params) : ∀ p ∈ gtab, nsIn (hd.heap_39 P) mainGlobals p.1 = some (some p.2) := by
  intro p hp
  simp only [gtab, List.mem_cons, List.not_mem_nil, or_false] at hp
  rcases hp with rfl | rfl | rfl | rfl | rfl | rfl | rfl | rfl | rfl | rfl | rfl <;> rfl
theorem btab_ok (P : Params) : ∀ p ∈ btab, nsIn (hd.heap_39 P) mainGlobals p.1 = some none ∧ bootBuiltins p.1 = some p.2 ∧ p.1 ≠ "__name__" := by
  intro p hp
  simp only [btab, List.mem_cons, List.not_mem_nil, or_false] at hp
  rcases hp with rfl | rfl | rfl | rfl | rfl | rfl | rfl <;> refine ⟨rfl, ?_, by decide⟩ <;> dsimp only <;> boot_by_name
theorem mem_of_lookup {α : Type} : ∀ {l : List (Str × α)} {x : Str} {v : α}, l.lookup x = some v → (x, v) ∈ l
  | (y, u) :: r, x, v, h => by
    rw [List.lookup_cons] at h
    by_cases e : (x == y) = true
    · rw [e] at h; obtain rfl := eq_of_beq e; cases h; exact .head _
    · simp only [e] at h; exact .tail _ (mem_of_lookup h)
section
variable {w : World} {A : Around} {s : Shared} {h g : Heap} {L a : Addr} {m : Str → Option Value} {led : List (Addr × (Obj → Prop))} {tk : Nat} {E : Value → Shared → Prop} {q : Str} {sc : Scope} {cd : Value}
theorem r_ld {env : Env} {x : Str} {pos : Pos} {v : Value} {Q : Value → Shared → Prop} (C : Cx g L m led h) (hv : m x = some v) (k : Q v (stt s h tk))
    (hL : env.locals = L := by rfl) (hk : env.scope.kind = .function := by rfl) (hl : env.kindOf x = some .local := by rfl) (hd : (x == ("__debug__" : Str)) = false := by decide) :
    wpAny (Md w) A (eval (.Name x pos) env) Q E (stt s h tk) := by
  subst hL
  exact wpAny_Name (wpAny_loadName_local (s := stt s h tk) hk hl C.F.ns hv k) hd
theorem r_glob {env : Env} {x : Str} {pos : Pos} {v : Value} {Q : Value → Shared → Prop} (C : Cx g L m led h) (W : Wd w g) (hv : gtab.lookup x = some v) (k : Q v (stt s h tk))
    (hg : env.globals = mainGlobals := by rfl) (hk : env.scope.kind = .function := by rfl) (hx : env.kindOf x = some .globalImplicit := by rfl) (hd : (x == ("__debug__" : Str)) = false := by decide) :
    wpAny (Md w) A (eval (.Name x pos) env) Q E (stt s h tk) := by
  obtain ⟨mean, mg, mb, T⟩ := W.top
  exact Name_function_global (s := stt s h tk) hk hx (loadGlobal_global (s := stt s h tk) (by rw [hg]; exact (T.keeps C.F.keep).g) (mg_of W.kx T.g (gtab_ok _ _ (mem_of_lookup hv))) k) hd
theorem r_blt {env : Env} {x : Str} {pos : Pos} {v : Value} {Q : Value → Shared → Prop} (C : Cx g L m led h) (W : Wd w g) (hv : btab.lookup x = some v) (k : Q v (stt s h tk))
    (hg : env.globals = mainGlobals := by rfl) (hb : env.builtins = builtinsNs := by rfl) (hk : env.scope.kind = .function := by rfl) (hx : env.kindOf x = some .globalImplicit := by rfl) (hd : (x == ("__debug__" : Str)) = false := by decide) :
    wpAny (Md w) A (eval (.Name x pos) env) Q E (stt s h tk) := by
  obtain ⟨mean, mg, mb, T⟩ := W.top
  obtain ⟨h1, h2, h3⟩ := btab_ok w.params _ (mem_of_lookup hv)
  exact Name_function_global (s := stt s h tk) hk hx (loadGlobal_builtin (s := stt s h tk) (by rw [hg]; exact (T.keeps C.F.keep).g) (mg_none_of W.kx T.g h1) (by rw [hb]; exact (T.keeps C.F.keep).b) ((T.builtins x h3).trans h2) k) hd
theorem r_st {env : Env} {x : Str} {v : Value} {Q : Unit → Shared → Prop} (C : Cx g L m led h) (k : ∀ h', Cx g L (upd m x v) led h' → Q () (stt s h' (tk + 1)))
    (hL : env.locals = L := by rfl) (hk : env.scope.kind = .function := by rfl) (hl : env.kindOf x = some .local := by rfl) :
    wpAny (Md w) A (storeName env x v) Q E (stt s h tk) := by
  subst hL
  obtain ⟨news, N, back⟩ := C.toNews
  exact wpAny_storeName_local (s := stt s h tk) hl C.F.ns (fun h' hn hs => k h' (back h' _ (C.F.set hn hs) (N.set hs))) (by rw [hk]; rfl)
def isCell (v : Value) : Obj → Prop := fun o => o.data = .cell (some v)
theorem r_cell {env : Env} {x : Str} {pos : Pos} {v : Value} {c : Addr} {Q : Value → Shared → Prop} (hc : env.cells.lookup x = some c) (hv : ∃ o, h.get? c = some o ∧ isCell v o) (k : Q v (stt s h tk))
    (hk : env.scope.kind = .function := by rfl) (hl : env.kindOf x = some .cell := by rfl) (hd : (x == ("__debug__" : Str)) = false := by decide) :
    wpAny (Md w) A (eval (.Name x pos) env) Q E (stt s h tk) := wpAny_Name (wpAny_loadName_cell (s := stt s h tk) hk hl hc hv k) hd
end
end
section
open PySem PySem.W PySem.Calls PyProof.Rows
section
variable {w : World} {A : Around} {s : Shared} {h g : Heap} {L a : Addr} {m : Str → Option Value} {led : List (Addr × (Obj → Prop))} {tk : Nat} {E : Value → Shared → Prop} {env : Env} {st : Shared}
def Then (w : World) (A : Around) (rest : List Stmt) (env : Env) (Q : Flow → Shared → Prop) (E : Value → Shared → Prop) : Flow → Shared → Prop :=
  fun f s' => match f with | .next => wpAny (Md w) A (execs rest env) Q E s' | f => Q f s'
theorem then_next {rest : List Stmt} {Q : Flow → Shared → Prop} (k : wpAny (Md w) A (execs rest env) Q E st) : Then w A rest env Q E .next st := k
theorem then_ret {rest : List Stmt} {Q : Flow → Shared → Prop} {v : Value} (k : Q (.ret v) st) : Then w A rest env Q E (.ret v) st := k
theorem x_nil {Q : Flow → Shared → Prop} (k : Q .next st) : wpAny (Md w) A (execs [] env) Q E st := wpAny_execs_nil k
theorem x_cons {c : Stmt} {rest : List Stmt} {Q : Flow → Shared → Prop} (k : wpAny (Md w) A (exec c env) (Then w A rest env Q E) E st) : wpAny (Md w) A (execs (c :: rest) env) Q E st :=
  wpAny_execs_cons k
theorem x_ret {e : Expr} {pos : Pos} {Q : Flow → Shared → Prop} (k : wpAny (Md w) A (eval e env) (fun v => Q (.ret v)) E st) : wpAny (Md w) A (exec (.Return (some e) pos) env) Q E st := wpAny_Return_some k
theorem x_if {test : Expr} {body orelse : List Stmt} {pos : Pos} {Q : Flow → Shared → Prop}
    (k : wpAny (Md w) A (isTrue test env (eval test env)) (fun b s₂ => (b = true → wpAny (Md w) A (execs body env) Q E s₂) ∧ (b = false → wpAny (Md w) A (execs orelse env) Q E s₂)) E st) :
    wpAny (Md w) A (exec (.If test body orelse pos) env) Q E st :=
  wpAny_If (wpAny_mono k (fun b s₂ h => by cases b; exact h.2 rfl; exact h.1 rfl) fun _ _ x => x)
theorem x_asg {x : Str} {pos' pos : Pos} {value : Expr} {Q : Flow → Shared → Prop} (k : wpAny (Md w) A (eval value env) (fun v s₁ => wpAny (Md w) A (storeName env x v) (fun _ => Q .next) E s₁) E st)
    (hs : swapsWith value (some (.Name x pos')) pos.line env = pure false := by rfl) : wpAny (Md w) A (exec (.Assign [.Name x pos'] value pos) env) Q E st := wpAny_Assign_Name k hs
theorem x_asg_sub {o i value : Expr} {pos' pos : Pos} {Q : Flow → Shared → Prop}
    (k : wpAny (Md w) A (eval value env) (fun v s₁ => wpAny (Md w) A (eval o env) (fun ov s₂ => wpAny (Md w) A (eval i env) (fun iv s₃ => wpAny (Md w) A (setItem ov iv v) (fun _ => Q .next) E s₃) E s₂) E s₁) E st)
    (hs : swapsWith value (some (.Subscript o i pos')) pos.line env = pure false := by rfl) : wpAny (Md w) A (exec (.Assign [.Subscript o i pos'] value pos) env) Q E st := wpAny_Assign_Subscript k hs
theorem x_asg_attr {o value : Expr} {attr : Str} {pos' pos : Pos} {Q : Flow → Shared → Prop}
    (k : wpAny (Md w) A (eval value env) (fun v s₁ => wpAny (Md w) A (eval o env) (fun ov s₂ => wpAny (Md w) A (setAttr ov attr v) (fun _ => Q .next) E s₂) E s₁) E st)
    (hs : swapsWith value (some (.Attribute o attr pos')) pos.line env = pure false := by rfl) : wpAny (Md w) A (exec (.Assign [.Attribute o attr pos'] value pos) env) Q E st := plainObj_wpAny_Assign_Attribute k hs
theorem x_asg_tup {elts : List Expr} {j : Nat} {tpos pos : Pos} {value : Expr} {Q : Flow → Shared → Prop}
    (k : wpAny (Md w) A (eval value env) (fun v s₁ => wpAny (Md w) A (assign (.Tuple elts j tpos) env v) (fun _ => Q .next) E s₁) E st)
    (hs : swapsWithSole [.Tuple elts j tpos] value pos.line env = pure false := by rfl)
    (hw : swappedStores [.Tuple elts j tpos] value env = pure none := by rfl) : wpAny (Md w) A (exec (.Assign [.Tuple elts j tpos] value pos) env) Q E st := Assign_Tuple k hs hw
theorem x_expr {e : Expr} {pos : Pos} {Q : Flow → Shared → Prop} (k : wpAny (Md w) A (eval e env) (fun v s' => v = .none ∧ Q .next s') E st)
    (hi : interactive env = false := by rfl) (hs : swapsWith e none pos.line env = pure false := by rfl) : wpAny (Md w) A (exec (.Expr e pos) env) Q E st :=
  wpAny_Expr (wpAny_mono k (fun v s' hq => by obtain ⟨rfl, hq⟩ := hq; exact hq) fun _ _ x => x) hi hs
-- tests
theorem t_cmp {l r : Expr} {op : CmpOp} {pos : Pos} {whole : Sem Value} {Q : Bool → Shared → Prop}
    (k : wpAny (Md w) A (eval l env) (fun a s₁ => wpAny (Md w) A (eval r env) (fun b s₂ => wpAny (Md w) A (compareOp op a b) (fun c s₃ => wpAny (Md w) A (truthy c) Q E s₃) E s₂) E s₁) E st)
    (hm : behindInMarks op r = false := by with_unfolding_all rfl) : wpAny (Md w) A (isTrue (.Compare l [op] [r] pos) env whole) Q E st := wpAny_isTrue_Compare1 k hm
theorem t_not {x : Expr} {pos : Pos} {whole : Sem Value} {Q : Bool → Shared → Prop} (k : wpAny (Md w) A (isTrue x env (eval x env)) (fun b s₁ => Q (!b) s₁) E st) :
    wpAny (Md w) A (isTrue (.UnaryOp .Not x pos) env whole) Q E st := wpAny_isTrue_Not k
theorem t_bool {op : BoolOp} {values : List Expr} {pos : Pos} {whole : Sem Value} {Q : Bool → Shared → Prop} (k : wpAny (Md w) A (allTrue op values env) Q E st) :
    wpAny (Md w) A (isTrue (.BoolOp op values pos) env whole) Q E st := wpAny_isTrue_BoolOp k
theorem t_and_nil {Q : Bool → Shared → Prop} (k : Q true st) : wpAny (Md w) A (allTrue .And [] env) Q E st := wpAny_allTrue_And_nil k
theorem t_or_nil {Q : Bool → Shared → Prop} (k : Q false st) : wpAny (Md w) A (allTrue .Or [] env) Q E st := wpAny_allTrue_Or_nil k
theorem t_and {x : Expr} {rest : List Expr} {Q : Bool → Shared → Prop} (k : wpAny (Md w) A (isTrue x env (eval x env)) (fun b s₁ => (b = true → wpAny (Md w) A (allTrue .And rest env) Q E s₁) ∧ (b = false → Q false s₁)) E st) :
    wpAny (Md w) A (allTrue .And (x :: rest) env) Q E st :=
  wpAny_allTrue_And_cons (wpAny_mono k (fun b s₂ h => by cases b; exact h.2 rfl; exact h.1 rfl) fun _ _ x => x)
theorem t_or {x : Expr} {rest : List Expr} {Q : Bool → Shared → Prop} (k : wpAny (Md w) A (isTrue x env (eval x env)) (fun b s₁ => (b = true → Q true s₁) ∧ (b = false → wpAny (Md w) A (allTrue .Or rest env) Q E s₁)) E st) :
    wpAny (Md w) A (allTrue .Or (x :: rest) env) Q E st :=
  wpAny_allTrue_Or_cons (wpAny_mono k (fun b s₂ h => by cases b; exact h.2 rfl; exact h.1 rfl) fun _ _ x => x)
theorem t_val {e : Expr} {whole : Sem Value} {Q : Bool → Shared → Prop} (k : wpAny (Md w) A whole (fun v s₁ => wpAny (Md w) A (truthy v) Q E s₁) E st)
    (he : isTrue e env whole = (do let v ← whole; standAt e.pos; holding [v] (truthy v)) := by rfl) : wpAny (Md w) A (isTrue e env whole) Q E st := wpAny_isTrue_value k he
theorem t_truthy {b : Bool} {Q : Bool → Shared → Prop} (k : Q b st) : wpAny (Md w) A (truthy (.bool b)) Q E st := wpAny_truthy_bool k
-- expressions
theorem e_int {i : Int} {j : Nat} {pos : Pos} {Q : Value → Shared → Prop} (k : Q (.int i tk) (stt s h (tk + 1))) : wpAny (Md w) A (eval (.Constant (.int i) j pos) env) Q E (stt s h tk) := wpAny_Constant_int k
theorem e_cmp {l r : Expr} {op : CmpOp} {pos : Pos} {Q : Value → Shared → Prop}
    (k : wpAny (Md w) A (eval l env) (fun a s₁ => wpAny (Md w) A (eval r env) (fun b s₂ => wpAny (Md w) A (compareOp op a b) Q E s₂) E s₁) E st)
    (hm : behindInMarks op r = false := by with_unfolding_all rfl) : wpAny (Md w) A (eval (.Compare l [op] [r] pos) env) Q E st := wpAny_Compare1 k hm
theorem e_bin {l r : Expr} {op : Operator} {pos : Pos} {Q : Value → Shared → Prop}
    (k : wpAny (Md w) A (eval l env) (fun a s₁ => wpAny (Md w) A (eval r env) (fun b s₂ => wpAny (Md w) A (binaryOp op a b) Q E s₂) E s₁) E st) : wpAny (Md w) A (eval (.BinOp l op r pos) env) Q E st := wpAny_BinOp k
theorem e_un {x : Expr} {op : UnaryOp} {pos : Pos} {Q : Value → Shared → Prop} (k : wpAny (Md w) A (eval x env) (fun v s₁ => wpAny (Md w) A (unaryOp op v) Q E s₁) E st) : wpAny (Md w) A (eval (.UnaryOp op x pos) env) Q E st := wpAny_UnaryOp k
theorem e_ife {test body orelse : Expr} {pos : Pos} {Q : Value → Shared → Prop}
    (k : wpAny (Md w) A (isTrue test env (eval test env)) (fun b s₁ => (b = true → wpAny (Md w) A (eval body env) Q E s₁) ∧ (b = false → wpAny (Md w) A (eval orelse env) Q E s₁)) E st) : wpAny (Md w) A (eval (.IfExp test body orelse pos) env) Q E st :=
  wpAny_IfExp (wpAny_mono k (fun b s₂ h => by cases b; exact h.2 rfl; exact h.1 rfl) fun _ _ x => x)
theorem e_and {x y : Expr} {pos : Pos} {Q : Value → Shared → Prop}
    (k : wpAny (Md w) A (eval x env) (fun v s₁ => wpAny (Md w) A (truthy v) (fun t s₂ => (t = true → wpAny (Md w) A (eval y env) Q E s₂) ∧ (t = false → Q v s₂)) E s₁) E st) : wpAny (Md w) A (eval (.BoolOp .And [x, y] pos) env) Q E st :=
  wpAny_And2 (wpAny_mono k (fun v s₁ h => wpAny_mono h (fun b s₂ h => by cases b; exact h.2 rfl; exact h.1 rfl) fun _ _ x => x) fun _ _ x => x)
theorem e_or {x y : Expr} {pos : Pos} {Q : Value → Shared → Prop}
    (k : wpAny (Md w) A (eval x env) (fun v s₁ => wpAny (Md w) A (truthy v) (fun t s₂ => (t = true → Q v s₂) ∧ (t = false → wpAny (Md w) A (eval y env) Q E s₂)) E s₁) E st) : wpAny (Md w) A (eval (.BoolOp .Or [x, y] pos) env) Q E st :=
  wpAny_Or2 (wpAny_mono k (fun v s₁ h => wpAny_mono h (fun b s₂ h => by cases b; exact h.2 rfl; exact h.1 rfl) fun _ _ x => x) fun _ _ x => x)
theorem e_sub {value slice : Expr} {pos : Pos} {Q : Value → Shared → Prop}
    (k : wpAny (Md w) A (eval value env) (fun o s₁ => wpAny (Md w) A (eval slice env) (fun i s₂ => wpAny (Md w) A (subscriptTail value slice o i) Q E s₂) E s₁) E st) : wpAny (Md w) A (eval (.Subscript value slice pos) env) Q E st := Subscript_ k
theorem e_list {elts : List Expr} {pos : Pos} {Q : Value → Shared → Prop} (k : wpAny (Md w) A (spliced (backTo pos (starEach elts env))) (fun vs s₁ => wpAny (Md w) A (newList vs) Q E s₁) E st) : wpAny (Md w) A (eval (.List elts pos) env) Q E st := List_ k
theorem e_tup {elts : List Expr} {j : Nat} {pos : Pos} {Q : Value → Shared → Prop} (k : wpAny (Md w) A (spliced (backTo pos (starEach elts env))) (fun vs s₁ => wpAny (Md w) A (newTuple vs) Q E s₁) E st) : wpAny (Md w) A (eval (.Tuple elts j pos) env) Q E st := Tuple_ k
theorem e_nil {pos : Pos} {Q : List Value → Shared → Prop} (k : Q [] st) : wpAny (Md w) A (spliced (backTo pos (starEach [] env))) Q E st := spliced_none k
theorem e_more {e : Expr} {rest : List Expr} {pos : Pos} {Q : List Value → Shared → Prop}
    (k : wpAny (Md w) A (eval e env) (fun v s₁ => wpAny (Md w) A (spliced (backTo pos (starEach rest env))) (fun vs s₂ => Q (v :: vs) s₂) E s₁) E st)
    (he : starEach (e :: rest) env = (false, eval e env) :: starEach rest env := by rfl) : wpAny (Md w) A (spliced (backTo pos (starEach (e :: rest) env))) Q E st := spliced_more k he
theorem e_call {f : Str} {p pos : Pos} {args : List Expr} {Q : Value → Shared → Prop} (k : wpAny (Md w) A (eval (.Name f p) env) (fun f s₁ => wpAny (Md w) A (callWith pos f [] (backTo pos (starEach args env)) []) Q E s₁) E st) :
    wpAny (Md w) A (eval (.Call (.Name f p) args [] pos) env) Q E st := wpAny_Call_NameR k
theorem e_meth {o : Expr} {name : Str} {apos pos : Pos} {args : List Expr} {pl : Sem Bool} {Q : Value → Shared → Prop}
    (k : wpAny (Md w) A (eval o env) (fun ov s₁ => wpAny (Md w) A (getMethod ov name pl) (fun fx s₂ => wpAny (Md w) A (callWith pos fx.1 fx.2 (backTo pos (starEach args env)) []) Q E s₂) E s₁) E st)
    (he : eval (.Call (.Attribute o name apos) args [] pos) env = (do
      let ov ← eval o env
      standAt apos.atName
      let (f, first) ← holding [ov] (getMethod ov name pl)
      callWith pos f first (backTo pos (starEach args env)) []) := by rfl) :
    wpAny (Md w) A (eval (.Call (.Attribute o name apos) args [] pos) env) Q E st := MethodCall_ k he
def CallK (w : World) (A : Around) (f : Value) (Q : Value → Shared → Prop) (E : Value → Shared → Prop) : List Value → Shared → Prop := fun vs s₁ => (hd.heap_39 w.params).In s₁.heap ∧ wpAny (Md w) A (call f vs) Q E s₁
theorem Cx.kin (C : Cx g L m led h) (W : Wd w g) : (hd.heap_39 w.params).In h := W.kx.keeps C.F.keep
theorem callK {f : Value} {vs : List Value} {Q : Value → Shared → Prop} (C : Cx g L m led h) (W : Wd w g) (k : wpAny (Md w) A (call f vs) Q E (stt s h tk)) : CallK w A f Q E vs (stt s h tk) := ⟨C.kin W, k⟩
/-- a def of the text's own, by name: one argument or more -/
theorem c_def {pos : Pos} {f : Addr} {e : Expr} {rest : List Expr} {Q : Value → Shared → Prop} (hk : keepIn (hd.heap_39 w.params) (.ref f) = true)
    (k : wpAny (Md w) A (spliced (backTo pos (starEach (e :: rest) env))) (CallK w A (.ref f) Q E) E st)
    (he : starEach (e :: rest) env = (false, eval e env) :: starEach rest env := by rfl) (hplain : (backTo pos (starEach rest env)).any (·.1) = false := by rfl) :
    wpAny (Md w) A (callWith pos (.ref f) [] (backTo pos (starEach (e :: rest) env)) []) Q E st := by
  rw [he] at k ⊢
  exact callWith_of (first := []) (by show ((false || (backTo pos (starEach rest env)).any (·.1)) || false) = false; rw [hplain]; rfl) (keeps_K hk) (evalArgs_plain k)
/-- a method of the text's own -/
theorem c_meth {pos : Pos} {f : Addr} {self : Value} {e : Expr} {rest : List Expr} {Q : Value → Shared → Prop} (hk : keepIn (hd.heap_39 w.params) (.ref f) = true)
    (k : wpAny (Md w) A (spliced (backTo pos (starEach (e :: rest) env))) (fun vs => CallK w A (.ref f) Q E (self :: vs)) E st)
    (he : starEach (e :: rest) env = (false, eval e env) :: starEach rest env := by rfl) (hplain : (backTo pos (starEach rest env)).any (·.1) = false := by rfl) :
    wpAny (Md w) A (callWith pos (.ref f) [self] (backTo pos (starEach (e :: rest) env)) []) Q E st := by
  rw [he] at k ⊢
  exact callWith_of (first := [self]) (by show ((false || (backTo pos (starEach rest env)).any (·.1)) || false) = false; rw [hplain]; rfl) (keeps_K hk) (evalArgs_plain k)
theorem c_type {pos : Pos} {T : String} {e : Expr} {rest : List Expr} {Q : Value → Shared → Prop}
    (k : wpAny (Md w) A (spliced (backTo pos (starEach (e :: rest) env))) (fun vs s₁ => wpAny (Md w) A (call (.type T) vs) Q E s₁) E st)
    (he : starEach (e :: rest) env = (false, eval e env) :: starEach rest env := by rfl) (hplain : (backTo pos (starEach rest env)).any (·.1) = false := by rfl) :
    wpAny (Md w) A (callWith pos (.type T) [] (backTo pos (starEach (e :: rest) env)) []) Q E st := by
  rw [he] at k ⊢
  exact PyProof.Rows.callWith_type (first := []) (by show (false || (backTo pos (starEach rest env)).any (·.1)) = false; rw [hplain]; rfl) (evalArgs_plain k)
theorem c_blt {pos : Pos} {T : String} {e : Expr} {rest : List Expr} {Q : Value → Shared → Prop}
    (k : wpAny (Md w) A (spliced (backTo pos (starEach (e :: rest) env))) (fun vs s₁ => wpAny (Md w) A (call (.builtin T) vs) Q E s₁) E st)
    (he : starEach (e :: rest) env = (false, eval e env) :: starEach rest env := by rfl) (hplain : (backTo pos (starEach rest env)).any (·.1) = false := by rfl) :
    wpAny (Md w) A (callWith pos (.builtin T) [] (backTo pos (starEach (e :: rest) env)) []) Q E st := by
  rw [he] at k ⊢
  exact callWith_builtin (first := []) (by show (false || (backTo pos (starEach rest env)).any (·.1)) = false; rw [hplain]; rfl) (evalArgs_plain k)
theorem c_bmeth {pos : Pos} {T : String} {self : Value} {e : Expr} {rest : List Expr} {Q : Value → Shared → Prop}
    (k : wpAny (Md w) A (spliced (backTo pos (starEach (e :: rest) env))) (fun vs s₁ => wpAny (Md w) A (call (.builtin T) (self :: vs)) Q E s₁) E st)
    (he : starEach (e :: rest) env = (false, eval e env) :: starEach rest env := by rfl) (hplain : (backTo pos (starEach rest env)).any (·.1) = false := by rfl) :
    wpAny (Md w) A (callWith pos (.builtin T) [self] (backTo pos (starEach (e :: rest) env)) []) Q E st := by
  rw [he] at k ⊢
  exact callWith_builtin (first := [self]) (by show (false || (backTo pos (starEach rest env)).any (·.1)) = false; rw [hplain]; rfl) (evalArgs_plain k)
theorem c_bmeth0 {pos : Pos} {T : String} {self : Value} {Q : Value → Shared → Prop} (k : wpAny (Md w) A (call (.builtin T) [self]) Q E st) :
    wpAny (Md w) A (callWith pos (.builtin T) [self] (backTo pos (starEach [] env)) []) Q E st := callWith_method0 k
end
end
section
open PySem PySem.W PySem.Calls PyProof.Rows
abbrev Pr : Program := PySem.Challenge.rw_nu0056_01.row.prog
abbrev IK (w : World) := PySem.intKind Pr w
abbrev SK (w : World) := PySem.strKind Pr w
def At (h : Heap) (a : Addr) (P : Obj → Prop) : Prop := ∃ o, h.get? a = some o ∧ P o
def isL (its : List Value) : Obj → Prop := fun o => ∃ n, o = W.listOf its.toArray n
def isT (its : List Value) : Obj → Prop := fun o => ∃ n, o = { cls := .type "tuple", data := .seq its.toArray n }
def isQ (its : List Value) : Obj → Prop := fun o => o.cls = .type "list" ∧ ∃ n, o.data = .seq its.toArray n
def isI (ns : List Int) : Obj → Prop := fun o => ∃ vs, isL vs o ∧ IntsAre vs ns
def isS (ss : List Str) : Obj → Prop := fun o => ∃ vs, isL vs o ∧ StrsAre vs ss
def isID (w : World) (kvs : List (Int × Value)) : Obj → Prop := fun o => o.IsDictOf (IK w) kvs
def isSD (w : World) (kvs : List (Str × Value)) : Obj → Prop := fun o => o.IsDictOf (SK w) kvs
def isLI (l : Addr) (i : Nat) : Obj → Prop := fun o => o.cls = .type "list_iterator" ∧ o.data = .fields #[.ref l, .int i 0]
def isTI (l : Addr) (i : Nat) : Obj → Prop := fun o => o.cls = .type "tuple_iterator" ∧ o.data = .fields #[.ref l, .int i 0]
theorem At.keep {g h : Heap} {a : Addr} {P : Obj → Prop} (x : At g a P) (k : ∀ b o, g.get? b = some o → h.get? b = some o) : At h a P := let ⟨o, e, p⟩ := x; ⟨o, k _ _ e, p⟩
theorem At.imp {h : Heap} {a : Addr} {P P' : Obj → Prop} (x : At h a P) (k : ∀ o, P o → P' o) : At h a P' := let ⟨o, e, p⟩ := x; ⟨o, e, k o p⟩
theorem At.keep' {g h : Heap} {a : Addr} {P : Obj → Prop} (x : At g a P) (k : ∀ o, g.get? a = some o → h.get? a = some o) : At h a P := let ⟨o, e, p⟩ := x; ⟨o, k _ e, p⟩
theorem At.lt {h : Heap} {a : Addr} {P : Obj → Prop} (x : At h a P) : a < h.objs.size := let ⟨_, e, _⟩ := x; Heap.lt_size e
theorem At.list {h : Heap} {a : Addr} {its : List Value} (x : At h a (isL its)) : h.IsList a its.toArray := let ⟨_, e, n, q⟩ := x; ⟨_, e, by rw [q], n, by rw [q]⟩
theorem At.qlist {h : Heap} {a : Addr} {its : List Value} (x : At h a (isQ its)) : h.IsList a its.toArray := x
theorem isL_isQ {its : List Value} : ∀ o, isL its o → isQ its o := fun _ ⟨n, q⟩ => ⟨by rw [q], n, by rw [q]⟩
theorem At.ints {h : Heap} {a : Addr} {ns : List Int} (x : At h a (isI ns)) : ∃ vs, At h a (isL vs) ∧ IntsAre vs ns := let ⟨o, e, vs, q, i⟩ := x; ⟨vs, ⟨o, e, q⟩, i⟩
theorem At.strs {h : Heap} {a : Addr} {ns : List Str} (x : At h a (isS ns)) : ∃ vs, At h a (isL vs) ∧ StrsAre vs ns := let ⟨o, e, vs, q, i⟩ := x; ⟨vs, ⟨o, e, q⟩, i⟩
theorem At.tup {h : Heap} {a : Addr} {its : List Value} (x : At h a (isT its)) : IsTup h a its.toArray := let ⟨o, e, n, q⟩ := x; ⟨o, e, by rw [q], n, by rw [q]⟩
theorem At.dictI {w : World} {h : Heap} {a : Addr} {kvs : List (Int × Value)} (x : At h a (isID w kvs)) : h.DictOf (IK w) a kvs := Heap.dictOf_iff.mpr x
theorem At.dictS {w : World} {h : Heap} {a : Addr} {kvs : List (Str × Value)} (x : At h a (isSD w kvs)) : h.DictOf (SK w) a kvs := Heap.dictOf_iff.mpr x
theorem At.inj {h : Heap} {a : Addr} {P R : Obj → Prop} (x : At h a P) (y : At h a R) : ∃ o, h.get? a = some o ∧ P o ∧ R o := by
  obtain ⟨o, e, p⟩ := x
  obtain ⟨o', e', r⟩ := y
  rw [e] at e'; cases e'
  exact ⟨o, e, p, r⟩
theorem isL_isI {vs : List Value} {ns : List Int} (h : IntsAre vs ns) : ∀ o, isL vs o → isI ns o := fun _ q => ⟨vs, q, h⟩
theorem isL_isS {vs : List Value} {ns : List Str} (h : StrsAre vs ns) : ∀ o, isL vs o → isS ns o := fun _ q => ⟨vs, q, h⟩
section
variable {w : World} {A : Around} {s : Shared} {h g : Heap} {L a : Addr} {m : Str → Option Value} {led : List (Addr × (Obj → Prop))} {tk : Nat} {E : Value → Shared → Prop} {env : Env} {st : Shared}
theorem Cx.ata {P : Obj → Prop} (C : Cx g L m led h) (hp : (a, P) ∈ led) : At h a P := C.here hp
theorem Cx.atg {P : Obj → Prop} (C : Cx g L m led h) (x : At g a P) : At h a P := x.keep C.F.keep
theorem push_at (h : Heap) (o : Obj) (hf : o.isFreed = false) {P : Obj → Prop} (p : P o) : At (h.push o) h.objs.size P := ⟨o, Heap.get?_push_size _ hf, p⟩
theorem d_tup {vs : List Value} {Q : Value → Shared → Prop} (C : Cx g L m led h) (k : ∀ h' a, Cx g L m ((a, isT vs) :: led) h' → Q (.ref a) (stt s h' tk)) (hsz : vs.length ≤ sizeLine := by size_fits) :
    wpAny (Md w) A (newTuple vs) Q E (stt s h tk) :=
  wpAny_newObj_type (k _ _ (C.new (a := h.objs.size) (fun _ _ e => Heap.get?_push_of_some _ e) (Nat.le_refl _) (push_at h _ rfl ⟨_, rfl⟩))) (by show vs.toArray.size ≤ sizeLine; rw [List.size_toArray]; exact hsz)
theorem d_list {vs : List Value} {Q : Value → Shared → Prop} (C : Cx g L m led h) (k : ∀ h' a, Cx g L m ((a, isL vs) :: led) h' → Q (.ref a) (stt s h' tk)) (hsz : vs.length ≤ sizeLine := by size_fits) :
    wpAny (Md w) A (newList vs) Q E (stt s h tk) :=
  wpAny_newObj_type (k _ _ (C.new (a := h.objs.size) (fun _ _ e => Heap.get?_push_of_some _ e) (Nat.le_refl _) (push_at h _ rfl ⟨_, rfl⟩))) (by show vs.toArray.size ≤ sizeLine; rw [List.size_toArray]; exact hsz)
theorem d_dictI {pos : Pos} {Q : Value → Shared → Prop} (C : Cx g L m led h) (k : ∀ h' a, Cx g L m ((a, isID w []) :: led) h' → Q (.ref a) (stt s h' tk)) :
    wpAny (Md w) A (eval (.Dict [] [] pos) env) Q E (stt s h tk) :=
  wpAny_Dict_empty (k _ _ (C.new (a := h.objs.size) (fun _ _ e => Heap.get?_push_of_some _ e) (Nat.le_refl _) (Heap.dictOf_iff.mp (Heap.DictOf.new h))))
theorem d_dictS {pos : Pos} {Q : Value → Shared → Prop} (C : Cx g L m led h) (k : ∀ h' a, Cx g L m ((a, isSD w []) :: led) h' → Q (.ref a) (stt s h' tk)) :
    wpAny (Md w) A (eval (.Dict [] [] pos) env) Q E (stt s h tk) :=
  wpAny_Dict_empty (k _ _ (C.new (a := h.objs.size) (fun _ _ e => Heap.get?_push_of_some _ e) (Nat.le_refl _) (Heap.dictOf_iff.mp (Heap.DictOf.new h))))
theorem d_append {its : List Value} {x : Value} {Q : Value → Shared → Prop} (C : Cx g L m ((a, isL its) :: led) h) (k : ∀ h', Cx g L m ((a, isL (its ++ [x])) :: led) h' → Q .none (stt s h' tk)) (hsz : its.length ≤ sizeLine := by size_fits) :
    wpAny (Md w) A (call (.builtin "list.append") [.ref a, x]) Q E (stt s h tk) := by
  obtain ⟨o, e, n, rfl⟩ := C.here (.head _)
  refine append_at (s := stt s h tk) (its := its.toArray) (n := n) e (fun h' hs ho => ?_) (by rw [List.size_toArray]; exact hsz)
  exact k h' (C.set (fun b o hb e => (hs.2 b hb).trans e) ⟨_, ho, n + 1, by simp⟩)
theorem mth_list {id : String} {name : Str} {pl : Sem Bool} {its : List Value} {Q : Value × List Value → Shared → Prop} (hl : At h a (isL its)) (slot : Slot "list" name id) (hty : typeOf (.builtin id) = pure (.type "method_descriptor"))
    (k : Q (.builtin id, [.ref a]) (stt s h tk)) : wpAny (Md w) A (getMethod (.ref a) name pl) Q E (stt s h tk) := by
  obtain ⟨o, e, n, rfl⟩ := hl
  exact getMethod_builtin (s := stt s h tk) ⟨_, e, rfl⟩ PySem.F.plainAttrs_list slot hty (fun a e' => by cases e'; exact ⟨_, e, rfl⟩) k
theorem mth_append {pl : Sem Bool} {its : List Value} {Q : Value × List Value → Shared → Prop} (hl : At h a (isL its)) (k : Q (.builtin "list.append", [.ref a]) (stt s h tk)) : wpAny (Md w) A (getMethod (.ref a) (Str.ofString "append") pl) Q E (stt s h tk) :=
  mth_list hl PySem.F.slot_list_append PySem.F.type_list_append k
theorem mth_sort {pl : Sem Bool} {its : List Value} {Q : Value × List Value → Shared → Prop} (hl : At h a (isL its)) (k : Q (.builtin "list.sort", [.ref a]) (stt s h tk)) : wpAny (Md w) A (getMethod (.ref a) (Str.ofString "sort") pl) Q E (stt s h tk) :=
  mth_list hl PySem.F.slot_list_sort PySem.F.type_list_sort k
theorem d_sort {ns : List Int} {Q : Value → Shared → Prop} (C : Cx g L m ((a, isI ns) :: led) h) (h64 : ns.length < 64)
    (k : ∀ h' ns', ns'.Perm ns → Cx g L m ((a, isI ns') :: led) h' → Q .none (stt s h' tk)) : wpAny (Md w) A (call (.builtin "list.sort") [.ref a]) Q E (stt s h tk) := by
  obtain ⟨o, e, vs, ⟨n, rfl⟩, hi⟩ := C.here (.head _)
  have hlen : vs.length = ns.length := hi.length
  refine wpAny_call_entry (s := stt s h tk) PyProof.Rows.slot_list_sort ⟨_, e, rfl⟩ PyProof.Rows.entry_list_sort (list_sort_tree (s := stt s h tk) (n := n) (vs := vs) e hi (by omega) fun out ns' hI hp hP => ⟨.none, rfl, ?_⟩) (PyProof.Rows.args_list_sort _)
  refine k _ ns' hp (C.set (fun b o hb e => (sortedHeap_old hb (Heap.lt_size e)).trans e) ?_)
  obtain ⟨n', q⟩ := sortedHeap_at (out := out) e
  exact ⟨_, q, out.toList, ⟨n', by rw [Array.toArray_toList]⟩, hI⟩
theorem d_sortS {ns : List Str} {Q : Value → Shared → Prop} (C : Cx g L m ((a, isS ns) :: led) h) (h64 : ns.length < 64)
    (k : ∀ h' ns', ns'.Perm ns → Cx g L m ((a, isS ns') :: led) h' → Q .none (stt s h' tk)) : wpAny (Md w) A (call (.builtin "list.sort") [.ref a]) Q E (stt s h tk) := by
  obtain ⟨o, e, vs, ⟨n, rfl⟩, hi⟩ := C.here (.head _)
  have hlen : vs.length = ns.length := hi.length
  refine wpAny_call_entry (s := stt s h tk) PyProof.Rows.slot_list_sort ⟨_, e, rfl⟩ PyProof.Rows.entry_list_sort (list_sort_treeK (s := stt s h tk) strKind_oneLt (n := n) (vs := vs) e hi.keysOf (fun v₁ v₂ rest e => keyKind_strs (by rw [← e]; exact hi)) (by omega) fun st' hp hs => ⟨.none, rfl, ?_⟩) (PyProof.Rows.args_list_sort _)
  obtain ⟨ss', h1, h2, h3⟩ := sorted_out_str hi hp hs
  refine k _ ss' h2 (C.set (fun b o hb e => (sortedHeap_old hb (Heap.lt_size e)).trans e) ?_)
  obtain ⟨n', q⟩ := sortedHeap_at (out := (arrOf st').map (·.2)) e
  exact ⟨_, q, ((arrOf st').map (·.2)).toList, ⟨n', by rw [Array.toArray_toList]⟩, h1⟩
end
end
section
open PySem PySem.W PySem.Calls PyProof.Rows PySem.MeetsSeq
def isStr (x : Str) : Value → Bool
  | .str y _ => decide (y = x)
  | _ => false
def isInt' (x : Int) : Value → Bool
  | .int y _ => y == x
  | _ => false
theorem any_ints {vs : List Value} {ns : List Int} (h : IntsAre vs ns) (x : Int) : vs.any (isInt' x) = decide (x ∈ ns) := by
  induction h with
  | nil => simp
  | cons n t h ih =>
    rw [List.any_cons, ih]
    simp only [isInt', List.mem_cons]
    by_cases e : n = x
    · simp [e]
    · have e' : ¬ x = n := fun q => e q.symm
      simp [e, e']
theorem any_strs {vs : List Value} {ns : List Str} (h : StrsAre vs ns) (x : Str) : vs.any (isStr x) = decide (x ∈ ns) := by
  induction h with
  | nil => simp
  | cons n t h ih =>
    rw [List.any_cons, ih]
    simp only [isStr, List.mem_cons]
    by_cases e : n = x
    · simp [e]
    · have e' : ¬ x = n := fun q => e q.symm
      simp [e, e']
theorem cps_eq (x y : Str) : (x.cps.toList == y.cps.toList) = decide (x = y) := by
  by_cases h : x = y
  · subst h; simp
  · rw [decide_eq_false h, beq_eq_false_iff_ne]
    intro e
    apply h
    cases x; cases y
    simp only at e
    congr 1
    exact Array.toList_inj.mp e
theorem ints_get' {vs : List Value} {ns : List Int} (h : IntsAre vs ns) : ∀ {i : Nat} {v : Value}, vs[i]? = some v → ∃ n t, ns[i]? = some n ∧ v = .int n t := by
  induction h with
  | nil => intro i v e; simp at e
  | cons n t h ih =>
    intro i v e
    cases i with
    | zero => simp at e; exact ⟨n, t, by simp, e.symm⟩
    | succ i => simpa using ih (by simpa using e)
theorem strs_get' {vs : List Value} {ns : List Str} (h : StrsAre vs ns) : ∀ {i : Nat} {v : Value}, vs[i]? = some v → ∃ n t, ns[i]? = some n ∧ v = .str n t := by
  induction h with
  | nil => intro i v e; simp at e
  | cons n t h ih =>
    intro i v e
    cases i with
    | zero => simp at e; exact ⟨n, t, by simp, e.symm⟩
    | succ i => simpa using ih (by simpa using e)
theorem ints_len {vs : List Value} {ns : List Int} (h : IntsAre vs ns) : vs.length = ns.length := by induction h <;> simp_all
theorem strs_len {vs : List Value} {ns : List Str} (h : StrsAre vs ns) : vs.length = ns.length := by induction h <;> simp_all
theorem ints_snoc {vs : List Value} {ns : List Int} (h : IntsAre vs ns) (n : Int) (t : Tok) : IntsAre (vs ++ [.int n t]) (ns ++ [n]) := by
  induction h with
  | nil => exact .cons _ _ .nil
  | cons m u h ih => exact .cons _ _ ih
theorem strs_snoc {vs : List Value} {ns : List Str} (h : StrsAre vs ns) (n : Str) (t : Tok) : StrsAre (vs ++ [.str n t]) (ns ++ [n]) := by
  induction h with
  | nil => exact .cons _ _ .nil
  | cons m u h ih => exact .cons _ _ ih
theorem ints_app {vs ws : List Value} {ns ms : List Int} (h : IntsAre vs ns) (h' : IntsAre ws ms) : IntsAre (vs ++ ws) (ns ++ ms) := by
  induction h with
  | nil => exact h'
  | cons m u h ih => exact .cons _ _ ih
theorem strs_app {vs ws : List Value} {ns ms : List Str} (h : StrsAre vs ns) (h' : StrsAre ws ms) : StrsAre (vs ++ ws) (ns ++ ms) := by
  induction h with
  | nil => exact h'
  | cons m u h ih => exact .cons _ _ ih
theorem strs_tk {vs : List Value} {ns : List Str} (h : StrsAre vs ns) : ∀ i : Nat, StrsAre (vs.take i) (ns.take i) := by
  induction h with
  | nil => intro i; simp; exact .nil
  | cons m u h ih => intro i; cases i with
    | zero => exact .nil
    | succ i => exact .cons _ _ (ih i)
theorem strs_dr {vs : List Value} {ns : List Str} (h : StrsAre vs ns) : ∀ i : Nat, StrsAre (vs.drop i) (ns.drop i) := by
  induction h with
  | nil => intro i; simp; exact .nil
  | cons m u h ih => intro i; cases i with
    | zero => exact .cons _ _ h
    | succ i => exact ih i
section
variable {w : World} {A : Around} {s : Shared} {h g : Heap} {L a : Addr} {m : Str → Option Value} {led : List (Addr × (Obj → Prop))} {tk : Nat} {E : Value → Shared → Prop} {env : Env} {st : Shared}
theorem e_str {x : String} {j : Nat} {pos : Pos} {Q : Value → Shared → Prop} (k : Q (.str (Str.ofString x) tk) (stt s h (tk + 1))) (hx : (Str.ofString x).length ≤ sizeLine := by size_fits) :
    wpAny (Md w) A (eval (.Constant (.str x) j pos) env) Q E (stt s h tk) := by
  first
    | exact Calls.Constant_str (s := stt s h tk) k
    | exact Calls.Constant_str (s := stt s h tk) k hx
theorem e_bool {b : Bool} {j : Nat} {pos : Pos} {Q : Value → Shared → Prop} (k : Q (.bool b) st) : wpAny (Md w) A (eval (.Constant (.bool b) j pos) env) Q E st := wpAny_Constant_bool k
theorem e_attr {value : Expr} {attr : Str} {pos : Pos} {Q : Value → Shared → Prop} (k : wpAny (Md w) A (eval value env) (fun o s₁ => wpAny (Md w) A (getAttr o attr true) Q E s₁) E st)
    (he : eval (.Attribute value attr pos) env = (do
      let o ← eval value env
      standAt pos.atName
      let r ← holding [o] (getAttr o attr true)
      letTemporaryGo value o r
      pure r) := by with_unfolding_all rfl) : wpAny (Md w) A (eval (.Attribute value attr pos) env) Q E st := Attribute_any_ k he
-- numbers
theorem o_add {i j : Int} {t u : Tok} {Q : Value → Shared → Prop} (k : Q (.int (i + j) tk) (stt s h (tk + 1))) : wpAny (Md w) A (binaryOp .Add (.int i t) (.int j u)) Q E (stt s h tk) := add_int (s := stt s h tk) k
theorem o_sub {i j : Int} {t u : Tok} {Q : Value → Shared → Prop} (k : Q (.int (i - j) tk) (stt s h (tk + 1))) : wpAny (Md w) A (binaryOp .Sub (.int i t) (.int j u)) Q E (stt s h tk) := sub_int (s := stt s h tk) k
theorem o_mul {i j : Int} {t u : Tok} {Q : Value → Shared → Prop} (k : Q (.int (i * j) tk) (stt s h (tk + 1))) (hm : IntMulOk i j) : wpAny (Md w) A (binaryOp .Mult (.int i t) (.int j u)) Q E (stt s h tk) := mul_int (s := stt s h tk) k hm
theorem o_mod {i j : Int} {t u : Tok} {Q : Value → Shared → Prop} (hb : j ≠ 0) (k : Q (.int (i.fmod j) tk) (stt s h (tk + 1))) : wpAny (Md w) A (binaryOp .Mod (.int i t) (.int j u)) Q E (stt s h tk) := mod_int' (s := stt s h tk) hb k
theorem Cx.room (C : Cx g L m led h) (W : Wd w g) {q : Str} {sc : Scope} {f : Addr} {cd : Value} {l : List Env} (hfr : A.frames = some (envOf q sc L f cd :: l)) (hd : A.depth + 200 < recursionLimit)
    (hgen : sc.isGenerator = false := by rfl) (hco : sc.isCoroutine = false := by rfl) : PylongRoom (Md w) A (stt s h tk) := by
  obtain ⟨mean, mg, mb, T⟩ := W.top
  have := T.keeps C.F.keep
  have hp : Builtin.pylongFrames ≤ 100 := by decide
  exact PylongRoom.of this.nolimit (by omega) (PySem.SeerAt.of (this.seer (by decide +kernel)) (by rfl) hfr hgen hco rfl rfl)
theorem o_fdiv {i j : Int} {t u : Tok} {Q : Value → Shared → Prop} (k : Q (.int (i.fdiv j) tk) (stt s h (tk + 1))) (hb : j ≠ 0) (hp : PylongRoom (Md w) A (stt s h tk)) : wpAny (Md w) A (binaryOp .FloorDiv (.int i t) (.int j u)) Q E (stt s h tk) :=
  floordiv_int (s := stt s h tk) hb k (.inr hp)
theorem o_pow {i j : Int} {t u : Tok} {Q : Value → Shared → Prop} (hn : 0 ≤ j) (hsz : (Builtin.Int.intBits i : Int) * j ≤ 2 ^ 27) (k : Q (.int (i ^ j.toNat) tk) (stt s h (tk + 1))) : wpAny (Md w) A (binaryOp .Pow (.int i t) (.int j u)) Q E (stt s h tk) := pow_int (s := stt s h tk) hn hsz k
theorem o_neg {i : Int} {t : Tok} {Q : Value → Shared → Prop} (k : Q (.int (-i) tk) (stt s h (tk + 1))) : wpAny (Md w) A (unaryOp .USub (.int i t)) Q E (stt s h tk) := neg_int (s := stt s h tk) k
theorem q_eq {i j : Int} {t u : Tok} {Q : Value → Shared → Prop} (k : Q (.bool (decide (i = j))) st) : wpAny (Md w) A (compareOp .Eq (.int i t) (.int j u)) Q E st := eq_int (by rw [show (i == j) = decide (i = j) from rfl]; exact k)
theorem q_gt {i j : Int} {t u : Tok} {Q : Value → Shared → Prop} (k : Q (.bool (decide (i > j))) st) : wpAny (Md w) A (compareOp .Gt (.int i t) (.int j u)) Q E st := gt_int k
theorem q_ge {i j : Int} {t u : Tok} {Q : Value → Shared → Prop} (k : Q (.bool (decide (i ≥ j))) st) : wpAny (Md w) A (compareOp .GtE (.int i t) (.int j u)) Q E st := ge_int k
theorem q_str {x y : Str} {t u : Tok} {Q : Value → Shared → Prop} (k : Q (.bool (decide (x = y))) st) : wpAny (Md w) A (compareOp .Eq (.str x t) (.str y u)) Q E st := eq_str (by rw [show (x == y) = decide (x = y) from by rw [Bool.eq_iff_iff]; simp]; exact k)
theorem q_neb {c d : Bool} {Q : Value → Shared → Prop} (k : Q (.bool (c != d)) st) : wpAny (Md w) A (compareOp .NotEq (.bool c) (.bool d)) Q E st := ne_bool k
-- builtins
theorem b_len {its : List Value} {l : Addr} {Q : Value → Shared → Prop} (hl : h.IsList l its.toArray) (hsz : its.length ≤ sizeLine) (k : Q (.int its.length (tk + 1)) (stt s h (tk + 2))) : wpAny (Md w) A (call (.builtin "len") [.ref l]) Q E (stt s h tk) := by
  refine len_list (s := stt s h tk) hl ?_ ?_
  · rw [List.size_toArray]; rw [sizeLine_eq] at hsz; omega
  · rw [List.size_toArray]; exact k
theorem b_int {i : Int} {t : Tok} {Q : Value → Shared → Prop} (k : Q (.int i t) st) : wpAny (Md w) A (call (.type "int") [.int i t]) Q E st := call_int_int k
theorem b_intb {b : Bool} {Q : Value → Shared → Prop} (k : Q (.int (if b then 1 else 0) tk) (stt s h (tk + 1))) : wpAny (Md w) A (call (.type "int") [.bool b]) Q E (stt s h tk) := call_int_bool (s := stt s h tk) k
theorem b_max {i j : Int} {t u : Tok} {Q : Value → Shared → Prop} (hh : A.handled = none) (C : Cx g L m led h)
    (k : ∀ h' tk' t', Cx g L m led h' → Q (.int (if j > i then j else i) t') (stt s h' tk')) : wpAny (Md w) A (call (.builtin "max") [.int i t, .int j u]) Q E (stt s h tk) := by
  obtain ⟨news, N, back⟩ := C.toNews
  exact max_two_N (s := stt s h tk) hh C.F N fun h' tk' F N => k h' tk' _ (back h' _ F N)
theorem b_range1 {n : Int} {t : Tok} {Q : Value → Shared → Prop} (C : Cx g L m led h)
    (k : ∀ h' r, (∃ t u v, IsRange h' r 0 n 1 t u v) → Cx g L m led h' → Q (.ref r) (stt s h' (tk + 2))) : wpAny (Md w) A (call (.type "range") [.int n t]) Q E (stt s h tk) :=
  call_range_1 (s := stt s h tk) (k _ _ ⟨_, _, _, IsRange.new ..⟩ (C.grow fun _ _ e => Heap.get?_push_of_some _ e))
theorem b_range2 {i n : Int} {t u : Tok} {Q : Value → Shared → Prop} (C : Cx g L m led h)
    (k : ∀ h' r, (∃ t u v, IsRange h' r i n 1 t u v) → Cx g L m led h' → Q (.ref r) (stt s h' (tk + 1))) : wpAny (Md w) A (call (.type "range") [.int i t, .int n u]) Q E (stt s h tk) :=
  call_range_2 (s := stt s h tk) (k _ _ ⟨_, _, _, IsRange.new ..⟩ (C.grow fun _ _ e => Heap.get?_push_of_some _ e))
theorem b_tuple {its : List Value} {l : Addr} {Q : Value → Shared → Prop} (C : Cx g L m led h) (hl : h.IsList l its.toArray) (hsz : its.length ≤ sizeLine)
    (k : ∀ h' a, Cx g L m ((a, isT its) :: led) h' → Q (.ref a) (stt s h' tk)) : wpAny (Md w) A (call (.type "tuple") [.ref l]) Q E (stt s h tk) := by
  refine call_tuple_list (s := stt s h tk) hl (fun h' kp => ?_) (by rw [List.size_toArray]; exact hsz)
  exact k _ _ ((C.grow kp).new (fun _ _ e => Heap.get?_push_of_some _ e) (Nat.le_refl _) (push_at h' _ rfl ⟨_, rfl⟩))
theorem b_list {its : List Value} {l : Addr} {Q : Value → Shared → Prop} (C : Cx g L m led h) (hl : At h l (isL its)) (hsz : its.length ≤ sizeLine)
    (k : ∀ h' a, Cx g L m ((a, isL its) :: led) h' → Q (.ref a) (stt s h' tk)) : wpAny (Md w) A (call (.type "list") [.ref l]) Q E (stt s h tk) := by
  obtain ⟨o, e, n, rfl⟩ := hl
  exact call_list_seq (s := stt s h tk) l (.inl rfl) e rfl rfl (fun h' c' hk hD => k h' _ (C.new hk (Nat.le_refl _) ⟨_, hD, c', rfl⟩)) (by rw [List.size_toArray]; exact hsz)
theorem b_addL {its jts : List Value} {l b : Addr} {Q : Value → Shared → Prop} (C : Cx g L m led h) (hl : At h l (isL its)) (hb : At h b (isL jts)) (hsz : its.length + jts.length ≤ sizeLine)
    (k : ∀ h' a, Cx g L m ((a, isL (its ++ jts)) :: led) h' → Q (.ref a) (stt s h' tk)) : wpAny (Md w) A (binaryOp .Add (.ref l) (.ref b)) Q E (stt s h tk) := by
  refine add_lists (h₀ := (⟨#[], h.life⟩ : Heap)) (L := L) (m := m) (s := stt s h tk) (news := (List.range h.objs.size).filterMap fun i => (h.get? i).bind fun o => if i = L then none else some (i, o)) ⟨C.F.ns, fun b o e => by simp [Heap.get?] at e, Nat.zero_le _⟩ ?_ hl.list hb.list (fun h' F' N' => ?_) hsz
  · intro p hp
    obtain ⟨i, hi, e⟩ := List.mem_filterMap.mp hp
    cases q : h.get? i with
    | none => rw [q] at e; cases e
    | some o =>
      rw [q] at e
      simp only [Option.bind_some] at e
      split at e
      · cases e
      · cases e; exact ⟨q, by assumption, by simp [Heap.get?]⟩
  · refine k h' _ ?_
    have keep : ∀ b o, b ≠ L → h.get? b = some o → h'.get? b = some o := fun b o hb e => (N' (b, o) (.tail _ (List.mem_filterMap.mpr ⟨b, List.mem_range.mpr (Heap.lt_size e), by rw [e]; simp [hb]⟩))).1
    have C' : Cx g L m led h' := C.kept ⟨F'.ns, fun b o e => keep b o (fun q => by subst q; exact absurd (Heap.lt_size e) (Nat.not_lt.mpr C.F.above)) (C.F.keep b o e), C.F.above⟩ keep
    have P := N' (h.objs.size, _) (.head _)
    refine ⟨C'.F, fun p hp => ?_, ?_⟩
    · rcases List.mem_cons.mp hp with rfl | hp
      · refine ⟨Nat.ne_of_gt C.Llt, ?_, ⟨_, P.1, _, rfl⟩⟩
        cases e : g.get? h.objs.size with
        | none => rfl
        | some o => exact absurd (Heap.lt_size (C.F.keep _ _ e)) (Nat.lt_irrefl _)
      · exact C'.at_ p hp
    · refine List.nodup_cons.mpr ⟨fun hm => ?_, C.nd⟩
      obtain ⟨⟨b, R⟩, hb, e⟩ := List.mem_map.mp hm
      obtain rfl : b = h.objs.size := e
      exact absurd (C.lt hb) (Nat.lt_irrefl _)
-- items
theorem i_list {value slice : Expr} {its : List Value} {l : Addr} {i : Int} {u : Tok} {x : Value} {Q : Value → Shared → Prop} (hl : h.IsList l its.toArray) (h0 : 0 ≤ i) (hfit : i < 2 ^ 63) (hx : its[i.toNat]? = some x) (k : Q x (stt s h tk))
    (hs : subscripted slice false (.ref l) (.int i u) = operate [.ref l, .int i u] (getItem (.ref l) (.int i u)) := by with_unfolding_all rfl) :
    wpAny (Md w) A (subscriptTail value slice (.ref l) (.int i u)) Q E (stt s h tk) := tail_any (s := stt s h tk) hl.typeIs slot_list_getitem.lookup (wpAny_getItem_list (s := stt s h tk) hl h0 hfit (by simpa using hx) k) hs
theorem i_tup {value slice : Expr} {its : List Value} {l : Addr} {i : Int} {u : Tok} {x : Value} {Q : Value → Shared → Prop} (hl : At h l (isT its)) (h0 : 0 ≤ i) (hfit : i < 2 ^ 62) (hx : its[i.toNat]? = some x) (k : Q x (stt s h tk))
    (hs : subscripted slice false (.ref l) (.int i u) = operate [.ref l, .int i u] (getItem (.ref l) (.int i u)) := by with_unfolding_all rfl) :
    wpAny (Md w) A (subscriptTail value slice (.ref l) (.int i u)) Q E (stt s h tk) := by
  have hlt : i.toNat < its.length := by
    rcases Nat.lt_or_ge i.toNat its.length with h1 | h1
    · exact h1
    · rw [List.getElem?_eq_none h1] at hx; cases hx
  refine item_tupleT (s := stt s h tk) (j := i.toNat) hl.tup (by omega) (by omega) ?_ hx k hs
  unfold seqIndex?
  simp only [show ¬ i < 0 from by omega, if_false]
  simp
  omega
theorem i_dict {value slice : Expr} {kvs : List (Int × Value)} {d : Addr} {i : Int} {u : Tok} {x : Value} {Q : Value → Shared → Prop} (hd : At h d (isID w kvs)) (hx : valueAt kvs i = some x) (k : Q x (stt s h (tk + 1)))
    (hs : subscripted slice false (.ref d) (.int i u) = operate [.ref d, .int i u] (getItem (.ref d) (.int i u)) := by with_unfolding_all rfl) :
    wpAny (Md w) A (subscriptTail value slice (.ref d) (.int i u)) Q E (stt s h tk) :=
  tail_any (s := stt s h tk) hd.dictI.typeIs slot_dict_getitem.lookup (wpAny_getItem_of (knd := IK w) (s := stt s h tk) (k := i) (by simp [PySem.intKind, Value.isInt]) hd.dictI.mapOf hx k) hs
theorem i_neg {value slice : Expr} {its : List Value} {l : Addr} {u : Tok} {x : Value} {Q : Value → Shared → Prop} (hl : h.IsList l its.toArray) (hx : its[its.length - 1]? = some x) (k : Q x (stt s h tk))
    (hs : subscripted slice false (.ref l) (.int (-1) u) = operate [.ref l, .int (-1) u] (getItem (.ref l) (.int (-1) u)) := by with_unfolding_all rfl) :
    wpAny (Md w) A (subscriptTail value slice (.ref l) (.int (-1) u)) Q E (stt s h tk) := by
  have hlt : its.length - 1 < its.length := by
    rcases Nat.lt_or_ge (its.length - 1) its.length with h1 | h1
    · exact h1
    · rw [List.getElem?_eq_none h1] at hx; cases hx
  refine tail_any (s := stt s h tk) hl.typeIs slot_list_getitem.lookup (wpAny_getItem_list_neg (s := stt s h tk) hl (by decide) ?_ (by decide) ?_ k) hs
  · rw [List.size_toArray]; omega
  · rw [List.size_toArray]
    have : (-1 + (its.length : Int)).toNat = its.length - 1 := by omega
    rw [this]; simpa using hx
theorem s_list {i : Int} {t : Tok} {v : Value} {its : List Value} {Q : Unit → Shared → Prop} (C : Cx g L m ((a, isQ its) :: led) h) (h0 : 0 ≤ i) (hfit : i < 2 ^ 63) (hn : i < its.length)
    (k : ∀ h', Cx g L m ((a, isQ (its.set i.toNat v)) :: led) h' → Q () (stt s h' tk)) : wpAny (Md w) A (setItem (.ref a) (.int i t) v) Q E (stt s h tk) := by
  have e : At h a (isQ its) := C.here (.head _)
  refine wpAny_setItem_list (s := stt s h tk) e.qlist h0 hfit (by simpa using hn) fun h' hl hs => ?_
  refine k h' (C.set (fun b o hb e => (hs.2 b hb).trans e) ?_)
  obtain ⟨o, e1, e2, n, e3⟩ := hl
  exact ⟨o, e1, e2, n, by rw [e3]; simp⟩
theorem s_dict {i : Int} {t : Tok} {v : Value} {kvs : List (Int × Value)} {Q : Unit → Shared → Prop} (C : Cx g L m ((a, isID w kvs) :: led) h) (hsz : kvs.length ≤ sizeLine)
    (k : ∀ h', Cx g L m ((a, isID w (stored kvs i v)) :: led) h' → Q () (stt s h' (tk + 1))) : wpAny (Md w) A (setItem (.ref a) (.int i t) v) Q E (stt s h tk) :=
  wpAny_setItem_pairs (knd := IK w) (s := stt s h tk) (k := i) (by simp [PySem.intKind, Value.isInt]) (C.here (.head _) |> Heap.dictOf_iff.mpr) (fun h' hd hs => k h' (C.set (fun b o hb e => (hs.2 b hb).trans e) (Heap.dictOf_iff.mp hd))) hsz
theorem s_dictS {x : Str} {t : Tok} {v : Value} {kvs : List (Str × Value)} {Q : Unit → Shared → Prop} (C : Cx g L m ((a, isSD w kvs) :: led) h) (hsz : kvs.length ≤ sizeLine)
    (k : ∀ h', Cx g L m ((a, isSD w (stored kvs x v)) :: led) h' → Q () (stt s h' (tk + 1))) : wpAny (Md w) A (setItem (.ref a) (.str x t) v) Q E (stt s h tk) :=
  wpAny_setItem_pairs (knd := SK w) (s := stt s h tk) (k := x) (strKind_is _ _ _ _) (C.here (.head _) |> Heap.dictOf_iff.mpr) (fun h' hd hs => k h' (C.set (fun b o hb e => (hs.2 b hb).trans e) (Heap.dictOf_iff.mp hd))) hsz
end
end
section
open PySem PySem.W PySem.Calls PyProof.Rows PySem.MeetsSeq
/-- the room that a call needs: d frames, u C units -/
structure Ok (A : Around) (d u : Nat) : Prop where
  hh : A.handled = none
  fr : ∃ l, A.frames = some l
  dp : A.depth + d < recursionLimit
  un : A.units + u < cLine
theorem Ok.mono {A : Around} {d u d' u' : Nat} (k : Ok A d u) (h1 : d' ≤ d) (h2 : u' ≤ u) : Ok A d' u' := ⟨k.hh, k.fr, by have := k.dp; omega, by have := k.un; omega⟩
def retv : Flow → Value
  | .ret v => v
  | _ => .none
abbrev bindm (binds : List (Str × Value)) : Str → Option Value := fun y => binds.reverse.lookup y
theorem br_dec {p : Prop} [Decidable p] {X Y : Prop} (a : p → X) (b : ¬ p → Y) : (decide p = true → X) ∧ (decide p = false → Y) := ⟨fun e => a (of_decide_eq_true e), fun e => b (of_decide_eq_false e)⟩
theorem br_decT {p : Prop} [Decidable p] {X Y : Prop} (hp : p) (a : X) : (decide p = true → X) ∧ (decide p = false → Y) := ⟨fun _ => a, fun e => absurd hp (of_decide_eq_false e)⟩
theorem br_decF {p : Prop} [Decidable p] {X Y : Prop} (hp : ¬ p) (a : Y) : (decide p = true → X) ∧ (decide p = false → Y) := ⟨fun e => absurd (of_decide_eq_true e) hp, fun _ => a⟩
theorem br_tt {X Y : Prop} (a : X) : (true = true → X) ∧ (true = false → Y) := ⟨fun _ => a, fun e => nomatch e⟩
theorem br_ff {X Y : Prop} (a : Y) : (false = true → X) ∧ (false = false → Y) := ⟨(fun e => nomatch e), fun _ => a⟩
theorem br_not {c : Bool} {X Y : Prop} (a : (c = true → Y) ∧ (c = false → X)) : ((!c) = true → X) ∧ ((!c) = false → Y) := by cases c; exact ⟨fun _ => a.2 rfl, nofun⟩; exact ⟨nofun, fun _ => a.1 rfl⟩
theorem br_gen {c : Bool} {X Y : Prop} (a : c = true → X) (b : c = false → Y) : (c = true → X) ∧ (c = false → Y) := ⟨a, b⟩
theorem hideAll_mem {h : Heap} {X : List Addr} {b : Addr} (hb : b ∈ X) : (hideAll h X).get? b = none := hideAll_none X hb
theorem At.hide {h : Heap} {a : Addr} {P : Obj → Prop} {X : List Addr} (x : At h a P) (ha : a ∉ X) : At (hideAll h X) a P := let ⟨o, e, p⟩ := x; ⟨o, hideAll_get X e ha, p⟩
section
variable {w : World} {A : Around} {s : Shared} {h h₀ : Heap} {tk : Nat} {E : Value → Shared → Prop}
theorem enterC {f : Addr} {args : List Value} {Q : Value → Shared → Prop}
    {name qual : Str} {params : Arguments} {body : List Stmt} {scope : Scope} {dV kV doc pm cdv ct oc : Value} {an od : Option Addr} {osl : Array (Option Value)} {binds : List (Str × Value)} {d u : Nat}
    (led : List (Addr × (Obj → Prop))) (S : St w h₀ h) (hat : ∀ p ∈ led, h₀.get? p.1 = none ∧ At h p.1 p.2) (nd : (led.map (·.1)).Nodup) (hok : Ok A (d + 1) (u + 3))
    (ho : (hd.heap_39 w.params).lookup f = some ⟨oc, od, .func (fnOf name qual params body scope dV kV doc pm an cdv ct), osl⟩) (hcd : codeIn (hd.heap_39 w.params) cdv qual = true)
    (hbind : ∀ s, BindsTo s (fnOf name qual params body scope dV kV doc pm an cdv ct) ⟨args, []⟩ binds) (hloc : ∀ y ∈ binds, scope.names.lookup y.1 = some .local)
    (k : ∀ g h₁ tk₁ A' l, g = hideAll h (led.map (·.1)) → Wd w g → Ok A' d u → A'.frames = some (envOf qual scope h.objs.size f cdv :: l) → Cx g h.objs.size (bindm binds) led h₁ →
      wpAny (Md w) A' (execs body (envOf qual scope h.objs.size f cdv)) (fun fl s' => Q (retv fl) s') Bad (stt s h₁ tk₁))
    (hco : scope.isCoroutine = false := by rfl) (hgen : scope.isGenerator = false := by rfl) (hk : scope.kind = .function := by rfl)
    (hcell : ∀ x ∈ scope.names, x.2 ≠ .cell := by decide) : wpAny (Md w) A (call (.ref f) args) Q E (stt s h tk) := by
  have Wg := S.hide (led.map (·.1)) fun x hx => by obtain ⟨p, hp, rfl⟩ := List.mem_map.mp hx; exact (hat p hp).1
  obtain ⟨l, hl⟩ := hok.fr
  refine enterX (s := stt s h tk) (K := hd.heap_39 w.params) (led.map (·.1)) Wg.kx S.here.lim ho hcd (by have := hok.dp; omega) (hbind _) hloc (fun h₁ F k₁ => ?_) hco hgen hk hcell
  refine wpAny_mono (k _ h₁ (tk + binds.length) (A.deeper (envOf qual scope h.objs.size f cdv)) l rfl Wg ⟨hok.hh, ⟨_, by show A.frames.map _ = _; rw [hl]; rfl⟩, ?_, ?_⟩ (by show A.frames.map _ = _; rw [hl]; rfl) ⟨F, fun p hp => ?_, nd⟩) (fun fl s' hq => by cases fl <;> exact hq) fun _ _ x => x
  · show A.depth + 1 + d < _
    have := hok.dp; omega
  · show A.units + 3 + u < _
    have := hok.un; omega
  · obtain ⟨_, o, e, q⟩ := hat p hp
    exact ⟨Nat.ne_of_lt (Heap.lt_size e), hideAll_mem (List.mem_map_of_mem hp), o, k₁ _ _ e, q⟩
theorem Cx.ext {g h' : Heap} {L : Addr} {m : Str → Option Value} {led led₀ : List (Addr × (Obj → Prop))} (C : Cx g L m led h') (eg : g = hideAll h (led₀.map (·.1))) (eL : L = h.objs.size) : Ext (led₀.map (·.1)) h h' :=
  ⟨fun b o hb e => C.F.keep b o (eg ▸ hideAll_get _ e hb), Nat.le_of_lt (eL ▸ C.Llt)⟩
theorem Ext.refl (X : List Addr) (h : Heap) : Ext X h h := ⟨fun _ _ _ e => e, Nat.le_refl _⟩
theorem Ext.trans {X : List Addr} {h₁ h₂ h₃ : Heap} (a : Ext X h₁ h₂) (b : Ext X h₂ h₃) : Ext X h₁ h₃ := ⟨fun c o hc e => b.keep c o hc (a.keep c o hc e), Nat.le_trans a.size b.size⟩
theorem Ext.mono {X Y : List Addr} {h₁ h₂ : Heap} (a : Ext X h₁ h₂) (k : ∀ x ∈ X, x ∈ Y) : Ext Y h₁ h₂ := ⟨fun c o hc e => a.keep c o (fun q => hc (k c q)) e, a.size⟩
theorem Ext.at_ {X : List Addr} {h₁ h₂ : Heap} {a : Addr} {P : Obj → Prop} (x : Ext X h₁ h₂) (p : At h₁ a P) (ha : a ∉ X) : At h₂ a P := let ⟨o, e, q⟩ := p; ⟨o, x.keep _ _ ha e, q⟩
theorem St.ext {X : List Addr} {h₂ : Heap} (S : St w h₀ h) (x : Ext X h h₂) (hx : ∀ a ∈ X, h₀.get? a = none) : St w h₀ h₂ :=
  ⟨S.wd, fun b o e => x.keep b o (fun q => by rw [hx b q] at e; cases e) (S.st b o e)⟩
/-- the world is within a frame's base -/
theorem St.of_hide {g : Heap} (S : St w h₀ h) (X : List Addr) (hx : ∀ x ∈ X, h₀.get? x = none) (eg : g = hideAll h X) : St w h₀ g :=
  ⟨S.wd, fun b o e => eg ▸ hideAll_get X (S.st b o e) fun q => by rw [hx b q] at e; cases e⟩
theorem Cx.st {g h' : Heap} {L : Addr} {m : Str → Option Value} {led : List (Addr × (Obj → Prop))} (C : Cx g L m led h') (S : St w h₀ g) : St w h₀ h' := ⟨S.wd, fun b o e => C.F.keep b o (S.st b o e)⟩
theorem Cx.free {g h' : Heap} {L : Addr} {m : Str → Option Value} {led : List (Addr × (Obj → Prop))} (C : Cx g L m led h') (S : St w h₀ g) : ∀ p ∈ led, h₀.get? p.1 = none := fun p hp => by
  cases e : h₀.get? p.1 with
  | none => rfl
  | some o => have := (C.at_ p hp).2.1; rw [S.st _ _ e] at this; cases this
/-- behind a call that turns the objects led₁ alone: they are now led₂; the others stay -/
theorem Cx.behind {g h' : Heap} {L : Addr} {m : Str → Option Value} {led₁ led₂ led : List (Addr × (Obj → Prop))} (C : Cx g L m (led₁ ++ led) h) (x : Ext (led₁.map (·.1)) h h')
    (e : led₂.map (·.1) = led₁.map (·.1)) (hat : ∀ p ∈ led₂, At h' p.1 p.2) : Cx g L m (led₂ ++ led) h' := by
  have nd := C.nd
  rw [List.map_append, List.nodup_append] at nd
  have out : ∀ b, (∃ p ∈ led₁, p.1 = b) → b ≠ L ∧ g.get? b = none := fun b ⟨p, hp, q⟩ => q ▸ ⟨(C.at_ p (List.mem_append_left _ hp)).1, (C.at_ p (List.mem_append_left _ hp)).2.1⟩
  have kp : ∀ b o, (∀ p ∈ led₁, p.1 ≠ b) → h.get? b = some o → h'.get? b = some o := fun b o hb e => x.keep b o (fun q => by obtain ⟨p, hp, r⟩ := List.mem_map.mp q; exact hb p hp r) e
  obtain ⟨oL, es, ep, hL, r⟩ := C.F.ns
  refine ⟨⟨⟨oL, es, ep, kp _ _ (fun p hp q => (out L ⟨p, hp, q⟩).1 rfl) hL, r⟩, fun b o e => kp b o (fun p hp q => by have := (out b ⟨p, hp, q⟩).2; rw [this] at e; cases e) (C.F.keep b o e), C.F.above⟩, fun p hp => ?_, ?_⟩
  · rcases List.mem_append.mp hp with hp | hp
    · have : p.1 ∈ led₁.map (·.1) := e ▸ List.mem_map_of_mem hp
      obtain ⟨q, hq, eq⟩ := List.mem_map.mp this
      obtain ⟨h1, h2⟩ := out p.1 ⟨q, hq, eq⟩
      exact ⟨h1, h2, hat p hp⟩
    · obtain ⟨h1, h2, o, h3, h4⟩ := C.at_ p (List.mem_append_right _ hp)
      exact ⟨h1, h2, o, kp _ _ (fun q hq eq => nd.2.2 _ (List.mem_map_of_mem hq) _ (List.mem_map_of_mem hp) eq) h3, h4⟩
  · rw [List.map_append, e, ← List.map_append]; exact C.nd
/-- behind a call that turns nothing of ours -/
theorem Cx.pass {g h' : Heap} {L : Addr} {m : Str → Option Value} {led : List (Addr × (Obj → Prop))} (C : Cx g L m led h) (x : Ext [] h h') : Cx g L m led h' := C.grow fun b o e => x.keep b o (by simp) e
theorem Cx.add {g : Heap} {L a : Addr} {m : Str → Option Value} {P : Obj → Prop} {led : List (Addr × (Obj → Prop))} (C : Cx g L m led h) (ha : At h a P) (h1 : a ≠ L) (h2 : g.get? a = none) (h3 : a ∉ led.map (·.1)) : Cx g L m ((a, P) :: led) h :=
  ⟨C.F, fun p hp => by
    rcases List.mem_cons.mp hp with rfl | hp
    · exact ⟨h1, h2, ha⟩
    · exact C.at_ p hp, List.nodup_cons.mpr ⟨h3, C.nd⟩⟩
/-- an object that the call made -/
theorem Cx.made {g h' : Heap} {L a : Addr} {m m' : Str → Option Value} {P : Obj → Prop} {led led' : List (Addr × (Obj → Prop))} (C : Cx g L m led h) (C' : Cx g L m' led' h') (e : led'.map (·.1) = led.map (·.1)) (ha : At h' a P) (hn : h.get? a = none) : Cx g L m' ((a, P) :: led') h' := by
  refine C'.add ha (fun q => ?_) ?_ ?_
  · obtain ⟨o, _, _, e, _⟩ := C.F.ns
    rw [← q, hn] at e; cases e
  · cases q : g.get? a with
    | none => rfl
    | some o => have := C.F.keep _ _ q; rw [hn] at this; cases this
  · rw [e]
    intro q
    obtain ⟨⟨b, R⟩, hb, eb⟩ := List.mem_map.mp q
    obtain rfl : b = a := eb
    obtain ⟨o, e, _⟩ := C.here hb
    rw [hn] at e; cases e
/-- what a frame made is new -/
theorem Cx.fresh {g h' : Heap} {L a : Addr} {m : Str → Option Value} {P : Obj → Prop} {led led₀ : List (Addr × (Obj → Prop))} (C : Cx g L m led h') (eg : g = hideAll h (led₀.map (·.1))) (ha : (a, P) ∈ led) (hne : a ∉ led₀.map (·.1)) : h.get? a = none := by
  have := (C.at_ _ ha).2.1
  rw [eg] at this
  cases q : h.get? a with
  | none => rfl
  | some o => rw [hideAll_get _ q hne] at this; cases this
end
end
section
open PySem PySem.W PySem.Calls PyProof.Rows PySem.MeetsSeq
/-- an iterator: at the i-th place it is P i; it hands on what V says -/
structure Iter (w : World) (A : Around) (I : Addr) (P : Nat → Obj → Prop) (n : Nat) (V : Nat → Value → Prop) (Src : Heap → Prop) : Prop where
  item : ∀ (i : Nat) (s : Shared) (h : Heap) (tk : Nat) (Q : Option Value → Shared → Prop) (E : Value → Shared → Prop), i < n → At h I (P i) → Src h →
    (∀ h' tk' v, V i v → At h' I (P (i + 1)) → (∀ b o, b ≠ I → h.get? b = some o → h'.get? b = some o) → Q (some v) (stt s h' tk')) → wpAny (Md w) A (pyNext (.ref I)) Q E (stt s h tk)
  done : ∀ (s : Shared) (h : Heap) (tk : Nat) (Q : Option Value → Shared → Prop) (E : Value → Shared → Prop), At h I (P n) → Src h →
    (∀ h' tk', (∀ b o, b ≠ I → h.get? b = some o → h'.get? b = some o) → Q none (stt s h' tk')) → wpAny (Md w) A (pyNext (.ref I)) Q E (stt s h tk)
def ForAt (w : World) (A : Around) (env : Env) (target : Expr) (body : List Stmt) (Q : Flow → Shared → Prop) (v : Value) (s₁ : Shared) : Prop :=
  wpAny (Md w) A (pyIter v) (fun it s₂ => codeAny (Md w) A (.forLoop target it body [] env) (fun r s' => match r with | .ok f => Q f s' | .error e => cameBackBy (Md w) A env Bad e s') s₂) Bad s₁
def Turn (g : Heap) (L I : Addr) (P : Obj → Prop) (J : (Str → Option Value) → List (Addr × (Obj → Prop)) → Prop) (s : Shared) (Q : Flow → Shared → Prop) : Flow → Shared → Prop := fun fl s' => match fl with
  | .brk => Q .next s'
  | .ret v => Q (.ret v) s'
  | _ => ∃ h' tk' m' led', s' = stt s h' tk' ∧ Cx g L m' ((I, P) :: led') h' ∧ J m' led'
section
variable {w : World} {A : Around} {s : Shared} {h g : Heap} {L I a : Addr} {m : Str → Option Value} {led : List (Addr × (Obj → Prop))} {tk : Nat} {env : Env} {st : Shared}
theorem turn_next {P : Obj → Prop} {J : (Str → Option Value) → List (Addr × (Obj → Prop)) → Prop} {Q : Flow → Shared → Prop} (C : Cx g L m ((I, P) :: led) h) (j : J m led) : Turn g L I P J s Q .next (stt s h tk) := ⟨h, tk, m, led, rfl, C, j⟩
theorem turn_ret {P : Obj → Prop} {J : (Str → Option Value) → List (Addr × (Obj → Prop)) → Prop} {Q : Flow → Shared → Prop} {v : Value} (k : Q (.ret v) st) : Turn g L I P J s Q (.ret v) st := k
theorem x_for {target iter : Expr} {body : List Stmt} {pos : Pos} {Q : Flow → Shared → Prop} (k : wpAny (Md w) A (eval iter env) (ForAt w A env target body Q) Bad st)
    (hs : ∀ x, foldedSetIterable iter env x = pure x := by intro _; rfl) : wpAny (Md w) A (exec (.For target iter body [] pos) env) Q Bad st := wpAny_For k hs
theorem for_iter {x : Str} {px : Pos} {body : List Stmt} {Q : Flow → Shared → Prop} {P : Nat → Obj → Prop} {n : Nat} {V : Nat → Value → Prop} {Src : Heap → Prop}
    (J : Nat → (Str → Option Value) → List (Addr × (Obj → Prop)) → Prop) (T : Iter w A I P n V Src) (C : Cx g L m ((I, P 0) :: led) h) (j0 : J 0 m led)
    (src : ∀ i m₁ led₁ h₁, J i m₁ led₁ → Cx g L m₁ ((I, P i) :: led₁) h₁ → Src h₁)
    (turn : ∀ i v m₁ led₁ h₁ tk₁, i < n → V i v → J i m₁ led₁ → Cx g L (upd m₁ x v) ((I, P (i + 1)) :: led₁) h₁ →
      wpAny (Md w) A (execs body env) (Turn g L I (P (i + 1)) (J (i + 1)) s Q) Bad (stt s h₁ tk₁))
    (done : ∀ m₁ led₁ h₁ tk₁, J n m₁ led₁ → Cx g L m₁ led₁ h₁ → Q .next (stt s h₁ tk₁))
    (hL : env.locals = L := by rfl) (hk : env.scope.kind = .function := by rfl) (hl : env.kindOf x = some .local := by rfl) :
    codeAny (Md w) A (.forLoop (.Name x px) (.ref I) body [] env) (fun r s' => match r with | .ok f => Q f s' | .error e => cameBackBy (Md w) A env Bad e s') (stt s h tk) := by
  refine codeAny_forLoop_any (fun k s' => ∃ i m₁ led₁ h₁ tk₁, s' = stt s h₁ tk₁ ∧ i ≤ n ∧ k = n - i ∧ Cx g L m₁ ((I, P i) :: led₁) h₁ ∧ J i m₁ led₁) (fun k s' hI => ?_) n ⟨0, m, led, h, tk, rfl, Nat.zero_le _, rfl, C, j0⟩
  obtain ⟨i, m₁, led₁, h₁, tk₁, rfl, hin, rfl, C₁, j₁⟩ := hI
  have sc₁ := src i m₁ led₁ h₁ j₁ C₁
  rcases Nat.lt_or_ge i n with hlt | hge
  · refine T.item i s h₁ tk₁ _ _ hlt (C₁.here (.head _)) sc₁ fun h' tk' v hv hI k => ?_
    have C₂ : Cx g L m₁ ((I, P (i + 1)) :: led₁) h' := C₁.set k hI
    dsimp only
    have e1 : letOwnedTupleGo (.Name x px) (.ref I) v = pure () := rfl
    rw [e1]
    refine wpAny_pure (wpAny_assign_Name ?_)
    refine r_st C₂ (fun h'' C₃ => ?_) hL hk hl
    refine wpAny_mono (turn i v m₁ led₁ h'' _ hlt hv j₁ C₃) (fun fl s₃ hT => ?_) (fun _ _ e => e.elim)
    cases fl with
    | brk => exact hT
    | ret v => exact hT
    | next => obtain ⟨h3, tk3, m3, led3, rfl, C4, j4⟩ := hT; exact ⟨n - (i + 1), Nat.sub_lt_sub_left hlt (Nat.lt_succ_self i), i + 1, m3, led3, h3, tk3, rfl, hlt, rfl, C4, j4⟩
    | cont => obtain ⟨h3, tk3, m3, led3, rfl, C4, j4⟩ := hT; exact ⟨n - (i + 1), Nat.sub_lt_sub_left hlt (Nat.lt_succ_self i), i + 1, m3, led3, h3, tk3, rfl, hlt, rfl, C4, j4⟩
  · obtain rfl : i = n := Nat.le_antisymm hin hge
    refine T.done s h₁ tk₁ _ _ (C₁.here (.head _)) sc₁ fun h' tk' k => ?_
    refine wpAny_execs_nil ?_
    refine done m₁ led₁ h' tk' j₁ ?_
    -- the iterator is gone; what it leaves is as it was
    have ne : ∀ b, b = I → b ≠ L ∧ g.get? b = none := fun b e => e ▸ ⟨(C₁.at_ _ (.head _)).1, (C₁.at_ _ (.head _)).2.1⟩
    obtain ⟨oL, es, ep, hL, r⟩ := C₁.F.ns
    have nd := List.nodup_cons.mp C₁.nd
    refine ⟨⟨⟨oL, es, ep, k _ _ (fun e => (ne L e).1 rfl) hL, r⟩, fun b o e => k b o (fun q => by have := (ne b q).2; rw [this] at e; cases e) (C₁.F.keep b o e), C₁.F.above⟩, fun p hp => ?_, nd.2⟩
    obtain ⟨q1, q2, o, q3, q4⟩ := C₁.at_ p (.tail _ hp)
    exact ⟨q1, q2, o, k _ _ (fun e => nd.1 (List.mem_map.mpr ⟨p, hp, e⟩)) q3, q4⟩
theorem iter_list {l : Addr} {its : List Value} (hh : A.handled = none) (hne : I ≠ l) : Iter w A I (isLI l) its.length (fun i v => its[i]? = some v) (fun h => h.IsList l its.toArray) where
  item := fun i s h tk Q E hi hI hl k => wpAny_pyNext_list_item (s := stt s h tk) (i := i) (x := its[i]) hI hl (by simp [hi]) fun h' hit hs => k h' tk _ (by simp [hi]) hit fun b o hb e => (hs.2 b hb).trans e
  done := fun s h tk Q E hI hl k => wpAny_pyNext_list_end (s := stt s h tk) hh hI hl (by simp) fun h' hs => k h' tk fun b o hb e => hs b o hb e
theorem iter_tup {l : Addr} {its : List Value} (hh : A.handled = none) (hne : I ≠ l) : Iter w A I (isTI l) its.length (fun i v => its[i]? = some v) (fun h => At h l (isT its)) where
  item := fun i s h tk Q E hi hI hl k => wpAny_pyNext_tuple_item (s := stt s h tk) (i := i) (x := its[i]) hI hl.tup (by simp [hi]) fun h' hit hs => k h' tk _ (by simp [hi]) hit fun b o hb e => (hs.2 b hb).trans e
  done := fun s h tk Q E hI hl k => wpAny_pyNext_tuple_end (s := stt s h tk) hh hI hl.tup (by simp) fun h' hs => k h' tk fun b o hb e => hs b o hb e
def isRI (a : Int) (n : Nat) (i : Nat) : Obj → Prop := fun o => o = { cls := .type "range_iterator", data := .fields #[rawInt (a + i), rawInt ((n : Int) - i), rawInt 1] }
theorem iter_range {a : Int} {n : Nat} (hh : A.handled = none) : Iter w A I (isRI a n) n (fun i v => ∃ t, v = .int (a + i) t) (fun _ => True) where
  item := fun i s h tk Q E hi hI _ k => by
    obtain ⟨o, e, rfl⟩ := hI
    refine wpAny_pyNext_range_item (s := stt s h tk) (it := I) (x := a + i) (left := (n : Int) - i) (step := 1) e (by omega) fun h' hit hs => k h' _ _ ⟨_, rfl⟩ ⟨_, hit, ?_⟩ fun b o hb e => (hs.2 b hb).trans e
    unfold isRI
    have e1 : a + (i : Int) + 1 = a + ((i + 1 : Nat) : Int) := by omega
    have e2 : (n : Int) - i - 1 = (n : Int) - ((i + 1 : Nat) : Int) := by omega
    rw [e1, e2]
  done := fun s h tk Q E hI _ k => by
    obtain ⟨o, e, rfl⟩ := hI
    exact wpAny_pyNext_range_end (s := stt s h tk) (it := I) (x := a + n) (left := (n : Int) - n) (step := 1) hh e (by omega) fun h' hs => k h' tk fun b o hb e => hs b o hb e
/-- for x in a list -/
theorem for_list {x : Str} {px : Pos} {body : List Stmt} {Q : Flow → Shared → Prop} {l : Addr} {its : List Value}
    (J : Nat → (Str → Option Value) → List (Addr × (Obj → Prop)) → Prop) (hh : A.handled = none) (C : Cx g L m led h) (hl : At h l (isL its)) (j0 : J 0 m led)
    (src : ∀ i m₁ led₁ h₁, J i m₁ led₁ → Cx g L m₁ led₁ h₁ → At h₁ l (isL its))
    (turn : ∀ i v m₁ led₁ h₁ tk₁ I, its[i]? = some v → J i m₁ led₁ → Cx g L (upd m₁ x v) ((I, isLI l (i + 1)) :: led₁) h₁ →
      wpAny (Md w) A (execs body env) (Turn g L I (isLI l (i + 1)) (J (i + 1)) s Q) Bad (stt s h₁ tk₁))
    (done : ∀ m₁ led₁ h₁ tk₁, J its.length m₁ led₁ → Cx g L m₁ led₁ h₁ → Q .next (stt s h₁ tk₁))
    (hL : env.locals = L := by rfl) (hk : env.scope.kind = .function := by rfl) (hlo : env.kindOf x = some .local := by rfl) :
    ForAt w A env (.Name x px) body Q (.ref l) (stt s h tk) := by
  refine wpAny_pyIter_list (s := stt s h tk) hl.list ?_
  have C' : Cx g L m ((h.objs.size, isLI l 0) :: led) (h.push { cls := .type "list_iterator", data := .fields #[.ref l, .int 0 0] }) := C.new (fun _ _ e => Heap.get?_push_of_some _ e) (Nat.le_refl _) (push_at h _ rfl ⟨rfl, rfl⟩)
  exact for_iter (s := s) (h := h.push _) J (iter_list hh (Nat.ne_of_gt hl.lt)) C' j0 (fun i m₁ led₁ h₁ j c => (src i m₁ led₁ h₁ j c.drop).list) (fun i v m₁ led₁ h₁ tk₁ hi hv j c => turn i v m₁ led₁ h₁ tk₁ _ hv j c) done hL hk hlo
/-- for x in a tuple -/
theorem for_tup {x : Str} {px : Pos} {body : List Stmt} {Q : Flow → Shared → Prop} {l : Addr} {its : List Value}
    (J : Nat → (Str → Option Value) → List (Addr × (Obj → Prop)) → Prop) (hh : A.handled = none) (C : Cx g L m led h) (hl : At h l (isT its)) (j0 : J 0 m led)
    (src : ∀ i m₁ led₁ h₁, J i m₁ led₁ → Cx g L m₁ led₁ h₁ → At h₁ l (isT its))
    (turn : ∀ i v m₁ led₁ h₁ tk₁ I, its[i]? = some v → J i m₁ led₁ → Cx g L (upd m₁ x v) ((I, isTI l (i + 1)) :: led₁) h₁ →
      wpAny (Md w) A (execs body env) (Turn g L I (isTI l (i + 1)) (J (i + 1)) s Q) Bad (stt s h₁ tk₁))
    (done : ∀ m₁ led₁ h₁ tk₁, J its.length m₁ led₁ → Cx g L m₁ led₁ h₁ → Q .next (stt s h₁ tk₁))
    (hL : env.locals = L := by rfl) (hk : env.scope.kind = .function := by rfl) (hlo : env.kindOf x = some .local := by rfl) :
    ForAt w A env (.Name x px) body Q (.ref l) (stt s h tk) := by
  refine wpAny_pyIter_tuple (s := stt s h tk) hl.tup ?_
  have C' : Cx g L m ((h.objs.size, isTI l 0) :: led) (h.push { cls := .type "tuple_iterator", data := .fields #[.ref l, .int 0 0] }) := C.new (fun _ _ e => Heap.get?_push_of_some _ e) (Nat.le_refl _) (push_at h _ rfl ⟨rfl, rfl⟩)
  exact for_iter (s := s) (h := h.push _) J (iter_tup hh (Nat.ne_of_gt hl.lt)) C' j0 (fun i m₁ led₁ h₁ j c => src i m₁ led₁ h₁ j c.drop) (fun i v m₁ led₁ h₁ tk₁ hi hv j c => turn i v m₁ led₁ h₁ tk₁ _ hv j c) done hL hk hlo
/-- for x in range(a, a + n) -/
theorem for_range {x : Str} {px : Pos} {body : List Stmt} {Q : Flow → Shared → Prop} {r : Addr} {a b : Int} {n : Nat}
    (J : Nat → (Str → Option Value) → List (Addr × (Obj → Prop)) → Prop) (hh : A.handled = none) (C : Cx g L m led h) (hr : ∃ t u v, IsRange h r a b 1 t u v) (hn : (n : Int) = if a < b then b - a else 0) (ha : -1000 ≤ a ∧ a ≤ 100000000) (hb : -1000 ≤ b ∧ b ≤ 100000000) (j0 : J 0 m led)
    (turn : ∀ (i : Nat) t m₁ led₁ h₁ tk₁ I, i < n → J i m₁ led₁ → Cx g L (upd m₁ x (.int (a + i) t)) ((I, isRI a n (i + 1)) :: led₁) h₁ →
      wpAny (Md w) A (execs body env) (Turn g L I (isRI a n (i + 1)) (J (i + 1)) s Q) Bad (stt s h₁ tk₁))
    (done : ∀ m₁ led₁ h₁ tk₁, J n m₁ led₁ → Cx g L m₁ led₁ h₁ → Q .next (stt s h₁ tk₁))
    (hL : env.locals = L := by rfl) (hk : env.scope.kind = .function := by rfl) (hlo : env.kindOf x = some .local := by rfl) :
    ForAt w A env (.Name x px) body Q (.ref r) (stt s h tk) := by
  obtain ⟨t, u, v, hr⟩ := hr
  refine wpAny_pyIter_range (s := stt s h tk) hr (small_one (by omega) (by omega) (by omega) (by omega)) ?_
  have e0 : Builtin.Range.rangeSize a b 1 = (n : Int) := by rw [rangeSize_one]; exact hn.symm
  rw [e0]
  have C' : Cx g L m ((h.objs.size, isRI a n 0) :: led) (h.push { cls := .type "range_iterator", data := .fields #[rawInt a, rawInt n, rawInt 1] }) := C.new (fun _ _ e => Heap.get?_push_of_some _ e) (Nat.le_refl _) (push_at h _ rfl (by unfold isRI; simp))
  exact for_iter (s := s) (h := h.push _) J (iter_range hh) C' j0 (fun _ _ _ _ _ _ => trivial) (fun i v m₁ led₁ h₁ tk₁ hi hv j c => by obtain ⟨t, rfl⟩ := hv; exact turn i t m₁ led₁ h₁ tk₁ _ hi j c) done hL hk hlo
end
end
section
open PySem PySem.W PySem.Calls PyProof.Rows PySem.MeetsSeq PySem.SeqAt
theorem EqG.int {y : Value} {ns : List Int} {vs : List Value} (hi : IntsAre vs ns) (hy : y ∈ vs) (x : Int) (t : Tok) : EqGives y (.int x t) (isInt' x y) := by
  obtain ⟨i, hi', rfl⟩ := List.getElem_of_mem hy
  obtain ⟨n, u, _, e⟩ := ints_get' hi (List.getElem?_eq_getElem hi')
  rw [e]; exact EqGives.int n x u t
theorem EqG.str1 (x y : Str) (t u : Tok) : EqGives (.str x t) (.str y u) (decide (x = y)) := by rw [← cps_eq]; exact PySem.SeqRoads2.EqGives.str x y t u
theorem EqG.str {y : Value} {ns : List Str} {vs : List Value} (hi : StrsAre vs ns) (hy : y ∈ vs) (x : Str) (t : Tok) : EqGives y (.str x t) (isStr x y) := by
  obtain ⟨i, hi', rfl⟩ := List.getElem_of_mem hy
  obtain ⟨n, u, _, e⟩ := strs_get' hi (List.getElem?_eq_getElem hi')
  rw [e]; exact EqG.str1 n x u t
section
variable {w : World} {A : Around} {s : Shared} {h g : Heap} {L a : Addr} {m : Str → Option Value} {led : List (Addr × (Obj → Prop))} {tk : Nat} {E : Value → Shared → Prop} {env : Env} {st : Shared}
theorem Cx.atS {vs : List Value} {ns : List Str} (C : Cx g L m led h) (hm : (a, isL vs) ∈ led) (hs : StrsAre vs ns) : At h a (isS ns) := (C.ata hm).imp (isL_isS hs)
theorem q_notin {ns : List Int} {l : Addr} {i : Int} {t : Tok} {Q : Value → Shared → Prop} (hl : At h l (isI ns)) (k : Q (.bool (!decide (i ∈ ns))) (stt s h tk)) : wpAny (Md w) A (compareOp .NotIn (.int i t) (.ref l)) Q E (stt s h tk) := by
  obtain ⟨vs, hl, hi⟩ := hl.ints
  exact SeqInW.notIn_listW (s := stt s h tk) (isInt' i) (fun y hy => EqG.int hi (by simpa using hy) i t) hl.list (by rw [List.any_toArray, any_ints hi]; exact k)
theorem q_in {ns : List Int} {l : Addr} {i : Int} {t : Tok} {Q : Value → Shared → Prop} (hl : At h l (isI ns)) (k : Q (.bool (decide (i ∈ ns))) (stt s h tk)) : wpAny (Md w) A (compareOp .In (.int i t) (.ref l)) Q E (stt s h tk) := by
  obtain ⟨vs, hl, hi⟩ := hl.ints
  exact SeqInW.in_listW (s := stt s h tk) (isInt' i) (fun y hy => EqG.int hi (by simpa using hy) i t) hl.list (by rw [List.any_toArray, any_ints hi]; exact k)
theorem q_inS {ns : List Str} {l : Addr} {i : Str} {t : Tok} {Q : Value → Shared → Prop} (hl : At h l (isS ns)) (k : Q (.bool (decide (i ∈ ns))) (stt s h tk)) : wpAny (Md w) A (compareOp .In (.str i t) (.ref l)) Q E (stt s h tk) := by
  obtain ⟨vs, hl, hi⟩ := hl.strs
  exact SeqInW.in_listW (s := stt s h tk) (isStr i) (fun y hy => EqG.str hi (by simpa using hy) i t) hl.list (by rw [List.any_toArray, any_strs hi]; exact k)
/-- in a made list of written texts -/
theorem q_inL {vs : List Value} {ns : List Str} {l : Addr} {i : Str} {t : Tok} {Q : Value → Shared → Prop} (hl : At h l (isL vs)) (hi : StrsAre vs ns) (k : Q (.bool (decide (i ∈ ns))) (stt s h tk)) : wpAny (Md w) A (compareOp .In (.str i t) (.ref l)) Q E (stt s h tk) :=
  q_inS (hl.imp fun o q => ⟨vs, q, hi⟩) k
theorem q_inT {vs : List Value} {ns : List Str} {l : Addr} {i : Str} {t : Tok} {Q : Value → Shared → Prop} (hl : At h l (isT vs)) (hi : StrsAre vs ns) (k : Q (.bool (decide (i ∈ ns))) (stt s h tk)) : wpAny (Md w) A (compareOp .In (.str i t) (.ref l)) Q E (stt s h tk) := by
  obtain ⟨o, e, n, rfl⟩ := hl
  exact PySem.SeqRoads2.in_tuple (s := stt s h tk) (isStr i) (fun y hy => EqG.str hi (by simpa using hy) i t) e (by rw [List.any_toArray, any_strs hi]; exact k)
theorem strs_all {vs ws : List Value} {ss tt : List Str} (hv : StrsAre vs ss) (hw : StrsAre ws tt) (hlen : vs.length = ws.length) :
    (List.range vs.length).all (fun j => decide (ss[j]? = tt[j]?)) = decide (ss = tt) := by
  have h1 := (strs_len hv); have h2 := (strs_len hw)
  rw [Bool.eq_iff_iff]
  simp only [List.all_eq_true, List.mem_range, decide_eq_true_eq]
  constructor
  · intro h
    apply List.ext_getElem?
    intro i
    rcases Nat.lt_or_ge i vs.length with hi | hi
    · exact h i hi
    · rw [List.getElem?_eq_none (by omega), List.getElem?_eq_none (by omega)]
  · rintro rfl j _; rfl
theorem q_eqS {ss tt : List Str} {l b : Addr} {Q : Value → Shared → Prop} (hl : At h l (isS ss)) (hb : At h b (isS tt)) (hu : A.units < cLine) (k : Q (.bool (decide (ss = tt))) (stt s h tk)) :
    wpAny (Md w) A (compareOp .Eq (.ref l) (.ref b)) Q E (stt s h tk) := by
  obtain ⟨vs, hl, hv⟩ := hl.strs
  obtain ⟨ws, hb, hw⟩ := hb.strs
  by_cases hlen : vs.length = ws.length
  · refine eq_listAt (s := stt s h tk) (e := fun j => decide (ss[j]? = tt[j]?)) hl.list hb.list (by simpa using hlen) hu (fun j h1 h2 => ?_) ?_
    · have h1' : j < vs.length := by simpa using h1
      have h2' : j < ws.length := by simpa using h2
      obtain ⟨x, t, e1, e2⟩ := strs_get' hv (List.getElem?_eq_getElem h1')
      obtain ⟨y, u, e3, e4⟩ := strs_get' hw (List.getElem?_eq_getElem h2')
      have := (EqG.str1 x y t u).at A.in1 (stt s h tk)
      simp only [List.getElem_toArray]
      rw [e2, e4, e1, e3]
      simpa using this
    · rw [List.size_toArray, strs_all hv hw hlen]; exact k
  · refine eq_list_lengthsAt (s := stt s h tk) hl.list hb.list (by simpa using hlen) hu ?_
    have : ss ≠ tt := fun e => hlen (by rw [(strs_len hv), (strs_len hw), e])
    rw [decide_eq_false this] at k; exact k
theorem q_eqT0 {vs : List Value} {l b : Addr} {Q : Value → Shared → Prop} (hl : At h l (isT vs)) (hb : At h b (isT [])) (hu : A.units < cLine) (k : Q (.bool (decide (vs = []))) (stt s h tk)) :
    wpAny (Md w) A (compareOp .Eq (.ref l) (.ref b)) Q E (stt s h tk) := by
  refine eq_tupleAt (s := stt s h tk) (e := fun _ => true) hl.tup hb.tup hu (fun j _ h2 => by simp at h2) ?_
  have : ((List.range (min vs.toArray.size ([] : List Value).toArray.size)).all (fun _ => true) && vs.toArray.size == ([] : List Value).toArray.size) = decide (vs = []) := by
    cases vs <;> simp
  rw [this]; exact k
theorem q_neT0 {vs : List Value} {l b : Addr} {Q : Value → Shared → Prop} (hl : At h l (isT vs)) (hb : At h b (isT [])) (hu : A.units < cLine) (k : Q (.bool (!decide (vs = []))) (stt s h tk)) :
    wpAny (Md w) A (compareOp .NotEq (.ref l) (.ref b)) Q E (stt s h tk) := by
  refine RcNeAt.tuples (s := stt s h tk) (e := fun _ => true) hl.tup hb.tup hu (fun j _ h2 => by simp at h2) _ w E Q ?_
  have : ((List.range (min vs.toArray.size ([] : List Value).toArray.size)).all (fun _ => true) && vs.toArray.size == ([] : List Value).toArray.size) = decide (vs = []) := by
    cases vs <;> simp
  rw [this]; exact k
theorem mth_appendI {pl : Sem Bool} {its : List Int} {Q : Value × List Value → Shared → Prop} (hl : At h a (isI its)) (k : Q (.builtin "list.append", [.ref a]) (stt s h tk)) : wpAny (Md w) A (getMethod (.ref a) (Str.ofString "append") pl) Q E (stt s h tk) :=
  let ⟨_, hl, _⟩ := hl.ints; mth_append hl k
theorem mth_appendS {pl : Sem Bool} {its : List Str} {Q : Value × List Value → Shared → Prop} (hl : At h a (isS its)) (k : Q (.builtin "list.append", [.ref a]) (stt s h tk)) : wpAny (Md w) A (getMethod (.ref a) (Str.ofString "append") pl) Q E (stt s h tk) :=
  let ⟨_, hl, _⟩ := hl.strs; mth_append hl k
theorem mth_sortI {pl : Sem Bool} {its : List Int} {Q : Value × List Value → Shared → Prop} (hl : At h a (isI its)) (k : Q (.builtin "list.sort", [.ref a]) (stt s h tk)) : wpAny (Md w) A (getMethod (.ref a) (Str.ofString "sort") pl) Q E (stt s h tk) :=
  let ⟨_, hl, _⟩ := hl.ints; mth_sort hl k
theorem d_appendI {its : List Int} {i : Int} {t : Tok} {Q : Value → Shared → Prop} (C : Cx g L m ((a, isI its) :: led) h) (hsz : its.length ≤ 1000000) (k : ∀ h', Cx g L m ((a, isI (its ++ [i])) :: led) h' → Q .none (stt s h' tk)) :
    wpAny (Md w) A (call (.builtin "list.append") [.ref a, .int i t]) Q E (stt s h tk) := by
  obtain ⟨vs, hl, hi⟩ := (C.ata (.head _)).ints
  have C' : Cx g L m ((a, isL vs) :: led) h := C.set (fun _ _ _ e => e) hl
  exact d_append C' (fun h' C2 => k h' (C2.weak fun o q => ⟨_, q, ints_snoc hi i t⟩)) (by rw [ints_len hi, sizeLine_eq]; omega)
theorem d_appendS {its : List Str} {i : Str} {t : Tok} {Q : Value → Shared → Prop} (C : Cx g L m ((a, isS its) :: led) h) (hsz : its.length ≤ 1000000) (k : ∀ h', Cx g L m ((a, isS (its ++ [i])) :: led) h' → Q .none (stt s h' tk)) :
    wpAny (Md w) A (call (.builtin "list.append") [.ref a, .str i t]) Q E (stt s h tk) := by
  obtain ⟨vs, hl, hi⟩ := (C.ata (.head _)).strs
  have C' : Cx g L m ((a, isL vs) :: led) h := C.set (fun _ _ _ e => e) hl
  exact d_append C' (fun h' C2 => k h' (C2.weak fun o q => ⟨_, q, strs_snoc hi i t⟩)) (by rw [strs_len hi, sizeLine_eq]; omega)
-- slices of a list of texts
def SliceAt (Q : Value → Shared → Prop) (o vl vu : Value) (s₃ : Shared) : Prop := ∃ l items lo hi, o = .ref l ∧ s₃.heap.IsList l items ∧ items.size ≤ sizeLine ∧ IsPart vl lo ∧ IsPart vu hi ∧
        Q (.ref (s₃.heap.objs.size + 1)) { s₃ with heap := (s₃.heap.push { cls := .type "slice", data := .fields #[vl, vu, .none] }).push { cls := .type "list", data := .seq (slicePick items lo hi none) } }
theorem e_sliceS {value : Expr} {lower upper : Option Expr} {p pos : Pos} {Q : Value → Shared → Prop}
    (k : wpAny (Md w) A (eval value env) (fun o s₁ => wpAny (Md w) A (evalPart lower env) (fun vl s₂ => wpAny (Md w) A (evalPart upper env) (fun vu s₃ => SliceAt Q o vl vu s₃) E s₂) E s₁) E st)
    (ht : ∀ o r, letTemporaryGo value o r = pure () := by intro _ _; rfl) : wpAny (Md w) A (eval (.Subscript value (.Slice lower upper none p) pos) env) Q E st := wpAny_Subscript_list_slice k ht
theorem p_none {Q : Value → Shared → Prop} (k : Q .none st) : wpAny (Md w) A (evalPart none env) Q E st := wpAny_evalPart_none k
theorem p_some {e : Expr} {Q : Value → Shared → Prop} (k : wpAny (Md w) A (eval e env) Q E st) : wpAny (Md w) A (evalPart (some e) env) Q E st := k
theorem sl_upto {ss : List Str} {l : Addr} {i : Nat} {t : Tok} {Q : Value → Shared → Prop} (C : Cx g L m led h) (hl : At h l (isS ss)) (hsz : ss.length ≤ 1000)
    (k : ∀ h' b, Cx g L m ((b, isS (ss.take i)) :: led) h' → Q (.ref b) (stt s h' tk)) :
    SliceAt Q (.ref l) .none (.int i t) (stt s h tk) := by
  obtain ⟨vs, hl, hv⟩ := hl.strs
  refine ⟨l, vs.toArray, none, some (i : Int), rfl, hl.list, by rw [List.size_toArray, (strs_len hv), sizeLine_eq]; omega, .none, .int _ _, ?_⟩
  rw [slicePick_upto']
  have := k _ _ ((C.grow (h' := h.push { cls := .type "slice", data := .fields #[.none, .int i t, .none] }) fun _ _ e => Heap.get?_push_of_some _ e).new (P := isS (ss.take i)) (fun _ _ e => Heap.get?_push_of_some { cls := .type "list", data := .seq (vs.take i).toArray } e) (Nat.le_refl _) (push_at _ _ rfl ⟨_, ⟨_, rfl⟩, strs_tk hv i⟩))
  rw [Heap.size_push] at this
  exact this
theorem sl_from {ss : List Str} {l : Addr} {i : Nat} {t : Tok} {Q : Value → Shared → Prop} (C : Cx g L m led h) (hl : At h l (isS ss)) (hsz : ss.length ≤ 1000)
    (k : ∀ h' b, Cx g L m ((b, isS (ss.drop i)) :: led) h' → Q (.ref b) (stt s h' tk)) :
    SliceAt Q (.ref l) (.int i t) .none (stt s h tk) := by
  obtain ⟨vs, hl, hv⟩ := hl.strs
  refine ⟨l, vs.toArray, some (i : Int), none, rfl, hl.list, by rw [List.size_toArray, (strs_len hv), sizeLine_eq]; omega, .int _ _, .none, ?_⟩
  rw [slicePick_from']
  have := k _ _ ((C.grow (h' := h.push { cls := .type "slice", data := .fields #[.int i t, .none, .none] }) fun _ _ e => Heap.get?_push_of_some _ e).new (P := isS (ss.drop i)) (fun _ _ e => Heap.get?_push_of_some { cls := .type "list", data := .seq (vs.drop i).toArray } e) (Nat.le_refl _) (push_at _ _ rfl ⟨_, ⟨_, rfl⟩, strs_dr hv i⟩))
  rw [Heap.size_push] at this
  exact this
theorem sl_upto' {ss : List Str} {l : Addr} {n : Int} (i : Nat) {t : Tok} {Q : Value → Shared → Prop} (hn : n = i) (C : Cx g L m led h) (hl : At h l (isS ss)) (hsz : ss.length ≤ 1000)
    (k : ∀ h' b, Cx g L m ((b, isS (ss.take i)) :: led) h' → Q (.ref b) (stt s h' tk)) :
    SliceAt Q (.ref l) .none (.int n t) (stt s h tk) := by
  subst hn; exact sl_upto C hl hsz k
theorem sl_from' {ss : List Str} {l : Addr} {n : Int} (i : Nat) {t : Tok} {Q : Value → Shared → Prop} (hn : n = i) (C : Cx g L m led h) (hl : At h l (isS ss)) (hsz : ss.length ≤ 1000)
    (k : ∀ h' b, Cx g L m ((b, isS (ss.drop i)) :: led) h' → Q (.ref b) (stt s h' tk)) :
    SliceAt Q (.ref l) (.int n t) .none (stt s h tk) := by
  subst hn; exact sl_from C hl hsz k
theorem e_slice {lower upper : Option Expr} {p : Pos} {Q : Value → Shared → Prop}
    (k : wpAny (Md w) A (evalPart lower env) (fun l s₁ => wpAny (Md w) A (evalPart upper env) (fun u s₂ => wpAny (Md w) A (evalPart none env) (fun st s₃ =>
      Q (.ref s₃.heap.objs.size) { s₃ with heap := s₃.heap.push { cls := .type "slice", data := .fields #[l, u, st] } }) E s₂) E s₁) E st) : wpAny (Md w) A (eval (.Slice lower upper none p) env) Q E st := wpAny_Slice k
/-- particles[1:] of a tuple -/
theorem i_tupFrom1 {value slice : Expr} {vs : List Value} {t : Addr} {u : Tok} {Q : Value → Shared → Prop} (C : Cx g L m led h) (ht : At h t (isT vs)) (hpos : 1 ≤ vs.length) (hsz : vs.length ≤ 1000)
    (k : ∀ h' b, Cx g L m ((b, isT (vs.drop 1)) :: led) h' → Q (.ref b) (stt s h' tk))
    (hs : subscripted slice false (.ref t) (.ref h.objs.size) = operate [.ref h.objs.size, .ref t] (getItem (.ref t) (.ref h.objs.size)) := by with_unfolding_all rfl)
    (hg : ∀ r, letTemporaryGo value (.ref t) r = pure () := by intro _; with_unfolding_all rfl) :
    wpAny (Md w) A (subscriptTail value slice (.ref t) (.ref h.objs.size)) Q E (stt s (h.push { cls := .type "slice", data := .fields #[.int 1 u, .none, .none] }) tk) := by
  have ht' : At (h.push { cls := .type "slice", data := .fields #[.int 1 u, .none, .none] }) t (isT vs) := ht.keep fun _ _ e => Heap.get?_push_of_some _ e
  refine subscriptTail_ops (s := stt s (h.push { cls := .type "slice", data := .fields #[.int 1 u, .none, .none] }) tk) ht'.tup.typeIs slot_tuple_getitem.lookup
    (getItem_tuple_from (a := 1) (s := stt s (h.push { cls := .type "slice", data := .fields #[.int 1 u, .none, .none] }) tk) ht'.tup (Heap.IsSliceOf.new ..) (Nat.le_refl _) (by simpa using hpos) ?_ (by rw [List.size_toArray, sizeLine_eq]; omega)) hs hg
  exact k _ _ ((C.grow (h' := h.push { cls := .type "slice", data := .fields #[.int 1 u, .none, .none] }) fun _ _ e => Heap.get?_push_of_some _ e).new (P := isT (vs.drop 1)) (fun _ _ e => Heap.get?_push_of_some _ e) (Nat.le_refl _) (push_at _ _ rfl ⟨_, rfl⟩))
-- unpacking
theorem u_tup {elts : List Expr} {j : Nat} {pos : Pos} {t : Addr} {vs : List Value} {Q : Unit → Shared → Prop} (hh : A.handled = none) (C : Cx g L m led h) (ht : At h t (isT vs))
    (hn : (assignEach elts env).length = vs.length) (hstar : (assignEach elts env).findIdx? (·.1) = none)
    (k : ∀ h', Cx g L m led h' → wpAny (Md w) A (assignInOrder ((assignEach elts env).map (·.2)) vs) Q E (stt s h' tk)) : wpAny (Md w) A (assign (.Tuple elts j pos) env (.ref t)) Q E (stt s h tk) :=
  wpAny_assign_Tuple (s := stt s h tk) hh ht.tup (by rw [List.size_toArray]; exact hn) hstar fun h' hx => k h' (C.grow fun b o e => hx b o (Nat.ne_of_lt (Heap.lt_size e)) e)
theorem u_more {t : Value → Sem Unit} {ts : List (Value → Sem Unit)} {x : Value} {xs : List Value} {Q : Unit → Shared → Prop}
    (k : wpAny (Md w) A (t x) (fun _ s₁ => wpAny (Md w) A (assignInOrder ts xs) Q E s₁) E st) : wpAny (Md w) A (assignInOrder (t :: ts) (x :: xs)) Q E st := wpAny_assignInOrder_more k
theorem u_none {Q : Unit → Shared → Prop} (k : Q () st) : wpAny (Md w) A (assignInOrder [] []) Q E st := wpAny_pure k
theorem u_name {x : Str} {pos : Pos} {v : Value} {Q : Unit → Shared → Prop} (k : wpAny (Md w) A (storeName env x v) Q E st) : wpAny (Md w) A (assign (.Name x pos) env v) Q E st := wpAny_assign_Name k
end
end
section
open PySem PySem.W PySem.Calls PyProof.Rows PySem.MeetsSeq
noncomputable abbrev KK (w : World) := hd.heap_39 w.params
theorem fill8 : PySem.Challenge.rw_nu0056_01 = PySem.Challenge.rw_nu0056_01 ∧ hd.heap_39 = hd.heap_39 := by
  k_fill
  exact ⟨rfl, rfl⟩
inductive AttrsAre : List DictEntry → List (Str × Value) → Prop
  | nil : AttrsAre [] []
  | cons {hs : Int} {x : Str} {t : Tok} {v : Value} {es : List DictEntry} {al : List (Str × Value)} : AttrsAre es al → AttrsAre (⟨hs, .str x t, v⟩ :: es) ((x, v) :: al)
def putA (x : Str) (v : Value) : List (Str × Value) → List (Str × Value)
  | [] => [(x, v)]
  | (y, u) :: r => if y = x then (y, v) :: r else (y, u) :: putA x v r
theorem AttrsAre.get {es : List DictEntry} {al : List (Str × Value)} (h : AttrsAre es al) (x : Str) : getL x es = some (al.lookup x) := by
  have no : es.any (·.refKey) = false := by
    induction h with
    | nil => rfl
    | cons h ih => rw [List.any_cons, ih]; rfl
  have fd : (es.find? (·.key.isStr x)).map (·.val) = al.lookup x := by
    clear no
    induction h with
    | nil => rfl
    | @cons hs y t v es al h ih =>
      rw [List.find?_cons, List.lookup_cons]
      by_cases e : y = x
      · subst e; simp [Value.isStr]
      · have e' : ¬ x = y := fun q => e q.symm
        have h1 : (Value.str y t).isStr x = false := by simp [Value.isStr, e]
        have h2 : (x == y) = false := by simp [e']
        simp only [h1, h2]
        exact ih
  unfold getL
  cases q : es.find? (·.key.isStr x) with
  | none => rw [q] at fd; simp only [Option.map_none] at fd; simp only [no, Bool.false_eq_true, if_false]; rw [← fd]
  | some e => rw [q] at fd; simp only [Option.map_some] at fd; simp only; rw [← fd]
theorem AttrsAre.put {es : List DictEntry} {al : List (Str × Value)} (h : AttrsAre es al) (x : Str) (v : Value) (hs : Int) (t : Tok) : AttrsAre (putL x hs (.str x t) v es) (putA x v al) := by
  induction h with
  | nil => exact .cons .nil
  | @cons hs' y t' u es al h ih =>
    unfold putL putA
    by_cases e : y = x
    · subst e; simp only [Value.isStr, beq_self_eq_true, if_true]; exact .cons h
    · have h1 : (Value.str y t').isStr x = false := by simp [Value.isStr, e]
      simp only [h1, e, if_false, Bool.false_eq_true]; exact .cons ih
theorem AttrsAre.length {es : List DictEntry} {al : List (Str × Value)} (h : AttrsAre es al) : es.length = al.length := by induction h <;> simp_all
theorem putL_le {x : Str} {hs : Int} {k v : Value} : ∀ es : List DictEntry, (putL x hs k v es).length ≤ es.length + 1
  | [] => Nat.le_refl _
  | e :: r => by unfold putL; split; simp; simp [putL_le r]
def isObj (dx : Addr) : Obj → Prop := fun o => o = instObj 127 dx
def isAt (al : List (Str × Value)) : Obj → Prop := fun o => ∃ es n, o = dictOf es n ∧ AttrsAre es al
def mtab : List (Str × Addr) := [("read", 49), ("read_row", 56), ("read_choice", 63), ("marked", 70), ("join", 77), ("name_at", 84), ("behind", 91), ("step", 103), ("is_end", 110), ("expected", 117), ("accepts", 124)]
def atab : List Str := ["names", "follow", "is_nullable", "first", "last"]
theorem pg (P : Params) (x : Str) : plainGet (hd.heap_39 P) 127 x = true := by rfl
theorem hdict (P : Params) : hasDictIn (hd.heap_39 P) 127 = true := by rfl
theorem mtab_ok (P : Params) : ∀ p ∈ mtab, findIn (hd.heap_39 P) (.ref 127) p.1 = some (some (.ref p.2)) ∧ isFn (hd.heap_39 P) (.ref p.2) = true := by
  intro p hp
  simp only [mtab, List.mem_cons, List.not_mem_nil, or_false] at hp
  rcases hp with rfl | rfl | rfl | rfl | rfl | rfl | rfl | rfl | rfl | rfl | rfl <;> exact ⟨by rfl, by rfl⟩
theorem atab_ok (P : Params) : ∀ x ∈ atab, findIn (hd.heap_39 P) (.ref 127) x = some none ∧ takerIn (hd.heap_39 P) 127 x = some none := by
  intro p hp
  simp only [atab, List.mem_cons, List.not_mem_nil, or_false] at hp
  rcases hp with rfl | rfl | rfl | rfl | rfl <;> exact ⟨by rfl, by rfl⟩
theorem set_ok (P : Params) : findIn (hd.heap_39 P) (.ref 127) "__setattr__" = some (some (.builtin "object.__setattr__")) ∧ plainOver (hd.heap_39 P) 127 = true := ⟨by rfl, by rfl⟩
theorem make_ok (P : Params) : makesIn (hd.heap_39 P) 127 = true ∧ findIn (hd.heap_39 P) (.ref 127) "__init__" = some (some (.ref 42)) ∧ isFn (hd.heap_39 P) (.ref 42) = true := ⟨by rfl, by rfl, by rfl⟩
section
variable {w : World} {A : Around} {s : Shared} {h g : Heap} {L au dx : Addr} {m : Str → Option Value} {led : List (Addr × (Obj → Prop))} {tk : Nat} {E : Value → Shared → Prop} {env : Env} {st : Shared} {al : List (Str × Value)}
theorem inst_at {es : List DictEntry} {n : Nat} (ho : At h au (isObj dx)) (hd : h.get? dx = some (dictOf es n)) : InstAt h au (instObj 127 dx) 127 (some (dictOf es n)) := by
  obtain ⟨o, e, rfl⟩ := ho
  exact ⟨e, rfl, rfl, hd⟩
theorem a_get {name : Str} {v : Value} {expr : Bool} {Q : Value → Shared → Prop} (C : Cx g L m led h) (W : Wd w g) (ho : At h au (isObj dx)) (hd : At h dx (isAt al)) (hn : name ∈ atab) (hv : al.lookup name = some v) (hh : handedIn v = true) (k : Q v (stt s h (tk + 1))) :
    wpAny (Md w) A (getAttr (.ref au) name expr) Q E (stt s h tk) := by
  obtain ⟨o, e, es, n, rfl, ha⟩ := hd
  exact get_own (s := stt s h tk) (K := KK w) C.F W.kx (inst_at ho e) (pg _ _) (hdict _) (atab_ok _ _ hn).1 rfl (by rw [ha.get, hv]) hh k
theorem a_meth {name : Str} {f : Addr} {pl : Sem Bool} {Q : Value × List Value → Shared → Prop} (C : Cx g L m led h) (W : Wd w g) (ho : At h au (isObj dx)) (hd : At h dx (isAt al)) (hf : mtab.lookup name = some f) (hl : al.lookup name = none)
    (k : Q (.ref f, [.ref au]) (stt s h tk)) : wpAny (Md w) A (getMethod (.ref au) name pl) Q E (stt s h tk) := by
  obtain ⟨o, e, es, n, rfl, ha⟩ := hd
  have q := mtab_ok w.params (name, f) (mem_of_lookup hf)
  exact method_inst (s := stt s h tk) (K := KK w) C.F W.kx (inst_at ho e) (pg _ _) q.1 q.2 (by rw [ha.get, hl]) k
theorem a_set {name : Str} {v : Value} {Q : Unit → Shared → Prop} (C : Cx g L m ((dx, isAt al) :: led) h) (W : Wd w g) (ho : At h au (isObj dx)) (hn : name ∈ atab) (hz : al.length ≤ 100)
    (k : ∀ h', Cx g L m ((dx, isAt (putA name v al)) :: led) h' → Q () (stt s h' (tk + 2))) : wpAny (Md w) A (setAttr (.ref au) name v) Q E (stt s h tk) := by
  obtain ⟨o, e, es, n, rfl, ha⟩ := C.here (.head _)
  obtain ⟨h1, h2, _⟩ := C.at_ (dx, _) (.head _)
  have nd := List.nodup_cons.mp C.nd
  obtain ⟨news, N, back⟩ := C.drop.toNews
  have I := inst_at ho e
  -- the ledger with the dict alone ahead, what else is known behind by the base
  have N2 : News g L h [(dx, dictOf es n)] := fun p hp => by rw [List.mem_singleton.mp hp]; exact ⟨e, h1, h2⟩
  obtain ⟨es', he'⟩ : ∃ es', putL name (PyData.keyHash w.params name) (.str name (tk + 1)) v es = es' := ⟨_, rfl⟩
  have hlen : es'.length ≤ 1000 := by
    have := putL_le (x := name) (hs := PyData.keyHash w.params name) (k := .str name (tk + 1)) (v := v) es
    rw [he', ha.length] at this; omega
  -- all the others
  obtain ⟨rest, hr1, hr2⟩ : ∃ rest : List (Addr × Obj), (∀ p ∈ rest, h.get? p.1 = some p.2 ∧ p.1 ≠ L ∧ g.get? p.1 = none ∧ p.1 ≠ dx) ∧ ∀ b o, b ≠ L → b ≠ dx → g.get? b = none → h.get? b = some o → (b, o) ∈ rest := by
    refine ⟨(List.range h.objs.size).filterMap fun i => (h.get? i).bind fun o => if i ≠ L ∧ i ≠ dx ∧ (g.get? i).isNone then some (i, o) else none, fun p hp => ?_, fun b o b1 b2 b3 eb => ?_⟩
    · obtain ⟨i, hi, e⟩ := List.mem_filterMap.mp hp
      cases q : h.get? i with
      | none => rw [q] at e; cases e
      | some o =>
        rw [q] at e
        simp only [Option.bind_some] at e
        split at e
        · rename_i c; cases e; exact ⟨q, c.1, by simpa using c.2.2, c.2.1⟩
        · cases e
    · exact List.mem_filterMap.mpr ⟨b, List.mem_range.mpr (Heap.lt_size eb), by rw [eb]; simp [b1, b2, b3]⟩
  have N3 : News g L h ((dx, dictOf es n) :: rest) := fun p hp => by
    rcases List.mem_cons.mp hp with rfl | hp
    · exact ⟨e, h1, h2⟩
    · exact ⟨(hr1 p hp).1, (hr1 p hp).2.1, (hr1 p hp).2.2.1⟩
  refine set_dict (s := stt s h tk) (K := KK w) (es' := es') (n' := putN name es n) C.F W.kx N3 I rfl (set_ok _).1 (set_ok _).2 (atab_ok _ _ hn).2 (hdict _) (by rw [ha.get]; rfl) (by rw [← he']) (Upd.head fun p hp => (hr1 p hp).2.2.2) hlen fun h' F' N' => ?_
  refine k h' ?_
  have keep : ∀ b o, b ≠ L → b ≠ dx → h.get? b = some o → h'.get? b = some o := fun b o b1 b2 eb => by
    cases q : g.get? b with
    | none => exact (N' (b, o) (.tail _ (hr2 b o b1 b2 q eb))).1
    | some o' => have h3 := C.F.keep b o' q; rw [eb] at h3; cases h3; exact F'.keep b o q
  refine ⟨F', fun p hp => ?_, C.nd⟩
  rcases List.mem_cons.mp hp with rfl | hp
  · exact ⟨h1, h2, _, (N' _ (.head _)).1, es', _, rfl, he' ▸ ha.put name v _ _⟩
  · obtain ⟨q1, q2, o, q3, q4⟩ := C.at_ p (.tail _ hp)
    exact ⟨q1, q2, o, keep _ _ q1 (fun q => nd.1 (List.mem_map.mpr ⟨p, hp, q⟩)) q3, q4⟩
end
end
section
open PySem PySem.W PySem.Calls PyProof.Rows PySem.MeetsSeq
section
variable {w : World} {A : Around} {s : Shared} {h g : Heap} {L d : Addr} {m : Str → Option Value} {led : List (Addr × (Obj → Prop))} {tk : Nat} {E : Value → Shared → Prop} {env : Env} {st : Shared}
theorem Cx.third {p q r : Addr × (Obj → Prop)} (C : Cx g L m (p :: q :: r :: led) h) : Cx g L m (r :: p :: q :: led) h :=
  C.perm ((List.Perm.swap p r (q :: led)).trans (List.Perm.cons p (List.Perm.swap q r led)))
theorem Cx.thirdBack {p q r : Addr × (Obj → Prop)} (C : Cx g L m (r :: p :: q :: led) h) : Cx g L m (p :: q :: r :: led) h :=
  C.perm ((List.Perm.cons p (List.Perm.swap r q led)).trans (List.Perm.swap r p (q :: led)))
theorem Cx.notMods {P : Obj → Prop} (C : Cx g L m led h) (W : Wd w g) (hp : (d, P) ∈ led) : (d == sysModules) = false := by
  obtain ⟨mean, mg, mb, T⟩ := W.top
  obtain ⟨mm, hm, _⟩ := (T.seer (by decide +kernel)).mods
  obtain ⟨o, _, _, e, _⟩ := hm
  rw [beq_eq_false_iff_ne]
  intro q
  have := (C.at_ _ hp).2.1
  simp only [q] at this
  rw [this] at e; cases e
theorem keysAre : ∀ {kvs : List (Str × Value)} {vs : List Value}, vs.length = kvs.length → (∀ (j : Nat) (v : Value), vs[j]? = some v → ∃ k x, kvs[j]? = some (k, x) ∧ ∃ t, v = .str k t) → StrsAre vs (kvs.map (·.1))
  | [], [], _, _ => .nil
  | (k, x) :: kvs, v :: vs, hl, h => by
    obtain ⟨k', x', e, t, rfl⟩ := h 0 v rfl
    simp at e
    obtain ⟨rfl, rfl⟩ := e
    exact .cons _ _ (keysAre (by simpa using hl) fun j u hu => by simpa using h (j + 1) u (by simpa using hu))
theorem b_sortedD {kvs : List (Str × Value)} {Q : Value → Shared → Prop} (hh : A.handled = none) (C : Cx g L m led h) (W : Wd w g) (hd : (d, isSD w kvs) ∈ led) (hn : kvs.length < 64)
    (k : ∀ h' tk' b ss, ss.Perm (kvs.map (·.1)) → Cx g L m ((b, isS ss) :: led) h' → Q (.ref b) (stt s h' tk')) : wpAny (Md w) A (call (.builtin "sorted") [.ref d]) Q E (stt s h tk) := by
  have lo := C.notMods W hd
  have hD : h.DictOf (SK w) d kvs := (C.ata hd).dictS
  obtain ⟨ep, hat⟩ := hD.dictAt
  obtain ⟨news, N, back, has⟩ := C.toNews2
  refine kdu_sorted (s := stt s h tk) (kdl_dict (prog := Pr) (w := w) (knd := SK w) (kvs := kvs) (ep := ep) lo) hh C.F N hat (by rw [sizeLine_eq]; omega) fun D h' tk' vs F' N' hlt hl hv => ?_
  have C1 : Cx g L m led h' := back h' _ F' fun p hp => N' p (.tail _ hp)
  have hs : StrsAre vs (kvs.map (·.1)) := keysAre hl fun j v e => by
    obtain ⟨k, x, e1, e2⟩ := hv j v e
    exact ⟨k, x, e1, by obtain ⟨t, rfl⟩ := Value.isStrOf_shape e2; exact ⟨t, rfl⟩⟩
  have PD := N' (D, _) (.head _)
  have C2 : Cx g L m ((D, isS (kvs.map (·.1))) :: led) h' := C1.add ⟨_, PD.1, vs, ⟨0, rfl⟩, hs⟩ PD.2.1 PD.2.2 fun hm => by
    obtain ⟨⟨b, R⟩, hb, eb⟩ := List.mem_map.mp hm
    obtain rfl : b = D := eb
    obtain ⟨o2, ho2⟩ := has _ hb
    exact absurd (hlt _ ho2) (Nat.lt_irrefl _)
  refine d_sortS C2 (by simpa using hn) fun h'' ss' hp C3 => k h'' _ D ss' hp C3
end
end
section
open PySem PySem.W PySem.Calls PyProof.Rows PySem.MeetsSeq
section
variable {w : World} {A : Around} {s : Shared} {h h' g : Heap} {L I a : Addr} {m : Str → Option Value} {led led₁ led₂ : List (Addr × (Obj → Prop))} {tk : Nat} {env : Env} {st : Shared}
theorem Cx.behindX {X : List Addr} (C : Cx g L m (led₁ ++ led) h) (x : Ext X h h') (hX : ∀ a ∈ X, a ≠ L ∧ g.get? a = none ∧ a ∉ led.map (·.1)) (e : led₂.map (·.1) = led₁.map (·.1)) (hat : ∀ p ∈ led₂, At h' p.1 p.2) : Cx g L m (led₂ ++ led) h' := by
  have nd := C.nd
  rw [List.map_append, List.nodup_append] at nd
  have kp : ∀ b o, b ∉ X → h.get? b = some o → h'.get? b = some o := fun b o hb e => x.keep b o hb e
  obtain ⟨oL, es, ep, hL, r⟩ := C.F.ns
  refine ⟨⟨⟨oL, es, ep, kp _ _ (fun q => (hX _ q).1 rfl) hL, r⟩, fun b o e => kp b o (fun q => by have := (hX _ q).2.1; rw [this] at e; cases e) (C.F.keep b o e), C.F.above⟩, fun p hp => ?_, ?_⟩
  · rcases List.mem_append.mp hp with hp | hp
    · have : p.1 ∈ led₁.map (·.1) := e ▸ List.mem_map_of_mem hp
      obtain ⟨q, hq, eq⟩ := List.mem_map.mp this
      have := C.at_ q (List.mem_append_left _ hq)
      rw [eq] at this
      exact ⟨this.1, this.2.1, hat p hp⟩
    · obtain ⟨h1, h2, o, h3, h4⟩ := C.at_ p (List.mem_append_right _ hp)
      exact ⟨h1, h2, o, kp _ _ (fun q => (hX _ q).2.2 (List.mem_map_of_mem hp)) h3, h4⟩
  · rw [List.map_append, e, ← List.map_append]; exact C.nd
def CompAt (w : World) (A : Around) (env : Env) (elt iter : Expr) (x : Str) (px : Pos) (ifs : List Expr) (scope : Scope) (pos : Pos) (cl : List (Str × Addr)) (Q : Value → Shared → Prop) (v : Value) (s₁ : Shared) : Prop :=
  wpAny (Md w) A (pyIter v) (fun it s₂ => wpAny (Md w) A (newList []) (fun acc s₃ =>
      wpAny (Md w) A (newFunctionEnv scope env.globals cl [] env.qual none .none (some env)) (fun cenv s₄ =>
        codeAny (Md w) A (.compStart (.ListComp elt [⟨.Name x px, iter, ifs, 0⟩] scope pos) 0 it acc { cenv with scope := relabel scope env }) (compPost (Md w) A Bad none Q acc cenv.locals) s₄) Bad s₃) Bad s₂) Bad s₁
theorem e_comp {elt iter : Expr} {x : Str} {px : Pos} {ifs : List Expr} {scope : Scope} {cl : List (Str × Addr)} {pos : Pos} {Q : Value → Shared → Prop}
    (k : wpAny (Md w) A (eval iter env) (CompAt w A env elt iter x px ifs scope pos cl Q) Bad st)
    (hclos : closureFor scope env = pure cl) (hs : ∀ x, foldedSetIterable iter env x = pure x) (hkind : scope.kind = .function) (hnames : ∀ y ∈ scope.names, y.2 = .local → scope.names.lookup y.1 = some .local) :
    wpAny (Md w) A (eval (.ListComp elt [⟨.Name x px, iter, ifs, 0⟩] scope pos) env) Q Bad st := by
  rw [eval_ListComp]
  exact wpAny_comprehension_free (use := none) rfl hs hclos hkind hnames k
/-- the tests of a comprehension's clause, then the element or the next turn -/
def TestsThen (w : World) (A : Around) (cenv : Env) (ifs : List Expr) (K₁ K₂ : Shared → Prop) (s₂ : Shared) : Prop :=
  wpAny (Md w) A (forIn ifs true fun c r => if r = true then do let ok ← isTrue c cenv (eval c cenv); pure (ForInStep.yield ok) else pure (ForInStep.yield r)) (fun ok s₃ => (ok = true → K₁ s₃) ∧ (ok = false → K₂ s₃)) Bad s₂
theorem tests_none {cenv : Env} {K₁ K₂ : Shared → Prop} (k : K₁ st) : TestsThen w A cenv [] K₁ K₂ st := by
  unfold TestsThen
  rw [List.forIn_nil]
  exact wpAny_pure ⟨fun _ => k, nofun⟩
theorem tests_one {cenv : Env} {c : Expr} {K₁ K₂ : Shared → Prop} (k : wpAny (Md w) A (isTrue c cenv (eval c cenv)) (fun ok s₃ => (ok = true → K₁ s₃) ∧ (ok = false → K₂ s₃)) Bad st) : TestsThen w A cenv [c] K₁ K₂ st := by
  unfold TestsThen
  rw [List.forIn_cons]
  simp only [if_true]
  refine wpAny_bind (wpAny_bind (wpAny_mono k (fun ok s₃ hk => wpAny_pure ?_) fun _ _ e => e))
  dsimp only
  rw [List.forIn_nil]
  exact wpAny_pure hk
def CompEl (s : Shared) (g' : Heap) (cC I D : Addr) (P : Obj → Prop) (ys : List Value) (J : List Value → List (Addr × (Obj → Prop)) → Prop) : Value → Shared → Prop := fun y s₄ =>
  ∃ h₄ tk₄ m₄ led₄, s₄ = stt s h₄ tk₄ ∧ Cx g' cC m₄ ((I, P) :: (D, isL ys) :: led₄) h₄ ∧ J (ys ++ [y]) led₄
def CompSkip (s : Shared) (g' : Heap) (cC I D : Addr) (P : Obj → Prop) (ys : List Value) (J : List Value → List (Addr × (Obj → Prop)) → Prop) : Shared → Prop := fun s₄ =>
  ∃ h₄ tk₄ m₄ led₄, s₄ = stt s h₄ tk₄ ∧ Cx g' cC m₄ ((I, P) :: (D, isL ys) :: led₄) h₄ ∧ J ys led₄
theorem comp_el {g' : Heap} {cC I D : Addr} {P : Obj → Prop} {ys : List Value} {J : List Value → List (Addr × (Obj → Prop)) → Prop} {y : Value} (C : Cx g' cC m ((I, P) :: (D, isL ys) :: led) h) (j : J (ys ++ [y]) led) : CompEl s g' cC I D P ys J y (stt s h tk) := ⟨_, _, _, _, rfl, C, j⟩
theorem comp_skip {g' : Heap} {cC I D : Addr} {P : Obj → Prop} {ys : List Value} {J : List Value → List (Addr × (Obj → Prop)) → Prop} (C : Cx g' cC m ((I, P) :: (D, isL ys) :: led) h) (j : J ys led) : CompSkip s g' cC I D P ys J (stt s h tk) := ⟨_, _, _, _, rfl, C, j⟩
theorem comp_iter {elt iter : Expr} {x : Str} {px : Pos} {ifs : List Expr} {scope : Scope} {cl : List (Str × Addr)} {pos : Pos} {Q : Value → Shared → Prop} {P : Nat → Obj → Prop} {n : Nat} {V : Nat → Value → Prop} {Src : Heap → Prop}
    (J : Nat → List Value → List (Addr × (Obj → Prop)) → Prop) (T : Iter w A I P n V Src) (C : Cx g L m ((I, P 0) :: (led₁ ++ led₂)) h)
    (self : ∀ (s₁ : Shared) (h₁ : Heap) (tk₁ : Nat) (Q₁ : Value → Shared → Prop) (E : Value → Shared → Prop), At h₁ I (P 0) → Q₁ (.ref I) (stt s₁ h₁ tk₁) → wpAny (Md w) A (pyIter (.ref I)) Q₁ E (stt s₁ h₁ tk₁))
    (hcell : ∀ y ∈ scope.names, y.2 ≠ .cell) (hkind : scope.kind = .function) (hx : scope.names.lookup x = some .local)
    (j0 : J 0 [] led₁) (adr : ∀ i ys l, J i ys l → l.map (·.1) = led₁.map (·.1)) (len : ∀ i ys l, J i ys l → ys.length ≤ 1000)
    (src : ∀ i ys l h₁, J i ys l → (∀ b o, b ≠ I → b ∉ led₁.map (·.1) → h.get? b = some o → h₁.get? b = some o) → Src h₁)
    (turn : ∀ g' cC i v mC ys l h₁ tk₁ D, g' = hideAll h (((I, P 0) :: led₁).map (·.1)) → h.objs.size ≤ cC → i < n → V i v → J i ys l → mC x = some v → Cx g' cC mC ((I, P (i + 1)) :: (D, isL ys) :: l) h₁ →
      TestsThen w A (compEnvC scope cl cC env) ifs (wpAny (Md w) A (eval elt (compEnvC scope cl cC env)) (CompEl s g' cC I D (P (i + 1)) ys (J (i + 1))) Bad) (CompSkip s g' cC I D (P (i + 1)) ys (J (i + 1))) (stt s h₁ tk₁))
    (done : ∀ h' tk' D ys l, J n ys l → Cx g L m ((D, isL ys) :: (l ++ led₂)) h' → Q (.ref D) (stt s h' tk')) :
    wpAny (Md w) A (newList []) (fun acc s₃ => wpAny (Md w) A (newFunctionEnv scope env.globals cl [] env.qual none .none (some env)) (fun cenv s₄ =>
        codeAny (Md w) A (.compStart (.ListComp elt [⟨.Name x px, iter, ifs, 0⟩] scope pos) 0 (.ref I) acc { cenv with scope := relabel scope env }) (compPost (Md w) A Bad none Q acc cenv.locals) s₄) Bad s₃) Bad (stt s h tk) := by
  refine wpAny_newObj_type (wpAny_newFunctionEnv hcell (by intro y hy; simp at hy) (fun h₁ hns₁ hsb₁ => ?_) hkind)
  dsimp only at hns₁ hsb₁ ⊢
  generalize hH2 : h.push { cls := .type "list", dict := none, data := .seq ([] : List Value).toArray } = H2 at hns₁ hsb₁ ⊢
  have hC : H2.objs.size = h.objs.size + 1 := by rw [← hH2, Heap.size_push]
  generalize hcC : H2.objs.size = cC at hns₁ hsb₁ ⊢
  have hcD : cC = h.objs.size + 1 := hcC.symm.trans hC
  have old : ∀ b o, h.get? b = some o → h₁.get? b = some o := fun b o e => hsb₁.extBut b o (by rw [hcD]; exact Nat.ne_of_lt (Nat.lt_succ_of_lt (Heap.lt_size e))) (Heap.get?_push_of_some _ (hH2 ▸ Heap.get?_push_of_some _ e))
  have hacc : h₁.get? h.objs.size = some { cls := .type "list", dict := none, data := .seq ([] : List Value).toArray } := hsb₁.extBut _ _ (by rw [hcD]; exact Nat.ne_of_lt (Nat.lt_succ_self _)) (Heap.get?_push_of_some _ (hH2 ▸ Heap.get?_push_size _ rfl))
  -- the block's own frame
  have fresh : ∀ a, h.objs.size ≤ a → h.get? a = none := fun a ha => by
    cases e : h.get? a with
    | none => rfl
    | some o' => exact absurd (Heap.lt_size e) (Nat.not_lt.mpr ha)
  have nd0 := C.nd
  rw [List.map_cons, List.map_append] at nd0
  have nd1 : (I :: led₁.map (·.1)).Nodup := by
    have := List.nodup_cons.mp nd0
    exact List.nodup_cons.mpr ⟨fun q => this.1 (List.mem_append_left _ q), (List.nodup_append.mp this.2).1⟩
  have C1 : Cx (hideAll h (((I, P 0) :: led₁).map (·.1))) cC (fun y => ([] : List (Str × Value)).reverse.lookup y) ((I, P 0) :: (h.objs.size, isL []) :: led₁) h₁ := by
    refine ⟨⟨hns₁, fun b o e => old b o (of_hideAll _ e), by rw [hideAll_size, hcD]; exact Nat.le_succ _⟩, fun p hp => ?_, ?_⟩
    · have lt : ∀ a P', (a, P') ∈ ((I, P 0) :: (led₁ ++ led₂)) → a ≠ cC := fun a P' hm => Nat.ne_of_lt (by rw [hcD]; exact Nat.lt_succ_of_lt (C.lt hm))
      rcases List.mem_cons.mp hp with rfl | hp
      · obtain ⟨o, e, q⟩ := C.here (.head _)
        exact ⟨lt I _ (.head _), hideAll_none _ (by simp), o, old _ _ e, q⟩
      · rcases List.mem_cons.mp hp with rfl | hp
        · refine ⟨Nat.ne_of_lt (by rw [hcD]; exact Nat.lt_succ_self _), ?_, _, hacc, 0, rfl⟩
          cases q : (hideAll h (((I, P 0) :: led₁).map (·.1))).get? h.objs.size with
          | none => rfl
          | some o => have := of_hideAll _ q; rw [fresh _ (Nat.le_refl _)] at this; cases this
        · have hm : (p.1, p.2) ∈ ((I, P 0) :: (led₁ ++ led₂)) := .tail _ (List.mem_append_left _ hp)
          obtain ⟨o, e, q⟩ := C.here hm
          exact ⟨lt _ _ hm, hideAll_none _ (List.mem_map_of_mem (.tail _ hp)), o, old _ _ e, q⟩
    · rw [List.map_cons, List.map_cons]
      have n1 := List.nodup_cons.mp nd1
      refine List.nodup_cons.mpr ⟨fun q => ?_, List.nodup_cons.mpr ⟨fun q => ?_, n1.2⟩⟩
      · rcases List.mem_cons.mp q with q | q
        · exact Nat.lt_irrefl _ (Nat.lt_of_le_of_lt (Nat.le_of_eq (Eq.symm q)) (C.lt (.head _)))
        · exact n1.1 q
      · obtain ⟨⟨b, R⟩, hb, eb⟩ := List.mem_map.mp q
        obtain rfl : b = h.objs.size := eb
        exact absurd (C.lt (.tail _ (List.mem_append_left _ hb))) (Nat.lt_irrefl _)
  have loop : ∀ tk₁, codeAny (Md w) A (.compLoop (.ListComp elt [⟨.Name x px, iter, ifs, 0⟩] scope pos) 0 (.ref I) (.ref h.objs.size) (compEnvC scope cl cC env)) (compPost (Md w) A Bad none Q (.ref h.objs.size) cC) (stt s h₁ tk₁) := by
    intro tk₁
    refine codeAny_compLoop_tests (fun k s' => ∃ i mC ys l h₂ tk₂, s' = stt s h₂ tk₂ ∧ i ≤ n ∧ k = n - i ∧ Cx (hideAll h (((I, P 0) :: led₁).map (·.1))) cC mC ((I, P i) :: (h.objs.size, isL ys) :: l) h₂ ∧ J i ys l) (fun k s' hI => ?_) n ⟨0, _, [], led₁, h₁, tk₁, rfl, Nat.zero_le _, rfl, C1, j0⟩
    obtain ⟨i, mC, ys, l, h₂, tk₂, rfl, hin, rfl, C2, j⟩ := hI
    have keepI : ∀ b o, b ≠ I → b ∉ led₁.map (·.1) → h.get? b = some o → h₂.get? b = some o := fun b o b1 b2 e => C2.F.keep b o (hideAll_get _ e (by simp only [List.map_cons, List.mem_cons, not_or]; exact ⟨b1, b2⟩))
    have sc₁ := src i ys l h₂ j keepI
    rcases Nat.lt_or_ge i n with hlt | hge
    · refine T.item i s h₂ tk₂ _ _ hlt (C2.here (.head _)) sc₁ fun h3 tk3 v hv hI k => ?_
      have C3 := C2.set k hI
      dsimp only
      refine wpAny_assign_Name ?_
      refine r_st (env := compEnvC scope cl cC env) C3 (fun h4 C4 => ?_) rfl hkind (lookup_relabel_local hx)
      refine wpAny_mono (turn _ cC i v _ ys l h4 _ h.objs.size rfl (by rw [hcD]; exact Nat.le_succ _) hlt hv j upd_self C4) (fun ok s₃ hT => ?_) (fun _ _ e => e.elim)
      cases ok with
      | true =>
        rw [if_pos rfl]
        refine wpAny_mono (hT.1 rfl) (fun y s₄ hy => ?_) (fun _ _ e => e.elim)
        obtain ⟨h5, tk5, m5, led5, rfl, C5, j5⟩ := hy
        have hl5 : ys.length ≤ 1000 := len i ys l j
        refine d_append (C5.swap) (fun h6 C6 => ?_) (by rw [sizeLine_eq]; omega)
        exact ⟨n - (i + 1), Nat.sub_lt_sub_left hlt (Nat.lt_succ_self i), i + 1, m5, _, led5, h6, tk5, rfl, hlt, rfl, C6.swap, j5⟩
      | false =>
        rw [if_neg (by simp)]
        obtain ⟨h5, tk5, m5, led5, rfl, C5, j5⟩ := hT.2 rfl
        exact ⟨n - (i + 1), Nat.sub_lt_sub_left hlt (Nat.lt_succ_self i), i + 1, m5, _, led5, h5, tk5, rfl, hlt, rfl, C5, j5⟩
    · obtain rfl : i = n := Nat.le_antisymm hin hge
      refine T.done s h₂ tk₂ _ _ (C2.here (.head _)) sc₁ fun h3 tk3 k => ?_
      have neI : ∀ p ∈ ((h.objs.size, isL ys) :: l), p.1 ≠ I := fun p hp q => (List.nodup_cons.mp C2.nd).1 (List.mem_map.mpr ⟨p, hp, q⟩)
      obtain ⟨oC, esC, epC, hCC, rC⟩ := C2.F.ns
      refine ⟨mC, ⟨oC, esC, epC, k _ _ (Ne.symm (C2.at_ _ (.head _)).1) hCC, rC⟩, fun h4 hs4 => ?_⟩
      have up : ∀ p ∈ ((h.objs.size, isL ys) :: l), At h4 p.1 p.2 := fun p hp => by
        obtain ⟨q1, _, o, q3, q4⟩ := C2.at_ p (.tail _ hp)
        exact ⟨o, hs4.extBut _ _ q1 (k _ _ (neI p hp) q3), q4⟩
      have x : Ext (I :: led₁.map (·.1)) h h4 := by
        refine ⟨fun b o hb e => ?_, ?_⟩
        · simp only [List.mem_cons, not_or] at hb
          exact hs4.extBut _ _ (by rw [hcD]; exact Nat.ne_of_lt (Nat.lt_succ_of_lt (Heap.lt_size e))) (k _ _ hb.1 (keepI b o hb.1 hb.2 e))
        · exact Nat.le_of_lt ((up _ (.head _)).lt)
      have C5 : Cx g L m (l ++ led₂) h4 := by
        refine (C.drop).behindX x (fun a ha => ?_) (adr _ _ _ j) fun p hp => up p (.tail _ hp)
        rcases List.mem_cons.mp ha with rfl | ha
        · have n0 := List.nodup_cons.mp nd0
          exact ⟨(C.at_ _ (.head _)).1, (C.at_ _ (.head _)).2.1, fun q => n0.1 (List.mem_append_right _ q)⟩
        · obtain ⟨p, hp, rfl⟩ := List.mem_map.mp ha
          have n0 := (List.nodup_append.mp (List.nodup_cons.mp nd0).2).2.2
          have q := C.at_ p (.tail _ (List.mem_append_left _ hp))
          exact ⟨q.1, q.2.1, fun r => n0 _ (List.mem_map_of_mem hp) _ r rfl⟩
      refine done h4 tk3 h.objs.size ys l j (C.drop.made C5 ?_ (up _ (.head _)) (fresh _ (Nat.le_refl _)))
      rw [List.map_append, List.map_append, adr _ _ _ j]
  exact codeAny_compStart_list (loop _) (self s h₁ _ _ _ (C1.ata (.head _)) (loop _))
end
end
section
open PySem PySem.W PySem.Calls PyProof.Rows PySem.MeetsSeq
section
variable {w : World} {A : Around} {s : Shared} {h h₀ : Heap} {tk : Nat} {E : Value → Shared → Prop}
theorem enterCell {f : Addr} {args : List Value} {Q : Value → Shared → Prop}
    {name qual : Str} {params : Arguments} {body : List Stmt} {scope : Scope} {dV kV doc pm cdv ct oc : Value} {an od : Option Addr} {osl : Array (Option Value)} {binds : List (Str × Value)} {d u : Nat}
    (led : List (Addr × (Obj → Prop))) (cells : Addr → List (Addr × (Obj → Prop))) (m : Str → Option Value) (S : St w h₀ h) (hat : ∀ p ∈ led, h₀.get? p.1 = none ∧ At h p.1 p.2) (nd : (led.map (·.1)).Nodup) (hok : Ok A (d + 1) (u + 3))
    (ho : (hd.heap_39 w.params).lookup f = some ⟨oc, od, .func (fnOf name qual params body scope dV kV doc pm an cdv ct), osl⟩) (hcd : codeIn (hd.heap_39 w.params) cdv qual = true)
    (hbind : bindArgs (fnOf name qual params body scope dV kV doc pm an cdv ct) ⟨args, []⟩ = pure binds)
    (hkind : ∀ n, ∀ x ∈ binds, scope.names.lookup x.1 = some .local ∨ (scope.names.lookup x.1 = some .cell ∧ ((cellsFrom n scope.names []).lookup x.1).isSome = true))
    (hm : ∀ L, bindL (envOfC qual scope L f cdv).kindOf binds (fun _ => none) = m)
    (hcells : ∀ L, ∀ p ∈ cells L, ∃ n v, (cellsFrom (L + 1) scope.names []).lookup n = some p.1 ∧ bindC (envOfC qual scope L f cdv).kindOf binds (fun _ => none) n = some v ∧ p.2 = isCell v ∧ L < p.1)
    (hcnd : ∀ L, ((cells L).map (·.1)).Nodup)
    (k : ∀ g h₁ tk₁ A' l, g = hideAll h (led.map (·.1)) → Wd w g → Ok A' d u → A'.frames = some (envOfC qual scope h.objs.size f cdv :: l) → Cx g h.objs.size m (cells h.objs.size ++ led) h₁ →
      wpAny (Md w) A' (execs body (envOfC qual scope h.objs.size f cdv)) (fun fl s' => Q (retv fl) s') Bad (stt s h₁ tk₁))
    (hco : scope.isCoroutine = false := by rfl) (hgen : scope.isGenerator = false := by rfl) (hk : scope.kind = .function := by rfl) : wpAny (Md w) A (call (.ref f) args) Q E (stt s h tk) := by
  have Wg := S.hide (led.map (·.1)) fun x hx => by obtain ⟨p, hp, rfl⟩ := List.mem_map.mp hx; exact (hat p hp).1
  obtain ⟨l, hl⟩ := hok.fr
  have Ks : (hd.heap_39 w.params).In h := S.here.kx
  refine wpAny_call (codeAny_call_cells (s := stt s h tk) (fd := fnOf name qual params body scope dV kV doc pm an cdv ct) (body := body) (binds := binds) (by have := hok.dp; omega) (Ks _ _ ho) rfl S.here.lim (codeRec_of Ks hcd) rfl hbind rfl (hkind _) (fun s₁ x => ?_) hco hgen hk)
  obtain ⟨⟨h₁, tk₁, rfl⟩, ns, kp, _⟩ := x.toInCall
  have ns' : h₁.Ns h.objs.size m := by rw [← hm h.objs.size]; exact ns
  refine wpAny_mono (k _ h₁ tk₁ (A.deeper (envOfC qual scope h.objs.size f cdv)) l rfl Wg ⟨hok.hh, ⟨_, by show A.frames.map _ = _; rw [hl]; rfl⟩, ?_, ?_⟩ (by show A.frames.map _ = _; rw [hl]; rfl)
    ⟨⟨ns', fun b o e => kp b o (of_hideAll _ e), Nat.le_of_eq (hideAll_size _ _)⟩, fun p hp => ?_, ?_⟩) (fun fl s' hq => by cases fl <;> exact hq) fun _ _ x => x.elim
  · show A.depth + 1 + d < _
    have := hok.dp; omega
  · show A.units + 3 + u < _
    have := hok.un; omega
  · rcases List.mem_append.mp hp with hp | hp
    · obtain ⟨n, v, e1, e2, e3, e4⟩ := hcells _ p hp
      obtain ⟨o, e5, e6⟩ := x.cell n p.1 e1
      refine ⟨Nat.ne_of_gt e4, ?_, o, e5, ?_⟩
      · cases q : (hideAll h (led.map (·.1))).get? p.1 with
        | none => rfl
        | some o' => exact absurd (Heap.lt_size (of_hideAll _ q)) (Nat.not_lt.mpr (Nat.le_of_lt e4))
      · rw [e3]; unfold isCell; rw [e6]; exact congrArg _ e2
    · obtain ⟨_, o, e, q⟩ := hat p hp
      exact ⟨Nat.ne_of_lt (Heap.lt_size e), hideAll_mem (List.mem_map_of_mem hp), o, kp _ _ e, q⟩
  · rw [List.map_append, List.nodup_append]
    refine ⟨hcnd _, nd, fun a ha b hb e => ?_⟩
    obtain ⟨p, hp, rfl⟩ := List.mem_map.mp ha
    obtain ⟨q, hq, rfl⟩ := List.mem_map.mp hb
    obtain ⟨n, v, _, _, _, e4⟩ := hcells _ p hp
    obtain ⟨_, o, eo, _⟩ := hat q hq
    exact absurd (Heap.lt_size eo) (Nat.not_lt.mpr (Nat.le_of_lt (e ▸ e4)))
end
section
variable {w : World} {A : Around} {s : Shared} {h g : Heap} {L : Addr} {m : Str → Option Value} {led₁ led₂ : List (Addr × (Obj → Prop))} {tk : Nat} {env : Env}
theorem comp_list {elt iter : Expr} {x : Str} {px : Pos} {ifs : List Expr} {scope : Scope} {cl : List (Str × Addr)} {pos : Pos} {Q : Value → Shared → Prop} {l : Addr} {its : List Value}
    (J : Nat → List Value → List (Addr × (Obj → Prop)) → Prop) (hh : A.handled = none) (C : Cx g L m (led₁ ++ led₂) h) (hl : At h l (isL its)) (hne : l ∉ led₁.map (·.1))
    (j0 : J 0 [] led₁) (adr : ∀ i ys l, J i ys l → l.map (·.1) = led₁.map (·.1)) (len : ∀ i ys l, J i ys l → ys.length ≤ 1000)
    (turn : ∀ g' cC i v mC ys l' h₁ tk₁ D I, (∀ b o, b ∉ led₁.map (·.1) → h.get? b = some o → g'.get? b = some o) → (∀ b o, g'.get? b = some o → b ∉ led₁.map (·.1)) → i < its.length → its[i]? = some v → J i ys l' → mC x = some v → Cx g' cC mC ((I, isLI l (i + 1)) :: (D, isL ys) :: l') h₁ →
      TestsThen w A (compEnvC scope cl cC env) ifs (wpAny (Md w) A (eval elt (compEnvC scope cl cC env)) (CompEl s g' cC I D (isLI l (i + 1)) ys (J (i + 1))) Bad) (CompSkip s g' cC I D (isLI l (i + 1)) ys (J (i + 1))) (stt s h₁ tk₁))
    (done : ∀ h' tk' D ys l, J its.length ys l → Cx g L m ((D, isL ys) :: (l ++ led₂)) h' → Q (.ref D) (stt s h' tk'))
    (hcell : ∀ y ∈ scope.names, y.2 ≠ .cell) (hkind : scope.kind = .function) (hx : scope.names.lookup x = some .local) :
    CompAt w A env elt iter x px ifs scope pos cl Q (.ref l) (stt s h tk) := by
  refine wpAny_pyIter_list (s := stt s h tk) hl.list ?_
  have C' : Cx g L m ((h.objs.size, isLI l 0) :: (led₁ ++ led₂)) (h.push { cls := .type "list_iterator", data := .fields #[.ref l, .int 0 0] }) := C.new (fun _ _ e => Heap.get?_push_of_some _ e) (Nat.le_refl _) (push_at h _ rfl ⟨rfl, rfl⟩)
  have hl' : At (h.push { cls := .type "list_iterator", data := .fields #[.ref l, .int 0 0] }) l (isL its) := hl.keep fun _ _ e => Heap.get?_push_of_some _ e
  refine comp_iter (s := s) (h := h.push _) J (iter_list hh (Nat.ne_of_gt hl.lt)) C' (fun s₁ h₁ tk₁ Q₁ E hI hQ => wpAny_pyIter_listiter (s := stt s₁ h₁ tk₁) hI hQ) hcell hkind hx j0 adr len
    (fun i ys l h₁ j k => (hl'.keep' (fun o e => k _ o (Nat.ne_of_lt hl.lt) hne e)).list) (fun g' cC i v mC ys l' h₁ tk₁ D eg _ hi hv j hm c => turn g' cC i v mC ys l' h₁ tk₁ D _ (fun b o hb e => ?_) (fun b o e => ?_) hi hv j hm c) done
  · rw [eg]
    refine hideAll_get _ (Heap.get?_push_of_some _ e) ?_
    simp only [List.map_cons, List.mem_cons, not_or]
    exact ⟨Nat.ne_of_lt (Heap.lt_size e), hb⟩
  · intro q
    rw [eg, hideAll_none _ (by simp only [List.map_cons, List.mem_cons]; exact .inr q)] at e; cases e
theorem comp_range {elt iter : Expr} {x : Str} {px : Pos} {ifs : List Expr} {scope : Scope} {cl : List (Str × Addr)} {pos : Pos} {Q : Value → Shared → Prop} {r : Addr} {n : Nat} {nI : Int}
    (J : Nat → List Value → List (Addr × (Obj → Prop)) → Prop) (hh : A.handled = none) (C : Cx g L m (led₁ ++ led₂) h) (hr : ∃ t u v, IsRange h r 0 nI 1 t u v) (hnI : nI = n) (hn : n ≤ 1000)
    (j0 : J 0 [] led₁) (adr : ∀ i ys l, J i ys l → l.map (·.1) = led₁.map (·.1)) (len : ∀ i ys l, J i ys l → ys.length ≤ 1000)
    (turn : ∀ g' cC i mC ys l' h₁ tk₁ D I, (∀ b o, b ∉ led₁.map (·.1) → h.get? b = some o → g'.get? b = some o) → (∀ b o, g'.get? b = some o → b ∉ led₁.map (·.1)) → i < n → J i ys l' → Cx g' cC mC ((I, isRI 0 n (i + 1)) :: (D, isL ys) :: l') h₁ →
      TestsThen w A (compEnvC scope cl cC env) ifs (wpAny (Md w) A (eval elt (compEnvC scope cl cC env)) (CompEl s g' cC I D (isRI 0 n (i + 1)) ys (J (i + 1))) Bad) (CompSkip s g' cC I D (isRI 0 n (i + 1)) ys (J (i + 1))) (stt s h₁ tk₁))
    (done : ∀ h' tk' D ys l, J n ys l → Cx g L m ((D, isL ys) :: (l ++ led₂)) h' → Q (.ref D) (stt s h' tk'))
    (hcell : ∀ y ∈ scope.names, y.2 ≠ .cell) (hkind : scope.kind = .function) (hx : scope.names.lookup x = some .local) :
    CompAt w A env elt iter x px ifs scope pos cl Q (.ref r) (stt s h tk) := by
  obtain ⟨t, u, v, hr⟩ := hr
  subst hnI
  refine wpAny_pyIter_range (s := stt s h tk) hr (small_one (by omega) (by omega) (by omega) (by omega)) ?_
  have e0 : Builtin.Range.rangeSize 0 (n : Int) 1 = (n : Int) := by rw [rangeSize_one]; split <;> omega
  rw [e0]
  have C' : Cx g L m ((h.objs.size, isRI 0 n 0) :: (led₁ ++ led₂)) (h.push { cls := .type "range_iterator", data := .fields #[rawInt 0, rawInt n, rawInt 1] }) := C.new (fun _ _ e => Heap.get?_push_of_some _ e) (Nat.le_refl _) (push_at h _ rfl (by unfold isRI; simp))
  refine comp_iter (s := s) (h := h.push _) J (iter_range hh) C' (fun s₁ h₁ tk₁ Q₁ E hI hQ => ?_) hcell hkind hx j0 adr len
    (fun i ys l h₁ j k => trivial) (fun g' cC i v mC ys l' h₁ tk₁ D eg _ hi hv j hm c => turn g' cC i mC ys l' h₁ tk₁ D _ (fun b o hb e => ?_) (fun b o e => ?_) hi j c) done
  · obtain ⟨o, e, rfl⟩ := hI
    exact wpAny_pyIter_rangeiter (s := stt s₁ h₁ tk₁) e hQ
  · rw [eg]
    refine hideAll_get _ (Heap.get?_push_of_some _ e) ?_
    simp only [List.map_cons, List.mem_cons, not_or]
    exact ⟨Nat.ne_of_lt (Heap.lt_size e), hb⟩
  · intro q
    rw [eg, hideAll_none _ (by simp only [List.map_cons, List.mem_cons]; exact .inr q)] at e; cases e
end
end
end Mine
open PySem PySem.W PySem.Calls PyProof.Rows PySem.MeetsSeq
namespace Mine
local macro_rules | `(tactic| walk_at "mem") => `(tactic| first | with_reducible exact List.mem_cons_self | (with_reducible refine List.mem_cons_of_mem _ ?_; walk_at "mem"))
local macro_rules | `(tactic| walk_at "look") => `(tactic| first | with_reducible assumption | exact upd_self | (refine (upd_ne (by decide)).trans ?_; walk_at "look") | rfl)
-- a fact of an object, of the ledger's or of the base's
local macro_rules | `(tactic| walk_at "at") => `(tactic| first | exact Cx.ata (by with_reducible assumption) (by walk_at "mem") | exact Cx.atg (by with_reducible assumption) (by with_reducible assumption))
local macro_rules | `(tactic| walk_at "strs") => `(tactic| first | exact StrsAre.nil | (apply StrsAre.cons; walk_at "strs"))
local macro_rules | `(tactic| walk_at "ats") => `(tactic| first | walk_at "at" | exact Cx.atS (by with_reducible assumption) (by walk_at "mem") (by walk_at "strs"))
local macro_rules | `(tactic| walk_at "room") => `(tactic| first | assumption | exact Ok.mono (by assumption) (by omega) (by omega))
local macro_rules | `(tactic| walk_at "ql") => `(tactic| first | exact At.list (by walk_at "at") | exact At.qlist (by walk_at "at"))
local macro_rules | `(tactic| walk_at "eval") => `(tactic| with_reducible first
  | (show wpAny _ _ (eval (Expr.Name _ _) _) _ _ _; first
    | refine r_ld (by assumption) (by k_dflt walk_at "look") ?_ (by with_unfolding_all rfl) (by with_unfolding_all rfl) (by with_unfolding_all rfl)
    | refine r_glob (by assumption) (by assumption) (by with_unfolding_all rfl) ?_ (by with_unfolding_all rfl) (by with_unfolding_all rfl) (by with_unfolding_all rfl)
    | refine r_blt (by assumption) (by assumption) (by with_unfolding_all rfl) ?_ (by with_unfolding_all rfl) (by with_unfolding_all rfl) (by with_unfolding_all rfl) (by with_unfolding_all rfl)
    | refine r_cell (by with_unfolding_all rfl) (by k_dflt walk_at "at") ?_ (by with_unfolding_all rfl) (by with_unfolding_all rfl))
  | refine e_int ?_
  | (show wpAny _ _ (eval (Expr.Subscript _ (Expr.Slice (some (Expr.Constant _ _ _)) _ _ _) _) _) _ _ _; refine e_sub ?_)
  | refine e_sliceS ?_ (by intro _ _; with_unfolding_all rfl)
  | refine e_sub ?_
  | refine e_slice ?_
  | refine e_call ?_
  | refine e_cmp ?_ (by with_unfolding_all rfl)
  | refine e_bin ?_
  | refine e_meth ?_ (by with_unfolding_all rfl)
  | refine e_attr ?_ (by with_unfolding_all rfl)
  | refine e_str ?_ (by with_unfolding_all size_fits)
  | refine e_bool ?_
  | refine e_list ?_
  | refine e_tup ?_
  | refine e_and ?_
  | refine e_or ?_
  | refine e_ife ?_
  | refine e_un ?_)
local macro_rules | `(tactic| walk_at "exec") => `(tactic| with_reducible first
  | refine x_asg ?_ (by with_unfolding_all rfl)
  | refine x_if ?_
  | refine x_ret ?_
  | refine x_for ?_ (by intro _; with_unfolding_all rfl)
  | refine x_expr ?_ (by with_unfolding_all rfl) (by with_unfolding_all rfl)
  | refine x_asg_sub ?_ (by with_unfolding_all rfl)
  | refine x_asg_attr ?_ (by with_unfolding_all rfl)
  | refine x_asg_tup ?_ (by with_unfolding_all rfl) (by with_unfolding_all rfl))
local macro_rules | `(tactic| walk_at "isTrue") => `(tactic| with_reducible first
  | refine t_cmp ?_ (by with_unfolding_all rfl)
  | refine t_not ?_
  | refine t_bool ?_
  | refine t_val ?_ (by with_unfolding_all rfl))
local macro_rules | `(tactic| walk_at "callWith") => `(tactic| with_reducible first
  | refine c_def (by with_unfolding_all k_is) ?_ (by with_unfolding_all rfl) (by with_unfolding_all rfl)
  | refine c_meth (by with_unfolding_all k_is) ?_ (by with_unfolding_all rfl) (by with_unfolding_all rfl)
  | refine c_type ?_ (by with_unfolding_all rfl) (by with_unfolding_all rfl)
  | refine c_blt ?_ (by with_unfolding_all rfl) (by with_unfolding_all rfl)
  | refine c_bmeth ?_ (by with_unfolding_all rfl) (by with_unfolding_all rfl)
  | refine c_bmeth0 ?_)
local macro_rules | `(tactic| walk_at "subscript") => `(tactic| with_reducible first
  | refine i_list (by k_dflt walk_at "ql") (by decide) (by decide) (by k_dflt rfl) ?_ (by with_unfolding_all rfl)
  | refine i_tup (by k_dflt walk_at "at") (by decide) (by decide) (by k_dflt rfl) ?_ (by with_unfolding_all rfl))
local macro_rules | `(tactic| walk_at "binary") => `(tactic| with_reducible first
  | refine o_add ?_
  | refine o_sub ?_
  | refine o_mod (by with_unfolding_all first | decide | omega | assumption) ?_
  | refine o_fdiv ?_ (by k_dflt first | decide | omega | assumption) (Cx.room (by assumption) (by assumption) (by assumption) (by k_dflt (have := Ok.dp (by assumption); omega)))
  | refine o_mul ?_ (by with_unfolding_all first | exact IntMulOk.of_right (by decide +kernel) | exact IntMulOk.of_left (by decide +kernel)))
local macro_rules | `(tactic| walk_at "compare") => `(tactic| with_reducible first
  | refine q_eq ?_
  | refine q_notin (by k_dflt walk_at "at") ?_
  | refine q_in (by k_dflt walk_at "at") ?_
  | refine q_inS (by k_dflt walk_at "ats") ?_
  | refine q_str ?_
  | refine q_eqT0 (by k_dflt walk_at "at") (by k_dflt walk_at "at") (by k_dflt (have := Ok.un (by assumption); omega)) ?_
  | refine q_neT0 (by k_dflt walk_at "at") (by k_dflt walk_at "at") (by k_dflt (have := Ok.un (by assumption); omega)) ?_
  | refine q_eqS (by k_dflt walk_at "ats") (by k_dflt walk_at "ats") (by k_dflt (have := Ok.un (by assumption); omega)) ?_
  | refine q_gt ?_
  | refine q_ge ?_
  | refine q_neb ?_)
local macro_rules | `(tactic| walk_at "method") => `(tactic| with_reducible first
  | refine mth_appendI (by k_dflt walk_at "at") ?_
  | refine mth_appendS (by k_dflt walk_at "at") ?_
  | refine mth_sortI (by k_dflt walk_at "at") ?_
  | refine mth_append (by k_dflt walk_at "at") ?_
  | refine a_meth (by assumption) (by assumption) (by k_dflt walk_at "at") (by k_dflt walk_at "at") (by k_dflt rfl) (by k_dflt rfl) ?_)
local macro_rules | `(tactic| walk_at "branch") => `(tactic| with_reducible first
  | refine br_tt ?_
  | refine br_ff ?_
  | refine br_not ?_
  | refine br_decT (by k_dflt decide) ?_
  | refine br_decF (by k_dflt decide) ?_
  | (refine br_dec ?_ ?_ <;> intro hc)
  | (refine br_gen ?_ ?_ <;> intro hc))
-- one step
local macro_rules | `(tactic| walk_at "s") => `(tactic| first
  | (with_reducible show wpAny _ _ (eval _ _) _ _ _; walk_at "eval")
  | with_reducible refine e_nil ?_
  | with_reducible refine p_none ?_
  | with_reducible refine p_some ?_
  | with_reducible refine e_more ?_ (by with_unfolding_all rfl)
  | with_reducible refine then_next ?_
  | with_reducible refine x_cons ?_
  | (with_reducible show wpAny _ _ (exec _ _) _ _ _; walk_at "exec")
  | (with_reducible show wpAny _ _ (subscriptTail _ _ _ _) _ _ _; walk_at "subscript")
  | (with_reducible show wpAny _ _ (callWith _ _ _ _ _) _ _ _; walk_at "callWith")
  | (with_reducible show wpAny _ _ (compareOp _ _ _) _ _ _; walk_at "compare")
  | with_reducible refine t_truthy ?_
  | (with_reducible show wpAny _ _ (isTrue _ _ _) _ _ _; walk_at "isTrue")
  | (with_reducible refine r_st (by assumption) ?_ (by with_unfolding_all rfl) (by with_unfolding_all rfl) (by with_unfolding_all rfl); intro h' C')
  | (with_reducible show wpAny _ _ (binaryOp _ _ _) _ _ _; walk_at "binary")
  | (with_reducible show wpAny _ _ (getMethod _ _ _) _ _ _; walk_at "method")
  | with_reducible refine a_get (by assumption) (by assumption) (by k_dflt walk_at "at") (by k_dflt walk_at "at") (by k_dflt decide) (by k_dflt rfl) (by k_dflt rfl) ?_
  | (with_reducible show (_ → _) ∧ (_ → _); walk_at "branch")
  | with_reducible refine callK (by assumption) (by assumption) ?_
  | with_reducible refine then_ret ?_
  | with_reducible refine x_nil ?_
  | with_reducible refine t_and ?_
  | with_reducible refine t_or ?_
  | with_reducible refine t_and_nil ?_
  | with_reducible refine t_or_nil ?_
  | (with_reducible refine s_list (by assumption) (by decide) (by decide) (by k_dflt simp) ?_; intro h' C')
  | with_reducible refine b_int ?_
  | with_reducible refine b_intb ?_
  | with_reducible refine o_neg ?_
  | (with_reducible refine d_tup (by assumption) ?_ (by k_dflt (simp [sizeLine_eq])); intro h' a' C')
  | (with_reducible refine d_list (by assumption) ?_ (by k_dflt (simp [sizeLine_eq])); intro h' a' C'))
local macro_rules | `(tactic| walk_at "go") => `(tactic| repeat' walk_at "s")
local macro_rules | `(tactic| walk_at "ecomp") => `(tactic| with_reducible refine e_comp ?_ (by with_unfolding_all rfl) (by intro _; with_unfolding_all rfl) (by with_unfolding_all rfl) (by k_dflt decide))
local macro_rules | `(tactic| walk_at "enterc") => `(tactic| ((case ho => k_is); (case hcd => k_is); (case hb => exact rfl); (case hk => exact kindsX rfl); (case hm => exact fun _ => rfl); (case c2 => exact rfl); (case c3 => exact rfl); (case c4 => exact rfl)))
local macro_rules | `(tactic| walk_at "enter") => `(tactic| ((case ho => k_is); (case hcd => k_is); (case hb => exact fun _ => BindsTo.of_eq rfl); (case hl => exact locs rfl); (case c2 => exact rfl); (case c3 => exact rfl); (case c4 => exact rfl); (case c5 => decide)))
/-- the drawing list -/
def isSrc : Obj → Prop := fun o => ∃ x y t u, isQ [.int x t, .int y u] o
theorem fill : PySem.Challenge.rw_nu0056_01 = PySem.Challenge.rw_nu0056_01 ∧ hd.heap_39 = hd.heap_39 := by
  k_fill
  exact ⟨rfl, rfl⟩
theorem fmod_nonneg (x : Int) {y : Int} (h : 0 < y) : 0 ≤ x.fmod y := by rw [Int.fmod_eq_emod_of_nonneg _ (Int.le_of_lt h)]; exact Int.emod_nonneg _ (by omega)
theorem fmod_lt (x : Int) {y : Int} (h : 0 < y) : x.fmod y < y := by rw [Int.fmod_eq_emod_of_nonneg _ (Int.le_of_lt h)]; exact Int.emod_lt_of_pos _ h
section
variable {w : World} {A : Around} {s : Shared} {h h₀ : Heap} {tk : Nat} {E : Value → Shared → Prop}
theorem take_spec {src : Addr} {top : Int} {tt : Tok} {Q : Value → Shared → Prop} (S : St w h₀ h) (ok : Ok A 300 50) (hsrc : At h src isSrc) (hf : h₀.get? src = none) (ht : 0 < top)
    (k : ∀ h' tk' r t, 0 ≤ r → r < top → Ext [src] h h' → At h' src isSrc → Q (.int r t) (stt s h' tk')) :
    wpAny (Md w) A (call (.ref 145) [.ref src, .int top tt]) Q E (stt s h tk) := by
  obtain ⟨o, ho, x, y, t, u, hq⟩ := hsrc
  refine' enterC (d := 299) (u := 47) (binds := [(Str.ofString "source", .ref src), (Str.ofString "top", .int top tt)]) [(src, isQ [.int x t, .int y u])] S (by intro p hp; rw [List.mem_singleton.mp hp]; exact ⟨hf, o, ho, hq⟩) (by simp) ok ?ho ?hcd ?hb ?hl ?_ ?c2 ?c3 ?c4 ?c5
  walk_at "enter"
  intro g h₁ tk₁ A' l eg W ok' fr C
  walk_at "go"
  · exact k _ _ _ _ (fmod_nonneg _ ht) (fmod_lt _ ht) (Cx.ext (by assumption) eg rfl) ((Cx.ata (by assumption) (.head _)).imp fun _ q => ⟨_, _, _, _, q⟩)
  · exact k _ _ _ _ (fmod_nonneg _ ht) (fmod_lt _ ht) (Cx.ext (by assumption) eg rfl) ((Cx.ata (by assumption) (.head _)).imp fun _ q => ⟨_, _, _, _, q⟩)
end
section
variable {w : World} {A : Around} {s : Shared} {h h₀ : Heap} {tk : Nat} {E : Value → Shared → Prop}
theorem one_spec {src l : Addr} {its : List Value} {Q : Value → Shared → Prop} (S : St w h₀ h) (ok : Ok A 310 60) (hsrc : At h src isSrc) (hf : h₀.get? src = none) (hl : At h l (isL its)) (hne : l ≠ src) (hpos : 0 < its.length) (hsz : its.length ≤ sizeLine)
    (k : ∀ h' tk' v, v ∈ its → Ext [src] h h' → At h' src isSrc → Q v (stt s h' tk')) :
    wpAny (Md w) A (call (.ref 152) [.ref src, .ref l]) Q E (stt s h tk) := by
  refine' enterC (d := 309) (u := 57) (binds := [(Str.ofString "source", .ref src), (Str.ofString "things", .ref l)]) [(src, isSrc)] S (by intro p hp; rw [List.mem_singleton.mp hp]; exact ⟨hf, hsrc⟩) (by simp) ok ?ho ?hcd ?hb ?hl ?_ ?c2 ?c3 ?c4 ?c5
  walk_at "enter"
  intro g h₁ tk₁ A' l' eg W ok' fr C
  have Sg : St w h₀ g := S.of_hide [src] (by simpa using hf) eg
  have hlg : At g l (isL its) := by rw [eg]; exact hl.hide (by simpa using hne)
  walk_at "go"
  refine b_len (by walk_at "ql") hsz ?_
  walk_at "go"
  refine take_spec (C.st Sg) (by walk_at "room") (C.ata (.head _)) hf (by omega) fun h2 tk2 r t r0 r1 x hs => ?_
  have C2 := Cx.behind (led₁ := [(src, isSrc)]) (led₂ := [(src, isSrc)]) C x rfl (by simpa using hs)
  have hr : r.toNat < its.length := by omega
  have : its.length < 2 ^ 62 := by rw [sizeLine_eq] at hsz; omega
  refine i_list (i := r) (x := its[r.toNat]) (C2.atg hlg).list r0 (by omega) (by simp [hr]) ?_ (by with_unfolding_all rfl)
  walk_at "go"
  exact k _ _ _ (List.getElem_mem hr) (C2.ext eg rfl) hs
end
theorem sub_len {α : Type} [DecidableEq α] : ∀ {l₁ l₂ : List α}, l₁.Nodup → (∀ z ∈ l₁, z ∈ l₂) → l₁.length ≤ l₂.length
  | [], _, _, _ => Nat.zero_le _
  | x :: l₁, l₂, nd, h => by
    have nd := List.nodup_cons.mp nd
    have hx := h x (.head _)
    have h1 := sub_len (l₁ := l₁) (l₂ := l₂.erase x) nd.2 fun z hz => (List.mem_erase_of_ne (fun e => nd.1 (by rw [← e]; exact hz))).mpr (h z (.tail _ hz))
    have h2 := List.length_erase_of_mem hx
    have h3 : 0 < l₂.length := List.length_pos_of_mem hx
    rw [h2] at h1
    exact Nat.succ_le_of_lt (Nat.lt_of_le_of_lt h1 (Nat.sub_lt h3 Nat.one_pos))
theorem small_of {xs : List Int} (nd : xs.Nodup) (hb : ∀ z ∈ xs, 1 ≤ z ∧ z ≤ 40) : xs.length ≤ 40 := by
  have := sub_len (l₂ := (List.range 40).map fun (i : Nat) => (i : Int) + 1) nd fun z hz => List.mem_map.mpr ⟨(z - 1).toNat, List.mem_range.mpr (by have := hb z hz; omega), by have := hb z hz; omega⟩
  rwa [List.length_map, List.length_range] at this
section
variable {w : World} {A : Around} {s : Shared} {h h₀ : Heap} {tk : Nat} {E : Value → Shared → Prop}
theorem add_spec {pl mo : Addr} {xs ys : List Int} {Q : Value → Shared → Prop} (S : St w h₀ h) (ok : Ok A 10 20) (hp : At h pl (isI xs)) (hm : At h mo (isI ys)) (hf : h₀.get? pl = none) (hne : mo ≠ pl)
    (nd : xs.Nodup) (bx : ∀ z ∈ xs, 1 ≤ z ∧ z ≤ 40) (by_ : ∀ z ∈ ys, 1 ≤ z ∧ z ≤ 40)
    (k : ∀ h' tk' zs, zs.Nodup → (∀ z, z ∈ zs ↔ z ∈ xs ∨ z ∈ ys) → Ext [pl] h h' → At h' pl (isI zs) → Q .none (stt s h' tk')) :
    wpAny (Md w) A (call (.ref 28) [.ref pl, .ref mo]) Q E (stt s h tk) := by
  refine' enterC (d := 9) (u := 17) (binds := [(Str.ofString "places", .ref pl), (Str.ofString "more", .ref mo)]) [(pl, isI xs)] S (by intro p hp'; rw [List.mem_singleton.mp hp']; exact ⟨hf, hp⟩) (by simp) ok ?ho ?hcd ?hb ?hl ?_ ?c2 ?c3 ?c4 ?c5
  walk_at "enter"
  intro g h₁ tk₁ A' l' eg W ok' fr C
  have Sg : St w h₀ g := S.of_hide [pl] (by simpa using hf) eg
  have hmg : At g mo (isI ys) := by rw [eg]; exact hm.hide (by simpa using hne)
  obtain ⟨vs, hml, hi⟩ := hmg.ints
  walk_at "go"
  refine for_list (l := mo) (its := vs) (fun i m led => ∃ zs, led = [(pl, isI zs)] ∧ zs.Nodup ∧ (∀ z, z ∈ zs ↔ z ∈ xs ∨ z ∈ ys.take i) ∧ m "places" = some (.ref pl)) ok'.hh C (C.atg hml) ⟨xs, rfl, nd, by simp, rfl⟩ (fun i m led h j c => c.atg hml) ?_ ?_
  · intro i v m₁ led₁ h₂ tk₂ I hv j C₁
    obtain ⟨zs, rfl, nz, hz, hpl⟩ := j
    obtain ⟨n, t, hn, rfl⟩ := ints_get' hi hv
    have hle : zs.length ≤ 40 := small_of nz fun z hz' => by
      rcases (hz z).mp hz' with q | q
      · exact bx z q
      · exact by_ z (List.mem_of_mem_take q)
    have C₁ := C₁.swap
    have ht : ys.take (i + 1) = ys.take i ++ [n] := by rw [List.take_add_one, hn]; rfl
    walk_at "go"
    · rename_i hc
      refine turn_next (C₁.swap) ⟨zs, rfl, nz, fun z => ?_, ?_⟩
      · rw [ht, List.mem_append, List.mem_singleton, hz]
        constructor
        · rintro (q | q); exact .inl q; exact .inr (.inl q)
        · rintro (q | q | rfl); exact .inl q; exact .inr q; exact (hz _).mp hc
      · walk_at "look"
    · rename_i hc
      refine d_appendI C₁ (by omega) fun h3 C3 => ⟨rfl, ?_⟩
      walk_at "go"
      refine turn_next (C3.swap) ⟨_, rfl, ?_, fun z => ?_, ?_⟩
      · exact List.nodup_append.mpr ⟨nz, by simp, fun a ha b hb e => hc (by rw [List.mem_singleton] at hb; subst hb; exact e ▸ ha)⟩
      · rw [ht, List.mem_append, List.mem_append, List.mem_singleton, hz, or_assoc]
      · walk_at "look"
  · rintro m₁ led₁ h₂ tk₂ ⟨zs, rfl, nz, hz, hpl⟩ C₂
    have hz' : ∀ z, z ∈ zs ↔ z ∈ xs ∨ z ∈ ys := fun z => by rw [hz, ints_len hi, List.take_length]
    have hle : zs.length ≤ 40 := small_of nz fun z hz'' => ((hz' z).mp hz'').elim (bx z) (by_ z)
    walk_at "go"
    refine d_sort C₂ (by omega) fun h3 zs' hp' C3 => ⟨rfl, ?_⟩
    walk_at "go"
    exact k _ _ _ (hp'.nodup_iff.mpr nz) (fun z => (hp'.mem_iff).trans (hz' z)) (C3.ext eg rfl) (C3.ata (.head _))
end
/-- the follow table: place i + 1 to the i-th list -/
def foKvs (fs : List Addr) : List (Int × Value) := fs.zipIdx.map fun p => ((p.2 : Int) + 1, .ref p.1)
theorem foKvs_length (fs : List Addr) : (foKvs fs).length = fs.length := by simp [foKvs]
theorem foKvs_at {fs : List Addr} {p : Int} {b : Addr} (h0 : 1 ≤ p) (hb : fs[(p - 1).toNat]? = some b) : valueAt (foKvs fs) p = some (.ref b) := by
  unfold valueAt foKvs
  have key : ∀ (l : List Addr) (k : Nat) (i : Nat), l[i]? = some b → (((l.zipIdx k).map fun p => ((p.2 : Int) + 1, Value.ref p.1)).find? fun kv => kv.1 = (((k + i : Nat) : Int) + 1)).map (·.2) = some (.ref b) := by
    intro l
    induction l with
    | nil => intro k i h; simp at h
    | cons x l ih =>
      intro k i h
      rw [List.zipIdx_cons, List.map_cons, List.find?_cons]
      cases i with
      | zero => simp at h; subst h; simp
      | succ i =>
        have ne : ¬ ((k : Int) + 1 = (((k + (i + 1) : Nat) : Int) + 1)) := by omega
        simp only [ne, decide_false]
        have := ih (k + 1) i (by simpa using h)
        rw [show k + 1 + i = k + (i + 1) by omega] at this
        exact this
  have := key fs 0 (p - 1).toNat hb
  rw [show (((0 + (p - 1).toNat : Nat) : Int) + 1) = p by omega] at this
  exact this
/-- an automaton's data -/
structure Aut where
  nul : Bool
  F : List Int
  La : List Int
  names : List Str
  fol : List (List Int)
/-- where its parts lie -/
structure AutA where
  dx : Addr
  nm : Addr
  fo : Addr
  f : Addr
  l : Addr
  fs : List Addr
abbrev autAttrs (a : AutA) (M : Aut) : List (Str × Value) := [("names", .ref a.nm), ("follow", .ref a.fo), ("is_nullable", .bool M.nul), ("first", .ref a.f), ("last", .ref a.l)]
structure AutAt (w : World) (h : Heap) (au : Addr) (a : AutA) (M : Aut) : Prop where
  o : At h au (isObj a.dx)
  d : At h a.dx (isAt (autAttrs a M))
  n : At h a.nm (isS M.names)
  fo : At h a.fo (isID w (foKvs a.fs))
  f : At h a.f (isI M.F)
  l : At h a.l (isI M.La)
  len : a.fs.length = M.names.length
  lenF : M.fol.length = M.names.length
  fol : ∀ (i : Nat) (b : Addr) (x : List Int), a.fs[i]? = some b → M.fol[i]? = some x → At h b (isI x)
  small : M.names.length ≤ 40
  ndF : M.F.Nodup
  inF : ∀ z ∈ M.F, 1 ≤ z ∧ z ≤ M.names.length
  inL : ∀ z ∈ M.La, 1 ≤ z ∧ z ≤ M.names.length
  infol : ∀ x ∈ M.fol, ∀ z ∈ x, 1 ≤ z ∧ z ≤ M.names.length
  ndfol : ∀ x ∈ M.fol, x.Nodup
theorem AutAt.keep {w : World} {h h' : Heap} {au : Addr} {a : AutA} {M : Aut} (x : AutAt w h au a M) (k : ∀ b o, h.get? b = some o → h'.get? b = some o) : AutAt w h' au a M :=
  { x with o := x.o.keep k, d := x.d.keep k, n := x.n.keep k, fo := x.fo.keep k, f := x.f.keep k, l := x.l.keep k, fol := fun i b y h1 h2 => (x.fol i b y h1 h2).keep k }
def Aut.beh (M : Aut) (p : Int) : List Int := if p = 0 then M.F else (M.fol[(p - 1).toNat]?).getD []
section
variable {w : World} {A : Around} {s : Shared} {h h₀ : Heap} {tk : Nat} {E : Value → Shared → Prop}
theorem hide_nil (h : Heap) : hideAll h [] = h := rfl
theorem name_at_spec {au : Addr} {a : AutA} {M : Aut} {p : Int} {t : Tok} {Q : Value → Shared → Prop} (S : St w h₀ h) (ok : Ok A 10 20) (U : AutAt w h au a M) (h1 : 1 ≤ p) (h2 : p ≤ M.names.length)
    (k : ∀ h' tk' t', Ext [] h h' → Q (.str (M.names[(p - 1).toNat]?.getD Str.empty) t') (stt s h' tk')) :
    wpAny (Md w) A (call (.ref 84) [.ref au, .int p t]) Q E (stt s h tk) := by
  refine' enterC (d := 9) (u := 17) (binds := [(Str.ofString "self", .ref au), (Str.ofString "place", .int p t)]) [] S (fun _ hp => nomatch hp) (by simp) ok ?ho ?hcd ?hb ?hl ?_ ?c2 ?c3 ?c4 ?c5
  walk_at "enter"
  intro g h₁ tk₁ A' l' eg W ok' fr C
  have Sg : St w h₀ g := S.of_hide [] (by simp) eg
  have eg' : g = h := eg
  rw [← eg'] at U
  obtain ⟨vs, hn, hs⟩ := U.n.strs
  have ho := U.o; have hd := U.d
  walk_at "go"
  have hlt : (p - 1).toNat < vs.length := by rw [strs_len hs]; omega
  have small := U.small
  obtain ⟨x, t', e1, e2⟩ := strs_get' hs (List.getElem?_eq_getElem hlt)
  refine i_list (i := p - 1) (x := vs[(p-1).toNat]) (C.atg hn).list (by omega) (by omega) (by simp [hlt]) ?_ (by with_unfolding_all rfl)
  walk_at "go"
  have := k h₁ (tk₁ + 1 + 1 + 1) t' (C.ext (led₀ := []) eg rfl)
  rw [e1] at this
  rw [e2]
  exact this
end
section
variable {w : World} {A : Around} {s : Shared} {h h₀ : Heap} {tk : Nat} {E : Value → Shared → Prop}
theorem behind_spec {au : Addr} {a : AutA} {M : Aut} {p : Int} {t : Tok} {Q : Value → Shared → Prop} (S : St w h₀ h) (ok : Ok A 10 20) (U : AutAt w h au a M) (h1 : 0 ≤ p) (h2 : p ≤ M.names.length)
    (k : ∀ h' tk' b, Ext [] h h' → (∀ h'', AutAt w h'' au a M → At h'' b (isI (M.beh p))) → Q (.ref b) (stt s h' tk')) :
    wpAny (Md w) A (call (.ref 91) [.ref au, .int p t]) Q E (stt s h tk) := by
  refine' enterC (d := 9) (u := 17) (binds := [(Str.ofString "self", .ref au), (Str.ofString "place", .int p t)]) [] S (fun _ hp => nomatch hp) (by simp) ok ?ho ?hcd ?hb ?hl ?_ ?c2 ?c3 ?c4 ?c5
  walk_at "enter"
  intro g h₁ tk₁ A' l' eg W ok' fr C
  have Sg : St w h₀ g := S.of_hide [] (by simp) eg
  have eg' : g = h := eg
  rw [← eg'] at U
  have ho := U.o; have hd := U.d; have hfo := U.fo
  walk_at "go"
  · rename_i hc
    refine k _ _ _ (C.ext (led₀ := []) eg rfl) fun h'' U' => ?_
    have : M.beh p = M.F := by unfold Aut.beh; rw [if_pos hc]
    rw [this]; exact U'.f
  · rename_i hc
    have hlt : (p - 1).toNat < a.fs.length := by rw [U.len]; omega
    have hlt2 : (p - 1).toNat < M.fol.length := by rw [U.lenF]; omega
    refine i_dict (C.atg hfo) (foKvs_at (by omega) (List.getElem?_eq_getElem hlt)) ?_ (by with_unfolding_all rfl)
    walk_at "go"
    refine k _ _ _ (C.ext (led₀ := []) eg rfl) fun h'' U' => ?_
    have : M.beh p = M.fol[(p-1).toNat] := by unfold Aut.beh; rw [if_neg hc, List.getElem?_eq_getElem hlt2]; rfl
    rw [this]
    exact U'.fol _ _ _ (List.getElem?_eq_getElem hlt) (List.getElem?_eq_getElem hlt2)
def Aut.endOne (M : Aut) (p : Int) : Bool := decide (p ∈ M.La) || (decide (p = 0) && M.nul)
theorem is_end_spec {au st : Addr} {a : AutA} {M : Aut} {vs : List Value} {ps : List Int} {Q : Value → Shared → Prop} (S : St w h₀ h) (ok : Ok A 10 20) (U : AutAt w h au a M) (hst : At h st (isT vs)) (hi : IntsAre vs ps)
    (k : ∀ h' tk', Ext [] h h' → Q (.bool (ps.any M.endOne)) (stt s h' tk')) :
    wpAny (Md w) A (call (.ref 110) [.ref au, .ref st]) Q E (stt s h tk) := by
  refine' enterC (d := 9) (u := 17) (binds := [(Str.ofString "self", .ref au), (Str.ofString "state", .ref st)]) [] S (fun _ hp => nomatch hp) (by simp) ok ?ho ?hcd ?hb ?hl ?_ ?c2 ?c3 ?c4 ?c5
  walk_at "enter"
  intro g h₁ tk₁ A' l' eg W ok' fr C
  have Sg : St w h₀ g := S.of_hide [] (by simp) eg
  have eg' : g = h := eg
  rw [← eg'] at U hst
  have ho := U.o; have hd := U.d; have hl := U.l
  walk_at "go"
  refine for_tup (l := st) (its := vs) (fun i m led => led = [] ∧ (ps.take i).any M.endOne = false ∧ m "self" = some (.ref au)) ok'.hh C (C.atg hst) ⟨rfl, rfl, rfl⟩ (fun i m led h j c => c.atg hst) ?_ ?_
  · rintro i v m₁ led₁ h₂ tk₂ I hv ⟨rfl, hno, hself⟩ C₁
    obtain ⟨n, t, hn, rfl⟩ := ints_get' hi hv
    have ht : ps.take (i + 1) = ps.take i ++ [n] := by rw [List.take_add_one, hn]; rfl
    have hany : ∀ b, M.endOne n = b → b = true → ps.any M.endOne = true := fun b e1 e2 => List.any_eq_true.mpr ⟨n, List.mem_of_getElem? hn, e1.trans e2⟩
    walk_at "go"
    · rename_i hc
      have e : M.endOne n = true := by unfold Aut.endOne; simp [hc]
      rw [show true = ps.any M.endOne from (hany _ e rfl).symm]
      exact k _ _ (Cx.ext (led₀ := []) (by assumption) eg rfl)
    · rename_i hc1 hc2 hc3
      have e : M.endOne n = true := by unfold Aut.endOne; simp [hc2, hc3]
      rw [show true = ps.any M.endOne from (hany _ e rfl).symm]
      exact k _ _ (Cx.ext (led₀ := []) (by assumption) eg rfl)
    · rename_i hc1 hc2 hc3
      have e : M.endOne n = false := by unfold Aut.endOne; simp [hc1, hc3]
      exact turn_next (by assumption) ⟨rfl, by rw [ht, List.any_append, hno]; simp [e], by walk_at "look"⟩
    · rename_i hc1 hc2
      have e : M.endOne n = false := by unfold Aut.endOne; simp [hc1, hc2]
      exact turn_next (by assumption) ⟨rfl, by rw [ht, List.any_append, hno]; simp [e], by walk_at "look"⟩
  · rintro m₁ led₁ h₂ tk₂ ⟨rfl, hno, hself⟩ C₂
    rw [ints_len hi, List.take_length] at hno
    walk_at "go"
    have := k _ tk₂ (C₂.ext (led₀ := []) eg rfl)
    rw [hno] at this
    exact this
end
def Aut.nameAt (M : Aut) (p : Int) : Str := M.names[(p - 1).toNat]?.getD Str.empty
theorem stored_keys {kvs : List (Str × Value)} {x : Str} {v : Value} (c : Str) : c ∈ (stored kvs x v).map (·.1) ↔ c = x ∨ c ∈ kvs.map (·.1) := by
  unfold stored
  split
  · rename_i hx
    have e : (kvs.map fun kv => if kv.1 = x then (kv.1, v) else kv).map (·.1) = kvs.map (·.1) := by
      rw [List.map_map]; apply List.map_congr_left; intro p _; simp only [Function.comp]; split <;> rfl
    rw [e]
    obtain ⟨p, hp, hx⟩ := List.any_eq_true.mp hx
    simp only [decide_eq_true_eq] at hx
    constructor
    · exact .inr
    · rintro (rfl | q)
      · rw [← hx]; exact List.mem_map_of_mem hp
      · exact q
  · rw [List.map_append, List.mem_append]; simp [or_comm]
theorem beh_in {w : World} {h : Heap} {au : Addr} {a : AutA} {M : Aut} (U : AutAt w h au a M) {p o : Int} (ho : o ∈ M.beh p) : 1 ≤ o ∧ o ≤ M.names.length := by
  unfold Aut.beh at ho
  split at ho
  · exact U.inF o ho
  · cases q : M.fol[(p - 1).toNat]? with
    | none => rw [q] at ho; simp at ho
    | some x => rw [q] at ho; exact U.infol x (List.mem_of_getElem? q) o ho
theorem beh_nd {w : World} {h : Heap} {au : Addr} {a : AutA} {M : Aut} (U : AutAt w h au a M) (p : Int) : (M.beh p).Nodup := by
  unfold Aut.beh
  split
  · exact U.ndF
  · cases q : M.fol[(p - 1).toNat]? with
    | none => exact List.nodup_nil
    | some x => exact U.ndfol x (List.mem_of_getElem? q)
theorem beh_len {w : World} {h : Heap} {au : Addr} {a : AutA} {M : Aut} (U : AutAt w h au a M) (p : Int) : (M.beh p).length ≤ 40 :=
  small_of (beh_nd U p) fun z hz => by have := beh_in U hz; have := U.small; omega
theorem nameAt_mem {w : World} {h : Heap} {au : Addr} {a : AutA} {M : Aut} (U : AutAt w h au a M) {o : Int} (ho : 1 ≤ o ∧ o ≤ M.names.length) : M.nameAt o ∈ M.names := by
  unfold Aut.nameAt
  have hlt : (o - 1).toNat < M.names.length := by omega
  rw [List.getElem?_eq_getElem hlt]; exact List.getElem_mem hlt
section
variable {w : World} {A : Around} {s : Shared} {h h₀ : Heap} {tk : Nat} {E : Value → Shared → Prop}
theorem expected_spec {au st : Addr} {a : AutA} {M : Aut} {vs : List Value} {ps : List Int} {Q : Value → Shared → Prop} (S : St w h₀ h) (ok : Ok A 30 60) (U : AutAt w h au a M) (hst : At h st (isT vs)) (hi : IntsAre vs ps) (hps : ∀ p ∈ ps, 0 ≤ p ∧ p ≤ M.names.length)
    (k : ∀ h' tk' b ss, Ext [] h h' → h.get? b = none → At h' b (isS ss) → ss.length ≤ 40 → (∀ c, c ∈ ss ↔ ∃ p ∈ ps, ∃ o ∈ M.beh p, M.nameAt o = c) → Q (.ref b) (stt s h' tk')) :
    wpAny (Md w) A (call (.ref 117) [.ref au, .ref st]) Q E (stt s h tk) := by
  refine' enterC (d := 29) (u := 57) (binds := [(Str.ofString "self", .ref au), (Str.ofString "state", .ref st)]) [] S (fun _ hp => nomatch hp) (by simp) ok ?ho ?hcd ?hb ?hl ?_ ?c2 ?c3 ?c4 ?c5
  walk_at "enter"
  intro g h₁ tk₁ A' l' eg W ok' fr C
  have Sg : St w h₀ g := S.of_hide [] (by simp) eg
  have eg' : g = h := eg
  rw [← eg'] at U hst
  have ho := U.o; have hd := U.d
  walk_at "go"
  refine d_dictS C fun h2 fd C2 => ?_
  walk_at "go"
  rename_i h3 C3
  refine for_tup (l := st) (its := vs) (fun i m led => ∃ kvs, led = [(fd, isSD w kvs)] ∧ (∀ c, c ∈ kvs.map (·.1) ↔ ∃ p ∈ ps.take i, ∃ o ∈ M.beh p, M.nameAt o = c) ∧ m "self" = some (.ref au) ∧ m "found" = some (.ref fd)) ok'.hh C3 (C3.atg hst) ⟨[], rfl, by simp, rfl, rfl⟩ (fun i m led h j c => c.atg hst) ?_ ?_
  · rintro i v m₁ led₁ h₂ tk₂ I hv ⟨kvs, rfl, hk, hself, hfound⟩ C₁
    obtain ⟨n, t, hn, rfl⟩ := ints_get' hi hv
    have ht : ps.take (i + 1) = ps.take i ++ [n] := by rw [List.take_add_one, hn]; rfl
    have hn' := hps n (List.mem_of_getElem? hn)
    walk_at "go"
    refine behind_spec (C₁.st Sg) (by walk_at "room") (U.keep C₁.F.keep) hn'.1 hn'.2 fun h4 tk4 b x hb => ?_
    have C4 := C₁.pass x
    obtain ⟨ws, hbl, hwi⟩ := (hb g U).ints
    walk_at "go"
    refine for_list (l := b) (its := ws) (fun j m led => ∃ kvs', led = [(I, isTI st (i + 1)), (fd, isSD w kvs')] ∧ (∀ c, c ∈ kvs'.map (·.1) ↔ (∃ p ∈ ps.take i, ∃ o ∈ M.beh p, M.nameAt o = c) ∨ ∃ o ∈ (M.beh n).take j, M.nameAt o = c) ∧ m "self" = some (.ref au) ∧ m "found" = some (.ref fd))
      ok'.hh C4 (C4.atg hbl) ⟨kvs, rfl, by simpa using hk, by walk_at "look", by walk_at "look"⟩ (fun i m led h j c => c.atg hbl) ?_ ?_
    · rintro j v m₂ led₂ h₅ tk₅ I' hv' ⟨kvs', rfl, hk', hself', hfound'⟩ C₅
      obtain ⟨o, t', ho', rfl⟩ := ints_get' hwi hv'
      have ht' : (M.beh n).take (j + 1) = (M.beh n).take j ++ [o] := by rw [List.take_add_one, ho']; rfl
      have hb' := beh_in U (List.mem_of_getElem? ho')
      have C₅ := C₅.third
      walk_at "go"
      refine name_at_spec (C₅.st Sg) (by walk_at "room") (U.keep C₅.F.keep) hb'.1 hb'.2 fun h6 tk6 t6 x6 => ?_
      have C6 := C₅.pass x6
      walk_at "go"
      have hkl : kvs'.length ≤ 40 := by
        have q := sub_len (l₁ := kvs'.map (·.1)) (l₂ := M.names) (let ⟨_, _, _, _, _, _, _, _, nd⟩ := C6.here (.head _); nd) fun c hc => by
          rcases (hk' c).mp hc with ⟨p, hp, o, ho, rfl⟩ | ⟨o, ho, rfl⟩
          · exact nameAt_mem U (beh_in U ho)
          · exact nameAt_mem U (beh_in U (List.mem_of_mem_take ho))
        have := U.small
        rw [List.length_map] at q; omega
      refine s_dictS C6 (by rw [sizeLine_eq]; omega) fun h7 C7 => ?_
      walk_at "go"
      refine turn_next C7.thirdBack ⟨_, rfl, fun c => ?_, by walk_at "look", by walk_at "look"⟩
      rw [stored_keys, hk', ht']
      constructor
      · rintro (rfl | q | ⟨o', ho', rfl⟩)
        · exact .inr ⟨o, by simp, rfl⟩
        · exact .inl q
        · exact .inr ⟨o', List.mem_append_left _ ho', rfl⟩
      · rintro (q | ⟨o', ho', rfl⟩)
        · exact .inr (.inl q)
        · rcases List.mem_append.mp ho' with q | q
          · exact .inr (.inr ⟨o', q, rfl⟩)
          · rw [List.mem_singleton.mp q]; exact .inl rfl
    · rintro m₂ led₂ h₅ tk₅ ⟨kvs', rfl, hk', hself', hfound'⟩ C₅
      walk_at "go"
      refine turn_next C₅ ⟨_, rfl, fun c => ?_, by walk_at "look", by walk_at "look"⟩
      rw [hk', ht, ints_len hwi, List.take_length]
      constructor
      · rintro (⟨p, hp, q⟩ | q)
        · exact ⟨p, List.mem_append_left _ hp, q⟩
        · exact ⟨n, by simp, q⟩
      · rintro ⟨p, hp, q⟩
        rcases List.mem_append.mp hp with hp | hp
        · exact .inl ⟨p, hp, q⟩
        · rw [List.mem_singleton.mp hp] at q; exact .inr q
  · rintro m₁ led₁ h₂ tk₂ ⟨kvs, rfl, hk, hself, hfound⟩ C₂
    rw [ints_len hi, List.take_length] at hk
    have hkl : kvs.length ≤ 40 := by
      have q := sub_len (l₁ := kvs.map (·.1)) (l₂ := M.names) (let ⟨_, _, _, _, _, _, _, _, nd⟩ := C₂.here (.head _); nd) fun c hc => by
        obtain ⟨p, hp, o, ho, rfl⟩ := (hk c).mp hc
        exact nameAt_mem U (beh_in U ho)
      have := U.small
      rw [List.length_map] at q; omega
    walk_at "go"
    refine b_sortedD ok'.hh C₂ W (.head _) (by omega) fun h6 tk6 b ss hp C6 => ?_
    walk_at "go"
    have hle : h.get? b = none := C6.fresh (led₀ := []) eg (.head _) (by simp)
    exact k _ _ _ _ (C6.drop.drop.ext (led₀ := []) eg rfl) hle (C6.ata (.head _)) (by rw [hp.length_eq, List.length_map]; exact hkl) fun c => by rw [hp.mem_iff, hk]
end
section
variable {w : World} {A : Around} {s : Shared} {h h₀ : Heap} {tk : Nat} {E : Value → Shared → Prop}
theorem step_spec {au st : Addr} {a : AutA} {M : Aut} {vs : List Value} {ps : List Int} {c : Str} {t : Tok} {Q : Value → Shared → Prop} (S : St w h₀ h) (ok : Ok A 60 100) (U : AutAt w h au a M) (hst : At h st (isT vs)) (hi : IntsAre vs ps) (hps : ∀ p ∈ ps, 0 ≤ p ∧ p ≤ M.names.length)
    (k : ∀ h' tk' b us qs, Ext [] h h' → h.get? b = none → At h' b (isT us) → IntsAre us qs → qs.Nodup → (∀ z, z ∈ qs ↔ ∃ p ∈ ps, z ∈ M.beh p ∧ M.nameAt z = c) → Q (.ref b) (stt s h' tk')) :
    wpAny (Md w) A (call (.ref 103) [.ref au, .ref st, .str c t]) Q E (stt s h tk) := by
  refine' enterCell (d := 59) (u := 97) (binds := [(Str.ofString "self", .ref au), (Str.ofString "state", .ref st), (Str.ofString "name", .str c t)]) [] (fun L => [(L + 1, isCell (.ref au)), (L + 2, isCell (.str c t))]) (fun y => if y = Str.ofString "state" then some (.ref st) else none) S (fun _ hp => nomatch hp) (by simp) ok ?ho ?hcd ?hb ?hk ?hm ?hc ?hn ?_ ?c2 ?c3 ?c4
  walk_at "enterc"
  case hc =>
    intro L p hp
    simp only [List.mem_cons, List.not_mem_nil, or_false] at hp
    rcases hp with rfl | rfl
    · exact ⟨Str.ofString "self", _, rfl, rfl, rfl, Nat.lt_succ_self _⟩
    · exact ⟨Str.ofString "name", _, rfl, rfl, rfl, Nat.lt_succ_of_lt (Nat.lt_succ_self _)⟩
  case hn => intro L; simp
  intro g h₁ tk₁ A' l' eg W ok' fr C
  have Sg : St w h₀ g := S.of_hide [] (by simp) eg
  have eg' : g = h := eg
  rw [← eg'] at U hst
  have ho := U.o; have hd := U.d
  have C : Cx g h.objs.size (fun y => if y = Str.ofString "state" then some (.ref st) else none) [(h.objs.size + 1, isCell (.ref au)), (h.objs.size + 1 + 1, isCell (.str c t))] h₁ := C
  walk_at "go"
  rename_i hA fd CA h3 C3
  have C3 := C3.weak (isL_isI .nil)
  refine for_tup (l := st) (its := vs) (fun i m led => ∃ zs, led = [(fd, isI zs), (h.objs.size + 1, isCell (.ref au)), (h.objs.size + 1 + 1, isCell (.str c t))] ∧ zs.Nodup ∧ (∀ z, z ∈ zs ↔ ∃ p ∈ ps.take i, z ∈ M.beh p ∧ M.nameAt z = c) ∧ m "found" = some (.ref fd))
    ok'.hh C3 (C3.atg hst) ⟨[], rfl, List.nodup_nil, by simp, rfl⟩ (fun i m led h j c => c.atg hst) ?_ ?_
  · rintro i v m₁ led₁ h₂ tk₂ I hv ⟨zs, rfl, nz, hz, hfound⟩ C₁
    obtain ⟨n, t', hn, rfl⟩ := ints_get' hi hv
    have ht : ps.take (i + 1) = ps.take i ++ [n] := by rw [List.take_add_one, hn]; rfl
    have hn' := hps n (List.mem_of_getElem? hn)
    walk_at "go"
    walk_at "ecomp"
    walk_at "go"
    refine behind_spec (C₁.st Sg) (by walk_at "room") (U.keep C₁.F.keep) hn'.1 hn'.2 fun h4 tk4 b x hb => ?_
    have C4 := C₁.pass x
    obtain ⟨ws, hbl, hwi⟩ := (hb g U).ints
    refine comp_list (led₁ := []) (led₂ := [(I, isTI st (i + 1)), (fd, isI zs), (h.objs.size + 1, isCell (.ref au)), (h.objs.size + 1 + 1, isCell (.str c t))])
      (fun j ys l => l = [] ∧ ∃ zs', IntsAre ys zs' ∧ zs'.length ≤ j ∧ j ≤ ws.length ∧ ∀ z, z ∈ zs' ↔ z ∈ (M.beh n).take j ∧ M.nameAt z = c) ok'.hh C4 (C4.atg hbl) (by simp)
      ⟨rfl, [], .nil, Nat.le_refl _, Nat.zero_le _, by simp⟩ (by rintro _ _ _ ⟨rfl, _⟩; rfl) ?_ ?_ ?_ ?_ rfl rfl
    · rintro j ys l ⟨_, zs', hys, h1, h2, _⟩
      have := beh_len U n
      rw [← ints_len hwi] at this
      rw [ints_len hys]; omega
    · rintro g' cC j v mC ys l' h5 tk5 D I' up dn hj hv' ⟨rfl, zs', hys, hl1, hl2, hz'⟩ hm Cc
      obtain ⟨o, t6, ho', rfl⟩ := ints_get' hwi hv'
      have ht' : (M.beh n).take (j + 1) = (M.beh n).take j ++ [o] := by rw [List.take_add_one, ho']; rfl
      have hb' := beh_in U (List.mem_of_getElem? ho')
      have upg : ∀ b o, g.get? b = some o → g'.get? b = some o := fun b o e => up b o (by simp) (C4.F.keep b o e)
      have U' := U.keep upg
      have W' := W.keeps upg
      have Sg' : St w h₀ g' := ⟨Sg.wd, fun b o e => upg b o (Sg.st b o e)⟩
      have ho2 := U'.o; have hd2 := U'.d
      have hc1 : At g' (h.objs.size + 1) (isCell (.ref au)) := (C4.ata (by walk_at "mem")).keep fun b o e => up b o (by simp) e
      have hc2 : At g' (h.objs.size + 1 + 1) (isCell (.str c t)) := (C4.ata (by walk_at "mem")).keep fun b o e => up b o (by simp) e
      refine tests_one ?_
      walk_at "go"
      refine name_at_spec (Cc.st Sg') (by walk_at "room") (U'.keep Cc.F.keep) hb'.1 hb'.2 fun h6 tk6 t7 x6 => ?_
      have C6 := Cc.pass x6
      walk_at "go"
      · rename_i hc
        refine comp_el C6 ⟨rfl, zs' ++ [o], ints_snoc hys o t6, by rw [List.length_append, List.length_singleton]; omega, hj, fun z => ?_⟩
        rw [ht', List.mem_append, List.mem_append, hz', List.mem_singleton]
        constructor
        · rintro (⟨q1, q2⟩ | rfl)
          · exact ⟨.inl q1, q2⟩
          · exact ⟨.inr rfl, hc⟩
        · rintro ⟨q1 | rfl, q2⟩
          · exact .inl ⟨q1, q2⟩
          · exact .inr rfl
      · rename_i hc
        refine comp_skip C6 ⟨rfl, zs', hys, by omega, hj, fun z => ?_⟩
        rw [ht', List.mem_append, hz', List.mem_singleton]
        constructor
        · rintro ⟨q1, q2⟩; exact ⟨.inl q1, q2⟩
        · rintro ⟨q1 | rfl, q2⟩
          · exact ⟨q1, q2⟩
          · exact absurd q2 hc
    · rintro h5 tk5 D ys l ⟨rfl, zs', hys, hl1, hl2, hz'⟩ C5
      rw [ints_len hwi, List.take_length] at hz'
      have hD : At h5 D (isI zs') := (C5.ata (.head _)).imp (isL_isI hys)
      have hne : D ≠ fd := fun e => (List.nodup_cons.mp C5.nd).1 (by rw [e]; simp)
      have C5' := C5.drop.swap
      walk_at "go"
      refine add_spec (C5'.st Sg) (by walk_at "room") (C5'.ata (.head _)) hD (C5'.free Sg _ (.head _)) hne nz (fun z hz'' => ?_) (fun z hz'' => ?_) fun h7 tk7 zs'' nz'' hz'' x7 hp7 => ?_
      · obtain ⟨p, hp, hb, _⟩ := (hz z).mp hz''; have := beh_in U hb; have := U.small; omega
      · have := beh_in U ((hz' z).mp hz'').1; have := U.small; omega
      have C7 := (Cx.behind (led₁ := [(fd, isI zs)]) (led₂ := [(fd, isI zs'')]) C5' x7 rfl (by simpa using hp7)).swap
      walk_at "go"
      refine ⟨rfl, ?_⟩
      walk_at "go"
      refine turn_next C7 ⟨zs'', rfl, nz'', fun z => ?_, by walk_at "look"⟩
      rw [hz'', hz, hz', ht]
      constructor
      · rintro (⟨p, hp, q⟩ | q)
        · exact ⟨p, List.mem_append_left _ hp, q⟩
        · exact ⟨n, by simp, q⟩
      · rintro ⟨p, hp, q⟩
        rcases List.mem_append.mp hp with hp | hp
        · exact .inl ⟨p, hp, q⟩
        · rw [List.mem_singleton.mp hp] at q; exact .inr q
    · decide
  · rintro m₁ led₁ h₂ tk₂ ⟨zs, rfl, nz, hz, hfound⟩ C₂
    rw [ints_len hi, List.take_length] at hz
    have hle : zs.length ≤ 40 := small_of nz fun z hz' => by obtain ⟨p, hp, hb, _⟩ := (hz z).mp hz'; have := beh_in U hb; have := U.small; omega
    walk_at "go"
    obtain ⟨us, hus, hui⟩ := (C₂.ata (.head _)).ints
    refine b_tuple C₂ hus.list (by rw [ints_len hui, sizeLine_eq]; omega) fun h6 b C6 => ?_
    walk_at "go"
    exact k _ _ _ _ _ (C6.ext (led₀ := []) eg rfl) (C6.fresh (led₀ := []) eg (.head _) (by simp)) (C6.ata (.head _)) hui nz hz
end
def Aut.Run (M : Aut) : Int → List Str → Prop
  | p, [] => M.endOne p = true
  | p, c :: ws => ∃ z, z ∈ M.beh p ∧ M.nameAt z = c ∧ M.Run z ws
section
variable {w : World} {A : Around} {s : Shared} {h h₀ : Heap} {tk : Nat} {E : Value → Shared → Prop}
theorem accepts_spec {au l : Addr} {a : AutA} {M : Aut} {ws : List Str} {Q : Value → Shared → Prop} (S : St w h₀ h) (ok : Ok A 80 150) (U : AutAt w h au a M) (hl : At h l (isS ws))
    (k : ∀ h' tk' b, Ext [] h h' → (b = true ↔ M.Run 0 ws) → Q (.bool b) (stt s h' tk')) :
    wpAny (Md w) A (call (.ref 124) [.ref au, .ref l]) Q E (stt s h tk) := by
  refine' enterC (d := 79) (u := 147) (binds := [(Str.ofString "self", .ref au), (Str.ofString "names", .ref l)]) [] S (fun _ hp => nomatch hp) (by simp) ok ?ho ?hcd ?hb ?hl ?_ ?c2 ?c3 ?c4 ?c5
  walk_at "enter"
  intro g h₁ tk₁ A' l' eg W ok' fr C
  have Sg : St w h₀ g := S.of_hide [] (by simp) eg
  have eg' : g = h := eg
  rw [← eg'] at U hl
  have ho := U.o; have hd := U.d
  obtain ⟨vs, hls, hsi⟩ := hl.strs
  walk_at "go"
  rename_i h2 sa C2 h3 C3
  refine for_list (l := l) (its := vs) (fun i m led => ∃ sa us qs, led = [(sa, isT us)] ∧ IntsAre us qs ∧ (∀ p ∈ qs, 0 ≤ p ∧ p ≤ M.names.length) ∧ ((∃ p ∈ qs, M.Run p (ws.drop i)) ↔ M.Run 0 ws) ∧ m "state" = some (.ref sa) ∧ m "self" = some (.ref au))
    ok'.hh C3 (C3.atg hls) ⟨sa, _, [0], rfl, .cons _ _ .nil, by simp, by simp, rfl, rfl⟩ (fun i m led h j c => c.atg hls) ?_ ?_
  · rintro i v m₁ led₁ h₄ tk₄ I hv ⟨sa, us, qs, rfl, hui, hq, hrun, hstate, hself⟩ C₁
    obtain ⟨c, t, hn, rfl⟩ := strs_get' hsi hv
    walk_at "go"
    refine step_spec (C₁.st Sg) (by walk_at "room") (U.keep C₁.F.keep) (C₁.ata (by walk_at "mem")) hui hq fun h5 tk5 b us' qs' x hb hbt hui' nd' hq' => ?_
    have C5 := C₁.made (C₁.pass x) rfl hbt hb
    have hd' : ws.drop i = c :: ws.drop (i + 1) := by
      have hlt : i < ws.length := by
        rcases Nat.lt_or_ge i ws.length with q | q
        · exact q
        · rw [List.getElem?_eq_none q] at hn; cases hn
      rw [List.drop_eq_getElem_cons hlt]
      rw [List.getElem?_eq_getElem hlt] at hn
      rw [Option.some.inj hn]
    have hrun' : (∃ p ∈ qs', M.Run p (ws.drop (i + 1))) ↔ M.Run 0 ws := by
      rw [← hrun, hd']
      constructor
      · rintro ⟨z, hz, r⟩
        obtain ⟨p, hp, hb, hc⟩ := (hq' z).mp hz
        exact ⟨p, hp, z, hb, hc, r⟩
      · rintro ⟨p, hp, z, hb, hc, r⟩
        exact ⟨z, (hq' z).mpr ⟨p, hp, hb, hc⟩, r⟩
    walk_at "go"
    · rename_i h6 C6 h7 e7 C7 hc
      refine k _ _ false (C7.ext (led₀ := []) eg rfl) ?_
      rw [← hrun']
      subst hc
      cases hui'
      simp
    · rename_i h6 C6 h7 e7 C7 hc
      refine turn_next (C7.drop.swap.sub (List.Sublist.cons₂ _ (List.Sublist.cons₂ _ (List.nil_sublist _)))) ⟨b, us', qs', rfl, hui', fun z hz => ?_, hrun', by walk_at "look", by walk_at "look"⟩
      obtain ⟨p, _, hb', _⟩ := (hq' z).mp hz
      have := beh_in U hb'
      omega
  · rintro m₁ led₁ h₄ tk₄ ⟨sa, us, qs, rfl, hui, hq, hrun, hstate, hself⟩ C₂
    rw [strs_len hsi, List.drop_length] at hrun
    walk_at "go"
    refine is_end_spec (C₂.st Sg) (by walk_at "room") (U.keep C₂.F.keep) (C₂.ata (.head _)) hui fun h5 tk5 x => ?_
    walk_at "go"
    refine k _ _ _ ((C₂.pass x).ext (led₀ := []) eg rfl) ?_
    rw [← hrun, List.any_eq_true]
    exact Iff.rfl
end
section
set_option autoImplicit false
/-- a particle -/
inductive Pt where
  | name (c mk : Str)
  | seq (ps : List Pt) (mk : Str)
  | choice (ps : List Pt) (mk : Str)
def Pt.mark : Pt → Str
  | .name _ mk => mk
  | .seq _ mk => mk
  | .choice _ mk => mk
/-- the closure by a mark, as the law tries it -/
inductive Rep (O : List Str → Prop) (mk : Str) : List Str → Prop
  | nil : mk = "?" ∨ mk = "*" → Rep O mk []
  | one {ws : List Str} : O ws → Rep O mk ws
  | more {ws : List Str} {i : Nat} : ¬ (mk = "" ∨ mk = "?") → 1 ≤ i → i < ws.length → O (ws.take i) → Rep O mk (ws.drop i) → Rep O mk ws
mutual
def Once : Pt → List Str → Prop
  | .name c _, ws => ws = [c]
  | .seq ps _, ws => RowFits ps ws
  | .choice ps _, ws => AnyFits ps ws
def AnyFits : List Pt → List Str → Prop
  | [], _ => False
  | p :: ps, ws => Rep (Once p) p.mark ws ∨ AnyFits ps ws
def RowFits : List Pt → List Str → Prop
  | [], ws => ws = []
  | p :: ps, ws => ∃ i, i ≤ ws.length ∧ Rep (Once p) p.mark (ws.take i) ∧ RowFits ps (ws.drop i)
end
def Fits (p : Pt) (ws : List Str) : Prop := Rep (Once p) p.mark ws
theorem fits_iff (p : Pt) (ws : List Str) : Fits p ws ↔ (ws = [] ∧ (p.mark = "?" ∨ p.mark = "*")) ∨ Once p ws ∨ (¬ (p.mark = "" ∨ p.mark = "?") ∧ ∃ i, 1 ≤ i ∧ i < ws.length ∧ Once p (ws.take i) ∧ Fits p (ws.drop i)) := by
  constructor
  · intro h
    cases h with
    | nil h => exact .inl ⟨rfl, h⟩
    | one h => exact .inr (.inl h)
    | more h1 h2 h3 h4 h5 => exact .inr (.inr ⟨h1, _, h2, h3, h4, h5⟩)
  · rintro (⟨rfl, h⟩ | h | ⟨h1, i, h2, h3, h4, h5⟩)
    · exact .nil h
    · exact .one h
    · exact .more h1 h2 h3 h4 h5
theorem anyFits_iff (ps : List Pt) (ws : List Str) : AnyFits ps ws ↔ ∃ p ∈ ps, Fits p ws := by
  induction ps with
  | nil => simp [AnyFits]
  | cons p ps ih =>
    rw [AnyFits, ih]
    constructor
    · rintro (h | ⟨q, hq, h⟩)
      · exact ⟨p, .head _, h⟩
      · exact ⟨q, .tail _ hq, h⟩
    · rintro ⟨q, hq, h⟩
      rcases List.mem_cons.mp hq with rfl | hq
      · exact .inl h
      · exact .inr ⟨q, hq, h⟩
-- how deep the calls go
mutual
def deepO : Pt → Nat
  | .name _ _ => 5
  | .seq ps _ => 1 + deepR ps
  | .choice ps _ => 1 + deepR ps
def deepR : List Pt → Nat
  | [] => 5
  | p :: ps => 25 + deepO p + deepR ps
end
theorem deepR_mem {p : Pt} : ∀ {ps : List Pt}, p ∈ ps → deepO p + 25 ≤ deepR ps
  | q :: ps, h => by
    rw [deepR]
    rcases List.mem_cons.mp h with rfl | h
    · omega
    · have := deepR_mem h; omega
-- how many particles stand in it
mutual
def size : Pt → Nat
  | .name _ _ => 1
  | .seq ps _ => 1 + sizes ps
  | .choice ps _ => 1 + sizes ps
def sizes : List Pt → Nat
  | [] => 0
  | p :: ps => size p + sizes ps
end
theorem sizes_mem {p : Pt} : ∀ {ps : List Pt}, p ∈ ps → size p ≤ sizes ps
  | q :: ps, h => by
    rw [sizes]
    rcases List.mem_cons.mp h with rfl | h
    · omega
    · have := sizes_mem h; omega
theorem induct {P : Pt → Prop} (n : ∀ c mk, P (.name c mk)) (s : ∀ ps mk, (∀ p ∈ ps, P p) → P (.seq ps mk)) (c : ∀ ps mk, (∀ p ∈ ps, P p) → P (.choice ps mk)) : ∀ p, P p := by
  have : ∀ k p, size p ≤ k → P p := by
    intro k
    induction k with
    | zero => intro p h; cases p <;> simp only [size] at h <;> omega
    | succ k ih =>
      intro p h
      cases p with
      | name a b => exact n a b
      | seq ps mk => exact s ps mk fun q hq => ih q (by have := sizes_mem hq; simp only [size] at h; omega)
      | choice ps mk => exact c ps mk fun q hq => ih q (by have := sizes_mem hq; simp only [size] at h; omega)
  exact fun p => this _ p (Nat.le_refl _)
end
/-- the heap bears a particle -/
inductive PV (h : Heap) : Value → Pt → Prop
  | name {a : Addr} {t1 t2 t3 : Tok} {c mk : Str} : At h a (isT [.str (Str.ofString "name") t1, .str c t2, .str mk t3]) → PV h (.ref a) (.name c mk)
  | seq {a b : Addr} {t1 t3 : Tok} {mk : Str} {vs : List Value} {ps : List Pt} : At h a (isT [.str (Str.ofString "seq") t1, .ref b, .str mk t3]) → At h b (isT vs) → vs.length = ps.length →
      (∀ (i : Nat) (v : Value) (p : Pt), vs[i]? = some v → ps[i]? = some p → PV h v p) → PV h (.ref a) (.seq ps mk)
  | choice {a b : Addr} {t1 t3 : Tok} {mk : Str} {vs : List Value} {ps : List Pt} : At h a (isT [.str (Str.ofString "choice") t1, .ref b, .str mk t3]) → At h b (isT vs) → vs.length = ps.length →
      (∀ (i : Nat) (v : Value) (p : Pt), vs[i]? = some v → ps[i]? = some p → PV h v p) → PV h (.ref a) (.choice ps mk)
theorem PV.keepT {h h' : Heap} (k : ∀ b its, At h b (isT its) → At h' b (isT its)) {v : Value} {p : Pt} (x : PV h v p) : PV h' v p := by
  induction x with
  | name h1 => exact .name (k _ _ h1)
  | seq h1 h2 h3 _ ih => exact .seq (k _ _ h1) (k _ _ h2) h3 ih
  | choice h1 h2 h3 _ ih => exact .choice (k _ _ h1) (k _ _ h2) h3 ih
theorem PV.keep {h h' : Heap} {v : Value} {p : Pt} (x : PV h v p) (k : ∀ b o, h.get? b = some o → h'.get? b = some o) : PV h' v p := x.keepT fun _ _ q => q.keep k
def FitsSpec (p : Pt) : Prop := ∀ {w : World} {A : Around} {s : Shared} {h h₀ : Heap} {tk : Nat} {E : Value → Shared → Prop} {v : Value} {l : Addr} {ws : List Str} {Q : Value → Shared → Prop},
  St w h₀ h → ws.length ≤ 10 → Ok A (deepO p + 22) (3 * (deepO p + 22) + 20) → PV h v p → At h l (isS ws) →
  (∀ h' tk' b, Ext [] h h' → (b = true ↔ Fits p ws) → Q (.bool b) (stt s h' tk')) → wpAny (Md w) A (call (.ref 178) [v, .ref l]) Q E (stt s h tk)
def OnceSpec (p : Pt) : Prop := ∀ {w : World} {A : Around} {s : Shared} {h h₀ : Heap} {tk : Nat} {E : Value → Shared → Prop} {v : Value} {l : Addr} {ws : List Str} {Q : Value → Shared → Prop},
  St w h₀ h → ws.length ≤ 10 → Ok A (deepO p) (3 * deepO p + 20) → PV h v p → At h l (isS ws) →
  (∀ h' tk' b, Ext [] h h' → (b = true ↔ Once p ws) → Q (.bool b) (stt s h' tk')) → wpAny (Md w) A (call (.ref 164) [v, .ref l]) Q E (stt s h tk)
def RowSpec (ps : List Pt) : Prop := ∀ {w : World} {A : Around} {s : Shared} {h h₀ : Heap} {tk : Nat} {E : Value → Shared → Prop} {b : Addr} {vs : List Value} {l : Addr} {ws : List Str} {Q : Value → Shared → Prop},
  St w h₀ h → ws.length ≤ 10 → Ok A (deepR ps) (3 * deepR ps + 20) → At h b (isT vs) → vs.length = ps.length → vs.length ≤ 1000 → (∀ (i : Nat) (v : Value) (p : Pt), vs[i]? = some v → ps[i]? = some p → PV h v p) → At h l (isS ws) →
  (∀ h' tk' b, Ext [] h h' → (b = true ↔ RowFits ps ws) → Q (.bool b) (stt s h' tk')) → wpAny (Md w) A (call (.ref 171) [.ref b, .ref l]) Q E (stt s h tk)
theorem once_name {c mk : Str} : OnceSpec (.name c mk) := by
  intro w A s h h₀ tk E v l ws Q S hlen ok hv hl k
  cases hv with
  | @name a t1 t2 t3 _ _ ha =>
  simp only [deepO] at ok
  refine' enterC (d := 4) (u := 32) (binds := [(Str.ofString "particle", .ref a), (Str.ofString "names", .ref l)]) [] S (fun _ hp => nomatch hp) (by simp) ok ?ho ?hcd ?hb ?hl ?_ ?c2 ?c3 ?c4 ?c5
  walk_at "enter"
  intro g h₁ tk₁ A' l' eg W ok' fr C
  have Sg : St w h₀ g := S.of_hide [] (by simp) eg
  have eg' : g = h := eg
  rw [← eg'] at ha hl
  walk_at "go"
  rename_i h2 e C2
  refine k _ _ _ (C2.ext (led₀ := []) eg rfl) ?_
  simp [Once]
theorem once_choice {ps : List Pt} {mk : Str} (ih : ∀ p ∈ ps, FitsSpec p) : OnceSpec (.choice ps mk) := by
  intro w A s h h₀ tk E v l ws Q S hlen ok hv hl k
  cases hv with
  | @choice a b t1 t3 _ vs _ ha hb hlen2 hps =>
  simp only [deepO] at ok
  refine' enterC (d := deepR ps) (u := 3 * deepR ps + 20) (binds := [(Str.ofString "particle", .ref a), (Str.ofString "names", .ref l)]) [] S (fun _ hp => nomatch hp) (by simp) (ok.mono (by omega) (by omega)) ?ho ?hcd ?hb ?hl ?_ ?c2 ?c3 ?c4 ?c5
  walk_at "enter"
  intro g h₁ tk₁ A' l' eg W ok' fr C
  have Sg : St w h₀ g := S.of_hide [] (by simp) eg
  have eg' : g = h := eg
  rw [← eg'] at ha hl hb hps
  walk_at "go"
  refine for_tup (l := b) (its := vs) (fun i m led => led = [] ∧ (∀ p ∈ ps.take i, ¬ Fits p ws) ∧ m "names" = some (.ref l)) ok'.hh C (C.atg hb) ⟨rfl, by simp, rfl⟩ (fun i m led h j c => c.atg hb) ?_ ?_
  · rintro i v m₁ led₁ h₂ tk₂ I hv ⟨rfl, hno, hnames⟩ C₁
    have hlt : i < ps.length := by
      rw [← hlen2]
      rcases Nat.lt_or_ge i vs.length with q | q
      · exact q
      · rw [List.getElem?_eq_none q] at hv; cases hv
    have hp := hps i v ps[i] hv (List.getElem?_eq_getElem hlt)
    have ht : ps.take (i + 1) = ps.take i ++ [ps[i]] := by rw [List.take_add_one, List.getElem?_eq_getElem hlt]; rfl
    have hmem : ps[i] ∈ ps := List.getElem_mem hlt
    have hde := deepR_mem hmem
    walk_at "go"
    refine ih _ hmem (C₁.st Sg) hlen (by walk_at "room") (hp.keep C₁.F.keep) (C₁.atg hl) fun h3 tk3 b3 x3 hb3 => ?_
    have C3 := C₁.pass x3
    walk_at "go"
    · rename_i hc
      refine k _ _ true (C3.ext (led₀ := []) eg rfl) ?_
      simp only [Once, anyFits_iff, true_iff]
      exact ⟨_, hmem, hb3.mp hc⟩
    · rename_i hc
      refine turn_next C3 ⟨rfl, fun p hp' => ?_, by walk_at "look"⟩
      rw [ht] at hp'
      rcases List.mem_append.mp hp' with q | q
      · exact hno p q
      · rw [List.mem_singleton.mp q]; exact fun f => by rw [hb3.mpr f] at hc; cases hc
  · rintro m₁ led₁ h₂ tk₂ ⟨rfl, hno, hnames⟩ C₂
    rw [hlen2, List.take_length] at hno
    walk_at "go"
    refine k _ _ false (C₂.ext (led₀ := []) eg rfl) ?_
    simp only [Once, anyFits_iff, Bool.false_eq_true, false_iff]
    rintro ⟨p, hp, f⟩
    exact hno p hp f
theorem once_seq {ps : List Pt} {mk : Str} (hs : ps.length ≤ 1000) (ih : RowSpec ps) : OnceSpec (.seq ps mk) := by
  intro w A s h h₀ tk E v l ws Q S hlen ok hv hl k
  cases hv with
  | @seq a b t1 t3 _ vs _ ha hb hlen2 hps =>
  simp only [deepO] at ok
  refine' enterC (d := deepR ps) (u := 3 * deepR ps + 20) (binds := [(Str.ofString "particle", .ref a), (Str.ofString "names", .ref l)]) [] S (fun _ hp => nomatch hp) (by simp) (ok.mono (by omega) (by omega)) ?ho ?hcd ?hb ?hl ?_ ?c2 ?c3 ?c4 ?c5
  walk_at "enter"
  intro g h₁ tk₁ A' l' eg W ok' fr C
  have Sg : St w h₀ g := S.of_hide [] (by simp) eg
  have eg' : g = h := eg
  rw [← eg'] at ha hl hb hps
  walk_at "go"
  refine ih (C.st Sg) hlen ok' (C.atg hb) hlen2 (by omega) (fun i v p h1 h2 => (hps i v p h1 h2).keep C.F.keep) (C.atg hl) fun h3 tk3 b3 x3 hb3 => ?_
  walk_at "go"
  refine k _ _ _ ((C.pass x3).ext (led₀ := []) eg rfl) ?_
  rw [hb3, Once]
theorem PV.mark {h : Heap} {a : Addr} {p : Pt} (x : PV h (.ref a) p) : ∃ v0 v1 t, At h a (isT [v0, v1, .str p.mark t]) := by
  cases x with
  | name h => exact ⟨_, _, _, h⟩
  | seq h => exact ⟨_, _, _, h⟩
  | choice h => exact ⟨_, _, _, h⟩
theorem PV.ref {h : Heap} {v : Value} {p : Pt} (x : PV h v p) : ∃ a, v = .ref a := by cases x <;> exact ⟨_, rfl⟩
/-- where the ways of a test meet again -/
def JoinC {g : Heap} {L : Addr} {m : Str → Option Value} {led : List (Addr × (Obj → Prop))} {h : Heap} (_ : Cx g L m led h) (s : Shared) (P : Bool → Prop) (b : Bool) (s' : Shared) : Prop := ∃ h' tk', s' = stt s h' tk' ∧ Cx g L m [] h' ∧ P b
theorem x_ifj {w : World} {A : Around} {env : Env} {test : Expr} {body orelse : List Stmt} {pos : Pos} {Q : Flow → Shared → Prop} {E : Value → Shared → Prop} {st : Shared} (J : Bool → Shared → Prop) (k : wpAny (Md w) A (isTrue test env (eval test env)) J E st)
    (t : ∀ s₂, J true s₂ → wpAny (Md w) A (execs body env) Q E s₂) (f : ∀ s₂, J false s₂ → wpAny (Md w) A (execs orelse env) Q E s₂) : wpAny (Md w) A (exec (.If test body orelse pos) env) Q E st :=
  x_if (wpAny_mono k (fun b s₂ j => ⟨fun e => t s₂ (e ▸ j), fun e => f s₂ (e ▸ j)⟩) fun _ _ x => x)
theorem fits_of_once {p : Pt} (ih : OnceSpec p) : FitsSpec p := by
  have key : ∀ (n : Nat) {w : World} {A : Around} {s : Shared} {h h₀ : Heap} {tk : Nat} {E : Value → Shared → Prop} {v : Value} {l : Addr} {ws : List Str} {Q : Value → Shared → Prop},
      ws.length < n → St w h₀ h → ws.length ≤ 10 → Ok A (deepO p + 2 + 2 * ws.length) (3 * (deepO p + 2 + 2 * ws.length) + 20) → PV h v p → At h l (isS ws) →
      (∀ h' tk' b, Ext [] h h' → (b = true ↔ Fits p ws) → Q (.bool b) (stt s h' tk')) → wpAny (Md w) A (call (.ref 178) [v, .ref l]) Q E (stt s h tk) := by
    intro n
    induction n with
    | zero => intro w A s h h₀ tk E v l ws Q hn; exact absurd hn (Nat.not_lt_zero _)
    | succ n IH =>
      intro w A s h h₀ tk E v l ws Q hn S hlen ok hv hl k
      obtain ⟨a, rfl⟩ := hv.ref
      refine' enterC (d := deepO p + 1 + 2 * ws.length) (u := 3 * (deepO p + 1 + 2 * ws.length) + 20) (binds := [(Str.ofString "particle", .ref a), (Str.ofString "names", .ref l)]) [] S (fun _ hp => nomatch hp) (by simp) (ok.mono (by omega) (by omega)) ?ho ?hcd ?hb ?hl ?_ ?c2 ?c3 ?c4 ?c5
      walk_at "enter"
      intro g h₁ tk₁ A' l' eg W ok' fr C
      have Sg : St w h₀ g := S.of_hide [] (by simp) eg
      have eg' : g = h := eg
      rw [← eg'] at hv hl
      obtain ⟨v0, v1, t, ha⟩ := hv.mark
      obtain ⟨vs, hls, hsi⟩ := hl.strs
      repeat' ((fail_if_success with_reducible refine x_if ?_); walk_at "s")
      rename Cx _ _ _ _ _ => CI
      refine x_ifj (JoinC CI s fun b => b = true ↔ ws = [] ∧ (p.mark = "?" ∨ p.mark = "*")) ?_ ?_ ?_
      · walk_at "go"
        · rename_i hc1 _ _ C9 hc2
          exact ⟨_, _, rfl, C9.nil, fun _ => ⟨of_decide_eq_true hc1, by simpa using hc2⟩, fun _ => rfl⟩
        · rename_i hc1 _ _ C9 hc2
          exact ⟨_, _, rfl, C9.nil, fun q => Bool.noConfusion q, fun q => absurd q.2 (by simpa using hc2)⟩
        · rename_i _ _ C9 hc1
          exact ⟨_, _, rfl, C9.nil, fun q => Bool.noConfusion q, fun q => absurd q.1 (by simpa using hc1)⟩
      · rintro _ ⟨h2, tk2, rfl, C2, hc2⟩
        walk_at "go"
        refine k _ _ true (C2.ext (led₀ := []) eg rfl) ?_
        simp only [true_iff]
        rw [fits_iff]
        exact .inl (hc2.mp rfl)
      rintro _ ⟨h2, tk2, rfl, C2, hc2⟩
      have hno : ¬ (ws = [] ∧ (p.mark = "?" ∨ p.mark = "*")) := fun q => Bool.noConfusion (hc2.mpr q)
      walk_at "go"
      refine ih (C2.st Sg) hlen (by walk_at "room") (hv.keep C2.F.keep) (C2.atg hl) fun h3 tk3 b3 x3 hb3 => ?_
      have C3 := C2.pass x3
      walk_at "go"
      · rename_i hc
        refine k _ _ true (C3.ext (led₀ := []) eg rfl) ?_
        simp only [true_iff]
        rw [fits_iff]
        exact .inr (.inl (hb3.mp hc))
      · rename_i hc1 _ _ _ hc2
        refine k _ _ false (Cx.ext (led₀ := []) (by assumption) eg rfl) ?_
        simp only [Bool.false_eq_true, false_iff]
        rw [fits_iff]
        rintro (q | q | ⟨q, _⟩)
        · exact hno q
        · rw [hb3.mpr q] at hc1; cases hc1
        · exact q (by simpa using hc2)
      · rename_i hc1 h4 e4 C4 hc2
        refine b_len (C4.atg hls).list (by rw [strs_len hsi, sizeLine_eq]; omega) ?_
        walk_at "go"
        refine b_range2 C4 fun h5 r hr C5 => ?_
        walk_at "go"
        have hvl := strs_len hsi
        refine for_range (a := 1) (n := ws.length - 1) (fun i m led => led = [] ∧ (∀ j, j < i → ¬ (Once p (ws.take (j + 1)) ∧ Fits p (ws.drop (j + 1)))) ∧ m "particle" = some (.ref a) ∧ m "names" = some (.ref l)) ok'.hh C5.nil hr
          (by split <;> omega) (by omega) (by omega) ⟨rfl, by simp, rfl, rfl⟩ ?_ ?_
        · rintro i t6 m₁ led₁ h6 tk6 I hi ⟨rfl, hno2, hpa, hna⟩ C6
          walk_at "go"
          refine sl_upto' (i + 1) (by omega) C6 (C6.atg hl) (by omega) fun h7 b7 C7 => ?_
          walk_at "go"
          refine ih (C7.st Sg) (by rw [List.length_take]; omega) (by walk_at "room") (hv.keep C7.F.keep) (C7.ata (.head _)) fun h8 tk8 b8 x8 hb8 => ?_
          have C8 := C7.pass x8
          walk_at "go"
          · refine sl_from' (i + 1) (by omega) C8 (C8.atg hl) (by omega) fun h9 b9 C9 => ?_
            walk_at "go"
            refine IH (by rw [List.length_drop]; omega) (C9.st Sg) (by rw [List.length_drop]; omega) (ok'.mono (by rw [List.length_drop]; omega) (by rw [List.length_drop]; omega)) (hv.keep C9.F.keep) (C9.ata (.head _)) fun hA tkA bA xA hbA => ?_
            have CA := C9.pass xA
            walk_at "go"
            · rename_i hc8 hcA
              refine k _ _ true (CA.ext (led₀ := []) eg rfl) ?_
              simp only [true_iff]
              rw [fits_iff]
              exact .inr (.inr ⟨fun q => hc2 (by simpa using q), i + 1, by omega, by omega, hb8.mp hc8, hbA.mp hcA⟩)
            · rename_i hc8 hcA
              refine turn_next CA.drop.drop ⟨rfl, fun j hj => ?_, by walk_at "look", by walk_at "look"⟩
              rcases Nat.lt_or_ge j i with q | q
              · exact hno2 j q
              · obtain rfl : j = i := by omega
                rintro ⟨_, q2⟩
                rw [hbA.mpr q2] at hcA; cases hcA
          · rename_i hc8
            refine turn_next C8.drop ⟨rfl, fun j hj => ?_, by walk_at "look", by walk_at "look"⟩
            rcases Nat.lt_or_ge j i with q | q
            · exact hno2 j q
            · obtain rfl : j = i := by omega
              rintro ⟨q1, _⟩
              rw [hb8.mpr q1] at hc8; cases hc8
        · rintro m₁ led₁ h6 tk6 ⟨rfl, hno2, hpa, hna⟩ C6
          walk_at "go"
          refine k _ _ false (C6.ext (led₀ := []) eg rfl) ?_
          simp only [Bool.false_eq_true, false_iff]
          rw [fits_iff]
          rintro (q | q | ⟨_, j, q1, q2, q3, q4⟩)
          · exact hno q
          · rw [hb3.mpr q] at hc1; cases hc1
          · exact hno2 (j - 1) (by omega) (by rw [show j - 1 + 1 = j by omega]; exact ⟨q3, q4⟩)
  intro w A s h h₀ tk E v l ws Q S hlen ok hv hl k
  exact key _ (Nat.lt_succ_self _) S hlen (ok.mono (by omega) (by omega)) hv hl k
theorem row_of : ∀ {ps : List Pt}, (∀ p ∈ ps, FitsSpec p) → RowSpec ps := by
  intro ps
  induction ps with
  | nil =>
    intro ih w A s h h₀ tk E b vs l ws Q S hlen ok hb hlen2 hsz hps hl k
    obtain rfl : vs = [] := List.eq_nil_of_length_eq_zero hlen2
    simp only [deepR] at ok
    refine' enterC (d := 4) (u := 32) (binds := [(Str.ofString "particles", .ref b), (Str.ofString "names", .ref l)]) [] S (fun _ hp => nomatch hp) (by simp) ok ?ho ?hcd ?hb ?hl ?_ ?c2 ?c3 ?c4 ?c5
    walk_at "enter"
    intro g h₁ tk₁ A' l' eg W ok' fr C
    have Sg : St w h₀ g := S.of_hide [] (by simp) eg
    have eg' : g = h := eg
    rw [← eg'] at hb hl hps
    walk_at "go"
    · rename Cx _ _ _ _ _ => C2
      refine k _ _ _ (C2.ext (led₀ := []) eg rfl) ?_
      simp [RowFits]
    · rename_i hc
      simp at hc
  | cons p ps IH =>
    intro ih w A s h h₀ tk E b vs l ws Q S hlen ok hb hlen2 hsz hps hl k
    cases vs with
    | nil => simp at hlen2
    | cons v0 vs =>
    simp only [deepR] at ok
    refine' enterC (d := 24 + deepO p + deepR ps) (u := 3 * (24 + deepO p + deepR ps) + 20) (binds := [(Str.ofString "particles", .ref b), (Str.ofString "names", .ref l)]) [] S (fun _ hp => nomatch hp) (by simp) (ok.mono (by omega) (by omega)) ?ho ?hcd ?hb ?hl ?_ ?c2 ?c3 ?c4 ?c5
    walk_at "enter"
    intro g h₁ tk₁ A' l' eg W ok' fr C
    have Sg : St w h₀ g := S.of_hide [] (by simp) eg
    have eg' : g = h := eg
    rw [← eg'] at hb hl hps
    obtain ⟨ns, hls, hsi⟩ := hl.strs
    walk_at "go"
    · exact absurd ‹v0 :: vs = []› (by simp)
    rename Cx _ _ _ _ _ => C2
    refine b_len (C2.atg hls).list (by rw [strs_len hsi, sizeLine_eq]; omega) ?_
    walk_at "go"
    refine b_range1 C2 fun h5 r hr C5 => ?_
    walk_at "go"
    have hvl := strs_len hsi
    have hv0 := hps 0 v0 p rfl rfl
    refine for_range (a := 0) (n := ws.length + 1) (fun i m led => led = [] ∧ (∀ j, j < i → ¬ (Fits p (ws.take j) ∧ RowFits ps (ws.drop j))) ∧ m "particles" = some (.ref b) ∧ m "names" = some (.ref l)) ok'.hh C5.nil hr
      (by split <;> omega) (by omega) (by omega) ⟨rfl, by simp, rfl, rfl⟩ ?_ ?_
    · rintro i t6 m₁ led₁ h6 tk6 I hi ⟨rfl, hno2, hpa, hna⟩ C6
      walk_at "go"
      refine sl_upto' i (by omega) C6 (C6.atg hl) (by omega) fun h7 b7 C7 => ?_
      walk_at "go"
      refine ih p (.head _) (C7.st Sg) (by rw [List.length_take]; omega) (by walk_at "room") (hv0.keep C7.F.keep) (C7.ata (.head _)) fun h8 tk8 b8 x8 hb8 => ?_
      have C8 := C7.pass x8
      walk_at "go"
      · refine i_tupFrom1 (h := h8) C8 (C8.atg hb) (by simp) (by omega) (fun h9 b9 C9 => ?_) (by with_unfolding_all rfl) (by intro _; with_unfolding_all rfl)
        walk_at "go"
        refine sl_from' i (by omega) C9 (C9.atg hl) (by omega) fun hA bA CA => ?_
        walk_at "go"
        refine IH (fun q hq => ih q (.tail _ hq)) (CA.st Sg) (by rw [List.length_drop]; omega) (ok'.mono (by omega) (by omega)) (CA.ata (by walk_at "mem")) (by simpa using hlen2) (by simp at hsz ⊢; omega) (fun j v q h1 h2 => (hps (j + 1) v q (by simpa using h1) (by simpa using h2)).keep CA.F.keep) (CA.ata (.head _)) fun hB tkB bB xB hbB => ?_
        have CB := CA.pass xB
        walk_at "go"
        · rename_i hc8 hcB
          refine k _ _ true (CB.ext (led₀ := []) eg rfl) ?_
          simp only [true_iff, RowFits]
          exact ⟨i, by omega, hb8.mp hc8, hbB.mp hcB⟩
        · rename_i hc8 hcB
          refine turn_next CB.drop.drop.drop ⟨rfl, fun j hj => ?_, by walk_at "look", by walk_at "look"⟩
          rcases Nat.lt_or_ge j i with q | q
          · exact hno2 j q
          · obtain rfl : j = i := by omega
            rintro ⟨_, q2⟩
            rw [hbB.mpr q2] at hcB; cases hcB
      · rename_i hc8
        refine turn_next C8.drop ⟨rfl, fun j hj => ?_, by walk_at "look", by walk_at "look"⟩
        rcases Nat.lt_or_ge j i with q | q
        · exact hno2 j q
        · obtain rfl : j = i := by omega
          rintro ⟨q1, _⟩
          rw [hb8.mpr q1] at hc8; cases hc8
    · rintro m₁ led₁ h6 tk6 ⟨rfl, hno2, hpa, hna⟩ C6
      walk_at "go"
      refine k _ _ false (C6.ext (led₀ := []) eg rfl) ?_
      simp only [Bool.false_eq_true, false_iff, RowFits]
      rintro ⟨i, q1, q2, q3⟩
      exact hno2 i (by omega) ⟨q2, q3⟩
theorem fitsAll : ∀ p : Pt, deepO p ≤ 500 → FitsSpec p := by
  have big : ∀ ps : List Pt, ps.length ≤ deepR ps := by
    intro ps
    induction ps with
    | nil => exact Nat.zero_le _
    | cons p ps ih => rw [deepR, List.length_cons]; omega
  refine @induct (fun p => deepO p ≤ 500 → FitsSpec p) (fun c mk _ => ?_) (fun ps mk ih h => ?_) (fun ps mk ih h => ?_)
  · exact @fits_of_once _ (@once_name c mk)
  · rw [deepO] at h
    have := big ps
    exact @fits_of_once _ (@once_seq ps mk (by omega) (@row_of ps fun p hp => ih p hp (by have := deepR_mem hp; omega)))
  · rw [deepO] at h
    exact @fits_of_once _ (@once_choice ps mk fun p hp => ih p hp (by have := deepR_mem hp; omega))
section
variable {w : World} {A : Around} {s : Shared} {h h₀ : Heap} {tk : Nat} {E : Value → Shared → Prop}
theorem bit01 : ∀ b : Bool, Builtin.Int.intBits (if b = true then 1 else 0) ≤ 64 := by decide +kernel
theorem pool_spec {sc : Addr} {vs : List Value} {ns : List Int} {Q : Value → Shared → Prop} (S : St w h₀ h) (ok : Ok A 300 50) (hsc : At h sc (isQ vs)) (hi : IntsAre vs ns) (hlen : ns.length ≤ 63)
    (k : ∀ h' tk' b, Ext [] h h' → h.get? b = none → At h' b isSrc → Q (.ref b) (stt s h' tk')) :
    wpAny (Md w) A (call (.ref 138) [.ref sc]) Q E (stt s h tk) := by
  refine' enterC (d := 299) (u := 47) (binds := [(Str.ofString "script", .ref sc)]) [] S (fun _ hp => nomatch hp) (by simp) ok ?ho ?hcd ?hb ?hl ?_ ?c2 ?c3 ?c4 ?c5
  walk_at "enter"
  intro g h₁ tk₁ A' l' eg W ok' fr C
  have Sg : St w h₀ g := S.of_hide [] (by simp) eg
  have eg' : g = h := eg
  rw [← eg'] at hsc
  have fin : ∀ {b h' tk' m x y t u}, Cx g h.objs.size m [(b, isL [.int x t, .int y u])] h' → Q (.ref b) (stt s h' tk') := fun {b h' tk' m x y t u} CZ =>
    k _ _ _ (CZ.ext (led₀ := []) eg rfl) (CZ.fresh (led₀ := []) eg (.head _) (by simp)) ((CZ.ata (.head _)).imp fun o q => ⟨_, _, _, _, isL_isQ _ q⟩)
  walk_at "go"
  refine b_len (by walk_at "ql") (by rw [ints_len hi, sizeLine_eq]; omega) ?_
  walk_at "go"
  · rename_i hc
    have hpos : 0 < vs.length := by omega
    obtain ⟨n, t, e1, e2⟩ := ints_get' hi (List.getElem?_eq_getElem hpos)
    refine i_list (i := 0) (x := .int n t) (by walk_at "ql") (by decide) (by decide) (by rw [← e2]; simp [hpos]) ?_ (by with_unfolding_all rfl)
    walk_at "go"
    refine b_max ok'.hh (by assumption) fun h5 tk5 t5 C5 => ?_
    walk_at "go"
    refine o_pow (by decide) (by decide +kernel) ?_
    walk_at "go"
    refine o_mul ?_ (IntMulOk.of_right (bit01 _))
    walk_at "go"
    exact fin (by assumption)
  · refine b_max ok'.hh (by assumption) fun h5 tk5 t5 C5 => ?_
    walk_at "go"
    refine o_pow (by decide) (by decide +kernel) ?_
    walk_at "go"
    exact fin (by assumption)
end
section
variable {w : World} {A : Around} {s : Shared} {h h' g : Heap} {L I a : Addr} {m m' : Str → Option Value} {led led' led₁ led₂ : List (Addr × (Obj → Prop))} {tk : Nat} {env : Env} {st : Shared}
theorem Cx.mades {ex : List (Addr × (Obj → Prop))} (C : Cx g L m led h) (C' : Cx g L m' led' h') (e : led'.map (·.1) = led.map (·.1)) (ha : ∀ p ∈ ex, At h' p.1 p.2 ∧ h.get? p.1 = none) (nd : (ex.map (·.1)).Nodup) : Cx g L m' (ex ++ led') h' := by
  induction ex with
  | nil => exact C'
  | cons p ex ih =>
    have nd := List.nodup_cons.mp nd
    have C2 := ih (fun q hq => ha q (.tail _ hq)) nd.2
    have ⟨h1, hn⟩ := ha p (.head _)
    refine C2.add h1 (fun q => ?_) ?_ ?_
    · obtain ⟨o, _, _, e, _⟩ := C.F.ns
      rw [← q, hn] at e; cases e
    · cases q : g.get? p.1 with
      | none => rfl
      | some o => have := C.F.keep _ _ q; rw [hn] at this; cases this
    · rw [List.map_append, List.mem_append]
      rintro (q | q)
      · exact nd.1 q
      · rw [e] at q
        obtain ⟨⟨b, R⟩, hb, eb⟩ := List.mem_map.mp q
        obtain ⟨o, e, _⟩ := C.here hb
        simp only at eb
        rw [eb, hn] at e; cases e
theorem comp_iterX {elt iter : Expr} {x : Str} {px : Pos} {ifs : List Expr} {scope : Scope} {cl : List (Str × Addr)} {pos : Pos} {Q : Value → Shared → Prop} {P : Nat → Obj → Prop} {n : Nat} {V : Nat → Value → Prop} {Src : Heap → Prop}
    (J : Nat → List Value → List (Addr × (Obj → Prop)) → Prop) (T : Iter w A I P n V Src) (C : Cx g L m ((I, P 0) :: (led₁ ++ led₂)) h)
    (self : ∀ (s₁ : Shared) (h₁ : Heap) (tk₁ : Nat) (Q₁ : Value → Shared → Prop) (E : Value → Shared → Prop), At h₁ I (P 0) → Q₁ (.ref I) (stt s₁ h₁ tk₁) → wpAny (Md w) A (pyIter (.ref I)) Q₁ E (stt s₁ h₁ tk₁))
    (hcell : ∀ y ∈ scope.names, y.2 ≠ .cell) (hkind : scope.kind = .function) (hx : scope.names.lookup x = some .local)
    (j0 : J 0 [] led₁) (adr : ∀ i ys l, J i ys l → ∃ ex l₀, l = ex ++ l₀ ∧ l₀.map (·.1) = led₁.map (·.1)) (len : ∀ i ys l, J i ys l → ys.length ≤ 1000)
    (src : ∀ i ys l h₁, J i ys l → (∀ b o, b ≠ I → b ∉ led₁.map (·.1) → h.get? b = some o → h₁.get? b = some o) → Src h₁)
    (turn : ∀ g' cC i v mC ys l h₁ tk₁ D, g' = hideAll h (((I, P 0) :: led₁).map (·.1)) → h.objs.size ≤ cC → i < n → V i v → J i ys l → mC x = some v → Cx g' cC mC ((I, P (i + 1)) :: (D, isL ys) :: l) h₁ →
      TestsThen w A (compEnvC scope cl cC env) ifs (wpAny (Md w) A (eval elt (compEnvC scope cl cC env)) (CompEl s g' cC I D (P (i + 1)) ys (J (i + 1))) Bad) (CompSkip s g' cC I D (P (i + 1)) ys (J (i + 1))) (stt s h₁ tk₁))
    (done : ∀ h' tk' D ys l, J n ys l → Cx g L m ((D, isL ys) :: (l ++ led₂)) h' → Q (.ref D) (stt s h' tk')) :
    wpAny (Md w) A (newList []) (fun acc s₃ => wpAny (Md w) A (newFunctionEnv scope env.globals cl [] env.qual none .none (some env)) (fun cenv s₄ =>
        codeAny (Md w) A (.compStart (.ListComp elt [⟨.Name x px, iter, ifs, 0⟩] scope pos) 0 (.ref I) acc { cenv with scope := relabel scope env }) (compPost (Md w) A Bad none Q acc cenv.locals) s₄) Bad s₃) Bad (stt s h tk) := by
  refine wpAny_newObj_type (wpAny_newFunctionEnv hcell (by intro y hy; simp at hy) (fun h₁ hns₁ hsb₁ => ?_) hkind)
  dsimp only at hns₁ hsb₁ ⊢
  generalize hH2 : h.push { cls := .type "list", dict := none, data := .seq ([] : List Value).toArray } = H2 at hns₁ hsb₁ ⊢
  have hC : H2.objs.size = h.objs.size + 1 := by rw [← hH2, Heap.size_push]
  generalize hcC : H2.objs.size = cC at hns₁ hsb₁ ⊢
  have hcD : cC = h.objs.size + 1 := hcC.symm.trans hC
  have old : ∀ b o, h.get? b = some o → h₁.get? b = some o := fun b o e => hsb₁.extBut b o (by rw [hcD]; exact Nat.ne_of_lt (Nat.lt_succ_of_lt (Heap.lt_size e))) (Heap.get?_push_of_some _ (hH2 ▸ Heap.get?_push_of_some _ e))
  have hacc : h₁.get? h.objs.size = some { cls := .type "list", dict := none, data := .seq ([] : List Value).toArray } := hsb₁.extBut _ _ (by rw [hcD]; exact Nat.ne_of_lt (Nat.lt_succ_self _)) (Heap.get?_push_of_some _ (hH2 ▸ Heap.get?_push_size _ rfl))
  -- the block's own frame
  have fresh : ∀ a, h.objs.size ≤ a → h.get? a = none := fun a ha => by
    cases e : h.get? a with
    | none => rfl
    | some o' => exact absurd (Heap.lt_size e) (Nat.not_lt.mpr ha)
  have nd0 := C.nd
  rw [List.map_cons, List.map_append] at nd0
  have nd1 : (I :: led₁.map (·.1)).Nodup := by
    have := List.nodup_cons.mp nd0
    exact List.nodup_cons.mpr ⟨fun q => this.1 (List.mem_append_left _ q), (List.nodup_append.mp this.2).1⟩
  have C1 : Cx (hideAll h (((I, P 0) :: led₁).map (·.1))) cC (fun y => ([] : List (Str × Value)).reverse.lookup y) ((I, P 0) :: (h.objs.size, isL []) :: led₁) h₁ := by
    refine ⟨⟨hns₁, fun b o e => old b o (of_hideAll _ e), by rw [hideAll_size, hcD]; exact Nat.le_succ _⟩, fun p hp => ?_, ?_⟩
    · have lt : ∀ a P', (a, P') ∈ ((I, P 0) :: (led₁ ++ led₂)) → a ≠ cC := fun a P' hm => Nat.ne_of_lt (by rw [hcD]; exact Nat.lt_succ_of_lt (C.lt hm))
      rcases List.mem_cons.mp hp with rfl | hp
      · obtain ⟨o, e, q⟩ := C.here (.head _)
        exact ⟨lt I _ (.head _), hideAll_none _ (by simp), o, old _ _ e, q⟩
      · rcases List.mem_cons.mp hp with rfl | hp
        · refine ⟨Nat.ne_of_lt (by rw [hcD]; exact Nat.lt_succ_self _), ?_, _, hacc, 0, rfl⟩
          cases q : (hideAll h (((I, P 0) :: led₁).map (·.1))).get? h.objs.size with
          | none => rfl
          | some o => have := of_hideAll _ q; rw [fresh _ (Nat.le_refl _)] at this; cases this
        · have hm : (p.1, p.2) ∈ ((I, P 0) :: (led₁ ++ led₂)) := .tail _ (List.mem_append_left _ hp)
          obtain ⟨o, e, q⟩ := C.here hm
          exact ⟨lt _ _ hm, hideAll_none _ (List.mem_map_of_mem (.tail _ hp)), o, old _ _ e, q⟩
    · rw [List.map_cons, List.map_cons]
      have n1 := List.nodup_cons.mp nd1
      refine List.nodup_cons.mpr ⟨fun q => ?_, List.nodup_cons.mpr ⟨fun q => ?_, n1.2⟩⟩
      · rcases List.mem_cons.mp q with q | q
        · exact Nat.lt_irrefl _ (Nat.lt_of_le_of_lt (Nat.le_of_eq (Eq.symm q)) (C.lt (.head _)))
        · exact n1.1 q
      · obtain ⟨⟨b, R⟩, hb, eb⟩ := List.mem_map.mp q
        obtain rfl : b = h.objs.size := eb
        exact absurd (C.lt (.tail _ (List.mem_append_left _ hb))) (Nat.lt_irrefl _)
  have loop : ∀ tk₁, codeAny (Md w) A (.compLoop (.ListComp elt [⟨.Name x px, iter, ifs, 0⟩] scope pos) 0 (.ref I) (.ref h.objs.size) (compEnvC scope cl cC env)) (compPost (Md w) A Bad none Q (.ref h.objs.size) cC) (stt s h₁ tk₁) := by
    intro tk₁
    refine codeAny_compLoop_tests (fun k s' => ∃ i mC ys l h₂ tk₂, s' = stt s h₂ tk₂ ∧ i ≤ n ∧ k = n - i ∧ Cx (hideAll h (((I, P 0) :: led₁).map (·.1))) cC mC ((I, P i) :: (h.objs.size, isL ys) :: l) h₂ ∧ J i ys l) (fun k s' hI => ?_) n ⟨0, _, [], led₁, h₁, tk₁, rfl, Nat.zero_le _, rfl, C1, j0⟩
    obtain ⟨i, mC, ys, l, h₂, tk₂, rfl, hin, rfl, C2, j⟩ := hI
    have keepI : ∀ b o, b ≠ I → b ∉ led₁.map (·.1) → h.get? b = some o → h₂.get? b = some o := fun b o b1 b2 e => C2.F.keep b o (hideAll_get _ e (by simp only [List.map_cons, List.mem_cons, not_or]; exact ⟨b1, b2⟩))
    have sc₁ := src i ys l h₂ j keepI
    rcases Nat.lt_or_ge i n with hlt | hge
    · refine T.item i s h₂ tk₂ _ _ hlt (C2.here (.head _)) sc₁ fun h3 tk3 v hv hI k => ?_
      have C3 := C2.set k hI
      dsimp only
      refine wpAny_assign_Name ?_
      refine r_st (env := compEnvC scope cl cC env) C3 (fun h4 C4 => ?_) rfl hkind (lookup_relabel_local hx)
      refine wpAny_mono (turn _ cC i v _ ys l h4 _ h.objs.size rfl (by rw [hcD]; exact Nat.le_succ _) hlt hv j upd_self C4) (fun ok s₃ hT => ?_) (fun _ _ e => e.elim)
      cases ok with
      | true =>
        rw [if_pos rfl]
        refine wpAny_mono (hT.1 rfl) (fun y s₄ hy => ?_) (fun _ _ e => e.elim)
        obtain ⟨h5, tk5, m5, led5, rfl, C5, j5⟩ := hy
        have hl5 : ys.length ≤ 1000 := len i ys l j
        refine d_append (C5.swap) (fun h6 C6 => ?_) (by rw [sizeLine_eq]; omega)
        exact ⟨n - (i + 1), Nat.sub_lt_sub_left hlt (Nat.lt_succ_self i), i + 1, m5, _, led5, h6, tk5, rfl, hlt, rfl, C6.swap, j5⟩
      | false =>
        rw [if_neg (by simp)]
        obtain ⟨h5, tk5, m5, led5, rfl, C5, j5⟩ := hT.2 rfl
        exact ⟨n - (i + 1), Nat.sub_lt_sub_left hlt (Nat.lt_succ_self i), i + 1, m5, _, led5, h5, tk5, rfl, hlt, rfl, C5, j5⟩
    · obtain rfl : i = n := Nat.le_antisymm hin hge
      refine T.done s h₂ tk₂ _ _ (C2.here (.head _)) sc₁ fun h3 tk3 k => ?_
      have neI : ∀ p ∈ ((h.objs.size, isL ys) :: l), p.1 ≠ I := fun p hp q => (List.nodup_cons.mp C2.nd).1 (List.mem_map.mpr ⟨p, hp, q⟩)
      obtain ⟨oC, esC, epC, hCC, rC⟩ := C2.F.ns
      refine ⟨mC, ⟨oC, esC, epC, k _ _ (Ne.symm (C2.at_ _ (.head _)).1) hCC, rC⟩, fun h4 hs4 => ?_⟩
      have up : ∀ p ∈ ((h.objs.size, isL ys) :: l), At h4 p.1 p.2 := fun p hp => by
        obtain ⟨q1, _, o, q3, q4⟩ := C2.at_ p (.tail _ hp)
        exact ⟨o, hs4.extBut _ _ q1 (k _ _ (neI p hp) q3), q4⟩
      have x : Ext (I :: led₁.map (·.1)) h h4 := by
        refine ⟨fun b o hb e => ?_, ?_⟩
        · simp only [List.mem_cons, not_or] at hb
          exact hs4.extBut _ _ (by rw [hcD]; exact Nat.ne_of_lt (Nat.lt_succ_of_lt (Heap.lt_size e))) (k _ _ hb.1 (keepI b o hb.1 hb.2 e))
        · exact Nat.le_of_lt ((up _ (.head _)).lt)
      obtain ⟨ex, l₀, hl, hl₀⟩ := adr _ _ _ j
      have C5₀ : Cx g L m (l₀ ++ led₂) h4 := by
        refine (C.drop).behindX x (fun a ha => ?_) hl₀ fun p hp => up p (.tail _ (hl ▸ List.mem_append_right _ hp))
        rcases List.mem_cons.mp ha with rfl | ha
        · have n0 := List.nodup_cons.mp nd0
          exact ⟨(C.at_ _ (.head _)).1, (C.at_ _ (.head _)).2.1, fun q => n0.1 (List.mem_append_right _ q)⟩
        · obtain ⟨p, hp, rfl⟩ := List.mem_map.mp ha
          have n0 := (List.nodup_append.mp (List.nodup_cons.mp nd0).2).2.2
          have q := C.at_ p (.tail _ (List.mem_append_left _ hp))
          exact ⟨q.1, q.2.1, fun r => n0 _ (List.mem_map_of_mem hp) _ r rfl⟩
      have nd2 := C2.nd
      rw [hl, List.map_cons, List.map_cons, List.map_append] at nd2
      have ndI := List.nodup_cons.mp nd2
      have ndD := List.nodup_cons.mp ndI.2
      have ndE := List.nodup_append.mp ndD.2
      have C5 : Cx g L m (((h.objs.size, isL ys) :: ex) ++ (l₀ ++ led₂)) h4 := by
        refine C.drop.mades C5₀ (by rw [List.map_append, List.map_append, hl₀]) (fun p hp => ?_) ?_
        · refine ⟨up p (by rw [hl]; rcases List.mem_cons.mp hp with rfl | hp; exact .head _; exact .tail _ (List.mem_append_left _ hp)), ?_⟩
          rcases List.mem_cons.mp hp with rfl | hp
          · exact fresh _ (Nat.le_refl _)
          · have q := (C2.at_ p (.tail _ (.tail _ (by rw [hl]; exact List.mem_append_left _ hp)))).2.1
            cases e : h.get? p.1 with
            | none => rfl
            | some o =>
              rw [hideAll_get _ e] at q
              · cases q
              · simp only [List.map_cons, List.mem_cons, not_or]
                refine ⟨fun r => ndI.1 (.tail _ (List.mem_append_left _ (List.mem_map.mpr ⟨p, hp, r⟩))), fun r => ?_⟩
                rw [← hl₀] at r
                exact ndE.2.2 _ (List.mem_map_of_mem hp) _ r rfl
        · rw [List.map_cons]
          exact List.nodup_cons.mpr ⟨fun q => ndD.1 (List.mem_append_left _ q), ndE.1⟩
      refine done h4 tk3 h.objs.size ys l j ?_
      rw [hl]; simpa using C5
  exact codeAny_compStart_list (loop _) (self s h₁ _ _ _ (C1.ata (.head _)) (loop _))
theorem comp_rangeX {elt iter : Expr} {x : Str} {px : Pos} {ifs : List Expr} {scope : Scope} {cl : List (Str × Addr)} {pos : Pos} {Q : Value → Shared → Prop} {r : Addr} {n : Nat} {nI : Int}
    (J : Nat → List Value → List (Addr × (Obj → Prop)) → Prop) (hh : A.handled = none) (C : Cx g L m (led₁ ++ led₂) h) (hr : ∃ t u v, IsRange h r 0 nI 1 t u v) (hnI : nI = n) (hn : n ≤ 1000)
    (j0 : J 0 [] led₁) (adr : ∀ i ys l, J i ys l → ∃ ex l₀, l = ex ++ l₀ ∧ l₀.map (·.1) = led₁.map (·.1)) (len : ∀ i ys l, J i ys l → ys.length ≤ 1000)
    (turn : ∀ g' cC i mC ys l' h₁ tk₁ D I, (∀ b o, b ∉ led₁.map (·.1) → h.get? b = some o → g'.get? b = some o) → (∀ b o, g'.get? b = some o → b ∉ led₁.map (·.1)) → i < n → J i ys l' → Cx g' cC mC ((I, isRI 0 n (i + 1)) :: (D, isL ys) :: l') h₁ →
      TestsThen w A (compEnvC scope cl cC env) ifs (wpAny (Md w) A (eval elt (compEnvC scope cl cC env)) (CompEl s g' cC I D (isRI 0 n (i + 1)) ys (J (i + 1))) Bad) (CompSkip s g' cC I D (isRI 0 n (i + 1)) ys (J (i + 1))) (stt s h₁ tk₁))
    (done : ∀ h' tk' D ys l, J n ys l → Cx g L m ((D, isL ys) :: (l ++ led₂)) h' → Q (.ref D) (stt s h' tk'))
    (hcell : ∀ y ∈ scope.names, y.2 ≠ .cell) (hkind : scope.kind = .function) (hx : scope.names.lookup x = some .local) :
    CompAt w A env elt iter x px ifs scope pos cl Q (.ref r) (stt s h tk) := by
  obtain ⟨t, u, v, hr⟩ := hr
  subst hnI
  refine wpAny_pyIter_range (s := stt s h tk) hr (small_one (by omega) (by omega) (by omega) (by omega)) ?_
  have e0 : Builtin.Range.rangeSize 0 (n : Int) 1 = (n : Int) := by rw [rangeSize_one]; split <;> omega
  rw [e0]
  have C' : Cx g L m ((h.objs.size, isRI 0 n 0) :: (led₁ ++ led₂)) (h.push { cls := .type "range_iterator", data := .fields #[rawInt 0, rawInt n, rawInt 1] }) := C.new (fun _ _ e => Heap.get?_push_of_some _ e) (Nat.le_refl _) (push_at h _ rfl (by unfold isRI; simp))
  refine comp_iterX (s := s) (h := h.push _) J (iter_range hh) C' (fun s₁ h₁ tk₁ Q₁ E hI hQ => ?_) hcell hkind hx j0 adr len
    (fun i ys l h₁ j k => trivial) (fun g' cC i v mC ys l' h₁ tk₁ D eg _ hi hv j hm c => turn g' cC i mC ys l' h₁ tk₁ D _ (fun b o hb e => ?_) (fun b o e => ?_) hi j c) done
  · obtain ⟨o, e, rfl⟩ := hI
    exact wpAny_pyIter_rangeiter (s := stt s₁ h₁ tk₁) e hQ
  · rw [eg]
    refine hideAll_get _ (Heap.get?_push_of_some _ e) ?_
    simp only [List.map_cons, List.mem_cons, not_or]
    exact ⟨Nat.ne_of_lt (Heap.lt_size e), hb⟩
  · intro q
    rw [eg, hideAll_none _ (by simp only [List.map_cons, List.mem_cons]; exact .inr q)] at e; cases e
end
/-- the ledger bears a particle -/
inductive PVL (led : List (Addr × (Obj → Prop))) : Value → Pt → Prop
  | name {a : Addr} {t1 t2 t3 : Tok} {c mk : Str} : (a, isT [.str (Str.ofString "name") t1, .str c t2, .str mk t3]) ∈ led → PVL led (.ref a) (.name c mk)
  | seq {a b : Addr} {t1 t3 : Tok} {mk : Str} {vs : List Value} {ps : List Pt} : (a, isT [.str (Str.ofString "seq") t1, .ref b, .str mk t3]) ∈ led → (b, isT vs) ∈ led → vs.length = ps.length →
      (∀ (i : Nat) (v : Value) (p : Pt), vs[i]? = some v → ps[i]? = some p → PVL led v p) → PVL led (.ref a) (.seq ps mk)
  | choice {a b : Addr} {t1 t3 : Tok} {mk : Str} {vs : List Value} {ps : List Pt} : (a, isT [.str (Str.ofString "choice") t1, .ref b, .str mk t3]) ∈ led → (b, isT vs) ∈ led → vs.length = ps.length →
      (∀ (i : Nat) (v : Value) (p : Pt), vs[i]? = some v → ps[i]? = some p → PVL led v p) → PVL led (.ref a) (.choice ps mk)
theorem PVL.mono {led led' : List (Addr × (Obj → Prop))} {v : Value} {p : Pt} (x : PVL led v p) (k : ∀ q, q ∈ led → q ∈ led') : PVL led' v p := by
  induction x with
  | name h1 => exact .name (k _ h1)
  | seq h1 h2 h3 _ ih => exact .seq (k _ h1) (k _ h2) h3 ih
  | choice h1 h2 h3 _ ih => exact .choice (k _ h1) (k _ h2) h3 ih
theorem PVL.pv {led : List (Addr × (Obj → Prop))} {h : Heap} {v : Value} {p : Pt} (x : PVL led v p) (k : ∀ q ∈ led, At h q.1 q.2) : PV h v p := by
  induction x with
  | name h1 => exact .name (k _ h1)
  | seq h1 h2 h3 _ ih => exact .seq (k _ h1) (k _ h2) h3 ih
  | choice h1 h2 h3 _ ih => exact .choice (k _ h1) (k _ h2) h3 ih
def marks : List Str := ["", "?", "*", "+"]
inductive Good : Nat → Pt → Prop
  | name {d : Nat} {c mk : Str} : mk ∈ marks → Good d (.name c mk)
  | seq {d : Nat} {ps : List Pt} {mk : Str} : mk ∈ marks → ps.length ≤ 3 → (∀ p ∈ ps, Good d p) → Good (d + 1) (.seq ps mk)
  | choice {d : Nat} {ps : List Pt} {mk : Str} : mk ∈ marks → ps.length ≤ 3 → (∀ p ∈ ps, Good d p) → Good (d + 1) (.choice ps mk)
theorem permB {α : Type} (s i d : α) (e : List α) : (s :: i :: d :: e).Perm (i :: d :: (e ++ [s])) := List.perm_append_comm (l₁ := [s]) (l₂ := i :: d :: e)
theorem permA {α : Type} (s i d : α) (e e' : List α) : (i :: d :: ((e' ++ e) ++ [s])).Perm (e' ++ (s :: i :: d :: e)) :=
  (List.perm_append_comm (l₁ := i :: d :: (e' ++ e)) (l₂ := [s])).trans (List.perm_append_comm_assoc [s, i, d] e' e)
def PartSpec (d : Nat) : Prop := ∀ {w : World} {A : Around} {s : Shared} {h h₀ : Heap} {tk : Nat} {E : Value → Shared → Prop} {src : Addr} {nd : Int} {td : Tok} {Q : Value → Shared → Prop},
  St w h₀ h → nd = d → Ok A (330 + d) (80 + 3 * d) → At h src isSrc → h₀.get? src = none →
  (∀ h' tk' v p ex, Good d p → PVL ex v p → (∀ q ∈ ex, At h' q.1 q.2 ∧ h.get? q.1 = none) → (ex.map (·.1)).Nodup → Ext [src] h h' → At h' src isSrc → Q v (stt s h' tk')) →
  wpAny (Md w) A (call (.ref 157) [.ref src, .int nd td]) Q E (stt s h tk)
theorem Ok.c {A : Around} {e f d a b : Nat} (h : Ok A (e + d) (f + 3 * d)) (h1 : a ≤ e := by decide) (h2 : b ≤ f := by decide) : Ok A a b := h.mono (by omega) (by omega)
theorem all1 {α : Type} {p : α → Prop} {a : α} (h : p a) : ∀ x ∈ [a], p x := by simp [h]
theorem Cx.ne12 {g h : Heap} {L : Addr} {m : Str → Option Value} {led : List (Addr × (Obj → Prop))} {a b : Addr} {P Q : Obj → Prop} (C : Cx g L m ((a, P) :: (b, Q) :: led) h) : a ≠ b := fun e => (List.nodup_cons.mp C.nd).1 (e ▸ .head _)
theorem off_src {a src : Addr} {l : List Addr} (nd : (a :: src :: l).Nodup) : a ∉ [src] := fun q => (List.nodup_cons.mp nd).1 (by rw [List.mem_singleton.mp q]; exact .head _)
theorem str_of4 {a b c d : Str} {t1 t2 t3 t4 : Tok} {v : Value} (h : v ∈ [Value.str a t1, .str b t2, .str c t3, .str d t4]) : ∃ c tc, v = .str c tc := by
  simp only [List.mem_cons, List.not_mem_nil, or_false] at h
  rcases h with rfl | rfl | rfl | rfl <;> exact ⟨_, _, rfl⟩
theorem str_of2 {a b : Str} {t1 t2 : Tok} {v : Value} (h : v ∈ [Value.str a t1, .str b t2]) : ∃ kd tc, (kd = a ∨ kd = b) ∧ v = .str kd tc := by
  simp only [List.mem_cons, List.not_mem_nil, or_false] at h
  rcases h with rfl | rfl
  · exact ⟨_, _, .inl rfl, rfl⟩
  · exact ⟨_, _, .inr rfl, rfl⟩
theorem cell_up {g g' h : Heap} {L : Addr} {m : Str → Option Value} {led : List (Addr × (Obj → Prop))} {a b : Addr} {P Q : Obj → Prop} (C : Cx g L m ((a, P) :: led) h) (up : ∀ b o, b ∉ ([(a, P)] : List (Addr × (Obj → Prop))).map (·.1) → h.get? b = some o → g'.get? b = some o) (hm : (b, Q) ∈ led) : At g' b Q :=
  (C.ata (.tail _ hm)).keep' fun o e => up _ o (fun q => (List.nodup_cons.mp C.nd).1 (by rw [← List.mem_singleton.mp q]; exact List.mem_map_of_mem (f := (·.1)) hm)) e
theorem base_up {g g' h : Heap} {L : Addr} {m : Str → Option Value} {led : List (Addr × (Obj → Prop))} {a : Addr} {P : Obj → Prop} (C : Cx g L m ((a, P) :: led) h) (up : ∀ b o, b ∉ ([(a, P)] : List (Addr × (Obj → Prop))).map (·.1) → h.get? b = some o → g'.get? b = some o) : ∀ b o, g.get? b = some o → g'.get? b = some o := fun b o e =>
  up b o (fun q => by rw [List.mem_singleton.mp q] at e; have := (C.at_ (a, P) (.head _)).2.1; rw [this] at e; cases e) (C.F.keep b o e)
theorem Cx.front {g h h' : Heap} {L src : Addr} {m : Str → Option Value} {led : List (Addr × (Obj → Prop))} {P : Obj → Prop} (C : Cx g L m (led ++ [(src, P)]) h') (eg : g = hideAll h [src]) : (∀ q ∈ led, At h' q.1 q.2 ∧ h.get? q.1 = none) ∧ (led.map (·.1)).Nodup := by
  have nd := C.nd
  rw [List.map_append, List.nodup_append] at nd
  exact ⟨fun q hq => ⟨C.ata (List.mem_append_left _ hq), C.fresh (P := q.2) (led₀ := [(src, P)]) eg (List.mem_append_left _ hq) fun q' => nd.2.2 _ (List.mem_map_of_mem hq) _ (by simpa using q') rfl⟩, nd.1⟩
inductive PartInv (d' : Nat) (src : Addr) (i : Nat) (ys : List Value) (l : List (Addr × (Obj → Prop))) : Prop
  | mk (ex : List (Addr × (Obj → Prop))) (ps : List Pt) (e : l = ex ++ [(src, isSrc)]) (hy : ys.length = i) (hp : ps.length = i) (hi3 : i ≤ 3) (hps : ∀ (j : Nat) (v : Value) (p : Pt), ys[j]? = some v → ps[j]? = some p → PVL ex v p ∧ Good d' p)
theorem PartInv.first {d' : Nat} {src : Addr} : PartInv d' src 0 [] [(src, isSrc)] := ⟨[], [], rfl, rfl, rfl, by omega, by simp⟩
theorem PartInv.adr {d' : Nat} {src : Addr} {i : Nat} {ys : List Value} {l : List (Addr × (Obj → Prop))} : PartInv d' src i ys l → ∃ ex l₀, l = ex ++ l₀ ∧ l₀.map (·.1) = ([(src, isSrc)] : List (Addr × (Obj → Prop))).map (·.1)
  | ⟨ex, _, e, _, _, _, _⟩ => ⟨ex, _, e, rfl⟩
theorem PartInv.len {d' : Nat} {src : Addr} {i : Nat} {ys : List Value} {l : List (Addr × (Obj → Prop))} : PartInv d' src i ys l → ys.length ≤ 1000
  | ⟨_, _, _, h1, _, h3, _⟩ => by omega
theorem PartInv.next {d' : Nat} {src : Addr} {i : Nat} {ys : List Value} {ex ex14 : List (Addr × (Obj → Prop))} {ps : List Pt} {v14 : Value} {p14 : Pt} (hi : i < 3) (hy : ys.length = i) (hp : ps.length = i) (hps : ∀ (j : Nat) (v : Value) (p : Pt), ys[j]? = some v → ps[j]? = some p → PVL ex v p ∧ Good d' p)
    (good14 : Good d' p14) (pvl14 : PVL ex14 v14 p14) : PartInv d' src (i + 1) (ys ++ [v14]) ((ex14 ++ ex) ++ [(src, isSrc)]) := by
  refine ⟨ex14 ++ ex, ps ++ [p14], rfl, by simp [hy], by simp [hp], by omega, fun j v p h1 h2 => ?_⟩
  rcases Nat.lt_or_ge j i with q | q
  · rw [List.getElem?_append_left (by omega)] at h1 h2
    have := hps j v p h1 h2
    exact ⟨this.1.mono fun _ hm => List.mem_append_right _ hm, this.2⟩
  · rw [List.getElem?_append_right (by omega)] at h1 h2
    have hj : j - ys.length = 0 := by
      rcases Nat.lt_or_ge (j - ys.length) 1 with q | q
      · omega
      · rw [List.getElem?_eq_none (by simpa using q)] at h1; cases h1
    rw [hj] at h1; rw [show j - ps.length = 0 by omega] at h2
    simp at h1 h2
    subst h1; subst h2
    exact ⟨pvl14.mono fun _ hm => List.mem_append_left _ hm, good14⟩
theorem part_fin {d' n : Nat} {ys : List Value} {ps : List Pt} {ex : List (Addr × (Obj → Prop))} {a b : Addr} {kd mk : Str} {tc tmk : Tok} (hmk : mk ∈ marks) (hkd : kd = Str.ofString "seq" ∨ kd = Str.ofString "choice") (hy : ys.length = n) (hp : ps.length = n) (h3 : n ≤ 3) (hps : ∀ (j : Nat) (v : Value) (p : Pt), ys[j]? = some v → ps[j]? = some p → PVL ex v p ∧ Good d' p) :
    ∃ p, Good (d' + 1) p ∧ PVL ((a, isT [.str kd tc, .ref b, .str mk tmk]) :: (b, isT ys) :: ex) (.ref a) p := by
  have kids : ∀ (j : Nat) (v : Value) (p : Pt), ys[j]? = some v → ps[j]? = some p → PVL ((a, isT [.str kd tc, .ref b, .str mk tmk]) :: (b, isT ys) :: ex) v p := fun j v p h1 h2 => (hps j v p h1 h2).1.mono fun _ hm => .tail _ (.tail _ hm)
  have kidG : ∀ p ∈ ps, Good d' p := fun p hp' => by
    obtain ⟨j, hj, rfl⟩ := List.getElem_of_mem hp'
    exact (hps j ys[j] ps[j] (List.getElem?_eq_getElem (by omega)) (List.getElem?_eq_getElem hj)).2
  rcases hkd with rfl | rfl
  · exact ⟨.seq ps mk, .seq hmk (by omega) kidG, .seq (.head _) (.tail _ (.head _)) (by omega) kids⟩
  · exact ⟨.choice ps mk, .choice hmk (by omega) kidG, .choice (.head _) (.tail _ (.head _)) (by omega) kids⟩
theorem part_of {d : Nat} (hd2 : d ≤ 2) (ih : 1 ≤ d → ∀ d', d = d' + 1 → PartSpec d') : PartSpec d := by
  intro w A s h h₀ tk E src nd td Q S hnd ok hsrc hf k
  refine' enterCell (d := 329 + d) (u := 77 + 3 * d) (binds := [(Str.ofString "source", .ref src), (Str.ofString "deep", .int nd td)]) [(src, isSrc)] (fun L => [(L + 1, isCell (.ref src)), (L + 2, isCell (.int nd td))]) (fun _ => none) S (all1 ⟨hf, hsrc⟩) (by simp) (ok.mono (by omega) (by omega)) ?ho ?hcd ?hb ?hk ?hm ?hc ?hn ?_ ?c2 ?c3 ?c4
  walk_at "enterc"
  case hc =>
    intro L p hp
    simp only [List.mem_cons, List.not_mem_nil, or_false] at hp
    rcases hp with rfl | rfl
    · exact ⟨Str.ofString "source", _, rfl, rfl, rfl, Nat.lt_succ_self _⟩
    · exact ⟨Str.ofString "deep", _, rfl, rfl, rfl, Nat.lt_succ_of_lt (Nat.lt_succ_self _)⟩
  case hn => intro L; simp
  intro g h₁ tk₁ A' l' eg W ok' fr C
  have Sg : St w h₀ g := S.of_hide [src] (all1 hf) eg
  have C : Cx g h.objs.size (fun _ => none) [(src, isSrc), (h.objs.size + 1, isCell (.ref src)), (h.objs.size + 1 + 1, isCell (.int nd td))] h₁ := Cx.third C
  walk_at "go"
  rename Cx _ _ _ _ _ => C0
  refine one_spec (C0.st Sg) ok'.c (C0.ata (by walk_at "mem")) (C0.free Sg (src, isSrc) (by walk_at "mem")) (C0.ata (by walk_at "mem")) C0.ne12 (by simp) (by simp [sizeLine_eq]) fun h2 tk2 v2 hv2 x2 hs2 => ?_
  have C2 := (Cx.behind (led₁ := [(src, isSrc)]) (led₂ := [(src, isSrc)]) C0.swap x2 rfl (all1 hs2)).swap.drop
  obtain ⟨mk, tmk, hmk, rfl⟩ : ∃ mk tmk, mk ∈ marks ∧ v2 = .str mk tmk := by
    simp only [List.mem_cons, List.not_mem_nil, or_false] at hv2
    rcases hv2 with rfl | rfl | rfl | rfl | rfl <;> exact ⟨_, _, by simp [marks], rfl⟩
  walk_at "go"
  · rename Cx _ _ _ _ _ => C0
    refine one_spec (C0.st Sg) ok'.c (C0.ata (by walk_at "mem")) (C0.free Sg (src, isSrc) (by walk_at "mem")) (C0.ata (by walk_at "mem")) C0.ne12 (by simp) (by simp [sizeLine_eq]) fun h9 tk9 v9 hv9 x9 hs9 => ?_
    have C9 : Cx g _ _ ((src, isSrc) :: _) h9 := Cx.behind (led₁ := [(src, isSrc)]) (led₂ := [(src, isSrc)]) C0.swap x9 rfl (all1 hs9)
    obtain ⟨c, tc, rfl⟩ : ∃ c tc, v9 = .str c tc := str_of4 hv9
    walk_at "go"
    rename_i a C10
    exact k _ _ _ (.name c mk) [(a, isT _)] (.name hmk) (.name (.head _)) (fun q hq => by rw [List.mem_singleton.mp hq]; exact ⟨C10.ata (.head _), C10.fresh eg (.head _) (off_src C10.nd)⟩) (by simp) (C10.ext eg rfl) (C10.ata (by walk_at "mem"))
  · rename Cx _ _ _ _ _ => C3
    refine take_spec (C3.st Sg) ok'.c (C3.ata (by walk_at "mem")) (C3.free Sg (src, isSrc) (by walk_at "mem")) (by decide) fun h4 tk4 r4 t4 r40 r41 x4 hs4 => ?_
    have C4 : Cx g _ _ [(src, isSrc), (h.objs.size + 1, isCell (.ref src)), (h.objs.size + 1 + 1, isCell (.int nd td))] h4 := Cx.behind (led₁ := [(src, isSrc)]) (led₂ := [(src, isSrc)]) C3 x4 rfl (all1 hs4)
    walk_at "go"
    · rename Cx _ _ _ _ _ => C0
      refine one_spec (C0.st Sg) ok'.c (C0.ata (by walk_at "mem")) (C0.free Sg (src, isSrc) (by walk_at "mem")) (C0.ata (by walk_at "mem")) C0.ne12 (by simp) (by simp [sizeLine_eq]) fun h9 tk9 v9 hv9 x9 hs9 => ?_
      have C9 : Cx g _ _ ((src, isSrc) :: _) h9 := Cx.behind (led₁ := [(src, isSrc)]) (led₂ := [(src, isSrc)]) C0.swap x9 rfl (all1 hs9)
      obtain ⟨c, tc, rfl⟩ : ∃ c tc, v9 = .str c tc := str_of4 hv9
      walk_at "go"
      rename_i a C10
      exact k _ _ _ (.name c mk) [(a, isT _)] (.name hmk) (.name (.head _)) (fun q hq => by rw [List.mem_singleton.mp hq]; exact ⟨C10.ata (.head _), C10.fresh eg (.head _) (off_src C10.nd)⟩) (by simp) (C10.ext eg rfl) (C10.ata (by walk_at "mem"))
    · rename Cx _ _ _ _ _ => C0
      refine one_spec (C0.st Sg) ok'.c (C0.ata (by walk_at "mem")) (C0.free Sg (src, isSrc) (by walk_at "mem")) (C0.ata (by walk_at "mem")) C0.ne12 (by simp) (by simp [sizeLine_eq]) fun h9 tk9 v9 hv9 x9 hs9 => ?_
      have C9 := (Cx.behind (led₁ := [(src, isSrc)]) (led₂ := [(src, isSrc)]) C0.swap x9 rfl (all1 hs9)).swap.drop
      obtain ⟨kd, tc, hkd, rfl⟩ : ∃ kd tc, (kd = Str.ofString "seq" ∨ kd = Str.ofString "choice") ∧ v9 = .str kd tc := str_of2 hv9
      walk_at "go"
      walk_at "ecomp"
      walk_at "go"
      rename Cx _ _ _ _ _ => C10
      refine take_spec (C10.st Sg) ok'.c (C10.ata (by walk_at "mem")) (C10.free Sg (src, isSrc) (by walk_at "mem")) (by decide) fun h11 tk11 r t r0 r1 x11 hs11 => ?_
      have C11 : Cx g _ _ [(src, isSrc), (h.objs.size + 1, isCell (.ref src)), (h.objs.size + 1 + 1, isCell (.int nd td))] h11 := Cx.behind (led₁ := [(src, isSrc)]) (led₂ := [(src, isSrc)]) C10 x11 rfl (all1 hs11)
      walk_at "go"
      refine b_range1 C11 fun h12 rg hr C12 => ?_
      obtain ⟨d', rfl⟩ : ∃ d', d = d' + 1 := ⟨d - 1, by omega⟩
      refine comp_rangeX (led₁ := [(src, isSrc)]) (led₂ := [(h.objs.size + 1, isCell (.ref src)), (h.objs.size + 1 + 1, isCell (.int nd td))]) (n := (2 + r).toNat)
        (PartInv d' src) ok'.hh C12 hr (by omega) (by omega)
        .first (fun _ _ _ j => PartInv.adr j) (fun _ _ _ j => PartInv.len j) ?_ ?_ (by decide) rfl rfl
      · rintro g' cC i mC ys l' h13 tk13 D I up dn hi ⟨ex, ps, rfl, hy, hp, hi3, hps⟩ Cc
        have upg := base_up C12 up
        have Sg' : St w h₀ g' := ⟨Sg.wd, fun b o e => upg b o (Sg.st b o e)⟩
        have W' := W.keeps upg
        have hc1 : At g' (h.objs.size + 1) (isCell (.ref src)) := cell_up C12 up (by walk_at "mem")
        have hc2 : At g' (h.objs.size + 1 + 1) (isCell (.int nd td)) := cell_up C12 up (by walk_at "mem")
        refine tests_none ?_
        walk_at "go"
        refine ih (by omega) d' rfl (Cc.st Sg') (by omega) (by walk_at "room") (Cc.ata (.tail _ (.tail _ (List.mem_append_right _ (.head _))))) (Cc.free Sg' (src, isSrc) (.tail _ (.tail _ (List.mem_append_right _ (.head _))))) fun h14 tk14 v14 p14 ex14 good14 pvl14 at14 nd14 x14 hs14 => ?_
        have Cc2 : Cx g' cC mC ((src, isSrc) :: (I, isRI 0 (2 + r).toNat (i + 1)) :: (D, isL ys) :: ex) h13 := Cc.perm (permB _ _ _ _)
        have Cc3 := Cx.behind (led₁ := [(src, isSrc)]) (led₂ := [(src, isSrc)]) Cc2 x14 rfl (all1 hs14)
        have Cc4 := (Cc2.mades Cc3 rfl at14 nd14).perm (permA _ _ _ _ _)
        exact comp_el Cc4 (PartInv.next (by omega) hy hp hps good14 pvl14)
      · rintro h13 tk13 D ys l ⟨ex, ps, rfl, hy, hp, hi3, hps⟩ C13
        walk_at "go"
        refine b_tuple C13 (C13.ata (.head _)).list (by rw [sizeLine_eq]; omega) fun h14 b C14 => ?_
        walk_at "go"
        rename_i h15 a C15
        have C16 : Cx g h.objs.size _ (((a, isT _) :: (b, isT ys) :: ex) ++ [(src, isSrc)]) h15 := C15.sub (List.Sublist.cons₂ _ (List.Sublist.cons₂ _ (List.Sublist.cons _ (List.sublist_append_left _ _))))
        obtain ⟨fr16, nd16⟩ := C16.front eg
        obtain ⟨p, gp, pv⟩ := part_fin (a := a) (b := b) (tc := tc) (tmk := tmk) hmk hkd hy hp hi3 hps
        exact k _ _ _ p _ gp pv fr16 nd16 (C16.ext eg rfl) (C16.ata (List.mem_append_right _ (.head _)))
  · rename Cx _ _ _ _ _ => C0
    refine one_spec (C0.st Sg) ok'.c (C0.ata (by walk_at "mem")) (C0.free Sg (src, isSrc) (by walk_at "mem")) (C0.ata (by walk_at "mem")) C0.ne12 (by simp) (by simp [sizeLine_eq]) fun h9 tk9 v9 hv9 x9 hs9 => ?_
    have C9 := (Cx.behind (led₁ := [(src, isSrc)]) (led₂ := [(src, isSrc)]) C0.swap x9 rfl (all1 hs9)).swap.drop
    obtain ⟨kd, tc, hkd, rfl⟩ : ∃ kd tc, (kd = Str.ofString "seq" ∨ kd = Str.ofString "choice") ∧ v9 = .str kd tc := str_of2 hv9
    walk_at "go"
    walk_at "ecomp"
    walk_at "go"
    rename Cx _ _ _ _ _ => C10
    refine take_spec (C10.st Sg) ok'.c (C10.ata (by walk_at "mem")) (C10.free Sg (src, isSrc) (by walk_at "mem")) (by decide) fun h11 tk11 r t r0 r1 x11 hs11 => ?_
    have C11 : Cx g _ _ [(src, isSrc), (h.objs.size + 1, isCell (.ref src)), (h.objs.size + 1 + 1, isCell (.int nd td))] h11 := Cx.behind (led₁ := [(src, isSrc)]) (led₂ := [(src, isSrc)]) C10 x11 rfl (all1 hs11)
    walk_at "go"
    refine b_range1 C11 fun h12 rg hr C12 => ?_
    obtain ⟨d', rfl⟩ : ∃ d', d = d' + 1 := ⟨d - 1, by omega⟩
    refine comp_rangeX (led₁ := [(src, isSrc)]) (led₂ := [(h.objs.size + 1, isCell (.ref src)), (h.objs.size + 1 + 1, isCell (.int nd td))]) (n := (2 + r).toNat)
      (PartInv d' src) ok'.hh C12 hr (by omega) (by omega)
      .first (fun _ _ _ j => PartInv.adr j) (fun _ _ _ j => PartInv.len j) ?_ ?_ (by decide) rfl rfl
    · rintro g' cC i mC ys l' h13 tk13 D I up dn hi ⟨ex, ps, rfl, hy, hp, hi3, hps⟩ Cc
      have upg := base_up C12 up
      have Sg' : St w h₀ g' := ⟨Sg.wd, fun b o e => upg b o (Sg.st b o e)⟩
      have W' := W.keeps upg
      have hc1 : At g' (h.objs.size + 1) (isCell (.ref src)) := cell_up C12 up (by walk_at "mem")
      have hc2 : At g' (h.objs.size + 1 + 1) (isCell (.int nd td)) := cell_up C12 up (by walk_at "mem")
      refine tests_none ?_
      walk_at "go"
      refine ih (by omega) d' rfl (Cc.st Sg') (by omega) (by walk_at "room") (Cc.ata (.tail _ (.tail _ (List.mem_append_right _ (.head _))))) (Cc.free Sg' (src, isSrc) (.tail _ (.tail _ (List.mem_append_right _ (.head _))))) fun h14 tk14 v14 p14 ex14 good14 pvl14 at14 nd14 x14 hs14 => ?_
      have Cc2 : Cx g' cC mC ((src, isSrc) :: (I, isRI 0 (2 + r).toNat (i + 1)) :: (D, isL ys) :: ex) h13 := Cc.perm (permB _ _ _ _)
      have Cc3 := Cx.behind (led₁ := [(src, isSrc)]) (led₂ := [(src, isSrc)]) Cc2 x14 rfl (all1 hs14)
      have Cc4 := (Cc2.mades Cc3 rfl at14 nd14).perm (permA _ _ _ _ _)
      exact comp_el Cc4 (PartInv.next (by omega) hy hp hps good14 pvl14)
    · rintro h13 tk13 D ys l ⟨ex, ps, rfl, hy, hp, hi3, hps⟩ C13
      walk_at "go"
      refine b_tuple C13 (C13.ata (.head _)).list (by rw [sizeLine_eq]; omega) fun h14 b C14 => ?_
      walk_at "go"
      rename_i h15 a C15
      have C16 : Cx g h.objs.size _ (((a, isT _) :: (b, isT ys) :: ex) ++ [(src, isSrc)]) h15 := C15.sub (List.Sublist.cons₂ _ (List.Sublist.cons₂ _ (List.Sublist.cons _ (List.sublist_append_left _ _))))
      obtain ⟨fr16, nd16⟩ := C16.front eg
      obtain ⟨p, gp, pv⟩ := part_fin (a := a) (b := b) (tc := tc) (tmk := tmk) hmk hkd hy hp hi3 hps
      exact k _ _ _ p _ gp pv fr16 nd16 (C16.ext eg rfl) (C16.ata (List.mem_append_right _ (.head _)))
theorem particle_spec : PartSpec 2 := by
  have p0 : PartSpec 0 := @part_of 0 (by omega) (fun h => absurd h (by omega))
  have p1 : PartSpec 1 := @part_of 1 (by omega) (fun _ d' e => by obtain rfl : d' = 0 := (by omega); exact @p0)
  exact @part_of 2 (by omega) (fun _ d' e => by obtain rfl : d' = 1 := (by omega); exact @p1)
section
variable {w : World} {A : Around} {s : Shared} {h h' g : Heap} {L a : Addr} {m : Str → Option Value} {led : List (Addr × (Obj → Prop))} {tk : Nat} {E : Value → Shared → Prop} {env : Env} {st : Shared}
theorem x_asg_sw {elts : List Expr} {j : Nat} {tpos pos : Pos} {value : Expr} {names : List Str} {Q : Flow → Shared → Prop}
    (k : wpAny (Md w) A (eval value env) (fun v s₁ => wpAny (Md w) A (unpackItems v names.length none) (fun items s₂ =>
      wpAny (Md w) A (assignInOrder (names.reverse.map fun n => bindName env n) items.reverse) (fun _ => Q .next) E s₂) E s₁) E st)
    (hs : swapsWithSole [.Tuple elts j tpos] value pos.line env = pure false)
    (hw : swappedStores [.Tuple elts j tpos] value env = pure (some names)) : wpAny (Md w) A (exec (.Assign [.Tuple elts j tpos] value pos) env) Q E st := Assign_Tuple_swapped k hs hw
theorem u_items {t : Addr} {vs : List Value} {n : Nat} {Q : List Value → Shared → Prop} (hh : A.handled = none) (C : Cx g L m led h) (ht : At h t (isT vs)) (hn : n = vs.length)
    (k : ∀ h', Cx g L m led h' → Q vs (stt s h' tk)) : wpAny (Md w) A (unpackItems (.ref t) n none) Q E (stt s h tk) := by
  subst hn
  have := unpackItems_tuple (prog := Pr) (w := w) (s := stt s h tk) (E := E) (Q := Q) hh ht.tup (fun h' hx => by
    rw [List.toList_toArray]
    exact k h' (C.grow fun b o e => hx b o (Nat.ne_of_lt (Heap.lt_size e)) e))
  simpa using this
theorem u_bind {x : Str} {v : Value} {Q : Unit → Shared → Prop} (k : wpAny (Md w) A (storeName env x v) Q E st) : wpAny (Md w) A (bindName env x v) Q E st := bindName_ k
/-- a follow table's lists -/
def FL (fs : List Addr) (fl : List (List Int)) : List (Addr × (Obj → Prop)) := List.zipWith (fun a l => (a, isI l)) fs fl
theorem FL_fst : ∀ {fs : List Addr} {fl : List (List Int)}, fl.length = fs.length → (FL fs fl).map (·.1) = fs
  | [], [], _ => rfl
  | a :: fs, l :: fl, e => by
    show a :: (FL fs fl).map (·.1) = _
    rw [FL_fst (by simpa using e)]
theorem FL_mem : ∀ {fs : List Addr} {fl : List (List Int)} {j : Nat} {b : Addr} {x : List Int}, fs[j]? = some b → fl[j]? = some x → (b, isI x) ∈ FL fs fl
  | [], _, _, _, _, h, _ => by simp at h
  | _ :: _, [], _, _, _, _, h => by simp at h
  | a :: fs, l :: fl, 0, b, x, h1, h2 => by simp at h1 h2; subst h1; subst h2; exact .head _
  | a :: fs, l :: fl, j + 1, b, x, h1, h2 => .tail _ (FL_mem (by simpa using h1) (by simpa using h2))
theorem FL_of : ∀ {fs : List Addr} {fl : List (List Int)} {q : Addr × (Obj → Prop)}, q ∈ FL fs fl → ∃ (j : Nat) (x : List Int), fs[j]? = some q.1 ∧ fl[j]? = some x ∧ q.2 = isI x
  | [], _, _, h => by simp [FL] at h
  | _ :: _, [], _, h => by simp [FL] at h
  | a :: fs, l :: fl, q, h => by
    rcases List.mem_cons.mp (show q ∈ (a, isI l) :: FL fs fl from h) with rfl | h
    · exact ⟨0, l, rfl, rfl, rfl⟩
    · obtain ⟨j, x, h1, h2, h3⟩ := FL_of h
      exact ⟨j + 1, x, by simpa using h1, by simpa using h2, h3⟩
theorem FL_app {fs fs' : List Addr} {fl fl' : List (List Int)} (e : fl.length = fs.length) : FL (fs ++ fs') (fl ++ fl') = FL fs fl ++ FL fs' fl' := by
  unfold FL
  exact List.zipWith_append e.symm
/-- behind a call that turned the lists of a follow table -/
theorem Cx.behindF {fs : List Addr} {fl fl' : List (List Int)} {X : List Addr} (C : Cx g L m (FL fs fl ++ led) h) (x : Ext X h h') (hX : ∀ a ∈ X, a ∈ fs) (e : fl.length = fs.length) (e' : fl'.length = fl.length) (hat : ∀ q ∈ FL fs fl', At h' q.1 q.2) : Cx g L m (FL fs fl' ++ led) h' := by
  refine Cx.behindX C x (fun a ha => ?_) (by rw [FL_fst e, FL_fst (e'.trans e)]) hat
  have hm : a ∈ (FL fs fl).map (·.1) := by rw [FL_fst e]; exact hX a ha
  obtain ⟨q, hq, rfl⟩ := List.mem_map.mp hm
  have := C.at_ q (List.mem_append_left _ hq)
  refine ⟨this.1, this.2.1, fun r => ?_⟩
  have nd := C.nd
  rw [List.map_append, List.nodup_append] at nd
  exact nd.2.2 _ hm _ r rfl
def getF (fl : List (List Int)) (i : Nat) : List Int := (fl[i]?).getD []
theorem getF_set {fl : List (List Int)} {j : Nat} {zs : List Int} (hj : j < fl.length) (i : Nat) : getF (fl.set j zs) i = if i = j then zs else getF fl i := by
  unfold getF
  rw [List.getElem?_set]
  by_cases e : j = i
  · subst e; simp [hj]
  · have e' : ¬ i = j := fun q => e q.symm
    simp [e, e']
end
abbrev bAttrs (nm fo : Addr) : List (Str × Value) := [("names", .ref nm), ("follow", .ref fo)]
abbrev okL (fl : List (List Int)) : Prop := ∀ x ∈ fl, x.Nodup ∧ ∀ z ∈ x, 1 ≤ z ∧ z ≤ 40
section
variable {w : World} {A : Around} {s : Shared} {h h₀ : Heap} {tk : Nat} {E : Value → Shared → Prop}
theorem join_spec {au dx fo en be : Addr} {nm : Addr} {fs₀ fs₁ : List Addr} {fl : List (List Int)} {ps bs : List Int} {Q : Value → Shared → Prop} (S : St w h₀ h) (ok : Ok A 20 40)
    (ho : At h au (isObj dx)) (hd : At h dx (isAt (bAttrs nm fo))) (hfo : At h fo (isID w (foKvs (fs₀ ++ fs₁))))
    (hat : ∀ q ∈ FL fs₁ fl, h₀.get? q.1 = none ∧ At h q.1 q.2) (nd : fs₁.Nodup) (hlen : fl.length = fs₁.length) (hen : At h en (isI ps)) (hbe : At h be (isI bs))
    (ne : ∀ a ∈ [au, dx, fo, en, be], a ∉ fs₁) (hps : ∀ p ∈ ps, (fs₀.length : Int) < p ∧ p ≤ fs₀.length + fs₁.length) (hbs : ∀ z ∈ bs, 1 ≤ z ∧ z ≤ 40) (hfl : okL fl)
    (k : ∀ h' tk' fl', Ext fs₁ h h' → fl'.length = fl.length → (∀ q ∈ FL fs₁ fl', At h' q.1 q.2) → okL fl' → (∀ i z, z ∈ getF fl' i ↔ z ∈ getF fl i ∨ ((fs₀.length : Int) + i + 1 ∈ ps ∧ z ∈ bs)) → Q .none (stt s h' tk')) :
    wpAny (Md w) A (call (.ref 77) [.ref au, .ref en, .ref be]) Q E (stt s h tk) := by
  have hfst := FL_fst hlen
  refine' enterC (d := 19) (u := 37) (binds := [(Str.ofString "self", .ref au), (Str.ofString "ends", .ref en), (Str.ofString "begins", .ref be)]) (FL fs₁ fl) S hat (by rw [hfst]; exact nd) ok ?ho ?hcd ?hb ?hl ?_ ?c2 ?c3 ?c4 ?c5
  walk_at "enter"
  intro g h₁ tk₁ A' l' eg W ok' fr C
  rw [hfst] at eg
  have Sg : St w h₀ g := S.of_hide fs₁ (fun x hx => by
    rw [← hfst] at hx
    obtain ⟨q, hq, rfl⟩ := List.mem_map.mp hx
    exact (hat q hq).1) eg
  have ho : At g au (isObj dx) := by rw [eg]; exact ho.hide (ne _ (by simp))
  have hd : At g dx (isAt (bAttrs nm fo)) := by rw [eg]; exact hd.hide (ne _ (by simp))
  have hfo : At g fo (isID w (foKvs (fs₀ ++ fs₁))) := by rw [eg]; exact hfo.hide (ne _ (by simp))
  have hen : At g en (isI ps) := by rw [eg]; exact hen.hide (ne _ (by simp))
  have hbe : At g be (isI bs) := by rw [eg]; exact hbe.hide (ne _ (by simp))
  obtain ⟨vs, hel, hi⟩ := hen.ints
  walk_at "go"
  refine for_list (l := en) (its := vs) (fun i m led => ∃ fl', led = FL fs₁ fl' ∧ fl'.length = fl.length ∧ okL fl' ∧ (∀ i' z, z ∈ getF fl' i' ↔ z ∈ getF fl i' ∨ ((fs₀.length : Int) + i' + 1 ∈ ps.take i ∧ z ∈ bs)) ∧ m "self" = some (.ref au) ∧ m "begins" = some (.ref be)) ok'.hh C (C.atg hel) ⟨fl, rfl, rfl, hfl, by simp, rfl, rfl⟩ (fun i m led h j c => c.atg hel) ?_ ?_
  · rintro i v m₁ led₁ h₂ tk₂ I hv ⟨fl', rfl, hl', okl, hz, hself, hbegins⟩ C₁
    obtain ⟨n, t, hn, rfl⟩ := ints_get' hi hv
    have ht : ps.take (i + 1) = ps.take i ++ [n] := by rw [List.take_add_one, hn]; rfl
    have hn' := hps n (List.mem_of_getElem? hn)
    obtain ⟨j, hj⟩ : ∃ j : Nat, n = fs₀.length + j + 1 := ⟨(n - fs₀.length - 1).toNat, by omega⟩
    have hjl : j < fs₁.length := by omega
    have hjf : j < fl'.length := by omega
    have hb : (fs₀ ++ fs₁)[(n - 1).toNat]? = some fs₁[j] := by
      rw [List.getElem?_append_right (by omega), show (n - 1).toNat - fs₀.length = j by omega]
      exact List.getElem?_eq_getElem hjl
    have hm : (fs₁[j], isI fl'[j]) ∈ FL fs₁ fl' := FL_mem (List.getElem?_eq_getElem hjl) (List.getElem?_eq_getElem hjf)
    have okj := okl fl'[j] (List.getElem_mem hjf)
    walk_at "go"
    refine i_dict (C₁.atg hfo) (foKvs_at (by omega) hb) ?_ (by with_unfolding_all rfl)
    walk_at "go"
    refine add_spec (C₁.st Sg) (by walk_at "room") (C₁.ata (.tail _ hm)) (C₁.atg hbe) (C₁.free Sg _ (.tail _ hm)) (fun q => ne be (by simp) (q ▸ List.getElem_mem hjl)) okj.1 okj.2 hbs fun h3 tk3 zs nz hzs x hp => ?_
    refine ⟨rfl, ?_⟩
    have ndI := List.nodup_cons.mp C₁.nd
    have hneI : I ≠ fs₁[j] := fun q => ndI.1 (by rw [FL_fst (by omega), q]; exact List.getElem_mem hjl)
    have old : ∀ b, b ≠ fs₁[j] → ∀ P, At h₂ b P → At h3 b P := fun b hb P hP => x.at_ hP (by simpa using hb)
    have CP : Cx g h.objs.size (upd m₁ "place" (.int n t)) (FL fs₁ fl' ++ [(I, isLI en (i + 1))]) h₂ := C₁.perm (List.perm_append_comm (l₁ := FL fs₁ fl') (l₂ := [_]))
    have C3 : Cx g h.objs.size (upd m₁ "place" (.int n t)) (FL fs₁ (fl'.set j zs) ++ [(I, isLI en (i + 1))]) h3 := by
      refine CP.behindF x (fun a ha => by rw [List.mem_singleton.mp ha]; exact List.getElem_mem hjl) (by omega) (by simp) fun q hq => ?_
      obtain ⟨j', x', e1, e2, e3⟩ := FL_of hq
      rw [e3]
      rw [List.getElem?_set] at e2
      by_cases ej : j = j'
      · subst ej
        simp only [if_true, if_pos hjf, Option.some.injEq] at e2
        subst e2
        rw [List.getElem?_eq_getElem hjl, Option.some.injEq] at e1
        rw [← e1]; exact hp
      · rw [if_neg ej] at e2
        refine old _ (fun q' => ej ?_) _ (C₁.ata (.tail _ (FL_mem e1 e2)))
        rw [q', ← List.getElem?_eq_getElem hjl] at e1
        exact (List.getElem?_inj hjl nd).mp e1.symm
    have C4 := C3.perm (List.perm_append_comm (l₁ := [(I, isLI en (i + 1))]) (l₂ := FL fs₁ (fl'.set j zs)))
    walk_at "go"
    refine turn_next C4 ⟨_, rfl, by simpa using hl', fun x' hx' => ?_, fun i' z => ?_, by walk_at "look", by walk_at "look"⟩
    · rcases List.mem_or_eq_of_mem_set hx' with q | rfl
      · exact okl x' q
      · refine ⟨nz, fun z hz' => ?_⟩
        rcases (hzs z).mp hz' with q | q
        · exact okj.2 z q
        · exact hbs z q
    · rw [getF_set hjf, ht, List.mem_append, List.mem_singleton]
      by_cases ei : i' = j
      · subst ei
        rw [if_pos rfl, hzs]
        have hgj : getF fl' i' = fl'[i'] := by unfold getF; rw [List.getElem?_eq_getElem hjf]; rfl
        rw [← hgj, hz]
        constructor
        · rintro ((q | ⟨q1, q2⟩) | q)
          · exact .inl q
          · exact .inr ⟨.inl q1, q2⟩
          · exact .inr ⟨.inr hj.symm, q⟩
        · rintro (q | ⟨q1 | q1, q2⟩)
          · exact .inl (.inl q)
          · exact .inl (.inr ⟨q1, q2⟩)
          · exact .inr q2
      · rw [if_neg ei, hz]
        constructor
        · rintro (q | ⟨q1, q2⟩)
          · exact .inl q
          · exact .inr ⟨.inl q1, q2⟩
        · rintro (q | ⟨q1 | q1, q2⟩)
          · exact .inl q
          · exact .inr ⟨q1, q2⟩
          · exact absurd (by omega) ei
  · rintro m₁ led₁ h₂ tk₂ ⟨fl', rfl, hl', okl, hz, hself, hbegins⟩ C₂
    rw [ints_len hi, List.take_length] at hz
    walk_at "go"
    refine k _ _ _ ?_ hl' (fun q hq => C₂.ata hq) okl hz
    have := C₂.ext (led₀ := FL fs₁ fl) (by rw [hfst]; exact eg) rfl
    rw [hfst] at this; exact this
end
theorem Cx.behindF0 {h h' g : Heap} {L : Addr} {m : Str → Option Value} {fs : List Addr} {fl fl' : List (List Int)} {X : List Addr} (C : Cx g L m (FL fs fl) h) (x : Ext X h h') (hX : ∀ a ∈ X, a ∈ fs) (e : fl.length = fs.length) (e' : fl'.length = fl.length) (hat : ∀ q ∈ FL fs fl', At h' q.1 q.2) : Cx g L m (FL fs fl') h' := by
  have := Cx.behindF (led := []) (by simpa using C) x hX e e' hat
  simpa using this
theorem sixfive {α : Type} {p : α → Prop} {a b c d e f : α} (h : ∀ x ∈ [a, b, c, d, e, f], p x) : ∀ x ∈ [a, b, c, f, e], p x := by simp at h ⊢; exact ⟨h.1, h.2.1, h.2.2.1, h.2.2.2.2.2, h.2.2.2.2.1⟩
theorem mark_end {g h h8 : Heap} {Lx t' f' l' : Addr} {m : Str → Option Value} {fs₁ : List Addr} {fl : List (List Int)} {vf vl : List Value} {F L : List Int} {bx b' : Bool} {led : List (Addr × (Obj → Prop))}
    (C : Cx g Lx m ((t', isT [.bool bx, .ref f', .ref l']) :: (l', isL vl) :: (f', isL vf) :: led) h8) (hled : ∀ q ∈ FL fs₁ fl, q ∈ led) (eg : g = hideAll h fs₁) (eL : Lx = h.objs.size) (hl : fl.length = fs₁.length) (hfi : IntsAre vf F) (hli : IntsAre vl L) (hb : bx = b') :
    Ext fs₁ h h8 ∧ (∀ q ∈ FL fs₁ fl, At h8 q.1 q.2) ∧ (∀ q ∈ [(t', isT [.bool b', .ref f', .ref l']), (f', isI F), (l', isI L)], At h8 q.1 q.2 ∧ h.get? q.1 = none) ∧ [t', f', l'].Nodup := by
  subst hb
  have hfst := FL_fst hl
  have e8 := C.ext (led₀ := FL fs₁ fl) (by rw [hfst]; exact eg) eL
  rw [hfst] at e8
  have nd := C.nd
  simp only [List.map_cons, List.nodup_cons, List.mem_cons, not_or] at nd
  have fr : ∀ a P, (a, P) ∈ _ → a ∉ led.map (·.1) → h.get? a = none := fun a P hm hn => C.fresh (a := a) (P := P) (led₀ := FL fs₁ fl) (by rw [hfst]; exact eg) hm (fun q => by obtain ⟨q', hq', rfl⟩ := List.mem_map.mp q; exact hn (List.mem_map_of_mem (hled _ hq')))
  refine ⟨e8, fun q hq => C.ata (.tail _ (.tail _ (.tail _ (hled _ hq)))), fun q hq => ?_, by simp [nd]; exact fun q => nd.2.1.1 q.symm⟩
  simp only [List.mem_cons, List.not_mem_nil, or_false] at hq
  rcases hq with rfl | rfl | rfl
  · exact ⟨C.ata (.head _), fr t' _ (.head _) nd.1.2.2⟩
  · exact ⟨(C.ata (.tail _ (.tail _ (.head _)))).imp (isL_isI hfi), fr f' (isL vf) (.tail _ (.tail _ (.head _))) nd.2.2.1⟩
  · exact ⟨(C.ata (.tail _ (.head _))).imp (isL_isI hli), fr l' (isL vl) (.tail _ (.head _)) nd.2.1.2⟩
section
variable {w : World} {A : Around} {s : Shared} {h h₀ : Heap} {tk : Nat} {E : Value → Shared → Prop}
theorem marked_spec {au dx nm fo t f l : Addr} {fs₀ fs₁ : List Addr} {fl : List (List Int)} {b : Bool} {F L : List Int} {mk : Str} {tm : Tok} {Q : Value → Shared → Prop} (S : St w h₀ h) (ok : Ok A 30 60)
    (ho : At h au (isObj dx)) (hd : At h dx (isAt (bAttrs nm fo))) (hfo : At h fo (isID w (foKvs (fs₀ ++ fs₁))))
    (hat : ∀ q ∈ FL fs₁ fl, h₀.get? q.1 = none ∧ At h q.1 q.2) (nd : fs₁.Nodup) (hlen : fl.length = fs₁.length) (ht : At h t (isT [.bool b, .ref f, .ref l])) (hf : At h f (isI F)) (hl : At h l (isI L))
    (ne : ∀ a ∈ [au, dx, fo, t, f, l], a ∉ fs₁) (hL : ∀ p ∈ L, (fs₀.length : Int) < p ∧ p ≤ fs₀.length + fs₁.length) (hF : ∀ z ∈ F, 1 ≤ z ∧ z ≤ 40) (hfl : okL fl) (ndF : F.Nodup) (ndL : L.Nodup) (h40 : fs₀.length + fs₁.length ≤ 40)
    (k : ∀ h' tk' t' f' l' fl', Ext fs₁ h h' → fl'.length = fl.length → okL fl' → (∀ i z, z ∈ getF fl' i ↔ z ∈ getF fl i ∨ ((mk = "*" ∨ mk = "+") ∧ (fs₀.length : Int) + i + 1 ∈ L ∧ z ∈ F)) →
      (∀ q ∈ FL fs₁ fl', At h' q.1 q.2) → (∀ q ∈ [(t', isT [.bool (b || decide (mk = "?" ∨ mk = "*")), .ref f', .ref l']), (f', isI F), (l', isI L)], At h' q.1 q.2 ∧ h.get? q.1 = none) → [t', f', l'].Nodup → Q (.ref t') (stt s h' tk')) :
    wpAny (Md w) A (call (.ref 70) [.ref au, .ref t, .str mk tm]) Q E (stt s h tk) := by
  have hfst := FL_fst hlen
  refine' enterC (d := 29) (u := 57) (binds := [(Str.ofString "self", .ref au), (Str.ofString "found", .ref t), (Str.ofString "mark", .str mk tm)]) (FL fs₁ fl) S hat (by rw [hfst]; exact nd) ok ?ho ?hcd ?hb ?hl ?_ ?c2 ?c3 ?c4 ?c5
  walk_at "enter"
  intro g h₁ tk₁ A' l' eg W ok' fr C
  rw [hfst] at eg
  have Sg : St w h₀ g := S.of_hide fs₁ (fun x hx => by
    rw [← hfst] at hx
    obtain ⟨q, hq, rfl⟩ := List.mem_map.mp hx
    exact (hat q hq).1) eg
  have ho : At g au (isObj dx) := eg ▸ ho.hide (ne _ (by walk_at "mem"))
  have hd : At g dx (isAt (bAttrs nm fo)) := eg ▸ hd.hide (ne _ (by walk_at "mem"))
  have hfo : At g fo (isID w (foKvs (fs₀ ++ fs₁))) := eg ▸ hfo.hide (ne _ (by walk_at "mem"))
  have ht : At g t (isT [.bool b, .ref f, .ref l]) := eg ▸ ht.hide (ne _ (by walk_at "mem"))
  have hf : At g f (isI F) := eg ▸ hf.hide (ne _ (by walk_at "mem"))
  have hl : At g l (isI L) := eg ▸ hl.hide (ne _ (by walk_at "mem"))
  walk_at "go"
  refine u_tup ok'.hh C (C.atg ht) rfl rfl fun h2 C2 => ?_
  iterate 3 (refine u_more ?_; refine u_name ?_; walk_at "go")
  refine u_none ?_
  walk_at "go"
  obtain ⟨vf, hfl', hfi⟩ := hf.ints
  obtain ⟨vl, hll, hli⟩ := hl.ints
  have hFlen : F.length ≤ 40 := small_of ndF hF
  have hLlen : L.length ≤ 40 := small_of ndL fun z hz => by have := hL z hz; omega
  rename Cx _ _ _ _ _ => CT
  refine q_inT (CT.ata (.head _)) (by walk_at "strs") ?_
  walk_at "go"
  · rename_i hc
    have hmk : mk = "*" ∨ mk = "+" := by simpa using hc
    rename Cx _ _ _ _ _ => C3
    refine join_spec (C3.st Sg) (by walk_at "room") (C3.atg ho) (C3.atg hd) (C3.atg hfo) (fun q hq => ⟨C3.free Sg q (.tail _ hq), C3.ata (.tail _ hq)⟩) nd hlen (C3.atg hl) (C3.atg hf) (sixfive ne) hL hF hfl fun h4 tk4 fl4 x4 hl4 hat4 ok4 hz4 => ?_
    refine ⟨rfl, ?_⟩
    have C4 := Cx.behindF0 C3.drop x4 (fun a ha => ha) hlen hl4 hat4
    clear C3 C2 C
    walk_at "go"
    · rename_i hb
      rename Cx _ _ _ _ _ => C5
      refine b_list C5 (C5.atg hfl') (by rw [ints_len hfi, sizeLine_eq]; omega) fun h6 f' C6 => ?_
      walk_at "go"
      refine b_list C6 (C6.atg hll) (by rw [ints_len hli, sizeLine_eq]; omega) fun h7 l' C7 => ?_
      walk_at "go"
      rename_i t' C8
      obtain ⟨e8, at8, fr8, nd8⟩ := mark_end (b' := b || decide (mk = "?" ∨ mk = "*")) C8 (fun _ q => q) eg rfl (hl4.trans hlen) hfi hli (by simp [hb])
      exact k _ _ t' f' l' fl4 e8 hl4 ok4 (fun i z => by rw [hz4]; simp [hmk]) at8 fr8 nd8
    · rename_i hb _ _ _
      rename Cx _ _ _ _ _ => CT
      refine q_inT (CT.ata (.head _)) (by walk_at "strs") ?_
      walk_at "go"
      rename Cx _ _ _ _ _ => C5
      refine b_list C5 (C5.atg hfl') (by rw [ints_len hfi, sizeLine_eq]; omega) fun h6 f' C6 => ?_
      walk_at "go"
      refine b_list C6 (C6.atg hll) (by rw [ints_len hli, sizeLine_eq]; omega) fun h7 l' C7 => ?_
      walk_at "go"
      rename_i t' C8
      obtain ⟨e8, at8, fr8, nd8⟩ := mark_end (b' := b || decide (mk = "?" ∨ mk = "*")) C8 (fun _ q => .tail _ q) eg rfl (hl4.trans hlen) hfi hli (by simp [hb])
      exact k _ _ t' f' l' fl4 e8 hl4 ok4 (fun i z => by rw [hz4]; simp [hmk]) at8 fr8 nd8
  · rename_i hc hb
    have hmk : ¬ (mk = "*" ∨ mk = "+") := by simpa using hc
    rename Cx _ _ _ _ _ => C5
    refine b_list C5 (C5.atg hfl') (by rw [ints_len hfi, sizeLine_eq]; omega) fun h6 f' C6 => ?_
    walk_at "go"
    refine b_list C6 (C6.atg hll) (by rw [ints_len hli, sizeLine_eq]; omega) fun h7 l' C7 => ?_
    walk_at "go"
    rename_i t' C8
    obtain ⟨e8, at8, fr8, nd8⟩ := mark_end (b' := b || decide (mk = "?" ∨ mk = "*")) C8 (fun _ q => .tail _ q) eg rfl hlen hfi hli (by simp [hb])
    exact k _ _ t' f' l' fl e8 rfl hfl (fun i z => by simp [hmk]) at8 fr8 nd8
  · rename_i hc hb _ _ _
    have hmk : ¬ (mk = "*" ∨ mk = "+") := by simpa using hc
    rename Cx _ _ _ _ _ => CT
    refine q_inT (CT.ata (.head _)) (by walk_at "strs") ?_
    walk_at "go"
    rename Cx _ _ _ _ _ => C5
    refine b_list C5 (C5.atg hfl') (by rw [ints_len hfi, sizeLine_eq]; omega) fun h6 f' C6 => ?_
    walk_at "go"
    refine b_list C6 (C6.atg hll) (by rw [ints_len hli, sizeLine_eq]; omega) fun h7 l' C7 => ?_
    walk_at "go"
    rename_i t' C8
    obtain ⟨e8, at8, fr8, nd8⟩ := mark_end (b' := b || decide (mk = "?" ∨ mk = "*")) C8 (fun _ q => .tail _ (.tail _ q)) eg rfl hlen hfi hli (by simp [hb])
    exact k _ _ t' f' l' fl e8 rfl hfl (fun i z => by simp [hmk]) at8 fr8 nd8
end
section
set_option autoImplicit false
structure Frag where
  b : Bool
  F : Int → Prop
  L : Int → Prop
  fol : Int → Int → Prop
theorem Frag.eq {X Y : Frag} (hb : X.b = Y.b) (hF : ∀ z, X.F z ↔ Y.F z) (hL : ∀ z, X.L z ↔ Y.L z) (hf : ∀ y z, X.fol y z ↔ Y.fol y z) : X = Y := by
  cases X; cases Y
  simp only at hb hF hL hf
  obtain rfl := hb
  obtain rfl := funext fun z => propext (hF z)
  obtain rfl := funext fun z => propext (hL z)
  obtain rfl := funext fun y => funext fun z => propext (hf y z)
  rfl
inductive Path (nm : Int → Str) (X : Frag) : Int → List Str → Prop
  | last {z : Int} : X.L z → Path nm X z [nm z]
  | step {z z' : Int} {ws : List Str} : X.fol z z' → Path nm X z' ws → Path nm X z (nm z :: ws)
theorem Path.ne {nm : Int → Str} {X : Frag} {z : Int} {ws : List Str} (p : Path nm X z ws) : ws ≠ [] := by cases p <;> simp
def Frag.Lang (X : Frag) (nm : Int → Str) (ws : List Str) : Prop := (X.b = true ∧ ws = []) ∨ ∃ z, X.F z ∧ Path nm X z ws
structure Frag.In (X : Frag) (n m : Nat) : Prop where
  F : ∀ z, X.F z → (n : Int) < z ∧ z ≤ m
  L : ∀ z, X.L z → (n : Int) < z ∧ z ≤ m
  fol : ∀ y z, X.fol y z → ((n : Int) < y ∧ y ≤ m) ∧ ((n : Int) < z ∧ z ≤ m)
def Frag.Says (X : Frag) (n m : Nat) (nm0 : Int → Str) (O : List Str → Prop) : Prop := X.In n m ∧ ∀ nm : Int → Str, (∀ z : Int, n < z → z ≤ m → nm z = nm0 z) → ∀ ws, X.Lang nm ws ↔ O ws
theorem Frag.Says.nm {X : Frag} {n m : Nat} {nm0 nm1 : Int → Str} {O : List Str → Prop} (h : X.Says n m nm0 O) (e : ∀ z : Int, n < z → z ≤ m → nm0 z = nm1 z) : X.Says n m nm1 O :=
  ⟨h.1, fun nm q => h.2 nm fun z h1 h2 => (q z h1 h2).trans (e z h1 h2).symm⟩
theorem Frag.Says.congr {X : Frag} {n m : Nat} {nm0 : Int → Str} {O O' : List Str → Prop} (h : X.Says n m nm0 O) (e : ∀ ws, O ws ↔ O' ws) : X.Says n m nm0 O' := ⟨h.1, fun nm q ws => (h.2 nm q ws).trans (e ws)⟩
def eps : Frag := ⟨true, fun _ => False, fun _ => False, fun _ _ => False⟩
def void : Frag := ⟨false, fun _ => False, fun _ => False, fun _ _ => False⟩
theorem eps_says (n : Nat) (nm0 : Int → Str) : eps.Says n n nm0 (fun ws => ws = []) :=
  ⟨⟨fun _ h => h.elim, fun _ h => h.elim, fun _ _ h => h.elim⟩, fun nm _ ws => ⟨fun h => h.elim (·.2) fun ⟨_, h, _⟩ => h.elim, fun h => .inl ⟨rfl, h⟩⟩⟩
theorem void_says (n : Nat) (nm0 : Int → Str) : void.Says n n nm0 (fun _ => False) :=
  ⟨⟨fun _ h => h.elim, fun _ h => h.elim, fun _ _ h => h.elim⟩, fun nm _ ws => ⟨fun h => h.elim (fun h => nomatch h.1) fun ⟨_, h, _⟩ => h, False.elim⟩⟩
def one (p : Int) : Frag := ⟨false, fun z => z = p, fun z => z = p, fun _ _ => False⟩
theorem one_says (n : Nat) (nm0 : Int → Str) : (one (n + 1)).Says n (n + 1) nm0 (fun ws => ws = [nm0 (n + 1)]) := by
  refine ⟨⟨fun z h => ?_, fun z h => ?_, fun _ _ h => h.elim⟩, fun nm e ws => ⟨fun h => ?_, fun h => .inr ⟨n + 1, rfl, ?_⟩⟩⟩
  · obtain rfl : z = n + 1 := h; omega
  · obtain rfl : z = n + 1 := h; omega
  · rcases h with h | ⟨z, hz, p⟩
    · exact nomatch h.1
    · obtain rfl : z = n + 1 := hz
      cases p with
      | last _ => rw [e _ (by omega) (by omega)]
      | step f _ => exact f.elim
  · subst h
    rw [← e _ (by omega) (by omega)]
    exact .last rfl
def cat (X Y : Frag) : Frag := ⟨X.b && Y.b, fun z => X.F z ∨ (X.b = true ∧ Y.F z), fun z => (Y.b = true ∧ X.L z) ∨ Y.L z, fun y z => X.fol y z ∨ Y.fol y z ∨ (X.L y ∧ Y.F z)⟩
theorem cat_says {X Y : Frag} {n m k : Nat} {nm0 : Int → Str} {O O' : List Str → Prop} (hX : X.Says n m nm0 O) (hY : Y.Says m k nm0 O') (h1 : n ≤ m) (h2 : m ≤ k) :
    (cat X Y).Says n k nm0 (fun ws => ∃ i, i ≤ ws.length ∧ O (ws.take i) ∧ O' (ws.drop i)) := by
  obtain ⟨iX, lX⟩ := hX
  obtain ⟨iY, lY⟩ := hY
  refine ⟨⟨fun z h => ?_, fun z h => ?_, fun y z h => ?_⟩, fun nm e ws => ?_⟩
  · rcases h with h | ⟨_, h⟩
    · have := iX.F z h; omega
    · have := iY.F z h; omega
  · rcases h with ⟨_, h⟩ | h
    · have := iX.L z h; omega
    · have := iY.L z h; omega
  · rcases h with h | h | ⟨h, h'⟩
    · have := iX.fol y z h; omega
    · have := iY.fol y z h; omega
    · have := iX.L y h; have := iY.F z h'; omega
  have lX := lX nm fun z q1 q2 => e z q1 (by omega)
  have lY := lY nm fun z q1 q2 => e z (by omega) q2
  have B : ∀ z vs, Path nm (cat X Y) z vs → (m : Int) < z → Path nm Y z vs := by
    intro z vs p
    induction p with
    | @last z h =>
      intro hz
      rcases h with ⟨_, h⟩ | h
      · have := iX.L z h; omega
      · exact .last h
    | @step z z' ws h p ih =>
      intro hz
      rcases h with h | h | ⟨h, h'⟩
      · have := iX.fol z z' h; omega
      · have := iY.fol z z' h; exact .step h (ih (by omega))
      · have := iX.L z h; omega
  have A : ∀ z vs, Path nm (cat X Y) z vs → z ≤ m → ∃ u v, vs = u ++ v ∧ Path nm X z u ∧ Y.Lang nm v := by
    intro z vs p
    induction p with
    | @last z h =>
      intro hz
      rcases h with ⟨h', h⟩ | h
      · exact ⟨[nm z], [], rfl, .last h, .inl ⟨h', rfl⟩⟩
      · have := iY.L z h; omega
    | @step z z' ws h p ih =>
      intro hz
      rcases h with h | h | ⟨h, h'⟩
      · have := iX.fol z z' h
        obtain ⟨u, v, e1, p1, p2⟩ := ih (by omega)
        exact ⟨nm z :: u, v, by rw [e1]; rfl, .step h p1, p2⟩
      · have := iY.fol z z' h; omega
      · exact ⟨[nm z], ws, rfl, .last h, .inr ⟨z', h', B _ _ p (iY.F z' h').1⟩⟩
  have U : ∀ z vs, Path nm Y z vs → Path nm (cat X Y) z vs := by
    intro z vs p
    induction p with
    | last h => exact .last (.inr h)
    | step h _ ih => exact .step (.inr (.inl h)) ih
  have V : ∀ z vs, Path nm X z vs → Y.b = true → Path nm (cat X Y) z vs := by
    intro z vs p hb
    induction p with
    | last h => exact .last (.inl ⟨hb, h⟩)
    | step h _ ih => exact .step (.inl h) ih
  have J : ∀ z vs z' ws, Path nm X z vs → Y.F z' → Path nm (cat X Y) z' ws → Path nm (cat X Y) z (vs ++ ws) := by
    intro z vs z' ws p hF q
    induction p with
    | last h => exact .step (.inr (.inr ⟨h, hF⟩)) q
    | step h _ ih => exact .step (.inl h) ih
  constructor
  · rintro (⟨hb, rfl⟩ | ⟨z, hz, p⟩)
    · have hb : X.b = true ∧ Y.b = true := by simpa [cat] using hb
      exact ⟨0, Nat.le_refl _, (lX _).mp (.inl ⟨hb.1, rfl⟩), (lY _).mp (.inl ⟨hb.2, rfl⟩)⟩
    · rcases hz with hz | ⟨hb, hz⟩
      · obtain ⟨u, v, rfl, p1, p2⟩ := A z ws p (iX.F z hz).2
        refine ⟨u.length, by simp, ?_, ?_⟩
        · rw [List.take_left]; exact (lX _).mp (.inr ⟨z, hz, p1⟩)
        · rw [List.drop_left]; exact (lY _).mp p2
      · exact ⟨0, Nat.zero_le _, (lX _).mp (.inl ⟨hb, rfl⟩), (lY _).mp (.inr ⟨z, hz, B z ws p (iY.F z hz).1⟩)⟩
  · rintro ⟨i, hi, o1, o2⟩
    have o1 := (lX _).mpr o1
    have o2 := (lY _).mpr o2
    rw [← List.take_append_drop i ws]
    generalize ws.take i = u at o1
    generalize ws.drop i = v at o2
    rcases o1 with ⟨b1, rfl⟩ | ⟨z1, f1, p1⟩
    · rcases o2 with ⟨b2, rfl⟩ | ⟨z2, f2, p2⟩
      · exact .inl ⟨by simp [cat, b1, b2], rfl⟩
      · exact .inr ⟨z2, .inr ⟨b1, f2⟩, U _ _ p2⟩
    · rcases o2 with ⟨b2, rfl⟩ | ⟨z2, f2, p2⟩
      · rw [List.append_nil]; exact .inr ⟨z1, .inl f1, V _ _ p1 b2⟩
      · exact .inr ⟨z1, .inl f1, J _ _ _ _ p1 f2 (U _ _ p2)⟩
def alt (X Y : Frag) : Frag := ⟨X.b || Y.b, fun z => X.F z ∨ Y.F z, fun z => X.L z ∨ Y.L z, fun y z => X.fol y z ∨ Y.fol y z⟩
theorem alt_says {X Y : Frag} {n m k : Nat} {nm0 : Int → Str} {O O' : List Str → Prop} (hX : X.Says n m nm0 O) (hY : Y.Says m k nm0 O') (h1 : n ≤ m) (h2 : m ≤ k) :
    (alt X Y).Says n k nm0 (fun ws => O ws ∨ O' ws) := by
  obtain ⟨iX, lX⟩ := hX
  obtain ⟨iY, lY⟩ := hY
  refine ⟨⟨fun z h => ?_, fun z h => ?_, fun y z h => ?_⟩, fun nm e ws => ?_⟩
  · rcases h with h | h
    · have := iX.F z h; omega
    · have := iY.F z h; omega
  · rcases h with h | h
    · have := iX.L z h; omega
    · have := iY.L z h; omega
  · rcases h with h | h
    · have := iX.fol y z h; omega
    · have := iY.fol y z h; omega
  have lX := lX nm fun z q1 q2 => e z q1 (by omega)
  have lY := lY nm fun z q1 q2 => e z (by omega) q2
  have B : ∀ z vs, Path nm (alt X Y) z vs → (m : Int) < z → Path nm Y z vs := by
    intro z vs p
    induction p with
    | @last z h =>
      intro hz
      rcases h with h | h
      · have := iX.L z h; omega
      · exact .last h
    | @step z z' ws h p ih =>
      intro hz
      rcases h with h | h
      · have := iX.fol z z' h; omega
      · have := iY.fol z z' h; exact .step h (ih (by omega))
  have A : ∀ z vs, Path nm (alt X Y) z vs → z ≤ m → Path nm X z vs := by
    intro z vs p
    induction p with
    | @last z h =>
      intro hz
      rcases h with h | h
      · exact .last h
      · have := iY.L z h; omega
    | @step z z' ws h p ih =>
      intro hz
      rcases h with h | h
      · have := iX.fol z z' h; exact .step h (ih (by omega))
      · have := iY.fol z z' h; omega
  have U : ∀ z vs, Path nm Y z vs → Path nm (alt X Y) z vs := by
    intro z vs p
    induction p with
    | last h => exact .last (.inr h)
    | step h _ ih => exact .step (.inr h) ih
  have V : ∀ z vs, Path nm X z vs → Path nm (alt X Y) z vs := by
    intro z vs p
    induction p with
    | last h => exact .last (.inl h)
    | step h _ ih => exact .step (.inl h) ih
  show _ ↔ O ws ∨ O' ws
  rw [← lX, ← lY]
  constructor
  · rintro (⟨hb, rfl⟩ | ⟨z, hz | hz, p⟩)
    · have hb : X.b = true ∨ Y.b = true := by simpa [alt] using hb
      exact hb.elim (fun q => .inl (.inl ⟨q, rfl⟩)) fun q => .inr (.inl ⟨q, rfl⟩)
    · exact .inl (.inr ⟨z, hz, A z ws p (iX.F z hz).2⟩)
    · exact .inr (.inr ⟨z, hz, B z ws p (iY.F z hz).1⟩)
  · rintro ((⟨hb, rfl⟩ | ⟨z, hz, p⟩) | (⟨hb, rfl⟩ | ⟨z, hz, p⟩))
    · exact .inl ⟨by simp [alt, hb], rfl⟩
    · exact .inr ⟨z, .inl hz, V _ _ p⟩
    · exact .inl ⟨by simp [alt, hb], rfl⟩
    · exact .inr ⟨z, .inr hz, U _ _ p⟩
def star (X : Frag) (mk : Str) : Frag := ⟨X.b || decide (mk = "?" ∨ mk = "*"), X.F, X.L, fun y z => X.fol y z ∨ ((mk = "*" ∨ mk = "+") ∧ X.L y ∧ X.F z)⟩
theorem star_says {X : Frag} {n m : Nat} {nm0 : Int → Str} {O : List Str → Prop} {mk : Str} (hmk : mk ∈ ([Str.ofString "", Str.ofString "?", Str.ofString "*", Str.ofString "+"] : List Str)) (hX : X.Says n m nm0 O) : (star X mk).Says n m nm0 (Rep O mk) := by
  obtain ⟨iX, lX⟩ := hX
  refine ⟨⟨iX.F, iX.L, fun y z h => ?_⟩, fun nm e ws => ?_⟩
  · rcases h with h | ⟨_, h, h'⟩
    · exact iX.fol y z h
    · exact ⟨iX.L y h, iX.F z h'⟩
  have lX := lX nm e
  have A : ∀ z vs, Path nm (star X mk) z vs → ∃ u v, vs = u ++ v ∧ Path nm X z u ∧ (v = [] ∨ ((mk = "*" ∨ mk = "+") ∧ ∃ z', X.F z' ∧ Path nm (star X mk) z' v)) := by
    intro z vs p
    induction p with
    | @last z h => exact ⟨[nm z], [], rfl, .last h, .inl rfl⟩
    | @step z z' ws h p ih =>
      rcases h with h | ⟨h, h', h''⟩
      · obtain ⟨u, v, e1, p1, p2⟩ := ih
        exact ⟨nm z :: u, v, by rw [e1]; rfl, .step h p1, p2⟩
      · exact ⟨[nm z], ws, rfl, .last h', .inr ⟨h, z', h'', p⟩⟩
  have U : ∀ z vs, Path nm X z vs → Path nm (star X mk) z vs := by
    intro z vs p
    induction p with
    | last h => exact .last h
    | step h _ ih => exact .step (.inl h) ih
  have J : ∀ z vs z' ws, Path nm X z vs → (mk = "*" ∨ mk = "+") → X.F z' → Path nm (star X mk) z' ws → Path nm (star X mk) z (vs ++ ws) := by
    intro z vs z' ws p hk hF q
    induction p with
    | last h => exact .step (.inr ⟨hk, h, hF⟩) q
    | step h _ ih => exact .step (.inl h) ih
  constructor
  · have key : ∀ (c : Nat) (vs : List Str), vs.length ≤ c → ∀ z, X.F z → Path nm (star X mk) z vs → Rep O mk vs := by
      intro c
      induction c with
      | zero => intro vs h z _ p; exact absurd (List.eq_nil_of_length_eq_zero (by omega)) p.ne
      | succ c ih =>
        intro vs h z hz p
        obtain ⟨u, v, rfl, p1, p2⟩ := A z vs p
        have ou := (lX u).mp (.inr ⟨z, hz, p1⟩)
        rcases p2 with rfl | ⟨hk, z', hz', p2⟩
        · rw [List.append_nil]; exact .one ou
        · have lu : 0 < u.length := List.length_pos_iff.mpr p1.ne
          have lv : 0 < v.length := List.length_pos_iff.mpr p2.ne
          rw [List.length_append] at h
          refine .more (i := u.length) ?_ lu (by rw [List.length_append]; omega) (by rw [List.take_left]; exact ou) ?_
          · rcases hk with rfl | rfl <;> decide
          · rw [List.drop_left]; exact ih v (by omega) z' hz' p2
    rintro (⟨hb, rfl⟩ | ⟨z, hz, p⟩)
    · have hb : X.b = true ∨ (mk = "?" ∨ mk = "*") := by simpa [star] using hb
      rcases hb with hb | hb
      · exact .one ((lX _).mp (.inl ⟨hb, rfl⟩))
      · exact .nil hb
    · exact key _ ws (Nat.le_refl _) z hz p
  · intro r
    induction r with
    | nil h => exact .inl ⟨by simp [star, h], rfl⟩
    | @one ws h =>
      rcases (lX _).mpr h with ⟨hb, rfl⟩ | ⟨z, hz, p⟩
      · exact .inl ⟨by simp [star, hb], rfl⟩
      · exact .inr ⟨z, hz, U _ _ p⟩
    | @more ws i h1 h2 h3 h4 _ ih =>
      have hk : mk = "*" ∨ mk = "+" := by
        simp only [List.mem_cons, List.not_mem_nil, or_false] at hmk
        rcases hmk with q | q | q | q
        · exact absurd (.inl q) h1
        · exact absurd (.inr q) h1
        · exact .inl q
        · exact .inr q
      rcases (lX _).mpr h4 with ⟨_, hb⟩ | ⟨z, hz, p⟩
      · have := congrArg List.length hb; rw [List.length_take, List.length_nil] at this; omega
      rcases ih with ⟨_, hb⟩ | ⟨z', hz', p'⟩
      · have := congrArg List.length hb; rw [List.length_drop, List.length_nil] at this; omega
      rw [← List.take_append_drop i ws]
      exact .inr ⟨z, hz, J _ _ _ _ p hk hz' p'⟩
theorem rowFits_append : ∀ (xs ys : List Pt) (ws : List Str), RowFits (xs ++ ys) ws ↔ ∃ i, i ≤ ws.length ∧ RowFits xs (ws.take i) ∧ RowFits ys (ws.drop i)
  | [], ys, ws => by
    rw [List.nil_append]
    constructor
    · intro h; exact ⟨0, Nat.zero_le _, by simp [RowFits], h⟩
    · rintro ⟨i, h1, h2, h3⟩
      rw [RowFits] at h2
      have := congrArg List.length h2
      rw [List.length_take, List.length_nil] at this
      obtain rfl : i = 0 := by omega
      exact h3
  | x :: xs, ys, ws => by
    rw [List.cons_append, RowFits]
    constructor
    · rintro ⟨i, h1, h2, h3⟩
      obtain ⟨j, q1, q2, q3⟩ := (rowFits_append xs ys _).mp h3
      rw [List.length_drop] at q1
      refine ⟨i + j, by omega, ?_, ?_⟩
      · rw [RowFits]
        refine ⟨i, by rw [List.length_take]; omega, ?_, ?_⟩
        · rw [List.take_take, Nat.min_eq_left (by omega)]; exact h2
        · rw [List.drop_take, Nat.add_sub_cancel_left]; exact q2
      · rw [List.drop_drop] at q3; exact q3
    · rintro ⟨i, h1, h2, h3⟩
      rw [RowFits] at h2
      obtain ⟨j, q1, q2, q3⟩ := h2
      rw [List.length_take] at q1
      rw [List.take_take, Nat.min_eq_left (by omega)] at q2
      refine ⟨j, by omega, q2, (rowFits_append xs ys _).mpr ⟨i - j, by rw [List.length_drop]; omega, ?_, ?_⟩⟩
      · rw [List.drop_take] at q3; exact q3
      · rw [List.drop_drop, Nat.add_sub_cancel' (by omega)]; exact h3
theorem rowFits_snoc (xs : List Pt) (p : Pt) (ws : List Str) : RowFits (xs ++ [p]) ws ↔ ∃ i, i ≤ ws.length ∧ RowFits xs (ws.take i) ∧ Fits p (ws.drop i) := by
  rw [rowFits_append]
  have : ∀ vs, RowFits [p] vs ↔ Fits p vs := by
    intro vs
    rw [RowFits]
    constructor
    · rintro ⟨i, h1, h2, h3⟩
      rw [RowFits] at h3
      have := congrArg List.length h3
      rw [List.length_drop, List.length_nil] at this
      obtain rfl : i = vs.length := by omega
      rw [List.take_length] at h2; exact h2
    · intro h; exact ⟨vs.length, Nat.le_refl _, by rw [List.take_length]; exact h, by rw [List.drop_length]; simp [RowFits]⟩
  simp only [this]
theorem anyFits_snoc (xs : List Pt) (p : Pt) (ws : List Str) : AnyFits (xs ++ [p]) ws ↔ AnyFits xs ws ∨ Fits p ws := by
  simp only [anyFits_iff, List.mem_append, List.mem_singleton]
  constructor
  · rintro ⟨q, h | rfl, h'⟩
    · exact .inl ⟨q, h, h'⟩
    · exact .inr h'
  · rintro (⟨q, h, h'⟩ | h)
    · exact ⟨q, .inl h, h'⟩
    · exact ⟨p, .inr rfl, h⟩
-- how many names stand in it
mutual
def cnt : Pt → Nat
  | .name _ _ => 1
  | .seq ps _ => cnts ps
  | .choice ps _ => cnts ps
def cnts : List Pt → Nat
  | [] => 0
  | p :: ps => cnt p + cnts ps
end
theorem cnts_append : ∀ (xs ys : List Pt), cnts (xs ++ ys) = cnts xs + cnts ys
  | [], ys => by simp [cnts]
  | x :: xs, ys => by rw [List.cons_append, cnts, cnts, cnts_append xs ys]; omega
end
def nmOf (names : List Str) : Int → Str := fun p => names[(p - 1).toNat]?.getD Str.empty
theorem nmOf_app (names more : List Str) {z : Int} (h0 : 1 ≤ z) (h1 : z ≤ names.length) : nmOf names z = nmOf (names ++ more) z := by
  unfold nmOf
  rw [List.getElem?_append_left (by omega)]
/-- a fragment from its lists, places from n + 1 on -/
def frag (n : Nat) (b : Bool) (F L : List Int) (fl : List (List Int)) : Frag := ⟨b, fun z => z ∈ F, fun z => z ∈ L, fun y z => (n : Int) < y ∧ z ∈ getF fl (y - n - 1).toNat⟩
theorem frag_star {n : Nat} {b : Bool} {F L : List Int} {fl fl' : List (List Int)} {mk : Str} (hL : ∀ p ∈ L, (n : Int) < p) (hz : ∀ (i : Nat) z, z ∈ getF fl' i ↔ z ∈ getF fl i ∨ ((mk = "*" ∨ mk = "+") ∧ (n : Int) + i + 1 ∈ L ∧ z ∈ F)) :
    frag n (b || decide (mk = "?" ∨ mk = "*")) F L fl' = star (frag n b F L fl) mk := by
  refine Frag.eq rfl (fun _ => Iff.rfl) (fun _ => Iff.rfl) fun y z => ?_
  show _ ∧ _ ↔ (_ ∧ _) ∨ (_ ∧ y ∈ L ∧ z ∈ F)
  rw [hz]
  constructor
  · rintro ⟨h, q | ⟨h1, h2, h3⟩⟩
    · exact .inl ⟨h, q⟩
    · rw [show (n : Int) + (y - n - 1).toNat + 1 = y by omega] at h2
      exact .inr ⟨h1, h2, h3⟩
  · rintro (⟨h, q⟩ | ⟨h1, h2, h3⟩)
    · exact ⟨h, .inl q⟩
    · have := hL y h2
      refine ⟨this, .inr ⟨h1, ?_, h3⟩⟩
      rw [show (n : Int) + (y - n - 1).toNat + 1 = y by omega]; exact h2
theorem getF_app {fl₁ fl₂ : List (List Int)} (i : Nat) : getF (fl₁ ++ fl₂) i = if i < fl₁.length then getF fl₁ i else getF fl₂ (i - fl₁.length) := by
  unfold getF
  split
  · rename_i h; rw [List.getElem?_append_left h]
  · rename_i h; rw [List.getElem?_append_right (by omega)]
theorem getF_none {fl : List (List Int)} {i : Nat} (h : fl.length ≤ i) : getF fl i = [] := by unfold getF; rw [List.getElem?_eq_none h]; rfl
theorem fol_app {n c : Nat} {fl₁ fl₂ : List (List Int)} (hc : fl₁.length = c) (y z : Int) : ((n : Int) < y ∧ z ∈ getF (fl₁ ++ fl₂) (y - n - 1).toNat) ↔ ((n : Int) < y ∧ z ∈ getF fl₁ (y - n - 1).toNat) ∨ (((n + c : Nat) : Int) < y ∧ z ∈ getF fl₂ (y - (n + c : Nat) - 1).toNat) := by
  by_cases hy : (n : Int) < y
  · obtain ⟨k, rfl⟩ : ∃ k : Nat, y = n + 1 + k := ⟨(y - n - 1).toNat, by omega⟩
    rw [show ((n : Int) + 1 + k - n - 1).toNat = k by omega, getF_app]
    by_cases q : k < fl₁.length
    · rw [if_pos q]
      exact ⟨.inl, fun h => h.elim id fun h => by have := h.1; omega⟩
    · rw [if_neg q, getF_none (fl := fl₁) (Nat.le_of_not_lt q)]
      obtain ⟨j, rfl⟩ : ∃ j, k = fl₁.length + j := ⟨k - fl₁.length, by omega⟩
      subst hc
      rw [Nat.add_sub_cancel_left, show ((n : Int) + 1 + (fl₁.length + j : Nat) - (n + fl₁.length : Nat) - 1).toNat = j by omega]
      exact ⟨fun h => .inr ⟨by omega, h.2⟩, fun h => h.elim (fun h => nomatch h.2) fun h => ⟨hy, h.2⟩⟩
  · exact ⟨fun h => absurd h.1 hy, fun h => h.elim (fun h => absurd h.1 hy) fun h => absurd (by have := h.1; omega) hy⟩
theorem frag_cat {n c : Nat} {b b2 : Bool} {F L F2 L2 F' L' : List Int} {fl₁ fl₂ fl' : List (List Int)} (hc : fl₁.length = c) (hL : ∀ p ∈ L, (n : Int) < p)
    (hz : ∀ (i : Nat) z, z ∈ getF fl' i ↔ z ∈ getF (fl₁ ++ fl₂) i ∨ ((n : Int) + i + 1 ∈ L ∧ z ∈ F2)) (hF' : ∀ z, z ∈ F' ↔ z ∈ F ∨ (b = true ∧ z ∈ F2)) (hL' : ∀ z, z ∈ L' ↔ (b2 = true ∧ z ∈ L) ∨ z ∈ L2) :
    frag n (b && b2) F' L' fl' = cat (frag n b F L fl₁) (frag (n + c) b2 F2 L2 fl₂) := by
  refine Frag.eq rfl hF' hL' fun y z => ?_
  show (n : Int) < y ∧ _ ↔ (_ ∧ _) ∨ (_ ∧ _) ∨ (y ∈ L ∧ z ∈ F2)
  rw [← or_assoc, ← fol_app hc, hz]
  constructor
  · rintro ⟨h, q | ⟨h2, h3⟩⟩
    · exact .inl ⟨h, q⟩
    · rw [show (n : Int) + (y - n - 1).toNat + 1 = y by omega] at h2
      exact .inr ⟨h2, h3⟩
  · rintro (⟨h, q⟩ | ⟨h2, h3⟩)
    · exact ⟨h, .inl q⟩
    · have := hL y h2
      refine ⟨this, .inr ⟨?_, h3⟩⟩
      rw [show (n : Int) + (y - n - 1).toNat + 1 = y by omega]; exact h2
theorem frag_alt {n c : Nat} {b b2 : Bool} {F L F2 L2 F' L' : List Int} {fl₁ fl₂ : List (List Int)} (hc : fl₁.length = c) (hF' : ∀ z, z ∈ F' ↔ z ∈ F ∨ z ∈ F2) (hL' : ∀ z, z ∈ L' ↔ z ∈ L ∨ z ∈ L2) :
    frag n (b || b2) F' L' (fl₁ ++ fl₂) = alt (frag n b F L fl₁) (frag (n + c) b2 F2 L2 fl₂) :=
  Frag.eq rfl hF' hL' fun y z => fol_app hc y z
theorem frag_one (n : Nat) : frag n false [(n : Int) + 1] [(n : Int) + 1] [[]] = one (n + 1) := by
  refine Frag.eq rfl (fun z => by simp [frag, one]) (fun z => by simp [frag, one]) fun y z => ?_
  constructor
  · rintro ⟨_, h⟩
    unfold getF at h
    cases q : (y - n - 1).toNat with
    | zero => rw [q] at h; simp at h
    | succ k => rw [q] at h; simp at h
  · exact fun h => h.elim
theorem foKvs_snoc (fs : List Addr) (a : Addr) : stored (foKvs fs) ((fs.length : Int) + 1) (.ref a) = foKvs (fs ++ [a]) := by
  have no : (foKvs fs).any (fun kv => decide (kv.1 = (fs.length : Int) + 1)) = false := by
    rw [List.any_eq_false]
    intro kv hkv
    unfold foKvs at hkv
    obtain ⟨p, hp, rfl⟩ := List.mem_map.mp hkv
    have := List.snd_lt_of_mem_zipIdx hp
    simp only [decide_eq_true_eq]; omega
  unfold stored
  rw [no]
  simp [foKvs, List.zipIdx_append]
structure ROut (w : World) (h h' : Heap) (nm fo : Addr) (fs : List Addr) (names : List Str) (c : Nat) (O : List Str → Prop) (t f l : Addr) (fs₁ : List Addr) (names₁ : List Str) (fl₁ : List (List Int)) (b : Bool) (F L : List Int) : Prop where
  ext : Ext [nm, fo] h h'
  n : At h' nm (isS (names ++ names₁))
  fo : At h' fo (isID w (foKvs (fs ++ fs₁)))
  lf : fs₁.length = c
  ln : names₁.length = c
  ll : fl₁.length = c
  new : ∀ q ∈ ((t, isT [.bool b, .ref f, .ref l]) :: (f, isI F) :: (l, isI L) :: FL fs₁ fl₁), At h' q.1 q.2 ∧ h.get? q.1 = none
  nd : (t :: f :: l :: fs₁).Nodup
  okl : okL fl₁
  ndF : F.Nodup
  ndL : L.Nodup
  says : (frag names.length b F L fl₁).Says names.length (names.length + c) (nmOf (names ++ names₁)) O
theorem Cx.behindAt {h h' g : Heap} {L a : Addr} {m : Str → Option Value} {P P' : Obj → Prop} {led₁ led₂ : List (Addr × (Obj → Prop))} (C : Cx g L m (led₁ ++ (a, P) :: led₂) h) (x : Ext [a] h h') (hp : At h' a P') : Cx g L m (led₁ ++ (a, P') :: led₂) h' := by
  have C1 : Cx g L m ((a, P) :: (led₁ ++ led₂)) h := C.perm (List.perm_middle.symm)
  have C2 : Cx g L m ((a, P') :: (led₁ ++ led₂)) h' := Cx.behind (led₁ := [(a, P)]) (led₂ := [(a, P')]) (led := led₁ ++ led₂) C1 x rfl (by simpa using hp)
  exact C2.perm (List.perm_middle)
theorem Cx.behindFT {h h' g : Heap} {L : Addr} {m : Str → Option Value} {led : List (Addr × (Obj → Prop))} {fs : List Addr} {fl fl' : List (List Int)} {X : List Addr} (C : Cx g L m (led ++ FL fs fl) h) (x : Ext X h h') (hX : ∀ a ∈ X, a ∈ fs) (e : fl.length = fs.length) (e' : fl'.length = fl.length) (hat : ∀ q ∈ FL fs fl', At h' q.1 q.2) : Cx g L m (led ++ FL fs fl') h' :=
  ((C.perm List.perm_append_comm).behindF x hX e e' hat).perm List.perm_append_comm
theorem permC {α : Type} (T A F1 F2 : List α) : (A ++ (T ++ (F1 ++ F2))).Perm ((T ++ F2) ++ (A ++ F1)) :=
  (List.perm_append_comm_assoc A T (F1 ++ F2)).trans (by rw [List.append_assoc T F2, ← List.append_assoc A F1 F2]; exact List.perm_append_comm.append_left T)
section
variable {w : World} {A : Around} {s : Shared} {h h₀ hx g : Heap} {L0 : Addr} {m : Str → Option Value} {tk : Nat} {E : Value → Shared → Prop}
theorem mark_tail {au dx nm fo t f l : Addr} {fs fs₁ : List Addr} {names names₁ : List Str} {c : Nat} {fl : List (List Int)} {b : Bool} {F L : List Int} {mk : Str} {tm : Tok} {O : List Str → Prop} {Q : Value → Shared → Prop}
    (C : Cx g L0 m ([(nm, isS (names ++ names₁)), (fo, isID w (foKvs (fs ++ fs₁))), (t, isT [.bool b, .ref f, .ref l]), (f, isI F), (l, isI L)] ++ FL fs₁ fl) hx) (Sg : St w h₀ g) (ok : Ok A 30 60) (ho : At g au (isObj dx)) (hd : At g dx (isAt (bAttrs nm fo)))
    (eg : g = hideAll h [nm, fo]) (eL : L0 = h.objs.size) (lf : fs₁.length = c) (ln : names₁.length = c) (ll : fl.length = c) (lfs : fs.length = names.length) (okl : okL fl) (ndF : F.Nodup) (ndL : L.Nodup) (h40 : names.length + c ≤ 40)
    (hmk : mk ∈ marks) (says : (frag names.length b F L fl).Says names.length (names.length + c) (nmOf (names ++ names₁)) O)
    (k : ∀ h' tk' t' f' l' fl' b', ROut w h h' nm fo fs names c (Rep O mk) t' f' l' fs₁ names₁ fl' b' F L → Q (.ref t') (stt s h' tk')) :
    wpAny (Md w) A (call (.ref 70) [.ref au, .ref t, .str mk tm]) Q E (stt s hx tk) := by
  have hlen : fl.length = fs₁.length := ll.trans lf.symm
  have nd := C.nd
  rw [List.map_append, FL_fst hlen, List.nodup_append] at nd
  have off : ∀ a P, (a, P) ∈ [(nm, isS (names ++ names₁)), (fo, isID w (foKvs (fs ++ fs₁))), (t, isT [.bool b, .ref f, .ref l]), (f, isI F), (l, isI L)] → a ∉ fs₁ := fun a P hm q => nd.2.2 a (List.mem_map.mpr ⟨_, hm, rfl⟩) _ q rfl
  have offg : ∀ a P, At g a P → a ∉ fs₁ := fun a P hP q => by
    have : a ∈ (FL fs₁ fl).map (·.1) := by rw [FL_fst hlen]; exact q
    obtain ⟨q', hq', rfl⟩ := List.mem_map.mp this
    have := (C.at_ q' (List.mem_append_right _ hq')).2.1
    obtain ⟨o, e, _⟩ := hP
    rw [this] at e; cases e
  have mfo : At hx fo (isID w (foKvs (fs ++ fs₁))) := C.ata (.tail _ (.head _))
  have mt : At hx t (isT [.bool b, .ref f, .ref l]) := C.ata (.tail _ (.tail _ (.head _)))
  have mf : At hx f (isI F) := C.ata (.tail _ (.tail _ (.tail _ (.head _))))
  have ml : At hx l (isI L) := C.ata (.tail _ (.tail _ (.tail _ (.tail _ (.head _)))))
  have inF := says.1.F
  have inL := says.1.L
  refine marked_spec (fs₀ := fs) (C.st Sg) ok (C.atg ho) (C.atg hd) mfo (fun q hq => ⟨C.free Sg q (List.mem_append_right _ hq), C.ata (List.mem_append_right _ hq)⟩) nd.2.1 hlen mt mf ml
    (fun a ha => ?_) (fun p hp => by have := inL p hp; omega) (fun z hz => by have := inF z hz; omega) okl ndF ndL (by omega) fun h' tk' t' f' l' fl' x hl' okl' hz hat hnew hnd => ?_
  · simp only [List.mem_cons, List.not_mem_nil, or_false] at ha
    rcases ha with rfl | rfl | rfl | rfl | rfl | rfl
    · exact offg _ _ ho
    · exact offg _ _ hd
    · exact off _ _ (by simp; exact .inr (.inl rfl))
    · exact off _ _ (by simp; exact .inr (.inr (.inl rfl)))
    · exact off _ _ (by simp; exact .inr (.inr (.inr (.inl rfl))))
    · exact off _ _ (by simp; exact .inr (.inr (.inr (.inr rfl))))
  have C2 := C.behindFT x (fun a ha => ha) hlen hl' hat
  have C3 := C.mades C2 (by rw [List.map_append, List.map_append, FL_fst hlen, FL_fst (hl'.trans hlen)]) hnew (by simpa using hnd)
  have nd3 := C3.nd
  rw [List.map_append, List.map_append, FL_fst (hl'.trans hlen), List.nodup_append, List.nodup_append] at nd3
  refine k h' tk' t' f' l' fl' (b || decide (mk = "?" ∨ mk = "*")) ⟨?_, C3.ata (by simp), C3.ata (by simp), lf, ln, hl'.trans ll, fun q hq => ?_, ?_, okl', ndF, ndL, ?_⟩
  · exact C3.ext (led₀ := [(nm, isS names), (fo, isS names)]) eg eL
  · have hm : q ∈ [(t', isT [.bool (b || decide (mk = "?" ∨ mk = "*")), .ref f', .ref l']), (f', isI F), (l', isI L)] ∨ q ∈ FL fs₁ fl' := by
      simp only [List.mem_cons] at hq ⊢
      rcases hq with q | q | q | q
      · exact .inl (.inl q)
      · exact .inl (.inr (.inl q))
      · exact .inl (.inr (.inr (.inl q)))
      · exact .inr q
    have hm' : (q.1, q.2) ∈ ([(t', isT [.bool (b || decide (mk = "?" ∨ mk = "*")), .ref f', .ref l']), (f', isI F), (l', isI L)] ++ ([(nm, isS (names ++ names₁)), (fo, isID w (foKvs (fs ++ fs₁))), (t, isT [.bool b, .ref f, .ref l]), (f, isI F), (l, isI L)] ++ FL fs₁ fl')) := by
      rcases hm with q | q
      · exact List.mem_append_left _ q
      · exact List.mem_append_right _ (List.mem_append_right _ q)
    refine ⟨C3.ata hm', C3.fresh (led₀ := [(nm, isS names), (fo, isS names)]) eg hm' fun q' => ?_⟩
    have q' : q.1 = nm ∨ q.1 = fo := by simpa using q'
    rcases hm with r | r
    · have r1 := List.mem_map_of_mem (f := (·.1)) r
      exact nd3.2.2 _ r1 _ (List.mem_append_left _ (by rcases q' with e | e <;> rw [e] <;> simp)) rfl
    · have r1 : q.1 ∈ fs₁ := by rw [← FL_fst (hl'.trans hlen)]; exact List.mem_map_of_mem r
      exact nd3.2.1.2.2 nm (by simp) nm (by rcases q' with e | e; rw [← e]; exact r1; exact absurd r1 (by rw [e]; exact off fo _ (.tail _ (.head _)))) rfl
  · have : ([t', f', l'] ++ fs₁).Nodup := by
      rw [List.nodup_append]
      exact ⟨hnd, nd3.2.1.2.1, fun a ha b hb => nd3.2.2 a (by simpa using ha) b (List.mem_append_right _ hb)⟩
    simpa using this
  · rw [frag_star (fun p hp => (inL p hp).1) (by rw [← lfs]; exact hz)]
    exact star_says hmk says
end
def ReadSpec (p : Pt) : Prop := ∀ {w : World} {A : Around} {s : Shared} {h h₀ : Heap} {tk : Nat} {E : Value → Shared → Prop} {au dx nm fo : Addr} {v : Value} {fs : List Addr} {names : List Str} {Q : Value → Shared → Prop},
  St w h₀ h → Ok A (deepO p + 40) (3 * (deepO p + 40)) → At h au (isObj dx) → At h dx (isAt (bAttrs nm fo)) → At h nm (isS names) → At h fo (isID w (foKvs fs)) → h₀.get? nm = none → h₀.get? fo = none → [au, dx, nm, fo].Nodup →
  fs.length = names.length → PV h v p → (∃ d, Good d p) → names.length + cnt p ≤ 40 →
  (∀ h' tk' t f l fs₁ names₁ fl₁ b F L, ROut w h h' nm fo fs names (cnt p) (Fits p) t f l fs₁ names₁ fl₁ b F L → Q (.ref t) (stt s h' tk')) →
  wpAny (Md w) A (call (.ref 49) [.ref au, v]) Q E (stt s h tk)
def RowsSpec (code : Addr) (O : List Pt → List Str → Prop) (ps : List Pt) : Prop := ∀ {w : World} {A : Around} {s : Shared} {h h₀ : Heap} {tk : Nat} {E : Value → Shared → Prop} {au dx nm fo ba : Addr} {vs : List Value} {fs : List Addr} {names : List Str} {Q : Value → Shared → Prop},
  St w h₀ h → Ok A (deepR ps + 40) (3 * (deepR ps + 40)) → At h au (isObj dx) → At h dx (isAt (bAttrs nm fo)) → At h nm (isS names) → At h fo (isID w (foKvs fs)) → h₀.get? nm = none → h₀.get? fo = none → [au, dx, nm, fo].Nodup →
  fs.length = names.length → At h ba (isT vs) → vs.length = ps.length → (∀ (i : Nat) (v : Value) (p : Pt), vs[i]? = some v → ps[i]? = some p → PV h v p) → (∀ p ∈ ps, ∃ d, Good d p) → names.length + cnts ps ≤ 40 →
  (∀ h' tk' t f l fs₁ names₁ fl₁ b F L, ROut w h h' nm fo fs names (cnts ps) (O ps) t f l fs₁ names₁ fl₁ b F L → Q (.ref t) (stt s h' tk')) →
  wpAny (Md w) A (call (.ref code) [.ref au, .ref ba]) Q E (stt s h tk)
theorem isT_isS {its : List Value} {ns : List Str} {h : Heap} {a : Addr} (x : At h a (isT its)) (y : At h a (isS ns)) : False := by
  obtain ⟨o, _, ⟨n, rfl⟩, vs, ⟨k, q⟩, _⟩ := x.inj y
  have := congrArg Obj.cls q
  simp [W.listOf] at this
theorem isT_isID {w : World} {its : List Value} {kvs : List (Int × Value)} {h : Heap} {a : Addr} (x : At h a (isT its)) (y : At h a (isID w kvs)) : False := by
  obtain ⟨o, _, ⟨n, rfl⟩, q⟩ := x.inj y
  obtain ⟨es, ep, _, e, _⟩ := q
  cases e
theorem ne_of_none {h : Heap} {a b : Addr} {P : Obj → Prop} (x : At h a P) (hb : h.get? b = none) : a ≠ b := fun e => by
  obtain ⟨o, q, _⟩ := x
  rw [e, hb] at q; cases q
theorem PV.hide {w : World} {h : Heap} {nm fo : Addr} {ns : List Str} {kvs : List (Int × Value)} {v : Value} {p : Pt} (x : PV h v p) (hn : At h nm (isS ns)) (hf : At h fo (isID w kvs)) : PV (hideAll h [nm, fo]) v p :=
  x.keepT fun b its q => q.hide (by
    simp only [List.mem_cons, List.not_mem_nil, or_false, not_or]
    exact ⟨fun e => isT_isS (e ▸ q) hn, fun e => isT_isID (e ▸ q) hf⟩)
theorem permK {α : Type} (a b c d : α) : [c, d, a, b].Perm [a, b, c, d] := List.perm_append_comm (l₁ := [c, d]) (l₂ := [a, b])
theorem Cx.start4 {w : World} {h g : Heap} {L t l1 l2 nm fo : Addr} {m : Str → Option Value} {P : Obj → Prop} {names : List Str} {fs : List Addr} (C : Cx g L m [(t, P), (l2, isL []), (l1, isL []), (nm, isS names), (fo, isID w (foKvs fs))] h) :
    Cx g L m ([(nm, isS (names ++ [])), (fo, isID w (foKvs (fs ++ []))), (l1, isI []), (l2, isI [])] ++ FL [] []) h := by
  have q := (((C.drop.weak (isL_isI .nil)).swap.weak (isL_isI .nil)).perm (permK _ _ _ _))
  rw [List.append_nil, List.append_nil]
  exact q
theorem subT5 {α : Type} (a b c d e f g h : α) (l : List α) : ([a, b, c, d, e] ++ l).Sublist ([a, b, c, d, e, f, g, h] ++ l) :=
  List.Sublist.append (List.sublist_append_left [a, b, c, d, e] [f, g, h]) (List.Sublist.refl _)
theorem subT4 {α : Type} (a b c d e f g h : α) (l : List α) : ([a, b, c, d] ++ l).Sublist ([a, b, c, d, e, f, g, h] ++ l) :=
  List.Sublist.append (List.sublist_append_left [a, b, c, d] [e, f, g, h]) (List.Sublist.refl _)
theorem permL {α : Type} (a b c d n : α) (l : List α) : (a :: b :: c :: d :: n :: l).Perm (n :: ([a, b, c, d] ++ l)) := List.perm_middle (l₁ := [a, b, c, d])
theorem permE {α : Type} (t n f a b : α) (l : List α) : ((t :: a :: b :: l) ++ [n, f]).Perm (t :: ([n, f, a, b] ++ l)) := (List.perm_append_comm (l₁ := a :: b :: l) (l₂ := [n, f])).cons t
local macro_rules | `(tactic| walk_at "memx") => `(tactic| first | (refine List.mem_append_left _ ?_; walk_at "mem") | (refine List.mem_cons_of_mem _ (List.mem_append_left _ ?_); walk_at "mem"))
theorem nd4a {a d n f : Addr} (h : [a, d, n, f].Nodup) : a ∉ [n, f] ∧ d ∉ [n, f] ∧ [n, f].Nodup := by
  simp at h ⊢; exact ⟨h.1.2, h.2.1, h.2.2⟩
theorem free2 {h₀ : Heap} {n f : Addr} (h1 : h₀.get? n = none) (h2 : h₀.get? f = none) : ∀ x ∈ [n, f], h₀.get? x = none := by simp [h1, h2]
theorem two_ok {α : Type} {p : α → Prop} {a b : α} (h1 : p a) (h2 : p b) : ∀ x ∈ [a, b], p x := by simp [h1, h2]
theorem ba_off {w : World} {h : Heap} {ba nm fo : Addr} {vs : List Value} {ns : List Str} {kvs : List (Int × Value)} (hb : At h ba (isT vs)) (hn : At h nm (isS ns)) (hf : At h fo (isID w kvs)) : ba ∉ [nm, fo] := by
  simp only [List.mem_cons, List.not_mem_nil, or_false, not_or]
  exact ⟨fun e => isT_isS (e ▸ hb) hn, fun e => isT_isID (e ▸ hb) hf⟩
theorem nd8 {I n f a b t c d : Addr} (h : ([I, n, f, a, b, t, c, d] : List Addr).Nodup) : c ≠ a ∧ d ≠ b :=
  have h1 : [a, c].Nodup := h.sublist (.cons _ (.cons _ (.cons _ (.cons_cons _ (.cons _ (.cons _ (.cons_cons _ (.cons _ .slnil))))))))
  have h2 : [b, d].Nodup := h.sublist (.cons _ (.cons _ (.cons _ (.cons _ (.cons_cons _ (.cons _ (.cons _ (.cons_cons _ .slnil))))))))
  ⟨fun e => (List.nodup_cons.mp h1).1 (by rw [e]; exact .head _), fun e => (List.nodup_cons.mp h2).1 (by rw [e]; exact .head _)⟩
theorem all5 {α : Type} {p : α → Prop} {a b c d e : α} (h1 : p a) (h2 : p b) (h3 : p c) (h4 : p d) (h5 : p e) : ∀ x ∈ [a, b, c, d, e], p x := by simp [h1, h2, h3, h4, h5]
theorem in40 {a b : Nat} {F : List Int} (q : ∀ z ∈ F, (a : Int) < z ∧ z ≤ (b : Nat)) (h : b ≤ 40) : ∀ z ∈ F, 1 ≤ z ∧ z ≤ 40 := fun z hz => by have := q z hz; omega
theorem in_off {n c c' : Nat} {F : List Int} {fs fs' fs'' : List Addr} (q : ∀ z ∈ F, (n : Int) < z ∧ z ≤ ((n + c : Nat) : Int)) (e : fs.length = n) (e' : fs'.length = c) (_ : fs''.length = c') : ∀ p ∈ F, (fs.length : Int) < p ∧ p ≤ fs.length + (fs' ++ fs'').length := fun z hz => by
  have := q z hz
  rw [List.length_append]; omega
theorem orF {p r : Prop} : p ↔ p ∨ (false = true ∧ r) := by simp
theorem orT {p q r : Prop} (h : p ↔ q ∨ r) : p ↔ q ∨ (true = true ∧ r) := by simpa using h
theorem orFL {α : Type} {z : α} {p q r : Prop} (h : p ↔ z ∈ ([] : List α) ∨ r) : p ↔ (false = true ∧ q) ∨ r := by simpa using h
theorem orTL {p q r : Prop} (h : p ↔ q ∨ r) : p ↔ (true = true ∧ q) ∨ r := by simpa using h
theorem says_more {names names₁ names₂ : List Str} {c : Nat} {X : Frag} {O : List Str → Prop} (hln : names₁.length = c) (h : X.Says names.length (names.length + c) (nmOf (names ++ names₁)) O) : X.Says names.length (names.length + c) (nmOf ((names ++ names₁) ++ names₂)) O :=
  h.nm fun z h1 h2 => nmOf_app _ _ (by omega) (by rw [List.length_append, hln]; omega)
theorem says_at {n n' c : Nat} {b : Bool} {F L : List Int} {fl : List (List Int)} {nm0 : Int → Str} {O : List Str → Prop} (h : (frag n b F L fl).Says n (n + c) nm0 O) (e : n = n') : (frag n' b F L fl).Says n' (n' + c) nm0 O := e ▸ h
theorem ok20of {A : Around} {d : Nat} (h : Ok A (d + 39) (3 * (d + 39))) : Ok A 20 40 := h.mono (by omega) (by omega)
theorem ok10of {A : Around} {d : Nat} (h : Ok A (d + 39) (3 * (d + 39))) : Ok A 10 20 := h.mono (by omega) (by omega)
inductive RowInv (w : World) (O : List Pt → List Str → Prop) (ps : List Pt) (names : List Str) (fs : List Addr) (nm fo au : Addr) (i : Nat) (m : Str → Option Value) (led : List (Addr × (Obj → Prop))) : Prop
  | mk (fs₁ : List Addr) (names₁ : List Str) (fl₁ : List (List Int)) (bb : Bool) (F L : List Int) (fa la : Addr)
    (e : led = [(nm, isS (names ++ names₁)), (fo, isID w (foKvs (fs ++ fs₁))), (fa, isI F), (la, isI L)] ++ FL fs₁ fl₁)
    (hlf : fs₁.length = cnts (ps.take i)) (hln : names₁.length = cnts (ps.take i)) (hll : fl₁.length = cnts (ps.take i)) (okl : okL fl₁) (ndF : F.Nodup) (ndL : L.Nodup)
    (says : (frag names.length bb F L fl₁).Says names.length (names.length + cnts (ps.take i)) (nmOf (names ++ names₁)) (O (ps.take i)))
    (m1 : m "is_nullable" = some (.bool bb)) (m2 : m "first" = some (.ref fa)) (m3 : m "last" = some (.ref la)) (m4 : m "self" = some (.ref au))
theorem row_grow {w : World} {g h₅ h3 : Heap} {Lx I nm fo fa la t2 f2 l2 : Addr} {m : Str → Option Value} {P : Obj → Prop} {names names₁ names₂ : List Str} {fs fs₁ fs₂ : List Addr} {fl₁ fl₂ : List (List Int)} {F L F2 L2 : List Int} {b2 : Bool} {c : Nat} {O : List Str → Prop}
    (C1 : Cx g Lx m ([(nm, isS (names ++ names₁)), (fo, isID w (foKvs (fs ++ fs₁)))] ++ ((I, P) :: (fa, isI F) :: (la, isI L) :: FL fs₁ fl₁)) h₅) (hl1 : fl₁.length = fs₁.length)
    (R : ROut w h₅ h3 nm fo (fs ++ fs₁) (names ++ names₁) c O t2 f2 l2 fs₂ names₂ fl₂ b2 F2 L2) :
    Cx g Lx m ([(I, P), (nm, isS ((names ++ names₁) ++ names₂)), (fo, isID w (foKvs ((fs ++ fs₁) ++ fs₂))), (fa, isI F), (la, isI L), (t2, isT [.bool b2, .ref f2, .ref l2]), (f2, isI F2), (l2, isI L2)] ++ FL (fs₁ ++ fs₂) (fl₁ ++ fl₂)) h3 := by
  have C2 : Cx g Lx m ([(nm, isS ((names ++ names₁) ++ names₂)), (fo, isID w (foKvs ((fs ++ fs₁) ++ fs₂)))] ++ ((I, P) :: (fa, isI F) :: (la, isI L) :: FL fs₁ fl₁)) h3 :=
    Cx.behind (led₁ := [(nm, isS (names ++ names₁)), (fo, isID w (foKvs (fs ++ fs₁)))]) C1 R.ext rfl (two_ok R.n R.fo)
  have hl2 : fl₂.length = fs₂.length := R.ll.trans R.lf.symm
  have C3 := C1.mades C2 rfl R.new (by have := R.nd; simpa [FL_fst hl2] using this)
  rw [FL_app hl1]
  have C3' : Cx g Lx m (([(t2, isT [.bool b2, .ref f2, .ref l2]), (f2, isI F2), (l2, isI L2)] ++ FL fs₂ fl₂) ++ ([(nm, isS ((names ++ names₁) ++ names₂)), (fo, isID w (foKvs ((fs ++ fs₁) ++ fs₂))), (I, P), (fa, isI F), (la, isI L)] ++ FL fs₁ fl₁)) h3 := C3
  have C3'' := C3'.perm (permC _ _ _ _)
  exact Cx.third C3''
theorem rout_end {w : World} {h g h' : Heap} {Lx nm fo fa la t : Addr} {m : Str → Option Value} {names names₁ : List Str} {fs fs₁ : List Addr} {fl₁ : List (List Int)} {F L : List Int} {bb : Bool} {n : Nat} {ps : List Pt} {O : List Pt → List Str → Prop}
    (C6 : Cx g Lx m ((t, isT [.bool bb, .ref fa, .ref la]) :: ([(nm, isS (names ++ names₁)), (fo, isID w (foKvs (fs ++ fs₁))), (fa, isI F), (la, isI L)] ++ FL fs₁ fl₁)) h') (eg : g = hideAll h [nm, fo]) (eL : Lx = h.objs.size) (hn : n = ps.length)
    (hlf : fs₁.length = cnts (ps.take n)) (hln : names₁.length = cnts (ps.take n)) (hll : fl₁.length = cnts (ps.take n)) (okl : okL fl₁) (ndF : F.Nodup) (ndL : L.Nodup)
    (says : (frag names.length bb F L fl₁).Says names.length (names.length + cnts (ps.take n)) (nmOf (names ++ names₁)) (O (ps.take n))) : ROut w h h' nm fo fs names (cnts ps) (O ps) t fa la fs₁ names₁ fl₁ bb F L := by
  rw [hn, List.take_length] at hlf hln hll says
  have hl1 : fl₁.length = fs₁.length := hll.trans hlf.symm
  have C7 : Cx g Lx m (((t, isT [.bool bb, .ref fa, .ref la]) :: (fa, isI F) :: (la, isI L) :: FL fs₁ fl₁) ++ [(nm, isS (names ++ names₁)), (fo, isID w (foKvs (fs ++ fs₁)))]) h' := C6.perm (permE _ _ _ _ _ _)
  have nd7 := C7.nd
  rw [List.map_append, List.nodup_append] at nd7
  exact ⟨C7.ext (led₀ := [(nm, isS names), (fo, isS names)]) eg eL, C7.ata (List.mem_append_right _ (.head _)), C7.ata (List.mem_append_right _ (.tail _ (.head _))), hlf, hln, hll, fun q hq => ⟨C7.ata (List.mem_append_left _ hq), C7.fresh (P := q.2) (led₀ := [(nm, isS names), (fo, isS names)]) eg (List.mem_append_left _ hq) fun q' => nd7.2.2 _ (List.mem_map_of_mem hq) _ (by simpa using q') rfl⟩, by have := nd7.1; simpa [FL_fst hl1] using this, okl, ndF, ndL, says⟩
theorem cnt_take {ps : List Pt} (i : Nat) (hi : i < ps.length) : cnts (ps.take (i + 1)) = cnts (ps.take i) + cnt ps[i] ∧ cnts (ps.take (i + 1)) ≤ cnts ps := by
  have e1 : ps.take (i + 1) = ps.take i ++ [ps[i]] := by rw [List.take_add_one, List.getElem?_eq_getElem hi]; rfl
  have e2 := congrArg cnts (List.take_append_drop (i + 1) ps)
  rw [cnts_append] at e2
  exact ⟨by rw [e1, cnts_append]; simp [cnts], by omega⟩
theorem take_one {ps : List Pt} (i : Nat) (hi : i < ps.length) : ps.take (i + 1) = ps.take i ++ [ps[i]] := by rw [List.take_add_one, List.getElem?_eq_getElem hi]; rfl
theorem lt_of_some {α : Type} {vs : List α} {i : Nat} {v : α} (hv : vs[i]? = some v) : i < vs.length := by
  rcases Nat.lt_or_ge i vs.length with q | q
  · exact q
  · rw [List.getElem?_eq_none q] at hv; cases hv
theorem RowInv.first {w : World} {ps : List Pt} {names : List Str} {fs : List Addr} {nm fo au l1 l2 : Addr} {m : Str → Option Value} (m1 : m "is_nullable" = some (.bool true)) (m2 : m "first" = some (.ref l1)) (m3 : m "last" = some (.ref l2)) (m4 : m "self" = some (.ref au)) :
    RowInv w RowFits ps names fs nm fo au 0 m ([(nm, isS (names ++ [])), (fo, isID w (foKvs (fs ++ []))), (l1, isI []), (l2, isI [])] ++ FL [] []) := by
  refine ⟨[], [], [], true, [], [], l1, l2, rfl, rfl, rfl, rfl, (fun _ h => nomatch h), .nil, .nil, ?_, m1, m2, m3, m4⟩
  rw [show frag names.length true [] [] [] = eps from Frag.eq rfl (fun z => by simp [frag, eps]) (fun z => by simp [frag, eps]) (fun y z => by simp [frag, eps, getF])]
  exact (eps_says _ _).congr fun ws => by simp [RowFits]
theorem RowInv.next {w : World} {ps : List Pt} {p : Pt} {names names₁ names₂ : List Str} {fs fs₁ fs₂ : List Addr} {fl₁ fl₂ fl' : List (List Int)} {nm fo au fa la : Addr} {i : Nat} {m : Str → Option Value} {b b2 : Bool} {F L F2 L2 F' L' : List Int}
    (ht : ps.take (i + 1) = ps.take i ++ [p]) (hcnt : cnts (ps.take i ++ [p]) = cnts (ps.take i) + cnt p)
    (hlf : fs₁.length = cnts (ps.take i)) (hln : names₁.length = cnts (ps.take i)) (hll : fl₁.length = cnts (ps.take i)) (rf : fs₂.length = cnt p) (rn : names₂.length = cnt p) (rl : fl₂.length = cnt p)
    (inLn : ∀ p ∈ L, (names.length : Int) < p) (hl5 : fl'.length = (fl₁ ++ fl₂).length) (ok5 : okL fl') (hz : ∀ (i : Nat) z, z ∈ getF fl' i ↔ z ∈ getF (fl₁ ++ fl₂) i ∨ ((names.length : Int) + i + 1 ∈ L ∧ z ∈ F2))
    (nF : F'.Nodup) (nL : L'.Nodup) (hF' : ∀ z, z ∈ F' ↔ z ∈ F ∨ (b = true ∧ z ∈ F2)) (hL' : ∀ z, z ∈ L' ↔ (b2 = true ∧ z ∈ L) ∨ z ∈ L2)
    (s1 : (frag names.length b F L fl₁).Says names.length (names.length + cnts (ps.take i)) (nmOf (names ++ names₁)) (RowFits (ps.take i)))
    (s2 : (frag (names.length + cnts (ps.take i)) b2 F2 L2 fl₂).Says (names.length + cnts (ps.take i)) (names.length + cnts (ps.take i) + cnt p) (nmOf ((names ++ names₁) ++ names₂)) (Fits p))
    (m1 : m "is_nullable" = some (.bool (b && b2))) (m2 : m "first" = some (.ref fa)) (m3 : m "last" = some (.ref la)) (m4 : m "self" = some (.ref au)) :
    RowInv w RowFits ps names fs nm fo au (i + 1) m ([(nm, isS ((names ++ names₁) ++ names₂)), (fo, isID w (foKvs ((fs ++ fs₁) ++ fs₂))), (fa, isI F'), (la, isI L')] ++ FL (fs₁ ++ fs₂) fl') := by
  have says' := (cat_says (says_more hln s1) s2 (by omega) (by omega)).congr (fun ws => (rowFits_snoc (ps.take i) p ws).symm)
  refine ⟨fs₁ ++ fs₂, names₁ ++ names₂, fl', b && b2, F', L', fa, la, by rw [List.append_assoc, List.append_assoc], by rw [List.length_append, rf, hlf, ht, hcnt], by rw [List.length_append, rn, hln, ht, hcnt], by rw [hl5, List.length_append, rl, hll, ht, hcnt], ok5, nF, nL, ?_, m1, m2, m3, m4⟩
  rw [frag_cat (fl₁ := fl₁) (fl₂ := fl₂) (F := F) (L := L) (F2 := F2) (L2 := L2) hll inLn hz hF' hL', ← List.append_assoc, ht, hcnt, ← Nat.add_assoc]
  exact says'
section
variable {w : World} {A : Around} {s : Shared} {h h₀ : Heap} {tk : Nat} {E : Value → Shared → Prop}
theorem row_spec {ps : List Pt} (ih : ∀ p ∈ ps, ReadSpec p) : RowsSpec 56 RowFits ps := by
  intro w A s h h₀ tk E au dx nm fo ba vs fs names Q S ok ho hd hn hfo fn ff ndA lfs hb hlen hps hgood h40 k
  refine' enterC (d := deepR ps + 39) (u := 3 * (deepR ps + 39)) (binds := [(Str.ofString "self", .ref au), (Str.ofString "particles", .ref ba)]) [(nm, isS names), (fo, isID w (foKvs fs))] S (two_ok ⟨fn, hn⟩ ⟨ff, hfo⟩) (nd4a ndA).2.2 (ok.mono (by omega) (by omega)) ?ho ?hcd ?hb ?hl ?_ ?c2 ?c3 ?c4 ?c5
  walk_at "enter"
  intro g h₁ tk₁ A' l' eg W ok' fr C
  have eg' : g = hideAll h [nm, fo] := eg
  have Sg : St w h₀ g := S.of_hide [nm, fo] (free2 fn ff) eg'
  have ho : At g au (isObj dx) := eg' ▸ ho.hide (nd4a ndA).1
  have hd : At g dx (isAt (bAttrs nm fo)) := eg' ▸ hd.hide (nd4a ndA).2.1
  have hb : At g ba (isT vs) := eg' ▸ hb.hide (ba_off hb hn hfo)
  have hps : ∀ (i : Nat) (v : Value) (p : Pt), vs[i]? = some v → ps[i]? = some p → PV g v p := fun i v p h1 h2 => eg' ▸ (hps i v p h1 h2).hide hn hfo
  walk_at "go"
  refine x_asg_sw (names := ["is_nullable", "first", "last"]) ?_ (by with_unfolding_all rfl) (by with_unfolding_all rfl)
  walk_at "go"
  rename_i l1 C1 h2 l2 C2 h3 t3 C3
  refine u_items ok'.hh C3 (C3.ata (.head _)) rfl fun h4 C4 => ?_
  iterate 3 (refine u_more ?_; refine u_bind ?_; walk_at "go")
  refine u_none ?_
  walk_at "go"
  rename Cx _ _ _ _ _ => C5
  have C5' := C5.start4
  refine for_tup (l := ba) (its := vs) (RowInv w RowFits ps names fs nm fo au)
    ok'.hh C5' (C5'.atg hb) (.first rfl rfl rfl rfl) (fun i m led h j c => c.atg hb) ?_ ?_
  · rintro i v m₁ led₁ h₅ tk₅ I hv ⟨fs₁, names₁, fl₁, bb, F, L, fa, la, rfl, hlf, hln, hll, okl, ndF, ndL, says, m1, m2, m3, m4⟩ C₁
    have hlt : i < ps.length := hlen ▸ lt_of_some hv
    have hp := hps i v ps[i] hv (List.getElem?_eq_getElem hlt)
    have ht := take_one i hlt
    have hmem : ps[i] ∈ ps := List.getElem_mem hlt
    have hde := deepR_mem hmem
    obtain ⟨hcnt, hcle⟩ := cnt_take i hlt
    have inF := says.1.F
    have inL := says.1.L
    have C1 : Cx g h.objs.size (upd m₁ "particle" v) ([(nm, isS (names ++ names₁)), (fo, isID w (foKvs (fs ++ fs₁)))] ++ ((I, isTI ba (i + 1)) :: (fa, isI F) :: (la, isI L) :: FL fs₁ fl₁)) h₅ := C₁.thirdBack
    have nd1 := C1.nd
    walk_at "go"
    refine ih _ hmem (C1.st Sg) (by walk_at "room") (C1.atg ho) (C1.atg hd) (C1.ata (.head _)) (C1.ata (.tail _ (.head _))) fn ff ndA (by rw [List.length_append, List.length_append, lfs, hlf, hln]) (hp.keep C1.F.keep) (hgood _ hmem) (by rw [List.length_append, hln]; omega) fun h3 tk3 t2 f2 l2 fs₂ names₂ fl₂ b2 F2 L2 R => ?_
    have hl2 : fl₂.length = fs₂.length := R.ll.trans R.lf.symm
    have hl1 : fl₁.length = fs₁.length := hll.trans hlf.symm
    have C4 := row_grow C1 hl1 R
    clear C1 C₁
    have says2 := says_at R.says (n' := names.length + cnts (ps.take i)) (by rw [List.length_append, hln])
    have bd2 : names.length + cnts (ps.take i) + cnt ps[i] ≤ 40 := by omega
    have bd1 : names.length + cnts (ps.take i) ≤ 40 := by omega
    have inF40 := in40 inF bd1
    have inL40 := in40 inL bd1
    have inF240 := in40 says2.1.F bd2
    have inL240 := in40 says2.1.L bd2
    have inLn : ∀ p ∈ L, (names.length : Int) < p := fun z hz => (inL z hz).1
    rw [ht] at hcnt
    walk_at "go"
    refine u_tup ok'.hh C4 (C4.ata (a := t2) (P := isT [.bool b2, .ref f2, .ref l2]) (by walk_at "memx")) rfl rfl fun h5 C5 => ?_
    iterate 3 (refine u_more ?_; refine u_name ?_; walk_at "go")
    refine u_none ?_
    walk_at "go"
    clear C5 C4
    rename Cx _ _ _ _ _ => C4
    have nd4 := C4.nd
    rw [List.map_append, FL_fst (by rw [List.length_append, List.length_append, hl1, hl2]), List.nodup_append] at nd4
    have off : ∀ a P, (a, P) ∈ [(I, isTI ba (i + 1)), (nm, isS ((names ++ names₁) ++ names₂)), (fo, isID w (foKvs ((fs ++ fs₁) ++ fs₂))), (fa, isI F), (la, isI L), (t2, isT [.bool b2, .ref f2, .ref l2]), (f2, isI F2), (l2, isI L2)] → a ∉ fs₁ ++ fs₂ := fun a P hm q => nd4.2.2 a (List.mem_map.mpr ⟨_, hm, rfl⟩) _ q rfl
    have offg : ∀ a P, At g a P → a ∉ fs₁ ++ fs₂ := fun a P hP q => by
      have : a ∈ (FL (fs₁ ++ fs₂) (fl₁ ++ fl₂)).map (·.1) := by rw [FL_fst (by rw [List.length_append, List.length_append, hl1, hl2])]; exact q
      obtain ⟨q', hq', rfl⟩ := List.mem_map.mp this
      exact ne_of_none hP (C4.at_ q' (List.mem_append_right _ hq')).2.1 rfl
    refine join_spec (fs₀ := fs) (fs₁ := fs₁ ++ fs₂) (fl := fl₁ ++ fl₂) (C4.st Sg) (ok20of ok') (C4.atg ho) (C4.atg hd) (by rw [← List.append_assoc]; exact C4.ata (a := fo) (by walk_at "memx")) (fun q hq => ⟨C4.free Sg q (List.mem_append_right _ hq), C4.ata (List.mem_append_right _ hq)⟩) nd4.2.1 (by rw [List.length_append, List.length_append, hl1, hl2])
      (C4.ata (a := la) (P := isI L) (by walk_at "memx")) (C4.ata (a := f2) (P := isI F2) (by walk_at "memx")) (all5 (offg _ _ ho) (offg _ _ hd) (off fo (isID w (foKvs ((fs ++ fs₁) ++ fs₂))) (by walk_at "mem")) (off la (isI L) (by walk_at "mem")) (off f2 (isI F2) (by walk_at "mem"))) (in_off inL lfs hlf R.lf) inF240 (fun x hx => (List.mem_append.mp hx).elim (okl x) (R.okl x)) fun h5 tk5 fl' x5 hl5 hat5 ok5 hz5 => ?_
    rw [lfs] at hz5
    have C5 : Cx g h.objs.size _ ([(I, isTI ba (i + 1)), (nm, isS ((names ++ names₁) ++ names₂)), (fo, isID w (foKvs ((fs ++ fs₁) ++ fs₂))), (fa, isI F), (la, isI L), (t2, isT [.bool b2, .ref f2, .ref l2]), (f2, isI F2), (l2, isI L2)] ++ FL (fs₁ ++ fs₂) fl') h5 := C4.behindFT x5 (fun a ha => ha) (by rw [List.length_append, List.length_append, hl1, hl2]) hl5 hat5
    clear C4
    refine ⟨rfl, ?_⟩
    obtain ⟨neFa, neLa⟩ := nd8 nd4.1
    rcases bb with _ | _ <;> rcases b2 with _ | _
    · walk_at "go"
      rename_i _ ln _ _ CE
      have CE := CE.weak (isL_isI .nil)
      refine add_spec (CE.st Sg) (ok10of ok') (CE.ata (a := ln) (P := isI []) (.head _)) (CE.ata (a := l2) (P := isI L2) (by walk_at "memx")) (CE.free Sg (ln, isI []) (.head _)) (fun e => (List.nodup_cons.mp CE.nd).1 (by rw [← e]; simp)) .nil (by simp) inL240 fun h8 tk8 L' nL' hL' x8 p8 => ?_
      have C8 := CE.behindAt (led₁ := []) x8 p8
      refine ⟨rfl, ?_⟩
      walk_at "go"
      rename Cx _ _ _ _ _ => C9
      refine turn_next ((C9.sub (led' := (ln, isI L') :: ([(I, isTI ba (i + 1)), (nm, isS ((names ++ names₁) ++ names₂)), (fo, isID w (foKvs ((fs ++ fs₁) ++ fs₂))), (fa, isI F)] ++ FL (fs₁ ++ fs₂) fl')) (List.Sublist.cons_cons _ (subT4 _ _ _ _ _ _ _ _ _))).perm (permL _ _ _ _ _ _)) ?_
      exact .next ht hcnt hlf hln hll R.lf R.ln R.ll inLn hl5 ok5 hz5 ndF nL' (fun z => orF) (fun z => orFL (hL' z)) says says2 (by walk_at "look") (by walk_at "look") (by walk_at "look") (by walk_at "look")
    · walk_at "go"
      refine add_spec (C5.st Sg) (ok10of ok') (C5.ata (a := la) (P := isI L) (by walk_at "memx")) (C5.ata (a := l2) (P := isI L2) (by walk_at "memx")) (C5.free Sg (la, isI L) (by walk_at "memx")) neLa ndL inL40 inL240 fun h8 tk8 L' nL' hL' x8 p8 => ?_
      have C8 := C5.behindAt (led₁ := [(I, isTI ba (i + 1)), (nm, isS ((names ++ names₁) ++ names₂)), (fo, isID w (foKvs ((fs ++ fs₁) ++ fs₂))), (fa, isI F)]) x8 p8
      refine ⟨rfl, ?_⟩
      walk_at "go"
      rename Cx _ _ _ _ _ => C9
      refine turn_next (C9.sub (led' := [(I, isTI ba (i + 1)), (nm, isS ((names ++ names₁) ++ names₂)), (fo, isID w (foKvs ((fs ++ fs₁) ++ fs₂))), (fa, isI F), (la, isI L')] ++ FL (fs₁ ++ fs₂) fl') (subT5 _ _ _ _ _ _ _ _ _)) ?_
      exact .next ht hcnt hlf hln hll R.lf R.ln R.ll inLn hl5 ok5 hz5 ndF nL' (fun z => orF) (fun z => orTL (hL' z)) says says2 (by walk_at "look") (by walk_at "look") (by walk_at "look") (by walk_at "look")
    · walk_at "go"
      refine add_spec (C5.st Sg) (ok10of ok') (C5.ata (a := fa) (P := isI F) (by walk_at "memx")) (C5.ata (a := f2) (P := isI F2) (by walk_at "memx")) (C5.free Sg (fa, isI F) (by walk_at "memx")) neFa ndF inF40 inF240 fun h6 tk6 F' nF' hF' x6 p6 => ?_
      have C6 : Cx g h.objs.size _ ([(I, isTI ba (i + 1)), (nm, isS ((names ++ names₁) ++ names₂)), (fo, isID w (foKvs ((fs ++ fs₁) ++ fs₂))), (fa, isI F'), (la, isI L), (t2, isT [.bool false, .ref f2, .ref l2]), (f2, isI F2), (l2, isI L2)] ++ FL (fs₁ ++ fs₂) fl') h6 := C5.behindAt (led₁ := [(I, isTI ba (i + 1)), (nm, isS ((names ++ names₁) ++ names₂)), (fo, isID w (foKvs ((fs ++ fs₁) ++ fs₂)))]) x6 p6
      refine ⟨rfl, ?_⟩
      walk_at "go"
      rename_i _ ln _ _ CE
      have CE := CE.weak (isL_isI .nil)
      refine add_spec (CE.st Sg) (ok10of ok') (CE.ata (a := ln) (P := isI []) (.head _)) (CE.ata (a := l2) (P := isI L2) (by walk_at "memx")) (CE.free Sg (ln, isI []) (.head _)) (fun e => (List.nodup_cons.mp CE.nd).1 (by rw [← e]; simp)) .nil (by simp) inL240 fun h8 tk8 L' nL' hL' x8 p8 => ?_
      have C8 := CE.behindAt (led₁ := []) x8 p8
      refine ⟨rfl, ?_⟩
      walk_at "go"
      rename Cx _ _ _ _ _ => C9
      refine turn_next ((C9.sub (led' := (ln, isI L') :: ([(I, isTI ba (i + 1)), (nm, isS ((names ++ names₁) ++ names₂)), (fo, isID w (foKvs ((fs ++ fs₁) ++ fs₂))), (fa, isI F')] ++ FL (fs₁ ++ fs₂) fl')) (List.Sublist.cons_cons _ (subT4 _ _ _ _ _ _ _ _ _))).perm (permL _ _ _ _ _ _)) ?_
      exact .next ht hcnt hlf hln hll R.lf R.ln R.ll inLn hl5 ok5 hz5 nF' nL' (fun z => orT (hF' z)) (fun z => orFL (hL' z)) says says2 (by walk_at "look") (by walk_at "look") (by walk_at "look") (by walk_at "look")
    · walk_at "go"
      refine add_spec (C5.st Sg) (ok10of ok') (C5.ata (a := fa) (P := isI F) (by walk_at "memx")) (C5.ata (a := f2) (P := isI F2) (by walk_at "memx")) (C5.free Sg (fa, isI F) (by walk_at "memx")) neFa ndF inF40 inF240 fun h6 tk6 F' nF' hF' x6 p6 => ?_
      have C6 : Cx g h.objs.size _ ([(I, isTI ba (i + 1)), (nm, isS ((names ++ names₁) ++ names₂)), (fo, isID w (foKvs ((fs ++ fs₁) ++ fs₂))), (fa, isI F'), (la, isI L), (t2, isT [.bool true, .ref f2, .ref l2]), (f2, isI F2), (l2, isI L2)] ++ FL (fs₁ ++ fs₂) fl') h6 := C5.behindAt (led₁ := [(I, isTI ba (i + 1)), (nm, isS ((names ++ names₁) ++ names₂)), (fo, isID w (foKvs ((fs ++ fs₁) ++ fs₂)))]) x6 p6
      refine ⟨rfl, ?_⟩
      walk_at "go"
      refine add_spec (C6.st Sg) (ok10of ok') (C6.ata (a := la) (P := isI L) (by walk_at "memx")) (C6.ata (a := l2) (P := isI L2) (by walk_at "memx")) (C6.free Sg (la, isI L) (by walk_at "memx")) neLa ndL inL40 inL240 fun h8 tk8 L' nL' hL' x8 p8 => ?_
      have C8 := C6.behindAt (led₁ := [(I, isTI ba (i + 1)), (nm, isS ((names ++ names₁) ++ names₂)), (fo, isID w (foKvs ((fs ++ fs₁) ++ fs₂))), (fa, isI F')]) x8 p8
      refine ⟨rfl, ?_⟩
      walk_at "go"
      rename Cx _ _ _ _ _ => C9
      refine turn_next (C9.sub (led' := [(I, isTI ba (i + 1)), (nm, isS ((names ++ names₁) ++ names₂)), (fo, isID w (foKvs ((fs ++ fs₁) ++ fs₂))), (fa, isI F'), (la, isI L')] ++ FL (fs₁ ++ fs₂) fl') (subT5 _ _ _ _ _ _ _ _ _)) ?_
      exact .next ht hcnt hlf hln hll R.lf R.ln R.ll inLn hl5 ok5 hz5 nF' nL' (fun z => orT (hF' z)) (fun z => orTL (hL' z)) says says2 (by walk_at "look") (by walk_at "look") (by walk_at "look") (by walk_at "look")
  · rintro m₁ led₁ h₅ tk₅ ⟨fs₁, names₁, fl₁, bb, F, L, fa, la, rfl, hlf, hln, hll, okl, ndF, ndL, says, m1, m2, m3, m4⟩ C₁
    walk_at "go"
    rename_i t C6
    exact k _ _ t fa la fs₁ names₁ fl₁ bb F L (rout_end C6 eg' rfl hlen hlf hln hll okl ndF ndL says)
end
theorem RowInv.firstA {w : World} {ps : List Pt} {names : List Str} {fs : List Addr} {nm fo au l1 l2 : Addr} {m : Str → Option Value} (m1 : m "is_nullable" = some (.bool false)) (m2 : m "first" = some (.ref l1)) (m3 : m "last" = some (.ref l2)) (m4 : m "self" = some (.ref au)) :
    RowInv w AnyFits ps names fs nm fo au 0 m ([(nm, isS (names ++ [])), (fo, isID w (foKvs (fs ++ []))), (l1, isI []), (l2, isI [])] ++ FL [] []) := by
  refine ⟨[], [], [], false, [], [], l1, l2, rfl, rfl, rfl, rfl, (fun _ h => nomatch h), .nil, .nil, ?_, m1, m2, m3, m4⟩
  rw [show frag names.length false [] [] [] = void from Frag.eq rfl (fun z => by simp [frag, void]) (fun z => by simp [frag, void]) (fun y z => by simp [frag, void, getF])]
  exact (void_says _ _).congr fun ws => by simp [AnyFits]
theorem RowInv.nextA {w : World} {ps : List Pt} {p : Pt} {names names₁ names₂ : List Str} {fs fs₁ fs₂ : List Addr} {fl₁ fl₂ : List (List Int)} {nm fo au fa la : Addr} {i : Nat} {m : Str → Option Value} {b b2 : Bool} {F L F2 L2 F' L' : List Int}
    (ht : ps.take (i + 1) = ps.take i ++ [p]) (hcnt : cnts (ps.take i ++ [p]) = cnts (ps.take i) + cnt p)
    (hlf : fs₁.length = cnts (ps.take i)) (hln : names₁.length = cnts (ps.take i)) (hll : fl₁.length = cnts (ps.take i)) (rf : fs₂.length = cnt p) (rn : names₂.length = cnt p) (rl : fl₂.length = cnt p)
    (ok1 : okL fl₁) (ok2 : okL fl₂) (nF : F'.Nodup) (nL : L'.Nodup) (hF' : ∀ z, z ∈ F' ↔ z ∈ F ∨ z ∈ F2) (hL' : ∀ z, z ∈ L' ↔ z ∈ L ∨ z ∈ L2)
    (s1 : (frag names.length b F L fl₁).Says names.length (names.length + cnts (ps.take i)) (nmOf (names ++ names₁)) (AnyFits (ps.take i)))
    (s2 : (frag (names.length + cnts (ps.take i)) b2 F2 L2 fl₂).Says (names.length + cnts (ps.take i)) (names.length + cnts (ps.take i) + cnt p) (nmOf ((names ++ names₁) ++ names₂)) (Fits p))
    (m1 : m "is_nullable" = some (.bool (b || b2))) (m2 : m "first" = some (.ref fa)) (m3 : m "last" = some (.ref la)) (m4 : m "self" = some (.ref au)) :
    RowInv w AnyFits ps names fs nm fo au (i + 1) m ([(nm, isS ((names ++ names₁) ++ names₂)), (fo, isID w (foKvs ((fs ++ fs₁) ++ fs₂))), (fa, isI F'), (la, isI L')] ++ FL (fs₁ ++ fs₂) (fl₁ ++ fl₂)) := by
  have says' := (alt_says (says_more hln s1) s2 (by omega) (by omega)).congr (fun ws => (anyFits_snoc (ps.take i) p ws).symm)
  refine ⟨fs₁ ++ fs₂, names₁ ++ names₂, fl₁ ++ fl₂, b || b2, F', L', fa, la, by rw [List.append_assoc, List.append_assoc], by rw [List.length_append, rf, hlf, ht, hcnt], by rw [List.length_append, rn, hln, ht, hcnt], by rw [List.length_append, rl, hll, ht, hcnt], (fun x hx => (List.mem_append.mp hx).elim (ok1 x) (ok2 x)), nF, nL, ?_, m1, m2, m3, m4⟩
  rw [frag_alt (fl₁ := fl₁) (fl₂ := fl₂) (F := F) (L := L) (F2 := F2) (L2 := L2) hll hF' hL', ← List.append_assoc, ht, hcnt, ← Nat.add_assoc]
  exact says'
section
variable {w : World} {A : Around} {s : Shared} {h h₀ : Heap} {tk : Nat} {E : Value → Shared → Prop}
theorem choice_spec {ps : List Pt} (ih : ∀ p ∈ ps, ReadSpec p) : RowsSpec 63 AnyFits ps := by
  intro w A s h h₀ tk E au dx nm fo ba vs fs names Q S ok ho hd hn hfo fn ff ndA lfs hb hlen hps hgood h40 k
  refine' enterC (d := deepR ps + 39) (u := 3 * (deepR ps + 39)) (binds := [(Str.ofString "self", .ref au), (Str.ofString "particles", .ref ba)]) [(nm, isS names), (fo, isID w (foKvs fs))] S (two_ok ⟨fn, hn⟩ ⟨ff, hfo⟩) (nd4a ndA).2.2 (ok.mono (by omega) (by omega)) ?ho ?hcd ?hb ?hl ?_ ?c2 ?c3 ?c4 ?c5
  walk_at "enter"
  intro g h₁ tk₁ A' l' eg W ok' fr C
  have eg' : g = hideAll h [nm, fo] := eg
  have Sg : St w h₀ g := S.of_hide [nm, fo] (free2 fn ff) eg'
  have ho : At g au (isObj dx) := eg' ▸ ho.hide (nd4a ndA).1
  have hd : At g dx (isAt (bAttrs nm fo)) := eg' ▸ hd.hide (nd4a ndA).2.1
  have hb : At g ba (isT vs) := eg' ▸ hb.hide (ba_off hb hn hfo)
  have hps : ∀ (i : Nat) (v : Value) (p : Pt), vs[i]? = some v → ps[i]? = some p → PV g v p := fun i v p h1 h2 => eg' ▸ (hps i v p h1 h2).hide hn hfo
  walk_at "go"
  refine x_asg_sw (names := ["is_nullable", "first", "last"]) ?_ (by with_unfolding_all rfl) (by with_unfolding_all rfl)
  walk_at "go"
  rename_i l1 C1 h2 l2 C2 h3 t3 C3
  refine u_items ok'.hh C3 (C3.ata (.head _)) rfl fun h4 C4 => ?_
  iterate 3 (refine u_more ?_; refine u_bind ?_; walk_at "go")
  refine u_none ?_
  walk_at "go"
  rename Cx _ _ _ _ _ => C5
  have C5' := C5.start4
  refine for_tup (l := ba) (its := vs) (RowInv w AnyFits ps names fs nm fo au)
    ok'.hh C5' (C5'.atg hb) (.firstA rfl rfl rfl rfl) (fun i m led h j c => c.atg hb) ?_ ?_
  · rintro i v m₁ led₁ h₅ tk₅ I hv ⟨fs₁, names₁, fl₁, bb, F, L, fa, la, rfl, hlf, hln, hll, okl, ndF, ndL, says, m1, m2, m3, m4⟩ C₁
    have hlt : i < ps.length := hlen ▸ lt_of_some hv
    have hp := hps i v ps[i] hv (List.getElem?_eq_getElem hlt)
    have ht := take_one i hlt
    have hmem : ps[i] ∈ ps := List.getElem_mem hlt
    have hde := deepR_mem hmem
    obtain ⟨hcnt, hcle⟩ := cnt_take i hlt
    have inF := says.1.F
    have inL := says.1.L
    have C1 : Cx g h.objs.size (upd m₁ "particle" v) ([(nm, isS (names ++ names₁)), (fo, isID w (foKvs (fs ++ fs₁)))] ++ ((I, isTI ba (i + 1)) :: (fa, isI F) :: (la, isI L) :: FL fs₁ fl₁)) h₅ := C₁.thirdBack
    have nd1 := C1.nd
    walk_at "go"
    refine ih _ hmem (C1.st Sg) (by walk_at "room") (C1.atg ho) (C1.atg hd) (C1.ata (.head _)) (C1.ata (.tail _ (.head _))) fn ff ndA (by rw [List.length_append, List.length_append, lfs, hlf, hln]) (hp.keep C1.F.keep) (hgood _ hmem) (by rw [List.length_append, hln]; omega) fun h3 tk3 t2 f2 l2 fs₂ names₂ fl₂ b2 F2 L2 R => ?_
    have hl2 : fl₂.length = fs₂.length := R.ll.trans R.lf.symm
    have hl1 : fl₁.length = fs₁.length := hll.trans hlf.symm
    have C4 := row_grow C1 hl1 R
    clear C1 C₁
    have says2 := says_at R.says (n' := names.length + cnts (ps.take i)) (by rw [List.length_append, hln])
    have bd2 : names.length + cnts (ps.take i) + cnt ps[i] ≤ 40 := by omega
    have bd1 : names.length + cnts (ps.take i) ≤ 40 := by omega
    have inF40 := in40 inF bd1
    have inL40 := in40 inL bd1
    have inF240 := in40 says2.1.F bd2
    have inL240 := in40 says2.1.L bd2
    rw [ht] at hcnt
    walk_at "go"
    refine u_tup ok'.hh C4 (C4.ata (a := t2) (P := isT [.bool b2, .ref f2, .ref l2]) (by walk_at "memx")) rfl rfl fun h5 C5 => ?_
    iterate 3 (refine u_more ?_; refine u_name ?_; walk_at "go")
    refine u_none ?_
    walk_at "go"
    clear C5 C4
    rename Cx _ _ _ _ _ => C4
    have nd5 := C4.nd
    rw [List.map_append, List.nodup_append] at nd5
    obtain ⟨neFa, neLa⟩ := nd8 nd5.1
    refine add_spec (C4.st Sg) (ok10of ok') (C4.ata (a := fa) (P := isI F) (by walk_at "memx")) (C4.ata (a := f2) (P := isI F2) (by walk_at "memx")) (C4.free Sg (fa, isI F) (by walk_at "memx")) neFa ndF inF40 inF240 fun h6 tk6 F' nF' hF' x6 p6 => ?_
    have C6 : Cx g h.objs.size _ ([(I, isTI ba (i + 1)), (nm, isS ((names ++ names₁) ++ names₂)), (fo, isID w (foKvs ((fs ++ fs₁) ++ fs₂))), (fa, isI F'), (la, isI L), (t2, isT [.bool b2, .ref f2, .ref l2]), (f2, isI F2), (l2, isI L2)] ++ FL (fs₁ ++ fs₂) (fl₁ ++ fl₂)) h6 := C4.behindAt (led₁ := [(I, isTI ba (i + 1)), (nm, isS ((names ++ names₁) ++ names₂)), (fo, isID w (foKvs ((fs ++ fs₁) ++ fs₂)))]) x6 p6
    refine ⟨rfl, ?_⟩
    walk_at "go"
    refine add_spec (C6.st Sg) (ok10of ok') (C6.ata (a := la) (P := isI L) (by walk_at "memx")) (C6.ata (a := l2) (P := isI L2) (by walk_at "memx")) (C6.free Sg (la, isI L) (by walk_at "memx")) neLa ndL inL40 inL240 fun h8 tk8 L' nL' hL' x8 p8 => ?_
    have C8 := C6.behindAt (led₁ := [(I, isTI ba (i + 1)), (nm, isS ((names ++ names₁) ++ names₂)), (fo, isID w (foKvs ((fs ++ fs₁) ++ fs₂))), (fa, isI F')]) x8 p8
    refine ⟨rfl, ?_⟩
    clear C6 C4
    rcases bb with _ | _
    · walk_at "go"
      rename Cx _ _ _ _ _ => C9
      refine turn_next (C9.sub (led' := [(I, isTI ba (i + 1)), (nm, isS ((names ++ names₁) ++ names₂)), (fo, isID w (foKvs ((fs ++ fs₁) ++ fs₂))), (fa, isI F'), (la, isI L')] ++ FL (fs₁ ++ fs₂) (fl₁ ++ fl₂)) (subT5 _ _ _ _ _ _ _ _ _)) ?_
      exact .nextA ht hcnt hlf hln hll R.lf R.ln R.ll okl R.okl nF' nL' hF' hL' says says2 (by walk_at "look") (by walk_at "look") (by walk_at "look") (by walk_at "look")
    · walk_at "go"
      rename Cx _ _ _ _ _ => C9
      refine turn_next (C9.sub (led' := [(I, isTI ba (i + 1)), (nm, isS ((names ++ names₁) ++ names₂)), (fo, isID w (foKvs ((fs ++ fs₁) ++ fs₂))), (fa, isI F'), (la, isI L')] ++ FL (fs₁ ++ fs₂) (fl₁ ++ fl₂)) (subT5 _ _ _ _ _ _ _ _ _)) ?_
      exact .nextA ht hcnt hlf hln hll R.lf R.ln R.ll okl R.okl nF' nL' hF' hL' says says2 (by walk_at "look") (by walk_at "look") (by walk_at "look") (by walk_at "look")
  · rintro m₁ led₁ h₅ tk₅ ⟨fs₁, names₁, fl₁, bb, F, L, fa, la, rfl, hlf, hln, hll, okl, ndF, ndL, says, m1, m2, m3, m4⟩ C₁
    walk_at "go"
    rename_i t C6
    exact k _ _ t fa la fs₁ names₁ fl₁ bb F L (rout_end C6 eg' rfl hlen hlf hln hll okl ndF ndL says)
end
theorem Good.mark {d : Nat} {p : Pt} (x : Good d p) : p.mark ∈ marks := by cases x <;> assumption
theorem Cx.pick {h g : Heap} {L : Addr} {m : Str → Option Value} {led led' : List (Addr × (Obj → Prop))} (C : Cx g L m led h) (hs : ∀ q ∈ led', ∃ P, (q.1, P) ∈ led ∧ ∀ o, P o → q.2 o) (nd : (led'.map (·.1)).Nodup) : Cx g L m led' h :=
  ⟨C.F, fun q hq => by
    obtain ⟨P, hm, hP⟩ := hs q hq
    obtain ⟨h1, h2, o, h3, h4⟩ := C.at_ _ hm
    exact ⟨h1, h2, o, h3, hP o h4⟩, nd⟩
theorem all6 {α : Type} {p : α → Prop} {a b c d e f : α} (h1 : p a) (h2 : p b) (h3 : p c) (h4 : p d) (h5 : p e) (h6 : p f) : ∀ x ∈ [a, b, c, d, e, f], p x := by simp [h1, h2, h3, h4, h5, h6]
theorem nd6 {t l f n a m : Addr} (h : [t, l, f, n, a, m].Nodup) : [m, n, t, f, l, a].Nodup :=
  ((List.perm_append_comm (l₁ := [t, l, f, n, a]) (l₂ := [m])).trans (((List.perm_middle (l₁ := [t, l, f]) (a := n) (l₂ := [a])).trans (((List.Perm.swap f l [a]).cons t).cons n)).cons m)).nodup_iff.mp h
theorem read_name {c mk : Str} : ReadSpec (.name c mk) := by
  intro w A s h h₀ tk E au dx nm fo v fs names Q S ok ho hd hn hfo fn ff ndA lfs hv hgood h40 k
  cases hv with
  | @name a t1 t2 t3 _ _ ha =>
  simp only [deepO, cnt] at ok h40 k
  have hmk : mk ∈ marks := let ⟨d, x⟩ := hgood; x.mark
  refine' enterC (d := 44) (u := 132) (binds := [(Str.ofString "self", .ref au), (Str.ofString "particle", .ref a)]) [(nm, isS names), (fo, isID w (foKvs fs))] S (two_ok ⟨fn, hn⟩ ⟨ff, hfo⟩) (nd4a ndA).2.2 (ok.mono (by omega) (by omega)) ?ho ?hcd ?hb ?hl ?_ ?c2 ?c3 ?c4 ?c5
  walk_at "enter"
  intro g h₁ tk₁ A' l' eg W ok' fr C
  have eg' : g = hideAll h [nm, fo] := eg
  have Sg : St w h₀ g := S.of_hide [nm, fo] (free2 fn ff) eg'
  have ho : At g au (isObj dx) := eg' ▸ ho.hide (nd4a ndA).1
  have hd : At g dx (isAt (bAttrs nm fo)) := eg' ▸ hd.hide (nd4a ndA).2.1
  have ha : At g a (isT [.str (Str.ofString "name") t1, .str c t2, .str mk t3]) := eg' ▸ ha.hide (ba_off ha hn hfo)
  walk_at "go"
  refine d_appendS C (by omega) fun h2 C2 => ⟨rfl, ?_⟩
  walk_at "go"
  obtain ⟨vs, hls, hsi⟩ := (C2.ata (.head _)).strs
  refine b_len hls.list (by rw [strs_len hsi, List.length_append, sizeLine_eq]; simp; omega) ?_
  have hvl : (vs.length : Int) = (fs.length : Int) + 1 := by rw [strs_len hsi, List.length_append, lfs]; simp
  rw [hvl]
  walk_at "go"
  rename_i h3 a1 C3
  refine s_dict C3.third (by rw [foKvs_length, sizeLine_eq]; omega) fun h4 C4 => ?_
  rw [foKvs_snoc] at C4
  walk_at "go"
  rename_i h5 f C5 h6 l C6 h7 t C7 h8 C8
  have nd8 := C8.nd
  have C9 := C8.pick (led' := [(nm, isS (names ++ [c])), (fo, isID w (foKvs (fs ++ [a1]))), (t, isT [.bool false, .ref f, .ref l]), (f, isI [(names.length : Int) + 1]), (l, isI [(names.length : Int) + 1])] ++ FL [a1] [[]]) (by
    rw [lfs]
    exact all6 ⟨_, .tail _ (.tail _ (.tail _ (.tail _ (.tail _ (.head _))))), fun o q => q⟩ ⟨_, .tail _ (.tail _ (.tail _ (.head _))), fun o q => q⟩ ⟨_, .head _, fun o q => q⟩
      ⟨_, .tail _ (.tail _ (.head _)), isL_isI (.cons _ _ .nil)⟩ ⟨_, .tail _ (.head _), isL_isI (.cons _ _ .nil)⟩ ⟨_, .tail _ (.tail _ (.tail _ (.tail _ (.head _)))), isL_isI .nil⟩) (nd6 nd8)
  refine mark_tail (O := Once (.name c mk)) C9 Sg (by walk_at "room") ho hd eg' rfl rfl rfl rfl lfs (fun x hx => by rw [List.mem_singleton.mp hx]; exact ⟨.nil, fun _ h => nomatch h⟩) (by simp) (by simp) (by omega) hmk ?_ fun h' tk' t' f' l' fl' b' R => ?_
  · rw [frag_one]
    refine (one_says names.length _).congr fun ws => ?_
    rw [Once]
    have : nmOf (names ++ [c]) ((names.length : Int) + 1) = c := by unfold nmOf; simp
    rw [this]
  · walk_at "go"
    exact k _ _ _ _ _ _ _ _ _ _ _ R
theorem permM {α : Type} (a b t f l : α) (F : List α) : ([a, b, t, f, l] ++ F).Perm ((t :: f :: l :: F) ++ [a, b]) := List.perm_append_comm (l₁ := [a, b]) (l₂ := t :: f :: l :: F)
theorem read_seq {ps : List Pt} {mk : Str} (hrow : RowsSpec 56 RowFits ps) : ReadSpec (.seq ps mk) := by
  intro w A s h h₀ tk E au dx nm fo v fs names Q S ok ho hd hn hfo fn ff ndA lfs hv hgood h40 k
  cases hv with
  | @seq a ba t1 t3 _ vs _ ha hb hlen hps =>
  simp only [deepO, cnt] at ok h40 k
  have hmk : mk ∈ marks := let ⟨d, x⟩ := hgood; x.mark
  have hkids : ∀ p ∈ ps, ∃ d, Good d p := by
    obtain ⟨d, x⟩ := hgood
    cases x with
    | seq _ _ q => exact fun p hp => ⟨_, q p hp⟩
  refine' enterC (d := deepR ps + 40) (u := 3 * (deepR ps + 40)) (binds := [(Str.ofString "self", .ref au), (Str.ofString "particle", .ref a)]) [(nm, isS names), (fo, isID w (foKvs fs))] S (two_ok ⟨fn, hn⟩ ⟨ff, hfo⟩) (nd4a ndA).2.2 (ok.mono (by omega) (by omega)) ?ho ?hcd ?hb ?hl ?_ ?c2 ?c3 ?c4 ?c5
  walk_at "enter"
  intro g h₁ tk₁ A' l' eg W ok' fr C
  have eg' : g = hideAll h [nm, fo] := eg
  have Sg : St w h₀ g := S.of_hide [nm, fo] (free2 fn ff) eg'
  have offT : ∀ x its, At h x (isT its) → At g x (isT its) := fun x its q => eg' ▸ q.hide (ba_off q hn hfo)
  have ho : At g au (isObj dx) := eg' ▸ ho.hide (nd4a ndA).1
  have hd : At g dx (isAt (bAttrs nm fo)) := eg' ▸ hd.hide (nd4a ndA).2.1
  have ha := offT _ _ ha
  have hb := offT _ _ hb
  have hps : ∀ (i : Nat) (v : Value) (p : Pt), vs[i]? = some v → ps[i]? = some p → PV g v p := fun i v p h1 h2 => (hps i v p h1 h2).keepT offT
  walk_at "go"
  refine hrow (C.st Sg) ok' (C.atg ho) (C.atg hd) (C.ata (.head _)) (C.ata (.tail _ (.head _))) fn ff ndA lfs (C.atg hb) hlen (fun i v p h1 h2 => (hps i v p h1 h2).keep C.F.keep) hkids h40 fun h3 tk3 t f l fs₁ names₁ fl₁ b F L R => ?_
  have C2 := Cx.behind (led₁ := [(nm, isS names), (fo, isID w (foKvs fs))]) (led₂ := [(nm, isS (names ++ names₁)), (fo, isID w (foKvs (fs ++ fs₁)))]) (led := []) C R.ext rfl (two_ok R.n R.fo)
  have hl1 : fl₁.length = fs₁.length := R.ll.trans R.lf.symm
  have C3 := C.mades C2 rfl R.new (by have := R.nd; simpa [FL_fst hl1] using this)
  clear C2 C
  walk_at "go"
  rename Cx _ _ _ _ _ => C4
  have C5 := C4.perm (permM (nm, isS (names ++ names₁)) (fo, isID w (foKvs (fs ++ fs₁))) (t, isT [.bool b, .ref f, .ref l]) (f, isI F) (l, isI L) (FL fs₁ fl₁))
  refine mark_tail (O := RowFits ps) C5 Sg (by walk_at "room") ho hd eg' rfl R.lf R.ln R.ll lfs R.okl R.ndF R.ndL h40 hmk R.says fun h' tk' t' f' l' fl' b' R' => ?_
  walk_at "go"
  exact k _ _ _ _ _ _ _ _ _ _ _ { R' with says := R'.says.congr fun ws => by show _ ↔ Rep (Once (.seq ps mk)) mk ws; rw [show Once (.seq ps mk) = RowFits ps from funext fun x => propext (by rw [Once])] }
theorem read_choice {ps : List Pt} {mk : Str} (hrow : RowsSpec 63 AnyFits ps) : ReadSpec (.choice ps mk) := by
  intro w A s h h₀ tk E au dx nm fo v fs names Q S ok ho hd hn hfo fn ff ndA lfs hv hgood h40 k
  cases hv with
  | @choice a ba t1 t3 _ vs _ ha hb hlen hps =>
  simp only [deepO, cnt] at ok h40 k
  have hmk : mk ∈ marks := let ⟨d, x⟩ := hgood; x.mark
  have hkids : ∀ p ∈ ps, ∃ d, Good d p := by
    obtain ⟨d, x⟩ := hgood
    cases x with
    | choice _ _ q => exact fun p hp => ⟨_, q p hp⟩
  refine' enterC (d := deepR ps + 40) (u := 3 * (deepR ps + 40)) (binds := [(Str.ofString "self", .ref au), (Str.ofString "particle", .ref a)]) [(nm, isS names), (fo, isID w (foKvs fs))] S (two_ok ⟨fn, hn⟩ ⟨ff, hfo⟩) (nd4a ndA).2.2 (ok.mono (by omega) (by omega)) ?ho ?hcd ?hb ?hl ?_ ?c2 ?c3 ?c4 ?c5
  walk_at "enter"
  intro g h₁ tk₁ A' l' eg W ok' fr C
  have eg' : g = hideAll h [nm, fo] := eg
  have Sg : St w h₀ g := S.of_hide [nm, fo] (free2 fn ff) eg'
  have offT : ∀ x its, At h x (isT its) → At g x (isT its) := fun x its q => eg' ▸ q.hide (ba_off q hn hfo)
  have ho : At g au (isObj dx) := eg' ▸ ho.hide (nd4a ndA).1
  have hd : At g dx (isAt (bAttrs nm fo)) := eg' ▸ hd.hide (nd4a ndA).2.1
  have ha := offT _ _ ha
  have hb := offT _ _ hb
  have hps : ∀ (i : Nat) (v : Value) (p : Pt), vs[i]? = some v → ps[i]? = some p → PV g v p := fun i v p h1 h2 => (hps i v p h1 h2).keepT offT
  walk_at "go"
  refine hrow (C.st Sg) ok' (C.atg ho) (C.atg hd) (C.ata (.head _)) (C.ata (.tail _ (.head _))) fn ff ndA lfs (C.atg hb) hlen (fun i v p h1 h2 => (hps i v p h1 h2).keep C.F.keep) hkids h40 fun h3 tk3 t f l fs₁ names₁ fl₁ b F L R => ?_
  have C2 := Cx.behind (led₁ := [(nm, isS names), (fo, isID w (foKvs fs))]) (led₂ := [(nm, isS (names ++ names₁)), (fo, isID w (foKvs (fs ++ fs₁)))]) (led := []) C R.ext rfl (two_ok R.n R.fo)
  have hl1 : fl₁.length = fs₁.length := R.ll.trans R.lf.symm
  have C3 := C.mades C2 rfl R.new (by have := R.nd; simpa [FL_fst hl1] using this)
  clear C2 C
  walk_at "go"
  rename Cx _ _ _ _ _ => C4
  have C5 := C4.perm (permM (nm, isS (names ++ names₁)) (fo, isID w (foKvs (fs ++ fs₁))) (t, isT [.bool b, .ref f, .ref l]) (f, isI F) (l, isI L) (FL fs₁ fl₁))
  refine mark_tail (O := AnyFits ps) C5 Sg (by walk_at "room") ho hd eg' rfl R.lf R.ln R.ll lfs R.okl R.ndF R.ndL h40 hmk R.says fun h' tk' t' f' l' fl' b' R' => ?_
  walk_at "go"
  exact k _ _ _ _ _ _ _ _ _ _ _ { R' with says := R'.says.congr fun ws => by show _ ↔ Rep (Once (.choice ps mk)) mk ws; rw [show Once (.choice ps mk) = AnyFits ps from funext fun x => propext (by rw [Once])] }
theorem read_spec : ∀ p, ReadSpec p := by
  refine @induct ReadSpec (fun c mk => @read_name c mk) (fun ps mk ih => @read_seq ps mk (@row_spec ps ih)) (fun ps mk ih => @read_choice ps mk (@choice_spec ps ih))
section
variable {w : World} {A : Around} {s : Shared} {h h' g h₀ : Heap} {L a : Addr} {m : Str → Option Value} {led : List (Addr × (Obj → Prop))} {tk : Nat} {E : Value → Shared → Prop} {env : Env} {st : Shared}
theorem u_attr {o : Expr} {attr : Str} {pos : Pos} {v : Value} {Q : Unit → Shared → Prop} (k : wpAny (Md w) A (eval o env) (fun ov s₂ => wpAny (Md w) A (setAttr ov attr v) (fun _ => Q ()) E s₂) E st) : wpAny (Md w) A (assign (.Attribute o attr pos) env v) Q E st := fun Γ p hΓ => by
  simp only [assign_Attribute, Sem.wp_bind', Sem.wp_holding, Sem.wp_cmd_standAt, Sem.wp_release, Sem.wp_pure']
  exact Sem.wp_mono (Md w) Γ _ (fun ov p₁ s₁ h₁ => h₁ Γ _ hΓ) (fun _ _ _ h' => h') _ _ (k Γ _ hΓ)
theorem under_ok {d u : Nat} {C : Addr} {vals : List Value} (ok : Ok A (d + 1) (u + 4)) : Ok (A.under (.builtin "type.__call__" ⟨.ref C :: vals, []⟩)) d u := by
  refine ⟨ok.hh, ?_, ?_, ?_⟩
  · obtain ⟨l, hl⟩ := ok.fr
    obtain ⟨hd, dp, fr, gs, us⟩ := A
    simp only at hl
    subst hl
    exact ⟨_, rfl⟩
  · have := ok.dp
    rw [depth_under_make]
    omega
  · have := ok.un
    have e : (Code.builtin "type.__call__" ⟨.ref C :: vals, []⟩).cUnits = 1 := rfl
    show A.units + (Code.builtin "type.__call__" ⟨.ref C :: vals, []⟩).cUnits + u < _
    omega
theorem enterCode {f : Addr} {args : List Value} {R : Result → Shared → Prop}
    {name qual : Str} {params : Arguments} {body : List Stmt} {scope : Scope} {dV kV doc pm cdv ct oc : Value} {an od : Option Addr} {osl : Array (Option Value)} {binds : List (Str × Value)} {d u : Nat}
    (led : List (Addr × (Obj → Prop))) (S : St w h₀ h) (hat : ∀ p ∈ led, h₀.get? p.1 = none ∧ At h p.1 p.2) (nd : (led.map (·.1)).Nodup) (hok : Ok A (d + 1) (u + 3))
    (ho : (hd.heap_39 w.params).lookup f = some ⟨oc, od, .func (fnOf name qual params body scope dV kV doc pm an cdv ct), osl⟩) (hcd : codeIn (hd.heap_39 w.params) cdv qual = true)
    (hbind : ∀ s, BindsTo s (fnOf name qual params body scope dV kV doc pm an cdv ct) ⟨args, []⟩ binds) (hloc : ∀ y ∈ binds, scope.names.lookup y.1 = some .local)
    (k : ∀ g h₁ tk₁ A' l, g = hideAll h (led.map (·.1)) → Wd w g → Ok A' d u → A'.frames = some (envOf qual scope h.objs.size f cdv :: l) → Cx g h.objs.size (bindm binds) led h₁ →
      wpAny (Md w) A' (execs body (envOf qual scope h.objs.size f cdv)) (fun fl s' => R (.ok (.ret (retv fl))) s') Bad (stt s h₁ tk₁))
    (hco : scope.isCoroutine = false := by rfl) (hgen : scope.isGenerator = false := by rfl) (hk : scope.kind = .function := by rfl)
    (hcell : ∀ x ∈ scope.names, x.2 ≠ .cell := by decide) : codeAny (Md w) A (.call (.ref f) ⟨args, []⟩) R (stt s h tk) := by
  have Wg := S.hide (led.map (·.1)) fun x hx => by obtain ⟨p, hp, rfl⟩ := List.mem_map.mp hx; exact (hat p hp).1
  obtain ⟨l, hl⟩ := hok.fr
  have Ks : (hd.heap_39 w.params).In h := S.here.kx
  refine codeAny_call_def (s := stt s h tk) (fd := fnOf name qual params body scope dV kV doc pm an cdv ct) (body := body) (binds := binds) (by have := hok.dp; omega) (Ks _ _ ho) rfl S.here.lim (codeRec_of Ks hcd) rfl (hbind _) hcell hloc (fun h₁ hns hk₁ => ?_) hco hgen hk
  refine wpAny_mono (k _ h₁ (tk + binds.length) (A.deeper (envOf qual scope h.objs.size f cdv)) l rfl Wg ⟨hok.hh, ⟨_, by show A.frames.map _ = _; rw [hl]; rfl⟩, ?_, ?_⟩ (by show A.frames.map _ = _; rw [hl]; rfl)
    ⟨⟨hns, fun b o e => hk₁ b o (of_hideAll _ e), Nat.le_of_eq (hideAll_size _ _)⟩, fun p hp => ?_, nd⟩) (fun fl s' hq => by cases fl <;> exact hq) fun _ _ x => x.elim
  · show A.depth + 1 + d < _
    have := hok.dp; omega
  · show A.units + 3 + u < _
    have := hok.un; omega
  · obtain ⟨_, o, e, q⟩ := hat p hp
    exact ⟨Nat.ne_of_lt (Heap.lt_size e), hideAll_mem (List.mem_map_of_mem hp), o, hk₁ _ _ e, q⟩
end
structure AutOk (a : AutA) (M : Aut) : Prop where
  len : a.fs.length = M.names.length
  lenF : M.fol.length = M.names.length
  small : M.names.length ≤ 40
  ndF : M.F.Nodup
  inF : ∀ z ∈ M.F, 1 ≤ z ∧ z ≤ M.names.length
  inL : ∀ z ∈ M.La, 1 ≤ z ∧ z ≤ M.names.length
  infol : ∀ x ∈ M.fol, ∀ z ∈ x, 1 ≤ z ∧ z ≤ M.names.length
  ndfol : ∀ x ∈ M.fol, x.Nodup
def autLed (w : World) (au : Addr) (a : AutA) (M : Aut) : List (Addr × (Obj → Prop)) :=
  [(au, isObj a.dx), (a.dx, isAt (autAttrs a M)), (a.nm, isS M.names), (a.fo, isID w (foKvs a.fs)), (a.f, isI M.F), (a.l, isI M.La)] ++ FL a.fs M.fol
theorem Cx.aut {w : World} {g h : Heap} {L au : Addr} {m : Str → Option Value} {led : List (Addr × (Obj → Prop))} {a : AutA} {M : Aut} (C : Cx g L m led h) (hs : ∀ q ∈ autLed w au a M, q ∈ led) (ok : AutOk a M) : AutAt w h au a M :=
  { o := C.ata (hs _ (.head _)), d := C.ata (hs _ (.tail _ (.head _))), n := C.ata (hs _ (.tail _ (.tail _ (.head _)))), fo := C.ata (hs _ (.tail _ (.tail _ (.tail _ (.head _))))), f := C.ata (hs _ (.tail _ (.tail _ (.tail _ (.tail _ (.head _)))))), l := C.ata (hs _ (.tail _ (.tail _ (.tail _ (.tail _ (.tail _ (.head _))))))),
    len := ok.len, lenF := ok.lenF, fol := fun i b x h1 h2 => C.ata (hs _ (List.mem_append_right _ (FL_mem h1 h2))), small := ok.small, ndF := ok.ndF, inF := ok.inF, inL := ok.inL, infol := ok.infol, ndfol := ok.ndfol }
theorem Aut.beh_pos {M : Aut} {z : Int} (h : 1 ≤ z) : M.beh z = getF M.fol (z - 1).toNat := by
  unfold Aut.beh getF
  rw [if_neg (by omega)]
theorem run_path {n : Nat} {M : Aut} (X : frag 0 M.nul M.F M.La M.fol = frag 0 M.nul M.F M.La M.fol) (hin : (frag 0 M.nul M.F M.La M.fol).In 0 n) : ∀ (ws : List Str) (z : Int), 1 ≤ z → (M.Run z ws ↔ Path (nmOf M.names) (frag 0 M.nul M.F M.La M.fol) z (nmOf M.names z :: ws))
  | [], z, hz => by
    rw [Aut.Run]
    constructor
    · intro h
      have h : z ∈ M.La := by
        unfold Aut.endOne at h
        rcases Bool.or_eq_true_iff.mp h with q | q
        · exact of_decide_eq_true q
        · have := of_decide_eq_true (Bool.and_eq_true_iff.mp q).1; omega
      exact .last h
    · intro p
      cases p with
      | last h => unfold Aut.endOne; rw [decide_eq_true (show z ∈ M.La from h)]; rfl
      | step _ p => exact absurd rfl p.ne
  | c :: ws, z, hz => by
    rw [Aut.Run]
    have fol : ∀ z', z' ∈ M.beh z ↔ (frag 0 M.nul M.F M.La M.fol).fol z z' := fun z' => by
      rw [Aut.beh_pos hz]
      show _ ↔ ((0 : Nat) : Int) < z ∧ z' ∈ getF M.fol (z - (0 : Nat) - 1).toNat
      rw [show z - ((0 : Nat) : Int) - 1 = z - 1 by omega]
      exact ⟨fun q => ⟨by omega, q⟩, fun q => q.2⟩
    constructor
    · rintro ⟨z', h1, rfl, h3⟩
      have q := (fol z').mp h1
      have := (hin.fol _ _ q).2
      exact .step q ((run_path X hin ws z' (by omega)).mp h3)
    · intro p
      cases p with
      | @step _ z' _ h p =>
        have := (hin.fol _ _ h).2
        have hc : nmOf M.names z' = c := by cases p <;> rfl
        refine ⟨z', (fol z').mpr h, hc, (run_path X hin ws z' (by omega)).mpr ?_⟩
        rw [hc]; exact p
theorem run_lang {M : Aut} {O : List Str → Prop} (h : (frag 0 M.nul M.F M.La M.fol).Says 0 M.names.length (nmOf M.names) O) (ws : List Str) : M.Run 0 ws ↔ O ws := by
  rw [← h.2 (nmOf M.names) (fun _ _ _ => rfl)]
  have inF := h.1.F
  have inL := h.1.L
  cases ws with
  | nil =>
    rw [Aut.Run]
    unfold Aut.endOne Frag.Lang
    have : ¬ (0 : Int) ∈ M.La := fun q => by have := inL 0 q; omega
    simp only [decide_eq_true_eq, decide_eq_false this, Bool.false_or, decide_true, Bool.true_and, and_true]
    constructor
    · exact .inl
    · rintro (q | ⟨z, _, p⟩)
      · exact q
      · exact absurd rfl p.ne
  | cons c ws =>
    rw [Aut.Run]
    unfold Frag.Lang
    have b0 : M.beh 0 = M.F := rfl
    rw [b0]
    constructor
    · rintro ⟨z, h1, rfl, h3⟩
      have := inF z h1
      exact .inr ⟨z, h1, (run_path rfl h.1 ws z (by omega)).mp h3⟩
    · rintro (⟨_, q⟩ | ⟨z, hz, p⟩)
      · cases q
      · have := inF z hz
        have hc : nmOf M.names z = c := by cases p <;> rfl
        refine ⟨z, hz, hc, (run_path rfl h.1 ws z (by omega)).mpr ?_⟩
        rw [hc]; exact p
theorem aut_ok {a : AutA} {M : Aut} {c : Nat} {O : List Str → Prop} (lf : a.fs.length = c) (ln : M.names.length = c) (ll : M.fol.length = c) (h40 : c ≤ 40) (okl : okL M.fol) (ndF : M.F.Nodup) (says : (frag 0 M.nul M.F M.La M.fol).Says 0 M.names.length (nmOf M.names) O) : AutOk a M where
  len := lf.trans ln.symm
  lenF := ll.trans ln.symm
  small := by omega
  ndF := ndF
  inF := fun z hz => by have := says.1.F z hz; omega
  inL := fun z hz => by have := says.1.L z hz; omega
  infol := fun x hx z hz => by
    obtain ⟨i, hi, rfl⟩ := List.getElem_of_mem hx
    have : z ∈ getF M.fol i := by unfold getF; rw [List.getElem?_eq_getElem hi]; exact hz
    have q := (says.1.fol ((i : Int) + 1) z ⟨by omega, by rw [show (i : Int) + 1 - ((0 : Nat) : Int) - 1 = i by omega]; exact this⟩).2
    omega
  ndfol := fun x hx => (okl x hx).1
theorem permP {α : Type} (d t f l n o : α) (F : List α) : (([n, o, f, l] ++ F) ++ [d, t]).Perm (d :: t :: f :: l :: (F ++ [n, o])) :=
  (List.perm_append_comm (l₁ := [n, o] ++ (f :: l :: F)) (l₂ := [d, t])).trans ((List.perm_append_comm (l₁ := [n, o]) (l₂ := f :: l :: F)).append_left [d, t])
theorem permR {α : Type} (A B C : List α) : ((A ++ B) ++ C).Perm (B ++ (A ++ C)) := by
  rw [List.append_assoc]; exact List.perm_append_comm_assoc A B C
theorem permQ {α : Type} (d t f l n o : α) (F : List α) : (d :: t :: f :: l :: (F ++ [n, o])).Perm ((t :: f :: l :: F) ++ [n, o, d]) :=
  (List.perm_append_comm (l₁ := [d]) (l₂ := (t :: f :: l :: F) ++ [n, o])).trans (by rw [List.append_assoc]; exact .refl _)
section
variable {w : World} {A : Around} {s : Shared} {h h₀ : Heap} {tk : Nat} {E : Value → Shared → Prop}
theorem init_code {x dx : Addr} {v : Value} {p : Pt} {R : Result → Shared → Prop} (S : St w h₀ h) (ok : Ok A (deepO p + 41) (3 * (deepO p + 41))) (hx : At h x (isObj dx)) (hdx : At h dx (isAt [])) (fx : h₀.get? dx = none) (hne : x ≠ dx) (hv : PV h v p) (hgood : ∃ d, Good d p) (h40 : cnt p ≤ 40)
    (k : ∀ h' tk' a M, a.dx = dx → AutOk a M → (∀ ws, M.Run 0 ws ↔ Fits p ws) → Ext [dx] h h' → At h' dx (isAt (autAttrs a M)) →
      (∀ q ∈ [(a.nm, isS M.names), (a.fo, isID w (foKvs a.fs)), (a.f, isI M.F), (a.l, isI M.La)] ++ FL a.fs M.fol, At h' q.1 q.2 ∧ h.get? q.1 = none) → (([(a.nm, isS M.names), (a.fo, isID w (foKvs a.fs)), (a.f, isI M.F), (a.l, isI M.La)] ++ FL a.fs M.fol).map (·.1)).Nodup → R (.ok (.ret .none)) (stt s h' tk')) :
    codeAny (Md w) A (.call (.ref 42) ⟨[.ref x, v], []⟩) R (stt s h tk) := by
  refine' enterCode (d := deepO p + 40) (u := 3 * (deepO p + 40)) (binds := [(Str.ofString "self", .ref x), (Str.ofString "particle", v)]) [(dx, isAt [])] S (by intro q hq; rw [List.mem_singleton.mp hq]; exact ⟨fx, hdx⟩) (by simp) (ok.mono (by omega) (by omega)) ?ho ?hcd ?hb ?hl ?_ ?c2 ?c3 ?c4 ?c5
  walk_at "enter"
  intro g h₁ tk₁ A' l' eg W ok' fr C
  have eg' : g = hideAll h [dx] := eg
  have Sg : St w h₀ g := S.of_hide [dx] (by simp [fx]) eg'
  have hx : At g x (isObj dx) := by rw [eg']; exact hx.hide (by simpa using hne)
  have hv : PV g v p := by
    rw [eg']
    refine hv.keepT fun b its q => q.hide ?_
    simp only [List.mem_cons, List.not_mem_nil, or_false]
    rintro rfl
    obtain ⟨o, _, ⟨n, rfl⟩, es, k, q, _⟩ := q.inj hdx
    exact absurd (congrArg Obj.data q) (by simp [dictOf])
  walk_at "go"
  rename_i nm C2
  refine a_set C2.swap W (C2.atg hx) (by decide) (by simp) fun h3 C3 => ?_
  walk_at "go"
  refine d_dictI (w := w) C3 fun h4 fo C4 => ?_
  walk_at "go"
  refine a_set C4.swap W (C4.atg hx) (by decide) (by simp [putA]) fun h5 C5 => ?_
  have C5 : Cx g h.objs.size _ [(dx, isAt (bAttrs nm fo)), (fo, isID w []), (nm, isL [])] h5 := C5
  walk_at "go"
  have nd5 := C5.nd
  have C6 := C5.pick (led' := [(nm, isS []), (fo, isID w (foKvs [])), (dx, isAt (bAttrs nm fo))]) (by
    intro q hq
    simp only [List.mem_cons, List.not_mem_nil, or_false] at hq
    rcases hq with rfl | rfl | rfl
    · exact ⟨_, .tail _ (.tail _ (.head _)), isL_isS .nil⟩
    · exact ⟨_, .tail _ (.head _), fun o q => q⟩
    · exact ⟨_, .head _, fun o q => q⟩) (by simp at nd5 ⊢; grind)
  clear C5 C4 C3 C2
  have xne : ∀ q ∈ [(nm, isS []), (fo, isID w (foKvs [])), (dx, isAt (bAttrs nm fo))], x ≠ q.1 := fun q hq => ne_of_none hx (C6.at_ q hq).2.1
  refine read_spec p (C6.st Sg) ok' (C6.atg hx) (C6.ata (.tail _ (.tail _ (.head _)))) (C6.ata (.head _)) (C6.ata (.tail _ (.head _))) (C6.free Sg (nm, isS []) (.head _)) (C6.free Sg (fo, isID w (foKvs [])) (.tail _ (.head _))) (by
    have n1 := xne _ (.head _); have n2 := xne _ (.tail _ (.head _)); simp only at n1 n2
    simp at nd5 ⊢; grind) rfl (hv.keep C6.F.keep) hgood (by simpa using h40) fun h7 tk7 t f l fs₁ names₁ fl₁ b F L R' => ?_
  have C7 := Cx.behind (led₁ := [(nm, isS []), (fo, isID w (foKvs []))]) (led₂ := [(nm, isS names₁), (fo, isID w (foKvs fs₁))]) (led := [(dx, isAt (bAttrs nm fo))]) C6 R'.ext rfl (by intro q hq; simp only [List.mem_cons, List.not_mem_nil, or_false] at hq; rcases hq with rfl | rfl; exact R'.n; exact R'.fo)
  have hl1 : fl₁.length = fs₁.length := R'.ll.trans R'.lf.symm
  have C8 := C6.mades C7 rfl R'.new (by have := R'.nd; simpa [FL_fst hl1] using this)
  have C9 := C8.perm (permQ (dx, isAt (bAttrs nm fo)) (t, isT [.bool b, .ref f, .ref l]) (f, isI F) (l, isI L) (nm, isS names₁) (fo, isID w (foKvs fs₁)) (FL fs₁ fl₁))
  clear C8 C7 C6
  walk_at "go"
  refine u_tup ok'.hh C9 (C9.ata (.tail _ (.head _))) rfl rfl fun h9 C9 => ?_
  refine u_more ?_
  refine u_attr ?_
  walk_at "go"
  refine a_set C9 W (C9.atg hx) (by decide) (by simp) fun h10 C10 => ?_
  refine u_more ?_
  refine u_attr ?_
  walk_at "go"
  refine a_set C10 W (C10.atg hx) (by decide) (by show (3 : Nat) ≤ 100; decide) fun h11 C11 => ?_
  refine u_more ?_
  refine u_attr ?_
  walk_at "go"
  refine a_set C11 W (C11.atg hx) (by decide) (by show (4 : Nat) ≤ 100; decide) fun h12 C12 => ?_
  have C12 : Cx g h.objs.size _ ((dx, isAt (autAttrs ⟨dx, nm, fo, f, l, fs₁⟩ ⟨b, F, L, names₁, fl₁⟩)) :: (t, isT [.bool b, .ref f, .ref l]) :: (f, isI F) :: (l, isI L) :: (FL fs₁ fl₁ ++ [(nm, isS names₁), (fo, isID w (foKvs fs₁))])) h12 := C12
  refine u_none ?_
  walk_at "go"
  have CE := C12.perm (permP _ _ _ _ _ _ _)
  have ndE := CE.nd
  rw [List.map_append, List.nodup_append] at ndE
  have says : (frag 0 b F L fl₁).Says 0 names₁.length (nmOf names₁) (Fits p) := by
    have q := R'.says
    rw [R'.ln]
    simpa using q
  refine k _ _ ⟨dx, nm, fo, f, l, fs₁⟩ ⟨b, F, L, names₁, fl₁⟩ rfl (aut_ok (c := cnt p) R'.lf R'.ln R'.ll h40 R'.okl R'.ndF says) (fun ws => run_lang says ws) (CE.ext (led₀ := [(dx, isAt [])]) eg' rfl) (CE.ata (by simp)) (fun q hq => ⟨CE.ata (List.mem_append_left _ hq), CE.fresh (P := q.2) (led₀ := [(dx, isAt [])]) eg' (List.mem_append_left _ hq) fun q' => ndE.2.2 _ (List.mem_map_of_mem hq) dx (by simp) (by simpa using q')⟩) ndE.1
theorem auto_spec {g : Heap} {L : Addr} {m : Str → Option Value} {led : List (Addr × (Obj → Prop))} {v : Value} {p : Pt} {Q : Value → Shared → Prop} (C : Cx g L m led h) (W : Wd w g) (ok : Ok A (deepO p + 42) (3 * (deepO p + 41) + 4)) (hv : PVL led v p) (hgood : ∃ d, Good d p) (h40 : cnt p ≤ 40)
    (k : ∀ h' tk' au a M, AutOk a M → (∀ ws, M.Run 0 ws ↔ Fits p ws) → Cx g L m (autLed w au a M ++ led) h' → Q (.ref au) (stt s h' tk')) :
    wpAny (Md w) A (call (.ref 127) [v]) Q E (stt s h tk) := by
  obtain ⟨news, N, back, has⟩ := C.toNews2
  have mk := make_ok w.params
  refine call_cls (s := stt s h tk) (K := KK w) (kw := []) C.F W.kx N mk.1 mk.2.1 mk.2.2 fun x dx h2 F2 N2 hlt hxd => ?_
  have C2 : Cx g L m led h2 := back h2 _ F2 fun q hq => N2 q (.tail _ (.tail _ hq))
  have nx := N2 _ (.head _)
  have nd := N2 _ (.tail _ (.head _))
  have lt : ∀ b, b ∈ led.map (·.1) → b < dx := fun b hb => by
    obtain ⟨q, hq, rfl⟩ := List.mem_map.mp hb
    obtain ⟨o, ho⟩ := has q hq
    exact hlt _ ho
  have C3 : Cx g L m ((x, isObj dx) :: (dx, isAt []) :: led) h2 := (C2.add ⟨_, nd.1, [], 0, rfl, .nil⟩ nd.2.1 nd.2.2 fun q => absurd (lt dx q) (Nat.lt_irrefl _)).add ⟨_, nx.1, rfl⟩ nx.2.1 nx.2.2 fun q => by
    rcases List.mem_cons.mp q with q | q
    · exact absurd hxd (by rw [q]; exact Nat.lt_irrefl _)
    · exact absurd (lt x q) (Nat.not_lt.mpr (Nat.le_of_lt hxd))
  have kv : PV h2 v p := hv.pv fun q hq => C2.ata hq
  refine init_code (h₀ := g) ⟨W, C3.F.keep⟩ (under_ok ok) (C3.ata (.head _)) (C3.ata (.tail _ (.head _))) nd.2.2 (Nat.ne_of_gt hxd) kv hgood h40 fun h' tk' a M hadx okM run x5 hattr new ndn => ⟨rfl, ?_⟩
  have C4 := C3.behindAt (led₁ := [(x, isObj dx)]) x5 hattr
  have C5 := C3.mades C4 rfl new ndn
  subst hadx
  exact k h' tk' x a M okM run (C5.perm (permR [(x, isObj a.dx), (a.dx, isAt (autAttrs a M))] ([(a.nm, isS M.names), (a.fo, isID w (foKvs a.fs)), (a.f, isI M.F), (a.l, isI M.La)] ++ FL a.fs M.fol) led))
end
theorem Cx.neHd {g h : Heap} {L : Addr} {m : Str → Option Value} {led : List (Addr × (Obj → Prop))} {a b : Addr} {P Q : Obj → Prop} (C : Cx g L m ((a, P) :: led) h) (hm : (b, Q) ∈ led) : a ≠ b := fun e => (List.nodup_cons.mp C.nd).1 (e ▸ List.mem_map_of_mem (f := (·.1)) hm)
theorem all4 {α : Type} {p : α → Prop} {a b c d : α} (h1 : p a) (h2 : p b) (h3 : p c) (h4 : p d) : ∀ x ∈ [a, b, c, d], p x := by simp [h1, h2, h3, h4]
theorem nd_pick {x b n i s : Addr} {l : List Addr} (h : (x :: b :: n :: i :: s :: l).Nodup) : [i, s, n, b].Nodup ∧ n ≠ s :=
  have h4 : [b, n, i, s].Nodup := h.sublist (.cons _ (.cons_cons _ (.cons_cons _ (.cons_cons _ (.cons_cons _ (List.nil_sublist _))))))
  ⟨((List.perm_append_comm (l₁ := [b, n]) (l₂ := [i, s])).trans ((List.Perm.swap n b []).append_left [i, s])).nodup_iff.mp h4, fun e => (List.nodup_cons.mp (List.nodup_cons.mp h4).2).1 (by rw [e]; exact .tail _ (.head _))⟩
inductive LRowInv (src au : Addr) (M : Aut) (i : Nat) (m : Str → Option Value) (led : List (Addr × (Obj → Prop))) : Prop
  | mk (nl : Addr) (ss : List Str) (sa : Addr) (us : List Value) (qs : List Int) (e : led = [(src, isSrc), (nl, isS ss), (sa, isT us)]) (hss : ss.length = i) (hui : IntsAre us qs) (hqs : ∀ p ∈ qs, 0 ≤ p ∧ p ≤ M.names.length)
    (m1 : m "source" = some (.ref src)) (m2 : m "automaton" = some (.ref au)) (m3 : m "state" = some (.ref sa)) (m4 : m "names" = some (.ref nl))
section
variable {w : World} {A : Around} {s : Shared} {h h₀ : Heap} {tk : Nat} {E : Value → Shared → Prop}
theorem lrow_spec {src au : Addr} {a : AutA} {M : Aut} {Q : Value → Shared → Prop} (S : St w h₀ h) (ok : Ok A 340 160) (hsrc : At h src isSrc) (hf : h₀.get? src = none) (U : AutAt w (hideAll h [src]) au a M)
    (k : ∀ h' tk' b ss, Ext [src] h h' → h.get? b = none → At h' b (isS ss) → ss.length ≤ 3 → At h' src isSrc → Q (.ref b) (stt s h' tk')) :
    wpAny (Md w) A (call (.ref 185) [.ref src, .ref au]) Q E (stt s h tk) := by
  refine' enterC (d := 339) (u := 157) (binds := [(Str.ofString "source", .ref src), (Str.ofString "automaton", .ref au)]) [(src, isSrc)] S (all1 ⟨hf, hsrc⟩) (by simp) ok ?ho ?hcd ?hb ?hl ?_ ?c2 ?c3 ?c4 ?c5
  walk_at "enter"
  intro g h₁ tk₁ A' l' eg W ok' fr C
  have eg' : g = hideAll h [src] := eg
  have Sg : St w h₀ g := S.of_hide [src] (all1 hf) eg'
  rw [← eg'] at U
  have ho := U.o; have hd := U.d
  walk_at "go"
  refine x_asg_sw (names := ["state", "names"]) ?_ (by with_unfolding_all rfl) (by with_unfolding_all rfl)
  walk_at "go"
  rename_i h2 sa C2 h3 nl C3 h4 t4 C4
  refine u_items ok'.hh C4 (C4.ata (.head _)) rfl fun h5 C5 => ?_
  iterate 2 (refine u_more ?_; refine u_bind ?_; walk_at "go")
  refine u_none ?_
  walk_at "go"
  rename Cx _ _ _ _ _ => C6
  have C6 := C6.drop
  refine take_spec (C6.st Sg) (by walk_at "room") (C6.ata (a := src) (P := isSrc) (by walk_at "mem")) (C6.free Sg (src, isSrc) (by walk_at "mem")) (by decide) fun h7 tk7 r t r0 r1 x7 hs7 => ?_
  have C7 : Cx g h.objs.size _ [(nl, isL []), (sa, isT _), (src, isSrc)] h7 := C6.behindAt (led₁ := [(nl, isL []), (sa, isT _)]) x7 hs7
  have C8 := (C7.weak (isL_isS .nil)).third
  walk_at "go"
  refine b_range1 C8 fun h9 rg hr C9 => ?_
  refine for_range (a := 0) (n := r.toNat) (LRowInv src au M) ok'.hh C9 hr
    (by split <;> omega) (by omega) (by omega) ⟨nl, [], sa, _, [0], rfl, rfl, .cons _ _ .nil, by simp, rfl, rfl, rfl, rfl⟩ ?_ ?_
  · rintro i t6 m₁ led₁ hA tkA I hi ⟨nl, ss, sa, us, qs, rfl, hss, hui, hqs, m1, m2, m3, m4⟩ C₁
    have C₁ : Cx g h.objs.size _ [(I, isRI 0 r.toNat (i + 1)), (src, isSrc), (nl, isS ss), (sa, isT us)] hA := C₁
    walk_at "go"
    refine expected_spec (C₁.st Sg) (by walk_at "room") (U.keep C₁.F.keep) (C₁.ata (a := sa) (P := isT us) (by walk_at "mem")) hui hqs fun hB tkB be es xB hbe hbs hbl _ => ?_
    have CB := C₁.made (C₁.pass xB) rfl hbs hbe
    walk_at "go"
    rename_i hC al CC
    obtain ⟨evs, hel, hei⟩ := (CC.ata (a := be) (P := isS es) (by walk_at "mem")).strs
    refine b_addL CC hel (CC.ata (.head _)) (by rw [strs_len hei, sizeLine_eq]; simp; omega) fun hD ab CD => ?_
    walk_at "go"
    refine one_spec (CD.st Sg) (by walk_at "room") (CD.ata (a := src) (P := isSrc) (by walk_at "mem")) (CD.free Sg (src, isSrc) (by walk_at "mem")) (CD.ata (.head _)) (CD.neHd (Q := isSrc) (by walk_at "mem")) (by simp) (by rw [List.length_append, strs_len hei, sizeLine_eq]; simp; omega) fun hE tkE v hv xE hsE => ?_
    obtain ⟨c, tc, rfl⟩ : ∃ c tc, v = .str c tc := by
      rcases List.mem_append.mp hv with q | q
      · obtain ⟨j, hj, rfl⟩ := List.getElem_of_mem q
        obtain ⟨n, u, _, e⟩ := strs_get' hei (List.getElem?_eq_getElem hj)
        exact ⟨n, u, e⟩
      · exact ⟨_, _, List.mem_singleton.mp q⟩
    have CE := CD.behindAt (led₁ := [_, _, _, _]) (led₂ := [(nl, isS ss), (sa, isT us)]) xE hsE
    have CF : Cx g h.objs.size _ [(nl, isS ss), (I, isRI 0 r.toNat (i + 1)), (src, isSrc), (sa, isT us)] hE := (CE.drop.drop.drop).third
    clear CE CD CC CB C₁
    walk_at "go"
    refine d_appendS CF (by omega) fun hF CG => ⟨rfl, ?_⟩
    clear CF
    walk_at "go"
    obtain ⟨nvs, hnl, hni⟩ := (CG.ata (.head _)).strs
    have hnlen : nvs.length = ss.length + 1 := by rw [strs_len hni]; simp
    obtain ⟨c', t', ec, ev⟩ := strs_get' hni (List.getElem?_eq_getElem (show nvs.length - 1 < nvs.length by omega))
    obtain rfl : c = c' := by
      rw [hnlen, Nat.add_sub_cancel, List.getElem?_append_right (Nat.le_refl _)] at ec
      simpa using ec
    refine i_neg hnl.list (x := .str c t') (by rw [List.getElem?_eq_getElem (show nvs.length - 1 < nvs.length by omega), ev]) ?_ (by with_unfolding_all rfl)
    walk_at "go"
    refine step_spec (CG.st Sg) (by walk_at "room") (U.keep CG.F.keep) (CG.ata (a := sa) (P := isT us) (by walk_at "mem")) hui hqs fun hG tkG b us' qs' xG hb hbt hui' nd' hq' => ?_
    have CH := CG.made (CG.pass xG) rfl hbt hb
    clear CG
    walk_at "go"
    · rename Cx _ _ _ _ _ => CI
      exact k _ _ nl _ (CI.ext (led₀ := [(src, isSrc)]) eg' rfl) (CI.fresh (led₀ := [(src, isSrc)]) eg' (P := isS (ss ++ [c])) (.tail _ (.tail _ (.head _))) (fun q => (nd_pick CI.nd).2 (List.mem_singleton.mp q))) (CI.ata (.tail _ (.tail _ (.head _)))) (by rw [List.length_append]; simp; omega) (CI.ata (a := src) (P := isSrc) (by walk_at "mem"))
    · rename Cx _ _ _ _ _ => CI
      have CJ := CI.pick (led' := [(I, isRI 0 r.toNat (i + 1)), (src, isSrc), (nl, isS (ss ++ [c])), (b, isT us')])
        (all4 ⟨_, .tail _ (.tail _ (.tail _ (.head _))), fun o q => q⟩ ⟨_, .tail _ (.tail _ (.tail _ (.tail _ (.head _)))), fun o q => q⟩ ⟨_, .tail _ (.tail _ (.head _)), fun o q => q⟩ ⟨_, .tail _ (.head _), fun o q => q⟩) (nd_pick CI.nd).1
      refine turn_next CJ ⟨nl, _, b, us', qs', rfl, by rw [List.length_append, hss]; rfl, hui', fun z hz => ?_, by walk_at "look", by walk_at "look", by walk_at "look", by walk_at "look"⟩
      obtain ⟨p, _, hb', _⟩ := (hq' z).mp hz
      have := beh_in U hb'
      omega
  · rintro m₁ led₁ hA tkA ⟨nl, ss, sa, us, qs, rfl, hss, hui, hqs, m1, m2, m3, m4⟩ C₂
    walk_at "go"
    exact k _ _ nl ss (C₂.ext (led₀ := [(src, isSrc)]) eg' rfl) (C₂.fresh (led₀ := [(src, isSrc)]) eg' (P := isS ss) (.tail _ (.head _)) (fun q => C₂.ne12 (List.mem_singleton.mp q).symm)) (C₂.ata (.tail _ (.head _))) (by omega) (C₂.ata (.head _))
end
local macro_rules | `(tactic| walk_at "memr") => `(tactic| first | with_reducible assumption | with_reducible exact List.mem_cons_self | (with_reducible refine List.mem_cons_of_mem _ ?_; walk_at "memr"))
local macro_rules | `(tactic| walk_at "mem") => `(tactic| walk_at "memr")
section
variable {w : World} {A : Around} {s : Shared} {g h₁ : Heap} {L : Addr} {m : Str → Option Value} {tk : Nat}
theorem AutAt.of {h : Heap} {au : Addr} {a : AutA} {M : Aut} (hs : ∀ q ∈ autLed w au a M, At h q.1 q.2) (ok : AutOk a M) : AutAt w h au a M :=
  { o := hs _ (.head _), d := hs _ (.tail _ (.head _)), n := hs _ (.tail _ (.tail _ (.head _))), fo := hs _ (.tail _ (.tail _ (.tail _ (.head _)))), f := hs _ (.tail _ (.tail _ (.tail _ (.tail _ (.head _))))), l := hs _ (.tail _ (.tail _ (.tail _ (.tail _ (.tail _ (.head _)))))),
    len := ok.len, lenF := ok.lenF, fol := fun i b x h1 h2 => hs _ (List.mem_append_right _ (FL_mem h1 h2)), small := ok.small, ndF := ok.ndF, inF := ok.inF, inL := ok.inL, infol := ok.infol, ndfol := ok.ndfol }
theorem cnts_le {ps : List Pt} {c : Nat} (h : ∀ p ∈ ps, cnt p ≤ c) : cnts ps ≤ ps.length * c := by
  induction ps with
  | nil => simp [cnts]
  | cons p ps ih =>
    rw [cnts, List.length_cons, Nat.succ_mul]
    have := h p (.head _)
    have := ih fun q hq => h q (.tail _ hq)
    omega
theorem deepR_le {ps : List Pt} {c : Nat} (h : ∀ p ∈ ps, deepO p ≤ c) : deepR ps ≤ 5 + ps.length * (25 + c) := by
  induction ps with
  | nil => simp [deepR]
  | cons p ps ih =>
    rw [deepR, List.length_cons, Nat.succ_mul]
    have := h p (.head _)
    have := ih fun q hq => h q (.tail _ hq)
    omega
theorem Good.b0 {p : Pt} (h : Good 0 p) : cnt p ≤ 1 ∧ deepO p ≤ 5 := by
  cases h; simp [cnt, Mine.deepO]
theorem Good.b1 {p : Pt} (h : Good 1 p) : cnt p ≤ 3 ∧ deepO p ≤ 96 := by
  cases h with
  | name _ => simp [cnt, Mine.deepO]
  | @seq _ ps _ _ hl hk =>
    have h1 := cnts_le fun p hp => (hk p hp).b0.1
    have h2 := deepR_le fun p hp => (hk p hp).b0.2
    simp only [cnt, Mine.deepO]; omega
  | @choice _ ps _ _ hl hk =>
    have h1 := cnts_le fun p hp => (hk p hp).b0.1
    have h2 := deepR_le fun p hp => (hk p hp).b0.2
    simp only [cnt, Mine.deepO]; omega
theorem Good.bounds {p : Pt} (h : Good 2 p) : cnt p ≤ 9 ∧ deepO p ≤ 369 := by
  cases h with
  | name _ => simp [cnt, Mine.deepO]
  | @seq _ ps _ _ hl hk =>
    have h1 := cnts_le fun p hp => (hk p hp).b1.1
    have h2 := deepR_le fun p hp => (hk p hp).b1.2
    simp only [cnt, Mine.deepO]; omega
  | @choice _ ps _ _ hl hk =>
    have h1 := cnts_le fun p hp => (hk p hp).b1.1
    have h2 := deepR_le fun p hp => (hk p hp).b1.2
    simp only [cnt, Mine.deepO]; omega
theorem law_go {f : Addr} {Q : Flow → Shared → Prop} {st : Shared} {fd fd' : FuncData} {oc oc' : Value} {od od' : Option Addr} {osl osl' : Array (Option Value)} {body body' : List Stmt} {cdv : Value} {l : List Env}
    (ho' : (hd.heap_39 w.params).lookup 192 = some ⟨oc', od', .func fd', osl'⟩) (ho : (hd.heap_39 w.params).lookup 192 = some ⟨oc, od, .func fd, osl⟩) (hb : fd.body = .stmts body) (hb' : fd'.body = .stmts body') (fr : A.frames = some (envOf fd.qualname fd.scope L f cdv :: l))
    (k : A.frames = some (envOf fd'.qualname fd'.scope L f cdv :: l) → wpAny (Md w) A (execs body' (envOf fd'.qualname fd'.scope L f cdv)) Q Bad st) : wpAny (Md w) A (execs body (envOf fd.qualname fd.scope L f cdv)) Q Bad st := by
  rw [ho'] at ho
  injection ho with ho
  injection ho with _ _ ho _
  injection ho with ho
  subst ho
  rw [hb'] at hb
  injection hb with hb
  subst hb
  exact k fr
theorem law_body {sc f : Addr} {vs : List Value} {ns : List Int} {Q : Flow → Shared → Prop} {name qual : Str} {params : Arguments} {body : List Stmt} {scope : Scope} {dV kV doc pm cdv cdv2 ct oc : Value} {an od : Option Addr} {osl : Array (Option Value)} {l : List Env}
    (ho : (hd.heap_39 w.params).lookup 192 = some ⟨oc, od, .func (fnOf name qual params body scope dV kV doc pm an cdv2 ct), osl⟩)
    (C : Cx g L m [] h₁) (W : Wd w g) (hm : m "script" = some (.ref sc)) (ok : Ok A 600 3000) (fr : A.frames = some (envOf qual scope L f cdv :: l)) (hsc : At g sc (isQ vs)) (hi : IntsAre vs ns) (hlen : ns.length ≤ 63)
    (k : ∀ h' tk' m led, Cx g L m led h' → Q (.ret (.bool true)) (stt s h' tk')) : wpAny (Md w) A (execs body (envOf qual scope L f cdv)) Q Bad (stt s h₁ tk) := by
  refine' law_go ?ho ho rfl ?hb fr ?_
  case ho => k_is
  case hb => exact rfl
  clear fr ho
  intro fr
  walk_at "go"
  have Sg : St w g g := ⟨W, fun _ _ e => e⟩
  refine pool_spec (C.st Sg) (by walk_at "room") (C.atg hsc) hi hlen fun h2 tk2 src x2 n2 hs2 => ?_
  have C2 := C.made (C.pass x2) rfl hs2 n2
  clear x2 n2 hs2
  walk_at "go"
  rename Cx _ _ _ _ _ => C3
  refine particle_spec (C3.st Sg) rfl (by walk_at "room") (C3.ata (.head _)) (C3.free Sg _ (.head _)) fun h4 tk4 v p ex good pvl atx ndx x4 hs4 => ?_
  have C4' : Cx g L _ [(src, isSrc)] h4 := C3.behindAt (led₁ := []) x4 hs4
  have C4 := (C3.mades C4' rfl atx ndx).perm (List.perm_append_comm (l₁ := [(src, isSrc)]) (l₂ := ex))
  clear C4' C3 C2 C x4 hs4 atx ndx
  walk_at "go"
  rename Cx _ _ _ _ _ => C5
  have sz := good.bounds
  refine auto_spec C5 W (by walk_at "room") (pvl.mono fun _ hq => .tail _ hq) ⟨_, good⟩ (by omega) fun h6 tk6 au a M aok run C6 => ?_
  obtain ⟨rest, er⟩ : ∃ rest, rest = autLed w au a M ++ ex := ⟨_, rfl⟩
  have hr : ∀ q ∈ autLed w au a M, q ∈ rest := fun q hq => er ▸ List.mem_append_left _ hq
  have hp : PVL rest v p := pvl.mono fun q hq => er ▸ List.mem_append_right _ hq
  have C7 : Cx g L _ ((src, isSrc) :: rest) h6 := C6.perm (by rw [er]; exact List.perm_middle.symm)
  clear C6 C5 C4 er pvl
  have hr1 : (au, isObj a.dx) ∈ rest := hr _ (.head _)
  have hr2 : (a.dx, isAt (autAttrs a M)) ∈ rest := hr _ (.tail _ (.head _))
  walk_at "go"
  rename Cx _ _ _ _ _ => C8
  have C8 := C8.weak (isL_isS .nil)
  refine accepts_spec (C8.st Sg) (by walk_at "room") (C8.aut (fun q hq => .tail _ (.tail _ (hr q hq))) aok) (C8.ata (.head _)) fun h9 tk9 b9 x9 hb9 => ?_
  have C9 := (C8.pass x9).drop
  clear C8 x9
  rw [run] at hb9
  walk_at "go"
  rename Cx _ _ _ _ _ => C10
  have C10 := C10.weak (isL_isS .nil)
  refine fitsAll p (by omega) (C10.st Sg) (by simp) (by walk_at "room") (hp.pv fun q hq => C10.ata (.tail _ (.tail _ hq))) (C10.ata (.head _)) fun h11 tk11 b11 x11 hb11 => ?_
  have C11 := (C10.pass x11).drop
  clear C10 x11
  obtain rfl : b9 = b11 := by rw [Bool.eq_iff_iff, hb9, hb11]
  walk_at "go"
  · rename_i q
    simp at q
  refine b_range1 C11 fun h12 rg hr12 C12 => ?_
  refine for_range (a := 0) (n := 3) (fun i m led => led = (src, isSrc) :: rest ∧ m "source" = some (.ref src) ∧ m "particle" = some v ∧ m "automaton" = some (.ref au)) ok.hh C12 hr12
    (by decide) (by omega) (by omega) ⟨rfl, by walk_at "look", by walk_at "look", by walk_at "look"⟩ ?_ ?_
  · rintro i t m₁ led₁ hA tkA I hi ⟨rfl, m1, m2, m3⟩ CA
    clear C12 C11 C9
    walk_at "go"
    have ndA := CA.nd
    have nsrc : ∀ q ∈ rest, q.1 ∉ [src] := fun q hq e => by
      have e := List.mem_singleton.mp e
      rw [List.map_cons, List.map_cons] at ndA
      exact (List.nodup_cons.mp (List.nodup_cons.mp ndA).2).1 (List.mem_map.mpr ⟨q, hq, e⟩)
    refine lrow_spec (CA.st Sg) (by walk_at "room") (CA.ata (.tail _ (.head _))) (CA.free Sg _ (.tail _ (.head _))) (AutAt.of (fun q hq => (CA.ata (.tail _ (.tail _ (hr q hq)))).hide (nsrc q (hr q hq))) aok) fun hB tkB nl ss xB hnl hns hsl hsB => ?_
    have CB := CA.made (CA.behindAt (led₁ := [(I, isRI 0 3 (i + 1))]) xB hsB) rfl hns hnl
    clear CA xB hsB hns hnl
    have CB : Cx g L _ ((nl, isS ss) :: (I, isRI 0 3 (i + 1)) :: (src, isSrc) :: rest) hB := CB
    walk_at "go"
    rename Cx _ _ _ _ _ => CC
    refine fitsAll p (by omega) (CC.st Sg) (by omega) (by walk_at "room") (hp.pv fun q hq => CC.ata (.tail _ (.tail _ (.tail _ hq)))) (CC.ata (.head _)) fun hD tkD due xD hdue => ?_
    have CD := CC.pass xD
    clear CC CB xD
    walk_at "go"
    rename Cx _ _ _ _ _ => CE
    refine accepts_spec (CE.st Sg) (by walk_at "room") (CE.aut (fun q hq => .tail _ (.tail _ (.tail _ (hr q hq)))) aok) (CE.ata (.head _)) fun hF tkF bF xF hbF => ?_
    have CF := CE.pass xF
    clear CE CD xF
    obtain rfl : bF = due := by rw [Bool.eq_iff_iff, hbF, hdue, run]
    walk_at "go"
    · rename_i q
      simp at q
    rename_i hG sa CG hH CH
    clear CG CF
    obtain ⟨nvs, hnl, hni⟩ := (CH.ata (a := nl) (P := isS ss) (.tail _ (.head _))).strs
    have CJ : Cx g L _ ((sa, isT _) :: (nl, isL nvs) :: (I, isRI 0 3 (i + 1)) :: (src, isSrc) :: rest) hH := (CH.swap.set (fun _ _ _ e => e) hnl).swap
    refine for_list (l := nl) (its := nvs) (fun i' m led => ∃ sa us qs, led = (sa, isT us) :: (nl, isL nvs) :: (I, isRI 0 3 (i + 1)) :: (src, isSrc) :: rest ∧ IntsAre us qs ∧ (∀ p ∈ qs, 0 ≤ p ∧ p ≤ M.names.length) ∧ ((∃ p ∈ qs, M.Run p (ss.drop i')) ↔ M.Run 0 ss) ∧ m "state" = some (.ref sa) ∧ m "automaton" = some (.ref au) ∧ m "due" = some (.bool bF) ∧ m "source" = some (.ref src) ∧ m "particle" = some v)
      ok.hh CJ hnl ⟨sa, _, [0], rfl, .cons _ _ .nil, by simp, by simp, rfl, by walk_at "look", by walk_at "look", by walk_at "look", by walk_at "look"⟩ (fun i' m led h j c => by obtain ⟨sa, us, qs, rfl, _⟩ := j; exact c.ata (.tail _ (.head _))) ?_ ?_
    · rintro i' v' m₂ led₂ hK tkK I' hv' ⟨sa, us, qs, rfl, hui, hqs, hrun, n1, n2, n3, n4, n5⟩ CK
      clear CJ CH hnl
      obtain ⟨c, tc, hn, rfl⟩ := strs_get' hni hv'
      walk_at "go"
      have CK : Cx g L _ ((I', isLI nl (i' + 1)) :: (sa, isT us) :: (nl, isL nvs) :: (I, isRI 0 3 (i + 1)) :: (src, isSrc) :: rest) hK := CK
      have U0 : ∀ {z : Int}, z ∈ qs → 0 ≤ z ∧ z ≤ M.names.length := fun {z} hz => hqs z hz
      refine step_spec (CK.st Sg) (by walk_at "room") (CK.aut (fun q hq => .tail _ (.tail _ (.tail _ (.tail _ (.tail _ (hr q hq)))))) aok) (CK.ata (.tail _ (.head _))) hui hqs fun hL tkL b us' qs' xL hb hbt hui' nd' hq' => ?_
      have CL : Cx g L _ ((b, isT us') :: (I', isLI nl (i' + 1)) :: (sa, isT us) :: (nl, isL nvs) :: (I, isRI 0 3 (i + 1)) :: (src, isSrc) :: rest) hL := CK.made (CK.pass xL) rfl hbt hb
      clear CK xL hbt hb
      walk_at "go"
      rename Cx _ _ _ _ _ => CM
      refine expected_spec (CM.st Sg) (by walk_at "room") (CM.aut (fun q hq => .tail _ (.tail _ (.tail _ (.tail _ (.tail _ (.tail _ (.tail _ (hr q hq)))))))) aok) (CM.ata (.tail _ (.tail _ (.tail _ (.head _))))) hui hqs fun hN tkN be es xN hbe hbs hbl hes => ?_
      have CN := CM.made (CM.pass xN) rfl hbs hbe
      clear CM CL xN hbs hbe
      have same : (!decide (us' = [])) = decide (c ∈ es) := by
        rw [Bool.eq_iff_iff]
        simp only [Bool.not_eq_true', decide_eq_false_iff_not, decide_eq_true_eq]
        rw [hes]
        constructor
        · intro hne
          cases hui' with
          | nil => exact absurd rfl hne
          | cons z tz h2 =>
            obtain ⟨p', h3, h4, h5⟩ := (hq' z).mp (.head _)
            exact ⟨p', h3, z, h4, h5⟩
        · rintro ⟨p', h3, z, h4, h5⟩ e
          subst e
          cases hui'
          exact absurd ((hq' z).mpr ⟨p', h3, h4, h5⟩) (by simp)
      walk_at "go"
      · rename_i q
        rw [same] at q
        simp at q
      rename Cx _ _ _ _ _ => CO
      clear CN
      have hd' : ss.drop i' = c :: ss.drop (i' + 1) := by
        have hlt : i' < ss.length := by
          rcases Nat.lt_or_ge i' ss.length with q | q
          · exact q
          · rw [List.getElem?_eq_none q] at hn; cases hn
        rw [List.drop_eq_getElem_cons hlt]
        rw [List.getElem?_eq_getElem hlt] at hn
        rw [Option.some.inj hn]
      have hrun' : (∃ p ∈ qs', M.Run p (ss.drop (i' + 1))) ↔ M.Run 0 ss := by
        rw [← hrun, hd']
        constructor
        · rintro ⟨z, hz, r⟩
          obtain ⟨p, hp, hb, hc⟩ := (hq' z).mp hz
          exact ⟨p, hp, z, hb, hc, r⟩
        · rintro ⟨p, hp, z, hb, hc, r⟩
          exact ⟨z, (hq' z).mpr ⟨p, hp, hb, hc⟩, r⟩
      have CP := CO.drop.drop.swap.sub (led' := (I', isLI nl (i' + 1)) :: (b, isT us') :: (nl, isL nvs) :: (I, isRI 0 3 (i + 1)) :: (src, isSrc) :: rest) (List.Sublist.cons_cons _ (List.Sublist.cons_cons _ (List.Sublist.cons _ (List.Sublist.refl _))))
      refine turn_next CP ⟨b, us', qs', rfl, hui', fun z hz => ?_, hrun', by walk_at "look", by walk_at "look", by walk_at "look", by walk_at "look", by walk_at "look"⟩
      obtain ⟨p', h3, h4, _⟩ := (hq' z).mp hz
      have := beh_in (CP.aut (fun q hq => .tail _ (.tail _ (.tail _ (.tail _ (.tail _ (hr q hq)))))) aok) h4
      omega
    · rintro m₂ led₂ hK tkK ⟨sa, us, qs, rfl, hui, hqs, hrun, n1, n2, n3, n4, n5⟩ CK
      rw [strs_len hni, List.drop_length] at hrun
      clear CJ CH
      walk_at "go"
      refine is_end_spec (CK.st Sg) (by walk_at "room") (CK.aut (fun q hq => .tail _ (.tail _ (.tail _ (.tail _ (hr q hq))))) aok) (CK.ata (.head _)) hui fun hL tkL xL => ?_
      have CL := CK.pass xL
      have same : qs.any M.endOne = bF := by
        rw [Bool.eq_iff_iff, hbF, ← hrun, List.any_eq_true]
        exact Iff.rfl
      walk_at "go"
      · rename_i q
        rw [same] at q
        simp at q
      exact turn_next (CL.drop.drop) ⟨rfl, by walk_at "look", by walk_at "look", by walk_at "look"⟩
  · rintro m₁ led₁ hA tkA ⟨rfl, m1, m2, m3⟩ CA
    walk_at "go"
    exact k _ _ _ _ CA
end
theorem law_end {w : World} {A : Around} {s : Shared} {g h₁ : Heap} {L : Addr} {m : Str → Option Value} {tk : Nat} {E : Value → Shared → Prop} {sc f : Addr} {vs : List Value} {ns : List Int} {Q : Flow → Shared → Prop} {name qual : Str} {params : Arguments} {body : List Stmt} {scope : Scope} {dV kV doc pm cdv cdv2 ct oc : Value} {an od : Option Addr} {osl : Array (Option Value)} {l : List Env}
    (ho : (hd.heap_39 w.params).lookup 192 = some ⟨oc, od, .func (fnOf name qual params body scope dV kV doc pm an cdv2 ct), osl⟩)
    (F : Fr g L h₁ m) (KX : (hd.heap_39 w.params).In g) (T : ∃ mean mg mb, Top hd.view_39 (looseW hd.view_39 []) mean mg mb g) (hm : m "script" = some (.ref sc)) (ok : Ok A 600 3000) (fr : A.frames = some (envOf qual scope L f cdv :: l)) (hsc : g.IsList sc vs.toArray) (hi : IntsAre vs ns) (hlen : ns.length ≤ 63)
    (k : ∀ h' tk', (∀ b o, g.get? b = some o → h'.get? b = some o) → Q (.ret (.bool true)) (stt s h' tk')) : wpAny (Md w) A (execs body (envOf qual scope L f cdv)) Q E (stt s h₁ tk) :=
  wpAny_mono (law_body ho ⟨F, (fun _ hp => nomatch hp), List.nodup_nil⟩ ⟨KX, T⟩ hm ok fr hsc hi hlen (fun h' tk' m led C => k h' tk' C.F.keep)) (fun _ _ q => q) (fun _ _ e => e.elim)
theorem callerOk (env : Env) : Ok (callerA.deeper env) 600 3000 := ⟨rfl, ⟨_, rfl⟩, by show 1 + claimMargin + 1 + 600 < recursionLimit; decide +kernel, by show 4 + 3 + 3000 < cLine; decide +kernel⟩
theorem post_a (a b : List WData) : PySem.Challenge.rw_nu0056_01.row.claim.post a (WData.bool true) b = true := by
  first
  | with_unfolding_all rfl
  | simp [PySem.Challenge.rw_nu0056_01, OpenLaw.row, WTm.holds, WTm.value, WShape.has]
end Mine
theorem PySem.Challenge.cw_nu0056_01_holds : PySem.Challenge.rw_nu0056_01.Holds := by
  refine Mine.hd ?_
  w_strict (
    k_go0
    rename (Frag.In _ _) => kkX
    rename (Top _ _ _ _ _ _) => kkT
    rename (Fr _ _ _ _) => kkF
    rename (Heap.IsList _ _ _) => kkL
    rename (IntsAre _ _) => kkI
    rename (¬ _ < _) => kkN
    rename (_ = #[]) => kkG
    refine' Mine.law_end ?ho kkF kkX ⟨_, _, _, kkT⟩ rfl (Mine.callerOk _) rfl kkL kkI (by omega) (fun h' tk' keep => ?_)
    case ho => exact rfl
    · refine ⟨.inl ⟨.bool true, .bool true, [], rfl, fun _ => rfl, .bool true, ?_, fun _ => ⟨.nil, fun _ h => nomatch h⟩⟩, keep, rfl, kkG⟩
      exact Mine.post_a _ _
    )
