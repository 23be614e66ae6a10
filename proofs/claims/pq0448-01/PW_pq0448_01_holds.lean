import PyProof.Rows.All
import Wide.All
import OpenK.AllK
import Wide.FinOn
import Lean
import PySem.Challenge.RW_pq0448_01
open PySem PySem.W PySem.Spec PySem.Calls PyProof.Rows
set_option Elab.async false
set_option maxRecDepth 100000
set_option maxHeartbeats 8000000
set_option compiler.extract_closed false
set_option genSizeOfSpec false
set_option genInjectivity false
namespace Mine
/-- plain data -/
inductive D where
  | none
  | bool (b : Bool)
  | int (i : Int)
  | str (x : Str)
  | tuple (ds : List D)
  | list (ds : List D)
  | range (n : Nat)
  | mut (a : Addr)
  | prim (rows : D)

abbrev Led := List (Addr × Obj)
abbrev Sig := List (Addr × List D)

abbrev tupO (vs : List Value) (n : Nat) : Obj := { cls := .type "tuple", data := .seq vs.toArray n }
abbrev lstO (vs : List Value) (n : Nat) : Obj := { cls := .type "list", data := .seq vs.toArray n }
abbrev rngO (n : Nat) (t u v : Tok) : Obj := { cls := .type "range", data := .fields #[.int 0 t, .int n u, .int 1 v] }

mutual
inductive DIn (news : Led) : Value → D → Prop
  | none : DIn news Value.none D.none
  | bool (b : Bool) : DIn news (Value.bool b) (D.bool b)
  | int (i : Int) (t : Tok) : DIn news (Value.int i t) (D.int i)
  | str (x : Str) (t : Tok) : DIn news (Value.str x t) (D.str x)
  | tuple {a : Addr} {vs : List Value} {n : Nat} {ds : List D} : (a, tupO vs n) ∈ news → DAll news vs ds → DIn news (Value.ref a) (D.tuple ds)
  | list {a : Addr} {vs : List Value} {n : Nat} {ds : List D} : (a, lstO vs n) ∈ news → DAll news vs ds → DIn news (Value.ref a) (D.list ds)
  | range {a : Addr} {n : Nat} {t u v : Tok} : (a, rngO n t u v) ∈ news → DIn news (Value.ref a) (D.range n)
  | mut (a : Addr) : DIn news (Value.ref a) (D.mut a)
  | prim {x dx : Addr} {es : List DictEntry} {n : Nat} {v : Value} {d : D} : (x, instObj 31 dx) ∈ news → (dx, dictOf es n) ∈ news → getL (Str.ofString "rows") es = some (some v) → DIn news v d → DIn news (Value.ref x) (D.prim d)
inductive DAll (news : Led) : List Value → List D → Prop
  | nil : DAll news [] []
  | cons {v : Value} {vs : List Value} {d : D} {ds : List D} : DIn news v d → DAll news vs ds → DAll news (v :: vs) (d :: ds)
end
mutual
theorem DIn.mono {news news' : Led} (hs : ∀ p ∈ news, p ∈ news') : ∀ {v : Value} {d : D}, DIn news v d → DIn news' v d
  | _, _, .none => .none
  | _, _, .bool b => .bool b
  | _, _, .int i t => .int i t
  | _, _, .str x t => .str x t
  | _, _, .tuple h r => .tuple (hs _ h) (DAll.mono hs r)
  | _, _, .list h r => .list (hs _ h) (DAll.mono hs r)
  | _, _, .range h => .range (hs _ h)
  | _, _, .mut a => .mut a
  | _, _, .prim h1 h2 h3 r => .prim (hs _ h1) (hs _ h2) h3 (DIn.mono hs r)
theorem DAll.mono {news news' : Led} (hs : ∀ p ∈ news, p ∈ news') : ∀ {vs : List Value} {ds : List D}, DAll news vs ds → DAll news' vs ds
  | _, _, .nil => .nil
  | _, _, .cons h r => .cons (DIn.mono hs h) (DAll.mono hs r)
end
section
variable {news : Led} {v : Value} {d : D} {vs ws : List Value} {ds es : List D}
theorem DAll.length (h : DAll news vs ds) : vs.length = ds.length := by
  induction vs generalizing ds with
  | nil => cases h; rfl
  | cons v vs ih =>
    cases h with
    | cons _ r => rw [List.length_cons, List.length_cons, ih r]
theorem DAll.append (h : DAll news vs ds) (k : DAll news ws es) : DAll news (vs ++ ws) (ds ++ es) := by
  induction vs generalizing ds with
  | nil => cases h; exact k
  | cons v vs ih =>
    cases h with
    | cons h r => exact .cons h (ih r)
theorem DAll.get (h : DAll news vs ds) {k : Nat} {d : D} (hk : ds[k]? = some d) : ∃ v, vs[k]? = some v ∧ DIn news v d := by
  induction vs generalizing ds k with
  | nil => cases h; simp at hk
  | cons v vs ih =>
    cases h with
    | cons h r =>
      cases k with
      | zero => simp at hk; subst hk; exact ⟨v, rfl, h⟩
      | succ k => simp at hk; obtain ⟨u, hu, hd⟩ := ih r hk; exact ⟨u, by simpa using hu, hd⟩
theorem DAll.set (h : DAll news vs ds) (k : Nat) (hd : DIn news v d) : DAll news (vs.set k v) (ds.set k d) := by
  induction vs generalizing ds k with
  | nil => cases h; exact .nil
  | cons v vs ih =>
    cases h with
    | cons h r =>
      cases k with
      | zero => exact .cons hd r
      | succ k => exact .cons h (ih r k)
end

/-- what stays the same through the whole run -/
structure Gl where
  prog : Program
  w : World
  K : Frag
  h₀ : Heap
  p : Program
  loose : List Str
  mg : Str → Option Value
  mb : Str → Option Value
  X : K.In h₀
  T : TopRead p loose mg mb h₀

structure Wd (G : Gl) (σ : Sig) (news ex : Led) (h : Heap) : Prop where
  base : ∀ b o, G.h₀.get? b = some o → h.get? b = some o
  size : G.h₀.objs.size ≤ h.objs.size
  imm : ∀ p ∈ news, h.get? p.1 = some p.2 ∧ G.h₀.get? p.1 = none
  exs : ∀ p ∈ ex, h.get? p.1 = some p.2 ∧ G.h₀.get? p.1 = none
  sig : ∀ p ∈ σ, (∃ vs n, DAll news vs p.2 ∧ h.get? p.1 = some (lstO vs n)) ∧ G.h₀.get? p.1 = none
  apart : ∀ p ∈ σ, (∀ q ∈ news, q.1 ≠ p.1) ∧ (∀ q ∈ ex, q.1 ≠ p.1)
  sep : ∀ p ∈ ex, ∀ q ∈ news, q.1 ≠ p.1
  exnd : (ex.map (·.1)).Nodup
  nodup : (σ.map (·.1)).Nodup

structure Room (A : Around) (k : Nat) : Prop where
  handled : A.handled = none
  depth : A.depth + k < recursionLimit
  units : A.units + 100 * (k + 1) < cLine

structure Fx where
  A : Around
  env : Env
  k : Nat

structure Fx.Ok (f : Fx) : Prop where
  room : Room f.A f.k
  kind : f.env.scope.kind = .function
  glob : f.env.globals = mainGlobals
  blt : f.env.builtins = builtinsNs
  nd : (f.env.cells.map (·.2)).Nodup

abbrev Gam := Str → Option D
structure St where
  Γ : Gam
  σ : Sig
def St.set (st : St) (x : Str) (d : D) : St := ⟨fun y => if y = x then some d else st.Γ y, st.σ⟩

structure Fm (G : Gl) (f : Fx) (st : St) (news ex : Led) (h : Heap) : Prop where
  ok : f.Ok
  wd : Wd G st.σ news ex h
  lo : G.h₀.objs.size ≤ f.env.locals
  names : ∃ m, h.Ns f.env.locals m ∧ ∀ x d, st.Γ x = some d → ∃ v, DIn news v d ∧
    ((f.env.kindOf x = some .local ∧ m x = some v) ∨ (f.env.kindOf x = some .cell ∧ ∃ c, f.env.cells.lookup x = some c ∧ h.IsCell c (some v)))
  Lnews : ∀ q ∈ news, q.1 ≠ f.env.locals
  Lex : ∀ q ∈ ex, q.1 ≠ f.env.locals
  cells : ∀ p ∈ f.env.cells, (∃ v, h.IsCell p.2 v) ∧ G.h₀.get? p.2 = none ∧ (∀ q ∈ news, q.1 ≠ p.2) ∧ (∀ q ∈ ex, q.1 ≠ p.2)

inductive Out where
  | next | brk | cont | ret (d : D)
inductive FlIn (news : Led) : Flow → Out → Prop
  | next : FlIn news .next .next
  | brk : FlIn news .brk .brk
  | cont : FlIn news .cont .cont
  | ret {v : Value} {d : D} : DIn news v d → FlIn news (.ret v) (.ret d)

abbrev Lets {α β : Type} (G : Gl) (f : Fx) (R : Led → α → β → Prop) (news ex : Led) (s : Shared) (Q : β → St → Prop) (Q' : α → Shared → Prop) : Prop :=
  ∀ d st' v news' h' tk', Q d st' → (∀ p ∈ news, p ∈ news') → Fm G f st' news' ex h' → R news' v d → Q' v { s with heap := h', toks := tk' }

structure WE (G : Gl) (f : Fx) (e : Expr) (st : St) (Q : D → St → Prop) : Prop where
  run : ∀ (news ex : Led) (s : Shared) (Q' : Value → Shared → Prop) (E : Value → Shared → Prop), Fm G f st news ex s.heap → Lets G f DIn news ex s Q Q' → wpAny (model G.prog G.w) f.A (eval e f.env) Q' E s
structure WT (G : Gl) (f : Fx) (e : Expr) (st : St) (Q : Bool → St → Prop) : Prop where
  run : ∀ (news ex : Led) (s : Shared) (Q' : Bool → Shared → Prop) (E : Value → Shared → Prop), Fm G f st news ex s.heap → Lets G f (fun _ b c => b = c) news ex s Q Q' → wpAny (model G.prog G.w) f.A (isTrue e f.env (eval e f.env)) Q' E s
structure WL (G : Gl) (f : Fx) (es : List Expr) (st : St) (Q : List D → St → Prop) : Prop where
  run : ∀ (news ex : Led) (s : Shared) (Q' : List Value → Shared → Prop) (E : Value → Shared → Prop) (pos : Pos), Fm G f st news ex s.heap → Lets G f DAll news ex s Q Q' → wpAny (model G.prog G.w) f.A (spliced (backTo pos (starEach es f.env))) Q' E s
structure WS (G : Gl) (f : Fx) (ss : List Stmt) (st : St) (Q : Out → St → Prop) : Prop where
  run : ∀ (news ex : Led) (s : Shared) (Q' : Flow → Shared → Prop) (E : Value → Shared → Prop), Fm G f st news ex s.heap → Lets G f FlIn news ex s Q Q' → wpAny (model G.prog G.w) f.A (execs ss f.env) Q' E s
structure WX (G : Gl) (f : Fx) (x : Stmt) (st : St) (Q : Out → St → Prop) : Prop where
  run : ∀ (news ex : Led) (s : Shared) (Q' : Flow → Shared → Prop) (E : Value → Shared → Prop), Fm G f st news ex s.heap → Lets G f FlIn news ex s Q Q' → wpAny (model G.prog G.w) f.A (exec x f.env) Q' E s
/-- a call -/
structure Calls (G : Gl) (fv : Value) (k : Nat) (ds : List D) (σ : Sig) (Q : D → Sig → Prop) : Prop where
  run : ∀ (A : Around) (news ex : Led) (s : Shared) (vs : List Value) (Q' : Value → Shared → Prop) (E : Value → Shared → Prop), Room A k → Wd G σ news ex s.heap → DAll news vs ds →
    (∀ d σ' v news' h' tk', Q d σ' → (∀ p ∈ news, p ∈ news') → Wd G σ' news' ex h' → DIn news' v d → Q' v { s with heap := h', toks := tk' }) →
    wpAny (model G.prog G.w) A (call fv vs) Q' E s

section
variable {G : Gl} {f : Fx} {st : St}
theorem WE.mono {e : Expr} {Q Q' : D → St → Prop} (h : WE G f e st Q) (hq : ∀ d st', Q d st' → Q' d st') : WE G f e st Q' :=
  ⟨fun news ex s R E F c => h.run news ex s R E F fun d st' v news' h' tk' q => c d st' v news' h' tk' (hq d st' q)⟩
theorem WT.mono {e : Expr} {Q Q' : Bool → St → Prop} (h : WT G f e st Q) (hq : ∀ d st', Q d st' → Q' d st') : WT G f e st Q' :=
  ⟨fun news ex s R E F c => h.run news ex s R E F fun d st' v news' h' tk' q => c d st' v news' h' tk' (hq d st' q)⟩
theorem WS.mono {e : List Stmt} {Q Q' : Out → St → Prop} (h : WS G f e st Q) (hq : ∀ d st', Q d st' → Q' d st') : WS G f e st Q' :=
  ⟨fun news ex s R E F c => h.run news ex s R E F fun d st' v news' h' tk' q => c d st' v news' h' tk' (hq d st' q)⟩
theorem Calls.mono {fv : Value} {k : Nat} {ds : List D} {σ : Sig} {Q Q' : D → Sig → Prop} (h : Calls G fv k ds σ Q) (hq : ∀ d st', Q d st' → Q' d st') : Calls G fv k ds σ Q' :=
  ⟨fun A news ex s vs R E hA F D c => h.run A news ex s vs R E hA F D fun d st' v news' h' tk' q => c d st' v news' h' tk' (hq d st' q)⟩

/-! ### expressions -/
theorem WE.int {i : Int} {k : Nat} {pos : Pos} {Q : D → St → Prop} (h : Q (.int i) st) : WE G f (.Constant (.int i) k pos) st Q :=
  ⟨fun _ _ _ _ _ F c => wpAny_Constant_int (c _ _ _ _ _ _ h (fun _ x => x) F (.int _ _))⟩
theorem WE.str {i : Str} {k : Nat} {pos : Pos} {Q : D → St → Prop} (h : Q (.str i) st) : WE G f (.Constant (.str i) k pos) st Q :=
  ⟨fun _ _ _ _ _ F c => Constant_str (c _ _ _ _ _ _ h (fun _ x => x) F (.str _ _))⟩
theorem WE.bool {i : Bool} {k : Nat} {pos : Pos} {Q : D → St → Prop} (h : Q (.bool i) st) : WE G f (.Constant (.bool i) k pos) st Q :=
  ⟨fun _ _ s _ _ F c => Constant_bool (c _ _ _ _ s.heap s.toks h (fun _ x => x) F (.bool _))⟩
theorem WE.none {k : Nat} {pos : Pos} {Q : D → St → Prop} (h : Q .none st) : WE G f (.Constant .none k pos) st Q :=
  ⟨fun _ _ s _ _ F c => Constant_none (c _ _ _ _ s.heap s.toks h (fun _ x => x) F .none)⟩
theorem WE.name {x : Str} {pos : Pos} {d : D} {Q : D → St → Prop} (hx : st.Γ x = some d) (h : Q d st) (hd : (x == ("__debug__" : Str)) = false := by decide) : WE G f (.Name x pos) st Q := by
  refine ⟨fun news ex s Q' E F c => ?_⟩
  obtain ⟨m, hn, hm⟩ := F.names
  obtain ⟨v, hv, h1⟩ := hm x d hx
  have fin : Q' v s := c d st v news s.heap s.toks h (fun _ x => x) F hv
  rcases h1 with ⟨hk, e⟩ | ⟨hk, cc, hc, hcell⟩
  · exact wpAny_Name (wpAny_loadName_local F.ok.kind hk hn e fin) hd
  · exact wpAny_Name (wpAny_loadName_cell F.ok.kind hk hc hcell fin) hd

theorem WL.nil {Q : List D → St → Prop} (h : Q [] st) : WL G f [] st Q :=
  ⟨fun _ _ s _ _ _ F c => spliced_nil (c _ _ _ _ s.heap s.toks h (fun _ x => x) F .nil)⟩
theorem WL.cons {e : Expr} {es : List Expr} {Q : List D → St → Prop} (h : WE G f e st fun d st₁ => WL G f es st₁ fun ds st₂ => Q (d :: ds) st₂)
    (he : ∀ env, starEach (e :: es) env = (false, eval e env) :: starEach es env := by intro _; rfl) : WL G f (e :: es) st Q := by
  refine ⟨fun news ex s Q' E pos F c => ?_⟩
  rw [he]
  refine spliced_cons (h.run news ex s _ E F fun d st₁ v news₁ h₁ tk₁ h' hs F₁ hv => ?_)
  exact h'.run news₁ ex _ _ E pos F₁ fun ds st₂ vs news₂ h₂ tk₂ hq hs₂ F₂ hvs => c _ _ _ _ _ _ hq (fun p hp => hs₂ p (hs p hp)) F₂ (.cons (hv.mono hs₂) hvs)

theorem Wd.push {σ : Sig} {news ex : Led} {h : Heap} (W : Wd G σ news ex h) {o : Obj} (hf : o.isFreed = false := by rfl) : Wd G σ ((h.objs.size, o) :: news) ex (h.push o) where
  base := fun b o' e => Heap.get?_push_of_some _ (W.base b o' e)
  size := by rw [Heap.size_push]; exact Nat.le_succ_of_le W.size
  imm := fun p hp => by
    rcases List.mem_cons.mp hp with rfl | hp
    · refine ⟨Heap.get?_push_size _ hf, ?_⟩
      cases q : G.h₀.get? h.objs.size with
      | none => rfl
      | some o' => exact absurd (Heap.lt_size (W.base _ _ q)) (Nat.lt_irrefl _)
    · exact ⟨Heap.get?_push_of_some _ (W.imm p hp).1, (W.imm p hp).2⟩
  exs := fun p hp => ⟨Heap.get?_push_of_some _ (W.exs p hp).1, (W.exs p hp).2⟩
  sig := fun p hp => by
    obtain ⟨⟨vs, n, a, b⟩, c⟩ := W.sig p hp
    exact ⟨⟨vs, n, a.mono fun _ h => .tail _ h, Heap.get?_push_of_some _ b⟩, c⟩
  apart := fun p hp => ⟨fun q hq => by
    rcases List.mem_cons.mp hq with rfl | hq
    · obtain ⟨⟨_, _, _, b⟩, _⟩ := W.sig p hp
      exact Nat.ne_of_gt (Heap.lt_size b)
    · exact (W.apart p hp).1 q hq, (W.apart p hp).2⟩
  sep := fun p hp q hq => by
    rcases List.mem_cons.mp hq with rfl | hq
    · exact Nat.ne_of_gt (Heap.lt_size (W.exs p hp).1)
    · exact W.sep p hp q hq
  exnd := W.exnd
  nodup := W.nodup
theorem Fm.push {news ex : Led} {h : Heap} (F : Fm G f st news ex h) {o : Obj} (hf : o.isFreed = false := by rfl) : Fm G f st ((h.objs.size, o) :: news) ex (h.push o) where
  ok := F.ok
  wd := F.wd.push hf
  lo := F.lo
  names := by
    obtain ⟨m, hn, hm⟩ := F.names
    refine ⟨m, hn.keeps fun b o' e => Heap.get?_push_of_some _ e, fun x d hx => ?_⟩
    obtain ⟨v, hv, h1⟩ := hm x d hx
    refine ⟨v, hv.mono fun _ h => .tail _ h, h1.imp id fun ⟨hk, cc, hc, oc, a, b⟩ => ⟨hk, cc, hc, oc, Heap.get?_push_of_some _ a, b⟩⟩
  Lnews := fun q hq => by
    obtain ⟨m, ⟨o', _, _, hL, _⟩, _⟩ := F.names
    rcases List.mem_cons.mp hq with rfl | hq
    · exact Nat.ne_of_gt (Heap.lt_size hL)
    · exact F.Lnews q hq
  Lex := F.Lex
  cells := fun p hp => by
    obtain ⟨⟨v, oc, a, b⟩, h2, h3, h4⟩ := F.cells p hp
    refine ⟨⟨v, oc, Heap.get?_push_of_some _ a, b⟩, h2, fun q hq => ?_, h4⟩
    rcases List.mem_cons.mp hq with rfl | hq
    · exact Nat.ne_of_gt (Heap.lt_size a)
    · exact h3 q hq

theorem WE.tuple {es : List Expr} {k : Nat} {pos : Pos} {Q : D → St → Prop} (h : WL G f es st fun ds st' => Q (.tuple ds) st' ∧ ds.length ≤ 100) : WE G f (.Tuple es k pos) st Q := by
  refine ⟨fun news ex s Q' E F c => ?_⟩
  refine Tuple_ (h.run news ex s _ E pos F fun ds st' vs news' h' tk' hq hs F' hvs => ?_)
  refine wpAny_newObj_type (c _ _ _ _ (h'.push { cls := .type "tuple", data := .seq vs.toArray }) tk' hq.1 (fun p hp => .tail _ (hs p hp)) (F'.push (o := tupO vs 0)) (.tuple (n := 0) (.head _) (hvs.mono fun _ h => .tail _ h))) ?_
  show vs.toArray.size ≤ sizeLine
  rw [List.size_toArray, hvs.length]
  exact Nat.le_trans hq.2 (by decide)
theorem WE.list {es : List Expr} {pos : Pos} {Q : D → St → Prop} (h : WL G f es st fun ds st' => Q (.list ds) st' ∧ ds.length ≤ 100) : WE G f (.List es pos) st Q := by
  refine ⟨fun news ex s Q' E F c => ?_⟩
  refine List_ (h.run news ex s _ E pos F fun ds st' vs news' h' tk' hq hs F' hvs => ?_)
  refine wpAny_newObj_type (c _ _ _ _ (h'.push { cls := .type "list", data := .seq vs.toArray }) tk' hq.1 (fun p hp => .tail _ (hs p hp)) (F'.push (o := lstO vs 0)) (.list (n := 0) (.head _) (hvs.mono fun _ h => .tail _ h))) ?_
  show vs.toArray.size ≤ sizeLine
  rw [List.size_toArray, hvs.length]
  exact Nat.le_trans hq.2 (by decide)
end
/-! ### data as the library reads them -/
mutual
def D.pd : D → PyData
  | .none => .none
  | .bool b => .bool b
  | .int i => .int i
  | .str x => .str x
  | .tuple ds => .tuple (D.pds ds)
  | .list ds => .list (D.pds ds)
  | .range _ => .none
  | .mut _ => .none
  | .prim _ => .none
def D.pds : List D → List PyData
  | [] => []
  | d :: ds => D.pd d :: D.pds ds
end
mutual
def D.ok : D → Bool
  | .none => true
  | .bool _ => true
  | .int _ => true
  | .str x => PyData.strOk x
  | .tuple ds => D.oks ds
  | .list ds => D.oks ds
  | .range _ => false
  | .mut _ => false
  | .prim _ => false
def D.oks : List D → Bool
  | [] => true
  | d :: ds => D.ok d && D.oks ds
end
section
variable {G : Gl} {σ : Sig} {news ex : Led} {h : Heap}
mutual
theorem DIn.reads (W : Wd G σ news ex h) : ∀ {v : Value} {d : D}, DIn news v d → d.ok = true → ∃ as, Reads h v d.pd as
  | _, _, .none, _ => ⟨_, Reads.none⟩
  | _, _, .bool b, _ => ⟨_, Reads.bool b⟩
  | _, _, .int i t, _ => ⟨_, Reads.int i t⟩
  | _, _, .str x t, _ => ⟨_, Reads.str x t⟩
  | _, _, .tuple hm r, hk => by
    obtain ⟨as, q⟩ := DAll.reads W r (by simpa [D.ok] using hk)
    rw [D.pd]
    exact ⟨as, reads_tuple_at (W.imm _ hm).1 rfl rfl (by simpa using q)⟩
  | _, _, .list hm r, hk => by
    obtain ⟨as, q⟩ := DAll.reads W r (by simpa [D.ok] using hk)
    rw [D.pd]
    exact ⟨_, reads_list_at (W.imm _ hm).1 rfl rfl (by simpa using q)⟩
  | _, _, .range _, hk => by simp [D.ok] at hk
  | _, _, .mut _, hk => by simp [D.ok] at hk
  | _, _, .prim _ _ _ _, hk => by simp [D.ok] at hk
theorem DAll.reads (W : Wd G σ news ex h) : ∀ {vs : List Value} {ds : List D}, DAll news vs ds → D.oks ds = true → ∃ as, ReadsAll h vs (D.pds ds) as
  | _, _, .nil, _ => ⟨_, ReadsAll.nil⟩
  | _, _, .cons hd r, hk => by
    simp only [D.oks, Bool.and_eq_true] at hk
    obtain ⟨as, q⟩ := DIn.reads W hd hk.1
    obtain ⟨bs, p⟩ := DAll.reads W r hk.2
    rw [D.pds]
    exact ⟨_, ReadsAll.cons q p⟩
end
end
mutual
theorem D.lay : ∀ {d : D}, d.ok = true → d.pd.canLay0 = true
  | .none, _ => by simp [D.pd, PyData.canLay0]
  | .bool _, _ => by simp [D.pd, PyData.canLay0]
  | .int _, _ => by simp [D.pd, PyData.canLay0]
  | .str _, h => by simpa [D.pd, PyData.canLay0, D.ok] using h
  | .tuple ds, h => by
    simp only [D.ok] at h
    simpa [D.pd, PyData.canLay0] using D.lays h
  | .list ds, h => by
    simp only [D.ok] at h
    simpa [D.pd, PyData.canLay0] using D.lays h
  | .range _, h => by simp [D.ok] at h
  | .mut _, h => by simp [D.ok] at h
  | .prim _, h => by simp [D.ok] at h
theorem D.lays : ∀ {ds : List D}, D.oks ds = true → PyData.canLayAll0 (D.pds ds) = true
  | [], _ => by simp [D.pds, PyData.canLayAll0]
  | d :: ds, h => by
    simp only [D.oks, Bool.and_eq_true] at h
    simp only [D.pds, PyData.canLayAll0, Bool.and_eq_true]
    exact ⟨D.lay h.1, D.lays h.2⟩
end
/-- membership, as Python's in -/
def memD (d : D) (ds : List D) : Bool := (D.pds ds).any fun y => PyData.eqv y d.pd

/-- the answer of a comparison -/
structure Cmp (G : Gl) (op : CmpOp) (a b : D) (c : Bool) : Prop where
  run : ∀ (A : Around) (σ : Sig) (news ex : Led) (s : Shared) (v w : Value) (Q' : Value → Shared → Prop) (E : Value → Shared → Prop), Room A 0 → Wd G σ news ex s.heap → DIn news v a → DIn news w b →
    (∀ tk, Q' (.bool c) { s with toks := tk }) → wpAny (model G.prog G.w) A (compareOp op v w) Q' E s
section
variable {G : Gl}
theorem Cmp.lt {i j : Int} : Cmp G .Lt (.int i) (.int j) (decide (i < j)) := by
  refine ⟨fun A σ news ex s v w Q' E hr W hv hw c => ?_⟩
  cases hv; cases hw
  exact lt_int (c s.toks)
theorem Cmp.le {i j : Int} : Cmp G .LtE (.int i) (.int j) (decide (i ≤ j)) := by
  refine ⟨fun A σ news ex s v w Q' E hr W hv hw c => ?_⟩
  cases hv; cases hw
  exact le_int (c s.toks)
theorem Cmp.ge {i j : Int} : Cmp G .GtE (.int i) (.int j) (decide (j ≤ i)) := by
  refine ⟨fun A σ news ex s v w Q' E hr W hv hw c => ?_⟩
  cases hv; cases hw
  exact ge_int (c s.toks)
theorem Cmp.eqI {i j : Int} : Cmp G .Eq (.int i) (.int j) (i == j) := by
  refine ⟨fun A σ news ex s v w Q' E hr W hv hw c => ?_⟩
  cases hv; cases hw
  exact PyProof.Rows.eq_int (c s.toks)
theorem Cmp.neI {i j : Int} : Cmp G .NotEq (.int i) (.int j) (i != j) := by
  refine ⟨fun A σ news ex s v w Q' E hr W hv hw c => ?_⟩
  cases hv; cases hw
  exact PyProof.Rows.ne_int (c s.toks)
theorem Cmp.eqS {i j : Str} : Cmp G .Eq (.str i) (.str j) (i == j) := by
  refine ⟨fun A σ news ex s v w Q' E hr W hv hw c => ?_⟩
  cases hv; cases hw
  exact PyProof.Rows.eq_str (c s.toks)
theorem Cmp.neS {i j : Str} : Cmp G .NotEq (.str i) (.str j) (i != j) := by
  refine ⟨fun A σ news ex s v w Q' E hr W hv hw c => ?_⟩
  cases hv; cases hw
  exact PyProof.Rows.ne_str (c s.toks)
theorem Cmp.eqB {i j : Bool} : Cmp G .Eq (.bool i) (.bool j) (i == j) := by
  refine ⟨fun A σ news ex s v w Q' E hr W hv hw c => ?_⟩
  cases hv; cases hw
  exact PyProof.Rows.eq_bool (c s.toks)
theorem Cmp.neB {i j : Bool} : Cmp G .NotEq (.bool i) (.bool j) (i != j) := by
  refine ⟨fun A σ news ex s v w Q' E hr W hv hw c => ?_⟩
  cases hv; cases hw
  exact PyProof.Rows.ne_bool (c s.toks)
/-- a datum == a text -/
theorem Cmp.eqD {a : D} {j : Str} (hk : a.ok = true) (hj : PyData.strOk j = true) (hd : a.pd.depth ≤ 60) : Cmp G .Eq a (.str j) (PyData.eqv a.pd (.str j)) := by
  refine ⟨fun A σ news ex s v w Q' E hr W hv hw c => ?_⟩
  obtain ⟨as, ra⟩ := hv.reads W hk
  obtain ⟨bs, rb⟩ := hw.reads W (by simpa [D.ok] using hj)
  refine eq_dataH ra rb ?_ ?_ (by have := hr.units; omega) (c s.toks)
  · unfold SeqAt.shaped; rw [D.lay hk, Bool.true_and]; exact decide_eq_true (by omega)
  · unfold SeqAt.shaped; rw [D.lay (by simpa [D.ok] using hj), Bool.true_and]; simp [D.pd, PyData.depth]
theorem Cmp.isN : Cmp G .Is .none .none true := by
  refine ⟨fun A σ news ex s v w Q' E hr W hv hw c => ?_⟩
  cases hv; cases hw
  exact is_none (c s.toks)
theorem Cmp.isNS {i : Str} : Cmp G .Is (.str i) .none false := by
  refine ⟨fun A σ news ex s v w Q' E hr W hv hw c => ?_⟩
  cases hv; cases hw
  exact is_none (c s.toks)
theorem Cmp.inT {d : D} {ds : List D} (hk : D.oks ds = true) (hd : d.ok = true) (hz : d.pd.depth ≤ 60) : Cmp G .In d (.tuple ds) (memD d ds) := by
  refine ⟨fun A σ news ex s v w Q' E hr W hv hw c => ?_⟩
  obtain ⟨as, ra⟩ := hv.reads W hd
  obtain ⟨bs, rb⟩ := hw.reads W (by simpa [D.ok] using hk)
  rw [D.pd] at rb
  exact SeqAt.in_tuple_reads rb ra (D.lays hk) (D.lay hd) (by have := hr.units; omega) (c s.toks)
theorem Cmp.notInT {d : D} {ds : List D} (hk : D.oks ds = true) (hd : d.ok = true) (hz : d.pd.depth ≤ 60) : Cmp G .NotIn d (.tuple ds) (!memD d ds) := by
  refine ⟨fun A σ news ex s v w Q' E hr W hv hw c => ?_⟩
  obtain ⟨as, ra⟩ := hv.reads W hd
  obtain ⟨bs, rb⟩ := hw.reads W (by simpa [D.ok] using hk)
  rw [D.pd] at rb
  exact SeqAt.notIn_tuple_reads rb ra (D.lays hk) (D.lay hd) (by have := hr.units; omega) (c s.toks)
theorem Cmp.inL {d : D} {ds : List D} (hk : D.oks ds = true) (hd : d.ok = true) (hz : d.pd.depth ≤ 60) : Cmp G .In d (.list ds) (memD d ds) := by
  refine ⟨fun A σ news ex s v w Q' E hr W hv hw c => ?_⟩
  obtain ⟨as, ra⟩ := hv.reads W hd
  obtain ⟨bs, rb⟩ := hw.reads W (by simpa [D.ok] using hk)
  rw [D.pd] at rb
  exact SeqAt.in_list_reads rb ra (D.lays hk) (D.lay hd) (by have := hr.units; omega) (c s.toks)
end

theorem Room.weaken {A : Around} {k j : Nat} (h : Room A k) (hj : j ≤ k) : Room A j := by
  refine ⟨h.handled, ?_, ?_⟩
  · have := h.depth; omega
  · have := h.units
    have : 100 * (j + 1) ≤ 100 * (k + 1) := Nat.mul_le_mul_left _ (by omega)
    omega

section
variable {G : Gl} {f : Fx} {st : St}
theorem Fm.room0 {news ex : Led} {h : Heap} (F : Fm G f st news ex h) : Room f.A 0 := F.ok.room.weaken (Nat.zero_le _)

theorem WE.cmp {l r : Expr} {op : CmpOp} {pos : Pos} {Q : D → St → Prop} (h : WE G f l st fun a st₁ => WE G f r st₁ fun b st₂ => ∃ c, Cmp G op a b c ∧ Q (.bool c) st₂)
    (hm : behindInMarks op r = false := by with_unfolding_all rfl) : WE G f (.Compare l [op] [r] pos) st Q := by
  refine ⟨fun news ex s Q' E F c => ?_⟩
  refine wpAny_Compare1 (h.run news ex s _ E F fun a st₁ v news₁ h₁ tk₁ h' hs F₁ hv => ?_) hm
  refine h'.run news₁ ex _ _ E F₁ fun b st₂ w news₂ h₂ tk₂ hq hs₂ F₂ hw => ?_
  obtain ⟨cc, hc, hq⟩ := hq
  exact hc.run _ _ _ _ _ _ _ _ _ F₂.room0 F₂.wd (hv.mono hs₂) hw fun tk => c _ _ _ _ _ _ hq (fun p hp => hs₂ p (hs p hp)) F₂ (.bool _)
theorem WT.cmp {l r : Expr} {op : CmpOp} {pos : Pos} {Q : Bool → St → Prop} (h : WE G f l st fun a st₁ => WE G f r st₁ fun b st₂ => ∃ c, Cmp G op a b c ∧ Q c st₂)
    (hm : behindInMarks op r = false := by with_unfolding_all rfl) : WT G f (.Compare l [op] [r] pos) st Q := by
  refine ⟨fun news ex s Q' E F c => ?_⟩
  refine wpAny_isTrue_Compare1 (h.run news ex s _ E F fun a st₁ v news₁ h₁ tk₁ h' hs F₁ hv => ?_) hm
  refine h'.run news₁ ex _ _ E F₁ fun b st₂ w news₂ h₂ tk₂ hq hs₂ F₂ hw => ?_
  obtain ⟨cc, hc, hq⟩ := hq
  exact hc.run _ _ _ _ _ _ _ _ _ F₂.room0 F₂.wd (hv.mono hs₂) hw fun tk => wpAny_truthy_bool (c _ _ _ _ _ _ hq (fun p hp => hs₂ p (hs p hp)) F₂ rfl)
/-- a test that is a call or a name, whose value is a bool -/
theorem WT.plain {e : Expr} {Q : Bool → St → Prop} (h : WE G f e st fun d st' => ∃ b, d = .bool b ∧ Q b st')
    (he : ∀ env whole, isTrue e env whole = (do let v ← whole; standAt e.pos; holding [v] (truthy v)) := by intro _ _; rfl) : WT G f e st Q := by
  refine ⟨fun news ex s Q' E F c => ?_⟩
  refine isTrue_plain (h.run news ex s _ E F fun a st₁ v news₁ h₁ tk₁ h' hs F₁ hv => ?_) (he _ _)
  obtain ⟨b, rfl, hq⟩ := h'
  cases hv
  exact wpAny_truthy_bool (c _ _ _ _ _ _ hq hs F₁ rfl)
theorem WT.not {e : Expr} {pos : Pos} {Q : Bool → St → Prop} (h : WT G f e st fun b st' => Q (!b) st') : WT G f (.UnaryOp .Not e pos) st Q := by
  refine ⟨fun news ex s Q' E F c => ?_⟩
  exact isTrue_not (h.run news ex s _ E F fun b st₁ v news₁ h₁ tk₁ h' hs F₁ hv => c _ _ _ _ _ _ h' hs F₁ (by rw [hv]))
theorem WT.and_nil {pos : Pos} {Q : Bool → St → Prop} (h : Q true st) : WT G f (.BoolOp .And [] pos) st Q := by
  refine ⟨fun news ex s Q' E F c => ?_⟩
  exact isTrue_and_nil (c _ _ _ _ s.heap s.toks h (fun _ x => x) F rfl)
theorem WT.or_nil {pos : Pos} {Q : Bool → St → Prop} (h : Q false st) : WT G f (.BoolOp .Or [] pos) st Q := by
  refine ⟨fun news ex s Q' E F c => ?_⟩
  exact isTrue_or_nil (c _ _ _ _ s.heap s.toks h (fun _ x => x) F rfl)
theorem WT.and {x : Expr} {rest : List Expr} {pos : Pos} {Q : Bool → St → Prop} (h : WT G f x st fun b st' => if b then WT G f (.BoolOp .And rest pos) st' Q else Q false st') : WT G f (.BoolOp .And (x :: rest) pos) st Q := by
  refine ⟨fun news ex s Q' E F c => ?_⟩
  refine isTrue_and (h.run news ex s _ E F fun b st₁ v news₁ h₁ tk₁ h' hs F₁ hv => ?_)
  subst hv
  cases v with
  | false => exact c _ _ _ _ _ _ h' hs F₁ rfl
  | true => exact h'.run news₁ ex _ _ E F₁ fun b st₂ w news₂ h₂ tk₂ hq hs₂ F₂ hw => c _ _ _ _ _ _ hq (fun p hp => hs₂ p (hs p hp)) F₂ hw
theorem WT.or {x : Expr} {rest : List Expr} {pos : Pos} {Q : Bool → St → Prop} (h : WT G f x st fun b st' => if b then Q true st' else WT G f (.BoolOp .Or rest pos) st' Q) : WT G f (.BoolOp .Or (x :: rest) pos) st Q := by
  refine ⟨fun news ex s Q' E F c => ?_⟩
  refine isTrue_or (h.run news ex s _ E F fun b st₁ v news₁ h₁ tk₁ h' hs F₁ hv => ?_)
  subst hv
  cases v with
  | true => exact c _ _ _ _ _ _ h' hs F₁ rfl
  | false => exact h'.run news₁ ex _ _ E F₁ fun b st₂ w news₂ h₂ tk₂ hq hs₂ F₂ hw => c _ _ _ _ _ _ hq (fun p hp => hs₂ p (hs p hp)) F₂ hw
theorem WE.and_one {e : Expr} {op : BoolOp} {pos : Pos} {Q : D → St → Prop} (h : WE G f e st Q) : WE G f (.BoolOp op [e] pos) st Q :=
  ⟨fun news ex s Q' E F c => BoolOp_one (h.run news ex s Q' E F c)⟩
theorem WE.and {x y : Expr} {rest : List Expr} {pos : Pos} {Q : D → St → Prop} (h : WE G f x st fun d st' => ∃ b, d = .bool b ∧ if b then WE G f (.BoolOp .And (y :: rest) pos) st' Q else Q (.bool false) st') :
    WE G f (.BoolOp .And (x :: y :: rest) pos) st Q := by
  refine ⟨fun news ex s Q' E F c => ?_⟩
  refine BoolOp_and (h.run news ex s _ E F fun d st₁ v news₁ h₁ tk₁ h' hs F₁ hv => ?_)
  obtain ⟨b, rfl, h'⟩ := h'
  cases hv
  refine wpAny_truthy_bool ?_
  cases b with
  | false => exact c _ _ _ _ _ _ h' hs F₁ (.bool _)
  | true => exact h'.run news₁ ex _ _ E F₁ fun b st₂ w news₂ h₂ tk₂ hq hs₂ F₂ hw => c _ _ _ _ _ _ hq (fun p hp => hs₂ p (hs p hp)) F₂ hw
theorem WE.or {x y : Expr} {rest : List Expr} {pos : Pos} {Q : D → St → Prop} (h : WE G f x st fun d st' => ∃ b, d = .bool b ∧ if b then Q (.bool true) st' else WE G f (.BoolOp .Or (y :: rest) pos) st' Q) :
    WE G f (.BoolOp .Or (x :: y :: rest) pos) st Q := by
  refine ⟨fun news ex s Q' E F c => ?_⟩
  refine BoolOp_or (h.run news ex s _ E F fun d st₁ v news₁ h₁ tk₁ h' hs F₁ hv => ?_)
  obtain ⟨b, rfl, h'⟩ := h'
  cases hv
  refine wpAny_truthy_bool ?_
  cases b with
  | true => exact c _ _ _ _ _ _ h' hs F₁ (.bool _)
  | false => exact h'.run news₁ ex _ _ E F₁ fun b st₂ w news₂ h₂ tk₂ hq hs₂ F₂ hw => c _ _ _ _ _ _ hq (fun p hp => hs₂ p (hs p hp)) F₂ hw
theorem WE.not {x : Expr} {pos : Pos} {Q : D → St → Prop} (h : WE G f x st fun d st' => ∃ b, d = .bool b ∧ Q (.bool (!b)) st') : WE G f (.UnaryOp .Not x pos) st Q := by
  refine ⟨fun news ex s Q' E F c => ?_⟩
  refine UnaryOp_ (h.run news ex s _ E F fun d st₁ v news₁ h₁ tk₁ h' hs F₁ hv => ?_)
  obtain ⟨b, rfl, hq⟩ := h'
  cases hv
  exact not_of (wpAny_truthy_bool (c _ _ _ _ _ _ hq hs F₁ (.bool _)))
theorem WE.neg {x : Expr} {pos : Pos} {Q : D → St → Prop} (h : WE G f x st fun d st' => ∃ i, d = .int i ∧ Q (.int (-i)) st') : WE G f (.UnaryOp .USub x pos) st Q := by
  refine ⟨fun news ex s Q' E F c => ?_⟩
  refine UnaryOp_ (h.run news ex s _ E F fun d st₁ v news₁ h₁ tk₁ h' hs F₁ hv => ?_)
  obtain ⟨b, rfl, hq⟩ := h'
  cases hv
  exact PyProof.Rows.neg_int (c _ _ _ _ _ _ hq hs F₁ (.int _ _))
theorem WE.ife {t a b : Expr} {pos : Pos} {Q : D → St → Prop} (h : WT G f t st fun c st' => if c then WE G f a st' Q else WE G f b st' Q) : WE G f (.IfExp t a b pos) st Q := by
  refine ⟨fun news ex s Q' E F c => ?_⟩
  refine IfExp_ (h.run news ex s _ E F fun d st₁ v news₁ h₁ tk₁ h' hs F₁ hv => ?_)
  subst hv
  cases v with
  | true => exact h'.run news₁ ex _ _ E F₁ fun b st₂ w news₂ h₂ tk₂ hq hs₂ F₂ hw => c _ _ _ _ _ _ hq (fun p hp => hs₂ p (hs p hp)) F₂ hw
  | false => exact h'.run news₁ ex _ _ E F₁ fun b st₂ w news₂ h₂ tk₂ hq hs₂ F₂ hw => c _ _ _ _ _ _ hq (fun p hp => hs₂ p (hs p hp)) F₂ hw

/-- an item by its place -/
def ItemD (σ : Sig) (o i d : D) : Prop :=
  (∃ ds k, i = .int k ∧ 0 ≤ k ∧ k < 1000 ∧ ds[k.toNat]? = some d ∧ (o = .tuple ds ∨ o = .list ds ∨ ∃ a, o = .mut a ∧ (a, ds) ∈ σ)) ∨
  ∃ x k c, o = .str x ∧ i = .int k ∧ 0 ≤ k ∧ k < 1000 ∧ x.cps[k.toNat]? = some c ∧ d = .str ⟨#[c]⟩

theorem seqIndex_at {k : Int} {n : Nat} (h0 : 0 ≤ k) (h : k.toNat < n) : seqIndex? k n = some k.toNat := by
  unfold seqIndex?
  have h1 : ¬ k < 0 := by omega
  have h2 : k < (n : Int) := by omega
  simp [h1, h0, h2]
theorem WE.sub {value slice : Expr} {pos : Pos} {Q : D → St → Prop} (h : WE G f value st fun o st₁ => WE G f slice st₁ fun i st₂ => ∃ d, ItemD st₂.σ o i d ∧ Q d st₂)
    (hs : ∀ o i, subscripted slice false o i = operate [o, i] (getItem o i) := by with_unfolding_all (intro _ _; rfl)) : WE G f (.Subscript value slice pos) st Q := by
  refine ⟨fun news ex s Q' E F c => ?_⟩
  refine Subscript_ (h.run news ex s _ E F fun o st₁ v news₁ h₁ tk₁ h' hs₁ F₁ hv => ?_)
  refine h'.run news₁ ex _ _ E F₁ fun i st₂ w news₂ h₂ tk₂ hq hs₂ F₂ hw => ?_
  obtain ⟨d, hd, hq⟩ := hq
  have hsub : ∀ p ∈ news, p ∈ news₂ := fun p hp => hs₂ p (hs₁ p hp)
  have hv2 := hv.mono hs₂
  rcases hd with ⟨ds, k, rfl, h0, hk, hget, ho⟩ | ⟨x, k, cc, rfl, rfl, h0, hk, hget, rfl⟩
  · cases hw
    have hlt : k.toNat < ds.length := (List.getElem?_eq_some_iff.mp hget).1
    rcases ho with rfl | rfl | ⟨a, rfl, hσ⟩
    · cases hv2 with
      | tuple hm r =>
        obtain ⟨u, hu, hdu⟩ := r.get hget
        have hl := r.length
        exact item_tupleT (j := k.toNat) (x := u) ⟨_, (F₂.wd.imm _ hm).1, rfl, _, rfl⟩ (by omega) (by omega) (by rw [seqIndex_at h0 (by omega)]) hu (c _ _ _ _ h₂ tk₂ hq hsub F₂ hdu) (hs _ _)
    · cases hv2 with
      | list hm r =>
        obtain ⟨u, hu, hdu⟩ := r.get hget
        refine tail_any (T := "list") (s := { s with heap := h₂, toks := tk₂ }) (Heap.IsList.typeIs ⟨_, (F₂.wd.imm _ hm).1, rfl, _, rfl⟩) slot_list_getitem.lookup (wpAny_getItem_list ⟨_, (F₂.wd.imm _ hm).1, rfl, _, rfl⟩ h0 (by omega) (by simpa using hu) (c _ _ _ _ h₂ tk₂ hq hsub F₂ hdu)) (hs _ _)
    · cases hv2
      obtain ⟨⟨vs, n, hall, hob⟩, _⟩ := F₂.wd.sig _ hσ
      obtain ⟨u, hu, hdu⟩ := hall.get hget
      refine tail_any (T := "list") (s := { s with heap := h₂, toks := tk₂ }) (Heap.IsList.typeIs ⟨_, hob, rfl, _, rfl⟩) slot_list_getitem.lookup (wpAny_getItem_list ⟨_, hob, rfl, _, rfl⟩ h0 (by omega) (by simpa using hu) (c _ _ _ _ h₂ tk₂ hq hsub F₂ hdu)) (hs _ _)
  · cases hw
    cases hv2
    have hlt : k.toNat < x.cps.size := (Array.getElem?_eq_some_iff.mp hget).1
    refine tail_any (T := "str") (s := { s with heap := h₂, toks := tk₂ }) (typeIs_str _ _ _) slot_str_getitem.lookup (PyProof.Rows.getItem_str ?_ ?_ (c _ _ _ _ h₂ _ hq hsub F₂ (.str _ _))) (hs _ _)
    · simp; omega
    · rw [seqIndex_at h0 (by show _ < x.cps.size; exact hlt)]; simpa using hget
end
def Stor (f : Fx) (x : Str) : Prop := f.env.kindOf x = some .local ∨ (f.env.kindOf x = some .cell ∧ ∃ c, f.env.cells.lookup x = some c)

theorem mem_of_lookup {α β : Type} [BEq α] [LawfulBEq α] {l : List (α × β)} {a : α} {b : β} (h : l.lookup a = some b) : (a, b) ∈ l := by
  induction l with
  | nil => simp at h
  | cons p r ih =>
    obtain ⟨k, v⟩ := p
    rw [List.lookup_cons] at h
    split at h
    · rename_i e
      cases h
      rw [eq_of_beq e]
      exact .head _
    · exact .tail _ (ih h)
theorem nodup_inj {l : List (Str × Addr)} (hn : (l.map (·.2)).Nodup) {x y : Str} {c : Addr} (hx : (x, c) ∈ l) (hy : (y, c) ∈ l) : x = y := by
  induction l with
  | nil => cases hx
  | cons p r ih =>
    simp only [List.map_cons, List.nodup_cons] at hn
    rcases List.mem_cons.mp hx with e1 | hx1
    · rcases List.mem_cons.mp hy with e2 | hy1
      · exact (congrArg Prod.fst (e1.trans e2.symm))
      · exact absurd (e1 ▸ List.mem_map_of_mem (f := (·.2)) hy1) hn.1
    · rcases List.mem_cons.mp hy with e2 | hy1
      · exact absurd (e2 ▸ List.mem_map_of_mem (f := (·.2)) hx1) hn.1
      · exact ih hn.2 hx1 hy1

section
variable {G : Gl} {f : Fx} {st : St} {news ex : Led} {s : Shared} {Q : Unit → Shared → Prop} {E : Value → Shared → Prop}
theorem Wd.same {σ : Sig} {h h' : Heap} {L : Addr} (W : Wd G σ news ex h) (hs : Heap.SameBut L h h') (hL : G.h₀.get? L = none) (hn : ∀ q ∈ news, q.1 ≠ L) (he : ∀ q ∈ ex, q.1 ≠ L) (hσ : ∀ p ∈ σ, p.1 ≠ L) : Wd G σ news ex h' where
  base := fun b o e => by
    have : b ≠ L := fun q => by rw [q, hL] at e; cases e
    exact (hs.2 b this).trans (W.base b o e)
  size := by rw [hs.1]; exact W.size
  imm := fun p hp => ⟨(hs.2 p.1 (hn p hp)).trans (W.imm p hp).1, (W.imm p hp).2⟩
  exs := fun p hp => ⟨(hs.2 p.1 (he p hp)).trans (W.exs p hp).1, (W.exs p hp).2⟩
  sig := fun p hp => by
    obtain ⟨⟨vs, n, a, b⟩, c⟩ := W.sig p hp
    exact ⟨⟨vs, n, a, (hs.2 p.1 (hσ p hp)).trans b⟩, c⟩
  apart := W.apart
  sep := W.sep
  exnd := W.exnd
  nodup := W.nodup
theorem Fm.h0L {h : Heap} (F : Fm G f st news ex h) : G.h₀.get? f.env.locals = none := by
  cases q : G.h₀.get? f.env.locals with
  | none => rfl
  | some o => exact absurd (Heap.lt_size q) (Nat.not_lt.mpr F.lo)
theorem Fm.Lsig {h : Heap} (F : Fm G f st news ex h) : ∀ p ∈ st.σ, p.1 ≠ f.env.locals := fun p hp q => by
  obtain ⟨m, ⟨o, es, ep, ho, hd, _⟩, _⟩ := F.names
  obtain ⟨⟨vs, n, _, b⟩, _⟩ := F.wd.sig p hp
  rw [q, ho] at b
  cases b
  cases hd
theorem Fm.cellSig {h : Heap} (F : Fm G f st news ex h) {c : Addr} {w : Option Value} (hc : h.IsCell c w) : ∀ p ∈ st.σ, p.1 ≠ c := fun p hp q => by
  obtain ⟨o, ho, hd⟩ := hc
  obtain ⟨⟨vs, n, _, b⟩, _⟩ := F.wd.sig p hp
  rw [q, ho] at b
  cases b
  cases hd
theorem Fm.cellL {h : Heap} (F : Fm G f st news ex h) {c : Addr} {w : Option Value} (hc : h.IsCell c w) : c ≠ f.env.locals := fun q => by
  obtain ⟨m, ⟨o', es, ep, ho', hd', _⟩, _⟩ := F.names
  obtain ⟨o, ho, hd⟩ := hc
  rw [q, ho'] at ho
  cases ho
  rw [hd'] at hd
  cases hd

theorem storeName_ {x : Str} {d : D} {v : Value} (hk : Stor f x) (F : Fm G f st news ex s.heap) (hv : DIn news v d)
    (h : ∀ h' tk', Fm G f (st.set x d) news ex h' → Q () { s with heap := h', toks := tk' }) : wpAny (model G.prog G.w) f.A (storeName f.env x v) Q E s := by
  obtain ⟨m, hn, hm⟩ := F.names
  rcases hk with hk | ⟨hk, c, hc⟩
  · refine wpAny_storeName_local hk hn (fun h' hn' hs' => h h' _ ⟨F.ok, F.wd.same hs' F.h0L F.Lnews F.Lex F.Lsig, F.lo, ⟨_, hn', fun y e hy => ?_⟩, F.Lnews, F.Lex, fun p hp => ?_⟩) ?_
    · simp only [St.set] at hy
      by_cases e1 : y = x
      · subst e1
        rw [if_pos rfl] at hy
        cases hy
        exact ⟨v, hv, .inl ⟨hk, by rw [if_pos rfl]⟩⟩
      · rw [if_neg e1] at hy
        obtain ⟨u, hu, h1⟩ := hm y e hy
        refine ⟨u, hu, h1.imp (fun ⟨a, b⟩ => ⟨a, by rw [if_neg e1]; exact b⟩) fun ⟨a, cc, b, o, ho, hd⟩ => ⟨a, cc, b, o, (hs'.2 cc (F.cellL ⟨o, ho, hd⟩)).trans ho, hd⟩⟩
    · obtain ⟨⟨w, o, ho, hd⟩, h2⟩ := F.cells p hp
      exact ⟨⟨w, o, (hs'.2 p.2 (F.cellL ⟨o, ho, hd⟩)).trans ho, hd⟩, h2⟩
    · rw [F.ok.kind]; rfl
  · have hmem := mem_of_lookup hc
    obtain ⟨⟨w, hw⟩, h0, hcn, hce⟩ := F.cells _ hmem
    refine wpAny_storeName_cell F.ok.kind hk hc hw fun h' hv' hs' => h h' s.toks ⟨F.ok, F.wd.same hs' h0 hcn hce (F.cellSig hw), F.lo, ⟨m, hn.sameBut hs' (Ne.symm (F.cellL hw)), fun y e hy => ?_⟩, F.Lnews, F.Lex, fun p hp => ?_⟩
    · simp only [St.set] at hy
      by_cases e1 : y = x
      · subst e1
        rw [if_pos rfl] at hy
        cases hy
        exact ⟨v, hv, .inr ⟨hk, c, hc, hv'⟩⟩
      · rw [if_neg e1] at hy
        obtain ⟨u, hu, h1⟩ := hm y e hy
        refine ⟨u, hu, h1.imp id fun ⟨a, cc, b, o, ho, hd⟩ => ⟨a, cc, b, o, (hs'.2 cc fun q => ?_).trans ho, hd⟩⟩
        subst q
        exact e1 (nodup_inj F.ok.nd (mem_of_lookup b) hmem)
    · obtain ⟨⟨w', o, ho, hd⟩, h2⟩ := F.cells p hp
      refine ⟨?_, h2⟩
      by_cases q : p.2 = c
      · exact ⟨_, q ▸ hv'⟩
      · exact ⟨w', o, (hs'.2 p.2 q).trans ho, hd⟩
end

section
variable {G : Gl} {f : Fx} {st : St}
theorem WS.nil {Q : Out → St → Prop} (h : Q .next st) : WS G f [] st Q :=
  ⟨fun _ _ s _ _ F c => wpAny_execs_nil (c _ _ _ _ s.heap s.toks h (fun _ x => x) F .next)⟩
theorem WS.cons {x : Stmt} {rest : List Stmt} {Q : Out → St → Prop} (h : WX G f x st fun o st' => match o with | .next => WS G f rest st' Q | o => Q o st') : WS G f (x :: rest) st Q := by
  refine ⟨fun news ex s Q' E F c => ?_⟩
  refine wpAny_execs_cons (h.run news ex s _ E F fun o st₁ v news₁ h₁ tk₁ h' hs F₁ hv => ?_)
  cases hv with
  | next => exact h'.run news₁ ex _ _ E F₁ fun o st₂ w news₂ h₂ tk₂ hq hs₂ F₂ hw => c _ _ _ _ _ _ hq (fun p hp => hs₂ p (hs p hp)) F₂ hw
  | brk => exact c _ _ _ _ _ _ h' hs F₁ .brk
  | cont => exact c _ _ _ _ _ _ h' hs F₁ .cont
  | ret hd => exact c _ _ _ _ _ _ h' hs F₁ (.ret hd)
theorem WX.assign {x : Str} {px pos : Pos} {e : Expr} {Q : Out → St → Prop} (h : WE G f e st fun d st' => Q .next (st'.set x d)) (hk : Stor f x)
    (hs : ∀ env, swapsWith e (some (.Name x px)) pos.line env = pure false := by intro _; rfl) : WX G f (.Assign [.Name x px] e pos) st Q := by
  refine ⟨fun news ex s Q' E F c => ?_⟩
  refine wpAny_Assign_Name (h.run news ex s _ E F fun d st₁ v news₁ h₁ tk₁ h' hs F₁ hv => ?_) (hs _)
  exact storeName_ hk F₁ hv fun h₂ tk₂ F₂ => c _ _ _ _ _ _ h' hs F₂ .next
theorem WX.ite {t : Expr} {a b : List Stmt} {pos : Pos} {Q : Out → St → Prop} (h : WT G f t st fun c st' => if c then WS G f a st' Q else WS G f b st' Q) : WX G f (.If t a b pos) st Q := by
  refine ⟨fun news ex s Q' E F c => ?_⟩
  refine wpAny_If (h.run news ex s _ E F fun d st₁ v news₁ h₁ tk₁ h' hs F₁ hv => ?_)
  subst hv
  cases v with
  | true => exact h'.run news₁ ex _ _ E F₁ fun b st₂ w news₂ h₂ tk₂ hq hs₂ F₂ hw => c _ _ _ _ _ _ hq (fun p hp => hs₂ p (hs p hp)) F₂ hw
  | false => exact h'.run news₁ ex _ _ E F₁ fun b st₂ w news₂ h₂ tk₂ hq hs₂ F₂ hw => c _ _ _ _ _ _ hq (fun p hp => hs₂ p (hs p hp)) F₂ hw
theorem WX.ret {e : Expr} {pos : Pos} {Q : Out → St → Prop} (h : WE G f e st fun d st' => Q (.ret d) st') : WX G f (.Return (some e) pos) st Q := by
  refine ⟨fun news ex s Q' E F c => ?_⟩
  exact wpAny_Return_some (h.run news ex s _ E F fun d st₁ v news₁ h₁ tk₁ h' hs F₁ hv => c _ _ _ _ _ _ h' hs F₁ (.ret hv))
theorem WX.cont {pos : Pos} {Q : Out → St → Prop} (h : Q .cont st) : WX G f (.Continue pos) st Q := by
  refine ⟨fun news ex s Q' E F c => ?_⟩
  show wpAny _ _ (do standAt pos; pure Flow.cont) _ _ _
  exact wpAny_bind (wpAny_standAt (wpAny_pure (c _ _ _ _ s.heap s.toks h (fun _ x => x) F .cont)))
end

/-! ### loops -/
section
variable {G : Gl} {f : Fx} {st : St} {news ex : Led} {h h' : Heap}
/-- the heap goes on, what stood stands -/
theorem Wd.grow {σ : Sig} (W : Wd G σ news ex h) (k : ∀ b o, h.get? b = some o → h'.get? b = some o) (hz : h.objs.size ≤ h'.objs.size) : Wd G σ news ex h' where
  base := fun b o e => k b o (W.base b o e)
  size := Nat.le_trans W.size hz
  imm := fun p hp => ⟨k _ _ (W.imm p hp).1, (W.imm p hp).2⟩
  exs := fun p hp => ⟨k _ _ (W.exs p hp).1, (W.exs p hp).2⟩
  sig := fun p hp => by
    obtain ⟨⟨vs, n, a, b⟩, c⟩ := W.sig p hp
    exact ⟨⟨vs, n, a, k _ _ b⟩, c⟩
  apart := W.apart
  sep := W.sep
  exnd := W.exnd
  nodup := W.nodup
/-- one object of the kept ones turns -/
theorem Fm.turn {I : Addr} {o o' : Obj} (F : Fm G f st news ((I, o) :: ex) h) (k : ∀ b x, b ≠ I → h.get? b = some x → h'.get? b = some x) (hI : h'.get? I = some o') : Fm G f st news ((I, o') :: ex) h' := by
  have hI0 : G.h₀.get? I = none := (F.wd.exs _ (.head _)).2
  have hnI : ∀ q ∈ news, q.1 ≠ I := F.wd.sep _ (.head _)
  have hIL : I ≠ f.env.locals := F.Lex _ (.head _)
  obtain ⟨m, hn, hm⟩ := F.names
  have hn' : h'.Ns f.env.locals m := hn.at' fun x e => k _ x (Ne.symm hIL) e
  have hLz : f.env.locals < h'.objs.size := by
    obtain ⟨x, _, _, hx, _⟩ := hn'
    exact Heap.lt_size hx
  have hIx : ∀ p ∈ ex, p.1 ≠ I := fun p hp q => by
    have := F.wd.exnd
    simp only [List.map_cons, List.nodup_cons] at this
    exact this.1 (q ▸ List.mem_map_of_mem (f := (·.1)) hp)
  refine ⟨F.ok, ⟨fun b x e => k b x (fun q => by rw [q, hI0] at e; cases e) (F.wd.base b x e), Nat.le_trans F.lo (Nat.le_of_lt hLz), fun p hp => ⟨k _ _ (hnI p hp) (F.wd.imm p hp).1, (F.wd.imm p hp).2⟩, fun p hp => ?_, fun p hp => ?_, fun p hp => ⟨(F.wd.apart p hp).1, fun q hq => ?_⟩, fun p hp => ?_, F.wd.exnd, F.wd.nodup⟩, F.lo, ⟨m, hn', fun x d hx => ?_⟩, F.Lnews, fun q hq => ?_, fun p hp => ?_⟩
  · rcases List.mem_cons.mp hp with rfl | hp
    · exact ⟨hI, hI0⟩
    · exact ⟨k _ _ (hIx p hp) (F.wd.exs p (.tail _ hp)).1, (F.wd.exs p (.tail _ hp)).2⟩
  · obtain ⟨⟨vs, n, a, b⟩, c⟩ := F.wd.sig p hp
    exact ⟨⟨vs, n, a, k _ _ (Ne.symm ((F.wd.apart p hp).2 _ (.head _))) b⟩, c⟩
  · rcases List.mem_cons.mp hq with rfl | hq
    · exact (F.wd.apart p hp).2 (I, o) (.head _)
    · exact (F.wd.apart p hp).2 q (.tail _ hq)
  · rcases List.mem_cons.mp hp with rfl | hp
    · exact F.wd.sep (I, o) (.head _)
    · exact F.wd.sep p (.tail _ hp)
  · obtain ⟨v, hv, h1⟩ := hm x d hx
    refine ⟨v, hv, h1.imp id fun ⟨hk, c, hc, oc, a, b⟩ => ⟨hk, c, hc, oc, k _ _ (fun q => ?_) a, b⟩⟩
    exact (F.cells _ (mem_of_lookup hc)).2.2.2 (I, o) (.head _) q.symm
  · rcases List.mem_cons.mp hq with rfl | hq
    · exact hIL
    · exact F.Lex q (.tail _ hq)
  · obtain ⟨⟨v, oc, a, b⟩, h2, h3, h4⟩ := F.cells p hp
    refine ⟨⟨v, oc, k _ _ (fun q => h4 (I, o) (.head _) q.symm) a, b⟩, h2, h3, fun q hq => ?_⟩
    rcases List.mem_cons.mp hq with rfl | hq
    · exact h4 (I, o) (.head _)
    · exact h4 q (.tail _ hq)
theorem Wd.drop {σ : Sig} {p : Addr × Obj} (W : Wd G σ news (p :: ex) h) : Wd G σ news ex h where
  base := W.base
  size := W.size
  imm := W.imm
  exs := fun q hq => W.exs q (.tail _ hq)
  sig := W.sig
  apart := fun q hq => ⟨(W.apart q hq).1, fun r hr => (W.apart q hq).2 r (.tail _ hr)⟩
  sep := fun q hq => W.sep q (.tail _ hq)
  exnd := (List.nodup_cons.mp W.exnd).2
  nodup := W.nodup
theorem Fm.drop {p : Addr × Obj} (F : Fm G f st news (p :: ex) h) : Fm G f st news ex h :=
  ⟨F.ok, F.wd.drop, F.lo, F.names, F.Lnews, fun q hq => F.Lex q (.tail _ hq), fun q hq => ⟨(F.cells q hq).1, (F.cells q hq).2.1, (F.cells q hq).2.2.1, fun r hr => (F.cells q hq).2.2.2 r (.tail _ hr)⟩⟩
/-- one object of the kept ones turns, and is let go -/
theorem Fm.leave {I : Addr} {o : Obj} (F : Fm G f st news ((I, o) :: ex) h) (k : ∀ b x, b ≠ I → h.get? b = some x → h'.get? b = some x) : Fm G f st news ex h' := by
  have hI0 : G.h₀.get? I = none := (F.wd.exs _ (.head _)).2
  have hnI : ∀ q ∈ news, q.1 ≠ I := F.wd.sep _ (.head _)
  have hIL : I ≠ f.env.locals := F.Lex _ (.head _)
  obtain ⟨m, hn, hm⟩ := F.names
  have hn' : h'.Ns f.env.locals m := hn.at' fun x e => k _ x (Ne.symm hIL) e
  have hLz : f.env.locals < h'.objs.size := by
    obtain ⟨x, _, _, hx, _⟩ := hn'
    exact Heap.lt_size hx
  have hIx : ∀ p ∈ ex, p.1 ≠ I := fun p hp q => by
    have := F.wd.exnd
    simp only [List.map_cons, List.nodup_cons] at this
    exact this.1 (q ▸ List.mem_map_of_mem (f := (·.1)) hp)
  have D := F.drop
  refine ⟨F.ok, ⟨fun b x e => k b x (fun q => by rw [q, hI0] at e; cases e) (F.wd.base b x e), Nat.le_trans F.lo (Nat.le_of_lt hLz), fun p hp => ⟨k _ _ (hnI p hp) (F.wd.imm p hp).1, (F.wd.imm p hp).2⟩, fun p hp => ?_, fun p hp => ?_, D.wd.apart, D.wd.sep, D.wd.exnd, F.wd.nodup⟩, F.lo, ⟨m, hn', fun x d hx => ?_⟩, F.Lnews, D.Lex, fun p hp => ?_⟩
  · exact ⟨k _ _ (hIx p hp) (D.wd.exs p hp).1, (D.wd.exs p hp).2⟩
  · obtain ⟨⟨vs, n, a, b⟩, c⟩ := F.wd.sig p hp
    exact ⟨⟨vs, n, a, k _ _ (Ne.symm ((F.wd.apart p hp).2 _ (.head _))) b⟩, c⟩
  · obtain ⟨v, hv, h1⟩ := hm x d hx
    refine ⟨v, hv, h1.imp id fun ⟨hk, c, hc, oc, a, b⟩ => ⟨hk, c, hc, oc, k _ _ (fun q => ?_) a, b⟩⟩
    exact (F.cells _ (mem_of_lookup hc)).2.2.2 (I, o) (.head _) q.symm
  · obtain ⟨⟨v, oc, a, b⟩, h2, h3, h4⟩ := F.cells p hp
    exact ⟨⟨v, oc, k _ _ (fun q => h4 (I, o) (.head _) q.symm) a, b⟩, h2, h3, (D.cells p hp).2.2.2⟩
/-- a new object is taken among the kept ones -/
theorem Fm.takeEx {o : Obj} (F : Fm G f st news ex h) (hf : o.isFreed = false := by rfl) : Fm G f st news ((h.objs.size, o) :: ex) (h.push o) := by
  have P := F.push (o := o) hf
  have lt : ∀ a x, h.get? a = some x → a ≠ h.objs.size := fun a x e => Nat.ne_of_lt (Heap.lt_size e)
  refine ⟨F.ok, ⟨P.wd.base, P.wd.size, fun p hp => P.wd.imm p (.tail _ hp), fun p hp => ?_, fun p hp => ?_, fun p hp => ⟨(F.wd.apart p hp).1, fun q hq => ?_⟩, fun p hp q hq => ?_, ?_, F.wd.nodup⟩, F.lo, ?_, F.Lnews, fun q hq => ?_, fun p hp => ?_⟩
  · rcases List.mem_cons.mp hp with rfl | hp
    · exact P.wd.imm _ (.head _)
    · exact P.wd.exs p hp
  · obtain ⟨⟨vs, n, a, b⟩, c⟩ := F.wd.sig p hp
    exact ⟨⟨vs, n, a, Heap.get?_push_of_some _ b⟩, c⟩
  · rcases List.mem_cons.mp hq with rfl | hq
    · obtain ⟨⟨vs, n, a, b⟩, c⟩ := F.wd.sig p hp
      exact Ne.symm (lt _ _ b)
    · exact (F.wd.apart p hp).2 q hq
  · rcases List.mem_cons.mp hp with rfl | hp
    · exact lt _ _ (F.wd.imm q hq).1
    · exact F.wd.sep p hp q hq
  · rw [List.map_cons, List.nodup_cons]
    refine ⟨fun hm => ?_, F.wd.exnd⟩
    obtain ⟨p, hp, e⟩ := List.mem_map.mp hm
    exact lt _ _ (F.wd.exs p hp).1 e
  · obtain ⟨m, hn, hm⟩ := F.names
    refine ⟨m, hn.keeps fun b o' e => Heap.get?_push_of_some _ e, fun x d hx => ?_⟩
    obtain ⟨v, hv, h1⟩ := hm x d hx
    exact ⟨v, hv, h1.imp id fun ⟨hk, cc, hc, oc, a, b⟩ => ⟨hk, cc, hc, oc, Heap.get?_push_of_some _ a, b⟩⟩
  · rcases List.mem_cons.mp hq with rfl | hq
    · obtain ⟨m, ⟨o', _, _, hL, _⟩, _⟩ := F.names
      exact Ne.symm (lt _ _ hL)
    · exact F.Lex q hq
  · obtain ⟨⟨v, oc, a, b⟩, h2, h3, h4⟩ := F.cells p hp
    refine ⟨⟨v, oc, Heap.get?_push_of_some _ a, b⟩, h2, h3, fun q hq => ?_⟩
    rcases List.mem_cons.mp hq with rfl | hq
    · exact Ne.symm (lt _ _ a)
    · exact h4 q hq
theorem Fm.grow (F : Fm G f st news ex h) (k : ∀ b o, h.get? b = some o → h'.get? b = some o) (hz : h.objs.size ≤ h'.objs.size) : Fm G f st news ex h' := by
  obtain ⟨m, hn, hm⟩ := F.names
  refine ⟨F.ok, F.wd.grow k hz, F.lo, ⟨m, hn.keeps k, fun x d hx => ?_⟩, F.Lnews, F.Lex, fun p hp => ?_⟩
  · obtain ⟨v, hv, h1⟩ := hm x d hx
    exact ⟨v, hv, h1.imp id fun ⟨hk, cc, hc, oc, a, b⟩ => ⟨hk, cc, hc, oc, k _ _ a, b⟩⟩
  · obtain ⟨⟨v, oc, a, b⟩, h2⟩ := F.cells p hp
    exact ⟨⟨v, oc, k _ _ a, b⟩, h2⟩
end

/-- a target takes a datum -/
structure Assigns (G : Gl) (f : Fx) (tgt : Expr) (d : D) (st st' : St) : Prop where
  run : ∀ (news ex : Led) (s : Shared) (v : Value) (Q : Unit → Shared → Prop) (E : Value → Shared → Prop), Fm G f st news ex s.heap → DIn news v d →
    (∀ h' tk', Fm G f st' news ex h' → Q () { s with heap := h', toks := tk' }) → wpAny (model G.prog G.w) f.A (assign tgt f.env v) Q E s
theorem Assigns.name {G : Gl} {f : Fx} {x : Str} {px : Pos} {d : D} {st : St} (hk : Stor f x) : Assigns G f (.Name x px) d st (st.set x d) := by
  refine ⟨fun news ex s v Q E F hv c => ?_⟩
  exact wpAny_assign_Name (storeName_ hk F hv fun h' tk' F' => c h' tk' F')
theorem Assigns.three {G : Gl} {f : Fx} {x y z : Str} {px py pz pos : Pos} {k : Nat} {a b c : D} {st : St} (hx : Stor f x) (hy : Stor f y) (hz : Stor f z) :
    Assigns G f (.Tuple [.Name x px, .Name y py, .Name z pz] k pos) (.tuple [a, b, c]) st (((st.set x a).set y b).set z c) := by
  refine ⟨fun news ex s v Q E F hv q => ?_⟩
  cases hv with
  | tuple hm hall =>
    cases hall with
    | cons ha hall =>
      cases hall with
      | cons hb hall =>
        cases hall with
        | cons hc hall =>
          cases hall
          refine wpAny_assign_Tuple F.ok.room.handled ⟨_, (F.wd.imm _ hm).1, rfl, _, rfl⟩ (by rfl) (by rfl) fun h' he => ?_
          have F' : Fm G f st news ex h' := by
            have kk : ∀ b o, s.heap.get? b = some o → h'.get? b = some o := fun b o e => he b o (Nat.ne_of_lt (Heap.lt_size e)) e
            obtain ⟨m, hn, hm'⟩ := F.names
            refine ⟨F.ok, ⟨fun b o e => kk _ _ (F.wd.base b o e), ?_, fun p hp => ⟨kk _ _ (F.wd.imm p hp).1, (F.wd.imm p hp).2⟩, fun p hp => ⟨kk _ _ (F.wd.exs p hp).1, (F.wd.exs p hp).2⟩, fun p hp => ?_, F.wd.apart, F.wd.sep, F.wd.exnd, F.wd.nodup⟩, F.lo, ⟨m, hn.keeps kk, fun x d hx => ?_⟩, F.Lnews, F.Lex, fun p hp => ?_⟩
            · obtain ⟨x, _, _, hx, _⟩ := hn.keeps kk
              exact Nat.le_trans F.lo (Nat.le_of_lt (Heap.lt_size hx))
            · obtain ⟨⟨vs, n, a, b⟩, c⟩ := F.wd.sig p hp
              exact ⟨⟨vs, n, a, kk _ _ b⟩, c⟩
            · obtain ⟨v, hv, h1⟩ := hm' x d hx
              exact ⟨v, hv, h1.imp id fun ⟨hk, cc, hc, oc, a, b⟩ => ⟨hk, cc, hc, oc, kk _ _ a, b⟩⟩
            · obtain ⟨⟨v, oc, a, b⟩, h2⟩ := F.cells p hp
              exact ⟨⟨v, oc, kk _ _ a, b⟩, h2⟩
          refine wpAny_assignInOrder_more (wpAny_assign_Name (storeName_ hx F' ha fun h₁ tk₁ F₁ => ?_))
          refine wpAny_assignInOrder_more (wpAny_assign_Name (storeName_ hy F₁ hb fun h₂ tk₂ F₂ => ?_))
          refine wpAny_assignInOrder_more (wpAny_assign_Name (storeName_ hz F₂ hc fun h₃ tk₃ F₃ => ?_))
          exact wpAny_assignInOrder_none (q h₃ tk₃ F₃)

def ForEach (G : Gl) (f : Fx) (tgt : Expr) (body : List Stmt) (Q : Out → St → Prop) : List D → St → Prop
  | [], st => Q .next st
  | d :: ds, st => ∃ st₁, Assigns G f tgt d st st₁ ∧ WS G f body st₁ fun o st' => match o with
    | .next => ForEach G f tgt body Q ds st'
    | .cont => ForEach G f tgt body Q ds st'
    | .brk => Q .next st'
    | .ret v => Q (.ret v) st'

section
variable {G : Gl} {f : Fx} {st : St} {news ex : Led}
theorem loop_ {tgt : Expr} {body : List Stmt} {I : Addr} {oI : Obj} {fp : List Addr} {n : Nat} {P : Nat → Value → Prop} {Sw : Nat → Heap → Prop} {ds : List D} {s : Shared} {Q : Out → St → Prop} {Q' : Flow → Shared → Prop} {R : Result → Shared → Prop}
    (W : Walks G.prog G.w f.A I fp [I] n P Sw) (hlen : ds.length = n) (hP : ∀ i v, P i v → ∀ d, ds[i]? = some d → DIn news v d) (hfp : ∀ b ∈ fp, b = I ∨ ∃ o, (b, o) ∈ news)
    (hSo : ∀ i h, Sw i h → ∃ o, h.get? I = some o) (hgo : ∀ i v (s : Shared) (Q : Unit → Shared → Prop) (E : Value → Shared → Prop), Sw i s.heap → Q () s → wpAny (model G.prog G.w) f.A (letOwnedTupleGo tgt (.ref I) v) Q E s)
    (F : Fm G f st news ((I, oI) :: ex) s.heap) (hst : Sw 0 s.heap) (h : ForEach G f tgt body Q ds st) (hQ : Lets G f FlIn news ex s Q Q') (hR : ∀ fl s', Q' fl s' → R (.ok fl) s') :
    codeAny (model G.prog G.w) f.A (.forLoop tgt (.ref I) body [] f.env) R s := by
  refine codeAny_forLoop_any
    (fun k s' => ∃ h' tk st' news' o i, s' = { s with heap := h', toks := tk } ∧ Sw i h' ∧ (∀ p ∈ news, p ∈ news') ∧ Fm G f st' news' ((I, o) :: ex) h' ∧ ForEach G f tgt body Q (ds.drop i) st' ∧ i ≤ n ∧ k = n + 1 - i) ?_ (n + 1)
    ⟨s.heap, s.toks, st, news, oI, 0, rfl, hst, fun _ x => x, F, h, Nat.zero_le _, rfl⟩
  rintro k s' ⟨h', tk, st', news', o, i, rfl, hst', hsub, F', hF, hi, rfl⟩
  by_cases hlt : i < n
  · refine W.item i _ _ _ hlt hst' fun v h₁ tk₁ hv hst₁ hk₁ => ?_
    obtain ⟨o₁, ho₁⟩ := hSo _ _ hst₁
    have F₁ := F'.turn (fun b x hb e => hk₁ b x (by simpa using hb) e) ho₁
    refine hgo _ _ _ _ _ hst₁ ?_
    have hd : ds.drop i = ds[i]'(hlen ▸ hlt) :: ds.drop (i + 1) := List.drop_eq_getElem_cons _
    rw [hd] at hF
    obtain ⟨st₁, ha, hb⟩ := hF
    have hvd := hP i v hv (ds[i]'(hlen ▸ hlt)) (by simp [hlen, hlt])
    refine ha.run news' _ _ v _ _ F₁ (hvd.mono hsub) fun h₂ tk₂ F₂ => ?_
    refine hb.run news' _ _ _ _ F₂ fun oo st₃ fl news₃ h₃ tk₃ hq hs₃ F₃ hfl => ?_
    have hsub₃ : ∀ p ∈ news, p ∈ news₃ := fun p hp => hs₃ p (hsub p hp)
    have hst₃ : Sw (i + 1) h₃ := W.frame _ _ _ hst₁ fun b hb x e => by
      rcases hfp b hb with rfl | ⟨ob, hob⟩
      · have := (F₃.wd.exs _ (.head _)).1
        rw [ho₁] at e; cases e; exact this
      · have e1 := (F₁.wd.imm _ (hsub _ hob)).1
        rw [e] at e1; cases e1
        exact (F₃.wd.imm _ (hsub₃ _ hob)).1
    cases hfl with
    | next => exact ⟨n + 1 - (i + 1), by omega, h₃, tk₃, st₃, news₃, o₁, i + 1, rfl, hst₃, hsub₃, F₃, hq, hlt, rfl⟩
    | cont => exact ⟨n + 1 - (i + 1), by omega, h₃, tk₃, st₃, news₃, o₁, i + 1, rfl, hst₃, hsub₃, F₃, hq, hlt, rfl⟩
    | brk => exact hR _ _ (hQ _ _ _ _ _ _ hq hsub₃ F₃.drop .next)
    | ret hd => exact hR _ _ (hQ _ _ _ _ _ _ hq hsub₃ F₃.drop (.ret hd))
  · have hin : i = n := by omega
    subst hin
    refine W.done _ _ _ hst' fun h₁ tk₁ hk₁ => wpAny_execs_nil ?_
    have F₁ := F'.leave (h' := h₁) fun b x hb e => hk₁ b x (by simpa using hb) e
    rw [← hlen, List.drop_length] at hF
    exact hR _ _ (hQ _ _ _ _ _ _ hF hsub F₁ .next)

/-- the items of an iterable, as data -/
def Iter (d : D) (ds : List D) : Prop := d = .tuple ds ∨ d = .list ds ∨ ∃ n, d = .range n ∧ n < 1000 ∧ ds = (List.range n).map fun i => D.int (i : Nat)

theorem go_free {tgt : Expr} {A : Around} {I : Addr} {o : Obj} {n : String} {vs : Array Value} {s : Shared} {v : Value} {Q : Unit → Shared → Prop} {E : Value → Shared → Prop} (ho : s.heap.get? I = some o) (hc : o.cls = .type n) (hd : o.data = .fields vs)
    (hn : (["enumerate", "zip", "dict_itemiterator", "dict_reverseitemiterator", "odict_iterator", "itertools.zip_longest", "itertools.pairwise"].contains n) = false) (hQ : Q () s) :
    wpAny (model G.prog G.w) A (letOwnedTupleGo tgt (.ref I) v) Q E s := by
  unfold letOwnedTupleGo
  split
  · cases v with
    | ref a =>
      refine wpAny_bind (wpAny_load ho ?_)
      rw [hc, hd]
      dsimp only
      rw [hn, Bool.false_and, if_neg Bool.false_ne_true]
      exact wpAny_pure hQ
    | _ => exact wpAny_pure hQ
  · cases v with
    | ref a =>
      refine wpAny_bind (wpAny_load ho ?_)
      rw [hc, hd]
      dsimp only
      rw [hn, Bool.false_and, if_neg Bool.false_ne_true]
      exact wpAny_pure hQ
    | _ => exact wpAny_pure hQ
  · exact wpAny_pure hQ

theorem rangeSmall {n : Nat} (h : n < 1000) : Builtin.Range.small 0 n 1 = true ∧ Builtin.Range.rangeSize 0 n 1 = (n : Int) := by
  have e : Builtin.Range.rangeSize 0 n 1 = (n : Int) := by rw [rangeSize_one]; split <;> omega
  refine ⟨?_, e⟩
  unfold Builtin.Range.small
  rw [e]
  unfold Builtin.Range.rangeFitsLong
  simp
  omega

theorem iter_ {s : Shared} {v : Value} {d : D} {ds : List D} {Q : Value → Shared → Prop} {E : Value → Shared → Prop} (F : Fm G f st news ex s.heap) (hv : DIn news v d) (hit : Iter d ds)
    (h : ∀ (oI : Obj) (fp : List Addr) (P : Nat → Value → Prop) (Sw : Nat → Heap → Prop) (tk : Tok), Walks G.prog G.w f.A s.heap.objs.size fp [s.heap.objs.size] ds.length P Sw → (∀ i v, P i v → ∀ d, ds[i]? = some d → DIn news v d) →
      (∀ b ∈ fp, b = s.heap.objs.size ∨ ∃ o, (b, o) ∈ news) → (∀ i h, Sw i h → ∃ o, h.get? s.heap.objs.size = some o) → (∀ tgt i v (s' : Shared) (Q : Unit → Shared → Prop) (E : Value → Shared → Prop), Sw i s'.heap → Q () s' → wpAny (model G.prog G.w) f.A (letOwnedTupleGo tgt (.ref s.heap.objs.size) v) Q E s') → Sw 0 (s.heap.push oI) → Fm G f st news ((s.heap.objs.size, oI) :: ex) (s.heap.push oI) → Q (.ref s.heap.objs.size) { s with heap := s.heap.push oI, toks := tk }) :
    wpAny (model G.prog G.w) f.A (pyIter v) Q E s := by
  have hh := F.ok.room.handled
  rcases hit with rfl | rfl | ⟨n, rfl, hn, rfl⟩
  · cases hv with
    | tuple hm hall =>
      rename_i a vs n
      have ha := (F.wd.imm _ hm).1
      have hne : a ≠ s.heap.objs.size := Nat.ne_of_lt (Heap.lt_size ha)
      have hlen : ds.length = vs.toArray.size := by rw [List.size_toArray, hall.length]
      refine wpAny_pyIter_tuple (items := vs.toArray) ⟨_, ha, rfl, _, rfl⟩ ?_
      refine h _ _ _ _ s.toks (hlen ▸ Walks.tuple hh s.heap.objs.size a hne vs.toArray) (fun i v hP d hd => ?_) (fun b hb => ?_) (fun i h hS => ?_) (fun tgt i v s' Q E hS hq => ?_) ⟨⟨_, Heap.get?_push_size _ rfl, rfl, rfl⟩, ⟨_, Heap.get?_push_of_some _ ha, rfl, _, rfl⟩⟩ (F.takeEx)
      · obtain ⟨u, hu, hdu⟩ := hall.get hd
        have : vs[i]? = some v := by simpa using hP
        rw [hu] at this; cases this; exact hdu
      · rcases List.mem_cons.mp hb with rfl | hb
        · exact .inl rfl
        · rw [List.mem_singleton.mp hb]; exact .inr ⟨_, hm⟩
      · obtain ⟨⟨o, ho, _⟩, _⟩ := hS; exact ⟨o, ho⟩
      · obtain ⟨⟨o, ho, hc, hd⟩, _⟩ := hS
        exact go_free ho hc hd (by decide) hq
  · cases hv with
    | list hm hall =>
      rename_i a vs n
      have ha := (F.wd.imm _ hm).1
      have hne : a ≠ s.heap.objs.size := Nat.ne_of_lt (Heap.lt_size ha)
      have hlen : ds.length = vs.toArray.size := by rw [List.size_toArray, hall.length]
      refine wpAny_pyIter_list (items := vs.toArray) ⟨_, ha, rfl, _, rfl⟩ ?_
      refine h _ _ _ _ s.toks (hlen ▸ Walks.list hh s.heap.objs.size a hne vs.toArray) (fun i v hP d hd => ?_) (fun b hb => ?_) (fun i h hS => ?_) (fun tgt i v s' Q E hS hq => ?_) ⟨⟨_, Heap.get?_push_size _ rfl, rfl, rfl⟩, ⟨_, Heap.get?_push_of_some _ ha, rfl, _, rfl⟩⟩ (F.takeEx)
      · obtain ⟨u, hu, hdu⟩ := hall.get hd
        have : vs[i]? = some v := by simpa using hP
        rw [hu] at this; cases this; exact hdu
      · rcases List.mem_cons.mp hb with rfl | hb
        · exact .inl rfl
        · rw [List.mem_singleton.mp hb]; exact .inr ⟨_, hm⟩
      · obtain ⟨⟨o, ho, _⟩, _⟩ := hS; exact ⟨o, ho⟩
      · obtain ⟨⟨o, ho, hc, hd⟩, _⟩ := hS
        exact go_free ho hc hd (by decide) hq
  · cases hv with
    | range hm =>
      rename_i a t u w
      have ha := (F.wd.imm _ hm).1
      obtain ⟨r1, r2⟩ := rangeSmall hn
      have hlen : ((List.range n).map fun i => D.int (i : Nat)).length = n := by simp
      refine wpAny_pyIter_range (a := 0) (b := n) (c := 1) ha r1 ?_
      refine h _ _ _ _ s.toks (hlen.symm ▸ Walks.range hh s.heap.objs.size 0 1 n) (fun i v hP d hd => ?_) (fun b hb => .inl (List.mem_singleton.mp hb)) (fun i h hS => ⟨_, hS⟩) (fun tgt i v s' Q E hS hq => go_free hS rfl rfl (by decide) hq) ?_ (F.takeEx)
      · obtain ⟨t, rfl⟩ := hP
        simp only [List.getElem?_map, Option.map_eq_some_iff] at hd
        obtain ⟨j, hj, rfl⟩ := hd
        have : j = i := by
          rw [List.getElem?_range (by by_cases hi : i < n; exact hi; rw [List.getElem?_eq_none (by simpa using hi)] at hj; cases hj)] at hj
          exact (Option.some.inj hj).symm
        subst this
        have e : (0 : Int) + (j : Int) * 1 = (j : Nat) := by omega
        rw [e]
        exact .int _ _
      · show IsRangeIter _ _ _ _ _
        rw [r2]
        simpa using Heap.get?_push_size _ rfl

theorem WX.for {tgt it : Expr} {body : List Stmt} {pos : Pos} {Q : Out → St → Prop} (h : WE G f it st fun d st' => ∃ ds, Iter d ds ∧ ForEach G f tgt body Q ds st')
    (hs : ∀ env x, foldedSetIterable it env x = pure x := by intro _ _; rfl) : WX G f (.For tgt it body [] pos) st Q := by
  refine ⟨fun news ex s Q' E F c => ?_⟩
  refine wpAny_For (h.run news ex s _ E F fun d st₁ v news₁ h₁ tk₁ h' hs₁ F₁ hv => ?_) (hs _)
  obtain ⟨ds, hit, hF⟩ := h'
  have hQ : ∀ tk, Lets G f FlIn news₁ ex { s with heap := h₁, toks := tk } Q Q' := fun tk d st' v news' h' tk' q hs' F' hv' => c d st' v news' h' tk' q (fun p hp => hs' p (hs₁ p hp)) F' hv'
  refine iter_ (s := { s with heap := h₁, toks := tk₁ }) F₁ hv hit fun oI fp P Sw tk W hP hfp hSo hgo hS0 F₂ => ?_
  exact loop_ (s := { s with heap := h₁.push oI, toks := tk }) W rfl hP hfp hSo (fun i v s Q E => hgo tgt i v s Q E) F₂ hS0 hF (hQ tk) fun fl s' q => q
end
section
variable {G : Gl} {f : Fx} {st : St} {news ex : Led} {h h' : Heap}
theorem Wd.grow' {σ : Sig} (W : Wd G σ news ex h) (k : ∀ b o, h.get? b = some o → h'.get? b = some o) (hz : G.h₀.objs.size ≤ h'.objs.size) : Wd G σ news ex h' where
  base := fun b o e => k b o (W.base b o e)
  size := hz
  imm := fun p hp => ⟨k _ _ (W.imm p hp).1, (W.imm p hp).2⟩
  exs := fun p hp => ⟨k _ _ (W.exs p hp).1, (W.exs p hp).2⟩
  sig := fun p hp => by
    obtain ⟨⟨vs, n, a, b⟩, c⟩ := W.sig p hp
    exact ⟨⟨vs, n, a, k _ _ b⟩, c⟩
  apart := W.apart
  sep := W.sep
  exnd := W.exnd
  nodup := W.nodup
theorem Wd.take {σ : Sig} {D₁ : Addr} {o : Obj} (W : Wd G σ news ex h) (k : ∀ b o, h.get? b = some o → h'.get? b = some o) (hD : h'.get? D₁ = some o) (lt : ∀ a x, h.get? a = some x → D₁ ≠ a) (hz : G.h₀.objs.size ≤ h'.objs.size) : Wd G σ ((D₁, o) :: news) ex h' := by
  have gr := W.grow' k hz
  refine ⟨gr.base, gr.size, fun p hp => ?_, gr.exs, fun p hp => ?_, fun p hp => ⟨fun q hq => ?_, (gr.apart p hp).2⟩, fun p hp q hq => ?_, gr.exnd, gr.nodup⟩
  · rcases List.mem_cons.mp hp with rfl | hp
    · refine ⟨hD, ?_⟩
      cases q : G.h₀.get? D₁ with
      | none => rfl
      | some x => exact absurd rfl (lt _ _ (W.base _ _ q))
    · exact gr.imm p hp
  · obtain ⟨⟨vs, n, a, b⟩, c⟩ := gr.sig p hp
    exact ⟨⟨vs, n, a.mono fun _ h => .tail _ h, b⟩, c⟩
  · rcases List.mem_cons.mp hq with rfl | hq
    · obtain ⟨⟨vs, n, a, b⟩, c⟩ := W.sig p hp
      exact lt _ _ b
    · exact (gr.apart p hp).1 q hq
  · rcases List.mem_cons.mp hq with rfl | hq
    · exact lt _ _ (W.exs p hp).1
    · exact gr.sep p hp q hq
theorem Fm.sizes (F : Fm G f st news ex h) (k : ∀ b o, h.get? b = some o → h'.get? b = some o) : G.h₀.objs.size ≤ h'.objs.size := by
  obtain ⟨m, ⟨x, _, _, hL, _⟩, _⟩ := F.names
  exact Nat.le_trans F.lo (Nat.le_of_lt (Heap.lt_size (k _ _ hL)))
theorem Fm.grow' (F : Fm G f st news ex h) (k : ∀ b o, h.get? b = some o → h'.get? b = some o) : Fm G f st news ex h' := by
  obtain ⟨m, hn, hm⟩ := F.names
  refine ⟨F.ok, F.wd.grow' k (F.sizes k), F.lo, ⟨m, hn.keeps k, fun x d hx => ?_⟩, F.Lnews, F.Lex, fun p hp => ?_⟩
  · obtain ⟨v, hv, h1⟩ := hm x d hx
    exact ⟨v, hv, h1.imp id fun ⟨hk, cc, hc, oc, a, b⟩ => ⟨hk, cc, hc, oc, k _ _ a, b⟩⟩
  · obtain ⟨⟨v, oc, a, b⟩, h2⟩ := F.cells p hp
    exact ⟨⟨v, oc, k _ _ a, b⟩, h2⟩
theorem Fm.take {D₁ : Addr} {o : Obj} (F : Fm G f st news ex h) (k : ∀ b o, h.get? b = some o → h'.get? b = some o) (hD : h'.get? D₁ = some o) (lt : ∀ a x, h.get? a = some x → D₁ ≠ a) : Fm G f st ((D₁, o) :: news) ex h' := by
  have gr := F.grow' k
  refine ⟨F.ok, F.wd.take k hD lt (F.sizes k), F.lo, ?_, fun q hq => ?_, F.Lex, fun p hp => ?_⟩
  · obtain ⟨m, hn, hm⟩ := gr.names
    refine ⟨m, hn, fun x d hx => ?_⟩
    obtain ⟨v, hv, h1⟩ := hm x d hx
    exact ⟨v, hv.mono fun _ h => .tail _ h, h1⟩
  · rcases List.mem_cons.mp hq with rfl | hq
    · obtain ⟨m, ⟨x, _, _, hL, _⟩, _⟩ := F.names
      exact lt _ _ hL
    · exact F.Lnews q hq
  · obtain ⟨h1, h2, h3, h4⟩ := gr.cells p hp
    refine ⟨h1, h2, fun q hq => ?_, h4⟩
    rcases List.mem_cons.mp hq with rfl | hq
    · obtain ⟨⟨v, oc, a, b⟩, _⟩ := F.cells p hp
      exact lt _ _ a
    · exact h3 q hq
end

/-! ### calls of built-ins -/
section
variable {G : Gl} {f : Fx} {st : St}
/-- the name of a built-in -/
structure Bn (G : Gl) (f : Fx) (x : Str) (v : Value) : Prop where
  kind : f.env.kindOf x = some .globalImplicit
  free : nsIn G.K mainGlobals x = some none
  boot : bootBuiltins x = some v
  name : x ≠ "__name__"
theorem Bn.eval {x : Str} {v : Value} {pos : Pos} {news ex : Led} {s : Shared} {Q : Value → Shared → Prop} {E : Value → Shared → Prop} (B : Bn G f x v) (F : Fm G f st news ex s.heap) (h : Q v s) (hd : (x == ("__debug__" : Str)) = false := by decide) :
    wpAny (model G.prog G.w) f.A (eval (.Name x pos) f.env) Q E s :=
  Name_function_global F.ok.kind B.kind (loadGlobal_builtin (by rw [F.ok.glob]; exact G.T.g.keeps F.wd.base) (mg_none_of G.X G.T.g B.free) (by rw [F.ok.blt]; exact G.T.b.keeps F.wd.base) ((G.T.builtins x B.name).trans B.boot) h) hd

def LenD (σ : Sig) (d : D) (n : Nat) : Prop := ∃ ds, ds.length = n ∧ n < 2 ^ 24 ∧ (d = .tuple ds ∨ d = .list ds ∨ ∃ a, d = .mut a ∧ (a, ds) ∈ σ)
theorem WE.len {e : Expr} {p1 pos : Pos} {Q : D → St → Prop} (B : Bn G f "len" (.builtin "len")) (h : WE G f e st fun d st' => ∃ n, LenD st'.σ d n ∧ Q (.int n) st')
    (he : ∀ env, starEach [e] env = [(false, eval e env)] := by intro _; rfl) : WE G f (.Call (.Name "len" p1) [e] [] pos) st Q := by
  refine ⟨fun news ex s Q' E F c => ?_⟩
  refine PyProof.Rows.Call_ (B.eval F ?_)
  rw [he]
  refine callWith_builtin1 (h.run news ex s _ E F fun d st₁ v news₁ h₁ tk₁ h' hs₁ F₁ hv => ?_)
  obtain ⟨n, ⟨ds, hl, hn, hd⟩, hq⟩ := h'
  rcases hd with rfl | rfl | ⟨a, rfl, hσ⟩
  · cases hv with
    | tuple hm r =>
      have hz := r.length
      refine PyProof.Rows.len_tuple ⟨_, (F₁.wd.imm _ hm).1, rfl, _, rfl⟩ (by rw [List.size_toArray]; omega) ?_
      rw [List.size_toArray, hz, hl]
      exact c _ _ _ _ h₁ _ hq hs₁ F₁ (.int _ _)
  · cases hv with
    | list hm r =>
      have hz := r.length
      refine PyProof.Rows.len_list ⟨_, (F₁.wd.imm _ hm).1, rfl, _, rfl⟩ (by rw [List.size_toArray]; omega) ?_
      rw [List.size_toArray, hz, hl]
      exact c _ _ _ _ h₁ _ hq hs₁ F₁ (.int _ _)
  · cases hv
    obtain ⟨⟨vs, k, hall, hob⟩, _⟩ := F₁.wd.sig _ hσ
    have hz := hall.length
    refine PyProof.Rows.len_list ⟨_, hob, rfl, _, rfl⟩ (by rw [List.size_toArray]; dsimp only at hz; omega) ?_
    rw [List.size_toArray, hz]
    dsimp only
    rw [hl]
    exact c _ _ _ _ h₁ _ hq hs₁ F₁ (.int _ _)
theorem WE.range {e : Expr} {p1 pos : Pos} {Q : D → St → Prop} (B : Bn G f "range" (.type "range")) (h : WE G f e st fun d st' => ∃ n : Nat, d = .int n ∧ Q (.range n) st')
    (he : ∀ env, starEach [e] env = [(false, eval e env)] := by intro _; rfl) : WE G f (.Call (.Name "range" p1) [e] [] pos) st Q := by
  refine ⟨fun news ex s Q' E F c => ?_⟩
  refine PyProof.Rows.Call_ (B.eval F ?_)
  rw [he]
  refine PySem.callWith_type1 (h.run news ex s _ E F fun d st₁ v news₁ h₁ tk₁ h' hs₁ F₁ hv => ?_)
  obtain ⟨n, rfl, hq⟩ := h'
  cases hv with
  | int _ t =>
    exact call_range_1 (c _ _ _ _ (h₁.push (rngO n tk₁ t (tk₁ + 1))) _ hq (fun p hp => .tail _ (hs₁ p hp)) F₁.push (.range (.head _)))
/-- tuple(xs) of a list -/
theorem WE.tupleOf {e : Expr} {p1 pos : Pos} {Q : D → St → Prop} (B : Bn G f "tuple" (.type "tuple")) (h : WE G f e st fun d st' => ∃ ds : List D, ds.length ≤ 1000 ∧ (d = .list ds ∨ ∃ a, d = .mut a ∧ (a, ds) ∈ st'.σ) ∧ Q (.tuple ds) st')
    (he : ∀ env, starEach [e] env = [(false, eval e env)] := by intro _; rfl) : WE G f (.Call (.Name "tuple" p1) [e] [] pos) st Q := by
  refine ⟨fun news ex s Q' E F c => ?_⟩
  refine PyProof.Rows.Call_ (B.eval F ?_)
  rw [he]
  refine PySem.callWith_type1 (h.run news ex s _ E F fun d st₁ v news₁ h₁ tk₁ h' hs₁ F₁ hv => ?_)
  obtain ⟨ds, hl, hd, hq⟩ := h'
  have key : ∀ (a : Addr) (vs : List Value) (n : Nat), h₁.get? a = some (lstO vs n) → DAll news₁ vs ds → v = .ref a → wpAny (model G.prog G.w) f.A (call (.type "tuple") [v]) Q' E { s with heap := h₁, toks := tk₁ } := by
    rintro a vs n ha hall rfl
    have hz := hall.length
    refine call_tuple_list (items := vs.toArray) ⟨_, ha, rfl, _, rfl⟩ (fun h' hk => ?_) (by rw [List.size_toArray, hz]; exact Nat.le_trans hl (by decide))
    exact c _ _ _ _ _ _ hq (fun p hp => .tail _ (hs₁ p hp)) ((F₁.grow' hk).push (o := tupO vs 0)) (.tuple (n := 0) (.head _) (hall.mono fun _ h => .tail _ h))
  rcases hd with rfl | ⟨a, rfl, hσ⟩
  · cases hv with
    | list hm r => exact key _ _ _ (F₁.wd.imm _ hm).1 r rfl
  · cases hv
    obtain ⟨⟨vs, k, hall, hob⟩, _⟩ := F₁.wd.sig _ hσ
    exact key _ _ _ hob hall rfl
/-- list(xs): a copy -/
theorem WE.listOf {e : Expr} {p1 pos : Pos} {Q : D → St → Prop} (B : Bn G f "list" (.type "list")) (h : WE G f e st fun d st' => ∃ ds : List D, ds.length ≤ 1000 ∧ (d = .list ds ∨ ∃ a, d = .mut a ∧ (a, ds) ∈ st'.σ) ∧ Q (.list ds) st')
    (he : ∀ env, starEach [e] env = [(false, eval e env)] := by intro _; rfl) : WE G f (.Call (.Name "list" p1) [e] [] pos) st Q := by
  refine ⟨fun news ex s Q' E F c => ?_⟩
  refine PyProof.Rows.Call_ (B.eval F ?_)
  rw [he]
  refine PySem.callWith_type1 (h.run news ex s _ E F fun d st₁ v news₁ h₁ tk₁ h' hs₁ F₁ hv => ?_)
  obtain ⟨ds, hl, hd, hq⟩ := h'
  have key : ∀ (a : Addr) (vs : List Value) (n : Nat), h₁.get? a = some (lstO vs n) → DAll news₁ vs ds → v = .ref a → wpAny (model G.prog G.w) f.A (call (.type "list") [v]) Q' E { s with heap := h₁, toks := tk₁ } := by
    rintro a vs n ha hall rfl
    have hz := hall.length
    refine call_list_seq a (items := vs.toArray) (.inl rfl) ha rfl rfl (fun h' c' hk hD => ?_) (by rw [List.size_toArray, hz]; exact Nat.le_trans hl (by decide))
    exact c _ _ _ ((h₁.objs.size, lstO vs c') :: news₁) h' tk₁ hq (fun p hp => .tail _ (hs₁ p hp)) (F₁.take hk hD fun a x e => Nat.ne_of_gt (Heap.lt_size e)) (.list (n := c') (.head _) (hall.mono fun _ h => .tail _ h))
  rcases hd with rfl | ⟨a, rfl, hσ⟩
  · cases hv with
    | list hm r => exact key _ _ _ (F₁.wd.imm _ hm).1 r rfl
  · cases hv
    obtain ⟨⟨vs, k, hall, hob⟩, _⟩ := F₁.wd.sig _ hσ
    exact key _ _ _ hob hall rfl

/-! ### calls of the text's own defs -/
/-- a def of the text: its name in the globals, its object -/
structure FnAt (G : Gl) (x : Str) (a : Addr) (params : Arguments) (body : List Stmt) (scope : Scope) : Prop where
  ns : nsIn G.K mainGlobals x = some (some (.ref a))
  keep : keepIn G.K (.ref a) = true
  obj : ∃ (oc : Value) (od : Option Addr) (osl : Array (Option Value)) (name qual : Str) (doc pm : Value) (an : Option Addr) (cdv ct : Value), G.K.lookup a = some ⟨oc, od, .func (fnOf name qual params body scope .none .none doc pm an cdv ct), osl⟩ ∧ codeIn G.K cdv qual = true

theorem WE.call {x : Str} {a : Addr} {k : Nat} {args : List Expr} {p1 pos : Pos} {Q : D → St → Prop} (hx : f.env.kindOf x = some .globalImplicit) (hn : nsIn G.K mainGlobals x = some (some (.ref a))) (hkp : keepIn G.K (.ref a) = true) (hk : k ≤ f.k)
    (h : WL G f args st fun ds st' => Calls G (.ref a) k ds st'.σ fun d σ' => Q d ⟨st'.Γ, σ'⟩)
    (hargs : ∃ e rest, args = e :: rest ∧ (∀ env, starEach (e :: rest) env = (false, eval e env) :: starEach rest env) ∧ ∀ env, (backTo pos (starEach rest env)).any (·.1) = false := by exact ⟨_, _, rfl, fun _ => rfl, fun _ => rfl⟩)
    (hd : (x == ("__debug__" : Str)) = false := by decide) : WE G f (.Call (.Name x p1) args [] pos) st Q := by
  refine ⟨fun news ex s Q' E F c => ?_⟩
  obtain ⟨e, rest, rfl, he, hpl⟩ := hargs
  refine PyProof.Rows.Call_ (Name_function_global F.ok.kind hx (loadGlobal_global (by rw [F.ok.glob]; exact G.T.g.keeps F.wd.base) (mg_of G.X G.T.g hn) ?_) hd)
  refine callWith_K (K := G.K) G.X hkp (h.run news ex s _ E pos F fun ds st₁ vs news₁ h₁ tk₁ h' hs₁ F₁ hvs => ⟨G.X.keeps F₁.wd.base, ?_⟩) (he _) (hpl _)
  -- the kept ones: the frame's object, its cells
  obtain ⟨m, hns, hm⟩ := F₁.names
  obtain ⟨oL, es, ep, hL, hLd, hLk, hLf⟩ := id hns
  have cellsO : ∃ cs : List (Addr × Obj), cs.map (·.1) = f.env.cells.map (·.2) ∧ ∀ p ∈ cs, h₁.get? p.1 = some p.2 ∧ (∃ w, p.2.data = .cell w) := by
    have : ∀ l : List (Str × Addr), (∀ p ∈ l, ∃ w, h₁.IsCell p.2 w) → ∃ cs : List (Addr × Obj), cs.map (·.1) = l.map (·.2) ∧ ∀ p ∈ cs, h₁.get? p.1 = some p.2 ∧ (∃ w, p.2.data = .cell w) := by
      intro l
      induction l with
      | nil => exact fun _ => ⟨[], rfl, fun _ hp => nomatch hp⟩
      | cons q r ih =>
        intro hl
        obtain ⟨cs, e1, e2⟩ := ih fun p hp => hl p (.tail _ hp)
        obtain ⟨w, o, ho, hd⟩ := hl q (.head _)
        refine ⟨(q.2, o) :: cs, by simp [e1], fun p hp => ?_⟩
        rcases List.mem_cons.mp hp with rfl | hp
        · exact ⟨ho, w, hd⟩
        · exact e2 p hp
    exact this _ fun p hp => (F₁.cells p hp).1
  obtain ⟨cs, hcs, hco⟩ := cellsO
  have inCells : ∀ p ∈ cs, ∃ q ∈ f.env.cells, q.2 = p.1 := fun p hp => by
    have : p.1 ∈ f.env.cells.map (·.2) := hcs ▸ List.mem_map_of_mem (f := (·.1)) hp
    obtain ⟨q, hq, e⟩ := List.mem_map.mp this
    exact ⟨q, hq, e⟩
  have hcL : ∀ p ∈ cs, p.1 ≠ f.env.locals := fun p hp q => by
    obtain ⟨ho, w, hw⟩ := hco p hp
    rw [q, hL] at ho
    cases ho
    rw [hLd] at hw
    cases hw
  have W : Wd G st₁.σ news₁ ((f.env.locals, oL) :: (cs ++ ex)) h₁ := by
    refine ⟨F₁.wd.base, F₁.wd.size, F₁.wd.imm, fun p hp => ?_, F₁.wd.sig, fun p hp => ⟨(F₁.wd.apart p hp).1, fun q hq => ?_⟩, fun p hp q hq => ?_, ?_, F₁.wd.nodup⟩
    · rcases List.mem_cons.mp hp with rfl | hp
      · exact ⟨hL, F₁.h0L⟩
      · rcases List.mem_append.mp hp with hp | hp
        · obtain ⟨q, hq, e⟩ := inCells p hp
          exact ⟨(hco p hp).1, e ▸ (F₁.cells q hq).2.1⟩
        · exact F₁.wd.exs p hp
    · rcases List.mem_cons.mp hq with rfl | hq
      · exact Ne.symm (F₁.Lsig p hp)
      · rcases List.mem_append.mp hq with hq | hq
        · obtain ⟨ho, w, hw⟩ := hco q hq
          exact Ne.symm (F₁.cellSig ⟨_, ho, hw⟩ p hp)
        · exact (F₁.wd.apart p hp).2 q hq
    · rcases List.mem_cons.mp hp with rfl | hp
      · exact F₁.Lnews q hq
      · rcases List.mem_append.mp hp with hp | hp
        · obtain ⟨r, hr, e⟩ := inCells p hp
          exact e ▸ (F₁.cells r hr).2.2.1 q hq
        · exact F₁.wd.sep p hp q hq
    · rw [List.map_cons, List.map_append, List.nodup_cons, List.nodup_append, hcs]
      refine ⟨fun hm => ?_, F₁.ok.nd, F₁.wd.exnd, fun a ha b hb q => ?_⟩
      · rcases List.mem_append.mp hm with hm | hm
        · rw [← hcs] at hm
          obtain ⟨p, hp, e⟩ := List.mem_map.mp hm
          exact hcL p hp e
        · obtain ⟨p, hp, e⟩ := List.mem_map.mp hm
          exact F₁.Lex p hp e
      · obtain ⟨p, hp, rfl⟩ := List.mem_map.mp ha
        obtain ⟨r, hr, rfl⟩ := List.mem_map.mp hb
        exact (F₁.cells p hp).2.2.2 r hr q.symm
  refine h'.run f.A news₁ _ _ vs _ E (F₁.ok.room.weaken hk) W hvs fun d σ' v news₂ h₂ tk₂ hq hs₂ W₂ hv => ?_
  refine c d ⟨st₁.Γ, σ'⟩ v news₂ h₂ tk₂ hq (fun p hp => hs₂ p (hs₁ p hp)) ?_ hv
  have hL₂ : h₂.get? f.env.locals = some oL := (W₂.exs _ (.head _)).1
  have cell₂ : ∀ c w, (∃ q ∈ f.env.cells, q.2 = c) → h₁.IsCell c w → h₂.IsCell c w := by
    rintro c w ⟨q, hq, rfl⟩ ⟨o, ho, hd⟩
    have : q.2 ∈ cs.map (·.1) := hcs ▸ List.mem_map_of_mem (f := (·.2)) hq
    obtain ⟨p, hp, e⟩ := List.mem_map.mp this
    have h1 := (hco p hp).1
    rw [e, ho] at h1
    have h2 := (W₂.exs p (.tail _ (List.mem_append_left _ hp))).1
    rw [e] at h2
    cases h1
    exact ⟨p.2, h2, hd⟩
  refine ⟨F₁.ok, ?_, F₁.lo, ⟨m, ⟨oL, es, ep, hL₂, hLd, hLk, hLf⟩, fun y e hy => ?_⟩, ?_, F₁.Lex, fun p hp => ⟨?_, (F₁.cells p hp).2.1, fun q hq => ?_, (F₁.cells p hp).2.2.2⟩⟩
  · exact ⟨W₂.base, W₂.size, W₂.imm, fun p hp => W₂.exs p (.tail _ (List.mem_append_right _ hp)), W₂.sig, fun p hp => ⟨(W₂.apart p hp).1, fun q hq => (W₂.apart p hp).2 q (.tail _ (List.mem_append_right _ hq))⟩,
      fun p hp => W₂.sep p (.tail _ (List.mem_append_right _ hp)), F₁.wd.exnd, W₂.nodup⟩
  · obtain ⟨u, hu, h1⟩ := hm y e hy
    exact ⟨u, hu.mono hs₂, h1.imp id fun ⟨a, cc, b, z⟩ => ⟨a, cc, b, cell₂ cc _ ⟨_, mem_of_lookup b, rfl⟩ z⟩⟩
  · exact W₂.sep _ (.head _)
  · obtain ⟨w, hw⟩ := (F₁.cells p hp).1
    exact ⟨w, cell₂ _ _ ⟨p, hp, rfl⟩ hw⟩
  · have : p.2 ∈ cs.map (·.1) := hcs ▸ List.mem_map_of_mem (f := (·.2)) hp
    obtain ⟨r, hr, e⟩ := List.mem_map.mp this
    rw [← e]
    exact W₂.sep r (.tail _ (List.mem_append_left _ hr)) q hq
end

/-- the frame of a called def that captures nothing -/
def calleeFx (A : Around) (qual : Str) (scope : Scope) (L a : Addr) (cdv : Value) (k : Nat) : Fx := ⟨A.deeper (envOf qual scope L a cdv), envOf qual scope L a cdv, k⟩
def gam (xs : List Str) (ds : List D) : Gam := fun x => (xs.zip ds).reverse.lookup x

theorem rev_lookup {xs : List Str} {vs : List Value} {ds : List D} {news : Led} (hall : DAll news vs ds) (x : Str) (d : D) (h : (xs.zip ds).reverse.lookup x = some d) : ∃ v, (xs.zip vs).reverse.lookup x = some v ∧ DIn news v d := by
  have snoc : ∀ (α : Type) (l : List (Str × α)) (y : Str) (u : α), (l ++ [(y, u)]).lookup x = match l.lookup x with | some z => some z | none => if x == y then some u else none := by
    intro α l y u
    induction l with
    | nil =>
      rw [List.nil_append, List.lookup_cons]
      cases x == y <;> rfl
    | cons p r ih =>
      obtain ⟨k, w⟩ := p
      rw [List.cons_append, List.lookup_cons, List.lookup_cons, ih]
      cases x == k <;> rfl
  have rel : ∀ (xs : List Str) (vs : List Value) (ds : List D), DAll news vs ds → ((xs.zip ds).reverse.lookup x = none → (xs.zip vs).reverse.lookup x = none) ∧ (∀ d, (xs.zip ds).reverse.lookup x = some d → ∃ v, (xs.zip vs).reverse.lookup x = some v ∧ DIn news v d) := by
    intro xs
    induction xs with
    | nil => intro vs ds _; simp
    | cons y ys ih =>
      intro vs ds hall
      cases hall with
      | nil => simp
      | cons hd hr =>
        obtain ⟨i1, i2⟩ := ih _ _ hr
        simp only [List.zip_cons_cons, List.reverse_cons, snoc]
        cases e : (ys.zip _).reverse.lookup x with
        | none =>
          rw [i1 e]
          dsimp only
          cases x == y
          · simp
          · simp only [if_true]
            exact ⟨fun h => (by cases h), fun d h => by cases h; exact ⟨_, rfl, hd⟩⟩
        | some z =>
          obtain ⟨v, hv, hz⟩ := i2 z e
          rw [hv]
          dsimp only
          exact ⟨fun h => (by cases h), fun d h => by cases h; exact ⟨v, rfl, hz⟩⟩
  exact (rel xs vs ds hall).2 d h

theorem Calls.of {G : Gl} {x : Str} {a : Addr} {params : Arguments} {body : List Stmt} {scope : Scope} (Fa : FnAt G x a params body scope) {k : Nat} {ds : List D} {σ : Sig} {Q : D → Sig → Prop} (xs : List Str)
    (h : ∀ A qual L cdv, WS G (calleeFx A qual scope L a cdv k) body ⟨gam xs ds, σ⟩ fun o st' => match o with | .ret d => Q d st'.σ | .next => Q .none st'.σ | _ => False)
    (hb : ∀ (name qual : Str) (doc pm : Value) (an : Option Addr) (cdv ct : Value) (vs : List Value), vs.length = ds.length → bindArgs (fnOf name qual params body scope .none .none doc pm an cdv ct) ⟨vs, []⟩ = pure (xs.zip vs))
    (hloc : ∀ y ∈ xs, scope.names.lookup y = some .local) (hcell : ∀ x ∈ scope.names, x.2 ≠ .cell)
    (hk : scope.kind = .function) (hco : scope.isCoroutine = false) (hgen : scope.isGenerator = false) : Calls G (.ref a) (k + 1) ds σ Q := by
  refine ⟨fun A news ex s vs Q' E R W hvs c => ?_⟩
  obtain ⟨oc, od, osl, name, qual, doc, pm, an, cdv, ct, hlook, hcd⟩ := Fa.obj
  have X : G.K.In s.heap := G.X.keeps W.base
  refine wpAny_call (codeAny_call_def (fd := fnOf name qual params body scope .none .none doc pm an cdv ct) (body := body) (binds := xs.zip vs) (by have := R.depth; omega) (X _ _ hlook) rfl (G.T.nolimit.keeps W.base) (codeRec_of X hcd) rfl (.of_eq (hb _ _ _ _ _ _ _ _ hvs.length)) hcell ?_ (fun h₁ hns hkeep => ?_) hco hgen hk)
  · intro p hp
    exact hloc _ (List.of_mem_zip (by exact hp)).1
  · show wpAny (model G.prog G.w) (A.deeper (envOf qual scope s.heap.objs.size a cdv)) (execs body (envOf qual scope s.heap.objs.size a cdv)) _ _ _
    have hL : s.heap.objs.size < h₁.objs.size := by
      obtain ⟨o, _, _, ho, _⟩ := id hns
      exact Heap.lt_size ho
    have F : Fm G (calleeFx A qual scope s.heap.objs.size a cdv k) ⟨gam xs ds, σ⟩ news ex h₁ := by
      refine ⟨⟨⟨R.handled, ?_, ?_⟩, hk, rfl, rfl, List.nodup_nil⟩, W.grow' hkeep (Nat.le_trans W.size (Nat.le_of_lt hL)), W.size, ⟨_, hns, fun y d hy => ?_⟩, fun q hq => Nat.ne_of_lt (Heap.lt_size (W.imm q hq).1), fun q hq => Nat.ne_of_lt (Heap.lt_size (W.exs q hq).1), fun p hp => nomatch hp⟩
      · have := R.depth
        show A.depth + 1 + k < recursionLimit
        omega
      · have := R.units
        show A.units + 3 + 100 * (k + 1) < cLine
        omega
      · obtain ⟨v, hv, hd⟩ := rev_lookup hvs y d hy
        refine ⟨v, hd, .inl ⟨?_, hv⟩⟩
        have hmem : y ∈ xs := by
          have := mem_of_lookup hv
          exact (List.of_mem_zip (List.mem_reverse.mp this)).1
        exact hloc y hmem
    refine (h A qual s.heap.objs.size cdv).run news ex _ _ _ F fun o st' fl news' h' tk' hq hs' F' hfl => ?_
    cases hfl with
    | next => exact c _ _ _ _ _ _ hq hs' F'.wd .none
    | brk => exact hq.elim
    | cont => exact hq.elim
    | ret hd => exact c _ _ _ _ _ _ hq hs' F'.wd hd

/-- a def of the program, as it lies in the heap -/
def FnK (K : Frag) (x : Str) (a : Addr) : Prop := nsIn K mainGlobals x = some (some (.ref a)) ∧ keepIn K (.ref a) = true ∧ ∀ params body scope, PySem.Challenge.pw_pq0448_01.theDef x = some (params, body, scope) → ∃ (oc : Value) (od : Option Addr) (osl : Array (Option Value)) (name qual : Str) (doc pm : Value) (an : Option Addr) (cdv ct : Value), K.lookup a = some ⟨oc, od, .func (fnOf name qual params body scope .none .none doc pm an cdv ct), osl⟩ ∧ codeIn K cdv qual = true
def Fn (G : Gl) (x : Str) (a : Addr) : Prop := FnK G.K x a
theorem Fn.fnAt {G : Gl} {x : Str} {a : Addr} (h : Fn G x a) {params : Arguments} {body : List Stmt} {scope : Scope} (e : PySem.Challenge.pw_pq0448_01.theDef x = some (params, body, scope)) : FnAt G x a params body scope := ⟨h.1, h.2.1, h.2.2 params body scope e⟩
theorem Calls.ran {G : Gl} {x : Str} {a : Addr} (Fa : Fn G x a) {params : Arguments} {body : List Stmt} {scope : Scope} (e : PySem.Challenge.pw_pq0448_01.theDef x = some (params, body, scope)) {k : Nat} {ds : List D} {σ : Sig} {Q : D → Sig → Prop} (xs : List Str)
    (hb : ∀ (name qual : Str) (doc pm : Value) (an : Option Addr) (cdv ct : Value) (vs : List Value), vs.length = ds.length → bindArgs (fnOf name qual params body scope .none .none doc pm an cdv ct) ⟨vs, []⟩ = pure (xs.zip vs))
    (hloc : ∀ y ∈ xs, scope.names.lookup y = some .local) (hcell : ∀ x ∈ scope.names, x.2 ≠ .cell)
    (hk : scope.kind = .function) (hco : scope.isCoroutine = false) (hgen : scope.isGenerator = false)
    (h : ∀ A qual L cdv, WS G (calleeFx A qual scope L a cdv k) body ⟨gam xs ds, σ⟩ fun o st' => match o with | .ret d => Q d st'.σ | .next => Q .none st'.σ | _ => False) : Calls G (.ref a) (k + 1) ds σ Q :=
  Calls.of (Fa.fnAt e) xs h hb hloc hcell hk hco hgen
/-! ### lists of a known length -/
theorem lst0 {P : List Value → Prop} (h : P []) : ∀ vs : List Value, vs.length = 0 → P vs := fun vs hl => by
  cases vs with
  | nil => exact h
  | cons a vs => cases hl
theorem lstS {P : List Value → Prop} {n : Nat} (h : ∀ a (vs : List Value), vs.length = n → P (a :: vs)) : ∀ vs : List Value, vs.length = n + 1 → P vs := fun vs hl => by
  cases vs with
  | nil => cases hl
  | cons a vs => exact h a vs (Nat.succ.inj hl)
theorem lst1 {P : List Value → Prop} (h : ∀ a, P [a]) : ∀ vs : List Value, vs.length = 1 → P vs := lstS fun a => lst0 (P := fun vs => P (a :: vs)) (h a)
theorem lst2 {P : List Value → Prop} (h : ∀ a b, P [a, b]) : ∀ vs : List Value, vs.length = 2 → P vs := lstS fun a => lst1 (P := fun vs => P (a :: vs)) (h a)
theorem lst3 {P : List Value → Prop} (h : ∀ a b c, P [a, b, c]) : ∀ vs : List Value, vs.length = 3 → P vs := lstS fun a => lst2 (P := fun vs => P (a :: vs)) (h a)
theorem lst5 {P : List Value → Prop} (h : ∀ a b c d e, P [a, b, c, d, e]) : ∀ vs : List Value, vs.length = 5 → P vs := lstS fun a => lstS (P := fun vs => P (a :: vs)) fun b => lst3 (P := fun vs => P (a :: b :: vs)) (h a b)
theorem lst7 {P : List Value → Prop} (h : ∀ a b c d e f g, P [a, b, c, d, e, f, g]) : ∀ vs : List Value, vs.length = 7 → P vs := lstS fun a => lstS (P := fun vs => P (a :: vs)) fun b => lst5 (P := fun vs => P (a :: b :: vs)) (h a b)
/-! ### the ends of statements, turns, calls -/
inductive Then (N : St → Prop) (Q : Out → St → Prop) : Out → St → Prop
  | next {s : St} : N s → Then N Q .next s
  | brk {s : St} : Q .brk s → Then N Q .brk s
  | cont {s : St} : Q .cont s → Then N Q .cont s
  | ret {d : D} {s : St} : Q (.ret d) s → Then N Q (.ret d) s
inductive Turn (N : St → Prop) (Q : Out → St → Prop) : Out → St → Prop
  | next {s : St} : N s → Turn N Q .next s
  | cont {s : St} : N s → Turn N Q .cont s
  | brk {s : St} : Q .next s → Turn N Q .brk s
  | ret {d : D} {s : St} : Q (.ret d) s → Turn N Q (.ret d) s
inductive Back (Q : D → Sig → Prop) : Out → St → Prop
  | next {s : St} : Q .none s.σ → Back Q .next s
  | ret {d : D} {s : St} : Q d s.σ → Back Q (.ret d) s
theorem ifT {c : Prop} [Decidable c] {a b : Prop} (hc : c) (h : a) : if c then a else b := by rw [if_pos hc]; exact h
theorem ifF {c : Prop} [Decidable c] {a b : Prop} (hc : ¬ c) (h : b) : if c then a else b := by rw [if_neg hc]; exact h
theorem ifB {c : Bool} {a b : Prop} (h1 : c = true → a) (h2 : c = false → b) : if c then a else b := by cases c <;> simp_all

section
variable {G : Gl} {f : Fx} {st : St}
theorem WS.step {x : Stmt} {rest : List Stmt} {Q : Out → St → Prop} (h : WX G f x st (Then (fun st' => WS G f rest st' Q) Q)) : WS G f (x :: rest) st Q := by
  refine WS.cons (⟨fun news ex s Q' E F c => h.run news ex s Q' E F fun d st' v news' h' tk' q => c d st' v news' h' tk' ?_⟩)
  cases q <;> assumption
theorem ForEach.nil {tgt : Expr} {body : List Stmt} {Q : Out → St → Prop} (h : Q .next st) : ForEach G f tgt body Q [] st := h
theorem ForEach.cons {tgt : Expr} {body : List Stmt} {Q : Out → St → Prop} {d : D} {ds : List D} {st₁ : St} (ha : Assigns G f tgt d st st₁) (h : WS G f body st₁ (Turn (fun st' => ForEach G f tgt body Q ds st') Q)) : ForEach G f tgt body Q (d :: ds) st :=
  ⟨st₁, ha, h.mono fun d st' q => by cases q <;> assumption⟩
theorem Calls.go {x : Str} {a : Addr} (Fa : Fn G x a) {params : Arguments} {body : List Stmt} {scope : Scope} (e : PySem.Challenge.pw_pq0448_01.theDef x = some (params, body, scope)) {k : Nat} {ds : List D} {σ : Sig} {Q : D → Sig → Prop} (xs : List Str)
    (hb : ∀ (name qual : Str) (body : List Stmt) (scope : Scope) (doc pm : Value) (an : Option Addr) (cdv ct : Value) (vs : List Value), vs.length = ds.length → bindArgs (fnOf name qual params body scope .none .none doc pm an cdv ct) ⟨vs, []⟩ = pure (xs.zip vs))
    (hloc : ∀ y ∈ xs, scope.names.lookup y = some .local) (hcell : ∀ x ∈ scope.names, x.2 ≠ .cell)
    (hk : scope.kind = .function) (hco : scope.isCoroutine = false) (hgen : scope.isGenerator = false)
    (h : ∀ A qual L cdv, WS G (calleeFx A qual scope L a cdv k) body ⟨gam xs ds, σ⟩ (Back Q)) : Calls G (.ref a) (k + 1) ds σ Q :=
  Calls.ran Fa e xs (fun name qual => hb name qual body scope) hloc hcell hk hco hgen fun A qual L cdv => (h A qual L cdv).mono fun d st' q => by cases q <;> assumption
end

/-- the program in the heap -/
structure Prog (G : Gl) : Prop where
  level : Fn G "level_codes" 42
  edge : Fn G "is_edge" 49
  pairs : Fn G "edge_pairs" 56
  place : Fn G "edge_place" 63
  conf : Fn G "rows_conflict" 70
  share : Fn G "share" 77
  out : Fn G "out_code" 84
  lmatch : Fn G "levels_match" 91
  step : Fn G "step_state" 98
  draw : Fn G "_law_draw" 105
  holds : Fn G "_law_holds" 112
  isLev : Fn G "_law_is_level" 119
  fits : Fn G "_law_fits" 126
  lplace : Fn G "_law_edge_at" 133
  lout : Fn G "_law_out" 140
  lconf : Fn G "_law_conflict" 147
  row : Fn G "_law_row" 152
  lstep : Fn G "_law_step" 159
  law : Fn G "law" 164
  bLen : nsIn G.K mainGlobals "len" = some none
  bRange : nsIn G.K mainGlobals "range" = some none
  bTuple : nsIn G.K mainGlobals "tuple" = some none
  bList : nsIn G.K mainGlobals "list" = some none
  bStr : nsIn G.K mainGlobals "str" = some none
theorem boot_tuple' : bootBuiltins "tuple" = some (.type "tuple") := by decide +kernel
theorem boot_list' : bootBuiltins "list" = some (.type "list") := by decide +kernel
theorem boot_range' : bootBuiltins "range" = some (.type "range") := by decide +kernel
theorem boot_str' : bootBuiltins "str" = some (.type "str") := by decide +kernel
/-! ### lists that turn -/
def upS (a : Addr) (ds : List D) : Sig → Sig
  | [] => []
  | p :: r => if p.1 = a then (a, ds) :: r else p :: upS a ds r
theorem upS_keys (a : Addr) (ds : List D) : ∀ σ : Sig, (upS a ds σ).map (·.1) = σ.map (·.1)
  | [] => rfl
  | p :: r => by
    unfold upS
    split
    · rename_i e; simp [e]
    · simp [upS_keys a ds r]
theorem upS_mem {a : Addr} {ds : List D} : ∀ {σ : Sig}, (σ.map (·.1)).Nodup → ∀ {p : Addr × List D}, p ∈ upS a ds σ → (p = (a, ds)) ∨ (p ∈ σ ∧ p.1 ≠ a)
  | [], _, _, h => by cases h
  | q :: r, hn, p, h => by
    rw [List.map_cons, List.nodup_cons] at hn
    unfold upS at h
    split at h
    · rename_i e
      rcases List.mem_cons.mp h with rfl | h
      · exact .inl rfl
      · exact .inr ⟨.tail _ h, fun e2 => hn.1 (by rw [e, ← e2]; exact List.mem_map_of_mem (f := (·.1)) h)⟩
    · rename_i e
      rcases List.mem_cons.mp h with rfl | h
      · exact .inr ⟨.head _, e⟩
      · rcases upS_mem hn.2 h with h | h
        · exact .inl h
        · exact .inr ⟨.tail _ h.1, h.2⟩
theorem upS_in {a : Addr} {ds ds' : List D} : ∀ {σ : Sig}, (a, ds) ∈ σ → (a, ds') ∈ upS a ds' σ
  | q :: r, h => by
    unfold upS
    split
    · exact .head _
    · rename_i e
      rcases List.mem_cons.mp h with rfl | h
      · exact absurd rfl e
      · exact .tail _ (upS_in h)
theorem upS_head {a : Addr} {ds ds' : List D} {r : Sig} : upS a ds' ((a, ds) :: r) = (a, ds') :: r := by
  unfold upS; rw [if_pos rfl]
theorem upS_ne {a b : Addr} {ds ds' : List D} {r : Sig} (h : b ≠ a) : upS a ds' ((b, ds) :: r) = (b, ds) :: upS a ds' r := by
  conv => lhs; unfold upS
  rw [if_neg h]
theorem upS_up {a : Addr} {ds ds' : List D} : ∀ σ : Sig, upS a ds (upS a ds' σ) = upS a ds σ
  | [] => rfl
  | p :: r => by
    by_cases h : p.1 = a
    · have e : p = (a, p.2) := by rw [← h]
      rw [e, upS_head, upS_head, upS_head]
    · have e : p = (p.1, p.2) := rfl
      rw [e, upS_ne h, upS_ne h, upS_ne h, upS_up r]

section
variable {G : Gl} {f : Fx} {st : St} {news ex : Led} {h h' : Heap}
theorem Wd.up {σ : Sig} {a : Addr} {ds ds' : List D} {vs : List Value} (W : Wd G σ news ex h) (ha : (a, ds) ∈ σ) (hs : Heap.SameBut a h h') (hp : h'.PlainList a vs.toArray) (hv : DAll news vs ds') : Wd G (upS a ds' σ) news ex h' := by
  have h0 : G.h₀.get? a = none := (W.sig _ ha).2
  have hap := W.apart _ ha
  refine ⟨fun b o e => (hs.2 b fun q => by rw [q, h0] at e; cases e).trans (W.base b o e), by rw [hs.1]; exact W.size, fun p hp => ⟨(hs.2 _ (hap.1 p hp)).trans (W.imm p hp).1, (W.imm p hp).2⟩,
    fun p hp => ⟨(hs.2 _ (hap.2 p hp)).trans (W.exs p hp).1, (W.exs p hp).2⟩, fun p hp' => ?_, fun p hp' => ?_, W.sep, W.exnd, by rw [upS_keys]; exact W.nodup⟩
  · rcases upS_mem W.nodup hp' with rfl | ⟨hm, hne⟩
    · obtain ⟨n, hn⟩ := hp
      exact ⟨⟨vs, n, hv, hn⟩, h0⟩
    · obtain ⟨⟨us, n, x, y⟩, z⟩ := W.sig p hm
      exact ⟨⟨us, n, x, (hs.2 _ hne).trans y⟩, z⟩
  · rcases upS_mem W.nodup hp' with rfl | ⟨hm, hne⟩
    · exact hap
    · exact W.apart p hm
theorem Fm.up {a : Addr} {ds ds' : List D} {vs : List Value} (F : Fm G f st news ex h) (ha : (a, ds) ∈ st.σ) (hs : Heap.SameBut a h h') (hp : h'.PlainList a vs.toArray) (hv : DAll news vs ds') : Fm G f ⟨st.Γ, upS a ds' st.σ⟩ news ex h' := by
  have hL := F.Lsig _ ha
  obtain ⟨m, hn, hm⟩ := F.names
  refine ⟨F.ok, F.wd.up ha hs hp hv, F.lo, ⟨m, hn.sameBut hs (Ne.symm hL), fun x d hx => ?_⟩, F.Lnews, F.Lex, fun p hp => ?_⟩
  · obtain ⟨v, hv, h1⟩ := hm x d hx
    exact ⟨v, hv, h1.imp id fun ⟨hk, cc, hc, oc, x, y⟩ => ⟨hk, cc, hc, oc, (hs.2 _ (Ne.symm (F.cellSig ⟨oc, x, y⟩ _ ha))).trans x, y⟩⟩
  · obtain ⟨⟨v, oc, x, y⟩, h2⟩ := F.cells p hp
    exact ⟨⟨v, oc, (hs.2 _ (Ne.symm (F.cellSig ⟨oc, x, y⟩ _ ha))).trans x, y⟩, h2⟩
theorem Wd.lose {σ : Sig} {p : Addr × List D} (W : Wd G (p :: σ) news ex h) : Wd G σ news ex h :=
  ⟨W.base, W.size, W.imm, W.exs, fun q hq => W.sig q (.tail _ hq), fun q hq => W.apart q (.tail _ hq), W.sep, W.exnd, (List.nodup_cons.mp W.nodup).2⟩
/-- a new object is taken as a list that turns -/
theorem Fm.takeSig {D₁ : Addr} {vs : List Value} {n : Nat} {ds : List D} (F : Fm G f st news ex h) (k : ∀ b o, h.get? b = some o → h'.get? b = some o) (hD : h'.get? D₁ = some (lstO vs n)) (lt : ∀ a x, h.get? a = some x → D₁ ≠ a) (hv : DAll news vs ds) :
    Fm G f ⟨st.Γ, (D₁, ds) :: st.σ⟩ news ex h' := by
  have gr := F.grow' k
  have T := F.take k hD lt
  refine ⟨F.ok, ⟨gr.wd.base, gr.wd.size, gr.wd.imm, gr.wd.exs, fun p hp => ?_, fun p hp => ?_, gr.wd.sep, gr.wd.exnd, ?_⟩, F.lo, gr.names, gr.Lnews, gr.Lex, gr.cells⟩
  · rcases List.mem_cons.mp hp with rfl | hp
    · exact ⟨⟨vs, n, hv, hD⟩, (T.wd.imm _ (.head _)).2⟩
    · exact gr.wd.sig p hp
  · rcases List.mem_cons.mp hp with rfl | hp
    · exact ⟨fun q hq => Ne.symm (lt _ _ (F.wd.imm q hq).1), fun q hq => Ne.symm (lt _ _ (F.wd.exs q hq).1)⟩
    · exact gr.wd.apart p hp
  · rw [List.map_cons, List.nodup_cons]
    refine ⟨fun hm => ?_, F.wd.nodup⟩
    obtain ⟨p, hp, e⟩ := List.mem_map.mp hm
    obtain ⟨⟨us, n, x, y⟩, z⟩ := F.wd.sig p hp
    exact lt _ _ y e.symm
end

section
variable {G : Gl} {f : Fx} {st : St}
/-- a list display whose list will turn -/
theorem WE.listM {es : List Expr} {pos : Pos} {Q : D → St → Prop} (h : WL G f es st fun ds st' => ds.length ≤ 100 ∧ ∀ a, (∀ p ∈ st'.σ, p.1 ≠ a) → Q (.mut a) ⟨st'.Γ, (a, ds) :: st'.σ⟩) : WE G f (.List es pos) st Q := by
  refine ⟨fun news ex s Q' E F c => ?_⟩
  refine List_ (h.run news ex s _ E pos F fun ds st' vs news' h' tk' hq hs F' hvs => ?_)
  refine wpAny_newObj_type (c _ _ _ _ (h'.push { cls := .type "list", data := .seq vs.toArray }) tk' (hq.2 h'.objs.size ?_) hs (F'.takeSig (n := 0) (fun b o e => Heap.get?_push_of_some _ e) (Heap.get?_push_size _ rfl) (fun a x e => Nat.ne_of_gt (Heap.lt_size e)) hvs) (.mut _)) ?_
  · intro p hp
    obtain ⟨⟨us, n, x, y⟩, z⟩ := F'.wd.sig p hp
    exact Nat.ne_of_lt (Heap.lt_size y)
  · show vs.toArray.size ≤ sizeLine
    rw [List.size_toArray, hvs.length]
    exact Nat.le_trans hq.1 (by decide)
/-- xs.append(e), as a statement -/
theorem WX.append {x : Str} {e : Expr} {p1 p2 p3 p4 : Pos} {Q : Out → St → Prop} {a : Addr} (hx : st.Γ x = some (.mut a)) (h : WE G f e st fun d st' => ∃ ds, (a, ds) ∈ st'.σ ∧ ds.length ≤ 1000 ∧ Q .next ⟨st'.Γ, upS a (ds ++ [d]) st'.σ⟩)
    (ha : ∃ ds, (a, ds) ∈ st.σ)
    (he : ∀ env, starEach [e] env = [(false, eval e env)] := by intro _; rfl) (hd : (x == ("__debug__" : Str)) = false := by decide)
    (hm : ∃ pl, eval (.Call (.Attribute (.Name x p1) "append" p2) [e] [] p3) f.env = (do
      let ov ← eval (.Name x p1) f.env
      standAt p2.atName
      let (f', first) ← holding [ov] (getMethod ov "append" pl)
      callWith p3 f' first (backTo p3 (starEach [e] f.env)) []) := by exact ⟨_, rfl⟩) (hi : interactive f.env = false := by rfl) :
    WX G f (.Expr (.Call (.Attribute (.Name x p1) "append" p2) [e] [] p3) p4) st Q := by
  refine ⟨fun news ex s Q' E F c => ?_⟩
  obtain ⟨pl, hm⟩ := hm
  obtain ⟨ds₀, ha⟩ := ha
  have hL : WL G f [e] st fun ds1 st' => ∃ d, ds1 = [d] ∧ ∃ ds, (a, ds) ∈ st'.σ ∧ ds.length ≤ 1000 ∧ Q .next ⟨st'.Γ, upS a (ds ++ [d]) st'.σ⟩ := WL.cons (h.mono fun d st' hq => WL.nil ⟨d, rfl, hq⟩) he
  refine wpAny_Expr (MethodCall_ (pl := pl) ((WE.name (Q := fun d st' => d = .mut a ∧ st' = st) hx ⟨rfl, rfl⟩ hd).run news ex s _ E F fun d st₁ v news₁ h₁ tk₁ hq hs₁ F₁ hv => ?_) hm) hi (by rfl)
  obtain ⟨rfl, rfl⟩ := hq
  cases hv
  obtain ⟨⟨vs₀, n₀, _, hob⟩, _⟩ := F₁.wd.sig _ ha
  refine getMethod_list_append hob rfl rfl ?_
  refine callWith_method1 (hL.run news₁ ex _ _ E p3 F₁ fun ds1 st₂ vs news₂ h₂ tk₂ h' hs₂ F₂ hvs => ?_) (he _) rfl
  obtain ⟨d, rfl, ds, hm2, hl, hq⟩ := h'
  cases hvs with
  | cons hvd hr =>
    cases hr
    obtain ⟨⟨us, n, hall, hob₂⟩, _⟩ := F₂.wd.sig _ hm2
    refine wpAny_list_append_plain ⟨n, hob₂⟩ (fun h₃ hp hs₃ => ?_) (by rw [List.size_toArray, hall.length]; exact Nat.le_trans hl (by decide))
    refine c _ _ _ _ h₃ tk₂ hq (fun p hp => hs₂ p (hs₁ p hp)) (F₂.up (vs := us ++ [_]) hm2 hs₃ (by simpa using hp) (hall.append (.cons hvd .nil))) .next
end
/-! ### a written dict, read at once -/
inductive KAll (news : Led) : List (Value × Value) → List (Str × D) → Prop
  | nil : KAll news [] []
  | cons {x : Str} {t : Tok} {v : Value} {d : D} {vs : List (Value × Value)} {ds : List (Str × D)} : DIn news v d → KAll news vs ds → KAll news ((.str x t, v) :: vs) ((x, d) :: ds)
theorem KAll.keys {news : Led} {vs : List (Value × Value)} {ds : List (Str × D)} (h : KAll news vs ds) : allStrKeys vs = true ∧ (strPairs vs).map (·.1) = ds.map (·.1) := by
  induction h with
  | nil => exact ⟨rfl, rfl⟩
  | cons _ _ ih => exact ⟨ih.1, by simp only [strPairs, List.map_cons, ih.2]⟩
theorem KAll.at {news : Led} {vs : List (Value × Value)} {ds : List (Str × D)} (h : KAll news vs ds) {x : Str} {d : D} (hx : ds.lookup x = some d) : ∃ v, valueAt (strPairs vs) x = some v ∧ DIn news v d := by
  induction h with
  | nil => cases hx
  | @cons y t v e vs ds hv _ ih =>
    rw [List.lookup_cons] at hx
    by_cases q : y = x
    · subst q
      simp only [beq_self_eq_true] at hx
      cases hx
      exact ⟨v, by simp [strPairs, valueAt], hv⟩
    · have : (x == y) = false := beq_eq_false_iff_ne.mpr (Ne.symm q)
      rw [this] at hx
      obtain ⟨u, hu, hd⟩ := ih hx
      refine ⟨u, ?_, hd⟩
      simp only [strPairs, valueAt, List.find?_cons] at hu ⊢
      simp only [q, decide_false]
      exact hu
structure WP (G : Gl) (f : Fx) (keys : List (Option Expr)) (es : List Expr) (st : St) (Q : List (Str × D) → St → Prop) : Prop where
  run : ∀ (news ex : Led) (s : Shared) (Q' : List (Value × Value) → Shared → Prop) (E : Value → Shared → Prop) (pos : Pos), Fm G f st news ex s.heap → Lets G f KAll news ex s Q Q' → wpAny (model G.prog G.w) f.A (evalPairs (pairTrees keys es f.env pos)) Q' E s
section
variable {G : Gl} {f : Fx} {st : St}
theorem WP.nil {Q : List (Str × D) → St → Prop} (h : Q [] st) : WP G f [] [] st Q :=
  ⟨fun _ _ s _ _ _ F c => evalPairs_nil (c _ _ _ _ s.heap s.toks h (fun _ x => x) F .nil)⟩
theorem WP.cons {x : Str} {k : Nat} {p : Pos} {e : Expr} {ks : List (Option Expr)} {es : List Expr} {Q : List (Str × D) → St → Prop} (h : WE G f e st fun d st₁ => WP G f ks es st₁ fun ds st₂ => Q ((x, d) :: ds) st₂) :
    WP G f (some (.Constant (.str x) k p) :: ks) (e :: es) st Q := by
  refine ⟨fun news ex s Q' E pos F c => ?_⟩
  refine evalPairs_cons (Constant_str ?_)
  refine wpAny_bind (h.run news ex { s with toks := s.toks + 1 } _ E F fun d st₁ v news₁ h₁ tk₁ h' hs₁ F₁ hv => wpAny_bind (wpAny_standAt (wpAny_pure ?_)))
  exact h'.run news₁ ex _ _ E pos F₁ fun ds st₂ vs news₂ h₂ tk₂ hq hs₂ F₂ hvs => c _ _ _ _ _ _ hq (fun p hp => hs₂ p (hs₁ p hp)) F₂ (.cons (hv.mono hs₂) hvs)
theorem WE.dsub {keys : List (Option Expr)} {values : List Expr} {slice : Expr} {p1 pos : Pos} {Q : D → St → Prop}
    (h : WP G f keys values st fun ds st₁ => (ds.map (·.1)).Nodup ∧ WE G f slice st₁ fun i st₂ => ∃ x d, i = .str x ∧ ds.lookup x = some d ∧ Q d st₂)
    (hall : (keys.all fun x => x.isSome) = true) (hl : keys.length = values.length) (h0 : keys ≠ []) (hlen : keys.length ≤ 15)
    (hs : ∀ o i, subscripted slice false o i = operate [o, i] (getItem o i) := by with_unfolding_all (intro _ _; rfl)) : WE G f (.Subscript (.Dict keys values p1) slice pos) st Q := by
  refine ⟨fun news ex s Q' E F c => ?_⟩
  refine Subscript_ (wpAny_Dict_walk (knd := PySem.strKind G.prog G.w) hall hl h0 hlen ?_)
  have F0 := F.takeEx (o := { cls := .type "dict", data := .dict #[] })
  refine h.run news _ _ _ E p1 F0 fun ds st₁ vs news₁ h₁ tk₁ h' hs₁ F₁ hvs => ?_
  obtain ⟨hnd, h'⟩ := h'
  have hold : h₁.get? s.heap.objs.size = some { cls := .type "dict", data := .dict #[] } := (F₁.wd.exs _ (.head _)).1
  refine display_done_str (prog := G.prog) (w := G.w) (vs := vs) (P := fun h' => wpAny (model G.prog G.w) f.A (eval slice f.env) (fun i s₂ => wpAny (model G.prog G.w) f.A (subscriptTail (.Dict keys values p1) slice (.ref s.heap.objs.size) i) Q' E s₂) E
      { heap := h', gens := s.gens, drawn := s.drawn, toks := tk₁ + vs.length, os := s.os }) hvs.keys.1 (by rw [hvs.keys.2]; exact hnd) ?_ fun h₂ hd₂ hsame => ?_
  · obtain ⟨o, ho, hd⟩ := Heap.dictOf_iff.mp (Heap.DictOf.new (knd := PySem.strKind G.prog G.w) s.heap)
    have e : o = { cls := .type "dict", data := .dict #[] } := by
      rw [Heap.get?_push_size _ rfl] at ho
      exact (Option.some.inj ho).symm
    exact Heap.dictOf_iff.mpr ⟨o, e ▸ hold, hd⟩
  · obtain ⟨o₂, ho₂, hdo₂⟩ := Heap.dictOf_iff.mp hd₂
    have F₂ := F₁.turn (h' := h₂) (fun b x hb e => (hsame.2 b hb).trans e) ho₂
    refine h'.run news₁ _ { heap := h₂, gens := s.gens, drawn := s.drawn, toks := tk₁ + vs.length, os := s.os } _ E F₂ fun i st₂ v news₂ h₃ tk₃ hq hs₂ F₃ hv => ?_
    obtain ⟨x, d, rfl, hx, hq⟩ := hq
    cases hv with
    | str _ t =>
      obtain ⟨u, hu, hdu⟩ := hvs.at hx
      have hd₃ : Heap.DictOf (PySem.strKind G.prog G.w) h₃ s.heap.objs.size (strPairs vs) := Heap.dictOf_iff.mpr ⟨o₂, (F₃.wd.exs _ (.head _)).1, hdo₂⟩
      refine tail_any (s := { heap := h₃, gens := s.gens, drawn := s.drawn, toks := tk₃, os := s.os }) hd₃.typeIs slot_dict_getitem.lookup (wpAny_getItem_of (knd := PySem.strKind G.prog G.w) (strKind_is _ _ _ _) hd₃.mapOf hu ?_) (hs _ _)
      exact c _ _ _ _ h₃ _ hq (fun p hp => hs₂ p (hs₁ p hp)) F₃.drop (hdu.mono hs₂)

/-- xs[i] = e, of a list that turns -/
theorem WX.setItem {o i e : Expr} {p1 pos : Pos} {Q : Out → St → Prop} (h : WE G f e st fun d st₁ => WE G f o st₁ fun od st₂ => WE G f i st₂ fun id st₃ => ∃ a ds k, od = .mut a ∧ id = .int k ∧ 0 ≤ k ∧ k < 1000 ∧ k.toNat < ds.length ∧ (a, ds) ∈ st₃.σ ∧ Q .next ⟨st₃.Γ, upS a (ds.set k.toNat d) st₃.σ⟩)
    (hs : ∀ env, swapsWith e (some (.Subscript o i p1)) pos.line env = pure false := by intro _; rfl) : WX G f (.Assign [.Subscript o i p1] e pos) st Q := by
  refine ⟨fun news ex s Q' E F c => ?_⟩
  refine wpAny_Assign_Subscript (h.run news ex s _ E F fun d st₁ v news₁ h₁ tk₁ h' hs₁ F₁ hv => ?_) (hs _)
  refine h'.run news₁ ex _ _ E F₁ fun od st₂ ov news₂ h₂ tk₂ h' hs₂ F₂ hov => ?_
  refine h'.run news₂ ex _ _ E F₂ fun id st₃ iv news₃ h₃ tk₃ h' hs₃ F₃ hiv => ?_
  obtain ⟨a, ds, k, rfl, rfl, hk0, hk1, hlt, hm, hq⟩ := h'
  cases hov
  cases hiv
  obtain ⟨⟨vs, n, hall, hob⟩, _⟩ := F₃.wd.sig _ hm
  have hz := hall.length
  dsimp only at hz
  refine ki_setAt hob hk0 (by omega) (by rw [List.size_toArray]; omega) ?_
  refine c _ _ _ _ _ tk₃ hq (fun p hp => hs₃ p (hs₂ p (hs₁ p hp))) (F₃.up (vs := vs.set k.toNat v) hm (Heap.SameBut.update _ _ _) ?_ (hall.set _ (hv.mono fun p hp => hs₃ p (hs₂ p hp)))) .next
  have key : Obj.mapSeq (fun x => x.setIfInBounds k.toNat v) (lstO vs n) = lstO (vs.set k.toNat v) (if ((vs.set k.toNat v).toArray.size == vs.toArray.size) = true then n else n + 1) := by
    simp only [Obj.mapSeq, lstO, List.setIfInBounds_toArray]
  exact ⟨_, (Heap.get?_update_self _ hob rfl).trans (congrArg some key)⟩

/-! ### arithmetic -/
structure Bin (G : Gl) (op : Operator) (a b c : D) : Prop where
  run : ∀ (A : Around) (s : Shared) (news : Led) (v w : Value) (Q' : Value → Shared → Prop) (E : Value → Shared → Prop), Room A 0 → s.heap.NoLimit → DIn news v a → DIn news w b → (∀ u tk, DIn news u c → Q' u { s with toks := tk }) → wpAny (model G.prog G.w) A (binaryOp op v w) Q' E s
theorem Bin.add {i j : Int} : Bin G .Add (.int i) (.int j) (.int (i + j)) := by
  refine ⟨fun A s news v w Q' E hr hl hv hw c => ?_⟩
  cases hv; cases hw
  exact add_int (c _ _ (.int _ _))
theorem Bin.mod {i j : Int} (hj : j ≠ 0) : Bin G .Mod (.int i) (.int j) (.int (i.fmod j)) := by
  refine ⟨fun A s news v w Q' E hr hl hv hw c => ?_⟩
  cases hv; cases hw
  exact PyProof.Rows.mod_int hj (c _ _ (.int _ _))
theorem Bin.mul {i j : Int} (hm : IntMulOk i j) : Bin G .Mult (.int i) (.int j) (.int (i * j)) := by
  refine ⟨fun A s news v w Q' E hr hl hv hw c => ?_⟩
  cases hv; cases hw
  exact PyProof.Rows.mul_int (c _ _ (.int _ _)) hm
theorem Bin.pow {i j : Int} (h0 : 0 ≤ j) (h1 : j ≤ 1000000) (h2 : i.natAbs < 2 ^ 64) : Bin G .Pow (.int i) (.int j) (.int (i ^ j.toNat)) := by
  refine ⟨fun A s news v w Q' E hr hl hv hw c => ?_⟩
  cases hv; cases hw
  exact pow_int_small h0 h1 h2 (c _ _ (.int _ _))
theorem Bin.div {i j : Int} (hj : j ≠ 0) (hp : Builtin.divisionGoesByPylong i j = false) : Bin G .FloorDiv (.int i) (.int j) (.int (i.fdiv j)) := by
  refine ⟨fun A s news v w Q' E hr hl hv hw c => ?_⟩
  cases hv; cases hw
  exact PyProof.Rows.floordiv_int hj (c _ _ (.int _ _)) (.inl hp)
theorem WE.bin {l r : Expr} {op : Operator} {pos : Pos} {Q : D → St → Prop} (h : WE G f l st fun a st₁ => WE G f r st₁ fun b st₂ => ∃ c, Bin G op a b c ∧ Q c st₂) : WE G f (.BinOp l op r pos) st Q := by
  refine ⟨fun news ex s Q' E F c => ?_⟩
  refine wpAny_BinOp (h.run news ex s _ E F fun a st₁ v news₁ h₁ tk₁ h' hs₁ F₁ hv => ?_)
  refine h'.run news₁ ex _ _ E F₁ fun b st₂ w news₂ h₂ tk₂ hq hs₂ F₂ hw => ?_
  obtain ⟨cc, hc, hq⟩ := hq
  exact hc.run _ { s with heap := h₂, toks := tk₂ } news₂ _ _ _ _ F₂.room0 (G.T.nolimit.keeps F₂.wd.base) (hv.mono hs₂) hw fun u tk hu => c _ _ _ _ h₂ tk hq (fun p hp => hs₂ p (hs₁ p hp)) F₂ hu
end
/-! ### looking names up; calls by name; loops by what holds of them -/
theorem St.eq {st : St} {x : Str} {d : D} : (st.set x d).Γ x = some d := if_pos rfl
theorem St.ne {st : St} {x y : Str} {d e : D} (h : (x == y) = false) (hx : st.Γ x = some d) : (st.set y e).Γ x = some d := by
  show (if x = y then _ else _) = _
  rw [if_neg (beq_eq_false_iff_ne.mp h)]; exact hx
structure At (G : Gl) (x : Str) (a : Addr) : Prop where
  ns : nsIn G.K mainGlobals x = some (some (.ref a))
  keep : keepIn G.K (.ref a) = true
theorem Fn.at {G : Gl} {x : Str} {a : Addr} (h : Fn G x a) : At G x a := ⟨h.1, h.2.1⟩
section
variable {G : Gl} {f : Fx} {st : St}
theorem WL.mono {es : List Expr} {Q Q' : List D → St → Prop} (h : WL G f es st Q) (hq : ∀ d st', Q d st' → Q' d st') : WL G f es st Q' :=
  ⟨fun news ex s R E pos F c => h.run news ex s R E pos F fun d st' v news' h' tk' q => c d st' v news' h' tk' (hq d st' q)⟩
theorem WE.callAt {x : Str} {a : Addr} (T : At G x a) (k : Nat) {args : List Expr} {p1 pos : Pos} {Q : D → St → Prop} (hx : f.env.kindOf x = some .globalImplicit) (hk : Nat.ble k f.k = true)
    (h : WL G f args st fun ds st' => Calls G (.ref a) k ds st'.σ fun d σ' => Q d ⟨st'.Γ, σ'⟩)
    (hargs : ∃ e rest, args = e :: rest ∧ (∀ env, starEach (e :: rest) env = (false, eval e env) :: starEach rest env) ∧ ∀ env, (backTo pos (starEach rest env)).any (·.1) = false := by exact ⟨_, _, rfl, fun _ => rfl, fun _ => rfl⟩)
    (hd : (x == ("__debug__" : Str)) = false := by decide) : WE G f (.Call (.Name x p1) args [] pos) st Q :=
  WE.call hx T.ns T.keep (Nat.le_of_ble_eq_true hk) h hargs hd
theorem ForEach.inv {tgt : Expr} {body : List Stmt} {Q : Out → St → Prop} {ds : List D} (Inv : Nat → St → Prop) (h0 : Inv 0 st)
    (step : ∀ i d st, ds[i]? = some d → Inv i st → ∃ st₁, Assigns G f tgt d st st₁ ∧ WS G f body st₁ (Turn (Inv (i + 1)) Q)) (fin : ∀ st, Inv ds.length st → Q .next st) : ForEach G f tgt body Q ds st := by
  have all : ∀ (es : List D) (i : Nat) (st : St), ds.drop i = es → i + es.length = ds.length → Inv i st → ForEach G f tgt body Q es st := by
    intro es
    induction es with
    | nil => intro i st _ hl h; exact ForEach.nil (fin st (by simpa [← hl] using h))
    | cons e es ih =>
      intro i st hd hl h
      have hi : ds[i]? = some e := by
        have := congrArg List.head? hd
        simpa using this
      obtain ⟨st₁, ha, hw⟩ := step i e st hi h
      refine ForEach.cons ha (hw.mono fun o st' q => ?_)
      cases q with
      | next q => exact .next (ih (i + 1) _ (by rw [← List.tail_drop, hd]; rfl) (by simp at hl ⊢; omega) q)
      | cont q => exact .cont (ih (i + 1) _ (by rw [← List.tail_drop, hd]; rfl) (by simp at hl ⊢; omega) q)
      | brk q => exact .brk q
      | ret q => exact .ret q
  exact all ds 0 st rfl (by simp) h0
theorem WX.forI {tgt it : Expr} {body : List Stmt} {pos : Pos} {Q : Out → St → Prop} (h : WE G f it st fun d st' => ∃ ds, Iter d ds ∧ ForEach G f tgt body Q ds st')
    (hs : ∀ env x, foldedSetIterable it env x = pure x := by intro _ _; rfl) : WX G f (.For tgt it body [] pos) st Q := WX.for h hs
theorem Calls.lose {fv : Value} {k : Nat} {ds : List D} {σ : Sig} {Q : D → Sig → Prop} (h : Calls G fv k ds σ fun d σ' => ∃ p, σ' = p :: σ ∧ Q d σ) : Calls G fv k ds σ Q := by
  refine ⟨fun A news ex s vs Q' E R W hvs c => h.run A news ex s vs Q' E R W hvs fun d σ' v news' h' tk' q hs W' hv => ?_⟩
  obtain ⟨p, rfl, q⟩ := q
  exact c _ _ _ _ _ _ q hs W'.lose hv
/-- a call that changes nothing and gives d -/
structure Gives (G : Gl) (fv : Value) (k : Nat) (ds : List D) (d : D) : Prop where
  run : ∀ (σ : Sig) (Q : D → Sig → Prop), Q d σ → Calls G fv k ds σ Q
theorem WE.callP {x : Str} {a : Addr} (T : At G x a) (k : Nat) {args : List Expr} {p1 pos : Pos} {Q : D → St → Prop} (hx : f.env.kindOf x = some .globalImplicit) (hk : Nat.ble k f.k = true)
    (h : WL G f args st fun ds st' => ∃ d, Gives G (.ref a) k ds d ∧ Q d st')
    (hargs : ∃ e rest, args = e :: rest ∧ (∀ env, starEach (e :: rest) env = (false, eval e env) :: starEach rest env) ∧ ∀ env, (backTo pos (starEach rest env)).any (·.1) = false := by exact ⟨_, _, rfl, fun _ => rfl, fun _ => rfl⟩)
    (hd : (x == ("__debug__" : Str)) = false := by decide) : WE G f (.Call (.Name x p1) args [] pos) st Q :=
  WE.callAt T k hx hk (h.mono fun ds st' q => let ⟨_, g, q⟩ := q; g.run _ _ q) hargs hd
theorem WE.listM0 {pos : Pos} {Q : D → St → Prop} (h : ∀ a, (∀ p ∈ st.σ, p.1 ≠ a) → Q (.mut a) ⟨st.Γ, (a, []) :: st.σ⟩) : WE G f (.List [] pos) st Q :=
  WE.listM (WL.nil ⟨by decide, h⟩)
theorem Calls.loses {fv : Value} {k : Nat} {ds : List D} {σ : Sig} {Q : D → Sig → Prop} (h : Calls G fv k ds σ fun d σ' => ∃ τ : Sig, σ' = τ ++ σ ∧ Q d σ) : Calls G fv k ds σ Q := by
  have lose : ∀ (τ : Sig) (news ex : Led) (h : Heap), Wd G (τ ++ σ) news ex h → Wd G σ news ex h := by
    intro τ
    induction τ with
    | nil => exact fun _ _ _ W => W
    | cons p τ ih => exact fun _ _ _ W => ih _ _ _ W.lose
  refine ⟨fun A news ex s vs Q' E R W hvs c => h.run A news ex s vs Q' E R W hvs fun d σ' v news' h' tk' q hs W' hv => ?_⟩
  obtain ⟨τ, rfl, q⟩ := q
  exact c _ _ _ _ _ _ q hs (lose τ _ _ _ W') hv
/-- xs.append(e), the list that turns being the newest -/
theorem WX.appendH {x : Str} {e : Expr} {p1 p2 p3 p4 : Pos} {Q : Out → St → Prop} {a : Addr} (hx : st.Γ x = some (.mut a)) (ha : ∃ ds σ₀, st.σ = (a, ds) :: σ₀) (h : WE G f e st fun d st' => ∃ ds σ₀, st'.σ = (a, ds) :: σ₀ ∧ ds.length ≤ 1000 ∧ Q .next ⟨st'.Γ, (a, ds ++ [d]) :: σ₀⟩)
    (he : ∀ env, starEach [e] env = [(false, eval e env)] := by intro _; rfl) (hd : (x == ("__debug__" : Str)) = false := by decide)
    (hm : ∃ pl, eval (.Call (.Attribute (.Name x p1) "append" p2) [e] [] p3) f.env = (do
      let ov ← eval (.Name x p1) f.env
      standAt p2.atName
      let (f', first) ← holding [ov] (getMethod ov "append" pl)
      callWith p3 f' first (backTo p3 (starEach [e] f.env)) []) := by exact ⟨_, rfl⟩) (hi : interactive f.env = false := by rfl) :
    WX G f (.Expr (.Call (.Attribute (.Name x p1) "append" p2) [e] [] p3) p4) st Q := by
  obtain ⟨ds₀, σ₀, e₀⟩ := ha
  refine WX.append hx (h.mono fun d st' q => ?_) ⟨ds₀, by rw [e₀]; exact .head _⟩ he hd hm hi
  obtain ⟨ds, σ₁, e₁, hl, q⟩ := q
  refine ⟨ds, by rw [e₁]; exact .head _, hl, ?_⟩
  rw [e₁, upS_head]; exact q
end
theorem ItemD.tup {σ : Sig} {ds : List D} {k : Int} {d : D} (h0 : 0 ≤ k) (h1 : k < 1000) (h : ds[k.toNat]? = some d) : ItemD σ (.tuple ds) (.int k) d := .inl ⟨ds, k, rfl, h0, h1, h, .inl rfl⟩
theorem ItemD.lst {σ : Sig} {ds : List D} {k : Int} {d : D} (h0 : 0 ≤ k) (h1 : k < 1000) (h : ds[k.toNat]? = some d) : ItemD σ (.list ds) (.int k) d := .inl ⟨ds, k, rfl, h0, h1, h, .inr (.inl rfl)⟩
theorem ItemD.mu {σ : Sig} {a : Addr} {ds : List D} {k : Int} {d : D} (hm : (a, ds) ∈ σ) (h0 : 0 ≤ k) (h1 : k < 1000) (h : ds[k.toNat]? = some d) : ItemD σ (.mut a) (.int k) d := .inl ⟨ds, k, rfl, h0, h1, h, .inr (.inr ⟨a, rfl, hm⟩)⟩
theorem ItemD.str {σ : Sig} {x : Str} {k : Int} {c : Nat} (h0 : 0 ≤ k) (h1 : k < 1000) (h : x.cps[k.toNat]? = some c) : ItemD σ (.str x) (.int k) (.str ⟨#[c]⟩) := .inr ⟨x, k, c, rfl, rfl, h0, h1, h, rfl⟩


theorem ForEach.rangeI {G : Gl} {f : Fx} {st : St} {tgt : Expr} {body : List Stmt} {Q : Out → St → Prop} {n : Nat} (Inv : Nat → St → Prop) (h0 : Inv 0 st)
    (step : ∀ i, i < n → ∀ st, Inv i st → ∃ st₁, Assigns G f tgt (.int (i : Nat)) st st₁ ∧ WS G f body st₁ (Turn (Inv (i + 1)) Q)) (fin : ∀ st, Inv n st → Q .next st) : ForEach G f tgt body Q ((List.range n).map fun i => D.int (i : Nat)) st := by
  refine ForEach.inv Inv h0 (fun i d st hd h => ?_) (by simpa using fin)
  simp only [List.getElem?_map, Option.map_eq_some_iff] at hd
  obtain ⟨j, hj, rfl⟩ := hd
  have hi : i < n := by
    by_cases hi : i < n
    · exact hi
    · rw [List.getElem?_eq_none (by simpa using hi)] at hj; cases hj
  rw [List.getElem?_range hi] at hj
  cases hj
  exact step i hi st h
theorem LenD.tup {σ : Sig} {ds : List D} (h : ds.length < 2 ^ 24) : LenD σ (.tuple ds) ds.length := ⟨ds, rfl, h, .inl rfl⟩
theorem LenD.lst {σ : Sig} {ds : List D} (h : ds.length < 2 ^ 24) : LenD σ (.list ds) ds.length := ⟨ds, rfl, h, .inr (.inl rfl)⟩
theorem ItemD.tupN {σ : Sig} {ds : List D} {i : Nat} {d : D} (hi : i < 1000) (h : ds[i]? = some d) : ItemD σ (.tuple ds) (.int (i : Nat)) d := ItemD.tup (by omega) (by omega) (by simpa using h)
theorem ItemD.lstN {σ : Sig} {ds : List D} {i : Nat} {d : D} (hi : i < 1000) (h : ds[i]? = some d) : ItemD σ (.list ds) (.int (i : Nat)) d := ItemD.lst (by omega) (by omega) (by simpa using h)
theorem Iter.rng {n : Nat} (h : n < 1000) : Iter (.range n) ((List.range n).map fun i => D.int (i : Nat)) := .inr (.inr ⟨n, rfl, h, rfl⟩)
-- the words of the walk below: got_up looks a name up; cell_call is one step
local macro_rules | `(tactic| got_up) => `(tactic| first
  | with_reducible assumption
  | with_reducible exact St.eq
  | ((with_reducible refine St.ne ?h1 ?h2); (case h1 => decide +kernel); (case h2 => got_up))
  | rfl)
local macro_rules | `(tactic| cell_call) => `(tactic| first
  | (refine' WE.name ?hx ?_; (case hx => got_up))
  | refine WE.int ?_
  | refine WE.str ?_
  | refine WL.cons ?_
  | refine WL.nil ?_
  | refine WS.step ?_
  | refine WS.nil ?_
  | refine WX.ite ?_
  | refine WX.ret ?_
  | (refine WX.assign (WE.listM0 ?_) (Or.inl (Eq.refl _)); intro _ _)
  | refine WX.assign ?_ (Or.inl (Eq.refl _))
  | refine WX.cont ?_
  | with_reducible refine Then.next ?_
  | with_reducible refine Then.ret ?_
  | with_reducible refine Then.cont ?_
  | with_reducible refine Back.ret ?_
  | with_reducible refine Back.next ?_
  | with_reducible refine Turn.next ?_
  | with_reducible refine Turn.cont ?_
  | with_reducible refine Turn.ret ?_
  | (refine WE.dsub ?_ (Eq.refl _) (Eq.refl _) (List.cons_ne_nil _ _) ?h1; (case h1 => decide))
  | refine WE.sub ?_
  | refine WE.cmp ?_
  | refine WT.cmp ?_
  | refine WT.not ?_
  | refine WT.and ?_
  | refine WT.and_nil ?_
  | refine WT.or ?_
  | refine WT.or_nil ?_
  | refine WT.plain ?_
  | refine WP.cons ?_
  | refine WP.nil ?_
  | refine WE.tuple ?_
  | refine WE.list ?_
  | refine WE.bool ?_
  | refine WE.none ?_
  | refine WE.and ?_
  | refine WE.or ?_
  | refine WE.and_one ?_
  | refine WE.not ?_
  | refine WE.neg ?_
  | refine WE.ife ?_
  | refine WE.bin ?_
  | with_reducible refine Exists.intro _ (And.intro Cmp.eqS ?_)
  | with_reducible refine Exists.intro _ (And.intro Cmp.eqI ?_)
  | with_reducible refine Exists.intro _ (And.intro Cmp.neI ?_)
  | with_reducible refine Exists.intro _ (And.intro Cmp.neS ?_)
  | with_reducible refine Exists.intro _ (And.intro Cmp.lt ?_)
  | with_reducible refine Exists.intro _ (And.intro Cmp.isN ?_)
  | with_reducible refine Exists.intro _ (And.intro Cmp.isNS ?_)
  | with_reducible refine Exists.intro _ (And.intro Cmp.neB ?_)
  | with_reducible refine Exists.intro _ (And.intro Cmp.eqB ?_)
  | with_reducible refine Exists.intro _ (And.intro (Eq.refl _) ?_)
  | (refine' Exists.intro _ (And.intro (ItemD.tup ?h1 ?h2 ?h3) ?_); (case h1 => decide); (case h2 => decide); (case h3 => rfl))
  | (refine' Exists.intro _ (And.intro (ItemD.str ?h1 ?h2 ?h3) ?_); (case h1 => decide); (case h2 => decide); (case h3 => rfl))
  | (refine' Exists.intro _ (And.intro (ItemD.lst ?h1 ?h2 ?h3) ?_); (case h1 => decide); (case h2 => decide); (case h3 => rfl))
  | (refine Exists.intro _ (And.intro (Cmp.inT ?h1 ?h2 ?h3) ?_); (case h1 => first | rfl | decide +kernel); (case h2 => first | rfl | decide +kernel); (case h3 => first | exact Nat.le_of_ble_eq_true rfl | decide +kernel))
  | (refine Exists.intro _ (And.intro (Cmp.inL ?h1 ?h2 ?h3) ?_); (case h1 => first | rfl | decide +kernel); (case h2 => first | rfl | decide +kernel); (case h3 => first | exact Nat.le_of_ble_eq_true rfl | decide +kernel))
  | (refine ifT ?h1 ?_; (case h1 => decide +kernel))
  | (refine ifF ?h1 ?_; (case h1 => decide +kernel))
  | (refine And.intro ?_ ?h1; (case h1 => decide))
  | (refine And.intro ?h1 ?_; (case h1 => decide +kernel))
  | (refine' Exists.intro _ (Exists.intro _ (And.intro (Eq.refl _) (And.intro ?h1 ?_))); (case h1 => rfl)))
/-! ### the letters -/
inductive Lt where
  | v0 | v1 | vx | vb | vq | er | ef | ep | en | es | e01 | ebx | eqq | e1b
def Lt.d : Lt → D
  | .v0 => .str "0" | .v1 => .str "1" | .vx => .str "x" | .vb => .str "b" | .vq => .str "?"
  | .er => .str "r" | .ef => .str "f" | .ep => .str "p" | .en => .str "n" | .es => .str "*"
  | .e01 => .tuple [.str "edge", .str "0", .str "1"] | .ebx => .tuple [.str "edge", .str "b", .str "x"] | .eqq => .tuple [.str "edge", .str "?", .str "?"] | .e1b => .tuple [.str "edge", .str "1", .str "b"]
def Lt.isE : Lt → Bool
  | .v0 | .v1 | .vx | .vb | .vq => false
  | _ => true
def Lt.codes : Lt → List Int
  | .v0 => [0] | .v1 => [1] | .vx => [3] | .vb => [0, 1] | .vq => [0, 1, 3]
  | _ => []
def intD (l : List Int) : List D := l.map D.int



def Lt.all : List Lt := [.v0, .v1, .vx, .vb, .vq, .er, .ef, .ep, .en, .es, .e01, .ebx, .eqq, .e1b]
theorem Lt.mem (ℓ : Lt) : ℓ ∈ Lt.all := List.mem_of_getElem? (i := ℓ.ctorIdx) (by cases ℓ <;> rfl)
theorem lt_ok : ∀ ℓ ∈ Lt.all, ℓ.d.ok = true := by decide +kernel
theorem Lt.ok (ℓ : Lt) : ℓ.d.ok = true := lt_ok ℓ ℓ.mem
theorem lt_dep : ∀ ℓ ∈ Lt.all, ℓ.d.pd.depth ≤ 60 := by decide +kernel
theorem Lt.dep (ℓ : Lt) : ℓ.d.pd.depth ≤ 60 := lt_dep ℓ ℓ.mem
/-- a letter == a text -/
def Lt.eqs (ℓ : Lt) (x : Str) : Bool := PyData.eqv ℓ.d.pd (.str x)
/-- the two levels of a written edge -/
def Lt.a1 : Lt → Lt
  | .e01 => .v0 | .ebx => .vb | .eqq => .vq | .e1b => .v1 | _ => .v0
def Lt.c1 : Lt → Lt
  | .e01 => .v1 | .ebx => .vx | .eqq => .vq | .e1b => .vb | _ => .v0
theorem Lt.shape (ℓ : Lt) : (∃ y c, ℓ.d = .str y ∧ y.cps[0]? = some c ∧ ((⟨#[c]⟩ : Str) == "edge") = false) ∨ (ℓ.d = .tuple [.str "edge", ℓ.a1.d, ℓ.c1.d] ∧ ℓ.isE = true ∧ ℓ.a1.isE = false ∧ ℓ.c1.isE = false) := by
  cases ℓ <;> first | exact .inr ⟨rfl, rfl, rfl, rfl⟩ | exact .inl ⟨_, _, rfl, rfl, by decide +kernel⟩
theorem lv_facts : ∀ ℓ ∈ Lt.all, ℓ.isE = false → (ℓ.eqs "0" = true → ℓ.codes = [0]) ∧ (ℓ.eqs "1" = true → ℓ.codes = [1]) ∧ (ℓ.eqs "x" = true → ℓ.codes = [3]) ∧ (ℓ.eqs "b" = true → ℓ.codes = [0, 1]) ∧ (ℓ.eqs "?" = true → ℓ.codes = [0, 1, 3]) ∧
    (ℓ.eqs "0" || (ℓ.eqs "1" || (ℓ.eqs "x" || (ℓ.eqs "b" || ℓ.eqs "?")))) = true := by decide +kernel
theorem lv_mem : ∀ ℓ ∈ Lt.all, memD ℓ.d [.str "0", .str "1", .str "x", .str "b", .str "?"] = !ℓ.isE := by decide +kernel
theorem ed_str (ℓ : Lt) {y : Str} (h : ℓ.d = .str y) : memD ℓ.d [.str "r", .str "f", .str "p", .str "n", .str "*"] = ℓ.isE := by
  cases ℓ <;> first | (cases h; done) | decide +kernel
theorem lv_lookup (ℓ : Lt) (he : ℓ.isE = false) : ∃ x, ℓ.d = .str x ∧ List.lookup x [("0", D.list [.int 0]), ("1", .list [.int 1]), ("x", .list [.int 3]), ("b", .list [.int 0, .int 1]), ("?", .list [.int 0, .int 1, .int 3])] = some (.list (intD ℓ.codes)) := by
  cases ℓ <;> first | (cases he; done) | exact ⟨_, rfl, rfl⟩
theorem beqI (x y : Int) : (y == x) = (x == y) := by
  by_cases h : x = y
  · subst h; rfl
  · have h' : y ≠ x := fun e => h e.symm
    rw [beq_eq_false_iff_ne.mpr h, beq_eq_false_iff_ne.mpr h']
theorem memI (x : Int) : ∀ l : List Int, memD (.int x) (intD l) = l.contains x
  | [] => rfl
  | y :: l => by
    have ih := memI x l
    show ((y == x) || memD (.int x) (intD l)) = _
    rw [ih, List.contains_cons, beqI]
theorem okI : ∀ l : List Int, D.oks (intD l) = true
  | [] => rfl
  | _ :: l => okI l
theorem Cmp.cast {G : Gl} {op : CmpOp} {a b : D} {c c' : Bool} (h : c = c') (x : Cmp G op a b c) : Cmp G op a b c' := h ▸ x
theorem Cmp.eqL {G : Gl} (ℓ : Lt) {x : Str} (hx : PyData.strOk x = true) : Cmp G .Eq ℓ.d (.str x) (ℓ.eqs x) := Cmp.eqD ℓ.ok hx ℓ.dep
section
variable {G : Gl} (P : Prog G) {σ : Sig} {Q : D → Sig → Prop}
include P
theorem c_level (ℓ : Lt) (he : ℓ.isE = false) (h : Q (.tuple (intD ℓ.codes)) σ) : Calls G (.ref 42) 1 [ℓ.d] σ Q := by
  obtain ⟨f1, f2, f3, f4, f5, f6⟩ := lv_facts ℓ ℓ.mem he
  refine Calls.go P.level rfl ["symbol"] (by intro _ _ _ _ _ _ _ _ _ vs hl; exact lst1 (P := fun vs => bindArgs _ ⟨vs, []⟩ = pure (List.zip _ vs)) (fun _ => rfl) vs hl) (by decide) (by decide) rfl rfl rfl fun A qual L cdv => ?_
  repeat cell_call
  refine ⟨_, Cmp.eqL ℓ (by decide +kernel), ifB (fun e1 => ?_) (fun e1 => ?_)⟩
  · repeat cell_call
    rw [f1 e1] at h; exact h
  repeat cell_call
  refine ⟨_, Cmp.eqL ℓ (by decide +kernel), ifB (fun e2 => ?_) (fun e2 => ?_)⟩
  · repeat cell_call
    rw [f2 e2] at h; exact h
  repeat cell_call
  refine ⟨_, Cmp.eqL ℓ (by decide +kernel), ifB (fun e3 => ?_) (fun e3 => ?_)⟩
  · repeat cell_call
    rw [f3 e3] at h; exact h
  repeat cell_call
  refine ⟨_, Cmp.eqL ℓ (by decide +kernel), ifB (fun e4 => ?_) (fun e4 => ?_)⟩
  · repeat cell_call
    rw [f4 e4] at h; exact h
  repeat cell_call
  refine ⟨_, Cmp.eqL ℓ (by decide +kernel), ifB (fun e5 => ?_) (fun e5 => ?_)⟩
  · repeat cell_call
    rw [f5 e5] at h; exact h
  rw [e1, e2, e3, e4, e5] at f6
  cases f6
theorem c_edge (ℓ : Lt) (h : Q (.bool ℓ.isE) σ) : Calls G (.ref 49) 1 [ℓ.d] σ Q := by
  have hok := ℓ.ok
  have hdep := ℓ.dep
  refine Calls.go P.edge rfl ["symbol"] (by intro _ _ _ _ _ _ _ _ _ vs hl; exact lst1 (P := fun vs => bindArgs _ ⟨vs, []⟩ = pure (List.zip _ vs)) (fun _ => rfl) vs hl) (by decide) (by decide) rfl rfl rfl fun A qual L cdv => ?_
  rcases ℓ.shape with ⟨y, c, hd, hc, hy⟩ | ⟨hd, hE, _, _⟩
  · have hm := ed_str ℓ hd
    rw [hd] at hok hdep hm ⊢
    repeat cell_call
    refine ⟨_, ItemD.str (by decide) (by decide) hc, ?_⟩
    repeat cell_call
    refine ⟨_, Cmp.inT (by decide +kernel) hok hdep, ?_⟩
    repeat cell_call
    rw [hm]; exact h
  · rw [hE] at h
    rw [hd]
    repeat cell_call
    exact h
theorem g_level (ℓ : Lt) (he : ℓ.isE = false) : Gives G (.ref 42) 1 [ℓ.d] (.tuple (intD ℓ.codes)) := ⟨fun _ _ h => c_level P ℓ he h⟩
theorem g_edge (ℓ : Lt) : Gives G (.ref 49) 1 [ℓ.d] (.bool ℓ.isE) := ⟨fun _ _ h => c_edge P ℓ h⟩
end
/-! ### plain facts of the letters -/
theorem oksAll : ∀ {ds : List D}, (∀ d ∈ ds, d.ok = true) → D.oks ds = true
  | [], _ => rfl
  | d :: ds, h => by simp only [D.oks, h d (.head _), oksAll fun e he => h e (.tail _ he), Bool.and_self]
theorem oksMem : ∀ {ds : List D}, D.oks ds = true → ∀ d ∈ ds, d.ok = true
  | d :: ds, h, e, he => by
    simp only [D.oks, Bool.and_eq_true] at h
    rcases List.mem_cons.mp he with rfl | he
    · exact h.1
    · exact oksMem h.2 e he

section
variable {G : Gl} (P : Prog G) {σ : Sig} {Q : D → Sig → Prop}
include P
theorem c_share (xs ys : List D) (hx : D.oks xs = true) (hy : D.oks ys = true) (hd : ∀ d ∈ xs, d.pd.depth ≤ 60) (h : Q (.bool (xs.any fun d => memD d ys)) σ) : Calls G (.ref 77) 1 [.tuple xs, .tuple ys] σ Q := by
  refine Calls.go P.share rfl ["left", "right"] (by intro _ _ _ _ _ _ _ _ _ vs hl; exact lst2 (P := fun vs => bindArgs _ ⟨vs, []⟩ = pure (List.zip _ vs)) (fun _ _ => rfl) vs hl) (by decide) (by decide) rfl rfl rfl fun A qual L cdv => ?_
  refine WS.step (WX.for (WE.name rfl ⟨_, .inl rfl, ?_⟩))
  refine ForEach.inv (fun i st => st.Γ "right" = some (.tuple ys) ∧ st.σ = σ ∧ ∀ j, j < i → ∀ d, xs[j]? = some d → memD d ys = false) ⟨rfl, rfl, fun j hj => absurd hj (Nat.not_lt_zero _)⟩ ?_ ?_
  · rintro i d st hi ⟨hr, hσ, hno⟩
    have hm : d ∈ xs := List.mem_of_getElem? hi
    refine ⟨_, Assigns.name (.inl rfl), ?_⟩
    repeat cell_call
    refine ⟨_, Cmp.inT hy (oksMem hx d hm) (hd d hm), ?_⟩
    refine ifB (fun e => ?_) (fun e => ?_)
    · repeat cell_call
      have : (xs.any fun d => memD d ys) = true := List.any_eq_true.mpr ⟨d, hm, e⟩
      rw [this] at h
      exact hσ ▸ h
    · repeat cell_call
      refine ⟨hr, hσ, fun j hj d' hd' => ?_⟩
      by_cases q : j < i
      · exact hno j q d' hd'
      · have : j = i := by omega
        subst this
        rw [hi] at hd'; cases hd'; exact e
  · rintro st ⟨hr, hσ, hno⟩
    repeat cell_call
    have : (xs.any fun d => memD d ys) = false := by
      rw [List.any_eq_false]
      intro d hdm
      obtain ⟨j, hj, e⟩ := List.mem_iff_getElem.mp hdm
      rw [Bool.not_eq_true]
      exact hno j hj d (by rw [← e]; simp [hj])
    rw [this] at h
    exact hσ ▸ h
end

/-! ### the pairs of an edge -/
def prD (l : List (Int × Int)) : List D := l.map fun p => .tuple [.int p.1, .int p.2]
def Lt.prs : Lt → List (Int × Int)
  | .er => [(0, 1)] | .ef => [(1, 0)] | .ep => [(0, 1), (0, 3), (3, 1)] | .en => [(1, 0), (1, 3), (3, 0)]
  | .es => [(0, 1), (0, 3), (1, 0), (1, 3), (3, 0), (3, 1)]
  | .e01 => [(0, 1)] | .ebx => [(0, 3), (1, 3)] | .eqq => [(0, 1), (0, 3), (1, 0), (1, 3), (3, 0), (3, 1)] | .e1b => [(1, 0)]
  | _ => []
theorem Prog.atLevel {G : Gl} (P : Prog G) : At G "level_codes" 42 := P.level.at
theorem Prog.atEdge {G : Gl} (P : Prog G) : At G "is_edge" 49 := P.edge.at
theorem Prog.atPairs {G : Gl} (P : Prog G) : At G "edge_pairs" 56 := P.pairs.at
theorem Prog.atPlace {G : Gl} (P : Prog G) : At G "edge_place" 63 := P.place.at
theorem Prog.atConf {G : Gl} (P : Prog G) : At G "rows_conflict" 70 := P.conf.at
theorem Prog.atShare {G : Gl} (P : Prog G) : At G "share" 77 := P.share.at
theorem Prog.atOut {G : Gl} (P : Prog G) : At G "out_code" 84 := P.out.at
theorem Prog.atLmatch {G : Gl} (P : Prog G) : At G "levels_match" 91 := P.lmatch.at
theorem Prog.atStep {G : Gl} (P : Prog G) : At G "step_state" 98 := P.step.at
theorem Prog.atDraw {G : Gl} (P : Prog G) : At G "_law_draw" 105 := P.draw.at
theorem Prog.atHolds {G : Gl} (P : Prog G) : At G "_law_holds" 112 := P.holds.at
theorem Prog.atIsLev {G : Gl} (P : Prog G) : At G "_law_is_level" 119 := P.isLev.at
theorem Prog.atFits {G : Gl} (P : Prog G) : At G "_law_fits" 126 := P.fits.at
theorem Prog.atLplace {G : Gl} (P : Prog G) : At G "_law_edge_at" 133 := P.lplace.at
theorem Prog.atLout {G : Gl} (P : Prog G) : At G "_law_out" 140 := P.lout.at
theorem Prog.atLconf {G : Gl} (P : Prog G) : At G "_law_conflict" 147 := P.lconf.at
theorem Prog.atRow {G : Gl} (P : Prog G) : At G "_law_row" 152 := P.row.at
theorem Prog.atLstep {G : Gl} (P : Prog G) : At G "_law_step" 159 := P.lstep.at
theorem Bn.of {G : Gl} {f : Fx} {x : Str} {v : Value} (h : nsIn G.K mainGlobals x = some none) (hb : bootBuiltins x = some v) (hk : f.env.kindOf x = some .globalImplicit) (hn : x ≠ "__name__") : Bn G f x v := ⟨hk, h, hb, hn⟩
def rowOf (v : Int) (ys : List Int) : List (Int × Int) := (ys.filter fun w => v != w).map fun w => (v, w)
def prsOf (xs ys : List Int) : List (Int × Int) := xs.flatMap fun v => rowOf v ys
theorem rowOf_take {v w : Int} {ys : List Int} {k : Nat} (h : ys[k]? = some w) : rowOf v (ys.take (k + 1)) = rowOf v (ys.take k) ++ (if v != w then [(v, w)] else []) := by
  unfold rowOf
  rw [List.take_add_one, h, List.filter_append, List.map_append]
  cases e : v != w <;> simp [e]
theorem prsOf_take {v : Int} {xs ys : List Int} {k : Nat} (h : xs[k]? = some v) : prsOf (xs.take (k + 1)) ys = prsOf (xs.take k) ys ++ rowOf v ys := by
  unfold prsOf
  rw [List.take_add_one, h, List.flatMap_append]; simp
theorem ed_facts : ∀ ℓ ∈ Lt.all, ℓ.isE = true → (ℓ.eqs "r" = true → ℓ.prs = [(0, 1)]) ∧ (ℓ.eqs "f" = true → ℓ.prs = [(1, 0)]) ∧ (ℓ.eqs "p" = true → ℓ.prs = [(0, 1), (0, 3), (3, 1)]) ∧ (ℓ.eqs "n" = true → ℓ.prs = [(1, 0), (1, 3), (3, 0)]) := by decide +kernel
theorem ed_tup : ∀ ℓ ∈ Lt.all, ℓ.isE = true → ℓ.eqs "r" = false → ℓ.eqs "f" = false → ℓ.eqs "p" = false → ℓ.eqs "n" = false → ℓ.prs = prsOf [0, 1, 3] [0, 1, 3] ∨ ℓ.eqs "*" = false ∧ ℓ.prs = prsOf ℓ.a1.codes ℓ.c1.codes := by decide +kernel
theorem ed_rest (ℓ : Lt) (he : ℓ.isE = true) (h1 : ℓ.eqs "r" = false) (h2 : ℓ.eqs "f" = false) (h3 : ℓ.eqs "p" = false) (h4 : ℓ.eqs "n" = false) :
    (∃ y c, ℓ.d = .str y ∧ y.cps[0]? = some c ∧ ((⟨#[c]⟩ : Str) == "edge") = false ∧ ℓ.prs = prsOf [0, 1, 3] [0, 1, 3]) ∨ (ℓ.d = .tuple [.str "edge", ℓ.a1.d, ℓ.c1.d] ∧ ℓ.a1.isE = false ∧ ℓ.c1.isE = false ∧ ℓ.prs = prsOf ℓ.a1.codes ℓ.c1.codes) := by
  rcases ed_tup ℓ ℓ.mem he h1 h2 h3 h4 with e | ⟨e0, e⟩
  · rcases ℓ.shape with ⟨y, c, a, b, d⟩ | ⟨a, _, b, c⟩
    · exact .inl ⟨y, c, a, b, d, e⟩
    · refine .inr ⟨a, b, c, ?_⟩
      cases ℓ <;> first | (cases a; done) | decide +kernel | (revert e; decide +kernel)
  · rcases ℓ.shape with ⟨y, c, a, b, d⟩ | ⟨a, _, b, c⟩
    · cases ℓ <;> first | (cases a; done) | (cases he; done) | (exact absurd e0 (by decide +kernel)) | (exact absurd h1 (by decide +kernel)) | (exact absurd h2 (by decide +kernel)) | (exact absurd h3 (by decide +kernel)) | (exact absurd h4 (by decide +kernel))
    · exact .inr ⟨a, b, c, e⟩
theorem lv_len : ∀ ℓ ∈ Lt.all, ℓ.codes.length ≤ 3 := by decide +kernel
theorem WX.mono {G : Gl} {f : Fx} {st : St} {x : Stmt} {Q Q' : Out → St → Prop} (h : WX G f x st Q) (hq : ∀ d st', Q d st' → Q' d st') : WX G f x st Q' :=
  ⟨fun news ex s R E F c => h.run news ex s R E F fun d st' v news' h' tk' q => c d st' v news' h' tk' (hq d st' q)⟩
theorem WS.mid {G : Gl} {f : Fx} {st : St} {x : Stmt} {rest : List Stmt} {Q : Out → St → Prop} (M : St → Prop) (h : WX G f x st (Then M Q)) (k : ∀ st', M st' → WS G f rest st' Q) : WS G f (x :: rest) st Q :=
  WS.step (h.mono fun o st' q => by cases q with
    | next q => exact .next (k _ q)
    | brk q => exact .brk q
    | cont q => exact .cont q
    | ret q => exact .ret q)
section
variable {G : Gl} (P : Prog G) {σ : Sig} {Q : D → Sig → Prop}
include P
theorem c_pairs (ℓ : Lt) (he : ℓ.isE = true) (h : Q (.tuple (prD ℓ.prs)) σ) : Calls G (.ref 56) 2 [ℓ.d] σ Q := by
  obtain ⟨f1, f2, f3, f4⟩ := ed_facts ℓ ℓ.mem he
  refine Calls.loses ?_
  refine Calls.go P.pairs rfl ["symbol"] (by intro _ _ _ _ _ _ _ _ _ vs hl; exact lst1 (P := fun vs => bindArgs _ ⟨vs, []⟩ = pure (List.zip _ vs)) (fun _ => rfl) vs hl) (by decide) (by decide) rfl rfl rfl fun A qual L cdv => ?_
  repeat cell_call
  refine ⟨_, Cmp.eqL ℓ (by decide +kernel), ifB (fun e1 => ?_) (fun e1 => ?_)⟩
  · repeat cell_call
    rw [f1 e1] at h; exact ⟨[], rfl, h⟩
  repeat cell_call
  refine ⟨_, Cmp.eqL ℓ (by decide +kernel), ifB (fun e2 => ?_) (fun e2 => ?_)⟩
  · repeat cell_call
    rw [f2 e2] at h; exact ⟨[], rfl, h⟩
  repeat cell_call
  refine ⟨_, Cmp.eqL ℓ (by decide +kernel), ifB (fun e3 => ?_) (fun e3 => ?_)⟩
  · repeat cell_call
    rw [f3 e3] at h; exact ⟨[], rfl, h⟩
  repeat cell_call
  refine ⟨_, Cmp.eqL ℓ (by decide +kernel), ifB (fun e4 => ?_) (fun e4 => ?_)⟩
  · repeat cell_call
    rw [f4 e4] at h; exact ⟨[], rfl, h⟩
  refine WS.nil (.next ?_)
  refine WS.step (WX.assign (WE.tuple (WL.cons (WE.int (WL.cons (WE.int (WL.cons (WE.int (WL.nil ⟨?_, Nat.le_of_ble_eq_true rfl⟩)))))))) (.inl rfl))
  refine .next ?_
  refine WS.step (WX.assign (WE.tuple (WL.cons (WE.int (WL.cons (WE.int (WL.cons (WE.int (WL.nil ⟨?_, Nat.le_of_ble_eq_true rfl⟩)))))))) (.inl rfl))
  refine .next ?_
  refine WS.mid (fun st' => st'.σ = σ ∧ ∃ xs ys : List Int, st'.Γ "before" = some (.tuple (intD xs)) ∧ st'.Γ "behind" = some (.tuple (intD ys)) ∧ ℓ.prs = prsOf xs ys ∧ xs.length ≤ 3 ∧ ys.length ≤ 3) ?_ ?_
  · rcases ed_rest ℓ he e1 e2 e3 e4 with ⟨y, c, hd, hc, hy, hp⟩ | ⟨hd, ha, hb, hp⟩
    · rw [hd]
      repeat cell_call
      refine ⟨_, ItemD.str (by decide) (by decide) hc, ?_⟩
      repeat cell_call
      exact ⟨rfl, [0, 1, 3], [0, 1, 3], rfl, rfl, hp, by decide, by decide⟩
    · rw [hd]
      repeat cell_call
      refine WE.callP P.atLevel 1 rfl rfl ?_
      repeat cell_call
      refine ⟨_, g_level P ℓ.a1 ha, ?_⟩
      repeat cell_call
      refine WE.callP P.atLevel 1 rfl rfl ?_
      repeat cell_call
      refine ⟨_, g_level P ℓ.c1 hb, ?_⟩
      repeat cell_call
      exact ⟨rfl, ℓ.a1.codes, ℓ.c1.codes, rfl, rfl, hp, lv_len _ ℓ.a1.mem, lv_len _ ℓ.c1.mem⟩
  · rintro st ⟨hσ, xs, ys, g1, g2, hp, lx, ly⟩
    refine WS.step (WX.assign (WE.listM0 fun a _ => ?_) (.inl rfl))
    rw [hσ]
    repeat cell_call
    refine WX.for (WE.name (by got_up) ⟨_, .inl rfl, ?_⟩)
    refine ForEach.inv (fun i st => st.Γ "behind" = some (.tuple (intD ys)) ∧ st.Γ "pairs" = some (.mut a) ∧ ∃ out, st.σ = (a, prD out) :: σ ∧ out = prsOf (xs.take i) ys ∧ out.length ≤ 10 * i) ⟨by got_up, by got_up, [], rfl, by rw [List.take_zero]; rfl, Nat.zero_le _⟩ ?_ ?_
    · rintro i d st hi ⟨g2, g3, out, hσ, ho, hl⟩
      simp only [intD, List.getElem?_map, Option.map_eq_some_iff] at hi
      obtain ⟨v, hv, rfl⟩ := hi
      have hi3 : i < 3 := Nat.lt_of_lt_of_le (List.getElem?_eq_some_iff.mp hv).1 lx
      refine ⟨_, Assigns.name (.inl rfl), ?_⟩
      refine WS.step (WX.for (WE.name (by got_up) ⟨_, .inl rfl, ?_⟩))
      refine ForEach.inv (fun k st => st.Γ "behind" = some (.tuple (intD ys)) ∧ st.Γ "pairs" = some (.mut a) ∧ st.Γ "v" = some (.int v) ∧ ∃ o, st.σ = (a, prD o) :: σ ∧ o = out ++ rowOf v (ys.take k) ∧ o.length ≤ out.length + k) ⟨by got_up, by got_up, by got_up, out, hσ, by rw [List.take_zero]; exact (List.append_nil _).symm, Nat.le_refl _⟩ ?_ ?_
      · rintro k d st hk ⟨g2, g3, g4, o, hσ, he, hlo⟩
        simp only [intD, List.getElem?_map, Option.map_eq_some_iff] at hk
        obtain ⟨w, hw, rfl⟩ := hk
        have hk3 : k < 3 := Nat.lt_of_lt_of_le (List.getElem?_eq_some_iff.mp hw).1 ly
        have tk := rowOf_take (v := v) hw
        refine ⟨_, Assigns.name (.inl rfl), ?_⟩
        repeat cell_call
        refine ifB (fun e => ?_) (fun e => ?_)
        · refine WS.step (WX.appendH (by got_up) ⟨prD o, σ, hσ⟩ ?_)
          repeat cell_call
          refine ⟨⟨prD o, σ, hσ, by rw [prD, List.length_map]; omega, .next (WS.nil (.next (WS.nil (.next ⟨by got_up, by got_up, by got_up, o ++ [(v, w)], by simp [prD], ?_, ?_⟩))))⟩, Nat.le_of_ble_eq_true rfl⟩
          · rw [tk, if_pos e, he, List.append_assoc]
          · rw [List.length_append]; show _ + 1 ≤ _; omega
        · repeat cell_call
          exact ⟨by got_up, by got_up, by got_up, o, hσ, by rw [tk, if_neg (by rw [e]; exact Bool.false_ne_true), List.append_nil]; exact he, by omega⟩
      · rintro st ⟨g2, g3, g4, o, hσ, he, hlo⟩
        rw [intD, List.length_map] at he hlo
        repeat cell_call
        refine ⟨g2, g3, o, hσ, ?_, by omega⟩
        rw [prsOf_take hv, he, ho, List.take_length]
    · rintro st ⟨g2, g3, out, hσ, ho, hl⟩
      rw [intD, List.length_map] at ho hl
      rw [List.take_length] at ho
      refine .next (WS.step (WX.ret (WE.tupleOf (Bn.of P.bTuple boot_tuple' rfl (by decide +kernel)) (WE.name g3 ⟨prD out, by rw [prD, List.length_map]; omega, .inr ⟨a, rfl, by rw [hσ]; exact .head _⟩, .ret (.ret ⟨[(a, prD out)], hσ, ?_⟩)⟩))))
      rw [ho, ← hp]; exact h
theorem g_share (xs ys : List D) (hx : D.oks xs = true) (hy : D.oks ys = true) (hd : ∀ d ∈ xs, d.pd.depth ≤ 60) : Gives G (.ref 77) 1 [.tuple xs, .tuple ys] (.bool (xs.any fun d => memD d ys)) := ⟨fun _ _ h => c_share P xs ys hx hy hd h⟩
theorem g_pairs (ℓ : Lt) (he : ℓ.isE = true) : Gives G (.ref 56) 2 [ℓ.d] (.tuple (prD ℓ.prs)) := ⟨fun _ _ h => c_pairs P ℓ he h⟩
end
/-! ### outputs, values, places -/
inductive Ou where
  | o0 | o1 | ox | om
def Ou.d : Ou → D
  | .o0 => .str "0" | .o1 => .str "1" | .ox => .str "x" | .om => .str "-"
def Ou.val (s : Int) : Ou → Int
  | .o0 => 0 | .o1 => 1 | .ox => 3 | .om => s
/-- the three values -/
inductive V3 where
  | a0 | a1 | a3
def V3.i : V3 → Int
  | .a0 => 0 | .a1 => 1 | .a3 => 3
def placeOf (ls : List Lt) : Int := match ls.findIdx? Lt.isE with
  | some i => (i : Nat)
  | none => -1
def Lt.holds (ℓ : Lt) (v : V3) : Bool := ℓ.codes.contains v.i
def Lt.fits (ℓ : Lt) (b w : V3) : Bool := if ℓ.isE then ℓ.prs.contains (b.i, w.i) else ℓ.holds w
theorem placeOf_at {ls : List Lt} {i : Nat} {ℓ : Lt} (hi : ls[i]? = some ℓ) (he : ℓ.isE = true) (hno : ∀ j, j < i → ∀ m, ls[j]? = some m → m.isE = false) : placeOf ls = (i : Nat) := by
  have : ls.findIdx? Lt.isE = some i := by
    rw [List.findIdx?_eq_some_iff_getElem]
    obtain ⟨hl, e⟩ := List.getElem?_eq_some_iff.mp hi
    refine ⟨hl, by rw [e]; exact he, fun j hj => ?_⟩
    have := hno j hj _ (List.getElem?_eq_getElem (by omega))
    rw [this]; exact Bool.false_ne_true
  unfold placeOf
  rw [this]
theorem placeOf_none {ls : List Lt} (hno : ∀ j, j < ls.length → ∀ m, ls[j]? = some m → m.isE = false) : placeOf ls = -1 := by
  have : ls.findIdx? Lt.isE = none := by
    rw [List.findIdx?_eq_none_iff]
    intro x hx
    obtain ⟨j, hj, e⟩ := List.mem_iff_getElem.mp hx
    exact hno j hj x (by rw [← e]; simp)
  unfold placeOf
  rw [this]

section
variable {G : Gl} (P : Prog G) {σ : Sig} {Q : D → Sig → Prop}
include P
theorem g_out (o : Ou) (s : Int) : Gives G (.ref 84) 2 [o.d, .int s] (.int (o.val s)) := by
  refine ⟨fun σ Q h => ?_⟩
  refine Calls.go P.out rfl ["out", "state"] (by intro _ _ _ _ _ _ _ _ _ vs hl; exact lst2 (P := fun vs => bindArgs _ ⟨vs, []⟩ = pure (List.zip _ vs)) (fun _ _ => rfl) vs hl) (by decide) (by decide) rfl rfl rfl fun A qual L cdv => ?_
  cases o
  · repeat cell_call
    refine WE.callP P.atLevel 1 rfl rfl ?_
    repeat cell_call
    refine ⟨_, g_level P .v0 rfl, ?_⟩
    repeat cell_call
    exact h
  · repeat cell_call
    refine WE.callP P.atLevel 1 rfl rfl ?_
    repeat cell_call
    refine ⟨_, g_level P .v1 rfl, ?_⟩
    repeat cell_call
    exact h
  · repeat cell_call
    refine WE.callP P.atLevel 1 rfl rfl ?_
    repeat cell_call
    refine ⟨_, g_level P .vx rfl, ?_⟩
    repeat cell_call
    exact h
  · repeat cell_call
    exact h
theorem g_lout (o : Ou) (s : Int) : Gives G (.ref 140) 1 [o.d, .int s] (.int (o.val s)) := by
  refine ⟨fun σ Q h => ?_⟩
  refine Calls.go P.lout rfl ["letter", "state"] (by intro _ _ _ _ _ _ _ _ _ vs hl; exact lst2 (P := fun vs => bindArgs _ ⟨vs, []⟩ = pure (List.zip _ vs)) (fun _ _ => rfl) vs hl) (by decide) (by decide) rfl rfl rfl fun A qual L cdv => ?_
  cases o
  all_goals dsimp only [Ou.d]
  all_goals (repeat cell_call)
  all_goals exact h
theorem g_holds (ℓ : Lt) (he : ℓ.isE = false) (v : V3) : Gives G (.ref 112) 1 [ℓ.d, .int v.i] (.bool (ℓ.holds v)) := by
  refine ⟨fun σ Q h => ?_⟩
  obtain ⟨x, hd, hx⟩ := lv_lookup ℓ he
  refine Calls.go P.holds rfl ["letter", "seen"] (by intro _ _ _ _ _ _ _ _ _ vs hl; exact lst2 (P := fun vs => bindArgs _ ⟨vs, []⟩ = pure (List.zip _ vs)) (fun _ _ => rfl) vs hl) (by decide) (by decide) rfl rfl rfl fun A qual L cdv => ?_
  rw [hd]
  repeat cell_call
  refine ⟨x, _, rfl, hx, ?_⟩
  refine ⟨_, Cmp.inL (okI _) rfl (Nat.le_of_ble_eq_true rfl), ?_⟩
  rw [memI]
  repeat cell_call
  exact h
theorem g_isLev (ℓ : Lt) : Gives G (.ref 119) 1 [ℓ.d] (.bool (!ℓ.isE)) := by
  refine ⟨fun σ Q h => ?_⟩
  refine Calls.go P.isLev rfl ["letter"] (by intro _ _ _ _ _ _ _ _ _ vs hl; exact lst1 (P := fun vs => bindArgs _ ⟨vs, []⟩ = pure (List.zip _ vs)) (fun _ => rfl) vs hl) (by decide) (by decide) rfl rfl rfl fun A qual L cdv => ?_
  repeat cell_call
  refine ⟨_, Cmp.inL (by decide +kernel) ℓ.ok ℓ.dep, ?_⟩
  rw [lv_mem ℓ ℓ.mem]
  repeat cell_call
  exact h
theorem g_place (ls : List Lt) (hl : ls.length < 900) (a b : D) : Gives G (.ref 63) 2 [.tuple [.tuple (ls.map Lt.d), a, b]] (.int (placeOf ls)) := by
  refine ⟨fun σ Q h => ?_⟩
  refine Calls.go P.place rfl ["row"] (by intro _ _ _ _ _ _ _ _ _ vs hl; exact lst1 (P := fun vs => bindArgs _ ⟨vs, []⟩ = pure (List.zip _ vs)) (fun _ => rfl) vs hl) (by decide) (by decide) rfl rfl rfl fun A qual L cdv => ?_
  refine WS.step (WX.for (WE.range (Bn.of P.bRange boot_range' rfl (by decide +kernel)) (WE.len (Bn.of P.bLen boot_len rfl (by decide +kernel)) ?_)))
  repeat cell_call
  refine ⟨_, LenD.tup (by rw [List.length_map]; omega), _, rfl, _, Iter.rng (by rw [List.length_map]; omega), ?_⟩
  refine ForEach.rangeI (fun i st => st.Γ "row" = some (.tuple [.tuple (ls.map Lt.d), a, b]) ∧ st.σ = σ ∧ ∀ j, j < i → ∀ m, ls[j]? = some m → m.isE = false) ⟨rfl, rfl, fun j hj => absurd hj (Nat.not_lt_zero _)⟩ ?_ ?_
  · rintro i hi st ⟨hr, hσ, hno⟩
    rw [List.length_map] at hi
    obtain ⟨ℓ, hℓ⟩ : ∃ ℓ, ls[i]? = some ℓ := ⟨_, List.getElem?_eq_getElem hi⟩
    refine ⟨_, Assigns.name (.inl rfl), ?_⟩
    refine WS.step (WX.ite (WT.plain (WE.callP P.atEdge 1 rfl rfl ?_)))
    repeat cell_call
    refine ⟨_, ItemD.tupN (d := ℓ.d) (by omega) (by simp [hℓ]), ?_⟩
    repeat cell_call
    refine ⟨_, g_edge P ℓ, _, rfl, ?_⟩
    refine ifB (fun e => ?_) (fun e => ?_)
    · repeat cell_call
      rw [placeOf_at hℓ e hno] at h
      exact hσ ▸ h
    · repeat cell_call
      refine ⟨hr, hσ, fun j hj m hm => ?_⟩
      by_cases q : j < i
      · exact hno j q m hm
      · have : j = i := by omega
        subst this
        rw [hℓ] at hm; cases hm; exact e
  · rintro st ⟨hr, hσ, hno⟩
    rw [List.length_map] at hno
    repeat cell_call
    rw [placeOf_none hno] at h
    exact hσ ▸ h
theorem g_lplace (ls : List Lt) (hl : ls.length < 900) : Gives G (.ref 133) 2 [.tuple (ls.map Lt.d)] (.int (placeOf ls)) := by
  refine ⟨fun σ Q h => ?_⟩
  refine Calls.go P.lplace rfl ["letters"] (by intro _ _ _ _ _ _ _ _ _ vs hl; exact lst1 (P := fun vs => bindArgs _ ⟨vs, []⟩ = pure (List.zip _ vs)) (fun _ => rfl) vs hl) (by decide) (by decide) rfl rfl rfl fun A qual L cdv => ?_
  refine WS.step (WX.for (WE.range (Bn.of P.bRange boot_range' rfl (by decide +kernel)) (WE.len (Bn.of P.bLen boot_len rfl (by decide +kernel)) ?_)))
  repeat cell_call
  refine ⟨_, LenD.tup (by rw [List.length_map]; omega), _, rfl, _, Iter.rng (by rw [List.length_map]; omega), ?_⟩
  refine ForEach.rangeI (fun i st => st.Γ "letters" = some (.tuple (ls.map Lt.d)) ∧ st.σ = σ ∧ ∀ j, j < i → ∀ m, ls[j]? = some m → m.isE = false) ⟨rfl, rfl, fun j hj => absurd hj (Nat.not_lt_zero _)⟩ ?_ ?_
  · rintro i hi st ⟨hr, hσ, hno⟩
    rw [List.length_map] at hi
    obtain ⟨ℓ, hℓ⟩ : ∃ ℓ, ls[i]? = some ℓ := ⟨_, List.getElem?_eq_getElem hi⟩
    refine ⟨_, Assigns.name (.inl rfl), ?_⟩
    refine WS.step (WX.ite (WT.not (WT.plain (WE.callP P.atIsLev 1 rfl rfl ?_))))
    repeat cell_call
    refine ⟨_, ItemD.tupN (d := ℓ.d) (by omega) (by simp [hℓ]), ?_⟩
    repeat cell_call
    refine ⟨_, g_isLev P ℓ, _, rfl, ?_⟩
    rw [Bool.not_not]
    refine ifB (fun e => ?_) (fun e => ?_)
    · repeat cell_call
      rw [placeOf_at hℓ e hno] at h
      exact hσ ▸ h
    · repeat cell_call
      refine ⟨hr, hσ, fun j hj m hm => ?_⟩
      by_cases q : j < i
      · exact hno j q m hm
      · have : j = i := by omega
        subst this
        rw [hℓ] at hm; cases hm; exact e
  · rintro st ⟨hr, hσ, hno⟩
    rw [List.length_map] at hno
    repeat cell_call
    rw [placeOf_none hno] at h
    exact hσ ▸ h
end
/-! ### what fits -/
theorem fits_e : ∀ ℓ ∈ Lt.all, ∀ b ∈ [V3.a0, .a1, .a3], ∀ w ∈ [V3.a0, .a1, .a3], ℓ.isE = true → (b.i == w.i) = true → ℓ.fits b w = false := by decide +kernel
theorem fits_s : ∀ ℓ ∈ Lt.all, ∀ b ∈ [V3.a0, .a1, .a3], ∀ w ∈ [V3.a0, .a1, .a3], ℓ.isE = true → (b.i == w.i) = false → ℓ.eqs "*" = true → ℓ.fits b w = true := by decide +kernel
theorem fits_r : ∀ ℓ ∈ Lt.all, ∀ b ∈ [V3.a0, .a1, .a3], ∀ w ∈ [V3.a0, .a1, .a3], ℓ.isE = true → (b.i == w.i) = false → ℓ.eqs "r" = true → ℓ.fits b w = (b.i == 0 && w.i == 1) := by decide +kernel
theorem fits_f : ∀ ℓ ∈ Lt.all, ∀ b ∈ [V3.a0, .a1, .a3], ∀ w ∈ [V3.a0, .a1, .a3], ℓ.isE = true → (b.i == w.i) = false → ℓ.eqs "f" = true → ℓ.fits b w = (b.i == 1 && w.i == 0) := by decide +kernel
theorem fits_p : ∀ ℓ ∈ Lt.all, ∀ b ∈ [V3.a0, .a1, .a3], ∀ w ∈ [V3.a0, .a1, .a3], ℓ.isE = true → (b.i == w.i) = false → ℓ.eqs "p" = true → ℓ.fits b w = (b.i == 0 || w.i == 1) := by decide +kernel
theorem fits_n : ∀ ℓ ∈ Lt.all, ∀ b ∈ [V3.a0, .a1, .a3], ∀ w ∈ [V3.a0, .a1, .a3], ℓ.isE = true → (b.i == w.i) = false → ℓ.eqs "n" = true → ℓ.fits b w = (b.i == 1 || w.i == 0) := by decide +kernel
theorem fits_t : ∀ ℓ ∈ Lt.all, ∀ b ∈ [V3.a0, .a1, .a3], ∀ w ∈ [V3.a0, .a1, .a3], ℓ.isE = true → (b.i == w.i) = false → (ℓ.eqs "*" || (ℓ.eqs "r" || (ℓ.eqs "f" || (ℓ.eqs "p" || ℓ.eqs "n")))) = false → ℓ.fits b w = (ℓ.a1.holds b && ℓ.c1.holds w) := by decide +kernel
theorem ed_tuple (ℓ : Lt) (he : ℓ.isE = true) (h0 : ℓ.eqs "*" = false) (h1 : ℓ.eqs "r" = false) (h2 : ℓ.eqs "f" = false) (h3 : ℓ.eqs "p" = false) (h4 : ℓ.eqs "n" = false) : ℓ.d = .tuple [.str "edge", ℓ.a1.d, ℓ.c1.d] ∧ ℓ.a1.isE = false ∧ ℓ.c1.isE = false := by
  rcases ed_rest ℓ he h1 h2 h3 h4 with ⟨y, c, a, _, _, _⟩ | ⟨a, b, c, _⟩
  · cases ℓ <;> first | (cases a; done) | (cases he; done) | (exact absurd h0 (by decide +kernel)) | (exact absurd h1 (by decide +kernel)) | (exact absurd h2 (by decide +kernel)) | (exact absurd h3 (by decide +kernel)) | (exact absurd h4 (by decide +kernel))
  · exact ⟨a, b, c⟩
theorem V3.mem (v : V3) : v ∈ [V3.a0, .a1, .a3] := by cases v <;> simp
section
variable {G : Gl} (P : Prog G)
include P
theorem g_fits (ℓ : Lt) (b w : V3) : Gives G (.ref 126) 2 [ℓ.d, .int b.i, .int w.i] (.bool (ℓ.fits b w)) := by
  refine ⟨fun σ Q h => ?_⟩
  refine Calls.go P.fits rfl ["letter", "before", "behind"] (by intro _ _ _ _ _ _ _ _ _ vs hl; exact lst3 (P := fun vs => bindArgs _ ⟨vs, []⟩ = pure (List.zip _ vs)) (fun _ _ _ => rfl) vs hl) (by decide) (by decide) rfl rfl rfl fun A qual L cdv => ?_
  refine WS.step (WX.ite (WT.plain (WE.callP P.atIsLev 1 rfl rfl ?_)))
  repeat cell_call
  refine ⟨_, g_isLev P ℓ, _, rfl, ?_⟩
  refine ifB (fun e => ?_) (fun e => ?_)
  · have he : ℓ.isE = false := by simpa using e
    refine WS.step (WX.ret (WE.callP P.atHolds 1 rfl rfl ?_))
    repeat cell_call
    refine ⟨_, g_holds P ℓ he w, ?_⟩
    repeat cell_call
    have : ℓ.fits b w = ℓ.holds w := by unfold Lt.fits; rw [if_neg (by rw [he]; exact Bool.false_ne_true)]
    rw [← this]; exact h
  have he : ℓ.isE = true := by simpa using e
  repeat cell_call
  refine ifB (fun e0 => ?_) (fun e0 => ?_)
  · repeat cell_call
    rw [fits_e ℓ ℓ.mem b b.mem w w.mem he e0] at h; exact h
  repeat cell_call
  refine ⟨_, Cmp.eqL ℓ (by decide +kernel), ifB (fun e1 => ?_) (fun e1 => ?_)⟩
  · repeat cell_call
    rw [fits_s ℓ ℓ.mem b b.mem w w.mem he e0 e1] at h; exact h
  repeat cell_call
  refine ⟨_, Cmp.eqL ℓ (by decide +kernel), ifB (fun e2 => ?_) (fun e2 => ?_)⟩
  · rw [fits_r ℓ ℓ.mem b b.mem w w.mem he e0 e2] at h
    repeat cell_call
    refine ifB (fun z => ?_) (fun z => ?_)
    · repeat cell_call
      rw [z] at h; exact h
    · repeat cell_call
      rw [z] at h; exact h
  repeat cell_call
  refine ⟨_, Cmp.eqL ℓ (by decide +kernel), ifB (fun e3 => ?_) (fun e3 => ?_)⟩
  · rw [fits_f ℓ ℓ.mem b b.mem w w.mem he e0 e3] at h
    repeat cell_call
    refine ifB (fun z => ?_) (fun z => ?_)
    · repeat cell_call
      rw [z] at h; exact h
    · repeat cell_call
      rw [z] at h; exact h
  repeat cell_call
  refine ⟨_, Cmp.eqL ℓ (by decide +kernel), ifB (fun e4 => ?_) (fun e4 => ?_)⟩
  · rw [fits_p ℓ ℓ.mem b b.mem w w.mem he e0 e4] at h
    repeat cell_call
    refine ifB (fun z => ?_) (fun z => ?_)
    · repeat cell_call
      rw [z] at h; exact h
    · repeat cell_call
      rw [z] at h; exact h
  repeat cell_call
  refine ⟨_, Cmp.eqL ℓ (by decide +kernel), ifB (fun e5 => ?_) (fun e5 => ?_)⟩
  · rw [fits_n ℓ ℓ.mem b b.mem w w.mem he e0 e5] at h
    repeat cell_call
    refine ifB (fun z => ?_) (fun z => ?_)
    · repeat cell_call
      rw [z] at h; exact h
    · repeat cell_call
      rw [z] at h; exact h
  obtain ⟨hd, ha, hc⟩ := ed_tuple ℓ he e1 e2 e3 e4 e5
  rw [fits_t ℓ ℓ.mem b b.mem w w.mem he e0 (by rw [e1, e2, e3, e4, e5]; rfl)] at h
  rw [hd]
  refine WS.nil (.next ?_)
  refine WS.step (WX.ret (WE.and (WE.callP P.atHolds 1 rfl rfl ?_)))
  repeat cell_call
  refine ⟨_, g_holds P ℓ.a1 ha b, _, rfl, ?_⟩
  refine ifB (fun z => ?_) (fun z => ?_)
  · refine WE.and_one (WE.callP P.atHolds 1 rfl rfl ?_)
    repeat cell_call
    refine ⟨_, g_holds P ℓ.c1 hc w, ?_⟩
    repeat cell_call
    rw [z, Bool.true_and] at h; exact h
  · repeat cell_call
    rw [z, Bool.false_and] at h; exact h
end
/-! ### rows -/
structure Rw where
  ls : List Lt
  held : Option Lt
  out : Ou
def heldD : Option Lt → D
  | none => .none
  | some h => h.d
abbrev Rw.d (u : Rw) : D := .tuple [.tuple (u.ls.map Lt.d), heldD u.held, u.out.d]
structure Rw.Ok (u : Rw) (n : Nat) : Prop where
  len : u.ls.length = n
  small : n < 900
  one : ∀ (i j : Nat) (a b : Lt), u.ls[i]? = some a → u.ls[j]? = some b → a.isE = true → b.isE = true → i = j
  held : ∀ h, u.held = some h → h.isE = false
theorem memP (x y : Int) : ∀ l : List (Int × Int), memD (.tuple [.int x, .int y]) (prD l) = l.contains (x, y)
  | [] => rfl
  | (a, b) :: l => by
    have ih := memP x y l
    show (((a == x) && ((b == y) && true)) || memD (.tuple [.int x, .int y]) (prD l)) = _
    rw [ih, List.contains_cons, beqI x a, beqI y b, Bool.and_true]
    rfl
theorem anyI (l m : List Int) : ((intD l).any fun d => memD d (intD m)) = l.any fun x => m.contains x := by
  simp only [intD, List.any_map]
  congr 1
  funext x
  exact memI x m
theorem anyP (l m : List (Int × Int)) : ((prD l).any fun d => memD d (prD m)) = l.any fun x => m.contains x := by
  simp only [prD, List.any_map]
  congr 1
  funext x
  exact memP x.1 x.2 m
theorem okP : ∀ l : List (Int × Int), D.oks (prD l) = true
  | [] => rfl
  | _ :: l => okP l
theorem depI (l : List Int) : ∀ d ∈ intD l, d.pd.depth ≤ 60 := by
  intro d hd
  obtain ⟨x, _, rfl⟩ := List.mem_map.mp hd
  exact Nat.le_of_ble_eq_true rfl
theorem depP (l : List (Int × Int)) : ∀ d ∈ prD l, d.pd.depth ≤ 60 := by
  intro d hd
  obtain ⟨x, _, rfl⟩ := List.mem_map.mp hd
  exact Nat.le_of_ble_eq_true rfl
/-- two letters meet -/
def meet (a b : Lt) : Bool := if a.isE then a.prs.any fun x => b.prs.contains x else a.codes.any fun x => b.codes.contains x
def meets : List Lt → List Lt → Bool
  | a :: l, b :: m => meet a b && meets l m
  | _, _ => true
theorem meets_false {l m : List Lt} {i : Nat} {a b : Lt} (ha : l[i]? = some a) (hb : m[i]? = some b) (h : meet a b = false) : meets l m = false := by
  induction l generalizing m i with
  | nil => simp at ha
  | cons x l ih =>
    cases m with
    | nil => simp at hb
    | cons y m =>
      cases i with
      | zero => simp at ha hb; subst ha hb; simp [meets, h]
      | succ i => simp at ha hb; simp [meets, ih ha hb]
theorem meets_true {l m : List Lt} (h : ∀ (i : Nat) (a b : Lt), l[i]? = some a → m[i]? = some b → meet a b = true) : meets l m = true := by
  induction l generalizing m with
  | nil => rfl
  | cons x l ih =>
    cases m with
    | nil => rfl
    | cons y m =>
      simp only [meets, Bool.and_eq_true]
      exact ⟨h 0 x y rfl rfl, ih fun i a b ha hb => h (i + 1) a b (by simpa using ha) (by simpa using hb)⟩
theorem edge_same {u v : Rw} {n i : Nat} {a b : Lt} (hu : u.Ok n) (hv : v.Ok n) (hp : placeOf u.ls = placeOf v.ls) (ha : u.ls[i]? = some a) (hb : v.ls[i]? = some b) : a.isE = b.isE := by
  have key : ∀ (u v : Rw) (a b : Lt), u.Ok n → v.Ok n → placeOf u.ls = placeOf v.ls → u.ls[i]? = some a → v.ls[i]? = some b → a.isE = true → b.isE = true := by
    intro u v a b hu hv hp ha hb e
    have h1 : placeOf u.ls = (i : Nat) := placeOf_at ha e fun j hj m hm => by
      cases q : m.isE with
      | false => rfl
      | true => have := hu.one j i m a hm ha q e; omega
    rw [h1] at hp
    unfold placeOf at hp
    cases q : v.ls.findIdx? Lt.isE with
    | none => rw [q] at hp; simp at hp
    | some k =>
      rw [q] at hp
      have : k = i := by have : ((i : Nat) : Int) = (k : Nat) := hp; omega
      subst this
      rw [List.findIdx?_eq_some_iff_getElem] at q
      obtain ⟨hl, e2, _⟩ := q
      rw [List.getElem?_eq_getElem hl] at hb
      cases hb; exact e2
  cases q : a.isE with
  | true => rw [key u v a b hu hv hp ha hb q]
  | false =>
    cases q2 : b.isE with
    | false => rfl
    | true => rw [key v u b a hv hu hp.symm hb ha q2] at q; cases q
def outS (a b : Option Lt) (o p : Ou) : Bool := match a, b with
  | some a, some b => a.codes.any fun s => b.codes.contains s && (o.val s != p.val s)
  | _, _ => (match o, p with | .o0, .o0 | .o1, .o1 | .ox, .ox | .om, .om => false | _, _ => true)
def conf (u v : Rw) : Bool := (placeOf u.ls == placeOf v.ls) && meets u.ls v.ls && outS u.held v.held u.out v.out

theorem Cmp.neO {G : Gl} (o p : Ou) : Cmp G .NotEq o.d p.d (outS none none o p) := by
  cases o <;> cases p <;> exact Cmp.cast (by decide +kernel) Cmp.neS
theorem Cmp.isL {G : Gl} (a : Lt) (h : a.isE = false) : Cmp G .Is a.d .none false := by
  cases a <;> first | (cases h; done) | exact Cmp.isNS
section
variable {G : Gl} (P : Prog G)
include P
theorem g_conf (u v : Rw) {n : Nat} (hu : u.Ok n) (hv : v.Ok n) (hk : u.held.isSome = v.held.isSome) : Gives G (.ref 70) 3 [u.d, v.d] (.bool (conf u v)) := by
  refine ⟨fun σ Q h => ?_⟩
  have hlu : u.ls.length < 900 := by rw [hu.len]; exact hu.small
  have hlv : v.ls.length < 900 := by rw [hv.len]; exact hv.small
  refine Calls.go P.conf rfl ["u", "v"] (by intro _ _ _ _ _ _ _ _ _ vs hl; exact lst2 (P := fun vs => bindArgs _ ⟨vs, []⟩ = pure (List.zip _ vs)) (fun _ _ => rfl) vs hl) (by decide) (by decide) rfl rfl rfl fun A qual L cdv => ?_
  refine WS.step (WX.ite (WT.cmp (WE.callP P.atPlace 2 rfl rfl ?_)))
  repeat cell_call
  refine ⟨_, g_place P u.ls hlu _ _, WE.callP P.atPlace 2 rfl rfl ?_⟩
  repeat cell_call
  refine ⟨_, g_place P v.ls hlv _ _, ?_⟩
  repeat cell_call
  refine ifB (fun e => ?_) (fun e => ?_)
  · repeat cell_call
    have : conf u v = false := by
      unfold conf
      rw [show (placeOf u.ls == placeOf v.ls) = false from by simpa [bne] using e, Bool.false_and, Bool.false_and]
    rw [this] at h; exact h
  have hp : placeOf u.ls = placeOf v.ls := by simpa [bne] using e
  repeat cell_call
  refine WX.for (WE.range (Bn.of P.bRange boot_range' rfl (by decide +kernel)) (WE.len (Bn.of P.bLen boot_len rfl (by decide +kernel)) ?_))
  repeat cell_call
  refine ⟨_, LenD.tup (by rw [List.length_map]; omega), _, rfl, _, Iter.rng (by rw [List.length_map]; omega), ?_⟩
  refine ForEach.rangeI (fun i st => st.Γ "u" = some u.d ∧ st.Γ "v" = some v.d ∧ st.σ = σ ∧ ∀ j, j < i → ∀ a b, u.ls[j]? = some a → v.ls[j]? = some b → meet a b = true) ⟨rfl, rfl, rfl, fun j hj => absurd hj (Nat.not_lt_zero _)⟩ ?_ ?_
  · rintro i hi st ⟨hgu, hgv, hσ, hno⟩
    rw [List.length_map] at hi
    obtain ⟨a, ha⟩ : ∃ a, u.ls[i]? = some a := ⟨_, List.getElem?_eq_getElem hi⟩
    obtain ⟨b, hb⟩ : ∃ b, v.ls[i]? = some b := ⟨_, List.getElem?_eq_getElem (by rw [hv.len, ← hu.len]; exact hi)⟩
    have hab := edge_same hu hv hp ha hb
    have hda : (u.ls.map Lt.d)[i]? = some a.d := by simp [ha]
    have hdb : (v.ls.map Lt.d)[i]? = some b.d := by simp [hb]
    have hi9 : i < 1000 := by omega
    have fin : meet a b = true → ∀ j, j < i + 1 → ∀ a b, u.ls[j]? = some a → v.ls[j]? = some b → meet a b = true := by
      intro hm j hj a' b' ha' hb'
      by_cases q : j < i
      · exact hno j q a' b' ha' hb'
      · have : j = i := by omega
        subst this
        rw [ha] at ha'; rw [hb] at hb'; cases ha'; cases hb'; exact hm
    have bad : meet a b = false → conf u v = false := by
      intro hm
      unfold conf
      rw [meets_false ha hb hm, Bool.and_false, Bool.false_and]
    refine ⟨_, Assigns.name (.inl rfl), ?_⟩
    refine WS.step (WX.ite (WT.plain (WE.callP P.atEdge 1 rfl rfl ?_)))
    repeat cell_call
    refine ⟨_, ItemD.tupN hi9 hda, ?_⟩
    repeat cell_call
    refine ⟨_, g_edge P a, _, rfl, ?_⟩
    refine ifB (fun ea => ?_) (fun ea => ?_)
    · have eb : b.isE = true := by rw [← hab]; exact ea
      refine WS.step (WX.ite (WT.not (WT.plain (WE.callP P.atShare 1 rfl rfl (WL.cons (WE.callP P.atPairs 2 rfl rfl ?_))))))
      repeat cell_call
      refine ⟨_, ItemD.tupN hi9 hda, ?_⟩
      repeat cell_call
      refine ⟨_, g_pairs P a ea, ?_⟩
      refine WL.cons (WE.callP P.atPairs 2 rfl rfl ?_)
      repeat cell_call
      refine ⟨_, ItemD.tupN hi9 hdb, ?_⟩
      repeat cell_call
      refine ⟨_, g_pairs P b eb, ?_⟩
      repeat cell_call
      refine ⟨_, g_share P (prD a.prs) (prD b.prs) (okP _) (okP _) (depP _), _, rfl, ?_⟩
      have hm : ((prD a.prs).any fun d => memD d (prD b.prs)) = meet a b := by
        rw [anyP]; unfold meet; rw [if_pos ea]
      rw [hm]
      refine ifB (fun em => ?_) (fun em => ?_)
      · repeat cell_call
        rw [bad (by simpa using em)] at h
        exact hσ ▸ h
      · repeat cell_call
        exact ⟨hgu, hgv, hσ, fin (by simpa using em)⟩
    · have eb : b.isE = false := by rw [← hab]; exact ea
      refine WS.step (WX.ite (WT.not (WT.plain (WE.callP P.atShare 1 rfl rfl (WL.cons (WE.callP P.atLevel 1 rfl rfl ?_))))))
      repeat cell_call
      refine ⟨_, ItemD.tupN hi9 hda, ?_⟩
      repeat cell_call
      refine ⟨_, g_level P a ea, ?_⟩
      refine WL.cons (WE.callP P.atLevel 1 rfl rfl ?_)
      repeat cell_call
      refine ⟨_, ItemD.tupN hi9 hdb, ?_⟩
      repeat cell_call
      refine ⟨_, g_level P b eb, ?_⟩
      repeat cell_call
      refine ⟨_, g_share P (intD a.codes) (intD b.codes) (okI _) (okI _) (depI _), _, rfl, ?_⟩
      have hm : ((intD a.codes).any fun d => memD d (intD b.codes)) = meet a b := by
        rw [anyI]; unfold meet; rw [if_neg (by rw [ea]; exact Bool.false_ne_true)]
      rw [hm]
      refine ifB (fun em => ?_) (fun em => ?_)
      · repeat cell_call
        rw [bad (by simpa using em)] at h
        exact hσ ▸ h
      · repeat cell_call
        exact ⟨hgu, hgv, hσ, fin (by simpa using em)⟩
  · rintro st ⟨hgu, hgv, hσ, hall⟩
    rw [List.length_map] at hall
    have hms : meets u.ls v.ls = true := meets_true fun i a b ha hb => hall i (List.getElem?_eq_some_iff.mp ha).1 a b ha hb
    have hc : conf u v = outS u.held v.held u.out v.out := by
      unfold conf
      rw [hp, beq_self_eq_true, hms, Bool.true_and, Bool.true_and]
    rw [hc] at h
    rcases hq : u.held with _ | a <;> rcases hr : v.held with _ | b
    · have gu : st.Γ "u" = some (.tuple [.tuple (u.ls.map Lt.d), .none, u.out.d]) := by rw [hgu, Rw.d, hq]; rfl
      have gv : st.Γ "v" = some (.tuple [.tuple (v.ls.map Lt.d), .none, v.out.d]) := by rw [hgv, Rw.d, hr]; rfl
      clear hgu hgv
      repeat cell_call
      refine ⟨_, Cmp.neO u.out v.out, ?_⟩
      repeat cell_call
      rw [hq, hr] at h
      exact hσ ▸ h
    · rw [hq, hr] at hk; cases hk
    · rw [hq, hr] at hk; cases hk
    · have gu : st.Γ "u" = some (.tuple [.tuple (u.ls.map Lt.d), a.d, u.out.d]) := by rw [hgu, Rw.d, hq]; rfl
      have gv : st.Γ "v" = some (.tuple [.tuple (v.ls.map Lt.d), b.d, v.out.d]) := by rw [hgv, Rw.d, hr]; rfl
      clear hgu hgv
      have ea := hu.held a hq
      have eb := hv.held b hr
      repeat cell_call
      refine ⟨_, Cmp.isL a ea, ?_⟩
      repeat cell_call
      refine ⟨_, Cmp.isL b eb, ?_⟩
      repeat cell_call
      refine WX.for (WE.callP P.atLevel 1 rfl rfl ?_)
      repeat cell_call
      refine ⟨_, g_level P a ea, _, .inl rfl, ?_⟩
      refine ForEach.inv (fun i st => st.Γ "u" = some (.tuple [.tuple (u.ls.map Lt.d), a.d, u.out.d]) ∧ st.Γ "v" = some (.tuple [.tuple (v.ls.map Lt.d), b.d, v.out.d]) ∧ st.σ = σ ∧ ∀ j, j < i → ∀ s, a.codes[j]? = some s → (b.codes.contains s && (u.out.val s != v.out.val s)) = false) ⟨gu, gv, hσ, fun j hj => absurd hj (Nat.not_lt_zero _)⟩ ?_ ?_
      · rintro i d st hi ⟨gu, gv, hσ, hno⟩
        simp only [intD, List.getElem?_map, Option.map_eq_some_iff] at hi
        obtain ⟨s, hs, rfl⟩ := hi
        have good : (b.codes.contains s && (u.out.val s != v.out.val s)) = false → ∀ j, j < i + 1 → ∀ s, a.codes[j]? = some s → (b.codes.contains s && (u.out.val s != v.out.val s)) = false := by
          intro hm j hj s' hs'
          by_cases q : j < i
          · exact hno j q s' hs'
          · have : j = i := by omega
            subst this
            rw [hs] at hs'; cases hs'; exact hm
        refine ⟨_, Assigns.name (.inl rfl), ?_⟩
        refine WS.step (WX.ite (WT.and (WT.cmp (WE.name St.eq (WE.callP P.atLevel 1 rfl rfl ?_)))))
        repeat cell_call
        refine ⟨_, g_level P b eb, _, Cmp.inT (okI _) rfl (Nat.le_of_ble_eq_true rfl), ?_⟩
        rw [memI]
        refine ifB (fun e1 => ?_) (fun e1 => ?_)
        · refine WT.and (WT.cmp (WE.callP P.atOut 2 rfl rfl ?_))
          repeat cell_call
          refine ⟨_, g_out P u.out s, WE.callP P.atOut 2 rfl rfl ?_⟩
          repeat cell_call
          refine ⟨_, g_out P v.out s, ?_⟩
          repeat cell_call
          refine ifB (fun e2 => ?_) (fun e2 => ?_)
          · repeat cell_call
            have : outS u.held v.held u.out v.out = true := by
              rw [hq, hr]
              exact List.any_eq_true.mpr ⟨s, List.mem_of_getElem? hs, by rw [e1, e2]; rfl⟩
            rw [this] at h
            exact hσ ▸ h
          · repeat cell_call
            exact ⟨gu, gv, hσ, good (by rw [e2, Bool.and_false])⟩
        · repeat cell_call
          exact ⟨gu, gv, hσ, good (by rw [e1, Bool.false_and])⟩
      · rintro st ⟨gu, gv, hσ, hno⟩
        repeat cell_call
        have : outS u.held v.held u.out v.out = false := by
          rw [hq, hr]
          refine List.any_eq_false.mpr fun s hs => ?_
          obtain ⟨j, hj, e⟩ := List.mem_iff_getElem.mp hs
          rw [Bool.not_eq_true]
          exact hno j (by simpa [intD] using hj) s (by rw [← e]; simp)
        rw [this] at h
        exact hσ ▸ h
end
/-! ### the law's own conflict -/
def V3.all : List V3 := [.a0, .a1, .a3]
theorem v3_at : ∀ {i : Nat} {d : D}, ([.int 0, .int 1, .int 3] : List D)[i]? = some d → ∃ v : V3, V3.all[i]? = some v ∧ d = .int v.i
  | 0, _, h => ⟨.a0, rfl, (Option.some.inj h).symm⟩
  | 1, _, h => ⟨.a1, rfl, (Option.some.inj h).symm⟩
  | 2, _, h => ⟨.a3, rfl, (Option.some.inj h).symm⟩
  | i + 3, _, h => by simp at h
theorem take_any {α : Type} {l : List α} {i : Nat} {x : α} (F : α → Bool) (h : l[i]? = some x) : (l.take (i + 1)).any F = ((l.take i).any F || F x) := by
  rw [List.take_add_one, h, List.any_append]; simp
def both (a b : Lt) : Bool := V3.all.any fun x => V3.all.any fun y => a.fits x y && b.fits x y
theorem meet_both' : ∀ a ∈ Lt.all, ∀ b ∈ Lt.all, a.isE = b.isE → both a b = meet a b := by decide +kernel
theorem meet_both (a b : Lt) (h : a.isE = b.isE) : both a b = meet a b := meet_both' a a.mem b b.mem h
theorem meet_comm' : ∀ a ∈ Lt.all, ∀ b ∈ Lt.all, a.isE = b.isE → meet a b = meet b a := by decide +kernel
theorem meet_comm (a b : Lt) (h : a.isE = b.isE) : meet a b = meet b a := meet_comm' a a.mem b b.mem h
def loutS (a b : Lt) (o p : Ou) : Bool := V3.all.any fun s => (a.holds s && b.holds s) && (o.val s.i != p.val s.i)
theorem lout_out (a b : Lt) (ha : a.isE = false) (o p : Ou) : loutS a b o p = outS (some a) (some b) o p := by
  cases a <;> first | (cases ha; done) | simp [loutS, outS, V3.all, Lt.holds, Lt.codes, V3.i]
theorem outS_comm (a b : Option Lt) (ha : ∀ h, a = some h → h.isE = false) (hb : ∀ h, b = some h → h.isE = false) (o p : Ou) : outS a b o p = outS b a p o := by
  cases a with
  | none => cases b <;> cases o <;> cases p <;> rfl
  | some a =>
    cases b with
    | none => cases o <;> cases p <;> rfl
    | some b =>
      rw [← lout_out a b (ha _ rfl), ← lout_out b a (hb _ rfl)]
      unfold loutS
      congr 1
      funext s
      rw [Bool.and_comm (a.holds s)]
      congr 1
      by_cases e : o.val s.i = p.val s.i
      · rw [e]
      · rw [bne_iff_ne.mpr e, bne_iff_ne.mpr (Ne.symm e)]
theorem meets_comm {u v : Rw} {n : Nat} (hu : u.Ok n) (hv : v.Ok n) (hp : placeOf u.ls = placeOf v.ls) : meets u.ls v.ls = meets v.ls u.ls := by
  have key : ∀ (u v : Rw), u.Ok n → v.Ok n → placeOf u.ls = placeOf v.ls → meets u.ls v.ls = true → meets v.ls u.ls = true := by
    intro u v hu hv hp h
    refine meets_true fun i b a hb ha => ?_
    rw [meet_comm b a (edge_same hu hv hp ha hb).symm]
    cases q : meet a b with
    | true => rfl
    | false => rw [meets_false ha hb q] at h; cases h
  cases q : meets u.ls v.ls with
  | true => rw [key u v hu hv hp q]
  | false =>
    cases q2 : meets v.ls u.ls with
    | false => rfl
    | true => rw [key v u hv hu hp.symm q2] at q; cases q
theorem conf_comm {u v : Rw} {n : Nat} (hu : u.Ok n) (hv : v.Ok n) : conf v u = conf u v := by
  unfold conf
  rw [outS_comm v.held u.held hv.held hu.held v.out u.out, beqI]
  cases q : (placeOf u.ls == placeOf v.ls) with
  | false => rw [Bool.false_and, Bool.false_and, Bool.false_and, Bool.false_and]
  | true => rw [meets_comm hu hv (by simpa using q)]
section
variable {G : Gl} (P : Prog G)
include P
theorem g_lconf (u v : Rw) {n : Nat} (hu : u.Ok n) (hv : v.Ok n) (hk : u.held.isSome = v.held.isSome) : Gives G (.ref 147) 3 [u.d, v.d] (.bool (conf u v)) := by
  refine ⟨fun σ Q h => ?_⟩
  have hlu : u.ls.length < 900 := by rw [hu.len]; exact hu.small
  have hlv : v.ls.length < 900 := by rw [hv.len]; exact hv.small
  refine Calls.go P.lconf rfl ["one", "two"] (by intro _ _ _ _ _ _ _ _ _ vs hl; exact lst2 (P := fun vs => bindArgs _ ⟨vs, []⟩ = pure (List.zip _ vs)) (fun _ _ => rfl) vs hl) (by decide) (by decide) rfl rfl rfl fun A qual L cdv => ?_
  refine WS.step (WX.ite (WT.cmp (WE.callP P.atLplace 2 rfl rfl ?_)))
  repeat cell_call
  refine ⟨_, g_lplace P u.ls hlu, WE.callP P.atLplace 2 rfl rfl ?_⟩
  repeat cell_call
  refine ⟨_, g_lplace P v.ls hlv, ?_⟩
  repeat cell_call
  refine ifB (fun e => ?_) (fun e => ?_)
  · repeat cell_call
    have : conf u v = false := by
      unfold conf
      rw [show (placeOf u.ls == placeOf v.ls) = false from by simpa [bne] using e, Bool.false_and, Bool.false_and]
    rw [this] at h; exact h
  have hp : placeOf u.ls = placeOf v.ls := by simpa [bne] using e
  repeat cell_call
  refine WX.for (WE.range (Bn.of P.bRange boot_range' rfl (by decide +kernel)) (WE.len (Bn.of P.bLen boot_len rfl (by decide +kernel)) ?_))
  repeat cell_call
  refine ⟨_, LenD.tup (by rw [List.length_map]; omega), _, rfl, _, Iter.rng (by rw [List.length_map]; omega), ?_⟩
  refine ForEach.rangeI (fun i st => st.Γ "one" = some u.d ∧ st.Γ "two" = some v.d ∧ st.σ = σ ∧ ∀ j, j < i → ∀ a b, u.ls[j]? = some a → v.ls[j]? = some b → meet a b = true) ⟨rfl, rfl, rfl, fun j hj => absurd hj (Nat.not_lt_zero _)⟩ ?_ ?_
  · rintro i hi st ⟨hgu, hgv, hσ, hno⟩
    rw [List.length_map] at hi
    obtain ⟨a, ha⟩ : ∃ a, u.ls[i]? = some a := ⟨_, List.getElem?_eq_getElem hi⟩
    obtain ⟨b, hb⟩ : ∃ b, v.ls[i]? = some b := ⟨_, List.getElem?_eq_getElem (by rw [hv.len, ← hu.len]; exact hi)⟩
    have hab := edge_same hu hv hp ha hb
    have hda : (u.ls.map Lt.d)[i]? = some a.d := by simp [ha]
    have hdb : (v.ls.map Lt.d)[i]? = some b.d := by simp [hb]
    have hi9 : i < 1000 := by omega
    have fin : meet a b = true → ∀ j, j < i + 1 → ∀ a b, u.ls[j]? = some a → v.ls[j]? = some b → meet a b = true := by
      intro hm j hj a' b' ha' hb'
      by_cases q : j < i
      · exact hno j q a' b' ha' hb'
      · have : j = i := by omega
        subst this
        rw [ha] at ha'; rw [hb] at hb'; cases ha'; cases hb'; exact hm
    have bad : meet a b = false → conf u v = false := by
      intro hm
      unfold conf
      rw [meets_false ha hb hm, Bool.and_false, Bool.false_and]
    refine ⟨_, Assigns.name (.inl rfl), ?_⟩
    repeat cell_call
    refine WX.for (WE.list ?_)
    repeat cell_call
    refine ⟨_, .inr (.inl rfl), ?_⟩
    refine ForEach.inv (fun k st => st.Γ "one" = some u.d ∧ st.Γ "two" = some v.d ∧ st.Γ "at" = some (.int (i : Nat)) ∧ st.Γ "both" = some (.bool ((V3.all.take k).any fun x => V3.all.any fun y => a.fits x y && b.fits x y)) ∧ st.σ = σ)
      ⟨St.ne (by decide +kernel) (St.ne (by decide +kernel) hgu), St.ne (by decide +kernel) (St.ne (by decide +kernel) hgv), St.ne (by decide +kernel) St.eq, St.eq, hσ⟩ ?_ ?_
    · rintro k d st hd ⟨hgu, hgv, hga, hgb, hσ⟩
      obtain ⟨x, hx, rfl⟩ := v3_at hd
      refine ⟨_, Assigns.name (.inl rfl), ?_⟩
      refine WS.step (WX.for (WE.list ?_))
      repeat cell_call
      refine ⟨_, .inr (.inl rfl), ?_⟩
      refine ForEach.inv (fun l st => st.Γ "one" = some u.d ∧ st.Γ "two" = some v.d ∧ st.Γ "at" = some (.int (i : Nat)) ∧ st.Γ "before" = some (.int x.i) ∧ st.Γ "both" = some (.bool (((V3.all.take k).any fun x => V3.all.any fun y => a.fits x y && b.fits x y) || ((V3.all.take l).any fun y => a.fits x y && b.fits x y))) ∧ st.σ = σ)
        ⟨St.ne (by decide +kernel) hgu, St.ne (by decide +kernel) hgv, St.ne (by decide +kernel) hga, St.eq, by rw [List.take_zero, List.any_nil, Bool.or_false]; exact St.ne (by decide +kernel) hgb, hσ⟩ ?_ ?_
      · rintro l d st hd ⟨hgu, hgv, hga, hgx, hgb, hσ⟩
        obtain ⟨y, hy, rfl⟩ := v3_at hd
        have tl := take_any (fun y => a.fits x y && b.fits x y) hy
        refine ⟨_, Assigns.name (.inl rfl), ?_⟩
        refine WS.step (WX.ite (WT.and (WT.plain (WE.callP P.atFits 2 rfl rfl ?_))))
        repeat cell_call
        refine ⟨_, ItemD.tupN hi9 hda, ?_⟩
        repeat cell_call
        refine ⟨_, g_fits P a x y, _, rfl, ?_⟩
        refine ifB (fun e1 => ?_) (fun e1 => ?_)
        · refine WT.and (WT.plain (WE.callP P.atFits 2 rfl rfl ?_))
          repeat cell_call
          refine ⟨_, ItemD.tupN hi9 hdb, ?_⟩
          repeat cell_call
          refine ⟨_, g_fits P b x y, _, rfl, ?_⟩
          refine ifB (fun e2 => ?_) (fun e2 => ?_)
          · repeat cell_call
            refine ⟨St.ne (by decide +kernel) (St.ne (by decide +kernel) hgu), St.ne (by decide +kernel) (St.ne (by decide +kernel) hgv), St.ne (by decide +kernel) (St.ne (by decide +kernel) hga), St.ne (by decide +kernel) (St.ne (by decide +kernel) hgx), ?_, hσ⟩
            rw [tl, e1, e2, Bool.and_self, Bool.or_true, Bool.or_true]; exact St.eq
          · repeat cell_call
            refine ⟨St.ne (by decide +kernel) hgu, St.ne (by decide +kernel) hgv, St.ne (by decide +kernel) hga, St.ne (by decide +kernel) hgx, ?_, hσ⟩
            rw [tl, e1, e2, Bool.and_false, Bool.or_false]; exact St.ne (by decide +kernel) hgb
        · repeat cell_call
          refine ⟨St.ne (by decide +kernel) hgu, St.ne (by decide +kernel) hgv, St.ne (by decide +kernel) hga, St.ne (by decide +kernel) hgx, ?_, hσ⟩
          rw [tl, e1, Bool.false_and, Bool.or_false]; exact St.ne (by decide +kernel) hgb
      · rintro st ⟨hgu, hgv, hga, hgx, hgb, hσ⟩
        repeat cell_call
        refine ⟨hgu, hgv, hga, ?_, hσ⟩
        rw [take_any _ hx]; exact hgb
    · rintro st ⟨hgu, hgv, hga, hgb, hσ⟩
      repeat cell_call
      have hm : ((V3.all.take ([.int 0, .int 1, .int 3] : List D).length).any fun x => V3.all.any fun y => a.fits x y && b.fits x y) = meet a b := meet_both a b hab
      rw [hm]
      refine ifB (fun em => ?_) (fun em => ?_)
      · repeat cell_call
        rw [bad (by simpa using em)] at h
        exact hσ ▸ h
      · repeat cell_call
        exact ⟨hgu, hgv, hσ, fin (by simpa using em)⟩
  · rintro st ⟨hgu, hgv, hσ, hall⟩
    rw [List.length_map] at hall
    have hms : meets u.ls v.ls = true := meets_true fun i a b ha hb => hall i (List.getElem?_eq_some_iff.mp ha).1 a b ha hb
    have hc : conf u v = outS u.held v.held u.out v.out := by
      unfold conf
      rw [hp, beq_self_eq_true, hms, Bool.true_and, Bool.true_and]
    rw [hc] at h
    rcases hq : u.held with _ | a <;> rcases hr : v.held with _ | b
    · have gu : st.Γ "one" = some (.tuple [.tuple (u.ls.map Lt.d), .none, u.out.d]) := by rw [hgu, Rw.d, hq]; rfl
      have gv : st.Γ "two" = some (.tuple [.tuple (v.ls.map Lt.d), .none, v.out.d]) := by rw [hgv, Rw.d, hr]; rfl
      clear hgu hgv
      repeat cell_call
      refine ⟨_, Cmp.neO u.out v.out, ?_⟩
      repeat cell_call
      rw [hq, hr] at h
      exact hσ ▸ h
    · rw [hq, hr] at hk; cases hk
    · rw [hq, hr] at hk; cases hk
    · have gu : st.Γ "one" = some (.tuple [.tuple (u.ls.map Lt.d), a.d, u.out.d]) := by rw [hgu, Rw.d, hq]; rfl
      have gv : st.Γ "two" = some (.tuple [.tuple (v.ls.map Lt.d), b.d, v.out.d]) := by rw [hgv, Rw.d, hr]; rfl
      clear hgu hgv
      have ea := hu.held a hq
      have eb := hv.held b hr
      rw [hq, hr, ← lout_out a b ea] at h
      repeat cell_call
      refine ⟨_, Cmp.isL a ea, ?_⟩
      repeat cell_call
      refine WX.for (WE.list ?_)
      repeat cell_call
      refine ⟨_, .inr (.inl rfl), ?_⟩
      refine ForEach.inv (fun i st => st.Γ "one" = some (.tuple [.tuple (u.ls.map Lt.d), a.d, u.out.d]) ∧ st.Γ "two" = some (.tuple [.tuple (v.ls.map Lt.d), b.d, v.out.d]) ∧ st.σ = σ ∧ (V3.all.take i).any (fun s => (a.holds s && b.holds s) && (u.out.val s.i != v.out.val s.i)) = false) ⟨gu, gv, hσ, rfl⟩ ?_ ?_
      · rintro i d st hd ⟨gu, gv, hσ, hno⟩
        obtain ⟨s, hs, rfl⟩ := v3_at hd
        have tl := take_any (fun s => (a.holds s && b.holds s) && (u.out.val s.i != v.out.val s.i)) hs
        rw [hno, Bool.false_or] at tl
        refine ⟨_, Assigns.name (.inl rfl), ?_⟩
        refine WS.step (WX.ite (WT.and (WT.plain (WE.callP P.atHolds 1 rfl rfl ?_))))
        repeat cell_call
        refine ⟨_, g_holds P a ea s, _, rfl, ?_⟩
        refine ifB (fun e1 => ?_) (fun e1 => ?_)
        · refine WT.and (WT.plain (WE.callP P.atHolds 1 rfl rfl ?_))
          repeat cell_call
          refine ⟨_, g_holds P b eb s, _, rfl, ?_⟩
          refine ifB (fun e2 => ?_) (fun e2 => ?_)
          · refine WT.and (WT.cmp (WE.callP P.atLout 1 rfl rfl ?_))
            repeat cell_call
            refine ⟨_, g_lout P u.out s.i, WE.callP P.atLout 1 rfl rfl ?_⟩
            repeat cell_call
            refine ⟨_, g_lout P v.out s.i, ?_⟩
            repeat cell_call
            refine ifB (fun e3 => ?_) (fun e3 => ?_)
            · repeat cell_call
              have : loutS a b u.out v.out = true := List.any_eq_true.mpr ⟨s, List.mem_of_getElem? hs, by rw [e1, e2, e3]; rfl⟩
              rw [this] at h
              exact hσ ▸ h
            · repeat cell_call
              exact ⟨gu, gv, hσ, by rw [tl, e3, Bool.and_false]⟩
          · repeat cell_call
            exact ⟨gu, gv, hσ, by rw [tl, e2, Bool.and_false, Bool.false_and]⟩
        · repeat cell_call
          exact ⟨gu, gv, hσ, by rw [tl, e1, Bool.false_and, Bool.false_and]⟩
      · rintro st ⟨gu, gv, hσ, hno⟩
        repeat cell_call
        have : loutS a b u.out v.out = false := hno
        rw [this] at h
        exact hσ ▸ h
end
/-! ### the rows of a primitive -/
structure Pcl (G : Gl) : Prop where
  get : plainGet G.K 31 "rows" = true
  dict : hasDictIn G.K 31 = true
  find : findIn G.K (.ref 31) "rows" = some none
theorem WE.rows {G : Gl} {f : Fx} {st : St} (Z : Pcl G) {e : Expr} {pos : Pos} {Q : D → St → Prop} (h : WE G f e st fun d st' => ∃ ds, d = .prim (.tuple ds) ∧ Q (.tuple ds) st')
    (hb : ∀ env, attributeBase e "rows" env (eval e env) = eval e env := by intro _; rfl) : WE G f (.Attribute e "rows" pos) st Q := by
  refine ⟨fun news ex s Q' E F c => ?_⟩
  rw [arm_eval_Attribute, hb]
  refine wpAny_bind (h.run news ex s _ E F fun d st₁ v news₁ h₁ tk₁ h' hs₁ F₁ hv => ?_)
  obtain ⟨ds, rfl, hq⟩ := h'
  refine wpAny_bind (wpAny_standAt (wpAny_bind (wpAny_holding ?_)))
  cases hv with
  | @prim x dx es n v _ hx hd hg hdv =>
    refine get_value (K := G.K) (C := 31) (od := some (dictOf es n)) (ox := instObj 31 dx) (v := v) (G.X.keeps F₁.wd.base) ⟨(F₁.wd.imm _ hx).1, rfl, rfl, (F₁.wd.imm _ hd).1⟩ (plainGet_of Z.get).1 (findObj_own Z.dict Z.find rfl hg) ?_ ?_
    · cases hdv <;> rfl
    · refine wpAny_bind (wpAny_letTemporaryGo (wpAny_pure ?_))
      exact c _ _ _ _ h₁ _ hq hs₁ F₁ hdv
/-! ### levels_match -/
def nowD (now : List V3) : List D := now.map fun v => .int v.i
def lmAt (ls : List Lt) (now : List V3) (skip : Int) (i : Nat) : Bool := match ls[i]?, now[i]? with
  | some l, some w => ((i : Int) == skip) || (!l.isE && l.holds w)
  | _, _ => true
def lm (ls : List Lt) (now : List V3) (skip : Int) : Bool := (List.range ls.length).all (lmAt ls now skip)
theorem all_of {n : Nat} {F : Nat → Bool} (h : ∀ j, j < n → F j = true) : (List.range n).all F = true := List.all_eq_true.mpr fun j hj => h j (List.mem_range.mp hj)
theorem all_not {n i : Nat} {F : Nat → Bool} (hi : i < n) (h : F i = false) : (List.range n).all F = false := by
  cases q : (List.range n).all F with
  | false => rfl
  | true => rw [List.all_eq_true.mp q i (List.mem_range.mpr hi)] at h; cases h
theorem upTo {n : Nat} {F : Nat → Bool} (h : ∀ j, j < n → F j = true) (hn : F n = true) : ∀ j, j < n + 1 → F j = true := fun j hj => by
  by_cases q : j < n
  · exact h j q
  · have : j = n := by omega
    exact this ▸ hn
theorem Lt.codes_holds (l : Lt) (w : V3) : memD (.int w.i) (intD l.codes) = l.holds w := memI _ _
section
variable {G : Gl} (P : Prog G)
include P
theorem g_lmatch (ls : List Lt) (now : List V3) (skip : Int) (hn : now.length = ls.length) (hs : ls.length < 900) : Gives G (.ref 91) 2 [.tuple (ls.map Lt.d), .list (nowD now), .int skip] (.bool (lm ls now skip)) := by
  refine ⟨fun σ Q h => ?_⟩
  refine Calls.go P.lmatch rfl ["ins", "codes", "skip"] (by intro _ _ _ _ _ _ _ _ _ vs hl; exact lst3 (P := fun vs => bindArgs _ ⟨vs, []⟩ = pure (List.zip _ vs)) (fun _ _ _ => rfl) vs hl) (by decide) (by decide) rfl rfl rfl fun A qual L cdv => ?_
  refine WS.step (WX.for (WE.range (Bn.of P.bRange boot_range' rfl (by decide +kernel)) (WE.len (Bn.of P.bLen boot_len rfl (by decide +kernel)) ?_)))
  repeat cell_call
  refine ⟨_, LenD.tup (by rw [List.length_map]; omega), _, rfl, _, Iter.rng (by rw [List.length_map]; omega), ?_⟩
  refine ForEach.rangeI (fun i st => st.Γ "ins" = some (.tuple (ls.map Lt.d)) ∧ st.Γ "codes" = some (.list (nowD now)) ∧ st.Γ "skip" = some (.int skip) ∧ st.σ = σ ∧ ∀ j, j < i → lmAt ls now skip j = true) ⟨rfl, rfl, rfl, rfl, fun j hj => absurd hj (Nat.not_lt_zero _)⟩ ?_ ?_
  · rintro i hi st ⟨g1, g2, g3, hσ, hno⟩
    rw [List.length_map] at hi
    obtain ⟨a, ha⟩ : ∃ a, ls[i]? = some a := ⟨_, List.getElem?_eq_getElem hi⟩
    obtain ⟨b, hb⟩ : ∃ b, now[i]? = some b := ⟨_, List.getElem?_eq_getElem (by rw [hn]; exact hi)⟩
    have hda : (ls.map Lt.d)[i]? = some a.d := by simp [ha]
    have hdb : (nowD now)[i]? = some (.int b.i) := by simp [nowD, hb]
    have hi9 : i < 1000 := by omega
    have e0 : lmAt ls now skip i = (((i : Int) == skip) || (!a.isE && a.holds b)) := by unfold lmAt; rw [ha, hb]
    refine ⟨_, Assigns.name (.inl rfl), ?_⟩
    repeat cell_call
    refine ifB (fun e1 => ?_) (fun e1 => ?_)
    · repeat cell_call
      exact ⟨g1, g2, g3, hσ, upTo hno (by rw [e0, e1]; rfl)⟩
    · refine WS.nil (.next ?_)
      refine WS.step (WX.ite (WT.or (WT.plain (WE.callP P.atEdge 1 rfl rfl ?_))))
      repeat cell_call
      refine ⟨_, ItemD.tupN hi9 hda, ?_⟩
      repeat cell_call
      refine ⟨_, g_edge P a, _, rfl, ?_⟩
      refine ifB (fun e2 => ?_) (fun e2 => ?_)
      · repeat cell_call
        have : lm ls now skip = false := all_not hi (by rw [e0, e1, e2]; rfl)
        rw [this] at h
        exact hσ ▸ h
      · refine WT.or (WT.cmp (WE.sub (WE.name (St.ne (by decide +kernel) g2) (WE.name St.eq ⟨_, ItemD.lstN hi9 hdb, WE.callP P.atLevel 1 rfl rfl ?_⟩))))
        repeat cell_call
        refine ⟨_, ItemD.tupN hi9 hda, ?_⟩
        repeat cell_call
        refine ⟨_, g_level P a e2, _, Cmp.notInT (okI _) rfl (Nat.le_of_ble_eq_true rfl), ?_⟩
        rw [Lt.codes_holds]
        refine ifB (fun e3 => ?_) (fun e3 => ?_)
        · repeat cell_call
          have : lm ls now skip = false := all_not hi (by rw [e0, e1, e2]; simpa using e3)
          rw [this] at h
          exact hσ ▸ h
        · repeat cell_call
          exact ⟨g1, g2, g3, hσ, upTo hno (by rw [e0, e1, e2]; simpa using e3)⟩
  · rintro st ⟨g1, g2, g3, hσ, hall⟩
    rw [List.length_map] at hall
    repeat cell_call
    have : lm ls now skip = true := all_of hall
    rw [this] at h
    exact hσ ▸ h
end
/-! ### step_state -/
def Rw.hold (r : Rw) (s : V3) : Bool := match r.held with
  | some h => h.holds s
  | none => false
def p1 (now : List V3) (s : V3) (r : Rw) : Bool := lm r.ls now (-1) && r.hold s
def p2 (now : List V3) (s : V3) (ch : Nat) (bf : V3) (r : Rw) : Bool := match r.ls[ch]?, now[ch]? with
  | some l, some w => (l.isE && r.hold s) && (lm r.ls now ch && l.prs.contains (bf.i, w.i))
  | _, _ => false
def firstO (p : Rw → Bool) (t : List Rw) (s : V3) : Option Int := (t.find? p).map fun r => r.out.val s.i
def stepS (t : List Rw) (s : V3) (now : List V3) (ch : Nat) (bf : V3) : Int := (firstO (p1 now s) t s).getD ((firstO (p2 now s ch bf) t s).getD 3)
theorem firstO_at {p : Rw → Bool} {t : List Rw} {s : V3} {i : Nat} {r : Rw} (hi : t[i]? = some r) (hp : p r = true) (hno : ∀ j, j < i → ∀ q, t[j]? = some q → p q = false) : firstO p t s = some (r.out.val s.i) := by
  have : t.find? p = some r := by
    rw [List.find?_eq_some_iff_getElem]
    obtain ⟨hl, e⟩ := List.getElem?_eq_some_iff.mp hi
    refine ⟨hp, i, hl, e, fun j hj => ?_⟩
    rw [hno j hj _ (List.getElem?_eq_getElem (by omega))]; rfl
  unfold firstO; rw [this]; rfl
theorem firstO_none {p : Rw → Bool} {t : List Rw} {s : V3} (hno : ∀ j, j < t.length → ∀ q, t[j]? = some q → p q = false) : firstO p t s = none := by
  have : t.find? p = none := by
    rw [List.find?_eq_none]
    intro x hx
    obtain ⟨j, hj, e⟩ := List.mem_iff_getElem.mp hx
    rw [hno j hj x (by rw [← e]; simp)]; exact Bool.false_ne_true
  unfold firstO; rw [this]; rfl
theorem noUp {p : Rw → Bool} {t : List Rw} {i : Nat} {r : Rw} (hi : t[i]? = some r) (hp : p r = false) (hno : ∀ j, j < i → ∀ q, t[j]? = some q → p q = false) : ∀ j, j < i + 1 → ∀ q, t[j]? = some q → p q = false := by
  intro j hj q hq
  by_cases z : j < i
  · exact hno j z q hq
  · have : j = i := by omega
    subst this
    rw [hi] at hq; cases hq; exact hp
structure Tab (t : List Rw) (n : Nat) : Prop where
  ok : ∀ r ∈ t, r.Ok n
  held : ∀ r ∈ t, ∃ h, r.held = some h
section
variable {G : Gl} (P : Prog G) (Z : Pcl G)
include P Z
theorem g_step (t : List Rw) (s : V3) (now : List V3) (ch : Nat) (bf : V3) {n : Nat} (T : Tab t n) (hn : now.length = n) (hc : ch < n) : Gives G (.ref 98) 3 [.prim (.tuple (t.map Rw.d)), .int s.i, .list (nowD now), .int (ch : Nat), .int bf.i] (.int (stepS t s now ch bf)) := by
  refine ⟨fun σ Q h => ?_⟩
  refine Calls.go P.step rfl ["p", "state", "now", "changed", "before"] (by intro _ _ _ _ _ _ _ _ _ vs hl; exact lst5 (P := fun vs => bindArgs _ ⟨vs, []⟩ = pure (List.zip _ vs)) (fun _ _ _ _ _ => rfl) vs hl) (by decide) (by decide) rfl rfl rfl fun A qual L cdv => ?_
  refine WS.step (WX.for (WE.rows Z (WE.name rfl ⟨_, rfl, _, .inl rfl, ?_⟩)))
  refine ForEach.inv (fun i st => st.Γ "p" = some (.prim (.tuple (t.map Rw.d))) ∧ st.Γ "state" = some (.int s.i) ∧ st.Γ "now" = some (.list (nowD now)) ∧ st.Γ "changed" = some (.int (ch : Nat)) ∧ st.Γ "before" = some (.int bf.i) ∧ st.σ = σ ∧ ∀ j, j < i → ∀ q, t[j]? = some q → p1 now s q = false) ⟨rfl, rfl, rfl, rfl, rfl, rfl, fun j hj => absurd hj (Nat.not_lt_zero _)⟩ ?_ ?_
  · rintro i d st hi ⟨g1, g2, g3, g4, g5, hσ, hno⟩
    rw [List.getElem?_map, Option.map_eq_some_iff] at hi
    obtain ⟨r, hr, rfl⟩ := hi
    have hm := List.mem_of_getElem? hr
    obtain ⟨hd, hhd⟩ := T.held r hm
    have hE := (T.ok r hm).held hd hhd
    have hlen := (T.ok r hm).len
    have hsm := (T.ok r hm).small
    have e0 : p1 now s r = (lm r.ls now (-1) && hd.holds s) := by unfold p1 Rw.hold; rw [hhd]
    rw [Rw.d, hhd]
    refine ⟨_, Assigns.three (.inl rfl) (.inl rfl) (.inl rfl), ?_⟩
    refine WS.step (WX.ite (WT.and (WT.plain (WE.callP P.atLmatch 2 rfl rfl ?_))))
    repeat cell_call
    refine ⟨_, g_lmatch P r.ls now (-1) (by omega) (by omega), _, rfl, ?_⟩
    refine ifB (fun e1 => ?_) (fun e1 => ?_)
    · refine WT.and (WT.cmp (WE.name (St.ne (by decide +kernel) (St.ne (by decide +kernel) (St.ne (by decide +kernel) g2))) (WE.callP P.atLevel 1 rfl rfl ?_)))
      repeat cell_call
      refine ⟨_, g_level P hd hE, _, Cmp.inT (okI _) rfl (Nat.le_of_ble_eq_true rfl), ?_⟩
      rw [Lt.codes_holds]
      refine ifB (fun e2 => ?_) (fun e2 => ?_)
      · refine WT.and_nil ?_
        refine ifT rfl ?_
        refine WS.step (WX.ret (WE.callP P.atOut 2 rfl rfl ?_))
        repeat cell_call
        refine ⟨_, g_out P r.out s.i, ?_⟩
        repeat cell_call
        have : stepS t s now ch bf = r.out.val s.i := by unfold stepS; rw [firstO_at hr (by rw [e0, e1, e2]; rfl) hno]; rfl
        rw [this] at h
        exact hσ ▸ h
      · repeat cell_call
        exact ⟨g1, g2, g3, g4, g5, hσ, noUp hr (by rw [e0, e2, Bool.and_false]) hno⟩
    · repeat cell_call
      exact ⟨g1, g2, g3, g4, g5, hσ, noUp hr (by rw [e0, e1, Bool.false_and]) hno⟩
  · rintro st ⟨g1, g2, g3, g4, g5, hσ, hno1⟩
    rw [List.length_map] at hno1
    have first : firstO (p1 now s) t s = none := firstO_none hno1
    refine .next ?_
    refine WS.step (WX.for (WE.rows Z (WE.name g1 ⟨_, rfl, _, .inl rfl, ?_⟩)))
    refine ForEach.inv (fun i st => st.Γ "state" = some (.int s.i) ∧ st.Γ "now" = some (.list (nowD now)) ∧ st.Γ "changed" = some (.int (ch : Nat)) ∧ st.Γ "before" = some (.int bf.i) ∧ st.σ = σ ∧ ∀ j, j < i → ∀ q, t[j]? = some q → p2 now s ch bf q = false) ⟨g2, g3, g4, g5, hσ, fun j hj => absurd hj (Nat.not_lt_zero _)⟩ ?_ ?_
    · rintro i d st hi ⟨g2, g3, g4, g5, hσ, hno⟩
      rw [List.getElem?_map, Option.map_eq_some_iff] at hi
      obtain ⟨r, hr, rfl⟩ := hi
      have hm := List.mem_of_getElem? hr
      obtain ⟨hd, hhd⟩ := T.held r hm
      have hE := (T.ok r hm).held hd hhd
      have hlen := (T.ok r hm).len
      have hsm := (T.ok r hm).small
      obtain ⟨a, ha⟩ : ∃ a, r.ls[ch]? = some a := ⟨_, List.getElem?_eq_getElem (by omega)⟩
      obtain ⟨b, hb⟩ : ∃ b, now[ch]? = some b := ⟨_, List.getElem?_eq_getElem (by omega)⟩
      have hda : (r.ls.map Lt.d)[ch]? = some a.d := by simp [ha]
      have hdb : (nowD now)[ch]? = some (.int b.i) := by simp [nowD, hb]
      have hc9 : ch < 1000 := by omega
      have e0 : p2 now s ch bf r = ((a.isE && hd.holds s) && (lm r.ls now ch && a.prs.contains (bf.i, b.i))) := by unfold p2 Rw.hold; rw [hhd, ha, hb]
      rw [Rw.d, hhd]
      refine ⟨_, Assigns.three (.inl rfl) (.inl rfl) (.inl rfl), ?_⟩
      refine WS.step (WX.ite (WT.or (WT.not (WT.plain (WE.callP P.atEdge 1 rfl rfl ?_)))))
      repeat cell_call
      refine ⟨_, ItemD.tupN hc9 hda, ?_⟩
      repeat cell_call
      refine ⟨_, g_edge P a, _, rfl, ?_⟩
      refine ifB (fun e1 => ?_) (fun e1 => ?_)
      · repeat cell_call
        exact ⟨g2, g3, g4, g5, hσ, noUp hr (by rw [e0]; simp only [Bool.not_eq_true'] at e1; rw [e1]; rfl) hno⟩
      have ea : a.isE = true := by simpa using e1
      refine WT.or (WT.cmp (WE.name (St.ne (by decide +kernel) (St.ne (by decide +kernel) (St.ne (by decide +kernel) g2))) (WE.callP P.atLevel 1 rfl rfl ?_)))
      repeat cell_call
      refine ⟨_, g_level P hd hE, _, Cmp.notInT (okI _) rfl (Nat.le_of_ble_eq_true rfl), ?_⟩
      rw [Lt.codes_holds]
      refine ifB (fun e2 => ?_) (fun e2 => ?_)
      · repeat cell_call
        exact ⟨g2, g3, g4, g5, hσ, noUp hr (by rw [e0]; simp only [Bool.not_eq_true'] at e2; rw [e2, Bool.and_false]; rfl) hno⟩
      have eh : hd.holds s = true := by simpa using e2
      refine WT.or_nil (ifF (by decide) (WS.nil (.next ?_)))
      refine WS.step (WX.ite (WT.and (WT.plain (WE.callP P.atLmatch 2 rfl rfl ?_))))
      repeat cell_call
      refine ⟨_, g_lmatch P r.ls now ch (by omega) (by omega), _, rfl, ?_⟩
      refine ifB (fun e3 => ?_) (fun e3 => ?_)
      · refine WT.and (WT.cmp ?_)
        repeat cell_call
        refine ⟨_, ItemD.lstN hc9 hdb, ?_⟩
        repeat cell_call
        refine ⟨WE.callP P.atPairs 2 rfl rfl ?_, Nat.le_of_ble_eq_true rfl⟩
        repeat cell_call
        refine ⟨_, ItemD.tupN hc9 hda, ?_⟩
        repeat cell_call
        refine ⟨_, g_pairs P a ea, _, Cmp.inT (okP _) rfl (Nat.le_of_ble_eq_true rfl), ?_⟩
        rw [memP]
        refine ifB (fun e4 => ?_) (fun e4 => ?_)
        · refine WT.and_nil (ifT rfl ?_)
          refine WS.step (WX.ret (WE.callP P.atOut 2 rfl rfl ?_))
          repeat cell_call
          refine ⟨_, g_out P r.out s.i, ?_⟩
          repeat cell_call
          have : stepS t s now ch bf = r.out.val s.i := by unfold stepS; rw [first, firstO_at hr (by rw [e0, ea, eh, e3, e4]; rfl) hno]; rfl
          rw [this] at h
          exact hσ ▸ h
        · repeat cell_call
          exact ⟨g2, g3, g4, g5, hσ, noUp hr (by rw [e0, e4, Bool.and_false, Bool.and_false]) hno⟩
      · repeat cell_call
        exact ⟨g2, g3, g4, g5, hσ, noUp hr (by rw [e0, e3, Bool.false_and, Bool.and_false]) hno⟩
    · rintro st ⟨g2, g3, g4, g5, hσ, hno⟩
      rw [List.length_map] at hno
      repeat cell_call
      have : stepS t s now ch bf = 3 := by unfold stepS; rw [first, firstO_none hno]; rfl
      rw [this] at h
      exact hσ ▸ h
end
/-! ### the law's own step -/
theorem WT.orP {G : Gl} {f : Fx} {st : St} {x y : Expr} {pos : Pos} {c1 c2 : Bool} {Q : Bool → St → Prop} (h1 : WT G f x st fun b st' => b = c1 ∧ st' = st) (h2 : WT G f y st fun b st' => b = c2 ∧ st' = st) (h : Q (c1 || c2) st) : WT G f (.BoolOp .Or [x, y] pos) st Q := by
  refine WT.or (h1.mono ?_)
  rintro b st' ⟨rfl, rfl⟩
  cases b with
  | true => exact h
  | false =>
    refine WT.or (h2.mono ?_)
    rintro b st' ⟨rfl, rfl⟩
    cases b with
    | true => exact h
    | false => exact WT.or_nil h
def fitAt (ls : List Lt) (now : List V3) (ch : Nat) (bf : V3) (i : Nat) : Bool := match ls[i]?, now[i]? with
  | some l, some w => l.fits (if i = ch then bf else w) w
  | _, _ => true
def fitsAll (ls : List Lt) (now : List V3) (ch : Nat) (bf : V3) : Bool := (List.range now.length).all (fitAt ls now ch bf)
def qb (b : Bool) (now : List V3) (s : V3) (ch : Nat) (bf : V3) (r : Rw) : Bool := ((placeOf r.ls == -1) == b) && ((b || (placeOf r.ls == (ch : Int))) && (r.hold s && fitsAll r.ls now ch bf))
def stepL (t : List Rw) (s : V3) (now : List V3) (ch : Nat) (bf : V3) : Int := (firstO (qb true now s ch bf) t s).getD ((firstO (qb false now s ch bf) t s).getD 3)
theorem place_none {ls : List Lt} (h : placeOf ls = -1) {i : Nat} {l : Lt} (hl : ls[i]? = some l) : l.isE = false := by
  unfold placeOf at h
  split at h
  · exact absurd h (by omega)
  · rename_i q
    rw [List.findIdx?_eq_none_iff] at q
    exact q l (List.mem_of_getElem? hl)
theorem place_some {ls : List Lt} {k : Nat} (h : placeOf ls = (k : Int)) {l : Lt} (hl : ls[k]? = some l) : l.isE = true := by
  unfold placeOf at h
  split at h
  · rename_i i q
    have : i = k := by omega
    subst this
    rw [List.findIdx?_eq_some_iff_getElem] at q
    obtain ⟨hh, e2, _⟩ := q
    rw [List.getElem?_eq_getElem hh] at hl
    cases hl; exact e2
  · omega
theorem place_ge (ls : List Lt) : placeOf ls = -1 ∨ ∃ k : Nat, placeOf ls = k ∧ ∃ l, ls[k]? = some l ∧ l.isE = true := by
  unfold placeOf
  cases q : ls.findIdx? Lt.isE with
  | none => exact .inl rfl
  | some i =>
    refine .inr ⟨i, rfl, ?_⟩
    rw [List.findIdx?_eq_some_iff_getElem] at q
    obtain ⟨hh, e2, _⟩ := q
    exact ⟨_, List.getElem?_eq_getElem hh, e2⟩
theorem all_congr {n : Nat} {F H : Nat → Bool} (h : ∀ i, i < n → F i = H i) : (List.range n).all F = (List.range n).all H := by
  cases q : (List.range n).all H with
  | true => exact all_of fun j hj => by rw [h j hj]; exact List.all_eq_true.mp q j (List.mem_range.mpr hj)
  | false =>
    rw [List.all_eq_false] at q
    obtain ⟨j, hj, e⟩ := q
    exact all_not (List.mem_range.mp hj) (by rw [h j (List.mem_range.mp hj)]; simpa using e)
theorem at_of {α : Type} {l : List α} {i : Nat} (h : i < l.length) : ∃ a, l[i]? = some a := ⟨_, List.getElem?_eq_getElem h⟩
theorem qb_true {now : List V3} {s : V3} {ch : Nat} {bf : V3} {r : Rw} {n : Nat} (ok : r.Ok n) (hn : now.length = n) : qb true now s ch bf r = p1 now s r := by
  unfold qb p1
  have bt : ∀ x : Bool, (x == true) = x := by decide
  rw [Bool.true_or, Bool.true_and, bt]
  rcases place_ge r.ls with e | ⟨k, e, l, hl, he⟩
  · rw [e, beq_self_eq_true, Bool.true_and, Bool.and_comm]
    congr 1
    unfold fitsAll lm
    rw [ok.len, hn]
    refine all_congr fun i hi => ?_
    obtain ⟨l, hl⟩ := at_of (l := r.ls) (i := i) (by rw [ok.len]; exact hi)
    obtain ⟨w, hw⟩ := at_of (l := now) (i := i) (by omega)
    have := place_none e hl
    have z : ((i : Int) == -1) = false := by rw [beq_eq_false_iff_ne]; omega
    unfold fitAt lmAt Lt.fits
    rw [hl, hw]
    simp only [this, z]
    simp
  · have z : (placeOf r.ls == -1) = false := by rw [beq_eq_false_iff_ne]; omega
    rw [z, Bool.false_and]
    have hk := (List.getElem?_eq_some_iff.mp hl).1
    have : lm r.ls now (-1) = false := by
      refine all_not hk ?_
      obtain ⟨w, hw⟩ := at_of (l := now) (i := k) (by rw [hn, ← ok.len]; exact hk)
      have z : ((k : Int) == -1) = false := by rw [beq_eq_false_iff_ne]; omega
      unfold lmAt
      rw [hl, hw]
      simp only [he, z]
      rfl
    rw [this, Bool.false_and]
theorem qb_false {now : List V3} {s : V3} {ch : Nat} {bf : V3} {r : Rw} {n : Nat} (ok : r.Ok n) (hn : now.length = n) (hc : ch < n) : qb false now s ch bf r = p2 now s ch bf r := by
  obtain ⟨l, hl⟩ := at_of (l := r.ls) (i := ch) (by rw [ok.len]; exact hc)
  obtain ⟨w, hw⟩ := at_of (l := now) (i := ch) (by omega)
  unfold qb p2
  rw [hl, hw]
  dsimp only
  rw [Bool.false_or]
  cases he : l.isE with
  | false =>
    have : (placeOf r.ls == (ch : Int)) = false := by
      rw [beq_eq_false_iff_ne]
      intro e
      rw [place_some e hl] at he; cases he
    rw [this, Bool.false_and, Bool.and_false, Bool.false_and, Bool.false_and]
  | true =>
    have e : placeOf r.ls = (ch : Int) := placeOf_at hl he fun j hj m hm => by
      cases q : m.isE with
      | false => rfl
      | true => have := ok.one j ch m l hm hl q he; omega
    have z : ((ch : Int) == -1) = false := by rw [beq_eq_false_iff_ne]; omega
    rw [e, z, beq_self_eq_true, beq_self_eq_true]
    show (true && (true && (r.hold s && _))) = _
    rw [Bool.true_and, Bool.true_and, Bool.true_and]
    congr 1
    unfold fitsAll lm
    rw [ok.len, hn]
    have fa : ∀ i, i < n → fitAt r.ls now ch bf i = (lmAt r.ls now ch i && (if i = ch then l.prs.contains (bf.i, w.i) else true)) := by
      intro i hi
      obtain ⟨l', hl'⟩ := at_of (l := r.ls) (i := i) (by rw [ok.len]; exact hi)
      obtain ⟨w', hw'⟩ := at_of (l := now) (i := i) (by omega)
      unfold fitAt lmAt Lt.fits
      rw [hl', hw']
      by_cases q : i = ch
      · subst q
        rw [hl] at hl'; rw [hw] at hw'; cases hl'; cases hw'
        simp [he]
      · have e2 : l'.isE = false := by
          cases q2 : l'.isE with
          | false => rfl
          | true => exact absurd (ok.one i ch l' l hl' hl q2 he) q
        have z : ((i : Int) == (ch : Int)) = false := by rw [beq_eq_false_iff_ne]; omega
        simp [e2, q]
        exact fun zz => absurd (Int.ofNat_inj.mp zz) q
    cases q : l.prs.contains (bf.i, w.i) with
    | true =>
      rw [Bool.and_true]
      refine all_congr fun i hi => ?_
      rw [fa i hi, q]; simp
    | false =>
      rw [Bool.and_false]
      refine all_not hc ?_
      rw [fa ch hc, q]; simp
theorem find_congr {p q : Rw → Bool} : ∀ {t : List Rw}, (∀ r ∈ t, p r = q r) → t.find? p = t.find? q
  | [], _ => rfl
  | r :: t, h => by
    rw [List.find?_cons, List.find?_cons, h r (.head _), find_congr fun r hr => h r (.tail _ hr)]
theorem stepL_S {t : List Rw} {s : V3} {now : List V3} {ch : Nat} {bf : V3} {n : Nat} (T : Tab t n) (hn : now.length = n) (hc : ch < n) : stepL t s now ch bf = stepS t s now ch bf := by
  unfold stepL stepS firstO
  rw [find_congr fun r hr => qb_true (T.ok r hr) hn, find_congr fun r hr => qb_false (T.ok r hr) hn hc]
theorem range_all {F : Nat → Bool} {n : Nat} : (List.range (n + 1)).all F = ((List.range n).all F && F n) := by
  rw [List.range_succ, List.all_append]; simp
section
variable {G : Gl} (P : Prog G)
include P
theorem g_lstep (t : List Rw) (s : V3) (now : List V3) (ch : Nat) (bf : V3) {n : Nat} (T : Tab t n) (hn : now.length = n) (hc : ch < n) (h9 : n < 900) : Gives G (.ref 159) 3 [.tuple (t.map Rw.d), .int s.i, .list (nowD now), .int (ch : Nat), .int bf.i] (.int (stepL t s now ch bf)) := by
  refine ⟨fun σ Q h => ?_⟩
  refine Calls.go P.lstep rfl ["table", "state", "now", "changed_at", "before"] (by intro _ _ _ _ _ _ _ _ _ vs hl; exact lst5 (P := fun vs => bindArgs _ ⟨vs, []⟩ = pure (List.zip _ vs)) (fun _ _ _ _ _ => rfl) vs hl) (by decide) (by decide) rfl rfl rfl fun A qual L cdv => ?_
  refine WS.step (WX.for (WE.list ?_))
  repeat cell_call
  refine ⟨_, .inr (.inl rfl), ?_⟩
  refine ForEach.inv (fun k st => st.Γ "table" = some (.tuple (t.map Rw.d)) ∧ st.Γ "state" = some (.int s.i) ∧ st.Γ "now" = some (.list (nowD now)) ∧ st.Γ "changed_at" = some (.int (ch : Nat)) ∧ st.Γ "before" = some (.int bf.i) ∧ st.σ = σ ∧ (0 < k → firstO (qb true now s ch bf) t s = none) ∧ (1 < k → firstO (qb false now s ch bf) t s = none)) ⟨rfl, rfl, rfl, rfl, rfl, rfl, fun z => absurd z (by decide), fun z => absurd z (by decide)⟩ ?_ ?_
  · rintro k d st hk ⟨g0, g1, g2, g3, g4, hσ, n1, n2⟩
    obtain ⟨b, rfl, res, non⟩ : ∃ b, d = .bool b ∧ (∀ v, firstO (qb b now s ch bf) t s = some v → stepL t s now ch bf = v) ∧ (firstO (qb b now s ch bf) t s = none → (0 < k + 1 → firstO (qb true now s ch bf) t s = none) ∧ (1 < k + 1 → firstO (qb false now s ch bf) t s = none)) := by
      match k, hk with
      | 0, hk =>
        refine ⟨true, (Option.some.inj hk).symm, fun v e => ?_, fun e => ⟨fun _ => e, fun z => absurd z (by decide)⟩⟩
        unfold stepL; rw [e]; rfl
      | 1, hk =>
        refine ⟨false, (Option.some.inj hk).symm, fun v e => ?_, fun e => ⟨fun _ => n1 (by decide), fun _ => e⟩⟩
        unfold stepL; rw [n1 (by decide), e]; rfl
      | k + 2, hk => simp at hk
    refine ⟨_, Assigns.name (.inl rfl), ?_⟩
    refine WS.step (WX.for (WE.name (St.ne (by decide +kernel) g0) ⟨_, .inl rfl, ?_⟩))
    refine ForEach.inv (fun i st => st.Γ "table" = some (.tuple (t.map Rw.d)) ∧ st.Γ "state" = some (.int s.i) ∧ st.Γ "now" = some (.list (nowD now)) ∧ st.Γ "changed_at" = some (.int (ch : Nat)) ∧ st.Γ "before" = some (.int bf.i) ∧ st.Γ "is_level" = some (.bool b) ∧ st.σ = σ ∧ ∀ j, j < i → ∀ q, t[j]? = some q → qb b now s ch bf q = false)
      ⟨St.ne (by decide +kernel) g0, St.ne (by decide +kernel) g1, St.ne (by decide +kernel) g2, St.ne (by decide +kernel) g3, St.ne (by decide +kernel) g4, St.eq, hσ, fun j hj => absurd hj (Nat.not_lt_zero _)⟩ ?_ ?_
    · clear g0 g1 g2 g3 g4 hσ
      rintro i d st hi ⟨g0, g1, g2, g3, g4, g5, hσ, hno⟩
      rw [List.getElem?_map, Option.map_eq_some_iff] at hi
      obtain ⟨r, hr, rfl⟩ := hi
      have hm := List.mem_of_getElem? hr
      obtain ⟨hd, hhd⟩ := T.held r hm
      have hE := (T.ok r hm).held hd hhd
      have hlen := (T.ok r hm).len
      have e0 : qb b now s ch bf r = (((placeOf r.ls == -1) == b) && ((b || (placeOf r.ls == (ch : Int))) && (hd.holds s && fitsAll r.ls now ch bf))) := by unfold qb Rw.hold; rw [hhd]
      rw [Rw.d, hhd]
      refine ⟨_, Assigns.three (.inl rfl) (.inl rfl) (.inl rfl), ?_⟩
      refine WS.step (WX.assign (WE.callP P.atLplace 2 rfl rfl ?_) (.inl rfl))
      repeat cell_call
      refine ⟨_, g_lplace P r.ls (by omega), ?_⟩
      have k0 := St.ne (y := "edge_at") (e := .int (placeOf r.ls)) (by decide +kernel) (St.ne (y := "out") (e := r.out.d) (by decide +kernel) (St.ne (y := "held") (e := hd.d) (by decide +kernel) (St.ne (y := "letters") (e := .tuple (r.ls.map Lt.d)) (by decide +kernel) g0)))
      repeat cell_call
      refine ifB (fun e1 => ?_) (fun e1 => ?_)
      · refine WT.and (WT.orP (c1 := b) (c2 := placeOf r.ls == (ch : Int)) ?_ ?_ ?_)
        · exact WT.plain (WE.name (by repeat (first | exact g5 | refine St.ne (by decide +kernel) ?_)) ⟨_, rfl, rfl, rfl⟩)
        · refine WT.cmp ?_
          repeat cell_call
          exact ⟨rfl, rfl⟩
        refine ifB (fun e2 => ?_) (fun e2 => ?_)
        · refine WT.and (WT.plain (WE.callP P.atHolds 1 rfl rfl ?_))
          repeat cell_call
          refine ⟨_, g_holds P hd hE s, _, rfl, ?_⟩
          refine ifB (fun e3 => ?_) (fun e3 => ?_)
          · refine WT.and_nil (ifT rfl ?_)
            refine WS.step (WX.assign (WE.bool ?_) (.inl rfl))
            repeat cell_call
            refine WX.for (WE.range (Bn.of P.bRange boot_range' rfl (by decide +kernel)) (WE.len (Bn.of P.bLen boot_len rfl (by decide +kernel)) ?_))
            repeat cell_call
            have hnl : (nowD now).length = n := by rw [nowD, List.length_map, hn]
            refine ⟨_, LenD.lst (by rw [hnl]; omega), _, rfl, _, Iter.rng (by rw [hnl]; omega), ?_⟩
            have put : ∀ {x : Str} {d : D}, st.Γ x = some d → (x == "letters") = false → (x == "held") = false → (x == "out") = false → (x == "edge_at") = false → (x == "fits_all") = false →
                ((((((st.set "letters" (.tuple (r.ls.map Lt.d))).set "held" hd.d).set "out" r.out.d).set "edge_at" (.int (placeOf r.ls))).set "fits_all" (.bool true)).Γ x = some d) := fun g a b c d e => St.ne e (St.ne d (St.ne c (St.ne b (St.ne a g))))
            refine ForEach.rangeI (fun m st => st.Γ "table" = some (.tuple (t.map Rw.d)) ∧ st.Γ "state" = some (.int s.i) ∧ st.Γ "now" = some (.list (nowD now)) ∧ st.Γ "changed_at" = some (.int (ch : Nat)) ∧ st.Γ "before" = some (.int bf.i) ∧ st.Γ "is_level" = some (.bool b) ∧ st.σ = σ ∧ st.Γ "letters" = some (.tuple (r.ls.map Lt.d)) ∧ st.Γ "out" = some r.out.d ∧ st.Γ "fits_all" = some (.bool ((List.range m).all (fitAt r.ls now ch bf))))
              ⟨by refine put g0 ?_ ?_ ?_ ?_ ?_ <;> decide +kernel, by refine put g1 ?_ ?_ ?_ ?_ ?_ <;> decide +kernel, by refine put g2 ?_ ?_ ?_ ?_ ?_ <;> decide +kernel, by refine put g3 ?_ ?_ ?_ ?_ ?_ <;> decide +kernel, by refine put g4 ?_ ?_ ?_ ?_ ?_ <;> decide +kernel, by refine put g5 ?_ ?_ ?_ ?_ ?_ <;> decide +kernel, hσ, by got_up, by got_up, St.eq⟩ ?_ ?_
            · clear put k0 g0 g1 g2 g3 g4 g5 hσ
              rintro m hm' st ⟨g0, g1, g2, g3, g4, g5, hσ, g6, g7, g8⟩
              rw [hnl] at hm'
              obtain ⟨a, ha⟩ := at_of (l := r.ls) (i := m) (by omega)
              obtain ⟨w, hw⟩ := at_of (l := now) (i := m) (by omega)
              have hda : (r.ls.map Lt.d)[m]? = some a.d := by simp [ha]
              have hdb : (nowD now)[m]? = some (.int w.i) := by simp [nowD, hw]
              have hm9 : m < 1000 := by omega
              have fa : fitAt r.ls now ch bf m = a.fits (if m = ch then bf else w) w := by unfold fitAt; rw [ha, hw]
              refine ⟨_, Assigns.name (.inl rfl), ?_⟩
              refine WS.step (WX.ite (WT.not (WT.plain (WE.callP P.atFits 2 rfl rfl (WL.cons ?_)))))
              repeat cell_call
              refine ⟨_, ItemD.tupN hm9 hda, ?_⟩
              repeat cell_call
              have go : ∀ (x : V3), x = (if m = ch then bf else w) → ∃ d, Gives G (.ref 126) 2 [a.d, .int x.i, .int w.i] d ∧ ∃ b, d = .bool b ∧ b = fitAt r.ls now ch bf m := fun x e => ⟨_, g_fits P a x w, _, rfl, by rw [fa, e]⟩
              refine ifB (fun e4 => ?_) (fun e4 => ?_)
              · have hmc : m = ch := Int.ofNat_inj.mp (by simpa using e4)
                repeat cell_call
                refine ⟨_, ItemD.lstN hm9 hdb, ?_⟩
                repeat cell_call
                obtain ⟨_, go1, _, rfl, go2⟩ := go bf (by rw [if_pos hmc])
                refine ⟨_, go1, _, rfl, ?_⟩
                rw [go2]
                refine ifB (fun e5 => ?_) (fun e5 => ?_)
                · repeat cell_call
                  refine ⟨by got_up, by got_up, by got_up, by got_up, by got_up, by got_up, hσ, by got_up, by got_up, ?_⟩
                  rw [range_all, show fitAt r.ls now ch bf m = false from by simpa using e5, Bool.and_false]; exact St.eq
                · repeat cell_call
                  refine ⟨by got_up, by got_up, by got_up, by got_up, by got_up, by got_up, hσ, by got_up, by got_up, ?_⟩
                  rw [range_all, show fitAt r.ls now ch bf m = true from by simpa using e5, Bool.and_true]; got_up
              · have hmc : ¬ m = ch := fun z => (show ¬ (m : Int) = (ch : Int) by simpa using e4) (congrArg Nat.cast z)
                repeat cell_call
                refine ⟨_, ItemD.lstN hm9 hdb, ?_⟩
                repeat cell_call
                refine ⟨_, ItemD.lstN hm9 hdb, ?_⟩
                repeat cell_call
                obtain ⟨_, go1, _, rfl, go2⟩ := go w (by rw [if_neg hmc])
                refine ⟨_, go1, _, rfl, ?_⟩
                rw [go2]
                refine ifB (fun e5 => ?_) (fun e5 => ?_)
                · repeat cell_call
                  refine ⟨by got_up, by got_up, by got_up, by got_up, by got_up, by got_up, hσ, by got_up, by got_up, ?_⟩
                  rw [range_all, show fitAt r.ls now ch bf m = false from by simpa using e5, Bool.and_false]; exact St.eq
                · repeat cell_call
                  refine ⟨by got_up, by got_up, by got_up, by got_up, by got_up, by got_up, hσ, by got_up, by got_up, ?_⟩
                  rw [range_all, show fitAt r.ls now ch bf m = true from by simpa using e5, Bool.and_true]; got_up
            · clear put k0 g0 g1 g2 g3 g4 g5 hσ
              rintro st ⟨g0, g1, g2, g3, g4, g5, hσ, g6, g7, g8⟩
              have e9 : ((List.range (nowD now).length).all (fitAt r.ls now ch bf)) = fitsAll r.ls now ch bf := by unfold fitsAll; rw [hnl, hn]
              rw [e9] at g8
              repeat cell_call
              refine ifB (fun e4 => ?_) (fun e4 => ?_)
              · refine WS.step (WX.ret (WE.callP P.atLout 1 rfl rfl ?_))
                repeat cell_call
                refine ⟨_, g_lout P r.out s.i, ?_⟩
                repeat cell_call
                have : stepL t s now ch bf = r.out.val s.i := res _ (firstO_at hr (by rw [e0, e1, e2, e3, e4]; rfl) hno)
                rw [this] at h
                exact hσ ▸ h
              · repeat cell_call
                exact ⟨g0, g1, g2, g3, g4, g5, hσ, noUp hr (by rw [e0, e4, Bool.and_false, Bool.and_false, Bool.and_false]) hno⟩
          · repeat cell_call
            refine ⟨by got_up, by got_up, by got_up, by got_up, by got_up, by got_up, hσ, noUp hr (by rw [e0, e3, Bool.false_and, Bool.and_false, Bool.and_false]) hno⟩
        · repeat cell_call
          refine ⟨by got_up, by got_up, by got_up, by got_up, by got_up, by got_up, hσ, noUp hr (by rw [e0, e2, Bool.false_and, Bool.and_false]) hno⟩
      · repeat cell_call
        refine ⟨by got_up, by got_up, by got_up, by got_up, by got_up, by got_up, hσ, noUp hr (by rw [e0, e1, Bool.false_and]) hno⟩
    · clear g0 g1 g2 g3 g4 hσ
      rintro st ⟨g0, g1, g2, g3, g4, g5, hσ, hno⟩
      rw [List.length_map] at hno
      repeat cell_call
      obtain ⟨z1, z2⟩ := non (firstO_none hno)
      exact ⟨g0, g1, g2, g3, g4, hσ, z1, z2⟩
  · rintro st ⟨g0, g1, g2, g3, g4, hσ, n1, n2⟩
    repeat cell_call
    have : stepL t s now ch bf = 3 := by unfold stepL; rw [n1 (by decide), n2 (by decide)]; rfl
    rw [this] at h
    exact hσ ▸ h
end
/-! ### draws -/
theorem WT.andP {G : Gl} {f : Fx} {st : St} {x y : Expr} {pos : Pos} {c1 c2 : Bool} {Q : Bool → St → Prop} (h1 : WT G f x st fun b st' => b = c1 ∧ st' = st) (h2 : WT G f y st fun b st' => b = c2 ∧ st' = st) (h : Q (c1 && c2) st) : WT G f (.BoolOp .And [x, y] pos) st Q := by
  refine WT.and (h1.mono ?_)
  rintro b st' ⟨rfl, rfl⟩
  cases b with
  | false => exact h
  | true =>
    refine WT.and (h2.mono ?_)
    rintro b st' ⟨rfl, rfl⟩
    cases b with
    | false => exact h
    | true => exact WT.and_nil h
def jarL (a b : Int) (cells : List Int) : List D := [.int a, .int b, .list (intD cells)]
def JarAt (j : Addr) (τ : Sig) (B : Nat) (σ : Sig) : Prop := ∃ a b cells, σ = τ ++ [(j, jarL a b cells)] ∧ 0 ≤ b ∧ b ≤ (B : Int) ∧ 0 < cells.length ∧ cells.length ≤ 41 ∧ ∀ p ∈ τ, p.1 ≠ j
theorem JarAt.le {j : Addr} {τ : Sig} {B B' : Nat} {σ : Sig} (h : JarAt j τ B σ) (hb : B ≤ B') : JarAt j τ B' σ := by
  obtain ⟨a, b, cells, h1, h2, h3, h4⟩ := h
  exact ⟨a, b, cells, h1, h2, by omega, h4⟩
theorem upS_last {j : Addr} {ds ds' : List D} : ∀ {τ : Sig}, (∀ p ∈ τ, p.1 ≠ j) → upS j ds' (τ ++ [(j, ds)]) = τ ++ [(j, ds')]
  | [], _ => upS_head
  | p :: τ, h => by
    have e : p = (p.1, p.2) := rfl
    rw [List.cons_append, e, upS_ne (h p (.head _)), upS_last fun q hq => h q (.tail _ hq)]; rfl
theorem d1 {n : Nat} (h : 0 < n) : (n : Int) ≠ 0 := by omega
theorem d2 {n : Nat} (h : 0 < n) : (0 : Int) < n := by omega
theorem d3 {x : Int} {n : Nat} (h : x < n) (h0 : 0 ≤ x) : x.toNat < n := by omega
theorem d4 {x : Int} {n : Nat} (h : x < n) (hn : n ≤ 41) : x < 1000 := by omega
theorem d5 {b : Int} (h : 0 ≤ b) : 0 ≤ b + 1 := by omega
theorem d6 {b : Int} {B : Nat} (h : b ≤ B) : b + 1 ≤ ((B + 1 : Nat) : Int) := by omega
theorem d7 {b : Int} {B : Nat} (h : b ≤ B) : b ≤ (B : Int) + 1 := by omega
theorem d8 {n : Nat} (h : n < 1000) : (n : Int).natAbs < 1073741824 := by omega
theorem bits64 {x : Int} (h0 : 0 ≤ x) (h : x < 18446744073709551616) : Builtin.Int.intBits x ≤ 64 := by
  unfold Builtin.Int.intBits
  split
  · omega
  · have : x.natAbs.log2 < 64 := by
      rw [Nat.log2_lt (by intro e; have : x = 0 := by omega
                          simp_all)]
      omega
    omega
section
variable {G : Gl} (P : Prog G)
include P
theorem c_draw (j : Addr) (τ : Sig) (B count : Nat) {σ : Sig} {Q : D → Sig → Prop} (hJ : JarAt j τ B σ) (hB : B < 1099511627776) (hc : 0 < count) (hc9 : count < 1000)
    (h : ∀ r : Nat, r < count → ∀ σ', JarAt j τ (B + 1) σ' → Q (.int (r : Nat)) σ') : Calls G (.ref 105) 1 [.mut j, .int (count : Nat)] σ Q := by
  obtain ⟨a, b, cells, rfl, h0, h1, h2, h3, hτ⟩ := hJ
  have hm : ∀ ds, (j, ds) ∈ τ ++ [(j, ds)] := fun ds => List.mem_append_right _ (.head _)
  refine Calls.go P.draw rfl ["jar", "count"] (by intro _ _ _ _ _ _ _ _ _ vs hl; exact lst2 (P := fun vs => bindArgs _ ⟨vs, []⟩ = pure (List.zip _ vs)) (fun _ _ => rfl) vs hl) (by decide) (by decide) rfl rfl rfl fun A qual L cdv => ?_
  refine WS.mid (fun st' => st'.Γ "jar" = some (.mut j) ∧ st'.Γ "count" = some (.int (count : Nat)) ∧ ∃ a' b' : Int, st'.σ = τ ++ [(j, jarL a' b' cells)] ∧ 0 ≤ b' ∧ b' ≤ B + 1) ?_ ?_
  · repeat cell_call
    refine ⟨_, ItemD.mu (hm _) (by decide) (by decide) rfl, ?_⟩
    repeat cell_call
    refine ifB (fun e1 => ?_) (fun e1 => ?_)
    · refine WS.step (WX.assign ?_ (.inl rfl))
      repeat cell_call
      refine ⟨_, ItemD.mu (hm _) (by decide) (by decide) rfl, ?_⟩
      repeat cell_call
      refine ⟨_, ItemD.mu (hm _) (by decide) (by decide) rfl, ?_⟩
      refine WE.len (Bn.of P.bLen boot_len rfl (by decide +kernel)) ?_
      repeat cell_call
      refine ⟨_, ItemD.mu (hm _) (by decide) (by decide) rfl, ?_⟩
      have hl : (intD cells).length = cells.length := by rw [intD, List.length_map]
      refine ⟨_, LenD.lst (by rw [hl]; exact Nat.lt_of_le_of_lt h3 (by decide)), ?_⟩
      rw [hl]
      refine ⟨_, Bin.mod (d1 h2), ?_⟩
      have f0 : 0 ≤ b.fmod (cells.length : Int) := Int.fmod_nonneg_of_pos _ (d2 h2)
      have f1 : b.fmod (cells.length : Int) < (cells.length : Int) := Int.fmod_lt_of_pos _ (d2 h2)
      obtain ⟨cell, hcell⟩ := at_of (l := cells) (i := (b.fmod (cells.length : Int)).toNat) (d3 f1 f0)
      refine ⟨_, ItemD.lst f0 (d4 f1 h3) (d := .int cell) (by simp [intD, hcell]), ?_⟩
      refine .next ?_
      refine WS.step (WX.setItem ?_)
      repeat cell_call
      refine ⟨_, ItemD.mu (hm _) (by decide) (by decide) rfl, ?_⟩
      repeat cell_call
      refine ⟨_, Bin.add, ?_⟩
      repeat cell_call
      refine ⟨j, _, _, rfl, rfl, by decide, by decide, ?_, hm _, ?_⟩
      · show 1 < 3; decide
      show Then _ _ _ ⟨_, upS j _ (τ ++ [(j, jarL a b cells)])⟩
      rw [upS_last hτ]
      show Then _ _ _ ⟨_, τ ++ [(j, jarL a (b + 1) cells)]⟩
      refine .next ?_
      have J1 : JarAt j τ (B + 1) (τ ++ [(j, jarL a (b + 1) cells)]) := ⟨_, _, _, rfl, d5 h0, d6 h1, h2, h3, hτ⟩
      refine WS.step (WX.ite ?_)
      repeat cell_call
      refine ifB (fun e2 => ?_) (fun e2 => ?_)
      · repeat cell_call
        exact h 0 hc _ J1
      · refine WS.nil (.next ?_)
        refine WS.step (WX.ite (WT.andP (c1 := decide ((10 : Int) ^ (18 : Int).toNat ≤ cell)) (c2 := decide (b + 1 ≤ (cells.length : Int))) ?_ ?_ ?_))
        · repeat cell_call
          refine ⟨_, Bin.pow (by decide) (by decide) (by decide), ?_⟩
          exact ⟨_, Cmp.ge, rfl, rfl⟩
        · repeat cell_call
          refine ⟨_, ItemD.mu (hm _) (by decide) (by decide) rfl, ?_⟩
          refine WE.len (Bn.of P.bLen boot_len rfl (by decide +kernel)) ?_
          repeat cell_call
          refine ⟨_, ItemD.mu (hm _) (by decide) (by decide) rfl, ?_⟩
          refine ⟨_, LenD.lst (by rw [hl]; exact Nat.lt_of_le_of_lt h3 (by decide)), ?_⟩
          rw [hl]
          exact ⟨_, Cmp.le, rfl, rfl⟩
        refine ifB (fun e3 => ?_) (fun e3 => ?_)
        · refine WS.step (WX.setItem ?_)
          repeat cell_call
          refine ⟨_, Bin.pow (by decide) (by decide) (by decide), _, Bin.mod (by decide), ?_⟩
          repeat cell_call
          refine ⟨j, _, _, rfl, rfl, by decide, by decide, ?_, hm _, ?_⟩
          · show 0 < 3; decide
          show Then _ _ _ ⟨_, upS j _ (τ ++ [(j, jarL a (b + 1) cells)])⟩
          rw [upS_last hτ]
          repeat cell_call
          exact ⟨rfl, rfl, _, _, rfl, d5 h0, Int.add_le_add_right h1 1⟩
        · refine WS.step (WX.assign ?_ (.inl rfl))
          repeat cell_call
          refine ⟨_, Bin.mod (by decide), ?_⟩
          repeat cell_call
          refine ⟨_, ItemD.mu (hm _) (by decide) (by decide) rfl, ?_⟩
          refine ⟨_, Bin.mul (IntMulOk.of_left (by decide +kernel)), ?_⟩
          refine ⟨_, Bin.add, ?_⟩
          repeat cell_call
          refine ⟨_, Bin.add, ?_⟩
          refine .next ?_
          have q0 : 0 ≤ cell.fmod 1000000007 := Int.fmod_nonneg_of_pos _ (by decide)
          have q1 : cell.fmod 1000000007 < 1000000007 := Int.fmod_lt_of_pos _ (by decide)
          have q2 : Builtin.Int.intBits (cell.fmod 1000000007 + 7919 * (b + 1) + 3) ≤ 64 := bits64 (by omega) (by omega)
          refine WS.step (WX.setItem ?_)
          repeat cell_call
          refine ⟨_, Bin.mul (IntMulOk.of_left q2), ?_⟩
          repeat cell_call
          refine ⟨_, Bin.mul (IntMulOk.of_right (by decide +kernel)), ?_⟩
          repeat cell_call
          refine ⟨_, ItemD.mu (hm _) (by decide) (by decide) rfl, ?_⟩
          refine ⟨_, Bin.add, ?_⟩
          repeat cell_call
          refine ⟨j, _, _, rfl, rfl, by decide, by decide, ?_, hm _, ?_⟩
          · show 0 < 3; decide
          show Then _ _ _ ⟨_, upS j _ (τ ++ [(j, jarL a (b + 1) cells)])⟩
          rw [upS_last hτ]
          repeat cell_call
          exact ⟨rfl, rfl, _, _, rfl, d5 h0, Int.add_le_add_right h1 1⟩
    · repeat cell_call
      exact ⟨rfl, rfl, a, b, rfl, h0, d7 h1⟩
  · rintro st' ⟨g1, g2, a', b', hσ, h0', h1'⟩
    refine WS.step (WX.assign ?_ (.inl rfl))
    repeat cell_call
    refine ⟨_, ItemD.mu (ds := jarL a' b' cells) (by rw [hσ]; exact hm _) (by decide) (by decide) rfl, ?_⟩
    repeat cell_call
    refine ⟨_, Bin.mod (d1 hc), ?_⟩
    have f0 : 0 ≤ a'.fmod (count : Int) := Int.fmod_nonneg_of_pos _ (d2 hc)
    have f1 : a'.fmod (count : Int) < (count : Int) := Int.fmod_lt_of_pos _ (d2 hc)
    obtain ⟨r, hr⟩ : ∃ r : Nat, a'.fmod (count : Int) = (r : Int) := ⟨_, (Int.toNat_of_nonneg f0).symm⟩
    rw [hr] at f1 ⊢
    refine .next ?_
    refine WS.step (WX.setItem ?_)
    repeat cell_call
    refine ⟨_, ItemD.mu (ds := jarL a' b' cells) (by show _ ∈ st'.σ; rw [hσ]; exact hm _) (by decide) (by decide) rfl, ?_⟩
    repeat cell_call
    refine ⟨_, Bin.div (d1 hc) (PyProof.noPylong_small (d8 hc9)), ?_⟩
    repeat cell_call
    refine ⟨j, jarL a' b' cells, 0, rfl, rfl, by decide, by decide, ?_, ?_, ?_⟩
    · show 0 < 3; decide
    · show _ ∈ st'.σ; rw [hσ]; exact hm _
    refine .next ?_
    repeat cell_call
    refine h r (Int.ofNat_lt.mp f1) _ ?_
    show JarAt j τ (B + 1) (upS j _ st'.σ)
    rw [hσ, upS_last hτ]
    exact ⟨_, _, _, rfl, h0', h1', h2, h3, hτ⟩
end
/-! ### comprehensions -/
section
variable {G : Gl} {f : Fx} {st : St} {news ex ex' : Led} {h h' : Heap}
theorem Wd.perm {σ : Sig} (W : Wd G σ news ex h) (p : ex.Perm ex') : Wd G σ news ex' h where
  base := W.base
  size := W.size
  imm := W.imm
  exs := fun q hq => W.exs q (p.mem_iff.mpr hq)
  sig := W.sig
  apart := fun q hq => ⟨(W.apart q hq).1, fun r hr => (W.apart q hq).2 r (p.mem_iff.mpr hr)⟩
  sep := fun q hq => W.sep q (p.mem_iff.mpr hq)
  exnd := (p.map (·.1)).nodup_iff.mp W.exnd
  nodup := W.nodup
theorem Fm.perm (F : Fm G f st news ex h) (p : ex.Perm ex') : Fm G f st news ex' h :=
  ⟨F.ok, F.wd.perm p, F.lo, F.names, F.Lnews, fun q hq => F.Lex q (p.mem_iff.mpr hq), fun q hq => ⟨(F.cells q hq).1, (F.cells q hq).2.1, (F.cells q hq).2.2.1, fun r hr => (F.cells q hq).2.2.2 r (p.mem_iff.mpr hr)⟩⟩
/-- a kept object is taken among the data -/
theorem Fm.exNews {p : Addr × Obj} (F : Fm G f st news (p :: ex) h) : Fm G f st (p :: news) ex h := by
  have D := F.drop
  have hn := F.wd.exnd
  rw [List.map_cons, List.nodup_cons] at hn
  refine ⟨F.ok, ⟨F.wd.base, F.wd.size, fun q hq => ?_, D.wd.exs, fun q hq => ?_, fun q hq => ⟨fun r hr => ?_, (D.wd.apart q hq).2⟩, fun q hq r hr => ?_, D.wd.exnd, F.wd.nodup⟩, F.lo, ?_, fun q hq => ?_, D.Lex, fun q hq => ?_⟩
  · rcases List.mem_cons.mp hq with rfl | hq
    · exact F.wd.exs _ (.head _)
    · exact F.wd.imm q hq
  · obtain ⟨⟨vs, n, a, b⟩, c⟩ := F.wd.sig q hq
    exact ⟨⟨vs, n, a.mono fun _ h => .tail _ h, b⟩, c⟩
  · rcases List.mem_cons.mp hr with rfl | hr
    · exact (F.wd.apart q hq).2 _ (.head _)
    · exact (F.wd.apart q hq).1 r hr
  · rcases List.mem_cons.mp hr with rfl | hr
    · exact fun e => hn.1 (e ▸ List.mem_map_of_mem (f := (·.1)) hq)
    · exact F.wd.sep q (.tail _ hq) r hr
  · obtain ⟨m, hn, hm⟩ := F.names
    refine ⟨m, hn, fun x d hx => ?_⟩
    obtain ⟨v, hv, h1⟩ := hm x d hx
    exact ⟨v, hv.mono fun _ h => .tail _ h, h1⟩
  · rcases List.mem_cons.mp hq with rfl | hq
    · exact F.Lex _ (.head _)
    · exact F.Lnews q hq
  · obtain ⟨h1, h2, h3, h4⟩ := F.cells q hq
    refine ⟨h1, h2, fun r hr => ?_, fun r hr => h4 r (.tail _ hr)⟩
    rcases List.mem_cons.mp hr with rfl | hr
    · exact h4 _ (.head _)
    · exact h3 r hr
/-- a kept list is taken among the lists that turn -/
theorem Fm.exSig {a : Addr} {vs : List Value} {n : Nat} {ds : List D} (F : Fm G f st news ((a, lstO vs n) :: ex) h) (hv : DAll news vs ds) : Fm G f ⟨st.Γ, (a, ds) :: st.σ⟩ news ex h := by
  have D := F.drop
  have hn := F.wd.exnd
  rw [List.map_cons, List.nodup_cons] at hn
  refine ⟨F.ok, ⟨F.wd.base, F.wd.size, F.wd.imm, D.wd.exs, fun q hq => ?_, fun q hq => ?_, D.wd.sep, D.wd.exnd, ?_⟩, F.lo, F.names, F.Lnews, D.Lex, D.cells⟩
  · rcases List.mem_cons.mp hq with rfl | hq
    · exact ⟨⟨vs, n, hv, (F.wd.exs _ (.head _)).1⟩, (F.wd.exs _ (.head _)).2⟩
    · exact F.wd.sig q hq
  · rcases List.mem_cons.mp hq with rfl | hq
    · exact ⟨fun r hr => F.wd.sep _ (.head _) r hr, fun r hr e => hn.1 (e ▸ List.mem_map_of_mem (f := (·.1)) hr)⟩
    · exact D.wd.apart q hq
  · rw [List.map_cons, List.nodup_cons]
    refine ⟨fun hm => ?_, F.wd.nodup⟩
    obtain ⟨q, hq, e⟩ := List.mem_map.mp hm
    exact (F.wd.apart q hq).2 _ (.head _) e.symm
end

def gamC (x : Str) (d : D) (cl : List (Str × Addr)) (Γ : Gam) : Gam := fun y => if y = x then some d else if (cl.lookup y).isSome then Γ y else none
abbrev blockFx (f : Fx) (scope : Scope) (cl : List (Str × Addr)) (C : Addr) : Fx := ⟨f.A, compEnvC scope cl C f.env, f.k⟩
structure Blk (f : Fx) (scope : Scope) (cl : List (Str × Addr)) (x : Str) : Prop where
  clos : closureFor scope f.env = pure cl
  cell : ∀ y ∈ scope.names, y.2 ≠ .cell
  kind : scope.kind = .function
  names : ∀ y ∈ scope.names, y.2 = .local → scope.names.lookup y.1 = some .local
  hx : scope.names.lookup x = some .local
  cls : ∀ p ∈ cl, f.env.cells.lookup p.1 = some p.2 ∧ f.env.kindOf p.1 = some .cell ∧ (relabel scope f.env).names.lookup p.1 = some .cell
  nd : (cl.map (·.1)).Nodup
  xcl : cl.lookup x = none

theorem lookup_of_mem {l : List (Str × Addr)} (hn : (l.map (·.1)).Nodup) {p : Str × Addr} (h : p ∈ l) : l.lookup p.1 = some p.2 := by
  induction l with
  | nil => cases h
  | cons q r ih =>
    rw [List.map_cons, List.nodup_cons] at hn
    obtain ⟨k, v⟩ := q
    rw [List.lookup_cons]
    rcases List.mem_cons.mp h with rfl | h
    · simp
    · have : (p.1 == k) = false := by
        rw [beq_eq_false_iff_ne]
        intro e
        exact hn.1 (e ▸ List.mem_map_of_mem (f := (·.1)) h)
      rw [this]
      exact ih hn.2 h
theorem nodup_snd {l : List (Str × Addr)} (hn : (l.map (·.1)).Nodup) (hi : ∀ p ∈ l, ∀ q ∈ l, p.2 = q.2 → p.1 = q.1) : (l.map (·.2)).Nodup := by
  induction l with
  | nil => exact List.nodup_nil
  | cons q r ih =>
    rw [List.map_cons, List.nodup_cons] at hn ⊢
    refine ⟨fun hm => ?_, ih hn.2 fun p hp q hq => hi p (.tail _ hp) q (.tail _ hq)⟩
    obtain ⟨p, hp, e⟩ := List.mem_map.mp hm
    exact hn.1 (hi p (.tail _ hp) q (.head _) e ▸ List.mem_map_of_mem (f := (·.1)) hp)
theorem cellsObj {h : Heap} : ∀ l : List (Str × Addr), (∀ p ∈ l, ∃ w, h.IsCell p.2 w) → ∃ cs : List (Addr × Obj), cs.map (·.1) = l.map (·.2) ∧ ∀ p ∈ cs, h.get? p.1 = some p.2 ∧ (∃ w, p.2.data = .cell w)
  | [], _ => ⟨[], rfl, fun _ hp => nomatch hp⟩
  | q :: r, hl => by
    obtain ⟨cs, e1, e2⟩ := cellsObj r fun p hp => hl p (.tail _ hp)
    obtain ⟨w, o, ho, hd⟩ := hl q (.head _)
    refine ⟨(q.2, o) :: cs, by simp [e1], fun p hp => ?_⟩
    rcases List.mem_cons.mp hp with rfl | hp
    · exact ⟨ho, w, hd⟩
    · exact e2 p hp

section
variable {G : Gl} {f : Fx} {news ex : Led} {h : Heap}
/-- into the block's frame, and back -/
theorem Fm.inn {scope : Scope} {cl : List (Str × Addr)} {x : Str} {C : Addr} {oC : Obj} {Γ : Gam} {σ : Sig} {m : Str → Option Value} {v : Value} {d : D} (B : Blk f scope cl x)
    (F : Fm G f ⟨Γ, σ⟩ news ((C, oC) :: ex) h) (hC0 : G.h₀.objs.size ≤ C) (hn : h.Ns C m) (hv : m x = some v) (hd : DIn news v d) :
    ∃ exI, Fm G (blockFx f scope cl C) ⟨gamC x d cl Γ, σ⟩ news (exI ++ ex) h ∧
      ∀ σ' news' h', (∀ p ∈ news, p ∈ news') → Fm G (blockFx f scope cl C) ⟨gamC x d cl Γ, σ'⟩ news' (exI ++ ex) h' → ∃ oC' m', h'.Ns C m' ∧ Fm G f ⟨Γ, σ'⟩ news' ((C, oC') :: ex) h' := by
  obtain ⟨mL, hnL, hm⟩ := F.names
  obtain ⟨oL, es, ep, hL, hLd, hLk, hLf⟩ := id hnL
  obtain ⟨cs, hcs, hco⟩ := cellsObj (h := h) (f.env.cells.filter fun p => !(cl.map (·.2)).contains p.2) fun p hp => (F.cells p (List.mem_filter.mp hp).1).1
  have clIn : ∀ p ∈ cl, p ∈ f.env.cells := fun p hp => mem_of_lookup (B.cls p hp).1
  have inCells : ∀ p ∈ cs, ∃ q ∈ f.env.cells, q.2 = p.1 ∧ ∀ r ∈ cl, r.2 ≠ p.1 := fun p hp => by
    have : p.1 ∈ (f.env.cells.filter fun p => !(cl.map (·.2)).contains p.2).map (·.2) := hcs ▸ List.mem_map_of_mem (f := (·.1)) hp
    obtain ⟨q, hq, e⟩ := List.mem_map.mp this
    obtain ⟨h1, h2⟩ := List.mem_filter.mp hq
    refine ⟨q, h1, e, fun r hr e2 => ?_⟩
    simp only [Bool.not_eq_true', List.contains_eq_mem, decide_eq_false_iff_not] at h2
    exact h2 (by rw [e, ← e2]; exact List.mem_map_of_mem (f := (·.2)) hr)
  have csOf : ∀ q ∈ f.env.cells, (∀ r ∈ cl, r.2 ≠ q.2) → ∃ p ∈ cs, p.1 = q.2 := fun q hq hr => by
    have : q.2 ∈ cs.map (·.1) := by
      rw [hcs]
      refine List.mem_map_of_mem (f := (·.2)) (List.mem_filter.mpr ⟨hq, ?_⟩)
      simp only [Bool.not_eq_true', List.contains_eq_mem, decide_eq_false_iff_not]
      intro hm
      obtain ⟨r, hr', e⟩ := List.mem_map.mp hm
      exact hr r hr' e
    obtain ⟨p, hp, e⟩ := List.mem_map.mp this
    exact ⟨p, hp, e⟩
  have hCL : C ≠ f.env.locals := F.Lex _ (.head _)
  have hexnd := F.wd.exnd
  rw [List.map_cons, List.nodup_cons] at hexnd
  have hC0' : G.h₀.get? C = none := (F.wd.exs _ (.head _)).2
  have csL : ∀ p ∈ cs, p.1 ≠ f.env.locals := fun p hp e => by
    obtain ⟨ho, w, hw⟩ := hco p hp
    rw [e, hL] at ho; cases ho
    rw [hLd] at hw; cases hw
  have hD := F.drop
  have W : Wd G σ news ((f.env.locals, oL) :: (cs ++ ex)) h := by
    refine ⟨F.wd.base, F.wd.size, F.wd.imm, fun p hp => ?_, F.wd.sig, fun p hp => ⟨(F.wd.apart p hp).1, fun q hq => ?_⟩, fun p hp q hq => ?_, ?_, F.wd.nodup⟩
    · rcases List.mem_cons.mp hp with rfl | hp
      · exact ⟨hL, F.h0L⟩
      · rcases List.mem_append.mp hp with hp | hp
        · obtain ⟨q, hq, e, _⟩ := inCells p hp
          exact ⟨(hco p hp).1, e ▸ (F.cells q hq).2.1⟩
        · exact hD.wd.exs p hp
    · rcases List.mem_cons.mp hq with rfl | hq
      · exact Ne.symm (F.Lsig p hp)
      · rcases List.mem_append.mp hq with hq | hq
        · obtain ⟨ho, w, hw⟩ := hco q hq
          exact Ne.symm (F.cellSig ⟨_, ho, hw⟩ p hp)
        · exact (hD.wd.apart p hp).2 q hq
    · rcases List.mem_cons.mp hp with rfl | hp
      · exact F.Lnews q hq
      · rcases List.mem_append.mp hp with hp | hp
        · obtain ⟨r, hr, e, _⟩ := inCells p hp
          exact e ▸ (F.cells r hr).2.2.1 q hq
        · exact hD.wd.sep p hp q hq
    · rw [List.map_cons, List.map_append, List.nodup_cons, List.nodup_append, hcs]
      refine ⟨fun hm => ?_, (List.filter_sublist.map _).nodup F.ok.nd, hexnd.2, fun a ha b hb q => ?_⟩
      · rcases List.mem_append.mp hm with hm | hm
        · rw [← hcs] at hm
          obtain ⟨p, hp, e⟩ := List.mem_map.mp hm
          exact csL p hp e
        · obtain ⟨p, hp, e⟩ := List.mem_map.mp hm
          exact hD.Lex p hp e
      · obtain ⟨p, hp, rfl⟩ := List.mem_map.mp ha
        obtain ⟨r, hr, rfl⟩ := List.mem_map.mp hb
        exact (hD.cells p (List.mem_filter.mp hp).1).2.2.2 r hr q.symm
  have kx : (compEnvC scope cl C f.env).kindOf x = some .local := lookup_relabel_local B.hx
  have cellC : ∀ {c : Addr} {w : Option Value}, h.IsCell c w → c ≠ C := fun {c w} hc e => by
    obtain ⟨o, ho, hw⟩ := hc
    obtain ⟨o2, _, _, ho2, hd2, _⟩ := hn
    rw [e, ho2] at ho; cases ho
    rw [hd2] at hw; cases hw
  refine ⟨(f.env.locals, oL) :: cs, ⟨⟨F.ok.room, B.kind, F.ok.glob, F.ok.blt, nodup_snd B.nd fun p hp q hq e => nodup_inj F.ok.nd (clIn p hp) (e ▸ clIn q hq)⟩, W, hC0, ⟨m, hn, fun y e hy => ?_⟩, fun q hq => F.wd.sep _ (.head _) q hq, fun q hq => ?_, fun p hp => ?_⟩, fun σ' news' h' hs F' => ?_⟩
  · show ∃ v, DIn news v e ∧ _
    simp only [gamC] at hy
    by_cases e1 : y = x
    · subst e1
      rw [if_pos rfl] at hy
      cases hy
      exact ⟨v, hd, .inl ⟨kx, hv⟩⟩
    · rw [if_neg e1] at hy
      by_cases e2 : (cl.lookup y).isSome = true
      · rw [if_pos e2] at hy
        obtain ⟨c, hc⟩ := Option.isSome_iff_exists.mp e2
        obtain ⟨a1, a2, a3⟩ := B.cls _ (mem_of_lookup hc)
        obtain ⟨u, hu, h1⟩ := hm y e hy
        refine ⟨u, hu, .inr ⟨a3, c, hc, ?_⟩⟩
        rcases h1 with ⟨b1, _⟩ | ⟨b1, c', b2, b3⟩
        · rw [b1] at a2; cases a2
        · rw [b2] at a1; cases a1; exact b3
      · rw [if_neg e2] at hy; cases hy
  · rcases List.mem_cons.mp hq with rfl | hq
    · exact Ne.symm hCL
    · rcases List.mem_append.mp hq with hq | hq
      · obtain ⟨ho, w, hw⟩ := hco q hq
        exact cellC ⟨_, ho, hw⟩
      · intro e
        refine hexnd.1 ?_
        show C ∈ _
        rw [← (show q.1 = C from e)]
        exact List.mem_map_of_mem (f := (·.1)) hq
  · obtain ⟨h1, h2, h3, h4⟩ := F.cells p (clIn p hp)
    refine ⟨h1, h2, h3, fun q hq => ?_⟩
    rcases List.mem_cons.mp hq with rfl | hq
    · obtain ⟨w, hw⟩ := h1
      exact Ne.symm (F.cellL hw)
    · rcases List.mem_append.mp hq with hq | hq
      · obtain ⟨_, _, _, z⟩ := inCells q hq
        exact Ne.symm (z p hp)
      · exact h4 q (.tail _ hq)
  · obtain ⟨m', hn', hm'⟩ := F'.names
    obtain ⟨oC', es', ep', hC', hCd', hCk', hCf'⟩ := id hn'
    have hL' : h'.get? f.env.locals = some oL := (F'.wd.exs _ (.head _)).1
    have cs' : ∀ p ∈ cs, h'.get? p.1 = some p.2 := fun p hp => (F'.wd.exs p (.tail _ (List.mem_append_left _ hp))).1
    refine ⟨oC', m', hn', F.ok, ⟨F'.wd.base, F'.wd.size, F'.wd.imm, fun p hp => ?_, F'.wd.sig, fun p hp => ⟨(F'.wd.apart p hp).1, fun q hq => ?_⟩, fun p hp => ?_, F.wd.exnd, F'.wd.nodup⟩, F.lo, ⟨mL, ⟨oL, es, ep, hL', hLd, hLk, hLf⟩, fun y e hy => ?_⟩, F'.wd.sep _ (.head _), fun q hq => ?_, fun p hp => ?_⟩
    · rcases List.mem_cons.mp hp with rfl | hp
      · exact ⟨hC', hC0'⟩
      · exact F'.wd.exs p (.tail _ (List.mem_append_right _ hp))
    · rcases List.mem_cons.mp hq with rfl | hq
      · exact Ne.symm (F'.Lsig p hp)
      · exact (F'.wd.apart p hp).2 q (.tail _ (List.mem_append_right _ hq))
    · rcases List.mem_cons.mp hp with rfl | hp
      · exact F'.Lnews
      · exact F'.wd.sep p (.tail _ (List.mem_append_right _ hp))
    · obtain ⟨u, hu, h1⟩ := hm y e hy
      rcases h1 with ⟨b1, b2⟩ | ⟨b1, c, b2, b3⟩
      · exact ⟨u, hu.mono hs, .inl ⟨b1, b2⟩⟩
      · by_cases z : ∀ r ∈ cl, r.2 ≠ c
        · obtain ⟨p, hp, e1⟩ := csOf (y, c) (mem_of_lookup b2) z
          obtain ⟨o, ho, hw⟩ := b3
          dsimp only at e1
          subst e1
          rw [(hco p hp).1] at ho
          cases ho
          exact ⟨u, hu.mono hs, .inr ⟨b1, _, b2, p.2, cs' p hp, hw⟩⟩
        · have : ∃ r ∈ cl, r.2 = c := by
            apply Classical.byContradiction
            intro hne
            exact z fun r hr e => hne ⟨r, hr, e⟩
          obtain ⟨r, hr, e1⟩ := this
          have e2 : r.1 = y := nodup_inj F.ok.nd (clIn r hr) (e1 ▸ mem_of_lookup b2)
          have e3 : cl.lookup y = some c := by rw [← e2, ← e1]; exact lookup_of_mem B.nd hr
          have e4 : y ≠ x := fun q => by rw [q, B.xcl] at e3; cases e3
          have hg : gamC x d cl Γ y = some e := by
            unfold gamC
            rw [if_neg e4, if_pos (by rw [e3]; rfl)]; exact hy
          obtain ⟨u', hu', h1⟩ := hm' y e hg
          refine ⟨u', hu', .inr ⟨b1, c, b2, ?_⟩⟩
          rcases h1 with ⟨k1, _⟩ | ⟨_, c', k2, k3⟩
          · have k3 := (B.cls r hr).2.2
            rw [e2] at k3
            have k4 : (relabel scope f.env).names.lookup y = some .local := k1
            rw [k3] at k4; cases k4
          · have k4 : cl.lookup y = some c' := k2
            rw [e3] at k4; cases k4; exact k3
    · rcases List.mem_cons.mp hq with rfl | hq
      · exact hCL
      · exact F.Lex q (.tail _ hq)
    · obtain ⟨h1, h2, h3, h4⟩ := F.cells p hp
      have h4' : ∀ q ∈ (C, oC') :: ex, q.1 ≠ p.2 := fun q hq => by
        rcases List.mem_cons.mp hq with rfl | hq
        · exact h4 (C, oC) (.head _)
        · exact h4 q (.tail _ hq)
      by_cases z : ∀ r ∈ cl, r.2 ≠ p.2
      · obtain ⟨q, hq, e1⟩ := csOf p hp z
        obtain ⟨ho, w, hw⟩ := hco q hq
        refine ⟨⟨w, q.2, e1 ▸ cs' q hq, hw⟩, h2, fun r hr => ?_, h4'⟩
        rw [← e1]
        exact F'.wd.sep q (.tail _ (List.mem_append_left _ hq)) r hr
      · have : ∃ r ∈ cl, r.2 = p.2 := by
          apply Classical.byContradiction
          intro hne
          exact z fun r hr e => hne ⟨r, hr, e⟩
        obtain ⟨r, hr, e1⟩ := this
        obtain ⟨k1, k2, k3, _⟩ := F'.cells r hr
        rw [e1] at k1 k3
        exact ⟨k1, h2, k3, h4'⟩
end
/-! ### comprehensions: the loop -/
structure WI (G : Gl) (f : Fx) (ifs : List Expr) (st : St) (Q : Bool → St → Prop) : Prop where
  run : ∀ (news ex : Led) (s : Shared) (Q' : Bool → Shared → Prop) (E : Value → Shared → Prop), Fm G f st news ex s.heap → Lets G f (fun _ b c => b = c) news ex s Q Q' →
    wpAny (model G.prog G.w) f.A (forIn ifs true fun c r => if r = true then do let ok ← isTrue c f.env (eval c f.env); pure (ForInStep.yield ok) else pure (ForInStep.yield r)) Q' E s
theorem WI.nil {G : Gl} {f : Fx} {st : St} {Q : Bool → St → Prop} (h : Q true st) : WI G f [] st Q :=
  ⟨fun _ _ s _ _ F c => wpAny_tests_nil (c _ _ _ _ s.heap s.toks h (fun _ x => x) F rfl)⟩
theorem WI.one {G : Gl} {f : Fx} {st : St} {t : Expr} {Q : Bool → St → Prop} (h : WT G f t st Q) : WI G f [t] st Q :=
  ⟨fun news ex s Q' E F c => wpAny_tests_one (h.run news ex s Q' E F c)⟩
section
variable {G : Gl} {f : Fx} {st : St} {news ex : Led}
theorem comp_loop {scope : Scope} {cl : List (Str × Addr)} {x : Str} {px : Pos} {elt iter : Expr} {ifs : List Expr} {pos : Pos} {I C A₁ : Addr} {oI oC : Obj} {n0 : Nat} {fp : List Addr} {P : Nat → Value → Prop} {Sw : Nat → Heap → Prop}
    {ds : List D} {s : Shared} {Γ : Gam} {σ : Sig} {m : Str → Option Value} {R : Result → Shared → Prop} (B : Blk f scope cl x) (Inv : Nat → List D → Sig → Prop)
    (W : Walks G.prog G.w f.A I fp [I] ds.length P Sw) (hP : ∀ i v, P i v → ∀ d, ds[i]? = some d → DIn news v d) (hfp : ∀ b ∈ fp, b = I ∨ ∃ o, (b, o) ∈ news) (hSo : ∀ i h, Sw i h → ∃ o, h.get? I = some o) (hS0 : Sw 0 s.heap)
    (F : Fm G f ⟨Γ, σ⟩ news ((I, oI) :: (A₁, lstO [] n0) :: (C, oC) :: ex) s.heap) (hn : s.heap.Ns C m) (hC0 : G.h₀.objs.size ≤ C) (h0 : Inv 0 [] σ)
    (step : ∀ i d out σ, ds[i]? = some d → Inv i out σ → ∀ C, WI G (blockFx f scope cl C) ifs ⟨gamC x d cl Γ, σ⟩ fun b st' => st'.Γ = gamC x d cl Γ ∧
      if b then WE G (blockFx f scope cl C) elt st' (fun y st'' => st''.Γ = gamC x d cl Γ ∧ Inv (i + 1) (out ++ [y]) st''.σ) else Inv (i + 1) out st'.σ)
    (hl : ∀ i out σ, Inv i out σ → out.length ≤ 1000)
    (fin : ∀ out σ vs n news' h' tk o' m', Inv ds.length out σ → (∀ p ∈ news, p ∈ news') → Fm G f ⟨Γ, σ⟩ news' ((A₁, lstO vs n) :: (C, o') :: ex) h' → DAll news' vs out → h'.Ns C m' → R (.ok .next) { s with heap := h', toks := tk }) :
    codeAny (model G.prog G.w) f.A (.compLoop (.ListComp elt [⟨.Name x px, iter, ifs, 0⟩] scope pos) 0 (.ref I) (.ref A₁) (compEnvC scope cl C f.env)) R s := by
  have kx : (compEnvC scope cl C f.env).kindOf x = some .local := lookup_relabel_local B.hx
  refine codeAny_compLoop_tests
    (fun k s' => ∃ h' tk σ' news' out vs n o o' m' i, s' = { s with heap := h', toks := tk } ∧ Sw i h' ∧ (∀ p ∈ news, p ∈ news') ∧ Fm G f ⟨Γ, σ'⟩ news' ((I, o) :: (A₁, lstO vs n) :: (C, o') :: ex) h' ∧ DAll news' vs out ∧ h'.Ns C m' ∧ Inv i out σ' ∧ i ≤ ds.length ∧ k = ds.length + 1 - i) ?_ (ds.length + 1)
    ⟨s.heap, s.toks, σ, news, [], [], n0, oI, oC, m, 0, rfl, hS0, fun _ x => x, F, .nil, hn, h0, Nat.zero_le _, rfl⟩
  rintro k s' ⟨h', tk, σ', news', out, vs, n, o, o', m', i, rfl, hst', hsub, F', hall, hn', hI, hi, rfl⟩
  by_cases hlt : i < ds.length
  · refine W.item i _ _ _ hlt hst' fun v h₁ tk₁ hv hst₁ hk₁ => ?_
    obtain ⟨o₁, ho₁⟩ := hSo _ _ hst₁
    have kk₁ : ∀ b x, b ≠ I → h'.get? b = some x → h₁.get? b = some x := fun b x hb e => hk₁ b x (by simpa using hb) e
    have F₁ := F'.turn kk₁ ho₁
    have nd := F'.wd.exnd
    simp only [List.map_cons, List.nodup_cons, List.mem_cons, not_or] at nd
    obtain ⟨⟨nIA, nIC, nIex⟩, ⟨nAC, nAex⟩, nCex, ndex⟩ := nd
    have hnC₁ : h₁.Ns C m' := hn'.at' fun o e => kk₁ _ o (Ne.symm nIC) e
    have hd := hP i v hv (ds[i]'hlt) (by simp [hlt])
    have hdi : ds[i]? = some (ds[i]'hlt) := by simp [hlt]
    generalize ds[i]'hlt = d at hd hdi
    refine wpAny_assign_Name (wpAny_storeName_local kx hnC₁ (fun h₂ hn₂ hs₂ => ?_) (by show (scope.kind == .class || (scope.kind == .module && _)) = false; rw [B.kind]; rfl))
    have FC := F₁.perm (ex' := (C, o') :: (I, o₁) :: (A₁, lstO vs n) :: ex) (((List.Perm.swap _ _ _).cons _).trans (List.Perm.swap _ _ _))
    obtain ⟨oC₂, ho₂⟩ : ∃ o, h₂.get? C = some o := ⟨_, (id hn₂).choose_spec.choose_spec.choose_spec.1⟩
    have F₂ := FC.turn (fun b x hb e => (hs₂.2 b hb).trans e) ho₂
    have hst₂ : Sw (i + 1) h₂ := W.frame _ _ _ hst₁ fun b hb x e => by
      rcases hfp b hb with rfl | ⟨ob, hob⟩
      · exact (hs₂.2 _ nIC).trans e
      · exact (hs₂.2 b (F₁.wd.sep (C, o') (.tail _ (.tail _ (.head _))) _ (hsub _ hob))).trans e
    obtain ⟨exI, FI, back⟩ := F₂.inn B hC0 hn₂ (by simp) (hd.mono hsub)
    have keepSw : ∀ (news₃ : Led) (h₃ : Heap), (∀ p ∈ news', p ∈ news₃) → (∀ p : Addr × Obj, p ∈ news₃ → h₃.get? p.1 = some p.2) → h₃.get? I = some o₁ → Sw (i + 1) h₃ := fun news₃ h₃ hs₃ himm hI₃ => W.frame _ _ _ hst₂ fun b hb x e => by
      rcases hfp b hb with rfl | ⟨ob, hob⟩
      · have := (F₂.wd.exs (b, o₁) (.tail _ (.head _))).1
        dsimp only at this
        rw [this] at e; cases e; exact hI₃
      · have e1 := (F₂.wd.imm _ (hsub _ hob)).1
        rw [e] at e1; cases e1
        exact himm _ (hs₃ _ (hsub _ hob))
    refine (step i d out σ' hdi hI C).run news' _ _ _ _ FI fun b st₃ b' news₃ h₃ tk₃ hq hs₃ F₃ hb => ?_
    subst hb
    obtain ⟨hΓ, hq⟩ := hq
    obtain ⟨Γ₃, σ₃⟩ := st₃
    dsimp only at hΓ
    subst hΓ
    cases b' with
    | false =>
      rw [if_neg Bool.false_ne_true] at hq ⊢
      obtain ⟨oC₃, m₃, hn₃, G₃⟩ := back σ₃ news₃ h₃ hs₃ F₃
      refine ⟨ds.length + 1 - (i + 1), by omega, h₃, tk₃, σ₃, news₃, out, vs, n, o₁, oC₃, m₃, i + 1, rfl, keepSw _ _ hs₃ (fun p hp => (G₃.wd.imm p hp).1) (G₃.wd.exs (I, o₁) (.tail _ (.head _))).1, fun p hp => hs₃ p (hsub p hp), G₃.perm ?_, hall.mono hs₃, hn₃, hq, hlt, rfl⟩
      exact (List.Perm.swap _ _ _).trans ((List.Perm.swap _ _ _).cons _)
    | true =>
      rw [if_pos rfl] at hq ⊢
      refine hq.run news₃ _ _ _ _ F₃ fun y st₄ yv news₄ h₄ tk₄ hq₄ hs₄ F₄ hy => ?_
      obtain ⟨hΓ, hq₄⟩ := hq₄
      obtain ⟨Γ₄, σ₄⟩ := st₄
      dsimp only at hΓ hq₄
      subst hΓ
      obtain ⟨oC₄, m₄, hn₄, G₄⟩ := back σ₄ news₄ h₄ (fun p hp => hs₄ p (hs₃ p hp)) F₄
      have hD₄ : h₄.get? A₁ = some (lstO vs n) := (G₄.wd.exs (A₁, lstO vs n) (.tail _ (.tail _ (.head _)))).1
      have hall₄ := hall.mono fun p hp => hs₄ p (hs₃ p hp)
      have hlen : vs.toArray.size ≤ sizeLine := by
        rw [List.size_toArray, hall.length]
        exact Nat.le_trans (hl _ _ _ hI) (by decide)
      refine wpAny_list_append_plain (items := vs.toArray) ⟨n, hD₄⟩ (fun h₅ hp₅ hs₅ => ?_) hlen
      obtain ⟨n₅, hn₅⟩ := hp₅
      have G₄' := G₄.perm (ex' := (A₁, lstO vs n) :: (C, oC₄) :: (I, o₁) :: ex) (((List.Perm.swap _ _ _).cons _).trans (List.Perm.swap _ _ _))
      have G₅ := G₄'.turn (h' := h₅) (o' := lstO (vs ++ [yv]) n₅) (fun b x hb e => (hs₅.2 b hb).trans e) (by simpa using hn₅)
      refine ⟨ds.length + 1 - (i + 1), by omega, h₅, tk₄, σ₄, news₄, out ++ [y], vs ++ [yv], n₅, o₁, oC₄, m₄, i + 1, rfl, keepSw _ _ (fun p hp => hs₄ p (hs₃ p hp)) (fun p hp => (G₅.wd.imm p hp).1) (G₅.wd.exs (I, o₁) (.tail _ (.tail _ (.head _)))).1, fun p hp => hs₄ p (hs₃ p (hsub p hp)), G₅.perm ?_, hall₄.append (.cons hy .nil), hn₄.sameBut hs₅ (Ne.symm nAC), hq₄, hlt, rfl⟩
      exact ((List.Perm.swap _ _ _).cons _).trans (List.Perm.swap _ _ _)
  · have hin : i = ds.length := by omega
    subst hin
    refine W.done _ _ _ hst' fun h₁ tk₁ hk₁ => ?_
    have kk₁ : ∀ b x, b ≠ I → h'.get? b = some x → h₁.get? b = some x := fun b x hb e => hk₁ b x (by simpa using hb) e
    have nd := F'.wd.exnd
    simp only [List.map_cons, List.nodup_cons, List.mem_cons, not_or] at nd
    exact fin out σ' vs n news' h₁ tk₁ o' m' hI hsub (F'.leave kk₁) hall (hn'.at' fun o e => kk₁ _ o (Ne.symm nd.1.2.1) e)
end
/-! ### comprehensions: the rules -/
structure Cmpr (G : Gl) (f : Fx) (scope : Scope) (cl : List (Str × Addr)) (x : Str) (elt : Expr) (ifs : List Expr) (ds : List D) (Γ : Gam) (σ : Sig) (Fin : List D → Sig → Prop) (Inv : Nat → List D → Sig → Prop) : Prop where
  init : Inv 0 [] σ
  step : ∀ i d out σ, ds[i]? = some d → Inv i out σ → ∀ C, WI G (blockFx f scope cl C) ifs ⟨gamC x d cl Γ, σ⟩ fun b st' => st'.Γ = gamC x d cl Γ ∧
      if b then WE G (blockFx f scope cl C) elt st' (fun y st'' => st''.Γ = gamC x d cl Γ ∧ Inv (i + 1) (out ++ [y]) st''.σ) else Inv (i + 1) out st'.σ
  len : ∀ i out σ, Inv i out σ → out.length ≤ 1000
  fin : ∀ out σ, Inv ds.length out σ → Fin out σ
section
variable {G : Gl} {f : Fx} {st : St}
theorem comp_block {scope : Scope} {cl : List (Str × Addr)} {x : Str} {px : Pos} {elt iter : Expr} {ifs : List Expr} {pos : Pos} {use : Option (Value → Sem Unit)} {Q' : Value → Shared → Prop} {E : Value → Shared → Prop} {s : Shared} {news ex : Led} {Fin : List D → Sig → Prop}
    (B : Blk f scope cl x) (hs : ∀ v, foldedSetIterable iter f.env v = pure v) (F : Fm G f st news ex s.heap)
    (h : WE G f iter st fun d st₁ => ∃ ds Inv, Iter d ds ∧ Cmpr G f scope cl x elt ifs ds st₁.Γ st₁.σ (fun out σ => Fin out σ ∧ True) Inv ∧ st₁.Γ = st.Γ)
    (fin : ∀ out σ vs n A₁ C news' h' tk o' m', Fin out σ → (∀ p ∈ news, p ∈ news') → Fm G f ⟨st.Γ, σ⟩ news' ((A₁, lstO vs n) :: (C, o') :: ex) h' → DAll news' vs out → h'.Ns C m' →
      compPost (model G.prog G.w) f.A E use Q' (.ref A₁) C (.ok .next) { s with heap := h', toks := tk }) :
    wpAny (model G.prog G.w) f.A (comprehension (.ListComp elt [⟨.Name x px, iter, ifs, 0⟩] scope pos) scope f.env (firstIterPos [⟨.Name x px, iter, ifs, 0⟩] pos) (newList []) false (eval iter f.env) use) Q' E s := by
  refine wpAny_comprehension_free rfl hs B.clos B.kind B.names (h.run news ex s _ E F fun d st₁ v news₁ h₁ tk₁ hq hs₁ F₁ hv => ?_)
  obtain ⟨ds, Inv, hit, Z, hΓ⟩ := hq
  obtain ⟨Γ₁, σ₁⟩ := st₁
  dsimp only at hΓ
  subst hΓ
  refine iter_ (s := { s with heap := h₁, toks := tk₁ }) F₁ hv hit fun oI fp P Sw tk W hP hfp hSo _ hS0 F₂ => ?_
  refine wpAny_newObj_type (wpAny_newFunctionEnv B.cell (by intro y hy; simp at hy) (fun h₂ hns₂ hsb₂ => ?_) B.kind)
  dsimp only at hns₂ hsb₂ F₂ hS0 W hfp hSo ⊢
  have F₃ := F₂.takeEx (o := lstO [] 0)
  have F₄ := F₃.takeEx (o := { cls := .type "dict", data := .dict #[] })
  obtain ⟨oC, hoC⟩ : ∃ o, h₂.get? (h₁.push oI |>.push (lstO [] 0)).objs.size = some o := ⟨_, (id hns₂).choose_spec.choose_spec.choose_spec.1⟩
  have F₅ := F₄.turn (h' := h₂) (fun b x hb e => (hsb₂.2 b hb).trans e) hoC
  have F₆ := F₅.perm (((List.Perm.swap _ _ _).trans ((List.Perm.swap _ _ _).cons _)).trans (List.Perm.swap _ _ _))
  have hS₂ : Sw 0 h₂ := W.frame _ _ _ hS0 fun b hb o e => by
    have h1 := Heap.get?_push_of_some (lstO [] 0) e
    have h2 := Heap.get?_push_of_some ({ cls := .type "dict", data := .dict #[] } : Obj) h1
    exact (hsb₂.2 b (Nat.ne_of_lt (Heap.lt_size h1))).trans h2
  have loop : codeAny (model G.prog G.w) f.A (.compLoop (.ListComp elt [⟨.Name x px, iter, ifs, 0⟩] scope pos) 0 (.ref h₁.objs.size) (.ref (h₁.push oI).objs.size) (compEnvC scope cl (h₁.push oI |>.push (lstO [] 0)).objs.size f.env))
      (compPost (model G.prog G.w) f.A E use Q' (.ref (h₁.push oI).objs.size) (h₁.push oI |>.push (lstO [] 0)).objs.size) { s with heap := h₂, toks := tk + 0 } := by
    refine comp_loop (s := { s with heap := h₂, toks := tk + 0 }) B Inv W hP hfp hSo hS₂ F₆ hns₂ F₃.wd.size Z.init Z.step Z.len fun out σ vs n news' h' tk' o' m' hI hsub F' hall hn' => ?_
    exact fin out σ vs n _ _ news' h' tk' o' m' (Z.fin _ _ hI).1 (fun p hp => hsub p (hs₁ p hp)) F' hall hn'
  exact codeAny_compStart_list loop (W.self 0 _ _ _ hS₂ loop)
theorem weComp {scope : Scope} {cl : List (Str × Addr)} {x : Str} {px : Pos} {elt iter : Expr} {ifs : List Expr} {pos : Pos} {Q : D → St → Prop} (B : Blk f scope cl x)
    (h : WE G f iter st fun d st₁ => ∃ ds Inv, Iter d ds ∧ Cmpr G f scope cl x elt ifs ds st₁.Γ st₁.σ (fun out σ => Q (.list out) ⟨st.Γ, σ⟩ ∧ True) Inv ∧ st₁.Γ = st.Γ)
    (hs : ∀ env v, foldedSetIterable iter env v = pure v := by intro _ _; rfl) : WE G f (.ListComp elt [⟨.Name x px, iter, ifs, 0⟩] scope pos) st Q := by
  refine ⟨fun news ex s Q' E F c => ?_⟩
  rw [eval_ListComp]
  refine comp_block (use := none) B (hs _) F h fun out σ vs n A₁ C news' h' tk o' m' hq hsub F' hall hn' => ?_
  refine ⟨m', hn', fun h'' hs'' => ?_⟩
  have F₂ := (F'.perm (List.Perm.swap _ _ _)).leave (h' := h'') fun b x hb e => (hs''.2 b hb).trans e
  exact c _ ⟨st.Γ, σ⟩ (.ref A₁) _ h'' tk hq (fun p hp => .tail _ (hsub p hp)) F₂.exNews (.list (.head _) (hall.mono fun _ h => .tail _ h))
theorem wxAssignComp {scope : Scope} {cl : List (Str × Addr)} {x y : Str} {px py : Pos} {elt iter : Expr} {ifs : List Expr} {pos spos : Pos} {Q : Out → St → Prop} (B : Blk f scope cl x)
    (h : WE G f iter st fun d st₁ => ∃ ds Inv, Iter d ds ∧ Cmpr G f scope cl x elt ifs ds st₁.Γ st₁.σ (fun out σ => (∀ a, (∀ p ∈ σ, p.1 ≠ a) → Q .next ((⟨st.Γ, (a, out) :: σ⟩ : St).set y (.mut a))) ∧ True) Inv ∧ st₁.Γ = st.Γ) (hk : Stor f y)
    (hsw : swapsWith (.ListComp elt [⟨.Name x px, iter, ifs, 0⟩] scope pos) (some (.Name y py)) spos.line f.env = pure true)
    (hs : ∀ env v, foldedSetIterable iter env v = pure v := by intro _ _; rfl) : WX G f (.Assign [.Name y py] (.ListComp elt [⟨.Name x px, iter, ifs, 0⟩] scope pos) spos) st Q := by
  refine ⟨fun news ex s Q' E F c => ?_⟩
  rw [exec_Assign_Name_used _ _ _ _ hsw]
  refine wpAny_bind (wpAny_standAt (wpAny_bind ?_))
  show wpAny _ f.A (do let _ ← comprehension (.ListComp elt [⟨.Name x px, iter, ifs, 0⟩] scope pos) scope f.env _ (newList []) false (eval iter f.env) (some (assign (.Name y py) f.env))) _ _ s
  refine wpAny_bind (wpAny_mono (comp_block (use := some (assign (.Name y py) f.env)) (Q' := fun _ s' => Q' .next s') B (hs _) F h fun out σ vs n A₁ C news' h' tk o' m' hq hsub F' hall hn' => ?_)
    (fun _ s' hq => wpAny_pure (wpAny_pure hq)) fun _ _ e => e)
  have F₂ := F'.exSig hall
  refine wpAny_assign_Name (storeName_ hk F₂ (.mut A₁) fun h₂ tk₂ F₃ => ?_)
  refine ⟨m', hn'.at' fun o e => ?_, fun h'' hs'' => ?_⟩
  · have e1 := (F₂.wd.exs _ (.head _)).1
    have e2 := (F₃.wd.exs _ (.head _)).1
    dsimp only at e1 e2
    rw [e1] at e; cases e; exact e2
  · have F₄ := F₃.leave (h' := h'') fun b x hb e => (hs''.2 b hb).trans e
    refine c _ _ _ _ h'' tk₂ (hq A₁ fun p hp => ?_) hsub F₄ .next
    have := F₂.wd.nodup
    rw [List.map_cons, List.nodup_cons] at this
    exact fun e => this.1 (e ▸ List.mem_map_of_mem (f := (·.1)) hp)
end
/-! ### calls of defs with cells -/
theorem snoc_lookup {α : Type} (l : List (Str × α)) (x y : Str) (u : α) : (l ++ [(y, u)]).lookup x = match l.lookup x with
    | some z => some z
    | none => if x == y then some u else none := by
  induction l with
  | nil =>
    rw [List.nil_append, List.lookup_cons]
    cases x == y <;> rfl
  | cons p r ih =>
    obtain ⟨k, w⟩ := p
    rw [List.cons_append, List.lookup_cons, List.lookup_cons, ih]
    cases x == k <;> rfl
theorem bindL_eq {kindOf : Str → Option NameKind} {y : Str} (hy : kindOf y = some .local) : ∀ (binds : List (Str × Value)) (m : Str → Option Value), bindL kindOf binds m y = match binds.reverse.lookup y with
    | some v => some v
    | none => m y
  | [], m => rfl
  | (n, v) :: r, m => by
    rw [bindL, bindL_eq hy r, List.reverse_cons, snoc_lookup]
    cases r.reverse.lookup y with
    | some z => rfl
    | none =>
      dsimp only
      by_cases e : y = n
      · subst e; rw [if_pos hy]; simp
      · have : (y == n) = false := beq_eq_false_iff_ne.mpr e
        rw [this]
        by_cases k : kindOf n = some .local
        · rw [if_pos k]; simp [e]
        · rw [if_neg k]; simp
theorem bindC_eq {kindOf : Str → Option NameKind} {y : Str} (hy : ¬ kindOf y = some .local) : ∀ (binds : List (Str × Value)) (m : Str → Option Value), bindC kindOf binds m y = match binds.reverse.lookup y with
    | some v => some v
    | none => m y
  | [], m => rfl
  | (n, v) :: r, m => by
    rw [bindC, bindC_eq hy r, List.reverse_cons, snoc_lookup]
    cases r.reverse.lookup y with
    | some z => rfl
    | none =>
      dsimp only
      by_cases e : y = n
      · subst e; rw [if_neg hy]; simp
      · have : (y == n) = false := beq_eq_false_iff_ne.mpr e
        rw [this]
        by_cases k : kindOf n = some .local
        · rw [if_pos k]; simp
        · rw [if_neg k]; simp [e]
def calleeC (A : Around) (qual : Str) (scope : Scope) (L a : Addr) (cdv : Value) (k : Nat) : Fx := ⟨A.deeper (envOfC qual scope L a cdv), envOfC qual scope L a cdv, k⟩
theorem callsC {G : Gl} {x : Str} {a : Addr} {params : Arguments} {body : List Stmt} {scope : Scope} (Fa : FnAt G x a params body scope) {k : Nat} {ds : List D} {σ : Sig} {Q : D → Sig → Prop} (xs : List Str)
    (h : ∀ A qual L cdv, WS G (calleeC A qual scope L a cdv k) body ⟨gam xs ds, σ⟩ (Back Q))
    (hb : ∀ (name qual : Str) (doc pm : Value) (an : Option Addr) (cdv ct : Value) (vs : List Value), vs.length = ds.length → bindArgs (fnOf name qual params body scope .none .none doc pm an cdv ct) ⟨vs, []⟩ = pure (xs.zip vs))
    (hkind : ∀ n, ∀ y ∈ xs, scope.names.lookup y = some .local ∨ (scope.names.lookup y = some .cell ∧ ((cellsFrom n scope.names []).lookup y).isSome = true))
    (hnd : ((cellsFrom 0 scope.names []).map (·.1)).Nodup)
    (hk : scope.kind = .function) (hco : scope.isCoroutine = false) (hgen : scope.isGenerator = false) : Calls G (.ref a) (k + 1) ds σ Q := by
  refine ⟨fun A news ex s vs Q' E R W hvs c => ?_⟩
  obtain ⟨oc, od, osl, name, qual, doc, pm, an, cdv, ct, hlook, hcd⟩ := Fa.obj
  have X : G.K.In s.heap := G.X.keeps W.base
  refine wpAny_call (codeAny_call_function (fd := fnOf name qual params body scope .none .none doc pm an cdv ct) (body := body) (by have := R.depth; omega) (X _ _ hlook) rfl hco hgen rfl (codeRec_of X hcd) ((BindsTo.of_eq (hb _ _ _ _ _ _ _ _ hvs.length)) _ _ _ _ ?_))
  have zk : ∀ p ∈ xs.zip vs, p.1 ∈ xs := fun p hp => (List.of_mem_zip (by exact hp)).1
  refine wpAny_newFunctionEnv_cells hk (fun p hp => hkind _ p.1 (zk p hp)) fun env' he s' x => ?_
  subst he
  refine ⟨(G.T.nolimit.keeps W.base).keeps x.toInCall.keep, codeAny_func ?_⟩
  obtain ⟨h₁, tk, rfl, _⟩ := x.done
  have hkeep := x.toInCall.keep
  have hns := x.toInCall.ns
  show wpAny (model G.prog G.w) (A.deeper (envOfC qual scope s.heap.objs.size a cdv)) (execs body (envOfC qual scope s.heap.objs.size a cdv)) _ _ _
  have hL : s.heap.objs.size < h₁.objs.size := by
    obtain ⟨o, _, _, ho, _⟩ := id hns
    exact Heap.lt_size ho
  have F : Fm G (calleeC A qual scope s.heap.objs.size a cdv k) ⟨gam xs ds, σ⟩ news ex h₁ := by
    refine ⟨⟨⟨R.handled, ?_, ?_⟩, hk, rfl, rfl, ?_⟩, W.grow' hkeep (Nat.le_trans W.size (Nat.le_of_lt hL)), W.size, ⟨_, hns, fun y d hy => ?_⟩, fun q hq => Nat.ne_of_lt (Heap.lt_size (W.imm q hq).1), fun q hq => Nat.ne_of_lt (Heap.lt_size (W.exs q hq).1), fun p hp => ?_⟩
    · have := R.depth
      show A.depth + 1 + k < recursionLimit
      omega
    · have := R.units
      show A.units + 3 + 100 * (k + 1) < cLine
      omega
    · exact List.pairwise_map.mpr x.apart
    · obtain ⟨v, hv, hd⟩ := rev_lookup hvs y d hy
      have hmem : y ∈ xs := by
        have := mem_of_lookup hv
        exact (List.of_mem_zip (List.mem_reverse.mp this)).1
      refine ⟨v, hd, ?_⟩
      rcases hkind (s.heap.objs.size + 1) y hmem with hl | ⟨hl, hc⟩
      · refine .inl ⟨hl, ?_⟩
        refine Eq.trans (bindL_eq ?_ _ _) ?_
        · exact hl
        · rw [hv]
      · obtain ⟨c', hc⟩ := Option.isSome_iff_exists.mp hc
        refine .inr ⟨hl, c', hc, ?_⟩
        have := x.cell y c' hc
        have e2 := bindC_eq (kindOf := Env.kindOf (envOfC qual scope s.heap.objs.size a cdv)) (y := y) (by show ¬ scope.names.lookup y = some .local; rw [hl]; decide) (xs.zip vs) (fun _ => none)
        rw [hv] at e2
        have e3 : bindC (Env.kindOf (envOfC qual scope s.heap.objs.size a cdv)) (xs.zip vs) (fun _ => none) y = some v := e2
        rw [← e3]
        exact this
    · have hab := x.above p.1 p.2 hp
      have hab' : s.heap.objs.size < p.2 := hab
      refine ⟨⟨_, x.cell p.1 p.2 (lookup_of_mem_nodup (cellsFrom_names scope.names 0 (s.heap.objs.size + 1) [] [] rfl ▸ hnd) hp)⟩, ?_, fun q hq => ?_, fun q hq => ?_⟩
      · cases z : G.h₀.get? p.2 with
        | none => rfl
        | some o => exact absurd (Nat.lt_of_lt_of_le (Heap.lt_size z) W.size) (Nat.not_lt.mpr (Nat.le_of_lt hab'))
      · have := Heap.lt_size (W.imm q hq).1
        exact Nat.ne_of_lt (Nat.lt_trans this hab')
      · have := Heap.lt_size (W.exs q hq).1
        exact Nat.ne_of_lt (Nat.lt_trans this hab')
  refine (h A qual s.heap.objs.size cdv).run news ex { s with heap := h₁, toks := tk } _ _ F fun o st' fl news' h' tk' hq hs' F' hfl => ?_
  cases hfl with
  | next => cases hq with | next hq => exact c _ _ _ _ _ _ hq hs' F'.wd .none
  | brk => cases hq
  | cont => cases hq
  | ret hd => cases hq with | ret hq => exact c _ _ _ _ _ _ hq hs' F'.wd hd
theorem Calls.goC {G : Gl} {x : Str} {a : Addr} (Fa : Fn G x a) {params : Arguments} {body : List Stmt} {scope : Scope} (e : PySem.Challenge.pw_pq0448_01.theDef x = some (params, body, scope)) {k : Nat} {ds : List D} {σ : Sig} {Q : D → Sig → Prop} (xs : List Str)
    (hb : ∀ (name qual : Str) (body : List Stmt) (scope : Scope) (doc pm : Value) (an : Option Addr) (cdv ct : Value) (vs : List Value), vs.length = ds.length → bindArgs (fnOf name qual params body scope .none .none doc pm an cdv ct) ⟨vs, []⟩ = pure (xs.zip vs))
    (hkind : ∀ n, ∀ y ∈ xs, scope.names.lookup y = some .local ∨ (scope.names.lookup y = some .cell ∧ ((cellsFrom n scope.names []).lookup y).isSome = true))
    (hnd : ((cellsFrom 0 scope.names []).map (·.1)).Nodup)
    (hk : scope.kind = .function) (hco : scope.isCoroutine = false) (hgen : scope.isGenerator = false)
    (h : ∀ A qual L cdv, WS G (calleeC A qual scope L a cdv k) body ⟨gam xs ds, σ⟩ (Back Q)) : Calls G (.ref a) (k + 1) ds σ Q :=
  callsC (Fa.fnAt e) xs h (fun name qual => hb name qual body scope) hkind hnd hk hco hgen
/-! ### rows drawn -/
theorem br {B n c : Nat} (hB : B < 1000000) (hn : n ≤ 3) (hc : c ≤ 100 := by decide) : B + n + c < 1099511627776 := by omega
theorem br0 {B i n : Nat} (hB : B < 1000000) (hi : i < n) (hn : n ≤ 3) : B + i < 1099511627776 := by omega
theorem bs {B c : Nat} (hB : B < 1000000) (hc : c ≤ 100 := by decide) : B + c < 1099511627776 := by omega
theorem b6 {B n c : Nat} (hn : n ≤ 3) (hc : c ≤ 3 := by decide) : B + n + c ≤ B + 6 := by omega
theorem b7 {r n : Nat} (h : r < n) (hn : n ≤ 3) : (r : Int) < 1000 := by omega
theorem gamC_in {x y : Str} {d e : D} {cl : List (Str × Addr)} {Γ : Gam} (h1 : (y == x) = false) (h2 : (cl.lookup y).isSome = true) (h : Γ y = some e) : gamC x d cl Γ y = some e := by
  unfold gamC; rw [if_neg (beq_eq_false_iff_ne.mp h1), if_pos h2]; exact h
theorem gamC_eq {x : Str} {d : D} {cl : List (Str × Addr)} {Γ : Gam} : gamC x d cl Γ x = some d := if_pos rfl
def lvs : List Lt := [.v0, .v1, .vx, .vb, .vq]
theorem lv_str {σ : Sig} {r : Nat} (h : r < 5) : ∃ l : Lt, l.isE = false ∧ ItemD σ (.str "01xb?") (.int (r : Nat)) l.d :=
  match r, h with
  | 0, _ => ⟨.v0, rfl, ItemD.str (c := 48) (by decide) (by decide) rfl⟩
  | 1, _ => ⟨.v1, rfl, ItemD.str (c := 49) (by decide) (by decide) rfl⟩
  | 2, _ => ⟨.vx, rfl, ItemD.str (c := 120) (by decide) (by decide) rfl⟩
  | 3, _ => ⟨.vb, rfl, ItemD.str (c := 98) (by decide) (by decide) rfl⟩
  | 4, _ => ⟨.vq, rfl, ItemD.str (c := 63) (by decide) (by decide) rfl⟩
theorem lv_str' {σ : Sig} {r : Nat} (h : r < 5) : ∃ l : Lt, l.isE = false ∧ ItemD σ (.str "01x?b") (.int (r : Nat)) l.d :=
  match r, h with
  | 0, _ => ⟨.v0, rfl, ItemD.str (c := 48) (by decide) (by decide) rfl⟩
  | 1, _ => ⟨.v1, rfl, ItemD.str (c := 49) (by decide) (by decide) rfl⟩
  | 2, _ => ⟨.vx, rfl, ItemD.str (c := 120) (by decide) (by decide) rfl⟩
  | 3, _ => ⟨.vq, rfl, ItemD.str (c := 63) (by decide) (by decide) rfl⟩
  | 4, _ => ⟨.vb, rfl, ItemD.str (c := 98) (by decide) (by decide) rfl⟩
theorem ou_str {σ : Sig} {r : Nat} (h : r < 4) : ∃ l : Ou, ItemD σ (.str "01x-") (.int (r : Nat)) l.d :=
  match r, h with
  | 0, _ => ⟨.o0, ItemD.str (c := 48) (by decide) (by decide) rfl⟩
  | 1, _ => ⟨.o1, ItemD.str (c := 49) (by decide) (by decide) rfl⟩
  | 2, _ => ⟨.ox, ItemD.str (c := 120) (by decide) (by decide) rfl⟩
  | 3, _ => ⟨.om, ItemD.str (c := 45) (by decide) (by decide) rfl⟩
theorem ou_str' {σ : Sig} {r : Nat} (h : r < 4) : ∃ l : Ou, ItemD σ (.str "01x1") (.int (r : Nat)) l.d :=
  match r, h with
  | 0, _ => ⟨.o0, ItemD.str (c := 48) (by decide) (by decide) rfl⟩
  | 1, _ => ⟨.o1, ItemD.str (c := 49) (by decide) (by decide) rfl⟩
  | 2, _ => ⟨.ox, ItemD.str (c := 120) (by decide) (by decide) rfl⟩
  | 3, _ => ⟨.o1, ItemD.str (c := 49) (by decide) (by decide) rfl⟩
def edgeL : List Lt := [.er, .ef, .ep, .en, .es, .e01, .ebx, .eqq, .e1b]
theorem ed_at {σ : Sig} {r : Nat} (h : r < 9) : ∃ l : Lt, ItemD σ (.list (edgeL.map Lt.d)) (.int (r : Nat)) l.d := by
  obtain ⟨l, hl⟩ := at_of (l := edgeL) (i := r) h
  exact ⟨l, ItemD.lstN (by omega) (by simp [hl])⟩
/-- a row, of levels and one edge at most -/
theorem ok_levels {ls : List Lt} {n : Nat} {hd : Option Lt} {o : Ou} (hl : ls.length = n) (hn : n < 900) (h : ∀ l ∈ ls, l.isE = false) (hh : ∀ h, hd = some h → h.isE = false) : Rw.Ok ⟨ls, hd, o⟩ n :=
  ⟨hl, hn, fun i j a b ha hb ea eb => (by rw [h a (List.mem_of_getElem? ha)] at ea; cases ea), hh⟩
theorem ok_set {ls : List Lt} {n k : Nat} {e : Lt} {hd : Option Lt} {o : Ou} (hl : ls.length = n) (hn : n < 900) (h : ∀ l ∈ ls, l.isE = false) (hh : ∀ h, hd = some h → h.isE = false) : Rw.Ok ⟨ls.set k e, hd, o⟩ n := by
  have key : ∀ (i : Nat) (a : Lt), (ls.set k e)[i]? = some a → a.isE = true → i = k := by
    intro i a ha ea
    rw [List.getElem?_set] at ha
    by_cases q : k = i
    · exact q.symm
    · rw [if_neg q] at ha
      rw [h a (List.mem_of_getElem? ha)] at ea; cases ea
  exact ⟨by simp [hl], hn, fun i j a b ha hb ea eb => (key i a ha ea).trans (key j b hb eb).symm, hh⟩
theorem Calls.tail {G : Gl} {fv : Value} {k : Nat} {ds : List D} {σ : Sig} {Q : D → Sig → Prop} (h : Calls G fv k ds σ fun d σ' => ∃ τ σ₂ : Sig, σ' = τ ++ σ₂ ∧ Q d σ₂) : Calls G fv k ds σ Q := by
  have lose : ∀ (τ σ : Sig) (news ex : Led) (h : Heap), Wd G (τ ++ σ) news ex h → Wd G σ news ex h := by
    intro τ σ
    induction τ with
    | nil => exact fun _ _ _ W => W
    | cons p τ ih => exact fun _ _ _ W => ih _ _ _ W.lose
  refine ⟨fun A news ex s vs Q' E R W hvs c => h.run A news ex s vs Q' E R W hvs fun d σ' v news' h' tk' q hs W' hv => ?_⟩
  obtain ⟨τ, σ₂, rfl, q⟩ := q
  exact c _ _ _ _ _ _ q hs (lose τ _ _ _ _ W') hv
theorem JarAt.cons {j a : Addr} {τ σ : Sig} {B : Nat} {x : List D} (h : JarAt j τ B σ) (ha : ∀ p ∈ σ, p.1 ≠ a) : JarAt j ((a, x) :: τ) B ((a, x) :: σ) := by
  obtain ⟨c, b, cells, rfl, h2, h3, h4, h5, h6⟩ := h
  refine ⟨c, b, cells, rfl, h2, h3, h4, h5, fun p hp => ?_⟩
  rcases List.mem_cons.mp hp with rfl | hp
  · exact fun e => ha (j, jarL c b cells) (List.mem_append_right _ (.head _)) e.symm
  · exact h6 p hp
theorem JarAt.mem {j a : Addr} {τ σ : Sig} {B : Nat} {x : List D} (h : JarAt j ((a, x) :: τ) B σ) : (a, x) ∈ σ := by
  obtain ⟨c, b, cells, rfl, _⟩ := h
  exact .head _
theorem JarAt.up {j a : Addr} {τ σ : Sig} {B : Nat} {x x' : List D} (h : JarAt j ((a, x) :: τ) B σ) : JarAt j ((a, x') :: τ) B (upS a x' σ) := by
  obtain ⟨c, b, cells, rfl, h2, h3, h4, h5, h6⟩ := h
  refine ⟨c, b, cells, by rw [List.cons_append, upS_head]; rfl, h2, h3, h4, h5, fun p hp => ?_⟩
  rcases List.mem_cons.mp hp with rfl | hp
  · exact h6 (a, x) (.head _)
  · exact h6 p (.tail _ hp)
theorem JarAt.drop {j a : Addr} {τ σ : Sig} {B : Nat} {x : List D} (h : JarAt j ((a, x) :: τ) B σ) : ∃ τ' σ₂ : Sig, σ = τ' ++ σ₂ ∧ JarAt j τ B σ₂ := by
  obtain ⟨c, b, cells, rfl, h2, h3, h4, h5, h6⟩ := h
  exact ⟨[(a, x)], _, rfl, c, b, cells, rfl, h2, h3, h4, h5, fun p hp => h6 p (.tail _ hp)⟩
section
variable {G : Gl} (P : Prog G)
include P
theorem c_row (j : Addr) (B n : Nat) (kept : Bool) {σ : Sig} {Q : D → Sig → Prop} (hJ : JarAt j [] B σ) (hB : B < 1000000) (hn : 0 < n) (hn9 : n ≤ 3)
    (h : ∀ (r : Rw) σ', r.Ok n → r.held.isSome = kept → JarAt j [] (B + 10) σ' → Q r.d σ') : Calls G (.ref 152) 2 [.mut j, .int (n : Nat), .bool kept] σ Q := by
  refine Calls.tail ?_
  refine Calls.goC P.row rfl ["jar", "size", "kept"] (by intro _ _ _ _ _ _ _ _ _ vs hl; exact lst3 (P := fun vs => bindArgs _ ⟨vs, []⟩ = pure (List.zip _ vs)) (fun _ _ _ => rfl) vs hl) ?_ (by decide) rfl rfl rfl fun A qual L cdv => ?_
  · intro m y hy
    simp only [List.mem_cons, List.not_mem_nil, or_false] at hy
    rcases hy with rfl | rfl | rfl <;> first | exact .inl rfl | exact .inr ⟨rfl, rfl⟩
  refine WS.step (wxAssignComp (cl := [("jar", L + 1)]) ⟨rfl, by decide, rfl, by decide, rfl, ?_, by show List.Nodup [("jar" : Str)]; decide, rfl⟩ (WE.range (Bn.of P.bRange boot_range' rfl (by decide +kernel)) ?_) (.inl rfl) rfl)
  · intro p hp
    rcases List.mem_singleton.mp hp with rfl
    exact ⟨rfl, rfl, rfl⟩
  · repeat cell_call
    refine ⟨_, fun i out σ => ∃ ls : List Lt, out = ls.map Lt.d ∧ ls.length = i ∧ (∀ l ∈ ls, l.isE = false) ∧ i ≤ n ∧ JarAt j [] (B + i) σ, Iter.rng (Nat.lt_of_le_of_lt hn9 (by decide)), ⟨⟨[], rfl, rfl, (fun _ hl => by cases hl), Nat.zero_le _, hJ⟩, ?_, ?_, ?_⟩, rfl⟩
    · rintro i d out σ hd ⟨ls, rfl, hl, hlv, hi, hJ⟩ C
      have hin : i < n := by
        have := (List.getElem?_eq_some_iff.mp hd).1
        simpa using this
      refine WI.nil ⟨rfl, ifT rfl ?_⟩
      refine WE.sub (WE.str (WE.callAt P.atDraw 1 rfl rfl ?_))
      refine WL.cons ?_
      refine' WE.name (x := "jar") (d := .mut j) ?hx ?_
      case hx =>
        show gamC "turn" d [("jar", L + 1)] (gam ["jar", "size", "kept"] [.mut j, .int (n : Nat), .bool kept]) "jar" = some (.mut j)
        refine gamC_in ?_ ?_ ?_
        · decide +kernel
        · rfl
        · rfl
      repeat cell_call
      refine c_draw P j [] (B + i) 5 hJ (br0 hB hin hn9) (by decide) (by decide) fun r hr σ' hJ' => ?_
      obtain ⟨l, hle, hit⟩ := lv_str (σ := σ') hr
      refine ⟨_, hit, rfl, ls ++ [l], by simp, by simp [hl], fun m hm => ?_, hin, hJ'⟩
      rcases List.mem_append.mp hm with hm | hm
      · exact hlv m hm
      · rw [List.mem_singleton.mp hm]; exact hle
    · rintro i out σ ⟨ls, rfl, hl, hlv, hi, hJ⟩
      rw [List.length_map, hl]; exact Nat.le_trans hi (Nat.le_trans hn9 (by decide))
    · rintro out σ ⟨ls, rfl, hl, hlv, hi, hJ⟩
      refine ⟨fun a ha => ?_, trivial⟩
      refine .next ?_
      rw [show (List.map (fun i => D.int (i : Nat)) (List.range n)).length = n by simp] at hl hi hJ
      have hJ := hJ.cons (x := ls.map Lt.d) ha
      refine WS.mid (fun st' => st'.Γ "jar" = some (.mut j) ∧ st'.Γ "kept" = some (.bool kept) ∧ st'.Γ "letters" = some (.mut a) ∧ ∃ ls', JarAt j [(a, ls'.map Lt.d)] (B + 6) st'.σ ∧ ls'.length = n ∧ ∀ hd o, (∀ h, hd = some h → h.isE = false) → Rw.Ok ⟨ls', hd, o⟩ n) ?_ ?_
      · refine WX.ite (WT.and (WT.plain (WE.name (by got_up) ⟨_, rfl, ?_⟩)))
        refine ifB (fun e1 => ?_) (fun e1 => ?_)
        · refine WT.and (WT.cmp (WE.callAt P.atDraw 1 rfl rfl ?_))
          repeat cell_call
          refine c_draw P j _ _ 2 hJ (br (c := 0) hB hn9) (by decide) (by decide) fun r hr σ₁ hJ₁ => ?_
          repeat cell_call
          refine ifB (fun e2 => ?_) (fun e2 => ?_)
          · refine WT.and_nil (ifT rfl ?_)
            refine WS.step (WX.assign (WE.list ?_) (.inl rfl))
            repeat cell_call
            refine WX.setItem (WE.sub (WE.name St.eq (WE.callAt P.atDraw 1 rfl rfl ?_)))
            repeat cell_call
            refine c_draw P j _ _ 9 hJ₁ (br (c := 1) hB hn9) (by decide) (by decide) fun r2 hr2 σ₂ hJ₂ => ?_
            obtain ⟨e, he⟩ := ed_at (σ := σ₂) hr2
            refine ⟨_, he, ?_⟩
            repeat cell_call
            refine WE.callAt P.atDraw 1 rfl rfl ?_
            repeat cell_call
            refine c_draw P j _ _ n hJ₂ (br (c := 2) hB hn9) hn (Nat.lt_of_le_of_lt hn9 (by decide)) fun r3 hr3 σ₃ hJ₃ => ?_
            refine ⟨a, ls.map Lt.d, r3, rfl, rfl, Int.natCast_nonneg _, b7 hr3 hn9, by rw [List.length_map, hl]; exact hr3, hJ₃.mem, ?_⟩
            repeat cell_call
            refine ⟨by got_up, by got_up, by got_up, ls.set r3 e, ?_, by simp [hl], fun hd o hh => ok_set hl (Nat.lt_of_le_of_lt hn9 (by decide)) hlv hh⟩
            have := (hJ₃.up (x' := (ls.map Lt.d).set (r3 : Int).toNat e.d)).le (B' := B + 6) (b6 (c := 3) hn9)
            rw [List.map_set]
            exact this
          · repeat cell_call
            exact ⟨rfl, rfl, rfl, ls, hJ₁.le (b6 (c := 1) hn9), hl, fun hd o hh => ok_levels hl (Nat.lt_of_le_of_lt hn9 (by decide)) hlv hh⟩
        · repeat cell_call
          exact ⟨rfl, rfl, rfl, ls, hJ.le (b6 (c := 0) hn9), hl, fun hd o hh => ok_levels hl (Nat.lt_of_le_of_lt hn9 (by decide)) hlv hh⟩
      · rintro st' ⟨g1, g2, g3, ls', hJ', hl', hok⟩
        refine WS.step (WX.ret (WE.tuple (WL.cons (WE.tupleOf (Bn.of P.bTuple boot_tuple' rfl (by decide +kernel)) (WE.name g3 ⟨ls'.map Lt.d, by rw [List.length_map, hl']; exact Nat.le_trans hn9 (by decide), .inr ⟨a, rfl, hJ'.mem⟩, ?_⟩)))))
        have fin : ∀ (hd : Option Lt) (o : Ou) (σ' : Sig), (∀ h, hd = some h → h.isE = false) → hd.isSome = kept → JarAt j [(a, ls'.map Lt.d)] (B + 10) σ' → ∃ τ σ₂, σ' = τ ++ σ₂ ∧ Q (.tuple [.tuple (ls'.map Lt.d), heldD hd, o.d]) σ₂ := by
          intro hd o σ' h1 h2 h3
          obtain ⟨τ', σ₂, e, h4⟩ := h3.drop
          exact ⟨τ', σ₂, e, h ⟨ls', hd, o⟩ σ₂ (hok hd o h1) h2 h4⟩
        cases kept
        · repeat cell_call
          refine WE.callAt P.atDraw 1 rfl rfl ?_
          repeat cell_call
          refine c_draw P j _ _ 4 hJ' (bs (c := 6) hB) (by decide) (by decide) fun r hr σ₁ hJ₁ => ?_
          obtain ⟨o, ho⟩ := ou_str' (σ := σ₁) hr
          refine ⟨_, ho, ?_⟩
          repeat cell_call
          exact ⟨.ret (.ret (fin none o _ (fun _ e => by cases e) rfl (hJ₁.le (Nat.add_le_add_left (by decide : 7 ≤ 10) B)))), Nat.le_of_ble_eq_true rfl⟩
        · repeat cell_call
          refine WE.callAt P.atDraw 1 rfl rfl ?_
          repeat cell_call
          refine c_draw P j _ _ 5 hJ' (bs (c := 6) hB) (by decide) (by decide) fun r hr σ₁ hJ₁ => ?_
          obtain ⟨hd, hhe, hhd⟩ := lv_str' (σ := σ₁) hr
          refine ⟨_, hhd, ?_⟩
          repeat cell_call
          refine WE.callAt P.atDraw 1 rfl rfl ?_
          repeat cell_call
          refine c_draw P j _ _ 4 hJ₁ (bs (c := 7) hB) (by decide) (by decide) fun r hr σ₁ hJ₁ => ?_
          obtain ⟨o, ho⟩ := ou_str (σ := σ₁) hr
          refine ⟨_, ho, ?_⟩
          repeat cell_call
          exact ⟨.ret (.ret (fin (some hd) o _ (fun _ e => by cases e; exact hhe) rfl (hJ₁.le (Nat.add_le_add_left (by decide : 8 ≤ 10) B)))), Nat.le_of_ble_eq_true rfl⟩
end
/-! ### the class of the program -/
def initDef : Option (Arguments × List Stmt × Scope) := (PySem.Challenge.pw_pq0448_01.theClass "Primitive").bind fun x => theDefIn x.2.1 "__init__"
def attrs : List Str := ["name", "at", "output", "inputs", "sequential", "init", "rows"]
structure Pmk (G : Gl) : Prop where
  at' : At G "Primitive" 31
  make : makesIn G.K 31 = true
  init : findIn G.K (.ref 31) "__init__" = some (some (.ref 28))
  typ : typeIn G.K (.ref 28) = some (.type "function")
  over : plainOver G.K 31 = true
  seta : findIn G.K (.ref 31) "__setattr__" = some (some (.builtin "object.__setattr__"))
  dict : hasDictIn G.K 31 = true
  taker : ∀ y ∈ attrs, takerIn G.K 31 y = some none
  code : ∀ params body scope, initDef = some (params, body, scope) → ∃ (oc : Value) (od : Option Addr) (osl : Array (Option Value)) (name qual : Str) (doc pm : Value) (an : Option Addr) (cdv ct : Value), G.K.lookup 28 = some ⟨oc, od, .func (fnOf name qual params body scope .none .none doc pm an cdv ct), osl⟩ ∧ codeIn G.K cdv qual = true
theorem sigObj {news : Led} {h : Heap} : ∀ σ : Sig, (∀ p ∈ σ, ∃ vs n, DAll news vs p.2 ∧ h.get? p.1 = some (lstO vs n)) → ∃ l : List (Addr × Obj), (∀ q ∈ l, h.get? q.1 = some q.2 ∧ ∃ p ∈ σ, p.1 = q.1) ∧ ∀ p ∈ σ, ∃ vs n, DAll news vs p.2 ∧ (p.1, lstO vs n) ∈ l
  | [], _ => ⟨[], (fun _ hq => by cases hq), fun _ hp => by cases hp⟩
  | p :: σ, H => by
    obtain ⟨l, h1, h2⟩ := sigObj σ fun q hq => H q (.tail _ hq)
    obtain ⟨vs, n, a, b⟩ := H p (.head _)
    refine ⟨(p.1, lstO vs n) :: l, fun q hq => ?_, fun q hq => ?_⟩
    · rcases List.mem_cons.mp hq with rfl | hq
      · exact ⟨b, p, .head _, rfl⟩
      · obtain ⟨x, r, hr, e⟩ := h1 q hq
        exact ⟨x, r, .tail _ hr, e⟩
    · rcases List.mem_cons.mp hq with rfl | hq
      · exact ⟨vs, n, a, .head _⟩
      · obtain ⟨vs, n, a, b⟩ := h2 q hq
        exact ⟨vs, n, a, .tail _ b⟩
def TextKeys (es : List DictEntry) : Prop := ∀ e ∈ es, ∃ x t, e.key = .str x t
theorem TextKeys.refs {es : List DictEntry} (h : TextKeys es) : es.any (·.refKey) = false := by
  rw [List.any_eq_false]
  intro e he
  obtain ⟨x, t, k⟩ := h e he
  simp [DictEntry.refKey, k]
theorem TextKeys.get {es : List DictEntry} (h : TextKeys es) (name : Str) : (getL name es).isSome = true := by
  unfold getL
  split
  · rfl
  · rw [h.refs]; rfl
theorem TextKeys.put {es : List DictEntry} (h : TextKeys es) (name : Str) (hsh : Int) (x : Str) (t : Tok) (v : Value) : TextKeys (putL name hsh (.str x t) v es) := by
  induction es with
  | nil =>
    intro e he
    rw [putL] at he
    rw [List.mem_singleton.mp he]; exact ⟨x, t, rfl⟩
  | cons e r ih =>
    unfold putL
    split
    · intro e' he'
      rcases List.mem_cons.mp he' with rfl | he'
      · exact h e (.head _)
      · exact h e' (.tail _ he')
    · intro e' he'
      rcases List.mem_cons.mp he' with rfl | he'
      · exact h _ (.head _)
      · exact ih (fun e he => h e (.tail _ he)) e' he'
theorem putL_len (name : Str) (hsh : Int) (key v : Value) : ∀ es : List DictEntry, (putL name hsh key v es).length ≤ es.length + 1
  | [] => by rw [putL]; simp
  | e :: r => by
    have := putL_len name hsh key v r
    unfold putL
    split <;> simp_all
theorem putL_get (name : Str) (hsh : Int) (t : Tok) (v : Value) : ∀ es : List DictEntry, getL name (putL name hsh (.str name t) v es) = some (some v)
  | [] => by simp [putL, getL, Value.isStr]
  | e :: r => by
    have ih := putL_get name hsh t v r
    unfold putL
    by_cases q : e.key.isStr name = true
    · rw [if_pos q]
      simp [getL, q]
    · rw [if_neg q]
      unfold getL at ih ⊢
      rw [List.find?_cons]
      rw [Bool.not_eq_true] at q
      rw [q]
      dsimp only
      revert ih
      cases z : List.find? (fun x => x.key.isStr name) (putL name hsh (.str name t) v r) with
      | some e' => exact fun ih => ih
      | none =>
        intro ih
        dsimp only at ih
        split at ih
        · cases ih
        · cases ih
section
variable {G : Gl} {f : Fx} {st : St} {news ex : Led}
/-- an attribute of the object under construction is set -/
theorem attr_ {s : Shared} {x dx : Addr} {es : List DictEntry} {n : Nat} {name : Str} {v : Value} {Q : Unit → Shared → Prop} {E : Value → Shared → Prop} (M : Pmk G) (hname : name ∈ attrs)
    (F : Fm G f st news ((dx, dictOf es n) :: ex) s.heap) (hx : (x, instObj 31 dx) ∈ news) (hc : f.env.cells = []) (hk : TextKeys es) (hl : es.length ≤ 900)
    (h : ∀ hsh t n' h' tk, Fm G f st news ((dx, dictOf (putL name hsh (.str name t) v es) n') :: ex) h' → Q () { s with heap := h', toks := tk }) : wpAny (model G.prog G.w) f.A (setAttr (.ref x) name v) Q E s := by
  obtain ⟨m, hn, hm⟩ := F.names
  obtain ⟨l, h1, h2⟩ := sigObj (news := news) (h := s.heap) st.σ fun p hp => (F.wd.sig p hp).1
  have hnd := F.wd.exnd
  rw [List.map_cons, List.nodup_cons] at hnd
  have Fr0 : Fr G.h₀ f.env.locals s.heap m := ⟨hn, F.wd.base, F.lo⟩
  have N0 : News G.h₀ f.env.locals s.heap ((dx, dictOf es n) :: (news ++ (ex ++ l))) := by
    intro p hp
    rcases List.mem_cons.mp hp with rfl | hp
    · exact ⟨(F.wd.exs _ (.head _)).1, F.Lex _ (.head _), (F.wd.exs _ (.head _)).2⟩
    · rcases List.mem_append.mp hp with hp | hp
      · exact ⟨(F.wd.imm p hp).1, F.Lnews p hp, (F.wd.imm p hp).2⟩
      · rcases List.mem_append.mp hp with hp | hp
        · exact ⟨(F.wd.exs p (.tail _ hp)).1, F.Lex p (.tail _ hp), (F.wd.exs p (.tail _ hp)).2⟩
        · obtain ⟨a, q, hq, e⟩ := h1 p hp
          exact ⟨a, e ▸ F.Lsig q hq, e ▸ (F.wd.sig q hq).2⟩
  have I : InstAt s.heap x (instObj 31 dx) 31 (some (dictOf es n)) := ⟨(F.wd.imm _ hx).1, rfl, rfl, (F.wd.exs _ (.head _)).1⟩
  refine set_dict (K := G.K) (C := 31) Fr0 G.X N0 I rfl M.seta M.over (M.taker _ hname) M.dict (hk.get name) (es' := putL name (PyData.keyHash G.w.params name) (.str name (s.toks + 1)) v es) (n' := putN name es n) rfl (Upd.head ?_) ?_ fun h' Fr' N' => ?_
  · intro p hp
    rcases List.mem_append.mp hp with hp | hp
    · exact F.wd.sep _ (.head _) p hp
    · rcases List.mem_append.mp hp with hp | hp
      · exact fun e => hnd.1 (e ▸ List.mem_map_of_mem (f := (·.1)) hp)
      · obtain ⟨a, q, hq, e⟩ := h1 p hp
        exact e ▸ Ne.symm ((F.wd.apart q hq).2 _ (.head _))
  · exact Nat.le_trans (putL_len _ _ _ _ _) (by omega)
  · refine h (PyData.keyHash G.w.params name) (s.toks + 1) (putN name es n) h' _ ?_
    refine ⟨F.ok, ⟨Fr'.keep, Nat.le_trans F.lo (Nat.le_of_lt Fr'.ns.lt), fun p hp => ?_, fun p hp => ?_, fun p hp => ?_, fun p hp => ⟨(F.wd.apart p hp).1, fun q hq => ?_⟩, fun p hp => ?_, F.wd.exnd, F.wd.nodup⟩, F.lo, ⟨m, Fr'.ns, fun y d hy => ?_⟩, F.Lnews, fun q hq => ?_, fun p hp => ?_⟩
    · exact ⟨(N' p (.tail _ (List.mem_append_left _ hp))).1, (F.wd.imm p hp).2⟩
    · rcases List.mem_cons.mp hp with rfl | hp
      · exact ⟨(N' _ (.head _)).1, (F.wd.exs _ (.head _)).2⟩
      · exact ⟨(N' p (.tail _ (List.mem_append_right _ (List.mem_append_left _ hp)))).1, (F.wd.exs p (.tail _ hp)).2⟩
    · obtain ⟨vs, k, a, b⟩ := h2 p hp
      exact ⟨⟨vs, k, a, (N' _ (.tail _ (List.mem_append_right _ (List.mem_append_right _ b)))).1⟩, (F.wd.sig p hp).2⟩
    · rcases List.mem_cons.mp hq with rfl | hq
      · exact (F.wd.apart p hp).2 (dx, dictOf es n) (.head _)
      · exact (F.wd.apart p hp).2 q (.tail _ hq)
    · rcases List.mem_cons.mp hp with rfl | hp
      · exact F.wd.sep (dx, dictOf es n) (.head _)
      · exact F.wd.sep p (.tail _ hp)
    · obtain ⟨u, hu, k⟩ := hm y d hy
      refine ⟨u, hu, k.imp id ?_⟩
      rintro ⟨_, c, hc', _⟩
      rw [hc] at hc'; cases hc'
    · rcases List.mem_cons.mp hq with rfl | hq
      · exact F.Lex (dx, dictOf es n) (.head _)
      · exact F.Lex q (.tail _ hq)
    · rw [hc] at hp; cases hp
theorem attrS_ {s : Shared} {x dx : Addr} {es : List DictEntry} {n : Nat} {name y : Str} {d : D} {p1 p2 p3 pos : Pos} {rest : List Stmt} {Q : Flow → Shared → Prop} {E : Value → Shared → Prop} (M : Pmk G) (hname : name ∈ attrs)
    (F : Fm G f st news ((dx, dictOf es n) :: ex) s.heap) (hx : (x, instObj 31 dx) ∈ news) (hc : f.env.cells = []) (hk : TextKeys es) (hl : es.length ≤ 900) (hself : st.Γ "self" = some (.mut x)) (hy : st.Γ y = some d) (hd : (y == ("__debug__" : Str)) = false)
    (h : ∀ hsh t n' h' tk v news', (∀ p ∈ news, p ∈ news') → DIn news' v d → Fm G f st news' ((dx, dictOf (putL name hsh (.str name t) v es) n') :: ex) h' → wpAny (model G.prog G.w) f.A (execs rest f.env) Q E { s with heap := h', toks := tk }) :
    wpAny (model G.prog G.w) f.A (execs (.Assign [.Attribute (.Name "self" p1) name p2] (.Name y p3) pos :: rest) f.env) Q E s := by
  refine wpAny_execs_cons (plainObj_wpAny_Assign_Attribute (hs := rfl) ?_)
  refine (WE.name (Q := fun e st' => e = d ∧ st' = st) hy ⟨rfl, rfl⟩ hd).run news _ s _ E F fun e st₁ v news₁ h₁ tk₁ hq hs₁ F₁ hv => ?_
  obtain ⟨rfl, rfl⟩ := hq
  refine (WE.name (Q := fun e st' => e = .mut x ∧ st' = st₁) hself ⟨rfl, rfl⟩).run news₁ _ { s with heap := h₁, toks := tk₁ } _ E F₁ fun e' st₂ v' news₂ h₂ tk₂ hq hs₂ F₂ hv' => ?_
  obtain ⟨rfl, rfl⟩ := hq
  cases hv'
  refine attr_ M hname F₂ (hs₂ _ (hs₁ _ hx)) hc hk hl fun hsh t n' h' tk F' => ?_
  exact h hsh t n' h' tk v news₂ (fun p hp => hs₂ p (hs₁ p hp)) (hv.mono hs₂) F'
end
theorem Wd.pushEx {G : Gl} {σ : Sig} {news ex : Led} {h : Heap} {o : Obj} (W : Wd G σ news ex h) (hf : o.isFreed = false := by rfl) : Wd G σ news ((h.objs.size, o) :: ex) (h.push o) := by
  have P := W.push (o := o) hf
  have lt : ∀ a x, h.get? a = some x → a ≠ h.objs.size := fun a x e => Nat.ne_of_lt (Heap.lt_size e)
  refine ⟨P.base, P.size, fun p hp => P.imm p (.tail _ hp), fun p hp => ?_, fun p hp => ?_, fun p hp => ⟨(W.apart p hp).1, fun q hq => ?_⟩, fun p hp q hq => ?_, ?_, W.nodup⟩
  · rcases List.mem_cons.mp hp with rfl | hp
    · exact P.imm _ (.head _)
    · exact P.exs p hp
  · obtain ⟨⟨vs, n, a, b⟩, c⟩ := W.sig p hp
    exact ⟨⟨vs, n, a, Heap.get?_push_of_some _ b⟩, c⟩
  · rcases List.mem_cons.mp hq with rfl | hq
    · obtain ⟨⟨vs, n, a, b⟩, c⟩ := W.sig p hp
      exact Ne.symm (lt _ _ b)
    · exact (W.apart p hp).2 q hq
  · rcases List.mem_cons.mp hp with rfl | hp
    · exact lt _ _ (W.imm q hq).1
    · exact W.sep p hp q hq
  · rw [List.map_cons, List.nodup_cons]
    refine ⟨fun hm => ?_, W.exnd⟩
    obtain ⟨p, hp, e⟩ := List.mem_map.mp hm
    exact lt _ _ (W.exs p hp).1 e
theorem enter_ {G : Gl} {A : Around} {a : Addr} {name qual : Str} {params : Arguments} {body : List Stmt} {scope : Scope} {doc pm cdv ct oc : Value} {an od : Option Addr} {osl : Array (Option Value)} {k : Nat} {σ : Sig} {news ex : Led} {s : Shared} {vs : List Value} {ds : List D} {RR : Result → Shared → Prop}
    (hlook : G.K.lookup a = some ⟨oc, od, .func (fnOf name qual params body scope .none .none doc pm an cdv ct), osl⟩) (hcd : codeIn G.K cdv qual = true) (R : Room A (k + 1)) (W : Wd G σ news ex s.heap) (hvs : DAll news vs ds) (xs : List Str)
    (hb : bindArgs (fnOf name qual params body scope .none .none doc pm an cdv ct) ⟨vs, []⟩ = pure (xs.zip vs)) (hloc : ∀ y ∈ xs, scope.names.lookup y = some .local) (hcell : ∀ x ∈ scope.names, x.2 ≠ .cell)
    (hk : scope.kind = .function) (hco : scope.isCoroutine = false) (hgen : scope.isGenerator = false)
    (h : ∀ L h₁ tk E, Fm G (calleeFx A qual scope L a cdv k) ⟨gam xs ds, σ⟩ news ex h₁ → wpAny (model G.prog G.w) (calleeFx A qual scope L a cdv k).A (execs body (calleeFx A qual scope L a cdv k).env) (fun fl s' => RR (.ok (.ret (match fl with | .ret v => v | _ => .none))) s') E { s with heap := h₁, toks := tk }) :
    codeAny (model G.prog G.w) A (.call (.ref a) ⟨vs, []⟩) RR s := by
  have X : G.K.In s.heap := G.X.keeps W.base
  refine codeAny_call_def (fd := fnOf name qual params body scope .none .none doc pm an cdv ct) (body := body) (binds := xs.zip vs) (by have := R.depth; omega) (X _ _ hlook) rfl (G.T.nolimit.keeps W.base) (codeRec_of X hcd) rfl (.of_eq hb) hcell ?_ (fun h₁ hns hkeep => ?_) hco hgen hk
  · intro p hp
    exact hloc _ (List.of_mem_zip (by exact hp)).1
  · have hL : s.heap.objs.size < h₁.objs.size := by
      obtain ⟨o, _, _, ho, _⟩ := id hns
      exact Heap.lt_size ho
    refine h s.heap.objs.size h₁ _ _ ⟨⟨⟨R.handled, ?_, ?_⟩, hk, rfl, rfl, List.nodup_nil⟩, W.grow' hkeep (Nat.le_trans W.size (Nat.le_of_lt hL)), W.size, ⟨_, hns, fun y d hy => ?_⟩, fun q hq => Nat.ne_of_lt (Heap.lt_size (W.imm q hq).1), fun q hq => Nat.ne_of_lt (Heap.lt_size (W.exs q hq).1), fun p hp => nomatch hp⟩
    · have := R.depth
      show A.depth + 1 + k < recursionLimit
      omega
    · have := R.units
      show A.units + 3 + 100 * (k + 1) < cLine
      omega
    · obtain ⟨v, hv, hd⟩ := rev_lookup hvs y d hy
      refine ⟨v, hd, .inl ⟨?_, hv⟩⟩
      have hmem : y ∈ xs := by
        have := mem_of_lookup hv
        exact (List.of_mem_zip (List.mem_reverse.mp this)).1
      exact hloc y hmem
/-- the body of __init__, and what it leaves -/
theorem init_ {G : Gl} (M : Pmk G) {params : Arguments} {body : List Stmt} {scope : Scope} (e : initDef = some (params, body, scope)) {f : Fx} {news ex : Led} {s : Shared} {x dx : Addr} {σ : Sig} {d1 d2 d3 d4 d5 d6 d7 : D} {Q : Flow → Shared → Prop} {E : Value → Shared → Prop} (hc : f.env.cells = [])
    (F : Fm G f ⟨gam ["self", "name", "at", "output", "inputs", "sequential", "init", "rows"] [.mut x, d1, d2, d3, d4, d5, d6, d7], σ⟩ news ((dx, dictOf [] 0) :: ex) s.heap) (hx : (x, instObj 31 dx) ∈ news)
    (h : ∀ h' tk news' es n v, (∀ p ∈ news, p ∈ news') → getL "rows" es = some (some v) → DIn news' v d7 → Wd G σ news' ((dx, dictOf es n) :: ex) h' → Q .next { s with heap := h', toks := tk }) : wpAny (model G.prog G.w) f.A (execs body f.env) Q E s := by
  cases e
  have K0 : TextKeys [] := fun _ he => by cases he
  have L0 : ([] : List DictEntry).length ≤ 0 := Nat.le_refl _
  refine attrS_ M (by decide) F hx hc K0 (Nat.le_trans L0 (by decide)) rfl rfl (by decide) fun h1 t1 n1 hp1 tk1 v1 news1 s1 hv1 F1 => ?_
  have hx1 := s1 _ hx
  have K1 := TextKeys.put K0 "name" h1 "name" t1 v1
  have L1 : (putL "name" h1 (.str "name" t1) v1 []).length ≤ 1 := Nat.le_trans (putL_len _ _ _ _ _) (Nat.succ_le_succ L0)
  generalize putL "name" h1 (.str "name" t1) v1 [] = es1 at F1 K1 L1
  refine attrS_ (s := { s with heap := hp1, toks := tk1 }) M (by decide) F1 hx1 hc K1 (Nat.le_trans L1 (by decide)) rfl rfl (by decide) fun h2 t2 n2 hp2 tk2 v2 news2 s2 hv2 F2 => ?_
  have hx2 := s2 _ hx1
  have K2 := TextKeys.put K1 "at" h2 "at" t2 v2
  have L2 : (putL "at" h2 (.str "at" t2) v2 es1).length ≤ 2 := Nat.le_trans (putL_len _ _ _ _ _) (Nat.succ_le_succ L1)
  generalize putL "at" h2 (.str "at" t2) v2 es1 = es2 at F2 K2 L2
  refine attrS_ (s := { s with heap := hp2, toks := tk2 }) M (by decide) F2 hx2 hc K2 (Nat.le_trans L2 (by decide)) rfl rfl (by decide) fun h3 t3 n3 hp3 tk3 v3 news3 s3 hv3 F3 => ?_
  have hx3 := s3 _ hx2
  have K3 := TextKeys.put K2 "output" h3 "output" t3 v3
  have L3 : (putL "output" h3 (.str "output" t3) v3 es2).length ≤ 3 := Nat.le_trans (putL_len _ _ _ _ _) (Nat.succ_le_succ L2)
  generalize putL "output" h3 (.str "output" t3) v3 es2 = es3 at F3 K3 L3
  refine attrS_ (s := { s with heap := hp3, toks := tk3 }) M (by decide) F3 hx3 hc K3 (Nat.le_trans L3 (by decide)) rfl rfl (by decide) fun h4 t4 n4 hp4 tk4 v4 news4 s4 hv4 F4 => ?_
  have hx4 := s4 _ hx3
  have K4 := TextKeys.put K3 "inputs" h4 "inputs" t4 v4
  have L4 : (putL "inputs" h4 (.str "inputs" t4) v4 es3).length ≤ 4 := Nat.le_trans (putL_len _ _ _ _ _) (Nat.succ_le_succ L3)
  generalize putL "inputs" h4 (.str "inputs" t4) v4 es3 = es4 at F4 K4 L4
  refine attrS_ (s := { s with heap := hp4, toks := tk4 }) M (by decide) F4 hx4 hc K4 (Nat.le_trans L4 (by decide)) rfl rfl (by decide) fun h5 t5 n5 hp5 tk5 v5 news5 s5 hv5 F5 => ?_
  have hx5 := s5 _ hx4
  have K5 := TextKeys.put K4 "sequential" h5 "sequential" t5 v5
  have L5 : (putL "sequential" h5 (.str "sequential" t5) v5 es4).length ≤ 5 := Nat.le_trans (putL_len _ _ _ _ _) (Nat.succ_le_succ L4)
  generalize putL "sequential" h5 (.str "sequential" t5) v5 es4 = es5 at F5 K5 L5
  refine attrS_ (s := { s with heap := hp5, toks := tk5 }) M (by decide) F5 hx5 hc K5 (Nat.le_trans L5 (by decide)) rfl rfl (by decide) fun h6 t6 n6 hp6 tk6 v6 news6 s6 hv6 F6 => ?_
  have hx6 := s6 _ hx5
  have K6 := TextKeys.put K5 "init" h6 "init" t6 v6
  have L6 : (putL "init" h6 (.str "init" t6) v6 es5).length ≤ 6 := Nat.le_trans (putL_len _ _ _ _ _) (Nat.succ_le_succ L5)
  generalize putL "init" h6 (.str "init" t6) v6 es5 = es6 at F6 K6 L6
  refine attrS_ (s := { s with heap := hp6, toks := tk6 }) M (by decide) F6 hx6 hc K6 (Nat.le_trans L6 (by decide)) rfl rfl (by decide) fun h7 t7 n7 hp7 tk7 v7 news7 s7 hv7 F7 => ?_
  have hx7 := s7 _ hx6
  have K7 := TextKeys.put K6 "rows" h7 "rows" t7 v7
  have L7 : (putL "rows" h7 (.str "rows" t7) v7 es6).length ≤ 7 := Nat.le_trans (putL_len _ _ _ _ _) (Nat.succ_le_succ L6)
  have sub : ∀ p ∈ news, p ∈ news7 := fun p hp => s7 p (s6 p (s5 p (s4 p (s3 p (s2 p (s1 p hp))))))
  exact wpAny_execs_nil (h hp7 tk7 news7 _ _ v7 sub (putL_get _ _ _ _ _) hv7 F7.wd)
theorem Wd.exNews {G : Gl} {σ : Sig} {news ex : Led} {h : Heap} {p : Addr × Obj} (W : Wd G σ news (p :: ex) h) : Wd G σ (p :: news) ex h := by
  have D := W.drop
  have hn := W.exnd
  rw [List.map_cons, List.nodup_cons] at hn
  refine ⟨W.base, W.size, fun q hq => ?_, D.exs, fun q hq => ?_, fun q hq => ⟨fun r hr => ?_, (D.apart q hq).2⟩, fun q hq r hr => ?_, D.exnd, W.nodup⟩
  · rcases List.mem_cons.mp hq with rfl | hq
    · exact W.exs _ (.head _)
    · exact W.imm q hq
  · obtain ⟨⟨vs, n, a, b⟩, c⟩ := W.sig q hq
    exact ⟨⟨vs, n, a.mono fun _ h => .tail _ h, b⟩, c⟩
  · rcases List.mem_cons.mp hr with rfl | hr
    · exact (W.apart q hq).2 _ (.head _)
    · exact (W.apart q hq).1 r hr
  · rcases List.mem_cons.mp hr with rfl | hr
    · exact fun e => hn.1 (e ▸ List.mem_map_of_mem (f := (·.1)) hq)
    · exact W.sep q (.tail _ hq) r hr
theorem c_prim {G : Gl} (M : Pmk G) (d1 d2 d3 d4 d5 d6 d7 : D) {σ : Sig} {Q : D → Sig → Prop} (h : Q (.prim d7) σ) : Calls G (.ref 31) 9 [d1, d2, d3, d4, d5, d6, d7] σ Q := by
  refine ⟨fun A news ex s vs Q' E R W hvs c => ?_⟩
  obtain ⟨oc, od, osl, name, qual, doc, pm, an, cdv, ct, hlook, hcd⟩ := M.code _ _ _ rfl
  have X : G.K.In s.heap := G.X.keeps W.base
  obtain ⟨hp, g, dr, t, os⟩ := s
  refine wpAny_call (make_core (makes_of X M.make) (looks_findIn X M.init) (fun self => bind_fn X self M.typ) (.inl rfl) ?_)
  dsimp only at W X ⊢
  have W1 : Wd G σ news ((hp.objs.size, dictOf [] 0) :: ex) (hp.push emptyDict) := W.pushEx
  have W2 := W1.push (o := instObj 31 hp.objs.size)
  rw [Heap.size_push] at W2
  have hvs2 : DAll ((hp.objs.size + 1, instObj 31 hp.objs.size) :: news) (.ref (hp.objs.size + 1) :: vs) (.mut (hp.objs.size + 1) :: [d1, d2, d3, d4, d5, d6, d7]) := .cons (.mut _) (hvs.mono fun _ h => .tail _ h)
  have hlen : vs.length = 7 := hvs.length
  have hw : (Code.builtin "type.__call__" ⟨.ref 31 :: vs, []⟩).weight = 1 := by rfl
  have hu : (Code.builtin "type.__call__" ⟨.ref 31 :: vs, []⟩).cUnits = 1 := by rfl
  have RU : Room (A.under (Code.builtin "type.__call__" ⟨.ref 31 :: vs, []⟩)) 2 := by
    refine ⟨R.handled, ?_, ?_⟩
    · have := R.depth
      show A.depth + _ + 2 < _
      rw [hw]; omega
    · have := R.units
      show A.units + _ + 100 * 3 < _
      rw [hu]; omega
  refine enter_ (k := 1) (s := ⟨(hp.push emptyDict).push (instObj 31 hp.objs.size), g, dr, t, os⟩) hlook hcd RU W2 hvs2 ["self", "name", "at", "output", "inputs", "sequential", "init", "rows"] ?_ (by decide) (by decide) rfl rfl rfl fun L h₁ tk E' F => ?_
  · exact lst7 (P := fun vs => bindArgs _ ⟨_ :: vs, []⟩ = pure (List.zip _ (_ :: vs))) (fun _ _ _ _ _ _ _ => rfl) vs hlen
  · refine init_ M rfl rfl F (.head _) fun h' tk' news' es n v hs hrows hv W' => ?_
    refine ⟨rfl, ?_⟩
    exact c (.prim d7) σ _ ((hp.objs.size, dictOf es n) :: news') h' tk' h (fun p hp => .tail _ (hs p (.tail _ hp))) W'.exNews (.prim (.tail _ (hs _ (.head _))) (.head _) hrows (hv.mono fun _ h => .tail _ h))
/-! ### the script's copy, slices, texts -/
section
variable {G : Gl} {f : Fx} {st : St}
theorem weListBase {e : Expr} {p1 pos : Pos} {Q : D → St → Prop} (B : Bn G f "list" (.type "list")) (h : WE G f e st fun d st' => ∃ a o vs n ds, d = .mut a ∧ G.h₀.get? a = some o ∧ o.cls = .type "list" ∧ o.data = .seq (List.toArray vs) n ∧ DAll [] vs ds ∧ ds.length ≤ 1000 ∧ Q (.list ds) st')
    (he : ∀ env, starEach [e] env = [(false, eval e env)] := by intro _; rfl) : WE G f (.Call (.Name "list" p1) [e] [] pos) st Q := by
  refine ⟨fun news ex s Q' E F c => ?_⟩
  refine PyProof.Rows.Call_ (B.eval F ?_)
  rw [he]
  refine PySem.callWith_type1 (h.run news ex s _ E F fun d st₁ v news₁ h₁ tk₁ h' hs₁ F₁ hv => ?_)
  obtain ⟨a, o, vs, n, ds, rfl, ho, hcl, hd, hall, hl, hq⟩ := h'
  cases hv
  have hz := hall.length
  refine call_list_seq a (items := vs.toArray) (.inl rfl) (F₁.wd.base _ _ ho) hcl hd (fun h' c' hk hD => ?_) (by rw [List.size_toArray, hz]; exact Nat.le_trans hl (by decide))
  exact c _ _ _ ((h₁.objs.size, lstO vs c') :: news₁) h' tk₁ hq (fun p hp => .tail _ (hs₁ p hp)) (F₁.take hk hD fun a x e => Nat.ne_of_gt (Heap.lt_size e)) (.list (n := c') (.head _) (hall.mono fun _ h => by cases h))
theorem weAddL {l r : Expr} {pos : Pos} {Q : D → St → Prop} (h : WE G f l st fun a st₁ => WE G f r st₁ fun b st₂ => ∃ xs ys, a = .list xs ∧ b = .list ys ∧ xs.length ≤ 1000 ∧ ys.length ≤ 1000 ∧ Q (.list (xs ++ ys)) st₂) : WE G f (.BinOp l .Add r pos) st Q := by
  refine ⟨fun news ex s Q' E F c => ?_⟩
  refine wpAny_BinOp (h.run news ex s _ E F fun a st₁ v news₁ h₁ tk₁ h' hs₁ F₁ hv => ?_)
  refine h'.run news₁ ex _ _ E F₁ fun b st₂ w news₂ h₂ tk₂ hq hs₂ F₂ hw => ?_
  obtain ⟨xs, ys, rfl, rfl, hx, hy, hq⟩ := hq
  have hv := hv.mono hs₂
  cases hv with
  | @list a va na _ hma ha =>
    cases hw with
    | @list b vb nb _ hmb hb =>
      have e : va.toArray ++ vb.toArray = (va ++ vb).toArray := by simp
      refine PySem.P.add_list (items := va.toArray) (items2 := vb.toArray) (F₂.wd.imm _ hma).1 (F₂.wd.imm _ hmb).1 ?_ (by rw [List.size_toArray, List.size_toArray, ha.length, hb.length]; exact Nat.le_trans (Nat.add_le_add hx hy) (by decide))
      rw [e]
      exact c _ _ _ _ _ tk₂ hq (fun p hp => .tail _ (hs₂ p (hs₁ p hp))) (F₂.push (o := lstO (va ++ vb) 0)) (.list (.head _) ((ha.append hb).mono fun _ h => .tail _ h))
theorem weSliceTo {value : Expr} {b : Nat} {k : Nat} {p1 p2 pos : Pos} {Q : D → St → Prop} (h : WE G f value st fun d st₁ => ∃ ds, d = .list ds ∧ ds.length ≤ 1000 ∧ Q (.list (ds.take b)) st₁)
    (hs : ∀ o i, subscripted (.Slice none (some (.Constant (.int (b : Nat)) k p1)) none p2) false o i = operate [i, o] (getItem o i) := by with_unfolding_all (intro _ _; rfl)) :
    WE G f (.Subscript value (.Slice none (some (.Constant (.int (b : Nat)) k p1)) none p2) pos) st Q := by
  refine ⟨fun news ex s Q' E F c => ?_⟩
  refine Subscript_ (h.run news ex s _ E F fun d st₁ v news₁ h₁ tk₁ h' hs₁ F₁ hv => ?_)
  obtain ⟨ds, rfl, hl, hq⟩ := h'
  refine wpAny_Slice ?_
  rw [evalPart_none, evalPart_some]
  refine wpAny_pure (wpAny_Constant_int (wpAny_pure ?_))
  cases hv with
  | @list a vs n _ hm hall =>
    have hl0 : Heap.IsList h₁ a vs.toArray := ⟨_, (F₁.wd.imm _ hm).1, rfl, _, rfl⟩
    refine tail_any (T := "list") (s := { s with heap := h₁.push { cls := .type "slice", data := .fields #[.none, .int (b : Int) tk₁, .none] }, toks := tk₁ + 1 }) (Heap.IsList.typeIs (s := { s with heap := h₁.push { cls := .type "slice", data := .fields #[.none, .int (b : Int) tk₁, .none] }, toks := tk₁ + 1 }) (hl0.push _)) slot_list_getitem.lookup
      (wpAny_getItem_list_slice (s := { s with heap := h₁.push { cls := .type "slice", data := .fields #[.none, .int (b : Int) tk₁, .none] }, toks := tk₁ + 1 }) (hl0.push _) (Heap.IsSliceOf.new ..) .none (.int _ _) .none (by simp) ?_ (by rw [List.size_toArray, hall.length]; exact Nat.le_trans hl (by decide))) (hs _ _)
    rw [slicePick_upto']
    have F₂ := (F₁.push (o := { cls := .type "slice", data := .fields #[.none, .int (b : Int) tk₁, .none] })).push (o := lstO (vs.take b) 0)
    refine c _ _ _ _ _ (tk₁ + 1) hq (fun p hp => .tail _ (.tail _ (hs₁ p hp))) F₂ (.list (n := 0) (.head _) ?_)
    have tk : ∀ {vs : List Value} {ds : List D} {news : Led} (b : Nat), DAll news vs ds → DAll news (vs.take b) (ds.take b) := by
      intro vs ds news b hall
      induction vs generalizing ds b with
      | nil => cases hall; simpa using .nil
      | cons v vs ih =>
        cases hall with
        | cons h r =>
          cases b with
          | zero => exact .nil
          | succ b => exact .cons h (ih b r)
    exact (tk b hall).mono fun _ h => .tail _ (.tail _ h)
theorem weStrOf {e : Expr} {p1 pos : Pos} {Q : D → St → Prop} (B : Bn G f "str" (.type "str")) (h : WE G f e st fun d st' => ∃ i : Int, d = .int i ∧ i.natAbs.log2 < 1920 ∧ Q (.str (toString i)) st')
    (he : ∀ env, starEach [e] env = [(false, eval e env)] := by intro _; rfl) : WE G f (.Call (.Name "str" p1) [e] [] pos) st Q := by
  refine ⟨fun news ex s Q' E F c => ?_⟩
  refine PyProof.Rows.Call_ (B.eval F ?_)
  rw [he]
  refine PySem.callWith_type1 (h.run news ex s _ E F fun d st₁ v news₁ h₁ tk₁ h' hs₁ F₁ hv => ?_)
  obtain ⟨i, rfl, hl, hq⟩ := h'
  cases hv
  exact PySem.P.str_of_int hl (c _ _ _ _ h₁ _ hq hs₁ F₁ (.str _ _))
theorem Bin.addS {G : Gl} {x y : Str} (hx : x.length + y.length ≤ 1000) : Bin G .Add (.str x) (.str y) (.str (x ++ y)) := by
  refine ⟨fun A s news v w Q' E hr hl hv hw c => ?_⟩
  cases hv; cases hw
  exact PyProof.Rows.add_str (fun t' tk => c _ _ (.str _ _)) (Nat.le_trans hx (by decide))
end
/-! ### the law -/
theorem wxAssign {G : Gl} {f : Fx} {st : St} {x : Str} {px pos : Pos} {e : Expr} {Q : Out → St → Prop} (h : WE G f e st fun d st' => Q .next (st'.set x d)) (hk : Stor f x)
    (hs : swapsWith e (some (.Name x px)) pos.line f.env = pure false) : WX G f (.Assign [.Name x px] e pos) st Q := by
  refine ⟨fun news ex s Q' E F c => ?_⟩
  refine wpAny_Assign_Name (h.run news ex s _ E F fun d st₁ v news₁ h₁ tk₁ h' hs F₁ hv => ?_) hs
  exact storeName_ hk F₁ hv fun h₂ tk₂ F₂ => c _ _ _ _ _ _ h' hs F₂ .next
theorem gamS {x y : Str} {d e : D} {cl : List (Str × Addr)} {Γ : Gam} {σ : Sig} (h1 : (y == x) = false) (h2 : (cl.lookup y).isSome = true) (h : Γ y = some e) : (⟨gamC x d cl Γ, σ⟩ : St).Γ y = some e := gamC_in h1 h2 h
theorem gamSe {x : Str} {d : D} {cl : List (Str × Addr)} {Γ : Gam} {σ : Sig} : (⟨gamC x d cl Γ, σ⟩ : St).Γ x = some d := gamC_eq
theorem three_at {σ : Sig} {r : Nat} (h : r < 3) : ∃ v : V3, ItemD σ (.list [.int 0, .int 1, .int 3]) (.int (r : Nat)) (.int v.i) :=
  match r, h with
  | 0, _ => ⟨.a0, ItemD.lst (by decide) (by decide) rfl⟩
  | 1, _ => ⟨.a1, ItemD.lst (by decide) (by decide) rfl⟩
  | 2, _ => ⟨.a3, ItemD.lst (by decide) (by decide) rfl⟩
theorem bf_at {σ : Sig} {r : Nat} (h : r < 2) (w : V3) : ∃ v : V3, ItemD σ (.list (nowD (V3.all.filter fun v => v.i != w.i))) (.int (r : Nat)) (.int v.i) := by
  match r, h with
  | 0, _ => cases w
            · exact ⟨.a1, ItemD.lst (by decide) (by decide) rfl⟩
            · exact ⟨.a0, ItemD.lst (by decide) (by decide) rfl⟩
            · exact ⟨.a0, ItemD.lst (by decide) (by decide) rfl⟩
  | 1, _ => cases w
            · exact ⟨.a3, ItemD.lst (by decide) (by decide) rfl⟩
            · exact ⟨.a3, ItemD.lst (by decide) (by decide) rfl⟩
            · exact ⟨.a1, ItemD.lst (by decide) (by decide) rfl⟩
theorem ar_lt {x c : Nat} (h : x ≤ 5000) (hc : c ≤ 5000 := by decide) : x + c < 1000000 := by omega
theorem ar_s (a i c : Nat) (hc : c ≤ 100) : a + 100 * i + c ≤ a + 100 * (i + 1) := by omega
theorem ar3 {i n : Nat} (h : i < n) (hn : n < 5) : 500 + 20 * i < 1000000 := by omega
theorem ar4 (i : Nat) : 500 + 20 * i + 10 ≤ 500 + 20 * (i + 1) := by omega
theorem ar5 {r : Nat} (h : r < 6) : 1 + r < 1000 := by omega
theorem ar6 {n : Nat} (h : n < 5) : 500 + 20 * n ≤ 600 := by omega
theorem ar7 {i n : Nat} (h : i < n) (hn : n ≤ 3) : i = 0 ∨ i = 1 ∨ i = 2 := by omega
theorem ar8 {i r k n : Nat} (hi : i < 1 + r) (hr : r < 6) (hk : k < n) (hn : n ≤ 3) : 700 + 100 * i + k < 1099511627776 := by omega
theorem ar9 {a i r : Nat} (hi : i < 1 + r) (hr : r < 6) (ha : a ≤ 1000) : a + 100 * i ≤ 5000 := by omega
theorem ar10 {r : Nat} (_h : r < 3) : 0 < 1 + r := by omega
theorem ar11 {r : Nat} (h : r < 3) : 1 + r ≤ 3 := by omega
theorem ar12 {r : Nat} (h : r < 4) : 2 + 100 * (1 + r) < 1099511627776 := by omega
theorem ar13 {r : Nat} (h : r < 4) : 2 + 100 * (1 + r) + 1 ≤ 500 + 20 * 0 := by omega
theorem add1 (r : Nat) : (1 : Int) + (r : Nat) = ((1 + r : Nat) : Int) := by omega
section
variable {G : Gl} (P : Prog G) (Z : Pcl G) (M : Pmk G)
include P Z M
theorem c_law (a : Addr) (o : Obj) (vs : List Value) (n : Nat) (is : List Int) (ho : G.h₀.get? a = some o) (hcl : o.cls = .type "list") (hd : o.data = .seq vs.toArray n) (hall : DAll [] vs (intD is)) (hlen : is.length ≤ 900) :
    Calls G (.ref 164) 12 [.mut a] [] (fun d _ => d = .bool true) := by
  refine Calls.goC P.law rfl ["script"] (by intro _ _ _ _ _ _ _ _ _ vs hl; exact lst1 (P := fun vs => bindArgs _ ⟨vs, []⟩ = pure (List.zip _ vs)) (fun _ => rfl) vs hl) ?_ (by decide) rfl rfl rfl fun A qual L cdv => ?_
  · intro m y hy
    simp only [List.mem_cons, List.not_mem_nil, or_false] at hy
    rcases hy with rfl <;> first | exact .inl rfl | exact .inr ⟨rfl, rfl⟩
  refine WS.step (WX.assign (WE.listM (WL.cons (WE.int (WL.cons (WE.int (WL.cons (weSliceTo (weAddL (weListBase (Bn.of P.bList boot_list' rfl (by decide +kernel)) (WE.name rfl ⟨a, o, vs, n, intD is, rfl, ho, hcl, hd, hall, by rw [intD, List.length_map]; omega, ?_⟩)))))))))) (.inr ⟨rfl, _, rfl⟩))
  have hi9 : (intD is).length ≤ 900 := by rw [intD, List.length_map]; exact hlen
  repeat cell_call
  refine ⟨Nat.le_trans hi9 (by decide), by decide, _, rfl, by rw [List.length_append]; exact Nat.le_trans (Nat.succ_le_succ hi9) (by decide), WL.nil ⟨Nat.le_of_ble_eq_true rfl, fun j hj => ?_⟩⟩
  have ecells : List.take 40 (intD is ++ [D.int 0]) = intD ((is ++ [0]).take 40) := by simp [intD, List.map_take]
  have J0 : JarAt j [] 0 [(j, [D.int 0, D.int 0, D.list (List.take 40 (intD is ++ [D.int 0]))])] := by
    rw [ecells]
    refine ⟨0, 0, (is ++ [0]).take 40, rfl, by decide, by decide, ?_, ?_, fun p hp => by cases hp⟩
    · rw [List.length_take, List.length_append]; show 0 < min 40 (_ + 1); omega
    · rw [List.length_take]; omega
  refine .next ?_
  refine WS.step (WX.assign (WE.bin (WE.int (WE.callAt P.atDraw 1 rfl rfl ?_))) (.inr ⟨rfl, _, rfl⟩))
  repeat cell_call
  refine c_draw P j [] 0 3 J0 (by decide) (by decide) (by decide) fun r hr σ₁ J1 => ⟨_, Bin.add, .next ?_⟩
  rw [add1]
  obtain ⟨N, hN, hN0, hN3⟩ : ∃ N, 1 + r = N ∧ 0 < N ∧ N ≤ 3 := ⟨_, rfl, ar10 hr, ar11 hr⟩
  rw [hN]
  refine WS.step (WX.for (WE.range (Bn.of P.bRange boot_range' rfl (by decide +kernel)) (WE.bin (WE.int (WE.callAt P.atDraw 1 rfl rfl ?_)))))
  repeat cell_call
  refine c_draw P j [] _ 4 J1 (by decide) (by decide) (by decide) fun r2 hr2 σ₂ J2 => ⟨_, Bin.add, ?_⟩
  rw [add1]
  refine ⟨_, rfl, _, Iter.rng (ar5 (Nat.lt_trans hr2 (by decide))), ?_⟩
  refine ForEach.rangeI (fun i st => st.Γ "jar" = some (.mut j) ∧ st.Γ "size" = some (.int (N : Nat)) ∧ JarAt j [] (2 + 100 * i) st.σ) ⟨by got_up, by got_up, J2⟩ ?_ ?_
  · rintro i hi st ⟨g1, g2, hJ⟩
    refine ⟨_, Assigns.name (.inl rfl), ?_⟩
    refine WS.step (WX.assign (WE.cmp (WE.callAt P.atDraw 1 rfl rfl ?_)) (.inl rfl))
    repeat cell_call
    refine c_draw P j [] _ 3 hJ (Nat.lt_of_le_of_lt (ar9 (a := 2) hi (Nat.lt_trans hr2 (by decide)) (by decide)) (by decide)) (by decide) (by decide) fun r3 hr3 σ₃ J3 => ?_
    repeat cell_call
    generalize decide ((r3 : Int) < 2) = kept
    refine WE.callAt P.atRow 2 rfl rfl ?_
    repeat cell_call
    refine c_row P j _ N kept J3 (ar_lt (ar9 (a := 2) hi (Nat.lt_trans hr2 (by decide)) (by decide))) hN0 hN3 fun one σ₄ ok1 k1 J4 => ?_
    repeat cell_call
    refine WE.callAt P.atRow 2 rfl rfl ?_
    repeat cell_call
    refine c_row P j _ N kept J4 (ar_lt (c := 11) (ar9 (a := 2) hi (Nat.lt_trans hr2 (by decide)) (by decide))) hN0 hN3 fun two σ₅ ok2 k2 J5 => ?_
    repeat cell_call
    refine WE.callP P.atConf 3 rfl rfl ?_
    repeat cell_call
    refine ⟨_, g_conf P one two ok1 ok2 (k1.trans k2.symm), WE.callP P.atLconf 3 rfl rfl ?_⟩
    repeat cell_call
    refine ⟨_, g_lconf P one two ok1 ok2 (k1.trans k2.symm), _, Cmp.neB, ?_⟩
    rw [bne_self_eq_false]
    repeat cell_call
    refine WE.callP P.atConf 3 rfl rfl ?_
    repeat cell_call
    refine ⟨_, g_conf P two one ok2 ok1 (k2.trans k1.symm), WE.callP P.atLconf 3 rfl rfl ?_⟩
    repeat cell_call
    refine ⟨_, g_lconf P one two ok1 ok2 (k1.trans k2.symm), _, Cmp.neB, ?_⟩
    rw [conf_comm ok1 ok2, bne_self_eq_false]
    repeat cell_call
    refine ⟨by got_up, by got_up, J5.le (ar_s 2 i 21 (by decide))⟩
  · rintro st ⟨g1, g2, hJ⟩
    refine .next ?_
    refine WS.step (WX.assign (WE.tupleOf (Bn.of P.bTuple boot_tuple' rfl (by decide +kernel)) (weComp (cl := [("size", L + 2), ("jar", L + 1)]) ⟨rfl, by decide, rfl, by decide, rfl, ?_, by show List.Nodup [("size" : Str), "jar"]; decide, rfl⟩
      (WE.range (Bn.of P.bRange boot_range' rfl (by decide +kernel)) (WE.callAt P.atDraw 1 rfl rfl ?_)))) (.inl rfl))
    · intro p hp
      simp only [List.mem_cons, List.not_mem_nil, or_false] at hp
      rcases hp with rfl | rfl <;> exact ⟨rfl, rfl, rfl⟩
    repeat cell_call
    refine c_draw P j [] _ 5 hJ (ar12 hr2) (by decide) (by decide) fun n5 hn5 σ₃ J3 => ?_
    refine ⟨n5, rfl, _, fun i out σ => ∃ t : List Rw, out = t.map Rw.d ∧ t.length = i ∧ Tab t N ∧ i ≤ n5 ∧ JarAt j [] (500 + 20 * i) σ, Iter.rng (Nat.lt_trans hn5 (by decide)), ⟨⟨[], rfl, rfl, ⟨(fun _ hr => by cases hr), fun _ hr => by cases hr⟩, Nat.zero_le _, J3.le (ar13 hr2)⟩, ?_, ?_, ?_⟩, rfl⟩
    · rintro i d out σ hd ⟨t, rfl, hl, T, hi, hJ⟩ C
      have hin : i < n5 := by
        have := (List.getElem?_eq_some_iff.mp hd).1
        simpa using this
      refine WI.nil ⟨rfl, ifT rfl ?_⟩
      refine WE.callAt P.atRow 2 rfl rfl ?_
      refine WL.cons (WE.name (gamS (by decide +kernel) rfl g1) (WL.cons (WE.name (gamS (by decide +kernel) rfl g2) (WL.cons (WE.bool (WL.nil ?_))))))
      refine c_row P j _ N true hJ (ar3 hin hn5) hN0 hN3 fun r σ' okr kr hJ' => ?_
      refine ⟨rfl, t ++ [r], by simp, by simp [hl], ⟨fun q hq => ?_, fun q hq => ?_⟩, hin, hJ'.le (ar4 i)⟩
      · rcases List.mem_append.mp hq with hq | hq
        · exact T.ok q hq
        · rw [List.mem_singleton.mp hq]; exact okr
      · rcases List.mem_append.mp hq with hq | hq
        · exact T.held q hq
        · rw [List.mem_singleton.mp hq]; exact Option.isSome_iff_exists.mp kr
    · rintro i out σ ⟨t, rfl, hl, T, hi, hJ⟩
      rw [List.length_map, hl]; exact Nat.le_trans hi (Nat.le_trans (Nat.le_of_lt hn5) (by decide))
    rintro out σ ⟨t, rfl, hl, T, hi, hJ⟩
    rw [show (List.map (fun i => D.int (i : Nat)) (List.range n5)).length = n5 by simp] at hl hi hJ
    have hJ := hJ.le (B' := 600) (ar6 hn5)
    refine ⟨⟨t.map Rw.d, by rw [List.length_map, hl]; exact Nat.le_trans (Nat.le_of_lt hn5) (by decide), .inl rfl, .next ?_⟩, trivial⟩
    refine WS.step (WX.assign (WE.callAt M.at' 9 rfl rfl ?_) (.inl rfl))
    repeat cell_call
    refine WE.tupleOf (Bn.of P.bTuple boot_tuple' rfl (by decide +kernel)) (weComp (cl := []) ⟨rfl, by decide, rfl, by decide, rfl, (fun p hp => by cases hp), List.nodup_nil, rfl⟩
      (WE.range (Bn.of P.bRange boot_range' rfl (by decide +kernel)) ?_))
    repeat cell_call
    refine ⟨_, fun i out σ => out.length = i ∧ i ≤ N ∧ JarAt j [] 600 σ, Iter.rng (Nat.lt_of_le_of_lt hN3 (by decide)), ⟨⟨rfl, Nat.zero_le _, hJ⟩, ?_, ?_, ?_⟩, rfl⟩
    · rintro i d out σ hd ⟨hl, hi, hJ⟩ C
      have hin : i < N := by
        have := (List.getElem?_eq_some_iff.mp hd).1
        simpa using this
      have hdd : d = .int (i : Nat) := by
        rw [List.getElem?_map, List.getElem?_range hin] at hd
        exact (Option.some.inj hd).symm
      subst hdd
      refine WI.nil ⟨rfl, ifT rfl ?_⟩
      have hi3 : i = 0 ∨ i = 1 ∨ i = 2 := ar7 hin hN3
      refine WE.bin (WE.str (weStrOf (Bn.of P.bStr boot_str' rfl (by decide +kernel)) (WE.name gamSe ⟨_, rfl, by rcases hi3 with rfl | rfl | rfl <;> decide +kernel, _, Bin.addS (by rcases hi3 with rfl | rfl | rfl <;> decide +kernel), rfl, by simp [hl], hin, hJ⟩)))
    · rintro i out σ ⟨hl, hi, hJ⟩
      rw [hl]; exact Nat.le_trans hi (Nat.le_trans hN3 (by decide))
    rintro out σ ⟨hl, hi, hJ⟩
    rw [show (List.map (fun i => D.int (i : Nat)) (List.range N)).length = N by simp] at hl hi
    refine ⟨⟨out, by rw [hl]; exact Nat.le_trans hN3 (by decide), .inl rfl, ?_⟩, trivial⟩
    repeat cell_call
    refine c_prim M _ _ _ _ _ _ _ (.next ?_)
    refine WS.step (WX.for (WE.range (Bn.of P.bRange boot_range' rfl (by decide +kernel)) (WE.bin (WE.int (WE.callAt P.atDraw 1 rfl rfl ?_)))))
    repeat cell_call
    refine c_draw P j [] _ 6 hJ (by decide) (by decide) (by decide) fun r6 hr6 σ₆ J6 => ⟨_, Bin.add, ?_⟩
    rw [add1]
    refine ⟨_, rfl, _, Iter.rng (ar5 hr6), ?_⟩
    refine ForEach.rangeI (fun i st => st.Γ "jar" = some (.mut j) ∧ st.Γ "size" = some (.int (N : Nat)) ∧ st.Γ "table" = some (.tuple (t.map Rw.d)) ∧ st.Γ "thing" = some (.prim (.tuple (t.map Rw.d))) ∧ JarAt j [] (700 + 100 * i) st.σ) ⟨by got_up, by got_up, by got_up, by got_up, J6.le (by decide)⟩ ?_ ?_
    · clear g1 g2 hJ J6 J0 J1 J2 J3
      rintro i hi st ⟨g1, g2, g3, g4, hJ⟩
      refine ⟨_, Assigns.name (.inl rfl), ?_⟩
      have g1' : (st.set "turn" (.int (i : Nat))).Γ "jar" = some (.mut j) := St.ne (by decide +kernel) g1
      have g2' : (st.set "turn" (.int (i : Nat))).Γ "size" = some (.int (N : Nat)) := St.ne (by decide +kernel) g2
      refine WS.step (wxAssign (weComp (cl := [("jar", L + 1)]) ⟨rfl, by decide, rfl, by decide, rfl, ?_, by show List.Nodup [("jar" : Str)]; decide, rfl⟩
        (WE.range (Bn.of P.bRange boot_range' rfl (by decide +kernel)) (WE.name g2' ⟨_, rfl, _, fun k out σ => ∃ now : List V3, out = nowD now ∧ now.length = k ∧ k ≤ N ∧ JarAt j [] (700 + 100 * i + k) σ, Iter.rng (Nat.lt_of_le_of_lt hN3 (by decide)), ⟨⟨[], rfl, rfl, Nat.zero_le _, hJ⟩, ?_, ?_, ?_⟩, rfl⟩))) (.inr ⟨rfl, _, rfl⟩) rfl)
      · intro p hp
        rcases List.mem_singleton.mp hp with rfl
        exact ⟨rfl, rfl, rfl⟩
      · rintro k d out σ hd ⟨now, rfl, hl, hk, hJ⟩ C
        have hin : k < N := by
          have := (List.getElem?_eq_some_iff.mp hd).1
          simpa using this
        refine WI.nil ⟨rfl, ifT rfl ?_⟩
        refine WE.sub (WE.list ?_)
        repeat cell_call
        refine WE.callAt P.atDraw 1 rfl rfl ?_
        refine WL.cons (WE.name (gamS (by decide +kernel) rfl g1') ?_)
        repeat cell_call
        refine c_draw P j [] _ 3 hJ (ar8 hi hr6 hin hN3) (by decide) (by decide) fun r hr σ' hJ' => ?_
        obtain ⟨v, hv⟩ := three_at (σ := σ') hr
        exact ⟨_, hv, rfl, now ++ [v], by simp [nowD], by simp [hl], hin, hJ'⟩
      · rintro k out σ ⟨now, rfl, hl, hk, hJ⟩
        rw [nowD, List.length_map, hl]; exact Nat.le_trans hk (Nat.le_trans hN3 (by decide))
      rintro out σ ⟨now, rfl, hl, hk, hJ⟩
      rw [show (List.map (fun i => D.int (i : Nat)) (List.range N)).length = N by simp] at hl hk
      have hJ := hJ.le (B' := 700 + 100 * i + 10) (by rw [List.length_map, List.length_range]; exact Nat.add_le_add_left (Nat.le_trans hN3 (by decide)) _)
      refine ⟨.next ?_, trivial⟩
      refine WS.step (WX.assign (WE.callAt P.atDraw 1 rfl rfl ?_) (.inr ⟨rfl, _, rfl⟩))
      repeat cell_call
      refine c_draw P j [] _ N hJ (Nat.lt_of_lt_of_le (ar_lt (c := 10) (ar9 (a := 700) hi hr6 (by decide))) (by decide)) hN0 (Nat.lt_of_le_of_lt hN3 (by decide)) fun ch hch σ₇ J7 => .next ?_
      obtain ⟨w, hw⟩ := at_of (l := now) (i := ch) (by rw [hl]; exact hch)
      have hdw : (nowD now)[ch]? = some (.int w.i) := by simp [nowD, hw]
      refine WS.step (WX.assign (WE.sub (weComp (cl := [("now", L + 3), ("changed_at", L + 4)]) ⟨rfl, by decide, rfl, by decide, rfl, ?_, by show List.Nodup [("now" : Str), "changed_at"]; decide, rfl⟩ (WE.list ?_))) (.inl rfl))
      · intro p hp
        simp only [List.mem_cons, List.not_mem_nil, or_false] at hp
        rcases hp with rfl | rfl <;> exact ⟨rfl, rfl, rfl⟩
      repeat cell_call
      refine ⟨_, fun k out σ => out = nowD ((V3.all.take k).filter fun v => v.i != w.i) ∧ JarAt j [] (700 + 100 * i + 10 + 1) σ ∧ k ≤ 3, .inr (.inl rfl), ⟨⟨rfl, J7, by decide⟩, ?_, ?_, ?_⟩, rfl⟩
      · rintro k d out σ hd ⟨rfl, hJ, hk⟩ C
        have hk3 : k < 3 := (List.getElem?_eq_some_iff.mp hd).1
        obtain ⟨v, hv, rfl⟩ := v3_at hd
        refine WI.one (WT.cmp (WE.name gamSe (WE.sub (WE.name (gamS (by decide +kernel) rfl (d := .int v.i) (e := .list (nowD now)) ?_) (WE.name (gamS (by decide +kernel) rfl (d := .int v.i) (e := .int (ch : Nat)) ?_) ⟨_, ItemD.lstN (Nat.lt_trans hch (Nat.lt_of_le_of_lt hN3 (by decide))) hdw, _, Cmp.neI, rfl, ?_⟩)))))
        · got_up
        · got_up
        have tf := take_succ_filter (fun v : V3 => v.i != w.i) V3.all k v hv
        refine ifB (fun e => ?_) (fun e => ?_)
        · refine WE.name gamSe ⟨rfl, ?_, hJ, hk3⟩
          rw [tf, if_pos e]; simp [nowD]
        · refine ⟨?_, hJ, hk3⟩
          rw [tf, if_neg (by rw [e]; exact Bool.false_ne_true), List.append_nil]
      · rintro k out σ ⟨rfl, hJ, hk⟩
        rw [nowD, List.length_map]
        exact Nat.le_trans (List.length_filter_le _ _) (by rw [List.length_take]; exact Nat.le_trans (Nat.min_le_left _ _) (Nat.le_trans hk (by decide)))
      rintro out σ ⟨rfl, hJ, hk⟩
      refine ⟨?_, trivial⟩
      refine WE.callAt P.atDraw 1 rfl rfl ?_
      repeat cell_call
      refine c_draw P j [] _ 2 hJ (Nat.lt_of_lt_of_le (ar_lt (c := 11) (ar9 (a := 700) hi hr6 (by decide))) (by decide)) (by decide) (by decide) fun r8 hr8 σ₈ J8 => ?_
      obtain ⟨bf, hbf⟩ := bf_at (σ := σ₈) hr8 w
      refine ⟨_, hbf, .next ?_⟩
      refine WS.step (WX.assign (WE.sub (WE.list ?_)) (.inl rfl))
      repeat cell_call
      refine WE.callAt P.atDraw 1 rfl rfl ?_
      repeat cell_call
      refine c_draw P j [] _ 3 J8 (Nat.lt_of_lt_of_le (ar_lt (c := 12) (ar9 (a := 700) hi hr6 (by decide))) (by decide)) (by decide) (by decide) fun r9 hr9 σ₉ J9 => ?_
      obtain ⟨sv, hsv⟩ := three_at (σ := σ₉) hr9
      refine ⟨_, hsv, .next ?_⟩
      refine WS.step (WX.ite (WT.cmp (WE.callP P.atStep 3 rfl rfl ?_)))
      repeat cell_call
      refine WE.listOf (Bn.of P.bList boot_list' rfl (by decide +kernel)) ?_
      repeat cell_call
      refine ⟨nowD now, by rw [nowD, List.length_map, hl]; exact Nat.le_trans hN3 (by decide), .inl rfl, ?_⟩
      repeat cell_call
      refine ⟨_, g_step P Z t sv now ch bf T hl hch, WE.callP P.atLstep 3 rfl rfl ?_⟩
      repeat cell_call
      refine ⟨_, g_lstep P t sv now ch bf T hl hch (Nat.lt_of_le_of_lt hN3 (by decide)), ?_⟩
      rw [stepL_S T hl hch]
      refine ⟨_, Cmp.neI, ?_⟩
      rw [bne_self_eq_false]
      repeat cell_call
      refine ⟨by got_up, by got_up, by got_up, by got_up, J9.le (ar_s 700 i 13 (by decide))⟩
    · rintro st ⟨g1, g2, g3, g4, hJ⟩
      refine .next ?_
      have lv : ∀ (e h : Lt) (o : Ou), h.isE = false → Rw.Ok ⟨[e], some h, o⟩ 1 := fun e h o hh => ⟨rfl, by decide, fun i j a b ha hb _ _ => by
        have h1 := (List.getElem?_eq_some_iff.mp ha).1
        have h2 := (List.getElem?_eq_some_iff.mp hb).1
        simp only [List.length_singleton] at h1 h2
        omega, fun _ e => by cases e; exact hh⟩
      refine WS.step (WX.ret (WE.and (WE.not (WE.callP P.atConf 3 rfl rfl ?_))))
      repeat cell_call
      refine ⟨_, g_conf P ⟨[.er], some .v1, .om⟩ ⟨[.es], some .vq, .o1⟩ (lv _ _ _ rfl) (lv _ _ _ rfl) rfl, _, rfl, ?_⟩
      rw [show conf ⟨[.er], some .v1, .om⟩ ⟨[.es], some .vq, .o1⟩ = false from by decide +kernel]
      repeat cell_call
      refine WE.callP P.atConf 3 rfl rfl ?_
      repeat cell_call
      refine ⟨_, g_conf P ⟨[.er], some .vq, .om⟩ ⟨[.ep], some .vq, .o1⟩ (lv _ _ _ rfl) (lv _ _ _ rfl) rfl, ?_⟩
      rw [show conf ⟨[.er], some .vq, .om⟩ ⟨[.ep], some .vq, .o1⟩ = true from by decide +kernel]
      repeat cell_call
      rfl
end
open_top hd for PySem.Challenge.rw_pq0448_01
/-! ### the program in the heap, and the join -/
theorem fk_level (w : World) : FnK (hd.heap_39 w.params) "level_codes" 42 := ⟨rfl, rfl, fun _ _ _ e => by cases e; exact ⟨_, _, _, _, _, _, _, _, _, _, rfl, rfl⟩⟩
theorem fk_edge (w : World) : FnK (hd.heap_39 w.params) "is_edge" 49 := ⟨rfl, rfl, fun _ _ _ e => by cases e; exact ⟨_, _, _, _, _, _, _, _, _, _, rfl, rfl⟩⟩
theorem fk_pairs (w : World) : FnK (hd.heap_39 w.params) "edge_pairs" 56 := ⟨rfl, rfl, fun _ _ _ e => by cases e; exact ⟨_, _, _, _, _, _, _, _, _, _, rfl, rfl⟩⟩
theorem fk_place (w : World) : FnK (hd.heap_39 w.params) "edge_place" 63 := ⟨rfl, rfl, fun _ _ _ e => by cases e; exact ⟨_, _, _, _, _, _, _, _, _, _, rfl, rfl⟩⟩
theorem fk_conf (w : World) : FnK (hd.heap_39 w.params) "rows_conflict" 70 := ⟨rfl, rfl, fun _ _ _ e => by cases e; exact ⟨_, _, _, _, _, _, _, _, _, _, rfl, rfl⟩⟩
theorem fk_share (w : World) : FnK (hd.heap_39 w.params) "share" 77 := ⟨rfl, rfl, fun _ _ _ e => by cases e; exact ⟨_, _, _, _, _, _, _, _, _, _, rfl, rfl⟩⟩
theorem fk_out (w : World) : FnK (hd.heap_39 w.params) "out_code" 84 := ⟨rfl, rfl, fun _ _ _ e => by cases e; exact ⟨_, _, _, _, _, _, _, _, _, _, rfl, rfl⟩⟩
theorem fk_lmatch (w : World) : FnK (hd.heap_39 w.params) "levels_match" 91 := ⟨rfl, rfl, fun _ _ _ e => by cases e; exact ⟨_, _, _, _, _, _, _, _, _, _, rfl, rfl⟩⟩
theorem fk_step (w : World) : FnK (hd.heap_39 w.params) "step_state" 98 := ⟨rfl, rfl, fun _ _ _ e => by cases e; exact ⟨_, _, _, _, _, _, _, _, _, _, rfl, rfl⟩⟩
theorem fk_draw (w : World) : FnK (hd.heap_39 w.params) "_law_draw" 105 := ⟨rfl, rfl, fun _ _ _ e => by cases e; exact ⟨_, _, _, _, _, _, _, _, _, _, rfl, rfl⟩⟩
theorem fk_holds (w : World) : FnK (hd.heap_39 w.params) "_law_holds" 112 := ⟨rfl, rfl, fun _ _ _ e => by cases e; exact ⟨_, _, _, _, _, _, _, _, _, _, rfl, rfl⟩⟩
theorem fk_isLev (w : World) : FnK (hd.heap_39 w.params) "_law_is_level" 119 := ⟨rfl, rfl, fun _ _ _ e => by cases e; exact ⟨_, _, _, _, _, _, _, _, _, _, rfl, rfl⟩⟩
theorem fk_fits (w : World) : FnK (hd.heap_39 w.params) "_law_fits" 126 := ⟨rfl, rfl, fun _ _ _ e => by cases e; exact ⟨_, _, _, _, _, _, _, _, _, _, rfl, rfl⟩⟩
theorem fk_lplace (w : World) : FnK (hd.heap_39 w.params) "_law_edge_at" 133 := ⟨rfl, rfl, fun _ _ _ e => by cases e; exact ⟨_, _, _, _, _, _, _, _, _, _, rfl, rfl⟩⟩
theorem fk_lout (w : World) : FnK (hd.heap_39 w.params) "_law_out" 140 := ⟨rfl, rfl, fun _ _ _ e => by cases e; exact ⟨_, _, _, _, _, _, _, _, _, _, rfl, rfl⟩⟩
theorem fk_lconf (w : World) : FnK (hd.heap_39 w.params) "_law_conflict" 147 := ⟨rfl, rfl, fun _ _ _ e => by cases e; exact ⟨_, _, _, _, _, _, _, _, _, _, rfl, rfl⟩⟩
theorem fk_row (w : World) : FnK (hd.heap_39 w.params) "_law_row" 152 := ⟨rfl, rfl, fun _ _ _ e => by cases e; exact ⟨_, _, _, _, _, _, _, _, _, _, rfl, rfl⟩⟩
theorem fk_lstep (w : World) : FnK (hd.heap_39 w.params) "_law_step" 159 := ⟨rfl, rfl, fun _ _ _ e => by cases e; exact ⟨_, _, _, _, _, _, _, _, _, _, rfl, rfl⟩⟩
theorem fk_law (w : World) : FnK (hd.heap_39 w.params) "law" 164 := ⟨rfl, rfl, fun _ _ _ e => by cases e; exact ⟨_, _, _, _, _, _, _, _, _, _, rfl, rfl⟩⟩
theorem prog_of {G : Gl} (w : World) (hK : G.K = hd.heap_39 w.params) : Prog G where
  level := by show FnK G.K _ _; rw [hK]; exact fk_level w
  edge := by show FnK G.K _ _; rw [hK]; exact fk_edge w
  pairs := by show FnK G.K _ _; rw [hK]; exact fk_pairs w
  place := by show FnK G.K _ _; rw [hK]; exact fk_place w
  conf := by show FnK G.K _ _; rw [hK]; exact fk_conf w
  share := by show FnK G.K _ _; rw [hK]; exact fk_share w
  out := by show FnK G.K _ _; rw [hK]; exact fk_out w
  lmatch := by show FnK G.K _ _; rw [hK]; exact fk_lmatch w
  step := by show FnK G.K _ _; rw [hK]; exact fk_step w
  draw := by show FnK G.K _ _; rw [hK]; exact fk_draw w
  holds := by show FnK G.K _ _; rw [hK]; exact fk_holds w
  isLev := by show FnK G.K _ _; rw [hK]; exact fk_isLev w
  fits := by show FnK G.K _ _; rw [hK]; exact fk_fits w
  lplace := by show FnK G.K _ _; rw [hK]; exact fk_lplace w
  lout := by show FnK G.K _ _; rw [hK]; exact fk_lout w
  lconf := by show FnK G.K _ _; rw [hK]; exact fk_lconf w
  row := by show FnK G.K _ _; rw [hK]; exact fk_row w
  lstep := by show FnK G.K _ _; rw [hK]; exact fk_lstep w
  law := by show FnK G.K _ _; rw [hK]; exact fk_law w
  bLen := by rw [hK]; rfl
  bRange := by rw [hK]; rfl
  bTuple := by rw [hK]; rfl
  bList := by rw [hK]; rfl
  bStr := by rw [hK]; rfl
theorem pcl_of {G : Gl} (w : World) (hK : G.K = hd.heap_39 w.params) : Pcl G := ⟨by rw [hK]; rfl, by rw [hK]; rfl, by rw [hK]; rfl⟩
theorem pmk_of {G : Gl} (w : World) (hK : G.K = hd.heap_39 w.params) : Pmk G := by
  refine ⟨⟨by rw [hK]; rfl, by rw [hK]; rfl⟩, by rw [hK]; rfl, by rw [hK]; rfl, by rw [hK]; rfl, by rw [hK]; rfl, by rw [hK]; rfl, by rw [hK]; rfl, fun y hy => ?_, fun _ _ _ e => ?_⟩
  · rw [hK]
    simp only [attrs, List.mem_cons, List.not_mem_nil, or_false] at hy
    rcases hy with rfl | rfl | rfl | rfl | rfl | rfl | rfl <;> rfl
  · rw [hK]
    cases e
    exact ⟨_, _, _, _, _, _, _, _, _, _, rfl, rfl⟩
theorem ints_all {vs : List Value} {is : List Int} (h : IntsAre vs is) : DAll [] vs (intD is) := by
  induction h with
  | nil => exact .nil
  | cons n t _ ih => exact .cons (.int n t) ih
theorem law_ends {w : World} {s₁ : Shared} {p : Program} {loose : List Str} {mg mb : Str → Option Value} {a : Addr} {vs : List Value} {is : List Int} {Q : Value → Shared → Prop} {E : Value → Shared → Prop} (prog : Program)
    (X : (hd.heap_39 w.params).In s₁.heap) (T : TopRead p loose mg mb s₁.heap) (hL : s₁.heap.IsList a vs.toArray) (hI : IntsAre vs is) (hlen : is.length ≤ 63)
    (h : ∀ h' tk', (∀ b o, s₁.heap.get? b = some o → h'.get? b = some o) → Q (.bool true) { s₁ with heap := h', toks := tk' }) : wpAny (model prog w) callerA (call (.ref 164) [.ref a]) Q E s₁ := by
  obtain ⟨o, ho, hc, n, hd'⟩ := hL
  let G : Gl := ⟨prog, w, hd.heap_39 w.params, s₁.heap, p, loose, mg, mb, X, T⟩
  have C := c_law (G := G) (prog_of w rfl) (pcl_of w rfl) (pmk_of w rfl) a o vs n is ho hc hd' (ints_all hI) (by omega)
  have W : Wd G [] [] [] s₁.heap := ⟨fun _ _ e => e, Nat.le_refl _, (fun _ hp => by cases hp), (fun _ hp => by cases hp), (fun _ hp => by cases hp), (fun _ hp => by cases hp), (fun _ hp => by cases hp), List.nodup_nil, List.nodup_nil⟩
  refine C.run callerA [] [] s₁ [.ref a] Q E ⟨rfl, by decide +kernel, by decide +kernel⟩ W (.cons (.mut a) .nil) fun d σ' v news' h' tk' hq hs W' hv => ?_
  subst hq
  cases hv
  exact h h' tk' W'.base
end Mine
theorem PySem.Challenge.cw_pq0448_01_holds : PySem.Challenge.rw_pq0448_01.Holds :=
  Mine.hd (by
  k_fill
  intro w s₀ s₁ mg mb G Y fa o pm cd doc dV kV ho hd hcd hD hmg hg args vals as hpre hlay hrd hwl hlo
  have KX := kIn_of Y
  have X := (Ground.X G).1
  have V := (Ground.X G).2
  refine Ground.open G ?_
  intro T B D TE TW
  wrow_args hpre hlay hrd hwl hlo
  have hfa : fa = 164 := by
    have e := mg_of KX T.g (n := "law") (v := .ref 164) rfl
    exact Value.ref.inj (Option.some.inj (hmg.symm.trans e))
  subst hfa
  rename_i hL _ _ _ hI _ hlen _
  refine Mine.law_ends _ KX (topRead_of T) hL hI (by omega) fun h' tk' hk => ?_
  exact ⟨.inl ⟨_, _, [], rfl, fun _ => rfl, ReadsW.bool true, by first | rfl | wrow_post, fun _ => ⟨List.nodup_nil, fun _ hm => nomatch hm⟩⟩, .of_keep hk, rfl, .of_eq hg⟩)
