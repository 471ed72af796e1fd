import PyProof.Rows.All
import Wide.All
import OpenK.AllK
import Wide.FinOn
import PySem.Challenge.RW_nz0082_01
set_option Elab.async false
set_option linter.unusedVariables false
set_option maxRecDepth 100000
section
open PySem PySem.W PyProof.Rows
set_option maxHeartbeats 8000000
noncomputable def Mine.view : Program := { PySem.Challenge.rw_nz0082_01.row.prog with main := { PySem.Challenge.rw_nz0082_01.row.prog.main with body := (PySem.Challenge.rw_nz0082_01.row.prog.main.body.drop 1).take 8 ++ ((PySem.Challenge.rw_nz0082_01.row.prog.main.body.drop 10).take 6 ++ ((PySem.Challenge.rw_nz0082_01.row.prog.main.body.drop 17).take 9 ++ PySem.Challenge.rw_nz0082_01.row.prog.main.body.drop 27)) } }
local macro_rules | `(tactic| o_head $H) => `(tactic| (
  refine' holds_open (q := Mine.view) (loose := []) (Xt := fun s => xlAt Mine.view [] s && recOk (RowW.records (OpenRow.toRowW PySem.Challenge.rw_nz0082_01.row)) s) (XP := XL Mine.view []) (Yf := Hook.obs $H) (Ya := Hook.val $H) (YP := Hook.says $H) (N := 3556) ?hl (Hook.of $H) (Hook.keeps $H) (fun s e => xl_of s (Bool.and_eq_true_iff.mp e).1) XL.keeps (by rfl) (by rfl) (by rfl) (fun s e => recFacts_of (Bool.and_eq_true_iff.mp e).2) (by rfl) (by first | assumption | decide +kernel) (by decide +kernel) ⟨rfl, rfl, rfl, rfl, rfl, by decide +kernel⟩ ?hw ?hc
  case hl => (intro w; unfold openEnds fencedOpening topFrom; rw [PySem.W.Fast.te14082659384304107361, PySem.W.Fast.te10274390034422433532, PySem.W.Fast.te14289696077712309145, PySem.W.Fast.te14364793385576792824, PySem.W.Fast.te4187177175401517315]; kernel_rfl)))
open_top hd for PySem.Challenge.rw_nz0082_01
end
section
namespace Mine
open PySem PySem.W PySem.Calls PyProof.Rows

structure Glb where
  prog : Program
  w : World
  K : Frag
  p : Program
  loose : List Str
  mean : ExcName → Option Value
  mg : Str → Option Value
  mb : Str → Option Value

/-- data -/
inductive D where
  | none
  | bool (b : Bool)
  | int (i : Int)
  | fn (a : Addr)
  | tup (ds : List D)
  | list (ds : List D)

abbrev Led := List (Addr × Obj)
abbrev tupOf (its : Array Value) (n : Nat) : Obj := { cls := .type "tuple", data := .seq its n }

mutual
inductive VIn (fz : Led) : Value → D → Prop
  | none : VIn fz .none .none
  | bool (b : Bool) : VIn fz (.bool b) (.bool b)
  | int (i : Int) (t : Tok) : VIn fz (.int i t) (.int i)
  | fn (a : Addr) : VIn fz (.ref a) (.fn a)
  | tup {a : Addr} {vs : List Value} {n : Nat} {ds : List D} : (a, tupOf vs.toArray n) ∈ fz → VAll fz vs ds → VIn fz (.ref a) (.tup ds)
  | list {a : Addr} {vs : List Value} {n : Nat} {ds : List D} : (a, listOf vs.toArray n) ∈ fz → VAll fz vs ds → VIn fz (.ref a) (.list ds)
inductive VAll (fz : Led) : List Value → List D → Prop
  | nil : VAll fz [] []
  | cons {v : Value} {vs : List Value} {d : D} {ds : List D} : VIn fz v d → VAll fz vs ds → VAll fz (v :: vs) (d :: ds)
end

def Sub (a b : Led) : Prop := ∀ p ∈ a, p ∈ b
theorem Sub.refl {a : Led} : Sub a a := fun _ h => h
theorem Sub.nil {a : Led} : Sub [] a := fun _ h => absurd h List.not_mem_nil
theorem Sub.trans {a b c : Led} (h : Sub a b) (k : Sub b c) : Sub a c := fun p hp => k p (h p hp)

mutual
theorem VIn.mono {fz fz' : Led} (hs : Sub fz fz') : ∀ {v : Value} {d : D}, VIn fz v d → VIn fz' v d
  | _, _, .none => .none
  | _, _, .bool b => .bool b
  | _, _, .int i t => .int i t
  | _, _, .fn a => .fn a
  | _, _, .tup h r => .tup (hs _ h) (VAll.mono hs r)
  | _, _, .list h r => .list (hs _ h) (VAll.mono hs r)
theorem VAll.mono {fz fz' : Led} (hs : Sub fz fz') : ∀ {vs : List Value} {ds : List D}, VAll fz vs ds → VAll fz' vs ds
  | _, _, .nil => .nil
  | _, _, .cons h r => .cons (VIn.mono hs h) (VAll.mono hs r)
end

section
variable {fz : Led} {vs ws : List Value} {ds es : List D} {v : Value} {d : D}
theorem VAll.length : ∀ {vs : List Value} {ds : List D}, VAll fz vs ds → vs.length = ds.length
  | _, _, .nil => rfl
  | _, _, .cons _ r => by rw [List.length_cons, List.length_cons, VAll.length r]
theorem VAll.append : ∀ {vs : List Value} {ds : List D}, VAll fz vs ds → VAll fz ws es → VAll fz (vs ++ ws) (ds ++ es)
  | _, _, .nil, k => k
  | _, _, .cons h r, k => .cons h (VAll.append r k)
theorem VAll.get : ∀ {vs : List Value} {ds : List D}, VAll fz vs ds → ∀ {k : Nat} {d : D}, ds[k]? = some d → ∃ v, vs[k]? = some v ∧ VIn fz v d
  | _, _, .nil, k, d, h => by simp at h
  | _, _, .cons h r, 0, d, e => by simp at e; subst e; exact ⟨_, rfl, h⟩
  | _, _, .cons h r, k + 1, d, e => by simpa using VAll.get r (by simpa using e)
theorem VAll.get' : ∀ {vs : List Value} {ds : List D}, VAll fz vs ds → ∀ {k : Nat} {v : Value}, vs[k]? = some v → ∃ d, ds[k]? = some d ∧ VIn fz v d
  | _, _, .nil, k, d, h => by simp at h
  | _, _, .cons h r, 0, d, e => by simp at e; subst e; exact ⟨_, rfl, h⟩
  | _, _, .cons h r, k + 1, d, e => by simpa using VAll.get' r (by simpa using e)
theorem VAll.take : ∀ {vs : List Value} {ds : List D}, VAll fz vs ds → ∀ k : Nat, VAll fz (vs.take k) (ds.take k)
  | _, _, _, 0 => by simpa using .nil
  | _, _, .nil, _ + 1 => by simpa using .nil
  | _, _, .cons h r, k + 1 => by simpa using .cons h (VAll.take r k)
theorem VAll.drop : ∀ {vs : List Value} {ds : List D}, VAll fz vs ds → ∀ k : Nat, VAll fz (vs.drop k) (ds.drop k)
  | _, _, h, 0 => by simpa using h
  | _, _, .nil, _ + 1 => by simpa using .nil
  | _, _, .cons h r, k + 1 => by simpa using VAll.drop r k
theorem VAll.reverse : ∀ {vs : List Value} {ds : List D}, VAll fz vs ds → VAll fz vs.reverse ds.reverse
  | _, _, .nil => by simpa using .nil
  | _, _, .cons h r => by simpa using VAll.append (VAll.reverse r) (.cons h .nil)
end

/-- a frame of a def of the text -/
structure FC where
  dp : Nat
  un : Nat
  gd : Option (List Code)
  cn : Str
  L : Addr
  a : Addr
  ccd : Value
  cl : List (Str × Addr)
  outer : List Env
  A₀ : Around
  base : Heap
  h₀ : Heap
abbrev FC.env (C : FC) (cs : Scope) : Env := envX C.cn cs C.L C.a C.ccd C.cl
abbrev FC.A (C : FC) (cs : Scope) : Around := { handled := none, depth := C.dp, frames := some (C.env cs :: C.outer), guards := C.gd, units := C.un }

structure FC.Ok (G : Glb) (n : Nat) (cs : Scope) (C : FC) : Prop where
  below : Below C.A₀ C.base C.outer C.h₀
  kin : G.K.In C.h₀
  top : Top G.p G.loose G.mean G.mg G.mb C.h₀
  kind : cs.kind = .function
  room : C.dp + n < recursionLimit
  units : C.un + 8 * n + 8 < cLine

/-- the locals as data; at most one list that the frame itself fills; cells -/
structure St where
  ρ : List (Str × D)
  own : Option (Str × List D) := none
  cells : List (Str × D) := []

def OwnOk (m : Str → Option Value) (ow fz : Led) : Option (Str × List D) → Prop
  | none => ow = []
  | some (x, ds) => ∃ a vs n, m x = some (.ref a) ∧ ow = [(a, listOf vs.toArray n)] ∧ VAll fz vs ds

def Off (a b : Led) : Prop := ∀ p ∈ a, ∀ q ∈ b, p.1 ≠ q.1

structure Rep (C : FC) (σ : St) (m : Str → Option Value) (ow fr fz : Led) : Prop where
  vars : ∀ x d, σ.ρ.lookup x = some d → ∃ v, m x = some v ∧ VIn fz v d
  own : OwnOk m ow fz σ.own
  cells : ∀ x d, σ.cells.lookup x = some d → ∃ c v o, C.cl.lookup x = some c ∧ (c, o) ∈ fz ∧ o.data = .cell (some v) ∧ VIn fz v d
  off : Off fz (ow ++ fr)
  off2 : Off ow fr

theorem OwnOk.mono {m : Str → Option Value} {ow fz fz' : Led} (hs : Sub fz fz') : ∀ {o}, OwnOk m ow fz o → OwnOk m ow fz' o
  | none, h => h
  | some (_, _), ⟨a, vs, n, h1, h2, h3⟩ => ⟨a, vs, n, h1, h2, h3.mono hs⟩

theorem Rep.grow {C : FC} {σ : St} {m : Str → Option Value} {ow fr fz fz' : Led} (r : Rep C σ m ow fr fz) (hs : Sub fz fz') (ho : Off fz' (ow ++ fr)) : Rep C σ m ow fr fz' where
  vars := fun x d h => let ⟨v, h1, h2⟩ := r.vars x d h; ⟨v, h1, h2.mono hs⟩
  own := r.own.mono hs
  cells := fun x d h => let ⟨c, v, o, h1, h2, h3, h4⟩ := r.cells x d h; ⟨c, v, o, h1, hs _ h2, h3, h4.mono hs⟩
  off := ho
  off2 := r.off2

theorem news_sub {h₀ h : Heap} {L : Addr} {a b : Led} (N : News h₀ L h b) (hs : ∀ p ∈ a, p ∈ b) : News h₀ L h a := fun p hp => N p (hs p hp)

section
variable {G : Glb} {n : Nat} {cs : Scope}

/-- a tree that runs in a frame; no exception leaves it -/
def Tri (G : Glb) (cs : Scope) (C : FC) {α : Type} (t : Sem α) (m : Str → Option Value) (ow fr fz : Led) (P : α → (Str → Option Value) → Led → Led → Prop) : Prop :=
  ∀ (s : Shared) (Q : α → Shared → Prop), Fr C.h₀ C.L s.heap m → News C.h₀ C.L s.heap (ow ++ (fr ++ fz)) →
    (∀ a m' ow' fz' h' tk', P a m' ow' fz' → Sub fz fz' → Fr C.h₀ C.L h' m' → News C.h₀ C.L h' (ow' ++ (fr ++ fz')) → Q a { s with heap := h', toks := tk' }) →
    wpAny (model G.prog G.w) (C.A cs) t Q (fun _ _ => False) s

structure Ev (G : Glb) (n : Nat) (cs : Scope) (σ : St) (e : Expr) (d : D) : Prop where
  run : ∀ (C : FC) m ow fr fz, C.Ok G n cs → Rep C σ m ow fr fz → Tri G cs C (eval e (C.env cs)) m ow fr fz (fun v m' ow' fz' => m' = m ∧ ow' = ow ∧ Rep C σ m ow fr fz' ∧ VIn fz' v d)
structure Tst (G : Glb) (n : Nat) (cs : Scope) (σ : St) (e : Expr) (b : Bool) : Prop where
  run : ∀ (C : FC) m ow fr fz, C.Ok G n cs → Rep C σ m ow fr fz → Tri G cs C (isTrue e (C.env cs) (eval e (C.env cs))) m ow fr fz (fun c m' ow' fz' => m' = m ∧ ow' = ow ∧ Rep C σ m ow fr fz' ∧ c = b)
structure EvL (G : Glb) (n : Nat) (cs : Scope) (σ : St) (es : List Expr) (ds : List D) : Prop where
  run : ∀ (C : FC) m ow fr fz pos, C.Ok G n cs → Rep C σ m ow fr fz → Tri G cs C (spliced (backTo pos (starEach es (C.env cs)))) m ow fr fz (fun vs m' ow' fz' => m' = m ∧ ow' = ow ∧ Rep C σ m ow fr fz' ∧ VAll fz' vs ds)

theorem no_exc {M : Model} {A : Around} {α : Type} {t : Sem α} {Q : α → Shared → Prop} {E : Value → Shared → Prop} {s : Shared} (h : wpAny M A t Q (fun _ _ => False) s) : wpAny M A t Q E s :=
  wpAny_mono h (fun _ _ q => q) fun _ _ f => f.elim

theorem Ev.use {σ : St} {e : Expr} {d : D} (h : Ev G n cs σ e d) {C : FC} {m : Str → Option Value} {ow fr fz : Led} (ok : C.Ok G n cs) (r : Rep C σ m ow fr fz) {s : Shared} {Q : Value → Shared → Prop} {E : Value → Shared → Prop}
    (F : Fr C.h₀ C.L s.heap m) (N : News C.h₀ C.L s.heap (ow ++ (fr ++ fz)))
    (k : ∀ v fz' h' tk', Rep C σ m ow fr fz' → VIn fz' v d → Sub fz fz' → Fr C.h₀ C.L h' m → News C.h₀ C.L h' (ow ++ (fr ++ fz')) → Q v { s with heap := h', toks := tk' }) :
    wpAny (model G.prog G.w) (C.A cs) (eval e (C.env cs)) Q E s :=
  no_exc (h.run C m ow fr fz ok r s Q F N fun v m' ow' fz' h' tk' p hs F' N' => by
    obtain ⟨rfl, rfl, r', hv⟩ := p
    exact k v fz' h' tk' r' hv hs F' N')
theorem Tst.use {σ : St} {e : Expr} {b : Bool} (h : Tst G n cs σ e b) {C : FC} {m : Str → Option Value} {ow fr fz : Led} (ok : C.Ok G n cs) (r : Rep C σ m ow fr fz) {s : Shared} {Q : Bool → Shared → Prop} {E : Value → Shared → Prop}
    (F : Fr C.h₀ C.L s.heap m) (N : News C.h₀ C.L s.heap (ow ++ (fr ++ fz)))
    (k : ∀ fz' h' tk', Rep C σ m ow fr fz' → Sub fz fz' → Fr C.h₀ C.L h' m → News C.h₀ C.L h' (ow ++ (fr ++ fz')) → Q b { s with heap := h', toks := tk' }) :
    wpAny (model G.prog G.w) (C.A cs) (isTrue e (C.env cs) (eval e (C.env cs))) Q E s :=
  no_exc (h.run C m ow fr fz ok r s Q F N fun v m' ow' fz' h' tk' p hs F' N' => by
    obtain ⟨rfl, rfl, r', hv⟩ := p
    subst hv
    exact k fz' h' tk' r' hs F' N')
theorem EvL.use {σ : St} {es : List Expr} {ds : List D} (h : EvL G n cs σ es ds) {C : FC} {m : Str → Option Value} {ow fr fz : Led} {pos : Pos} (ok : C.Ok G n cs) (r : Rep C σ m ow fr fz) {s : Shared} {Q : List Value → Shared → Prop} {E : Value → Shared → Prop}
    (F : Fr C.h₀ C.L s.heap m) (N : News C.h₀ C.L s.heap (ow ++ (fr ++ fz)))
    (k : ∀ vs fz' h' tk', Rep C σ m ow fr fz' → VAll fz' vs ds → Sub fz fz' → Fr C.h₀ C.L h' m → News C.h₀ C.L h' (ow ++ (fr ++ fz')) → Q vs { s with heap := h', toks := tk' }) :
    wpAny (model G.prog G.w) (C.A cs) (spliced (backTo pos (starEach es (C.env cs)))) Q E s :=
  no_exc (h.run C m ow fr fz pos ok r s Q F N fun v m' ow' fz' h' tk' p hs F' N' => by
    obtain ⟨rfl, rfl, r', hv⟩ := p
    exact k v fz' h' tk' r' hv hs F' N')

theorem Ev.intro {σ : St} {e : Expr} {d : D}
    (h : ∀ (C : FC) m ow fr fz (s : Shared) (Q : Value → Shared → Prop), C.Ok G n cs → Rep C σ m ow fr fz → Fr C.h₀ C.L s.heap m → News C.h₀ C.L s.heap (ow ++ (fr ++ fz)) →
      (∀ v fz' h' tk', Rep C σ m ow fr fz' → VIn fz' v d → Sub fz fz' → Fr C.h₀ C.L h' m → News C.h₀ C.L h' (ow ++ (fr ++ fz')) → Q v { s with heap := h', toks := tk' }) →
      wpAny (model G.prog G.w) (C.A cs) (eval e (C.env cs)) Q (fun _ _ => False) s) : Ev G n cs σ e d :=
  ⟨fun C m ow fr fz ok r s Q F N k => h C m ow fr fz s Q ok r F N fun v fz' h' tk' r' hv hs F' N' => k v m ow fz' h' tk' ⟨rfl, rfl, r', hv⟩ hs F' N'⟩
theorem Tst.intro {σ : St} {e : Expr} {b : Bool}
    (h : ∀ (C : FC) m ow fr fz (s : Shared) (Q : Bool → Shared → Prop), C.Ok G n cs → Rep C σ m ow fr fz → Fr C.h₀ C.L s.heap m → News C.h₀ C.L s.heap (ow ++ (fr ++ fz)) →
      (∀ fz' h' tk', Rep C σ m ow fr fz' → Sub fz fz' → Fr C.h₀ C.L h' m → News C.h₀ C.L h' (ow ++ (fr ++ fz')) → Q b { s with heap := h', toks := tk' }) →
      wpAny (model G.prog G.w) (C.A cs) (isTrue e (C.env cs) (eval e (C.env cs))) Q (fun _ _ => False) s) : Tst G n cs σ e b :=
  ⟨fun C m ow fr fz ok r s Q F N k => h C m ow fr fz s Q ok r F N fun fz' h' tk' r' hs F' N' => k b m ow fz' h' tk' ⟨rfl, rfl, r', rfl⟩ hs F' N'⟩
theorem EvL.intro {σ : St} {es : List Expr} {ds : List D}
    (h : ∀ (C : FC) m ow fr fz pos (s : Shared) (Q : List Value → Shared → Prop), C.Ok G n cs → Rep C σ m ow fr fz → Fr C.h₀ C.L s.heap m → News C.h₀ C.L s.heap (ow ++ (fr ++ fz)) →
      (∀ v fz' h' tk', Rep C σ m ow fr fz' → VAll fz' v ds → Sub fz fz' → Fr C.h₀ C.L h' m → News C.h₀ C.L h' (ow ++ (fr ++ fz')) → Q v { s with heap := h', toks := tk' }) →
      wpAny (model G.prog G.w) (C.A cs) (spliced (backTo pos (starEach es (C.env cs)))) Q (fun _ _ => False) s) : EvL G n cs σ es ds :=
  ⟨fun C m ow fr fz pos ok r s Q F N k => h C m ow fr fz pos s Q ok r F N fun v fz' h' tk' r' hv hs F' N' => k v m ow fz' h' tk' ⟨rfl, rfl, r', hv⟩ hs F' N'⟩

/- an operation on values that makes no object -/
def OpTo (G : Glb) {α : Type} (t : Sem α) (P : α → Prop) : Prop :=
  ∀ (A : Around) (s : Shared) (Q : α → Shared → Prop), A.handled = none → (∀ v tk, P v → Q v { s with toks := tk }) → wpAny (model G.prog G.w) A t Q (fun _ _ => False) s

theorem tk_eta {s : Shared} {tk : Nat} {α : Type} {Q : α → Shared → Prop} {v : α} (h : Q v { s with heap := s.heap, toks := tk }) : Q v { s with toks := tk } := h

/- expressions -/
theorem Ev.int {σ : St} {i : Int} {k pos} : Ev G n cs σ (.Constant (.int i) k pos) (.int i) :=
  Ev.intro fun C m ow fr fz s Q ok r F N k => wpAny_Constant_int (k _ fz s.heap _ r (.int ..) .refl F N)
theorem Ev.bool {σ : St} {b : Bool} {k pos} : Ev G n cs σ (.Constant (.bool b) k pos) (.bool b) :=
  Ev.intro fun C m ow fr fz s Q ok r F N k => Constant_bool (k _ fz s.heap _ r (.bool b) .refl F N)
theorem Ev.loc {σ : St} {x : Str} {pos : Pos} {d : D} (hl : σ.ρ.lookup x = some d) (hk : cs.names.lookup x = some .local) (hd : (x == ("__debug__" : Str)) = false) : Ev G n cs σ (.Name x pos) d :=
  Ev.intro fun C m ow fr fz s Q ok r F N k => by
    obtain ⟨v, h1, h2⟩ := r.vars x d hl
    exact nameX_L F h1 (k v fz s.heap _ r h2 .refl F N) ok.kind hk hd
theorem Ev.cell {σ : St} {x : Str} {pos : Pos} {d : D} (hl : σ.cells.lookup x = some d) (hk : cs.names.lookup x = some .cell) (hd : (x == ("__debug__" : Str)) = false) : Ev G n cs σ (.Name x pos) d :=
  Ev.intro fun C m ow fr fz s Q ok r F N k => by
    obtain ⟨c, v, o, h1, h2, h3, h4⟩ := r.cells x d hl
    exact nameX_C N h1 (List.mem_append_right _ (List.mem_append_right _ h2)) h3 (k v fz s.heap _ r h4 .refl F N) ok.kind hk hd
theorem Ev.glob {σ : St} {x : Str} {pos : Pos} {a : Addr} (hg : nsIn G.K mainGlobals x = some (some (.ref a))) (hk : cs.names.lookup x = some .globalImplicit) (hd : (x == ("__debug__" : Str)) = false) : Ev G n cs σ (.Name x pos) (.fn a) :=
  Ev.intro fun C m ow fr fz s Q ok r F N k => nameX_K F ok.kin (topRead_of ok.top) hg (k _ fz s.heap _ r (.fn a) .refl F N) ok.kind hk hd

theorem Ev.binop {σ : St} {l r : Expr} {op pos} {d1 d2 d : D} (h1 : Ev G n cs σ l d1) (h2 : Ev G n cs σ r d2)
    (h : ∀ v1 v2 fz, VIn fz v1 d1 → VIn fz v2 d2 → OpTo G (binaryOp op v1 v2) (fun v => VIn [] v d)) : Ev G n cs σ (.BinOp l op r pos) d :=
  Ev.intro fun C m ow fr fz s Q ok r F N k => wpAny_BinOp (h1.use ok r F N fun v1 fz1 hp1 tk1 r1 hv1 hs1 F1 N1 => h2.use ok r1 F1 N1 fun v2 fz2 hp2 tk2 r2 hv2 hs2 F2 N2 =>
    h v1 v2 fz2 (hv1.mono hs2) hv2 _ _ _ rfl fun v tk hv => k v fz2 hp2 tk r2 (hv.mono Sub.nil) (hs1.trans hs2) F2 N2)
theorem Ev.unop {σ : St} {e : Expr} {op pos} {d1 d : D} (h1 : Ev G n cs σ e d1)
    (h : ∀ v1 fz, VIn fz v1 d1 → OpTo G (unaryOp op v1) (fun v => VIn [] v d)) : Ev G n cs σ (.UnaryOp op e pos) d :=
  Ev.intro fun C m ow fr fz s Q ok r F N k => UnaryOp_ (h1.use ok r F N fun v1 fz1 hp1 tk1 r1 hv1 hs1 F1 N1 =>
    h v1 fz1 hv1 _ _ _ rfl fun v tk hv => k v fz1 hp1 tk r1 (hv.mono Sub.nil) hs1 F1 N1)
theorem Ev.cmp {σ : St} {l r : Expr} {op pos} {d1 d2 d : D} (h1 : Ev G n cs σ l d1) (h2 : Ev G n cs σ r d2)
    (h : ∀ v1 v2 fz, VIn fz v1 d1 → VIn fz v2 d2 → OpTo G (compareOp op v1 v2) (fun v => VIn [] v d)) (hm : behindInMarks op r = false) : Ev G n cs σ (.Compare l [op] [r] pos) d :=
  Ev.intro fun C m ow fr fz s Q ok r F N k => wpAny_Compare1 (h1.use ok r F N fun v1 fz1 hp1 tk1 r1 hv1 hs1 F1 N1 => h2.use ok r1 F1 N1 fun v2 fz2 hp2 tk2 r2 hv2 hs2 F2 N2 =>
    h v1 v2 fz2 (hv1.mono hs2) hv2 _ _ _ rfl fun v tk hv => k v fz2 hp2 tk r2 (hv.mono Sub.nil) (hs1.trans hs2) F2 N2) hm

/- tests -/
theorem Tst.cmp {σ : St} {l r : Expr} {op pos} {d1 d2 : D} {b : Bool} (h1 : Ev G n cs σ l d1) (h2 : Ev G n cs σ r d2)
    (h : ∀ v1 v2 fz, VIn fz v1 d1 → VIn fz v2 d2 → OpTo G (compareOp op v1 v2) (fun v => VIn [] v (.bool b))) (hm : behindInMarks op r = false) : Tst G n cs σ (.Compare l [op] [r] pos) b :=
  Tst.intro fun C m ow fr fz s Q ok r F N k => wpAny_isTrue_Compare1 (h1.use ok r F N fun v1 fz1 hp1 tk1 r1 hv1 hs1 F1 N1 => h2.use ok r1 F1 N1 fun v2 fz2 hp2 tk2 r2 hv2 hs2 F2 N2 =>
    h v1 v2 fz2 (hv1.mono hs2) hv2 _ _ _ rfl fun v tk hv => by
      cases hv
      exact wpAny_truthy_bool (k fz2 hp2 tk r2 (hs1.trans hs2) F2 N2)) hm
theorem Tst.plain {σ : St} {e : Expr} {b : Bool} (h1 : Ev G n cs σ e (.bool b))
    (he : ∀ env whole, isTrue e env whole = (do let v ← whole; standAt e.pos; holding [v] (truthy v))) : Tst G n cs σ e b :=
  Tst.intro fun C m ow fr fz s Q ok r F N k => isTrue_plain (h1.use ok r F N fun v1 fz1 hp1 tk1 r1 hv1 hs1 F1 N1 => by
      cases hv1
      exact wpAny_truthy_bool (k fz1 hp1 tk1 r1 hs1 F1 N1)) (he _ _)
theorem Tst.not {σ : St} {e : Expr} {b : Bool} {pos} (h : Tst G n cs σ e b) : Tst G n cs σ (.UnaryOp .Not e pos) (!b) :=
  Tst.intro fun C m ow fr fz s Q ok r F N k => isTrue_not (h.use ok r F N fun fz1 hp1 tk1 r1 hs1 F1 N1 => k fz1 hp1 tk1 r1 hs1 F1 N1)

/-- the words of a BoolOp under a test -/
structure TstW (G : Glb) (n : Nat) (cs : Scope) (σ : St) (op : BoolOp) (es : List Expr) (b : Bool) : Prop where
  run : ∀ (C : FC) m ow fr fz pos whole, C.Ok G n cs → Rep C σ m ow fr fz → Tri G cs C (isTrue (.BoolOp op es pos) (C.env cs) whole) m ow fr fz (fun c m' ow' fz' => m' = m ∧ ow' = ow ∧ Rep C σ m ow fr fz' ∧ c = b)
theorem TstW.use {σ : St} {op : BoolOp} {e : List Expr} {b : Bool} (h : TstW G n cs σ op e b) {C : FC} {m : Str → Option Value} {ow fr fz : Led} {pos whole} (ok : C.Ok G n cs) (r : Rep C σ m ow fr fz) {s : Shared} {Q : Bool → Shared → Prop} {E : Value → Shared → Prop}
    (F : Fr C.h₀ C.L s.heap m) (N : News C.h₀ C.L s.heap (ow ++ (fr ++ fz)))
    (k : ∀ fz' h' tk', Rep C σ m ow fr fz' → Sub fz fz' → Fr C.h₀ C.L h' m → News C.h₀ C.L h' (ow ++ (fr ++ fz')) → Q b { s with heap := h', toks := tk' }) :
    wpAny (model G.prog G.w) (C.A cs) (isTrue (.BoolOp op e pos) (C.env cs) whole) Q E s :=
  no_exc (h.run C m ow fr fz pos whole ok r s Q F N fun v m' ow' fz' h' tk' p hs F' N' => by
    obtain ⟨rfl, rfl, r', hv⟩ := p
    subst hv
    exact k fz' h' tk' r' hs F' N')
theorem TstW.intro {σ : St} {op : BoolOp} {e : List Expr} {b : Bool}
    (h : ∀ (C : FC) m ow fr fz pos whole (s : Shared) (Q : Bool → Shared → Prop), C.Ok G n cs → Rep C σ m ow fr fz → Fr C.h₀ C.L s.heap m → News C.h₀ C.L s.heap (ow ++ (fr ++ fz)) →
      (∀ fz' h' tk', Rep C σ m ow fr fz' → Sub fz fz' → Fr C.h₀ C.L h' m → News C.h₀ C.L h' (ow ++ (fr ++ fz')) → Q b { s with heap := h', toks := tk' }) →
      wpAny (model G.prog G.w) (C.A cs) (isTrue (.BoolOp op e pos) (C.env cs) whole) Q (fun _ _ => False) s) : TstW G n cs σ op e b :=
  ⟨fun C m ow fr fz pos whole ok r s Q F N k => h C m ow fr fz pos whole s Q ok r F N fun fz' h' tk' r' hs F' N' => k b m ow fz' h' tk' ⟨rfl, rfl, r', rfl⟩ hs F' N'⟩
theorem TstW.and_nil {σ : St} : TstW G n cs σ .And [] true :=
  TstW.intro fun C m ow fr fz pos whole s Q ok r F N k => isTrue_and_nil (k fz s.heap _ r .refl F N)
theorem TstW.or_nil {σ : St} : TstW G n cs σ .Or [] false :=
  TstW.intro fun C m ow fr fz pos whole s Q ok r F N k => isTrue_or_nil (k fz s.heap _ r .refl F N)
theorem TstW.and {σ : St} {e : Expr} {es : List Expr} {b c : Bool} (h1 : Tst G n cs σ e b) (h2 : b = true → TstW G n cs σ .And es c) : TstW G n cs σ .And (e :: es) (b && c) :=
  TstW.intro fun C m ow fr fz pos whole s Q ok r F N k => isTrue_and (h1.use ok r F N fun fz1 hp1 tk1 r1 hs1 F1 N1 => by
    cases b with
    | false => exact k fz1 hp1 tk1 r1 hs1 F1 N1
    | true => exact (h2 rfl).use ok r1 F1 N1 fun fz2 hp2 tk2 r2 hs2 F2 N2 => k fz2 hp2 tk2 r2 (hs1.trans hs2) F2 N2)
theorem TstW.or {σ : St} {e : Expr} {es : List Expr} {b c : Bool} (h1 : Tst G n cs σ e b) (h2 : b = false → TstW G n cs σ .Or es c) : TstW G n cs σ .Or (e :: es) (b || c) :=
  TstW.intro fun C m ow fr fz pos whole s Q ok r F N k => isTrue_or (h1.use ok r F N fun fz1 hp1 tk1 r1 hs1 F1 N1 => by
    cases b with
    | true => exact k fz1 hp1 tk1 r1 hs1 F1 N1
    | false => exact (h2 rfl).use ok r1 F1 N1 fun fz2 hp2 tk2 r2 hs2 F2 N2 => k fz2 hp2 tk2 r2 (hs1.trans hs2) F2 N2)
theorem Tst.boolop {σ : St} {op : BoolOp} {es : List Expr} {b : Bool} {pos} (h : TstW G n cs σ op es b) : Tst G n cs σ (.BoolOp op es pos) b :=
  Tst.intro fun C m ow fr fz s Q ok r F N k => h.use ok r F N k

theorem Ev.ifexp {σ : St} {t e1 e2 : Expr} {pos} {b : Bool} {d : D} (h : Tst G n cs σ t b) (h1 : b = true → Ev G n cs σ e1 d) (h2 : b = false → Ev G n cs σ e2 d) : Ev G n cs σ (.IfExp t e1 e2 pos) d :=
  Ev.intro fun C m ow fr fz s Q ok r F N k => IfExp_ (h.use ok r F N fun fz1 hp1 tk1 r1 hs1 F1 N1 => by
    cases b with
    | true => exact (h1 rfl).use ok r1 F1 N1 fun v fz2 hp2 tk2 r2 hv hs2 F2 N2 => k v fz2 hp2 tk2 r2 hv (hs1.trans hs2) F2 N2
    | false => exact (h2 rfl).use ok r1 F1 N1 fun v fz2 hp2 tk2 r2 hv hs2 F2 N2 => k v fz2 hp2 tk2 r2 hv (hs1.trans hs2) F2 N2)
theorem Ev.and2 {σ : St} {e1 e2 : Expr} {pos} {b c : Bool} (h1 : Ev G n cs σ e1 (.bool b)) (h2 : b = true → Ev G n cs σ e2 (.bool c)) : Ev G n cs σ (.BoolOp .And [e1, e2] pos) (.bool (b && c)) :=
  Ev.intro fun C m ow fr fz s Q ok r F N k => BoolOp_and (h1.use ok r F N fun v1 fz1 hp1 tk1 r1 hv1 hs1 F1 N1 => by
    cases hv1
    refine wpAny_truthy_bool ?_
    cases b with
    | false => exact k _ fz1 hp1 tk1 r1 (.bool _) hs1 F1 N1
    | true => exact BoolOp_one ((h2 rfl).use ok r1 F1 N1 fun v fz2 hp2 tk2 r2 hv hs2 F2 N2 => k v fz2 hp2 tk2 r2 hv (hs1.trans hs2) F2 N2))
end
end Mine
end
section
namespace Mine
open PySem PySem.W PySem.Calls PyProof.Rows

section
variable {G : Glb} {n : Nat} {cs : Scope} {σ : St}

/- ints -/
theorem op2 {op : Value → Value → Sem Value} {a b : Int} {d : D} (h : ∀ t u, OpTo G (op (.int a t) (.int b u)) (fun v => VIn [] v d)) :
    ∀ v1 v2 fz, VIn fz v1 (.int a) → VIn fz v2 (.int b) → OpTo G (op v1 v2) (fun v => VIn [] v d) := by
  intro v1 v2 fz h1 h2
  cases h1; cases h2; exact h _ _
theorem Ev.add {l r : Expr} {pos} {a b : Int} (h1 : Ev G n cs σ l (.int a)) (h2 : Ev G n cs σ r (.int b)) : Ev G n cs σ (.BinOp l .Add r pos) (.int (a + b)) :=
  h1.binop h2 (op2 fun t u A s Q hh k => add_int (k _ _ (.int _ _)))
theorem Ev.sub {l r : Expr} {pos} {a b : Int} (h1 : Ev G n cs σ l (.int a)) (h2 : Ev G n cs σ r (.int b)) : Ev G n cs σ (.BinOp l .Sub r pos) (.int (a - b)) :=
  h1.binop h2 (op2 fun t u A s Q hh k => sub_int (k _ _ (.int _ _)))
theorem Ev.mul {l r : Expr} {pos} {a b : Int} (h1 : Ev G n cs σ l (.int a)) (h2 : Ev G n cs σ r (.int b)) (ha : a.natAbs < 2 ^ 62) : Ev G n cs σ (.BinOp l .Mult r pos) (.int (a * b)) :=
  h1.binop h2 (op2 fun t u A s Q hh k => mul_int (k _ _ (.int _ _)) (PySem.IntMulOk.of_left (PySem.intBits_le_64 (by omega) (by omega))))
theorem Ev.fdiv {l r : Expr} {pos} {a b : Int} (h1 : Ev G n cs σ l (.int a)) (h2 : Ev G n cs σ r (.int b)) (hb : 0 < b) (hB : b < 1073741824) : Ev G n cs σ (.BinOp l .FloorDiv r pos) (.int (a / b)) :=
  h1.binop h2 (op2 fun t u A s Q hh k => floordiv_int (by omega) (by rw [Int.fdiv_eq_ediv_of_nonneg _ (by omega)]; exact k _ _ (.int _ _)) (Or.inl (PyProof.noPylong_small (by omega))))
theorem Ev.mod {l r : Expr} {pos} {a b : Int} (h1 : Ev G n cs σ l (.int a)) (h2 : Ev G n cs σ r (.int b)) (hb : 0 < b) : Ev G n cs σ (.BinOp l .Mod r pos) (.int (a % b)) :=
  h1.binop h2 (op2 fun t u A s Q hh k => mod_int' (by omega) (by rw [Int.fmod_eq_emod_of_nonneg _ (by omega)]; exact k _ _ (.int _ _)))
theorem Ev.shl {l r : Expr} {pos} {a b : Int} (h1 : Ev G n cs σ l (.int a)) (h2 : Ev G n cs σ r (.int b)) (hb : 0 ≤ b) (hB : b ≤ 1000000) (ha : a.natAbs < 2 ^ 64) : Ev G n cs σ (.BinOp l .LShift r pos) (.int (a * 2 ^ b.toNat)) :=
  h1.binop h2 (op2 fun t u A s Q hh k => lshift_int_small hb hB ha (k _ _ (.int _ _)))
theorem Ev.shr {l r : Expr} {pos} {a b : Int} (h1 : Ev G n cs σ l (.int a)) (h2 : Ev G n cs σ r (.int b)) (hb : 0 ≤ b) : Ev G n cs σ (.BinOp l .RShift r pos) (.int (a / 2 ^ b.toNat)) :=
  h1.binop h2 (op2 fun t u A s Q hh k => rshift_int hb (by rw [Int.fdiv_eq_ediv_of_nonneg _ (Int.le_of_lt (Int.pow_pos (by decide)))]; exact k _ _ (.int _ _)))
theorem Ev.band {l r : Expr} {pos} {a b : Int} (h1 : Ev G n cs σ l (.int a)) (h2 : Ev G n cs σ r (.int b)) : Ev G n cs σ (.BinOp l .BitAnd r pos) (.int (Builtin.bitAnd a b)) :=
  h1.binop h2 (op2 fun t u A s Q hh k => and_int (k _ _ (.int _ _)))
theorem Ev.neg {e : Expr} {pos} {a : Int} (h1 : Ev G n cs σ e (.int a)) : Ev G n cs σ (.UnaryOp .USub e pos) (.int (-a)) :=
  h1.unop fun v1 fz h => by cases h; exact fun A s Q hh k => neg_int (k _ _ (.int _ _))

theorem ceq {a b : Int} (t u) : OpTo G (compareOp .Eq (.int a t) (.int b u)) (fun v => VIn [] v (.bool (a == b))) := fun A s Q hh k => eq_int (k _ _ (.bool _))
theorem cne {a b : Int} (t u) : OpTo G (compareOp .NotEq (.int a t) (.int b u)) (fun v => VIn [] v (.bool (a != b))) := fun A s Q hh k => ne_int (k _ _ (.bool _))
theorem clt {a b : Int} (t u) : OpTo G (compareOp .Lt (.int a t) (.int b u)) (fun v => VIn [] v (.bool (decide (a < b)))) := fun A s Q hh k => lt_int (k _ _ (.bool _))
theorem cle {a b : Int} (t u) : OpTo G (compareOp .LtE (.int a t) (.int b u)) (fun v => VIn [] v (.bool (decide (a ≤ b)))) := fun A s Q hh k => le_int (k _ _ (.bool _))
theorem cgt {a b : Int} (t u) : OpTo G (compareOp .Gt (.int a t) (.int b u)) (fun v => VIn [] v (.bool (decide (b < a)))) := fun A s Q hh k => gt_int (k _ _ (.bool _))
theorem cge {a b : Int} (t u) : OpTo G (compareOp .GtE (.int a t) (.int b u)) (fun v => VIn [] v (.bool (decide (b ≤ a)))) := fun A s Q hh k => ge_int (k _ _ (.bool _))
theorem op2b {op : Value → Value → Sem Value} {a b : Bool} {d : D} (h : OpTo G (op (.bool a) (.bool b)) (fun v => VIn [] v d)) :
    ∀ v1 v2 fz, VIn fz v1 (.bool a) → VIn fz v2 (.bool b) → OpTo G (op v1 v2) (fun v => VIn [] v d) := by
  intro v1 v2 fz h1 h2
  cases h1; cases h2; exact h
theorem cneb {a b : Bool} : OpTo G (compareOp .NotEq (.bool a) (.bool b)) (fun v => VIn [] v (.bool (a != b))) := fun A s Q hh k => ne_bool (k _ _ (.bool _))
theorem ceqb {a b : Bool} : OpTo G (compareOp .Eq (.bool a) (.bool b)) (fun v => VIn [] v (.bool (a == b))) := fun A s Q hh k => eq_bool (k _ _ (.bool _))

section
variable {l r : Expr} {pos : Pos} {a b : Int}
theorem Ev.eq (h1 : Ev G n cs σ l (.int a)) (h2 : Ev G n cs σ r (.int b)) (hm : behindInMarks .Eq r = false) : Ev G n cs σ (.Compare l [.Eq] [r] pos) (.bool (a == b)) := h1.cmp h2 (op2 ceq) hm
theorem Ev.ne (h1 : Ev G n cs σ l (.int a)) (h2 : Ev G n cs σ r (.int b)) (hm : behindInMarks .NotEq r = false) : Ev G n cs σ (.Compare l [.NotEq] [r] pos) (.bool (a != b)) := h1.cmp h2 (op2 cne) hm
theorem Ev.lt (h1 : Ev G n cs σ l (.int a)) (h2 : Ev G n cs σ r (.int b)) (hm : behindInMarks .Lt r = false) : Ev G n cs σ (.Compare l [.Lt] [r] pos) (.bool (decide (a < b))) := h1.cmp h2 (op2 clt) hm
theorem Ev.le (h1 : Ev G n cs σ l (.int a)) (h2 : Ev G n cs σ r (.int b)) (hm : behindInMarks .LtE r = false) : Ev G n cs σ (.Compare l [.LtE] [r] pos) (.bool (decide (a ≤ b))) := h1.cmp h2 (op2 cle) hm
theorem Ev.gt (h1 : Ev G n cs σ l (.int a)) (h2 : Ev G n cs σ r (.int b)) (hm : behindInMarks .Gt r = false) : Ev G n cs σ (.Compare l [.Gt] [r] pos) (.bool (decide (b < a))) := h1.cmp h2 (op2 cgt) hm
theorem Ev.ge (h1 : Ev G n cs σ l (.int a)) (h2 : Ev G n cs σ r (.int b)) (hm : behindInMarks .GtE r = false) : Ev G n cs σ (.Compare l [.GtE] [r] pos) (.bool (decide (b ≤ a))) := h1.cmp h2 (op2 cge) hm
theorem Tst.eq (h1 : Ev G n cs σ l (.int a)) (h2 : Ev G n cs σ r (.int b)) (hm : behindInMarks .Eq r = false) : Tst G n cs σ (.Compare l [.Eq] [r] pos) (a == b) := Tst.cmp h1 h2 (op2 ceq) hm
theorem Tst.ne (h1 : Ev G n cs σ l (.int a)) (h2 : Ev G n cs σ r (.int b)) (hm : behindInMarks .NotEq r = false) : Tst G n cs σ (.Compare l [.NotEq] [r] pos) (a != b) := Tst.cmp h1 h2 (op2 cne) hm
theorem Tst.lt (h1 : Ev G n cs σ l (.int a)) (h2 : Ev G n cs σ r (.int b)) (hm : behindInMarks .Lt r = false) : Tst G n cs σ (.Compare l [.Lt] [r] pos) (decide (a < b)) := Tst.cmp h1 h2 (op2 clt) hm
theorem Tst.le (h1 : Ev G n cs σ l (.int a)) (h2 : Ev G n cs σ r (.int b)) (hm : behindInMarks .LtE r = false) : Tst G n cs σ (.Compare l [.LtE] [r] pos) (decide (a ≤ b)) := Tst.cmp h1 h2 (op2 cle) hm
theorem Tst.gt (h1 : Ev G n cs σ l (.int a)) (h2 : Ev G n cs σ r (.int b)) (hm : behindInMarks .Gt r = false) : Tst G n cs σ (.Compare l [.Gt] [r] pos) (decide (b < a)) := Tst.cmp h1 h2 (op2 cgt) hm
theorem Tst.ge (h1 : Ev G n cs σ l (.int a)) (h2 : Ev G n cs σ r (.int b)) (hm : behindInMarks .GtE r = false) : Tst G n cs σ (.Compare l [.GtE] [r] pos) (decide (b ≤ a)) := Tst.cmp h1 h2 (op2 cge) hm
variable {c d : Bool}
theorem Ev.neb (h1 : Ev G n cs σ l (.bool c)) (h2 : Ev G n cs σ r (.bool d)) (hm : behindInMarks .NotEq r = false) : Ev G n cs σ (.Compare l [.NotEq] [r] pos) (.bool (c != d)) := h1.cmp h2 (op2b cneb) hm
theorem Tst.neb (h1 : Ev G n cs σ l (.bool c)) (h2 : Ev G n cs σ r (.bool d)) (hm : behindInMarks .NotEq r = false) : Tst G n cs σ (.Compare l [.NotEq] [r] pos) (c != d) := Tst.cmp h1 h2 (op2b cneb) hm
theorem Tst.eqb (h1 : Ev G n cs σ l (.bool c)) (h2 : Ev G n cs σ r (.bool d)) (hm : behindInMarks .Eq r = false) : Tst G n cs σ (.Compare l [.Eq] [r] pos) (c == d) := Tst.cmp h1 h2 (op2b ceqb) hm
end

/- lists of expressions -/
theorem EvL.nil : EvL G n cs σ [] [] := EvL.intro fun C m ow fr fz pos s Q ok r F N k => args_nil (k [] fz s.heap _ r .nil .refl F N)
theorem EvL.cons {e : Expr} {es : List Expr} {d : D} {ds : List D} (h1 : Ev G n cs σ e d) (h2 : EvL G n cs σ es ds) (he : ∀ env, starEach (e :: es) env = (false, eval e env) :: starEach es env) : EvL G n cs σ (e :: es) (d :: ds) :=
  EvL.intro fun C m ow fr fz pos s Q ok r F N k => args_cons (h1.use ok r F N fun v fz1 hp1 tk1 r1 hv1 hs1 F1 N1 => h2.use ok r1 F1 N1 fun vs fz2 hp2 tk2 r2 hv2 hs2 F2 N2 =>
    k (v :: vs) fz2 hp2 tk2 r2 (.cons (hv1.mono hs2) hv2) (hs1.trans hs2) F2 N2) (he _)

theorem off_new {C : FC} {m : Str → Option Value} {ow fr fz : Led} {h : Heap} {o : Obj} (r : Rep C σ m ow fr fz) (N : News C.h₀ C.L h (ow ++ (fr ++ fz))) : Off ((h.objs.size, o) :: fz) (ow ++ fr) := by
  intro p hp q hq e
  rcases List.mem_cons.mp hp with rfl | hp
  · have : q ∈ ow ++ (fr ++ fz) := by
      rw [← List.append_assoc]; exact List.mem_append_left _ hq
    exact absurd (Heap.lt_size (N q this).1) (by rw [← e]; exact Nat.lt_irrefl _)
  · exact r.off p hp q hq e
theorem news_in {h₀ h : Heap} {L : Addr} {ow fr fz : Led} {p : Addr × Obj} (N : News h₀ L h (p :: (ow ++ (fr ++ fz)))) : News h₀ L h (ow ++ (fr ++ (p :: fz))) := by
  refine news_sub N fun q hq => ?_
  rcases List.mem_append.mp hq with hq | hq
  · exact .tail _ (List.mem_append_left _ hq)
  · rcases List.mem_append.mp hq with hq | hq
    · exact .tail _ (List.mem_append_right _ (List.mem_append_left _ hq))
    · rcases List.mem_cons.mp hq with rfl | hq
      · exact .head _
      · exact .tail _ (List.mem_append_right _ (List.mem_append_right _ hq))
theorem Sub.cons {a : Led} {p : Addr × Obj} : Sub a (p :: a) := fun q hq => .tail _ hq

theorem Ev.tuple {es : List Expr} {k pos} {ds : List D} (h : EvL G n cs σ es ds) (hz : ds.length ≤ 1000000) : Ev G n cs σ (.Tuple es k pos) (.tup ds) :=
  Ev.intro fun C m ow fr fz s Q ok r F N kk => Tuple_ (h.use ok r F N fun vs fz1 hp1 tk1 r1 hv1 hs1 F1 N1 =>
    newTuple_N (news := ow ++ (fr ++ fz1)) F1 N1 (fun h' F' N' => kk _ ((hp1.objs.size, tupOf vs.toArray 0) :: fz1) h' tk1 (r1.grow Sub.cons (off_new r1 N1)) (.tup (.head _) (hv1.mono Sub.cons)) (hs1.trans Sub.cons) F' (news_in N'))
      (by rw [PySem.sizeLine_eq, hv1.length]; omega))
theorem Ev.listd {es : List Expr} {pos} {ds : List D} (h : EvL G n cs σ es ds) (hz : ds.length ≤ 1000000) : Ev G n cs σ (.List es pos) (.list ds) :=
  Ev.intro fun C m ow fr fz s Q ok r F N kk => List_ (h.use ok r F N fun vs fz1 hp1 tk1 r1 hv1 hs1 F1 N1 =>
    newList_N (news := ow ++ (fr ++ fz1)) F1 N1 (fun h' F' N' => kk _ ((hp1.objs.size, listOf vs.toArray 0) :: fz1) h' tk1 (r1.grow Sub.cons (off_new r1 N1)) (.list (.head _) (hv1.mono Sub.cons)) (hs1.trans Sub.cons) F' (news_in N'))
      (by rw [PySem.sizeLine_eq, hv1.length]; omega))

/- calls -/
def Spec (G : Glb) (f : Addr) (k : Nat) (ds : List D) (d : D) : Prop :=
  (∃ oc od fd osl, G.K.lookup f = some ⟨oc, od, .func fd, osl⟩) ∧
  ∀ (cs : Scope) (C : FC) m (ow fz : Led) vs (s : Shared) (Q : Value → Shared → Prop), C.Ok G k cs → Off fz ow → VAll fz vs ds → Fr C.h₀ C.L s.heap m → News C.h₀ C.L s.heap (ow ++ fz) →
    (∀ v fz' h' tk', Off fz' ow → VIn fz' v d → Sub fz fz' → Fr C.h₀ C.L h' m → News C.h₀ C.L h' (ow ++ fz') → Q v { s with heap := h', toks := tk' }) →
    wpAny (model G.prog G.w) (C.A cs) (call (.ref f) vs) Q (fun _ _ => False) s

theorem FC.Ok.le {k : Nat} {C : FC} (ok : C.Ok G n cs) (h : k ≤ n) : C.Ok G k cs :=
  ⟨ok.below, ok.kin, ok.top, ok.kind, by have := ok.room; omega, by have := ok.units; omega⟩

theorem Ev.call {fe e : Expr} {es : List Expr} {pos : Pos} {f : Addr} {k : Nat} {ds : List D} {d : D} (hf : Ev G n cs σ fe (.fn f)) (ha : EvL G n cs σ (e :: es) ds) (hs : Spec G f k ds d) (hk : k ≤ n)
    (he : ∀ env, starEach (e :: es) env = (false, eval e env) :: starEach es env)
    (hc : ∀ env, eval (.Call fe (e :: es) [] pos) env = (do callWith pos (← eval fe env) [] (backTo pos (starEach (e :: es) env)) (backToKw pos (keywordEach [] env)))) : Ev G n cs σ (.Call fe (e :: es) [] pos) d :=
  Ev.intro fun C m ow fr fz s Q ok r F N kk => Call_ (hf.use ok r F N fun v1 fz1 hp1 tk1 r1 hv1 hs1 F1 N1 => by
    cases hv1
    obtain ⟨⟨oc, od, fd, osl, hl⟩, hS⟩ := hs
    refine callWith_def (o := ⟨oc, od, .func fd, osl⟩) (fd := fd) rfl (ha.use ok r1 F1 N1 fun vs fz2 hp2 tk2 r2 hv2 hs2 F2 N2 => ⟨(ok.kin.keeps F2.keep) _ _ hl, ?_⟩) (he _)
    refine no_exc (hS cs C m (ow ++ fr) fz2 vs _ Q (ok.le hk) r2.off hv2 F2 (by rw [List.append_assoc]; exact N2) fun v fz3 h3 tk3 ho3 hv3 hs3 F3 N3 => ?_)
    exact kk v fz3 h3 tk3 (r2.grow hs3 ho3) hv3 ((hs1.trans hs2).trans hs3) F3 (by rw [List.append_assoc] at N3; exact N3)) (hc _)

theorem Ev.len {e : Expr} {x : Str} {p pos : Pos} {ds : List D} (h : Ev G n cs σ e (.list ds)) (hz : ds.length ≤ 1000000) (hx : x = Str.ofString "len")
    (hg : nsIn G.K mainGlobals x = some none) (hk : cs.names.lookup x = some .globalImplicit)
    (he : ∀ env, starEach [e] env = (false, eval e env) :: starEach [] env) : Ev G n cs σ (.Call (.Name x p) [e] [] pos) (.int ds.length) :=
  Ev.intro fun C m ow fr fz s Q ok r F N kk => by
    subst hx
    refine Call_ (nameX_B F ok.kin (topRead_of ok.top) hg (v := .builtin "len") (by decide +kernel) (by decide) ?_ ok.kind hk)
    refine PyProof.Rows.callWith_builtin1 (args_cons (h.use ok r F N fun v fz1 hp1 tk1 r1 hv1 hs1 F1 N1 => args_nil ?_) (he _)) (he _)
    cases hv1 with
    | list hm ha =>
      have hi := N1 _ (List.mem_append_right _ (List.mem_append_right _ hm))
      have e1 : ∀ vs : List Value, vs.toArray.size = vs.length := fun vs => List.size_toArray ..
      refine len_list ⟨_, hi.1, rfl, _, rfl⟩ (by rw [e1, ha.length]; omega) ?_
      rw [e1, ha.length]
      exact kk _ fz1 hp1 _ r1 (.int _ _) hs1 F1 N1
theorem Ev.abs {e : Expr} {x : Str} {p pos : Pos} {i : Int} (h : Ev G n cs σ e (.int i)) (hx : x = Str.ofString "abs")
    (hg : nsIn G.K mainGlobals x = some none) (hk : cs.names.lookup x = some .globalImplicit)
    (he : ∀ env, starEach [e] env = (false, eval e env) :: starEach [] env) : Ev G n cs σ (.Call (.Name x p) [e] [] pos) (.int i.natAbs) :=
  Ev.intro fun C m ow fr fz s Q ok r F N kk => by
    subst hx
    refine Call_ (nameX_B F ok.kin (topRead_of ok.top) hg (v := .builtin "abs") (by decide +kernel) (by decide) ?_ ok.kind hk)
    refine PyProof.Rows.callWith_builtin1 (args_cons (h.use ok r F N fun v fz1 hp1 tk1 r1 hv1 hs1 F1 N1 => args_nil ?_) (he _)) (he _)
    cases hv1
    refine call_abs_int fun u tk => ?_
    have e1 : (if i < 0 then -i else i) = (i.natAbs : Int) := by split <;> omega
    rw [e1]
    exact kk _ fz1 hp1 _ r1 (.int _ _) hs1 F1 N1
theorem Ev.min2 {e1 e2 : Expr} {x : Str} {p pos : Pos} {i j : Int} (h : Ev G n cs σ e1 (.int i)) (h2 : Ev G n cs σ e2 (.int j)) (hx : x = Str.ofString "min")
    (hg : nsIn G.K mainGlobals x = some none) (hk : cs.names.lookup x = some .globalImplicit)
    (he : ∀ env, starEach [e1, e2] env = (false, eval e1 env) :: starEach [e2] env) (he2 : ∀ env, starEach [e2] env = (false, eval e2 env) :: starEach [] env) : Ev G n cs σ (.Call (.Name x p) [e1, e2] [] pos) (.int (Min.min i j)) :=
  Ev.intro fun C m ow fr fz s Q ok r F N kk => by
    subst hx
    refine Call_ (nameX_B F ok.kin (topRead_of ok.top) hg (v := .builtin "min") (by decide +kernel) (by decide) ?_ ok.kind hk)
    refine PyProof.Rows.callWith_builtin1 (args_cons (h.use ok r F N fun v fz1 hp1 tk1 r1 hv1 hs1 F1 N1 => args_cons (h2.use ok r1 F1 N1 fun v2 fz2 hp2 tk2 r2 hv2 hs2 F2 N2 => args_nil ?_) (he2 _)) (he _)) (he _) (by rw [he2]; rfl)
    cases hv1
    cases hv2
    refine min_two_N rfl F2 N2 fun h' tk F3 N3 => ?_
    have e1 : (if j < i then j else i) = Min.min i j := by split <;> omega
    rw [e1]
    exact kk _ fz2 h' _ r2 (.int _ _) (hs1.trans hs2) F3 N3

/- items -/
theorem seqIndex_nat {i : Nat} {k : Int} {l : Nat} (h : k = (i : Int)) (hl : i < l) : seqIndex? k l = some i := by
  subst h
  unfold seqIndex?
  simp
  omega
theorem Ev.tget {ve se : Expr} {pos : Pos} {ds : List D} {k : Int} {i : Nat} {d : D} (h1 : Ev G n cs σ ve (.tup ds)) (h2 : Ev G n cs σ se (.int k)) (hk : k = (i : Int)) (hd : ds[i]? = some d) (hi : i < 1000000)
    (hs : ∀ a k u, subscripted se false (.ref a) (.int k u) = operate [.ref a, .int k u] (getItem (.ref a) (.int k u))) : Ev G n cs σ (.Subscript ve se pos) d :=
  Ev.intro fun C m ow fr fz s Q ok r F N kk => Subscript_ (h1.use ok r F N fun v1 fz1 hp1 tk1 r1 hv1 hs1 F1 N1 => h2.use ok r1 F1 N1 fun v2 fz2 hp2 tk2 r2 hv2 hs2 F2 N2 => by
    cases hv2
    cases hv1 with
    | tup hm ha =>
      obtain ⟨v, hv, hV⟩ := ha.get hd
      have hmm := N2 _ (List.mem_append_right _ (List.mem_append_right _ (hs2 _ hm)))
      have hlt : i < ds.length := (List.getElem?_eq_some_iff.mp hd).1
      exact item_tupleT ⟨_, hmm.1, rfl, _, rfl⟩ (by omega) (by omega) (seqIndex_nat hk (by rw [ha.length]; exact hlt)) hv (kk v fz2 hp2 tk2 r2 (hV.mono hs2) (hs1.trans hs2) F2 N2) (hs _ _ _))
theorem Ev.lget {ve se : Expr} {pos : Pos} {ds : List D} {k : Int} {i : Nat} {d : D} (h1 : Ev G n cs σ ve (.list ds)) (h2 : Ev G n cs σ se (.int k)) (hk : k = (i : Int)) (hd : ds[i]? = some d) (hi : i < 1000000)
    (hs : ∀ a k u, subscripted se false (.ref a) (.int k u) = operate [.ref a, .int k u] (getItem (.ref a) (.int k u))) : Ev G n cs σ (.Subscript ve se pos) d :=
  Ev.intro fun C m ow fr fz s Q ok r F N kk => Subscript_ (h1.use ok r F N fun v1 fz1 hp1 tk1 r1 hv1 hs1 F1 N1 => h2.use ok r1 F1 N1 fun v2 fz2 hp2 tk2 r2 hv2 hs2 F2 N2 => by
    cases hv2
    cases hv1 with
    | list hm ha =>
      obtain ⟨v, hv, hV⟩ := ha.get hd
      have hmm := N2 _ (List.mem_append_right _ (List.mem_append_right _ (hs2 _ hm)))
      have hl : Heap.IsList hp2 _ _ := ⟨_, hmm.1, rfl, _, rfl⟩
      exact tail_any (Heap.IsList.typeIs (s := { s with heap := hp2, toks := tk2 }) hl) slot_list_getitem.lookup (wpAny_getItem_list hl (by omega) (by omega) (by subst hk; simpa using hv) (kk v fz2 hp2 tk2 r2 (hV.mono hs2) (hs1.trans hs2) F2 N2)) (hs _ _ _))
theorem Ev.llast {ve se : Expr} {pos : Pos} {ds : List D} {d : D} (h1 : Ev G n cs σ ve (.list (ds ++ [d]))) (h2 : Ev G n cs σ se (.int (-1)))
    (hs : ∀ a k u, subscripted se false (.ref a) (.int k u) = operate [.ref a, .int k u] (getItem (.ref a) (.int k u))) : Ev G n cs σ (.Subscript ve se pos) d :=
  Ev.intro fun C m ow fr fz s Q ok r F N kk => Subscript_ (h1.use ok r F N fun v1 fz1 hp1 tk1 r1 hv1 hs1 F1 N1 => h2.use ok r1 F1 N1 fun v2 fz2 hp2 tk2 r2 hv2 hs2 F2 N2 => by
    cases hv2
    cases hv1 with
    | @list a vs nn _ hm ha =>
      obtain ⟨v, hv, hV⟩ := ha.get (k := ds.length) (d := d) (by simp)
      have hmm := N2 _ (List.mem_append_right _ (List.mem_append_right _ (hs2 _ hm)))
      have hl : Heap.IsList hp2 _ _ := ⟨_, hmm.1, rfl, _, rfl⟩
      have hlen := ha.length
      simp only [List.length_append, List.length_cons, List.length_nil] at hlen
      exact tail_any (Heap.IsList.typeIs (s := { s with heap := hp2, toks := tk2 }) hl) slot_list_getitem.lookup (wpAny_getItem_list_neg hl (by decide) (by rw [List.size_toArray]; omega) (by decide)
        (by
          have e : (-1 + ((vs.toArray).size : Int)).toNat = ds.length := by rw [List.size_toArray, hlen]; omega
          rw [e]; simpa using hv) (kk v fz2 hp2 tk2 r2 (hV.mono hs2) (hs1.trans hs2) F2 N2)) (hs _ _ _))
end
end Mine
end
section
namespace Mine
open PySem PySem.W PySem.Calls PyProof.Rows

section
variable {G : Glb} {n : Nat} {cs : Scope} {σ : St}

/- slices -/
inductive EvP (G : Glb) (n : Nat) (cs : Scope) (σ : St) : Option Expr → Option Int → Prop
  | none : EvP G n cs σ none none
  | some {e : Expr} {i : Int} : Ev G n cs σ e (.int i) → EvP G n cs σ (some e) (some i)
theorem EvP.use {e : Option Expr} {d : Option Int} (h : EvP G n cs σ e d) {C : FC} {m : Str → Option Value} {ow fr fz : Led} (ok : C.Ok G n cs) (r : Rep C σ m ow fr fz) {s : Shared} {Q : Value → Shared → Prop} {E : Value → Shared → Prop}
    (F : Fr C.h₀ C.L s.heap m) (N : News C.h₀ C.L s.heap (ow ++ (fr ++ fz)))
    (k : ∀ v fz' h' tk', Rep C σ m ow fr fz' → IsPart v d → Sub fz fz' → Fr C.h₀ C.L h' m → News C.h₀ C.L h' (ow ++ (fr ++ fz')) → Q v { s with heap := h', toks := tk' }) :
    wpAny (model G.prog G.w) (C.A cs) (evalPart e (C.env cs)) Q E s := by
  cases h with
  | none => exact evalPart_none_step (k _ fz s.heap s.toks r .none .refl F N)
  | some h => exact evalPart_some_step (h.use ok r F N fun v fz1 h1 tk1 r1 hv hs1 F1 N1 => k v fz1 h1 tk1 r1 (by cases hv; exact .int _ _) hs1 F1 N1)

theorem Ev.slice {ve : Expr} {lo hi st : Option Expr} {p pos : Pos} {ds rs : List D} {ol oh os : Option Int} (h1 : Ev G n cs σ ve (.list ds)) (hl : EvP G n cs σ lo ol) (hh : EvP G n cs σ hi oh) (hst : EvP G n cs σ st os) (h0 : os ≠ some 0) (hz : ds.length ≤ 1000000)
    (hp : ∀ fz vs, VAll fz vs ds → VAll fz (slicePick vs.toArray ol oh os).toList rs)
    (hs : ∀ a b, ∃ ops, subscripted (.Slice lo hi st p) false (.ref a) (.ref b) = operate ops (getItem (.ref a) (.ref b))) :
    Ev G n cs σ (.Subscript ve (.Slice lo hi st p) pos) (.list rs) :=
  Ev.intro fun C m ow fr fz s Q ok r F N kk => Subscript_ (h1.use ok r F N fun v1 fz1 hp1 tk1 r1 hv1 hs1 F1 N1 => wpAny_Slice (hl.use ok r1 F1 N1 fun v2 fz2 hp2 tk2 r2 hv2 hs2 F2 N2 => hh.use ok r2 F2 N2 fun v3 fz3 hp3 tk3 r3 hv3 hs3 F3 N3 =>
    hst.use ok r3 F3 N3 fun v4 fz4 hp4 tk4 r4 hv4 hs4 F4 N4 => by
    cases hv1 with
    | @list a vs nn _ hm ha =>
      have hm4 := hs4 _ (hs3 _ (hs2 _ hm))
      have ha4 := ((ha.mono hs2).mono hs3).mono hs4
      have hmm := N4 _ (List.mem_append_right _ (List.mem_append_right _ hm4))
      have hL : Heap.IsList hp4 a vs.toArray := ⟨_, hmm.1, rfl, _, rfl⟩
      let so : Obj := { cls := .type "slice", data := .fields #[v2, v3, v4] }
      obtain ⟨ops, hops⟩ := hs a hp4.objs.size
      have N5 : News C.h₀ C.L (hp4.push so) (ow ++ (fr ++ fz4)) := fun q hq => ⟨Heap.get?_push_of_some _ (N4 q hq).1, (N4 q hq).2⟩
      refine tail_any (Heap.IsList.typeIs (s := { s with heap := hp4.push so, toks := tk4 }) (hL.push _)) slot_list_getitem.lookup
        (wpAny_getItem_list_slice (hL.push _) (Heap.IsSliceOf.new ..) hv2 hv3 hv4 h0 ?_ (by rw [PySem.sizeLine_eq, List.size_toArray, ha.length]; omega)) hops
      have hV := hp _ _ ha4
      have e : (slicePick vs.toArray ol oh os) = (slicePick vs.toArray ol oh os).toList.toArray := by simp
      rw [e]
      generalize (slicePick vs.toArray ol oh os).toList = ws at hV
      have F5 := F4.push so
      have N6 := News.push F5 N5 (listOf ws.toArray 0)
      exact kk _ ((( hp4.push so).objs.size, listOf ws.toArray 0) :: fz4) _ tk4 (r4.grow Sub.cons (off_new r4 N5)) (.list (.head _) (hV.mono Sub.cons)) (((hs1.trans hs2).trans hs3).trans (hs4.trans Sub.cons)) (F5.push _) (news_in N6)))

theorem Ev.upto {ve hi : Expr} {p pos : Pos} {ds : List D} {k : Int} {i : Nat} (h1 : Ev G n cs σ ve (.list ds)) (h2 : Ev G n cs σ hi (.int k)) (hk : k = (i : Int)) (hz : ds.length ≤ 1000000)
    (hs : ∀ a b, ∃ ops, subscripted (.Slice none (some hi) none p) false (.ref a) (.ref b) = operate ops (getItem (.ref a) (.ref b))) :
    Ev G n cs σ (.Subscript ve (.Slice none (some hi) none p) pos) (.list (ds.take i)) :=
  h1.slice .none (.some h2) .none (by decide) hz (fun fz vs ha => by subst hk; rw [slicePick_upto']; simpa using ha.take i) hs
theorem Ev.from' {ve lo : Expr} {p pos : Pos} {ds : List D} {k : Int} {i : Nat} (h1 : Ev G n cs σ ve (.list ds)) (h2 : Ev G n cs σ lo (.int k)) (hk : k = (i : Int)) (hz : ds.length ≤ 1000000)
    (hs : ∀ a b, ∃ ops, subscripted (.Slice (some lo) none none p) false (.ref a) (.ref b) = operate ops (getItem (.ref a) (.ref b))) :
    Ev G n cs σ (.Subscript ve (.Slice (some lo) none none p) pos) (.list (ds.drop i)) :=
  h1.slice (.some h2) .none .none (by decide) hz (fun fz vs ha => by subst hk; rw [slicePick_from']; simpa using ha.drop i) hs
theorem Ev.rev {ve st : Expr} {p pos : Pos} {ds : List D} (h1 : Ev G n cs σ ve (.list ds)) (h2 : Ev G n cs σ st (.int (-1))) (hz : ds.length ≤ 1000000)
    (hs : ∀ a b, ∃ ops, subscripted (.Slice none none (some st) p) false (.ref a) (.ref b) = operate ops (getItem (.ref a) (.ref b))) :
    Ev G n cs σ (.Subscript ve (.Slice none none (some st) p) pos) (.list ds.reverse) :=
  h1.slice .none .none (.some h2) (by decide) hz (fun fz vs ha => by rw [krv_pick]; simpa using ha.reverse) hs
theorem pick_init (vs : List Value) : slicePick vs.toArray none (some (-1)) none = (vs.take (vs.length - 1)).toArray := by
  have e : sliceBounds none (some (-1)) none vs.toArray.size = (((0 : Nat) : Int), ((vs.length - 1 : Nat) : Int), 1) := by
    simp only [sliceBounds, Option.getD_none, List.size_toArray]
    simp only [show (-1 : Int) < 0 by decide, show (1 : Int) > 0 by decide, if_true]
    congr 1
    congr 1
    omega
  unfold slicePick
  rw [e]
  simp only [sliceRange_one, pick_run]
  simp
theorem Ev.init {ve hi : Expr} {p pos : Pos} {ds : List D} (h1 : Ev G n cs σ ve (.list ds)) (h2 : Ev G n cs σ hi (.int (-1))) (hz : ds.length ≤ 1000000)
    (hs : ∀ a b, ∃ ops, subscripted (.Slice none (some hi) none p) false (.ref a) (.ref b) = operate ops (getItem (.ref a) (.ref b))) :
    Ev G n cs σ (.Subscript ve (.Slice none (some hi) none p) pos) (.list (ds.take (ds.length - 1))) :=
  h1.slice .none (.some h2) .none (by decide) hz (fun fz vs ha => by rw [pick_init, ha.length]; simpa using ha.take _) hs
end

/- statements -/
inductive Fl where
  | next
  | ret (d : D)
def FlowIs (fz : Led) : Flow → Fl → Prop
  | .next, .next => True
  | .ret v, .ret d => VIn fz v d
  | _, _ => False

def upd : List (Str × D) → Str → D → List (Str × D)
  | [], x, d => [(x, d)]
  | (y, e) :: r, x, d => if x == y then (y, d) :: r else (y, e) :: upd r x d
theorem upd_lookup (x : Str) (d : D) (z : Str) : ∀ ρ : List (Str × D), (upd ρ x d).lookup z = if z = x then some d else ρ.lookup z
  | [] => by
    unfold upd
    by_cases h : z = x
    · simp [h]
    · have : (z == x) = false := by simpa using h
      simp [List.lookup, this, h]
  | (y, e) :: r => by
    unfold upd
    by_cases hxy : x = y
    · subst hxy
      simp only [beq_self_eq_true, if_true]
      by_cases h : z = x
      · simp [h]
      · have : (z == x) = false := by simpa using h
        simp [List.lookup, this, h]
    · have hb : (x == y) = false := by simpa using hxy
      simp only [hb, Bool.false_eq_true, if_false]
      by_cases h : z = y
      · subst h
        have : z ≠ x := fun q => hxy q.symm
        simp [List.lookup, this]
      · have : (z == y) = false := by simpa using h
        simp only [List.lookup, this]
        exact upd_lookup x d z r
def St.set (σ : St) (x : Str) (d : D) : St := { σ with ρ := upd σ.ρ x d }
def St.ownNot (σ : St) (x : Str) : Bool := match σ.own with | none => true | some (y, _) => y != x

theorem Rep.set {C : FC} {σ : St} {m : Str → Option Value} {ow fr fz : Led} {x : Str} {v : Value} {d : D} (r : Rep C σ m ow fr fz) (hv : VIn fz v d) (hx : σ.ownNot x = true) :
    Rep C (σ.set x d) (fun y => if y = x then some v else m y) ow fr fz where
  vars := fun z e h => by
    have h' : (upd σ.ρ x d).lookup z = some e := h
    rw [upd_lookup] at h'
    by_cases hz : z = x
    · rw [if_pos hz] at h'; cases h'; exact ⟨v, by simp [hz], hv⟩
    · rw [if_neg hz] at h'
      obtain ⟨v', h1, h2⟩ := r.vars z e h'
      exact ⟨v', by simp [hz, h1], h2⟩
  own := by
    have h := r.own
    show OwnOk _ _ _ σ.own
    unfold St.ownNot at hx
    cases ho : σ.own with
    | none => rw [ho] at h; exact h
    | some p =>
      obtain ⟨y, ds⟩ := p
      rw [ho] at h hx
      obtain ⟨a, vs, n, h1, h2, h3⟩ := h
      have : y ≠ x := by simpa using hx
      exact ⟨a, vs, n, by simp [this, h1], h2, h3⟩
  cells := r.cells
  off := r.off
  off2 := r.off2

def St.le (σ σ' : St) : Prop := (∀ p ∈ σ'.ρ, σ.ρ.lookup p.1 = some p.2) ∧ σ'.own = σ.own ∧ σ'.cells = σ.cells
theorem mem_of_look {x : Str} {d : D} : ∀ {l : List (Str × D)}, l.lookup x = some d → (x, d) ∈ l
  | (y, e) :: r, h => by
    by_cases hxy : x = y
    · subst hxy; simp at h; subst h; exact .head _
    · have hb : (x == y) = false := by simpa using hxy
      simp only [List.lookup, hb] at h
      exact .tail _ (mem_of_look h)
theorem Rep.le {C : FC} {σ σ' : St} {m : Str → Option Value} {ow fr fz : Led} (r : Rep C σ m ow fr fz) (h : σ.le σ') : Rep C σ' m ow fr fz where
  vars := fun x d hx => r.vars x d (h.1 _ (mem_of_look hx))
  own := h.2.1 ▸ r.own
  cells := h.2.2 ▸ r.cells
  off := r.off
  off2 := r.off2
def St.freeze (σ : St) : St := match σ.own with
  | none => σ
  | some (x, ds) => { ρ := upd σ.ρ x (.list ds), own := none, cells := σ.cells }
theorem Rep.freeze {C : FC} {σ : St} {m : Str → Option Value} {ow fr fz : Led} (r : Rep C σ m ow fr fz) : Rep C σ.freeze m [] fr (ow ++ fz) := by
  have h := r.own
  have hs : Sub fz (ow ++ fz) := fun p hp => List.mem_append_right _ hp
  unfold St.freeze
  cases ho : σ.own with
  | none =>
    rw [ho] at h
    have h' : ow = [] := h
    subst h'
    refine ⟨r.vars, by rw [ho]; rfl, r.cells, ?_, fun _ hp => absurd hp List.not_mem_nil⟩
    exact r.off
  | some p =>
    obtain ⟨y, ds⟩ := p
    rw [ho] at h
    obtain ⟨a, vs, n, h1, h2, h3⟩ := h
    refine ⟨fun z e hz => ?_, rfl, fun x d hx => ?_, ?_, fun _ hp => absurd hp List.not_mem_nil⟩
    · have h' : (upd σ.ρ y (.list ds)).lookup z = some e := hz
      rw [upd_lookup] at h'
      by_cases hzy : z = y
      · rw [if_pos hzy] at h'
        cases h'
        refine ⟨.ref a, by rw [hzy]; exact h1, .list (vs := vs) (n := n) ?_ (h3.mono hs)⟩
        rw [h2]; exact .head _
      · rw [if_neg hzy] at h'
        obtain ⟨v', h1', h2'⟩ := r.vars z e h'
        exact ⟨v', h1', h2'.mono hs⟩
    · obtain ⟨c, v, o, q1, q2, q3, q4⟩ := r.cells x d hx
      exact ⟨c, v, o, q1, hs _ q2, q3, q4.mono hs⟩
    · intro p hp q hq
      rcases List.mem_append.mp hp with hp | hp
      · exact r.off2 p hp q hq
      · exact r.off p hp q (List.mem_append_right _ hq)

section
variable {G : Glb} {n : Nat} {cs : Scope} {σ σ' σ₁ : St}
structure Exs (G : Glb) (n : Nat) (cs : Scope) (σ : St) (b : List Stmt) (fl : Fl) (σ' : St) : Prop where
  run : ∀ (C : FC) m ow fr fz, C.Ok G n cs → Rep C σ m ow fr fz → Tri G cs C (execs b (C.env cs)) m ow fr fz (fun f m' ow' fz' => Rep C σ' m' ow' fr fz' ∧ FlowIs fz' f fl)
structure Ex (G : Glb) (n : Nat) (cs : Scope) (σ : St) (b : Stmt) (fl : Fl) (σ' : St) : Prop where
  run : ∀ (C : FC) m ow fr fz, C.Ok G n cs → Rep C σ m ow fr fz → Tri G cs C (exec b (C.env cs)) m ow fr fz (fun f m' ow' fz' => Rep C σ' m' ow' fr fz' ∧ FlowIs fz' f fl)
theorem Exs.use {b : List Stmt} {fl : Fl} (h : Exs G n cs σ b fl σ') {C : FC} {m : Str → Option Value} {ow fr fz : Led} (ok : C.Ok G n cs) (r : Rep C σ m ow fr fz) {s : Shared} {Q : Flow → Shared → Prop} {E : Value → Shared → Prop}
    (F : Fr C.h₀ C.L s.heap m) (N : News C.h₀ C.L s.heap (ow ++ (fr ++ fz)))
    (k : ∀ f m' ow' fz' h' tk', Rep C σ' m' ow' fr fz' → FlowIs fz' f fl → Sub fz fz' → Fr C.h₀ C.L h' m' → News C.h₀ C.L h' (ow' ++ (fr ++ fz')) → Q f { s with heap := h', toks := tk' }) :
    wpAny (model G.prog G.w) (C.A cs) (execs b (C.env cs)) Q E s :=
  no_exc (h.run C m ow fr fz ok r s Q F N fun f m' ow' fz' h' tk' p hs F' N' => k f m' ow' fz' h' tk' p.1 p.2 hs F' N')
theorem Ex.use {b : Stmt} {fl : Fl} (h : Ex G n cs σ b fl σ') {C : FC} {m : Str → Option Value} {ow fr fz : Led} (ok : C.Ok G n cs) (r : Rep C σ m ow fr fz) {s : Shared} {Q : Flow → Shared → Prop} {E : Value → Shared → Prop}
    (F : Fr C.h₀ C.L s.heap m) (N : News C.h₀ C.L s.heap (ow ++ (fr ++ fz)))
    (k : ∀ f m' ow' fz' h' tk', Rep C σ' m' ow' fr fz' → FlowIs fz' f fl → Sub fz fz' → Fr C.h₀ C.L h' m' → News C.h₀ C.L h' (ow' ++ (fr ++ fz')) → Q f { s with heap := h', toks := tk' }) :
    wpAny (model G.prog G.w) (C.A cs) (exec b (C.env cs)) Q E s :=
  no_exc (h.run C m ow fr fz ok r s Q F N fun f m' ow' fz' h' tk' p hs F' N' => k f m' ow' fz' h' tk' p.1 p.2 hs F' N')
theorem Ex.intro {b : Stmt} {fl : Fl}
    (h : ∀ (C : FC) m ow fr fz (s : Shared) (Q : Flow → Shared → Prop), C.Ok G n cs → Rep C σ m ow fr fz → Fr C.h₀ C.L s.heap m → News C.h₀ C.L s.heap (ow ++ (fr ++ fz)) →
      (∀ f m' ow' fz' h' tk', Rep C σ' m' ow' fr fz' → FlowIs fz' f fl → Sub fz fz' → Fr C.h₀ C.L h' m' → News C.h₀ C.L h' (ow' ++ (fr ++ fz')) → Q f { s with heap := h', toks := tk' }) →
      wpAny (model G.prog G.w) (C.A cs) (exec b (C.env cs)) Q (fun _ _ => False) s) : Ex G n cs σ b fl σ' :=
  ⟨fun C m ow fr fz ok r s Q F N k => h C m ow fr fz s Q ok r F N fun f m' ow' fz' h' tk' r' hf hs F' N' => k f m' ow' fz' h' tk' ⟨r', hf⟩ hs F' N'⟩
theorem Exs.intro {b : List Stmt} {fl : Fl}
    (h : ∀ (C : FC) m ow fr fz (s : Shared) (Q : Flow → Shared → Prop), C.Ok G n cs → Rep C σ m ow fr fz → Fr C.h₀ C.L s.heap m → News C.h₀ C.L s.heap (ow ++ (fr ++ fz)) →
      (∀ f m' ow' fz' h' tk', Rep C σ' m' ow' fr fz' → FlowIs fz' f fl → Sub fz fz' → Fr C.h₀ C.L h' m' → News C.h₀ C.L h' (ow' ++ (fr ++ fz')) → Q f { s with heap := h', toks := tk' }) →
      wpAny (model G.prog G.w) (C.A cs) (execs b (C.env cs)) Q (fun _ _ => False) s) : Exs G n cs σ b fl σ' :=
  ⟨fun C m ow fr fz ok r s Q F N k => h C m ow fr fz s Q ok r F N fun f m' ow' fz' h' tk' r' hf hs F' N' => k f m' ow' fz' h' tk' ⟨r', hf⟩ hs F' N'⟩

theorem Exs.nil : Exs G n cs σ [] .next σ := Exs.intro fun C m ow fr fz s Q ok r F N k => wpAny_execs_nil (k .next m ow fz s.heap s.toks r trivial .refl F N)
theorem Exs.cons {st : Stmt} {b : List Stmt} {fl : Fl} (h1 : Ex G n cs σ st .next σ₁) (h2 : Exs G n cs σ₁ b fl σ') : Exs G n cs σ (st :: b) fl σ' :=
  Exs.intro fun C m ow fr fz s Q ok r F N k => wpAny_execs_cons (h1.use ok r F N fun f m1 ow1 fz1 hp1 tk1 r1 hf hs1 F1 N1 => by
    cases f with
    | next => exact h2.use ok r1 F1 N1 fun f m2 ow2 fz2 hp2 tk2 r2 hf2 hs2 F2 N2 => k f m2 ow2 fz2 hp2 tk2 r2 hf2 (hs1.trans hs2) F2 N2
    | ret v => exact hf.elim
    | brk => exact hf.elim
    | cont => exact hf.elim)
theorem Exs.ret {st : Stmt} {b : List Stmt} {d : D} (h1 : Ex G n cs σ st (.ret d) σ₁) : Exs G n cs σ (st :: b) (.ret d) σ₁ :=
  Exs.intro fun C m ow fr fz s Q ok r F N k => wpAny_execs_cons (h1.use ok r F N fun f m1 ow1 fz1 hp1 tk1 r1 hf hs1 F1 N1 => by
    cases f with
    | next => exact hf.elim
    | ret v => exact k (.ret v) m1 ow1 fz1 hp1 tk1 r1 hf hs1 F1 N1
    | brk => exact hf.elim
    | cont => exact hf.elim)
theorem Exs.le {b : List Stmt} {fl : Fl} {σ₂ : St} (hl : σ.le σ₂) (h : Exs G n cs σ₂ b fl σ') : Exs G n cs σ b fl σ' :=
  ⟨fun C m ow fr fz ok r => h.run C m ow fr fz ok (r.le hl)⟩
theorem Exs.leR {b : List Stmt} {fl : Fl} {σ₂ : St} (h : Exs G n cs σ b fl σ') (hl : σ'.le σ₂) : Exs G n cs σ b fl σ₂ :=
  ⟨fun C m ow fr fz ok r s Q F N k => h.run C m ow fr fz ok r s Q F N fun f m' ow' fz' h' tk' p hs F' N' => k f m' ow' fz' h' tk' ⟨p.1.le hl, p.2⟩ hs F' N'⟩
theorem news_fz {h₀ h : Heap} {L : Addr} {ow fr fz : Led} (N : News h₀ L h (ow ++ (fr ++ fz))) : News h₀ L h ([] ++ (fr ++ (ow ++ fz))) := by
  refine news_sub N fun p hp => ?_
  simp only [List.nil_append, List.mem_append] at hp ⊢
  rcases hp with hp | hp | hp
  · exact .inr (.inl hp)
  · exact .inl hp
  · exact .inr (.inr hp)
theorem Exs.freeze {b : List Stmt} {fl : Fl} (h : Exs G n cs σ.freeze b fl σ') : Exs G n cs σ b fl σ' :=
  Exs.intro fun C m ow fr fz s Q ok r F N k => h.use ok r.freeze F (news_fz N) fun f m1 ow1 fz1 hp1 tk1 r1 hf hs1 F1 N1 => k f m1 ow1 fz1 hp1 tk1 r1 hf (Sub.trans (fun p hp => List.mem_append_right _ hp) hs1) F1 N1

theorem Ex.assign {x : Str} {e : Expr} {p pos : Pos} {d : D} (h : Ev G n cs σ e d) (hk : cs.names.lookup x = some .local) (ho : σ.ownNot x = true)
    (hs : ∀ env, swapsWith e (some (.Name x p)) pos.line env = pure false) : Ex G n cs σ (.Assign [.Name x p] e pos) .next (σ.set x d) :=
  Ex.intro fun C m ow fr fz s Q ok r F N k => wpAny_Assign_Name (h.use ok r F N fun v fz1 hp1 tk1 r1 hv hs1 F1 N1 => storeX_L F1 N1 (fun h' F' N' => k .next _ ow fz1 h' _ (r1.set hv ho) trivial hs1 F' N') ok.kind hk) (hs _)
theorem Ex.ret {e : Expr} {pos : Pos} {d : D} (h : Ev G n cs σ e d) : Ex G n cs σ (.Return (some e) pos) (.ret d) σ :=
  Ex.intro fun C m ow fr fz s Q ok r F N k => wpAny_Return_some (h.use ok r F N fun v fz1 hp1 tk1 r1 hv hs1 F1 N1 => k (.ret v) m ow fz1 hp1 tk1 r1 hv hs1 F1 N1)
theorem Ex.ite {t : Expr} {b1 b2 : List Stmt} {pos : Pos} {b : Bool} {fl : Fl} (h : Tst G n cs σ t b) (h1 : b = true → Exs G n cs σ b1 fl σ') (h2 : b = false → Exs G n cs σ b2 fl σ') : Ex G n cs σ (.If t b1 b2 pos) fl σ' :=
  Ex.intro fun C m ow fr fz s Q ok r F N k => wpAny_If (h.use ok r F N fun fz1 hp1 tk1 r1 hs1 F1 N1 => by
    cases b with
    | true => exact (h1 rfl).use ok r1 F1 N1 fun f m2 ow2 fz2 hp2 tk2 r2 hf hs2 F2 N2 => k f m2 ow2 fz2 hp2 tk2 r2 hf (hs1.trans hs2) F2 N2
    | false => exact (h2 rfl).use ok r1 F1 N1 fun f m2 ow2 fz2 hp2 tk2 r2 hf hs2 F2 N2 => k f m2 ow2 fz2 hp2 tk2 r2 hf (hs1.trans hs2) F2 N2)
theorem Ex.aug {x : Str} {op : Operator} {e : Expr} {p pos : Pos} {d0 d1 d : D} (hx : σ.ρ.lookup x = some d0) (h : Ev G n cs σ e d1) (hk : cs.names.lookup x = some .local) (ho : σ.ownNot x = true)
    (hop : ∀ v1 v2 fz, VIn fz v1 d0 → VIn fz v2 d1 → OpTo G (inplaceOp op v1 v2) (fun v => VIn [] v d)) : Ex G n cs σ (.AugAssign (.Name x p) op e pos) .next (σ.set x d) :=
  Ex.intro fun C m ow fr fz s Q ok r F N k => by
    obtain ⟨v0, h1, h2⟩ := r.vars x d0 hx
    exact wpAny_AugAssign_Name (wpAny_loadName_local ok.kind hk F.ns h1 (h.use ok r F N fun v fz1 hp1 tk1 r1 hv hs1 F1 N1 => hop v0 v fz1 (h2.mono hs1) hv (C.A cs) _ _ rfl fun v' tk hv' =>
      storeX_L F1 N1 (fun h' F' N' => k .next _ ow fz1 h' _ (r1.set (hv'.mono Sub.nil) ho) trivial hs1 F' N') ok.kind hk))
theorem Ex.iadd {x : Str} {e : Expr} {p pos : Pos} {a b : Int} (hx : σ.ρ.lookup x = some (.int a)) (h : Ev G n cs σ e (.int b)) (hk : cs.names.lookup x = some .local) (ho : σ.ownNot x = true) : Ex G n cs σ (.AugAssign (.Name x p) .Add e pos) .next (σ.set x (.int (a + b))) :=
  Ex.aug hx h hk ho (op2 fun t u A s Q hh k => iadd_int (k _ _ (.int _ _)))
theorem Ex.isub {x : Str} {e : Expr} {p pos : Pos} {a b : Int} (hx : σ.ρ.lookup x = some (.int a)) (h : Ev G n cs σ e (.int b)) (hk : cs.names.lookup x = some .local) (ho : σ.ownNot x = true) : Ex G n cs σ (.AugAssign (.Name x p) .Sub e pos) .next (σ.set x (.int (a - b))) :=
  Ex.aug hx h hk ho (op2 fun t u A s Q hh k => isub_int (k _ _ (.int _ _)))
theorem Ex.ishr {x : Str} {e : Expr} {p pos : Pos} {a b : Int} (hx : σ.ρ.lookup x = some (.int a)) (h : Ev G n cs σ e (.int b)) (hb : 0 ≤ b) (hk : cs.names.lookup x = some .local) (ho : σ.ownNot x = true) : Ex G n cs σ (.AugAssign (.Name x p) .RShift e pos) .next (σ.set x (.int (a / 2 ^ b.toNat))) :=
  Ex.aug hx h hk ho (op2 fun t u A s Q hh k => irshift_int hb (by rw [Int.fdiv_eq_ediv_of_nonneg _ (Int.le_of_lt (Int.pow_pos (by decide)))]; exact k _ _ (.int _ _)))
end
end Mine
end
section
namespace Mine
open PySem PySem.W PySem.Calls PyProof.Rows

section
variable {G : Glb} {n : Nat} {cs : Scope} {σ σ' σ₁ : St}

def setAll (σ : St) : List Str → List D → St
  | x :: xs, d :: ds => setAll (σ.set x d) xs ds
  | _, _ => σ
theorem setAll_own : ∀ (xs : List Str) (ds : List D) (σ : St), (setAll σ xs ds).own = σ.own
  | [], _, _ => rfl
  | _ :: _, [], _ => rfl
  | x :: xs, d :: ds, σ => setAll_own xs ds (σ.set x d)

theorem assign_all {C : FC} {ow fr fz : Led} (ok : C.Ok G n cs) {Q : Unit → Shared → Prop} {ts : List (Value → Sem Unit)} {ws : List Value} :
    ∀ (xs : List Str) (ds : List D) (vs : List Value) (σ : St) (m : Str → Option Value) (s : Shared), xs.length = ds.length → VAll fz vs ds → (∀ x ∈ xs, cs.names.lookup x = some .local) → (∀ x ∈ xs, σ.ownNot x = true) →
      Rep C σ m ow fr fz → Fr C.h₀ C.L s.heap m → News C.h₀ C.L s.heap (ow ++ (fr ++ fz)) →
      (∀ m' h' tk', Rep C (setAll σ xs ds) m' ow fr fz → Fr C.h₀ C.L h' m' → News C.h₀ C.L h' (ow ++ (fr ++ fz)) → wpAny (model G.prog G.w) (C.A cs) (assignInOrder ts ws) Q (fun _ _ => False) { s with heap := h', toks := tk' }) →
      wpAny (model G.prog G.w) (C.A cs) (assignInOrder (xs.map (fun x => bindName (C.env cs) x) ++ ts) (vs ++ ws)) Q (fun _ _ => False) s
  | [], ds, vs, σ, m, s, hl, hv, hk, ho, r, F, N, k => by
    have : ds = [] := List.eq_nil_of_length_eq_zero hl.symm
    subst this
    cases hv
    exact k m s.heap s.toks r F N
  | x :: xs, ds, vs, σ, m, s, hl, hv, hk, ho, r, F, N, k => by
    cases hv with
    | nil => simp at hl
    | @cons v vs d ds h1 h2 =>
      refine assignInOrder_cons (bindName_ (storeX_L F N (fun h' F' N' => ?_) ok.kind (hk x (.head _))))
      refine assign_all ok xs ds vs (σ.set x d) _ _ (by simpa using hl) h2 (fun y hy => hk y (.tail _ hy)) (fun y hy => ho y (.tail _ hy)) (r.set h1 (ho x (.head _))) F' N' fun m' h'' tk'' r' F'' N'' => ?_
      exact k m' h'' tk'' r' F'' N''

theorem Ex.unpack2 {x y : Str} {px py tp pos : Pos} {kk : Nat} {e : Expr} {d1 d2 : D} (h : Ev G n cs σ e (.tup [d1, d2])) (hx : cs.names.lookup x = some .local) (hy : cs.names.lookup y = some .local) (hox : σ.ownNot x = true) (hoy : σ.ownNot y = true)
    (hs : ∀ env, swapsWithSole [.Tuple [.Name x px, .Name y py] kk tp] e pos.line env = pure false) (hw : ∀ env, swappedStores [.Tuple [.Name x px, .Name y py] kk tp] e env = pure none) :
    Ex G n cs σ (.Assign [.Tuple [.Name x px, .Name y py] kk tp] e pos) .next ((σ.set x d1).set y d2) :=
  Ex.intro fun C m ow fr fz s Q ok r F N k => Assign_Tuple (h.use ok r F N fun v fz1 hp1 tk1 r1 hv1 hs1 F1 N1 => by
    cases hv1 with
    | tup hm ha =>
      cases ha with
      | cons h1 ha => cases ha with
        | cons h2 ha =>
          cases ha
          have hmm := N1 _ (List.mem_append_right _ (List.mem_append_right _ hm))
          refine unpackN_ F1 N1 ⟨_, hmm.1, rfl, _, rfl⟩ rfl rfl rfl fun h' F' N' => ?_
          show wpAny _ _ (assignInOrder [PySem.assign (Expr.Name x px) (C.env cs), PySem.assign (Expr.Name y py) (C.env cs)] _) _ _ _
          refine assignInOrder_cons (assign_Name (storeX_L F' N' (fun h2' F2 N2 => ?_) ok.kind hx))
          refine assignInOrder_cons (assign_Name (storeX_L F2 N2 (fun h3' F3 N3 => ?_) ok.kind hy))
          exact assignInOrder_nil (k .next _ ow fz1 h3' _ ((r1.set h1 hox).set h2 hoy) trivial hs1 F3 N3)) (hs _) (hw _)

theorem VAll.appendInv {fz : Led} : ∀ {vs ws : List Value} {ds : List D}, VAll fz (vs ++ ws) ds → ∃ d1 d2, ds = d1 ++ d2 ∧ VAll fz vs d1 ∧ VAll fz ws d2
  | [], _, ds, h => ⟨[], ds, rfl, .nil, h⟩
  | _ :: _, _, _, .cons h r => let ⟨d1, d2, e, h1, h2⟩ := VAll.appendInv r; ⟨_ :: d1, d2, by rw [e]; rfl, .cons h h1, h2⟩

theorem Ex.swap {xs : List Str} {elts es : List Expr} {k1 k2 : Nat} {tp ep pos : Pos} {ds : List D} (h : EvL G n cs σ es ds) (hl : xs.length = ds.length) (hz : ds.length ≤ 1000000) (hk : ∀ x ∈ xs, cs.names.lookup x = some .local) (ho : ∀ x ∈ xs, σ.ownNot x = true)
    (hs : ∀ env, swapsWithSole [.Tuple elts k1 tp] (.Tuple es k2 ep) pos.line env = pure false) (hw : ∀ C : FC, swappedStores [.Tuple elts k1 tp] (.Tuple es k2 ep) (C.env cs) = pure (some xs)) :
    Ex G n cs σ (.Assign [.Tuple elts k1 tp] (.Tuple es k2 ep) pos) .next (setAll σ xs.reverse ds.reverse) :=
  Ex.intro fun C m ow fr fz s Q ok r F N k => Assign_Tuple_swapped ((Ev.tuple h hz).use ok r F N fun v fz1 hp1 tk1 r1 hv1 hs1 F1 N1 => by
    cases hv1 with
    | @tup a vs nn _ hm ha =>
      have hmm := N1 _ (List.mem_append_right _ (List.mem_append_right _ hm))
      refine unpackItemsN_ F1 N1 ⟨_, hmm.1, rfl, _, rfl⟩ rfl (by rw [List.size_toArray, ha.length]; exact hl) fun h' F' N' => ?_
      have e : (xs.reverse.map fun x => bindName (C.env cs) x) = (xs.reverse.map fun x => bindName (C.env cs) x) ++ [] := (List.append_nil _).symm
      have e2 : vs.toArray.toList.reverse = vs.reverse ++ [] := by simp
      rw [e, e2]
      refine assign_all ok xs.reverse ds.reverse vs.reverse σ m _ (by simpa using hl) ha.reverse (fun x hx => hk x (List.mem_reverse.mp hx)) (fun x hx => ho x (List.mem_reverse.mp hx)) r1 F' N' fun m' h2 tk2 r2 F2 N2 => ?_
      exact assignInOrder_nil (k .next m' ow fz1 h2 tk2 r2 trivial hs1 F2 N2)) (hs _) (hw _)

/- a new empty list that the frame fills -/
theorem Rep.toOwn {C : FC} {m : Str → Option Value} {l : Addr} {nn : Nat} {fr fz : Led} {x : Str} (r : Rep C σ m [] ((l, listOf #[] nn) :: fr) fz) (hx : σ.ρ.lookup x = none) (ho : σ.own = none) (hl : ∀ q ∈ fr, l ≠ q.1) :
    Rep C { σ with own := some (x, []) } (fun y => if y = x then some (.ref l) else m y) [(l, listOf #[] nn)] fr fz where
  vars := fun z e h => by
    obtain ⟨v, h1, h2⟩ := r.vars z e h
    have : z ≠ x := fun q => by
      have h' : σ.ρ.lookup z = some e := h
      rw [q, hx] at h'; cases h'
    exact ⟨v, by simp [this, h1], h2⟩
  own := ⟨l, [], nn, by simp, rfl, .nil⟩
  cells := r.cells
  off := r.off
  off2 := fun p hp q hq => by rw [List.mem_singleton.mp hp]; exact hl q hq
theorem news_cons {h₀ h : Heap} {L : Addr} {fr fz : Led} {p : Addr × Obj} (N : News h₀ L h (p :: ([] ++ (fr ++ fz)))) : News h₀ L h ([] ++ ((p :: fr) ++ fz)) := N
theorem Rep.foreign {C : FC} {m : Str → Option Value} {h : Heap} {o : Obj} {fr fz : Led} (r : Rep C σ m [] fr fz) (N : News C.h₀ C.L h ([] ++ (fr ++ fz))) : Rep C σ m [] ((h.objs.size, o) :: fr) fz where
  vars := r.vars
  own := r.own
  cells := r.cells
  off := fun p hp q hq e => by
    rcases List.mem_cons.mp hq with rfl | hq
    · have := Heap.lt_size (N p (List.mem_append_right fr hp)).1
      rw [e] at this
      exact Nat.lt_irrefl _ this
    · exact r.off p hp q hq e
  off2 := fun _ hp => absurd hp List.not_mem_nil
theorem own_none {C : FC} {m : Str → Option Value} {ow fr fz : Led} (r : Rep C σ m ow fr fz) (h : σ.own = none) : ow = [] := by
  have := r.own
  rw [h] at this
  exact this

theorem Ex.newOwn {x : Str} {p lp pos : Pos} (hx : σ.ρ.lookup x = none) (ho : σ.own = none) (hk : cs.names.lookup x = some .local)
    (hs : ∀ env, swapsWith (.List [] lp) (some (.Name x p)) pos.line env = pure false) : Ex G n cs σ (.Assign [.Name x p] (.List [] lp) pos) .next { σ with own := some (x, []) } :=
  Ex.intro fun C m ow fr fz s Q ok r F N k => by
    have e := own_none r ho
    subst e
    refine wpAny_Assign_Name (List_ (args_nil (newList_N F N (fun h' F' N' => storeX_L F' N' (fun h2 F2 N2 => ?_) ok.kind hk) (Nat.zero_le _)))) (hs _)
    have rr : Rep C σ m [] ((s.heap.objs.size, listOf #[] 0) :: fr) fz := r.foreign N
    exact k .next _ [(s.heap.objs.size, listOf #[] 0)] fz h2 _ (rr.toOwn hx ho fun q hq e => by
      have := Heap.lt_size (N q (show q ∈ fr ++ fz from List.mem_append_left _ hq)).1
      rw [← e] at this
      exact Nat.lt_irrefl _ this) trivial .refl F2 N2

theorem setAll_rho_none {x : Str} : ∀ (xs : List Str) (ds : List D) (σ : St), σ.ρ.lookup x = none → x ∉ xs → (setAll σ xs ds).ρ.lookup x = none
  | [], _, _, h, _ => h
  | _ :: _, [], _, h, _ => h
  | y :: xs, d :: ds, σ, h, hn => by
    refine setAll_rho_none xs ds (σ.set y d) ?_ fun hm => hn (.tail _ hm)
    show (upd σ.ρ y d).lookup x = none
    rw [upd_lookup, if_neg (fun e : x = y => hn (e ▸ List.Mem.head _))]
    exact h

theorem Ex.swapOwn {x : Str} {xs : List Str} {elts es : List Expr} {lp : Pos} {k1 k2 : Nat} {tp ep pos : Pos} {ds : List D} (hx : σ.ρ.lookup x = none) (ho : σ.own = none) (hk : cs.names.lookup x = some .local) (hn : x ∉ xs)
    (h : EvL G n cs σ es ds) (hl : xs.length = ds.length) (hz : ds.length ≤ 1000) (hkk : ∀ y ∈ xs, cs.names.lookup y = some .local)
    (he : ∀ env, starEach (.List [] lp :: es) env = (false, eval (.List [] lp) env) :: starEach es env)
    (hs : ∀ env, swapsWithSole [.Tuple elts k1 tp] (.Tuple (.List [] lp :: es) k2 ep) pos.line env = pure false) (hw : ∀ C : FC, swappedStores [.Tuple elts k1 tp] (.Tuple (.List [] lp :: es) k2 ep) (C.env cs) = pure (some (x :: xs))) :
    Ex G n cs σ (.Assign [.Tuple elts k1 tp] (.Tuple (.List [] lp :: es) k2 ep) pos) .next { setAll σ xs.reverse ds.reverse with own := some (x, []) } :=
  Ex.intro fun C m ow fr fz s Q ok r F N k => by
    have e := own_none r ho
    subst e
    refine Assign_Tuple_swapped (Tuple_ (args_cons (List_ (args_nil (newList_N F N (fun h1 F1 N1 => ?_) (Nat.zero_le _)))) (he _))) (hs _) (hw _)
    have r1 : Rep C σ m [] ((s.heap.objs.size, listOf #[] 0) :: fr) fz := r.foreign N
    have hfr : ∀ q ∈ fr, s.heap.objs.size ≠ q.1 := fun q hq e => by
      have := Heap.lt_size (N q (show q ∈ fr ++ fz from List.mem_append_left _ hq)).1
      rw [← e] at this
      exact Nat.lt_irrefl _ this
    have N1' : News C.h₀ C.L h1 ([] ++ (((s.heap.objs.size, listOf #[] 0) :: fr) ++ fz)) := N1
    refine h.use (s := { s with heap := h1 }) ok r1 F1 N1' fun vs fz2 h2 tk2 r2 hv2 hs2 F2 N2 => ?_
    refine newTuple_N (news := [] ++ (((s.heap.objs.size, listOf #[] 0) :: fr) ++ fz2)) F2 N2 (fun h3 F3 N3 => ?_) (by rw [PySem.sizeLine_eq, List.length_cons, hv2.length]; omega)
    have hmm := N3 _ (.head _)
    have N3' := news_in N3
    refine unpackItemsN_ F3 N3' ⟨_, hmm.1, rfl, _, rfl⟩ rfl (by rw [List.size_toArray, List.length_cons, List.length_cons, hv2.length]; omega) fun h4 F4 N4 => ?_
    have e1 : ((x :: xs).reverse.map fun x => bindName (C.env cs) x) = (xs.reverse.map fun x => bindName (C.env cs) x) ++ [bindName (C.env cs) x] := by simp
    have e2 : (Value.ref s.heap.objs.size :: vs).toArray.toList.reverse = vs.reverse ++ [.ref s.heap.objs.size] := by simp
    rw [e1]
    show wpAny _ _ (assignInOrder _ (Value.ref s.heap.objs.size :: vs).toArray.toList.reverse) _ _ _
    rw [e2]
    have r3 := r2.grow (fz' := (h2.objs.size, tupOf (Value.ref s.heap.objs.size :: vs).toArray 0) :: fz2) Sub.cons (off_new r2 N2)
    refine assign_all ok xs.reverse ds.reverse vs.reverse σ m _ (by simpa using hl) (hv2.mono Sub.cons).reverse (fun y hy => hkk y (List.mem_reverse.mp hy)) (fun y hy => by unfold St.ownNot; rw [ho]) r3 F4 N4 fun m' h5 tk5 r5 F5 N5 => ?_
    refine assignInOrder_cons (bindName_ (storeX_L F5 N5 (fun h6 F6 N6 => ?_) ok.kind hk))
    have ho5 : (setAll σ xs.reverse ds.reverse).own = none := by rw [setAll_own]; exact ho
    refine assignInOrder_nil (k .next _ [(s.heap.objs.size, listOf #[] 0)] _ h6 _ (r5.toOwn (setAll_rho_none _ _ _ hx (fun hm => hn (List.mem_reverse.mp hm))) ho5 hfr) trivial (hs2.trans Sub.cons) F6 N6)

theorem Ex.append {x : Str} {e : Expr} {xp ap cp pos : Pos} {ds : List D} {d : D} (hσ : σ.own = some (x, ds)) (h : Ev G n cs σ e d) (hk : cs.names.lookup x = some .local) (hd : (x == ("__debug__" : Str)) = false) (hz : ds.length ≤ 1000000)
    (he : ∀ env, starEach [e] env = (false, eval e env) :: starEach [] env)
    (hc : ∀ env, ∃ pl, eval (.Call (.Attribute (.Name x xp) "append" ap) [e] [] cp) env = (do
      let ov ← eval (.Name x xp) env
      standAt ap.atName
      let (f, first) ← holding [ov] (getMethod ov "append" pl)
      callWith cp f first (backTo cp (starEach [e] env)) []))
    (hi : ∀ C : FC, interactive (C.env cs) = false) (hs : ∀ env, swapsWith (.Call (.Attribute (.Name x xp) "append" ap) [e] [] cp) none pos.line env = pure false) :
    Ex G n cs σ (.Expr (.Call (.Attribute (.Name x xp) "append" ap) [e] [] cp) pos) .next { σ with own := some (x, ds ++ [d]) } :=
  Ex.intro fun C m ow fr fz s Q ok r F N k => by
    have ho := r.own
    rw [hσ] at ho
    obtain ⟨a, vs, nn, h1, h2, h3⟩ := ho
    subst h2
    obtain ⟨pl, hpl⟩ := hc (C.env cs)
    refine wpAny_Expr_any (MethodCall_ (pl := pl) (nameX_L F h1 ?_ ok.kind hk hd) hpl) (hi _) (hs _)
    refine getMethod_append_N N (.head _) ?_
    refine callWith_method1 (args_cons (h.use ok r F N fun v fz1 hp1 tk1 r1 hv1 hs1 F1 N1 => args_nil ?_) (he _)) (he _)
    have hne : ∀ p ∈ fr ++ fz1, p.1 ≠ a := fun p hp e => by
      rcases List.mem_append.mp hp with hp | hp
      · exact r1.off2 (a, listOf vs.toArray nn) (.head _) p hp e.symm
      · exact r1.off p hp (a, listOf vs.toArray nn) (.head _) e
    refine append_head (D := a) (its := vs.toArray) (n := nn) (rest := fr ++ fz1) F1 N1 hne (fun h' F' N' => ?_) (by rw [PySem.sizeLine_eq, List.size_toArray, h3.length]; omega)
    refine k .next m [(a, listOf (vs ++ [v]).toArray (nn + 1))] fz1 h' tk1 ?_ trivial hs1 F' (by simpa using N')
    refine ⟨r1.vars, ⟨a, vs ++ [v], nn + 1, h1, rfl, (h3.mono hs1).append (.cons hv1 .nil)⟩, r1.cells, ?_, ?_⟩
    · intro p hp q hq
      rcases List.mem_append.mp hq with hq | hq
      · rw [List.mem_singleton.mp hq]; exact r1.off p hp (a, listOf vs.toArray nn) (.head _)
      · exact r1.off p hp q (List.mem_append_right _ hq)
    · intro p hp q hq
      rw [List.mem_singleton.mp hp]
      exact r1.off2 (a, listOf vs.toArray nn) (.head _) q hq
end
end Mine
end
section
namespace Mine
open PySem PySem.W PySem.Calls PyProof.Rows

section
variable {G : Glb} {n : Nat} {cs : Scope} {σ σ' σ₁ : St}

inductive LoopL (G : Glb) (n : Nat) (cs : Scope) (x : Str) (body : List Stmt) : St → List D → Fl → St → Prop
  | nil {σ : St} : LoopL G n cs x body σ [] .next σ
  | cons {σ σ₁ σ' : St} {d : D} {ds : List D} {fl : Fl} : σ.ownNot x = true → Exs G n cs (σ.set x d) body .next σ₁ → LoopL G n cs x body σ₁ ds fl σ' → LoopL G n cs x body σ (d :: ds) fl σ'
  | ret {σ σ₁ : St} {d r : D} {ds : List D} : σ.ownNot x = true → Exs G n cs (σ.set x d) body (.ret r) σ₁ → LoopL G n cs x body σ (d :: ds) (.ret r) σ₁

theorem Rep.more {C : FC} {m : Str → Option Value} {ow fr fz own : Led} (r : Rep C σ m ow fr fz) (h : OwnOff own ((ow ++ (fr ++ fz)).map (·.1))) : Rep C σ m ow (own ++ fr) fz where
  vars := r.vars
  own := r.own
  cells := r.cells
  off := fun p hp q hq e => by
    rcases List.mem_append.mp hq with hq | hq
    · exact r.off p hp q (List.mem_append_left _ hq) e
    · rcases List.mem_append.mp hq with hq | hq
      · exact h q hq p.1 (List.mem_map.mpr ⟨p, List.mem_append_right _ (List.mem_append_right _ hp), rfl⟩) e.symm
      · exact r.off p hp q (List.mem_append_right _ hq) e
  off2 := fun p hp q hq e => by
    rcases List.mem_append.mp hq with hq | hq
    · exact h q hq p.1 (List.mem_map.mpr ⟨p, List.mem_append_left _ hp, rfl⟩) e.symm
    · exact r.off2 p hp q hq e
theorem Rep.less {C : FC} {m : Str → Option Value} {ow fr fz own : Led} (r : Rep C σ m ow (own ++ fr) fz) : Rep C σ m ow fr fz where
  vars := r.vars
  own := r.own
  cells := r.cells
  off := fun p hp q hq => r.off p hp q (by
    rcases List.mem_append.mp hq with hq | hq
    · exact List.mem_append_left _ hq
    · exact List.mem_append_right _ (List.mem_append_right _ hq))
  off2 := fun p hp q hq => r.off2 p hp q (List.mem_append_right _ hq)
theorem own_off_after {C : FC} {m : Str → Option Value} {ow fr fz own : Led} (r : Rep C σ m ow (own ++ fr) fz) (h : ∀ p ∈ own, ∀ q ∈ fr, p.1 ≠ q.1) : OwnOff own ((ow ++ (fr ++ fz)).map (·.1)) := by
  intro p hp b hb
  obtain ⟨q, hq, rfl⟩ := List.mem_map.mp hb
  rcases List.mem_append.mp hq with hq | hq
  · exact fun e => r.off2 q hq p (List.mem_append_left _ hp) e.symm
  · rcases List.mem_append.mp hq with hq | hq
    · exact h p hp q hq
    · exact fun e => r.off q hq p (List.mem_append_right _ (List.mem_append_left _ hp)) e.symm
theorem news_more {h₀ h : Heap} {L : Addr} {ow fr fz own : Led} (N : News h₀ L h ((ow ++ (fr ++ fz)) ++ own)) : News h₀ L h (ow ++ ((own ++ fr) ++ fz)) := by
  refine news_sub N fun p hp => ?_
  simp only [List.mem_append] at hp ⊢
  rcases hp with hp | (hp | hp) | hp
  · exact .inl (.inl hp)
  · exact .inr hp
  · exact .inl (.inr (.inl hp))
  · exact .inl (.inr (.inr hp))
theorem news_less {h₀ h : Heap} {L : Addr} {ow fr fz own : Led} (N : News h₀ L h (ow ++ ((own ++ fr) ++ fz))) : News h₀ L h (ow ++ (fr ++ fz)) := by
  refine news_sub N fun p hp => ?_
  simp only [List.mem_append] at hp ⊢
  rcases hp with hp | hp | hp
  · exact .inl hp
  · exact .inr (.inl (.inr hp))
  · exact .inr (.inr hp)

/-- the state of a loop between its turns -/
def LoopJ (G : Glb) (n : Nat) (cs : Scope) (C : FC) (x : Str) (body : List Stmt) (fr fz₀ : Led) (fl : Fl) (σ' : St) (rest : List D) (m : Str → Option Value) (nx : Led) : Prop :=
  ∃ σi ow fz, nx = ow ++ (fr ++ fz) ∧ Rep C σi m ow fr fz ∧ Sub fz₀ fz ∧ LoopL G n cs x body σi rest fl σ'

theorem loop_turn {C : FC} {x : Str} {body : List Stmt} {fr fz₀ own : Led} {fl : Fl} {d : D} {rest : List D} {m₁ : Str → Option Value} {nx : Led} {s : Shared} {h : Heap} {tk : Nat} {v : Value} {Q : Flow → Shared → Prop} {P : (Str → Option Value) → Led → Prop}
    (ok : C.Ok G n cs) (hoff : OwnOff own (nx.map (·.1))) (hJ : LoopJ G n cs C x body fr fz₀ fl σ' (d :: rest) m₁ nx)
    (hv : ∀ fz, Sub fz₀ fz → VIn fz v d) (F₁ : Fr C.h₀ C.L h (fun y => if y = x then some v else m₁ y)) (N₁ : News C.h₀ C.L h (nx ++ own))
    (hP : ∀ m' nx', LoopJ G n cs C x body fr fz₀ fl σ' rest m' nx' → Sub fz₀ nx' → P m' nx')
    (k : ∀ f m' ow' fz' h' tk', Rep C σ' m' ow' fr fz' → FlowIs fz' f fl → Sub fz₀ fz' → Fr C.h₀ C.L h' m' → News C.h₀ C.L h' (ow' ++ (fr ++ fz')) → Q f { s with heap := h', toks := tk' }) :
    wpAny (model G.prog G.w) (C.A cs) (execs body (C.env cs)) (InvPostG C.h₀ C.L P own { s with heap := h, toks := tk } Q) (fun _ _ => False) { s with heap := h, toks := tk } := by
  obtain ⟨σi, ow, fz, rfl, r, hs, hl⟩ := hJ
  have hxx : σi.ownNot x = true := by cases hl <;> assumption
  have r1 := (r.more hoff).set (hv fz hs) hxx
  have N2 := news_more N₁
  have hfr : ∀ p ∈ own, ∀ q ∈ fr, p.1 ≠ q.1 := fun p hp q hq => hoff p hp q.1 (List.mem_map.mpr ⟨q, List.mem_append_right _ (List.mem_append_left _ hq), rfl⟩)
  cases hl with
  | cons _ he hl =>
    refine he.use ok r1 F₁ N2 fun f m2 ow2 fz2 h2 tk2 r2 hf hs2 F2 N3 => ?_
    have fin : InvEndG C.h₀ C.L P own { s with heap := h, toks := tk } { s with heap := h2, toks := tk2 } := by
      refine ⟨h2, tk2, m2, ow2 ++ ((own ++ fr) ++ fz2), ow2 ++ (fr ++ fz2), rfl, F2, N3, ?_, ?_, own_off_after r2 hfr, hP _ _ ⟨_, ow2, fz2, rfl, r2.less, hs.trans hs2, hl⟩ fun p hp => List.mem_append_right _ (List.mem_append_right _ (hs2 _ (hs _ hp)))⟩
      · intro p hp
        simp only [List.mem_append] at hp ⊢
        rcases hp with hp | hp | hp
        · exact .inl hp
        · exact .inr (.inl (.inr hp))
        · exact .inr (.inr hp)
      · intro p hp
        simp only [List.mem_append]
        exact .inr (.inl (.inl hp))
    cases f with
    | next => exact fin
    | cont => exact hf.elim
    | brk => exact hf.elim
    | ret v => exact hf.elim
  | ret _ he =>
    refine he.use ok r1 F₁ N2 fun f m2 ow2 fz2 h2 tk2 r2 hf hs2 F2 N3 => ?_
    cases f with
    | next => exact hf.elim
    | cont => exact hf.elim
    | brk => exact hf.elim
    | ret v => exact k (.ret v) m2 ow2 fz2 h2 tk2 r2.less hf (hs.trans hs2) F2 (news_less N3)

theorem loop_done {C : FC} {x : Str} {body : List Stmt} {fr fz₀ : Led} {fl : Fl} {m₁ : Str → Option Value} {nx : Led} {s : Shared} {h : Heap} {tk : Nat} {Q : Flow → Shared → Prop}
    (hJ : LoopJ G n cs C x body fr fz₀ fl σ' [] m₁ nx) (F : Fr C.h₀ C.L h m₁) (N : News C.h₀ C.L h nx)
    (k : ∀ f m' ow' fz' h' tk', Rep C σ' m' ow' fr fz' → FlowIs fz' f fl → Sub fz₀ fz' → Fr C.h₀ C.L h' m' → News C.h₀ C.L h' (ow' ++ (fr ++ fz')) → Q f { s with heap := h', toks := tk' }) : Q .next { s with heap := h, toks := tk } := by
  obtain ⟨σi, ow, fz, rfl, r, hs, hl⟩ := hJ
  cases hl
  exact k .next m₁ ow fz h tk r trivial hs F N

theorem Ex.forList {x : Str} {iter : Expr} {body : List Stmt} {px pos : Pos} {ds : List D} {fl : Fl} (hi : Ev G n cs σ iter (.list ds)) (hk : cs.names.lookup x = some .local)
    (hl : LoopL G n cs x body σ ds fl σ')
    (hs : ∀ env v, foldedSetIterable iter env v = pure v) : Ex G n cs σ (.For (.Name x px) iter body [] pos) fl σ' :=
  Ex.intro fun C m ow fr fz s Q ok r F N k => by
    refine For_invVF (h₀ := C.h₀) (m := m) F hk (by show (cs.kind == .class || (cs.kind == .module && _)) = false; rw [ok.kind]; rfl) (hi.use ok r F N fun v fz1 h1 tk1 r1 hv1 hs1 F1 N1 => ?_) (hs _) PassesOwn.never
    cases hv1 with
    | @list a vs nn _ hm ha =>
      refine kdl_iter (nn := nn) (vs := vs) (news := ow ++ (fr ++ fz1)) (fun i m nx => LoopJ G n cs C x body fr fz1 fl σ' (ds.drop i) m nx) rfl (List.mem_append_right _ (List.mem_append_right _ hm)) F1 N1 ⟨σ, ow, fz1, rfl, r1, .refl, by simpa using hl⟩ ?_ ?_
      · intro i v m₁ nx h tk own hv hoff _ hJ F₁ N₁
        obtain ⟨d, hd, hV⟩ := ha.get' hv
        have hlt : i < ds.length := (List.getElem?_eq_some_iff.mp hd).1
        have e : ds.drop i = d :: ds.drop (i + 1) := by
          rw [List.drop_eq_getElem_cons hlt]
          congr 1
          have := List.getElem?_eq_getElem hlt
          rw [this] at hd
          exact Option.some.inj hd
        rw [e] at hJ
        exact loop_turn ok hoff hJ (fun fz hs => hV.mono hs) F₁ N₁ (fun m' nx' hj hsub => ⟨hsub _ hm, hj⟩) fun f m' ow' fz' h' tk' r' hf hs' F' N' => k f m' ow' fz' h' tk' r' hf (hs1.trans hs') F' N'
      · intro m₁ nx h tk hJ F₁ N₁
        have e : ds.drop vs.length = [] := by rw [ha.length]; exact List.drop_length ..
        rw [e] at hJ
        exact loop_done hJ F₁ N₁ fun f m' ow' fz' h' tk' r' hf hs' F' N' => k f m' ow' fz' h' tk' r' hf (hs1.trans hs') F' N'

inductive RangeArgs : List D → Int → Int → Int → Nat → Prop
  | one {b : Int} : -1000000 ≤ b → b ≤ 1000000 → RangeArgs [.int b] 0 b 1 b.toNat
  | two {a b : Int} : -1000000 ≤ a → a ≤ 1000000 → -1000000 ≤ b → b ≤ 1000000 → RangeArgs [.int a, .int b] a b 1 (b - a).toNat
  | down {a b : Int} : -1000000 ≤ a → a ≤ 1000000 → -1000000 ≤ b → b ≤ 1000000 → RangeArgs [.int a, .int b, .int (-1)] a b (-1) (a - b).toNat
theorem RangeArgs.small {ds : List D} {a b c : Int} {l : Nat} (h : RangeArgs ds a b c l) : Builtin.Range.small a b c = true ∧ Builtin.Range.rangeSize a b c = (l : Int) := by
  cases h with
  | one h1 h2 => exact ⟨small_one (by omega) (by omega) (by omega) (by omega), by rw [rangeSize_nat, Int.sub_zero]⟩
  | two h1 h2 h3 h4 => exact ⟨small_one (by omega) (by omega) (by omega) (by omega), rangeSize_nat _ _⟩
  | down h1 h2 h3 h4 => exact ⟨small_down (by omega) (by omega) (by omega) (by omega), rangeSize_downNat _ _⟩
theorem call_rangeD {A : Around} {prog : Program} {w : World} {h₀ : Heap} {L : Addr} {m : Str → Option Value} {news : Led} {s : Shared} {ds : List D} {a b c : Int} {l : Nat} {fz : Led} {vs : List Value} {Q : Value → Shared → Prop} {E : Value → Shared → Prop}
    (h : RangeArgs ds a b c l) (hv : VAll fz vs ds) (F : Fr h₀ L s.heap m) (N : News h₀ L s.heap news)
    (k : ∀ h' tk t₁ u₁ v₁, IsRange h' s.heap.objs.size a b c t₁ u₁ v₁ → Fr h₀ L h' m → News h₀ L h' news → Q (.ref s.heap.objs.size) { s with heap := h', toks := tk }) :
    wpAny (model prog w) A (call (.type "range") vs) Q E s := by
  cases h with
  | one h1 h2 =>
    cases hv with
    | cons x1 hv => cases hv; cases x1; exact range1_rows F N fun h' tk t u v R F' N' _ => k h' tk t u v R F' N'
  | two h1 h2 =>
    cases hv with
    | cons x1 hv => cases hv with
      | cons x2 hv => cases hv; cases x1; cases x2; exact range2_rows F N fun h' tk t u v R F' N' _ => k h' tk t u v R F' N'
  | down h1 h2 =>
    cases hv with
    | cons x1 hv => cases hv with
      | cons x2 hv => cases hv with
        | cons x3 hv => cases hv; cases x1; cases x2; cases x3; exact range3_rows F N (by decide) (fun h' tk t u v R F' N' _ => k h' tk t u v R F' N') (Or.inl (PyProof.noPylong_small (by decide)))

def rangeDs (a c : Int) (l : Nat) : List D := (List.range l).map fun (i : Nat) => D.int (a + (i : Int) * c)

theorem Ex.forRange {x rn : Str} {e : Expr} {es : List Expr} {body : List Stmt} {px pr pc pos : Pos} {ds : List D} {a b c : Int} {l : Nat} {fl : Fl} (hi : EvL G n cs σ (e :: es) ds) (hr : RangeArgs ds a b c l) (hk : cs.names.lookup x = some .local)
    (hrn : rn = Str.ofString "range") (hg : nsIn G.K mainGlobals rn = some none) (hkr : cs.names.lookup rn = some .globalImplicit)
    (hl : LoopL G n cs x body σ (rangeDs a c l) fl σ')
    (he : ∀ env, starEach (e :: es) env = (false, eval e env) :: starEach es env) (hplain : ∀ env, (backTo pc (starEach es env)).any (·.1) = false)
    (hc : ∀ env, eval (.Call (.Name rn pr) (e :: es) [] pc) env = (do callWith pc (← eval (.Name rn pr) env) [] (backTo pc (starEach (e :: es) env)) (backToKw pc (keywordEach [] env))))
    (hs : ∀ env v, foldedSetIterable (.Call (.Name rn pr) (e :: es) [] pc) env v = pure v) : Ex G n cs σ (.For (.Name x px) (.Call (.Name rn pr) (e :: es) [] pc) body [] pos) fl σ' :=
  Ex.intro fun C m ow fr fz s Q ok r F N k => by
    subst hrn
    refine For_invVF (h₀ := C.h₀) (m := m) F hk (by show (cs.kind == .class || (cs.kind == .module && _)) = false; rw [ok.kind]; rfl) (Call_ (nameX_B F ok.kin (topRead_of ok.top) hg (v := .type "range") (by decide +kernel) (by decide) ?_ ok.kind hkr) (hc _)) (hs _) PassesOwn.never
    refine PyProof.Rows.callWith_type1 (hi.use ok r F N fun vs fz1 h1 tk1 r1 hv1 hs1 F1 N1 => call_rangeD hr hv1 F1 N1 fun h2 tk2 t u v R F2 N2 => ?_) (he _) (hplain _)
    obtain ⟨hsm, hsz⟩ := hr.small
    refine wpAny_pyIter_range R hsm ?_
    have W : Walks G.prog G.w (C.A cs) h2.objs.size [h2.objs.size] [h2.objs.size] l (fun i v => i < l ∧ ∃ t, v = .int (a + i * c) t)
        (fun i h => IsRangeIter h h2.objs.size (a + (i : Nat) * c) ((l : Int) - (i : Nat)) c) := (Walks.range rfl _ a c l).bound
    refine kdr_loop (env := C.env cs) (news := ow ++ (fr ++ fz1)) (fun i m nx => LoopJ G n cs C x body fr fz1 fl σ' ((rangeDs a c l).drop i) m nx) W (fun _ h => h) (fun _ h => h) ?_ ?_ ?_ ?_ (by show IsRangeIter _ _ _ _ _; rw [hsz]; simpa using Heap.get?_push_size _ rfl) (F2.push _) (fun p hp => ⟨Heap.get?_push_of_some _ (N2 p hp).1, (N2 p hp).2⟩) ⟨σ, ow, fz1, rfl, r1, .refl, by simpa using hl⟩ ?_ ?_
    · intro i h hi b hb
      rw [List.mem_singleton.mp hb]
      exact ⟨_, hi⟩
    · intro hm
      exact absurd F2.ns.lt ((List.mem_singleton.mp hm) ▸ Nat.lt_irrefl _)
    · intro b hb
      rw [List.mem_singleton.mp hb]
      exact next_is_new F2
    · intro p hp hI
      exact absurd (Heap.lt_size (N2 p hp).1) ((List.mem_singleton.mp hI) ▸ Nat.lt_irrefl _)
    · rintro i v m₁ nx h tk own hi ⟨_, t, rfl⟩ hoff hJ F₁ N₁
      have hlt : i < (rangeDs a c l).length := by simpa [rangeDs] using hi
      have e : (rangeDs a c l).drop i = .int (a + (i : Int) * c) :: (rangeDs a c l).drop (i + 1) := by
        rw [List.drop_eq_getElem_cons hlt]
        congr 1
        simp [rangeDs]
      rw [e] at hJ
      exact loop_turn ok hoff hJ (fun fz hs => .int _ _) F₁ N₁ (fun m' nx' hj hsub => hj) fun f m' ow' fz' h' tk' r' hf hs' F' N' => k f m' ow' fz' h' tk' r' hf (hs1.trans hs') F' N'
    · intro m₁ nx h tk hJ F₁ N₁
      have e : (rangeDs a c l).drop l = [] := List.drop_of_length_le (by simp [rangeDs])
      rw [e] at hJ
      exact loop_done hJ F₁ N₁ fun f m' ow' fz' h' tk' r' hf hs' F' N' => k f m' ow' fz' h' tk' r' hf (hs1.trans hs') F' N'

inductive LoopW (G : Glb) (n : Nat) (cs : Scope) (t : Expr) (body : List Stmt) : Nat → St → St → Prop
  | stop {k : Nat} {σ : St} : Tst G n cs σ t false → LoopW G n cs t body k σ σ
  | turn {k : Nat} {σ σ₁ σ' : St} : Tst G n cs σ t true → Exs G n cs σ body .next σ₁ → LoopW G n cs t body k σ₁ σ' → LoopW G n cs t body (k + 1) σ σ'

theorem Ex.while {t : Expr} {body : List Stmt} {pos : Pos} {k : Nat} (hl : LoopW G n cs t body k σ σ') : Ex G n cs σ (.While t body [] pos) .next σ' :=
  Ex.intro fun C m ow fr fz s Q ok r F N kk => by
    refine wpAny_While (codeAny_whileLoop (fun k s' => ∃ σi m ow fz' h tk, s' = { s with heap := h, toks := tk } ∧ Rep C σi m ow fr fz' ∧ Sub fz fz' ∧ Fr C.h₀ C.L h m ∧ News C.h₀ C.L h (ow ++ (fr ++ fz')) ∧ LoopW G n cs t body k σi σ') ?_ k ⟨σ, m, ow, fz, s.heap, s.toks, rfl, r, .refl, F, N, hl⟩)
    rintro k _ ⟨σi, m1, ow1, fz1, h1, tk1, rfl, r1, hs1, F1, N1, hl1⟩
    cases hl1 with
    | stop ht =>
      refine ht.use (s := { s with heap := h1, toks := tk1 }) ok r1 F1 N1 fun fz2 h2 tk2 r2 hs2 F2 N2 => ?_
      exact wpAny_execs_nil (kk .next m1 ow1 fz2 h2 tk2 r2 trivial (hs1.trans hs2) F2 N2)
    | turn ht hb hl2 =>
      refine ht.use (s := { s with heap := h1, toks := tk1 }) ok r1 F1 N1 fun fz2 h2 tk2 r2 hs2 F2 N2 => ?_
      refine hb.use (s := { s with heap := h2, toks := tk2 }) ok r2 F2 N2 fun f m3 ow3 fz3 h3 tk3 r3 hf hs3 F3 N3 => ?_
      cases f with
      | next => exact ⟨_, Nat.lt_succ_self _, _, m3, ow3, fz3, h3, tk3, rfl, r3, (hs1.trans hs2).trans hs3, F3, N3, hl2⟩
      | cont => exact hf.elim
      | brk => exact hf.elim
      | ret v => exact hf.elim

/- a def of the text -/
theorem zip_lookup {fz : Led} : ∀ {xs : List Str} {vs : List Value} {ds : List D}, VAll fz vs ds → xs.Nodup → ∀ {x : Str} {d : D}, (xs.zip ds).lookup x = some d → ∃ v, (xs.zip vs).reverse.lookup x = some v ∧ VIn fz v d
  | [], _, _, _, _, x, d, h => by simp at h
  | _ :: _, _, _, .nil, _, x, d, h => by simp at h
  | y :: xs, _, _, .cons (v := v) (vs := vs) (d := e) (ds := ds) h1 h2, hn, x, d, h => by
    have hy : y ∉ xs := (List.nodup_cons.mp hn).1
    have hnn : xs.Nodup := (List.nodup_cons.mp hn).2
    by_cases hxy : x = y
    · subst hxy
      simp at h
      subst h
      refine ⟨v, ?_, h1⟩
      have hnone : (xs.zip vs).reverse.lookup x = none := by
        rw [List.lookup_eq_none_iff]
        intro p hp
        have := (List.of_mem_zip (List.mem_reverse.mp hp)).1
        exact bne_iff_ne.mpr fun e => hy (e ▸ this)
      simp [List.zip_cons_cons, List.lookup_append, hnone]
    · have hb : (x == y) = false := by simpa using hxy
      simp only [List.zip_cons_cons, List.lookup, hb] at h
      obtain ⟨v', h3, h4⟩ := zip_lookup h2 hnn h
      exact ⟨v', by simp [List.zip_cons_cons, List.lookup_append, h3], h4⟩

/-- a block that returns -/
structure ExsR (G : Glb) (n : Nat) (cs : Scope) (σ : St) (b : List Stmt) (d : D) : Prop where
  ex : ∃ σ', Exs G n cs σ b (.ret d) σ'
theorem ExsR.cons {st : Stmt} {b : List Stmt} {d : D} (h1 : Ex G n cs σ st .next σ₁) (h2 : ExsR G n cs σ₁ b d) : ExsR G n cs σ (st :: b) d := let ⟨_, h⟩ := h2; ⟨_, Exs.cons h1 h⟩
theorem ExsR.ret {e : Expr} {pos : Pos} {b : List Stmt} {d : D} (h : Ev G n cs σ e d) : ExsR G n cs σ (.Return (some e) pos :: b) d := ⟨_, Exs.ret (Ex.ret h)⟩
theorem ExsR.freeze {b : List Stmt} {d : D} (h : ExsR G n cs σ.freeze b d) : ExsR G n cs σ b d := let ⟨_, h⟩ := h; ⟨_, Exs.freeze h⟩
theorem ExsR.ifT {t : Expr} {b1 b2 rest : List Stmt} {pos : Pos} {d : D} (h : Tst G n cs σ t true) (h1 : ExsR G n cs σ b1 d) : ExsR G n cs σ (.If t b1 b2 pos :: rest) d :=
  let ⟨_, h1⟩ := h1; ⟨_, Exs.ret (Ex.ite h (fun _ => h1) fun e => nomatch e)⟩
theorem ExsR.ifF {t : Expr} {b1 rest : List Stmt} {pos : Pos} {d : D} (h : Tst G n cs σ t false) (h2 : ExsR G n cs σ rest d) : ExsR G n cs σ (.If t b1 [] pos :: rest) d :=
  let ⟨_, h2⟩ := h2; ⟨_, Exs.cons (Ex.ite h (fun e => nomatch e) fun _ => Exs.nil) h2⟩
theorem ExsR.if1 {t : Expr} {b1 rest : List Stmt} {pos : Pos} {d : D} (h : Tst G n cs σ t true) (h1 : Exs G n cs σ b1 .next σ₁) (h2 : ExsR G n cs σ₁ rest d) : ExsR G n cs σ (.If t b1 [] pos :: rest) d :=
  let ⟨_, h2⟩ := h2; ⟨_, Exs.cons (Ex.ite h (fun _ => h1) fun e => nomatch e) h2⟩
theorem ExsR.stop {st : Stmt} {b : List Stmt} {d : D} (h : ∃ σ', Ex G n cs σ st (.ret d) σ') : ExsR G n cs σ (st :: b) d := let ⟨_, h⟩ := h; ⟨_, Exs.ret h⟩
theorem ExsR.conv {b : List Stmt} {d d' : D} (h : ExsR G n cs σ b d) (e : d = d') : ExsR G n cs σ b d' := e ▸ h
theorem ExsR.le {b : List Stmt} {d : D} {σ₂ : St} (hl : σ.le σ₂) (h : ExsR G n cs σ₂ b d) : ExsR G n cs σ b d := let ⟨_, h⟩ := h; ⟨_, Exs.le hl h⟩

theorem Spec.intro {f : Addr} {k : Nat} {ds : List D} {d : D} {xs : List Str} {name qual : Str} {params : Arguments} {body : List Stmt} {scope : Scope} {dV kV doc pm cdv ct oc : Value} {an od : Option Addr} {osl : Array (Option Value)}
    (ho : G.K.lookup f = some ⟨oc, od, .func (fnOf name qual params body scope dV kV doc pm an cdv ct), osl⟩) (hcd : codeIn G.K cdv qual = true)
    (hb : ∀ (vs : List Value), vs.length = xs.length → bindArgs (fnOf name qual params body scope dV kV doc pm an cdv ct) ⟨vs, []⟩ = pure (xs.zip vs))
    (hn : xs.Nodup) (hl : xs.length = ds.length) (hloc : ∀ x ∈ xs, scope.names.lookup x = some .local) (hcell : ∀ x ∈ scope.names, x.2 ≠ .cell)
    (hco : scope.isCoroutine = false) (hgen : scope.isGenerator = false) (hk : scope.kind = .function)
    (hbody : ExsR G k scope ⟨xs.zip ds, none, []⟩ body d) : Spec G f (k + 1) ds d := by
  obtain ⟨σ', hbody⟩ := hbody
  refine ⟨⟨_, _, _, _, ho⟩, fun cs C m ow fz vs s Q ok hoff hv F N kk => ?_⟩
  refine wpAny_call (code_def (news := ow ++ fz) (env := C.env cs) (outer := C.outer) (binds := xs.zip vs) ok.below F ok.kin N ok.top rfl rfl ok.kind ho hcd (by show C.dp < _; have := ok.room; omega) (BindsTo.of_eq (hb vs (by rw [hv.length, hl]))) ?_ ?_ hco hgen hk hcell)
  · intro y hy
    exact hloc y.1 (List.of_mem_zip hy).1
  · intro g L' h₁ FG F' N' B' X' T'
    let C' : FC := { dp := C.dp + 1, un := C.un + 3, gd := C.gd, cn := qual, L := L', a := f, ccd := cdv, cl := [], outer := C.env cs :: C.outer, A₀ := C.A cs, base := C.base, h₀ := g }
    have ok' : C'.Ok G k scope := ⟨B', X', T', hk, by show C.dp + 1 + k < _; have := ok.room; omega, by show C.un + 3 + 8 * k + 8 < _; have := ok.units; omega⟩
    have r' : Rep C' ⟨xs.zip ds, none, []⟩ (fun y => (xs.zip vs).reverse.lookup y) [] ow fz :=
      ⟨fun x e h => zip_lookup hv hn h, rfl, fun x e h => by simp at h, hoff, fun _ hp => absurd hp List.not_mem_nil⟩
    refine hbody.use (C := C') ok' r' F' N' fun fl m2 ow2 fz2 h2 tk2 r2 hf hs2 F2 N2 => ?_
    cases fl with
    | next => exact hf.elim
    | brk => exact hf.elim
    | cont => exact hf.elim
    | ret v =>
      refine leaveK_ (news' := ow ++ fz2) F2 (news_sub N2 fun p hp => List.mem_append_right _ hp) fun F3 N3 => ?_
      exact kk v fz2 h2 tk2 (fun p hp q hq => r2.off p hp q (List.mem_append_right _ hq)) hf hs2 F3 N3
end
end Mine
end
section
namespace Mine
/- digits -/
def digs (B : Nat) : Nat → Nat → List Nat
  | 0, _ => []
  | f + 1, n => if n = 0 then [] else n % B :: digs B f (n / B)
def lim (W n : Nat) : List Nat := digs (2 ^ W) n n
def val (B : Nat) : List Nat → Nat
  | [] => 0
  | d :: r => d + B * val B r

theorem digs_zero (B : Nat) : ∀ f, digs B f 0 = []
  | 0 => rfl
  | f + 1 => by simp [digs]
theorem digs_fuel {B : Nat} (hB : 2 ≤ B) : ∀ (f n : Nat), n ≤ f → digs B f n = digs B n n := by
  intro f
  induction f with
  | zero => intro n h; have : n = 0 := by omega
            subst this; rfl
  | succ f ih =>
    intro n h
    by_cases h0 : n = 0
    · subst h0; simp [digs]
    · obtain ⟨k, rfl⟩ : ∃ k, n = k + 1 := ⟨n - 1, by omega⟩
      have hlt : (k + 1) / B < k + 1 := Nat.div_lt_self (by omega) hB
      simp only [digs, if_neg h0]
      rw [ih _ (by omega)]
      by_cases hk : f = k
      · subst hk; rw [ih _ (by omega)]
      · rw [show digs B k ((k + 1) / B) = digs B ((k+1)/B) ((k+1)/B) from ?_]
        have : ∀ g, (k + 1) / B ≤ g → g ≤ f → digs B g ((k+1)/B) = digs B ((k+1)/B) ((k+1)/B) := by
          intro g hg hgf
          have aux : ∀ (g n : Nat), n ≤ g → digs B g n = digs B n n := by
            intro g
            induction g using Nat.strongRecOn with
            | _ g ihg =>
              intro n hn
              by_cases hn0 : n = 0
              · subst hn0; rw [digs_zero, digs_zero]
              · obtain ⟨g', rfl⟩ : ∃ g', g = g' + 1 := ⟨g - 1, by omega⟩
                obtain ⟨n', rfl⟩ : ∃ n', n = n' + 1 := ⟨n - 1, by omega⟩
                have hlt' : (n' + 1) / B < n' + 1 := Nat.div_lt_self (by omega) hB
                simp only [digs, if_neg hn0]
                rw [ihg g' (by omega) _ (by omega), ihg n' (by omega) _ (by omega)]
          exact aux g _ hg
        exact this k (by omega) (by omega)
theorem two_le_pow {W : Nat} (hW : 1 ≤ W) : 2 ≤ 2 ^ W := by
  calc 2 = 2 ^ 1 := rfl
    _ ≤ 2 ^ W := Nat.pow_le_pow_right (by decide) hW
theorem lim_zero (W : Nat) : lim W 0 = [] := rfl
theorem lim_pos {W n : Nat} (hW : 1 ≤ W) (h : 0 < n) : lim W n = n % 2 ^ W :: lim W (n / 2 ^ W) := by
  unfold lim
  obtain ⟨k, rfl⟩ : ∃ k, n = k + 1 := ⟨n - 1, by omega⟩
  have hlt : (k + 1) / 2 ^ W < k + 1 := Nat.div_lt_self (by omega) (two_le_pow hW)
  rw [digs, if_neg (by omega), digs_fuel (two_le_pow hW) k _ (by omega)]
theorem val_lim {W : Nat} (hW : 1 ≤ W) : ∀ n, val (2 ^ W) (lim W n) = n := by
  intro n
  induction n using Nat.strongRecOn with
  | _ n ih =>
    by_cases h : n = 0
    · subst h; rfl
    · rw [lim_pos hW (by omega), val, ih _ (Nat.div_lt_self (by omega) (two_le_pow hW))]
      have := Nat.div_add_mod n (2 ^ W)
      omega
theorem lim_lt {W : Nat} (hW : 1 ≤ W) : ∀ n, ∀ d ∈ lim W n, d < 2 ^ W := by
  intro n
  induction n using Nat.strongRecOn with
  | _ n ih =>
    by_cases h : n = 0
    · subst h; intro d hd; rw [lim_zero] at hd; cases hd
    · rw [lim_pos hW (by omega)]
      intro d hd
      rcases List.mem_cons.mp hd with rfl | hd
      · exact Nat.mod_lt _ (by have := two_le_pow hW; omega)
      · exact ih _ (Nat.div_lt_self (by omega) (two_le_pow hW)) d hd
theorem lim_length_le {W : Nat} (hW : 1 ≤ W) : ∀ n, (lim W n).length ≤ n := by
  intro n
  induction n using Nat.strongRecOn with
  | _ n ih =>
    by_cases h : n = 0
    · subst h; simp [lim_zero]
    · have hlt : n / 2 ^ W < n := Nat.div_lt_self (by omega) (two_le_pow hW)
      rw [lim_pos hW (by omega), List.length_cons]
      have := ih _ hlt
      omega
theorem lim_nil {W n : Nat} (hW : 1 ≤ W) : lim W n = [] ↔ n = 0 := by
  constructor
  · intro h
    have := val_lim hW n
    rw [h] at this
    exact this.symm
  · rintro rfl; rfl
theorem lim_len_pos {W n : Nat} (hW : 1 ≤ W) : 0 < (lim W n).length ↔ 0 < n := by
  have := lim_nil (n := n) hW
  rw [List.length_pos_iff, ne_eq, this]
  omega
/-- the length says the size -/
theorem lim_low {W : Nat} (hW : 1 ≤ W) : ∀ n, 0 < n → (2 ^ W) ^ ((lim W n).length - 1) ≤ n := by
  intro n
  induction n using Nat.strongRecOn with
  | _ n ih =>
    intro h
    rw [lim_pos hW h, List.length_cons, Nat.add_sub_cancel]
    by_cases h2 : n / 2 ^ W = 0
    · rw [h2, lim_zero]; simp; omega
    · have hq : 0 < n / 2 ^ W := Nat.pos_of_ne_zero h2
      have := ih _ (Nat.div_lt_self h (two_le_pow hW)) hq
      have hl : 0 < (lim W (n / 2 ^ W)).length := (lim_len_pos hW).mpr hq
      obtain ⟨k, hk⟩ : ∃ k, (lim W (n / 2 ^ W)).length = k + 1 := ⟨_ - 1, (Nat.sub_add_cancel hl).symm⟩
      rw [hk] at this ⊢
      rw [Nat.add_sub_cancel] at this
      rw [Nat.pow_succ]
      calc (2 ^ W) ^ k * 2 ^ W ≤ (n / 2 ^ W) * 2 ^ W := Nat.mul_le_mul_right _ this
        _ ≤ n := Nat.div_mul_le_self _ _
theorem val_lt {B : Nat} (hB : 2 ≤ B) : ∀ ds : List Nat, (∀ d ∈ ds, d < B) → val B ds < B ^ ds.length
  | [], _ => by simp [val]
  | d :: r, h => by
    have h1 := h d (.head _)
    have h2 := val_lt hB r fun x hx => h x (.tail _ hx)
    rw [val, List.length_cons, Nat.pow_succ]
    calc d + B * val B r < B + B * val B r := by omega
      _ = (val B r + 1) * B := by rw [Nat.add_mul, Nat.one_mul, Nat.mul_comm B]; omega
      _ ≤ B ^ r.length * B := Nat.mul_le_mul_right _ h2
theorem lim_high {W : Nat} (hW : 1 ≤ W) (n : Nat) : n < (2 ^ W) ^ (lim W n).length := by
  have := val_lt (two_le_pow hW) (lim W n) (lim_lt hW n)
  rwa [val_lim hW] at this
theorem lim_uniq {W : Nat} (hW : 1 ≤ W) : ∀ ds : List Nat, (∀ d ∈ ds, d < 2 ^ W) → (ds = [] ∨ (2 ^ W) ^ (ds.length - 1) ≤ val (2 ^ W) ds) → ds = lim W (val (2 ^ W) ds)
  | [], _, _ => rfl
  | d :: r, h, hh => by
    have hB := two_le_pow hW
    have h1 := h d (.head _)
    have hlow : (2 ^ W) ^ r.length ≤ d + 2 ^ W * val (2 ^ W) r := by
      rcases hh with hh | hh
      · cases hh
      · simpa [val] using hh
    have hpos : 0 < d + 2 ^ W * val (2 ^ W) r := Nat.lt_of_lt_of_le (Nat.pow_pos (by omega)) hlow
    have ih := lim_uniq hW r (fun x hx => h x (.tail _ hx)) (by
      cases r with
      | nil => exact .inl rfl
      | cons e s =>
        right
        rw [List.length_cons, Nat.add_sub_cancel]
        rw [List.length_cons, Nat.pow_succ] at hlow
        have : (2 ^ W) ^ s.length * 2 ^ W < (val (2 ^ W) (e :: s) + 1) * 2 ^ W := by
          rw [Nat.add_mul, Nat.one_mul, Nat.mul_comm (val _ _)]; omega
        have := Nat.lt_of_mul_lt_mul_right this
        omega)
    rw [val, lim_pos hW hpos]
    have e1 : (d + 2 ^ W * val (2 ^ W) r) % 2 ^ W = d := by rw [Nat.add_mul_mod_self_left, Nat.mod_eq_of_lt h1]
    have e2 : (d + 2 ^ W * val (2 ^ W) r) / 2 ^ W = val (2 ^ W) r := by rw [Nat.add_mul_div_left _ _ (by omega), Nat.div_eq_of_lt h1, Nat.zero_add]
    rw [e1, e2, ← ih]
theorem val_append (B : Nat) : ∀ (a b : List Nat), val B (a ++ b) = val B a + B ^ a.length * val B b
  | [], b => by simp [val]
  | d :: r, b => by
    rw [List.cons_append, val, val, val_append B r b, List.length_cons, Nat.pow_succ, Nat.mul_add, Nat.add_assoc, ← Nat.mul_assoc, Nat.mul_comm B (B ^ r.length)]
theorem val_zeros (B : Nat) : ∀ k, val B (List.replicate k 0) = 0
  | 0 => rfl
  | k + 1 => by simp [List.replicate, val, val_zeros B k]
end Mine
end
namespace Mine
set_option maxHeartbeats 4000000
section
open PySem PySem.W PySem.Calls PyProof.Rows PySem.Challenge

theorem fill : rw_nz0082_01 = rw_nz0082_01 ∧ hd.heap_39 = hd.heap_39 := by k_fill; exact ⟨rfl, rfl⟩

noncomputable abbrev GG (w : World) (mean : ExcName → Option Value) (mg mb : Str → Option Value) : Glb :=
  { prog := rw_nz0082_01.row.prog, w := w, K := hd.heap_39 w.params, p := Mine.view, loose := looseW Mine.view [], mean := mean, mg := mg, mb := mb }

theorem Spec.cast {G : Glb} {f : Addr} {k : Nat} {ds : List D} {d d' : D} (h : Spec G f k ds d) (e : d = d') : Spec G f k ds d' := e ▸ h

theorem bind1 {fd : FuncData} {x1 : Str} (h : ∀ v1, bindArgs fd ⟨[v1], []⟩ = pure [(x1, v1)]) : ∀ vs : List Value, vs.length = [x1].length → bindArgs fd ⟨vs, []⟩ = pure ([x1].zip vs)
  | [v1], _ => h v1
theorem bind2 {fd : FuncData} {x1 x2 : Str} (h : ∀ v1 v2, bindArgs fd ⟨[v1, v2], []⟩ = pure [(x1, v1), (x2, v2)]) : ∀ vs : List Value, vs.length = [x1, x2].length → bindArgs fd ⟨vs, []⟩ = pure ([x1, x2].zip vs)
  | [v1, v2], _ => h v1 v2
theorem bind3 {fd : FuncData} {x1 x2 x3 : Str} (h : ∀ v1 v2 v3, bindArgs fd ⟨[v1, v2, v3], []⟩ = pure [(x1, v1), (x2, v2), (x3, v3)]) : ∀ vs : List Value, vs.length = [x1, x2, x3].length → bindArgs fd ⟨vs, []⟩ = pure ([x1, x2, x3].zip vs)
  | [v1, v2, v3], _ => h v1 v2 v3
theorem bind4 {fd : FuncData} {x1 x2 x3 x4 : Str} (h : ∀ v1 v2 v3 v4, bindArgs fd ⟨[v1, v2, v3, v4], []⟩ = pure [(x1, v1), (x2, v2), (x3, v3), (x4, v4)]) : ∀ vs : List Value, vs.length = [x1, x2, x3, x4].length → bindArgs fd ⟨vs, []⟩ = pure ([x1, x2, x3, x4].zip vs)
  | [v1, v2, v3, v4], _ => h v1 v2 v3 v4
theorem bind5 {fd : FuncData} {x1 x2 x3 x4 x5 : Str} (h : ∀ v1 v2 v3 v4 v5, bindArgs fd ⟨[v1, v2, v3, v4, v5], []⟩ = pure [(x1, v1), (x2, v2), (x3, v3), (x4, v4), (x5, v5)]) : ∀ vs : List Value, vs.length = [x1, x2, x3, x4, x5].length → bindArgs fd ⟨vs, []⟩ = pure ([x1, x2, x3, x4, x5].zip vs)
  | [v1, v2, v3, v4, v5], _ => h v1 v2 v3 v4 v5

variable {w : World} {mean : ExcName → Option Value} {mg mb : Str → Option Value}


theorem Ev.conv {G : Glb} {n : Nat} {cs : Scope} {σ : St} {e : Expr} {d d' : D} (h : Ev G n cs σ e d) (q : d = d') : Ev G n cs σ e d' := q ▸ h
theorem Tst.conv {G : Glb} {n : Nat} {cs : Scope} {σ : St} {e : Expr} {b c : Bool} (h : Tst G n cs σ e b) (q : b = c) : Tst G n cs σ e c := q ▸ h


section
variable {G : Glb} {n : Nat} {cs : Scope} {σ σ' : St}
theorem Ex.while' {t : Expr} {body : List Stmt} {pos : Pos} (hl : ∃ k, LoopW G n cs t body k σ σ') : Ex G n cs σ (.While t body [] pos) .next σ' := let ⟨_, h⟩ := hl; Ex.while h
theorem Ev.shl1 {l r : Expr} {pos : Pos} {W : Nat} (h1 : Ev G n cs σ l (.int 1)) (h2 : Ev G n cs σ r (.int (W : Int))) (hW : W ≤ 1000) : Ev G n cs σ (.BinOp l .LShift r pos) (.int ((2 ^ W : Nat) : Int)) :=
  (h1.shl h2 (by omega) (by omega) (by decide)).conv (by simp)
theorem Ev.shlN {l r : Expr} {pos : Pos} {a W : Nat} (h1 : Ev G n cs σ l (.int (a : Int))) (h2 : Ev G n cs σ r (.int (W : Int))) (hW : W ≤ 1000) (ha : a < 2 ^ 64) : Ev G n cs σ (.BinOp l .LShift r pos) (.int ((a * 2 ^ W : Nat) : Int)) :=
  (h1.shl h2 (by omega) (by omega) (by omega)).conv (by simp)
theorem Ev.shrN {l r : Expr} {pos : Pos} {a W : Nat} (h1 : Ev G n cs σ l (.int (a : Int))) (h2 : Ev G n cs σ r (.int (W : Int))) : Ev G n cs σ (.BinOp l .RShift r pos) (.int ((a / 2 ^ W : Nat) : Int)) :=
  (h1.shr h2 (by omega)).conv (by simp)
theorem Ev.modN {l r : Expr} {pos : Pos} {a k : Nat} (h1 : Ev G n cs σ l (.int (a : Int))) (h2 : Ev G n cs σ r (.int (k : Int))) (hk : 0 < k) : Ev G n cs σ (.BinOp l .Mod r pos) (.int ((a % k : Nat) : Int)) :=
  (h1.mod h2 (by omega)).conv (by simp)
theorem Ev.fdivN {l r : Expr} {pos : Pos} {a k : Nat} (h1 : Ev G n cs σ l (.int (a : Int))) (h2 : Ev G n cs σ r (.int (k : Int))) (hk : 0 < k) (hK : k < 1073741824) : Ev G n cs σ (.BinOp l .FloorDiv r pos) (.int ((a / k : Nat) : Int)) :=
  (h1.fdiv h2 (by omega) (by omega)).conv (by simp)
theorem Ev.addN {l r : Expr} {pos : Pos} {a b : Nat} (h1 : Ev G n cs σ l (.int (a : Int))) (h2 : Ev G n cs σ r (.int (b : Int))) : Ev G n cs σ (.BinOp l .Add r pos) (.int ((a + b : Nat) : Int)) :=
  (h1.add h2).conv (by simp)
theorem Ev.mulN {l r : Expr} {pos : Pos} {a b : Nat} (h1 : Ev G n cs σ l (.int (a : Int))) (h2 : Ev G n cs σ r (.int (b : Int))) (ha : a < 2 ^ 62) : Ev G n cs σ (.BinOp l .Mult r pos) (.int ((a * b : Nat) : Int)) :=
  (h1.mul h2 (by omega)).conv (by simp)
theorem bitAnd_mask (c W : Nat) : Builtin.bitAnd (c : Int) (((2 ^ W : Nat) : Int) - 1) = ((c % 2 ^ W : Nat) : Int) := by
  have h : (((2 ^ W : Nat) : Int) - 1) = ((2 ^ W - 1 : Nat) : Int) := by
    have : 0 < 2 ^ W := Nat.pow_pos (by decide)
    omega
  rw [h]
  unfold Builtin.bitAnd
  rw [← Nat.and_two_pow_sub_one_eq_mod]
  rfl
theorem Ev.maskN {l r : Expr} {pos : Pos} {c W : Nat} (h1 : Ev G n cs σ l (.int (c : Int))) (h2 : Ev G n cs σ r (.int (((2 ^ W : Nat) : Int) - 1))) : Ev G n cs σ (.BinOp l .BitAnd r pos) (.int ((c % 2 ^ W : Nat) : Int)) :=
  (h1.band h2).conv (by rw [bitAnd_mask])
theorem Ex.iaddN {x : Str} {e : Expr} {p pos : Pos} {a b : Nat} (hx : σ.ρ.lookup x = some (.int (a : Int))) (h : Ev G n cs σ e (.int (b : Int))) (hk : cs.names.lookup x = some .local) (ho : σ.ownNot x = true) : Ex G n cs σ (.AugAssign (.Name x p) .Add e pos) .next (σ.set x (.int ((a + b : Nat) : Int))) := by
  have h := Ex.iadd (p := p) (pos := pos) hx h hk ho
  rwa [show (a : Int) + (b : Int) = ((a + b : Nat) : Int) from by omega] at h
theorem Ex.ishrN {x : Str} {e : Expr} {p pos : Pos} {a W : Nat} (hx : σ.ρ.lookup x = some (.int (a : Int))) (h : Ev G n cs σ e (.int (W : Int))) (hk : cs.names.lookup x = some .local) (ho : σ.ownNot x = true) : Ex G n cs σ (.AugAssign (.Name x p) .RShift e pos) .next (σ.set x (.int ((a / 2 ^ W : Nat) : Int))) := by
  have h := Ex.ishr (p := p) (pos := pos) hx h (by omega) hk ho
  rwa [show (a : Int) / 2 ^ (W : Int).toNat = ((a / 2 ^ W : Nat) : Int) from by simp] at h
theorem Tst.name {x : Str} {p : Pos} {b : Bool} (h : Ev G n cs σ (.Name x p) (.bool b)) : Tst G n cs σ (.Name x p) b := Tst.plain h fun _ _ => rfl
theorem Tst.sub {v s : Expr} {p : Pos} {b : Bool} (h : Ev G n cs σ (.Subscript v s p) (.bool b)) : Tst G n cs σ (.Subscript v s p) b := Tst.plain h fun _ _ => rfl
theorem Tst.call {f : Expr} {as : List Expr} {ks : List Keyword} {p : Pos} {b : Bool} (h : Ev G n cs σ (.Call f as ks p) (.bool b)) : Tst G n cs σ (.Call f as ks p) b := Tst.plain h fun _ _ => rfl
theorem Ev.ifT {t e1 e2 : Expr} {pos : Pos} {d : D} (h : Tst G n cs σ t true) (h1 : Ev G n cs σ e1 d) : Ev G n cs σ (.IfExp t e1 e2 pos) d := Ev.ifexp h (fun _ => h1) fun e => nomatch e
theorem Ev.ifF {t e1 e2 : Expr} {pos : Pos} {d : D} (h : Tst G n cs σ t false) (h1 : Ev G n cs σ e2 d) : Ev G n cs σ (.IfExp t e1 e2 pos) d := Ev.ifexp h (fun e => nomatch e) fun _ => h1
end
section
variable {G : Glb} {n : Nat} {cs : Scope} {σ σ' : St}
theorem Ex.swap2 {x y : Str} {px py tp ep pos : Pos} {k1 k2 : Nat} {e1 e2 : Expr} {d1 d2 : D} (h1 : Ev G n cs σ e1 d1) (h2 : Ev G n cs σ e2 d2) (hx : cs.names.lookup x = some .local) (hy : cs.names.lookup y = some .local) (ox : σ.ownNot x = true) (oy : σ.ownNot y = true)
    (he1 : ∀ env, starEach [e1, e2] env = (false, eval e1 env) :: starEach [e2] env) (he2 : ∀ env, starEach [e2] env = (false, eval e2 env) :: starEach [] env)
    (hs : ∀ env, swapsWithSole [.Tuple [.Name x px, .Name y py] k1 tp] (.Tuple [e1, e2] k2 ep) pos.line env = pure false) (hw : ∀ C : FC, swappedStores [.Tuple [.Name x px, .Name y py] k1 tp] (.Tuple [e1, e2] k2 ep) (C.env cs) = pure (some [x, y])) :
    Ex G n cs σ (.Assign [.Tuple [.Name x px, .Name y py] k1 tp] (.Tuple [e1, e2] k2 ep) pos) .next ((σ.set y d2).set x d1) :=
  Ex.swap (xs := [x, y]) (ds := [d1, d2]) (.cons h1 (.cons h2 .nil he2) he1) rfl (by simp) (by intro z hz; simp at hz; rcases hz with rfl | rfl <;> assumption) (by intro z hz; simp at hz; rcases hz with rfl | rfl <;> assumption) hs hw
theorem Ex.swapOwn2 {x y : Str} {px py lp tp ep pos : Pos} {k1 k2 : Nat} {e1 : Expr} {d1 : D} (h1 : Ev G n cs σ e1 d1) (hx0 : σ.ρ.lookup x = none) (ho : σ.own = none) (hx : cs.names.lookup x = some .local) (hy : cs.names.lookup y = some .local) (hn : x ≠ y)
    (he0 : ∀ env, starEach [.List [] lp, e1] env = (false, eval (.List [] lp) env) :: starEach [e1] env) (he1 : ∀ env, starEach [e1] env = (false, eval e1 env) :: starEach [] env)
    (hs : ∀ env, swapsWithSole [.Tuple [.Name x px, .Name y py] k1 tp] (.Tuple [.List [] lp, e1] k2 ep) pos.line env = pure false) (hw : ∀ C : FC, swappedStores [.Tuple [.Name x px, .Name y py] k1 tp] (.Tuple [.List [] lp, e1] k2 ep) (C.env cs) = pure (some [x, y])) :
    Ex G n cs σ (.Assign [.Tuple [.Name x px, .Name y py] k1 tp] (.Tuple [.List [] lp, e1] k2 ep) pos) .next { σ.set y d1 with own := some (x, []) } :=
  Ex.swapOwn (x := x) (xs := [y]) (ds := [d1]) hx0 ho hx (by simpa using hn) (.cons h1 .nil he1) rfl (by simp) (by intro z hz; simp at hz; subst hz; exact hy) he0 hs hw
theorem Ex.swapOwn3 {x y z : Str} {px py pz lp tp ep pos : Pos} {k1 k2 : Nat} {e1 e2 : Expr} {d1 d2 : D} (h1 : Ev G n cs σ e1 d1) (h2 : Ev G n cs σ e2 d2) (hx0 : σ.ρ.lookup x = none) (ho : σ.own = none) (hx : cs.names.lookup x = some .local) (hy : cs.names.lookup y = some .local) (hz : cs.names.lookup z = some .local) (hn : x ≠ y) (hn2 : x ≠ z)
    (he0 : ∀ env, starEach [.List [] lp, e1, e2] env = (false, eval (.List [] lp) env) :: starEach [e1, e2] env) (he1 : ∀ env, starEach [e1, e2] env = (false, eval e1 env) :: starEach [e2] env) (he2 : ∀ env, starEach [e2] env = (false, eval e2 env) :: starEach [] env)
    (hs : ∀ env, swapsWithSole [.Tuple [.Name x px, .Name y py, .Name z pz] k1 tp] (.Tuple [.List [] lp, e1, e2] k2 ep) pos.line env = pure false) (hw : ∀ C : FC, swappedStores [.Tuple [.Name x px, .Name y py, .Name z pz] k1 tp] (.Tuple [.List [] lp, e1, e2] k2 ep) (C.env cs) = pure (some [x, y, z])) :
    Ex G n cs σ (.Assign [.Tuple [.Name x px, .Name y py, .Name z pz] k1 tp] (.Tuple [.List [] lp, e1, e2] k2 ep) pos) .next { (σ.set z d2).set y d1 with own := some (x, []) } :=
  Ex.swapOwn (x := x) (xs := [y, z]) (ds := [d1, d2]) hx0 ho hx (by simp; exact ⟨hn, hn2⟩) (.cons h1 (.cons h2 .nil he2) he1) rfl (by simp) (by intro u hu; simp at hu; rcases hu with rfl | rfl <;> assumption) he0 hs hw
end
/-- a loop over a range that goes to its end -/
theorem range_loop {G : Glb} {n : Nat} {cs : Scope} {x : Str} {body : List Stmt} {a c : Int} (S : Nat → St) : ∀ (l : Nat), (∀ i, i < l → (S i).ownNot x = true) → (∀ i, i < l → Exs G n cs ((S i).set x (.int (a + (i : Int) * c))) body .next (S (i + 1))) →
    LoopL G n cs x body (S 0) (rangeDs a c l) .next (S l) := by
  intro l ho hb
  have key : ∀ k i, i + k = l → LoopL G n cs x body (S i) ((rangeDs a c l).drop i) .next (S l) := by
    intro k
    induction k with
    | zero =>
      intro i h
      have : i = l := by omega
      subst this
      rw [List.drop_of_length_le (by simp [rangeDs])]
      exact .nil
    | succ k ih =>
      intro i h
      have hlt : i < (rangeDs a c l).length := by simp [rangeDs]; omega
      rw [List.drop_eq_getElem_cons hlt]
      have e : (rangeDs a c l)[i] = .int (a + (i : Int) * c) := by simp [rangeDs]
      rw [e]
      exact .cons (ho i (by omega)) (hb i (by omega)) (ih (i + 1) (by omega))
  simpa using key l 0 (by omega)
theorem range_from {G : Glb} {n : Nat} {cs : Scope} {x : Str} {body : List Stmt} (S : Nat → St) (m l : Nat) (hml : m ≤ l) (ho : ∀ i, (S i).ownNot x = true) (hb : ∀ i, m ≤ i → i < l → Exs G n cs ((S i).set x (.int (i : Int))) body .next (S (i + 1))) :
    LoopL G n cs x body (S m) (rangeDs (m : Int) 1 (l - m)) .next (S l) := by
  have h := range_loop (G := G) (n := n) (cs := cs) (x := x) (body := body) (a := (m : Int)) (c := 1) (fun i => S (m + i)) (l - m) (fun i _ => ho _) (fun i hi => by
    have := hb (m + i) (by omega) (by omega)
    rw [show ((m + i : Nat) : Int) = (m : Int) + (i : Int) * 1 from by omega] at this
    exact this)
  simp only [Nat.add_zero] at h
  rw [show m + (l - m) = l from by omega] at h
  exact h
/-- a loop over a list that goes to its end -/
theorem list_loop {G : Glb} {n : Nat} {cs : Scope} {x : Str} {body : List Stmt} (S : Nat → St) (ds : List D) (ho : ∀ i, i < ds.length → (S i).ownNot x = true) (hb : ∀ i d, ds[i]? = some d → Exs G n cs ((S i).set x d) body .next (S (i + 1))) :
    LoopL G n cs x body (S 0) ds .next (S ds.length) := by
  have key : ∀ k i, i + k = ds.length → LoopL G n cs x body (S i) (ds.drop i) .next (S ds.length) := by
    intro k
    induction k with
    | zero =>
      intro i h
      have : i = ds.length := by omega
      subst this
      rw [List.drop_length]
      exact .nil
    | succ k ih =>
      intro i h
      have hlt : i < ds.length := by omega
      rw [List.drop_eq_getElem_cons hlt]
      exact .cons (ho i hlt) (hb i _ (List.getElem?_eq_getElem hlt)) (ih (i + 1) (by omega))
  simpa using key ds.length 0 (by omega)
def dl (ds : List Nat) : List D := ds.map fun (d : Nat) => D.int (d : Int)
def nat (W n : Nat) : D := .list (dl (lim W n))
def sgn (W : Nat) (z : Int) : D := .tup [.bool (decide (z < 0)), nat W z.natAbs]
def rat (W : Nat) (p : Int) (q : Nat) : D := .tup [sgn W p, nat W q]
theorem dl_length (ds : List Nat) : (dl ds).length = ds.length := by simp [dl]
theorem dl_append (a b : List Nat) : dl (a ++ b) = dl a ++ dl b := by simp [dl]
theorem dl_take (ds : List Nat) (k : Nat) : (dl ds).take k = dl (ds.take k) := by simp [dl]
theorem Ev.lenN {G : Glb} {n : Nat} {cs : Scope} {σ : St} {e : Expr} {x : Str} {p pos : Pos} {ds : List Nat} (h : Ev G n cs σ e (.list (dl ds))) (hz : ds.length ≤ 1000000) (hx : x = Str.ofString "len")
    (hg : nsIn G.K mainGlobals x = some none) (hk : cs.names.lookup x = some .globalImplicit)
    (he : ∀ env, starEach [e] env = (false, eval e env) :: starEach [] env) : Ev G n cs σ (.Call (.Name x p) [e] [] pos) (.int (ds.length : Int)) :=
  (Ev.len h (by rw [dl_length]; exact hz) hx hg hk he).conv (by rw [dl_length])
theorem Ev.dget {G : Glb} {n : Nat} {cs : Scope} {σ : St} {ve se : Expr} {pos : Pos} {ds : List Nat} {k : Int} {i d : Nat} (h1 : Ev G n cs σ ve (.list (dl ds))) (h2 : Ev G n cs σ se (.int k)) (hk : k = (i : Int)) (hd : ds[i]? = some d) (hi : i < 1000000)
    (hs : ∀ a k u, subscripted se false (.ref a) (.int k u) = operate [.ref a, .int k u] (getItem (.ref a) (.int k u))) : Ev G n cs σ (.Subscript ve se pos) (.int (d : Int)) :=
  h1.lget h2 hk (by simp [dl, hd]) hi hs
theorem dl_get {ds : List Nat} {i d : Nat} (h : ds[i]? = some d) : (dl ds)[i]? = some (.int (d : Int)) := by simp [dl, h]
end
open PySem PySem.W PySem.Calls PyProof.Rows PySem.Challenge
variable {w : World} {mean : ExcName → Option Value} {mg mb : Str → Option Value}
-- the lines of the small evaluator
local macro_rules | `(tactic| lsm_bools) => `(tactic| (show nsIn (hd.heap_39 _) mainGlobals _ = _; k_is))
local macro_rules | `(tactic| mem_news) => `(tactic| assumption)
local macro_rules | `(tactic| kas_types) => `(tactic| (intros; rfl))
local macro_rules | `(tactic| kct_strs) => `(tactic| first
  | (refine' Ev.loc ?a ?b ?c; (case a => rfl); (case b => rfl); (case c => rfl))
  | (refine' Ev.glob ?a ?b ?c; (case a => lsm_bools); (case b => rfl); (case c => rfl))
  | (refine' Ev.cell ?a ?b ?c; (case a => rfl); (case b => rfl); (case c => rfl)))
local macro_rules | `(tactic| kat_tups) => `(tactic| first
  | exact EvL.nil
  | (refine' EvL.cons ?a ?b ?c; (case a => kp_flats); (case b => kat_tups); (case c => kas_types)))
local macro_rules | `(tactic| kcj_in) => `(tactic| first | omega | assumption | (simp; done) | (simp; omega) | (simp only [dl_length]; omega) | decide)
local macro_rules | `(tactic| kp_flats) => `(tactic| first
  | exact Ev.int
  | exact Ev.bool
  | kct_strs
  | (refine' Ev.tuple ?a ?b; (case a => kat_tups); (case b => kcj_in))
  | (refine' Ev.listd ?a ?b; (case a => kat_tups); (case b => kcj_in))
  | (refine' Ev.lenN ?a ?b ?c ?d ?e ?f; (case a => kp_flats); (case b => kcj_in); (case c => rfl); (case d => lsm_bools); (case e => rfl); (case f => kas_types))
  | (refine' Ev.len ?a ?b ?c ?d ?e ?f; (case a => kp_flats); (case b => kcj_in); (case c => rfl); (case d => lsm_bools); (case e => rfl); (case f => kas_types))
  | (refine' Ev.abs ?a ?b ?c ?d ?e; (case a => kp_flats); (case b => rfl); (case c => lsm_bools); (case d => rfl); (case e => kas_types))
  | (refine' Ev.min2 ?a ?b ?c ?d ?e ?f ?g; (case a => kp_flats); (case b => kp_flats); (case c => rfl); (case d => lsm_bools); (case e => rfl); (case f => kas_types); (case g => kas_types))
  | (refine' Ev.rev ?a ?b ?c ?d; (case a => kp_flats); (case b => kp_flats); (case c => kcj_in); (case d => exact fun _ _ => ⟨_, rfl⟩))
  | (refine' Ev.tget ?a ?b ?c ?d ?e ?f; (case a => kp_flats); (case b => kp_flats); (case c => rfl); (case d => rfl); (case e => decide); (case f => kas_types))
  | (refine' Ev.dget ?a ?b ?c ?d ?e ?f; (case a => kp_flats); (case b => kp_flats); (case c => rfl); (case d => assumption); (case e => kcj_in); (case f => kas_types))
  | (refine' Ev.addN ?a ?b; (case a => kp_flats); (case b => kp_flats))
  | (refine' Ev.add ?a ?b; (case a => kp_flats); (case b => kp_flats))
  | (refine' Ev.sub ?a ?b; (case a => kp_flats); (case b => kp_flats))
  | (refine' Ev.mulN ?a ?b ?c; (case a => kp_flats); (case b => kp_flats); (case c => kcj_in))
  | (refine' Ev.shl1 ?a ?b ?c; (case a => kp_flats); (case b => kp_flats); (case c => kcj_in))
  | (refine' Ev.shlN ?a ?b ?c ?d; (case a => kp_flats); (case b => kp_flats); (case c => kcj_in); (case d => kcj_in))
  | (refine' Ev.shrN ?a ?b; (case a => kp_flats); (case b => kp_flats))
  | (refine' Ev.maskN ?a ?b; (case a => kp_flats); (case b => kp_flats))
  | (refine' Ev.modN ?a ?b ?c; (case a => kp_flats); (case b => kp_flats); (case c => kcj_in))
  | (refine' Ev.fdivN ?a ?b ?c ?d; (case a => kp_flats); (case b => kp_flats); (case c => kcj_in); (case d => kcj_in))
  | (refine' Ev.mod ?a ?b ?c; (case a => kp_flats); (case b => kp_flats); (case c => kcj_in))
  | (refine' Ev.neg ?a; (case a => kp_flats))
  | (refine' Ev.and2 ?a ?b; (case a => kp_flats); (case b => (intro _; kp_flats)))
  | (refine' Ev.lt ?a ?b ?c; (case a => kp_flats); (case b => kp_flats); (case c => rfl))
  | (refine' Ev.gt ?a ?b ?c; (case a => kp_flats); (case b => kp_flats); (case c => rfl))
  | (refine' Ev.eq ?a ?b ?c; (case a => kp_flats); (case b => kp_flats); (case c => rfl))
  | (refine' Ev.ne ?a ?b ?c; (case a => kp_flats); (case b => kp_flats); (case c => rfl))
  | (refine' Ev.neb ?a ?b ?c; (case a => kp_flats); (case b => kp_flats); (case c => rfl))
  | (refine' Ev.call ?a ?b ?c ?d ?e ?f; (case a => kp_flats); (case b => kat_tups); (case c => mem_news); (case d => decide); (case e => kas_types); (case f => kas_types)))
local macro_rules | `(tactic| nest_cls) => `(tactic| first
  | (refine' Tst.lt ?a ?b ?c; (case a => kp_flats); (case b => kp_flats); (case c => rfl))
  | (refine' Tst.gt ?a ?b ?c; (case a => kp_flats); (case b => kp_flats); (case c => rfl))
  | (refine' Tst.le ?a ?b ?c; (case a => kp_flats); (case b => kp_flats); (case c => rfl))
  | (refine' Tst.ge ?a ?b ?c; (case a => kp_flats); (case b => kp_flats); (case c => rfl))
  | (refine' Tst.eq ?a ?b ?c; (case a => kp_flats); (case b => kp_flats); (case c => rfl))
  | (refine' Tst.ne ?a ?b ?c; (case a => kp_flats); (case b => kp_flats); (case c => rfl))
  | (refine' Tst.eqb ?a ?b ?c; (case a => kp_flats); (case b => kp_flats); (case c => rfl))
  | (refine' Tst.neb ?a ?b ?c; (case a => kp_flats); (case b => kp_flats); (case c => rfl))
  | (refine' Tst.name ?a; (case a => kct_strs))
  | (refine' Tst.sub ?a; (case a => kp_flats))
  | (refine' Tst.call ?a; (case a => kp_flats))
  | (refine' Tst.not ?a; (case a => nest_cls)))
local macro_rules | `(tactic| k_clsL) => `(tactic| (refine ⟨?_, rfl, rfl⟩; (repeat (refine List.forall_mem_cons.mpr ⟨?_, ?_⟩; rfl)); exact List.forall_mem_nil _))
local macro_rules | `(tactic| krn_off) => `(tactic| first
  | (refine' ExsR.cons (Ex.assign ?a ?b ?c ?d) ?e; (case a => kp_flats); (case b => rfl); (case c => rfl); (case d => kas_types))
  | (refine' Exs.cons (Ex.assign ?a ?b ?c ?d) ?e; (case a => kp_flats); (case b => rfl); (case c => rfl); (case d => kas_types)))
local macro_rules | `(tactic| tlg_ne) => `(tactic|
  (refine' Exs.cons (Ex.append ?a ?b ?c ?d ?e ?f ?g ?h ?i) ?j; (case a => rfl); (case b => kp_flats); (case c => rfl); (case d => rfl); (case e => kcj_in); (case f => kas_types); (case g => exact fun env => ⟨_, rfl⟩); (case h => kas_types); (case i => kas_types)))
local macro_rules | `(tactic| k_offL) => `(tactic| (
  refine' Spec.intro ?ho ?hcd ?hb ?hn ?hl ?hloc ?hcell ?hco ?hgen ?hk ?hbody
  case ho => (show List.lookup _ (hd.heap_39 _) = _; k_is)
  case hcd => (show codeIn (hd.heap_39 _) _ _ = _; k_is)
  case hb => first | exact bind1 (fun _ => rfl) | exact bind2 (fun _ _ => rfl) | exact bind3 (fun _ _ _ => rfl) | exact bind4 (fun _ _ _ _ => rfl) | exact bind5 (fun _ _ _ _ _ => rfl)
  case hn => decide
  case hl => rfl
  case hloc => (dsimp only; decide)
  case hcell => (dsimp only; decide)
  case hco => rfl
  case hgen => rfl
  case hk => rfl
  dsimp only [List.zip_cons_cons, List.zip_nil_left, List.zip_nil_right]))

local macro_rules | `(tactic| kba_ints) => `(tactic| first
  | (refine' ExsR.cons (Ex.swapOwn2 ?a ?b ?c ?d ?e ?f ?g ?h ?i ?j) ?r; (case j => (intro _; with_unfolding_all rfl)); (case a => kp_flats); (case b => rfl); (case c => rfl); (case d => rfl); (case e => rfl); (case f => decide); (case g => kas_types); (case h => kas_types); (case i => kas_types))
  | (refine' ExsR.cons (Ex.swapOwn3 ?a ?b ?c ?d ?e ?f ?g ?h ?i ?j ?k ?l ?m ?n) ?r; (case n => (intro _; with_unfolding_all rfl)); (case a => kp_flats); (case b => kp_flats); (case c => rfl); (case d => rfl); (case e => rfl); (case f => rfl); (case g => rfl); (case h => decide); (case i => decide); (case j => kas_types); (case k => kas_types); (case l => kas_types); (case m => kas_types))
  | (refine' Exs.cons (Ex.swapOwn2 ?a ?b ?c ?d ?e ?f ?g ?h ?i ?j) ?r; (case j => (intro _; with_unfolding_all rfl)); (case a => kp_flats); (case b => rfl); (case c => rfl); (case d => rfl); (case e => rfl); (case f => decide); (case g => kas_types); (case h => kas_types); (case i => kas_types))
  | (refine' Exs.cons (Ex.swapOwn3 ?a ?b ?c ?d ?e ?f ?g ?h ?i ?j ?k ?l ?m ?n) ?r; (case n => (intro _; with_unfolding_all rfl)); (case a => kp_flats); (case b => kp_flats); (case c => rfl); (case d => rfl); (case e => rfl); (case f => rfl); (case g => rfl); (case h => decide); (case i => decide); (case j => kas_types); (case k => kas_types); (case l => kas_types); (case m => kas_types))
  | (refine' ExsR.cons (Ex.swap2 ?a ?b ?c ?d ?e ?f ?g ?h ?i ?j) ?r; (case j => (intro _; with_unfolding_all rfl)); (case a => kp_flats); (case b => kp_flats); (case c => rfl); (case d => rfl); (case e => rfl); (case f => rfl); (case g => kas_types); (case h => kas_types); (case i => kas_types))
  | (refine' ExsR.cons (Ex.unpack2 ?a ?b ?c ?d ?e ?f ?g) ?r; (case a => kp_flats); (case b => rfl); (case c => rfl); (case d => rfl); (case e => rfl); (case f => kas_types); (case g => kas_types))
  | (refine' Exs.cons (Ex.swap2 ?a ?b ?c ?d ?e ?f ?g ?h ?i ?j) ?r; (case j => (intro _; with_unfolding_all rfl)); (case a => kp_flats); (case b => kp_flats); (case c => rfl); (case d => rfl); (case e => rfl); (case f => rfl); (case g => kas_types); (case h => kas_types); (case i => kas_types))
  | (refine' Exs.cons (Ex.unpack2 ?a ?b ?c ?d ?e ?f ?g) ?r; (case a => kp_flats); (case b => rfl); (case c => rfl); (case d => rfl); (case e => rfl); (case f => kas_types); (case g => kas_types)))
local macro_rules | `(tactic| k_subL) => `(tactic| first
  | (refine' Exs.cons (Ex.iaddN ?a ?b ?c ?d) ?e; (case a => rfl); (case b => kp_flats); (case c => rfl); (case d => rfl))
  | (refine' Exs.cons (Ex.ishrN ?a ?b ?c ?d) ?e; (case a => rfl); (case b => kp_flats); (case c => rfl); (case d => rfl))
  | (refine' Exs.cons (Ex.isub ?a ?b ?c ?d) ?e; (case a => rfl); (case b => kp_flats); (case c => rfl); (case d => rfl))
  | (refine' ExsR.cons (Ex.iaddN ?a ?b ?c ?d) ?e; (case a => rfl); (case b => kp_flats); (case c => rfl); (case d => rfl))
  | (refine' ExsR.cons (Ex.ishrN ?a ?b ?c ?d) ?e; (case a => rfl); (case b => kp_flats); (case c => rfl); (case d => rfl))
  | (refine' ExsR.cons (Ex.isub ?a ?b ?c ?d) ?e; (case a => rfl); (case b => kp_flats); (case c => rfl); (case d => rfl)))
section
theorem spec_signed_of (d : D) : Spec (GG w mean mg mb) 149 1 [d] (.tup [.bool false, d]) := by
  k_offL
  refine ExsR.ret ?_
  kp_flats

theorem spec_signed (b : Bool) (ds : List D) (h : ds.length ≤ 1000000) : Spec (GG w mean mg mb) 93 1 [.bool b, .list ds] (.tup [.bool (b && decide (0 < (ds.length : Int))), .list ds]) := by
  k_offL
  refine ExsR.ret ?_
  kp_flats

/- _law_limbs -/
def limSt (W m : Nat) (pre : List Nat) : St := ⟨[(Str.ofString "number", .int (m : Int)), (Str.ofString "w", .int (W : Int))], some (Str.ofString "found", dl pre), []⟩
theorem limbs_loop {G : Glb} {n : Nat} {cs : Scope} {t : Expr} {body : List Stmt} {W : Nat} (hW : 1 ≤ W) (h0 : ∀ pre, Tst G n cs (limSt W 0 pre) t false) (h1 : ∀ m pre, 0 < m → Tst G n cs (limSt W m pre) t true)
    (hb : ∀ m pre, 0 < m → pre.length + m ≤ 1000000 → Exs G n cs (limSt W m pre) body .next (limSt W (m / 2 ^ W) (pre ++ [m % 2 ^ W]))) :
    ∀ m pre, pre.length + m ≤ 1000000 → ∃ k, LoopW G n cs t body k (limSt W m pre) (limSt W 0 (pre ++ lim W m)) := by
  intro m
  induction m using Nat.strongRecOn with
  | _ m ih =>
    intro pre hp
    by_cases hm : m = 0
    · subst hm
      exact ⟨0, by rw [lim_zero, List.append_nil]; exact .stop (h0 pre)⟩
    · have hlt : m / 2 ^ W < m := Nat.div_lt_self (by omega) (two_le_pow hW)
      obtain ⟨k, hk⟩ := ih _ hlt (pre ++ [m % 2 ^ W]) (by simp; omega)
      refine ⟨k + 1, .turn (h1 m pre (by omega)) (hb m pre (by omega) hp) ?_⟩
      rw [lim_pos hW (by omega)]
      simpa using hk
theorem spec_law_limbs {W m : Nat} (hW : 1 ≤ W) (hW9 : W ≤ 9) (hm : m ≤ 1000000) : Spec (GG w mean mg mb) 198 1 [.int (m : Int), .int (W : Int)] (nat W m) := by
  have hp := Nat.pos_of_ne_zero (Nat.ne_of_gt (Nat.lt_of_lt_of_le (by decide) (two_le_pow hW)))
  k_offL
  refine ExsR.cons (Ex.newOwn (by rfl) (by rfl) (by rfl) (by kas_types)) ?_
  refine ExsR.cons (Ex.while' (limbs_loop (W := W) hW ?_ ?_ ?_ m [] (by simpa using hm))) ?_
  · intro pre
    refine Tst.conv (b := decide ((0 : Int) < ((0 : Nat) : Int))) ?_ rfl
    unfold limSt
    nest_cls
  · intro m pre h
    refine Tst.conv (b := decide ((0 : Int) < ((m : Nat) : Int))) ?_ (by simp; omega)
    unfold limSt
    nest_cls
  · intro m pre h hl
    unfold limSt
    tlg_ne
    krn_off
    refine Exs.leR Exs.nil ?_
    rw [dl_append]
    k_clsL
  · refine ExsR.freeze (ExsR.ret ?_)
    show Ev _ _ _ _ _ (.list (dl (lim W m)))
    kp_flats
end
section
/- _law_number -/
def numSt (W n acc : Nat) : St := ⟨[(Str.ofString "limbs", nat W n), (Str.ofString "w", .int (W : Int)), (Str.ofString "found", .int (acc : Int))], none, []⟩
def numF (B acc d : Nat) : Nat := acc * B + d
theorem numF_le (B : Nat) (hB : 1 ≤ B) : ∀ (ds : List Nat) (acc : Nat), acc ≤ ds.foldl (numF B) acc
  | [], acc => Nat.le_refl _
  | d :: r, acc => by
    have h := numF_le B hB r (numF B acc d)
    have : acc ≤ numF B acc d := by
      unfold numF
      calc acc = acc * 1 := (Nat.mul_one _).symm
        _ ≤ acc * B := Nat.mul_le_mul_left _ hB
        _ ≤ acc * B + d := Nat.le_add_right _ _
    exact Nat.le_trans this h
theorem num_rev (B : Nat) (ds : List Nat) : ds.reverse.foldl (numF B) 0 = val B ds := by
  rw [List.foldl_reverse]
  induction ds with
  | nil => rfl
  | cons d r ih => rw [List.foldr_cons, ih, numF, val, Nat.mul_comm]; omega
theorem num_loop {G : Glb} {k : Nat} {cs : Scope} {body : List Stmt} {W n : Nat} (hW : 1 ≤ W) (hb : ∀ acc (d : Nat), acc ≤ 1000000 → Exs G k cs ((numSt W n acc).set (Str.ofString "limb") (.int (d : Int))) body .next (numSt W n (acc * 2 ^ W + d))) :
    ∀ (ds : List Nat) (acc : Nat), ds.foldl (numF (2 ^ W)) acc ≤ 1000000 → LoopL G k cs (Str.ofString "limb") body (numSt W n acc) (dl ds) .next (numSt W n (ds.foldl (numF (2 ^ W)) acc))
  | [], acc, _ => .nil
  | d :: r, acc, h => by
    have h1 := numF_le (2 ^ W) (by have := two_le_pow hW; omega) (d :: r) acc
    exact .cons rfl (hb acc d (by omega)) (num_loop hW hb r _ h)
theorem spec_law_number {W m : Nat} (hW : 1 ≤ W) (hW9 : W ≤ 9) (hm : m ≤ 1000000) : Spec (GG w mean mg mb) 205 1 [nat W m, .int (W : Int)] (.int (m : Int)) := by
  have hlen := lim_length_le hW m
  k_offL
  krn_off
  refine ExsR.le (σ₂ := numSt W m 0) (by k_clsL) ?_
  have hv : (lim W m).reverse.foldl (numF (2 ^ W)) 0 = m := by rw [num_rev, val_lim hW]
  refine ExsR.cons (Ex.forList (ds := dl (lim W m).reverse) ?_ (by rfl) (num_loop hW ?_ (lim W m).reverse 0 (by rw [hv]; exact hm)) (by kas_types)) ?_
  · have e : dl (lim W m).reverse = (dl (lim W m)).reverse := by simp [dl]
    rw [e]
    unfold numSt nat
    kp_flats
  · intro acc d ha
    unfold numSt
    krn_off
    refine Exs.leR Exs.nil ?_
    k_clsL
  · rw [hv]
    unfold numSt
    refine ExsR.ret ?_
    kp_flats
/- _law_mul, _law_divrem -/
local macro_rules | `(tactic| mem_news) => `(tactic| first
  | assumption
  | (refine' spec_law_number ?a ?b ?c; (case a => kcj_in); (case b => kcj_in); (case c => kcj_in))
  | (refine' spec_law_limbs ?a ?b ?c; (case a => kcj_in); (case b => kcj_in); (case c => kcj_in)))
theorem spec_law_mul {W x y : Nat} (hW : 1 ≤ W) (hW9 : W ≤ 9) (hx : x ≤ 1000000) (hy : y ≤ 1000000) (hxy : x * y ≤ 1000000) : Spec (GG w mean mg mb) 212 2 [nat W x, nat W y, .int (W : Int)] (nat W (x * y)) := by
  k_offL
  refine ExsR.ret ?_
  kp_flats
theorem spec_law_divrem {W x y : Nat} (hW : 1 ≤ W) (hW9 : W ≤ 9) (hx : x ≤ 1000000) (hy : y ≤ 1000000) (hy0 : 0 < y) : Spec (GG w mean mg mb) 219 2 [nat W x, nat W y, .int (W : Int)] (.tup [nat W (x / y), nat W (x % y)]) := by
  have h1 : x / y ≤ x := Nat.div_le_self _ _
  have h2 : x % y < y := Nat.mod_lt _ hy0
  k_offL
  kba_ints
  refine ExsR.ret ?_
  kp_flats
end
section
/- normal -/
def normSt (ds : List Nat) (e : Nat) : St := ⟨[(Str.ofString "a", .list (dl ds)), (Str.ofString "end", .int (e : Int))], none, []⟩
def strip (ds : List Nat) : Nat → Nat
  | 0 => 0
  | e + 1 => if ds[e]? = some 0 then strip ds e else e + 1
theorem strip_le (ds : List Nat) : ∀ e, strip ds e ≤ e
  | 0 => Nat.le_refl _
  | e + 1 => by
    unfold strip
    split
    · have := strip_le ds e; omega
    · exact Nat.le_refl _
theorem strip_val (B : Nat) (ds : List Nat) : ∀ e, e ≤ ds.length → val B (ds.take (strip ds e)) = val B (ds.take e)
  | 0, _ => rfl
  | e + 1, h => by
    unfold strip
    split
    · rename_i h0
      rw [strip_val B ds e (by omega), List.take_add_one, h0, val_append]
      simp [val]
    · rfl
theorem strip_last (ds : List Nat) : ∀ e, e ≤ ds.length → strip ds e = 0 ∨ ∃ d, ds[strip ds e - 1]? = some d ∧ d ≠ 0
  | 0, _ => .inl rfl
  | e + 1, h => by
    unfold strip
    split
    · exact strip_last ds e (by omega)
    · rename_i h0
      right
      have : ds[e]? = some ds[e] := List.getElem?_eq_getElem (by omega)
      exact ⟨ds[e], by simpa using this, fun q => h0 (by rw [this, q])⟩
theorem val_top {B : Nat} (hB : 1 ≤ B) {pre : List Nat} {d : Nat} (h : d ≠ 0) : B ^ pre.length ≤ val B (pre ++ [d]) := by
  rw [val_append]
  have : 1 ≤ val B [d] := by simp [val]; omega
  calc B ^ pre.length = B ^ pre.length * 1 := (Nat.mul_one _).symm
    _ ≤ B ^ pre.length * val B [d] := Nat.mul_le_mul_left _ this
    _ ≤ _ := Nat.le_add_left _ _
theorem strip_lim {W : Nat} (hW : 1 ≤ W) {ds : List Nat} (h : ∀ d ∈ ds, d < 2 ^ W) : ds.take (strip ds ds.length) = lim W (val (2 ^ W) ds) := by
  have hv := strip_val (2 ^ W) ds ds.length (Nat.le_refl _)
  rw [List.take_length] at hv
  rw [← hv]
  refine lim_uniq hW _ (fun d hd => h d (List.mem_of_mem_take hd)) ?_
  rcases strip_last ds ds.length (Nat.le_refl _) with h0 | ⟨d, h1, h2⟩
  · left; rw [h0]; rfl
  · right
    have hle := strip_le ds ds.length
    have hpos : 0 < strip ds ds.length := by
      rcases Nat.eq_zero_or_pos (strip ds ds.length) with q | q
      · exfalso
        rw [q] at h1
        have hv0 : val (2 ^ W) ds = 0 := by rw [← hv, q]; rfl
        have hlt := (List.getElem?_eq_some_iff.mp h1).1
        cases ds with
        | nil => simp at hlt
        | cons e r =>
          simp at h1
          subst h1
          simp [val] at hv0
          omega
      · exact q
    obtain ⟨k, hk⟩ : ∃ k, strip ds ds.length = k + 1 := ⟨_ - 1, (Nat.sub_add_cancel hpos).symm⟩
    rw [hk] at h1 hle ⊢
    simp only [Nat.add_sub_cancel] at h1
    rw [List.take_add_one, h1]
    have hl : (ds.take k).length = k := by rw [List.length_take]; omega
    have := val_top (B := 2 ^ W) (by have := two_le_pow hW; omega) (pre := ds.take k) h2
    rw [hl] at this
    simpa [hl] using this
theorem norm_loop {G : Glb} {n : Nat} {cs : Scope} {t : Expr} {body : List Stmt} {ds : List Nat} (h0 : Tst G n cs (normSt ds 0) t false) (h1 : ∀ e d, ds[e]? = some d → Tst G n cs (normSt ds (e + 1)) t (decide (d = 0)))
    (hb : ∀ e, Exs G n cs (normSt ds (e + 1)) body .next (normSt ds e)) : ∀ e, e ≤ ds.length → ∃ k, LoopW G n cs t body k (normSt ds e) (normSt ds (strip ds e))
  | 0, _ => ⟨0, .stop h0⟩
  | e + 1, h => by
    have hd : ds[e]? = some ds[e] := List.getElem?_eq_getElem (by omega)
    have ht := h1 e _ hd
    unfold strip
    by_cases hz : ds[e] = 0
    · rw [if_pos (by rw [hd, hz])]
      obtain ⟨k, hk⟩ := norm_loop h0 h1 hb e (by omega)
      rw [decide_eq_true hz] at ht
      exact ⟨k + 1, .turn ht (hb e) hk⟩
    · rw [if_neg (by rw [hd]; intro q; exact hz (Option.some.inj q))]
      rw [decide_eq_false hz] at ht
      exact ⟨0, .stop ht⟩
theorem spec_normal {W : Nat} (hW : 1 ≤ W) {ds : List Nat} (h : ∀ d ∈ ds, d < 2 ^ W) (hl : ds.length ≤ 1000000) : Spec (GG w mean mg mb) 58 1 [.list (dl ds)] (nat W (val (2 ^ W) ds)) := by
  have hs := strip_le ds ds.length
  k_offL
  krn_off
  refine ExsR.le (σ₂ := normSt ds ds.length) (by k_clsL) ?_
  refine ExsR.cons (Ex.while' (norm_loop ?_ ?_ ?_ ds.length (Nat.le_refl _))) ?_
  · unfold normSt
    refine Tst.conv (b := false && true) (Tst.boolop (TstW.and ?_ (fun e => nomatch e))) rfl
    refine Tst.conv (b := decide ((0 : Int) < ((0 : Nat) : Int))) ?_ rfl
    nest_cls
  · intro e d hd
    have he : e < ds.length := (List.getElem?_eq_some_iff.mp hd).1
    unfold normSt
    refine Tst.conv (b := true && (decide (d = 0) && true)) (Tst.boolop (TstW.and ?_ fun _ => TstW.and ?_ fun _ => TstW.and_nil)) (by simp)
    · refine Tst.conv (b := decide ((0 : Int) < ((e + 1 : Nat) : Int))) ?_ (decide_eq_true (by omega))
      nest_cls
    · refine Tst.conv (b := ((d : Int) == 0)) ?_ (by by_cases q : d = 0 <;> simp [q])
      refine Tst.eq ?_ Ev.int rfl
      exact Ev.dget (by kp_flats) (by kp_flats) (by simp) hd (by omega) (by kas_types)
  · intro e
    unfold normSt
    refine' Exs.cons (Ex.isub ?a ?b ?c ?d) ?e
    case a => rfl
    case b => exact Ev.int
    case c => rfl
    case d => rfl
    refine Exs.leR Exs.nil ⟨?_, rfl, rfl⟩
    refine List.forall_mem_cons.mpr ⟨rfl, List.forall_mem_cons.mpr ⟨?_, List.forall_mem_nil _⟩⟩
    show some (D.int (((e + 1 : Nat) : Int) - 1)) = some (D.int (e : Int))
    congr 2
    omega
  · unfold normSt
    refine ExsR.conv (d := .list ((dl ds).take (strip ds ds.length))) (ExsR.ret ?_) ?_
    · exact Ev.upto (by kp_flats) (by kp_flats) rfl (by rw [dl_length]; exact hl) (fun _ _ => ⟨_, rfl⟩)
    · rw [dl_take, strip_lim hW h]; rfl
end
section
/- compare -/
def downFind (P : Nat → Bool) : Nat → Option Nat
  | 0 => none
  | k + 1 => if P k then some k else downFind P k
def downDs (k : Nat) : List D := rangeDs ((k : Int) - 1) (-1) k
theorem downDs_succ (k : Nat) : downDs (k + 1) = .int (k : Int) :: downDs k := by
  unfold downDs rangeDs
  rw [List.range_succ_eq_map, List.map_cons, List.map_map]
  congr 1
  · congr 1; omega
  · apply List.map_congr_left
    intro i _
    show D.int _ = D.int _
    congr 1
    push_cast
    omega
theorem down_loop {G : Glb} {n : Nat} {cs : Scope} {x : Str} {body : List Stmt} {S : St} {L : Nat} {P : Nat → Bool} {c : Nat → D} (ho : S.ownNot x = true)
    (h1 : ∀ i, i < L → P i = true → ∃ σ₁, Exs G n cs (S.set x (.int (i : Int))) body (.ret (c i)) σ₁) (h2 : ∀ i, i < L → P i = false → Exs G n cs (S.set x (.int (i : Int))) body .next S) :
    ∀ k, k ≤ L → (∀ i, downFind P k = some i → ∃ σ', LoopL G n cs x body S (downDs k) (.ret (c i)) σ') ∧ (downFind P k = none → LoopL G n cs x body S (downDs k) .next S)
  | 0, _ => ⟨fun i h => by simp [downFind] at h, fun _ => .nil⟩
  | k + 1, h => by
    have ih := down_loop ho h1 h2 k (by omega)
    rw [downDs_succ]
    unfold downFind
    cases hp : P k with
    | true =>
      simp only [if_true]
      refine ⟨fun i hi => ?_, fun hi => by cases hi⟩
      cases hi
      obtain ⟨σ₁, hσ⟩ := h1 k (by omega) hp
      exact ⟨σ₁, .ret ho hσ⟩
    | false =>
      simp only [Bool.false_eq_true, if_false]
      refine ⟨fun i hi => ?_, fun hi => .cons ho (h2 k (by omega) hp) (ih.2 hi)⟩
      obtain ⟨σ', hσ⟩ := ih.1 i hi
      exact ⟨σ', .cons ho (h2 k (by omega) hp) hσ⟩
theorem ExsR.forDown {G : Glb} {n : Nat} {cs : Scope} {x rn : Str} {e : Expr} {es : List Expr} {body rest : List Stmt} {px pr pc pos : Pos} {S : St} {L : Nat} (P : Nat → Bool) (c : Nat → D) {r0 r : D} (hi : EvL G n cs S (e :: es) [.int ((L : Int) - 1), .int (-1), .int (-1)]) (hL : L ≤ 1000000) (hk : cs.names.lookup x = some .local)
    (hrn : rn = Str.ofString "range") (hg : nsIn G.K mainGlobals rn = some none) (hkr : cs.names.lookup rn = some .globalImplicit) (ho : S.ownNot x = true)
    (h1 : ∀ i, i < L → P i = true → ∃ σ₁, Exs G n cs (S.set x (.int (i : Int))) body (.ret (c i)) σ₁) (h2 : ∀ i, i < L → P i = false → Exs G n cs (S.set x (.int (i : Int))) body .next S)
    (hr : ExsR G n cs S rest r0) (hres : r = (match downFind P L with | some i => c i | none => r0))
    (he : ∀ env, starEach (e :: es) env = (false, eval e env) :: starEach es env) (hplain : ∀ env, (backTo pc (starEach es env)).any (·.1) = false)
    (hc : ∀ env, eval (.Call (.Name rn pr) (e :: es) [] pc) env = (do callWith pc (← eval (.Name rn pr) env) [] (backTo pc (starEach (e :: es) env)) (backToKw pc (keywordEach [] env))))
    (hs : ∀ env v, foldedSetIterable (.Call (.Name rn pr) (e :: es) [] pc) env v = pure v) : ExsR G n cs S (.For (.Name x px) (.Call (.Name rn pr) (e :: es) [] pc) body [] pos :: rest) r := by
  have hra : RangeArgs [.int ((L : Int) - 1), .int (-1), .int (-1)] ((L : Int) - 1) (-1) (-1) L := by
    have h := RangeArgs.down (a := (L : Int) - 1) (b := -1) (by omega) (by omega) (by omega) (by omega)
    have e1 : (((L : Int) - 1) - -1).toNat = L := by omega
    rwa [e1] at h
  have hl := down_loop ho h1 h2 L (Nat.le_refl _)
  rw [hres]
  cases hf : downFind P L with
  | some i =>
    obtain ⟨σ', h⟩ := hl.1 i hf
    exact ExsR.stop ⟨σ', Ex.forRange hi hra hk hrn hg hkr h he hplain hc hs⟩
  | none => exact ExsR.cons (Ex.forRange hi hra hk hrn hg hkr (hl.2 hf) he hplain hc hs) hr

def cmpZ (x y : Int) : Int := if x < y then -1 else if x = y then 0 else 1
theorem val_lt_of {W : Nat} (hW : 1 ≤ W) {x y : Nat} (h : (lim W x).length < (lim W y).length) : x < y := by
  have hy : 0 < y := (lim_len_pos hW).mp (by omega)
  calc x < (2 ^ W) ^ (lim W x).length := lim_high hW x
    _ ≤ (2 ^ W) ^ ((lim W y).length - 1) := Nat.pow_le_pow_right (by have := two_le_pow hW; omega) (by omega)
    _ ≤ y := lim_low hW y hy
theorem downFind_none {P : Nat → Bool} : ∀ k, downFind P k = none → ∀ i, i < k → P i = false
  | k + 1, h, i, hi => by
    unfold downFind at h
    cases hp : P k with
    | true => rw [hp] at h; simp at h
    | false =>
      rw [hp] at h
      simp only [Bool.false_eq_true, if_false] at h
      by_cases q : i = k
      · subst q; exact hp
      · exact downFind_none k h i (by omega)
theorem downFind_some {P : Nat → Bool} : ∀ k j, downFind P k = some j → j < k ∧ P j = true ∧ ∀ i, j < i → i < k → P i = false
  | k + 1, j, h => by
    unfold downFind at h
    cases hp : P k with
    | true =>
      rw [hp] at h
      simp only [if_true] at h
      cases h
      exact ⟨by omega, hp, fun i h1 h2 => by omega⟩
    | false =>
      rw [hp] at h
      simp only [Bool.false_eq_true, if_false] at h
      obtain ⟨h1, h2, h3⟩ := downFind_some k j h
      refine ⟨by omega, h2, fun i q1 q2 => ?_⟩
      by_cases q : i = k
      · subst q; exact hp
      · exact h3 i q1 (by omega)
theorem digit_lt {B : Nat} {a b : List Nat} {j : Nat} {p q : Nat} (ha : ∀ d ∈ a, d < B) (hB : 2 ≤ B) (hl : a.length = b.length) (hp : a[j]? = some p) (hq : b[j]? = some q) (htop : a.drop (j + 1) = b.drop (j + 1)) (hlt : p < q) : val B a < val B b := by
  have hj := (List.getElem?_eq_some_iff.mp hp).1
  have hj' := (List.getElem?_eq_some_iff.mp hq).1
  have ea : a = a.take j ++ p :: a.drop (j + 1) := by
    have h1 := List.take_append_drop j a
    rw [List.drop_eq_getElem_cons hj, List.getElem_eq_getElem?_get] at h1
    simp only [hp, Option.get_some] at h1
    exact h1.symm
  have eb : b = b.take j ++ q :: b.drop (j + 1) := by
    have h1 := List.take_append_drop j b
    rw [List.drop_eq_getElem_cons hj', List.getElem_eq_getElem?_get] at h1
    simp only [hq, Option.get_some] at h1
    exact h1.symm
  have va : val B a = val B (a.take j) + B ^ j * (p + B * val B (a.drop (j + 1))) := by
    conv => lhs; rw [ea]
    rw [val_append, val, List.length_take, Nat.min_eq_left (by omega)]
  have vb : val B b = val B (b.take j) + B ^ j * (q + B * val B (b.drop (j + 1))) := by
    conv => lhs; rw [eb]
    rw [val_append, val, List.length_take, Nat.min_eq_left (by omega)]
  have hlow : val B (a.take j) < B ^ j := by
    have := val_lt hB (a.take j) fun d hd => ha d (List.mem_of_mem_take hd)
    rwa [List.length_take, Nat.min_eq_left (by omega)] at this
  rw [va, vb, ← htop]
  generalize val B (a.drop (j + 1)) = T
  have h2 : B ^ j * (p + B * T) + B ^ j ≤ B ^ j * (q + B * T) := by
    calc B ^ j * (p + B * T) + B ^ j = B ^ j * (p + B * T + 1) := (Nat.mul_succ _ _).symm
      _ ≤ B ^ j * (q + B * T) := Nat.mul_le_mul_left _ (by omega)
  omega
def cmpAt (a b : List Nat) (i : Nat) : D := .int (if a.getD i 0 < b.getD i 0 then -1 else 1)
theorem cmp_right {W : Nat} (hW : 1 ≤ W) {x y : Nat} (hl : (lim W x).length = (lim W y).length) :
    D.int (cmpZ x y) = (match downFind (fun i => decide ((lim W x).getD i 0 ≠ (lim W y).getD i 0)) (lim W x).length with | some i => cmpAt (lim W x) (lim W y) i | none => .int 0) := by
  have hB := two_le_pow hW
  cases hf : downFind (fun i => decide ((lim W x).getD i 0 ≠ (lim W y).getD i 0)) (lim W x).length with
  | none =>
    have h := downFind_none _ hf
    have e : lim W x = lim W y := by
      apply List.ext_getElem hl
      intro i h1 h2
      have := h i h1
      simpa [List.getD, List.getElem?_eq_getElem h1, List.getElem?_eq_getElem h2] using this
    have : x = y := by rw [← val_lim hW x, ← val_lim hW y, e]
    subst this
    simp [cmpZ]
  | some j =>
    obtain ⟨h1, h2, h3⟩ := downFind_some _ _ hf
    have hj2 : j < (lim W y).length := by omega
    have gx : (lim W x)[j]? = some (lim W x)[j] := List.getElem?_eq_getElem h1
    have gy : (lim W y)[j]? = some (lim W y)[j] := List.getElem?_eq_getElem hj2
    have dx : (lim W x).getD j 0 = (lim W x)[j] := by simp [List.getD, gx]
    have dy : (lim W y).getD j 0 = (lim W y)[j] := by simp [List.getD, gy]
    have htop : (lim W x).drop (j + 1) = (lim W y).drop (j + 1) := by
      apply List.ext_getElem (by simp; omega)
      intro i q1 q2
      simp only [List.length_drop] at q1 q2
      have := h3 (j + 1 + i) (by omega) (by omega)
      simpa [List.getD, List.getElem?_eq_getElem (show j + 1 + i < (lim W x).length by omega), List.getElem?_eq_getElem (show j + 1 + i < (lim W y).length by omega)] using this
    simp only [dx, dy, decide_eq_true_eq] at h2
    show _ = cmpAt _ _ _
    unfold cmpAt
    rw [dx, dy]
    by_cases hlt : (lim W x)[j] < (lim W y)[j]
    · have := digit_lt (lim_lt hW x) hB hl gx gy htop hlt
      rw [val_lim hW, val_lim hW] at this
      rw [if_pos hlt]
      unfold cmpZ
      rw [if_pos (by omega)]
    · have := digit_lt (lim_lt hW y) hB hl.symm gy gx htop.symm (by omega)
      rw [val_lim hW, val_lim hW] at this
      rw [if_neg hlt]
      unfold cmpZ
      rw [if_neg (by omega), if_neg (by omega)]
theorem spec_compare {W x y : Nat} (hW : 1 ≤ W) (hx : x ≤ 1000000) (hy : y ≤ 1000000) : Spec (GG w mean mg mb) 65 1 [nat W x, nat W y] (.int (cmpZ x y)) := by
  have hlx := lim_length_le hW x
  have hly := lim_length_le hW y
  k_offL
  have hne : ∀ {cs : Scope} {t : Expr} {σ : St}, Tst (GG w mean mg mb) 0 cs σ t (((lim W x).length : Int) != ((lim W y).length : Int)) → Tst (GG w mean mg mb) 0 cs σ t (decide ((lim W x).length ≠ (lim W y).length)) := fun h => h.conv (by
    by_cases q : (lim W x).length = (lim W y).length
    · simp [q]
    · have : ((lim W x).length : Int) ≠ ((lim W y).length : Int) := by omega
      simp [q, this])
  by_cases hl : (lim W x).length = (lim W y).length
  · refine ExsR.ifF (Tst.conv (hne ?_) (decide_eq_false (by simpa using hl))) ?_
    · unfold nat; nest_cls
    · refine ExsR.forDown (L := (lim W x).length) (fun i => decide ((lim W x).getD i 0 ≠ (lim W y).getD i 0)) (cmpAt (lim W x) (lim W y)) (r0 := .int 0) ?_ (by omega) (by rfl) (by rfl) (by lsm_bools) (by rfl) (by rfl) ?_ ?_ ?_ (cmp_right hW hl) (by kas_types) (by kas_types) (by kas_types) (by kas_types)
      · unfold nat; kat_tups
      · intro i hi hp
        have gx : (lim W x)[i]? = some (lim W x)[i] := List.getElem?_eq_getElem hi
        have gy : (lim W y)[i]? = some ((lim W y)[i]'(by omega)) := List.getElem?_eq_getElem (by omega)
        have dx : (lim W x).getD i 0 = (lim W x)[i] := by simp [List.getD, gx]
        have dy : (lim W y).getD i 0 = (lim W y)[i]'(by omega) := by simp [List.getD, gy]
        simp only [dx, dy, decide_eq_true_eq] at hp
        refine (ExsR.ifT (Tst.conv (Tst.ne (Ev.dget (by unfold nat; kp_flats) (by kp_flats) rfl gx (by omega) (by kas_types)) (Ev.dget (by unfold nat; kp_flats) (by kp_flats) rfl gy (by omega) (by kas_types)) rfl) (by simp; omega)) (ExsR.conv (ExsR.ret (Ev.ifexp (Tst.lt (Ev.dget (by unfold nat; kp_flats) (by kp_flats) rfl gx (by omega) (by kas_types)) (Ev.dget (by unfold nat; kp_flats) (by kp_flats) rfl gy (by omega) (by kas_types)) rfl) (fun h => ?_) fun h => ?_)) rfl)).ex
        · refine Ev.conv (d := .int (-1)) ?_ (by unfold cmpAt; rw [dx, dy, if_pos (by simpa using h)])
          kp_flats
        · refine Ev.conv (d := .int 1) ?_ (by unfold cmpAt; rw [dx, dy, if_neg (by simpa using h)])
          kp_flats
      · intro i hi hp
        have gx : (lim W x)[i]? = some (lim W x)[i] := List.getElem?_eq_getElem hi
        have gy : (lim W y)[i]? = some ((lim W y)[i]'(by omega)) := List.getElem?_eq_getElem (by omega)
        have dx : (lim W x).getD i 0 = (lim W x)[i] := by simp [List.getD, gx]
        have dy : (lim W y).getD i 0 = (lim W y)[i]'(by omega) := by simp [List.getD, gy]
        simp only [dx, dy, decide_eq_false_iff_not, ne_eq, Decidable.not_not] at hp
        refine Exs.cons (Ex.ite (Tst.conv (Tst.ne (Ev.dget (by unfold nat; kp_flats) (by kp_flats) rfl gx (by omega) (by kas_types)) (Ev.dget (by unfold nat; kp_flats) (by kp_flats) rfl gy (by omega) (by kas_types)) rfl) (b := _) (c := false) (by simp; omega)) (fun e => nomatch e) (fun _ => Exs.leR Exs.nil ?_)) Exs.nil
        k_clsL
      · refine ExsR.ret ?_
        kp_flats
  · refine ExsR.ifT (Tst.conv (hne ?_) (decide_eq_true hl)) ?_
    · unfold nat; nest_cls
    · by_cases hlt : (lim W x).length < (lim W y).length
      · have := val_lt_of hW hlt
        refine ExsR.conv (d := .int (-1)) (ExsR.ret (Ev.ifT (Tst.conv (b := decide (((lim W x).length : Int) < ((lim W y).length : Int))) ?_ (decide_eq_true (by omega))) ?_)) (by unfold cmpZ; rw [if_pos (by omega)])
        · unfold nat; nest_cls
        · kp_flats
      · have := val_lt_of hW (x := y) (y := x) (by omega)
        refine ExsR.conv (d := .int 1) (ExsR.ret (Ev.ifF (Tst.conv (b := decide (((lim W x).length : Int) < ((lim W y).length : Int))) ?_ (decide_eq_false (by omega))) ?_)) (by unfold cmpZ; rw [if_neg (by omega), if_neg (by omega)])
        · unfold nat; nest_cls
        · kp_flats
end
section
/- add -/
def addS (c0 : Nat) (A B : List Nat) (W : Nat) : Nat → Nat × List Nat
  | 0 => (c0, [])
  | i + 1 => (((addS c0 A B W i).1 + A.getD i 0 + B.getD i 0) / 2 ^ W, (addS c0 A B W i).2 ++ [((addS c0 A B W i).1 + A.getD i 0 + B.getD i 0) % 2 ^ W])
theorem addS_inv {c0 : Nat} {A B : List Nat} {W : Nat} (hc0 : c0 ≤ 1) (hW : 1 ≤ W) (hA : ∀ d ∈ A, d < 2 ^ W) (hB : ∀ d ∈ B, d < 2 ^ W) : ∀ i, (addS c0 A B W i).1 ≤ 1 ∧ (addS c0 A B W i).2.length = i ∧ (∀ d ∈ (addS c0 A B W i).2, d < 2 ^ W) ∧ (i ≤ A.length → val (2 ^ W) (addS c0 A B W i).2 + (addS c0 A B W i).1 * (2 ^ W) ^ i = c0 + val (2 ^ W) (A.take i) + val (2 ^ W) (B.take i))
  | 0 => ⟨by simpa [addS] using hc0, rfl, by simp [addS], fun _ => by simp [addS, val]⟩
  | i + 1 => by
    obtain ⟨h1, h2, h3, h4⟩ := addS_inv hc0 hW hA hB i
    have hp := two_le_pow hW
    have ga : A.getD i 0 < 2 ^ W := by
      rw [List.getD_eq_getElem?_getD]
      cases h : A[i]? with
      | none => simp; omega
      | some d => exact hA d (List.mem_of_getElem? h)
    have gb : B.getD i 0 < 2 ^ W := by
      rw [List.getD_eq_getElem?_getD]
      cases h : B[i]? with
      | none => simp; omega
      | some d => exact hB d (List.mem_of_getElem? h)
    have ht : ∀ l : List Nat, val (2 ^ W) (l.take (i + 1)) = val (2 ^ W) (l.take i) + (2 ^ W) ^ i * l.getD i 0 := by
      intro l
      rw [List.take_add_one, val_append, List.getD_eq_getElem?_getD]
      by_cases hi : i < l.length
      · rw [List.getElem?_eq_getElem hi, List.length_take, Nat.min_eq_left (by omega)]
        simp [val]
      · rw [List.getElem?_eq_none (by omega)]
        simp [val]
    unfold addS
    refine ⟨?_, by simp [h2], ?_, fun hi => ?_⟩
    · have : (addS c0 A B W i).1 + A.getD i 0 + B.getD i 0 < 2 * 2 ^ W := by omega
      have := (Nat.div_lt_iff_lt_mul (by omega : 0 < 2 ^ W)).mpr this
      show _ / 2 ^ W ≤ 1
      omega
    · intro d hd
      rcases List.mem_append.mp hd with hd | hd
      · exact h3 d hd
      · rw [List.mem_singleton.mp hd]; exact Nat.mod_lt _ (by omega)
    · have h4' := h4 (by omega)
      rw [ht, ht, val_append, h2]
      simp only [val, Nat.mul_zero, Nat.add_zero]
      generalize (addS c0 A B W i).1 = c at *
      generalize A.getD i 0 = p at *
      generalize B.getD i 0 = q at *
      have hdm := Nat.div_add_mod (c + p + q) (2 ^ W)
      generalize (c + p + q) / 2 ^ W = Q at *
      generalize (c + p + q) % 2 ^ W = R at *
      rw [Nat.pow_succ]
      have e1 : Q * ((2 ^ W) ^ i * 2 ^ W) = (2 ^ W) ^ i * (2 ^ W * Q) := by rw [Nat.mul_comm Q, Nat.mul_assoc]
      have e2 : (2 ^ W) ^ i * R + (2 ^ W) ^ i * (2 ^ W * Q) = (2 ^ W) ^ i * c + (2 ^ W) ^ i * p + (2 ^ W) ^ i * q := by
        rw [← Nat.mul_add, ← Nat.mul_add, ← Nat.mul_add, Nat.add_comm R, hdm]
      rw [Nat.mul_comm c] at h4'
      rw [e1]
      omega
theorem addS_end {c0 W x y : Nat} (hc0 : c0 ≤ 1) (hW : 1 ≤ W) (h : (lim W y).length ≤ (lim W x).length) :
    (addS c0 (lim W x) (lim W y) W (lim W x).length).2 ++ (if 0 < (addS c0 (lim W x) (lim W y) W (lim W x).length).1 then [(addS c0 (lim W x) (lim W y) W (lim W x).length).1] else []) = lim W (c0 + x + y) := by
  have hp := two_le_pow hW
  obtain ⟨h1, h2, h3, h4⟩ := addS_inv hc0 hW (lim_lt hW x) (lim_lt hW y) (lim W x).length
  have h5 := h4 (Nat.le_refl _)
  rw [List.take_length, List.take_of_length_le h, val_lim hW, val_lim hW] at h5
  generalize (addS c0 (lim W x) (lim W y) W (lim W x).length).1 = c at *
  generalize (addS c0 (lim W x) (lim W y) W (lim W x).length).2 = F at *
  by_cases hc : 0 < c
  · have : c = 1 := by omega
    subst this
    rw [if_pos (by decide)]
    have hv : val (2 ^ W) (F ++ [1]) = c0 + x + y := by
      rw [val_append, h2]; simp [val]; omega
    have := lim_uniq hW (F ++ [1]) (by
      intro d hd
      rcases List.mem_append.mp hd with hd | hd
      · exact h3 d hd
      · rw [List.mem_singleton.mp hd]; omega) (.inr (by
        have := val_top (B := 2 ^ W) (by omega) (pre := F) (d := 1) (by decide)
        simpa using this))
    rw [this, hv]
  · rw [if_neg hc, List.append_nil]
    have : c = 0 := by omega
    subst this
    have hv : val (2 ^ W) F = c0 + x + y := by omega
    have := lim_uniq hW F h3 (by
      by_cases hx : x = 0
      · left
        subst hx
        rw [lim_zero] at h2
        exact List.eq_nil_of_length_eq_zero h2
      · right
        rw [h2, hv]
        have := lim_low hW x (by omega)
        omega)
    rw [this, hv]
def addSt (W x y c : Nat) (F : List Nat) : St := ⟨[(Str.ofString "a", nat W x), (Str.ofString "b", nat W y), (Str.ofString "w", .int (W : Int)), (Str.ofString "carry", .int (c : Int)), (Str.ofString "mask", .int (((2 ^ W : Nat) : Int) - 1))], some (Str.ofString "found", dl F), []⟩
def addA (W x y i : Nat) : St := addSt W x y (addS 0 (lim W x) (lim W y) W i).1 (addS 0 (lim W x) (lim W y) W i).2
theorem swap_front {G : Glb} {n : Nat} {cs : Scope} {t : Expr} {b1 rest : List Stmt} {pos : Pos} {W x y : Nat} {S : Nat → Nat → St} (hx : x ≤ 1000000) (hy : y ≤ 1000000) (ht : Tst G n cs (S x y) t (decide ((lim W x).length < (lim W y).length))) (hs : Exs G n cs (S x y) b1 .next (S y x))
    (hr : ∀ x y, x ≤ 1000000 → y ≤ 1000000 → (lim W y).length ≤ (lim W x).length → ExsR G n cs (S x y) rest (nat W (x + y))) : ExsR G n cs (S x y) (.If t b1 [] pos :: rest) (nat W (x + y)) := by
  by_cases h : (lim W x).length < (lim W y).length
  · rw [decide_eq_true h] at ht
    rw [Nat.add_comm x y]
    exact ExsR.if1 ht hs (hr y x hy hx (by omega))
  · rw [decide_eq_false h] at ht
    exact ExsR.ifF ht (hr x y hx hy (by omega))
theorem ExsR.conv' {G : Glb} {n : Nat} {cs : Scope} {σ : St} {b : List Stmt} {d d' : D} (e : d = d') (h : ExsR G n cs σ b d) : ExsR G n cs σ b d' := e ▸ h
def abSt (W x y : Nat) : St := ⟨[(Str.ofString "a", nat W x), (Str.ofString "b", nat W y), (Str.ofString "w", .int (W : Int))], none, []⟩
theorem getD_some {l : List Nat} {i : Nat} (h : i < l.length) : l[i]? = some (l.getD i 0) := by simp [List.getD, List.getElem?_eq_getElem h]
theorem getD_none {l : List Nat} {i : Nat} (h : l.length ≤ i) : l.getD i 0 = 0 := by simp [List.getD, List.getElem?_eq_none h]
theorem spec_add {W x y : Nat} (hW : 1 ≤ W) (hW9 : W ≤ 9) (hx : x ≤ 1000000) (hy : y ≤ 1000000) : Spec (GG w mean mg mb) 72 1 [nat W x, nat W y, .int (W : Int)] (nat W (x + y)) := by
  k_offL
  refine swap_front (S := abSt W) hx hy (Tst.conv (b := decide (((lim W x).length : Int) < ((lim W y).length : Int))) ?_ (by by_cases q : (lim W x).length < (lim W y).length <;> simp [q])) ?_ ?_
  · have hlx := lim_length_le hW x
    have hly := lim_length_le hW y
    unfold abSt nat; nest_cls
  · unfold abSt
    kba_ints
    refine Exs.leR Exs.nil ?_
    k_clsL
  · clear hx hy x y
    intro x y hx hy hl
    have hlx := lim_length_le hW x
    have hly := lim_length_le hW y
    have hE := addS_end (c0 := 0) (by decide) hW hl
    rw [Nat.zero_add] at hE
    unfold abSt
    kba_ints
    refine ExsR.le (σ₂ := addA W x y 0) (by k_clsL) ?_
    have step : ∀ (i p q : Nat), (lim W x).getD i 0 = p → (lim W y).getD i 0 = q → addA W x y (i + 1) = addSt W x y (((addS 0 (lim W x) (lim W y) W i).1 + (p + q)) / 2 ^ W) ((addS 0 (lim W x) (lim W y) W i).2 ++ [((addS 0 (lim W x) (lim W y) W i).1 + (p + q)) % 2 ^ W]) := by
      intro i p q hp hq
      unfold addA
      rw [addS, hp, hq, Nat.add_assoc]
    have hlen : ∀ i, (addS 0 (lim W x) (lim W y) W i).2.length = i := fun i => (addS_inv (by decide) hW (lim_lt hW x) (lim_lt hW y) i).2.1
    have r0 : RangeArgs [.int ((lim W y).length : Int)] 0 ((lim W y).length : Int) 1 (lim W y).length := by
      have h := RangeArgs.one (b := ((lim W y).length : Int)) (by omega) (by omega)
      simpa using h
    have r1 : RangeArgs [.int ((lim W y).length : Int), .int ((lim W x).length : Int)] ((lim W y).length : Int) ((lim W x).length : Int) 1 ((lim W x).length - (lim W y).length) := by
      have h := RangeArgs.two (a := ((lim W y).length : Int)) (b := ((lim W x).length : Int)) (by omega) (by omega) (by omega) (by omega)
      have e : (((lim W x).length : Int) - ((lim W y).length : Int)).toNat = (lim W x).length - (lim W y).length := by omega
      rwa [e] at h
    refine ExsR.cons (Ex.forRange (σ' := addA W x y (lim W y).length) ?_ r0 (by rfl) (by rfl) (by lsm_bools) (by rfl) (range_from (addA W x y) 0 (lim W y).length (Nat.zero_le _) (fun _ => rfl) ?_) (by kas_types) (by kas_types) (by kas_types) (by kas_types)) ?_
    · unfold addA addSt nat; kat_tups
    · intro i _ hi
      have g1 : (lim W x)[i]? = some ((lim W x).getD i 0) := getD_some (by omega)
      have g2 : (lim W y)[i]? = some ((lim W y).getD i 0) := getD_some (by omega)
      have hli := hlen i
      rw [step i _ _ rfl rfl]
      unfold addA addSt
      k_subL
      tlg_ne
      k_subL
      refine Exs.leR Exs.nil ?_
      rw [dl_append]
      k_clsL
    · refine ExsR.cons (Ex.forRange (σ' := addA W x y (lim W x).length) ?_ r1 (by rfl) (by rfl) (by lsm_bools) (by rfl) (range_from (addA W x y) (lim W y).length (lim W x).length hl (fun _ => rfl) ?_) (by kas_types) (by kas_types) (by kas_types) (by kas_types)) ?_
      · unfold addA addSt nat; kat_tups
      · intro i hi1 hi
        have g1 : (lim W x)[i]? = some ((lim W x).getD i 0) := getD_some (by omega)
        have hli := hlen i
        rw [step i _ 0 rfl (getD_none hi1), Nat.add_zero]
        unfold addA addSt
        k_subL
        tlg_ne
        k_subL
        refine Exs.leR Exs.nil ?_
        rw [dl_append]
        k_clsL
      · have hli := hlen (lim W x).length
        unfold nat
        rw [← hE]
        by_cases hc : 0 < (addS 0 (lim W x) (lim W y) W (lim W x).length).1
        · rw [if_pos hc, dl_append]
          refine ExsR.if1 (Tst.conv (b := decide ((0 : Int) < ((addS 0 (lim W x) (lim W y) W (lim W x).length).1 : Int))) ?_ (decide_eq_true (by omega))) (σ₁ := addSt W x y (addS 0 (lim W x) (lim W y) W (lim W x).length).1 ((addS 0 (lim W x) (lim W y) W (lim W x).length).2 ++ [(addS 0 (lim W x) (lim W y) W (lim W x).length).1])) ?_ ?_
          · unfold addA addSt; nest_cls
          · unfold addA addSt
            tlg_ne
            refine Exs.leR Exs.nil ?_
            rw [dl_append]
            k_clsL
          · unfold addSt
            rw [dl_append]
            refine ExsR.freeze (ExsR.ret ?_)
            kct_strs
        · rw [if_neg hc, List.append_nil]
          refine ExsR.ifF (Tst.conv (b := decide ((0 : Int) < ((addS 0 (lim W x) (lim W y) W (lim W x).length).1 : Int))) ?_ (decide_eq_false (by omega))) ?_
          · unfold addA addSt; nest_cls
          · unfold addA addSt
            refine ExsR.freeze (ExsR.ret ?_)
            kct_strs
end
section
/- add_limb -/
def limbSt (W x c : Nat) (F : List Nat) : St := ⟨[(Str.ofString "a", nat W x), (Str.ofString "limb", .int (c : Int)), (Str.ofString "w", .int (W : Int)), (Str.ofString "mask", .int (((2 ^ W : Nat) : Int) - 1))], some (Str.ofString "found", dl F), []⟩
def limbA (W x i : Nat) : St := limbSt W x (addS 1 (lim W x) (lim W 0) W i).1 (addS 1 (lim W x) (lim W 0) W i).2
theorem spec_add_limb {W x : Nat} (hW : 1 ≤ W) (hW9 : W ≤ 9) (hx : x ≤ 1000000) : Spec (GG w mean mg mb) 86 1 [nat W x, .int 1, .int (W : Int)] (nat W (x + 1)) := by
  have hlx := lim_length_le hW x
  have hE := addS_end (c0 := 1) (y := 0) (x := x) (by decide) hW (by simp [lim_zero])
  rw [show 1 + x + 0 = x + 1 from by omega] at hE
  have hlen : ∀ i, (addS 1 (lim W x) (lim W 0) W i).2.length = i := fun i => (addS_inv (by decide) hW (lim_lt hW x) (lim_lt hW 0) i).2.1
  have step : ∀ (i p : Nat), (lim W x).getD i 0 = p → limbA W x (i + 1) = limbSt W x (((addS 1 (lim W x) (lim W 0) W i).1 + p) / 2 ^ W) ((addS 1 (lim W x) (lim W 0) W i).2 ++ [((addS 1 (lim W x) (lim W 0) W i).1 + p) % 2 ^ W]) := by
    intro i p hp
    unfold limbA
    rw [addS, hp, lim_zero]
    simp only [List.getD_nil, Nat.add_zero]
  k_offL
  kba_ints
  refine ExsR.le (σ₂ := limbA W x 0) (by k_clsL) ?_
  have hll : (dl (lim W x)).length = (lim W x).length := dl_length _
  have hloop := fun cs body => list_loop (G := GG w mean mg mb) (n := 0) (cs := cs) (x := Str.ofString "one") (body := body) (limbA W x) (dl (lim W x)) (fun _ _ => rfl)
  rw [hll] at hloop
  refine ExsR.cons (Ex.forList (σ' := limbA W x (lim W x).length) (ds := dl (lim W x)) ?_ (by rfl) (hloop _ _ ?_) (by kas_types)) ?_
  · unfold limbA limbSt nat; kp_flats
  · intro i d hd
    have hi : i < (lim W x).length := by
      have := (List.getElem?_eq_some_iff.mp hd).1
      rwa [hll] at this
    have g1 : d = .int (((lim W x).getD i 0 : Nat) : Int) := by
      have := dl_get (getD_some hi)
      rw [hd] at this
      exact Option.some.inj this
    have hli := hlen i
    rw [step i _ rfl, g1]
    unfold limbA limbSt
    k_subL
    tlg_ne
    k_subL
    refine Exs.leR Exs.nil ?_
    rw [dl_append]
    k_clsL
  · have hli := hlen (lim W x).length
    unfold nat
    rw [← hE]
    by_cases hc : 0 < (addS 1 (lim W x) (lim W 0) W (lim W x).length).1
    · rw [if_pos hc, dl_append]
      refine ExsR.if1 (Tst.conv (b := decide ((0 : Int) < ((addS 1 (lim W x) (lim W 0) W (lim W x).length).1 : Int))) ?_ (decide_eq_true (by omega))) (σ₁ := limbSt W x (addS 1 (lim W x) (lim W 0) W (lim W x).length).1 ((addS 1 (lim W x) (lim W 0) W (lim W x).length).2 ++ [(addS 1 (lim W x) (lim W 0) W (lim W x).length).1])) ?_ ?_
      · unfold limbA limbSt; nest_cls
      · unfold limbA limbSt
        tlg_ne
        refine Exs.leR Exs.nil ?_
        rw [dl_append]
        k_clsL
      · unfold limbSt
        rw [dl_append]
        refine ExsR.freeze (ExsR.ret ?_)
        kct_strs
    · rw [if_neg hc, List.append_nil]
      refine ExsR.ifF (Tst.conv (b := decide ((0 : Int) < ((addS 1 (lim W x) (lim W 0) W (lim W x).length).1 : Int))) ?_ (decide_eq_false (by omega))) ?_
      · unfold limbA limbSt; nest_cls
      · unfold limbA limbSt
        refine ExsR.freeze (ExsR.ret ?_)
        kct_strs

/- sub -/
def subT (A B : List Nat) (br i : Nat) : Int := (A.getD i 0 : Int) - (br : Int) - (B.getD i 0 : Int)
def subS (A B : List Nat) (W : Nat) : Nat → Nat × List Nat
  | 0 => (0, [])
  | i + 1 => ((if subT A B (subS A B W i).1 i < 0 then 1 else 0), (subS A B W i).2 ++ [(if subT A B (subS A B W i).1 i < 0 then subT A B (subS A B W i).1 i + ((2 ^ W : Nat) : Int) else subT A B (subS A B W i).1 i).toNat])
theorem subS_inv {A B : List Nat} {W : Nat} (hW : 1 ≤ W) (hA : ∀ d ∈ A, d < 2 ^ W) (hB : ∀ d ∈ B, d < 2 ^ W) : ∀ i, (subS A B W i).1 ≤ 1 ∧ (subS A B W i).2.length = i ∧ (∀ d ∈ (subS A B W i).2, d < 2 ^ W) ∧ (i ≤ A.length → val (2 ^ W) (subS A B W i).2 + val (2 ^ W) (B.take i) = val (2 ^ W) (A.take i) + (subS A B W i).1 * (2 ^ W) ^ i)
  | 0 => ⟨by simp [subS], rfl, by simp [subS], fun _ => by simp [subS, val]⟩
  | i + 1 => by
    obtain ⟨h1, h2, h3, h4⟩ := subS_inv hW hA hB i
    have hp := two_le_pow hW
    have ga : A.getD i 0 < 2 ^ W := by
      rw [List.getD_eq_getElem?_getD]
      cases h : A[i]? with
      | none => simp; omega
      | some d => exact hA d (List.mem_of_getElem? h)
    have gb : B.getD i 0 < 2 ^ W := by
      rw [List.getD_eq_getElem?_getD]
      cases h : B[i]? with
      | none => simp; omega
      | some d => exact hB d (List.mem_of_getElem? h)
    have ht : ∀ l : List Nat, val (2 ^ W) (l.take (i + 1)) = val (2 ^ W) (l.take i) + (2 ^ W) ^ i * l.getD i 0 := by
      intro l
      rw [List.take_add_one, val_append, List.getD_eq_getElem?_getD]
      by_cases hi : i < l.length
      · rw [List.getElem?_eq_getElem hi, List.length_take, Nat.min_eq_left (by omega)]
        simp [val]
      · rw [List.getElem?_eq_none (by omega)]
        simp [val]
    unfold subS
    generalize (subS A B W i).1 = br at *
    generalize (subS A B W i).2 = F at *
    unfold subT
    generalize hpe : A.getD i 0 = p at *
    generalize hqe : B.getD i 0 = q at *
    refine ⟨by dsimp only; split <;> omega, by simp [h2], ?_, fun hi => ?_⟩
    · intro d hd
      rcases List.mem_append.mp hd with hd | hd
      · exact h3 d hd
      · rw [List.mem_singleton.mp hd]
        split <;> omega
    · have h4' := h4 (by omega)
      rw [ht, ht, hpe, hqe, val_append, h2]
      simp only [val, Nat.mul_zero, Nat.add_zero]
      rw [Nat.pow_succ]
      have key : ∀ (r b' : Nat), r + q + br = p + b' * 2 ^ W → val (2 ^ W) F + (2 ^ W) ^ i * r + (val (2 ^ W) (B.take i) + (2 ^ W) ^ i * q) = val (2 ^ W) (A.take i) + (2 ^ W) ^ i * p + b' * ((2 ^ W) ^ i * 2 ^ W) := by
        intro r b' h
        have e1 : b' * ((2 ^ W) ^ i * 2 ^ W) = (2 ^ W) ^ i * (b' * 2 ^ W) := by rw [Nat.mul_left_comm]
        have e2 : (2 ^ W) ^ i * r + (2 ^ W) ^ i * q + (2 ^ W) ^ i * br = (2 ^ W) ^ i * p + (2 ^ W) ^ i * (b' * 2 ^ W) := by
          rw [← Nat.mul_add, ← Nat.mul_add, ← Nat.mul_add, h]
        rw [e1]
        rw [Nat.mul_comm br] at h4'
        omega
      split
      · refine key _ 1 ?_
        omega
      · refine key _ 0 ?_
        omega
theorem subS_end {W x y : Nat} (hW : 1 ≤ W) (h : y ≤ x) : val (2 ^ W) (subS (lim W x) (lim W y) W (lim W x).length).2 = x - y := by
  have hp := two_le_pow hW
  obtain ⟨h1, h2, h3, h4⟩ := subS_inv hW (lim_lt hW x) (lim_lt hW y) (lim W x).length
  have h5 := h4 (Nat.le_refl _)
  have hl : (lim W y).length ≤ (lim W x).length := by
    rcases Nat.lt_or_ge (lim W x).length (lim W y).length with q | q
    · have := val_lt_of hW q; omega
    · exact q
  rw [List.take_length, List.take_of_length_le hl, val_lim hW, val_lim hW] at h5
  have hv := val_lt (two_le_pow hW) _ h3
  rw [h2] at hv
  generalize (subS (lim W x) (lim W y) W (lim W x).length).1 = br at *
  have : br = 0 ∨ br = 1 := by omega
  rcases this with q | q
  · subst q; omega
  · subst q; omega
def subSt (W x y br : Nat) (F : List Nat) : St := ⟨[(Str.ofString "a", nat W x), (Str.ofString "b", nat W y), (Str.ofString "w", .int (W : Int)), (Str.ofString "borrow", .int (br : Int)), (Str.ofString "base", .int ((2 ^ W : Nat) : Int))], some (Str.ofString "found", dl F), []⟩
def subA (W x y i : Nat) : St := subSt W x y (subS (lim W x) (lim W y) W i).1 (subS (lim W x) (lim W y) W i).2
local macro_rules | `(tactic| mem_news) => `(tactic| first
  | assumption
  | (refine' spec_compare ?a ?b ?c; (case a => kcj_in); (case b => kcj_in); (case c => kcj_in))
  | (refine' spec_normal ?a ?b ?c; (case a => kcj_in); (case b => kcj_in); (case c => kcj_in)))
theorem spec_sub {W x y : Nat} (hW : 1 ≤ W) (hW9 : W ≤ 9) (hx : x ≤ 1000000) (hyx : y ≤ x) : Spec (GG w mean mg mb) 79 2 [nat W x, nat W y, .int (W : Int)] (nat W (x - y)) := by
  have hlx := lim_length_le hW x
  have hly := lim_length_le hW y
  have hE := subS_end hW hyx
  have hlen : ∀ i, (subS (lim W x) (lim W y) W i).2.length = i := fun i => (subS_inv hW (lim_lt hW x) (lim_lt hW y) i).2.1
  have hlt : ∀ d ∈ (subS (lim W x) (lim W y) W (lim W x).length).2, d < 2 ^ W := (subS_inv hW (lim_lt hW x) (lim_lt hW y) (lim W x).length).2.2.1
  have r0 : RangeArgs [.int ((lim W x).length : Int)] 0 ((lim W x).length : Int) 1 (lim W x).length := by
    have h := RangeArgs.one (b := ((lim W x).length : Int)) (by omega) (by omega)
    simpa using h
  k_offL
  refine ExsR.ifF (Tst.conv (b := decide (cmpZ x y < 0)) ?_ (decide_eq_false (by unfold cmpZ; split <;> (try split) <;> omega))) ?_
  · nest_cls
  · kba_ints
    refine ExsR.le (σ₂ := subA W x y 0) (by k_clsL) ?_
    refine ExsR.cons (Ex.forRange (σ' := subA W x y (lim W x).length) ?_ r0 (by rfl) (by rfl) (by lsm_bools) (by rfl) (range_from (subA W x y) 0 (lim W x).length (Nat.zero_le _) (fun _ => rfl) ?_) (by kas_types) (by kas_types) (by kas_types) (by kas_types)) ?_
    · unfold subA subSt nat; kat_tups
    · intro i _ hi
      have g1 : (lim W x)[i]? = some ((lim W x).getD i 0) := getD_some (by omega)
      have hli := hlen i
      have hstep : subA W x y (i + 1) = subSt W x y (if subT (lim W x) (lim W y) (subS (lim W x) (lim W y) W i).1 i < 0 then 1 else 0) ((subS (lim W x) (lim W y) W i).2 ++ [(if subT (lim W x) (lim W y) (subS (lim W x) (lim W y) W i).1 i < 0 then subT (lim W x) (lim W y) (subS (lim W x) (lim W y) W i).1 i + ((2 ^ W : Nat) : Int) else subT (lim W x) (lim W y) (subS (lim W x) (lim W y) W i).1 i).toNat]) := rfl
      rw [hstep]
      unfold subA subSt
      have hpos := (subS_inv hW (lim_lt hW x) (lim_lt hW y) i).1
      have ga : (lim W x).getD i 0 < 2 ^ W := lim_lt hW x _ (List.mem_of_getElem? g1)
      have gb : (lim W y).getD i 0 < 2 ^ W := by
        rcases Nat.lt_or_ge i (lim W y).length with q | q
        · exact lim_lt hW y _ (List.mem_of_getElem? (getD_some q))
        · rw [getD_none q]; have := two_le_pow hW; omega
      generalize ht : subT (lim W x) (lim W y) (subS (lim W x) (lim W y) W i).1 i = t
      unfold subT at ht
      generalize (subS (lim W x) (lim W y) W i).1 = br at *
      generalize (subS (lim W x) (lim W y) W i).2 = F at *
      refine Exs.cons (Ex.assign (d := .int t) ?_ (by rfl) (by rfl) (by kas_types)) ?_
      · refine Ev.conv (d := .int ((((lim W x).getD i 0 : Nat) : Int) - (br : Int) - (((lim W y).getD i 0 : Nat) : Int))) (Ev.sub (Ev.sub (by unfold nat; kp_flats) (by kp_flats)) (Ev.ifexp (b := decide ((i : Int) < ((lim W y).length : Int))) ?_ ?_ ?_)) (by rw [ht])
        · unfold nat; nest_cls
        · intro h
          have g2 : (lim W y)[i]? = some ((lim W y).getD i 0) := getD_some (by have := of_decide_eq_true h; omega)
          unfold nat; kp_flats
        · intro h
          rw [getD_none (by have := of_decide_eq_false h; omega)]
          exact Ev.int
      · refine Exs.cons (Ex.assign (d := .int ((if t < 0 then 1 else 0 : Nat) : Int)) ?_ (by rfl) (by rfl) (by kas_types)) ?_
        · refine Ev.ifexp (b := decide (t < 0)) (by nest_cls) (fun h => ?_) (fun h => ?_)
          · rw [if_pos (of_decide_eq_true h)]; exact Ev.int
          · rw [if_neg (of_decide_eq_false h)]; exact Ev.int
        · refine' Exs.cons (Ex.append (d := .int (((if t < 0 then t + ((2 ^ W : Nat) : Int) else t).toNat : Nat) : Int)) (by rfl) ?hh (by rfl) (by rfl) (by kcj_in) (by kas_types) (fun env => ⟨_, rfl⟩) (by kas_types) (by kas_types)) ?rest
          case hh =>
            refine Ev.ifexp (b := decide (t < 0)) (by nest_cls) (fun h => ?_) (fun h => ?_)
            · have h' := of_decide_eq_true h
              rw [if_pos h']
              refine Ev.conv (d := .int (t + ((2 ^ W : Nat) : Int))) (by kp_flats) ?_
              congr 1
              omega
            · have h' := of_decide_eq_false h
              rw [if_neg h']
              refine Ev.conv (d := .int t) (by kp_flats) ?_
              congr 1
              omega
          case rest =>
            refine Exs.leR Exs.nil ?_
            rw [dl_append]
            k_clsL
    · have hli := hlen (lim W x).length
      rw [← hE]
      refine ExsR.freeze (ExsR.ret ?_)
      unfold subA subSt
      kp_flats
end
section
theorem sgn_of {W n : Nat} {b : Bool} {z : Int} (h1 : n = z.natAbs) (h2 : b = decide (z < 0)) : D.tup [.bool b, nat W n] = sgn W z := by subst h1; subst h2; rfl
theorem nat_one {W : Nat} (hW : 1 ≤ W) : D.list [.int 1] = nat W 1 := by
  have h := two_le_pow hW
  unfold nat
  rw [lim_pos hW (by decide), Nat.mod_eq_of_lt (by omega), Nat.div_eq_of_lt (by omega), lim_zero]
  rfl
theorem nat_zero (W : Nat) : D.list [] = nat W 0 := rfl
theorem spec_signedZ {W n : Nat} (b : Bool) (hW : 1 ≤ W) (h : n ≤ 1000000) : Spec (GG w mean mg mb) 93 1 [.bool b, nat W n] (sgn W (if b then -(n : Int) else (n : Int))) := by
  have hl := lim_length_le hW n
  have hp := lim_len_pos (n := n) hW
  refine (spec_signed b (dl (lim W n)) (by rw [dl_length]; omega)).cast ?_
  rw [dl_length]
  refine sgn_of (by cases b <;> simp) ?_
  cases b with
  | false => simp
  | true =>
    simp only [Bool.true_and]
    by_cases q : 0 < n
    · rw [decide_eq_true (by have := hp.mpr q; omega), decide_eq_true (by simp; omega)]
    · rw [decide_eq_false (by intro h; exact q (hp.mp (by omega))), decide_eq_false (by simp; omega)]
theorem spec_signed_ofZ {W n : Nat} : Spec (GG w mean mg mb) 149 1 [nat W n] (sgn W (n : Int)) :=
  (spec_signed_of (nat W n)).cast (sgn_of (by simp) (by simp))
local macro_rules | `(tactic| mem_news) => `(tactic| first
  | assumption
  | (refine' spec_signedZ _ ?a ?b; (case a => kcj_in); (case b => kcj_in))
  | exact spec_signed_ofZ
  | (refine' spec_add ?a ?b ?c ?d; (case a => kcj_in); (case b => kcj_in); (case c => kcj_in); (case d => kcj_in))
  | (refine' spec_sub ?a ?b ?c ?d; (case a => kcj_in); (case b => kcj_in); (case c => kcj_in); (case d => kcj_in))
  | (refine' spec_compare ?a ?b ?c; (case a => kcj_in); (case b => kcj_in); (case c => kcj_in))
  | (refine' spec_add_limb ?a ?b ?c; (case a => kcj_in); (case b => kcj_in); (case c => kcj_in))
  | (refine' spec_law_mul ?a ?b ?c ?d ?e; (case a => kcj_in); (case b => kcj_in); (case c => kcj_in); (case d => kcj_in); (case e => kcj_in))
  | (refine' spec_law_divrem ?a ?b ?c ?d ?e; (case a => kcj_in); (case b => kcj_in); (case c => kcj_in); (case d => kcj_in); (case e => kcj_in)))
theorem spec_s_compare {W : Nat} {x y : Int} (hW : 1 ≤ W) (hx : x.natAbs ≤ 1000000) (hy : y.natAbs ≤ 1000000) : Spec (GG w mean mg mb) 100 2 [sgn W x, sgn W y] (.int (cmpZ x y)) := by
  k_offL
  by_cases hxy : decide (x < 0) = decide (y < 0)
  · refine ExsR.ifF (Tst.conv (b := (decide (x < 0) != decide (y < 0))) (by nest_cls) (by simp [hxy])) ?_
    by_cases h : x < 0
    · refine ExsR.conv (ExsR.ret (Ev.ifT (Tst.conv (b := decide (x < 0)) (by nest_cls) (decide_eq_true h)) (by kp_flats))) ?_
      have : y < 0 := by rw [decide_eq_true h] at hxy; exact of_decide_eq_true hxy.symm
      unfold cmpZ
      congr 1
      (repeat' split) <;> omega
    · refine ExsR.conv (ExsR.ret (Ev.ifF (Tst.conv (b := decide (x < 0)) (by nest_cls) (decide_eq_false h)) (by kp_flats))) ?_
      have : ¬ y < 0 := by rw [decide_eq_false h] at hxy; exact of_decide_eq_false hxy.symm
      unfold cmpZ
      congr 1
      (repeat' split) <;> omega
  · refine ExsR.ifT (Tst.conv (b := (decide (x < 0) != decide (y < 0))) (by nest_cls) (by simpa using hxy)) ?_
    by_cases h : x < 0
    · refine ExsR.conv (ExsR.ret (Ev.ifT (Tst.conv (b := decide (x < 0)) (by nest_cls) (decide_eq_true h)) (by kp_flats))) ?_
      have : ¬ y < 0 := fun q => hxy (by rw [decide_eq_true h, decide_eq_true q])
      unfold cmpZ
      congr 1
      (repeat' split) <;> omega
    · refine ExsR.conv (ExsR.ret (Ev.ifF (Tst.conv (b := decide (x < 0)) (by nest_cls) (decide_eq_false h)) (by kp_flats))) ?_
      have : y < 0 := Decidable.byContradiction fun q => hxy (by rw [decide_eq_false h, decide_eq_false q])
      unfold cmpZ
      congr 1
      (repeat' split) <;> omega
theorem spec_s_add {W : Nat} {x y : Int} (hW : 1 ≤ W) (hW9 : W ≤ 9) (hx : x.natAbs ≤ 400000) (hy : y.natAbs ≤ 400000) : Spec (GG w mean mg mb) 107 3 [sgn W x, sgn W y, .int (W : Int)] (sgn W (x + y)) := by
  k_offL
  by_cases hxy : decide (x < 0) = decide (y < 0)
  · refine ExsR.ifT (Tst.conv (b := (decide (x < 0) == decide (y < 0))) (by nest_cls) (by simp [hxy])) ?_
    refine ExsR.conv (ExsR.ret (by kp_flats)) (congrArg (sgn W) ?_)
    have : (x < 0) ↔ (y < 0) := by simpa using hxy
    simp only [decide_eq_true_eq]
    split <;> omega
  · refine ExsR.ifF (Tst.conv (b := (decide (x < 0) == decide (y < 0))) (by nest_cls) (by simpa using hxy)) ?_
    have hn : ¬ ((x < 0) ↔ (y < 0)) := by simpa using hxy
    by_cases hlt : x.natAbs < y.natAbs
    · refine ExsR.ifT (Tst.conv (b := decide (cmpZ x.natAbs y.natAbs < 0)) (by nest_cls) (decide_eq_true (by unfold cmpZ; rw [if_pos (by omega)]; decide))) ?_
      refine ExsR.conv (ExsR.ret (by kp_flats)) (congrArg (sgn W) ?_)
      simp only [decide_eq_true_eq]
      split <;> omega
    · refine ExsR.ifF (Tst.conv (b := decide (cmpZ x.natAbs y.natAbs < 0)) (by nest_cls) (decide_eq_false (by unfold cmpZ; rw [if_neg (by omega)]; split <;> decide))) ?_
      refine ExsR.conv (ExsR.ret (by kp_flats)) (congrArg (sgn W) ?_)
      simp only [decide_eq_true_eq]
      split <;> omega
theorem natAbs_sign_mul (x y : Int) : (if (decide (x < 0) != decide (y < 0)) = true then -((x.natAbs * y.natAbs : Nat) : Int) else ((x.natAbs * y.natAbs : Nat) : Int)) = x * y := by
  have hx : (x.natAbs : Int) = if x < 0 then -x else x := by split <;> omega
  have hy : (y.natAbs : Int) = if y < 0 then -y else y := by split <;> omega
  rw [Int.natCast_mul, hx, hy]
  by_cases h1 : x < 0 <;> by_cases h2 : y < 0 <;> simp [h1, h2, Int.neg_mul, Int.mul_neg]
theorem spec_s_mul {W : Nat} {x y : Int} (hW : 1 ≤ W) (hW9 : W ≤ 9) (hx : x.natAbs ≤ 1000000) (hy : y.natAbs ≤ 1000000) (hxy : x.natAbs * y.natAbs ≤ 1000000) : Spec (GG w mean mg mb) 114 3 [sgn W x, sgn W y, .int (W : Int), .fn 212] (sgn W (x * y)) := by
  k_offL
  exact ExsR.conv (ExsR.ret (by kp_flats)) (congrArg (sgn W) (natAbs_sign_mul x y))
theorem spec_tdiv {W : Nat} {x : Int} {y : Nat} (hW : 1 ≤ W) (hW9 : W ≤ 9) (hx : x.natAbs ≤ 1000000) (hy : y ≤ 1000000) (hy0 : 0 < y) :
    Spec (GG w mean mg mb) 121 3 [sgn W x, sgn W (y : Int), .int (W : Int), .fn 219] (.tup [sgn W (if x < 0 then -((x.natAbs / y : Nat) : Int) else ((x.natAbs / y : Nat) : Int)), sgn W (if x < 0 then -((x.natAbs % y : Nat) : Int) else ((x.natAbs % y : Nat) : Int))]) := by
  have hl := (lim_len_pos (n := y) hW).mpr hy0
  have hll := lim_length_le hW y
  have h1 : x.natAbs / y ≤ x.natAbs := Nat.div_le_self _ _
  have h2 : x.natAbs % y < y := Nat.mod_lt _ hy0
  have hys : sgn W (y : Int) = .tup [.bool false, nat W y] := (sgn_of (by simp) (by simp)).symm
  rw [hys]
  k_offL
  refine ExsR.ifF (Tst.conv (b := (((lim W y).length : Int) == 0)) (by unfold nat; nest_cls) (by rw [beq_eq_false_iff_ne]; omega)) ?_
  kba_ints
  refine ExsR.conv (ExsR.ret (by kp_flats)) ?_
  simp
local macro_rules | `(tactic| mem_news) => `(tactic| first
  | assumption
  | (refine' spec_s_add ?a ?b ?c ?d; (case a => kcj_in); (case b => kcj_in); (case c => kcj_in); (case d => kcj_in))
  | (refine' spec_s_mul ?a ?b ?c ?d ?e; (case a => kcj_in); (case b => kcj_in); (case c => kcj_in); (case d => kcj_in); (case e => kcj_in))
  | (refine' spec_add_limb ?a ?b ?c; (case a => kcj_in); (case b => kcj_in); (case c => kcj_in))
  | (refine' spec_law_divrem ?a ?b ?c ?d ?e; (case a => kcj_in); (case b => kcj_in); (case c => kcj_in); (case d => kcj_in); (case e => kcj_in)))
theorem div_of {x q r : Int} {y : Int} (hy : 0 < y) (h : r + y * q = x) (h0 : 0 ≤ r) (h1 : r < y) : x / y = q ∧ x % y = r := (Int.ediv_emod_unique hy).mpr ⟨h, h0, h1⟩
theorem spec_fdiv {W : Nat} {x : Int} {y : Nat} (hW : 1 ≤ W) (hW9 : W ≤ 9) (hx : x.natAbs ≤ 300000) (hy : y ≤ 300000) (hy0 : 0 < y) :
    Spec (GG w mean mg mb) 128 4 [sgn W x, sgn W (y : Int), .int (W : Int), .fn 219] (.tup [sgn W (x / (y : Int)), sgn W (x % (y : Int))]) := by
  have h1 : x.natAbs / y ≤ x.natAbs := Nat.div_le_self _ _
  have h2 : x.natAbs % y < y := Nat.mod_lt _ hy0
  have hdm := Nat.div_add_mod x.natAbs y
  have hdmZ : (y : Int) * ((x.natAbs / y : Nat) : Int) + ((x.natAbs % y : Nat) : Int) = (x.natAbs : Int) := by rw [← Int.natCast_mul]; omega
  have hys : decide ((y : Int) < 0) = false := decide_eq_false (by omega)
  have hT := spec_tdiv (w := w) (mean := mean) (mg := mg) (mb := mb) hW hW9 (x := x) (y := y) (by omega) (by omega) hy0
  generalize x.natAbs / y = q at *
  generalize x.natAbs % y = r at *
  have hlr : ∀ z : Int, z.natAbs = r → ((lim W z.natAbs).length ≤ 1000000 ∧ (0 < (lim W z.natAbs).length ↔ 0 < r)) := fun z hz => by
    rw [hz]
    exact ⟨by have := lim_length_le hW r; omega, lim_len_pos hW⟩
  k_offL
  kba_ints
  by_cases h : x < 0
  · simp only [if_pos h]
    obtain ⟨hz1, hz2⟩ := hlr (-(r : Int)) (by omega)
    by_cases hr : 0 < r
    · refine ExsR.ifT (Tst.conv (b := decide ((0 : Int) < ((lim W (-(r : Int)).natAbs).length : Int)) && ((decide (x < 0) != decide ((y : Int) < 0)) && true)) (Tst.boolop (TstW.and (by nest_cls) fun _ => TstW.and (by nest_cls) fun _ => TstW.and_nil)) ?_) ?_
      · rw [hys, decide_eq_true h, decide_eq_true (by have := hz2.mpr hr; omega)]; rfl
      · obtain ⟨e1, e2⟩ := div_of (x := x) (y := (y : Int)) (q := -((q : Int) + 1)) (r := (y : Int) - (r : Int)) (by omega) (by rw [Int.mul_neg, Int.mul_add]; omega) (by omega) (by omega)
        rw [e1, e2]
        refine ExsR.conv (ExsR.ret (by kp_flats)) ?_
        congr 2
        · exact sgn_of (by omega) (decide_eq_true (by omega)).symm
        · congr 2; omega
    · refine ExsR.ifF (Tst.conv (b := decide ((0 : Int) < ((lim W (-(r : Int)).natAbs).length : Int)) && ((decide (x < 0) != decide ((y : Int) < 0)) && true)) (Tst.boolop (TstW.and (by nest_cls) fun _ => TstW.and (by nest_cls) fun _ => TstW.and_nil)) ?_) ?_
      · rw [decide_eq_false (by intro hh; exact hr (hz2.mp (by omega)))]; rfl
      · obtain ⟨e1, e2⟩ := div_of (x := x) (y := (y : Int)) (q := -(q : Int)) (r := 0) (by omega) (by rw [Int.mul_neg]; omega) (by omega) (by omega)
        rw [e1, e2]
        refine ExsR.conv (ExsR.ret (by kp_flats)) ?_
        have : r = 0 := by omega
        subst this
        rfl
  · simp only [if_neg h]
    obtain ⟨hz1, hz2⟩ := hlr (r : Int) (by omega)
    refine ExsR.ifF (Tst.conv (b := decide ((0 : Int) < ((lim W (r : Int).natAbs).length : Int)) && ((decide (x < 0) != decide ((y : Int) < 0)) && true)) (Tst.boolop (TstW.and (by nest_cls) fun _ => TstW.and (by nest_cls) fun _ => TstW.and_nil)) ?_) ?_
    · rw [hys, decide_eq_false h]; simp
    · obtain ⟨e1, e2⟩ := div_of (x := x) (y := (y : Int)) (q := (q : Int)) (r := (r : Int)) (by omega) (by omega) (by omega) (by omega)
      rw [e1, e2]
      exact ExsR.ret (by kp_flats)
end
section
/- common -/
local macro_rules | `(tactic| mem_news) => `(tactic| first
  | assumption
  | (refine' spec_normal ?a ?b ?c; (case a => kcj_in); (case b => (intros; apply lim_lt <;> assumption)); (case c => kcj_in))
  | (refine' spec_law_divrem ?a ?b ?c ?d ?e; (case a => kcj_in); (case b => kcj_in); (case c => kcj_in); (case d => kcj_in); (case e => kcj_in)))
theorem spec_normalN {W m : Nat} (hW : 1 ≤ W) (hm : m ≤ 1000000) : Spec (GG w mean mg mb) 58 1 [nat W m] (nat W m) := by
  have hl := lim_length_le hW m
  have h := spec_normal (w := w) (mean := mean) (mg := mg) (mb := mb) hW (ds := lim W m) (lim_lt hW m) (by omega)
  rwa [val_lim hW] at h
def gcdSt (W x y : Nat) : St := ⟨[(Str.ofString "a", nat W x), (Str.ofString "b", nat W y), (Str.ofString "w", .int (W : Int)), (Str.ofString "divrem", .fn 219)], none, []⟩
theorem gcd_loop {G : Glb} {n : Nat} {cs : Scope} {t : Expr} {body : List Stmt} {W : Nat} (h0 : ∀ x, Tst G n cs (gcdSt W x 0) t false) (h1 : ∀ x y, 0 < y → y ≤ 1000000 → Tst G n cs (gcdSt W x y) t true)
    (hb : ∀ x y, 0 < y → x ≤ 1000000 → y ≤ 1000000 → Exs G n cs (gcdSt W x y) body .next (gcdSt W y (x % y))) : ∀ y x, x ≤ 1000000 → y ≤ 1000000 → ∃ k, LoopW G n cs t body k (gcdSt W x y) (gcdSt W (Nat.gcd x y) 0) := by
  intro y
  induction y using Nat.strongRecOn with
  | _ y ih =>
    intro x hx hy
    by_cases h : y = 0
    · subst h
      exact ⟨0, by rw [Nat.gcd_zero_right]; exact .stop (h0 x)⟩
    · have hlt := Nat.mod_lt x (Nat.pos_of_ne_zero h)
      obtain ⟨k, hk⟩ := ih (x % y) hlt y hy (by omega)
      refine ⟨k + 1, .turn (h1 x y (by omega) hy) (hb x y (by omega) hx hy) ?_⟩
      rw [Nat.gcd_comm y, ← Nat.gcd_rec, Nat.gcd_comm] at hk
      exact hk
local macro_rules | `(tactic| mem_news) => `(tactic| first
  | assumption
  | (refine' spec_normalN ?a ?b; (case a => kcj_in); (case b => kcj_in))
  | (refine' spec_law_divrem ?a ?b ?c ?d ?e; (case a => kcj_in); (case b => kcj_in); (case c => kcj_in); (case d => kcj_in); (case e => kcj_in)))
theorem spec_common {W x y : Nat} (hW : 1 ≤ W) (hW9 : W ≤ 9) (hx : x ≤ 1000000) (hy : y ≤ 1000000) : Spec (GG w mean mg mb) 135 3 [nat W x, nat W y, .int (W : Int), .fn 219] (nat W (Nat.gcd x y)) := by
  have hg : Nat.gcd x y ≤ 1000000 := by
    by_cases h : x = 0
    · subst h; rw [Nat.gcd_zero_left]; exact hy
    · exact Nat.le_trans (Nat.gcd_le_left y (Nat.pos_of_ne_zero h)) hx
  k_offL
  refine ExsR.cons (Ex.while' (gcd_loop (W := W) ?_ ?_ ?_ y x hx hy)) ?_
  · intro x
    refine Tst.conv (b := decide ((0 : Int) < ((lim W 0).length : Int))) ?_ rfl
    unfold gcdSt
    have hl := lim_length_le hW 0
    nest_cls
  · intro x y h hy
    have hl := lim_length_le hW y
    have hp := (lim_len_pos (n := y) hW).mpr h
    refine Tst.conv (b := decide ((0 : Int) < ((lim W y).length : Int))) ?_ (decide_eq_true (by omega))
    unfold gcdSt
    nest_cls
  · intro x y h hx hy
    unfold gcdSt
    kba_ints
    refine Exs.leR Exs.nil ?_
    k_clsL
  · unfold gcdSt
    refine ExsR.ret ?_
    kp_flats
theorem spec_divrem1 {W x : Nat} (hW : 1 ≤ W) (hW9 : W ≤ 9) (hx : x ≤ 1000000) : Spec (GG w mean mg mb) 219 2 [nat W x, nat W 1, .int (W : Int)] (.tup [nat W x, nat W 0]) :=
  (spec_law_divrem hW hW9 hx (by decide) (by decide)).cast (by rw [Nat.div_one, Nat.mod_one])
theorem spec_common1 {W x : Nat} (hW : 1 ≤ W) (hW9 : W ≤ 9) (hx : x ≤ 1000000) : Spec (GG w mean mg mb) 135 3 [nat W 1, nat W x, .int (W : Int), .fn 219] (nat W 1) :=
  (spec_common hW hW9 (by decide) hx).cast (by rw [Nat.gcd_one_left])
theorem spec_common2 {W x : Nat} (hW : 1 ≤ W) (hW9 : W ≤ 9) (hx : x ≤ 1000000) : Spec (GG w mean mg mb) 135 3 [nat W x, nat W 1, .int (W : Int), .fn 219] (nat W 1) :=
  (spec_common hW hW9 hx (by decide)).cast (by rw [Nat.gcd_one_right])
local macro_rules | `(tactic| mem_news) => `(tactic| first
  | assumption
  | (refine' spec_divrem1 ?a ?b ?c; (case a => kcj_in); (case b => kcj_in); (case c => kcj_in))
  | (refine' spec_common1 ?a ?b ?c; (case a => kcj_in); (case b => kcj_in); (case c => kcj_in))
  | (refine' spec_common2 ?a ?b ?c; (case a => kcj_in); (case b => kcj_in); (case c => kcj_in))
  | exact spec_signed_ofZ
  | (refine' spec_law_mul ?a ?b ?c ?d ?e; (case a => kcj_in); (case b => kcj_in); (case c => kcj_in); (case d => kcj_in); (case e => kcj_in))
  | (refine' spec_s_add ?a ?b ?c ?d; (case a => kcj_in); (case b => kcj_in); (case c => kcj_in); (case d => kcj_in))
  | (refine' spec_s_mul ?a ?b ?c ?d ?e; (case a => kcj_in); (case b => kcj_in); (case c => kcj_in); (case d => kcj_in); (case e => kcj_in))
  | (refine' spec_s_compare ?a ?b ?c; (case a => kcj_in); (case b => kcj_in); (case c => kcj_in)))
theorem spec_cut1 {W : Nat} {z : Int} (hW : 1 ≤ W) (hW9 : W ≤ 9) (hz : z.natAbs ≤ 1000000) : Spec (GG w mean mg mb) 142 3 [sgn W z, nat W 1, .int (W : Int), .fn 219] (sgn W z) := by
  k_offL
  exact ExsR.ret (by kp_flats)
theorem spec_r_make {W : Nat} {p : Int} {q g : Nat} (hW : 1 ≤ W) (hW9 : W ≤ 9) (hq : 0 < q) (hg : 0 < g) (hc : Nat.gcd p.natAbs q = 1) (hp : p.natAbs * g ≤ 1000000) (hqg : q * g ≤ 1000000) :
    Spec (GG w mean mg mb) 156 4 [sgn W (p * (g : Int)), sgn W ((q * g : Nat) : Int), .int (W : Int), .fn 219] (rat W p q) := by
  have hqg0 : 0 < q * g := Nat.mul_pos hq hg
  have hl1 := lim_length_le hW (q * g)
  have hl2 := lim_length_le hW (p.natAbs * g)
  have hp1 := (lim_len_pos (n := q * g) hW).mpr hqg0
  have hp2 := lim_len_pos (n := p.natAbs * g) hW
  have habs : (p * (g : Int)).natAbs = p.natAbs * g := by rw [Int.natAbs_mul]; simp
  have hneg : decide (p * (g : Int) < 0) = decide (p < 0) := by
    by_cases h : p < 0
    · rw [decide_eq_true h, decide_eq_true (Int.mul_neg_of_neg_of_pos h (by omega))]
    · rw [decide_eq_false h, decide_eq_false (by have := Int.mul_nonneg (show 0 ≤ p by omega) (show (0 : Int) ≤ g by omega); omega)]
  have h1 : sgn W (p * (g : Int)) = .tup [.bool (decide (p < 0)), nat W (p.natAbs * g)] := by unfold sgn; rw [habs, hneg]
  have h2 : sgn W ((q * g : Nat) : Int) = .tup [.bool false, nat W (q * g)] := by unfold sgn; rw [decide_eq_false (by omega), Int.natAbs_natCast]
  have hgcd : Nat.gcd (p.natAbs * g) (q * g) = g := by rw [Nat.gcd_mul_right, hc, Nat.one_mul]
  have hC : Spec (GG w mean mg mb) 135 3 [nat W (p.natAbs * g), nat W (q * g), .int (W : Int), .fn 219] (nat W g) := (spec_common hW hW9 hp hqg).cast (by rw [hgcd])
  have hgle : g ≤ 1000000 := Nat.le_trans (Nat.le_mul_of_pos_left g hq) hqg
  have hD1 : Spec (GG w mean mg mb) 219 2 [nat W (p.natAbs * g), nat W g, .int (W : Int)] (.tup [nat W p.natAbs, nat W 0]) := (spec_law_divrem hW hW9 hp hgle hg).cast (by rw [Nat.mul_div_cancel _ hg, Nat.mul_mod_left])
  have hD2 : Spec (GG w mean mg mb) 219 2 [nat W (q * g), nat W g, .int (W : Int)] (.tup [nat W q, nat W 0]) := (spec_law_divrem hW hW9 hqg hgle hg).cast (by rw [Nat.mul_div_cancel _ hg, Nat.mul_mod_left])
  rw [h1, h2]
  k_offL
  refine ExsR.ifF (Tst.conv (b := (((lim W (q * g)).length : Int) == 0)) (by nest_cls) (by rw [beq_eq_false_iff_ne]; omega)) ?_
  by_cases hz : p = 0
  · subst hz
    refine ExsR.ifT (Tst.conv (b := (((lim W ((0 : Int).natAbs * g)).length : Int) == 0)) (by nest_cls) (by simp [lim_zero])) ?_
    have hq1 : q = 1 := by simpa using hc
    subst hq1
    refine ExsR.conv (ExsR.ret (by kp_flats)) ?_
    rw [nat_one hW]
    rfl
  · have hpos : 0 < p.natAbs * g := Nat.mul_pos (by omega) hg
    refine ExsR.ifF (Tst.conv (b := (((lim W (p.natAbs * g)).length : Int) == 0)) (by nest_cls) (by rw [beq_eq_false_iff_ne]; have := hp2.mpr hpos; omega)) ?_
    krn_off
    refine ExsR.conv (ExsR.ret (by kp_flats)) ?_
    simp [rat, sgn]
local macro_rules | `(tactic| mem_news) => `(tactic| first
  | assumption
  | (refine' spec_cut1 ?a ?b ?c; (case a => kcj_in); (case b => kcj_in); (case c => kcj_in))
  | (refine' spec_divrem1 ?a ?b ?c; (case a => kcj_in); (case b => kcj_in); (case c => kcj_in))
  | (refine' spec_common1 ?a ?b ?c; (case a => kcj_in); (case b => kcj_in); (case c => kcj_in))
  | (refine' spec_common2 ?a ?b ?c; (case a => kcj_in); (case b => kcj_in); (case c => kcj_in))
  | exact spec_signed_ofZ
  | (refine' spec_law_mul ?a ?b ?c ?d ?e; (case a => kcj_in); (case b => kcj_in); (case c => kcj_in); (case d => kcj_in); (case e => kcj_in))
  | (refine' spec_s_add ?a ?b ?c ?d; (case a => kcj_in); (case b => kcj_in); (case c => kcj_in); (case d => kcj_in))
  | (refine' spec_s_mul ?a ?b ?c ?d ?e; (case a => kcj_in); (case b => kcj_in); (case c => kcj_in); (case d => kcj_in); (case e => kcj_in))
  | (refine' spec_s_compare ?a ?b ?c; (case a => kcj_in); (case b => kcj_in); (case c => kcj_in)))
theorem spec_r_add {W : Nat} {t p : Int} {q : Nat} (hW : 1 ≤ W) (hW9 : W ≤ 9) (ht : t.natAbs ≤ 100000) (hp : p.natAbs ≤ 100000) (hq : q ≤ 100000) (htq : t.natAbs * q ≤ 100000) (hne : t * (q : Int) + p ≠ 0) :
    Spec (GG w mean mg mb) 163 4 [rat W t 1, rat W p q, .int (W : Int), .fn 212, .fn 219] (rat W (t * (q : Int) + p) q) := by
  have habs : (t * (q : Int)).natAbs = t.natAbs * q := by rw [Int.natAbs_mul]; simp
  have hM1 : Spec (GG w mean mg mb) 114 3 [sgn W t, sgn W (q : Int), .int (W : Int), .fn 212] (sgn W (t * (q : Int))) := spec_s_mul hW hW9 (by omega) (by omega) (by simpa using Nat.le_trans htq (by decide))
  have hM2 : Spec (GG w mean mg mb) 114 3 [sgn W p, sgn W ((1 : Nat) : Int), .int (W : Int), .fn 212] (sgn W p) := (spec_s_mul hW hW9 (by omega) (by decide) (by simp; omega)).cast (by simp)
  have hA : Spec (GG w mean mg mb) 107 3 [sgn W (t * (q : Int)), sgn W p, .int (W : Int)] (sgn W (t * (q : Int) + p)) := spec_s_add hW hW9 (by omega) (by omega)
  have hz : (t * (q : Int) + p).natAbs ≤ 1000000 := by omega
  have hl := lim_length_le hW (t * (q : Int) + p).natAbs
  have hpos := (lim_len_pos (n := (t * (q : Int) + p).natAbs) hW).mpr (by omega)
  generalize t * (q : Int) + p = z at *
  k_offL
  krn_off
  kba_ints
  krn_off
  refine ExsR.ifF (Tst.conv (b := (((lim W z.natAbs).length : Int) == 0)) (by nest_cls) (by rw [beq_eq_false_iff_ne]; omega)) ?_
  krn_off
  refine ExsR.conv (ExsR.ret (by kp_flats)) ?_
  simp [rat]
theorem spec_r_inverse {W : Nat} {p q : Nat} (hW : 1 ≤ W) (hp : 0 < p) (hp9 : p ≤ 1000000) : Spec (GG w mean mg mb) 170 1 [rat W (p : Int) q] (rat W (q : Int) p) := by
  have hl := lim_length_le hW p
  have hpos := (lim_len_pos (n := p) hW).mpr hp
  have e : rat W (p : Int) q = .tup [.tup [.bool false, nat W p], nat W q] := by simp [rat, sgn]
  rw [e]
  k_offL
  refine ExsR.ifF (Tst.conv (b := (((lim W p).length : Int) == 0)) (by nest_cls) (by rw [beq_eq_false_iff_ne]; omega)) ?_
  refine ExsR.conv (ExsR.ret (by kp_flats)) ?_
  simp [rat, sgn]
theorem spec_r_compare {W : Nat} {p r : Int} {q s : Nat} (hW : 1 ≤ W) (hW9 : W ≤ 9) (hp : p.natAbs ≤ 1000000) (hr : r.natAbs ≤ 1000000) (hq : q ≤ 1000000) (hs : s ≤ 1000000) (hps : p.natAbs * s ≤ 1000000) (hrq : r.natAbs * q ≤ 1000000) :
    Spec (GG w mean mg mb) 177 4 [rat W p q, rat W r s, .int (W : Int), .fn 212] (.int (cmpZ (p * (s : Int)) (r * (q : Int)))) := by
  have h1 : (p * (s : Int)).natAbs = p.natAbs * s := by rw [Int.natAbs_mul]; simp
  have h2 : (r * (q : Int)).natAbs = r.natAbs * q := by rw [Int.natAbs_mul]; simp
  have hM1 : Spec (GG w mean mg mb) 114 3 [sgn W p, sgn W (s : Int), .int (W : Int), .fn 212] (sgn W (p * (s : Int))) := spec_s_mul hW hW9 hp (by omega) (by simpa using hps)
  have hM2 : Spec (GG w mean mg mb) 114 3 [sgn W r, sgn W (q : Int), .int (W : Int), .fn 212] (sgn W (r * (q : Int))) := spec_s_mul hW hW9 hr (by omega) (by simpa using hrq)
  k_offL
  exact ExsR.ret (by kp_flats)
end
section
/- continued -/
def cf (p : Int) (q : Nat) : List Int := if h : q = 0 then [] else (p / (q : Int)) :: cf (q : Int) (p % (q : Int)).toNat
termination_by q
decreasing_by
  have := Int.emod_lt_of_pos p (show (0 : Int) < (q : Int) by omega)
  omega
theorem cf_zero (p : Int) : cf p 0 = [] := by rw [cf]; rfl
theorem cf_pos (p : Int) {q : Nat} (h : 0 < q) : cf p q = (p / (q : Int)) :: cf (q : Int) (p % (q : Int)).toNat := by rw [cf, dif_neg (by omega)]
def cfSt (W : Nat) (x : D) (t : Int) (b : Nat) (ds : List D) : St := ⟨[(Str.ofString "top", sgn W t), (Str.ofString "bottom", sgn W (b : Int)), (Str.ofString "x", x), (Str.ofString "w", .int (W : Int)), (Str.ofString "divrem", .fn 219)], some (Str.ofString "found", ds), []⟩
theorem cf_loop {G : Glb} {n : Nat} {cs : Scope} {t : Expr} {body : List Stmt} {W : Nat} {x : D} (h0 : ∀ p ds, Tst G n cs (cfSt W x p 0 ds) t false) (h1 : ∀ p b ds, 0 < b → b ≤ 300000 → Tst G n cs (cfSt W x p b ds) t true)
    (hb : ∀ p b ds, 0 < b → p.natAbs ≤ 300000 → b ≤ 300000 → ds.length + b ≤ 1000000 → Exs G n cs (cfSt W x p b ds) body .next (cfSt W x (b : Int) (p % (b : Int)).toNat (ds ++ [sgn W (p / (b : Int))]))) :
    ∀ b p ds, p.natAbs ≤ 300000 → b ≤ 300000 → ds.length + b ≤ 1000000 → ∃ p', ∃ k, LoopW G n cs t body k (cfSt W x p b ds) (cfSt W x p' 0 (ds ++ (cf p b).map (sgn W))) := by
  intro b
  induction b using Nat.strongRecOn with
  | _ b ih =>
    intro p ds hp hb9 hd
    by_cases hz : b = 0
    · subst hz
      exact ⟨p, 0, by rw [cf_zero, List.map_nil, List.append_nil]; exact .stop (h0 p ds)⟩
    · have h1' := Int.emod_lt_of_pos p (show (0 : Int) < (b : Int) by omega)
      have h2' := Int.emod_nonneg p (show (b : Int) ≠ 0 by omega)
      obtain ⟨p', k, hk⟩ := ih (p % (b : Int)).toNat (by omega) (b : Int) (ds ++ [sgn W (p / (b : Int))]) (by omega) (by omega) (by simp; omega)
      refine ⟨p', k + 1, .turn (h1 p b ds (by omega) hb9) (hb p b ds (by omega) hp hb9 hd) ?_⟩
      rw [cf_pos p (by omega)]
      simpa using hk
local macro_rules | `(tactic| mem_news) => `(tactic| first
  | assumption
  | exact spec_signed_ofZ
  | (refine' spec_fdiv ?a ?b ?c ?d ?e; (case a => kcj_in); (case b => kcj_in); (case c => kcj_in); (case d => kcj_in); (case e => kcj_in)))
theorem spec_continued {W : Nat} {p : Int} {q : Nat} (hW : 1 ≤ W) (hW9 : W ≤ 9) (hp : p.natAbs ≤ 300000) (hq : q ≤ 300000) : Spec (GG w mean mg mb) 184 5 [rat W p q, .int (W : Int), .fn 219] (.list ((cf p q).map (sgn W))) := by
  k_offL
  kba_ints
  refine ExsR.le (σ₂ := cfSt W (rat W p q) p q []) (by unfold cfSt; k_clsL) ?_
  refine (fun ⟨p', hk⟩ => ExsR.cons (Ex.while' hk) ?_) (cf_loop (W := W) (x := rat W p q) ?_ ?_ ?_ q p [] hp hq (by simp; omega))
  · intro p ds
    refine Tst.conv (b := decide ((0 : Int) < ((lim W ((0 : Nat) : Int).natAbs).length : Int))) ?_ rfl
    have hl := lim_length_le hW ((0 : Nat) : Int).natAbs
    unfold cfSt
    nest_cls
  · intro p b ds h hb
    have hl := lim_length_le hW (b : Int).natAbs
    have hp := (lim_len_pos (n := (b : Int).natAbs) hW).mpr (by omega)
    refine Tst.conv (b := decide ((0 : Int) < ((lim W (b : Int).natAbs).length : Int))) ?_ (decide_eq_true (by omega))
    unfold cfSt
    nest_cls
  · intro p b ds h hp hb hd
    have e : ((p % (b : Int)).toNat : Int) = p % (b : Int) := Int.toNat_of_nonneg (Int.emod_nonneg p (by omega))
    unfold cfSt
    rw [e]
    kba_ints
    tlg_ne
    kba_ints
    refine Exs.leR Exs.nil ?_
    k_clsL
  · refine ExsR.freeze (ExsR.ret ?_)
    unfold cfSt
    kp_flats
/- convergents -/
def convs : Int → Int → Int → Int → List Int → List (Int × Int)
  | _, _, _, _, [] => []
  | p0, q0, p1, q1, t :: ts => (t * p1 + p0, t * q1 + q0) :: convs p1 q1 (t * p1 + p0) (t * q1 + q0) ts
def CvB : Int → Int → Int → Int → List Int → Prop
  | _, _, _, _, [] => True
  | p0, q0, p1, q1, t :: ts => (t.natAbs ≤ 1000000 ∧ p1.natAbs ≤ 1000000 ∧ q1.natAbs ≤ 1000000 ∧ p0.natAbs ≤ 400000 ∧ q0.natAbs ≤ 400000 ∧ t.natAbs * p1.natAbs ≤ 400000 ∧ t.natAbs * q1.natAbs ≤ 400000) ∧ CvB p1 q1 (t * p1 + p0) (t * q1 + q0) ts
def prD (W : Nat) (p q : Int) : D := .tup [sgn W p, sgn W q]
def rowD (W : Nat) (r : Int × Int) : D := .tup [sgn W r.1, nat W r.2.natAbs]
def cvSt (W : Nat) (x : D) (p0 q0 p1 q1 : Int) (ds : List D) : St := ⟨[(Str.ofString "before", prD W p0 q0), (Str.ofString "here", prD W p1 q1), (Str.ofString "terms", x), (Str.ofString "w", .int (W : Int)), (Str.ofString "mul", .fn 212)], some (Str.ofString "found", ds), []⟩
theorem cv_loop {G : Glb} {n : Nat} {cs : Scope} {body : List Stmt} {W : Nat} {x : D}
    (hb : ∀ p0 q0 p1 q1 t ds, ds.length ≤ 1000000 → (t.natAbs ≤ 1000000 ∧ p1.natAbs ≤ 1000000 ∧ q1.natAbs ≤ 1000000 ∧ p0.natAbs ≤ 400000 ∧ q0.natAbs ≤ 400000 ∧ t.natAbs * p1.natAbs ≤ 400000 ∧ t.natAbs * q1.natAbs ≤ 400000) → Exs G n cs ((cvSt W x p0 q0 p1 q1 ds).set (Str.ofString "term") (sgn W t)) body .next (cvSt W x p1 q1 (t * p1 + p0) (t * q1 + q0) (ds ++ [rowD W (t * p1 + p0, t * q1 + q0)]))) :
    ∀ ts p0 q0 p1 q1 ds, ds.length + ts.length ≤ 1000000 → CvB p0 q0 p1 q1 ts → ∃ a b c d, LoopL G n cs (Str.ofString "term") body (cvSt W x p0 q0 p1 q1 ds) (ts.map (sgn W)) .next (cvSt W x a b c d (ds ++ (convs p0 q0 p1 q1 ts).map (rowD W))) := by
  intro ts
  induction ts with
  | nil => intro p0 q0 p1 q1 ds _ _; exact ⟨p0, q0, p1, q1, by simp only [convs, List.map_nil, List.append_nil]; exact .nil⟩
  | cons t ts ih =>
    intro p0 q0 p1 q1 ds hl h
    simp only [List.length_cons] at hl
    obtain ⟨a, b, c, d, hk⟩ := ih p1 q1 (t * p1 + p0) (t * q1 + q0) (ds ++ [rowD W (t * p1 + p0, t * q1 + q0)]) (by simp; omega) h.2
    refine ⟨a, b, c, d, ?_⟩
    rw [List.append_assoc] at hk
    exact .cons (by rfl) (hb p0 q0 p1 q1 t ds (by omega) h.1) hk
local macro_rules | `(tactic| mem_news) => `(tactic| first
  | assumption
  | exact spec_signed_ofZ
  | (refine' spec_s_mul ?a ?b ?c ?d ?e; (case a => kcj_in); (case b => kcj_in); (case c => kcj_in); (case d => kcj_in); (case e => kcj_in))
  | (refine' spec_s_add ?a ?b ?c ?d; (case a => kcj_in); (case b => kcj_in); (case c => kcj_in); (case d => kcj_in)))
theorem spec_convergents {W : Nat} {ts : List Int} (hW : 1 ≤ W) (hW9 : W ≤ 9) (hl : ts.length ≤ 1000000) (hB : CvB 0 1 1 0 ts) : Spec (GG w mean mg mb) 191 4 [.list (ts.map (sgn W)), .int (W : Int), .fn 212] (.list ((convs 0 1 1 0 ts).map (rowD W))) := by
  have e1 : D.tup [.tup [.bool false, .list []], .tup [.bool false, .list [.int 1]]] = prD W 0 1 := by
    show _ = D.tup [sgn W 0, sgn W 1]
    unfold sgn; rw [show (1 : Int).natAbs = 1 from rfl, nat_one hW]; rw [show (0 : Int).natAbs = 0 from rfl, nat_zero]; rfl
  have e2 : D.tup [.tup [.bool false, .list [.int 1]], .tup [.bool false, .list []]] = prD W 1 0 := by
    show _ = D.tup [sgn W 1, sgn W 0]
    unfold sgn; rw [show (1 : Int).natAbs = 1 from rfl, nat_one hW]; rw [show (0 : Int).natAbs = 0 from rfl, nat_zero]; rfl
  k_offL
  refine ExsR.cons (Ex.newOwn (by rfl) (by rfl) (by rfl) (by kas_types)) ?_
  kba_ints
  refine ExsR.le (σ₂ := cvSt W (.list (ts.map (sgn W))) 0 1 1 0 []) ?_ ?_
  · refine ⟨?_, rfl, rfl⟩
    unfold cvSt
    rw [← e1, ← e2]
    (repeat (refine List.forall_mem_cons.mpr ⟨?_, ?_⟩; rfl)); exact List.forall_mem_nil _
  · refine (fun ⟨a, b, c, d, hk⟩ => ExsR.cons (Ex.forList (ds := ts.map (sgn W)) (by unfold cvSt; kp_flats) (by rfl) hk (by kas_types)) ?_) (cv_loop (W := W) (x := .list (ts.map (sgn W))) ?_ ts 0 1 1 0 [] (by simpa using hl) hB)
    · intro p0 q0 p1 q1 t ds hd ⟨h1, h2, h3, h4, h5, h6, h7⟩
      have h8 : (t * p1).natAbs ≤ 400000 := by rw [Int.natAbs_mul]; exact h6
      have h9 : (t * q1).natAbs ≤ 400000 := by rw [Int.natAbs_mul]; exact h7
      have h6' : t.natAbs * p1.natAbs ≤ 1000000 := by omega
      have h7' : t.natAbs * q1.natAbs ≤ 1000000 := by omega
      unfold cvSt
      krn_off
      krn_off
      kba_ints
      tlg_ne
      refine Exs.leR Exs.nil ?_
      k_clsL
    · refine ExsR.freeze (ExsR.ret ?_)
      unfold cvSt
      kp_flats
end
section
theorem Exs.ifF {G : Glb} {n : Nat} {cs : Scope} {σ σ' : St} {t : Expr} {b1 rest : List Stmt} {pos : Pos} {fl : Fl} (h : Tst G n cs σ t false) (h2 : Exs G n cs σ rest fl σ') : Exs G n cs σ (.If t b1 [] pos :: rest) fl σ' :=
  Exs.cons (Ex.ite h (fun e => nomatch e) fun _ => Exs.nil) h2
theorem LoopL.append {G : Glb} {n : Nat} {cs : Scope} {x : Str} {body : List Stmt} : ∀ {ds1 ds2 : List D} {σ σ1 σ2 : St} {fl : Fl}, LoopL G n cs x body σ ds1 .next σ1 → LoopL G n cs x body σ1 ds2 fl σ2 → LoopL G n cs x body σ (ds1 ++ ds2) fl σ2
  | _, _, _, _, _, _, .nil, h => h
  | _, _, _, _, _, _, .cons a b c, h => .cons a b (c.append h)
local macro_rules | `(tactic| mem_news) => `(tactic| first
  | assumption
  | (refine' spec_law_limbs ?a ?b ?c; (case a => kcj_in); (case b => kcj_in); (case c => kcj_in))
  | (refine' spec_law_number ?a ?b ?c; (case a => kcj_in); (case b => kcj_in); (case c => kcj_in)))
theorem spec_law_signed {W : Nat} {z : Int} (hW : 1 ≤ W) (hW9 : W ≤ 9) (hz : z.natAbs ≤ 1000000) : Spec (GG w mean mg mb) 238 2 [.int z, .int (W : Int)] (sgn W z) := by
  k_offL
  exact ExsR.ret (by unfold sgn; kp_flats)
theorem spec_law_whole {W : Nat} {z : Int} (hW : 1 ≤ W) (hW9 : W ≤ 9) (hz : z.natAbs ≤ 1000000) : Spec (GG w mean mg mb) 245 2 [sgn W z, .int (W : Int)] (.int z) := by
  k_offL
  refine ExsR.ret ?_
  by_cases h : z < 0
  · refine Ev.ifT (Tst.conv (b := decide (z < 0)) (by nest_cls) (decide_eq_true h)) ?_
    exact Ev.conv (d := .int (0 - (z.natAbs : Int))) (by kp_flats) (by congr 1; omega)
  · refine Ev.ifF (Tst.conv (b := decide (z < 0)) (by nest_cls) (decide_eq_false h)) ?_
    exact Ev.conv (d := .int (z.natAbs : Int)) (by kp_flats) (by congr 1; omega)
local macro_rules | `(tactic| mem_news) => `(tactic| first
  | assumption
  | (refine' spec_law_whole ?a ?b ?c; (case a => kcj_in); (case b => kcj_in); (case c => kcj_in))
  | (refine' spec_law_number ?a ?b ?c; (case a => kcj_in); (case b => kcj_in); (case c => kcj_in)))
theorem spec_law_pair {W : Nat} {r : Int × Int} (hW : 1 ≤ W) (hW9 : W ≤ 9) (hp : r.1.natAbs ≤ 1000000) (hq : r.2.natAbs ≤ 1000000) (hq0 : 0 ≤ r.2) : Spec (GG w mean mg mb) 252 3 [rowD W r, .int (W : Int)] (.tup [.int r.1, .int r.2]) := by
  have e : D.tup [.int r.1, .int r.2] = .tup [.int r.1, .int (r.2.natAbs : Int)] := by congr 3; congr 1; omega
  rw [e]
  k_offL
  exact ExsR.ret (by kp_flats)
local macro_rules | `(tactic| kp_flats) => `(tactic| first
  | (refine' Ev.mul ?a ?b ?c; (case a => kp_flats); (case b => kp_flats); (case c => kcj_in))
  | (refine' Ev.fdiv ?a ?b ?c ?d; (case a => kp_flats); (case b => kp_flats); (case c => kcj_in); (case d => kcj_in))
  | (refine' Ev.lget ?a ?b ?c ?d ?e ?f; (case a => kp_flats); (case b => kp_flats); (case c => kcj_in); (case d => assumption); (case e => kcj_in); (case f => kas_types)))
def bestSt (a b p q : Int) : St := ⟨[(Str.ofString "left", .int ((a * q - p * b).natAbs : Int)), (Str.ofString "a", .int a), (Str.ofString "b", .int b), (Str.ofString "p", .int p), (Str.ofString "q", .int q)], none, []⟩
theorem spec_law_best {a b p q : Int} (hb : 0 < b) (hb9 : b ≤ 100000) (ha : a.natAbs ≤ 100000) (hq : 1 ≤ q) (hq9 : q ≤ 100000) (hp : p.natAbs ≤ 100000)
    (hbest : ∀ s t : Int, 1 ≤ s → s < q → (a * q - p * b).natAbs < (a * s - t * b).natAbs) : Spec (GG w mean mg mb) 259 1 [.int a, .int b, .int p, .int q] (.bool true) := by
  k_offL
  krn_off
  have hm : Min.min q 40 ≤ q := by omega
  have hm2 : 1 ≤ Min.min q 40 := by omega
  refine ExsR.le (σ₂ := bestSt a b p q) (by unfold bestSt; k_clsL) ?_
  refine ExsR.cons (Ex.forRange (σ' := bestSt a b p q) (a := 1) (b := Min.min q 40) (c := 1) (l := (Min.min q 40 - 1).toNat) ?_ (.two (by omega) (by omega) (by omega) (by omega)) (by rfl) (by rfl) (by lsm_bools) (by rfl) (range_loop (fun _ => bestSt a b p q) _ (fun _ _ => rfl) ?_) (by kas_types) (by kas_types) (by kas_types) (by kas_types)) ?_
  · unfold bestSt
    refine EvL.cons Ev.int (EvL.cons ?_ EvL.nil (by kas_types)) (by kas_types)
    kp_flats
  · intro i hi
    have hs1 : (1 : Int) ≤ 1 + (i : Int) * 1 := by omega
    have hs2 : 1 + (i : Int) * 1 < q := by omega
    generalize 1 + (i : Int) * 1 = s at *
    have ht : (a * s / b).natAbs ≤ (a * s).natAbs := by
      have h1 := Int.natAbs_ediv_le_natAbs (a * s) b
      omega
    have hm : (a * s).natAbs ≤ 100000 * 100000 := by
      rw [Int.natAbs_mul]; exact Nat.mul_le_mul ha (by omega)
    have b1 := hbest s (a * s / b) hs1 hs2
    have b2 := hbest s (a * s / b + 1) hs1 hs2
    unfold bestSt
    refine Exs.cons (Ex.assign (d := .int (a * s / b)) ?_ (by rfl) (by rfl) (by kas_types)) ?_
    · kp_flats
    · refine Exs.ifF (Tst.conv (b := (decide (((a * s - a * s / b * b).natAbs : Int) ≤ ((a * q - p * b).natAbs : Int)) || (decide (((a * s - (a * s / b + 1) * b).natAbs : Int) ≤ ((a * q - p * b).natAbs : Int)) || false))) (Tst.boolop (TstW.or ?_ fun _ => TstW.or ?_ fun _ => TstW.or_nil)) ?_) ?_
      · nest_cls
      · nest_cls
      · rw [decide_eq_false (by omega), decide_eq_false (by omega)]; rfl
      · refine Exs.leR Exs.nil ?_
        k_clsL
  · unfold bestSt
    exact ExsR.ret (by kp_flats)
end
section
theorem spec_r_make1 {W : Nat} {t : Int} (hW : 1 ≤ W) (hW9 : W ≤ 9) (ht : t.natAbs ≤ 1000000) : Spec (GG w mean mg mb) 156 4 [sgn W t, .tup [.bool false, .list [.int 1]], .int (W : Int), .fn 219] (rat W t 1) := by
  have h := spec_r_make (w := w) (mean := mean) (mg := mg) (mb := mb) (W := W) (p := t) (q := 1) (g := 1) hW hW9 (by decide) (by decide) (Nat.gcd_one_right _) (by omega) (by decide)
  have e : D.tup [.bool false, .list [.int 1]] = sgn W (((1 * 1 : Nat)) : Int) := by
    show _ = D.tup [_, nat W 1]
    rw [nat_one hW]; rfl
  rw [e]
  simpa using h
local macro_rules | `(tactic| mem_news) => `(tactic| first
  | assumption
  | (refine' spec_r_make1 ?a ?b ?c; (case a => kcj_in); (case b => kcj_in); (case c => kcj_in))
  | (refine' spec_r_inverse ?a ?b ?c; (case a => kcj_in); (case b => kcj_in); (case c => kcj_in))
  | (refine' spec_r_add ?a ?b ?c ?d ?e ?f ?g; (case a => kcj_in); (case b => kcj_in); (case c => kcj_in); (case d => kcj_in); (case e => kcj_in); (case f => kcj_in); (case g => kcj_in)))
theorem cf_shape : ∀ (q : Nat) (p : Int), 0 < q → ∃ init last, cf p q = init ++ [last] := by
  intro q
  induction q using Nat.strongRecOn with
  | _ q ih =>
    intro p hq
    have h1 := Int.emod_lt_of_pos p (show (0 : Int) < (q : Int) by omega)
    have h2 := Int.emod_nonneg p (show (q : Int) ≠ 0 by omega)
    rw [cf_pos p hq]
    by_cases h : (p % (q : Int)).toNat = 0
    · rw [h, cf_zero]; exact ⟨[], _, rfl⟩
    · obtain ⟨i, l, e⟩ := ih (p % (q : Int)).toNat (by omega) (q : Int) (by omega)
      exact ⟨_ :: i, l, by rw [e]; rfl⟩
def agSt (W : Nat) (x : D) (p : Int) (q : Nat) : St := ⟨[(Str.ofString "found", rat W p q), (Str.ofString "one", .tup [.bool false, .list [.int 1]]), (Str.ofString "terms", x), (Str.ofString "w", .int (W : Int))], none, []⟩
theorem coprime_step {p : Int} {q : Nat} (hq : 0 < q) (hc : Nat.gcd p.natAbs q = 1) : Nat.gcd q (p % (q : Int)).toNat = 1 := by
  have h2 := Int.emod_nonneg p (show (q : Int) ≠ 0 by omega)
  have h3 := Int.emod_add_mul_ediv p (q : Int)
  have hr : (((p % (q : Int)).toNat : Nat) : Int) = p % (q : Int) := Int.toNat_of_nonneg h2
  generalize (p % (q : Int)).toNat = r at *
  have d1 : Nat.gcd q r ∣ q := Nat.gcd_dvd_left q r
  have d2 : Nat.gcd q r ∣ r := Nat.gcd_dvd_right q r
  have d3 : ((Nat.gcd q r : Nat) : Int) ∣ p := by
    rw [← h3, ← hr]
    exact Int.dvd_add (Int.natCast_dvd_natCast.mpr d2) (Int.dvd_mul_of_dvd_left (Int.natCast_dvd_natCast.mpr d1))
  have d4 : Nat.gcd q r ∣ p.natAbs := by simpa using Int.natAbs_dvd_natAbs.mpr d3
  have d5 := Nat.dvd_gcd d4 d1
  rw [hc] at d5
  exact Nat.dvd_one.mp d5
theorem ag_loop {G : Glb} {n : Nat} {cs : Scope} {body : List Stmt} {W : Nat} {x : D}
    (hb : ∀ (t : Int) (p q : Nat), 0 < p → p ≤ 500 → q ≤ 500 → t.natAbs * p ≤ 2000 → t.natAbs ≤ 2000 → t * (p : Int) + (q : Int) ≠ 0 → Exs G n cs ((agSt W x (p : Int) q).set (Str.ofString "term") (sgn W t)) body .next (agSt W x (t * (p : Int) + (q : Int)) p)) :
    ∀ (q : Nat) (p : Int) init last, 0 < q → q ≤ 500 → p.natAbs ≤ 500 → Nat.gcd p.natAbs q = 1 → cf p q = init ++ [last] → LoopL G n cs (Str.ofString "term") body (agSt W x last 1) (init.reverse.map (sgn W)) .next (agSt W x p q) := by
  intro q
  induction q using Nat.strongRecOn with
  | _ q ih =>
    intro p init last hq hq9 hp hc e
    have h1 := Int.emod_lt_of_pos p (show (0 : Int) < (q : Int) by omega)
    have h2 := Int.emod_nonneg p (show (q : Int) ≠ 0 by omega)
    have h3 := Int.emod_add_mul_ediv p (q : Int)
    have hc2 := coprime_step hq hc
    rw [cf_pos p hq] at e
    by_cases h : (p % (q : Int)).toNat = 0
    · rw [h, cf_zero] at e
      rw [h, Nat.gcd_zero_right] at hc2
      subst hc2
      cases init with
      | nil => simp at e; subst e; exact .nil
      | cons y ys => simp at e
    · obtain ⟨i, l, e2⟩ := cf_shape (p % (q : Int)).toNat (q : Int) (by omega)
      have hrec := ih (p % (q : Int)).toNat (by omega) (q : Int) i l (by omega) (by omega) (by omega) hc2 e2
      rw [e2] at e
      have e3 : init = (p / (q : Int)) :: i ∧ last = l := by
        have : init ++ [last] = ((p / (q : Int)) :: i) ++ [l] := by rw [← e]; rfl
        have h5 := List.append_inj' this rfl
        exact ⟨h5.1, by simpa using h5.2⟩
      obtain ⟨rfl, rfl⟩ := e3
      rw [List.reverse_cons, List.map_append]
      have hpe : p / (q : Int) * (q : Int) + ((p % (q : Int)).toNat : Int) = p := by rw [Int.mul_comm]; omega
      have hn : (p / (q : Int)).natAbs ≤ p.natAbs := Int.natAbs_ediv_le_natAbs p _
      have hm : (p / (q : Int)).natAbs * q = (p / (q : Int) * (q : Int)).natAbs := by rw [Int.natAbs_mul]; simp
      have hpne : p ≠ 0 := by
        rintro rfl
        simp at h
      have hstep := hb (p / (q : Int)) q (p % (q : Int)).toNat hq hq9 (by omega) (by omega) (by omega) (by rw [hpe]; exact hpne)
      rw [hpe] at hstep
      exact LoopL.append hrec (.cons (by rfl) hstep .nil)
theorem spec_law_again {W : Nat} {p : Int} {q : Nat} (hW : 1 ≤ W) (hW9 : W ≤ 9) (hq : 0 < q) (hq9 : q ≤ 500) (hp : p.natAbs ≤ 500) (hc : Nat.gcd p.natAbs q = 1) (hlen : (cf p q).length ≤ 1000000) (hlast : ∀ z ∈ cf p q, z.natAbs ≤ 1000000) :
    Spec (GG w mean mg mb) 273 5 [.list ((cf p q).map (sgn W)), .int (W : Int)] (rat W p q) := by
  obtain ⟨init, last, e⟩ := cf_shape q p hq
  have hl2 : last.natAbs ≤ 1000000 := hlast last (by rw [e]; simp)
  have hlen2 : init.length ≤ 1000000 := by rw [e] at hlen; simp at hlen; omega
  have ee : (cf p q).map (sgn W) = init.map (sgn W) ++ [sgn W last] := by rw [e]; simp
  k_offL
  krn_off
  refine ExsR.cons (Ex.assign (d := rat W last 1) ?_ (by rfl) (by rfl) (by kas_types)) ?_
  · refine Ev.call (ds := [sgn W last, .tup [.bool false, .list [.int 1]], .int (W : Int), .fn 219]) (by kp_flats) (EvL.cons (Ev.llast (ds := init.map (sgn W)) ?_ (by kp_flats) (by kas_types)) (by kat_tups) (by kas_types)) (by mem_news) (by decide) (by kas_types) (by kas_types)
    rw [← ee]
    kp_flats
  · refine ExsR.le (σ₂ := agSt W (.list ((cf p q).map (sgn W))) last 1) (by unfold agSt; k_clsL) ?_
    refine ExsR.cons (Ex.forList (ds := init.reverse.map (sgn W)) ?_ (by rfl) (ag_loop (W := W) (x := .list ((cf p q).map (sgn W))) ?_ q p init last hq hq9 hp hc e) (by kas_types)) ?_
    · refine Ev.conv (d := .list ((((cf p q).map (sgn W)).take (((cf p q).map (sgn W)).length - 1)).reverse)) ?_ ?_
      · refine Ev.rev (Ev.init ?_ (by kp_flats) (by simpa using hlen) (fun _ _ => ⟨_, rfl⟩)) (by kp_flats) (by simp; omega) (fun _ _ => ⟨_, rfl⟩)
        unfold agSt
        kp_flats
      · rw [ee]
        simp
    · intro t p q h1 h2 h3 h4 h5 h6
      have h7 : t.natAbs * p ≤ 100000 := by omega
      unfold agSt
      krn_off
      refine Exs.leR Exs.nil ?_
      k_clsL
    · unfold agSt
      exact ExsR.ret (by kp_flats)
end
section
def side (a b : Int) (r : Int × Int) : Int := a * r.2 - r.1 * b
structure RowsOk (a b : Int) (rows : List (Int × Int)) : Prop where
  turn : ∀ i r, rows[i]? = some r → i + 1 < rows.length → side a b r ≠ 0 ∧ (0 < side a b r ↔ i % 2 = 0)
  step : ∀ i r r0, rows[i + 1]? = some r → rows[i]? = some r0 → r0.2 ≤ r.2 ∧ (0 < i → r.2 ≠ r0.2) ∧ ((side a b r).natAbs : Int) * r0.2 < ((side a b r0).natAbs : Int) * r.2 ∧
    (r0.2 < r.2 → ∀ s t : Int, 1 ≤ s → s < r.2 → (a * r.2 - r.1 * b).natAbs < (a * s - t * b).natAbs)
  last : ∃ pre r, rows = pre ++ [r] ∧ r.1 * b = a * r.2
  small : ∀ r ∈ rows, r.1.natAbs ≤ 1000 ∧ 0 ≤ r.2 ∧ r.2 ≤ 1000
def pairD (r : Int × Int) : D := .tup [.int r.1, .int r.2]
theorem pairD_get {rows : List (Int × Int)} {i : Nat} {r : Int × Int} (h : rows[i]? = some r) : (rows.map pairD)[i]? = some (.tup [.int r.1, .int r.2]) := by simp [h, pairD]
local macro_rules | `(tactic| kp_flats) => `(tactic| first
  | (refine' Ev.mul ?a ?b ?c; (case a => kp_flats); (case b => kp_flats); (case c => kcj_in))
  | (refine' Ev.lget ?a ?b ?c ?d ?e ?f; (case a => kp_flats); (case b => kp_flats); (case d => assumption); (case c => kcj_in); (case e => kcj_in); (case f => kas_types)))
local macro_rules | `(tactic| mem_news) => `(tactic| first
  | assumption)
def rwSt (a b : Int) (rows : List (Int × Int)) : St := ⟨[(Str.ofString "a", .int a), (Str.ofString "b", .int b), (Str.ofString "rows", .list (rows.map pairD))], none, []⟩
theorem spec_law_rows_right {a b : Int} {rows : List (Int × Int)} (hb : 0 < b) (hb9 : b ≤ 1000) (ha : a.natAbs ≤ 1000) (hl : rows.length ≤ 1000000) (hR : RowsOk a b rows) :
    Spec (GG w mean mg mb) 266 2 [.int a, .int b, .list (rows.map pairD)] (.bool true) := by
  obtain ⟨pre, rl, he, hlast⟩ := hR.last
  have hls : rl.1.natAbs ≤ 1000 := (hR.small rl (by rw [he]; simp)).1
  have hee : rows.map pairD = pre.map pairD ++ [.tup [.int rl.1, .int rl.2]] := by rw [he]; simp [pairD]
  have hlm : (rows.map pairD).length = rows.length := by simp
  have hsd : ∀ r : Int × Int, r ∈ rows → (side a b r).natAbs ≤ 2000000 := by
    intro r hr
    obtain ⟨h1, h2, h3⟩ := hR.small r hr
    have h4 : (a * r.2).natAbs ≤ 1000 * 1000 := by rw [Int.natAbs_mul]; exact Nat.mul_le_mul ha (by omega)
    have h5 : (r.1 * b).natAbs ≤ 1000 * 1000 := by rw [Int.natAbs_mul]; exact Nat.mul_le_mul h1 (by omega)
    unfold side
    omega
  k_offL
  refine ExsR.le (σ₂ := rwSt a b rows) (by unfold rwSt; k_clsL) ?_
  refine ExsR.cons (Ex.forRange (σ' := rwSt a b rows) (a := 0) (b := (rows.length : Int)) (c := 1) (l := (rows.length : Int).toNat) ?_ (.one (by omega) (by omega)) (by rfl) (by rfl) (by lsm_bools) (by rfl) (range_loop (fun _ => rwSt a b rows) _ (fun _ _ => rfl) ?_) (by kas_types) (by kas_types) (by kas_types) (by kas_types)) ?_
  · unfold rwSt
    refine EvL.cons (Ev.conv (d := .int ((rows.map pairD).length : Int)) ?_ (by rw [hlm])) EvL.nil (by kas_types)
    kp_flats
  · intro i hi
    rw [show (0 : Int) + (i : Int) * 1 = (i : Int) from by omega]
    have hlt : i < rows.length := by omega
    have hg : rows[i]? = some rows[i] := List.getElem?_eq_getElem hlt
    have hmem : rows[i] ∈ rows := List.getElem_mem hlt
    obtain ⟨h1, h2, h3⟩ := hR.small _ hmem
    have hs := hsd _ hmem
    have hturn := hR.turn i _ hg
    generalize hrr : rows[i] = r at *
    have hgd := pairD_get hg
    obtain ⟨p, q⟩ := r
    simp only at *
    have hsdef : a * q - p * b = side a b (p, q) := rfl
    unfold rwSt
    kba_ints
    refine Exs.cons (Ex.assign (d := .int (a * q - p * b)) (by kp_flats) (by rfl) (by rfl) (by kas_types)) ?_
    rw [hsdef]
    generalize hzz : side a b (p, q) = z at *
    refine Exs.ifF (Tst.conv (b := (decide ((i : Int) + 1 < ((rows.map pairD).length : Int)) && ((z == 0 || ((decide (0 < z) != ((i : Int) % 2 == 0)) || false)) && true))) (Tst.boolop (TstW.and (by nest_cls) fun _ => TstW.and (Tst.boolop (TstW.or (by nest_cls) fun _ => TstW.or (by nest_cls) fun _ => TstW.or_nil)) fun _ => TstW.and_nil)) ?_) ?_
    · rw [hlm]
      by_cases hc : i + 1 < rows.length
      · obtain ⟨t1, t2⟩ := hturn hc
        rw [beq_eq_false_iff_ne.mpr t1]
        by_cases hz : 0 < z
        · rw [decide_eq_true hz, beq_iff_eq.mpr (show (i : Int) % 2 = 0 by have := t2.mp hz; omega)]; simp
        · rw [decide_eq_false hz, beq_eq_false_iff_ne.mpr (show (i : Int) % 2 ≠ 0 by intro h; exact hz (t2.mpr (by omega)))]; simp
      · rw [decide_eq_false (by omega)]; rfl
    · cases i with
      | zero =>
        refine Exs.ifF (Tst.conv (b := (decide ((0 : Int) < ((0 : Nat) : Int)) && false)) (Tst.boolop (TstW.and (by nest_cls) fun h => absurd h (by decide))) rfl) ?_
        refine Exs.ifF (Tst.conv (b := (decide ((0 : Int) < ((0 : Nat) : Int)) && false)) (Tst.boolop (TstW.and (by nest_cls) fun h => absurd h (by decide))) rfl) ?_
        refine Exs.ifF (Tst.conv (b := (decide ((0 : Int) < ((0 : Nat) : Int)) && false)) (Tst.boolop (TstW.and (by nest_cls) fun h => absurd h (by decide))) rfl) ?_
        refine Exs.leR Exs.nil ?_
        k_clsL
      | succ j =>
        have hlt0 : j < rows.length := by omega
        have hg0 : rows[j]? = some rows[j] := List.getElem?_eq_getElem hlt0
        have hmem0 : rows[j] ∈ rows := List.getElem_mem hlt0
        obtain ⟨k1, k2, k3⟩ := hR.small _ hmem0
        have hs0 := hsd _ hmem0
        obtain ⟨s1, s2, s3, s4⟩ := hR.step j _ _ hg hg0
        generalize rows[j] = r0 at *
        have hgd0 := pairD_get hg0
        obtain ⟨p0, q0⟩ := r0
        simp only at *
        have hpos : decide ((0 : Int) < ((j + 1 : Nat) : Int)) = true := decide_eq_true (by omega)
        refine Exs.ifF (Tst.conv (b := (decide ((0 : Int) < ((j + 1 : Nat) : Int)) && ((decide (q < q0) || ((decide ((1 : Int) < ((j + 1 : Nat) : Int)) && ((q == q0) && true)) || false)) && true))) (Tst.boolop (TstW.and (by nest_cls) fun _ => TstW.and (Tst.boolop (TstW.or (by nest_cls) fun _ => TstW.or (Tst.boolop (TstW.and (by nest_cls) fun _ => TstW.and (by nest_cls) fun _ => TstW.and_nil)) fun _ => TstW.or_nil)) fun _ => TstW.and_nil)) ?_) ?_
        · rw [hpos, decide_eq_false (show ¬ q < q0 by omega)]
          by_cases hj : 0 < j
          · rw [beq_eq_false_iff_ne.mpr (s2 hj)]; simp
          · rw [decide_eq_false (show ¬ (1 : Int) < ((j + 1 : Nat) : Int) by omega)]; rfl
        · have e1 : (z.natAbs : Int) * q0 < ((a * q0 - p0 * b).natAbs : Int) * q := by rw [← hzz]; exact s3
          have hs0' : (a * q0 - p0 * b).natAbs ≤ 2000000 := hs0
          refine Exs.ifF (Tst.conv (b := (decide ((0 : Int) < ((j + 1 : Nat) : Int)) && (decide (((a * q0 - p0 * b).natAbs : Int) * q ≤ (z.natAbs : Int) * q0) && true))) (Tst.boolop (TstW.and (by nest_cls) fun _ => TstW.and (by nest_cls) fun _ => TstW.and_nil)) ?_) ?_
          · rw [hpos, decide_eq_false (by omega)]; rfl
          · by_cases hqq : q0 < q
            · have hbest := spec_law_best (w := w) (mean := mean) (mg := mg) (mb := mb) (a := a) (b := b) (p := p) (q := q) hb (by omega) (by omega) (by omega) (by omega) (by omega) (s4 hqq)
              refine Exs.ifF (Tst.conv (b := (decide ((0 : Int) < ((j + 1 : Nat) : Int)) && (decide (q0 < q) && ((!true) && true)))) (Tst.boolop (TstW.and (by nest_cls) fun _ => TstW.and (by nest_cls) fun _ => TstW.and (by nest_cls) fun _ => TstW.and_nil)) (by simp)) ?_
              refine Exs.leR Exs.nil ?_
              k_clsL
            · refine Exs.ifF (Tst.conv (b := (decide ((0 : Int) < ((j + 1 : Nat) : Int)) && (decide (q0 < q) && true))) (Tst.boolop (TstW.and (by nest_cls) fun _ => TstW.and (by nest_cls) fun h => absurd (of_decide_eq_true h) hqq)) (by rw [decide_eq_false hqq]; simp)) ?_
              refine Exs.leR Exs.nil ?_
              k_clsL
  · unfold rwSt
    refine ExsR.conv (d := .bool (rl.1 * b == a * rl.2)) (ExsR.ret (Ev.eq (Ev.mul (Ev.tget (ds := [.int rl.1, .int rl.2]) (Ev.llast (ds := pre.map pairD) ?_ (by kp_flats) (by kas_types)) (by kp_flats) rfl rfl (by decide) (by kas_types)) (by kp_flats) (by omega)) (Ev.mul (by kp_flats) (Ev.tget (ds := [.int rl.1, .int rl.2]) (Ev.llast (ds := pre.map pairD) ?_ (by kp_flats) (by kas_types)) (by kp_flats) rfl rfl (by decide) (by kas_types)) (by omega)) (by kas_types))) (by rw [hlast]; simp)
    · rw [← hee]; kp_flats
    · rw [← hee]; kp_flats
end
section
/- the plain law -/
def sg (j : Nat) : Int := if j % 2 = 0 then 1 else -1
theorem sg_succ (j : Nat) : sg (j + 1) = - sg j := by unfold sg; split <;> split <;> omega
theorem sg_cases (j : Nat) : sg j = 1 ∧ j % 2 = 0 ∨ sg j = -1 ∧ j % 2 = 1 := by unfold sg; split <;> omega
theorem sg_sq (j : Nat) : sg j * sg j = 1 := by rcases sg_cases j with ⟨h, _⟩ | ⟨h, _⟩ <;> rw [h] <;> rfl
theorem sg_abs (j : Nat) (r : Int) (h : 0 ≤ r) : (sg j * r).natAbs = r.natAbs := by rcases sg_cases j with ⟨h, _⟩ | ⟨h, _⟩ <;> rw [h] <;> omega

/-- the best row: by the lattice -/
theorem best_row {p q p1 q1 p2 q2 s R R' : Int} (hs : s = 1 ∨ s = -1) (h1 : p * q1 - p1 * q = s * R) (h2 : p * q2 - p2 * q = -s * R') (hd : p2 * q1 - p1 * q2 = s ∨ p2 * q1 - p1 * q2 = -s)
    (hq1 : 0 ≤ q1) (hq2 : 0 < q2) (hR' : 0 ≤ R') (hR : R' < R) (b t : Int) (hb1 : 1 ≤ b) (hb2 : b < q2) : R' < ((p * b - t * q).natAbs : Int) := by
  have hdd : ∃ d : Int, d * d = 1 ∧ p2 * q1 - p1 * q2 = d := by
    rcases hs with rfl | rfl <;> rcases hd with h | h <;> exact ⟨_, by rw [h]; rfl, rfl⟩
  obtain ⟨d, hd2, hd⟩ := hdd
  obtain ⟨u, hu⟩ : ∃ u : Int, u = d * (b * p2 - t * q2) := ⟨_, rfl⟩
  obtain ⟨v, hv⟩ : ∃ v : Int, v = d * (q1 * t - p1 * b) := ⟨_, rfl⟩
  have e1 : b = u * q1 + v * q2 := by grind
  have e2 : t = u * p1 + v * p2 := by grind
  have e3 : p * b - t * q = s * (u * R - v * R') := by grind
  have e4 : ((p * b - t * q).natAbs : Int) = ((u * R - v * R').natAbs : Int) := by
    rw [e3, Int.natAbs_mul]
    rcases hs with rfl | rfl <;> simp
  rw [e4]
  have hvu : u = 0 → False := by
    intro h
    rw [h] at e1
    by_cases hv0 : v ≤ 0
    · have := Int.mul_nonneg (show 0 ≤ -v by omega) (show 0 ≤ q2 by omega)
      grind
    · have := Int.mul_le_mul_of_nonneg_right (show 1 ≤ v by omega) (show 0 ≤ q2 by omega)
      grind
  rcases Int.lt_or_gt_of_ne (show u ≠ 0 from fun h => hvu h) with hu0 | hu0
  · -- u < 0: v ≥ 0
    have hv0 : 0 ≤ v := by
      apply Decidable.byContradiction
      intro h
      have h1 := Int.mul_nonneg (show 0 ≤ -u by omega) hq1
      have h2 := Int.mul_nonneg (show 0 ≤ -v by omega) (show 0 ≤ q2 by omega)
      grind
    have h3 := Int.mul_le_mul_of_nonneg_right (show 1 ≤ -u by omega) (show 0 ≤ R by omega)
    have h4 := Int.mul_nonneg hv0 hR'
    have h5 : -u * R = -(u * R) := Int.neg_mul u R
    omega
  · -- u > 0: v ≤ 0
    have hv0 : v ≤ 0 := by
      apply Decidable.byContradiction
      intro h
      have h1 := Int.mul_nonneg (show 0 ≤ u by omega) hq1
      have h2 := Int.mul_le_mul_of_nonneg_right (show 1 ≤ v by omega) (show 0 ≤ q2 by omega)
      grind
    have h3 := Int.mul_le_mul_of_nonneg_right (show 1 ≤ u by omega) (show 0 ≤ R by omega)
    have h4 := Int.mul_nonneg (show 0 ≤ -v by omega) hR'
    have h5 : -v * R' = -(v * R') := Int.neg_mul v R'
    omega

def StepOk (a b : Int) (j : Nat) (r0 r : Int × Int) : Prop :=
  r0.2 ≤ r.2 ∧ (0 < j → r.2 ≠ r0.2) ∧ ((side a b r).natAbs : Int) * r0.2 < ((side a b r0).natAbs : Int) * r.2 ∧
    (r0.2 < r.2 → ∀ s t : Int, 1 ≤ s → s < r.2 → (a * r.2 - r.1 * b).natAbs < (a * s - t * b).natAbs)
def SmallOk (r : Int × Int) : Prop := r.1.natAbs ≤ 1000 ∧ 0 ≤ r.2 ∧ r.2 ≤ 1000
def Chain (a b : Int) : Nat → (Int × Int) → List (Int × Int) → Prop
  | _, r0, [] => r0.1 * b = a * r0.2 ∧ SmallOk r0
  | j, r0, r :: rs => SmallOk r0 ∧ (side a b r0 ≠ 0 ∧ (0 < side a b r0 ↔ j % 2 = 0)) ∧ StepOk a b j r0 r ∧ Chain a b (j + 1) r rs

theorem chain_turn {a b : Int} : ∀ rs j r0, Chain a b j r0 rs → ∀ i r, (r0 :: rs)[i]? = some r → i + 1 < (r0 :: rs).length → side a b r ≠ 0 ∧ (0 < side a b r ↔ (j + i) % 2 = 0)
  | [], j, r0, _, i, r, h, hl => by simp at hl
  | r1 :: rs, j, r0, hC, 0, r, h, hl => by
    simp at h
    subst h
    exact hC.2.1
  | r1 :: rs, j, r0, hC, i + 1, r, h, hl => by
    have := chain_turn rs (j + 1) r1 hC.2.2.2 i r (by simpa using h) (by simp at hl ⊢; omega)
    rwa [show j + (i + 1) = j + 1 + i from by omega]
theorem chain_step {a b : Int} : ∀ rs j r0, Chain a b j r0 rs → ∀ i r r', (r0 :: rs)[i + 1]? = some r → (r0 :: rs)[i]? = some r' → StepOk a b (j + i) r' r
  | [], j, r0, _, i, r, r', h, h' => by simp at h
  | r1 :: rs, j, r0, hC, 0, r, r', h, h' => by
    simp at h h'
    subst h; subst h'
    exact hC.2.2.1
  | r1 :: rs, j, r0, hC, i + 1, r, r', h, h' => by
    have := chain_step rs (j + 1) r1 hC.2.2.2 i r r' (by simpa using h) (by simpa using h')
    rwa [show j + (i + 1) = j + 1 + i from by omega]
theorem chain_last {a b : Int} : ∀ rs j r0, Chain a b j r0 rs → ∃ pre r, r0 :: rs = pre ++ [r] ∧ r.1 * b = a * r.2
  | [], j, r0, hC => ⟨[], r0, rfl, hC.1⟩
  | r1 :: rs, j, r0, hC => by
    obtain ⟨pre, r, e, h⟩ := chain_last rs (j + 1) r1 hC.2.2.2
    exact ⟨r0 :: pre, r, by rw [e]; rfl, h⟩
theorem chain_small {a b : Int} : ∀ rs j r0, Chain a b j r0 rs → ∀ r ∈ r0 :: rs, SmallOk r
  | [], j, r0, hC, r, h => by simp at h; subst h; exact hC.2
  | r1 :: rs, j, r0, hC, r, h => by
    rcases List.mem_cons.mp h with rfl | h
    · exact hC.1
    · exact chain_small rs (j + 1) r1 hC.2.2.2 r h
theorem Chain.rows {a b : Int} {r0 : Int × Int} {rs : List (Int × Int)} (h : Chain a b 0 r0 rs) : RowsOk a b (r0 :: rs) where
  turn := fun i r hr hl => by simpa using chain_turn rs 0 r0 h i r hr hl
  step := fun i r r' hr hr' => by simpa [StepOk] using chain_step rs 0 r0 h i r r' hr hr'
  last := chain_last rs 0 r0 h
  small := chain_small rs 0 r0 h

/-- the top of a row is small -/
theorem top_small {p q p1 q1 s R : Int} (hs : s = 1 ∨ s = -1) (h1 : p * q1 - p1 * q = s * R) (hq : 0 < q) (hq1 : 0 ≤ q1) (hq1' : q1 ≤ q) (hR : 0 ≤ R) (hR' : R ≤ q) : p1.natAbs ≤ p.natAbs + 1 := by
  have e : (p1 * q).natAbs ≤ (p * q1).natAbs + R.natAbs := by rcases hs with rfl | rfl <;> omega
  rw [Int.natAbs_mul, Int.natAbs_mul] at e
  have e2 : p.natAbs * q1.natAbs ≤ p.natAbs * q.natAbs := Nat.mul_le_mul_left _ (by omega)
  have e3 : (p.natAbs + 1) * q.natAbs = p.natAbs * q.natAbs + q.natAbs := by rw [Nat.add_mul, Nat.one_mul]
  exact Nat.le_of_mul_le_mul_right (show p1.natAbs * q.natAbs ≤ (p.natAbs + 1) * q.natAbs by omega) (by omega)

structure EuInv (p q : Int) (j : Nat) (P : Int) (R : Int) (p0 q0 p1 q1 : Int) : Prop where
  h1 : p * q1 - p1 * q = sg j * R
  h0 : p * q0 - p0 * q = - sg j * P
  det : p1 * q0 - p0 * q1 = - sg j
  hc : q1 * P + q0 * R = q
  r0 : 0 ≤ R
  rP : R < P
  hq1 : 1 ≤ q1
  hq0 : 0 ≤ q0
  hj : 0 < j → 1 ≤ q0
  hq01 : q0 ≤ q1

theorem EuInv.next {p q : Int} {j : Nat} {P R p0 q0 p1 q1 : Int} (I : EuInv p q j P R p0 q0 p1 q1) (hR : 0 < R) : 1 ≤ P / R ∧ EuInv p q (j + 1) R (P % R) p1 q1 (P / R * p1 + p0) (P / R * q1 + q0) := by
  have e := Int.emod_add_mul_ediv P R
  have r1 := Int.emod_nonneg P (show R ≠ 0 by omega)
  have r2 := Int.emod_lt_of_pos P hR
  have ht : 1 ≤ P / R := by
    apply Decidable.byContradiction
    intro h
    have := Int.mul_nonneg (show 0 ≤ R by omega) (show 0 ≤ -(P / R) by omega)
    have := I.rP
    grind
  refine ⟨ht, ?_⟩
  obtain ⟨h1, h0, det, hc, _, rP, hq1, hq0, hj, hq01⟩ := I
  have hm := Int.mul_le_mul_of_nonneg_right ht (show 0 ≤ q1 by omega)
  constructor
  · rw [sg_succ]; grind
  · rw [sg_succ]; grind
  · rw [sg_succ]; grind
  · grind
  · exact r1
  · exact r2
  · omega
  · omega
  · intro _; exact hq1
  · omega

theorem EuInv.q1_le {p q : Int} {j : Nat} {P R p0 q0 p1 q1 : Int} (I : EuInv p q j P R p0 q0 p1 q1) : q1 ≤ q ∧ q0 ≤ q ∧ R ≤ q := by
  obtain ⟨h1, h0, det, hc, r0, rP, hq1, hq0, hj, hq01⟩ := I
  have a1 := Int.mul_nonneg (show 0 ≤ q1 by omega) (show 0 ≤ P - 1 by omega)
  have a2 := Int.mul_nonneg hq0 r0
  have a3 := Int.mul_nonneg (show 0 ≤ q1 - 1 by omega) (show 0 ≤ P by omega)
  have h : q1 ≤ q := by grind
  refine ⟨h, by omega, by grind⟩
theorem EuInv.P_le {p q : Int} {j : Nat} {P R p0 q0 p1 q1 : Int} (I : EuInv p q j P R p0 q0 p1 q1) : P ≤ q := by
  obtain ⟨h1, h0, det, hc, r0, rP, hq1, hq0, hj, hq01⟩ := I
  have a2 := Int.mul_nonneg hq0 r0
  have a3 := Int.mul_nonneg (show 0 ≤ q1 - 1 by omega) (show 0 ≤ P by omega)
  grind
theorem sg_or (j : Nat) : sg j = 1 ∨ sg j = -1 := by rcases sg_cases j with h | h <;> omega
theorem sg_or' (j : Nat) : - sg j = 1 ∨ - sg j = -1 := by rcases sg_cases j with h | h <;> omega
theorem EuInv.small {p q : Int} {j : Nat} {P R p0 q0 p1 q1 : Int} (I : EuInv p q j P R p0 q0 p1 q1) (hp : p.natAbs ≤ 450) (hq : q ≤ 300) : p1.natAbs ≤ 451 ∧ p0.natAbs ≤ 451 ∧ 0 ≤ q1 ∧ q1 ≤ 300 ∧ 0 ≤ q0 ∧ q0 ≤ 300 := by
  have a := I.q1_le
  have b := I.P_le
  have c := I.hq1
  have d := I.hq0
  have e := I.r0
  have f := I.rP
  have t1 := top_small (sg_or j) I.h1 (by omega) (by omega) a.1 e a.2.2
  have t2 := top_small (sg_or' j) I.h0 (by omega) (by omega) a.2.1 (by omega) b
  omega

theorem side_mul (p q g : Int) (r : Int × Int) : side (p * g) (q * g) r = g * (p * r.2 - r.1 * q) := by unfold side; grind

theorem EuInv.main {p q g : Int} (hg : 0 < g) (hp : p.natAbs ≤ 450) (hq : q ≤ 300) : ∀ (R : Nat) (P : Int) (j : Nat) (p0 q0 p1 q1 : Int), EuInv p q j P (R : Int) p0 q0 p1 q1 →
    Chain (p * g) (q * g) j (p1, q1) (convs p0 q0 p1 q1 (cf P R)) ∧ CvB p0 q0 p1 q1 (cf P R) ∧ (∀ t ∈ cf P R, 1 ≤ t ∧ t ≤ 300) ∧ (cf P R).length ≤ R ∧ (∀ pre l, cf P R = pre ++ [l] → 2 ≤ l) := by
  intro R
  induction R using Nat.strongRecOn with
  | _ R ih =>
    intro P j p0 q0 p1 q1 I
    have hsm := I.small hp hq
    have hsmall : SmallOk (p1, q1) := ⟨by show p1.natAbs ≤ 1000; omega, by show 0 ≤ q1; omega, by show q1 ≤ 1000; omega⟩
    by_cases hR : R = 0
    · subst hR
      rw [cf_zero]
      refine ⟨⟨?_, hsmall⟩, trivial, by simp, by simp, by simp⟩
      show p1 * (q * g) = p * g * q1
      have h1 := I.h1
      grind
    · rw [cf_pos P (by omega)]
      obtain ⟨ht, I'⟩ := I.next (show (0 : Int) < (R : Int) by omega)
      have m1 := Int.emod_nonneg P (show (R : Int) ≠ 0 by omega)
      have m2 := Int.emod_lt_of_pos P (show (0 : Int) < (R : Int) by omega)
      have hme := Int.emod_add_mul_ediv P (R : Int)
      have e : ((P % (R : Int)).toNat : Int) = P % (R : Int) := Int.toNat_of_nonneg m1
      have hsm' := I'.small hp hq
      have hrec := ih (P % (R : Int)).toNat (by omega) (R : Int) (j + 1) p1 q1 (P / (R : Int) * p1 + p0) (P / (R : Int) * q1 + q0) (by rw [e]; exact I')
      have htP : P / (R : Int) ≤ P := Int.ediv_le_self _ (by have := I.rP; omega)
      have hP := I.P_le
      have hql := I'.q1_le
      have hlast2 : P % (R : Int) = 0 → 2 ≤ P / (R : Int) := by
        intro h0
        apply Decidable.byContradiction
        intro h
        have h1 : P / (R : Int) = 1 := by omega
        rw [h0, h1] at hme
        have := I.rP
        omega
      obtain ⟨c1, c2, c3, c4, c5⟩ := hrec
      generalize (P % (R : Int)).toNat = R2 at *
      generalize hRR : P % (R : Int) = R' at *
      generalize P / (R : Int) = t at *
      subst e
      have I1 := I.h1
      have I2 := I'.h1
      have hs1 : side (p * g) (q * g) (p1, q1) = g * (sg j * (R : Int)) := by rw [side_mul]; simp only; rw [I1]
      have hs2 : side (p * g) (q * g) (t * p1 + p0, t * q1 + q0) = g * (- sg j * (R2 : Int)) := by rw [side_mul]; simp only; rw [I2, sg_succ]
      have hqq : q1 ≤ t * q1 + q0 := I'.hq01
      refine ⟨⟨hsmall, ?_, ?_, c1⟩, ⟨?_, c2⟩, ?_, ?_, ?_⟩
      · rw [hs1]
        have hgR := Int.mul_pos hg (show (0 : Int) < (R : Int) by omega)
        rcases sg_cases j with ⟨h, h'⟩ | ⟨h, h'⟩
        · rw [h, show g * (1 * (R : Int)) = g * (R : Int) from by grind]; omega
        · rw [h, show g * (-1 * (R : Int)) = -(g * (R : Int)) from by grind]; omega
      · refine ⟨hqq, ?_, ?_, ?_⟩
        · intro hj
          have := I.hj hj
          have hm := Int.mul_le_mul_of_nonneg_right ht (show 0 ≤ q1 by omega)
          show t * q1 + q0 ≠ q1
          omega
        · rw [hs1, hs2]
          show ((g * (-sg j * (R2 : Int))).natAbs : Int) * q1 < ((g * (sg j * (R : Int))).natAbs : Int) * (t * q1 + q0)
          have e1 : (g * (-sg j * (R2 : Int))).natAbs = g.natAbs * R2 := by
            rw [Int.natAbs_mul]; congr 1; rcases sg_or j with h | h <;> rw [h] <;> omega
          have e2 : (g * (sg j * (R : Int))).natAbs = g.natAbs * R := by
            rw [Int.natAbs_mul]; congr 1; rcases sg_or j with h | h <;> rw [h] <;> omega
          rw [e1, e2]
          have hq1 := I.hq1
          have hlt : g.natAbs * R2 < g.natAbs * R := Nat.mul_lt_mul_of_pos_left (by omega) (by omega)
          have k1 := Int.mul_lt_mul_of_pos_right (show ((g.natAbs * R2 : Nat) : Int) < ((g.natAbs * R : Nat) : Int) by omega) (show 0 < q1 by omega)
          have k2 := Int.mul_le_mul_of_nonneg_left hqq (show (0 : Int) ≤ ((g.natAbs * R : Nat) : Int) by omega)
          omega
        · intro _ b u hb1 hb2
          have hdet := I'.det
          have h2 := I'.h1
          rw [sg_succ] at hdet h2
          have hb := best_row (p := p) (q := q) (p1 := p1) (q1 := q1) (p2 := t * p1 + p0) (q2 := t * q1 + q0) (s := sg j) (R := (R : Int)) (R' := (R2 : Int)) (sg_or j) I1 h2 (.inl (by omega)) (by omega) (by omega) (by omega) (by omega) b u hb1 hb2
          show (p * g * (t * q1 + q0) - (t * p1 + p0) * (q * g)).natAbs < (p * g * b - u * (q * g)).natAbs
          have e3 : p * g * (t * q1 + q0) - (t * p1 + p0) * (q * g) = g * (- sg j * (R2 : Int)) := hs2
          have e4 : p * g * b - u * (q * g) = g * (p * b - u * q) := by grind
          rw [e3, e4]
          have e1 : (g * (-sg j * (R2 : Int))).natAbs = g.natAbs * R2 := by
            rw [Int.natAbs_mul]; congr 1; rcases sg_or j with h | h <;> rw [h] <;> omega
          rw [e1, Int.natAbs_mul]
          exact Nat.mul_lt_mul_of_pos_left (by omega) (by omega)
      · have hq0' : (t * q1).natAbs ≤ 300 := by omega
        have hp0' : (t * p1).natAbs ≤ 902 := by omega
        rw [Int.natAbs_mul] at hq0' hp0'
        refine ⟨by omega, by omega, by omega, by omega, by omega, by omega, by omega⟩
      · intro u hu
        rcases List.mem_cons.mp hu with rfl | hu
        · omega
        · exact c3 u hu
      · simp only [List.length_cons]; omega
      · intro pre l hpl
        cases pre with
        | nil =>
          simp at hpl
          obtain ⟨rfl, h⟩ := hpl
          apply hlast2
          apply Decidable.byContradiction
          intro hne
          obtain ⟨i, z, hz⟩ := cf_shape R2 (R : Int) (by omega)
          rw [h] at hz
          simp at hz
        | cons y ys =>
          simp at hpl
          exact c5 ys l hpl.2
theorem cf_law {p : Int} {q g : Nat} (hq : 0 < q) (hq9 : q ≤ 300) (hp : p.natAbs ≤ 450) (hg : 0 < g) : ∃ t0 ts, cf p q = t0 :: ts ∧ t0 = p / (q : Int) ∧ (∀ t ∈ ts, 1 ≤ t) ∧ (∀ pre l, ts = pre ++ [l] → 2 ≤ l) ∧
    RowsOk (p * (g : Int)) ((q : Int) * (g : Int)) (convs 0 1 1 0 (cf p q)) ∧ CvB 0 1 1 0 (cf p q) ∧ (∀ t ∈ cf p q, t.natAbs ≤ 450) ∧ (cf p q).length ≤ 301 := by
  have e := Int.emod_add_mul_ediv p (q : Int)
  have m1 := Int.emod_nonneg p (show (q : Int) ≠ 0 by omega)
  have m2 := Int.emod_lt_of_pos p (show (0 : Int) < (q : Int) by omega)
  have e2 : ((p % (q : Int)).toNat : Int) = p % (q : Int) := Int.toNat_of_nonneg m1
  have ht := Int.natAbs_ediv_le_natAbs p (q : Int)
  have I : EuInv p (q : Int) 0 (q : Int) (((p % (q : Int)).toNat : Nat) : Int) 1 0 (p / (q : Int) * 1 + 0) (p / (q : Int) * 0 + 1) := by
    rw [e2]
    constructor
    · show _ = 1 * _; grind
    · show _ = - 1 * _; grind
    · show _ = -1; grind
    · grind
    · exact m1
    · exact m2
    · omega
    · omega
    · intro h; omega
    · omega
  obtain ⟨c1, c2, c3, c4, c5⟩ := I.main (g := (g : Int)) (by omega) hp (by omega)
  refine ⟨p / (q : Int), cf (q : Int) (p % (q : Int)).toNat, cf_pos p hq, rfl, fun t h => (c3 t h).1, c5, ?_, ?_, ?_, ?_⟩
  · rw [cf_pos p hq]; exact c1.rows
  · rw [cf_pos p hq]
    refine ⟨⟨by omega, by decide, by decide, by decide, by decide, ?_, ?_⟩, c2⟩
    · show (p / (q : Int)).natAbs * 1 ≤ 400000; omega
    · show (p / (q : Int)).natAbs * 0 ≤ 400000; omega
  · rw [cf_pos p hq]
    intro t h
    rcases List.mem_cons.mp h with rfl | h
    · omega
    · have := c3 t h; omega
  · rw [cf_pos p hq]
    simp only [List.length_cons]; omega
/-- the two numbers in lowest terms -/
theorem lowest (a : Int) {b : Nat} (hb : 0 < b) : ∃ (p : Int) (q g : Nat), 0 < q ∧ 0 < g ∧ a = p * (g : Int) ∧ b = q * g ∧ Nat.gcd p.natAbs q = 1 ∧ p.natAbs ≤ a.natAbs ∧ q ≤ b := by
  have hg : 0 < Nat.gcd a.natAbs b := Nat.gcd_pos_of_pos_right _ hb
  obtain ⟨q, hq⟩ := Nat.gcd_dvd_right a.natAbs b
  obtain ⟨m, hm⟩ := Nat.gcd_dvd_left a.natAbs b
  have hc : Nat.gcd m q = 1 := by
    have h := Nat.gcd_mul_left (Nat.gcd a.natAbs b) m q
    rw [← hq, ← hm] at h
    exact Nat.eq_of_mul_eq_mul_left hg (by rw [Nat.mul_one]; exact h.symm)
  have hq0 : 0 < q := Nat.pos_of_ne_zero fun h => by rw [h, Nat.mul_zero] at hq; omega
  generalize Nat.gcd a.natAbs b = g at *
  have hgm : (((g * m : Nat)) : Int) = (m : Int) * (g : Int) := by rw [Int.natCast_mul, Int.mul_comm]
  have hma : m ≤ a.natAbs := by rw [hm]; exact Nat.le_mul_of_pos_left m hg
  have hqb : q ≤ b := by rw [hq]; exact Nat.le_mul_of_pos_left q hg
  by_cases ha : a < 0
  · refine ⟨-(m : Int), q, g, hq0, hg, ?_, by rw [hq, Nat.mul_comm], ?_, ?_, hqb⟩
    · rw [Int.neg_mul]; omega
    · rw [Int.natAbs_neg, Int.natAbs_natCast]; exact hc
    · rw [Int.natAbs_neg, Int.natAbs_natCast]; exact hma
  · refine ⟨(m : Int), q, g, hq0, hg, by omega, by rw [hq, Nat.mul_comm], ?_, ?_, hqb⟩
    · rw [Int.natAbs_natCast]; exact hc
    · rw [Int.natAbs_natCast]; exact hma
end
section
/- the box -/
def BoxIs (β l : Addr) (ns : List Int) (k : Int) (bx : Led) : Prop :=
  ∃ (vs : List Value) (n1 n2 : Nat) (t : Tok), bx = [(β, listOf #[.ref l, .int k t] n1), (l, listOf vs.toArray n2)] ∧ VAll [] vs (ns.map D.int) ∧ ns.length ≤ 1000000
theorem BoxIs.addr {β l : Addr} {ns : List Int} {k : Int} {bx : Led} (h : BoxIs β l ns k bx) : ∀ p ∈ bx, p.1 = β ∨ p.1 = l := by
  obtain ⟨vs, n1, n2, t, rfl, _, _⟩ := h
  intro p hp
  rcases List.mem_cons.mp hp with rfl | hp
  · exact .inl rfl
  · rw [List.mem_singleton.mp hp]; exact .inr rfl
theorem BoxIs.data {β l : Addr} {ns : List Int} {k : Int} {bx fz : Led} (h : BoxIs β l ns k bx) (hs : Sub bx fz) : VIn fz (.ref β) (.list [.list (ns.map D.int), .int k]) := by
  obtain ⟨vs, n1, n2, t, rfl, hv, _⟩ := h
  refine .list (vs := [.ref l, .int k t]) (n := n1) (hs _ (.head _)) (.cons (.list (hs _ (.tail _ (.head _))) (hv.mono Sub.nil)) (.cons (.int _ _) .nil))

/-- a def of the text is entered -/
theorem enter {G : Glb} {cs : Scope} {C : FC} {f : Addr} {k : Nat} {vs : List Value} {xs : List Str} {name qual : Str} {params : Arguments} {body : List Stmt} {scope : Scope} {dV kV doc pm cdv ct oc : Value} {an od : Option Addr} {osl : Array (Option Value)}
    {m : Str → Option Value} {news : Led} {s : Shared} {Q : Value → Shared → Prop}
    (ok : C.Ok G (k + 1) cs) (F : Fr C.h₀ C.L s.heap m) (N : News C.h₀ C.L s.heap news)
    (ho : G.K.lookup f = some ⟨oc, od, .func (fnOf name qual params body scope dV kV doc pm an cdv ct), osl⟩) (hcd : codeIn G.K cdv qual = true)
    (hb : bindArgs (fnOf name qual params body scope dV kV doc pm an cdv ct) ⟨vs, []⟩ = pure (xs.zip vs))
    (hloc : ∀ x ∈ xs, scope.names.lookup x = some .local) (hcell : ∀ x ∈ scope.names, x.2 ≠ .cell)
    (hco : scope.isCoroutine = false) (hgen : scope.isGenerator = false) (hk : scope.kind = .function)
    (hbody : ∀ (C' : FC) (Q' : Flow → Shared → Prop) (E' : Value → Shared → Prop) h₁ tk₁, C'.Ok G k scope → (∀ b o, C.h₀.get? b = some o → C'.h₀.get? b = some o) → Fr C'.h₀ C'.L h₁ (fun y => (xs.zip vs).reverse.lookup y) → News C'.h₀ C'.L h₁ news →
      (∀ v m2 h2 tk2 news2, Fr C'.h₀ C'.L h2 m2 → News C'.h₀ C'.L h2 news2 → (Fr C.h₀ C.L h2 m → News C.h₀ C.L h2 news2 → Q v { s with heap := h2, toks := tk2 }) → Q' (.ret v) { s with heap := h2, toks := tk2 }) →
      wpAny (model G.prog G.w) (C'.A scope) (execs body (C'.env scope)) Q' E' { s with heap := h₁, toks := tk₁ }) :
    wpAny (model G.prog G.w) (C.A cs) (call (.ref f) vs) Q (fun _ _ => False) s := by
  refine wpAny_call (code_def (news := news) (env := C.env cs) (outer := C.outer) (binds := xs.zip vs) ok.below F ok.kin N ok.top rfl rfl ok.kind ho hcd (by show C.dp < _; have := ok.room; omega) (BindsTo.of_eq hb) ?_ ?_ hco hgen hk hcell)
  · intro y hy
    exact hloc y.1 (List.of_mem_zip hy).1
  · intro g L' h₁ FG F' N' B' X' T'
    let C' : FC := { dp := C.dp + 1, un := C.un + 3, gd := C.gd, cn := qual, L := L', a := f, ccd := cdv, cl := [], outer := C.env cs :: C.outer, A₀ := C.A cs, base := C.base, h₀ := g }
    have ok' : C'.Ok G k scope := ⟨B', X', T', hk, by show C.dp + 1 + k < _; have := ok.room; omega, by show C.un + 3 + 8 * k + 8 < _; have := ok.units; omega⟩
    exact hbody C' _ _ h₁ _ ok' FG.keep F' N' fun v m2 h2 tk2 news2 F2 N2 kk => leaveK_ (news' := news2) F2 N2 kk

/-- the state of a frame whose box is at rest -/
theorem box_rep {C : FC} {β l : Addr} {ns : List Int} {k : Int} {bx fr : Led} {m : Str → Option Value} {ρ : List (Str × D)} (hbx : BoxIs β l ns k bx) (hoff : ∀ q ∈ fr, q.1 ≠ β ∧ q.1 ≠ l)
    (hv : ∀ x d, ρ.lookup x = some d → ∃ v, m x = some v ∧ VIn bx v d) : Rep C ⟨ρ, none, []⟩ m [] fr bx where
  vars := hv
  own := rfl
  cells := fun x d h => by simp at h
  off := fun p hp q hq => by
    have h1 := hbx.addr p hp
    have h2 := hoff q (by simpa using hq)
    rcases h1 with h | h <;> rw [h]
    · exact fun e => h2.1 e.symm
    · exact fun e => h2.2 e.symm
  off2 := fun _ hp => absurd hp List.not_mem_nil
theorem lenRange {ns : List Int} {vs : List Value} (h : VAll [] vs (ns.map D.int)) : vs.length = ns.length := by simpa using h.length
theorem vint {fz : Led} {v : Value} {i : Int} (h : VIn fz v (.int i)) : ∃ t, v = .int i t := by cases h; exact ⟨_, rfl⟩
end
section
theorem rest_off {β l : Addr} {rest : Led} (hoff : ∀ q ∈ rest, q.1 ≠ β ∧ q.1 ≠ l) (o : Obj) (hβl : β ≠ l) : ∀ p ∈ (l, o) :: rest, p.1 ≠ β := fun p hp => by
  rcases List.mem_cons.mp hp with rfl | hp
  · exact fun e => hβl e.symm
  · exact (hoff p hp).1
theorem ev_int {G : Glb} {n : Nat} {cs : Scope} {σ : St} {e : Expr} {a b : Int} (h : Ev G n cs σ e (.int a)) (q : a = b) : Ev G n cs σ e (.int b) := q ▸ h
theorem take_spec {β l : Addr} {ns : List Int} {k K : Int} {t₀ : Tok} {bx rest : Led} {cs : Scope} {C : FC} {m : Str → Option Value} {s : Shared} {Q : Value → Shared → Prop} (hK : 0 < K) (hK9 : K < 1000000) (hβl : β ≠ l) (hoff : ∀ q ∈ rest, q.1 ≠ β ∧ q.1 ≠ l) (hbx : BoxIs β l ns k bx)
    (hk0 : 0 ≤ k) (hk9 : k < 1000003) (ok : C.Ok (GG w mean mg mb) 2 cs) (F : Fr C.h₀ C.L s.heap m) (N : News C.h₀ C.L s.heap (bx ++ rest))
    (kk : ∀ i t ns' k' bx' h' tk', 0 ≤ i → i < K → 0 ≤ k' → k' < 1000003 → BoxIs β l ns' k' bx' → Fr C.h₀ C.L h' m → News C.h₀ C.L h' (bx' ++ rest) → Q (.int i t) { s with heap := h', toks := tk' }) :
    wpAny (model (GG w mean mg mb).prog (GG w mean mg mb).w) (C.A cs) (call (.ref 226) [.ref β, .int K t₀]) Q (fun _ _ => False) s := by
  refine' enter (k := 1) (xs := [Str.ofString "box", Str.ofString "many"]) ok F N ?ho ?hcd ?hb ?hloc ?hcell ?hco ?hgen ?hk ?hbody
  case ho => (show List.lookup _ (hd.heap_39 _) = _; k_is)
  case hcd => (show codeIn (hd.heap_39 _) _ _ = _; k_is)
  case hb => rfl
  case hloc => (dsimp only; decide)
  case hcell => (dsimp only; decide)
  case hco => rfl
  case hgen => rfl
  case hk => rfl
  intro C' Q' E' h₁ tk₁ ok' hkeep F' N' leave
  have hbox : (fun y => ([Str.ofString "box", Str.ofString "many"].zip [Value.ref β, Value.int K t₀]).reverse.lookup y) (Str.ofString "box") = some (.ref β) := by rfl
  have hmany : (fun y => ([Str.ofString "box", Str.ofString "many"].zip [Value.ref β, Value.int K t₀]).reverse.lookup y) (Str.ofString "many") = some (.int K t₀) := by rfl
  generalize (fun y => ([Str.ofString "box", Str.ofString "many"].zip [Value.ref β, Value.int K t₀]).reverse.lookup y) = m' at *
  have repOf : ∀ {ns' : List Int} {k' : Int} {bx' : Led}, BoxIs β l ns' k' bx' → Rep C' ⟨[(Str.ofString "box", .list [.list (ns'.map D.int), .int k']), (Str.ofString "many", .int K)], none, []⟩ m' [] rest bx' := by
    intro ns' k' bx' hb'
    refine box_rep hb' hoff ?_
    intro x d hx
    have hxd := mem_of_look hx
    simp only [List.mem_cons, List.not_mem_nil, or_false, Prod.mk.injEq] at hxd
    rcases hxd with ⟨rfl, rfl⟩ | ⟨rfl, rfl⟩
    · exact ⟨_, hbox, hb'.data Sub.refl⟩
    · exact ⟨_, hmany, .int _ _⟩
  have r' := repOf hbx
  have hlen : (ns.map D.int).length ≤ 1000000 := by obtain ⟨_, _, _, _, _, _, h⟩ := hbx; simpa using h
  refine wpAny_execs_cons (wpAny_If ?_)
  refine Tst.use (b := decide ((0 : Int) < ((ns.map D.int).length : Int))) (σ := ⟨[(Str.ofString "box", .list [.list (ns.map D.int), .int k]), (Str.ofString "many", .int K)], none, []⟩) ?_ ok' r' F' (news_sub N' fun p hp => by simp only [List.nil_append, List.mem_append] at hp ⊢; exact hp.symm) fun fz1 h1 tk1 r1 hs1 F1 N1 => ?_
  · refine Tst.gt (Ev.len (Ev.lget (i := 0) (by kct_strs) Ev.int rfl rfl (by decide) (by kas_types)) hlen rfl (by lsm_bools) rfl (by kas_types)) Ev.int (by kas_types)
  have N2 : News C'.h₀ C'.L h1 (bx ++ rest) := news_sub N1 fun p hp => by
    simp only [List.nil_append, List.mem_append] at hp ⊢
    rcases hp with hp | hp
    · exact .inr (hs1 p hp)
    · exact .inl hp
  clear N1 r1 hs1
  cases ns with
  | nil =>
    simp only [List.map_nil, List.length_nil]
    rw [if_neg (by decide)]
    refine wpAny_execs_nil ?_
    refine wpAny_execs_cons (wpAny_Assign_Subscript (Ev.use (d := .int ((k * 4099 + 12301) % 1000003)) (σ := ⟨[(Str.ofString "box", .list [.list (([] : List Int).map D.int), .int k]), (Str.ofString "many", .int K)], none, []⟩) ?_ ok' r' F1 (news_sub N2 fun p hp => by simp only [List.nil_append, List.mem_append] at hp ⊢; exact hp.symm) fun v fz3 h3 tk3 r3 hv3 hs3 F3 N3 => ?_) (by rfl))
    · refine Ev.mod (Ev.add (Ev.mul (Ev.lget (i := 1) (by kct_strs) Ev.int rfl rfl (by decide) (by kas_types)) Ev.int (by omega)) Ev.int) Ev.int (by decide)
    refine nameX_L F3 hbox (wpAny_Constant_int ?_) ok'.kind (by rfl) (by rfl)
    have N4 : News C'.h₀ C'.L h3 (bx ++ rest) := news_sub N3 fun p hp => by
      simp only [List.nil_append, List.mem_append] at hp ⊢
      rcases hp with hp | hp
      · exact .inr (hs3 p hp)
      · exact .inl hp
    clear N3 r3 hs3
    obtain ⟨t3, rfl⟩ := vint hv3
    obtain ⟨vs, n1, n2, t, rfl, hvs, _⟩ := hbx
    refine ki_set (its := #[.ref l, .int k t]) (n := n1) (q := [.ref l, .int ((k * 4099 + 12301) % 1000003) t3]) (D := β) F3 N4 (by decide) (by decide) rfl (Upd.head (rest_off hoff _ hβl)) fun h5 F5 N5 => ?_
    have hbx5 : BoxIs β l [] ((k * 4099 + 12301) % 1000003) [(β, listOf #[.ref l, .int ((k * 4099 + 12301) % 1000003) t3] n1), (l, listOf vs.toArray n2)] := ⟨vs, n1, n2, t3, rfl, hvs, by decide⟩
    have hk1 : 0 ≤ (k * 4099 + 12301) % 1000003 := Int.emod_nonneg _ (by decide)
    have hk2 : (k * 4099 + 12301) % 1000003 < 1000003 := Int.emod_lt_of_pos _ (by decide)
    generalize (k * 4099 + 12301) % 1000003 = k5 at *
    have r5 := repOf hbx5
    refine wpAny_execs_cons (wpAny_Return_some (Ev.use (d := .int (k5 / 16 % K)) (σ := ⟨[(Str.ofString "box", .list [.list (([] : List Int).map D.int), .int k5]), (Str.ofString "many", .int K)], none, []⟩) ?_ ok' r5 F5 (news_sub N5 fun p hp => by simp only [List.nil_append, List.mem_append, List.mem_cons, List.not_mem_nil, or_false] at hp ⊢; rcases hp with hp | hp | hp <;> simp [hp]) fun v fz6 h6 tk6 r6 hv6 hs6 F6 N6 => ?_))
    · refine Ev.mod (Ev.fdiv (Ev.lget (i := 1) (by kct_strs) Ev.int rfl rfl (by decide) (by kas_types)) Ev.int (by decide) (by decide)) (by kct_strs) hK
    have N7 : News C'.h₀ C'.L h6 ([(β, listOf #[.ref l, .int k5 t3] n1), (l, listOf vs.toArray n2)] ++ rest) := news_sub N6 fun p hp => by
      simp only [List.nil_append, List.mem_append] at hp ⊢
      rcases hp with hp | hp
      · exact .inr (hs6 p hp)
      · exact .inl hp
    obtain ⟨t6, rfl⟩ := vint hv6
    refine leave _ _ _ _ _ F6 N7 fun F8 N8 => ?_
    exact kk _ _ [] k5 _ _ _ (Int.emod_nonneg _ (by omega)) (Int.emod_lt_of_pos _ hK) hk1 hk2 hbx5 F8 N8
  | cons a ns =>
    rw [decide_eq_true (by simp)]
    simp only [if_true]
    obtain ⟨vs, n1, n2, t, rfl, hvs, hln⟩ := hbx
    simp only [List.map_cons] at hvs
    cases hvs with
    | @cons v vs _ _ hv hvs =>
    have hlv := lenRange hvs
    simp only [List.length_cons] at hln
    obtain ⟨ta, rfl⟩ := vint hv
    have hmem := N2 (β, listOf #[.ref l, .int k t] n1) (.head _)
    have hL : Heap.IsList h1 β #[.ref l, .int k t] := ⟨_, hmem.1, rfl, _, rfl⟩
    refine wpAny_execs_cons (wpAny_Return_some (wpAny_BinOp ?_))
    refine' MethodCall_ (pl := ?pl) (Subscript_ (nameX_L F1 hbox (wpAny_Constant_int (tail_any (Heap.IsList.typeIs hL) slot_list_getitem.lookup (wpAny_getItem_list hL (by decide) (by decide) (x := .ref l) rfl ?_) (by rfl))) ok'.kind (by rfl) (by rfl))) ?he
    case he => rfl
    refine kl_method (D := l) (its := (Value.int a ta :: vs).toArray) (n := n2) N2 (.tail _ (.head _)) PySem.F.slot_list_pop PySem.F.type_list_pop ?_
    refine callWith_method1 (args_cons (wpAny_Constant_int (args_nil ?_)) (by rfl)) (by rfl)
    refine kl_popAt (D := l) (its := (Value.int a ta :: vs).toArray) (n := n2) (k := 0) (p := []) (q := vs) (y := .int a ta) F1 N2 (by rfl) (by simp [seqIndex?]) (by rfl) (Upd.tail hβl (Upd.head fun p hp => (hoff p hp).2)) (by rw [PySem.sizeLine_eq]; simp; omega) fun h5 F5 N5 => ?_
    refine nameX_L F5 hmany ?_ ok'.kind (by rfl) (by rfl)
    refine mod_int' (by omega) ?_
    rw [Int.fmod_eq_emod_of_nonneg _ (by omega)]
    refine leave _ _ _ _ _ F5 N5 fun F8 N8 => ?_
    exact kk _ _ ns k _ _ _ (Int.emod_nonneg _ (by omega)) (Int.emod_lt_of_pos _ hK) hk0 hk9 ⟨vs, n1, _, t, rfl, hvs, by omega⟩ F8 N8
end
section
theorem intsAre_all {fz : Led} : ∀ {vs : List Value} {ns : List Int}, IntsAre vs ns → VAll fz vs (ns.map D.int)
  | _, _, .nil => .nil
  | _, _, .cons n t h => .cons (.int _ _) (intsAre_all h)
theorem intsAre_take : ∀ {vs : List Value} {ns : List Int} (j : Nat), IntsAre vs ns → IntsAre (vs.take j) (ns.take j)
  | _, _, 0, _ => .nil
  | _, _, _ + 1, .nil => .nil
  | _, _, j + 1, .cons n t h => .cons n t (intsAre_take j h)
theorem intsAre_len : ∀ {vs : List Value} {ns : List Int}, IntsAre vs ns → vs.length = ns.length
  | _, _, .nil => rfl
  | _, _, .cons n t h => by simp [intsAre_len h]
theorem base_slice {G : Glb} {n : Nat} {cs : Scope} {C : FC} {sc : Addr} {vs : List Value} {x : Str} {p1 p2 p3 pos : Pos} {m : Str → Option Value} {news : Led} {s : Shared} {Q : Value → Shared → Prop} {E : Value → Shared → Prop}
    (ok : C.Ok G n cs) (hl : C.h₀.IsList sc vs.toArray) (hlen : vs.length ≤ 1000) (hm : m x = some (.ref sc)) (hk : cs.names.lookup x = some .local) (hd : (x == ("__debug__" : Str)) = false) (F : Fr C.h₀ C.L s.heap m) (N : News C.h₀ C.L s.heap news)
    (k : ∀ h' tk' a, Fr C.h₀ C.L h' m → News C.h₀ C.L h' ((a, listOf (vs.take 30).toArray 0) :: news) → (∀ p ∈ news, p.1 ≠ a) → Q (.ref a) { s with heap := h', toks := tk' })
    {ck : Nat} (hs : ∀ a b, ∃ ops, subscripted (.Slice none (some (.Constant (.int 30) ck p2)) none p3) false (.ref a) (.ref b) = operate ops (getItem (.ref a) (.ref b))) :
    wpAny (model G.prog G.w) (C.A cs) (eval (.Subscript (.Name x p1) (.Slice none (some (.Constant (.int 30) ck p2)) none p3) pos) (C.env cs)) Q E s := by
  refine Subscript_ (nameX_L F hm (wpAny_Slice (evalPart_none_step (evalPart_some_step (wpAny_Constant_int (evalPart_none_step ?_))))) ok.kind hk hd)
  have hL : Heap.IsList s.heap sc vs.toArray := by obtain ⟨o, e, r⟩ := hl; exact ⟨o, F.keep _ _ e, r⟩
  generalize hv3 : Value.int 30 s.toks = v3
  have hv3' : IsPart v3 (some 30) := by rw [← hv3]; exact .int _ _
  let so : Obj := { cls := .type "slice", data := .fields #[.none, v3, .none] }
  obtain ⟨ops, hops⟩ := hs sc s.heap.objs.size
  have N5 : News C.h₀ C.L (s.heap.push so) news := fun q hq => ⟨Heap.get?_push_of_some _ (N q hq).1, (N q hq).2⟩
  refine tail_any (Heap.IsList.typeIs (s := { s with heap := s.heap.push so, toks := s.toks + 1 }) (hL.push _)) slot_list_getitem.lookup
    (wpAny_getItem_list_slice (hL.push _) (Heap.IsSliceOf.new ..) .none hv3' .none (by decide) ?_ (by rw [PySem.sizeLine_eq, List.size_toArray]; omega)) hops
  have e : slicePick vs.toArray none (some (30 : Int)) none = (vs.take 30).toArray := by rw [show (30 : Int) = ((30 : Nat) : Int) from rfl, slicePick_upto']
  rw [e]
  have F5 := F.push so
  have N6 := News.push F5 N5 (listOf (vs.take 30).toArray 0)
  exact k _ _ _ (F5.push _) N6 fun p hp => Nat.ne_of_lt (Heap.lt_size (N5 p hp).1)
theorem box_spec {sc : Addr} {vs : List Value} {ns : List Int} {rest : Led} {cs : Scope} {C : FC} {m : Str → Option Value} {s : Shared} {Q : Value → Shared → Prop} (hl : C.h₀.IsList sc vs.toArray) (hi : IntsAre vs ns) (hlen : ns.length ≤ 100)
    (ok : C.Ok (GG w mean mg mb) 3 cs) (F : Fr C.h₀ C.L s.heap m) (N : News C.h₀ C.L s.heap rest)
    (kk : ∀ β l ns' k' bx' h' tk', β ≠ l → (∀ q ∈ rest, q.1 ≠ β ∧ q.1 ≠ l) → 0 ≤ k' → k' < 1000003 → BoxIs β l ns' k' bx' → Fr C.h₀ C.L h' m → News C.h₀ C.L h' (bx' ++ rest) → Q (.ref β) { s with heap := h', toks := tk' }) :
    wpAny (model (GG w mean mg mb).prog (GG w mean mg mb).w) (C.A cs) (call (.ref 231) [.ref sc]) Q (fun _ _ => False) s := by
  have hlv := intsAre_len hi
  refine' enter (k := 2) (xs := [Str.ofString "script"]) ok F N ?ho ?hcd ?hb ?hloc ?hcell ?hco ?hgen ?hk ?hbody
  case ho => (show List.lookup _ (hd.heap_39 _) = _; k_is)
  case hcd => (show codeIn (hd.heap_39 _) _ _ = _; k_is)
  case hb => rfl
  case hloc => (dsimp only; decide)
  case hcell => (dsimp only; decide)
  case hco => rfl
  case hgen => rfl
  case hk => rfl
  intro C' Q' E' h₁ tk₁ ok' hkeep F' N' leave
  have hl' : C'.h₀.IsList sc vs.toArray := by obtain ⟨o, e, r⟩ := hl; exact ⟨o, hkeep _ _ e, r⟩
  have hscr : (fun y => ([Str.ofString "script"].zip [Value.ref sc]).reverse.lookup y) (Str.ofString "script") = some (.ref sc) := by rfl
  generalize (fun y => ([Str.ofString "script"].zip [Value.ref sc]).reverse.lookup y) = m' at *
  refine no_exc ?_
  have hz : ((vs.take 30).toArray).size ≤ sizeLine := by rw [PySem.sizeLine_eq, List.size_toArray, List.length_take]; omega
  refine wpAny_execs_cons (wpAny_Assign_Name (List_ (args_cons (LCg.ListComp_U (F₀ := F') (cl := []) (by with_unfolding_all rfl) (by decide) (by rfl) (by decide) (by rfl) ?_) (by rfl))) (by rfl))
  refine base_slice ok' hl' (by omega) hscr (by rfl) (by rfl) F' N' (fun h1 tk1 a F1 N1 hne => ?_) (fun _ _ => ⟨_, rfl⟩)
  refine LCg.CompSrc.ledger rfl F1 N1 (.head _) hz fun g => ?_
  refine kcf_list (fun z => if z < 0 then -z else z) (intsAre_take 30 hi) ?_ ?_
  · intro z t I oI Cc oC D m₂ ys h tk E'' hz' hC hx F2 N2 off ne _
    refine Call_ (LCgL.ld_built F2 ok'.kin ok'.top (by lsm_bools) (v := .builtin "abs") (by decide +kernel) (by decide) ?_)
    refine PyProof.Rows.callWith_builtin1 (args_cons (LCgL.ld_own N2 (.tail _ (.head _)) hC hx (args_nil ?_)) (by rfl)) (by rfl)
    refine call_abs_int fun u tk => ?_
    exact LCg.CompEnd.intro F2 N2 _ (fun p hp => hp) off (.inr ⟨_, .head _, rfl, _, rfl⟩) ⟨rfl, _, rfl⟩
  · show ∀ ys, _ → LCg.FinE _ _ _ _ _ _ _
    intro ys hys D h3 tk3 F3 N3 o3
    refine args_cons (wpAny_Constant_int (args_nil ?_)) (by rfl)
    refine newList_N F3 N3 (fun h4 F4 N4 => ?_) (by rw [PySem.sizeLine_eq]; show 2 ≤ _; decide)
    generalize hβ : h3.objs.size = β at N4 ⊢
    have hsz : ∀ p ∈ (D, LCg.lst ys) :: (a, listOf (vs.take 30).toArray 0) :: rest, p.1 ≠ β := fun p hp => by
      have h := Heap.lt_size (N3 p hp).1
      rw [hβ] at h
      exact Nat.ne_of_lt h
    refine storeX_L F4 N4 (fun h5 F5 N5 => ?_) ok'.kind (by rfl)
    have hβD : β ≠ D := fun e => hsz _ (.head _) e.symm
    have hrest : ∀ q ∈ (a, listOf (vs.take 30).toArray 0) :: rest, q.1 ≠ β ∧ q.1 ≠ D := fun q hq => by
      refine ⟨hsz q (.tail _ hq), ?_⟩
      have : ∀ {l : Led}, LCg.Off1 D l → ∀ q ∈ l, q.1 ≠ D := by
        intro l
        induction l with
        | nil => intro _ q hq; cases hq
        | cons p r ih =>
          intro h q hq
          rcases List.mem_cons.mp hq with rfl | hq
          · exact h.1
          · exact ih h.2 q hq
      exact this o3 q hq
    have hys' := intsAre_len hys
    have hbx : BoxIs β D ((ns.take 30).map fun z => if z < 0 then -z else z) 17 [(β, listOf #[.ref D, .int 17 tk3] 0), (D, listOf ys.toArray ys.length)] :=
      ⟨ys, 0, ys.length, tk3, rfl, intsAre_all hys, by simp; omega⟩
    generalize ((ns.take 30).map fun z => if z < 0 then -z else z) = ns1 at *
    have hbox : (fun y => if y = Str.ofString "box" then some (Value.ref β) else m' y) (Str.ofString "box") = some (.ref β) := by simp
    have hscr2 : (fun y => if y = Str.ofString "box" then some (Value.ref β) else m' y) (Str.ofString "script") = some (.ref sc) := by simp only [if_neg (show ¬ Str.ofString "script" = Str.ofString "box" by decide)]; exact hscr
    generalize (fun y => if y = Str.ofString "box" then some (Value.ref β) else m' y) = m5 at *
    refine wpAny_execs_cons (For_invVF (h₀ := C'.h₀) (m := m5) F5 (by rfl) (by rfl) ?_ (by kas_types) PassesOwn.never)
    refine base_slice ok' hl' (by omega) hscr2 (by rfl) (by rfl) F5 N5 (fun h6 tk6 a2 F6 N6 hne6 => ?_) (fun _ _ => ⟨_, rfl⟩)
    have hi30 := intsAre_take 30 hi
    have hne6' : ∀ q ∈ [(β, listOf #[.ref D, .int 17 tk3] 0), (D, listOf ys.toArray ys.length)] ++ ((a, listOf (vs.take 30).toArray 0) :: rest), q.1 ≠ a2 := fun q hq => hne6 q hq
    obtain ⟨rest2, hrest2⟩ : ∃ r : Led, r = (a2, listOf (vs.take 30).toArray 0) :: (a, listOf (vs.take 30).toArray 0) :: rest := ⟨_, rfl⟩
    have hmem2 : (a2, listOf (vs.take 30).toArray 0) ∈ rest2 := by rw [hrest2]; exact .head _
    have hoff2 : ∀ q ∈ rest2, q.1 ≠ β ∧ q.1 ≠ D := by
      rw [hrest2]
      intro q hq
      rcases List.mem_cons.mp hq with rfl | hq
      · exact ⟨fun e => hne6' _ (.head _) e.symm, fun e => hne6' _ (.tail _ (.head _)) e.symm⟩
      · exact hrest q hq
    have hsub2 : ∀ p ∈ rest, p ∈ rest2 := fun p hp => by rw [hrest2]; exact .tail _ (.tail _ hp)
    have N7 : News C'.h₀ C'.L h6 ([(β, listOf #[.ref D, .int 17 tk3] 0), (D, listOf ys.toArray ys.length)] ++ rest2) := news_sub N6 fun p hp => by
      rw [hrest2] at hp
      simp only [List.mem_append, List.mem_cons, List.not_mem_nil, or_false] at hp ⊢
      rcases hp with (hp | hp) | hp | hp | hp <;> simp [hp]
    refine kdl_iter (x := Str.ofString "number") (nn := 0) (vs := vs.take 30) (fun i m nx => m (Str.ofString "box") = some (.ref β) ∧ ∃ k bx, BoxIs β D ns1 k bx ∧ 0 ≤ k ∧ k < 1000003 ∧ nx = bx ++ rest2) rfl (List.mem_append_right _ hmem2) F6 N7 ⟨hbox, 17, _, hbx, by decide, by decide, rfl⟩ ?_ ?_
    · rintro i v m₁ nx h tk own hv hoffo hmemx ⟨hb, k, bx, hbx2, hk0, hk9, rfl⟩ F₁ N₁
      obtain ⟨z, t, rfl, hz1⟩ := IntsAre.at hi30 i v hv
      have hb1 : (fun y => if y = Str.ofString "number" then some (Value.int z t) else m₁ y) (Str.ofString "box") = some (.ref β) := by simp only [if_neg (show ¬ Str.ofString "box" = Str.ofString "number" by decide)]; exact hb
      have hb2 : (fun y => if y = Str.ofString "number" then some (Value.int z t) else m₁ y) (Str.ofString "number") = some (.int z t) := by simp
      generalize (fun y => if y = Str.ofString "number" then some (Value.int z t) else m₁ y) = m2 at *
      have hoff3 : ∀ q ∈ rest2 ++ own, q.1 ≠ β ∧ q.1 ≠ D := by
        intro q hq
        rcases List.mem_append.mp hq with hq | hq
        · exact hoff2 q hq
        · obtain ⟨_, _, _, _, rfl, _, _⟩ := hbx2
          exact ⟨hoffo q hq β (by simp), hoffo q hq D (by simp)⟩
      have r2 : Rep C' ⟨[(Str.ofString "box", .list [.list (ns1.map Mine.D.int), .int k]), (Str.ofString "number", .int z)], none, []⟩ m2 [] (rest2 ++ own) bx := by
        refine box_rep hbx2 hoff3 ?_
        intro x d hx
        have hxd := mem_of_look hx
        simp only [List.mem_cons, List.not_mem_nil, or_false, Prod.mk.injEq] at hxd
        rcases hxd with ⟨rfl, rfl⟩ | ⟨rfl, rfl⟩
        · exact ⟨_, hb1, hbx2.data Sub.refl⟩
        · exact ⟨_, hb2, .int _ _⟩
      refine wpAny_execs_cons (wpAny_Assign_Subscript (Ev.use (d := .int ((k * 37 + (z.natAbs : Int)) % 1000003)) (σ := ⟨[(Str.ofString "box", .list [.list (ns1.map Mine.D.int), .int k]), (Str.ofString "number", .int z)], none, []⟩) ?_ ok' r2 F₁ (news_sub N₁ fun p hp => by simp only [List.nil_append, List.mem_append] at hp ⊢; rcases hp with (hp | hp) | hp <;> simp [hp]) fun v fz3 h3 tk3 r3 hv3 hs3 F3 N3 => ?_) (by rfl))
      · refine Ev.mod (Ev.add (Ev.mul (Ev.lget (i := 1) (by kct_strs) Ev.int rfl rfl (by decide) (by kas_types)) Ev.int (by omega)) (Ev.abs (by kct_strs) rfl (by lsm_bools) rfl (by kas_types))) Ev.int (by decide)
      refine nameX_L F3 hb1 (wpAny_Constant_int ?_) ok'.kind (by rfl) (by rfl)
      have N4 : News C'.h₀ C'.L h3 (bx ++ (rest2 ++ own)) := news_sub N3 fun p hp => by
        simp only [List.nil_append, List.mem_append] at hp ⊢
        rcases hp with hp | hp | hp
        · exact .inr (hs3 p hp)
        · exact .inl (.inl hp)
        · exact .inl (.inr hp)
      clear N3 r3 hs3
      obtain ⟨t3, rfl⟩ := vint hv3
      obtain ⟨us, n1, n2, t', rfl, hus, hln⟩ := hbx2
      refine ki_set (its := #[.ref D, .int k t']) (n := n1) (q := [.ref D, .int ((k * 37 + (z.natAbs : Int)) % 1000003) t3]) (D := β) F3 N4 (by decide) (by decide) rfl (Upd.head (rest_off hoff3 _ hβD)) fun h7 F7 N7 => ?_
      refine wpAny_execs_nil ?_
      refine InvEndG.intro (nx := [(β, listOf #[.ref D, .int ((k * 37 + (z.natAbs : Int)) % 1000003) t3] n1), (D, listOf us.toArray n2)] ++ rest2) F7 N7 ⟨List.mem_append_right _ hmem2, hb1, _, _, ⟨us, n1, n2, t3, rfl, hus, hln⟩, Int.emod_nonneg _ (by decide), Int.emod_lt_of_pos _ (by decide), rfl⟩ ?_ ?_ ?_
      · intro p hp b hb
        refine hoffo p hp b ?_
        simpa using hb
      · intro p hp
        simp only [List.mem_append, List.mem_cons, List.not_mem_nil, or_false] at hp ⊢
        rcases hp with (hp | hp) | hp <;> simp [hp]
      · intro p hp
        simp [hp]
    · rintro m₁ nx h tk ⟨hb, k, bx, hbx2, hk0, hk9, rfl⟩ F₁ N₁
      refine wpAny_execs_cons (wpAny_Return_some (nameX_L F₁ hb ?_ ok'.kind (by rfl) (by rfl)))
      refine leave _ _ _ _ (bx ++ rest) F₁ (news_sub N₁ fun p hp => by
        rcases List.mem_append.mp hp with hp | hp
        · exact List.mem_append_left _ hp
        · exact List.mem_append_right _ (hsub2 p hp)) fun F8 N8 => ?_
      exact kk β D ns1 k bx _ _ hβD (fun q hq => hrest q (.tail _ hq)) hk0 hk9 hbx2 F8 N8
end
section
theorem closF (env : Env) (c : Addr) : ∀ (names : List (Str × NameKind)) (acc : List (Str × Addr)), (∀ p ∈ names, p.2 = .free → env.cells.lookup p.1 = some c) →
   (forIn names acc fun (x : Str × NameKind) (cs : List (Str × Addr)) => (if (x.2 == NameKind.free) = true then do
            let a ← cellOf env x.1
            pure (ForInStep.yield ((x.1, a) :: cs))
          else pure (ForInStep.yield cs) : Sem (ForInStep (List (Str × Addr))))) = pure ((names.filter fun p => p.2 == .free).foldl (fun l p => (p.1, c) :: l) acc)
  | [], acc, _ => rfl
  | (x, k) :: r, acc, h => by
    rw [List.forIn_cons]
    by_cases hk : k = .free
    · subst hk
      have h1 := h (x, .free) (.head _) rfl
      have ih := closF env c r ((x, c) :: acc) fun p hp => h p (.tail _ hp)
      have e1 : cellOf env x = pure c := by unfold cellOf; rw [show env.cells.lookup x = some c from h1]
      simp only [e1]
      exact ih
    · have ih := closF env c r acc fun p hp => h p (.tail _ hp)
      have e1 : (k == NameKind.free) = false := by cases k <;> first | rfl | exact absurd rfl hk
      simp only [e1]
      simp only [List.filter, e1]
      exact ih
theorem closure_one {scope : Scope} {env : Env} {x : Str} {c : Addr} (h : env.cells.lookup x = some c) (hn : ∀ p ∈ scope.names, p.2 = .free → p.1 = x) (hf : ((scope.names.filter fun p => p.2 == .free).map (·.1)) = [x]) : closureFor scope env = pure [(x, c)] := by
  unfold closureFor
  show (forIn scope.names [] fun (x : Str × NameKind) (cs : List (Str × Addr)) => (if (x.2 == NameKind.free) = true then do
            let a ← cellOf env x.1
            pure (ForInStep.yield ((x.1, a) :: cs))
          else pure (ForInStep.yield cs) : Sem (ForInStep (List (Str × Addr))))) >>= pure = _
  rw [closF env c scope.names [] fun p hp hk => by rw [hn p hp hk]; exact h]
  generalize (scope.names.filter fun p => p.2 == .free) = l at *
  cases l with
  | nil => cases hf
  | cons a r =>
    cases r with
    | nil => simp at hf; subst hf; rfl
    | cons b r => simp at hf
section
variable {G : Glb} {n : Nat} {cs : Scope} {σ : St}
theorem off3_of {C : FC} {m : Str → Option Value} {ow fr fz : Led} {I Cc D : Addr} {news : Led} (h : LCg.Off3 I Cc D news) : ∀ p ∈ news, p.1 ≠ I ∧ p.1 ≠ Cc ∧ p.1 ≠ D := h.mem
theorem off1_mem {D : Addr} : ∀ {l : Led}, LCg.Off1 D l → ∀ q ∈ l, q.1 ≠ D
  | [], _, q, hq => nomatch hq
  | p :: r, h, q, hq => by
    rcases List.mem_cons.mp hq with rfl | hq
    · exact h.1
    · exact off1_mem h.2 q hq
theorem VAll.getD {fz : Led} : ∀ {vs : List Value} {ds : List D} {i : Nat} {v : Value}, VAll fz vs ds → vs[i]? = some v → ∃ d, ds[i]? = some d ∧ VIn fz v d
  | _, _, i, v, .nil, h => by simp at h
  | _, _, 0, v, .cons h1 _, h => by simp at h; subst h; exact ⟨_, rfl, h1⟩
  | _, _, i + 1, v, .cons _ h2, h => by simpa using h2.getD (by simpa using h)

/-- a list made of the calls of a def, turn by turn -/
theorem Ex.comp {y x fn wn : Str} {px py p1 p2 p3 p4 pos spos : Pos} {iter : Expr} {scope : Scope} {α : Type} {zs : List α} {φ ψ : α → D} {f : Addr} {kf : Nat} {W : Int}
    (hi : Ev G n cs σ iter (.list (zs.map φ))) (hz : zs.length ≤ 1000000) (hw : σ.cells.lookup wn = some (.int W)) (hf : ∀ z ∈ zs, Spec G f kf [φ z, .int W] (ψ z)) (hfn : ∃ oc od fd osl, G.K.lookup f = some ⟨oc, od, .func fd, osl⟩) (hkf : kf ≤ n) (hg : nsIn G.K mainGlobals fn = some (some (.ref f)))
    (hy : cs.names.lookup y = some .local) (ho : σ.ownNot y = true)
    (hn : ∀ p ∈ scope.names, p.2 = .free → p.1 = wn) (hff : ((scope.names.filter fun p => p.2 == .free).map (·.1)) = [wn]) (hcell : ∀ z ∈ scope.names, z.2 ≠ .cell) (hkind : scope.kind = .function)
    (hnames : ∀ z ∈ scope.names, z.2 = .local → scope.names.lookup z.1 = some .local) (hx : scope.names.lookup x = some .local)
    (hsw : ∀ C : FC, swapsWith (.ListComp (.Call (.Name fn p1) [.Name x p2, .Name wn p3] [] p4) [⟨.Name x px, iter, [], 0⟩] scope pos) (some (.Name y py)) spos.line (C.env cs) = pure true)
    (hk1 : ∀ (C : FC) cl Cc, (compEnvC scope cl Cc (C.env cs)).scope.kind = .function) (hk2 : ∀ (C : FC) cl Cc, (compEnvC scope cl Cc (C.env cs)).kindOf x = some .local)
    (hk3 : ∀ (C : FC) cl Cc, (compEnvC scope cl Cc (C.env cs)).kindOf fn = some .globalImplicit) (hk4 : ∀ (C : FC) cl Cc, (compEnvC scope cl Cc (C.env cs)).kindOf wn = some .cell)
    (hd1 : (x == ("__debug__" : Str)) = false) (hd2 : (fn == ("__debug__" : Str)) = false) (hd3 : (wn == ("__debug__" : Str)) = false)
    (hs : ∀ env v, foldedSetIterable iter env v = pure v) (he1 : ∀ env, starEach [.Name x p2, .Name wn p3] env = (false, eval (.Name x p2) env) :: starEach [.Name wn p3] env) (he2 : ∀ env, starEach [.Name wn p3] env = (false, eval (.Name wn p3) env) :: starEach [] env)
    (hc : ∀ env, eval (.Call (.Name fn p1) [.Name x p2, .Name wn p3] [] p4) env = (do callWith p4 (← eval (.Name fn p1) env) [] (backTo p4 (starEach [.Name x p2, .Name wn p3] env)) (backToKw p4 (keywordEach [] env)))) :
    Ex G n cs σ (.Assign [.Name y py] (.ListComp (.Call (.Name fn p1) [.Name x p2, .Name wn p3] [] p4) [⟨.Name x px, iter, [], 0⟩] scope pos) spos) .next (σ.set y (.list (zs.map ψ))) :=
  Ex.intro fun C m ow fr fz s Q ok r F N k => by
    obtain ⟨c, vw, o, hc1, hc2, hc3, hc4⟩ := r.cells wn _ hw
    obtain ⟨tw, rfl⟩ := vint hc4
    refine LCg.Assign_ListComp_U (F₀ := F) (cl := [(wn, c)]) rfl (hsw C) (closure_one hc1 hn hff) hcell hkind hnames hx hy (by show (cs.kind == .class || (cs.kind == .module && _)) = false; rw [ok.kind]; rfl) (hi.use ok r F N fun v fz1 h1 tk1 r1 hv1 hs1 F1 N1 => ?_) (hs _)
    cases hv1 with
    | @list a vs nn _ hm ha =>
    have hlen := ha.length
    simp only [List.length_map] at hlen
    refine LCg.CompSrc.ledger rfl F1 N1 (List.mem_append_right _ (List.mem_append_right _ hm)) (by rw [PySem.sizeLine_eq, List.size_toArray]; omega) fun g' => ?_
    have key : ∀ (j i : Nat) (ys : List Value) (fz' : Led), i + j = vs.length → VAll fz' ys ((zs.take i).map ψ) → Sub fz1 fz' → Rep C σ m ow fr fz' →
        LCg.CompRest G.prog G.w (C.A cs) C.h₀ C.L m (C.env cs) (.Call (.Name fn p1) [.Name x p2, .Name wn p3] [] p4) x scope [(wn, c)] { s with heap := g', toks := tk1 } (LCg.SrcAt C.h₀ a vs.toArray) (fun i v => vs.toArray[i]? = some v)
          (LCg.FinA C.h₀ C.L m { s with heap := g', toks := tk1 } y Q) j i ys (ow ++ (fr ++ fz')) := by
      intro j
      induction j with
      | zero =>
        intro i ys fz' hij hy' hsub r'
        refine LCg.CompRest.zero ?_
        intro D h tk FD ND oD
        have hi' : i = zs.length := by omega
        subst hi'
        rw [List.take_length] at hy'
        have offD := off1_mem oD
        have r2 : Rep C σ m ow fr ((D, listOf ys.toArray ys.length) :: fz') := r'.grow Sub.cons (by
          intro p hp q hq
          rcases List.mem_cons.mp hp with rfl | hp
          · intro e
            refine offD q ?_ e.symm
            rcases List.mem_append.mp hq with hq | hq
            · exact List.mem_append_left _ hq
            · exact List.mem_append_right _ (List.mem_append_left _ hq)
          · exact r'.off p hp q hq)
        exact k .next _ ow ((D, listOf ys.toArray ys.length) :: fz') h tk (r2.set (.list (.head _) (hy'.mono Sub.cons)) ho) trivial ((hs1.trans hsub).trans Sub.cons) FD (news_in ND)
      | succ j ih =>
        intro i ys fz' hij hy' hsub r'
        refine LCg.CompRest.succ ?_
        intro v I oI Cc oC D m₂ h tk E' hv hC hx' F2 N2 off ne
        obtain ⟨d, hd, hV⟩ := (ha.mono hsub).getD (i := i) (v := v) (by simpa using hv)
        obtain ⟨z, hzi, rfl⟩ : ∃ z, zs[i]? = some z ∧ d = φ z := by
          rw [List.getElem?_map] at hd
          cases hz : zs[i]? with
          | none => rw [hz] at hd; cases hd
          | some z => rw [hz] at hd; exact ⟨z, rfl, (Option.some.inj hd).symm⟩
        have hS := hf z (List.mem_of_getElem? hzi)
        obtain ⟨oc, od, fd, osl, hlf⟩ := hfn
        have hcm : (c, o) ∈ (I, oI) :: (Cc, oC) :: (D, LCg.lst ys) :: (ow ++ (fr ++ fz')) := .tail _ (.tail _ (.tail _ (List.mem_append_right _ (List.mem_append_right _ (hsub _ (hs1 _ hc2))))))
        refine Call_ (LCgL.ld_global F2 ok.kin ok.top hg ?_ rfl (hk1 C _ _) (hk3 C _ _) hd2) (hc _)
        refine callWith_def (o := ⟨oc, od, .func fd, osl⟩) (fd := fd) rfl (args_cons (LCgL.ld_own N2 (.tail _ (.head _)) hC hx' (args_cons (lcf_cell N2 (by simp) hcm hc3 (args_nil ⟨(ok.kin.keeps F2.keep) _ _ hlf, ?_⟩) (hk1 C _ _) (hk4 C _ _) hd3) (he2 _)) (hk1 C _ _) (hk2 C _ _) hd1) (he1 _)) (he1 _)
        have off3 := off.mem
        have hoff : Off fz' ((I, oI) :: (Cc, oC) :: (D, LCg.lst ys) :: (ow ++ fr)) := by
          intro p hp q hq
          have hpp := off3 p (List.mem_append_right _ (List.mem_append_right _ hp))
          rcases List.mem_cons.mp hq with rfl | hq
          · exact hpp.1
          · rcases List.mem_cons.mp hq with rfl | hq
            · exact hpp.2.1
            · rcases List.mem_cons.mp hq with rfl | hq
              · exact hpp.2.2
              · exact r'.off p hp q hq
        refine no_exc (hS.2 cs C m ((I, oI) :: (Cc, oC) :: (D, LCg.lst ys) :: (ow ++ fr)) fz' [v, .int W tw] _ _ (ok.le hkf) hoff (.cons hV (.cons (.int _ _) .nil)) F2 (by rw [← List.append_assoc] at N2; exact N2) fun v' fz3 h3 tk3 ho3 hv3 hs3 F3 N3 => ?_)
        have r3 : Rep C σ m ow fr fz3 := r'.grow hs3 fun p hp q hq => ho3 p hp q (.tail _ (.tail _ (.tail _ hq)))
        refine LCg.CompEnd.intro F3 N3 (ow ++ (fr ++ fz3)) (fun p hp => ?_) (LCg.Off3.of fun p hp => ?_) (.inr ⟨_, List.mem_append_right _ (List.mem_append_right _ (hs3 _ (hsub _ hm))), rfl, _, rfl⟩) ?_
        · rw [← List.append_assoc] at hp; exact hp
        · rcases List.mem_append.mp hp with hp | hp
          · exact off3 p (List.mem_append_left _ hp)
          · rcases List.mem_append.mp hp with hp | hp
            · exact off3 p (List.mem_append_right _ (List.mem_append_left _ hp))
            · exact ⟨ho3 p hp _ (.head _), ho3 p hp _ (.tail _ (.head _)), ho3 p hp _ (.tail _ (.tail _ (.head _)))⟩
        · refine ih (i + 1) _ fz3 (by omega) ?_ (hsub.trans hs3) r3
          rw [List.take_add_one, hzi]
          simpa using (hy'.mono hs3).append (.cons hv3 .nil)
    have hfin := key vs.length 0 [] fz1 (by omega) (by simp only [List.take_zero, List.map_nil]; exact .nil) .refl r1
    rw [show vs.toArray.size = vs.length from List.size_toArray ..]
    exact hfin
end
end
section
section
variable {G : Glb} {n : Nat} {cs : Scope} {σ : St}
theorem Tst.compNone {x : Str} {px p1 p2 p3 p4 pos lp cpos : Pos} {ck : Nat} {iter : Expr} {scope : Scope} {ns : List Int}
    (hi : Ev G n cs σ iter (.list (ns.map D.int))) (hz : ns.length ≤ 1000000) (hall : ∀ z ∈ ns, 1 ≤ z) (h7 : 7 ≤ n)
    (hclos : ∀ C : FC, closureFor scope (C.env cs) = pure []) (hcell : ∀ z ∈ scope.names, z.2 ≠ .cell) (hkind : scope.kind = .function)
    (hnames : ∀ z ∈ scope.names, z.2 = .local → scope.names.lookup z.1 = some .local) (hx : scope.names.lookup x = some .local)
    (hk1 : ∀ (C : FC) cl Cc, (compEnvC scope cl Cc (C.env cs)).scope.kind = .function) (hk2 : ∀ (C : FC) cl Cc, (compEnvC scope cl Cc (C.env cs)).kindOf x = some .local)
    (hd1 : (x == ("__debug__" : Str)) = false) (hs : ∀ env v, foldedSetIterable iter env v = pure v) :
    Tst G n cs σ (.Compare (.ListComp (.Name x p1) [⟨.Name x px, iter, [.Compare (.Name x p2) [.Lt] [.Constant (.int 1) ck p3] p4], 0⟩] scope pos) [.NotEq] [.List [] lp] cpos) false :=
  Tst.intro fun C m ow fr fz s Q ok r F N k => by
    refine wpAny_isTrue_Compare1 (LCt.ListComp_T (F₀ := F) (cl := []) (hclos C) hcell hkind hnames hx (hi.use ok r F N fun v fz1 h1 tk1 r1 hv1 hs1 F1 N1 => ?_) (hs _)) (by rfl)
    cases hv1 with
    | @list a vs nn _ hm ha =>
    have hlen := ha.length
    simp only [List.length_map] at hlen
    refine LCt.CompSrcT.ledger rfl F1 N1 (List.mem_append_right _ (List.mem_append_right _ hm)) (by rw [PySem.sizeLine_eq, List.size_toArray]; omega) fun g' => ?_
    rw [show vs.toArray.size = vs.length from List.size_toArray ..]
    suffices key : ∀ (j i : Nat), i + j = vs.length → LCt.CompRestT G.prog G.w (C.A cs) C.h₀ C.L m (C.env cs) _ _ x scope [] { s with heap := g', toks := tk1 } (LCg.SrcAt C.h₀ a vs.toArray) (fun i v => vs.toArray[i]? = some v) _ j i [] (ow ++ (fr ++ fz1)) from key vs.length 0 (by omega)
    intro j
    induction j with
    | zero =>
      intro i hij
      refine LCt.CompRestT.zero ?_
      intro D h tk FD ND oD
      refine List_ (args_nil (newList_N FD ND (fun h4 F4 N4 => ?_) (Nat.zero_le _)))
      refine ne_intsK (vs := []) (us := []) ⟨_, (N4 _ (.tail _ (.head _))).1, rfl, _, rfl⟩ .nil ⟨_, (N4 _ (.head _)).1, rfl, _, rfl⟩ .nil (by show C.un + 64 < cLine; have := ok.units; omega) ?_
      refine wpAny_truthy_bool ?_
      exact k fz1 h4 _ r1 hs1 F4 (news_sub N4 fun p hp => .tail _ (.tail _ hp))
    | succ j ih =>
      intro i hij
      refine LCt.CompRestT.succ ?_
      intro v I oI Cc oC D m₂ h tk E' hv hC hx' F2 N2 off ne
      obtain ⟨d, hd, hV⟩ := ha.getD (i := i) (v := v) (by simpa using hv)
      obtain ⟨z, hzm, rfl⟩ : ∃ z ∈ ns, d = .int z := by
        have := List.mem_of_getElem? hd
        obtain ⟨z, h1, h2⟩ := List.mem_map.mp this
        exact ⟨z, h1, h2.symm⟩
      obtain ⟨t, rfl⟩ := vint hV
      refine wpAny_isTrue_Compare1 (LCgL.ld_own N2 (.tail _ (.head _)) hC hx' (wpAny_Constant_int (lt_int (wpAny_truthy_bool ?_))) (hk1 C _ _) (hk2 C _ _) hd1) (by rfl)
      rw [decide_eq_false (show ¬ z < 1 by have := hall z hzm; omega)]
      rw [if_neg (by decide)]
      exact LCg.CompEnd.intro F2 N2 (ow ++ (fr ++ fz1)) (fun p hp => hp) off (.inr ⟨_, List.mem_append_right _ (List.mem_append_right _ hm), rfl, _, rfl⟩) (ih (i + 1) (by omega))
end
end
section
theorem fn_inj {K : Frag} {f : Addr} {name qual : Str} {params : Arguments} {body : List Stmt} {scope : Scope} {dV kV doc pm cdv ct oc : Value} {an od : Option Addr} {osl : Array (Option Value)}
    {name' qual' : Str} {params' : Arguments} {body' : List Stmt} {scope' : Scope} {dV' kV' doc' pm' cdv' ct' oc' : Value} {an' od' : Option Addr} {osl' : Array (Option Value)} {P : List Stmt → Scope → Prop}
    (h1 : K.lookup f = some ⟨oc, od, .func (fnOf name qual params body scope dV kV doc pm an cdv ct), osl⟩) (h2 : K.lookup f = some ⟨oc', od', .func (fnOf name' qual' params' body' scope' dV' kV' doc' pm' an' cdv' ct'), osl'⟩) (k : P body' scope') : P body scope := by
  rw [h1] at h2
  injection h2 with h2
  injection h2 with _ _ h2 _
  injection h2 with h2
  injection h2 with _ _ _ h3 h4
  injection h3 with h3
  subst h3 h4
  exact k
theorem there_of {K : Frag} {f : Addr} {name qual : Str} {params : Arguments} {body : List Stmt} {scope : Scope} {dV kV doc pm cdv ct oc : Value} {an od : Option Addr} {osl : Array (Option Value)}
    (h : K.lookup f = some ⟨oc, od, .func (fnOf name qual params body scope dV kV doc pm an cdv ct), osl⟩) : ∃ oc od fd osl, K.lookup f = some ⟨oc, od, .func fd, osl⟩ := ⟨_, _, _, _, h⟩
theorem there_231 (w : World) : ∃ oc od fd osl, (hd.heap_39 w.params).lookup 231 = some ⟨oc, od, .func fd, osl⟩ := by
  refine' there_of ?h
  case h => (show List.lookup _ (hd.heap_39 _) = _; k_is)
theorem there_226 (w : World) : ∃ oc od fd osl, (hd.heap_39 w.params).lookup 226 = some ⟨oc, od, .func fd, osl⟩ := by
  refine' there_of ?h
  case h => (show List.lookup _ (hd.heap_39 _) = _; k_is)
theorem Rep.frAddr {C : FC} {σ : St} {m : Str → Option Value} {ow fr fr' fz : Led} (r : Rep C σ m ow fr fz) (h : ∀ q ∈ fr', ∃ q' ∈ fr, q'.1 = q.1) : Rep C σ m ow fr' fz where
  vars := r.vars
  own := r.own
  cells := r.cells
  off := fun p hp q hq e => by
    rcases List.mem_append.mp hq with hq | hq
    · exact r.off p hp q (List.mem_append_left _ hq) e
    · obtain ⟨q', h1, h2⟩ := h q hq
      exact r.off p hp q' (List.mem_append_right _ h1) (e.trans h2.symm)
  off2 := fun p hp q hq e => by
    obtain ⟨q', h1, h2⟩ := h q hq
    exact r.off2 p hp q' h1 (e.trans h2.symm)
theorem BoxIs.there {β l : Addr} {ns : List Int} {k : Int} {bx : Led} (h : BoxIs β l ns k bx) : (∃ q ∈ bx, q.1 = β) ∧ (∃ q ∈ bx, q.1 = l) := by
  obtain ⟨vs, n1, n2, t, rfl, _, _⟩ := h
  exact ⟨⟨_, .head _, rfl⟩, ⟨_, .tail _ (.head _), rfl⟩⟩
theorem BoxIs.same {β l : Addr} {ns ns' : List Int} {k k' : Int} {bx bx' : Led} (h : BoxIs β l ns k bx) (h' : BoxIs β l ns' k' bx') : ∀ q ∈ bx', ∃ q' ∈ bx, q'.1 = q.1 := by
  intro q hq
  rcases h'.addr q hq with e | e <;> rw [e]
  · exact h.there.1
  · exact h.there.2
theorem walks2 {G : Glb} {A : Around} (hh : A.handled = none) (I : Addr) : Walks G.prog G.w A I [I] [I] 2 (fun i v => i < 2 ∧ ∃ t, v = .int (0 + (i : Int) * 1) t)
      (fun i h => IsRangeIter h I (0 + (i : Nat) * 1) (((2 : Nat) : Int) - (i : Nat)) 1) := (Walks.range hh I 0 1 2).bound
theorem convs_length : ∀ (ts : List Int) (a b c d : Int), (convs a b c d ts).length = ts.length
  | [], _, _, _, _ => rfl
  | t :: ts, a, b, c, d => by simp [convs, convs_length ts]
local macro_rules | `(tactic| mem_news) => `(tactic| first | assumption)
theorem law_walk {name qual : Str} {params : Arguments} {body : List Stmt} {scope : Scope} {dV kV doc pm cdv ct oc : Value} {an od : Option Addr} {osl : Array (Option Value)}
    (ho : (hd.heap_39 w.params).lookup 278 = some ⟨oc, od, .func (fnOf name qual params body scope dV kV doc pm an cdv ct), osl⟩) (C : FC) (Q : Flow → Shared → Prop) (s : Shared) {m : Str → Option Value} {c sc : Addr} {o : Obj} {v₀ : Option Value} {vs : List Value} {ns : List Int} (ok : C.Ok (GG w mean mg mb) 8 scope)
    (hcl : C.cl.lookup (Str.ofString "w") = some c) (F : Fr C.h₀ C.L s.heap m) (N : News C.h₀ C.L s.heap [(c, o)]) (hod : o.data = .cell v₀) (hm : m (Str.ofString "script") = some (.ref sc)) (hl : C.h₀.IsList sc vs.toArray) (hi : IntsAre vs ns) (hlen : ns.length ≤ 100)
    (kk : ∀ m' h' tk' news', Fr C.h₀ C.L h' m' → News C.h₀ C.L h' news' → Q (.ret (.bool true)) { s with heap := h', toks := tk' }) :
    wpAny (model (GG w mean mg mb).prog (GG w mean mg mb).w) (C.A scope) (execs body (C.env scope)) Q (fun _ _ => False) s := by
  revert ok
  refine' fn_inj (P := fun body scope => C.Ok (GG w mean mg mb) 8 scope → wpAny (model (GG w mean mg mb).prog (GG w mean mg mb).w) (C.A scope) (execs body (C.env scope)) Q (fun _ _ => False) s) ho ?h2 ?k
  case h2 => (show List.lookup _ (hd.heap_39 _) = _; k_is)
  intro ok
  obtain ⟨oc1, od1, fd1, osl1, f231⟩ := there_231 w
  obtain ⟨oc2, od2, fd2, osl2, f226⟩ := there_226 w
  refine wpAny_execs_cons (wpAny_Assign_Name (Call_ (nameX_K F ok.kin (topRead_of ok.top) (by lsm_bools) ?_ ok.kind (by rfl))) (by rfl))
  refine callWith_def (o := ⟨oc1, od1, .func fd1, osl1⟩) (fd := fd1) rfl (args_cons (nameX_L F hm (args_nil ⟨(ok.kin.keeps F.keep) _ _ f231, ?_⟩) ok.kind (by rfl) (by rfl)) (by rfl)) (by rfl)
  refine no_exc (box_spec hl hi hlen (ok.le (by decide)) F N fun β l ns1 k1 bx h1 tk1 hβl hoff hk0 hk9 hbx F1 N1 => ?_)
  refine storeX_L F1 N1 (fun h2 F2 N2 => ?_) ok.kind (by rfl)
  dsimp only
  have hβ : (fun y => if y = Str.ofString "box" then some (Value.ref β) else m y) (Str.ofString "box") = some (.ref β) := by simp
  generalize (fun y => if y = Str.ofString "box" then some (Value.ref β) else m y) = m2 at *
  refine wpAny_execs_cons (wpAny_Assign_Name (wpAny_BinOp (wpAny_Constant_int (Call_ (nameX_K F2 ok.kin (topRead_of ok.top) (by lsm_bools) ?_ ok.kind (by rfl))))) (by rfl))
  refine callWith_def (o := ⟨oc2, od2, .func fd2, osl2⟩) (fd := fd2) rfl (args_cons (nameX_L F2 hβ (args_cons (wpAny_Constant_int (args_nil ⟨(ok.kin.keeps F2.keep) _ _ f226, ?_⟩)) (by rfl)) ok.kind (by rfl) (by rfl)) (by rfl)) (by rfl)
  refine no_exc (take_spec (by decide) (by decide) hβl hoff hbx hk0 hk9 (ok.le (by decide)) F2 N2 fun i8 t8 ns3 k3 bx3 h3 tk3 hi0 hi8 hk30 hk39 hbx3 F3 N3 => ?_)
  refine add_int ?_
  have hoc := hoff (c, o) (.head _)
  obtain ⟨vs3, n31, n32, t3, hbe3, hvs3, hln3⟩ := id hbx3
  rw [hbe3] at N3
  refine storeX_C F3 N3 hcl (UpdF.tail hoc.1.symm (UpdF.tail hoc.2.symm (UpdF.head fun _ h => nomatch h))) hod (fun h4 o4 F4 N4 hd4 => ?_) ok.kind (by rfl)
  have N4' : News C.h₀ C.L h4 (bx3 ++ [(c, o4)]) := by rw [hbe3]; exact N4
  obtain ⟨W, hW⟩ : ∃ W : Nat, (2 + i8 : Int) = (W : Int) := ⟨(2 + i8).toNat, by omega⟩
  have hW2 : 2 ≤ W := by omega
  have hW9 : W ≤ 9 := by omega
  rw [hW] at hd4
  have rep0 : Rep C ⟨[(Str.ofString "box", .fn β)], none, [(Str.ofString "w", .int (W : Int))]⟩ m2 [] bx3 [(c, o4)] := by
    refine ⟨?_, rfl, ?_, ?_, fun _ hp => absurd hp List.not_mem_nil⟩
    · intro x d hx
      have hxd := mem_of_look hx
      simp only [List.mem_cons, List.not_mem_nil, or_false, Prod.mk.injEq] at hxd
      obtain ⟨rfl, rfl⟩ := hxd
      exact ⟨_, hβ, .fn _⟩
    · intro x d hx
      have hxd := mem_of_look hx
      simp only [List.mem_cons, List.not_mem_nil, or_false, Prod.mk.injEq] at hxd
      obtain ⟨rfl, rfl⟩ := hxd
      exact ⟨c, _, o4, hcl, .head _, hd4, .int _ _⟩
    · intro p hp q hq
      rw [List.mem_singleton.mp hp]
      rcases hbx3.addr q (by simpa using hq) with e | e <;> rw [e]
      · exact hoc.1
      · exact hoc.2
  clear N4 N3 N2 N1 hbe3
  dsimp only
  refine wpAny_execs_cons (For_invVF (h₀ := C.h₀) (m := m2) F4 (by rfl) (by show (ScopeKind.function == .class || (ScopeKind.function == .module && _)) = false; rfl) (Call_ (nameX_B F4 ok.kin (topRead_of ok.top) (by lsm_bools) (v := .type "range") (by decide +kernel) (by decide) ?_ ok.kind (by rfl)) (by rfl)) (by kas_types) PassesOwn.never)
  refine PyProof.Rows.callWith_type1 (args_cons (wpAny_Constant_int (args_nil (call_rangeD (fz := []) (ds := [.int 2]) (.one (by decide) (by decide)) (.cons (.int _ _) .nil) F4 N4' fun h5 tk5 t u v R F5 N5 => ?_))) (by rfl)) (by rfl) (by rfl)
  refine wpAny_pyIter_range R (by decide) ?_
  refine kdr_loop (news := bx3 ++ [(c, o4)]) (fun i m nx => ∃ ns k bx fz, nx = bx ++ fz ∧ BoxIs β l ns k bx ∧ 0 ≤ k ∧ k < 1000003 ∧ Rep C ⟨[(Str.ofString "box", .fn β)], none, [(Str.ofString "w", .int (W : Int))]⟩ m [] bx fz) (walks2 (G := GG w mean mg mb) rfl h5.objs.size) (fun _ h => h) (fun _ h => h) ?_ ?_ ?_ ?_ (by show IsRangeIter _ _ _ _ _; rw [show Builtin.Range.rangeSize 0 2 1 = ((2 : Nat) : Int) from by decide]; simpa using Heap.get?_push_size _ rfl) (F5.push _) (fun p hp => ⟨Heap.get?_push_of_some _ (N5 p hp).1, (N5 p hp).2⟩) ⟨ns3, k3, bx3, [(c, o4)], rfl, hbx3, hk30, hk39, rep0⟩ ?_ ?_
  · intro i h hi b hb
    rw [List.mem_singleton.mp hb]
    exact ⟨_, hi⟩
  · intro hm
    exact absurd F5.ns.lt ((List.mem_singleton.mp hm) ▸ Nat.lt_irrefl _)
  · intro b hb
    rw [List.mem_singleton.mp hb]
    exact next_is_new F5
  · intro p hp hI
    exact absurd (Heap.lt_size (N5 p hp).1) ((List.mem_singleton.mp hI) ▸ Nat.lt_irrefl _)
  · rintro i v m₁ nx h tk own hi2 ⟨_, tt, rfl⟩ hoffo ⟨ns6, k6, bx6, fz6, rfl, hbx6, hk60, hk69, r6⟩ F₁ N₁
    have r7 := (r6.more hoffo).set (x := Str.ofString "turn") (v := .int (0 + (i : Int) * 1) tt) (.int _ _) rfl
    have r8 : Rep C ⟨[(Str.ofString "box", .fn β)], none, [(Str.ofString "w", .int (W : Int))]⟩ _ [] (own ++ bx6) fz6 := r7.le (by k_clsL)
    clear r7
    generalize (fun y => if y = Str.ofString "turn" then some (Value.int (0 + (i : Int) * 1) tt) else m₁ y) = m6 at *
    have hbox6 : m6 (Str.ofString "box") = some (.ref β) := by
      obtain ⟨v, e1, e2⟩ := r8.vars (Str.ofString "box") (.fn β) rfl
      cases e2
      exact e1
    obtain ⟨⟨q1, hq1, hqe1⟩, q2, hq2, hqe2⟩ := hbx6.there
    have hownne : ∀ p ∈ own, p.1 ≠ β ∧ p.1 ≠ l := fun p hp => ⟨fun e => hoffo p hp q1.1 (List.mem_map.mpr ⟨q1, List.mem_append_left _ hq1, rfl⟩) (e.trans hqe1.symm), fun e => hoffo p hp q2.1 (List.mem_map.mpr ⟨q2, List.mem_append_left _ hq2, rfl⟩) (e.trans hqe2.symm)⟩
    have hoffR : ∀ q ∈ fz6 ++ own, q.1 ≠ β ∧ q.1 ≠ l := fun q hq => by
      rcases List.mem_append.mp hq with hq | hq
      · exact ⟨fun e => r6.off q hq q1 hq1 (e.trans hqe1.symm), fun e => r6.off q hq q2 hq2 (e.trans hqe2.symm)⟩
      · exact hownne q hq
    have N₂ : News C.h₀ C.L h (bx6 ++ (fz6 ++ own)) := by rw [← List.append_assoc]; exact N₁
    refine wpAny_execs_cons (Assign_Tuple_swapped (names := [Str.ofString "a", Str.ofString "b"]) (Tuple_ (args_cons (wpAny_BinOp (Call_ (nameX_K F₁ ok.kin (topRead_of ok.top) (by lsm_bools) ?_ ok.kind (by rfl)) (by rfl))) (by rfl))) (by rfl) (by with_unfolding_all rfl))
    refine callWith_def (o := ⟨oc2, od2, .func fd2, osl2⟩) (fd := fd2) rfl (args_cons (nameX_L F₁ hbox6 (args_cons (wpAny_Constant_int (args_nil ⟨(ok.kin.keeps F₁.keep) _ _ f226, ?_⟩)) (by rfl)) ok.kind (by rfl) (by rfl)) (by rfl)) (by rfl)
    refine no_exc (take_spec (by decide) (by decide) hβl hoffR hbx6 hk60 hk69 (ok.le (by decide)) F₁ N₂ fun i9 t9 ns7 k7 bx7 h7 tk7 hi90 hi99 hk70 hk79 hbx7 F7 N7 => ?_)
    refine wpAny_Constant_int (sub_int ?_)
    refine args_cons (wpAny_BinOp (wpAny_Constant_int (Call_ (nameX_K F7 ok.kin (topRead_of ok.top) (by lsm_bools) ?_ ok.kind (by rfl)) (by rfl)))) (by rfl)
    refine callWith_def (o := ⟨oc2, od2, .func fd2, osl2⟩) (fd := fd2) rfl (args_cons (nameX_L F7 hbox6 (args_cons (wpAny_Constant_int (args_nil ⟨(ok.kin.keeps F7.keep) _ _ f226, ?_⟩)) (by rfl)) ok.kind (by rfl) (by rfl)) (by rfl)) (by rfl)
    refine no_exc (take_spec (by decide) (by decide) hβl hoffR hbx7 hk70 hk79 (ok.le (by decide)) F7 N7 fun i10 t10 ns8 k8 bx8 h8 tk8 hi100 hi109 hk80 hk89 hbx8 F8 N8 => ?_)
    refine add_int (args_nil ?_)
    dsimp only
    have r9 : Rep C ⟨[(Str.ofString "box", .fn β)], none, [(Str.ofString "w", .int (W : Int))]⟩ m6 [] (own ++ bx8) fz6 := r8.frAddr fun q hq => by
      rcases List.mem_append.mp hq with hq | hq
      · exact ⟨q, List.mem_append_left _ hq, rfl⟩
      · obtain ⟨q', h1, h2⟩ := hbx6.same hbx8 q hq
        exact ⟨q', List.mem_append_right _ h1, h2⟩
    have N9 : News C.h₀ C.L h8 ([] ++ ((own ++ bx8) ++ fz6)) := news_sub N8 fun p hp => by
      simp only [List.nil_append, List.mem_append] at hp ⊢
      rcases hp with (hp | hp) | hp <;> simp [hp]
    refine newTuple_N (news := [] ++ ((own ++ bx8) ++ fz6)) F8 N9 (fun h10 F10 N10 => ?_) (by rw [PySem.sizeLine_eq]; show 2 ≤ _; decide)
    have hmm := N10 _ (.head _)
    have N10' := news_in N10
    refine unpackItemsN_ F10 N10' ⟨_, hmm.1, rfl, _, rfl⟩ rfl (by rfl) fun h11 F11 N11 => ?_
    obtain ⟨av, hav⟩ : ∃ av : Int, i9 - 450 = av := ⟨_, rfl⟩
    obtain ⟨bn, hbn⟩ : ∃ bn : Nat, 1 + i10 = (bn : Int) := ⟨(1 + i10).toNat, by omega⟩
    rw [hav, hbn] at N10' N11
    rw [hav, hbn]
    generalize tk7 + 1 = tka at *
    have hav9 : av.natAbs ≤ 450 := by omega
    have hbn1 : 1 ≤ bn := by omega
    have hbn9 : bn ≤ 300 := by omega
    have r11 : Rep C ⟨[(Str.ofString "box", .fn β)], none, [(Str.ofString "w", .int (W : Int))]⟩ m6 [] (own ++ bx8) ((h8.objs.size, tupOf #[Value.int av tka, Value.int (bn : Int) tk8] 0) :: fz6) := r9.grow Sub.cons (off_new r9 N9)
    show wpAny _ _ (assignInOrder ([Str.ofString "b", Str.ofString "a"].map (fun n => bindName (C.env _) n) ++ []) ([Value.int (bn : Int) tk8, Value.int av tka] ++ [])) _ _ _
    refine assign_all ok [Str.ofString "b", Str.ofString "a"] [.int (bn : Int), .int av] [Value.int (bn : Int) tk8, Value.int av tka] _ m6 _ rfl (.cons (.int _ _) (.cons (.int _ _) .nil)) ?_ ?_ r11 F11 N11 fun m12 h12 tk12 r12 F12 N12 => ?_
    · intro x hx
      simp only [List.mem_cons, List.not_mem_nil, or_false] at hx
      rcases hx with rfl | rfl <;> rfl
    · intro x hx
      rfl
    refine assignInOrder_nil ?_
    have r13 : Rep C ⟨[(Str.ofString "a", .int av), (Str.ofString "b", .int (bn : Int)), (Str.ofString "box", .fn β)], none, [(Str.ofString "w", .int (W : Int))]⟩ m12 [] (own ++ bx8) ((h8.objs.size, tupOf #[Value.int av tka, Value.int (bn : Int) tk8] 0) :: fz6) := r12.le (by k_clsL)
    refine Exs.use (fl := .next) (σ := ⟨[(Str.ofString "a", .int av), (Str.ofString "b", .int (bn : Int)), (Str.ofString "box", .fn β)], none, [(Str.ofString "w", .int (W : Int))]⟩) (σ' := ⟨[(Str.ofString "box", .fn β)], none, [(Str.ofString "w", .int (W : Int))]⟩) ?rest ok r13 F12 N12 fun f m14 ow14 fz14 h14 tk14 r14 hf hs14 F14 N14 => ?_
    case rest =>
      clear r13 N12 F12 r12 r11 N11 F11 N10' hmm N10 F10 N9 r9 hbx8 N8 F8 hbx7 N7 F7 N₂ N₁ F₁ r8 r6 hbx6 hbx3 rep0
      have hW1 : 1 ≤ W := by omega
      obtain ⟨p, q, g, hq, hg, ha, hb, hc, hp', hq'⟩ := lowest av hbn1
      obtain ⟨t0, ts, e, e0, htail, hlast, hrows, hcv, hsm, hclen⟩ := cf_law (p := p) (q := q) (g := g) hq (by omega) (by omega) hg
      have hpg : p.natAbs * g = av.natAbs := by rw [ha, Int.natAbs_mul]; simp
      have hbI : (bn : Int) = (q : Int) * (g : Int) := by rw [hb, Int.natCast_mul]
      rw [← ha, ← hbI] at hrows
      have hSa : Spec (GG w mean mg mb) 238 2 [.int av, .int (W : Int)] (sgn W av) := spec_law_signed hW1 hW9 (by omega)
      have hSb : Spec (GG w mean mg mb) 238 2 [.int (bn : Int), .int (W : Int)] (sgn W (bn : Int)) := spec_law_signed hW1 hW9 (by omega)
      have hRM : Spec (GG w mean mg mb) 156 4 [sgn W av, sgn W (bn : Int), .int (W : Int), .fn 219] (rat W p q) := by
        have h := spec_r_make (w := w) (mean := mean) (mg := mg) (mb := mb) (W := W) (p := p) (q := q) (g := g) hW1 hW9 hq hg hc (by omega) (by omega)
        rwa [← ha, ← hb] at h
      have hCf : Spec (GG w mean mg mb) 184 5 [rat W p q, .int (W : Int), .fn 219] (.list ((cf p q).map (sgn W))) := spec_continued hW1 hW9 (by omega) (by omega)
      have hCv : Spec (GG w mean mg mb) 191 4 [.list ((cf p q).map (sgn W)), .int (W : Int), .fn 212] (.list ((convs 0 1 1 0 (cf p q)).map (rowD W))) := spec_convergents hW1 hW9 (by omega) hcv
      have hRR : Spec (GG w mean mg mb) 266 2 [.int av, .int (bn : Int), .list ((convs 0 1 1 0 (cf p q)).map pairD)] (.bool true) := spec_law_rows_right (by omega) (by omega) (by omega) (by rw [convs_length]; omega) hrows
      have hAg : Spec (GG w mean mg mb) 273 5 [.list ((cf p q).map (sgn W)), .int (W : Int)] (rat W p q) := spec_law_again hW1 hW9 hq (by omega) (by omega) hc (by omega) (fun z hz => by have := hsm z hz; omega)
      have hpq : p.natAbs * q ≤ 1000000 := by
        have := Nat.mul_le_mul (show p.natAbs ≤ 450 by omega) (show q ≤ 300 by omega)
        omega
      have hCm : Spec (GG w mean mg mb) 177 4 [rat W p q, rat W p q, .int (W : Int), .fn 212] (.int 0) := (spec_r_compare hW1 hW9 (by omega) (by omega) (by omega) (by omega) hpq hpq).cast (by simp [cmpZ])
      krn_off
      krn_off
      refine Exs.cons (Ex.comp (zs := cf p q) (φ := sgn W) (ψ := D.int) (f := 245) (kf := 2) (W := (W : Int)) ?_ (by omega) (by rfl) (fun z hz => spec_law_whole hW1 hW9 (by have := hsm z hz; omega)) (spec_law_whole (mean := mean) (mg := mg) (mb := mb) (z := 0) hW1 hW9 (by decide)).1 (by decide) (by lsm_bools) (by rfl) (by rfl) (by decide) (by rfl) (by decide) (by rfl) (by decide) (by rfl) (by intro C; with_unfolding_all rfl) (by intros; rfl) (by intros; rfl) (by intros; rfl) (by intros; rfl) (by rfl) (by rfl) (by rfl) (by kas_types) (by kas_types) (by kas_types) (by kas_types)) ?_
      · kp_flats
      have hts : ts.length ≤ 300 := by rw [e] at hclen; simp at hclen; omega
      have hdiv : av / (bn : Int) = t0 := by rw [e0, ha, hbI]; exact Int.mul_ediv_mul_of_pos_left _ _ (by omega)
      refine Exs.ifF (Tst.boolop (TstW.or (b := false) (c := false || (false || false)) (Tst.compNone (ns := ts) ?it (by omega) htail (by decide) (by intro C; with_unfolding_all rfl) (by decide) (by rfl) (by decide) (by rfl) (by intros; rfl) (by intros; rfl) (by rfl) (by kas_types)) fun _ => TstW.or (b := false) (c := false || false) (Tst.boolop ?mid) fun _ => TstW.or (b := false) (c := false) (Tst.conv (b := (t0 != av / (bn : Int))) (Tst.ne ?lh ?rh (by kas_types)) ?ne) fun _ => TstW.or_nil)) ?_
      case it =>
        refine Ev.conv (Ev.from' (ds := (cf p q).map D.int) (i := 1) (by kct_strs) Ev.int rfl (by simp; omega) (fun _ _ => ⟨_, rfl⟩)) ?_
        rw [e]; rfl
      case mid =>
        have hll : ((cf p q).map D.int).length = ts.length + 1 := by rw [e]; simp
        by_cases hz : ts = []
        · refine TstW.and (b := false) (c := true) (Tst.conv (Tst.gt (Ev.len (ds := (cf p q).map D.int) (by kct_strs) (by simp; omega) rfl (by lsm_bools) rfl (by kas_types)) Ev.int (by kas_types)) ?_) (fun h => nomatch h)
          rw [hll, hz]; rfl
        · have hpos : 0 < ts.length := List.length_pos_iff.mpr hz
          have hsplit : ts = ts.dropLast ++ [ts.getLast hz] := (List.dropLast_concat_getLast hz).symm
          have h2 := hlast _ _ hsplit
          refine TstW.and (b := true) (c := false && true) (Tst.conv (Tst.gt (Ev.len (ds := (cf p q).map D.int) (by kct_strs) (by simp; omega) rfl (by lsm_bools) rfl (by kas_types)) Ev.int (by kas_types)) ?_) fun _ => TstW.and (b := false) (c := true) (Tst.conv (Tst.lt (Ev.llast (ds := (t0 :: ts.dropLast).map D.int) (d := .int (ts.getLast hz)) (Ev.conv (d := .list ((cf p q).map D.int)) (by kct_strs) ?_) (by kp_flats) (by kas_types)) Ev.int (by kas_types)) ?_) (fun h => nomatch h)
          · rw [hll]; exact decide_eq_true (by omega)
          · rw [e]; congr 1; conv => lhs; rw [hsplit]
            simp
          · exact decide_eq_false (by omega)
      case lh => exact Ev.lget (ds := (cf p q).map D.int) (i := 0) (d := .int t0) (by kct_strs) Ev.int rfl (by rw [e]; rfl) (by decide) (by kas_types)
      case rh => exact Ev.fdiv (by kct_strs) (by kct_strs) (by omega) (by omega)
      case ne => rw [hdiv]; simp
      refine Exs.cons (Ex.comp (zs := convs 0 1 1 0 (cf p q)) (φ := rowD W) (ψ := pairD) (f := 252) (kf := 3) (W := (W : Int)) ?_ (by rw [convs_length]; omega) (by rfl) (fun z hz => spec_law_pair hW1 hW9 (by have := (hrows.small z hz).1; omega) (by have := hrows.small z hz; omega) (hrows.small z hz).2.1) (spec_law_pair (mean := mean) (mg := mg) (mb := mb) (r := (0, 0)) hW1 hW9 (by decide) (by decide) (by decide)).1 (by decide) (by lsm_bools) (by rfl) (by rfl) (by decide) (by rfl) (by decide) (by rfl) (by decide) (by rfl) (by intro C; with_unfolding_all rfl) (by intros; rfl) (by intros; rfl) (by intros; rfl) (by intros; rfl) (by rfl) (by rfl) (by rfl) (by kas_types) (by kas_types) (by kas_types) (by kas_types)) ?_
      · kp_flats
      refine Exs.ifF (Tst.boolop (TstW.or (b := false) (c := false || false) (Tst.not (b := true) (Tst.call (by kp_flats))) fun _ => TstW.or (b := false) (c := false) (Tst.conv (b := ((0 : Int) != 0)) (Tst.ne (by kp_flats) Ev.int (by kas_types)) rfl) fun _ => TstW.or_nil)) ?_
      refine Exs.leR Exs.nil ?_
      k_clsL
    · have e14 := own_none r14 rfl
      subst e14
      cases f with
      | ret v => exact hf.elim
      | brk => exact hf.elim
      | cont => exact hf.elim
      | next =>
        have hob : ∀ p ∈ own, ∀ q ∈ bx8, p.1 ≠ q.1 := fun p hp q hq => by
          rcases hbx8.addr q hq with e | e <;> rw [e]
          · exact (hownne p hp).1
          · exact (hownne p hp).2
        refine ⟨h14, tk14, m14, [] ++ ((own ++ bx8) ++ fz14), bx8 ++ fz14, rfl, F14, N14, ?_, ?_, own_off_after (ow := []) (fr := bx8) r14 hob, ⟨ns8, k8, bx8, fz14, rfl, hbx8, hk80, hk89, r14.less⟩⟩
        · intro p hp
          simp only [List.nil_append, List.mem_append] at hp ⊢
          rcases hp with hp | hp <;> simp [hp]
        · intro p hp
          simp [hp]
  · rintro m₁ nx h tk ⟨ns6, k6, bx6, fz6, rfl, hbx6, hk60, hk69, r6⟩ F₁ N₁
    exact wpAny_execs_cons (wpAny_Return_some (Constant_bool (kk _ _ _ _ F₁ N₁)))
end
section
theorem law_enter {name qual : Str} {params : Arguments} {body : List Stmt} {scope : Scope} {dV kV doc pm cdv ct oc : Value} {an od : Option Addr} {osl : Array (Option Value)}
    (ho : (hd.heap_39 w.params).lookup 278 = some ⟨oc, od, .func (fnOf name qual params body scope dV kV doc pm an cdv ct), osl⟩)
    {nm : Str} {L fa : Addr} {cd : Value} {h₀ : Heap} {s : Shared} {m : Str → Option Value} {o : Obj} {v₀ : Option Value} {sc : Addr} {vs : List Value} {ns : List Int} {Q : Flow → Shared → Prop} {E : Value → Shared → Prop}
    (K0 : Below callerA h₀ [] h₀) (KX : (hd.heap_39 w.params).In h₀) (T : Top Mine.view (looseW Mine.view []) mean mg mb h₀) (F : Fr h₀ L s.heap m) (N : News h₀ L s.heap [(L + 1, o)]) (hod : o.data = .cell v₀)
    (hm : m (Str.ofString "script") = some (.ref sc)) (hl : h₀.IsList sc vs.toArray) (hi : IntsAre vs ns) (hlen : ns.length ≤ 100) (hk : scope.kind = .function) (hcl : (cellsFrom (L + 1) scope.names []).lookup (Str.ofString "w") = some (L + 1))
    (kk : ∀ m' h' tk' news', Fr h₀ L h' m' → News h₀ L h' news' → Q (.ret (.bool true)) { s with heap := h', toks := tk' }) :
    wpAny (model rw_nz0082_01.row.prog w) (callerA.deeper (envOfC nm scope L fa cd)) (execs body (envOfC nm scope L fa cd)) Q E s :=
  no_exc (law_walk (mean := mean) (mg := mg) (mb := mb) ho { dp := callerA.depth + 1, un := callerA.units + 3, gd := callerA.guards, cn := nm, L := L, a := fa, ccd := cd, cl := cellsFrom (L + 1) scope.names [], outer := [], A₀ := callerA, base := h₀, h₀ := h₀ } Q s
    ⟨K0, KX, T, hk, by show callerA.depth + 1 + 8 < recursionLimit; decide, by show callerA.units + 3 + 8 * 8 + 8 < cLine; decide⟩ hcl F N hod hm hl hi hlen kk)
end
end Mine
open PySem PySem.W PySem.Calls PyProof.Rows PySem.Challenge in
set_option maxRecDepth 100000 in
set_option maxHeartbeats 8000000 in
theorem PySem.Challenge.cw_nz0082_01_holds : PySem.Challenge.rw_nz0082_01.Holds :=
  hd (by
    k_go0
    (all_goals try k_fold)
    rename Below _ _ _ _ => K0
    rename Frag.In _ _ => KX
    rename Top _ _ _ _ _ _ => T
    rename Fr _ _ _ _ => F0
    rename News _ _ _ _ => N0
    rename Heap.IsList _ _ _ => hL0
    rename IntsAre _ _ => hI0
    refine' Mine.law_enter ?ho K0 KX T F0 N0 ?hod ?hm hL0 hI0 ?hlen ?hk ?hcl ?kk
    case ho => (show List.lookup _ (hd.heap_39 _) = _; k_is)
    case hod => assumption
    case hm => rfl
    case hlen => omega
    case hk => rfl
    case hcl => rfl
    case kk =>
      intro m' h' tk' news' F' N'
      k_steps)
