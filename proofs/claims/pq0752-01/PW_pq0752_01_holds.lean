import PyProof.Rows.All
import Wide.All
import OpenK.AllK
import Wide.FinOn
import Lean
import PySem.Challenge.RW_pq0752_01
open PySem PySem.W PyProof.Rows PySem.Calls
set_option Elab.async false
set_option maxRecDepth 100000
set_option maxHeartbeats 8000000
set_option linter.unusedVariables false
namespace Pq
noncomputable section
noncomputable abbrev Kn := Addr → Option Obj
noncomputable def Kn.le (b b' : Kn) : Prop := ∀ a o, b a = some o → b' a = some o
theorem Kn.le.rfl {b : Kn} : b.le b := fun _ _ e => e
theorem Kn.le.trans {b b' b'' : Kn} (x : b.le b') (y : b'.le b'') : b.le b'' := fun a o e => y a o (x a o e)
structure Ch where
  addr : Addr
  ok : Heap → Prop
  same : ∀ h h' : Heap, h'.get? addr = h.get? addr → ok h → ok h'
  live : ∀ h : Heap, ok h → ∃ o, h.get? addr = some o
structure Ok (h₀ : Heap) (b : Kn) (own : List Ch) (h : Heap) : Prop where
  base : ∀ a o, h₀.get? a = some o → b a = some o
  kn : ∀ a o, b a = some o → h.get? a = some o
  mine : ∀ x ∈ own, x.ok h
  nodup : (own.map Ch.addr).Nodup
  disj : ∀ x ∈ own, b x.addr = none
structure Frm (h : Heap) (b : Kn) (own : List Ch) (h' : Heap) (b' : Kn) (own' : List Ch) : Prop where
  keep : ∀ a o, a ∉ own.map Ch.addr → h.get? a = some o → h'.get? a = some o
  kn : b.le b'
  new : ∀ a o, b' a = some o → b a = some o ∨ h.get? a = none ∨ a ∈ own.map Ch.addr
  U : ∀ x ∈ own', x.addr ∈ own.map Ch.addr ∨ h.get? x.addr = none
theorem Frm.rfl {h : Heap} {b : Kn} {own : List Ch} : Frm h b own h b own :=
  ⟨fun _ _ _ e => e, Kn.le.rfl, fun _ _ e => .inl e, fun x hx => .inl (List.mem_map_of_mem hx)⟩
theorem Frm.trans {h h₁ h₂ : Heap} {b b₁ b₂ : Kn} {o o₁ o₂ : List Ch} (x : Frm h b o h₁ b₁ o₁) (y : Frm h₁ b₁ o₁ h₂ b₂ o₂) : Frm h b o h₂ b₂ o₂ where
  keep := fun a ob n e => y.keep a ob (fun q => by
    obtain ⟨z, hz, rfl⟩ := List.mem_map.mp q
    rcases x.U z hz with u | u
    · exact n u
    · rw [e] at u; cases u) (x.keep a ob n e)
  kn := x.kn.trans y.kn
  new := fun a ob e => by
    rcases y.new a ob e with u | u | u
    · exact x.new a ob u
    · by_cases m : a ∈ o.map Ch.addr
      · exact .inr (.inr m)
      · refine .inr (.inl (Option.eq_none_iff_forall_not_mem.mpr fun oc q => ?_))
        rw [x.keep a oc m q] at u; cases u
    · obtain ⟨z, hz, rfl⟩ := List.mem_map.mp u
      rcases x.U z hz with u | u
      · exact .inr (.inr u)
      · exact .inr (.inl u)
  U := fun z hz => by
    rcases y.U z hz with u | u
    · obtain ⟨z', hz', e⟩ := List.mem_map.mp u
      rw [← e]
      exact x.U z' hz'
    · by_cases m : z.addr ∈ o.map Ch.addr
      · exact .inl m
      · refine .inr (Option.eq_none_iff_forall_not_mem.mpr fun oc q => ?_)
        rw [x.keep _ oc m q] at u; cases u
noncomputable def er : Value → Value
  | .int i _ => .int i 0
  | .str s _ => .str s 0
  | .float x _ => .float x 0
  | .bytes x _ => .bytes x 0
  | v => v
noncomputable abbrev vI (i : Int) : Value := .int i 0
noncomputable abbrev vS (s : Str) : Value := .str s 0
theorem er_str {v : Value} {s : Str} (h : er v = vS s) : ∃ t, v = .str s t := by cases v <;> simp_all [er]
theorem er_int {v : Value} {i : Int} (h : er v = vI i) : ∃ t, v = .int i t := by cases v <;> simp_all [er]
theorem er_bool {v : Value} {c : Bool} (h : er v = .bool c) : v = .bool c := by cases v <;> simp_all [er]
theorem er_none {v : Value} (h : er v = .none) : v = .none := by cases v <;> simp_all [er]
theorem er_ref {v : Value} {a : Addr} (h : er v = .ref a) : v = .ref a := by cases v <;> simp_all [er]
theorem er_builtin {v : Value} {a : String} (h : er v = .builtin a) : v = .builtin a := by cases v <;> simp_all [er]
theorem er_type {v : Value} {a : String} (h : er v = .type a) : v = .type a := by cases v <;> simp_all [er]
theorem er_noref {v : Value} (h : ∀ a, er v ≠ .ref a) : ∀ a, v ≠ .ref a := fun a e => h a (by rw [e]; rfl)
noncomputable def erF : Flow → Flow
  | .ret v => .ret (er v)
  | f => f
noncomputable abbrev pw : Program := PySem.Challenge.pw_pq0752_01
noncomputable def topAt (i : Nat) : Stmt := pw.main.body.getD i default
noncomputable def cBody : Stmt → List Stmt | .ClassDef _ _ _ b .. => b | _ => []
noncomputable def cName : Stmt → Str | .ClassDef n .. => n | _ => Str.empty
noncomputable def cScope : Expr → Scope | .ListComp _ _ s _ => { s with names := s.names.map fun (n, k) => if (k == .free) = true then (n, .cell) else (n, k) } | _ => default
noncomputable def compAt (j : Nat) : Scope := match topAt 25 with
  | .FunctionDef _ _ b .. => match b.getD (if j = 0 then 1 else 6) default with
    | .If _ c _ _ => match c.getD 2 default with | .Return (some e) _ => cScope e | _ => default
    | .While _ c _ _ => match c.getD 2 default with | .Assign _ e _ => cScope e | _ => default
    | _ => default
  | _ => default
noncomputable def withScope (s : Scope) : Stmt → Stmt | .FunctionDef n a b c d e _ f g h => .FunctionDef n a b c d e s f g h | x => x
noncomputable def stmtAt (i : Nat) : Stmt := if i < 100 then topAt i else if i < 1000 then (cBody (topAt (i % 100))).getD (i / 100 - 1) default else withScope (compAt (i - 1000)) (topAt 25)
noncomputable def dName : Stmt → Str | .FunctionDef n .. => n | _ => Str.empty
noncomputable def dParams : Stmt → Arguments | .FunctionDef _ a .. => a | _ => default
noncomputable def dBody : Stmt → List Stmt | .FunctionDef _ _ b .. => b | _ => []
noncomputable def dScope : Stmt → Scope | .FunctionDef _ _ _ _ _ _ s .. => s | _ => default
noncomputable def qName (i : Nat) : Str := if i < 100 ∨ 1000 ≤ i then dName (stmtAt i) else cName (topAt (i % 100)) ++ Str.ofString "." ++ dName (stmtAt i)
noncomputable def Glo (h₀ : Heap) (x : Str) (v : Value) : Prop := ∃ mg, h₀.Ns mainGlobals mg ∧ mg x = some v
noncomputable def Bui (h₀ : Heap) (x : Str) (v : Value) : Prop := ∃ mg mb, h₀.Ns mainGlobals mg ∧ h₀.Ns builtinsNs mb ∧ mg x = none ∧ mb x = some v
structure FnOb (h₀ : Heap) (f : Addr) (i : Nat) (dV : Value) (oc : Value) (od : Option Addr) (osl : Array (Option Value)) (kV doc pm : Value) (an : Option Addr) (cdv ct : Value) : Prop where
  ho : h₀.get? f = some ⟨oc, od, .func (fnOf (dName (stmtAt i)) (qName i) (dParams (stmtAt i)) (dBody (stmtAt i)) (dScope (stmtAt i)) dV kV doc pm an cdv ct), osl⟩
  hc : h₀.CodeRec cdv (qName i)
noncomputable def FnAt (h₀ : Heap) (f : Addr) (i : Nat) (dV : Value) : Prop := ∃ oc od osl kV doc pm an cdv ct, FnOb h₀ f i dV oc od osl kV doc pm an cdv ct
noncomputable def defIdx : List Nat := [5, 6, 7, 9, 10, 11, 12, 13, 14, 15, 19, 20, 21, 23, 24, 25, 26, 28, 29, 30]
noncomputable def metIdx : List Nat := [108, 208, 308, 408, 118, 102]
structure ClsF (K : Frag) (F : Nat → Addr) (C : Addr) (attrs : List Str) (meths : List (Str × Nat)) : Prop where
  ga : findIn K (.ref C) "__getattribute__" = some (some (.builtin "object.__getattribute__"))
  gk : findIn K (.ref C) "__getattr__" = some none
  sa : findIn K (.ref C) "__setattr__" = some (some (.builtin "object.__setattr__"))
  made : makesIn K C = true
  po : plainOver K C = true
  hd : hasDictIn K C = true
  kp : keepIn K (.ref C) = true
  at_ : ∀ n ∈ attrs, findIn K (.ref C) n = some none
  me : ∀ p ∈ meths, findIn K (.ref C) p.1 = some (some (.ref (F p.2))) ∧ typeIn K (.ref (F p.2)) = some (.type "function")
noncomputable def gAttrs : List Str := [Str.ofString "start", Str.ofString "order", Str.ofString "table", Str.ofString "empty", Str.ofString "firsts", Str.ofString "follows"]
noncomputable def gMeths : List (Str × Nat) := [(Str.ofString "__init__", 108), (Str.ofString "nullable", 208), (Str.ofString "first", 308), (Str.ofString "predict", 408)]
noncomputable def rAttrs : List Str := [Str.ofString "tree", Str.ofString "place", Str.ofString "wanted"]
noncomputable def rMeths : List (Str × Nat) := [(Str.ofString "__init__", 118)]
noncomputable def bTypes : List String := ["dict", "list", "tuple", "reversed", "int", "str", "range"]
noncomputable def bFuns : List String := ["sorted", "isinstance", "abs"]
noncomputable abbrev excM : List Value := [.type "Exception", .type "BaseException", .type "object"]
structure ExcOb (h : Heap) (C fI : Addr) (nm q : Str) (N : Addr) (bs : List Value) (Y : Addr) (sn : List Str) (sub : List Value) (ab : Bool) (col : Option Bool) (dd : Option Addr) (k0 k1 k2 k3 k5 : Option Value) (mN : Str → Option Value) : Prop where
  hC : h.get? C = some (excClassObj nm q C N bs (.ref Y :: excM) true sn sub ab col dd k0 k1 k2 k3 k5 "Exception.__new__")
  hN : h.Ns N mN
  hi : mN (Str.ofString "__init__") = some (.ref fI)
  tl : OwnTail h excM (.ref Y :: excM)
structure ExcF (h : Heap) (K : Frag) (C fI : Addr) : Prop where
  obj : ∃ nm q N bs Y sn sub ab col dd k0 k1 k2 k3 k5 mN, ExcOb h C fI nm q N bs Y sn sub ab col dd k0 k1 k2 k3 k5 mN
  sa : findIn K (.ref C) "__setattr__" = some (some (.builtin "object.__setattr__"))
  wh : findIn K (.ref C) (Str.ofString "what") = some none
  fc : ∃ o, h.get? fI = some o ∧ o.cls = .type "function"
noncomputable def fTab : List (Nat × Addr) := [(5, 53), (6, 60), (7, 67), (9, 116), (10, 123), (11, 130), (12, 137), (13, 144), (14, 151), (15, 158), (19, 187), (20, 194), (21, 201), (22, 209), (23, 216), (24, 223), (25, 228), (26, 235), (28, 242), (29, 249), (30, 256), (102, 41), (108, 81), (208, 88), (308, 95), (408, 102), (118, 173)]
noncomputable def fa (i : Nat) : Addr := (fTab.lookup i).getD 0
noncomputable def aG : Addr := 105
noncomputable def aR : Addr := 176
noncomputable def aC : Addr := 44
structure ZOk (h₀ : Heap) (K : Frag) : Prop where
  lim : h₀.NoLimit
  glo : ∀ i ∈ defIdx, Glo h₀ (dName (stmtAt i)) (.ref (fa i))
  fn : ∀ i ∈ defIdx ++ metIdx, FnAt h₀ (fa i) i .none
  mods : (h₀.get? sysModules).isSome = true
  KI : K.In h₀
  cG : ClsF K fa aG gAttrs gMeths
  cR : ClsF K fa aR rAttrs rMeths
  gG : Glo h₀ (Str.ofString "Grammar") (.ref aG)
  gR : Glo h₀ (Str.ofString "Recognised") (.ref aR)
  endv : ∃ v, er v = vS (Str.ofString "eof") ∧ Glo h₀ (Str.ofString "END") v
  clo : ∃ a o, Glo h₀ (Str.ofString "CLOSE") (.ref a) ∧ h₀.get? a = some o ∧ o.cls = .type "tuple" ∧ ∃ arr n, o.data = .seq arr n ∧ arr.toList.map er = [vS (Str.ofString "close"), vS (Str.ofString "")]
  bt : ∀ n ∈ bTypes, Bui h₀ (Str.ofString n) (.type n)
  bf : ∀ n ∈ bFuns, Bui h₀ (Str.ofString n) (.builtin n)
  len : Bui h₀ (Str.ofString "len") (.builtin "len")
  gC : Glo h₀ (Str.ofString "LimitReached") (.ref aC)
  exC : ExcF h₀ K aC (fa 102)
  g22 : Glo h₀ (dName (stmtAt 22)) (.ref (fa 22))
  fn22 : ∃ t o v n, h₀.get? t = some o ∧ o.data = .seq #[v] n ∧ FnAt h₀ (fa 22) 22 (.ref t)
structure Zc where
  w : World
  h₀ : Heap
  K : Frag
  ok : ZOk h₀ K
noncomputable abbrev Zc.F (_ : Zc) : Nat → Addr := fa
noncomputable abbrev Zc.G (_ : Zc) : Addr := aG
noncomputable abbrev Zc.R (_ : Zc) : Addr := aR
noncomputable abbrev Zc.C (_ : Zc) : Addr := aC
noncomputable def Rm (A : Around) (n : Nat) : Prop := A.handled = none ∧ A.depth + 2 * n + 2 < recursionLimit ∧ A.units + 20 * n + 20 < cLine
theorem Rm.deeper {A : Around} {n : Nat} {env : Env} (h : Rm A (n + 1)) : Rm (A.deeper env) n := ⟨h.1, by have := h.2.1; show A.depth + 1 + _ + _ < _; omega, by have := h.2.2; rw [Around.deeper_units]; omega⟩
theorem Rm.lim {A : Around} {n : Nat} (h : Rm A n) : A.depth < recursionLimit := by have := h.2.1; omega
theorem Rm.units {A : Around} {n : Nat} (h : Rm A n) : A.units + 20 < cLine := by have := h.2.2; omega
structure Guard (h₀ : Heap) where
  p : Shared → Kn → List Ch → (Value → Shared → Prop) → Prop
  stable : ∀ s b own E h' b' own' tk, p s b own E → Ok h₀ b own s.heap → Ok h₀ b' own' h' → Frm s.heap b own h' b' own' → p { s with heap := h', toks := tk } b' own' E
noncomputable def GT (h₀ : Heap) : Guard h₀ := ⟨fun _ _ _ _ => True, fun _ _ _ _ _ _ _ _ _ _ _ _ => trivial⟩
noncomputable abbrev cEnv (cl : List (Str × Addr)) (fu fr : Option Addr) (e : Env) : Env := { e with cells := cl, func := fu, frame := fr }
structure Act (Z : Zc) (i : Nat) where
  A : Around
  n : Nat
  rm : Rm A n
  L : Addr
  cd : Value
  cl : List (Str × Addr)
  fu : Option Addr
  fr : Option Addr
  G : Guard Z.h₀
  thru : ∀ s b own E, G.p s b own E → G.p s b own (notedBy (model pw Z.w) A (cEnv cl fu fr (envOf (qName i) (dScope (stmtAt i)) L (Z.F i) cd)) (cameBackBy (model pw Z.w) A (cEnv cl fu fr (envOf (qName i) (dScope (stmtAt i)) L (Z.F i) cd)) E)) ∨ PassesOwn (model pw Z.w) A (cEnv cl fu fr (envOf (qName i) (dScope (stmtAt i)) L (Z.F i) cd)) E
noncomputable abbrev Act.env {Z : Zc} {i : Nat} (x : Act Z i) : Env := cEnv x.cl x.fu x.fr (envOf (qName i) (dScope (stmtAt i)) x.L (Z.F i) x.cd)
noncomputable def W {Z : Zc} {i : Nat} (x : Act Z i) {α β : Type} (R : α → β → Prop) (t : Sem α) (b : Kn) (own : List Ch) (P : β → Kn → List Ch → Prop) : Prop :=
  ∀ (s : Shared) (Q : α → Shared → Prop) (E : Value → Shared → Prop), Ok Z.h₀ b own s.heap → x.G.p s b own E →
    (∀ v u b' own' h' tk, R v u → P u b' own' → Ok Z.h₀ b' own' h' → Frm s.heap b own h' b' own' → Q v { s with heap := h', toks := tk }) → wpAny (model pw Z.w) x.A t Q E s
noncomputable def RV (v u : Value) : Prop := er v = u
noncomputable def RF (f g : Flow) : Prop := erF f = g
section
variable {Z : Zc} {i : Nat} {x : Act Z i} {α β γ : Type} {R : α → β → Prop} {R' : γ → γ → Prop} {t : Sem α} {b : Kn} {own o₁ o₂ : List Ch} {P P' : β → Kn → List Ch → Prop}
theorem W.mono (h : W x R t b own P) (hP : ∀ v b' own', P v b' own' → P' v b' own') : W x R t b own P' :=
  fun s Q E ok g k => h s Q E ok g fun v u b' own' h' tk r p ok' f => k v u b' own' h' tk r (hP _ _ _ p) ok' f
theorem W.go {s : Shared} {Q : α → Shared → Prop} {E : Value → Shared → Prop} (h : W x R t b own P) (ok : Ok Z.h₀ b own s.heap) (g : x.G.p s b own E)
    (k : ∀ v u b₁ o₁ h₁ tk₁, R v u → P u b₁ o₁ → Ok Z.h₀ b₁ o₁ h₁ → x.G.p { s with heap := h₁, toks := tk₁ } b₁ o₁ E → Frm s.heap b own h₁ b₁ o₁ → Q v { s with heap := h₁, toks := tk₁ }) : wpAny (model pw Z.w) x.A t Q E s :=
  h s Q E ok g fun v u b₁ o₁ h₁ tk₁ r p ok₁ f => k v u b₁ o₁ h₁ tk₁ r p ok₁ (x.G.stable _ _ _ _ _ _ _ _ g ok ok₁ f) f
theorem W.done {v : α} {u : β} (hr : R v u) (h : P u b own) {s : Shared} {Q : α → Shared → Prop} (ok : Ok Z.h₀ b own s.heap)
    (k : ∀ v u b' own' h' tk, R v u → P u b' own' → Ok Z.h₀ b' own' h' → Frm s.heap b own h' b' own' → Q v { s with heap := h', toks := tk }) : Q v s := k v u b own s.heap s.toks hr h ok Frm.rfl
theorem W.part {δ ε : Type} {T : δ → ε → Prop} {t₁ : Sem δ} {K : δ → Shared → (α → Shared → Prop) → (Value → Shared → Prop) → Prop}
    (hr : ∀ s Q E, wpAny (model pw Z.w) x.A t₁ (fun v s₁ => K v s₁ Q E) E s → wpAny (model pw Z.w) x.A t Q E s)
    (h : W x T t₁ b own fun u b₁ o₁ => ∀ v, T v u → ∀ (s : Shared) (Q : α → Shared → Prop) (E : Value → Shared → Prop), Ok Z.h₀ b₁ o₁ s.heap → x.G.p s b₁ o₁ E →
      (∀ v u b' own' h' tk, R v u → P u b' own' → Ok Z.h₀ b' own' h' → Frm s.heap b₁ o₁ h' b' own' → Q v { s with heap := h', toks := tk }) → K v s Q E) : W x R t b own P :=
  fun s Q E ok g k => hr s Q E (h.go ok g fun v u b₁ o₁ h₁ tk₁ r p ok₁ g₁ f => p v r _ Q E ok₁ g₁ fun v u b' o' h' tk r' p ok' f' => k v u b' o' h' tk r' p ok' (f.trans f'))
theorem W.look {v : α} {u : β} (hr : R v u) (h : ∀ (s : Shared) (Q : α → Shared → Prop) (E : Value → Shared → Prop), Ok Z.h₀ b own s.heap → (∀ tk, Q v { s with toks := tk }) → wpAny (model pw Z.w) x.A t Q E s) (hP : P u b own) : W x R t b own P :=
  fun s Q E ok _ k => h s Q E ok fun tk => k v u b own s.heap tk hr hP ok Frm.rfl
theorem W.lookP {u : β} (h : ∀ (s : Shared) (Q : α → Shared → Prop) (E : Value → Shared → Prop), Ok Z.h₀ b own s.heap → (∀ v tk, R v u → Q v { s with toks := tk }) → wpAny (model pw Z.w) x.A t Q E s) (hP : P u b own) : W x R t b own P :=
  fun s Q E ok _ k => h s Q E ok fun v tk r => k v u b own s.heap tk r hP ok Frm.rfl
theorem W.ghost (h : ∀ hp, Ok Z.h₀ b own hp → ∃ b' own', Ok Z.h₀ b' own' hp ∧ Frm hp b own hp b' own' ∧ W x R t b' own' P) : W x R t b own P := by
  intro s Q E ok g k
  obtain ⟨b₁, o₁, ok₁, f₁, hw⟩ := h _ ok
  exact hw s Q E ok₁ (x.G.stable s b own E s.heap b₁ o₁ s.toks g ok ok₁ f₁) fun v u b' o' h' tk r p ok' f => k v u b' o' h' tk r p ok' (f₁.trans f)
end
inductive Split : List Ch → List Ch → List Ch → Prop
  | nil : Split [] [] []
  | left {x o a c} : Split o a c → Split (x :: o) (x :: a) c
  | right {x o a c} : Split o a c → Split (x :: o) a (x :: c)
theorem Split.perm {o a c : List Ch} (h : Split o a c) : o.Perm (a ++ c) := by
  induction h with
  | nil => exact .refl _
  | left _ ih => exact ih.cons _
  | right _ ih => exact (ih.cons _).trans List.perm_middle.symm
theorem Split.none : ∀ o : List Ch, Split o [] o
  | [] => .nil
  | _ :: r => .right (Split.none r)
theorem Split.all : ∀ o : List Ch, Split o o []
  | [] => .nil
  | _ :: r => .left (Split.all r)
section
variable {Z : Zc} {i : Nat} {x : Act Z i} {α β : Type} {R : α → β → Prop} {t : Sem α} {b : Kn} {own o₁ o₂ : List Ch} {P : β → Kn → List Ch → Prop}
noncomputable def Act.free (x : Act Z i) : Act Z i := { x with G := GT Z.h₀, thru := fun _ _ _ _ _ => .inl trivial }
theorem W.frame (hs : Split own o₁ o₂) (h : W x.free R t b o₁ fun v b' o' => P v b' (o₂ ++ o')) : W x R t b own P := by
  intro s Q E ok g k
  have hp := hs.perm
  have nd : ((o₁ ++ o₂).map Ch.addr).Nodup := (hp.map _).nodup_iff.mp ok.nodup
  rw [List.map_append] at nd
  obtain ⟨nd1, nd2, ap⟩ := List.nodup_append.mp nd
  have m1 : ∀ x ∈ o₁, x ∈ own := fun x hx => hp.mem_iff.mpr (List.mem_append_left _ hx)
  have m2 : ∀ x ∈ o₂, x ∈ own := fun x hx => hp.mem_iff.mpr (List.mem_append_right _ hx)
  have ok1 : Ok Z.h₀ b o₁ s.heap := ⟨ok.base, ok.kn, fun x hx => ok.mine x (m1 x hx), nd1, fun x hx => ok.disj x (m1 x hx)⟩
  refine h s Q E ok1 trivial fun v u b' o' h' tk r p ok' f => ?_
  have n2 : ∀ x ∈ o₂, x.addr ∉ o₁.map Ch.addr := fun x hx q => ap _ q _ (List.mem_map_of_mem hx) rfl
  have old2 : ∀ x ∈ o₂, s.heap.get? x.addr ≠ none := fun x hx q => by
    obtain ⟨o, ho⟩ := x.live _ (ok.mine x (m2 x hx)); rw [ho] at q; cases q
  refine k v u b' (o₂ ++ o') h' tk r p ⟨ok'.base, ok'.kn, fun x hx => ?_, ?_, fun x hx => ?_⟩ ⟨fun a o n e => f.keep a o (fun q => n ?_) e, f.kn, fun a o e => ?_, fun x hx => ?_⟩
  · rcases List.mem_append.mp hx with q | q
    · obtain ⟨o, ho⟩ := x.live _ (ok.mine x (m2 x q))
      exact x.same _ _ (by rw [f.keep _ _ (n2 x q) ho, ho]) (ok.mine x (m2 x q))
    · exact ok'.mine x q
  · rw [List.map_append]
    refine List.nodup_append.mpr ⟨nd2, ok'.nodup, fun a ha c hc e => ?_⟩
    subst e
    obtain ⟨x, hx, rfl⟩ := List.mem_map.mp ha
    obtain ⟨y, hy, e⟩ := List.mem_map.mp hc
    rcases f.U y hy with u | u
    · rw [e] at u; exact n2 x hx u
    · rw [e] at u; exact old2 x hx u
  · rcases List.mem_append.mp hx with q | q
    · cases hb : b' x.addr with
      | none => rfl
      | some o =>
        exfalso
        rcases f.new _ _ hb with u | u | u
        · rw [ok.disj x (m2 x q)] at u; cases u
        · exact old2 x q u
        · exact n2 x q u
    · exact ok'.disj x q
  · obtain ⟨x, hx, rfl⟩ := List.mem_map.mp q
    exact List.mem_map_of_mem (m1 x hx)
  · rcases f.new a o e with u | u | u
    · exact .inl u
    · exact .inr (.inl u)
    · obtain ⟨x, hx, rfl⟩ := List.mem_map.mp u
      exact .inr (.inr (List.mem_map_of_mem (m1 x hx)))
  · rcases List.mem_append.mp hx with q | q
    · exact .inl (List.mem_map_of_mem (m2 x q))
    · rcases f.U x q with u | u
      · obtain ⟨y, hy, e⟩ := List.mem_map.mp u
        exact .inl (e ▸ List.mem_map_of_mem (m1 y hy))
      · exact .inr u
theorem W.frame0 (h : W x.free R t b [] fun v b' o' => P v b' (own ++ o')) : W x R t b own P := W.frame (Split.none own) h
theorem W.forget (hs : List.Sublist o₁ own) (h : W x R t b o₁ P) : W x R t b own P :=
  W.ghost fun hp ok => ⟨b, o₁, ⟨ok.base, ok.kn, fun x hx => ok.mine x (hs.subset hx), ok.nodup.sublist (hs.map _), fun x hx => ok.disj x (hs.subset hx)⟩,
    ⟨fun _ _ _ e => e, Kn.le.rfl, fun _ _ e => .inl e, fun x hx => .inl (List.mem_map_of_mem (hs.subset hx))⟩, h⟩
theorem W.drop (h : W x R t b own fun v b' o' => ∃ o'', List.Sublist o'' o' ∧ P v b' o'') : W x R t b own P := by
  intro s Q E ok g k
  refine h s Q E ok g fun v u b' o' h' tk r p ok' f => ?_
  obtain ⟨o'', hs, p⟩ := p
  exact k v u b' o'' h' tk r p ⟨ok'.base, ok'.kn, fun x hx => ok'.mine x (hs.subset hx), ok'.nodup.sublist (hs.map _), fun x hx => ok'.disj x (hs.subset hx)⟩
    ⟨f.keep, f.kn, f.new, fun x hx => f.U x (hs.subset hx)⟩
theorem ok_freeze {h₀ hp : Heap} {b : Kn} {own r : List Ch} {φ : Obj → Prop} {y : Ch} (ok : Ok h₀ b own hp) (hs : Split own [y] r) (hx : ∀ h, y.ok h → ∃ o, h.get? y.addr = some o ∧ φ o) :
    ∃ o b', φ o ∧ b.le b' ∧ b' y.addr = some o ∧ Ok h₀ b' r hp ∧ Frm hp b own hp b' r := by
  have hpm := hs.perm
  have mx : y ∈ own := hpm.mem_iff.mpr (.head _)
  have mr : ∀ z ∈ r, z ∈ own := fun z hz => hpm.mem_iff.mpr (.tail _ hz)
  obtain ⟨o, ho, hφ⟩ := hx _ (ok.mine y mx)
  have nd := (hpm.map Ch.addr).nodup_iff.mp ok.nodup
  have nd' := List.nodup_cons.mp nd
  have hb := ok.disj y mx
  have ne : ∀ {c : Addr} {oc}, b c = some oc → c ≠ y.addr := fun e q => by rw [q, hb] at e; cases e
  let b₁ : Kn := fun c => if c = y.addr then some o else b c
  have b1 : ∀ {c oc}, b c = some oc → b₁ c = some oc := fun {c oc} e => by show (if c = y.addr then some o else b c) = some oc; rw [if_neg (ne e)]; exact e
  have b2 : ∀ {c oc}, b₁ c = some oc → (c = y.addr ∧ oc = o) ∨ b c = some oc := fun {c oc} e => by
    change (if c = y.addr then some o else b c) = some oc at e
    split at e
    · rename_i q; exact .inl ⟨q, (Option.some.inj e).symm⟩
    · exact .inr e
  refine ⟨o, b₁, hφ, fun c oc e => b1 e, if_pos rfl, ⟨fun c oc e => b1 (ok.base c oc e), fun c oc e => ?_, fun z hz => ok.mine z (mr z hz), nd'.2, fun z hz => ?_⟩,
    ⟨fun _ _ _ e => e, fun c oc e => b1 e, fun c oc e => ?_, fun z hz => .inl (List.mem_map_of_mem (mr z hz))⟩⟩
  · rcases b2 e with ⟨rfl, rfl⟩ | q
    · exact ho
    · exact ok.kn c oc q
  · show (if z.addr = y.addr then some o else b z.addr) = none
    rw [if_neg fun q => nd'.1 (by rw [← q]; exact List.mem_map_of_mem hz)]; exact ok.disj z (mr z hz)
  · rcases b2 e with ⟨rfl, rfl⟩ | q
    · exact .inr (.inr (List.mem_map_of_mem mx))
    · exact .inl q
theorem W.freeze {φ : Obj → Prop} {y : Ch} {r : List Ch} (hs : Split own [y] r) (hx : ∀ h, y.ok h → ∃ o, h.get? y.addr = some o ∧ φ o)
    (h : ∀ o b', φ o → b.le b' → b' y.addr = some o → W x R t b' r P) : W x R t b own P :=
  W.ghost fun hp ok => let ⟨o, b', q, q1, q2, q3, q4⟩ := ok_freeze ok hs hx; ⟨b', r, q3, q4, h o b' q q1 q2⟩
theorem W.post (h : W x R t b own fun v b' o' => ∀ hp, Ok Z.h₀ b' o' hp → ∃ b'' o'', Ok Z.h₀ b'' o'' hp ∧ Frm hp b' o' hp b'' o'' ∧ P v b'' o'') : W x R t b own P :=
  fun s Q E ok g k => h s Q E ok g fun v u b' o' h' tk r p ok' f => let ⟨b'', o'', q1, q2, q3⟩ := p h' ok'; k v u b'' o'' h' tk r q3 q1 (f.trans q2)
theorem W.postfreeze (h : W x R t b own fun v b' o' => ∃ (φ : Obj → Prop) (y : Ch) (r : List Ch), Split o' [y] r ∧ (∀ h, y.ok h → ∃ o, h.get? y.addr = some o ∧ φ o) ∧ ∀ o b'', φ o → b'.le b'' → b'' y.addr = some o → P v b'' r) : W x R t b own P :=
  W.post (h.mono fun v b' o' ⟨φ, y, r, hs, hx, p⟩ hp ok => let ⟨o, b'', q, q1, q2, q3, q4⟩ := ok_freeze ok hs hx; ⟨b'', r, q3, q4, p o b'' q q1 q2⟩)
end
noncomputable def Ch.of (a : Addr) (φ : Obj → Prop) : Ch where
  addr := a
  ok := fun h => ∃ o, h.get? a = some o ∧ φ o
  same := fun h h' e ⟨o, ho, p⟩ => ⟨o, e.trans ho, p⟩
  live := fun h ⟨o, ho, _⟩ => ⟨o, ho⟩
@[simp] theorem Ch.of_addr (a : Addr) (φ : Obj → Prop) : (Ch.of a φ).addr = a := rfl
noncomputable def LocO (l : List (Str × Value)) (o : Obj) : Prop := ∃ es ep, ∃ m : Str → Option Value, o.data = .dict es ep ∧ StrKeys es ∧ (∀ x, nsFind es x = m x) ∧ ∀ x v, l.lookup x = some v → ∃ v', m x = some v' ∧ er v' = v
noncomputable abbrev Ch.loc (L : Addr) (l : List (Str × Value)) : Ch := Ch.of L (LocO l)
noncomputable def LstO (vs : List Value) (o : Obj) : Prop := ∃ arr n, o = { cls := .type "list", dict := none, data := .seq arr n, slots := #[] } ∧ arr.toList.map er = vs
noncomputable def TupO (vs : List Value) (o : Obj) : Prop := o.cls = .type "tuple" ∧ ∃ arr n, o.data = .seq arr n ∧ arr.toList.map er = vs
noncomputable def DicO {w : World} {K : Type} [DecidableEq K] (knd : KeyKind pw w K) (a : Addr) (kvs : List (K × Value)) (o : Obj) : Prop := (a == sysModules) = false ∧ ∃ kvs', o.IsDictOf knd kvs' ∧ kvs'.map (fun p => (p.1, er p.2)) = kvs
noncomputable def At (b : Kn) (a : Addr) (φ : Obj → Prop) : Prop := ∃ o, b a = some o ∧ φ o
theorem At.mono {b b' : Kn} {a : Addr} {φ : Obj → Prop} (h : At b a φ) (hb : b.le b') : At b' a φ := let ⟨o, e, p⟩ := h; ⟨o, hb _ _ e, p⟩
noncomputable def Ent (h₀ : Heap) (b : Kn) (own : List Ch) (a : Addr) (φ : Obj → Prop) : Prop := ∀ h, Ok h₀ b own h → ∃ o, h.get? a = some o ∧ φ o
theorem At.ent {h₀ : Heap} {b : Kn} {own : List Ch} {a : Addr} {φ : Obj → Prop} (h : At b a φ) : Ent h₀ b own a φ := fun hp ok => let ⟨o, e, p⟩ := h; ⟨o, ok.kn _ _ e, p⟩
theorem Ent.own {h₀ : Heap} {b : Kn} {own : List Ch} {a : Addr} {φ : Obj → Prop} (h : Ch.of a φ ∈ own) : Ent h₀ b own a φ := fun hp ok => ok.mine _ h
inductive Put (x x' : Ch) : List Ch → List Ch → Prop
  | head {r} : Put x x' (x :: r) (x' :: r)
  | tail {y r r'} : Put x x' r r' → Put x x' (y :: r) (y :: r')
theorem Put.mem {x x' : Ch} {o o' : List Ch} (h : Put x x' o o') : x ∈ o := by
  induction h with
  | head => exact .head _
  | tail _ ih => exact .tail _ ih
theorem Put.addrs {x x' : Ch} {o o' : List Ch} (h : Put x x' o o') (e : x'.addr = x.addr) : o'.map Ch.addr = o.map Ch.addr := by
  induction h with
  | head => simp [e]
  | tail _ ih => simp [ih]
theorem Put.of_mem {x x' : Ch} {o o' : List Ch} (h : Put x x' o o') : ∀ y ∈ o', y = x' ∨ y ∈ o := by
  induction h with
  | head => intro y hy; rcases List.mem_cons.mp hy with rfl | q; exact .inl rfl; exact .inr (.tail _ q)
  | tail _ ih => intro y hy; rcases List.mem_cons.mp hy with rfl | q; exact .inr (.head _); exact (ih y q).imp id fun u => .tail _ u
theorem Put.apart {x x' : Ch} {o o' : List Ch} (h : Put x x' o o') (nd : (o.map Ch.addr).Nodup) (e : x'.addr = x.addr) : ∀ y ∈ o', y = x' ∨ (y ∈ o ∧ y.addr ≠ x.addr) := by
  induction h with
  | @head r =>
    intro y hy
    rcases List.mem_cons.mp hy with rfl | q
    · exact .inl rfl
    · exact .inr ⟨.tail _ q, fun z => (List.nodup_cons.mp nd).1 (z ▸ List.mem_map_of_mem q)⟩
  | @tail z r r' hp ih =>
    intro y hy
    have nd' := List.nodup_cons.mp nd
    rcases List.mem_cons.mp hy with rfl | q
    · exact .inr ⟨.head _, fun z => nd'.1 (z ▸ List.mem_map_of_mem hp.mem)⟩
    · exact (ih nd'.2 y q).imp id fun u => ⟨.tail _ u.1, u.2⟩
theorem ok_put {h₀ h h' : Heap} {b : Kn} {o o' : List Ch} {x x' : Ch} (ok : Ok h₀ b o h) (hp : Put x x' o o') (e : x'.addr = x.addr) (hs : Heap.SameBut x.addr h h') (hx : x'.ok h') : Ok h₀ b o' h' ∧ Frm h b o h' b o' := by
  have hb := ok.disj x hp.mem
  refine ⟨⟨ok.base, fun a ob q => (hs.2 a fun z => by rw [z, hb] at q; cases q).trans (ok.kn a ob q), fun y hy => ?_, by rw [hp.addrs e]; exact ok.nodup, fun y hy => ?_⟩,
    ⟨fun a ob n q => (hs.2 a fun z => n (z ▸ List.mem_map_of_mem hp.mem)).trans q, Kn.le.rfl, fun a ob q => .inl q, fun y hy => ?_⟩⟩
  · rcases hp.apart ok.nodup e y hy with rfl | ⟨m, n⟩
    · exact hx
    · exact y.same _ _ (hs.2 _ n) (ok.mine y m)
  · rcases hp.apart ok.nodup e y hy with rfl | ⟨m, n⟩
    · rw [e]; exact hb
    · exact ok.disj y m
  · rcases hp.apart ok.nodup e y hy with rfl | ⟨m, n⟩
    · exact .inl (e ▸ List.mem_map_of_mem hp.mem)
    · exact .inl (List.mem_map_of_mem m)
theorem ok_keep {h₀ h h' : Heap} {b : Kn} {o : List Ch} (ok : Ok h₀ b o h) (hk : ∀ a ob, h.get? a = some ob → h'.get? a = some ob) : Ok h₀ b o h' ∧ Frm h b o h' b o :=
  ⟨⟨ok.base, fun a ob q => hk _ _ (ok.kn a ob q), fun x hx => by
      obtain ⟨ob, hob⟩ := x.live _ (ok.mine x hx)
      exact x.same _ _ ((hk _ _ hob).trans hob.symm) (ok.mine x hx), ok.nodup, ok.disj⟩,
    ⟨fun a ob _ q => hk a ob q, Kn.le.rfl, fun _ _ q => .inl q, fun x hx => .inl (List.mem_map_of_mem hx)⟩⟩
theorem ok_new {h₀ h h' : Heap} {b : Kn} {o r : List Ch} {y x : Ch} (ok : Ok h₀ b o h) (e : o = y :: r) (hk : ∀ a ob, h.get? a = some ob → h'.get? a = some ob) (ha : h.get? x.addr = none) (hx : x.ok h') :
    Ok h₀ b (y :: x :: r) h' ∧ Frm h b o h' b (y :: x :: r) := by
  subst e
  obtain ⟨k, f⟩ := ok_keep ok hk
  have lt : ∀ z ∈ y :: r, h.get? z.addr ≠ none := fun z hz e => by obtain ⟨_, q⟩ := z.live _ (ok.mine z hz); rw [q] at e; cases e
  have nd := List.nodup_cons.mp ok.nodup
  refine ⟨⟨k.base, k.kn, fun z hz => ?_, ?_, fun z hz => ?_⟩, ⟨f.keep, Kn.le.rfl, fun _ _ q => .inl q, fun z hz => ?_⟩⟩
  · rcases List.mem_cons.mp hz with rfl | q
    · exact k.mine _ (.head _)
    · rcases List.mem_cons.mp q with rfl | q
      · exact hx
      · exact k.mine _ (.tail _ q)
  · show (y.addr :: x.addr :: r.map Ch.addr).Nodup
    refine List.nodup_cons.mpr ⟨fun q => ?_, List.nodup_cons.mpr ⟨fun q => ?_, nd.2⟩⟩
    · rcases List.mem_cons.mp q with q | q
      · exact lt y (.head _) (q ▸ ha)
      · exact nd.1 q
    · obtain ⟨z, hz, e⟩ := List.mem_map.mp q
      exact lt z (.tail _ hz) (e ▸ ha)
  · have : b x.addr = none := by
      cases q : b x.addr with
      | none => rfl
      | some ob => rw [ok.kn _ _ q] at ha; cases ha
    rcases List.mem_cons.mp hz with rfl | q
    · exact ok.disj _ (.head _)
    · rcases List.mem_cons.mp q with rfl | q
      · exact this
      · exact ok.disj _ (.tail _ q)
  · rcases List.mem_cons.mp hz with rfl | q
    · exact .inl (.head _)
    · rcases List.mem_cons.mp q with rfl | q
      · exact .inr ha
      · exact .inl (.tail _ (List.mem_map_of_mem q))
theorem ok_know {h₀ h h' : Heap} {b : Kn} {o : List Ch} {a : Addr} {ob : Obj} (ok : Ok h₀ b o h) (hk : ∀ a ob, h.get? a = some ob → h'.get? a = some ob) (ha : h.get? a = none) (hx : h'.get? a = some ob) :
    ∃ b', b.le b' ∧ b' a = some ob ∧ Ok h₀ b' o h' ∧ Frm h b o h' b' o := by
  obtain ⟨k, f⟩ := ok_keep ok hk
  have ne : ∀ {c oc}, b c = some oc → c ≠ a := fun q z => by have := ok.kn _ _ q; rw [z, ha] at this; cases this
  have lt : ∀ z ∈ o, h.get? z.addr ≠ none := fun z hz e => by obtain ⟨_, q⟩ := z.live _ (ok.mine z hz); rw [q] at e; cases e
  let b₁ : Kn := fun c => if c = a then some ob else b c
  have b1 : ∀ {c oc}, b c = some oc → b₁ c = some oc := fun {c oc} e => by show (if c = a then some ob else b c) = some oc; rw [if_neg (ne e)]; exact e
  have b2 : ∀ {c oc}, b₁ c = some oc → (c = a ∧ oc = ob) ∨ b c = some oc := fun {c oc} e => by
    change (if c = a then some ob else b c) = some oc at e
    split at e
    · rename_i q; exact .inl ⟨q, (Option.some.inj e).symm⟩
    · exact .inr e
  refine ⟨b₁, fun _ _ e => b1 e, if_pos rfl, ⟨fun c oc e => b1 (ok.base c oc e), fun c oc e => ?_, k.mine, k.nodup, fun z hz => ?_⟩, ⟨f.keep, fun _ _ e => b1 e, fun c oc e => ?_, f.U⟩⟩
  · rcases b2 e with ⟨rfl, rfl⟩ | q
    · exact hx
    · exact k.kn c oc q
  · show (if z.addr = a then some ob else b z.addr) = none
    rw [if_neg fun q => by have := lt z hz; rw [q] at this; exact this ha]; exact ok.disj z hz
  · rcases b2 e with ⟨rfl, rfl⟩ | q
    · exact .inr (.inl ha)
    · exact .inl q
theorem Ok.stays {h₀ h : Heap} {b : Kn} {own : List Ch} (ok : Ok h₀ b own h) : ∀ c o, h₀.get? c = some o → h.get? c = some o := fun c o e => ok.kn _ _ (ok.base _ _ e)
theorem fresh_size (h : Heap) : h.get? h.objs.size = none := by
  cases q : h.get? h.objs.size with
  | none => rfl
  | some o => exact absurd (Heap.lt_size q) (Nat.lt_irrefl _)
theorem map_get {vs : List Value} {us : List Value} (h : vs.map er = us) {j : Nat} {u : Value} (hu : us[j]? = some u) : ∃ v, vs[j]? = some v ∧ er v = u := by
  subst h; rw [List.getElem?_map] at hu; exact Option.map_eq_some_iff.mp hu
theorem map_len {vs : List Value} {us : List Value} (h : vs.map er = us) : vs.length = us.length := by rw [← h, List.length_map]
section
variable {Z : Zc} {i : Nat}
noncomputable def E (x : Act Z i) (e : Expr) (b : Kn) (own : List Ch) (P : Value → Kn → List Ch → Prop) : Prop := W x RV (eval e x.env) b own P
noncomputable def T (x : Act Z i) (e : Expr) (b : Kn) (own : List Ch) (P : Bool → Kn → List Ch → Prop) : Prop := W x Eq (isTrue e x.env (eval e x.env)) b own P
noncomputable def TL (x : Act Z i) (op : BoolOp) (es : List Expr) (b : Kn) (own : List Ch) (P : Bool → Kn → List Ch → Prop) : Prop := W x Eq (allTrue op es x.env) b own P
noncomputable def S (x : Act Z i) (ss : List Stmt) (b : Kn) (own : List Ch) (P : Flow → Kn → List Ch → Prop) : Prop := W x RF (execs ss x.env) b own P
noncomputable def RL (vs us : List Value) : Prop := vs.map er = us
noncomputable def Ags (x : Act Z i) (pos : Pos) (es : List Expr) (b : Kn) (own : List Ch) (P : List Value → Kn → List Ch → Prop) : Prop := W x RL (spliced (backTo pos (starEach es x.env))) b own P
noncomputable def Cmp (x : Act Z i) (op : CmpOp) (u v : Value) (b : Kn) (own : List Ch) (P : Value → Kn → List Ch → Prop) : Prop := ∀ u' v', er u' = u → er v' = v → W x RV (compareOp op u' v') b own P
noncomputable def Item (x : Act Z i) (ve se : Expr) (u v : Value) (b : Kn) (own : List Ch) (P : Value → Kn → List Ch → Prop) : Prop := ∀ u' v', er u' = u → er v' = v → W x RV (subscriptTail ve se u' v') b own P
noncomputable def Bin (x : Act Z i) (op : Operator) (u v : Value) (b : Kn) (own : List Ch) (P : Value → Kn → List Ch → Prop) : Prop := ∀ u' v', er u' = u → er v' = v → W x RV (binaryOp op u' v') b own P
noncomputable def Inp (x : Act Z i) (op : Operator) (u v : Value) (b : Kn) (own : List Ch) (P : Value → Kn → List Ch → Prop) : Prop := ∀ u' v', er u' = u → er v' = v → W x RV (inplaceOp op u' v') b own P
noncomputable def Una (x : Act Z i) (op : UnaryOp) (u : Value) (b : Kn) (own : List Ch) (P : Value → Kn → List Ch → Prop) : Prop := ∀ u', er u' = u → W x RV (unaryOp op u') b own P
noncomputable def Call (x : Act Z i) (f : Value) (us : List Value) (b : Kn) (own : List Ch) (P : Value → Kn → List Ch → Prop) : Prop := ∀ us', us'.map er = us → W x RV (call f us') b own P
noncomputable def Sto (x : Act Z i) (n : Str) (u : Value) (b : Kn) (own : List Ch) (P : Unit → Kn → List Ch → Prop) : Prop := ∀ u', er u' = u → W x Eq (storeName x.env n u') b own P
noncomputable def Asg (x : Act Z i) (t : Expr) (u : Value) (b : Kn) (own : List Ch) (P : Unit → Kn → List Ch → Prop) : Prop := ∀ u', er u' = u → W x Eq (assign t x.env u') b own P
noncomputable def Itr (x : Act Z i) (u : Value) (b : Kn) (own : List Ch) (P : Value → Kn → List Ch → Prop) : Prop := ∀ u', er u' = u → W x RV (pyIter u') b own P
noncomputable def SetI (x : Act Z i) (o k u : Value) (b : Kn) (own : List Ch) (P : Unit → Kn → List Ch → Prop) : Prop := ∀ o' k' u', er o' = o → er k' = k → er u' = u → W x Eq (setItem o' k' u') b own P
noncomputable def GetA (x : Act Z i) (o : Value) (n : Str) (b : Kn) (own : List Ch) (P : Value → Kn → List Ch → Prop) : Prop := ∀ o', er o' = o → W x RV (getAttr o' n true) b own P
noncomputable def SetA (x : Act Z i) (o : Value) (n : Str) (u : Value) (b : Kn) (own : List Ch) (P : Unit → Kn → List Ch → Prop) : Prop := ∀ o' u', er o' = o → er u' = u → W x Eq (setAttr o' n u') b own P
@[reducible] def Thn (x : Act Z i) (rest : List Stmt) (P : Flow → Kn → List Ch → Prop) : Flow → Kn → List Ch → Prop
  | .next, b, o => S x rest b o P
  | f, b, o => P f b o
noncomputable def retv : Flow → Value
  | .ret v => v
  | _ => .none
noncomputable def Ret (P : Value → Kn → List Ch → Prop) (f : Flow) (b : Kn) (o : List Ch) : Prop := ∃ y r, o = y :: r ∧ P (retv f) b r
theorem ret_ok {P : Value → Kn → List Ch → Prop} {v : Value} {b : Kn} {y : Ch} {r : List Ch} (h : P v b r) : Ret P (.ret v) b (y :: r) := ⟨y, r, rfl, h⟩
theorem next_ok {P : Value → Kn → List Ch → Prop} {b : Kn} {y : Ch} {r : List Ch} (h : P .none b r) : Ret P .next b (y :: r) := ⟨y, r, rfl, h⟩
variable {x : Act Z i} {b : Kn} {own : List Ch} {P : Value → Kn → List Ch → Prop} {l : List (Str × Value)} {r : List Ch}
theorem ns_of {h : Heap} {L : Addr} {l : List (Str × Value)} (x : (Ch.loc L l).ok h) : ∃ m, h.Ns L m ∧ ∀ x v, l.lookup x = some v → ∃ v', m x = some v' ∧ er v' = v :=
  let ⟨o, ho, es, ep, m, a, b, c, d⟩ := x; ⟨m, ⟨o, es, ep, ho, a, b, c⟩, d⟩
theorem of_ns {h : Heap} {L : Addr} {l : List (Str × Value)} {m : Str → Option Value} (n : h.Ns L m) (d : ∀ x v, l.lookup x = some v → ∃ v', m x = some v' ∧ er v' = v) : (Ch.loc L l).ok h :=
  let ⟨o, es, ep, ho, a, b, c⟩ := n; ⟨o, ho, es, ep, m, a, b, c, d⟩
theorem W.load {n : Str} {v : Value} (hv : l.lookup n = some v) (h : P v b (Ch.loc x.L l :: r)) (hk : (dScope (stmtAt i)).kind = .function) (hl : x.env.kindOf n = some .local) :
    W x RV (loadName x.env n) b (Ch.loc x.L l :: r) P := by
  intro s Q E ok g k
  obtain ⟨m, n', hm⟩ := ns_of (ok.mine _ (.head _))
  obtain ⟨v', hv', e⟩ := hm _ _ hv
  exact wpAny_loadName_local hk hl n' hv' (W.done (R := RV) e h ok k)
theorem E_name {n : Str} {pos : Pos} {v : Value} (hv : l.lookup n = some v) (h : P v b (Ch.loc x.L l :: r)) (hk : (dScope (stmtAt i)).kind = .function := by rfl)
    (hl : x.env.kindOf n = some .local := by rfl) (hd : (n == ("__debug__" : Str)) = false := by rfl) : E x (.Name n pos) b (Ch.loc x.L l :: r) P :=
  fun s Q E ok g k => wpAny_Name (W.load hv h hk hl s Q E ok g k) hd
theorem E_global {n : Str} {pos : Pos} {v : Value} (hv : Glo Z.h₀ n v) (h : P v b own) (hk : (dScope (stmtAt i)).kind = .function := by rfl) (he : er v = v := by rfl)
    (hx : x.env.kindOf n = some .globalImplicit := by rfl) (hd : (n == ("__debug__" : Str)) = false := by rfl) : E x (.Name n pos) b own P := by
  intro s Q E ok g k
  obtain ⟨mg, n', hm⟩ := hv
  exact Name_function_global hk hx (loadGlobal_global (n'.keeps ok.stays) hm (W.done (R := RV) he h ok k)) hd
theorem E_globalV {n : Str} {pos : Pos} {v v' : Value} (hv : Glo Z.h₀ n v') (he : er v' = v) (h : P v b own) (hk : (dScope (stmtAt i)).kind = .function := by rfl)
    (hx : x.env.kindOf n = some .globalImplicit := by rfl) (hd : (n == ("__debug__" : Str)) = false := by rfl) : E x (.Name n pos) b own P := by
  intro s Q E ok g k
  obtain ⟨mg, n', hm⟩ := hv
  exact Name_function_global hk hx (loadGlobal_global (n'.keeps ok.stays) hm (W.done (R := RV) he h ok k)) hd
theorem E_builtin {n : Str} {pos : Pos} {v : Value} (hv : Bui Z.h₀ n v) (h : P v b own) (hk : (dScope (stmtAt i)).kind = .function := by rfl) (he : er v = v := by rfl)
    (hx : x.env.kindOf n = some .globalImplicit := by rfl) (hd : (n == ("__debug__" : Str)) = false := by rfl) : E x (.Name n pos) b own P := by
  intro s Q E ok g k
  obtain ⟨mg, mb, n', n'', h1, h2⟩ := hv
  exact Name_function_global hk hx (loadGlobal_builtin (n'.keeps ok.stays) h1 (n''.keeps ok.stays) h2 (W.done (R := RV) he h ok k)) hd
theorem loc_set {L : Addr} {h' : Heap} {x : Str} {u v : Value} (hu : er u = v) {m : Str → Option Value} (hm : ∀ y u, l.lookup y = some u → ∃ v', m y = some v' ∧ er v' = u) (hn : h'.Ns L (fun y => if y = x then some u else m y)) : (Ch.loc L ((x, v) :: l)).ok h' :=
  of_ns hn fun y u q => by
    rw [List.lookup_cons] at q
    by_cases hy : y = x
    · subst hy; rw [beq_self_eq_true] at q; exact ⟨_, if_pos rfl, hu.trans (Option.some.inj q)⟩
    · rw [beq_eq_false_iff_ne.mpr hy] at q; rw [if_neg hy]; exact hm y u q
theorem Sto_ok {n : Str} {v : Value} {P : Unit → Kn → List Ch → Prop} (h : P () b (Ch.loc x.L ((n, v) :: l) :: r)) (hk : (dScope (stmtAt i)).kind = .function := by rfl) (hl : x.env.kindOf n = some .local := by rfl) : Sto x n v b (Ch.loc x.L l :: r) P := by
  intro u hu s Q E ok g k
  obtain ⟨m, n', hm⟩ := ns_of (ok.mine _ (.head _))
  refine wpAny_storeName_local (env := x.env) hl n' (fun h' hn hs => ?_) (by show ((dScope (stmtAt i)).kind == .class || ((dScope (stmtAt i)).kind == .module && x.L != mainGlobals)) = false; rw [hk]; rfl)
  obtain ⟨ok', f⟩ := ok_put ok (.head (x' := Ch.loc x.L ((n, v) :: l))) rfl hs (loc_set hu hm hn)
  exact k () () b _ h' _ rfl h ok' f
theorem W.names {α β : Type} {R : α → β → Prop} {t : Sem α} {P : β → Kn → List Ch → Prop} {l' : List (Str × Value)} (hl : ∀ p ∈ l', l.lookup p.1 = some p.2) (h : W x R t b (Ch.loc x.L l' :: r) P) : W x R t b (Ch.loc x.L l :: r) P :=
  W.ghost fun hp ok => by
    obtain ⟨m, n, hm⟩ := ns_of (ok.mine _ (.head _))
    have hx : (Ch.loc x.L l').ok hp := of_ns n fun x v q => by
      obtain ⟨l₁, l₂, e, _⟩ := List.lookup_eq_some_iff.mp q
      exact hm _ _ (hl (x, v) (by rw [e]; simp))
    obtain ⟨ok', f⟩ := ok_put ok (.head (x' := Ch.loc x.L l')) rfl (Heap.SameBut.refl _ _) hx
    exact ⟨b, _, ok', f, h⟩
theorem E_str {n : Str} {k : Nat} {pos : Pos} (h : P (vS n) b own) : E x (.Constant (.str n) k pos) b own P := fun s Q E ok g q => Constant_str (q _ (vS n) b own s.heap _ rfl h ok Frm.rfl)
theorem E_int {n : Int} {k : Nat} {pos : Pos} (h : P (vI n) b own) : E x (.Constant (.int n) k pos) b own P := fun s Q E ok g q => wpAny_Constant_int (q _ (vI n) b own s.heap _ rfl h ok Frm.rfl)
theorem E_bool {c : Bool} {k : Nat} {pos : Pos} (h : P (.bool c) b own) : E x (.Constant (.bool c) k pos) b own P := fun s Q E ok g q => by exact fun _ _ _ => q (.bool c) (.bool c) b own s.heap s.toks rfl h ok Frm.rfl
theorem E_none {k : Nat} {pos : Pos} (h : P .none b own) : E x (.Constant .none k pos) b own P := fun s Q E ok g q => by exact fun _ _ _ => q .none .none b own s.heap s.toks rfl h ok Frm.rfl
theorem E_cmp {lh rh : Expr} {op : CmpOp} {pos : Pos} (h : E x lh b own fun u b₁ o₁ => E x rh b₁ o₁ fun v b₂ o₂ => Cmp x op u v b₂ o₂ P) (hm : behindInMarks op rh = false := by with_unfolding_all rfl) : E x (.Compare lh [op] [rh] pos) b own P :=
  W.part (fun _ _ _ q => wpAny_Compare1 q hm) (h.mono fun u _ _ h₁ v hv s Q E ok g k => h₁.go ok g fun v' u' b₂ o₂ h₂ tk₂ hr hq ok₂ g₂ f₂ => hq v v' hv hr _ Q E ok₂ g₂ fun v u b' o' h' tk r p ok' f' => k v u b' o' h' tk r p ok' (f₂.trans f'))
theorem E_bin {lh rh : Expr} {op : Operator} {pos : Pos} (h : E x lh b own fun u b₁ o₁ => E x rh b₁ o₁ fun v b₂ o₂ => Bin x op u v b₂ o₂ P) : E x (.BinOp lh op rh pos) b own P :=
  W.part (fun _ _ _ q => wpAny_BinOp q) (h.mono fun u _ _ h₁ v hv s Q E ok g k => h₁.go ok g fun v' u' b₂ o₂ h₂ tk₂ hr hq ok₂ g₂ f₂ => hq v v' hv hr _ Q E ok₂ g₂ fun v u b' o' h' tk r p ok' f' => k v u b' o' h' tk r p ok' (f₂.trans f'))
theorem E_sub {lh rh : Expr} {pos : Pos} (h : E x lh b own fun u b₁ o₁ => E x rh b₁ o₁ fun v b₂ o₂ => Item x lh rh u v b₂ o₂ P) : E x (.Subscript lh rh pos) b own P :=
  W.part (fun _ _ _ q => Subscript_ q) (h.mono fun u _ _ h₁ v hv s Q E ok g k => h₁.go ok g fun v' u' b₂ o₂ h₂ tk₂ hr hq ok₂ g₂ f₂ => hq v v' hv hr _ Q E ok₂ g₂ fun v u b' o' h' tk r p ok' f' => k v u b' o' h' tk r p ok' (f₂.trans f'))
theorem E_un {e : Expr} {op : UnaryOp} {pos : Pos} (h : E x e b own fun u b₁ o₁ => Una x op u b₁ o₁ P) : E x (.UnaryOp op e pos) b own P :=
  W.part (fun _ _ _ q => wpAny_UnaryOp q) (h.mono fun u _ _ h₁ v hv => h₁ v hv)
theorem E_attr {e : Expr} {attr : Str} {pos : Pos} (h : E x e b own fun u b₁ o₁ => GetA x u attr b₁ o₁ P)
    (he : eval (.Attribute e attr pos) x.env = (do
      let o ← eval e x.env
      standAt pos.atName
      let r ← holding [o] (getAttr o attr true)
      letTemporaryGo e o r
      Pure.pure r) := by with_unfolding_all rfl) : E x (.Attribute e attr pos) b own P :=
  W.part (fun _ _ _ q => Attribute_any_ q he) (h.mono fun u _ _ h₁ v hv => h₁ v hv)
theorem E_if {test body orelse : Expr} {pos : Pos} (h : T x test b own fun c b₁ o₁ => if c then E x body b₁ o₁ P else E x orelse b₁ o₁ P) : E x (.IfExp test body orelse pos) b own P :=
  W.part (fun _ _ _ q => wpAny_IfExp q) (h.mono fun c _ _ h₁ v hv s Q E ok g k => by subst hv; cases v <;> exact h₁ s Q E ok g k)
theorem T_cmp {lh rh : Expr} {op : CmpOp} {pos : Pos} {P : Bool → Kn → List Ch → Prop} (h : E x lh b own fun u b₁ o₁ => E x rh b₁ o₁ fun v b₂ o₂ => Cmp x op u v b₂ o₂ fun c b₃ o₃ => ∃ q, c = .bool q ∧ P q b₃ o₃) (hm : behindInMarks op rh = false := by with_unfolding_all rfl) : T x (.Compare lh [op] [rh] pos) b own P :=
  W.part (fun _ _ _ q => wpAny_isTrue_Compare1 q hm) (h.mono fun u _ _ h₁ v hv s Q E ok g k => h₁.go ok g fun v' u' b₂ o₂ h₂ tk₂ hr hq ok₂ g₂ f₂ => (hq v v' hv hr).go ok₂ g₂ fun c u b' o' h' tk r p ok' g' f' => by
    obtain ⟨q, rfl, p⟩ := p
    obtain rfl := er_bool r
    exact wpAny_truthy_bool (k q q b' o' h' tk rfl p ok' (f₂.trans f')))
theorem T_not {e : Expr} {pos : Pos} {P : Bool → Kn → List Ch → Prop} (h : T x e b own fun c b₁ o₁ => P (!c) b₁ o₁) : T x (.UnaryOp .Not e pos) b own P :=
  W.part (fun _ _ _ q => wpAny_isTrue_Not q) (h.mono fun c b₁ o₁ p v hv s Q E ok g k => k _ _ _ _ s.heap s.toks (by rw [hv]) p ok Frm.rfl)
theorem T_val {e : Expr} {P : Bool → Kn → List Ch → Prop} (h : E x e b own fun v b₁ o₁ => ∃ q, v = .bool q ∧ P q b₁ o₁) (he : ∀ whole, isTrue e x.env whole = (do let v ← whole; standAt e.pos; holding [v] (truthy v)) := by intro _; rfl) : T x e b own P :=
  W.part (fun _ _ _ q => wpAny_isTrue_value q (he _)) (h.mono fun v b₁ o₁ p v' hv s Q E ok g k => by
    obtain ⟨q, rfl, p⟩ := p
    obtain rfl := er_bool hv
    exact wpAny_truthy_bool (k _ _ _ _ s.heap s.toks rfl p ok Frm.rfl))
theorem T_bool {op : BoolOp} {es : List Expr} {pos : Pos} {P : Bool → Kn → List Ch → Prop} (h : TL x op es b own P) : T x (.BoolOp op es pos) b own P := fun s Q E ok g k => wpAny_isTrue_BoolOp (h s Q E ok g k)
theorem TL_and {e : Expr} {es : List Expr} {P : Bool → Kn → List Ch → Prop} (h : T x e b own fun c b₁ o₁ => if c then TL x .And es b₁ o₁ P else P false b₁ o₁) : TL x .And (e :: es) b own P :=
  W.part (fun _ _ _ q => wpAny_allTrue_And_cons q) (h.mono fun c b₁ o₁ p v hv s Q E ok g k => by subst hv; cases v <;> first | exact k _ _ _ _ s.heap s.toks rfl p ok Frm.rfl | exact p s Q E ok g k)
theorem TL_or {e : Expr} {es : List Expr} {P : Bool → Kn → List Ch → Prop} (h : T x e b own fun c b₁ o₁ => if c then P true b₁ o₁ else TL x .Or es b₁ o₁ P) : TL x .Or (e :: es) b own P :=
  W.part (fun _ _ _ q => wpAny_allTrue_Or_cons q) (h.mono fun c b₁ o₁ p v hv s Q E ok g k => by subst hv; cases v <;> first | exact k _ _ _ _ s.heap s.toks rfl p ok Frm.rfl | exact p s Q E ok g k)
theorem TL_and0 {P : Bool → Kn → List Ch → Prop} (h : P true b own) : TL x .And [] b own P := fun s Q E ok g k => wpAny_allTrue_And_nil (W.done (R := Eq) rfl h ok k)
theorem TL_or0 {P : Bool → Kn → List Ch → Prop} (h : P false b own) : TL x .Or [] b own P := fun s Q E ok g k => wpAny_allTrue_Or_nil (W.done (R := Eq) rfl h ok k)
theorem E_and {e f : Expr} {es : List Expr} {pos : Pos} (h : E x e b own fun v b₁ o₁ => ∃ q, v = .bool q ∧ if q then E x (.BoolOp .And (f :: es) pos) b₁ o₁ P else P (.bool false) b₁ o₁) : E x (.BoolOp .And (e :: f :: es) pos) b own P :=
  W.part (fun _ _ _ q => BoolOp_and q) (h.mono fun v b₁ o₁ p v' hv s Q E ok g k => by
    obtain ⟨q, rfl, p⟩ := p
    obtain rfl := er_bool hv
    refine wpAny_truthy_bool ?_
    cases q <;> first | exact k _ _ _ _ s.heap s.toks rfl p ok Frm.rfl | exact p s Q E ok g k)
theorem E_or {e f : Expr} {es : List Expr} {pos : Pos} (h : E x e b own fun v b₁ o₁ => ∃ q, v = .bool q ∧ if q then P (.bool true) b₁ o₁ else E x (.BoolOp .Or (f :: es) pos) b₁ o₁ P) : E x (.BoolOp .Or (e :: f :: es) pos) b own P :=
  W.part (fun _ _ _ q => BoolOp_or q) (h.mono fun v b₁ o₁ p v' hv s Q E ok g k => by
    obtain ⟨q, rfl, p⟩ := p
    obtain rfl := er_bool hv
    refine wpAny_truthy_bool ?_
    cases q <;> first | exact k _ _ _ _ s.heap s.toks rfl p ok Frm.rfl | exact p s Q E ok g k)
theorem E_bool1 {e : Expr} {op : BoolOp} {pos : Pos} (h : E x e b own P) : E x (.BoolOp op [e] pos) b own P := fun s Q E ok g k => BoolOp_one (h s Q E ok g k)
theorem if_t {c : Bool} {X Y : Prop} (h : c = true) (x : X) : if c then X else Y := by rw [if_pos h]; exact x
theorem if_f {c : Bool} {X Y : Prop} (h : c = false) (y : Y) : if c then X else Y := by rw [h]; exact y
theorem if_b {c : Bool} {X Y : Prop} (x : c = true → X) (y : c = false → Y) : if c then X else Y := by cases c; exact y rfl; exact x rfl
section
variable {rest : List Stmt} {P : Flow → Kn → List Ch → Prop}
theorem S_nil (h : P .next b own) : S x [] b own P := fun s Q E ok g k => wpAny_execs_nil (W.done (R := RF) rfl h ok k)
theorem S_cons {st : Stmt} (h : W x RF (exec st x.env) b own (Thn x rest P)) : S x (st :: rest) b own P :=
  W.part (fun _ _ _ q => wpAny_execs_cons q) (h.mono fun f b₁ o₁ p v hv s Q E ok g k => by
    cases v <;> (cases hv; first | exact p s Q E ok g k | exact k _ _ _ _ s.heap s.toks rfl p ok Frm.rfl))
theorem S_if {test : Expr} {body orelse : List Stmt} {pos : Pos} (h : T x test b own fun c b₁ o₁ => if c then S x body b₁ o₁ (Thn x rest P) else S x orelse b₁ o₁ (Thn x rest P)) : S x (.If test body orelse pos :: rest) b own P :=
  S_cons (W.part (fun _ _ _ q => wpAny_If q) (h.mono fun c _ _ h₁ v hv s Q E ok g k => by subst hv; cases v <;> exact h₁ s Q E ok g k))
theorem S_if1 {test : Expr} {body : List Stmt} {pos : Pos} (h : T x test b own fun c b₁ o₁ => if c then S x body b₁ o₁ (Thn x rest P) else S x rest b₁ o₁ P) : S x (.If test body [] pos :: rest) b own P :=
  S_if (h.mono fun c b₁ o₁ q => by cases c <;> first | exact q | exact S_nil q)
theorem S_ret {e : Expr} {pos : Pos} (h : E x e b own fun v => P (.ret v)) : S x (.Return (some e) pos :: rest) b own P :=
  S_cons (W.part (fun _ _ _ q => wpAny_Return_some q) (h.mono fun v b₁ o₁ p v' hv s Q E ok g k => k (.ret v') (.ret v) _ _ s.heap s.toks (by cases hv; rfl) p ok Frm.rfl))
theorem S_asg {n : Str} {p' pos : Pos} {value : Expr} (h : E x value b own fun v b₁ o₁ => Sto x n v b₁ o₁ fun _ b₂ o₂ => S x rest b₂ o₂ P)
    (hs : swapsWith value (some (.Name n p')) pos.line x.env = Pure.pure false := by rfl) : S x (.Assign [.Name n p'] value pos :: rest) b own P :=
  S_cons (W.part (fun _ _ _ q => wpAny_Assign_Name q hs) (h.mono fun v b₁ o₁ p v' hv s Q E ok g k => (p v' hv).go ok g fun _ _ b' o' h' tk _ p ok' _ f' => k _ _ _ _ h' tk rfl p ok' f'))
theorem S_aug {n : Str} {p' pos : Pos} {op : Operator} {value : Expr} {old : Value} {l : List (Str × Value)} {r : List Ch} (hv : l.lookup n = some old)
    (h : E x value b (Ch.loc x.L l :: r) fun v b₂ o₂ => Inp x op old v b₂ o₂ fun u b₃ o₃ => Sto x n u b₃ o₃ fun _ b₄ o₄ => S x rest b₄ o₄ P)
    (hk : (dScope (stmtAt i)).kind = .function := by rfl) (hl : x.env.kindOf n = some .local := by rfl) : S x (.AugAssign (.Name n p') op value pos :: rest) b (Ch.loc x.L l :: r) P :=
  S_cons (W.part (T := RV) (fun _ _ _ q => wpAny_AugAssign_Name q) (W.load hv (fun v' hv' s Q E ok g k => h.go ok g fun u' u b₂ o₂ h₂ tk₂ hr h₃ ok₂ g₂ f₂ => (h₃ v' u' hv' hr).go ok₂ g₂ fun w' u b₃ o₃ h₃ tk₃ hr' h₄ ok₃ g₃ f₃ => (h₄ w' hr').go ok₃ g₃ fun _ _ b' o' h' tk _ p ok' _ f' => k _ _ _ _ h' tk rfl p ok' (f₂.trans (f₃.trans f'))) hk hl))
theorem S_exp {e : Expr} {pos : Pos} (h : E x e b own fun v b₁ o₁ => (∀ a, v ≠ .ref a) ∧ S x rest b₁ o₁ P)
    (hi : interactive x.env = false := by rfl) (hs : swapsWith e Option.none pos.line x.env = Pure.pure false := by rfl) : S x (.Expr e pos :: rest) b own P :=
  S_cons (W.part (fun _ _ _ q => wpAny_Expr q hi hs) (h.mono fun v b₁ o₁ q v' hv s Q E ok g k => by
    have hn := er_noref (v := v') (by rw [show er v' = v from hv]; exact q.1)
    cases v' <;> first | exact (hn _ rfl).elim | exact k .next .next _ _ s.heap s.toks rfl q.2 ok Frm.rfl))
theorem S_seti {o k value : Expr} {p' pos : Pos} (h : E x value b own fun v b₁ o₁ => E x o b₁ o₁ fun ov b₂ o₂ => E x k b₂ o₂ fun kv b₃ o₃ => SetI x ov kv v b₃ o₃ fun _ b₄ o₄ => S x rest b₄ o₄ P)
    (hs : swapsWith value (some (.Subscript o k p')) pos.line x.env = Pure.pure false := by rfl) : S x (.Assign [.Subscript o k p'] value pos :: rest) b own P :=
  S_cons (W.part (fun _ _ _ q => wpAny_Assign_Subscript q hs) (h.mono fun v _ _ h₁ v' hv s Q E ok g k => h₁.go ok g fun o' _ _ _ _ _ ho h₂ ok₂ g₂ f₂ => h₂.go ok₂ g₂ fun k' _ _ _ _ _ hk h₃ ok₃ g₃ f₃ => (h₃ o' k' v' ho hk hv).go ok₃ g₃ fun _ _ b' o' h' tk _ p ok' _ f' => k _ _ _ _ h' tk rfl p ok' (f₂.trans (f₃.trans f'))))
theorem S_seta {o value : Expr} {attr : Str} {p' pos : Pos} (h : E x value b own fun v b₁ o₁ => E x o b₁ o₁ fun ov b₂ o₂ => SetA x ov attr v b₂ o₂ fun _ b₄ o₄ => S x rest b₄ o₄ P)
    (hs : swapsWith value (some (.Attribute o attr p')) pos.line x.env = Pure.pure false := by rfl) : S x (.Assign [.Attribute o attr p'] value pos :: rest) b own P :=
  S_cons (W.part (fun _ _ _ q => plainObj_wpAny_Assign_Attribute q hs) (h.mono fun v _ _ h₁ v' hv s Q E ok g k => h₁.go ok g fun o' _ _ _ _ _ ho h₂ ok₂ g₂ f₂ => (h₂ o' v' ho hv).go ok₂ g₂ fun _ _ b' o' h' tk _ p ok' _ f' => k _ _ _ _ h' tk rfl p ok' (f₂.trans f')))
end
theorem A_cons {e : Expr} {es : List Expr} {pos : Pos} {P : List Value → Kn → List Ch → Prop} (h : E x e b own fun v b₁ o₁ => Ags x pos es b₁ o₁ fun vs b₂ o₂ => P (v :: vs) b₂ o₂)
    (he : starEach (e :: es) x.env = (false, eval e x.env) :: starEach es x.env := by rfl) : Ags x pos (e :: es) b own P :=
  W.part (fun _ _ _ q => wpAny_items_cons q he) (h.mono fun v _ _ q v' hv s Q E ok g k => q.go ok g fun _ _ _ _ _ _ hr p ok' _ f' => k _ _ _ _ _ _ (by show List.map er (_ :: _) = _; rw [List.map_cons, show er v' = v from hv, show List.map er _ = _ from hr]) p ok' f')
theorem A_nil {pos : Pos} {P : List Value → Kn → List Ch → Prop} (h : P [] b own) : Ags x pos [] b own P := fun s Q E ok g k => wpAny_items_nil (W.done (R := RL) rfl h ok k)
noncomputable def Callee (w : World) (h₀ : Heap) (f : Value) : Prop := ∀ h : Heap, (∀ c o, h₀.get? c = some o → h.get? c = some o) → ∃ k, (k = Keeper.frame ∨ k = Keeper.machine ∨ k = Keeper.boundFrame) ∧ Looks (model pw w) h (keeperOf f) k
theorem callee_fn {w : World} {h₀ : Heap} {f : Addr} {i : Nat} {dV : Value} (fn : FnAt h₀ f i dV) : Callee w h₀ (.ref f) := fun h hk => by
  obtain ⟨oc, od, osl, kV, doc, pm, an, cdv, ct, ho, hcd⟩ := fn
  exact ⟨.frame, .inl rfl, (Looks.ld (part := Option.none) (hk _ _ ho)).andThen .now⟩
theorem callee_builtin {w : World} {h₀ : Heap} {id : String} : Callee w h₀ (.builtin id) := fun h hk => ⟨.machine, .inr (.inl rfl), .now⟩
theorem callee_type {w : World} {h₀ : Heap} {id : String} : Callee w h₀ (.type id) := fun h hk => ⟨.machine, .inr (.inl rfl), .now⟩
theorem callWith_ok {pos : Pos} {f : Value} {first : List Value} {e : Expr} {es : List Expr} (hf : Callee Z.w Z.h₀ f) (h : Ags x pos (e :: es) b own fun vs b₁ o₁ => Call x f (first.map er ++ vs) b₁ o₁ P)
    (he : starEach (e :: es) x.env = (false, eval e x.env) :: starEach es x.env := by rfl) (hplain : (backTo pos (starEach es x.env)).any (·.1) = false := by rfl) :
    W x RV (callWith pos f first (backTo pos (starEach (e :: es) x.env)) []) b own P := by
  intro s Q E ok g k
  unfold Ags at h
  rw [he] at h ⊢
  refine callWith_of (P := fun h => ∀ c o, Z.h₀.get? c = some o → h.get? c = some o) (by show ((false || (backTo pos (starEach es x.env)).any (·.1)) || false) = false; rw [hplain]; rfl) hf (evalArgs_plain ?_)
  exact h.go ok g fun vs us b₁ o₁ h₁ tk₁ hr r ok₁ g₁ f₁ => ⟨ok₁.stays, r (first ++ vs) (by rw [List.map_append, show vs.map er = us from hr]) _ _ _ ok₁ g₁ fun v u b' o' h' tk r p ok' f' => k v u b' o' h' tk r p ok' (f₁.trans f')⟩
theorem callWith_ok0 {pos : Pos} {f : Value} {first : List Value} (hf : Callee Z.w Z.h₀ f) (h : Call x f (first.map er) b own P) : W x RV (callWith pos f first (backTo pos (starEach [] x.env)) []) b own P := fun s Q E ok g k =>
  callWith_of (P := fun h => ∀ c o, Z.h₀.get? c = some o → h.get? c = some o) rfl hf (evalArgs_nil3 ⟨ok.stays, by rw [show first ++ (⟨[], []⟩ : Args).pos = first from List.append_nil _]; exact h first rfl s Q E ok g k⟩)
theorem E_call {n : Str} {np pos : Pos} {e : Expr} {es : List Expr} (h : E x (.Name n np) b own fun f b₁ o₁ => ∃ f', er f' = f ∧ (∀ g, er g = f → g = f') ∧ Callee Z.w Z.h₀ f' ∧ Ags x pos (e :: es) b₁ o₁ fun vs b₂ o₂ => Call x f' vs b₂ o₂ P)
    (he : starEach (e :: es) x.env = (false, eval e x.env) :: starEach es x.env := by rfl) (hplain : (backTo pos (starEach es x.env)).any (·.1) = false := by rfl) : E x (.Call (.Name n np) (e :: es) [] pos) b own P :=
  W.part (fun _ _ _ q => wpAny_Call_ofName q) (h.mono fun f b₁ o₁ ⟨f', _, hu, hc, q⟩ v hv s Q E ok g k => by
    obtain rfl := hu v hv
    exact callWith_ok hc (by simpa using q) he hplain s Q E ok g k)
theorem E_fn {n : Str} {np pos : Pos} {e : Expr} {es : List Expr} (j : Nat) (h : Ags x pos (e :: es) b own fun vs b₂ o₂ => Call x (.ref (Z.F j)) vs b₂ o₂ P) (hj : j ∈ defIdx := by decide)
    (hn : dName (stmtAt j) = n := by rfl) (hk : (dScope (stmtAt i)).kind = .function := by rfl) (hx : x.env.kindOf n = some .globalImplicit := by rfl) (hd : (n == ("__debug__" : Str)) = false := by rfl)
    (he : starEach (e :: es) x.env = (false, eval e x.env) :: starEach es x.env := by rfl) (hplain : (backTo pos (starEach es x.env)).any (·.1) = false := by rfl) : E x (.Call (.Name n np) (e :: es) [] pos) b own P :=
  E_call (E_global (hn ▸ Z.ok.glo j hj) ⟨_, rfl, fun _ q => er_ref q, callee_fn (Z.ok.fn j (List.mem_append_left _ hj)), h⟩ hk rfl hx hd) he hplain
theorem E_bi {n : Str} {id : String} {np pos : Pos} {e : Expr} {es : List Expr} (hb : Bui Z.h₀ n (.builtin id)) (h : Ags x pos (e :: es) b own fun vs b₂ o₂ => Call x (.builtin id) vs b₂ o₂ P)
    (hk : (dScope (stmtAt i)).kind = .function := by rfl) (hx : x.env.kindOf n = some .globalImplicit := by rfl) (hd : (n == ("__debug__" : Str)) = false := by rfl)
    (he : starEach (e :: es) x.env = (false, eval e x.env) :: starEach es x.env := by rfl) (hplain : (backTo pos (starEach es x.env)).any (·.1) = false := by rfl) : E x (.Call (.Name n np) (e :: es) [] pos) b own P :=
  E_call (E_builtin hb ⟨_, rfl, fun _ q => er_builtin q, callee_builtin, h⟩ hk rfl hx hd) he hplain
theorem E_ty {n : Str} {id : String} {np pos : Pos} {e : Expr} {es : List Expr} (hb : Bui Z.h₀ n (.type id)) (h : Ags x pos (e :: es) b own fun vs b₂ o₂ => Call x (.type id) vs b₂ o₂ P)
    (hk : (dScope (stmtAt i)).kind = .function := by rfl) (hx : x.env.kindOf n = some .globalImplicit := by rfl) (hd : (n == ("__debug__" : Str)) = false := by rfl)
    (he : starEach (e :: es) x.env = (false, eval e x.env) :: starEach es x.env := by rfl) (hplain : (backTo pos (starEach es x.env)).any (·.1) = false := by rfl) : E x (.Call (.Name n np) (e :: es) [] pos) b own P :=
  E_call (E_builtin hb ⟨_, rfl, fun _ q => er_type q, callee_type, h⟩ hk rfl hx hd) he hplain
end
section
variable {Z : Zc} {i : Nat} {x : Act Z i} {b : Kn} {own : List Ch}
theorem tl_ok {h₀ h : Heap} {b : Kn} {o : List Ch} {y : Ch} (q : Ok h₀ b (y :: o) h) : Ok h₀ b o h := ⟨q.base, q.kn, fun z hz => q.mine z (.tail _ hz), (List.nodup_cons.mp q.nodup).2, fun z hz => q.disj z (.tail _ hz)⟩
theorem tl_frm {h h' : Heap} {b b' : Kn} {o o' : List Ch} {y : Ch} (q : Frm h b o h' b' (y :: o')) : Frm h b o h' b' o' := ⟨q.keep, q.kn, q.new, fun z hz => q.U z (.tail _ hz)⟩
structure ItK (x : Act Z i) (target : Expr) (I : Addr) (φ : Nat → Obj → Prop) (n : Nat) (Pv : Nat → Value → Prop) (Cn : Kn → List Ch → Prop) : Prop where
  next : ∀ i b o (s : Shared) (Q : Option Value → Shared → Prop) (E : Value → Shared → Prop), i < n → Cn b o → Ok Z.h₀ b (Ch.of I (φ i) :: o) s.heap →
    (∀ v h' tk, Pv i (er v) → Heap.SameBut I s.heap h' → (Ch.of I (φ (i + 1))).ok h' → Q (some v) { s with heap := h', toks := tk }) → wpAny (model pw Z.w) x.A (pyNext (.ref I)) Q E s
  done : ∀ b o (s : Shared) (Q : Option Value → Shared → Prop) (E : Value → Shared → Prop), Cn b o → Ok Z.h₀ b (Ch.of I (φ n) :: o) s.heap →
    (∀ h' tk, (∀ c ob, c ≠ I → s.heap.get? c = some ob → h'.get? c = some ob) → Q none { s with heap := h', toks := tk }) → wpAny (model pw Z.w) x.A (pyNext (.ref I)) Q E s
  go : ∀ i v b o (s : Shared) (Q : Unit → Shared → Prop) (E : Value → Shared → Prop), Pv i (er v) → Ok Z.h₀ b (Ch.of I (φ (i + 1)) :: o) s.heap → Q () s → wpAny (model pw Z.w) x.A (letOwnedTupleGo target (.ref I) v) Q E s
noncomputable def ForQ (x : Act Z i) (target : Expr) (body rest : List Stmt) (P : Flow → Kn → List Ch → Prop) (it : Value) (b₂ : Kn) (o₂ : List Ch) : Prop :=
  ∃ (I : Addr) (φ : Nat → Obj → Prop) (n : Nat) (Pv : Nat → Value → Prop) (Cn : Kn → List Ch → Prop) (r : List Ch) (J : Nat → Kn → List Ch → Prop),
      it = .ref I ∧ Split o₂ [Ch.of I (φ 0)] r ∧ ItK x target I φ n Pv Cn ∧ J 0 b₂ r ∧
      (∀ i b' o', b₂.le b' → J i b' o' → Cn b' o') ∧
      (∀ i u b' o', i < n → Pv i u → b₂.le b' → J i b' o' → Asg x.free target u b' o' fun _ b₃ o₃ => S x.free body b₃ o₃ fun f b₄ o₄ => match f with
        | .next | .cont => J (i + 1) b₄ o₄
        | .brk => S x rest b₄ o₄ P
        | .ret u => P (.ret u) b₄ o₄) ∧
      (∀ b' o', b₂.le b' → J n b' o' → S x rest b' o' P)
theorem S_for {target iter : Expr} {body rest : List Stmt} {pos : Pos} {P : Flow → Kn → List Ch → Prop} (h : E x iter b own fun v b₁ o₁ => Itr x v b₁ o₁ (ForQ x target body rest P))
    (hs : ∀ v, foldedSetIterable iter x.env v = Pure.pure v := by intro _; rfl) : S x (.For target iter body [] pos :: rest) b own P := by
  refine S_cons ?_
  intro s Q E ok g k
  refine wpAny_For (h.go ok g fun v' v b₁ o₁ h₁ tk₁ hv r₁ ok₁ g₁ f₁ => (r₁ v' hv).go ok₁ g₁ fun it' it b₂ o₂ h₂ tk₂ hit r₂ ok₂ g₂ f₂ => ?_) hs
  obtain ⟨I, φ, n, Pv, Cn, r, J, rfl, hsp, K, hJ, hc, turn, fin⟩ := r₂
  obtain rfl := er_ref hit
  have pm := hsp.perm
  have ok₃ : Ok Z.h₀ b₂ (Ch.of I (φ 0) :: r) h₂ := ⟨ok₂.base, ok₂.kn, fun x hx => ok₂.mine x (pm.mem_iff.mpr hx), (pm.map _).nodup_iff.mp ok₂.nodup, fun x hx => ok₂.disj x (pm.mem_iff.mpr hx)⟩
  have f₃ : Frm s.heap b own h₂ b₂ (Ch.of I (φ 0) :: r) := (f₁.trans f₂).trans ⟨fun _ _ _ e => e, Kn.le.rfl, fun _ _ e => .inl e, fun x hx => .inl (List.mem_map_of_mem (pm.mem_iff.mpr hx))⟩
  refine codeAny_forLoop_any (fun k' s' => ∃ i b' o' h' tk, s' = { s with heap := h', toks := tk } ∧ k' = n + 1 - i ∧ i ≤ n ∧ b₂.le b' ∧ J i b' o' ∧ Ok Z.h₀ b' (Ch.of I (φ i) :: o') h' ∧ Frm s.heap b own h' b' (Ch.of I (φ i) :: o')) ?_ (n + 1)
    ⟨0, b₂, r, h₂, tk₂, rfl, rfl, Nat.zero_le _, Kn.le.rfl, hJ, ok₃, f₃⟩
  rintro k' s' ⟨i, b', o', h', tk, rfl, rfl, hi, hb, hJ', ok', fq⟩
  by_cases hlt : i < n
  · refine K.next i b' o' _ _ _ hlt (hc i b' o' hb hJ') ok' fun u h₄ tk₄ hP hs₄ hx₄ => ?_
    obtain ⟨ok₄, f₄⟩ := ok_put ok' (.head (x' := Ch.of I (φ (i + 1)))) rfl hs₄ hx₄
    refine K.go i u b' o' _ _ _ hP ok₄ ?_
    have hw := turn i (er u) b' o' hlt hP hb hJ' u rfl
    have fr : ∀ {α β : Type} {R : α → β → Prop} {t : Sem α} {b₃ : Kn} {o₃ : List Ch} {K : β → Kn → List Ch → Prop}, W x.free R t b₃ o₃ K →
        W x.free R t b₃ (Ch.of I (φ (i + 1)) :: o₃) fun v b₅ o₅ => ∃ o₆, o₅ = Ch.of I (φ (i + 1)) :: o₆ ∧ K v b₅ o₆ := fun {_ _ _ _ _ o₃ _} q =>
      W.frame (.right (Split.all o₃)) (W.mono (x := x.free.free) q fun v b₅ o₅ p => ⟨o₅, rfl, p⟩)
    refine (fr hw).go ok₄ trivial fun _ _ b₅ o₅ h₅ tk₅ _ r₅ ok₅ _ f₅ => ?_
    obtain ⟨o₆, rfl, r₅⟩ := r₅
    refine (fr r₅).go ok₅ trivial fun f f' b₇ o₇ h₇ tk₇ hf r₇ ok₇ _ f₇ => ?_
    obtain ⟨o₈, rfl, r₇⟩ := r₇
    have ft := ((fq.trans f₄).trans f₅).trans f₇
    cases f with
    | next => cases hf; exact ⟨n + 1 - (i + 1), by omega, i + 1, b₇, o₈, h₇, tk₇, rfl, rfl, hlt, hb.trans (f₅.kn.trans f₇.kn), r₇, ok₇, ft⟩
    | cont => cases hf; exact ⟨n + 1 - (i + 1), by omega, i + 1, b₇, o₈, h₇, tk₇, rfl, rfl, hlt, hb.trans (f₅.kn.trans f₇.kn), r₇, ok₇, ft⟩
    | brk => cases hf; exact k .next .next _ _ _ _ rfl r₇ (tl_ok ok₇) (tl_frm ft)
    | ret u => cases hf; exact k (.ret u) _ _ _ _ _ rfl r₇ (tl_ok ok₇) (tl_frm ft)
  · obtain rfl : i = n := by omega
    refine K.done b' o' _ _ _ (hc i b' o' hb hJ') ok' fun h₄ tk₄ hk₄ => wpAny_execs_nil ?_
    have nd := List.nodup_cons.mp ok'.nodup
    have ok₄ : Ok Z.h₀ b' o' h₄ := by
      have q := tl_ok ok'
      refine ⟨q.base, fun c ob e => hk₄ c ob (fun z => ?_) (q.kn c ob e), fun x hx => ?_, q.nodup, q.disj⟩
      · have := ok'.disj _ (.head _); rw [z] at e; rw [Ch.of_addr] at this; rw [this] at e; cases e
      · obtain ⟨ob, hob⟩ := x.live _ (q.mine x hx)
        exact x.same _ _ ((hk₄ _ _ (fun z => nd.1 (List.mem_map.mpr ⟨x, hx, z⟩)) hob).trans hob.symm) (q.mine x hx)
    have ft := tl_frm fq
    refine k .next .next _ _ _ _ rfl (fin b' o' hb hJ') ok₄ ⟨fun c ob m e => hk₄ c ob (fun z => ?_) (fq.keep c ob m e), ft.kn, ft.new, ft.U⟩
    rcases fq.U _ (.head _) with u | u
    · exact m (z ▸ u)
    · rw [Ch.of_addr, ← z, e] at u; cases u
theorem S_while {test : Expr} {body rest : List Stmt} {pos : Pos} {P : Flow → Kn → List Ch → Prop} (J : Nat → Kn → List Ch → Prop) (n : Nat) (h0 : J n b own)
    (turn : ∀ m b₁ o₁, b.le b₁ → J m b₁ o₁ → T x test b₁ o₁ fun c b₂ o₂ => if c then S x body b₂ o₂ (fun f b₃ o₃ => match f with
        | .next | .cont => ∃ m', m' < m ∧ J m' b₃ o₃
        | .brk => S x rest b₃ o₃ P
        | .ret u => P (.ret u) b₃ o₃) else S x rest b₂ o₂ P) : S x (.While test body [] pos :: rest) b own P := by
  refine S_cons ?_
  intro s Q E ok g k
  have into : ∀ {α : Type} {t : Sem α} {Q' : α → Shared → Prop} {s' : Shared} {b' : Kn} {o' : List Ch}, x.G.p s' b' o' E →
      (∀ E', x.G.p s' b' o' E' → wpAny (model pw Z.w) x.A t Q' E' s') → wpAny (model pw Z.w) x.A t Q' (notedBy (model pw Z.w) x.A x.env (cameBackBy (model pw Z.w) x.A x.env E)) s' := fun {α t Q' s' b' o'} g' ht => by
    rcases x.thru s' b' o' E g' with q | q
    · exact ht _ q
    · exact wpAny_passesOwn q (ht E g')
  refine wpAny_While (codeAny_whileLoop (fun m s' => ∃ b' o' h' tk, s' = { s with heap := h', toks := tk } ∧ b.le b' ∧ J m b' o' ∧ Ok Z.h₀ b' o' h' ∧ Frm s.heap b own h' b' o') ?_ n ⟨b, own, s.heap, s.toks, rfl, Kn.le.rfl, h0, ok, Frm.rfl⟩)
  rintro m s' ⟨b', o', h', tk, rfl, hb, hJ, ok', fq⟩
  have g' := x.G.stable _ _ _ _ _ _ _ tk g ok ok' fq
  refine into g' fun E' g₁ => (turn m b' o' hb hJ).go ok' g₁ fun c c' b₂ o₂ h₂ tk₂ hc r₂ ok₂ _ f₂ => ?_
  obtain rfl := hc
  have g₂ := x.G.stable _ _ _ _ _ _ _ tk₂ g' ok' ok₂ f₂
  cases c with
  | false =>
    simp only [Bool.false_eq_true, if_false] at r₂ ⊢
    exact wpAny_execs_nil (k _ .next _ _ _ _ rfl r₂ ok₂ (fq.trans f₂))
  | true =>
    simp only [if_true] at r₂ ⊢
    refine into g₂ fun E'' g₃ => r₂.go ok₂ g₃ fun f f' b₃ o₃ h₃ tk₃ hf r₃ ok₃ _ f₃ => ?_
    have ft := (fq.trans f₂).trans f₃
    cases f with
    | next => cases hf; obtain ⟨m', hm, hJ'⟩ := r₃; exact ⟨m', hm, b₃, o₃, h₃, tk₃, rfl, hb.trans (f₂.kn.trans f₃.kn), hJ', ok₃, ft⟩
    | cont => cases hf; obtain ⟨m', hm, hJ'⟩ := r₃; exact ⟨m', hm, b₃, o₃, h₃, tk₃, rfl, hb.trans (f₂.kn.trans f₃.kn), hJ', ok₃, ft⟩
    | brk => cases hf; exact k .next .next _ _ _ _ rfl r₃ ok₃ ft
    | ret u => cases hf; exact k (.ret u) _ _ _ _ _ rfl r₃ ok₃ ft
theorem W.alloc {α β : Type} {R : α → β → Prop} {t : Sem α} {y : Ch} {r : List Ch} {P : β → Kn → List Ch → Prop} {v : Addr → α} {u : Addr → β} {φ : Addr → Obj → Prop} (hr : ∀ a, R (v a) (u a))
    (ht : ∀ (s : Shared) (Q : α → Shared → Prop) (E : Value → Shared → Prop), Ok Z.h₀ b (y :: r) s.heap → (∀ a h' o tk, s.heap.get? a = none → (∀ c ob, s.heap.get? c = some ob → h'.get? c = some ob) → h'.get? a = some o → φ a o → Q (v a) { s with heap := h', toks := tk }) → wpAny (model pw Z.w) x.A t Q E s)
    (h : ∀ a, P (u a) b (y :: Ch.of a (φ a) :: r)) : W x R t b (y :: r) P :=
  fun s Q E ok g k => ht s Q E ok fun a h' o tk hn hk ho hp => by
    obtain ⟨ok', f⟩ := ok_new ok rfl (x := Ch.of a (φ a)) hk hn ⟨o, ho, hp⟩
    exact k _ _ _ _ h' tk (hr a) (h a) ok' f
theorem W.know {α β : Type} {R : α → β → Prop} {t : Sem α} {P : β → Kn → List Ch → Prop} {v : Addr → α} {u : Addr → β} {φ : Addr → Obj → Prop} (hr : ∀ a, R (v a) (u a))
    (ht : ∀ (s : Shared) (Q : α → Shared → Prop) (E : Value → Shared → Prop), Ok Z.h₀ b own s.heap → (∀ a h' o tk, s.heap.get? a = none → (∀ c ob, s.heap.get? c = some ob → h'.get? c = some ob) → h'.get? a = some o → φ a o → Q (v a) { s with heap := h', toks := tk }) → wpAny (model pw Z.w) x.A t Q E s)
    (h : ∀ a b', b.le b' → At b' a (φ a) → P (u a) b' own) : W x R t b own P :=
  fun s Q E ok g k => ht s Q E ok fun a h' o tk hn hk ho hp => by
    obtain ⟨b', hb, hba, ok', f⟩ := ok_know ok hk hn ho
    exact k _ _ _ _ h' tk (hr a) (h a b' hb ⟨o, hba, hp⟩) ok' f
theorem W.upd {α β : Type} {R : α → β → Prop} {t : Sem α} {own' : List Ch} {P : β → Kn → List Ch → Prop} {v : α} {u : β} {a : Addr} {φ φ' : Obj → Prop} (hr : R v u) (hp : Put (Ch.of a φ) (Ch.of a φ') own own')
    (ht : ∀ (s : Shared) (Q : α → Shared → Prop) (E : Value → Shared → Prop), Ok Z.h₀ b own s.heap → (∃ o, s.heap.get? a = some o ∧ φ o) → (∀ h' o tk, Heap.SameBut a s.heap h' → h'.get? a = some o → φ' o → Q v { s with heap := h', toks := tk }) → wpAny (model pw Z.w) x.A t Q E s)
    (h : P u b own') : W x R t b own P :=
  fun s Q E ok g k => ht s Q E ok (ok.mine _ hp.mem) fun h' o tk hs ho hq => by
    obtain ⟨ok', f⟩ := ok_put ok hp rfl hs ⟨o, ho, hq⟩
    exact k _ _ _ _ h' tk hr h ok' f
theorem at_tuple {h : Heap} {a : Addr} {us : List Value} (q : ∃ o, h.get? a = some o ∧ TupO us o) : ∃ arr : Array Value, h.IsTuple a arr ∧ arr.toList.map er = us := let ⟨o, ho, hc, arr, n, hd, e⟩ := q; ⟨arr, ⟨o, ho, hc, n, hd⟩, e⟩
theorem at_list {h : Heap} {a : Addr} {us : List Value} (q : ∃ o, h.get? a = some o ∧ LstO us o) : ∃ arr : Array Value, h.IsList a arr ∧ (∃ n, IsL h a arr n) ∧ arr.toList.map er = us := let ⟨o, ho, arr, n, hd, e⟩ := q; ⟨arr, ⟨o, ho, hd ▸ rfl, n, hd ▸ rfl⟩, ⟨n, by rw [hd] at ho; exact ho⟩, e⟩
theorem arr_get {arr : Array Value} {us : List Value} (h : arr.toList.map er = us) {j : Nat} {u : Value} (hu : us[j]? = some u) : ∃ v, arr[j]? = some v ∧ er v = u := by
  obtain ⟨v, h1, h2⟩ := map_get h hu; exact ⟨v, by simpa using h1, h2⟩
theorem arr_len {arr : Array Value} {us : List Value} (h : arr.toList.map er = us) : arr.size = us.length := by rw [← h]; simp
noncomputable def ListItO (l : Addr) (i : Nat) (o : Obj) : Prop := o.cls = .type "list_iterator" ∧ o.data = .fields #[.ref l, .int i 0]
noncomputable def TupItO (l : Addr) (i : Nat) (o : Obj) : Prop := o.cls = .type "tuple_iterator" ∧ o.data = .fields #[.ref l, .int i 0]
theorem itk_list {target : Expr} {I l : Addr} {us : List Value} (ht : ∀ i v s Q E, us[i]? = some (er v) → (∃ o, s.heap.get? I = some o ∧ ListItO l (i + 1) o) → Q () s → wpAny (model pw Z.w) x.A (letOwnedTupleGo target (.ref I) v) Q E s) :
    ItK x target I (ListItO l) us.length (fun i v => us[i]? = some v) (fun b o => Ent Z.h₀ b o l (LstO us)) where
  next := fun i b o s Q E hi hc ok k => by
    obtain ⟨oi, ho, h1, h2⟩ := ok.mine _ (.head _)
    obtain ⟨arr, hl, _, e⟩ := at_list (hc _ (tl_ok ok))
    obtain ⟨v, hv, e'⟩ := arr_get e (List.getElem?_eq_getElem hi)
    refine wpAny_pyNext_list_item (i := i) (x := v) ⟨oi, ho, h1, h2⟩ hl hv fun h' hit hs => ?_
    obtain ⟨o', q1, q2, q3⟩ := hit
    exact k _ h' s.toks (by rw [e']; exact List.getElem?_eq_getElem hi) hs ⟨o', q1, q2, q3⟩
  done := fun b o s Q E hc ok k => by
    obtain ⟨oi, ho, h1, h2⟩ := ok.mine _ (.head _)
    obtain ⟨arr, hl, _, e⟩ := at_list (hc _ (tl_ok ok))
    exact wpAny_pyNext_list_end (i := us.length) x.rm.1 ⟨oi, ho, h1, h2⟩ hl (by simp [arr_len e]) fun h' hs => k h' s.toks hs
  go := fun i v b o s Q E hv ok k => ht i v s Q E hv (ok.mine _ (.head _)) k
theorem itk_tuple {target : Expr} {I l : Addr} {us : List Value} (ht : ∀ it v, letOwnedTupleGo target it v = Pure.pure () := by intro _ _; rfl) :
    ItK x target I (TupItO l) us.length (fun i v => us[i]? = some v) (fun b o => Ent Z.h₀ b o l (TupO us)) where
  next := fun i b o s Q E hi hc ok k => by
    obtain ⟨oi, ho, h1, h2⟩ := ok.mine _ (.head _)
    obtain ⟨arr, hl, e⟩ := at_tuple (hc _ (tl_ok ok))
    obtain ⟨v, hv, e'⟩ := arr_get e (List.getElem?_eq_getElem hi)
    refine wpAny_pyNext_tuple_item (i := i) (x := v) ⟨oi, ho, h1, h2⟩ hl hv fun h' hit hs => ?_
    obtain ⟨o', q1, q2, q3⟩ := hit
    exact k _ h' s.toks (by rw [e']; exact List.getElem?_eq_getElem hi) hs ⟨o', q1, q2, q3⟩
  done := fun b o s Q E hc ok k => by
    obtain ⟨oi, ho, h1, h2⟩ := ok.mine _ (.head _)
    obtain ⟨arr, hl, e⟩ := at_tuple (hc _ (tl_ok ok))
    exact wpAny_pyNext_tuple_end (i := us.length) x.rm.1 ⟨oi, ho, h1, h2⟩ hl (by simp [arr_len e]) fun h' hs => k h' s.toks hs
  go := fun i v b o s Q E hv ok k => by rw [ht]; exact wpAny_pure k
variable {y : Ch} {r : List Ch} {P : Value → Kn → List Ch → Prop}
theorem Itr_list {l : Addr} {us : List Value} (hl : Ent Z.h₀ b (y :: r) l (LstO us)) (h : ∀ I, P (.ref I) b (y :: Ch.of I (ListItO l 0) :: r)) : Itr x (.ref l) b (y :: r) P := fun u hu => by
  obtain rfl := er_ref hu
  exact W.alloc (v := .ref) (u := .ref) (φ := fun _ => ListItO l 0) (fun _ => rfl) (fun s Q E ok k => by
    obtain ⟨arr, hl', _, e⟩ := at_list (hl _ ok)
    exact wpAny_pyIter_list hl' (k _ _ _ s.toks (fresh_size _) (fun c ob e => Heap.get?_push_of_some _ e) (Heap.get?_push_size _ rfl) ⟨rfl, rfl⟩)) h
theorem Itr_tuple {l : Addr} {us : List Value} (hl : Ent Z.h₀ b (y :: r) l (TupO us)) (h : ∀ I, P (.ref I) b (y :: Ch.of I (TupItO l 0) :: r)) : Itr x (.ref l) b (y :: r) P := fun u hu => by
  obtain rfl := er_ref hu
  exact W.alloc (v := .ref) (u := .ref) (φ := fun _ => TupItO l 0) (fun _ => rfl) (fun s Q E ok k => by
    obtain ⟨arr, hl', e⟩ := at_tuple (hl _ ok)
    exact wpAny_pyIter_tuple hl' (k _ _ _ s.toks (fresh_size _) (fun c ob e => Heap.get?_push_of_some _ e) (Heap.get?_push_size _ rfl) ⟨rfl, rfl⟩)) h
theorem Item_tuple {ve se : Expr} {t : Addr} {us : List Value} {k : Int} {j : Nat} {u : Value} (ht : Ent Z.h₀ b own t (TupO us)) (hj : seqIndex? k us.length = some j) (hx : us[j]? = some u) (h : P u b own)
    (hlo : -(2 ^ 63) ≤ k := by decide) (hhi : k < 2 ^ 63 := by decide) (hs : ∀ v, subscripted se false (.ref t) (.int k v) = operate [.ref t, .int k v] (getItem (.ref t) (.int k v)) := by intro _; with_unfolding_all rfl) : Item x ve se (.ref t) (vI k) b own P := fun t' k' ht' hk' => by
  obtain rfl := er_ref ht'
  obtain ⟨tk, rfl⟩ := er_int hk'
  intro s Q E ok g q
  obtain ⟨arr, hl, e⟩ := at_tuple (ht _ ok)
  obtain ⟨v, hv, e'⟩ := map_get e hx
  obtain ⟨o, ho, hc, n, hd⟩ := hl
  exact item_tupleT (l := arr.toList) ⟨o, ho, hc, n, by simpa using hd⟩ hlo hhi (by rw [map_len e]; exact hj) hv (W.done (R := RV) e' h ok q) (hs tk)
theorem Item_list {ve se : Expr} {l : Addr} {us : List Value} {k : Int} {u : Value} (hl : Ent Z.h₀ b own l (LstO us)) (h0 : 0 ≤ k) (hhi : k < 2 ^ 63) (hx : us[k.toNat]? = some u) (h : P u b own)
    (hs : ∀ v, subscripted se false (.ref l) (.int k v) = operate [.ref l, .int k v] (getItem (.ref l) (.int k v)) := by intro _; with_unfolding_all rfl) : Item x ve se (.ref l) (vI k) b own P := fun t' k' ht' hk' => by
  obtain rfl := er_ref ht'
  obtain ⟨tk, rfl⟩ := er_int hk'
  intro s Q E ok g q
  obtain ⟨arr, hl, _, e⟩ := at_list (hl _ ok)
  obtain ⟨v, hv, e'⟩ := arr_get e hx
  exact tail_any hl.typeIs slot_list_getitem.lookup (wpAny_getItem_list hl h0 hhi hv (W.done (R := RV) e' h ok q)) (hs tk)
theorem Item_listN {ve se : Expr} {l : Addr} {us : List Value} {k : Int} {u : Value} (hl : Ent Z.h₀ b own l (LstO us)) (h0 : k < 0) (h1 : -(us.length : Int) ≤ k) (hlo : -(2 ^ 63) ≤ k) (hx : us[(k + us.length).toNat]? = some u) (h : P u b own)
    (hs : ∀ v, subscripted se false (.ref l) (.int k v) = operate [.ref l, .int k v] (getItem (.ref l) (.int k v)) := by intro _; with_unfolding_all rfl) : Item x ve se (.ref l) (vI k) b own P := fun t' k' ht' hk' => by
  obtain rfl := er_ref ht'
  obtain ⟨tk, rfl⟩ := er_int hk'
  intro s Q E ok g q
  obtain ⟨arr, hl, _, e⟩ := at_list (hl _ ok)
  obtain ⟨v, hv, e'⟩ := arr_get e hx
  exact tail_any hl.typeIs slot_list_getitem.lookup (wpAny_getItem_list_neg hl h0 (by rw [arr_len e]; exact h1) hlo (by rw [arr_len e]; exact hv) (W.done (R := RV) e' h ok q)) (hs tk)
theorem Call_len_list {l : Addr} {us : List Value} (hl : Ent Z.h₀ b own l (LstO us)) (hfit : (us.length : Int) < 2 ^ 63) (h : P (vI us.length) b own) : Call x (.builtin "len") [.ref l] b own P := fun vs hvs => by
  obtain ⟨v, rfl, hv⟩ : ∃ v, vs = [v] ∧ er v = .ref l := by cases vs with | nil => cases hvs | cons v r => cases r with | nil => simp at hvs; exact ⟨v, rfl, hvs⟩ | cons _ _ => simp at hvs
  obtain rfl := er_ref hv
  intro s Q E ok g q
  obtain ⟨arr, hl, _, e⟩ := at_list (hl _ ok)
  exact call_len_list hl (by rw [arr_len e]; exact hfit) (q _ (vI us.length) b own s.heap _ (by rw [arr_len e]; rfl) h ok Frm.rfl)
theorem str_eq {x y : Str} : (x.cps.toList == y.cps.toList) = (x == y) := by
  rw [Bool.eq_iff_iff]; simp only [beq_iff_eq]
  exact ⟨fun h => by cases x; cases y; simp only [Str.mk.injEq]; exact Array.toList_inj.mp h, fun h => by rw [h]⟩
theorem Cmp_eqS {u v : Str} (h : P (.bool (u == v)) b own) : Cmp x .Eq (vS u) (vS v) b own P := fun u' v' hu hv => by
  obtain ⟨t, rfl⟩ := er_str hu
  obtain ⟨t', rfl⟩ := er_str hv
  intro s Q E ok g q
  exact PySem.P.eq_str (by rw [str_eq]; exact W.done (R := RV) rfl h ok q)
theorem Cmp_ltI {u v : Int} (h : P (.bool (decide (u < v))) b own) : Cmp x .Lt (vI u) (vI v) b own P := fun u' v' hu hv => by
  obtain ⟨t, rfl⟩ := er_int hu
  obtain ⟨t', rfl⟩ := er_int hv
  intro s Q E ok g q
  exact wpAny_lt_int (W.done (R := RV) rfl h ok q)
theorem Bin_addI {u v : Int} (h : P (vI (u + v)) b own) : Bin x .Add (vI u) (vI v) b own P := fun u' v' hu hv => by
  obtain ⟨t, rfl⟩ := er_int hu
  obtain ⟨t', rfl⟩ := er_int hv
  intro s Q E ok g q
  exact wpAny_add_int (q _ (vI (u + v)) b own s.heap _ rfl h ok Frm.rfl)
section
variable {K : Type} [DecidableEq K] {knd : KeyKind pw Z.w K} {k : K} {key : Value} {d : Addr} {kvs : List (K × Value)}
theorem dict_of {h : Heap} (q : ∃ o, h.get? d = some o ∧ DicO knd d kvs o) : (d == sysModules) = false ∧ ∃ kvs', h.DictOf knd d kvs' ∧ kvs'.map (fun p => (p.1, er p.2)) = kvs := let ⟨o, ho, h1, kvs', h2, e⟩ := q; ⟨h1, kvs', Heap.dictOf_iff.mpr ⟨o, ho, h2⟩, e⟩
theorem valueAt_map (kvs : List (K × Value)) : valueAt (kvs.map fun p => (p.1, er p.2)) k = (valueAt kvs k).map er := by
  unfold valueAt
  rw [List.find?_map, Option.map_map, Option.map_map]; rfl
theorem stored_map (kvs : List (K × Value)) (v : Value) : (stored kvs k v).map (fun p => (p.1, er p.2)) = stored (kvs.map fun p => (p.1, er p.2)) k (er v) := by
  unfold stored
  have e : (kvs.map fun p => (p.1, er p.2)).any (fun kv => kv.1 = k) = kvs.any (fun kv => kv.1 = k) := by rw [List.any_map]; rfl
  rw [e]
  split
  · rw [List.map_map, List.map_map]
    refine List.map_congr_left fun p _ => ?_
    show ((if p.1 = k then (p.1, v) else p).1, er (if p.1 = k then (p.1, v) else p).2) = if p.1 = k then (p.1, er v) else (p.1, er p.2)
    split <;> rfl
  · rw [List.map_append]; rfl
theorem Cmp_in (hd : Ent Z.h₀ b own d (DicO knd d kvs)) (hkey : ∀ key', er key' = key → knd.is k key' = true) (h : P (.bool (valueAt kvs k).isSome) b own) : Cmp x .In key (.ref d) b own P := fun u' v' hu hv => by
  obtain rfl := er_ref hv
  intro s Q E ok g q
  obtain ⟨h1, kvs', h2, e⟩ := dict_of (hd _ ok)
  subst e
  exact wpAny_in_of (hkey _ hu) h1 h2.mapOf (q _ (.bool (valueAt (kvs'.map fun p => (p.1, er p.2)) k).isSome) b own s.heap _ (by rw [valueAt_map, Option.isSome_map]; rfl) h ok Frm.rfl)
theorem Cmp_notin (hd : Ent Z.h₀ b own d (DicO knd d kvs)) (hkey : ∀ key', er key' = key → knd.is k key' = true) (h : P (.bool (!(valueAt kvs k).isSome)) b own) : Cmp x .NotIn key (.ref d) b own P := fun u' v' hu hv => by
  obtain rfl := er_ref hv
  intro s Q E ok g q
  obtain ⟨h1, kvs', h2, e⟩ := dict_of (hd _ ok)
  subst e
  exact wpAny_notIn_of (hkey _ hu) h1 h2.mapOf (q _ (.bool (!(valueAt (kvs'.map fun p => (p.1, er p.2)) k).isSome)) b own s.heap _ (by rw [valueAt_map, Option.isSome_map]; rfl) h ok Frm.rfl)
theorem Item_dict {ve se : Expr} {u : Value} (hd : Ent Z.h₀ b own d (DicO knd d kvs)) (hkey : ∀ key', er key' = key → knd.is k key' = true) (hv : valueAt kvs k = some u) (h : P u b own)
    (hs : ∀ key', er key' = key → subscripted se false (.ref d) key' = operate [.ref d, key'] (getItem (.ref d) key')) : Item x ve se (.ref d) key b own P := fun t' k' ht' hk' => by
  obtain rfl := er_ref ht'
  intro s Q E ok g q
  obtain ⟨h1, kvs', h2, e⟩ := dict_of (hd _ ok)
  subst e
  rw [valueAt_map] at hv
  obtain ⟨v, hv', e'⟩ := Option.map_eq_some_iff.mp hv
  exact tail_any h2.typeIs slot_dict_getitem.lookup (wpAny_getItem_of (hkey _ hk') h2.mapOf hv' (q v u b own s.heap _ e' h ok Frm.rfl)) (hs _ hk')
theorem Call_len_dict (hd : Ent Z.h₀ b own d (DicO knd d kvs)) (hfit : (kvs.length : Int) < 2 ^ 63) (h : P (vI kvs.length) b own) : Call x (.builtin "len") [.ref d] b own P := fun vs hvs => by
  obtain ⟨v, rfl, hv⟩ : ∃ v, vs = [v] ∧ er v = .ref d := by cases vs with | nil => cases hvs | cons v r => cases r with | nil => simp at hvs; exact ⟨v, rfl, hvs⟩ | cons _ _ => simp at hvs
  obtain rfl := er_ref hv
  intro s Q E ok g q
  obtain ⟨h1, kvs', h2, e⟩ := dict_of (hd _ ok)
  have e' : kvs'.length = kvs.length := by rw [← e, List.length_map]
  exact call_len_dict h1 h2 (by rw [e']; exact hfit) (q _ (vI kvs.length) b own s.heap _ (by rw [e']; rfl) h ok Frm.rfl)
theorem SetI_dict {own' : List Ch} {u : Value} {P : Unit → Kn → List Ch → Prop} (hp : Put (Ch.of d (DicO knd d kvs)) (Ch.of d (DicO knd d (stored kvs k u))) own own') (hkey : ∀ key', er key' = key → knd.is k key' = true) (hsz : kvs.length ≤ sizeLine) (h : P () b own') :
    SetI x (.ref d) key u b own P := fun o' k' u' ho hk hu => by
  obtain rfl := er_ref ho
  refine W.upd rfl hp (fun s Q E ok hd q => ?_) h
  obtain ⟨h1, kvs', h2, e⟩ := dict_of hd
  have e' : kvs'.length = kvs.length := by rw [← e, List.length_map]
  refine wpAny_setItem_pairs (hkey _ hk) h2 (fun h' hd' hs => ?_) (by rw [e']; exact hsz)
  obtain ⟨o, ho, hq⟩ := Heap.dictOf_iff.mp hd'
  exact q h' o _ hs ho ⟨h1, _, hq, by rw [stored_map, e, hu]⟩
end
theorem keyS (w : World) (n : Str) : ∀ key', er key' = vS n → (strKind pw w).is n key' = true := fun key' h => by obtain ⟨t, rfl⟩ := er_str h; exact strKind_is _ _ _ _
theorem keyI (w : World) (n : Int) : ∀ key', er key' = vI n → (intKind pw w).is n key' = true := fun key' h => by obtain ⟨t, rfl⟩ := er_int h; exact intKind_is _ _ _ _
theorem lookup_er (l : List (Str × Value)) (y : Str) : (l.map fun p => (p.1, er p.2)).lookup y = (l.lookup y).map er := by
  induction l with
  | nil => rfl
  | cons p l ih => rw [List.map_cons, List.lookup_cons, List.lookup_cons]; cases y == p.1 <;> first | exact ih | rfl
theorem zip_er (names : List Str) (vs : List Value) : names.zip (vs.map er) = (names.zip vs).map fun p => (p.1, er p.2) := by
  rw [List.zip_map_right]; rfl
theorem Call_fn {j : Nat} {us : List Value} (names : List Str) {l : List (Str × Value)} (hn : 1 ≤ x.n) (hj : j ∈ defIdx ++ metIdx)
    (hbind : ∀ vs : List Value, vs.length = us.length → ∀ kV doc pm an cdv ct, bindArgs (fnOf (dName (stmtAt j)) (qName j) (dParams (stmtAt j)) (dBody (stmtAt j)) (dScope (stmtAt j)) .none kV doc pm an cdv ct) ⟨vs, []⟩ = Pure.pure (names.zip vs))
    (hl : (names.zip us).reverse = l) (hloc : (names.all fun y => decide ((dScope (stmtAt j)).names.lookup y = some .local)) = true) (hcell : ((dScope (stmtAt j)).names.all fun z => decide (z.2 ≠ .cell)) = true)
    (h : ∀ y : Act Z j, y.n + 1 = x.n → S y (dBody (stmtAt j)) b (Ch.loc y.L l :: own) (Ret P))
    (hco : (dScope (stmtAt j)).isCoroutine = false := by rfl) (hgen : (dScope (stmtAt j)).isGenerator = false := by rfl) (hk : (dScope (stmtAt j)).kind = .function := by rfl) : Call x (.ref (Z.F j)) us b own P := by
  subst hl
  intro vs hvs s Q E ok _ k
  obtain ⟨oc, od, osl, kV, doc, pm, an, cdv, ct, ho, hcd⟩ := Z.ok.fn j hj
  obtain ⟨m, hm⟩ : ∃ m, x.n = m + 1 := ⟨x.n - 1, by omega⟩
  have rm := x.rm
  rw [hm] at rm
  refine wpAny_call (codeAny_call_def (fd := fnOf (dName (stmtAt j)) (qName j) (dParams (stmtAt j)) (dBody (stmtAt j)) (dScope (stmtAt j)) .none kV doc pm an cdv ct) (body := dBody (stmtAt j)) (binds := names.zip vs) x.rm.lim (ok.stays _ _ ho) rfl (Z.ok.lim.keeps ok.stays) (hcd.keeps ok.stays) rfl (.of_eq (hbind _ (map_len hvs) _ _ _ _ _ _))
    (fun z hz => of_decide_eq_true (List.all_eq_true.mp hcell z hz)) (fun y hy => of_decide_eq_true (List.all_eq_true.mp hloc _ (List.of_mem_zip hy).1)) (fun h₁ hns hk₁ => ?_) hco hgen hk)
  have none_ := fresh_size s.heap
  have ok₁ : Ok Z.h₀ b (Ch.loc s.heap.objs.size (names.zip us).reverse :: own) h₁ := by
    obtain ⟨q, _⟩ := ok_keep ok hk₁
    refine ⟨q.base, q.kn, fun x hx => ?_, List.nodup_cons.mpr ⟨fun z => ?_, q.nodup⟩, fun x hx => ?_⟩
    · rcases List.mem_cons.mp hx with rfl | m
      · refine of_ns hns fun y u hu => ?_
        rw [← hvs, zip_er, ← List.map_reverse, lookup_er] at hu
        exact Option.map_eq_some_iff.mp hu
      · exact q.mine x m
    · obtain ⟨x, hx, e⟩ := List.mem_map.mp z
      obtain ⟨ob, hob⟩ := x.live _ (ok.mine x hx)
      rw [e, Ch.of_addr, none_] at hob; cases hob
    · rcases List.mem_cons.mp hx with rfl | m
      · refine Option.eq_none_iff_forall_not_mem.mpr fun ob e => ?_
        have := ok.kn _ _ e; rw [Ch.of_addr, none_] at this; cases this
      · exact q.disj x m
  let y : Act Z j := { A := x.A.deeper (envOf (qName j) (dScope (stmtAt j)) s.heap.objs.size (Z.F j) cdv), n := m, rm := rm.deeper, L := s.heap.objs.size, cd := cdv, cl := [], fu := some (Z.F j), fr := some s.heap.objs.size, G := GT Z.h₀, thru := fun _ _ _ _ _ => .inl trivial }
  refine wpAny_mono (h y hm.symm { s with heap := h₁, toks := s.toks + (names.zip vs).length } (fun fl s' => ∀ v, v = (match fl with | .ret v => v | _ => .none) → Q v s')
    (fun e s' => wpAny (model pw Z.w) (x.A.deeper (envOf (qName j) (dScope (stmtAt j)) s.heap.objs.size (Z.F j) cdv)) (leaving (envOf (qName j) (dScope (stmtAt j)) s.heap.objs.size (Z.F j) cdv) e) (fun _ s'' => E e s'') (fun e' s'' => E e' s'') s') ok₁ trivial fun fl fl' b' o' h' tk hf p ok' f' => ?_) (fun fl s' hq => hq _ rfl) fun _ _ e => e
  obtain ⟨z, r, rfl, p⟩ := p
  rintro v rfl
  refine k _ (retv fl') b' r h' tk (by cases hf; cases fl <;> rfl) p (tl_ok ok') ⟨fun c ob n e => ?_, f'.kn, fun c ob e => ?_, fun z hz => ?_⟩
  · refine f'.keep c ob (fun m => ?_) (hk₁ c ob e)
    rcases List.mem_cons.mp m with m | m
    · rw [m, Ch.of_addr, none_] at e; cases e
    · exact n m
  · rcases f'.new c ob e with u | u | u
    · exact .inl u
    · refine .inr (.inl (Option.eq_none_iff_forall_not_mem.mpr fun oc q => ?_))
      have := hk₁ c oc q; rw [u] at this; cases this
    · rcases List.mem_cons.mp u with u | u
      · exact .inr (.inl (u ▸ none_))
      · exact .inr (.inr u)
  · rcases f'.U z (.tail _ hz) with u | u
    · rcases List.mem_cons.mp u with u | u
      · exact .inr (u ▸ none_)
      · exact .inl u
    · refine .inr (Option.eq_none_iff_forall_not_mem.mpr fun oc q => ?_)
      have := hk₁ _ oc q; rw [u] at this; cases this
theorem one_of {us : List Value} {a : Value} (h : us.length = [a].length) : ∃ c, us = [c] := by
  cases us with | nil => cases h | cons c r => cases r with | nil => exact ⟨c, rfl⟩ | cons _ _ => cases h
theorem two_of {us : List Value} {a c : Value} (h : us.length = [a, c].length) : ∃ a c, us = [a, c] := by
  cases us with | nil => cases h | cons a r => obtain ⟨c, rfl⟩ := one_of (us := r) (a := a) (Nat.succ.inj h); exact ⟨a, c, rfl⟩
theorem three_of {us : List Value} {a c d : Value} (h : us.length = [a, c, d].length) : ∃ a c d, us = [a, c, d] := by
  cases us with | nil => cases h | cons a r => obtain ⟨c, d, rfl⟩ := two_of (us := r) (a := a) (c := a) (Nat.succ.inj h); exact ⟨a, c, d, rfl⟩
theorem four_of {us : List Value} {a c d e : Value} (h : us.length = [a, c, d, e].length) : ∃ a c d e, us = [a, c, d, e] := by
  cases us with | nil => cases h | cons a r => obtain ⟨c, d, e, rfl⟩ := three_of (us := r) (a := a) (c := a) (d := a) (Nat.succ.inj h); exact ⟨a, c, d, e, rfl⟩
end
inductive Ex where
  | text (s : Str)
  | name (s : Str)
  | opt (e : Ex)
  | rep (e : Ex)
  | seq (es : List Ex)
  | alt (es : List Ex)
  deriving Inhabited
mutual
inductive ExIn (b : Kn) : Value → Ex → Prop
  | text {a s} : At b a (TupO [vS (Str.ofString "text"), vS s]) → ExIn b (.ref a) (.text s)
  | name {a s} : At b a (TupO [vS (Str.ofString "name"), vS s]) → ExIn b (.ref a) (.name s)
  | opt {a v e} : At b a (TupO [vS (Str.ofString "opt"), v]) → ExIn b v e → ExIn b (.ref a) (.opt e)
  | rep {a v e} : At b a (TupO [vS (Str.ofString "rep"), v]) → ExIn b v e → ExIn b (.ref a) (.rep e)
  | seq {a c vs es} : At b a (TupO [vS (Str.ofString "seq"), .ref c]) → At b c (TupO vs) → ExsIn b vs es → ExIn b (.ref a) (.seq es)
  | alt {a c vs es} : At b a (TupO [vS (Str.ofString "alt"), .ref c]) → At b c (TupO vs) → ExsIn b vs es → ExIn b (.ref a) (.alt es)
inductive ExsIn (b : Kn) : List Value → List Ex → Prop
  | nil : ExsIn b [] []
  | cons {v e vs es} : ExIn b v e → ExsIn b vs es → ExsIn b (v :: vs) (e :: es)
end
mutual
theorem ExIn.mono {b b' : Kn} (hb : b.le b') {v : Value} {e : Ex} (q : ExIn b v e) : ExIn b' v e := by
  cases q with
  | text h => exact .text (h.mono hb)
  | name h => exact .name (h.mono hb)
  | opt h x => exact .opt (h.mono hb) (x.mono hb)
  | rep h x => exact .rep (h.mono hb) (x.mono hb)
  | seq h h' x => exact .seq (h.mono hb) (h'.mono hb) (x.mono hb)
  | alt h h' x => exact .alt (h.mono hb) (h'.mono hb) (x.mono hb)
theorem ExsIn.mono {b b' : Kn} (hb : b.le b') {vs : List Value} {es : List Ex} (q : ExsIn b vs es) : ExsIn b' vs es := by
  cases q with
  | nil => exact .nil
  | cons h x => exact .cons (h.mono hb) (x.mono hb)
end
theorem ExsIn.length {b : Kn} {vs : List Value} {es : List Ex} (q : ExsIn b vs es) : vs.length = es.length := by
  cases q with
  | nil => rfl
  | cons h x => exact congrArg (· + 1) x.length
theorem ExsIn.get {b : Kn} {vs : List Value} {es : List Ex} (q : ExsIn b vs es) (i : Nat) (v : Value) (h : vs[i]? = some v) : ∃ e, es[i]? = some e ∧ ExIn b v e := by
  cases q with
  | nil => cases h
  | cons h' x => cases i with
    | zero => cases h; exact ⟨_, rfl, h'⟩
    | succ i => exact x.get i v h
noncomputable def Ex.tag : Ex → Str
  | .text _ => Str.ofString "text"
  | .name _ => Str.ofString "name"
  | .opt _ => Str.ofString "opt"
  | .rep _ => Str.ofString "rep"
  | .seq _ => Str.ofString "seq"
  | .alt _ => Str.ofString "alt"
noncomputable def PayIn (b : Kn) (p : Value) : Ex → Prop
  | .text s => p = vS s
  | .name s => p = vS s
  | .opt e => ExIn b p e
  | .rep e => ExIn b p e
  | .seq es => ∃ c vs, p = .ref c ∧ At b c (TupO vs) ∧ ExsIn b vs es
  | .alt es => ∃ c vs, p = .ref c ∧ At b c (TupO vs) ∧ ExsIn b vs es
theorem ExIn.open_ {b : Kn} {v : Value} {e : Ex} (h : ExIn b v e) : ∃ a p, v = .ref a ∧ At b a (TupO [vS e.tag, p]) ∧ PayIn b p e := by
  cases h with
  | text h => exact ⟨_, _, rfl, h, rfl⟩
  | name h => exact ⟨_, _, rfl, h, rfl⟩
  | opt h x => exact ⟨_, _, rfl, h, x⟩
  | rep h x => exact ⟨_, _, rfl, h, x⟩
  | seq h h' x => exact ⟨_, _, rfl, h, _, _, rfl, h', x⟩
  | alt h h' x => exact ⟨_, _, rfl, h, _, _, rfl, h', x⟩
theorem tag_text {e : Ex} (h : (e.tag == Str.ofString "text") = true) : ∃ s, e = .text s := by cases e <;> first | exact ⟨_, rfl⟩ | exact Bool.noConfusion (show false = true from h)
theorem tag_name {e : Ex} (h : (e.tag == Str.ofString "name") = true) : ∃ s, e = .name s := by cases e <;> first | exact ⟨_, rfl⟩ | exact Bool.noConfusion (show false = true from h)
theorem tag_opt {e : Ex} (h : (e.tag == Str.ofString "opt") = true) : ∃ s, e = .opt s := by cases e <;> first | exact ⟨_, rfl⟩ | exact Bool.noConfusion (show false = true from h)
theorem tag_rep {e : Ex} (h : (e.tag == Str.ofString "rep") = true) : ∃ s, e = .rep s := by cases e <;> first | exact ⟨_, rfl⟩ | exact Bool.noConfusion (show false = true from h)
theorem tag_seq {e : Ex} (h : (e.tag == Str.ofString "seq") = true) : ∃ s, e = .seq s := by cases e <;> first | exact ⟨_, rfl⟩ | exact Bool.noConfusion (show false = true from h)
theorem tag_alt {e : Ex} (h : (e.tag == Str.ofString "alt") = true) : ∃ s, e = .alt s := by cases e <;> first | exact ⟨_, rfl⟩ | exact Bool.noConfusion (show false = true from h)
noncomputable abbrev Tbl := List (Str × Ex)
noncomputable def Tbl.has (t : Tbl) (k : Str) : Bool := (t.lookup k).isSome
section
variable {w : World}
inductive KvsIn {α : Type} (R : Value → α → Prop) : List (Str × Value) → List (Str × α) → Prop
  | nil : KvsIn R [] []
  | cons {k v x kvs xs} : R v x → KvsIn R kvs xs → KvsIn R ((k, v) :: kvs) ((k, x) :: xs)
theorem KvsIn.mono {α : Type} {R R' : Value → α → Prop} (h : ∀ v x, R v x → R' v x) {kvs : List (Str × Value)} {xs : List (Str × α)} (q : KvsIn R kvs xs) : KvsIn R' kvs xs := by
  induction q with
  | nil => exact .nil
  | cons p _ ih => exact .cons (h _ _ p) ih
theorem KvsIn.some_ {α : Type} {R : Value → α → Prop} {kvs : List (Str × Value)} {xs : List (Str × α)} (q : KvsIn R kvs xs) (k : Str) : (valueAt kvs k).isSome = (xs.lookup k).isSome := by
  induction q with
  | nil => rfl
  | @cons k' v x kvs xs p _ ih =>
    unfold valueAt at ih ⊢
    rw [List.lookup_cons, List.find?_cons]
    by_cases h : k' = k
    · subst h; simp
    · have : (k == k') = false := beq_eq_false_iff_ne.mpr (Ne.symm h)
      simp only [h, decide_false, this]; exact ih
theorem KvsIn.get {α : Type} {R : Value → α → Prop} {kvs : List (Str × Value)} {xs : List (Str × α)} (q : KvsIn R kvs xs) {k : Str} {x : α} (h : xs.lookup k = some x) : ∃ v, valueAt kvs k = some v ∧ R v x := by
  induction q with
  | nil => simp at h
  | @cons k' v y kvs xs p _ ih =>
    unfold valueAt at ih ⊢
    rw [List.lookup_cons] at h
    by_cases e : k' = k
    · subst e; simp at h; subst h; exact ⟨v, by simp, p⟩
    · rw [beq_eq_false_iff_ne.mpr (Ne.symm e)] at h
      simp only [List.find?_cons, e, decide_false]; exact ih h
noncomputable def TblIn (w : World) (b : Kn) (v : Value) (t : Tbl) : Prop := ∃ d kvs, v = .ref d ∧ At b d (DicO (strKind pw w) d kvs) ∧ KvsIn (ExIn b) kvs t
theorem TblIn.mono {b b' : Kn} {v : Value} {t : Tbl} (h : TblIn w b v t) (hb : b.le b') : TblIn w b' v t :=
  let ⟨d, kvs, e, x, y⟩ := h; ⟨d, kvs, e, x.mono hb, y.mono fun _ _ q => q.mono hb⟩
noncomputable def SetIn (w : World) (b : Kn) (v : Value) (t : List Str) : Prop := ∃ d, v = .ref d ∧ At b d (DicO (strKind pw w) d (t.map fun k => (k, .bool true)))
theorem SetIn.mono {b b' : Kn} {v : Value} {t : List Str} (h : SetIn w b v t) (hb : b.le b') : SetIn w b' v t := let ⟨d, e, x⟩ := h; ⟨d, e, x.mono hb⟩
end
section
variable {Z : Zc} {i : Nat} {x : Act Z i} {b : Kn} {own o₁ o₂ : List Ch}
theorem Call.frame {f : Value} {us : List Value} {P : Value → Kn → List Ch → Prop} (hs : Split own o₁ o₂) (h : Call x.free f us b o₁ fun v b' o' => P v b' (o₂ ++ o')) : Call x f us b own P := fun vs hvs => W.frame hs (h vs hvs)
theorem Call.frame0 {f : Value} {us : List Value} {P : Value → Kn → List Ch → Prop} (h : Call x.free f us b [] fun v b' o' => P v b' (own ++ o')) : Call x f us b own P := Call.frame (Split.none own) h
theorem Call.mono {f : Value} {us : List Value} {P P' : Value → Kn → List Ch → Prop} (h : Call x f us b own P) (hP : ∀ v b' own', P v b' own' → P' v b' own') : Call x f us b own P' := fun vs hvs => W.mono (h vs hvs) hP
theorem W.lend {α β : Type} {R : α → β → Prop} {t : Sem α} {P : β → Kn → List Ch → Prop} {φ : Obj → Prop} {d : Addr} {r : List Ch} (hs : Split own [Ch.of d φ] r)
    (h : ∀ o b', φ o → b.le b' → b' d = some o → W x.free R t b' r fun v b'' o'' => b'' = b' ∧ P v b (Ch.of d φ :: o'')) : W x R t b own P := by
  intro s Q E ok g k
  have hpm := hs.perm
  have mx : Ch.of d φ ∈ own := hpm.mem_iff.mpr (.head _)
  have mr : ∀ z ∈ r, z ∈ own := fun z hz => hpm.mem_iff.mpr (.tail _ hz)
  obtain ⟨o, ho, hφ⟩ := ok.mine _ mx
  have nd := (hpm.map Ch.addr).nodup_iff.mp ok.nodup
  have nd' := List.nodup_cons.mp nd
  have hb := ok.disj _ mx
  rw [Ch.of_addr] at hb
  let b₁ : Kn := fun c => if c = d then some o else b c
  have b1 : ∀ {c oc}, b c = some oc → b₁ c = some oc := fun {c oc} e => by
    show (if c = d then some o else b c) = some oc
    rw [if_neg (fun q => by rw [q, hb] at e; cases e)]; exact e
  have b2 : ∀ {c oc}, b₁ c = some oc → (c = d ∧ oc = o) ∨ b c = some oc := fun {c oc} e => by
    change (if c = d then some o else b c) = some oc at e
    split at e
    · rename_i q; exact .inl ⟨q, (Option.some.inj e).symm⟩
    · exact .inr e
  have ok₁ : Ok Z.h₀ b₁ r s.heap := ⟨fun c oc e => b1 (ok.base c oc e), fun c oc e => by
      rcases b2 e with ⟨rfl, rfl⟩ | q
      · exact ho
      · exact ok.kn c oc q, fun z hz => ok.mine z (mr z hz), nd'.2, fun z hz => by
      show (if z.addr = d then some o else b z.addr) = none
      rw [if_neg fun q => nd'.1 (by rw [Ch.of_addr, ← q]; exact List.mem_map_of_mem hz)]; exact ok.disj z (mr z hz)⟩
  refine h o b₁ hφ (fun _ _ e => b1 e) (if_pos rfl) s Q E ok₁ trivial fun v u b' o' h' tk r' p ok' f => ?_
  obtain ⟨rfl, p⟩ := p
  have hd : h'.get? d = some o := ok'.kn d o (if_pos rfl)
  have dn : ∀ z ∈ o', z.addr ≠ d := fun z hz q => by have := ok'.disj z hz; rw [q] at this; change (if d = d then some o else b d) = none at this; rw [if_pos rfl] at this; cases this
  refine k v u b (Ch.of d φ :: o') h' tk r' p ⟨fun c oc e => ok.base c oc e, fun c oc e => ok'.kn c oc (b1 e), fun z hz => ?_, ?_, fun z hz => ?_⟩ ⟨fun a ob n e => f.keep a ob (fun q => n ?_) e, Kn.le.rfl, fun _ _ e => .inl e, fun z hz => ?_⟩
  · rcases List.mem_cons.mp hz with rfl | q
    · exact ⟨o, hd, hφ⟩
    · exact ok'.mine z q
  · refine List.nodup_cons.mpr ⟨fun q => ?_, ok'.nodup⟩
    obtain ⟨z, hz, e⟩ := List.mem_map.mp q
    exact dn z hz e
  · rcases List.mem_cons.mp hz with rfl | q
    · exact hb
    · have := ok'.disj z q
      change (if z.addr = d then some o else b z.addr) = none at this
      rw [if_neg (dn z q)] at this; exact this
  · obtain ⟨z, hz, rfl⟩ := List.mem_map.mp q
    exact List.mem_map_of_mem (mr z hz)
  · rcases List.mem_cons.mp hz with rfl | q
    · exact .inl (List.mem_map_of_mem mx)
    · rcases f.U z q with u | u
      · obtain ⟨z', hz', e⟩ := List.mem_map.mp u
        exact .inl (e ▸ List.mem_map_of_mem (mr z' hz'))
      · exact .inr u
noncomputable def KeyItO (d n ep : Nat) (i : Nat) (o : Obj) : Prop := o.cls = .type "dict_keyiterator" ∧ o.data = .fields #[.ref d, .int i 0, .int n 0, .int ep 0]
theorem itk_dict {target : Expr} {I d ep : Nat} {ob : Obj} {kvs : List (Str × Value)} (hob : ∀ h : Heap, h.get? d = some ob → h.DictAt (strKind pw Z.w) d kvs ep)
    (ht : ∀ it v, letOwnedTupleGo target it v = Pure.pure () := by intro _ _; rfl) :
    ItK x target I (KeyItO d kvs.length ep) kvs.length (fun i v => ∃ k, (kvs.map (·.1))[i]? = some k ∧ v = vS k) (fun b o => b d = some ob) where
  next := fun i b o s Q E hi hc ok k => by
    obtain ⟨oi, ho, h1, h2⟩ := ok.mine _ (.head _)
    refine wpAny_pyNext_dict_item (knd := strKind pw Z.w) (kvs := kvs) (i := i) (k := (kvs[i]).1) (v := (kvs[i]).2) ⟨oi, ho, h1, h2⟩ (hob _ (ok.kn _ _ hc)) (List.getElem?_eq_getElem hi) fun key h' hk hit hs => ?_
    obtain ⟨o', q1, q2, q3⟩ := hit
    refine k key h' s.toks ⟨(kvs[i]).1, by rw [List.getElem?_map, List.getElem?_eq_getElem hi]; rfl, ?_⟩ hs ⟨o', q1, q2, q3⟩
    obtain ⟨t, rfl⟩ := Value.isStrOf_shape (show Value.isStrOf (kvs[i]).1 key = true from hk)
    rfl
  done := fun b o s Q E hc ok k => by
    obtain ⟨oi, ho, h1, h2⟩ := ok.mine _ (.head _)
    exact wpAny_pyNext_dict_end (knd := strKind pw Z.w) (kvs := kvs) (i := kvs.length) x.rm.1 ⟨oi, ho, h1, h2⟩ (hob _ (ok.kn _ _ hc)) (List.getElem?_eq_none (Nat.le_refl _)) fun h' hs => k h' s.toks fun c ob hc e => hs c ob hc e
  go := fun i v b o s Q E hv ok k => by rw [ht]; exact wpAny_pure k
variable {y : Ch} {r : List Ch}
theorem Itr_dict {d : Addr} {kvs : List (Str × Value)} {P : Value → Kn → List Ch → Prop} (hd : At b d (DicO (strKind pw Z.w) d kvs))
    (h : ∀ I ob ep kvs', kvs'.map (·.1) = kvs.map (·.1) → b d = some ob → (∀ h : Heap, h.get? d = some ob → h.DictAt (strKind pw Z.w) d kvs' ep) → P (.ref I) b (y :: Ch.of I (KeyItO d kvs'.length ep 0) :: r)) : Itr x (.ref d) b (y :: r) P := fun u hu => by
  obtain rfl := er_ref hu
  obtain ⟨ob, hb, h1, kvs', ⟨es, ep, r1, r2, r3⟩, e⟩ := hd
  have hob : ∀ h : Heap, h.get? d = some ob → h.DictAt (strKind pw Z.w) d kvs' ep := fun h q => ⟨ob, es, q, r1, r2, r3⟩
  exact W.alloc (v := .ref) (u := .ref) (φ := fun _ => KeyItO d kvs'.length ep 0) (fun _ => rfl) (fun s Q E ok k =>
    wpAny_pyIter_dict h1 (hob _ (ok.kn _ _ hb)) (k _ _ _ s.toks (fresh_size _) (fun c ob e => Heap.get?_push_of_some _ e) (Heap.get?_push_size _ rfl) ⟨rfl, rfl⟩)) fun a => h a ob ep kvs' (by rw [← e, List.map_map]; rfl) hb hob
theorem Asg_name {n : Str} {pos : Pos} {u : Value} {P : Unit → Kn → List Ch → Prop} (h : Sto x n u b own P) : Asg x (.Name n pos) u b own P := fun u' hu s Q E ok g k => wpAny_assign_Name (h u' hu s Q E ok g k)
noncomputable def setKvs (t : List Str) : List (Str × Value) := t.map fun k => (k, .bool true)
noncomputable def addS (t : List Str) (k : Str) : List Str := if t.contains k then t else t ++ [k]
noncomputable def mergeS (t s : List Str) : List Str := s.foldl addS t
theorem any_set (t : List Str) (k : Str) : ((setKvs t).any fun kv => decide (kv.1 = k)) = t.contains k := by
  induction t with
  | nil => rfl
  | cons z t ih =>
    show (decide (z = k) || (setKvs t).any _) = _
    rw [ih, List.contains_cons]
    congr 1
    rw [Bool.eq_iff_iff, decide_eq_true_iff, beq_iff_eq]; exact eq_comm
theorem stored_set (t : List Str) (k : Str) : stored (setKvs t) k (.bool true) = setKvs (addS t k) := by
  unfold stored addS
  rw [any_set]
  split
  · unfold setKvs; rw [List.map_map]; refine List.map_congr_left fun z _ => ?_
    show (if z = k then (z, Value.bool true) else (z, Value.bool true)) = _; split <;> rfl
  · unfold setKvs; rw [List.map_append]; rfl
theorem valueAt_set (t : List Str) (k : Str) : (valueAt (setKvs t) k).isSome = t.contains k := by
  unfold valueAt
  rw [Option.isSome_map, ← any_set, Bool.eq_iff_iff, List.find?_isSome, List.any_eq_true]
theorem keys_set (t : List Str) : (setKvs t).map (·.1) = t := by unfold setKvs; rw [List.map_map]; exact List.map_id' t
theorem len_set (t : List Str) : (setKvs t).length = t.length := List.length_map ..
end
section
variable {Z : Zc} {i : Nat} {x : Act Z i} {b : Kn} {own own' o₁ o₂ : List Ch} {r : List Ch}
theorem W.put {α β : Type} {R : α → β → Prop} {t : Sem α} {P : β → Kn → List Ch → Prop} {c c' : Ch} (hp : Put c c' own own') (ha : c'.addr = c.addr)
    (h : W x.free R t b [c] fun v b' o' => b' = b ∧ o' = [c'] ∧ P v b own') : W x R t b own P := by
  intro s Q E ok g k
  have hb := ok.disj c hp.mem
  refine h s Q E ⟨ok.base, ok.kn, fun z hz => by rw [List.mem_singleton.mp hz]; exact ok.mine c hp.mem, List.nodup_cons.mpr ⟨by simp, .nil⟩, fun z hz => by rw [List.mem_singleton.mp hz]; exact hb⟩ trivial fun v u b' o' h' tk r p ok' f => ?_
  obtain ⟨rfl, rfl, p⟩ := p
  have ne : ∀ {a}, a ≠ c.addr → a ∉ [c].map Ch.addr := fun n q => n (by simpa using q)
  refine k v u b' own' h' tk r p ⟨ok.base, ok'.kn, fun y hy => ?_, by rw [hp.addrs ha]; exact ok.nodup, fun y hy => ?_⟩ ⟨fun a ob n e => f.keep a ob (ne fun q => n (q ▸ List.mem_map_of_mem hp.mem)) e, Kn.le.rfl, fun _ _ e => .inl e, fun y hy => ?_⟩
  · rcases hp.apart ok.nodup ha y hy with rfl | ⟨m, n⟩
    · exact ok'.mine _ (.head _)
    · obtain ⟨o, ho⟩ := y.live _ (ok.mine y m)
      exact y.same _ _ ((f.keep _ _ (ne n) ho).trans ho.symm) (ok.mine y m)
  · rcases hp.apart ok.nodup ha y hy with rfl | ⟨m, n⟩
    · rw [ha]; exact hb
    · exact ok.disj y m
  · rcases hp.apart ok.nodup ha y hy with rfl | ⟨m, n⟩
    · exact .inl (ha ▸ List.mem_map_of_mem hp.mem)
    · exact .inl (List.mem_map_of_mem m)
theorem Call.put {f : Value} {us : List Value} {P : Value → Kn → List Ch → Prop} {c c' : Ch} (hp : Put c c' own own') (ha : c'.addr = c.addr)
    (h : Call x.free f us b [c] fun v b' o' => b' = b ∧ o' = [c'] ∧ P v b own') : Call x f us b own P := fun vs hvs => W.put hp ha (h vs hvs)
theorem Call.alone {f : Value} {us : List Value} {P : Value → Kn → List Ch → Prop} (h : Call x.free f us b [] fun v b' o' => o' = [] ∧ P v b' own) : Call x f us b own P :=
  Call.frame0 (Call.mono h fun v b' o' q => by rw [q.1, List.append_nil]; exact q.2)
theorem ok_perm {h₀ hp : Heap} {o o' : List Ch} (hl : o.Perm o') (ok : Ok h₀ b o hp) : Ok h₀ b o' hp :=
  ⟨ok.base, ok.kn, fun y hy => ok.mine y (hl.mem_iff.mpr hy), (hl.map _).nodup_iff.mp ok.nodup, fun y hy => ok.disj y (hl.mem_iff.mpr hy)⟩
theorem W.postperm {α β : Type} {R : α → β → Prop} {t : Sem α} {P : β → Kn → List Ch → Prop} (h : W x R t b own fun v b' o' => ∃ o'', o'.Perm o'' ∧ P v b' o'') : W x R t b own P :=
  fun s Q E ok g k => h s Q E ok g fun v u b' o' h' tk r ⟨o'', hl, p⟩ ok' f => k v u b' o'' h' tk r p (ok_perm hl ok') ⟨f.keep, f.kn, f.new, fun z hz => f.U z (hl.mem_iff.mpr hz)⟩
theorem Split.of_mem {c : Ch} : ∀ {o : List Ch}, c ∈ o → ∃ r, Split o [c] r
  | z :: o, h => by
    rcases List.mem_cons.mp h with rfl | q
    · exact ⟨o, .left (Split.none o)⟩
    · obtain ⟨r, hr⟩ := Split.of_mem q; exact ⟨z :: r, .right hr⟩
theorem W.perm {α β : Type} {R : α → β → Prop} {t : Sem α} {P : β → Kn → List Ch → Prop} (hl : own'.Perm own) (h : W x R t b own' P) : W x R t b own P := by
  refine (W.ghost fun hp ok => ⟨b, own', ⟨ok.base, ok.kn, fun y hy => ok.mine y (hl.mem_iff.mp hy), (hl.map _).nodup_iff.mpr ok.nodup, fun y hy => ok.disj y (hl.mem_iff.mp hy)⟩,
    ⟨fun _ _ _ e => e, Kn.le.rfl, fun _ _ e => .inl e, fun y hy => .inl (List.mem_map_of_mem (hl.mem_iff.mp hy))⟩, h⟩)
theorem Sto.perm {n : Str} {u : Value} {P : Unit → Kn → List Ch → Prop} (hl : own'.Perm own) (h : Sto x n u b own' P) : Sto x n u b own P := fun u' hu => W.perm hl (h u' hu)
inductive Has (l : List (Str × Value)) : List (Str × Value) → Prop
  | nil : Has l []
  | cons {k v r} : l.lookup k = some v → Has l r → Has l ((k, v) :: r)
theorem Has.all {l l' : List (Str × Value)} (h : Has l l') : ∀ p ∈ l', l.lookup p.1 = some p.2 := by
  induction h with
  | nil => intro p hp; cases hp
  | cons e _ ih => intro p hp; rcases List.mem_cons.mp hp with rfl | q; exact e; exact ih p q
theorem S_end {l l' : List (Str × Value)} {P : Flow → Kn → List Ch → Prop} (h : P .next b (Ch.loc x.L l' :: r)) (hl : Has l l' := by repeat first | exact .nil | refine .cons rfl ?_) : S x [] b (Ch.loc x.L l :: r) P := W.names hl.all (S_nil h)
theorem S_names {l l' : List (Str × Value)} {ss : List Stmt} {P : Flow → Kn → List Ch → Prop} (h : S x ss b (Ch.loc x.L l' :: r) P) (hl : Has l l' := by repeat first | exact .nil | refine .cons rfl ?_) : S x ss b (Ch.loc x.L l :: r) P := W.names hl.all h
theorem Cmp_gtI {u v : Int} {P : Value → Kn → List Ch → Prop} (h : P (.bool (decide (v < u))) b own) : Cmp x .Gt (vI u) (vI v) b own P := fun u' v' hu hv => by
  obtain ⟨t, rfl⟩ := er_int hu
  obtain ⟨t', rfl⟩ := er_int hv
  intro s Q E ok g q
  exact PySem.P.gt_int (W.done (R := RV) rfl h ok q)
noncomputable def Src (b : Kn) (own : List Ch) (a : Addr) (φ : Obj → Prop) : Prop := At b a φ ∨ Ch.of a φ ∈ own
theorem Src.ent {h₀ : Heap} {a : Addr} {φ : Obj → Prop} (h : Src b own a φ) : Ent h₀ b own a φ := h.elim At.ent Ent.own
theorem Src.mono {b' : Kn} {a : Addr} {φ : Obj → Prop} (h : Src b own a φ) (hb : b.le b') (ho : ∀ z ∈ own, z ∈ own') : Src b' own' a φ := h.elim (fun q => .inl (q.mono hb)) fun q => .inr (ho _ q)
theorem Src.tail {y : Ch} {a : Addr} {φ : Obj → Prop} (h : Src b own a φ) : Src b (y :: own) a φ := h.mono .rfl fun _ q => .tail _ q
variable {target : Expr} {body rest : List Stmt} {P : Flow → Kn → List Ch → Prop} {y : Ch} {I c : Addr} {us : List Value} (J : Nat → Kn → List Ch → Prop)
theorem ForQ_tuple (hc : At b c (TupO us)) (h0 : J 0 b (y :: r))
    (turn : ∀ j u b' o', us[j]? = some u → b.le b' → J j b' o' → Asg x.free target u b' o' fun _ b₃ o₃ => S x.free body b₃ o₃ fun f b₄ o₄ => match f with
        | .next | .cont => J (j + 1) b₄ o₄
        | .brk => S x rest b₄ o₄ P
        | .ret u => P (.ret u) b₄ o₄)
    (fin : ∀ b' o', b.le b' → J us.length b' o' → S x rest b' o' P)
    (ht : ∀ it v, letOwnedTupleGo target it v = Pure.pure () := by intro _ _; rfl) : ForQ x target body rest P (.ref I) b (y :: Ch.of I (TupItO c 0) :: r) :=
  ⟨I, _, _, _, _, _, J, rfl, .right (.left (Split.none _)), itk_tuple ht, h0, fun _ _ _ q _ => (hc.mono q).ent, fun j u b' o' _ hu => turn j u b' o' hu, fin⟩
theorem ForQ_list (h0 : J 0 b (y :: r)) (hc : ∀ j b' o', b.le b' → J j b' o' → Src b' o' c (LstO us))
    (turn : ∀ j u b' o', us[j]? = some u → b.le b' → J j b' o' → Asg x.free target u b' o' fun _ b₃ o₃ => S x.free body b₃ o₃ fun f b₄ o₄ => match f with
        | .next | .cont => J (j + 1) b₄ o₄
        | .brk => S x rest b₄ o₄ P
        | .ret u => P (.ret u) b₄ o₄)
    (fin : ∀ b' o', b.le b' → J us.length b' o' → S x rest b' o' P)
    (ht : ∀ it v, letOwnedTupleGo target it v = Pure.pure () := by intro _ _; rfl) : ForQ x target body rest P (.ref I) b (y :: Ch.of I (ListItO c 0) :: r) :=
  ⟨I, _, _, _, _, _, J, rfl, .right (.left (Split.none _)), itk_list (fun _ _ _ _ _ _ _ k => by rw [ht]; exact wpAny_pure k), h0, fun j b' o' q p => (hc j b' o' q p).ent, fun j u b' o' _ hu => turn j u b' o' hu, fin⟩
end
section
variable {Z : Zc} {i : Nat} {x : Act Z i} {b : Kn} {own own' : List Ch} {y : Ch} {r : List Ch} {P : Value → Kn → List Ch → Prop}
theorem Ok.notMods {h : Heap} (ok : Ok Z.h₀ b own h) : (h.objs.size == sysModules) = false := by
  rw [beq_eq_false_iff_ne]
  intro e
  cases q : Z.h₀.get? sysModules with
  | none => exact absurd Z.ok.mods (by rw [q]; simp)
  | some o => exact absurd (Heap.lt_size (ok.stays _ _ q)) (by rw [e]; exact Nat.lt_irrefl _)
theorem E_dict0 {K : Type} [DecidableEq K] (knd : KeyKind pw Z.w K) {pos : Pos} (h : ∀ d, P (.ref d) b (y :: Ch.of d (DicO knd d []) :: r)) : E x (.Dict [] [] pos) b (y :: r) P :=
  W.alloc (v := .ref) (u := .ref) (φ := fun d => DicO knd d []) (fun _ => rfl) (fun s Q E ok k => wpAny_Dict_empty (k _ _ _ s.toks (fresh_size _) (fun c ob e => Heap.get?_push_of_some _ e) (Heap.get?_push_size _ rfl) ⟨ok.notMods, [], by
    obtain ⟨o, ho, hd⟩ := Heap.dictOf_iff.mp (Heap.DictOf.new (knd := knd) s.heap)
    rw [Heap.get?_push_size _ rfl] at ho
    exact (Option.some.inj ho) ▸ hd, rfl⟩)) h
theorem E_dict1 {ke ve : Expr} {pos : Pos} (h : ∀ d, E x ke b (y :: Ch.of d (DicO (strKind pw Z.w) d []) :: r) fun k b₁ o₁ => E x ve b₁ o₁ fun v b₂ o₂ => ∃ n o₃, k = vS n ∧ Put (Ch.of d (DicO (strKind pw Z.w) d [])) (Ch.of d (DicO (strKind pw Z.w) d [(n, v)])) o₂ o₃ ∧ P (.ref d) b₂ o₃) :
    E x (.Dict [some ke] [ve] pos) b (y :: r) P := by
  intro s Q E ok g k
  refine wpAny_Dict_any rfl rfl (by simp) (by simp) (pairTrees_cons_walk ?_)
  have hd₀ : DicO (strKind pw Z.w) s.heap.objs.size [] { cls := .type "dict", data := .dict #[] } := ⟨ok.notMods, [], by
    obtain ⟨o, ho, hd⟩ := Heap.dictOf_iff.mp (Heap.DictOf.new (knd := strKind pw Z.w) s.heap)
    rw [Heap.get?_push_size _ rfl] at ho
    exact (Option.some.inj ho) ▸ hd, rfl⟩
  obtain ⟨ok', f⟩ := ok_new ok rfl (x := Ch.of s.heap.objs.size (DicO (strKind pw Z.w) s.heap.objs.size [])) (h' := s.heap.push { cls := .type "dict", data := .dict #[] }) (fun c ob e => Heap.get?_push_of_some _ e) (fresh_size _) ⟨_, Heap.get?_push_size _ rfl, hd₀⟩
  have g' := x.G.stable _ _ _ _ _ _ _ s.toks g ok ok' f
  refine (h s.heap.objs.size).go ok' g' fun kv' kv b₁ o₁ h₁ tk₁ hkv q ok₁ g₁ f₁ => q.go ok₁ g₁ fun vv' vv b₂ o₂ h₂ tk₂ hvv q ok₂ g₂ f₂ => pairTrees_nil_walk ?_
  obtain ⟨n, o₃, rfl, hp, p⟩ := q
  obtain ⟨ob, hob, h1, kvs', h2, e⟩ := ok₂.mine _ hp.mem
  obtain rfl : kvs' = [] := List.map_eq_nil_iff.mp e
  refine wpAny_storeAll (knd := strKind pw Z.w) [(kv', vv')] [(n, vv')] [] _ _ ⟨keyS _ _ _ hkv, rfl, trivial⟩ (Heap.dictOf_iff.mpr ⟨ob, hob, h2⟩) (by simp [sizeLine]) fun h' hd hs => ?_
  obtain ⟨o', ho', hq⟩ := Heap.dictOf_iff.mp hd
  obtain ⟨ok₃, f₃⟩ := ok_put ok₂ hp rfl hs ⟨o', ho', h1, _, hq, by rw [show merged [] [(n, vv')] = [(n, vv')] from rfl]; exact congrArg (fun z => [(n, z)]) hvv⟩
  exact k _ _ _ _ h' _ rfl p ok₃ (((f.trans f₁).trans f₂).trans f₃)
theorem lstO_new {vs us : List Value} (h : vs.map er = us) : LstO us { cls := .type "list", data := .seq vs.toArray } := ⟨vs.toArray, 0, rfl, by simpa using h⟩
theorem E_list {elts : List Expr} {pos : Pos} (h : Ags x pos elts b own fun us b₁ o₁ => us.length ≤ sizeLine ∧ ∃ y r, o₁ = y :: r ∧ ∀ l, P (.ref l) b₁ (y :: Ch.of l (LstO us) :: r)) : E x (.List elts pos) b own P :=
  fun s Q E ok g k => wpAny_List (h.go ok g fun vs us b₁ o₁ h₁ tk₁ hr q ok₁ g₁ f₁ => by
    obtain ⟨hsz, y, r, rfl, p⟩ := q
    obtain ⟨ok₂, f₂⟩ := ok_new ok₁ rfl (x := Ch.of h₁.objs.size (LstO us)) (h' := h₁.push { cls := .type "list", data := .seq vs.toArray }) (fun c ob e => Heap.get?_push_of_some _ e) (fresh_size _) ⟨_, Heap.get?_push_size _ rfl, lstO_new hr⟩
    exact ⟨by rw [map_len hr]; exact hsz, k _ _ _ _ _ tk₁ rfl (p _) ok₂ (f₁.trans f₂)⟩)
theorem E_list0 {pos : Pos} (h : ∀ l, P (.ref l) b (y :: Ch.of l (LstO []) :: r)) : E x (.List [] pos) b (y :: r) P := E_list (A_nil ⟨by decide, y, r, rfl, h⟩)
theorem E_tuple {elts : List Expr} {k : Nat} {pos : Pos} (h : Ags x pos elts b own fun us b₁ o₁ => us.length ≤ sizeLine ∧ ∀ t b', b₁.le b' → At b' t (TupO us) → P (.ref t) b' o₁) : E x (.Tuple elts k pos) b own P :=
  fun s Q E ok g k => wpAny_Tuple (h.go ok g fun vs us b₁ o₁ h₁ tk₁ hr q ok₁ g₁ f₁ => by
    obtain ⟨hsz, p⟩ := q
    obtain ⟨b', hb, hba, ok₂, f₂⟩ := ok_know ok₁ (h' := h₁.push { cls := .type "tuple", data := .seq vs.toArray }) (fun c ob e => Heap.get?_push_of_some _ e) (fresh_size _) (Heap.get?_push_size _ rfl)
    exact ⟨by rw [map_len hr]; exact hsz, k _ _ _ _ _ tk₁ rfl (p _ b' hb ⟨_, hba, rfl, vs.toArray, 0, rfl, by simpa using (show vs.map er = us from hr)⟩) ok₂ (f₁.trans f₂)⟩)
noncomputable def Meth (x : Act Z i) (pos : Pos) (id : String) (l : Addr) (args : List Expr) (b : Kn) (own : List Ch) (P : Value → Kn → List Ch → Prop) : Prop := W x RV (callWith pos (.builtin id) [.ref l] (backTo pos (starEach args x.env)) []) b own P
theorem E_lmeth {o : Expr} {name : Str} {apos pos : Pos} {args : List Expr} (id : String) (slot : Slot "list" name id) (hty : typeOf (.builtin id) = Pure.pure (.type "method_descriptor"))
    (h : E x o b own fun ov b₁ o₁ => ∃ l us, ov = .ref l ∧ Ent Z.h₀ b₁ o₁ l (LstO us) ∧ Meth x pos id l args b₁ o₁ P)
    (hbase : attributeBase o name x.env (eval o x.env) = eval o x.env := by rfl)
    (hfew : ((backTo pos (starEach args x.env)).all (fun x => !x.1) && (backToKw pos (keywordEach [] x.env)).all (fun x => x.1.isSome)
      && decide (args.length + ([] : List Keyword).length + (if ([] : List Keyword).isEmpty then 0 else 1) < 30)) = true := by rfl)
    (hline : (apos.endLine == pos.line) = true := by rfl) : E x (.Call (.Attribute o name apos) args [] pos) b own P :=
  fun s Q E ok g k => wpAny_Call_method hbase hfew hline F.plainAttrs_list slot hty (h.go ok g fun ov' ov b₁ o₁ h₁ tk₁ hv q ok₁ g₁ f₁ => by
    obtain ⟨l, us, rfl, he, q⟩ := q
    obtain rfl := er_ref hv
    obtain ⟨o, ho, arr, n, rfl, e⟩ := he _ ok₁
    exact ⟨⟨_, ho, rfl⟩, fun a e => by cases e; exact ⟨_, ho, rfl⟩, q _ Q E ok₁ g₁ fun v u b' o' h' tk r p ok' f' => k v u b' o' h' tk r p ok' (f₁.trans f')⟩)
theorem at_L {h : Heap} {a : Addr} {us : List Value} (q : ∃ o, h.get? a = some o ∧ LstO us o) : ∃ arr n, IsL h a arr n ∧ arr.toList.map er = us := let ⟨o, ho, arr, n, hd, e⟩ := q; ⟨arr, n, by rw [hd] at ho; exact ho, e⟩
theorem M_append {pos : Pos} {l : Addr} {e : Expr} (h : E x e b own fun v b₁ o₁ => ∃ us o₂, Put (Ch.of l (LstO us)) (Ch.of l (LstO (us ++ [v]))) o₁ o₂ ∧ us.length ≤ sizeLine ∧ P .none b₁ o₂)
    (ht : backTo pos (starEach [e] x.env) = [(false, eval e x.env)] := by rfl) : Meth x pos "list.append" l [e] b own P := by
  intro s Q E ok g k
  rw [ht]
  refine PySem.P.append_list (h.go ok g fun v' v b₁ o₁ h₁ tk₁ hv q ok₁ g₁ f₁ => ?_)
  obtain ⟨us, o₂, hp, hsz, p⟩ := q
  obtain ⟨arr, n, hl, e⟩ := at_L (ok₁.mine _ hp.mem)
  obtain ⟨ok₂, f₂⟩ := ok_put ok₁ hp rfl (Heap.SameBut.update _ l _) ⟨_, hl.update (fun xs => xs.push v'), arr.push v', _, rfl, by rw [Array.toList_push, List.map_append, e]; exact congrArg (fun z => us ++ [z]) hv⟩
  exact ⟨arr, n, by rw [arr_len e]; exact hsz, hl, k _ _ _ _ _ tk₁ rfl p ok₂ (f₁.trans f₂)⟩
theorem M_extend {pos : Pos} {l : Addr} {e : Expr} (h : E x e b own fun v b₁ o₁ => ∃ m us us' o₂, v = .ref m ∧ Ent Z.h₀ b₁ o₁ m (LstO us') ∧ Put (Ch.of l (LstO us)) (Ch.of l (LstO (us ++ us'))) o₁ o₂ ∧ us.length + us'.length ≤ sizeLine ∧ P .none b₁ o₂)
    (ht : backTo pos (starEach [e] x.env) = [(false, eval e x.env)] := by rfl) : Meth x pos "list.extend" l [e] b own P := by
  intro s Q E ok g k
  rw [ht]
  refine PySem.P.extend_list (h.go ok g fun v' v b₁ o₁ h₁ tk₁ hv q ok₁ g₁ f₁ => ?_)
  obtain ⟨m, us, us', o₂, rfl, hm, hp, hsz, p⟩ := q
  obtain rfl := er_ref hv
  obtain ⟨arr, n, hl, e⟩ := at_L (ok₁.mine _ hp.mem)
  obtain ⟨arr', n', hl', e'⟩ := at_L (hm _ ok₁)
  have e1 := arr_len e
  have e2 := arr_len e'
  obtain ⟨ok₂, f₂⟩ := ok_put ok₁ hp rfl (Heap.SameBut.update _ l _) ⟨_, hl.update (fun xs => xs ++ arr'), arr ++ arr', _, rfl, by rw [Array.toList_append, List.map_append, e, e']⟩
  refine ⟨m, arr, arr', n, n', ?_, ?_, ?_, rfl, hl, hl', k _ _ _ _ _ tk₁ rfl p ok₂ (f₁.trans f₂)⟩
  · omega
  · omega
  · rw [e1, e2]
    simp [Builtin.List.listTooLong]
    intro; omega
theorem M_pop {pos : Pos} {l : Addr} {us : List Value} {u : Value} (hp : Put (Ch.of l (LstO (us ++ [u]))) (Ch.of l (LstO us)) own own') (hsz : us.length < sizeLine) (h : P u b own') : Meth x pos "list.pop" l [] b own P := by
  intro s Q E ok g k
  obtain ⟨arr, n, hl, e⟩ := at_L (ok.mine _ hp.mem)
  have e1 := arr_len e
  rw [List.length_append, List.length_singleton] at e1
  obtain ⟨v, hv, e'⟩ := arr_get e (j := us.length) (u := u) (by simp)
  refine PySem.P.pop_list hl (y := v) (by rw [e1]; exact hv) ?_ (by rw [e1]; exact hsz)
  obtain ⟨ok₂, f₂⟩ := ok_put ok hp rfl (Heap.SameBut.update s.heap l (Obj.mapSeq fun xs => xs.eraseIdxIfInBounds (arr.size - 1))) ⟨_, hl.update (fun xs => xs.eraseIdxIfInBounds (arr.size - 1)), arr.eraseIdxIfInBounds (arr.size - 1), _, rfl, by
    obtain ⟨l1, l2, e2, e3, e4⟩ := List.map_eq_append_iff.mp e
    have e5 : l2.length = 1 := by rw [← List.length_map (f := er), e4]; rfl
    have e6 : us.length = l1.length := by rw [← e3, List.length_map]
    rw [Array.toList_eraseIdxIfInBounds, e1, e2, Nat.add_sub_cancel, e6, List.eraseIdx_append_of_length_le (Nat.le_refl _), Nat.sub_self]
    obtain ⟨z, rfl⟩ := List.length_eq_one_iff.mp e5
    simpa using e3⟩
  exact k _ _ _ _ _ s.toks e' h ok₂ f₂
theorem M_reverse {pos : Pos} {l : Addr} {us : List Value} (hp : Put (Ch.of l (LstO us)) (Ch.of l (LstO us.reverse)) own own') (hsz : us.length ≤ sizeLine) (h : P .none b own') : Meth x pos "list.reverse" l [] b own P := by
  intro s Q E ok g k
  obtain ⟨arr, n, hl, e⟩ := at_L (ok.mine _ hp.mem)
  refine PySem.P.reverse_list hl ?_ (by rw [arr_len e]; exact hsz)
  obtain ⟨ok₂, f₂⟩ := ok_put ok hp rfl (Heap.SameBut.update s.heap l (Obj.mapSeq fun xs => xs.reverse)) ⟨_, hl.update (fun xs => xs.reverse), arr.reverse, _, rfl, by rw [Array.toList_reverse, List.map_reverse, e]⟩
  exact k _ _ _ _ _ s.toks rfl h ok₂ f₂
end
noncomputable def InstO (C dx : Addr) (o : Obj) : Prop := o = instObj C dx
noncomputable def seen (es : List DictEntry) (y : Str) : Option Value := (es.find? (·.key.isStr y)).map (·.val)
noncomputable def AttO (as : List (Str × Value)) (o : Obj) : Prop := ∃ es n, o = dictOf es n ∧ es.length ≤ as.length ∧ (∀ e ∈ es, ∃ s t, e.key = .str s t) ∧ (∀ y, (seen es y).map er = as.lookup y) ∧ ∀ e ∈ es, handedIn e.val = true
theorem seen_get {es : List DictEntry} (hk : ∀ e ∈ es, ∃ s t, e.key = .str s t) (y : Str) : getL y es = some (seen es y) := by
  unfold getL seen
  cases es.find? (·.key.isStr y) with
  | some e => rfl
  | none =>
    have : es.any (·.refKey) = false := by
      rw [List.any_eq_false]
      intro e he
      obtain ⟨s, t, q⟩ := hk e he
      simp [DictEntry.refKey, q]
    rw [this]; rfl
theorem isStr_iff {s y : Str} {t : Tok} : (Value.str s t).isStr y = true ↔ s = y := by simp [Value.isStr]
theorem seen_put (name : Str) (hsh : Int) (t : Tok) (v : Value) (y : Str) : ∀ {es : List DictEntry}, (∀ e ∈ es, ∃ s t, e.key = .str s t) → seen (putL name hsh (.str name t) v es) y = if y = name then some v else seen es y
  | [], _ => by
    unfold seen putL
    rw [List.find?_cons]
    by_cases e : y = name
    · subst e; simp [Value.isStr]
    · have : (Value.isStr (.str name t) y) = false := by rw [Bool.eq_false_iff, ne_eq, isStr_iff]; exact fun q => e q.symm
      simp [this, e]
  | e :: r, hk => by
    obtain ⟨s, t', q⟩ := hk e (.head _)
    have ih := seen_put name hsh t v y (es := r) fun e he => hk e (.tail _ he)
    unfold seen at ih ⊢
    unfold putL
    by_cases c : s = name
    · subst c
      rw [q, if_pos (isStr_iff.mpr rfl), List.find?_cons, List.find?_cons, q]
      by_cases e : y = s
      · subst e; simp [Value.isStr]
      · have : (Value.isStr (.str s t') y) = false := by rw [Bool.eq_false_iff, ne_eq, isStr_iff]; exact fun q => e q.symm
        simp [this, e]
    · rw [q, if_neg (by rw [isStr_iff]; exact c), List.find?_cons, List.find?_cons, q]
      by_cases e : s = y
      · subst e; simp [Value.isStr, c]
      · have : (Value.isStr (.str s t') y) = false := by rw [Bool.eq_false_iff, ne_eq, isStr_iff]; exact e
        rw [this]; exact ih
theorem put_len (name : Str) (hsh : Int) (key v : Value) : ∀ es : List DictEntry, (putL name hsh key v es).length ≤ es.length + 1
  | [] => Nat.le_refl _
  | e :: r => by
    unfold putL
    split
    · simp
    · simp only [List.length_cons]; have := put_len name hsh key v r; omega
theorem put_mem {name : Str} {hsh : Int} {key v : Value} {p : DictEntry → Prop} (h1 : ∀ h, p ⟨h, key, v⟩) (h2 : ∀ e, p e → p ⟨e.hash, e.key, v⟩) : ∀ {es : List DictEntry}, (∀ e ∈ es, p e) → ∀ e ∈ putL name hsh key v es, p e
  | [], _ => fun e he => by rw [List.mem_singleton.mp he]; exact h1 _
  | e :: r, h => fun z hz => by
    unfold putL at hz
    split at hz
    · rcases List.mem_cons.mp hz with rfl | q
      · exact h2 _ (h _ (.head _))
      · exact h _ (.tail _ q)
    · rcases List.mem_cons.mp hz with rfl | q
      · exact h _ (.head _)
      · exact put_mem h1 h2 (fun e he => h e (.tail _ he)) z q
theorem setAttr_inst {w : World} {A : Around} {E : Value → Shared → Prop} {s : Shared} {K : Frag} {x C dx : Addr} {name : Str} {v : Value} {es : List DictEntry} {n : Nat} {Q : Unit → Shared → Prop} (X : K.In s.heap) (hx : s.heap.get? x = some (instObj C dx)) (hdx : s.heap.get? dx = some (dictOf es n))
    (hs : findIn K (.ref C) "__setattr__" = some (some (.builtin "object.__setattr__"))) (hp : plainOver K C = true) (ht : findIn K (.ref C) name = some none) (hh : hasDictIn K C = true) (hk : ∀ e ∈ es, ∃ s t, e.key = .str s t) (hz : es.length ≤ 900)
    (h : ∀ h' hsh t n', Heap.SameBut dx s.heap h' → h'.get? dx = some (dictOf (putL name hsh (.str name t) v es) n') → Q () { s with heap := h', toks := s.toks + 2 }) : wpAny (model pw w) A (setAttr (.ref x) name v) Q E s := by
  obtain ⟨hp₀, g, d, t, os⟩ := s
  dsimp only at X hx hdx h
  have I : InstAt hp₀ x (instObj C dx) C (some (dictOf es n)) := ⟨hx, rfl, rfl, hdx⟩
  obtain ⟨cd, hc, hd'⟩ := any_some hh
  refine set_plain X I hs (osa_open (s := ⟨hp₀, g, d, t + 1, os⟩) X I hp (r := Option.none) (by unfold takerIn; rw [ht]; rfl) fun b => ?_)
  have D' : (hp₀.update dx (Obj.putName name (PyData.keyHash w.params name) (.str name (t + 1)) v)).get? dx = some (dictOf (putL name (PyData.keyHash w.params name) (.str name (t + 1)) v es) (putN name es n)) := by
    rw [← putName_dict]
    exact Heap.get?_update_self _ hdx (by rw [putName_dict]; rfl)
  refine wpAny_bind (wpAny_pure (wpAny_bind (wpAny_bind (wpAny_loadPart hx (wpAny_bind ((looks_clsIn X hc).here ?_))))))
  rw [hd']
  refine wpAny_pure (a := some dx) (wpAny_bind (wpAny_pure (wpAny_bind ?_)))
  unfold nsSet
  refine wpAny_bind (wpAny_bind (wpAny_askSetting (wpAny_pure (wpAny_bind (wpAny_mkText (wpAny_bind (wpAny_loadPart hdx ?_)))))))
  have c : (!(es.toArray.any (·.key.isStr name)) && es.toArray.any (·.refKey)) = false := by
    rw [← Array.any_toList, ← Array.any_toList]
    have : es.any (·.refKey) = false := by
      rw [List.any_eq_false]
      intro e he
      obtain ⟨s, t, q⟩ := hk e he
      simp [DictEntry.refKey, q]
    rw [List.toList_toArray, this, Bool.and_false]
  dsimp only
  rw [aRefKeyMayBeTheName_at, c]
  refine wpAny_updatePart hdx ?_
  refine wpAny_bind (wpAny_lookBehind D' (pastItsLine_dict (by rw [List.size_toArray, sizeLine_eq]; have := put_len name (PyData.keyHash w.params name) (.str name (t + 1)) v es; omega)) ?_)
  exact wpAny_pure (h _ _ _ _ (Heap.SameBut.update _ _ _) D')
section
variable {Z : Zc} {i : Nat} {x : Act Z i} {b : Kn} {own own' : List Ch} {C g dx : Addr} {attrs : List Str} {meths : List (Str × Nat)} {as : List (Str × Value)} {name : Str} {u : Value}
theorem handed_er {v : Value} (h : er v = u) (hu : ∀ i, u ≠ .builtin i) : handedIn v = true := by
  cases v <;> first | rfl | exact absurd h.symm (hu _)
theorem SetA_inst {P : Unit → Kn → List Ch → Prop} (cf : ClsF Z.K Z.F C attrs meths) (hg : At b g (InstO C dx)) (hp : Put (Ch.of dx (AttO as)) (Ch.of dx (AttO ((name, u) :: as))) own own') (h : P () b own')
    (hn : name ∈ attrs := by decide) (hz : as.length ≤ 900 := by simp) (hu : ∀ i, u ≠ .builtin i := by intro _ q; cases q) : SetA x (.ref g) name u b own P := fun g' u' hg' hu' => by
  obtain rfl := er_ref hg'
  refine W.upd rfl hp (fun s Q E ok hd q => ?_) h
  obtain ⟨og, hbg, rfl⟩ := hg
  obtain ⟨o, ho, es, n, rfl, h1, h2, h3, h4⟩ := hd
  refine setAttr_inst (Z.ok.KI.keeps ok.stays) (ok.kn _ _ hbg) ho cf.sa cf.po (cf.at_ _ hn) cf.hd h2 (by omega) fun h' hsh t n' hs hd => q h' _ _ hs hd ⟨_, n', rfl, ?_, ?_, ?_, ?_⟩
  · have := put_len name hsh (.str name t) u' es; simp only [List.length_cons]; omega
  · exact put_mem (fun _ => ⟨_, _, rfl⟩) (fun e q => q) h2
  · intro y
    rw [seen_put name hsh t u' y h2, List.lookup_cons]
    by_cases e : y = name
    · subst e; rw [if_pos rfl, beq_self_eq_true]; exact congrArg some hu'
    · rw [if_neg e, beq_eq_false_iff_ne.mpr e]; exact h3 y
  · exact put_mem (fun _ => handed_er hu' hu) (fun e _ => handed_er hu' hu) h4
theorem seen_val {es : List DictEntry} (h4 : ∀ e ∈ es, handedIn e.val = true) {y : Str} {v : Value} (h : seen es y = some v) : handedIn v = true := by
  unfold seen at h
  obtain ⟨e, he, rfl⟩ := Option.map_eq_some_iff.mp h
  exact h4 e (List.mem_of_find?_eq_some he)
theorem GetA_inst {P : Value → Kn → List Ch → Prop} (cf : ClsF Z.K Z.F C attrs meths) (hg : At b g (InstO C dx)) (hd : Src b own dx (AttO as)) (hl : as.lookup name = some u) (h : P u b own) (hn : name ∈ attrs := by decide) : GetA x (.ref g) name b own P := fun g' hg' => by
  obtain rfl := er_ref hg'
  intro s Q E ok _ k
  obtain ⟨og, hbg, rfl⟩ := hg
  obtain ⟨o, ho, es, n, rfl, h1, h2, h3, h4⟩ := hd.ent _ ok
  obtain ⟨v, hv, e⟩ := Option.map_eq_some_iff.mp ((h3 name).trans hl)
  refine get_value (Z.ok.KI.keeps ok.stays) (I := ⟨ok.kn _ _ hbg, rfl, rfl, ho⟩) (ox := instObj C dx) (od := some (dictOf es n)) cf.ga (findObj_own cf.hd (cf.at_ _ hn) rfl ?_) (seen_val h4 hv) (k v u b own s.heap _ e h ok Frm.rfl)
  rw [lookIn_dict, seen_get h2, hv]
theorem E_meth {o : Expr} {apos pos : Pos} {e : Expr} {es : List Expr} {P : Value → Kn → List Ch → Prop} (cf : ClsF Z.K Z.F C attrs meths) (j : Nat)
    (h : E x o b own fun ov b₁ o₁ => ∃ g dx as, ov = .ref g ∧ At b₁ g (InstO C dx) ∧ Src b₁ o₁ dx (AttO as) ∧ as.lookup name = none ∧ Ags x pos (e :: es) b₁ o₁ fun vs b₂ o₂ => Call x (.ref (Z.F j)) (.ref g :: vs) b₂ o₂ P)
    (hm : (name, j) ∈ meths := by decide) (hj : j ∈ defIdx ++ metIdx := by decide)
    (hbase : attributeBase o name x.env (eval o x.env) = eval o x.env := by rfl)
    (hfew : ((backTo pos (starEach (e :: es) x.env)).all (fun x => !x.1) && (backToKw pos (keywordEach [] x.env)).all (fun x => x.1.isSome)
      && decide ((e :: es).length + ([] : List Keyword).length + (if ([] : List Keyword).isEmpty then 0 else 1) < 30)) = true := by rfl)
    (hline : (apos.endLine == pos.line) = true := by rfl)
    (he : starEach (e :: es) x.env = (false, eval e x.env) :: starEach es x.env := by rfl) (hplain : (backTo pos (starEach es x.env)).any (·.1) = false := by rfl) : E x (.Call (.Attribute o name apos) (e :: es) [] pos) b own P := by
  intro s Q E ok g k
  rw [arm_eval_Call, hbase]
  refine wpAny_bind (h.go ok g fun ov' ov b₁ o₁ h₁ tk₁ hv q ok₁ g₁ f₁ => ?_)
  obtain ⟨g', dx', as', rfl, hg, hd, hl, q⟩ := q
  obtain rfl := er_ref hv
  refine wpAny_bind (wpAny_standAt ?_)
  have hform : methodCallForm ((e :: es).length + ([] : List Keyword).length) (backTo pos (starEach (e :: es) x.env)) (backToKw pos (keywordEach [] x.env)) = true := hfew
  have hpos : methodCallPos true o x.env apos pos = Pure.pure pos := by unfold methodCallPos; simp [hline]
  unfold methodCall
  rw [hform]
  obtain ⟨og, hbg, rfl⟩ := hg
  obtain ⟨o', ho, es', n, rfl, h1, h2, h3, h4⟩ := hd.ent _ ok₁
  have hs : seen es' name = none := Option.map_eq_none_iff.mp ((h3 name).trans hl)
  obtain ⟨m1, m2⟩ := cf.me _ hm
  refine wpAny_bind (wpAny_holding (method_fn (Z.ok.KI.keeps ok₁.stays) (I := ⟨ok₁.kn _ _ hbg, rfl, rfl, ho⟩) (ox := instObj C dx') (od := some (dictOf es' n)) cf.ga cf.gk m1 m2 (by show (lookIn name (dictOf es' n)).map _ = _; rw [lookIn_dict, seen_get h2, hs]; rfl) ?_))
  refine wpAny_bind (wpAny_of_eq hpos ?_)
  exact callWith_ok (first := [.ref g']) (callee_fn (Z.ok.fn j hj)) q he hplain _ Q E ok₁ g₁ fun v u b' o' h' tk r p ok' f' => k v u b' o' h' tk r p ok' (f₁.trans f')
end
section
variable {Z : Zc} {i : Nat} {x : Act Z i} {b : Kn} {own : List Ch}
theorem frm_enter {h h₁ h' : Heap} {b b' : Kn} {own r : List Ch} {z y : Ch} (hk₁ : ∀ a ob, h.get? a = some ob → h₁.get? a = some ob) (n0 : h.get? y.addr = none) (f : Frm h₁ b (y :: own) h' b' (z :: r)) : Frm h b own h' b' r := by
  refine ⟨fun c ob n e => f.keep c ob (fun m => ?_) (hk₁ c ob e), f.kn, fun c ob e => ?_, fun z hz => ?_⟩
  · rcases List.mem_cons.mp m with m | m
    · rw [m, n0] at e; cases e
    · exact n m
  · rcases f.new c ob e with u | u | u
    · exact .inl u
    · refine .inr (.inl (Option.eq_none_iff_forall_not_mem.mpr fun oc q => ?_))
      have := hk₁ c oc q; rw [u] at this; cases this
    · rcases List.mem_cons.mp u with u | u
      · exact .inr (.inl (u ▸ n0))
      · exact .inr (.inr u)
  · rcases f.U z (.tail _ hz) with u | u
    · rcases List.mem_cons.mp u with u | u
      · exact .inr (u ▸ n0)
      · exact .inl u
    · refine .inr (Option.eq_none_iff_forall_not_mem.mpr fun oc q => ?_)
      have := hk₁ _ oc q; rw [u] at this; cases this
theorem enter {A : Around} {n j : Nat} {us : List Value} (names : List Str) (rm : Rm A (n + 1)) (hj : j ∈ defIdx ++ metIdx)
    (hbind : ∀ vs : List Value, vs.length = us.length → ∀ kV doc pm an cdv ct, bindArgs (fnOf (dName (stmtAt j)) (qName j) (dParams (stmtAt j)) (dBody (stmtAt j)) (dScope (stmtAt j)) .none kV doc pm an cdv ct) ⟨vs, []⟩ = Pure.pure (names.zip vs))
    (hloc : (names.all fun y => decide ((dScope (stmtAt j)).names.lookup y = some .local)) = true) (hcell : ((dScope (stmtAt j)).names.all fun z => decide (z.2 ≠ .cell)) = true)
    {P : Value → Kn → List Ch → Prop} {s : Shared} {R : Result → Shared → Prop} (ok : Ok Z.h₀ b own s.heap) (vs : List Value) (hvs : vs.map er = us)
    (h : ∀ y : Act Z j, y.n = n → S y (dBody (stmtAt j)) b (Ch.loc y.L (names.zip us).reverse :: own) (Ret P))
    (k : ∀ v u b' r h' tk, er v = u → P u b' r → Ok Z.h₀ b' r h' → Frm s.heap b own h' b' r → R (.ok (.ret v)) { s with heap := h', toks := tk })
    (hco : (dScope (stmtAt j)).isCoroutine = false := by rfl) (hgen : (dScope (stmtAt j)).isGenerator = false := by rfl) (hk : (dScope (stmtAt j)).kind = .function := by rfl) : codeAny (model pw Z.w) A (.call (.ref (Z.F j)) ⟨vs, []⟩) R s := by
  obtain ⟨oc, od, osl, kV, doc, pm, an, cdv, ct, ho, hcd⟩ := Z.ok.fn j hj
  refine codeAny_call_def (fd := fnOf (dName (stmtAt j)) (qName j) (dParams (stmtAt j)) (dBody (stmtAt j)) (dScope (stmtAt j)) .none kV doc pm an cdv ct) (body := dBody (stmtAt j)) (binds := names.zip vs) rm.lim (ok.stays _ _ ho) rfl (Z.ok.lim.keeps ok.stays) (hcd.keeps ok.stays) rfl (.of_eq (hbind _ (map_len hvs) _ _ _ _ _ _))
    (fun z hz => of_decide_eq_true (List.all_eq_true.mp hcell z hz)) (fun y hy => of_decide_eq_true (List.all_eq_true.mp hloc _ (List.of_mem_zip hy).1)) (fun h₁ hns hk₁ => ?_) hco hgen hk
  have none_ := fresh_size s.heap
  have ok₁ : Ok Z.h₀ b (Ch.loc s.heap.objs.size (names.zip us).reverse :: own) h₁ := by
    obtain ⟨q, _⟩ := ok_keep ok hk₁
    refine ⟨q.base, q.kn, fun x hx => ?_, List.nodup_cons.mpr ⟨fun z => ?_, q.nodup⟩, fun x hx => ?_⟩
    · rcases List.mem_cons.mp hx with rfl | m
      · refine of_ns hns fun y u hu => ?_
        rw [← hvs, zip_er, ← List.map_reverse, lookup_er] at hu
        exact Option.map_eq_some_iff.mp hu
      · exact q.mine x m
    · obtain ⟨x, hx, e⟩ := List.mem_map.mp z
      obtain ⟨ob, hob⟩ := x.live _ (ok.mine x hx)
      rw [e, Ch.of_addr, none_] at hob; cases hob
    · rcases List.mem_cons.mp hx with rfl | m
      · refine Option.eq_none_iff_forall_not_mem.mpr fun ob e => ?_
        have := ok.kn _ _ e; rw [Ch.of_addr, none_] at this; cases this
      · exact q.disj x m
  let y : Act Z j := { A := A.deeper (envOf (qName j) (dScope (stmtAt j)) s.heap.objs.size (Z.F j) cdv), n := n, rm := rm.deeper, L := s.heap.objs.size, cd := cdv, cl := [], fu := some (Z.F j), fr := some s.heap.objs.size, G := GT Z.h₀, thru := fun _ _ _ _ _ => .inl trivial }
  refine wpAny_mono (h y rfl { s with heap := h₁, toks := s.toks + (names.zip vs).length } (fun fl s' => ∀ v, v = (match fl with | .ret v => v | _ => .none) → R (.ok (.ret v)) s')
    (fun e s' => wpAny (model pw Z.w) (A.deeper (envOf (qName j) (dScope (stmtAt j)) s.heap.objs.size (Z.F j) cdv)) (leaving (envOf (qName j) (dScope (stmtAt j)) s.heap.objs.size (Z.F j) cdv) e) (fun _ s'' => R (.error e) s'') (fun e' s'' => R (.error e') s'') s') ok₁ trivial fun fl fl' b' o' h' tk hf p ok' f' => ?_) (fun fl s' hq => hq _ rfl) fun _ _ e => e
  obtain ⟨z, r, rfl, p⟩ := p
  rintro v rfl
  exact k _ (retv fl') b' r h' tk (by cases hf; cases fl <;> rfl) p (tl_ok ok') (frm_enter hk₁ none_ f')
theorem Rm.under {A : Around} {n : Nat} (h : Rm A (n + 1)) (C : Addr) (vs : List Value) (kw : List (Str × Value)) : Rm (A.under (.builtin "type.__call__" ⟨.ref C :: vs, kw⟩)) n := by
  have w1 : (Code.builtin "type.__call__" ⟨.ref C :: vs, kw⟩).weight = 1 := by kernel_rfl
  have w2 : (Code.builtin "type.__call__" ⟨.ref C :: vs, kw⟩).cUnits = 1 := by kernel_rfl
  refine ⟨h.1, ?_, ?_⟩
  · have := h.2.1; show A.depth + Code.weight _ + _ + _ < _; rw [w1]; omega
  · have := h.2.2; show A.units + Code.cUnits _ + _ + _ < _; rw [w2]; omega
theorem Call_cls {j : Nat} {C : Addr} {attrs : List Str} {meths : List (Str × Nat)} {us : List Value} (cf : ClsF Z.K Z.F C attrs meths) (names : List Str) {P : Value → Kn → List Ch → Prop} (hn : 2 ≤ x.n) (hm : (Str.ofString "__init__", j) ∈ meths) (hj : j ∈ defIdx ++ metIdx)
    (hbind : ∀ (g : Value) (vs : List Value), vs.length = us.length → ∀ kV doc pm an cdv ct, bindArgs (fnOf (dName (stmtAt j)) (qName j) (dParams (stmtAt j)) (dBody (stmtAt j)) (dScope (stmtAt j)) .none kV doc pm an cdv ct) ⟨g :: vs, []⟩ = Pure.pure (names.zip (g :: vs)))
    (hloc : (names.all fun y => decide ((dScope (stmtAt j)).names.lookup y = some .local)) = true) (hcell : ((dScope (stmtAt j)).names.all fun z => decide (z.2 ≠ .cell)) = true)
    (h : ∀ (y : Act Z j) g dx b', y.n + 2 = x.n → b.le b' → At b' g (InstO C dx) → S y (dBody (stmtAt j)) b' (Ch.loc y.L (names.zip (.ref g :: us)).reverse :: Ch.of dx (AttO []) :: own) (Ret fun v b₂ o₂ => v = .none ∧ P (.ref g) b₂ o₂))
    (hco : (dScope (stmtAt j)).isCoroutine = false := by rfl) (hgen : (dScope (stmtAt j)).isGenerator = false := by rfl) (hk : (dScope (stmtAt j)).kind = .function := by rfl) : Call x (.ref C) us b own P := by
  intro vs hvs s Q E ok _ k
  obtain ⟨m, hm'⟩ : ∃ m, x.n = m + 2 := ⟨x.n - 2, by omega⟩
  have rm := x.rm
  rw [hm'] at rm
  obtain ⟨m1, m2⟩ := cf.me _ hm
  have X := Z.ok.KI.keeps ok.stays
  obtain ⟨hp₀, g, d, t, os⟩ := s
  refine wpAny_call (make_core (makes_of X cf.made) (looks_findIn X m1) (fun self => bind_fn X self m2) (.inl rfl) ?_)
  have n1 := fresh_size hp₀
  have dxo : AttO [] emptyDict := ⟨[], 0, rfl, Nat.le_refl _, (fun _ he => by cases he), (fun _ => rfl), (fun _ he => by cases he)⟩
  have k1 : ∀ a ob, hp₀.get? a = some ob → (hp₀.push emptyDict).get? a = some ob := fun c ob e => Heap.get?_push_of_some _ e
  obtain ⟨q1, f1⟩ := ok_keep ok k1
  have okd : Ok Z.h₀ b (Ch.of hp₀.objs.size (AttO []) :: own) (hp₀.push emptyDict) := by
    refine ⟨q1.base, q1.kn, fun z hz => ?_, List.nodup_cons.mpr ⟨fun z => ?_, q1.nodup⟩, fun z hz => ?_⟩
    · rcases List.mem_cons.mp hz with rfl | q
      · exact ⟨_, Heap.get?_push_size _ rfl, dxo⟩
      · exact q1.mine z q
    · obtain ⟨z, hz, e⟩ := List.mem_map.mp z
      obtain ⟨ob, hob⟩ := z.live _ (ok.mine z hz)
      rw [e] at hob; exact absurd hob (by rw [show hp₀.get? (Ch.of hp₀.objs.size (AttO [])).addr = none from n1]; nofun)
    · rcases List.mem_cons.mp hz with rfl | q
      · refine Option.eq_none_iff_forall_not_mem.mpr fun ob e => ?_
        have := ok.kn _ _ e; rw [Ch.of_addr] at this; rw [show hp₀.get? hp₀.objs.size = none from n1] at this; cases this
      · exact q1.disj z q
  have fd : Frm hp₀ b own (hp₀.push emptyDict) b (Ch.of hp₀.objs.size (AttO []) :: own) := ⟨f1.keep, Kn.le.rfl, fun _ _ e => .inl e, fun z hz => by
    rcases List.mem_cons.mp hz with rfl | q
    · exact .inr n1
    · exact .inl (List.mem_map_of_mem q)⟩
  have n2 := fresh_size (hp₀.push emptyDict)
  rw [Heap.size_push] at n2
  obtain ⟨b', hb, hba, ok', f'⟩ := ok_know okd (h' := (hp₀.push emptyDict).push (instObj C hp₀.objs.size)) (a := hp₀.objs.size + 1) (fun c ob e => Heap.get?_push_of_some _ e) n2 (by rw [← Heap.size_push]; exact Heap.get?_push_size _ rfl)
  refine enter (us := .ref (hp₀.objs.size + 1) :: us) names (n := m) (Rm.under rm C vs []) hj (fun vs' hv' kV doc pm an cdv ct => ?_) hloc hcell ok' (.ref (hp₀.objs.size + 1) :: vs) (by rw [List.map_cons, hvs]; rfl) (fun y hy => h y _ _ b' (by omega) hb ⟨_, hba, rfl⟩) (fun v u b'' r h'' tk hv p ok'' f'' => ?_) hco hgen hk
  · cases vs' with
    | nil => simp at hv'
    | cons g' vs'' => exact hbind g' vs'' (by simpa using hv') kV doc pm an cdv ct
  · obtain ⟨rfl, p⟩ := p
    obtain rfl := er_none hv
    exact ⟨rfl, k _ _ b'' r h'' tk rfl p ok'' ((fd.trans f').trans f'')⟩
theorem E_cls {n : Str} {np pos : Pos} {e : Expr} {es : List Expr} {P : Value → Kn → List Ch → Prop} {C : Addr} {attrs : List Str} {meths : List (Str × Nat)} (hg : Glo Z.h₀ n (.ref C)) (cf : ClsF Z.K Z.F C attrs meths) (h : Ags x pos (e :: es) b own fun vs b₂ o₂ => Call x (.ref C) vs b₂ o₂ P)
    (hk : (dScope (stmtAt i)).kind = .function := by rfl) (hx : x.env.kindOf n = some .globalImplicit := by rfl) (hd : (n == ("__debug__" : Str)) = false := by rfl)
    (he : starEach (e :: es) x.env = (false, eval e x.env) :: starEach es x.env := by rfl) (hplain : (backTo pos (starEach es x.env)).any (·.1) = false := by rfl) : E x (.Call (.Name n np) (e :: es) [] pos) b own P :=
  E_call (E_global hg ⟨_, rfl, fun _ q => er_ref q, fun h hk => keeps_K cf.kp h (Z.ok.KI.keeps hk), h⟩ hk rfl hx hd) he hplain
end
theorem owner_rev : Manifest.owners.lookup (String.ofList ['d', 'e', 's', 'r', 'e', 'v', 'e', 'r'].reverse) = some Manifest.sig_reversed := by kernel_rfl
theorem slot_rev_next : Slot "reversed" "__next__" "reversed.__next__" :=
  .of (owner := "reversed") (n := "__next__") (by rw [typeLookup_type, builtinLookup_eq_fast]; kernel_rfl) (by decide +kernel) (by decide +kernel) (by decide +kernel)
    (by first | exact .inl (by decide +kernel) | exact .inr (by decide +kernel)) (by rw [isSubtype_type]; kernel_rfl)
theorem slot_rev_iter : Slot "reversed" "__iter__" "reversed.__iter__" :=
  .of (owner := "reversed") (n := "__iter__") (by rw [typeLookup_type, builtinLookup_eq_fast]; kernel_rfl) (by decide +kernel) (by decide +kernel) (by decide +kernel)
    (by first | exact .inl (by decide +kernel) | exact .inr (by decide +kernel)) (by rw [isSubtype_type]; kernel_rfl)
theorem slot_rev_hint : Slot "reversed" "__length_hint__" "reversed.__length_hint__" :=
  .of (owner := "reversed") (n := "__length_hint__") (by rw [typeLookup_type, builtinLookup_eq_fast]; kernel_rfl) (by decide +kernel) (by decide +kernel) (by decide +kernel)
    (by first | exact .inl (by decide +kernel) | exact .inr (by decide +kernel)) (by rw [isSubtype_type]; kernel_rfl)
theorem slot_rev_init : Slot "reversed" "__init__" "object.__init__" :=
  .of (owner := "object") (n := "__init__") (by rw [typeLookup_type, builtinLookup_eq_fast]; kernel_rfl) (by decide +kernel) (by decide +kernel) (by decide +kernel)
    (by first | exact .inl (by decide +kernel) | exact .inr (by decide +kernel)) (by rw [isSubtype_type]; kernel_rfl)
theorem entry_rev_next : entryFor table "reversed.__next__" = some Builtin.«reversed.__next__» := entryFor_of_tree (by kernel_rfl)
theorem entry_rev_hint : entryFor table "reversed.__length_hint__" = some Builtin.«reversed.__length_hint__» := entryFor_of_tree (by kernel_rfl)
theorem entry_rev_iter : entryFor table "reversed.__iter__" = some Builtin.«dict_keyiterator.__iter__» :=
  entryFor_alias (id' := "dict_keyiterator.__iter__") (by kernel_rfl) (by first | rfl | decide +kernel | (unfold String.splitOn; simp +decide [String.splitOnAux])) (by decide +kernel) (by kernel_rfl)
theorem args_rev_next (a : Value) : argsOk "reversed.__next__" ⟨[a], []⟩ := by
  unfold argsOk; rw [signature?_of (id := "reversed.__next__") (n := ['_', '_', 't', 'x', 'e', 'n', '_', '_']) (o := ['d', 'e', 's', 'r', 'e', 'v', 'e', 'r']) (by kernel_rfl) owner_rev]; kernel_rfl
theorem args_rev_iter (a : Value) : argsOk "reversed.__iter__" ⟨[a], []⟩ := by
  unfold argsOk; rw [signature?_of (id := "reversed.__iter__") (n := ['_', '_', 'r', 'e', 't', 'i', '_', '_']) (o := ['d', 'e', 's', 'r', 'e', 'v', 'e', 'r']) (by kernel_rfl) owner_rev]; kernel_rfl
theorem args_rev_hint (a : Value) : argsOk "reversed.__length_hint__" ⟨[a], []⟩ := by
  unfold argsOk; rw [signature?_of (id := "reversed.__length_hint__") (n := ['_', '_', 't', 'n', 'i', 'h', '_', 'h', 't', 'g', 'n', 'e', 'l', '_', '_']) (o := ['d', 'e', 's', 'r', 'e', 'v', 'e', 'r']) (by kernel_rfl) owner_rev]; kernel_rfl
theorem called_rev : TypeCalled "reversed" "reversed.__new__" "object.__init__" :=
  ⟨by decide +kernel, F.create_reversed, ⟨_, _, F.mro_reversed⟩, F.made_reversed, F.plain_reversed_new, F.sub_reversed_self, slot_rev_init⟩
theorem tup_no_rev : typeLookup (.type "tuple") "__reversed__" = Pure.pure none := by rw [typeLookup_type, builtinLookup_eq_fast]; kernel_rfl
theorem rev_no_len : typeLookup (.type "reversed") "__len__" = Pure.pure none := by rw [typeLookup_type, builtinLookup_eq_fast]; kernel_rfl
theorem tup_no_dict : isSubtype (.type "tuple") (.type "dict") = Pure.pure false := by rw [isSubtype_type]; kernel_rfl
noncomputable def RevO (t : Addr) (i : Int) (o : Obj) : Prop := o.cls = .type "reversed" ∧ o.data = .fields #[.ref t, rawInt i]
section
variable {w : World} {A : Around} {E : Value → Shared → Prop} {s : Shared} {t : Addr} {items : Array Value}
theorem hasItem_tup {Q : Bool → Shared → Prop} (ht : s.heap.IsTuple t items) (h : Q true s) : wpAny (model pw w) A (do
    if ← isInstance (.ref t) (.type "dict") then return false
    match ← specialOf (.ref t) "__getitem__" with
    | none => return false
    | some (.builtin id) =>
      if ["tuple.__getitem__", "str.__getitem__", "bytes.__getitem__", "bytearray.__getitem__", "memoryview.__getitem__", "numpy.ndarray.__getitem__", "sqlite3.Row.__getitem__"].contains id then return true
      if id == "sqlite3.Blob.__getitem__" then return false
      unsupported "reversed.__new__:is-it-a-sequence"
    | some _ => return true : Sem Bool) Q E s := by
  refine wpAny_bind (wpAny_isInstance (T := "tuple") (b := false) ht.typeIs tup_no_dict ?_)
  refine wpAny_bind (wpAny_specialOf ht.typeIs F.slot_tuple_getitem.lookup ?_)
  exact wpAny_pure h
theorem rev_new {Q : Value → Shared → Prop} (ht : s.heap.IsTuple t items) (hz : (items.size : Int) < 2 ^ 63)
    (h : ∀ tk, Q (.ref s.heap.objs.size) { s with heap := s.heap.push { cls := .type "reversed", data := .fields #[.ref t, rawInt ((items.size : Int) - 1)] }, toks := tk }) : wpAny (model pw w) A (call (.type "reversed") [.ref t]) Q E s := by
  refine callType_newIn (S := fun A R s => s.heap.IsTuple t items ∧ ∀ tk, R (.ok (.ret (.ref s.heap.objs.size))) { s with heap := s.heap.push { cls := .type "reversed", data := .fields #[.ref t, rawInt ((items.size : Int) - 1)] }, toks := tk }) called_rev (by decide) (F.typeCall_reversed_1 _) (F.newCall_reversed_1 _) (fun obj => F.args_object_init_2 obj _) F.entry_reversed_new
    (fun A R s h => ?_) ⟨ht, fun tk => ⟨⟨_, Heap.get?_push_size _ rfl, rfl⟩, h tk⟩⟩
  obtain ⟨ht, h⟩ := h
  unfold Builtin.«reversed.__new__»
  refine wpAny_bind (wpAny_of_eq (newClass_reversed _) ?_)
  dsimp only
  refine wpAny_bind (wpAny_of_eq (a := ()) (by first | rfl | kernel_rfl) ?_)
  refine wpAny_bind (wpAny_of_eq (a := ()) (by first | rfl | kernel_rfl) ?_)
  refine wpAny_bind (wpAny_specialOf ht.typeIs tup_no_rev ?_)
  dsimp only
  refine wpAny_bind (hasItem_tup ht ?_)
  rw [if_neg (by decide)]
  refine wpAny_bind (len_tuple ht hz ?_)
  refine wpAny_bind (wpAny_of_eq (a := some (items.size : Int)) rfl ?_)
  dsimp only
  refine wpAny_bind ?_
  show wpAny _ _ (newObj (.type "reversed") (.fields #[.ref t, rawInt ((items.size : Int) - 1)])) _ _ _
  exact wpAny_newObj_type (wpAny_pure (h _))
theorem typeIs_rev {I : Addr} {i : Int} (hi : ∃ o, s.heap.get? I = some o ∧ RevO t i o) : s.TypeIs (.ref I) "reversed" := let ⟨o, ho, hc, _⟩ := hi; ⟨o, ho, hc⟩
theorem rev_iter {I : Addr} {i : Int} {Q : Value → Shared → Prop} (hi : ∃ o, s.heap.get? I = some o ∧ RevO t i o) (h : Q (.ref I) s) : wpAny (model pw w) A (pyIter (.ref I)) Q E s := by
  have hT := typeIs_rev hi
  refine wpAny_pyIter_slot hT slot_rev_iter (wpAny_call_entry slot_rev_iter hT entry_rev_iter ?_ (args_rev_iter _))
  show wpAny _ _ (ret (.ref I)) _ _ s
  exact wpAny_pure ⟨_, rfl, "reversed", _, hT, slot_rev_next.lookup, h⟩
theorem rev_next {I : Addr} {i : Nat} {v : Value} {Q : Option Value → Shared → Prop} (hi : ∃ o, s.heap.get? I = some o ∧ RevO t (i : Int) o) (ht : s.heap.IsTuple t items) (hv : items[i]? = some v) (hz : (items.size : Int) < 2 ^ 63)
    (h : ∀ h' tk, Heap.SameBut I s.heap h' → (∃ o, h'.get? I = some o ∧ RevO t ((i : Int) - 1) o) → Q (some v) { s with heap := h', toks := tk }) : wpAny (model pw w) A (pyNext (.ref I)) Q E s := by
  have hT := typeIs_rev hi
  obtain ⟨o, ho, hc, hd⟩ := hi
  have hlt : i < items.size := (Array.getElem?_eq_some_iff.mp hv).1
  unfold pyNext
  refine wpAny_bind (wpAny_attempt (wpAny_callSpecial?_slot (name := Str.ofString "__next__") hT slot_rev_next
    (wpAny_call_entry slot_rev_next hT entry_rev_next ?_ (args_rev_next _))))
  unfold Builtin.«reversed.__next__»
  refine wpAny_bind (wpAny_of_eq (a := (Value.ref I, [])) rfl ?_)
  show wpAny _ _ (field (.ref I) 0 >>= _) _ _ _
  refine wpAny_bind (wpAny_field ho hd (x := .ref t) rfl ?_)
  refine wpAny_bind (wpAny_field ho hd (x := rawInt (i : Int)) rfl ?_)
  show wpAny _ _ (if (i : Int) < 0 then _ else _) _ _ s
  rw [if_neg (by omega)]
  refine wpAny_bind (wpAny_specialOf ht.typeIs F.slot_tuple_getitem.lookup ?_)
  rw [if_neg (by decide)]
  refine wpAny_bind (wpAny_mkInt ?_)
  refine wpAny_bind (wpAny_attempt (PyProof.Rows.getItem_tuple (s := { s with toks := s.toks + 1 }) ht (by omega) (by omega) (j := i) (by rw [seqIndex_of (by omega) (by omega)]; rfl) hv ?_))
  show wpAny _ _ (field (.ref I) 1 >>= _) _ _ _
  refine wpAny_bind (wpAny_field (s := { s with toks := s.toks + 1 }) ho hd (x := rawInt (i : Int)) rfl ?_)
  show wpAny _ _ (setField (.ref I) 1 (rawInt ((i : Int) - 1)) >>= _) _ _ _
  refine wpAny_bind (wpAny_setField (s := { s with toks := s.toks + 1 }) ho hd (by simp) ?_)
  refine wpAny_pure ⟨v, rfl, wpAny_pure (h _ _ (Heap.SameBut.update ..) ⟨_, Heap.get?_update_self _ ho (Obj.isFreed_of_fields (Obj.data_mapFields hd _)), (Obj.cls_mapFields ..).trans hc, by
    rw [Obj.data_mapFields hd]; simp [rawInt]⟩)⟩
theorem stop_new {α : Type} {Q : α → Shared → Prop} (hh : A.handled = none)
    (h : ∀ h' e, (∃ o, h'.get? e = some o ∧ o.cls = .type "StopIteration") → (∀ c ob, s.heap.get? c = some ob → h'.get? c = some ob) → E (.ref e) { s with heap := h' }) : wpAny (model pw w) A (newExc (.type "StopIteration") [] >>= fun e => raiseNew e : Sem α) Q E s := by
  refine wpAny_bind ?_
  unfold newExc newTuple
  refine wpAny_bind (wpAny_newObj_type ?_ (by size_fits))
  refine wpAny_bind (m := firstArgMember _ _) (wpAny_of_eq (a := Value.none) (by first | rfl | (simp only [firstArgMember]; rfl)) ?_)
  refine wpAny_newObj_type ?_ (by size_fits)
  exact wpAny_raiseNew_none hh (h _ _ ⟨_, Heap.get?_push_size _ rfl, rfl⟩ fun c ob e => Heap.get?_push_of_some _ (Heap.get?_push_of_some _ e))
theorem rev_end {I : Addr} {Q : Option Value → Shared → Prop} (hh : A.handled = none) (hi : ∃ o, s.heap.get? I = some o ∧ RevO t (-1) o)
    (h : ∀ h', (∀ c ob, c ≠ I → s.heap.get? c = some ob → h'.get? c = some ob) → Q none { s with heap := h' }) : wpAny (model pw w) A (pyNext (.ref I)) Q E s := by
  have hT := typeIs_rev hi
  obtain ⟨o, ho, hc, hd⟩ := hi
  unfold pyNext
  refine wpAny_bind (wpAny_attempt (wpAny_callSpecial?_slot (name := Str.ofString "__next__") hT slot_rev_next
    (wpAny_call_entry slot_rev_next hT entry_rev_next ?_ (args_rev_next _))))
  unfold Builtin.«reversed.__next__»
  refine wpAny_bind (wpAny_of_eq (a := (Value.ref I, [])) rfl ?_)
  show wpAny _ _ (field (.ref I) 0 >>= _) _ _ _
  refine wpAny_bind (wpAny_field ho hd (x := .ref t) rfl ?_)
  refine wpAny_bind (wpAny_field ho hd (x := rawInt (-1)) rfl ?_)
  show wpAny _ _ (if (-1 : Int) < 0 then _ else _) _ _ s
  rw [if_pos (by decide)]
  refine wpAny_bind (wpAny_rule ?_)
  refine wpAny_bind ?_
  show wpAny _ _ (setField (.ref I) 1 (rawInt (-1)) >>= fun _ => setField (.ref I) 0 .none) _ _ _
  refine wpAny_bind (wpAny_setField ho hd (by simp) ?_)
  have ho₁ := Heap.get?_update_self (Obj.mapFields (·.setIfInBounds 1 (rawInt (-1)))) ho (Obj.isFreed_of_fields (Obj.data_mapFields hd _))
  refine wpAny_setField ho₁ (Obj.data_mapFields hd _) (by simp) ?_
  have k1 : ∀ c ob, c ≠ I → s.heap.get? c = some ob → ((s.heap.update I (Obj.mapFields (·.setIfInBounds 1 (rawInt (-1))))).update I (Obj.mapFields (·.setIfInBounds 0 Value.none))).get? c = some ob :=
    fun c ob hc e => ((Heap.SameBut.update _ I _).2 c hc).trans (((Heap.SameBut.update _ I _).2 c hc).trans e)
  refine wpAny_bind (stop_new (by first | exact hh | (show A.in1.handled = none; exact hh)) fun h' e ⟨oe, he, ce⟩ up => ?_)
  refine wpAny_bind (wpAny_isInstance (T := "StopIteration") (b := true) ⟨_, he, ce⟩ isSubtype_stop ?_)
  exact wpAny_pure (h _ fun c ob hc e => up _ _ (k1 c ob hc e))
end
section
variable {w : World} {A : Around} {E : Value → Shared → Prop} {s : Shared} {t : Addr} {items : Array Value}
theorem rev_hint {I : Addr} {Q : Bool → Shared → Prop} (hi : ∃ o, s.heap.get? I = some o ∧ RevO t ((items.size : Int) - 1) o) (ht : s.heap.IsTuple t items) (hz : items.size ≤ sizeLine) (h : ∀ b tk, Q b { s with toks := tk }) : wpAny (model pw w) A (Builtin.List.listLengthHint (.ref I)) Q E s := by
  have hT := typeIs_rev hi
  obtain ⟨o, ho, hc, hd⟩ := hi
  have sl : sizeLine = 2 ^ 24 := rfl
  unfold Builtin.List.listLengthHint
  refine wpAny_bind (wpAny_specialOf hT rev_no_len ?_)
  show wpAny _ A (specialOf (Value.ref I) (Str.ofString "__length_hint__") >>= _) _ _ _
  refine wpAny_bind (wpAny_specialOf hT slot_rev_hint.lookup ?_)
  generalize hid : ("reversed.__length_hint__" : String) = id0
  dsimp only
  rw [show splitId id0 = some ("reversed", "__length_hint__") from by subst hid; decide +kernel]
  subst hid
  dsimp only
  refine wpAny_bind (wpAny_isInstance (T := "reversed") (b := true) hT F.sub_reversed_self ?_)
  refine wpAny_ite_split (fun hab => absurd hab (by decide)) (fun _ => ?_)
  refine wpAny_ite_split (fun hab => absurd hab (by decide +kernel)) (fun _ => ?_)
  refine wpAny_bind (wpAny_rule ?_)
  refine wpAny_bind (wpAny_of_eq (slot_rev_hint.bind _) ?_)
  dsimp only
  refine wpAny_bind (wpAny_attempt (wpAny_call_entry slot_rev_hint hT entry_rev_hint ?_ (args_rev_hint _)))
  unfold Builtin.«reversed.__length_hint__»
  refine wpAny_bind (wpAny_of_eq (a := Value.ref I) rfl ?_)
  refine wpAny_bind (wpAny_field ho hd (x := .ref t) rfl ?_)
  refine wpAny_ite_split (fun hab => absurd hab (by show ¬ (false = true); decide)) (fun _ => ?_)
  refine wpAny_bind (len_tuple ht (by omega) ?_)
  refine wpAny_bind (wpAny_of_eq (a := some (items.size : Int)) rfl ?_)
  dsimp only
  refine wpAny_bind (wpAny_field (s := { s with toks := _ }) ho hd (x := rawInt ((items.size : Int) - 1)) rfl ?_)
  dsimp only [rawInt]
  refine wpAny_ite_split (fun hab => absurd hab (by omega)) (fun _ => ?_)
  refine wpAny_bind (wpAny_mkInt (wpAny_pure ⟨_, rfl, ?_⟩))
  dsimp only
  refine wpAny_bind (wpAny_of_eq (a := some (((items.size : Int) - 1) + 1)) rfl ?_)
  dsimp only
  refine wpAny_ite_split (fun hab => absurd hab (by simp [Builtin.List.listFitsIndex]; omega)) (fun _ => ?_)
  refine wpAny_ite_split (fun hab => absurd hab (by omega)) (fun _ => ?_)
  refine wpAny_ite_split (fun hab => absurd hab (by simp [Builtin.List.listTooLong]; omega)) (fun _ => ?_)
  exact wpAny_pure (h _ _)
theorem rev_loop {R : Result → Shared → Prop} {I S : Addr} {res : Value} (hh : A.handled = none) (htI : t ≠ I) (hSI : S ≠ I) (hSt : S ≠ t) : ∀ (k : Nat) (s : Shared) (acc : Array Value) (c : Nat), k ≤ items.size → (∃ o, s.heap.get? I = some o ∧ RevO t ((k : Int) - 1) o) → s.heap.IsTuple t items → acc.size + items.size ≤ sizeLine + 1 + (items.size - k) →
    items.size ≤ sizeLine → s.heap.get? S = some { cls := .type "list", dict := none, data := .seq acc c, slots := #[] } →
    (∀ h' tk acc' c', (∀ b o, b ≠ S → b ≠ I → s.heap.get? b = some o → h'.get? b = some o) → h'.get? S = some { cls := .type "list", dict := none, data := .seq acc' c', slots := #[] } → acc'.toList = acc.toList ++ (items.toList.take k).reverse → R (.ok (.ret res)) { s with heap := h', toks := tk }) →
    codeAny (model pw w) A (.builtin "list.extend.loop" ⟨[.ref S, .ref I, res], []⟩) R s
  | 0, s, acc, c, hk, hi, ht, hz, hn, hS, hR => by
    refine codeAny_builtin F.entry_extend_loop ?_
    rw [Around.under_plainId F.plain_extend_loop _]
    show wpAny _ A.in1 (pyNext (.ref I) >>= _) _ _ s
    refine wpAny_bind (rev_end (t := t) hh (by simpa using hi) fun h' hk' => ?_)
    exact wpAny_pure (hR h' s.toks acc c (fun b o _ hb e => hk' b o hb e) (hk' S _ hSI hS) (by simp))
  | k + 1, s, acc, c, hk, hi, ht, hz, hn, hS, hR => by
    have sl : sizeLine = 2 ^ 24 := rfl
    have hv : items[k]? = some (items[k]'(by omega)) := Array.getElem?_eq_getElem (by omega)
    refine codeAny_builtin F.entry_extend_loop ?_
    rw [Around.under_plainId F.plain_extend_loop _]
    show wpAny _ A.in1 (pyNext (.ref I) >>= _) _ _ s
    refine wpAny_bind (rev_next (i := k) (by rw [show ((k + 1 : Nat) : Int) - 1 = (k : Int) by omega] at hi; exact hi) ht hv (by omega) fun h' tk hs' hi' => ?_)
    have hS' := (hs'.2 S hSI).trans hS
    show wpAny _ A.in1 (updateSeq S (·.push _) >>= _) _ _ _
    refine wpAny_bind ?_
    refine wpAny_updateSeq hS' rfl (wpAny_pure ⟨plainId_quiet F.plain_extend_loop _, rev_loop hh htI hSI hSt k _ (acc.push (items[k]'(by omega))) _ (by omega) ?_ ?_ ?_ hn (Heap.get?_update_self _ hS' rfl) fun h'' tk' acc' c' hk'' hS'' e => ?_⟩) (by omega) (by show (acc.push _).size ≤ sizeLine + 1; rw [Array.size_push]; omega)
    · obtain ⟨o, ho, r⟩ := hi'; exact ⟨o, (Heap.get?_update_other _ _ hSI).trans ho, r⟩
    · obtain ⟨o, ho, r⟩ := ht; exact ⟨o, (Heap.get?_update_other _ _ hSt).trans ((hs'.2 t htI).trans ho), r⟩
    · rw [Array.size_push]; omega
    · refine hR h'' tk' acc' c' (fun b o hb hb' e => hk'' b o hb hb' ((Heap.get?_update_other _ _ (Ne.symm hb)).trans ((hs'.2 b hb').trans e))) hS'' ?_
      have hv' : items.toList[k]? = some (items[k]'(by omega)) := by rw [Array.getElem?_toList]; exact hv
      rw [e, Array.toList_push, List.take_add_one, hv']; simp
theorem rev_extend {R : Result → Shared → Prop} {I S : Addr} {acc : Array Value} {c₀ : Nat} {res : Value} (hh : A.handled = none) (hi : ∃ o, s.heap.get? I = some o ∧ RevO t ((items.size : Int) - 1) o) (ht : s.heap.IsTuple t items) (hz : acc.size + items.size < sizeLine)
    (hS : s.heap.get? S = some { cls := .type "list", dict := none, data := .seq acc c₀, slots := #[] })
    (hR : ∀ h' tk acc' c', (∀ b o, b ≠ S → b ≠ I → s.heap.get? b = some o → h'.get? b = some o) → h'.get? S = some { cls := .type "list", dict := none, data := .seq acc' c', slots := #[] } → acc'.toList = acc.toList ++ items.toList.reverse → R (.ok (.ret res)) { s with heap := h', toks := tk }) :
    wpAny (model pw w) A.in1 (Builtin.List.listExtendWith (.ref S) (.ref I) res)
      (fun fin s' => match fin with | .done f => R (.ok f) s' | .again c' => c'.quiet = true ∧ codeAny (model pw w) A c' R s') (fun e s' => R (.error e) s') s := by
  have hT := typeIs_rev hi
  have hSI : S ≠ I := fun e => by obtain ⟨o, ho, hc, _⟩ := hi; rw [← e, hS] at ho; obtain rfl := Option.some.inj ho; exact absurd hc (by show ¬ (Value.type "list" = Value.type "reversed"); decide)
  have hSt : S ≠ t := fun e => by obtain ⟨o, ho, hc, _⟩ := ht; rw [← e, hS] at ho; obtain rfl := Option.some.inj ho; exact absurd hc (by show ¬ (Value.type "list" = Value.type "tuple"); decide)
  have htI : t ≠ I := fun e => by obtain ⟨o, ho, hc, _⟩ := hi; obtain ⟨o', ho', hc', _⟩ := ht; rw [e, ho] at ho'; obtain rfl := Option.some.inj ho'; rw [hc] at hc'; exact absurd hc' (by decide)
  have key : ∀ (h : Heap) (acc₁ : Array Value) (c₁ tk : Nat), (∀ b o, b ≠ S → s.heap.get? b = some o → h.get? b = some o) → acc₁.toList = acc.toList →
      h.get? S = some { cls := .type "list", dict := none, data := .seq acc₁ c₁, slots := #[] } → codeAny (model pw w) A (.builtin "list.extend.loop" ⟨[.ref S, .ref I, res], []⟩) R { s with heap := h, toks := tk } := fun h acc₁ c₁ tk hk hacc hS₁ => by
    have e : acc₁ = acc := Array.toList_inj.mp hacc
    subst e
    refine rev_loop hh htI hSI hSt items.size _ acc₁ c₁ (Nat.le_refl _) (let ⟨o, ho, r⟩ := hi; ⟨o, hk I o (Ne.symm hSI) ho, r⟩) (let ⟨o, ho, r⟩ := ht; ⟨o, hk t o (Ne.symm hSt) ho, r⟩) (by omega) (by omega) hS₁ fun h' tk' acc' c' hk' hS' e => ?_
    exact hR h' tk' acc' c' (fun b o hb hb' q => hk' b o hb hb' (hk b o hb q)) hS' (by rw [e, List.take_of_length_le (by simp)])
  unfold Builtin.List.listExtendWith
  refine wpAny_bind (wpAny_typeOf hT ?_)
  have h1 : Builtin.List.listSameRef (.ref S) (.ref I) = false := by simp [Builtin.List.listSameRef, hSI]
  have h2 : (Value.type "reversed" == Value.type "list") = false := by decide
  have h3 : (Value.type "reversed" == Value.type "tuple") = false := by decide
  simp only [h1, h2, h3, Bool.or_false, Bool.false_eq_true, if_false]
  refine wpAny_bind (rev_iter hi ?_)
  refine wpAny_bind (wpAny_holding (rev_hint hi ht (by omega) fun rm tk => ?_))
  refine wpAny_ite_split (fun _ => ?_) (fun _ => wpAny_pure ⟨plainId_quiet F.plain_extend_loop _, key _ acc c₀ _ (fun b o _ e => e) rfl hS⟩)
  refine wpAny_bind (wpAny_rule ?_)
  refine wpAny_bind ?_
  show wpAny _ _ (updateSeq S (·.push .none) >>= fun _ => updateSeq S (·.pop)) _ _ _
  refine wpAny_bind (wpAny_updateSeq hS rfl ?_ (by omega) (by rw [Array.size_push]; omega))
  have hS₂ := Heap.get?_update_self (Obj.mapSeq (·.push Value.none)) hS rfl
  refine wpAny_updateSeq (hz := by rw [Array.size_push]; omega) hS₂ rfl ?_ (by rw [Array.size_pop, Array.size_push]; omega)
  have hS₃ := Heap.get?_update_self (Obj.mapSeq (·.pop)) hS₂ rfl
  exact wpAny_pure ⟨plainId_quiet F.plain_extend_loop _, key _ _ _ _ (fun b o hb e => (Heap.get?_update_other _ _ (Ne.symm hb)).trans ((Heap.get?_update_other _ _ (Ne.symm hb)).trans e)) (by simp) hS₃⟩
end
section
variable {Z : Zc} {i : Nat} {x : Act Z i} {b : Kn} {own own' : List Ch} {y : Ch} {r : List Ch} {P : Value → Kn → List Ch → Prop} {t : Addr} {us : List Value}
theorem one_er {vs : List Value} {a : Addr} (h : vs.map er = [.ref a]) : vs = [.ref a] := by
  cases vs with
  | nil => cases h
  | cons v r => cases r with
    | nil => simp at h; rw [er_ref h]
    | cons _ _ => simp at h
noncomputable def RevAt (t : Addr) (n i : Nat) : Obj → Prop := RevO t ((n : Int) - 1 - (i : Int))
theorem revAt0 (t : Addr) (n : Nat) : RevAt t n 0 = RevO t ((n : Int) - 1) := by unfold RevAt; rw [show (n : Int) - 1 - ((0 : Nat) : Int) = (n : Int) - 1 by omega]
theorem Call_rev (ht : Ent Z.h₀ b (y :: r) t (TupO us)) (hz : us.length ≤ sizeLine) (h : ∀ I, P (.ref I) b (y :: Ch.of I (RevAt t us.length 0) :: r)) : Call x (.type "reversed") [.ref t] b (y :: r) P := fun vs hvs => by
  obtain rfl := one_er hvs
  simp only [revAt0] at h
  refine W.alloc (v := .ref) (u := .ref) (φ := fun I => RevO t ((us.length : Int) - 1)) (fun _ => rfl) (fun s Q E ok k => ?_) h
  obtain ⟨arr, hl, e⟩ := at_tuple (ht _ ok)
  have sl : sizeLine = 2 ^ 24 := rfl
  have el := arr_len e
  refine rev_new hl (by omega) fun tk => k _ _ _ tk (fresh_size _) (fun c ob e => Heap.get?_push_of_some _ e) (Heap.get?_push_size _ rfl) ⟨rfl, by rw [el]⟩
theorem Itr_rev {I : Addr} {n : Int} (hp : Ent Z.h₀ b own I (RevO t n)) (h : P (.ref I) b own) : Itr x (.ref I) b own P := fun u hu => by
  obtain rfl := er_ref hu
  intro s Q E ok g k
  exact rev_iter (hp _ ok) (k _ _ b own s.heap s.toks rfl h ok Frm.rfl)
theorem itk_rev {target : Expr} {I : Addr} (hz : us.length ≤ sizeLine) (ht : ∀ it v, letOwnedTupleGo target it v = Pure.pure () := by intro _ _; rfl) :
    ItK x target I (RevAt t us.length) us.length (fun i v => us[us.length - 1 - i]? = some v) (fun b o => Ent Z.h₀ b o t (TupO us)) where
  next := fun i b o s Q E hi hc ok k => by
    obtain ⟨oi, ho, hr⟩ := ok.mine _ (.head _)
    obtain ⟨arr, hl, e⟩ := at_tuple (hc _ (tl_ok ok))
    have sl : sizeLine = 2 ^ 24 := rfl
    have el := arr_len e
    have hu : us[us.length - 1 - i]? = some (us[us.length - 1 - i]'(by omega)) := List.getElem?_eq_getElem (by omega)
    obtain ⟨v, hv, e'⟩ := arr_get e hu
    refine rev_next (t := t) (i := us.length - 1 - i) ⟨oi, ho, by rw [show ((us.length - 1 - i : Nat) : Int) = (us.length : Int) - 1 - i by omega]; exact hr⟩ hl hv (by omega) fun h' tk hs hr' => ?_
    refine k v h' tk (by rw [hu, e']) hs ?_
    obtain ⟨o', ho', hr'⟩ := hr'
    exact ⟨o', ho', by unfold RevAt; rw [show (us.length : Int) - 1 - ((i + 1 : Nat) : Int) = ((us.length - 1 - i : Nat) : Int) - 1 by omega]; exact hr'⟩
  done := fun b o s Q E hc ok k => by
    obtain ⟨oi, ho, hr⟩ := ok.mine _ (.head _)
    refine rev_end x.rm.1 (t := t) ⟨oi, ho, by rw [show (-1 : Int) = (us.length : Int) - 1 - (us.length : Nat) by omega]; exact hr⟩ fun h' hk => k h' s.toks hk
  go := fun i v b o s Q E hv ok k => by rw [ht]; exact wpAny_pure k
theorem ok_put2 {h₀ h h' : Heap} {b : Kn} {o o' : List Ch} {z c c' : Ch} (ok : Ok h₀ b (z :: o) h) (hp : Put c c' o o') (e : c'.addr = c.addr) (hk : ∀ a ob, a ≠ c.addr → a ≠ z.addr → h.get? a = some ob → h'.get? a = some ob) (hx : c'.ok h') :
    Ok h₀ b o' h' ∧ Frm h b (z :: o) h' b o' := by
  have ok₁ := tl_ok ok
  have hb := ok₁.disj c hp.mem
  have hz := ok.disj z (.head _)
  have nd := List.nodup_cons.mp ok.nodup
  have nz : ∀ y ∈ o, y.addr ≠ z.addr := fun y hy q => nd.1 (q ▸ List.mem_map_of_mem hy)
  refine ⟨⟨ok.base, fun a ob q => hk a ob (fun u => by rw [u, hb] at q; cases q) (fun u => by rw [u, hz] at q; cases q) (ok.kn a ob q), fun y hy => ?_, by rw [hp.addrs e]; exact ok₁.nodup, fun y hy => ?_⟩,
    ⟨fun a ob n q => hk a ob (fun u => n (by rw [u]; exact .tail _ (List.mem_map_of_mem hp.mem))) (fun u => n (by rw [u]; exact .head _)) q, Kn.le.rfl, fun _ _ q => .inl q, fun y hy => ?_⟩⟩
  · rcases hp.apart ok₁.nodup e y hy with rfl | ⟨m, n⟩
    · exact hx
    · obtain ⟨ob, hob⟩ := y.live _ (ok₁.mine y m)
      exact y.same _ _ ((hk _ _ n (nz y m) hob).trans hob.symm) (ok₁.mine y m)
  · rcases hp.apart ok₁.nodup e y hy with rfl | ⟨m, n⟩
    · rw [e]; exact hb
    · exact ok₁.disj y m
  · rcases hp.apart ok₁.nodup e y hy with rfl | ⟨m, n⟩
    · exact .inl (.tail _ (e ▸ List.mem_map_of_mem hp.mem))
    · exact .inl (.tail _ (List.mem_map_of_mem m))
theorem Call_list_rev {I : Addr} (hp : Split own [Ch.of I (RevAt t us.length 0)] (y :: r)) (ht : Ent Z.h₀ b (y :: r) t (TupO us)) (hz : us.length < sizeLine) (h : ∀ l, P (.ref l) b (y :: Ch.of l (LstO us.reverse) :: r)) : Call x (.type "list") [.ref I] b own P := fun vs hvs => by
  obtain rfl := one_er hvs
  rw [revAt0] at hp
  refine W.perm hp.perm.symm ?_
  intro s Q E ok g k
  obtain ⟨oi, hoi, hri⟩ := ok.mine _ (.head _)
  obtain ⟨arr, hl, e⟩ := at_tuple (ht _ (tl_ok ok))
  have el := arr_len e
  refine callType_codes (Q₁ := fun obj s₁ => obj = .ref s.heap.objs.size ∧ s₁ = { s with heap := s.heap.push { cls := .type "list", data := .seq #[] } }) F.called_list (F.typeCall_list_1 _) F.entry_list_init
    (code_list_new _ ⟨rfl, rfl⟩) fun obj s₁ h₁ => ?_
  obtain ⟨rfl, rfl⟩ := h₁
  have hS : (s.heap.push { cls := .type "list", data := .seq #[] }).get? s.heap.objs.size = some { cls := .type "list", data := .seq #[] } := Heap.get?_push_size _ rfl
  have hS₂ := Heap.get?_update_self (Obj.mapSeq (fun _ => (#[] : Array Value))) hS rfl
  have n0 := fresh_size s.heap
  have oth : ∀ b o, s.heap.get? b = some o → ((s.heap.push { cls := .type "list", data := .seq #[] }).update s.heap.objs.size (Obj.mapSeq (fun _ => (#[] : Array Value)))).get? b = some o :=
    fun b o e => (Heap.get?_update_other _ _ (fun q => by rw [← q, n0] at e; cases e)).trans (Heap.get?_push_of_some _ e)
  have okn := ok_new (x := Ch.of s.heap.objs.size (LstO [])) ok rfl oth n0 ⟨_, hS₂, #[], _, rfl, rfl⟩
  refine ⟨⟨_, hS, rfl⟩, F.args_list_init_2 _ _, ?_⟩
  show wpAny _ _ (do let old ← Builtin.List.listItems (.ref s.heap.objs.size); Builtin.List.listUpdate (.ref s.heap.objs.size) (fun _ => #[]); letGo old.toList.reverse; Builtin.List.listExtendWith (.ref s.heap.objs.size) (.ref I) .none) _ _ _
  refine wpAny_bind ?_
  unfold Builtin.List.listItems
  refine wpAny_bind (wpAny_seqItems hS rfl (wpAny_pure ?_))
  show wpAny _ _ (updateSeq s.heap.objs.size (fun _ => #[]) >>= fun _ => letGo (#[] : Array Value).toList.reverse >>= fun _ => Builtin.List.listExtendWith (.ref s.heap.objs.size) (.ref I) .none) _ _ _
  refine wpAny_bind (wpAny_updateSeq hS rfl ?_)
  refine wpAny_bind (wpAny_letGo ?_)
  refine rev_extend (A := x.A.in1) (items := arr) x.rm.1 ⟨oi, oth _ _ hoi, by rw [el]; exact hri⟩ (let ⟨o, ho, r⟩ := hl; ⟨o, oth _ _ ho, r⟩) (by rw [el]; simpa using hz) hS₂ fun h' tk acc' c' hk hS' ea => ?_
  obtain ⟨ok₃, f₃⟩ := ok_put2 (c := Ch.of s.heap.objs.size (LstO [])) (c' := Ch.of s.heap.objs.size (LstO us.reverse)) (o' := y :: Ch.of s.heap.objs.size (LstO us.reverse) :: r) (ok_perm (.trans (.refl _) (.cons _ (.swap _ _ _))) okn.1) (.tail .head) rfl hk ⟨_, hS', acc', c', rfl, by rw [ea]; simp [List.map_reverse, e]⟩
  exact ⟨rfl, k _ _ _ _ h' tk rfl (h _) ok₃ (okn.2.trans ⟨fun a ob n q => f₃.keep a ob (fun m => n (by simpa [or_comm, or_assoc, or_left_comm] using m)) q, f₃.kn, fun _ _ q => .inl q, fun z hz => (f₃.U z hz).imp (fun m => by simpa [or_comm, or_assoc, or_left_comm] using m) id⟩)⟩
end
section
variable {Z : Zc} {i : Nat} {x : Act Z i} {b : Kn} {own own' : List Ch} {y : Ch} {r : List Ch}
theorem Asg_pair {n₁ n₂ : Str} {p₁ p₂ pos : Pos} {k : Nat} {t : Addr} {u₁ u₂ : Value} {P : Unit → Kn → List Ch → Prop} (ht : Ent Z.h₀ b own t (TupO [u₁, u₂])) (h : Sto x n₁ u₁ b own fun _ b₁ o₁ => Sto x n₂ u₂ b₁ o₁ P) : Asg x (.Tuple [.Name n₁ p₁, .Name n₂ p₂] k pos) (.ref t) b own P := fun u hu => by
  obtain rfl := er_ref hu
  intro s Q E ok g q
  obtain ⟨arr, hl, e⟩ := at_tuple (ht _ ok)
  obtain ⟨v₁, v₂, ha, e1, e2⟩ : ∃ v₁ v₂, arr.toList = [v₁, v₂] ∧ er v₁ = u₁ ∧ er v₂ = u₂ := by
    obtain ⟨v₁, l₁, a1, e1, q⟩ := List.map_eq_cons_iff.mp e
    obtain ⟨v₂, l₂, rfl, e2, q⟩ := List.map_eq_cons_iff.mp q
    obtain rfl := List.map_eq_nil_iff.mp q
    exact ⟨v₁, v₂, a1, e1, e2⟩
  refine wpAny_assign_Tuple x.rm.1 hl (by rw [← Array.length_toList, ha]; rfl) rfl fun h' hs => ?_
  obtain ⟨ok', f'⟩ := ok_keep (h' := h') ok fun a ob e => hs a ob (fun q => by rw [q, fresh_size] at e; cases e) e
  have g' := x.G.stable _ _ _ _ _ _ _ s.toks g ok ok' f'
  rw [ha]
  show wpAny _ _ (assignInOrder [assign (.Name n₁ p₁) x.env, assign (.Name n₂ p₂) x.env] [v₁, v₂]) _ _ _
  refine wpAny_assignInOrder_more (wpAny_assign_Name ((h v₁ e1).go (s := { s with heap := h' }) ok' g' fun _ _ b₁ o₁ h₁ tk₁ _ h₂ ok₁ g₁ f₁ => ?_))
  refine wpAny_assignInOrder_more (wpAny_assign_Name ((h₂ v₂ e2).go ok₁ g₁ fun _ _ b₂ o₂ h₂ tk₂ _ p ok₂ g₂ f₂ => ?_))
  exact wpAny_assignInOrder_none (q () () b₂ o₂ h₂ tk₂ rfl p ok₂ ((f'.trans f₁).trans f₂))
theorem ForQ_listT {elts : List Expr} {k : Nat} {pos : Pos} {body rest : List Stmt} {P : Flow → Kn → List Ch → Prop} {I c : Addr} {us : List Value} (J : Nat → Kn → List Ch → Prop) (h0 : J 0 b (y :: r)) (hall : ∀ u ∈ us, ∃ t, u = .ref t) (hc : ∀ j b' o', b.le b' → J j b' o' → Src b' o' c (LstO us))
    (turn : ∀ j u b' o', us[j]? = some u → b.le b' → J j b' o' → Asg x.free (.Tuple elts k pos) u b' o' fun _ b₃ o₃ => S x.free body b₃ o₃ fun f b₄ o₄ => match f with
        | .next | .cont => J (j + 1) b₄ o₄
        | .brk => S x rest b₄ o₄ P
        | .ret u => P (.ret u) b₄ o₄)
    (fin : ∀ b' o', b.le b' → J us.length b' o' → S x rest b' o' P) : ForQ x (.Tuple elts k pos) body rest P (.ref I) b (y :: Ch.of I (ListItO c 0) :: r) :=
  ⟨I, _, _, _, _, _, J, rfl, .right (.left (Split.none _)), itk_list (fun i v s Q E hu hI q => by
    obtain ⟨t, e⟩ := hall _ (List.mem_of_getElem? hu)
    obtain rfl := er_ref e
    obtain ⟨o, ho, h1, h2⟩ := hI
    exact wpAny_letOwnedTupleGo_listiter ⟨o, ho, h1, h2⟩ q), h0, fun j b' o' q p => (hc j b' o' q p).ent, fun j u b' o' _ hu => turn j u b' o' hu, fin⟩
end
section
variable {Z : Zc} {i : Nat} {x : Act Z i} {b : Kn} {own own' : List Ch} {y : Ch} {r : List Ch} {P : Value → Kn → List Ch → Prop}
theorem Cmp_isNone {u : Value} (h : P (.bool (u == .none)) b own) (hu : er u = u := by rfl) : Cmp x .Is u .none b own P := fun u' v' hu' hv' => by
  obtain rfl := er_none hv'
  have e : (u' == .none) = (u == .none) := by subst hu'; cases u' <;> rfl
  exact W.look (u := .bool (u == .none)) (v := .bool (u' == .none)) (by rw [e]; rfl) (fun s Q E ok k => is_none (k s.toks)) h
theorem Cmp_isNotNone {u : Value} (h : P (.bool (!(u == .none))) b own) : Cmp x .IsNot u .none b own P := fun u' v' hu' hv' => by
  obtain rfl := er_none hv'
  have e : (u' == .none) = (u == .none) := by subst hu'; cases u' <;> rfl
  exact W.look (u := .bool (!(u == .none))) (v := .bool (!(u' == .none))) (by rw [e]; rfl) (fun s Q E ok k => isNot_none (k s.toks)) h
theorem Cmp_neS {u v : Str} (h : P (.bool (u != v)) b own) : Cmp x .NotEq (vS u) (vS v) b own P := fun u' v' hu hv => by
  obtain ⟨t, rfl⟩ := er_str hu
  obtain ⟨t', rfl⟩ := er_str hv
  exact W.look rfl (fun s Q E ok k => PyProof.Rows.ne_str (k s.toks)) h
theorem Cmp_eqI {u v : Int} (h : P (.bool (u == v)) b own) : Cmp x .Eq (vI u) (vI v) b own P := fun u' v' hu hv => by
  obtain ⟨t, rfl⟩ := er_int hu
  obtain ⟨t', rfl⟩ := er_int hv
  exact W.look rfl (fun s Q E ok k => PySem.P.eq_int (k s.toks)) h
theorem Cmp_neI {u v : Int} (h : P (.bool (u != v)) b own) : Cmp x .NotEq (vI u) (vI v) b own P := fun u' v' hu hv => by
  obtain ⟨t, rfl⟩ := er_int hu
  obtain ⟨t', rfl⟩ := er_int hv
  exact W.look rfl (fun s Q E ok k => PySem.P.ne_int (k s.toks)) h
theorem Cmp_eqB {u v : Bool} (h : P (.bool (u == v)) b own) : Cmp x .Eq (.bool u) (.bool v) b own P := fun u' v' hu hv => by
  obtain rfl := er_bool hu
  obtain rfl := er_bool hv
  exact W.look rfl (fun s Q E ok k => PyProof.Rows.eq_bool (k s.toks)) h
theorem Una_negI {u : Int} (h : P (vI (-u)) b own) : Una x .USub (vI u) b own P := fun u' hu => by
  obtain ⟨t, rfl⟩ := er_int hu
  exact W.lookP (fun s Q E ok k => PySem.P.neg_int (k _ _ rfl)) h
theorem Bin_subI {u v : Int} (h : P (vI (u - v)) b own) : Bin x .Sub (vI u) (vI v) b own P := fun u' v' hu hv => by
  obtain ⟨t, rfl⟩ := er_int hu
  obtain ⟨t', rfl⟩ := er_int hv
  exact W.lookP (fun s Q E ok k => PySem.P.sub_int (k _ _ rfl)) h
theorem Bin_mulI {u v : Int} (hm : IntMulOk u v) (h : P (vI (u * v)) b own) : Bin x .Mult (vI u) (vI v) b own P := fun u' v' hu hv => by
  obtain ⟨t, rfl⟩ := er_int hu
  obtain ⟨t', rfl⟩ := er_int hv
  exact W.lookP (fun s Q E ok k => PySem.P.mul_int (k _ _ rfl) hm) h
theorem Bin_modI {u v : Int} (hv0 : v ≠ 0) (h : P (vI (u.fmod v)) b own) : Bin x .Mod (vI u) (vI v) b own P := fun u' v' hu hv => by
  obtain ⟨t, rfl⟩ := er_int hu
  obtain ⟨t', rfl⟩ := er_int hv
  exact W.lookP (fun s Q E ok k => PyProof.Rows.mod_int hv0 (k _ _ rfl)) h
theorem Bin_addS {u v : Str} (hz : u.length + v.length ≤ sizeLine) (h : P (vS (u ++ v)) b own) : Bin x .Add (vS u) (vS v) b own P := fun u' v' hu hv => by
  obtain ⟨t, rfl⟩ := er_str hu
  obtain ⟨t', rfl⟩ := er_str hv
  exact W.lookP (fun s Q E ok k => PyProof.Rows.add_str (fun t' tk => k _ _ rfl) hz) h
theorem one_val {vs : List Value} {u : Value} (h : vs.map er = [u]) : ∃ v, vs = [v] ∧ er v = u := by
  obtain ⟨v, l, rfl, e, h⟩ := List.map_eq_cons_iff.mp h
  obtain rfl := List.map_eq_nil_iff.mp h
  exact ⟨v, rfl, e⟩
theorem two_val {vs : List Value} {u₁ u₂ : Value} (h : vs.map er = [u₁, u₂]) : ∃ v₁ v₂, vs = [v₁, v₂] ∧ er v₁ = u₁ ∧ er v₂ = u₂ := by
  obtain ⟨v₁, l, rfl, e, h⟩ := List.map_eq_cons_iff.mp h
  obtain ⟨v₂, rfl, e'⟩ := one_val h
  exact ⟨v₁, v₂, rfl, e, e'⟩
theorem Call_abs {a : Int} (h : P (vI (if a < 0 then -a else a)) b own) : Call x (.builtin "abs") [vI a] b own P := fun vs hvs => by
  obtain ⟨v, rfl, hv⟩ := one_val hvs
  obtain ⟨t, rfl⟩ := er_int hv
  exact W.lookP (fun s Q E ok k => PyProof.Rows.call_abs_int fun u tk => k _ _ rfl) h
theorem Call_isintI {a : Int} (h : P (.bool true) b own) : Call x (.builtin "isinstance") [vI a, .type "int"] b own P := fun vs hvs => by
  obtain ⟨v, v₂, rfl, hv, hv₂⟩ := two_val hvs
  obtain ⟨t, rfl⟩ := er_int hv
  obtain rfl := er_type hv₂
  exact W.look rfl (fun s Q E ok k => PySem.IsiPair.int_int (k s.toks)) h
theorem Call_isintT {a : Addr} {us : List Value} (ha : Ent Z.h₀ b own a (TupO us)) (h : P (.bool false) b own) : Call x (.builtin "isinstance") [.ref a, .type "int"] b own P := fun vs hvs => by
  obtain ⟨v, v₂, rfl, hv, hv₂⟩ := two_val hvs
  obtain rfl := er_ref hv
  obtain rfl := er_type hv₂
  exact W.look (u := .bool false) (v := .bool false) rfl (fun s Q E ok k => by
    obtain ⟨o, ho, hc, _⟩ := ha _ ok
    exact PySem.IsiPair.tuple_int ho hc (k _)) h
theorem Call_str {a : Int} (ha : a.natAbs.log2 < 1920) (h : P (vS (Str.ofString (toString a))) b own) : Call x (.type "str") [vI a] b own P := fun vs hvs => by
  obtain ⟨v, rfl, hv⟩ := one_val hvs
  obtain ⟨t, rfl⟩ := er_int hv
  exact W.lookP (fun s Q E ok k => PySem.P.str_of_int ha (k _ _ rfl)) h
theorem Call_tuple {l : Addr} {us : List Value} (hl : Ent Z.h₀ b own l (LstO us)) (hz : us.length ≤ sizeLine) (h : ∀ t b', b.le b' → At b' t (TupO us) → P (.ref t) b' own) : Call x (.type "tuple") [.ref l] b own P := fun vs hvs => by
  obtain ⟨v, rfl, hv⟩ := one_val hvs
  obtain rfl := er_ref hv
  refine W.know (v := .ref) (u := .ref) (φ := fun _ => TupO us) (fun _ => rfl) (fun s Q E ok k => ?_) h
  obtain ⟨arr, hl', _, e⟩ := at_list (hl _ ok)
  refine call_tuple_list hl' (fun h' hk => ?_) (by rw [arr_len e]; exact hz)
  refine k h'.objs.size _ _ s.toks ?_ (fun c ob q => Heap.get?_push_of_some _ (hk c ob q)) (Heap.get?_push_size _ rfl) ⟨rfl, arr, 0, rfl, e⟩
  refine Option.eq_none_iff_forall_not_mem.mpr fun ob q => ?_
  have := hk _ ob q
  rw [fresh_size] at this; cases this
end
structure LimExc (C : Addr) (h h' : Heap) (e : Addr) : Prop where
  keeps : ∀ b o, h.get? b = some o → h'.get? b = some o
  new : h.get? e = none
  there : ∃ t d vs, h'.get? e = some { cls := .ref C, dict := d, data := .fields #[.ref t, .none, .none, .none, .bool false, .none], slots := vs } ∧ h.get? t = none
noncomputable def GL (Z : Zc) (A : Around) (env : Env) (Lm : Prop) : Guard Z.h₀ where
  p := fun s b own E => PassesOwn (model pw Z.w) A env E ∧ (Lm → ∀ b₁ own₁ h₁ L l, Ok Z.h₀ b₁ own₁ h₁ → Frm s.heap b own h₁ b₁ own₁ → env.frame = some L → Ch.loc L l ∈ own₁ → ∀ h' e tk, LimExc Z.C h₁ h' e → E (.ref e) { s with heap := h', toks := tk })
  stable := fun s b own E h' b' own' tk ⟨p, q⟩ ok ok' f => ⟨p, fun lm b₁ own₁ h₁ L l ok₁ f₁ hL hm h'' e tk'' hl => q lm b₁ own₁ h₁ L l ok₁ (f.trans f₁) hL hm h'' e tk'' hl⟩
section
variable {Z : Zc} {i : Nat} {x : Act Z i} {b : Kn} {own : List Ch} {rest : List Stmt} {P : Flow → Kn → List Ch → Prop}
theorem S_asgT {elts : List Expr} {k : Nat} {tpos pos : Pos} {value : Expr} (h : E x value b own fun v b₁ o₁ => Asg x (.Tuple elts k tpos) v b₁ o₁ fun _ b₂ o₂ => S x rest b₂ o₂ P)
    (hs : swapsWithSole [.Tuple elts k tpos] value pos.line x.env = Pure.pure false := by rfl) (hw : swappedStores [.Tuple elts k tpos] value x.env = Pure.pure none := by rfl) : S x (.Assign [.Tuple elts k tpos] value pos :: rest) b own P :=
  S_cons (W.part (fun _ _ _ q => PyProof.Rows.Assign_Tuple q hs hw) (h.mono fun v b₁ o₁ p v' hv s Q E ok g k => (p v' hv).go ok g fun _ _ b' o' h' tk _ p ok' _ f' => k _ _ _ _ h' tk rfl p ok' f'))
end
section
variable {w : World} {A : Around} {E : Value → Shared → Prop} {s : Shared} {d : Addr}
theorem sorted_dict {K : Type} [DecidableEq K] {knd : PySem.KeyKind pw w K} {kvs : List (K × Value)} {ep : Nat} {Q : Value → Shared → Prop} (hh : A.handled = none) (lo : (d == sysModules) = false) (hd : s.heap.DictAt knd d kvs ep) (hn : kvs.length ≤ sizeLine)
    (h : ∀ h' tk (vs : List Value), (∀ b o, s.heap.get? b = some o → h'.get? b = some o) → vs.length = kvs.length → (∀ (j : Nat) (v : Value), vs[j]? = some v → ∃ k, (kvs.map (·.1))[j]? = some k ∧ knd.is k v = true) → ∀ a, s.heap.get? a = none → h'.get? a = some (seqObj "list" vs.toArray 0) →
      wpAny (model pw w) A.in1.in1 (Builtin.«list.sort» ⟨[.ref a], []⟩) (fun fin s' => ∃ v, fin = .done (.ret v) ∧ Q (.ref a) s') E { s with heap := h', toks := tk }) :
    wpAny (model pw w) A (call (.builtin "sorted") [.ref d]) Q E s := by
  refine call_function_entry kind_sorted plain_sorted entry_sorted (args_sorted1 _) ?_
  unfold Builtin.«sorted»
  refine wpAny_bind (m := checkCount "sorted" 1 1 _) (wpAny_pure ?_)
  refine wpAny_bind (kdu_collect (A := A.in1) (kdl_dict (knd := knd) (kvs := kvs) (ep := ep) lo) hh hd hn fun h' tk acc hk hacc => ?_)
  have hl : acc.toList.length = kvs.length := by rw [Array.length_toList]; exact hacc.1
  refine wpAny_bind (wpAny_newList ?_ (by rw [hl]; exact hn))
  have none_ : s.heap.get? h'.objs.size = none := Option.eq_none_iff_forall_not_mem.mpr fun ob q => by have := hk _ ob q; rw [fresh_size] at this; cases this
  have hg := h (h'.push (seqObj "list" acc.toList.toArray 0)) tk acc.toList (fun b o q => Heap.get?_push_of_some _ (hk b o q)) hl (fun j v e => by
    obtain ⟨k, y, hy, hk⟩ := hacc.2 j v (by rw [← Array.getElem?_toList]; exact e)
    exact ⟨k, by rw [List.getElem?_map, hy]; rfl, hk⟩) h'.objs.size none_ (Heap.get?_push_size _ rfl)
  refine wpAny_bind (wpAny_holding (wpAny_call_entry slot_list_sort ⟨_, Heap.get?_push_size _ rfl, rfl⟩ entry_list_sort (wpAny_mono hg (fun fin s' x => ?_) fun _ _ e => e) (args_list_sort _)))
  obtain ⟨v, hv, x⟩ := x
  exact ⟨v, hv, wpAny_pure ⟨_, rfl, x⟩⟩
theorem strsAre_of {vs : List Value} {ss : List Str} (hl : vs.length = ss.length) (h : ∀ (j : Nat) (v : Value), vs[j]? = some v → ∃ k, ss[j]? = some k ∧ Value.isStrOf k v = true) : StrsAre vs ss := by
  induction vs generalizing ss with
  | nil => cases ss with | nil => exact .nil | cons _ _ => cases hl
  | cons v vs ih =>
    cases ss with
    | nil => cases hl
    | cons k ss =>
      obtain ⟨k', hk', hs⟩ := h 0 v rfl
      simp at hk'; subst hk'
      obtain ⟨t, rfl⟩ := Value.isStrOf_shape hs
      exact .cons k t (ih (by simpa using hl) fun j v hv => by simpa using h (j + 1) v (by simpa using hv))
theorem intsAre_of {vs : List Value} {ns : List Int} (hl : vs.length = ns.length) (h : ∀ (j : Nat) (v : Value), vs[j]? = some v → ∃ k, ns[j]? = some k ∧ (intKind pw w).is k v = true) : IntsAre vs ns := by
  induction vs generalizing ns with
  | nil => cases ns with | nil => exact .nil | cons _ _ => cases hl
  | cons v vs ih =>
    cases ns with
    | nil => cases hl
    | cons k ns =>
      obtain ⟨k', hk', hs⟩ := h 0 v rfl
      simp at hk'; subst hk'
      have ih' := ih (by simpa using hl) fun j v hv => by simpa using h (j + 1) v (by simpa using hv)
      cases v <;> simp [intKind, Value.isInt] at hs
      subst hs
      exact .cons _ _ ih'
end
section
variable {Z : Zc} {i : Nat} {x : Act Z i} {b : Kn} {own : List Ch} {y : Ch} {r : List Ch} {P : Value → Kn → List Ch → Prop} {d : Addr}
theorem er_ints {vs : List Value} {ns : List Int} (h : IntsAre vs ns) : vs.map er = ns.map vI := by
  induction h with
  | nil => rfl
  | cons n t _ ih => simp [ih, er]
theorem Call_sortedS {kvs : List (Str × Value)} (hd : Ent Z.h₀ b (y :: r) d (DicO (strKind pw Z.w) d kvs)) (hz : kvs.length < 60) (h : ∀ l, P (.ref l) b (y :: r)) : Call x (.builtin "sorted") [.ref d] b (y :: r) P := fun vs hvs => by
  obtain ⟨v, rfl, hv⟩ := one_val hvs
  obtain rfl := er_ref hv
  intro s Q E ok g k
  obtain ⟨h1, kvs', h2, e⟩ := dict_of (hd _ ok)
  obtain ⟨ep, hat⟩ := h2.dictAt
  have el : kvs'.length = kvs.length := by rw [← e, List.length_map]
  have sl : sizeLine = 2 ^ 24 := rfl
  refine sorted_dict x.rm.1 h1 hat (by omega) fun h' tk vs hk hl hv a ha ho => ?_
  have hS := strsAre_of (ss := kvs'.map (·.1)) (by rw [hl, List.length_map]) hv
  refine list_sort_treeK strKind_oneLt ho hS.keysOf (fun v₁ v₂ rest e => keyKind_strs (by rw [← e]; exact hS)) (by omega) fun st' _ _ => ⟨_, rfl, ?_⟩
  obtain ⟨ok', f'⟩ := ok_keep (h' := sortedHeap h' a vs ((arrOf st').map (·.2))) ok fun b o q => (sortedHeap_old (fun e => by rw [e, ha] at q; cases q) (Heap.lt_size (hk b o q))).trans (hk b o q)
  exact k _ _ b _ _ tk rfl (h a) ok' f'
theorem Call_sortedI {kvs : List (Int × Value)} (hd : Ent Z.h₀ b (y :: r) d (DicO (intKind pw Z.w) d kvs)) (hz : kvs.length < 64) (h : ∀ l (ns : List Int), ns.Perm (kvs.map (·.1)) → ns.Pairwise (· ≤ ·) → P (.ref l) b (y :: Ch.of l (LstO (ns.map vI)) :: r)) : Call x (.builtin "sorted") [.ref d] b (y :: r) P := fun vs hvs => by
  obtain ⟨v, rfl, hv⟩ := one_val hvs
  obtain rfl := er_ref hv
  intro s Q E ok g k
  obtain ⟨h1, kvs', h2, e⟩ := dict_of (hd _ ok)
  obtain ⟨ep, hat⟩ := h2.dictAt
  have ek : kvs.map (·.1) = kvs'.map (·.1) := by rw [← e, List.map_map]; rfl
  have el : kvs'.length = kvs.length := by rw [← e, List.length_map]
  have sl : sizeLine = 2 ^ 24 := rfl
  refine sorted_dict x.rm.1 h1 hat (by omega) fun h' tk vs hk hl hv a ha ho => ?_
  have hI := intsAre_of (ns := kvs'.map (·.1)) (by rw [hl, List.length_map]) hv
  refine list_sort_tree ho hI (by omega) fun out ns' a1 a2 a3 => ⟨_, rfl, ?_⟩
  obtain ⟨ce, hat'⟩ := sortedHeap_at (vs := vs) (out := out) ho
  obtain ⟨ok', f'⟩ := ok_new (x := Ch.of a (LstO (ns'.map vI))) (h' := sortedHeap h' a vs out) ok rfl (fun b o q => (sortedHeap_old (fun e => by rw [e, ha] at q; cases q) (Heap.lt_size (hk b o q))).trans (hk b o q)) ha ⟨_, hat', out, ce, rfl, er_ints a1⟩
  exact k _ _ b _ _ tk rfl (h a ns' (by rw [ek]; exact a2) a3) ok' f'
end
theorem Ok.sub {h₀ h : Heap} {b : Kn} {o o' : List Ch} (ok : Ok h₀ b o h) (hs : List.Sublist o' o) : Ok h₀ b o' h := ⟨ok.base, ok.kn, fun x hx => ok.mine x (hs.subset hx), (hs.map _).nodup ok.nodup, fun x hx => ok.disj x (hs.subset hx)⟩
section
variable {b : Kn}
theorem ok_putk {h₀ h h' : Heap} {b : Kn} {o o' : List Ch} {c c' : Ch} (ok : Ok h₀ b o h) (hp : Put c c' o o') (e : c'.addr = c.addr) (hk : ∀ a ob, a ≠ c.addr → h.get? a = some ob → h'.get? a = some ob) (hx : c'.ok h') : Ok h₀ b o' h' ∧ Frm h b o h' b o' := by
  have hb := ok.disj c hp.mem
  refine ⟨⟨ok.base, fun a ob q => hk a ob (fun u => by rw [u, hb] at q; cases q) (ok.kn a ob q), fun y hy => ?_, by rw [hp.addrs e]; exact ok.nodup, fun y hy => ?_⟩,
    ⟨fun a ob n q => hk a ob (fun u => n (u ▸ List.mem_map_of_mem hp.mem)) q, Kn.le.rfl, fun _ _ q => .inl q, fun y hy => ?_⟩⟩
  · rcases hp.apart ok.nodup e y hy with rfl | ⟨m, n⟩
    · exact hx
    · obtain ⟨ob, hob⟩ := y.live _ (ok.mine y m)
      exact y.same _ _ ((hk _ _ n hob).trans hob.symm) (ok.mine y m)
  · rcases hp.apart ok.nodup e y hy with rfl | ⟨m, n⟩
    · rw [e]; exact hb
    · exact ok.disj y m
  · rcases hp.apart ok.nodup e y hy with rfl | ⟨m, n⟩
    · exact .inl (e ▸ List.mem_map_of_mem hp.mem)
    · exact .inl (List.mem_map_of_mem m)
theorem ok_news {h₀ h h' : Heap} {b : Kn} {own ns : List Ch} (ok : Ok h₀ b own h) (hk : ∀ a ob, h.get? a = some ob → h'.get? a = some ob) (hn : ∀ z ∈ ns, h.get? z.addr = none) (nd : (ns.map Ch.addr).Nodup) (hx : ∀ z ∈ ns, z.ok h') :
    Ok h₀ b (ns ++ own) h' ∧ Frm h b own h' b (ns ++ own) := by
  obtain ⟨q, f⟩ := ok_keep ok hk
  refine ⟨⟨q.base, q.kn, fun z hz => (List.mem_append.mp hz).elim (hx z) (q.mine z), ?_, fun z hz => ?_⟩, ⟨f.keep, Kn.le.rfl, fun _ _ e => .inl e, fun z hz => ?_⟩⟩
  · rw [List.map_append]
    refine List.nodup_append.mpr ⟨nd, q.nodup, fun a ha c hc e => ?_⟩
    subst e
    obtain ⟨z, hz, rfl⟩ := List.mem_map.mp ha
    obtain ⟨y, hy, e⟩ := List.mem_map.mp hc
    obtain ⟨ob, hob⟩ := y.live _ (ok.mine y hy)
    rw [e, hn z hz] at hob; cases hob
  · rcases List.mem_append.mp hz with hz | hz
    · cases e : b z.addr with
      | none => rfl
      | some ob => have := ok.kn _ _ e; rw [hn z hz] at this; cases this
    · exact q.disj z hz
  · rcases List.mem_append.mp hz with hz | hz
    · exact .inr (hn z hz)
    · exact .inl (List.mem_map_of_mem hz)
end
noncomputable def ExO (C t : Addr) (o : Obj) : Prop := ∃ d vs, o = { cls := .ref C, dict := d, data := .fields #[.ref t, .none, .none, .none, .bool false, .none], slots := vs }
section
variable {w : World} {A : Around} {E : Value → Shared → Prop} {s : Shared} {K : Frag}
variable {nm q : Str} {C N Y : Addr} {bs : List Value} {sn : List Str} {sub : List Value} {ab : Bool} {col : Option Bool} {dd : Option Addr} {k0 k1 k2 k3 k5 : Option Value} {newId : String}
theorem setAttr_exc {x t : Addr} {name : Str} {v : Value} {Q : Unit → Shared → Prop} (X : K.In s.heap) (hC : s.heap.get? C = some (excClassObj nm q C N bs (.ref Y :: excM) true sn sub ab col dd k0 k1 k2 k3 k5 newId))
    (hs : findIn K (.ref C) "__setattr__" = some (some (.builtin "object.__setattr__"))) (ht : findIn K (.ref C) name = some none) (hx : s.heap.get? x = some { cls := .ref C, data := .fields #[.ref t, .none, .none, .none, .bool false, .none] })
    (h : ∀ h' tk, (∀ b o, b ≠ x → s.heap.get? b = some o → h'.get? b = some o) → (∃ o, h'.get? x = some o ∧ ExO C t o) → Q () { s with heap := h', toks := tk }) : wpAny (model pw w) A (setAttr (.ref x) name v) Q E s := by
  obtain ⟨hp, g, d, tk, os⟩ := s
  dsimp only at X hC hx h
  have SF := PySem.F.store_Exception
  have I : InstAt hp x { cls := .ref C, data := .fields #[.ref t, .none, .none, .none, .bool false, .none] } C none := ⟨hx, rfl, rfl, trivial⟩
  refine set_plain X I hs ?_
  have Lm : Looks (model pw w) hp (mroOf (.ref C)) (.ref C :: .ref Y :: excM) := fun A Q E s k q => by
    obtain ⟨hp', g', d', t', os'⟩ := s
    exact wpAny_mroOf_exc (k _ _ hC) q
  have Ls : Looks (model pw w) hp (isInstance (.ref x) (.type "object")) true := I.type.andThen fun A Q E s k q => by
    obtain ⟨hp', g', d', t', os'⟩ := s
    refine wpAny_isSubtype_exc (k _ _ hC) ?_
    rw [show (Value.ref C :: .ref Y :: excM).contains (.type "object") = true from by simp [excM]]; exact q
  have Lc : Looks (model pw w) hp (classData C) _ := fun A Q E s k q => wpAny_bind (wpAny_load (k _ _ hC) (wpAny_pure q))
  refine codeAny_call_builtin SF.slot.plain SF.entry (@check_slot (model pw w) _ _ _ "object.__setattr__" "object" "__setattr__" (.ref x) _ [] _ SF.kind SF.split Ls (SF.args (.ref x) _ v) ?_)
  rw [osa_eq, refuse_eq]
  refine wpAny_bind (wpAny_bind (I.type.here (wpAny_bind (Lm.here ?_))))
  rw [refuseLoop_ref, refuseLoop_ref, SF.passes]
  refine wpAny_pure (wpAny_bind (I.type.here (wpAny_bind ((looks_findIn X ht).here (wpAny_bind (wpAny_pure ?_))))))
  refine wpAny_bind (wpAny_pure (wpAny_bind (wpAny_bind (wpAny_loadPart hx (wpAny_bind (Lc.here ?_))))))
  dsimp only
  have hxs : x ≠ hp.objs.size := Nat.ne_of_lt (Heap.lt_size hx)
  have hx₁ := Heap.get?_push_of_some { cls := .type "dict", data := .dict #[] } hx
  refine wpAny_bind (wpAny_alloc' (wpAny_bind (wpAny_update' hx₁ (wpAny_pure ?_))))
  have hgd : ((hp.push { cls := .type "dict", data := .dict #[] }).update x fun o => { cls := o.cls, dict := some hp.objs.size, data := o.data, slots := o.slots }).get? hp.objs.size = some { cls := .type "dict", data := .dict #[] } :=
    (Heap.get?_update_ne _ _ _ _ hxs.symm).trans (Heap.get?_push_at rfl rfl)
  have hnd : ((hp.push { cls := .type "dict", data := .dict #[] }).update x fun o => { cls := o.cls, dict := some hp.objs.size, data := o.data, slots := o.slots }).Ns hp.objs.size (fun _ => none) :=
    ⟨_, #[], _, hgd, rfl, fun e he => absurd he (by simp), fun _ => rfl⟩
  refine wpAny_bind (wpAny_pure (wpAny_bind (wpAny_nsSet1 (Heap.Ns1.of_empty hnd) fun h' hn' hs' => ?_)))
  obtain ⟨oD, esD, epD, hoD, hdD, hcD⟩ := hn'.count (Within.cons name v Within.nil)
  refine wpAny_bind (wpAny_lookBehind hoD (by rw [hdD]; exact pastItsLine_dict (Nat.le_trans hcD (by rw [List.length_cons, List.length_nil, sizeLine_eq]; omega))) (wpAny_pure ?_))
  refine h h' _ (fun b o hb e => (hs'.2 b (Nat.ne_of_lt (Heap.lt_size e))).trans ((Heap.get?_update_ne _ _ _ _ hb).trans (Heap.get?_push_of_some _ e))) ⟨_, (hs'.2 x hxs).trans (Heap.get?_update_self _ hx₁ rfl), _, _, rfl⟩
end
section
variable {w : World} {A : Around} {E : Value → Shared → Prop} {h : Heap} {g : Array GenState} {d : Drawn} {t : Nat} {os : OsState}
variable {nm q : Str} {C N Y : Addr} {bs : List Value} {sn : List Str} {sub : List Value} {ab : Bool} {col : Option Bool} {dd : Option Addr} {k0 k1 k2 k3 k5 : Option Value}
theorem type_call_own {mN : Str → Option Value} {rest : List Value} {fI : Addr} {oI : Obj} {Q : Fin → Shared → Prop} (T : OwnTail h excM (.ref Y :: excM))
    (hC : h.get? C = some (excClassObj nm q C N bs (.ref Y :: excM) true sn sub ab col dd k0 k1 k2 k3 k5 "Exception.__new__")) (hn : h.Ns N mN) (hi : mN "__init__" = some (.ref fI))
    (hfI : h.get? fI = some oI) (hfc : oI.cls = .type "function")
    (hq : ∀ h' e, Heap.MadeExcOf h h' e (.ref C) rest →
      wpAny (model pw w) A (call (.ref fI) (.ref e :: rest)) (fun r s' => r = .none ∧ Q (.done (.ret (.ref e))) s') E ⟨h', g, d, t, os⟩) (hrest : rest.length ≤ sizeLine) :
    wpAny (model pw w) A (Builtin.«type.__call__» ⟨.ref C :: rest, []⟩) Q E ⟨h, g, d, t, os⟩ := by
  have F := PySem.F.excBase_Exception
  repeat (first | with_reducible refine wpAny_loadPart_at hC ?_ | with_reducible refine wpAny_madeBy_exc hC ?_ | wp_step)
  refine codeAny_call_builtin_code (Code.quiet_builtin _ F.quiet) (wpAny_check_new_subU F F.hasB T hC ?_)
  refine codeAny_exc_new_subU F F.hasB F T hC ?_ hrest
  show wpAny _ _ _ _ _ _
  have up : ∀ {a o}, h.get? a = some o → ((h.push { cls := .type "tuple", data := .seq rest.toArray }).push { cls := .ref C, data := .fields #[.ref h.objs.size, .none, .none, .none, .bool false, .none] }).get? a = some o := fun e => Heap.get?_push_of_some _ (Heap.get?_push_of_some _ e)
  have hC₁ := up hC
  have hn₁ := hn.keeps (h' := (h.push { cls := .type "tuple", data := .seq rest.toArray }).push { cls := .ref C, data := .fields #[.ref h.objs.size, .none, .none, .none, .bool false, .none] }) fun _ _ e => up e
  have hget : ((h.push { cls := .type "tuple", data := .seq rest.toArray }).push
      { cls := .ref C, data := .fields #[.ref h.objs.size, .none, .none, .none, .bool false, .none] }).get? (h.objs.size + 1) = some
      { cls := .ref C, data := .fields #[.ref h.objs.size, .none, .none, .none, .bool false, .none] } := by heap_get
  have hcC : (Value.ref C :: .ref Y :: excM).contains (.ref C) = true := by simp
  have T₁ := T.keeps fun _ _ e => up e
  unfold isInstance
  repeat (first | with_reducible refine wpAny_loadPart_at hget ?_ | (with_reducible refine wpAny_isSubtype_exc hC₁ ?_; rw [hcC]) | wp_step)
  show wpAny _ _ (typeLookup (.ref C) _) _ _ _
  refine wpAny_typeLookup_tail hC₁ hn₁ T₁ F.mroIs F.init.lookup ?_
  rw [hi]
  refine wpAny_holding (wpAny_bind ?_)
  unfold bindSpecial
  refine wpAny_bind (wpAny_typeOf (T := "function") ⟨_, up hfI, hfc⟩ ?_)
  rw [if_pos (by decide)]
  refine wpAny_pure (wpAny_bind (wpAny_mono (hq _ (h.objs.size + 1) ⟨fun b o hb => up hb, Heap.get?_none_of_le (Nat.le_succ _), h.objs.size, hget, Heap.get?_none_of_le (Nat.le_refl _), ?_⟩) (fun r s' hr => ?_) fun _ _ x => x))
  · exact Heap.get?_push_of_some _ (Heap.get?_push_at rfl rfl)
  · obtain ⟨rfl, hQ⟩ := hr
    wp_walk
    exact hQ
theorem call_exc_own {mN : Str → Option Value} {rest : List Value} {fI : Addr} {oI : Obj} {Q : Value → Shared → Prop} (T : OwnTail h excM (.ref Y :: excM))
    (hC : h.get? C = some (excClassObj nm q C N bs (.ref Y :: excM) true sn sub ab col dd k0 k1 k2 k3 k5 "Exception.__new__")) (hn : h.Ns N mN) (hi : mN "__init__" = some (.ref fI))
    (hfI : h.get? fI = some oI) (hfc : oI.cls = .type "function")
    (hq : ∀ h' e, Heap.MadeExcOf h h' e (.ref C) rest →
      wpAny (model pw w) (A.under (.builtin "type.__call__" ⟨.ref C :: rest, []⟩)) (call (.ref fI) (.ref e :: rest)) (fun r s' => r = .none ∧ Q (.ref e) s') E ⟨h', g, d, t, os⟩) (hrest : rest.length ≤ sizeLine) :
    wpAny (model pw w) A (call (.ref C) rest) Q E ⟨h, g, d, t, os⟩ := by
  have f1 := tc_lookup
  have f2 := tc_bind (.ref C)
  have hT : (⟨h, g, d, t, os⟩ : Shared).TypeIs (.ref C) "type" := ⟨_, hC, rfl⟩
  refine wpAny_call (codeAny_of_tree ?_)
  show wpAny _ _ (callAny (.ref C) _) _ _ _
  repeat (any_goals (first | assumption | with_reducible refine wpAny_loadPart_at hC ?_ | wp_step))
  refine ⟨rfl, ?_⟩
  exact codeAny_call_builtin_at (Code.quiet_builtin _ (by decide +kernel)) entry_typeCall (wpAny_check_type_call_sub hC (type_call_own T hC hn hi hfI hfc (fun h' e hm => hq h' e hm) hrest))
theorem raise_exc {s : Shared} {env : Env} {x : Sem Value} {Q : Flow → Shared → Prop} (hh : A.handled = none)
    (h : wpAny (model pw w) A x (fun v s₁ => ∃ e t, v = .ref e ∧ s₁.heap.get? C = some (excClassObj nm q C N bs (.ref Y :: excM) true sn sub ab col dd k0 k1 k2 k3 k5 "Exception.__new__") ∧
      (∃ o, s₁.heap.get? e = some o ∧ ExO C t o) ∧ E (.ref e) s₁) E s) :
    wpAny (model pw w) A (raiseStmt env (some x) none) Q E s := by
  have hcB : (Value.ref C :: .ref Y :: excM).contains (.type "BaseException") = true := by simp [excM]
  unfold raiseStmt
  refine wpAny_bind (wpAny_mono h (fun v s₁ h₁ => ?_) fun _ _ x => x)
  obtain ⟨e, t, rfl, hC, ⟨o, he, dx, vs, rfl⟩, hE⟩ := h₁
  obtain ⟨hp, g, d, tk, os⟩ := s₁
  repeat (first | with_reducible refine wpAny_loadPart_at he ?_ | with_reducible refine wpAny_loadPart_at hC ?_ | (with_reducible refine wpAny_isSubtype_exc hC ?_; rw [hcB]) | wp_step)
  exact wpAny_raiseNew_none hh hE
end
section
variable {Z : Zc} {b : Kn} {own : List Ch}
theorem SetA_exc {i : Nat} {x : Act Z i} {e t : Addr} {u : Value} {own' : List Ch} {P : Unit → Kn → List Ch → Prop} (hp : Put (Ch.of e fun o => o = { cls := .ref Z.C, data := .fields #[.ref t, .none, .none, .none, .bool false, .none] }) (Ch.of e (ExO Z.C t)) own own') (h : P () b own') : SetA x (.ref e) (Str.ofString "what") u b own P := fun o' u' ho hu => by
  obtain rfl := er_ref ho
  intro s Q E ok g k
  obtain ⟨nm, q, N, bs, Y, sn, sub, ab, col, dd, k0, k1, k2, k3, k5, mN, hC, _⟩ := Z.ok.exC.obj
  obtain ⟨o, he, rfl⟩ := ok.mine _ hp.mem
  refine setAttr_exc (Z.ok.KI.keeps ok.stays) (ok.stays _ _ hC) Z.ok.exC.sa Z.ok.exC.wh he fun h' tk hk hx => ?_
  obtain ⟨ok', f'⟩ := ok_putk ok hp rfl hk hx
  exact k () () b own' h' tk rfl h ok' f'
theorem callee_exc : Callee Z.w Z.h₀ (.ref Z.C) := fun h hk => by
  obtain ⟨nm, q, N, bs, Y, sn, sub, ab, col, dd, k0, k1, k2, k3, k5, mN, hC, _⟩ := Z.ok.exC.obj
  exact ⟨.machine, .inr (.inl rfl), fun A Q E s k hq => by
    obtain ⟨hp, g, d, tk, os⟩ := s
    exact wpAny_keeperOf_exc (k _ _ (hk _ _ hC)) hq⟩
theorem Call_exc {i : Nat} {x : Act Z i} {u : Value} {P : Value → Kn → List Ch → Prop} (hn : 3 ≤ x.n) (h : ∀ e t, P (.ref e) b (Ch.of e (ExO Z.C t) :: Ch.of t (fun _ => True) :: own)) : Call x (.ref Z.C) [u] b own P := fun us hus => by
  intro s Q E ok _ k
  obtain ⟨nm, q, N, bs, Y, sn, sub, ab, col, dd, k0, k1, k2, k3, k5, mN, hC, hN, hi, T⟩ := Z.ok.exC.obj
  obtain ⟨oI, hfI, hfc⟩ := Z.ok.exC.fc
  obtain ⟨v, rfl, hv⟩ := one_val hus
  obtain ⟨m, hm'⟩ : ∃ m, x.n = m + 2 := ⟨x.n - 2, by omega⟩
  have rm := x.rm
  rw [hm'] at rm
  obtain ⟨hp, g, d, tk, os⟩ := s
  have st := ok.stays
  refine call_exc_own (T.keeps st) (st _ _ hC) (hN.keeps st) hi (st _ _ hfI) hfc (fun h' e hm => ?_) (by simp [sizeLine])
  obtain ⟨t, he, ht, htt⟩ := hm.there
  have ne : e ≠ t := fun q => by rw [q, htt] at he; cases he
  obtain ⟨ok', f'⟩ := ok_news (h' := h') (ns := [Ch.of e fun o => o = { cls := .ref Z.C, data := .fields #[.ref t, .none, .none, .none, .bool false, .none] }, Ch.of t fun _ => True]) ok hm.keeps (fun z hz => by
    simp only [List.mem_cons, List.not_mem_nil, or_false] at hz
    rcases hz with rfl | rfl
    · exact hm.new
    · exact ht) (by simpa using ne) (fun z hz => by
    simp only [List.mem_cons, List.not_mem_nil, or_false] at hz
    rcases hz with rfl | rfl
    · exact ⟨_, he, rfl⟩
    · exact ⟨_, htt, trivial⟩)
  refine wpAny_call (enter (us := [.ref e, u]) [Str.ofString "self", Str.ofString "what"] (n := m) (Rm.under rm Z.C _ []) (j := 102) (by decide) (fun vs hv _ _ _ _ _ _ => by obtain ⟨a, c, rfl⟩ := two_of hv; rfl) rfl rfl ok' [.ref e, v] (by rw [List.map_cons, List.map_cons, hv]; rfl) (P := fun v b' o' => v = .none ∧ b' = b ∧ o' = Ch.of e (ExO Z.C t) :: Ch.of t (fun _ => True) :: own) (fun y hy => ?_) (fun w u' b' r h'' tk' hw p ok'' f'' => ?_))
  · refine S_seta (E_name rfl (E_name rfl (SetA_exc (t := t) (.tail .head) (S_nil (next_ok ⟨rfl, rfl, rfl⟩)))))
  · obtain ⟨rfl, rfl, rfl⟩ := p
    obtain rfl := er_none hw
    exact ⟨rfl, k _ _ _ _ h'' tk' rfl (h e t) ok'' (f'.trans f'')⟩
theorem S_raise {rest : List Stmt} {P : Flow → Kn → List Ch → Prop} {x : Act Z 22} {Lm : Prop} (hG : x.G = GL Z x.A x.env Lm) (hLm : Lm) (hF : x.fr = some x.L) (hn : 4 ≤ x.n) {np cp sp pos : Pos} {k : Nat} {l : List (Str × Value)} {r : List Ch} : S x (.Raise (some (.Call (.Name (Str.ofString "LimitReached") np) [.Constant (.str (Str.ofString "steps")) k sp] [] cp)) none pos :: rest) b (Ch.loc x.L l :: r) P := by
  intro s Q E ok gx kk
  rw [hG] at gx
  have gx := gx.2 hLm b _ s.heap x.L l ok Frm.rfl hF (.head _)
  refine wpAny_execs_cons ?_
  obtain ⟨nm, q, N, bs, Y, sn, sub, ab, col, dd, k0, k1, k2, k3, k5, mN, hC, _⟩ := Z.ok.exC.obj
  rw [arm_exec_Raise]
  refine wpAny_bind (wpAny_standAt ?_)
  refine raise_exc (C := Z.C) (nm := nm) (q := q) (N := N) (Y := Y) (bs := bs) (sn := sn) (sub := sub) (ab := ab) (col := col) (dd := dd) (k0 := k0) (k1 := k1) (k2 := k2) (k3 := k3) (k5 := k5) x.rm.1 (wpAny_bind ?_)
  have hE : Pq.E x.free (.Call (.Name (Str.ofString "LimitReached") np) [.Constant (.str (Str.ofString "steps")) k sp] [] cp) b [] fun v b' o' => ∃ e t, v = .ref e ∧ o' = [Ch.of e (ExO Z.C t), Ch.of t fun _ => True] :=
    E_call (E_global Z.ok.gC ⟨_, rfl, fun _ q => er_ref q, callee_exc, A_cons (E_str (A_nil (Call_exc (by show 3 ≤ x.n; omega) fun e t => ⟨e, t, rfl, rfl⟩)))⟩)
  refine hE.go (ok.sub (List.nil_sublist _)) trivial fun v u b' o' h' tk' hv p ok' _ f' => ?_
  obtain ⟨e, t, rfl, rfl⟩ := p
  obtain rfl := er_ref hv
  obtain ⟨o, ho, d, vs, rfl⟩ := ok'.mine _ (.head _)
  refine wpAny_bind (wpAny_standAt (wpAny_pure ⟨e, t, rfl, ok'.stays _ _ hC, ⟨_, ho, d, vs, rfl⟩, gx h' e tk' ⟨fun c oc q => f'.keep c oc (by simp) q, ?_, t, d, vs, ho, ?_⟩⟩))
  · rcases f'.U _ (.head _) with u | u
    · cases u
    · exact u
  · rcases f'.U _ (.tail _ (.head _)) with u | u
    · cases u
    · exact u
end
section
variable {Z : Zc} {b : Kn} {own : List Ch} {rest : List Stmt} {P : Flow → Kn → List Ch → Prop}
theorem Call.forget {i : Nat} {x : Act Z i} {o₁ : List Ch} {f : Value} {us : List Value} {P : Value → Kn → List Ch → Prop} (hs : List.Sublist o₁ own) (h : Call x f us b o₁ P) : Call x f us b own P := fun vs hvs => W.forget hs (h vs hvs)
theorem eq_close {A : Around} {w : World} {E : Value → Shared → Prop} {s : Shared} {a c : Addr} {t : Str} {p : Value} {Q : Value → Shared → Prop} (hu : A.units + 20 < cLine)
    (ha : ∃ arr : Array Value, s.heap.IsTuple a arr ∧ arr.toList.map er = [vS t, p]) (hc : ∃ arr : Array Value, s.heap.IsTuple c arr ∧ arr.toList.map er = [vS (Str.ofString "close"), vS (Str.ofString "")])
    (hp : (∃ s', p = vS s') ∨ ∃ d arr, p = .ref d ∧ s.heap.IsTuple d arr) (ht : t ≠ Str.ofString "close") (h : Q (.bool false) s) : wpAny (model pw w) A (compareOp .Eq (.ref a) (.ref c)) Q E s := by
  obtain ⟨arr, ha, e⟩ := ha
  obtain ⟨arr', hc, e'⟩ := hc
  obtain ⟨v₁, v₂, e1, e2, e3⟩ : ∃ v₁ v₂, arr.toList = [v₁, v₂] ∧ er v₁ = vS t ∧ er v₂ = p := two_val e
  obtain ⟨w₁, w₂, f1, f2, f3⟩ : ∃ v₁ v₂, arr'.toList = [v₁, v₂] ∧ er v₁ = vS (Str.ofString "close") ∧ er v₂ = vS (Str.ofString "") := two_val e'
  obtain ⟨t1, rfl⟩ := er_str e2
  obtain ⟨t2, rfl⟩ := er_str f2
  obtain ⟨t3, rfl⟩ := er_str f3
  have hE : ∃ q, PySem.SeqAt.EqAt A.in1 s v₂ (.str (Str.ofString "") t3) q := by
    rcases hp with ⟨s', rfl⟩ | ⟨d, arr, rfl, hd⟩
    · obtain ⟨t4, rfl⟩ := er_str e3
      exact ⟨_, PySem.SeqAt.EqAt.str_str _ _ _ _⟩
    · obtain rfl := er_ref e3
      exact ⟨_, PySem.SeqAt.EqAt.tuple_str _ _ hd (by show A.units + 1 < _; omega)⟩
  obtain ⟨q, hE⟩ := hE
  have g1 : ∀ (arr : Array Value) (l : List Value) (j : Nat) (hj : j < arr.size), arr.toList = l → arr[j]? = l[j]? := fun arr l j hj h => by rw [← h, Array.getElem?_toList]
  refine PySem.SeqAt.eq_tupleAt (e := fun j => if j = 0 then false else q) ha hc (by omega) (fun j h1 h2 => ?_) ?_
  · have s1 : arr.size = 2 := by rw [← Array.length_toList, e1]; rfl
    have q1 := g1 arr _ j h1 e1
    have q2 := g1 arr' _ j h2 f1
    rw [Array.getElem?_eq_getElem h1] at q1
    rw [Array.getElem?_eq_getElem h2] at q2
    match j, h1, h2, q1, q2 with
    | 0, h1, h2, q1, q2 =>
      simp at q1 q2
      rw [q1, q2, if_pos rfl]
      have := PySem.SeqAt.EqAt.str_str (A := A.in1) (s := s) t t1 (Str.ofString "close") t2
      rwa [beq_eq_false_iff_ne.mpr ht] at this
    | 1, h1, h2, q1, q2 =>
      simp at q1 q2
      rw [q1, q2, if_neg (by decide)]; exact hE
    | j + 2, h1, _, _, _ => omega
  · have s1 : arr.size = 2 := by rw [← Array.length_toList, e1]; rfl
    have s2 : arr'.size = 2 := by rw [← Array.length_toList, f1]; rfl
    rw [s1, s2]; exact h
theorem eq_tself {A : Around} {w : World} {E : Value → Shared → Prop} {s : Shared} {a : Addr} {arr : Array Value} {Q : Value → Shared → Prop} (hu : A.units + 20 < cLine) (ha : s.heap.IsTuple a arr) (h : Q (.bool true) s) : wpAny (model pw w) A (compareOp .Eq (.ref a) (.ref a)) Q E s := by
  refine PySem.SeqAt.eq_tupleAt (e := fun _ => true) ha ha (by omega) (fun j h1 h2 => PySem.SeqAt.EqAt.same _) ?_
  rw [List.all_eq_true.mpr (fun _ _ => rfl), beq_self_eq_true]; exact h
variable {i : Nat} {x : Act Z i}
theorem Item_last {ve se : Expr} {l : Addr} {us : List Value} {u : Value} {P : Value → Kn → List Ch → Prop} (hl : Ent Z.h₀ b own l (LstO (us ++ [u]))) (h : P u b own)
    (hs : ∀ v, subscripted se false (.ref l) (.int (-1) v) = operate [.ref l, .int (-1) v] (getItem (.ref l) (.int (-1) v)) := by intro _; with_unfolding_all rfl) : Item x ve se (.ref l) (vI (-1)) b own P :=
  Item_listN hl (by decide) (by rw [List.length_append, List.length_singleton]; omega) (by decide) (by
    rw [List.length_append, List.length_singleton, show ((-1 : Int) + ((us.length + 1 : Nat) : Int)).toNat = us.length by omega]; simp) h hs
theorem Cmp_tself {a : Addr} {us : List Value} {P : Value → Kn → List Ch → Prop} (ha : Ent Z.h₀ b own a (TupO us)) (h : P (.bool true) b own) : Cmp x .Eq (.ref a) (.ref a) b own P := fun u' v' hu hv => by
  obtain rfl := er_ref hu
  obtain rfl := er_ref hv
  exact W.look (u := .bool true) (v := .bool true) rfl (fun s Q E ok k => let ⟨arr, hl, _⟩ := at_tuple (ha _ ok); eq_tself x.rm.units hl (k s.toks)) h
theorem Cmp_close {a c : Addr} {t : Str} {p : Value} {P : Value → Kn → List Ch → Prop} (ha : At b a (TupO [vS t, p])) (hc : At b c (TupO [vS (Str.ofString "close"), vS (Str.ofString "")]))
    (hp : (∃ s, p = vS s) ∨ ∃ d us, p = .ref d ∧ At b d (TupO us)) (ht : t ≠ Str.ofString "close") (h : P (.bool false) b own) : Cmp x .Eq (.ref a) (.ref c) b own P := fun u' v' hu hv => by
  obtain rfl := er_ref hu
  obtain rfl := er_ref hv
  exact W.look (u := .bool false) (v := .bool false) rfl (fun s Q E ok k => by
    obtain ⟨a1, h1, e1⟩ := at_tuple (ha.ent _ ok)
    obtain ⟨c1, h2, e2⟩ := at_tuple (hc.ent _ ok)
    refine eq_close x.rm.units ⟨a1, h1, e1⟩ ⟨c1, h2, e2⟩ (hp.imp id fun ⟨d, us, e, hd⟩ => ?_) ht (k s.toks)
    obtain ⟨d1, h3, _⟩ := at_tuple (hd.ent _ ok)
    exact ⟨d, d1, e, h3⟩) h
end
section
variable {Z : Zc} {i : Nat} {x : Act Z i} {b : Kn} {own own' : List Ch} {r : List Ch} {P : Value → Kn → List Ch → Prop}
noncomputable def Enc (α : Type) [DecidableEq α] (enc : α → Value) : Prop := ∀ (a c : α) (v w : Value), er v = enc a → er w = enc c → ∀ (A : Around) (s : Shared), PySem.SeqAt.EqAt A s v w (decide (a = c))
theorem encN : Enc Nat (fun n => vI (n : Int)) := fun a c v w hv hw A s => by
  obtain ⟨t, rfl⟩ := er_int hv
  obtain ⟨t', rfl⟩ := er_int hw
  have := PySem.SeqAt.EqAt.int_int (A := A) (s := s) (a : Int) t (c : Int) t'
  rwa [show ((a : Int) == (c : Int)) = decide (a = c) by rw [Bool.eq_iff_iff, beq_iff_eq, decide_eq_true_iff]; omega] at this
theorem encS : Enc Str vS := fun a c v w hv hw A s => by
  obtain ⟨t, rfl⟩ := er_str hv
  obtain ⟨t', rfl⟩ := er_str hw
  have := PySem.SeqAt.EqAt.str_str (A := A) (s := s) a t c t'
  rwa [show (a == c) = decide (a = c) by rw [Bool.eq_iff_iff]; simp] at this
variable {α : Type} [DecidableEq α] {enc : α → Value}
theorem all_eq {us vs : List α} (h : us.length = vs.length) : ((List.range us.length).all fun j => decide (us[j]? = vs[j]?)) = decide (us = vs) := by
  rw [Bool.eq_iff_iff, List.all_eq_true, decide_eq_true_iff]
  constructor
  · intro q
    refine List.ext_getElem? fun j => ?_
    by_cases hj : j < us.length
    · exact of_decide_eq_true (q j (List.mem_range.mpr hj))
    · rw [List.getElem?_eq_none (by omega), List.getElem?_eq_none (by omega)]
  · intro q j _; rw [q]; simp
theorem Cmp_neL (he : Enc α enc) {us vs : List α} {l m : Addr} (hl : Ent Z.h₀ b own l (LstO (us.map enc))) (hm : Ent Z.h₀ b own m (LstO (vs.map enc))) (h : P (.bool (!decide (us = vs))) b own) : Cmp x .NotEq (.ref l) (.ref m) b own P := fun u' v' hu hv => by
  obtain rfl := er_ref hu
  obtain rfl := er_ref hv
  refine W.look (u := .bool (!decide (us = vs))) (v := .bool (!decide (us = vs))) rfl (fun s Q E ok k => ?_) h
  obtain ⟨a1, h1, _, e1⟩ := at_list (hl _ ok)
  obtain ⟨a2, h2, _, e2⟩ := at_list (hm _ ok)
  have s1 := arr_len e1
  have s2 := arr_len e2
  rw [List.length_map] at s1 s2
  have hu := x.rm.units
  by_cases hz : us.length = vs.length
  · refine PySem.SeqAt.RcNeAt.lists (e := fun j => decide (us[j]? = vs[j]?)) h1 h2 (by rw [s1, s2, hz]) (by omega) (fun j q1 q2 => ?_) pw Z.w E Q ?_
    · have hj1 : j < us.length := by omega
      have hj2 : j < vs.length := by omega
      obtain ⟨v, hv, e⟩ := arr_get (j := j) (u := enc us[j]) e1 (by rw [List.getElem?_map, List.getElem?_eq_getElem hj1]; rfl)
      obtain ⟨w, hw, e'⟩ := arr_get (j := j) (u := enc vs[j]) e2 (by rw [List.getElem?_map, List.getElem?_eq_getElem hj2]; rfl)
      rw [Array.getElem?_eq_getElem q1] at hv
      rw [Array.getElem?_eq_getElem q2] at hw
      rw [Option.some.inj hv, Option.some.inj hw]
      have := he _ _ v w e e' x.A.in1 s
      rwa [show decide (us[j] = vs[j]) = decide (us[j]? = vs[j]?) by rw [List.getElem?_eq_getElem hj1, List.getElem?_eq_getElem hj2]; simp] at this
    · rw [s1, all_eq hz]; exact k s.toks
  · have hne : us ≠ vs := fun q => hz (by rw [q])
    refine PySem.SeqAt.RcNeAt.lists_lengths h1 h2 (by rw [s1, s2]; simpa using hz) (by omega) pw Z.w E Q ?_
    have := k s.toks
    rwa [decide_eq_false hne] at this
theorem any_arr {us : List α} {a : α} {arr : Array Value} {g : Value → Bool} (e : arr.toList.map er = us.map enc) (hg : ∀ v c, v ∈ arr → er v = enc c → c ∈ us → g v = decide (c = a)) : arr.any g = decide (a ∈ us) := by
  rw [← Array.any_toList]
  have hg' : ∀ v ∈ arr.toList, ∀ c ∈ us, er v = enc c → g v = decide (c = a) := fun v hv c hc q => hg v c (by simpa using hv) q hc
  clear hg
  generalize arr.toList = l at e hg'
  induction l generalizing us with
  | nil =>
    have : us = [] := List.map_eq_nil_iff.mp e.symm
    subst this; simp
  | cons v l ih =>
    cases us with
    | nil => cases e
    | cons c us =>
      simp only [List.map_cons, List.cons.injEq] at e
      rw [List.any_cons, hg' v (.head _) c (.head _) e.1, ih e.2 fun v hv c hc => hg' v (.tail _ hv) c (.tail _ hc)]
      rw [Bool.eq_iff_iff, Bool.or_eq_true, decide_eq_true_iff, decide_eq_true_iff, decide_eq_true_iff, List.mem_cons]
      exact or_congr eq_comm Iff.rfl
end
section
variable {Z : Zc} {i : Nat} {x : Act Z i} {b : Kn} {own own' : List Ch} {r : List Ch} {P : Value → Kn → List Ch → Prop}
theorem Cmp_notinN {us : List Nat} {a : Nat} {l : Addr} (hl : Ent Z.h₀ b own l (LstO (us.map fun n : Nat => vI (n : Int)))) (h : P (.bool (!decide (a ∈ us))) b own) : Cmp x .NotIn (vI (a : Int)) (.ref l) b own P := fun u' v' hu' hv' => by
  obtain ⟨t, rfl⟩ := er_int hu'
  obtain rfl := er_ref hv'
  refine W.look (u := .bool (!decide (a ∈ us))) (v := .bool (!decide (a ∈ us))) rfl (fun s Q E ok k => ?_) h
  obtain ⟨arr, h1, _, e1⟩ := at_list (hl _ ok)
  have hmem : ∀ v ∈ arr, ∃ (c : Nat) (t' : Tok), v = .int c t' := fun v hv => by
    have : er v ∈ arr.toList.map er := List.mem_map_of_mem (by simpa using hv)
    rw [e1] at this
    obtain ⟨c, hc, q⟩ := List.mem_map.mp this
    obtain ⟨t', rfl⟩ := er_int q.symm
    exact ⟨c, t', rfl⟩
  refine PySem.SeqAt.notIn_listAt (fun v => match v with | .int n _ => n == (a : Int) | _ => false) h1 (fun v hv => ?_) ?_
  · obtain ⟨c, t', rfl⟩ := hmem v hv
    exact PySem.SeqAt.EqAt.int_int _ _ _ _
  · rw [any_arr (enc := fun n : Nat => vI (n : Int)) (us := us) (a := a) e1 (fun v c hv hc _ => by
      obtain ⟨t', rfl⟩ := er_int hc
      show ((c : Int) == (a : Int)) = _
      rw [Bool.eq_iff_iff, beq_iff_eq, decide_eq_true_iff]; omega)]
    exact k s.toks
noncomputable def CellO (v : Option Value) (o : Obj) : Prop := ∃ v', o.data = .cell v' ∧ v'.map er = v
theorem E_cell {n : Str} {pos : Pos} {c : Addr} {v : Value} (hc : x.cl.lookup n = some c) (hv : Ent Z.h₀ b own c (CellO (some v))) (h : P v b own) (hk : (dScope (stmtAt i)).kind = .function := by rfl)
    (hl : x.env.kindOf n = some .cell := by rfl) (hd : (n == ("__debug__" : Str)) = false := by rfl) : E x (.Name n pos) b own P := fun s Q E ok g k => by
  obtain ⟨o, ho, v', hd', e⟩ := hv _ ok
  obtain ⟨v₁, rfl, e'⟩ := Option.map_eq_some_iff.mp e
  exact wpAny_Name (wpAny_loadName_cell (env := x.env) hk hl hc ⟨o, ho, hd'⟩ (k v₁ v b own s.heap s.toks e' h ok Frm.rfl)) hd
theorem Sto_cell {n : Str} {c : Addr} {v₀ : Option Value} {v : Value} {P : Unit → Kn → List Ch → Prop} (hc : x.cl.lookup n = some c) (hp : Put (Ch.of c (CellO v₀)) (Ch.of c (CellO (some v))) own own') (h : P () b own') (hk : (dScope (stmtAt i)).kind = .function := by rfl)
    (hl : x.env.kindOf n = some .cell := by rfl) : Sto x n v b own P := fun v' hv' => by
  refine W.upd rfl hp (fun s Q E ok hd q => ?_) h
  obtain ⟨o, ho, v₁, hd', e⟩ := hd
  refine wpAny_storeName_cell (env := x.env) hk hl hc ⟨o, ho, hd'⟩ fun h' hc' hs => ?_
  obtain ⟨o', ho', hd''⟩ := hc'
  exact q h' o' s.toks hs ho' ⟨_, hd'', congrArg some hv'⟩
theorem E_nameK {n : Str} {pos : Pos} {v : Value} {l : List (Str × Value)} (hL : At b x.L (LocO l)) (hv : l.lookup n = some v) (h : P v b own) (hk : (dScope (stmtAt i)).kind = .function := by rfl)
    (hl : x.env.kindOf n = some .local := by rfl) (hd : (n == ("__debug__" : Str)) = false := by rfl) : E x (.Name n pos) b own P := fun s Q E ok g k => by
  obtain ⟨m, n', hm⟩ := ns_of (hL.ent _ ok)
  obtain ⟨v', hv', e⟩ := hm _ _ hv
  exact wpAny_Name (wpAny_loadName_local hk hl n' hv' (W.done (R := RV) e h ok k)) hd
end
noncomputable def allKn (b : Kn) (o : List Ch) (h : Heap) (C : Addr) (oC : Obj) : Kn := fun a => if a = C then some oC else match b a with
  | some ob => some ob
  | none => if a ∈ o.map Ch.addr then h.get? a else none
theorem allKn_ok {h₀ h h₃ : Heap} {b : Kn} {o : List Ch} {C : Addr} {oC : Obj} (ok : Ok h₀ b o h) (hk : ∀ a ob, h.get? a = some ob → h₃.get? a = some ob) (hC : h.get? C = none) (hoC : h₃.get? C = some oC) :
    Ok h₀ (allKn b o h C oC) [] h₃ ∧ b.le (allKn b o h C oC) ∧ allKn b o h C oC C = some oC ∧ ∀ c φ, Ch.of c φ ∈ o → At (allKn b o h C oC) c φ := by
  have hle : b.le (allKn b o h C oC) := fun a ob e => by
    have : a ≠ C := fun q => by rw [q] at e; rw [ok.kn _ _ e] at hC; cases hC
    unfold allKn; rw [if_neg this, e]
  refine ⟨⟨fun a ob e => hle _ _ (ok.base _ _ e), fun a ob e => ?_, (fun _ h => by cases h), List.nodup_nil, (fun _ h => by cases h)⟩, hle, if_pos rfl, fun c φ hm => ?_⟩
  · unfold allKn at e
    split at e
    · rename_i q; cases e; rw [q]; exact hoC
    · split at e
      · rename_i q; cases e; exact hk _ _ (ok.kn _ _ q)
      · split at e
        · exact hk _ _ e
        · cases e
  · obtain ⟨ob, hob, hφ⟩ := ok.mine _ hm
    have hd := ok.disj _ hm
    rw [Ch.of_addr] at hd
    refine ⟨ob, ?_, hφ⟩
    have : c ≠ C := fun q => by rw [q, hC] at hob; cases hob
    unfold allKn
    rw [if_neg this, hd, if_pos (show c ∈ o.map Ch.addr from List.mem_map_of_mem (f := Ch.addr) hm)]
    exact hob
section
variable {Z : Zc} {i j : Nat} {x : Act Z i} {b : Kn} {own : List Ch}
noncomputable def CompQ (x : Act Z i) (j : Nat) (cl : List (Str × Addr)) (n : Str) (test elt : Expr) (b₁ : Kn) (o₁ : List Ch) (us : List Value) (p : Value → Bool) (f : Value → Value) : Prop :=
  ∀ (z : Act Z j) b₂, z.n = x.n → z.cl = cl → b₁.le b₂ → (∀ c φ, Ch.of c φ ∈ o₁ → At b₂ c φ) → ∀ u ∈ us, At b₂ z.L (LocO [(n, u)]) → T z test b₂ [] (fun q _ _ => q = p u) ∧ (p u = true → E z elt b₂ [] fun v _ _ => v = f u)
theorem comp_quiet {cl : List (Str × Addr)} {n : Str} {test elt : Expr} {b₁ : Kn} {o₁ : List Ch} {us : List Value} {p : Value → Bool} {f : Value → Value} {scope : Scope} {I : Addr} {arr : Array Value} {s₁ s₂ : Shared} (hq : CompQ x j cl n test elt b₁ o₁ us p f)
    (hrel : relabel scope x.env = dScope (stmtAt j)) (hqn : qName i = qName j) (ok : Ok Z.h₀ b₁ o₁ s₁.heap) (e : arr.toList.map er = us) (hI : s₁.heap.get? I = none) (h12 : ∀ a ob, s₁.heap.get? a = some ob → s₂.heap.get? a = some ob) (hsz : s₁.heap.objs.size ≤ s₂.heap.objs.size) :
    QuietOnC pw Z.w x.A x.env scope cl n [test] elt [I] (fun i v => arr[i]? = some v) (fun v => p (er v)) (fun v y => er y = f (er v)) s₂ := by
  have key : ∀ (C k : Nat) (v : Value) (s₃ : Shared) (m₃ : Str → Option Value), s₂.heap.objs.size ≤ C → arr[k]? = some v → s₃.heap.Ns C m₃ → m₃ n = some v → (∀ (b : Addr) (o : Obj), ¬b ∈ [I] → s₂.heap.get? b = some o → s₃.heap.get? b = some o) →
      ∃ (z : Act Z j) (b₃ : Kn), z.A = x.A ∧ z.env = compEnvC scope cl C x.env ∧ z.G = GT Z.h₀ ∧ Ok Z.h₀ b₃ [] s₃.heap ∧ T z test b₃ [] (fun q _ _ => q = p (er v)) ∧ (p (er v) = true → E z elt b₃ [] fun w _ _ => w = f (er v)) := by
    intro C k v s₃ m₃ hC hv hns hm hk
    let z : Act Z j := { A := x.A, n := x.n, rm := x.rm, L := C, cd := x.cd, cl := cl, fu := none, fr := x.fr, G := GT Z.h₀, thru := fun _ _ _ _ _ => .inl trivial }
    obtain ⟨oC, es, ep, hoC, hd, hsk, hf⟩ := hns
    have hCn : s₁.heap.get? C = none := Heap.get?_none_of_le (Nat.le_trans hsz hC)
    obtain ⟨ok₃, h1, h2, h3⟩ := allKn_ok (h₃ := s₃.heap) (C := C) ok (fun a ob q => hk a ob (fun w => by rw [List.mem_singleton.mp w, hI] at q; cases q) (h12 a ob q)) hCn hoC
    have hu : er v ∈ us := by rw [← e]; exact List.mem_map_of_mem (by rw [Array.mem_toList_iff]; exact Array.mem_of_getElem? hv)
    obtain ⟨q1, q2⟩ := hq z _ rfl rfl h1 h3 (er v) hu ⟨oC, h2, es, ep, m₃, hd, hsk, hf, fun y u hy => by
      rw [List.lookup_cons] at hy
      by_cases c : y = n
      · subst c; rw [beq_self_eq_true] at hy; cases hy; exact ⟨v, hm, rfl⟩
      · rw [beq_eq_false_iff_ne.mpr c] at hy; cases hy⟩
    refine ⟨z, _, rfl, ?_, rfl, ok₃, q1, q2⟩
    show cEnv cl none x.fr (envOf (qName j) (dScope (stmtAt j)) C (Z.F j) x.cd) = compEnvC scope cl C x.env
    rw [← hqn, ← hrel]; rfl
  refine ⟨fun C k v s₃ m₃ E' hC hv hns hm hk _ => ?_, fun C k v s₃ m₃ E' hC hv hp hns hm hk _ => ?_⟩
  · obtain ⟨z, b₃, hA, henv, hG, ok₃, q1, _⟩ := key C k v s₃ m₃ hC hv hns hm hk
    rw [← henv, ← hA]
    rw [List.forIn_cons]
    refine wpAny_bind ?_
    show wpAny _ _ (do let ok ← isTrue test z.env (eval test z.env); Pure.pure (ForInStep.yield ok)) _ _ _
    refine wpAny_bind (q1.go ok₃ (by rw [hG]; trivial) fun q q' b' o' h' tk hqq hp _ _ f' => ?_)
    subst hqq
    refine wpAny_pure ?_
    dsimp only
    rw [List.forIn_nil]
    exact wpAny_pure ⟨hp, h', tk, rfl, fun a ob w => f'.keep a ob (fun m => by cases m) w⟩
  · obtain ⟨z, b₃, hA, henv, hG, ok₃, _, q2⟩ := key C k v s₃ m₃ hC hv hns hm hk
    rw [← henv, ← hA]
    exact (q2 hp).go ok₃ (by rw [hG]; trivial) fun q q' b' o' h' tk hqq hp _ _ f' => ⟨by rw [show er q = q' from hqq]; exact hp, h', tk, rfl, fun a ob w => f'.keep a ob (fun m => by cases m) w⟩
theorem paired_er {F : Value → Value} {l ys : List Value} (h : Paired (fun v y => er y = F (er v)) l ys) : ys.map er = (l.map er).map F := by
  induction h with
  | nil => rfl
  | cons h _ ih => simp [h, ih]
theorem filter_er {p : Value → Bool} (l : List Value) : (l.filter fun v => p (er v)).map er = (l.map er).filter p := by
  rw [List.filter_map]; rfl
theorem E_comp {elt iter test : Expr} {n : Str} {px pos : Pos} {scope : Scope} {cl : List (Str × Addr)} {P : Value → Kn → List Ch → Prop} (j : Nat) (p : Value → Bool) (f : Value → Value) (hclos : closureFor scope x.env = Pure.pure cl)
    (h : E x iter b own fun xv b₁ o₁ => ∃ ls us y₀ r, xv = .ref ls ∧ At b₁ ls (LstO us) ∧ us.length ≤ sizeLine ∧ o₁ = y₀ :: r ∧ CompQ x j cl n test elt b₁ o₁ us p f ∧ ∀ D, P (.ref D) b₁ (y₀ :: Ch.of D (LstO ((us.filter p).map f)) :: r))
    (hrel : relabel scope x.env = dScope (stmtAt j) := by rfl) (hqn : qName i = qName j := by rfl) (hcell : ∀ y ∈ scope.names, y.2 ≠ .cell := by decide) (hkind : scope.kind = .function := by rfl)
    (hnames : ∀ y ∈ scope.names, y.2 = .local → scope.names.lookup y.1 = some .local := by decide) (hx : scope.names.lookup n = some .local := by rfl) (hs : ∀ v, foldedSetIterable iter x.env v = Pure.pure v := by intro _; rfl) :
    E x (.ListComp elt [⟨.Name n px, iter, [test], 0⟩] scope pos) b own P := by
  intro s Q E' ok g k
  refine wpAny_ListComp_free (fun v => p (er v)) (fun v y => er y = f (er v)) hclos hcell hkind hnames hx (h.go ok g fun xv' xv b₁ o₁ h₁ tk₁ hxv q ok₁ g₁ f₁ => ?_) hs
  obtain ⟨ls, us, y₀, r, rfl, hls, hz, rfl, hq, fin⟩ := q
  obtain rfl := er_ref hxv
  obtain ⟨arr, hl, _, e⟩ := at_list (hls.ent _ ok₁)
  refine wpAny_pyIter_list hl ?_
  have hI := fresh_size h₁
  have hlI : ls ≠ h₁.objs.size := fun w => by obtain ⟨o, ho, _⟩ := hl; rw [w, hI] at ho; cases ho
  have k12 : ∀ a ob, h₁.get? a = some ob → (h₁.push { cls := .type "list_iterator", data := .fields #[.ref ls, .int 0 0] }).get? a = some ob := fun a ob w => Heap.get?_push_of_some _ w
  refine ⟨h₁.objs.size, _, _, _, _, _, rfl, Walks.list x.rm.1 _ ls hlI arr, by rw [arr_len e]; exact hz, ⟨⟨_, Heap.get?_push_size _ rfl, rfl, rfl⟩, let ⟨o, ho, r⟩ := hl; ⟨o, k12 _ _ ho, r⟩⟩, fun a ha => ?_,
    comp_quiet (s₁ := { s with heap := h₁, toks := tk₁ }) (j := j) hq hrel hqn ok₁ e hI k12 (by show h₁.objs.size ≤ (h₁.push _).objs.size; rw [Heap.size_push]; exact Nat.le_succ _), fun D h' tk ys vs hD hlD hpD hlen hvs hpr hk => ?_⟩
  · rw [Heap.size_push]
    rcases List.mem_cons.mp ha with rfl | ha
    · exact Nat.lt_succ_self _
    · rw [List.mem_singleton.mp ha]; obtain ⟨o, ho, _⟩ := hl; exact Nat.lt_succ_of_lt (Heap.lt_size ho)
  · have evs : vs = arr.toList := by
      refine List.ext_getElem? fun m => ?_
      by_cases hm : m < vs.length
      · have := hvs m vs[m] (List.getElem?_eq_getElem hm)
        rw [List.getElem?_eq_getElem hm, Array.getElem?_toList, this]
      · rw [List.getElem?_eq_none (by omega), List.getElem?_eq_none (by rw [Array.length_toList]; omega)]
    subst evs
    obtain ⟨nn, hpD⟩ := hpD
    have hk' : ∀ a ob, h₁.get? a = some ob → h'.get? a = some ob := fun a ob w => hk a ob (fun m => by rw [List.mem_singleton.mp m, hI] at w; cases w) (k12 a ob w)
    have hD₁ : h₁.get? D = none := by
      cases w : h₁.get? D with
      | none => rfl
      | some ob => have hD : (h₁.push _).get? D = none := hD; rw [k12 _ _ w] at hD; cases hD
    obtain ⟨ok', f'⟩ := ok_new (x := Ch.of D (LstO ((us.filter p).map f))) ok₁ rfl hk' hD₁ ⟨_, hpD, ys, nn, rfl, by rw [paired_er hpr, filter_er, e]⟩
    exact k _ _ _ _ h' tk rfl (fin D) ok' (f₁.trans f')
theorem S_asgComp {elt iter test : Expr} {n nv : Str} {px py pos spos : Pos} {scope : Scope} {cl : List (Str × Addr)} {rest : List Stmt} {P : Flow → Kn → List Ch → Prop} (j : Nat) (p : Value → Bool) (f : Value → Value) (hclos : closureFor scope x.env = Pure.pure cl)
    (h : E x iter b own fun xv b₁ o₁ => ∃ ls us l r, xv = .ref ls ∧ At b₁ ls (LstO us) ∧ us.length ≤ sizeLine ∧ o₁ = Ch.loc x.L l :: r ∧ CompQ x j cl n test elt b₁ o₁ us p f ∧ ∀ D, S x rest b₁ (Ch.loc x.L ((nv, .ref D) :: l) :: Ch.of D (LstO ((us.filter p).map f)) :: r) P)
    (hsw : swapsWith (.ListComp elt [⟨.Name n px, iter, [test], 0⟩] scope pos) (some (.Name nv py)) spos.line x.env = Pure.pure true := by rfl)
    (hrel : relabel scope x.env = dScope (stmtAt j) := by rfl) (hqn : qName i = qName j := by rfl) (hcell : ∀ y ∈ scope.names, y.2 ≠ .cell := by decide) (hkind : scope.kind = .function := by rfl)
    (hnames : ∀ y ∈ scope.names, y.2 = .local → scope.names.lookup y.1 = some .local := by decide) (hx : scope.names.lookup n = some .local := by rfl) (hy : x.env.kindOf nv = some .local := by rfl) (hk : (dScope (stmtAt i)).kind = .function := by rfl) (hs : ∀ v, foldedSetIterable iter x.env v = Pure.pure v := by intro _; rfl) :
    S x (.Assign [.Name nv py] (.ListComp elt [⟨.Name n px, iter, [test], 0⟩] scope pos) spos :: rest) b own P := by
  refine S_cons ?_
  intro s Q E' ok g k
  refine wpAny_Assign_ListComp_free (fun v => p (er v)) (fun v y => er y = f (er v)) hsw hclos hcell hkind hnames hx hy (by show ((dScope (stmtAt i)).kind == .class || ((dScope (stmtAt i)).kind == .module && x.L != mainGlobals)) = false; rw [hk]; rfl) (h.go ok g fun xv' xv b₁ o₁ h₁ tk₁ hxv q ok₁ g₁ f₁ => ?_) hs
  obtain ⟨ls, us, l, r, rfl, hls, hz, rfl, hq, fin⟩ := q
  obtain rfl := er_ref hxv
  obtain ⟨arr, hl, _, e⟩ := at_list (hls.ent _ ok₁)
  refine wpAny_pyIter_list hl ?_
  have hI := fresh_size h₁
  have hlI : ls ≠ h₁.objs.size := fun w => by obtain ⟨o, ho, _⟩ := hl; rw [w, hI] at ho; cases ho
  have k12 : ∀ a ob, h₁.get? a = some ob → (h₁.push { cls := .type "list_iterator", data := .fields #[.ref ls, .int 0 0] }).get? a = some ob := fun a ob w => Heap.get?_push_of_some _ w
  obtain ⟨m, hm, hml⟩ := ns_of (ok₁.mine _ (.head _))
  have hLI : x.L ≠ h₁.objs.size := fun w => by obtain ⟨o, _, _, ho, _⟩ := hm; rw [w, hI] at ho; cases ho
  refine ⟨h₁.objs.size, _, _, _, _, _, m, rfl, Walks.list x.rm.1 _ ls hlI arr, by rw [arr_len e]; exact hz, ⟨⟨_, Heap.get?_push_size _ rfl, rfl, rfl⟩, let ⟨o, ho, r⟩ := hl; ⟨o, k12 _ _ ho, r⟩⟩, fun a ha => ?_,
    fun w => hLI (List.mem_singleton.mp w), hm.keeps k12, comp_quiet (s₁ := { s with heap := h₁, toks := tk₁ }) (j := j) hq hrel hqn ok₁ e hI k12 (by show h₁.objs.size ≤ (h₁.push _).objs.size; rw [Heap.size_push]; exact Nat.le_succ _), fun D h' tk ys vs hD hlD hpD hlen hvs hpr hns hk => ?_⟩
  · rw [Heap.size_push]
    rcases List.mem_cons.mp ha with rfl | ha
    · exact Nat.lt_succ_self _
    · rw [List.mem_singleton.mp ha]; obtain ⟨o, ho, _⟩ := hl; exact Nat.lt_succ_of_lt (Heap.lt_size ho)
  · have evs : vs = arr.toList := by
      refine List.ext_getElem? fun m => ?_
      by_cases hm : m < vs.length
      · have := hvs m vs[m] (List.getElem?_eq_getElem hm)
        rw [List.getElem?_eq_getElem hm, Array.getElem?_toList, this]
      · rw [List.getElem?_eq_none (by omega), List.getElem?_eq_none (by rw [Array.length_toList]; omega)]
    subst evs
    obtain ⟨nn, hpD⟩ := hpD
    have hk' : ∀ a ob, a ≠ x.L → h₁.get? a = some ob → h'.get? a = some ob := fun a ob ha w => hk a ob ha (fun m => by rw [List.mem_singleton.mp m, hI] at w; cases w) (k12 a ob w)
    have hD₁ : h₁.get? D = none := by
      cases w : h₁.get? D with
      | none => rfl
      | some ob => have hD : (h₁.push _).get? D = none := hD; rw [k12 _ _ w] at hD; cases hD
    obtain ⟨ok₂, f₂⟩ := ok_putk (c' := Ch.loc x.L ((nv, .ref D) :: l)) ok₁ .head rfl hk' (loc_set (u := .ref D) rfl hml hns)
    have hDb : b₁ D = none := by
      cases w : b₁ D with
      | none => rfl
      | some ob => rw [ok₁.kn _ _ w] at hD₁; cases hD₁
    have hDo : ∀ z ∈ Ch.loc x.L l :: r, z.addr ≠ D := fun z hz w => by
      obtain ⟨ob, hob⟩ := z.live _ (ok₁.mine z hz)
      rw [w, hD₁] at hob; cases hob
    have nd := List.nodup_cons.mp ok₂.nodup
    have ok₃ : Ok Z.h₀ b₁ (Ch.loc x.L ((nv, .ref D) :: l) :: Ch.of D (LstO ((us.filter p).map f)) :: r) h' := by
      refine ⟨ok₂.base, ok₂.kn, fun z hz => ?_, List.nodup_cons.mpr ⟨fun w => ?_, List.nodup_cons.mpr ⟨fun w => ?_, nd.2⟩⟩, fun z hz => ?_⟩
      · rcases List.mem_cons.mp hz with rfl | hz
        · exact ok₂.mine _ (.head _)
        · rcases List.mem_cons.mp hz with rfl | hz
          · exact ⟨_, hpD, ys, nn, rfl, by rw [paired_er hpr, filter_er, e]⟩
          · exact ok₂.mine _ (.tail _ hz)
      · rcases List.mem_cons.mp w with w | w
        · exact hDo _ (.head _) w
        · exact nd.1 w
      · obtain ⟨z, hz, q⟩ := List.mem_map.mp w
        exact hDo z (.tail _ hz) q
      · rcases List.mem_cons.mp hz with rfl | hz
        · exact ok₂.disj _ (.head _)
        · rcases List.mem_cons.mp hz with rfl | hz
          · exact hDb
          · exact ok₂.disj _ (.tail _ hz)
    have f₃ : Frm h₁ b₁ (Ch.loc x.L l :: r) h' b₁ (Ch.loc x.L ((nv, .ref D) :: l) :: Ch.of D (LstO ((us.filter p).map f)) :: r) := ⟨f₂.keep, Kn.le.rfl, fun _ _ q => .inl q, fun z hz => by
      rcases List.mem_cons.mp hz with rfl | hz
      · exact f₂.U _ (.head _)
      · rcases List.mem_cons.mp hz with rfl | hz
        · exact .inr hD₁
        · exact f₂.U _ (.tail _ hz)⟩
    exact k .next .next _ _ h' tk rfl (fin D) ok₃ (f₁.trans f₃)
end
section
variable {Z : Zc} {i : Nat} {x : Act Z i} {b : Kn} {own : List Ch}
noncomputable def RetC (P : Value → Kn → List Ch → Prop) (f : Flow) (b : Kn) (o : List Ch) : Prop := ∃ y k1 k2 k3 k4 r, o = y :: k1 :: k2 :: k3 :: k4 :: r ∧ P (retv f) b r
theorem retC_ok {P : Value → Kn → List Ch → Prop} {v : Value} {y k1 k2 k3 k4 : Ch} {r : List Ch} (h : P v b r) : RetC P (.ret v) b (y :: k1 :: k2 :: k3 :: k4 :: r) := ⟨_, _, _, _, _, _, rfl, h⟩
theorem Call_ends {vg ve vk vs : Value} {P : Value → Kn → List Ch → Prop} (hn : 1 ≤ x.n)
    (h : ∀ (y : Act Z 25) c1 c2 c3 c4, y.n + 1 = x.n → y.cl = [(Str.ofString "found", c4), (Str.ofString "leaf", c3), (Str.ofString "wanted", c2), (Str.ofString "kids", c1)] →
      S y (dBody (stmtAt 25)) b (Ch.loc y.L [(Str.ofString "starts", vs), (Str.ofString "e", ve), (Str.ofString "grammar", vg)] :: Ch.of c1 (CellO (some vk)) :: Ch.of c2 (CellO none) :: Ch.of c3 (CellO none) :: Ch.of c4 (CellO none) :: own) (RetC P)) :
    Call x (.ref (Z.F 25)) [vg, ve, vk, vs] b own P := by
  intro us hus s Q E ok _ k
  obtain ⟨oc, od, osl, kV, doc, pm, an, cdv, ct, ho, hcd⟩ := Z.ok.fn 25 (by decide)
  obtain ⟨m, hm⟩ : ∃ m, x.n = m + 1 := ⟨x.n - 1, by omega⟩
  have rm := x.rm
  rw [hm] at rm
  obtain ⟨v1, v2, v3, v4, rfl, e1, e2, e3, e4⟩ : ∃ v1 v2 v3 v4, us = [v1, v2, v3, v4] ∧ er v1 = vg ∧ er v2 = ve ∧ er v3 = vk ∧ er v4 = vs := by
    obtain ⟨v1, l1, rfl, e1, q⟩ := List.map_eq_cons_iff.mp hus
    obtain ⟨v2, l2, rfl, e2, q⟩ := List.map_eq_cons_iff.mp q
    obtain ⟨v3, l3, rfl, e3, q⟩ := List.map_eq_cons_iff.mp q
    obtain ⟨v4, l4, rfl, e4, q⟩ := List.map_eq_cons_iff.mp q
    obtain rfl := List.map_eq_nil_iff.mp q
    exact ⟨v1, v2, v3, v4, rfl, e1, e2, e3, e4⟩
  refine wpAny_call (codeAny_call_cells (fd := fnOf (dName (stmtAt 25)) (qName 25) (dParams (stmtAt 25)) (dBody (stmtAt 25)) (dScope (stmtAt 25)) .none kV doc pm an cdv ct) (body := dBody (stmtAt 25))
    (binds := [(Str.ofString "grammar", v1), (Str.ofString "e", v2), (Str.ofString "kids", v3), (Str.ofString "starts", v4)]) x.rm.lim (ok.stays _ _ ho) rfl (Z.ok.lim.keeps ok.stays) (hcd.keeps ok.stays) rfl rfl rfl ?_ (fun s₁ hin => ?_))
  · intro z hz
    simp only [List.mem_cons, List.not_mem_nil, or_false] at hz
    rcases hz with rfl | rfl | rfl | rfl
    · exact .inl rfl
    · exact .inl rfl
    · exact .inr ⟨rfl, rfl⟩
    · exact .inl rfl
  · obtain ⟨h₁, tk₁, rfl⟩ := hin.toInCall.same
    have hkeep := hin.toInCall.keep
    dsimp only at hkeep
    let L := s.heap.objs.size
    have cellE : cellsFrom (L + 1) (dScope (stmtAt 25)).names [] = [(Str.ofString "found", L + 1 + 1 + 1 + 1), (Str.ofString "leaf", L + 1 + 1 + 1), (Str.ofString "wanted", L + 1 + 1), (Str.ofString "kids", L + 1)] := rfl
    have hcell : ∀ (n : Str) (c : Addr) (v : Option Value), (cellsFrom (L + 1) (dScope (stmtAt 25)).names []).lookup n = some c → bindC (callEnvC (fnOf (dName (stmtAt 25)) (qName 25) (dParams (stmtAt 25)) (dBody (stmtAt 25)) (dScope (stmtAt 25)) .none kV doc pm an cdv ct) L (Z.F 25)).kindOf [(Str.ofString "grammar", v1), (Str.ofString "e", v2), (Str.ofString "kids", v3), (Str.ofString "starts", v4)] (fun _ => none) n = v → (Ch.of c (CellO (v.map er))).ok h₁ := fun n c v hl hv => by
      obtain ⟨o, ho, hd⟩ := hin.cell n c hl
      exact ⟨o, ho, _, hd, congrArg (Option.map er) hv⟩
    have hns := hin.toInCall.ns
    let y : Act Z 25 := { A := x.A.deeper (callEnvC (fnOf (dName (stmtAt 25)) (qName 25) (dParams (stmtAt 25)) (dBody (stmtAt 25)) (dScope (stmtAt 25)) .none kV doc pm an cdv ct) L (Z.F 25)), n := m, rm := rm.deeper, L := L, cd := cdv, cl := cellsFrom (L + 1) (dScope (stmtAt 25)).names [], fu := some (Z.F 25), fr := some L, G := GT Z.h₀, thru := fun _ _ _ _ _ => .inl trivial }
    have fr : ∀ k, s.heap.get? (L + k) = none := fun k => Heap.get?_none_of_le (Nat.le_add_right _ _)
    have hx : Ok Z.h₀ b ([Ch.loc L [(Str.ofString "starts", vs), (Str.ofString "e", ve), (Str.ofString "grammar", vg)], Ch.of (L + 1) (CellO (some vk)), Ch.of (L + 1 + 1) (CellO none), Ch.of (L + 1 + 1 + 1) (CellO none), Ch.of (L + 1 + 1 + 1 + 1) (CellO none)] ++ own) h₁ ∧ Frm s.heap b own h₁ b ([Ch.loc L [(Str.ofString "starts", vs), (Str.ofString "e", ve), (Str.ofString "grammar", vg)], Ch.of (L + 1) (CellO (some vk)), Ch.of (L + 1 + 1) (CellO none), Ch.of (L + 1 + 1 + 1) (CellO none), Ch.of (L + 1 + 1 + 1 + 1) (CellO none)] ++ own) := by
      refine ok_news ok hkeep (fun z hz => ?_) ?_ (fun z hz => ?_)
      · simp only [List.mem_cons, List.not_mem_nil, or_false] at hz
        rcases hz with rfl | rfl | rfl | rfl | rfl
        · exact fr 0
        · exact fr 1
        · exact fr 2
        · exact fr 3
        · exact fr 4
      · show [L, L + 1, L + 1 + 1, L + 1 + 1 + 1, L + 1 + 1 + 1 + 1].Nodup
        simp [List.nodup_cons]; omega
      · simp only [List.mem_cons, List.not_mem_nil, or_false] at hz
        rcases hz with rfl | rfl | rfl | rfl | rfl
        · refine of_ns hns fun n v hl => ?_
          show ∃ v', (if n = Str.ofString "starts" then some v4 else if n = Str.ofString "e" then some v2 else if n = Str.ofString "grammar" then some v1 else none) = some v' ∧ er v' = v
          simp only [List.lookup_cons] at hl
          by_cases q1 : n = Str.ofString "starts"
          · rw [if_pos q1]
            rw [beq_iff_eq.mpr q1] at hl
            exact ⟨v4, rfl, e4.trans (Option.some.inj hl)⟩
          · rw [if_neg q1]
            rw [beq_eq_false_iff_ne.mpr q1] at hl
            by_cases q2 : n = Str.ofString "e"
            · rw [if_pos q2]
              rw [beq_iff_eq.mpr q2] at hl
              exact ⟨v2, rfl, e2.trans (Option.some.inj hl)⟩
            · rw [if_neg q2]
              rw [beq_eq_false_iff_ne.mpr q2] at hl
              by_cases q3 : n = Str.ofString "grammar"
              · rw [if_pos q3]
                rw [beq_iff_eq.mpr q3] at hl
                exact ⟨v1, rfl, e1.trans (Option.some.inj hl)⟩
              · rw [beq_eq_false_iff_ne.mpr q3] at hl
                cases hl
        · have := hcell (Str.ofString "kids") (L + 1) (some v3) rfl rfl
          rw [← e3]; exact this
        · exact hcell (Str.ofString "wanted") (L + 1 + 1) none rfl rfl
        · exact hcell (Str.ofString "leaf") (L + 1 + 1 + 1) none rfl rfl
        · exact hcell (Str.ofString "found") (L + 1 + 1 + 1 + 1) none rfl rfl
    obtain ⟨ok₁, f₁⟩ := hx
    refine wpAny_mono (h y _ _ _ _ hm.symm cellE { s with heap := h₁, toks := tk₁ } (fun fl s' => ∀ v, v = (match fl with | .ret v => v | _ => .none) → Q v s') _ ok₁ trivial fun fl fl' b' o' h' tk hf p ok' f' => ?_) (fun fl s' hq => hq _ rfl) fun _ _ e => e
    obtain ⟨q, k1, k2, k3, k4, r, rfl, p⟩ := p
    rintro v rfl
    have hsub : List.Sublist r (q :: k1 :: k2 :: k3 :: k4 :: r) := .cons _ (.cons _ (.cons _ (.cons _ (.cons _ (.refl _)))))
    have ft := f₁.trans f'
    exact k _ (retv fl') b' r h' tk (by cases hf; cases fl <;> rfl) p ⟨ok'.base, ok'.kn, fun z hz => ok'.mine z (hsub.subset hz), ok'.nodup.sublist (hsub.map _), fun z hz => ok'.disj z (hsub.subset hz)⟩ ⟨ft.keep, ft.kn, ft.new, fun z hz => ft.U z (hsub.subset hz)⟩
end
theorem ext_meets {w : World} {l I t : Addr} {acc items : Array Value} {c : Nat} : MeetsIn pw w (Builtin.«list.extend» ⟨[.ref l, .ref I], []⟩) (fun A R s => A.handled = none ∧ (∃ o, s.heap.get? I = some o ∧ RevO t ((items.size : Int) - 1) o) ∧ s.heap.IsTuple t items ∧ acc.size + items.size < sizeLine ∧
    s.heap.get? l = some { cls := .type "list", dict := none, data := .seq acc c, slots := #[] } ∧ ∀ h' tk acc' c', (∀ b o, b ≠ l → b ≠ I → s.heap.get? b = some o → h'.get? b = some o) → h'.get? l = some { cls := .type "list", dict := none, data := .seq acc' c', slots := #[] } → acc'.toList = acc.toList ++ items.toList.reverse → R (.ok (.ret .none)) { s with heap := h', toks := tk }) := by
  intro A R s ⟨hh, hi, ht, hz, hS, hR⟩
  show wpAny _ _ (Builtin.List.listExtendWith (.ref l) (.ref I) .none) _ _ s
  exact rev_extend hh hi ht hz hS hR
section
variable {Z : Zc} {i : Nat} {x : Act Z i} {b : Kn} {own : List Ch} {P : Value → Kn → List Ch → Prop}
theorem M_extend_rev {pos : Pos} {l : Addr} {e : Expr} (h : E x e b own fun v b₁ o₁ => ∃ I t us us' o₂ o₃, v = .ref I ∧ Split o₁ [Ch.of I (RevAt t us'.length 0)] o₂ ∧ Ent Z.h₀ b₁ o₂ t (TupO us') ∧ Put (Ch.of l (LstO us)) (Ch.of l (LstO (us ++ us'.reverse))) o₂ o₃ ∧ us.length + us'.length < sizeLine ∧ P .none b₁ o₃)
    (ht : backTo pos (starEach [e] x.env) = [(false, eval e x.env)] := by rfl) : Meth x pos "list.extend" l [e] b own P := by
  intro s Q E ok g k
  rw [ht]
  refine method_meetsIn F.slot_list_extend F.entry_list_extend rfl (Calls.evalArgs_plain (Calls.spliced_cons (h.go ok g fun v' v b₁ o₁ h₁ tk₁ hv q ok₁ g₁ f₁ => Calls.spliced_nil ?_)))
  obtain ⟨I, t, us, us', o₂, o₃, rfl, hsp, hent, hp, hz, p⟩ := q
  obtain rfl := er_ref hv
  rw [revAt0] at hsp
  have ok₂ := ok_perm hsp.perm ok₁
  obtain ⟨arr', hl', e'⟩ := at_tuple (hent _ (tl_ok ok₂))
  obtain ⟨arr, n, hl, e⟩ := at_L ((tl_ok ok₂).mine _ hp.mem)
  obtain ⟨oi, hoi, hri⟩ := ok₂.mine _ (.head _)
  have s1 := arr_len e
  have s2 := arr_len e'
  refine ⟨rfl, ⟨_, hl, rfl⟩, F.args_list_extend_2 _ _, _, ext_meets (t := t) (acc := arr) (items := arr') (c := n), x.rm.1, ⟨oi, hoi, by rw [s2]; exact hri⟩, hl', by rw [s1, s2]; exact hz, hl, fun h' tk acc' c' hk hS ea => ?_⟩
  obtain ⟨ok₃, f₃⟩ := ok_put2 ok₂ hp rfl hk ⟨_, hS, acc', c', rfl, by rw [ea, List.map_append, List.map_reverse, e, e']⟩
  exact k _ _ _ _ h' tk rfl p ok₃ (f₁.trans ⟨fun a ob nm w => f₃.keep a ob (fun m => nm ((hsp.perm.map Ch.addr).mem_iff.mpr m)) w, f₃.kn, fun _ _ q => .inl q, fun z hz => (f₃.U z hz).imp (fun m => (hsp.perm.map Ch.addr).mem_iff.mpr m) id⟩)
end
section
variable {Z : Zc} {i : Nat} {x : Act Z i} {b : Kn} {own : List Ch}
noncomputable def tokenOf (tbl : Tbl) : Ex → Str
  | .text s => s
  | .name s => if (tbl.lookup s).isSome then Str.empty else s
  | _ => Str.empty
noncomputable def isToken (tbl : Tbl) : Ex → Bool
  | .text s => true
  | .name s => !(tbl.lookup s).isSome
  | _ => false
theorem token_of_ok (hn : 1 ≤ x.n) {ve vt : Value} {e : Ex} {tbl : Tbl} (he : ExIn b ve e) (ht : TblIn Z.w b vt tbl) {P : Value → Kn → List Ch → Prop}
    (h : P (vS (tokenOf tbl e)) b own) : Call x (.ref (Z.F 5)) [ve, vt] b own P := by
  refine Call_fn [Str.ofString "e", Str.ofString "table"] hn (by decide) (fun vs hv _ _ _ _ _ _ => by obtain ⟨a, c, rfl⟩ := two_of hv; rfl) rfl rfl rfl (fun y hy => ?_)
  obtain ⟨a, p, rfl, ha, hp⟩ := he.open_
  obtain ⟨d, kvs, rfl, hd, hk⟩ := ht
  refine S_if1 ?_
  refine T_cmp ?_
  with_reducible refine E_sub ?_
  refine E_name rfl ?_
  with_reducible refine E_int ?_
  refine Item_tuple ha.ent rfl rfl ?_
  with_reducible refine E_str ?_
  with_reducible refine Cmp_eqS ?_
  with_reducible refine ⟨_, rfl, ?_⟩
  refine if_b (fun q => ?_) (fun q => ?_)
  · obtain ⟨s, rfl⟩ := tag_text q
    obtain rfl := hp
    with_reducible refine S_ret ?_
    with_reducible refine E_sub ?_
    refine E_name rfl ?_
    with_reducible refine E_int ?_
    exact Item_tuple ha.ent rfl rfl (ret_ok h)
  · with_reducible refine S_if1 ?_
    with_reducible refine T_bool ?_
    with_reducible refine TL_and ?_
    refine T_cmp ?_
    with_reducible refine E_sub ?_
    refine E_name rfl ?_
    with_reducible refine E_int ?_
    refine Item_tuple ha.ent rfl rfl ?_
    with_reducible refine E_str ?_
    with_reducible refine Cmp_eqS ?_
    with_reducible refine ⟨_, rfl, ?_⟩
    refine if_b (fun q' => ?_) (fun q' => ?_)
    · obtain ⟨s, rfl⟩ := tag_name q'
      obtain rfl := hp
      with_reducible refine TL_and ?_
      refine T_cmp ?_
      with_reducible refine E_sub ?_
      refine E_name rfl ?_
      with_reducible refine E_int ?_
      refine Item_tuple ha.ent rfl rfl ?_
      refine E_name rfl ?_
      refine Cmp_notin hd.ent (keyS _ _) ⟨_, rfl, ?_⟩
      rw [hk.some_]
      simp only [tokenOf] at h
      refine if_b (fun q => ?_) (fun q => ?_)
      · rw [if_neg (by simp only [Bool.not_eq_true'] at q; rw [q]; exact Bool.false_ne_true)] at h
        with_reducible refine TL_and0 ?_
        refine if_t rfl ?_
        with_reducible refine S_ret ?_
        with_reducible refine E_sub ?_
        refine E_name rfl ?_
        with_reducible refine E_int ?_
        exact Item_tuple ha.ent rfl rfl (ret_ok h)
      · rw [if_pos (by simp only [Bool.not_eq_false'] at q; exact q)] at h
        refine if_f rfl ?_
        with_reducible refine S_ret ?_
        with_reducible refine E_str ?_
        with_reducible refine ret_ok ?_
        exact h
    · refine if_f rfl ?_
      with_reducible refine S_ret ?_
      with_reducible refine E_str ?_
      with_reducible refine ret_ok ?_
      cases e <;> first | exact h | exact Bool.noConfusion (show true = false from q) | exact Bool.noConfusion (show true = false from q')
theorem is_token_ok (hn : 1 ≤ x.n) {ve vt : Value} {e : Ex} {tbl : Tbl} (he : ExIn b ve e) (ht : TblIn Z.w b vt tbl) {P : Value → Kn → List Ch → Prop}
    (h : P (.bool (isToken tbl e)) b own) : Call x (.ref (Z.F 6)) [ve, vt] b own P := by
  refine Call_fn [Str.ofString "e", Str.ofString "table"] hn (by decide) (fun vs hv _ _ _ _ _ _ => by obtain ⟨a, c, rfl⟩ := two_of hv; rfl) rfl rfl rfl (fun y hy => ?_)
  obtain ⟨a, p, rfl, ha, hp⟩ := he.open_
  obtain ⟨d, kvs, rfl, hd, hk⟩ := ht
  refine S_ret ?_
  with_reducible refine E_or ?_
  refine E_cmp ?_
  with_reducible refine E_sub ?_
  refine E_name rfl ?_
  with_reducible refine E_int ?_
  refine Item_tuple ha.ent rfl rfl ?_
  with_reducible refine E_str ?_
  with_reducible refine Cmp_eqS ?_
  with_reducible refine ⟨_, rfl, ?_⟩
  refine if_b (fun q => ?_) (fun q => ?_)
  · obtain ⟨s, rfl⟩ := tag_text q
    exact ret_ok h
  · with_reducible refine E_bool1 ?_
    with_reducible refine E_and ?_
    refine E_cmp ?_
    with_reducible refine E_sub ?_
    refine E_name rfl ?_
    with_reducible refine E_int ?_
    refine Item_tuple ha.ent rfl rfl ?_
    with_reducible refine E_str ?_
    with_reducible refine Cmp_eqS ?_
    with_reducible refine ⟨_, rfl, ?_⟩
    refine if_b (fun q' => ?_) (fun q' => ?_)
    · obtain ⟨s, rfl⟩ := tag_name q'
      obtain rfl := hp
      with_reducible refine E_bool1 ?_
      refine E_cmp ?_
      with_reducible refine E_sub ?_
      refine E_name rfl ?_
      with_reducible refine E_int ?_
      refine Item_tuple ha.ent rfl rfl ?_
      refine E_name rfl ?_
      refine Cmp_notin hd.ent (keyS _ _) ?_
      rw [hk.some_]
      exact ret_ok h
    · refine ret_ok ?_
      cases e <;> first | exact h | exact Bool.noConfusion (show true = false from q) | exact Bool.noConfusion (show true = false from q')
end
section
variable {Z : Zc} {i : Nat} {x : Act Z i} {b : Kn} {own : List Ch}
noncomputable abbrev SetC (w : World) (d : Addr) (t : List Str) : Ch := Ch.of d (DicO (strKind pw w) d (setKvs t))
theorem addS_len (t : List Str) (k : Str) : t.length ≤ (addS t k).length ∧ (addS t k).length ≤ t.length + 1 := by unfold addS; split <;> simp
theorem mergeS_len (t s : List Str) : t.length ≤ (mergeS t s).length ∧ (mergeS t s).length ≤ t.length + s.length := by
  unfold mergeS
  induction s generalizing t with
  | nil => simp
  | cons k s ih => have := ih (addS t k); have := addS_len t k; simp only [List.foldl_cons, List.length_cons]; omega
theorem mergeS_take (t s : List Str) {j : Nat} {k : Str} (h : s[j]? = some k) : mergeS t (s.take (j + 1)) = addS (mergeS t (s.take j)) k := by
  unfold mergeS
  rw [List.take_add_one, h, List.foldl_append]; rfl
theorem merge_ok {own' : List Ch} {d t : Addr} {T s : List Str} (hn : 1 ≤ x.n) (hs : At b d (DicO (strKind pw Z.w) d (setKvs s))) (hsz : T.length + s.length ≤ sizeLine) {P : Value → Kn → List Ch → Prop} (hp : Put (SetC Z.w t T) (SetC Z.w t (mergeS T s)) own own')
    (h : P (.bool (decide (T.length < (mergeS T s).length))) b own') : Call x (.ref (Z.F 7)) [.ref t, .ref d] b own P := by
  have ml := mergeS_len T s
  have hfit : sizeLine < 2 ^ 63 := by decide
  refine Call.put hp rfl ?_
  refine Call_fn [Str.ofString "target", Str.ofString "source"] hn (by decide) (fun vs hv _ _ _ _ _ _ => by obtain ⟨a, c, rfl⟩ := two_of hv; rfl) rfl rfl rfl (fun y hy => ?_)
  refine S_asg (E_bi Z.ok.len ?_)
  refine A_cons ?_
  refine E_name rfl ?_
  with_reducible refine A_nil ?_
  refine Call_len_dict (Ent.own (.tail _ (.head _))) (by rw [len_set]; omega) ?_
  refine Sto_ok ?_
  refine S_for ?_
  refine E_name rfl ?_
  rw [len_set]
  refine Itr_dict hs fun I ob ep kvs' hkey hb hob => ?_
  rw [keys_set] at hkey
  refine ⟨I, _, _, _, _, _, fun j b' o' => b' = b ∧ o' = [Ch.loc y.L [(Str.ofString "size", vI T.length), (Str.ofString "source", .ref d), (Str.ofString "target", .ref t)], SetC Z.w t (mergeS T (s.take j))],
    rfl, .right (.left (Split.none _)), itk_dict hob, ⟨rfl, ?_⟩, fun j b' o' _ q => q.1 ▸ hb, fun j u b' o' hj hu _ q => ?_, fun b' o' _ q => ?_⟩
  · rfl
  · obtain ⟨rfl, rfl⟩ := q
    obtain ⟨k, hk, rfl⟩ := hu
    rw [hkey] at hk
    have ml' := mergeS_len T (s.take j)
    have tl : (s.take j).length ≤ s.length := by rw [List.length_take]; omega
    refine Asg_name (Sto_ok (S_seti ?_))
    with_reducible refine E_bool ?_
    refine E_name rfl ?_
    refine E_name rfl ?_
    refine SetI_dict (.tail .head) (keyS _ _) (by rw [len_set]; omega) ?_
    rw [stored_set, ← mergeS_take T s hk]
    refine S_end ⟨rfl, rfl⟩
  · obtain ⟨rfl, rfl⟩ := q
    have e : s.take kvs'.length = s := by rw [List.take_of_length_le]; rw [← hkey, List.length_map]; exact Nat.le_refl _
    rw [e]
    refine S_ret (E_cmp (E_bi Z.ok.len ?_))
    refine A_cons ?_
    refine E_name rfl ?_
    with_reducible refine A_nil ?_
    refine Call_len_dict (Ent.own (.tail _ (.head _))) (by rw [len_set]; omega) ?_
    refine E_name rfl ?_
    with_reducible refine Cmp_gtI ?_
    with_reducible refine ret_ok ?_
    try refine Cmp_gtI ?_
    rw [len_set]
    have e' : decide ((T.length : Int) < ((mergeS T s).length : Int)) = decide (T.length < (mergeS T s).length) := by
      congr 1; rw [eq_iff_iff]; omega
    rw [e']
    first | exact ret_ok ⟨rfl, rfl, h⟩ | exact ⟨rfl, rfl, h⟩
end
mutual
noncomputable def Ex.dep : Ex → Nat
  | .text _ => 1
  | .name _ => 1
  | .opt e => e.dep + 1
  | .rep e => e.dep + 1
  | .seq es => Ex.depL es + 1
  | .alt es => Ex.depL es + 1
noncomputable def Ex.depL : List Ex → Nat
  | [] => 1
  | e :: es => max e.dep (Ex.depL es)
end
theorem Ex.depL_get : ∀ {es : List Ex} {j : Nat} {e : Ex}, es[j]? = some e → e.dep ≤ Ex.depL es
  | [], _, _, h => by simp at h
  | e' :: es, 0, e, h => by simp at h; subst h; exact Nat.le_max_left _ _
  | e' :: es, j + 1, e, h => by simp at h; exact Nat.le_trans (Ex.depL_get h) (Nat.le_max_right _ _)
mutual
noncomputable def mayE (emp : List Str) : Ex → Bool
  | .text _ => false
  | .name s => emp.contains s
  | .opt _ => true
  | .rep _ => true
  | .seq es => allE emp es
  | .alt es => anyE emp es
noncomputable def allE (emp : List Str) : List Ex → Bool
  | [] => true
  | e :: es => mayE emp e && allE emp es
noncomputable def anyE (emp : List Str) : List Ex → Bool
  | [] => false
  | e :: es => mayE emp e || anyE emp es
end
theorem allE_step {emp : List Str} {es : List Ex} {j : Nat} {e : Ex} (h : es[j]? = some e) : allE emp (es.drop j) = (mayE emp e && allE emp (es.drop (j + 1))) := by
  rw [List.drop_eq_getElem_cons (List.getElem?_eq_some_iff.mp h).1, (List.getElem?_eq_some_iff.mp h).2, allE]
theorem anyE_step {emp : List Str} {es : List Ex} {j : Nat} {e : Ex} (h : es[j]? = some e) : anyE emp (es.drop j) = (mayE emp e || anyE emp (es.drop (j + 1))) := by
  rw [List.drop_eq_getElem_cons (List.getElem?_eq_some_iff.mp h).1, (List.getElem?_eq_some_iff.mp h).2, anyE]
section
variable {Z : Zc}
theorem may_be_empty_ok (n : Nat) : ∀ {i : Nat} {x : Act Z i} {b : Kn} {own : List Ch} {ve vt : Value} {de : Addr} {e : Ex} {emp : List Str} {P : Value → Kn → List Ch → Prop}, n ≤ x.n → e.dep ≤ n → ExIn b ve e →
    Src b own de (DicO (strKind pw Z.w) de (setKvs emp)) → P (.bool (mayE emp e)) b own → Call x (.ref (Z.F 9)) [ve, vt, .ref de] b own P := by
  induction n with
  | zero => intro i x b own ve vt de e emp P hn hd; cases e <;> (simp [Ex.dep] at hd)
  | succ n ih =>
    intro i x b own ve vt de e emp P hn hd he hE h
    refine Call_fn [Str.ofString "e", Str.ofString "table", Str.ofString "empty"] (by omega) (by decide) (fun vs hv _ _ _ _ _ _ => by obtain ⟨a, c, d, rfl⟩ := three_of hv; rfl) rfl rfl rfl (fun y hy => ?_)
    have hy' : n ≤ y.n := by omega
    have hE' := hE.tail (y := Ch.loc y.L [(Str.ofString "tag", vS e.tag), (Str.ofString "empty", .ref de), (Str.ofString "table", vt), (Str.ofString "e", ve)])
    cases he with
    | text ha =>
      refine S_asg ?_
      with_reducible refine E_sub ?_
      refine E_name rfl ?_
      with_reducible refine E_int ?_
      refine Item_tuple ha.ent rfl rfl ?_
      refine Sto_ok ?_
      with_reducible refine S_if1 ?_
      with_reducible refine T_bool ?_
      with_reducible refine TL_or ?_
      refine T_cmp ?_
      refine E_name rfl ?_
      with_reducible refine E_str ?_
      with_reducible refine Cmp_eqS ?_
      with_reducible refine ⟨_, rfl, ?_⟩
      refine if_f rfl ?_
      with_reducible refine TL_or ?_
      refine T_cmp ?_
      refine E_name rfl ?_
      with_reducible refine E_str ?_
      with_reducible refine Cmp_eqS ?_
      with_reducible refine ⟨_, rfl, ?_⟩
      refine if_f rfl ?_
      with_reducible refine TL_or0 ?_
      refine if_f rfl ?_
      with_reducible refine S_if1 ?_
      refine T_cmp ?_
      refine E_name rfl ?_
      with_reducible refine E_str ?_
      with_reducible refine Cmp_eqS ?_
      with_reducible refine ⟨_, rfl, ?_⟩
      refine if_f rfl ?_
      with_reducible refine S_if1 ?_
      refine T_cmp ?_
      refine E_name rfl ?_
      with_reducible refine E_str ?_
      with_reducible refine Cmp_eqS ?_
      with_reducible refine ⟨_, rfl, ?_⟩
      refine if_f rfl ?_
      with_reducible refine S_ret ?_
      with_reducible refine E_and ?_
      refine E_cmp ?_
      refine E_name rfl ?_
      with_reducible refine E_str ?_
      with_reducible refine Cmp_eqS ?_
      with_reducible refine ⟨_, rfl, ?_⟩
      refine if_f rfl ?_
      with_reducible refine ret_ok ?_
      exact h
    | name ha =>
      refine S_asg ?_
      with_reducible refine E_sub ?_
      refine E_name rfl ?_
      with_reducible refine E_int ?_
      refine Item_tuple ha.ent rfl rfl ?_
      refine Sto_ok ?_
      with_reducible refine S_if1 ?_
      with_reducible refine T_bool ?_
      with_reducible refine TL_or ?_
      refine T_cmp ?_
      refine E_name rfl ?_
      with_reducible refine E_str ?_
      with_reducible refine Cmp_eqS ?_
      with_reducible refine ⟨_, rfl, ?_⟩
      refine if_f rfl ?_
      with_reducible refine TL_or ?_
      refine T_cmp ?_
      refine E_name rfl ?_
      with_reducible refine E_str ?_
      with_reducible refine Cmp_eqS ?_
      with_reducible refine ⟨_, rfl, ?_⟩
      refine if_f rfl ?_
      with_reducible refine TL_or0 ?_
      refine if_f rfl ?_
      with_reducible refine S_if1 ?_
      refine T_cmp ?_
      refine E_name rfl ?_
      with_reducible refine E_str ?_
      with_reducible refine Cmp_eqS ?_
      with_reducible refine ⟨_, rfl, ?_⟩
      refine if_f rfl ?_
      with_reducible refine S_if1 ?_
      refine T_cmp ?_
      refine E_name rfl ?_
      with_reducible refine E_str ?_
      with_reducible refine Cmp_eqS ?_
      with_reducible refine ⟨_, rfl, ?_⟩
      refine if_f rfl ?_
      with_reducible refine S_ret ?_
      with_reducible refine E_and ?_
      refine E_cmp ?_
      refine E_name rfl ?_
      with_reducible refine E_str ?_
      with_reducible refine Cmp_eqS ?_
      with_reducible refine ⟨_, rfl, ?_⟩
      refine if_t rfl ?_
      with_reducible refine E_bool1 ?_
      refine E_cmp ?_
      with_reducible refine E_sub ?_
      refine E_name rfl ?_
      with_reducible refine E_int ?_
      refine Item_tuple ha.ent rfl rfl ?_
      refine E_name rfl ?_
      refine Cmp_in hE'.ent (keyS _ _) ?_
      rw [valueAt_set]
      with_reducible refine ret_ok ?_
      exact h
    | opt ha hx =>
      refine S_asg ?_
      with_reducible refine E_sub ?_
      refine E_name rfl ?_
      with_reducible refine E_int ?_
      refine Item_tuple ha.ent rfl rfl ?_
      refine Sto_ok ?_
      with_reducible refine S_if1 ?_
      with_reducible refine T_bool ?_
      with_reducible refine TL_or ?_
      refine T_cmp ?_
      refine E_name rfl ?_
      with_reducible refine E_str ?_
      with_reducible refine Cmp_eqS ?_
      with_reducible refine ⟨_, rfl, ?_⟩
      refine if_t rfl ?_
      refine if_t rfl ?_
      with_reducible refine S_ret ?_
      with_reducible refine E_bool ?_
      with_reducible refine ret_ok ?_
      exact h
    | rep ha hx =>
      refine S_asg ?_
      with_reducible refine E_sub ?_
      refine E_name rfl ?_
      with_reducible refine E_int ?_
      refine Item_tuple ha.ent rfl rfl ?_
      refine Sto_ok ?_
      with_reducible refine S_if1 ?_
      with_reducible refine T_bool ?_
      with_reducible refine TL_or ?_
      refine T_cmp ?_
      refine E_name rfl ?_
      with_reducible refine E_str ?_
      with_reducible refine Cmp_eqS ?_
      with_reducible refine ⟨_, rfl, ?_⟩
      refine if_f rfl ?_
      with_reducible refine TL_or ?_
      refine T_cmp ?_
      refine E_name rfl ?_
      with_reducible refine E_str ?_
      with_reducible refine Cmp_eqS ?_
      with_reducible refine ⟨_, rfl, ?_⟩
      refine if_t rfl ?_
      refine if_t rfl ?_
      with_reducible refine S_ret ?_
      with_reducible refine E_bool ?_
      with_reducible refine ret_ok ?_
      exact h
    | @seq a c vs es ha hc hx =>
      refine S_asg ?_
      with_reducible refine E_sub ?_
      refine E_name rfl ?_
      with_reducible refine E_int ?_
      refine Item_tuple ha.ent rfl rfl ?_
      refine Sto_ok ?_
      with_reducible refine S_if1 ?_
      with_reducible refine T_bool ?_
      with_reducible refine TL_or ?_
      refine T_cmp ?_
      refine E_name rfl ?_
      with_reducible refine E_str ?_
      with_reducible refine Cmp_eqS ?_
      with_reducible refine ⟨_, rfl, ?_⟩
      refine if_f rfl ?_
      with_reducible refine TL_or ?_
      refine T_cmp ?_
      refine E_name rfl ?_
      with_reducible refine E_str ?_
      with_reducible refine Cmp_eqS ?_
      with_reducible refine ⟨_, rfl, ?_⟩
      refine if_f rfl ?_
      with_reducible refine TL_or0 ?_
      refine if_f rfl ?_
      with_reducible refine S_if1 ?_
      refine T_cmp ?_
      refine E_name rfl ?_
      with_reducible refine E_str ?_
      with_reducible refine Cmp_eqS ?_
      with_reducible refine ⟨_, rfl, ?_⟩
      refine if_t rfl ?_
      refine S_for ?_
      with_reducible refine E_sub ?_
      refine E_name rfl ?_
      with_reducible refine E_int ?_
      refine Item_tuple ha.ent rfl rfl ?_
      refine Itr_tuple hc.ent fun I => ?_
      refine ForQ_tuple (fun j b' o' => b' = b ∧ o' = Ch.loc y.L [(Str.ofString "tag", vS (Str.ofString "seq")), (Str.ofString "empty", .ref de), (Str.ofString "table", vt), (Str.ofString "e", .ref a)] :: own ∧ mayE emp (.seq es) = allE emp (es.drop j)) hc ⟨rfl, rfl, rfl⟩ (fun j u b' o' hu _ q => ?_) (fun b' o' _ q => ?_)
      · obtain ⟨rfl, rfl, q⟩ := q
        obtain ⟨e', he', hin⟩ := hx.get _ _ hu
        rw [allE_step he'] at q
        refine Asg_name (Sto_ok (S_if1 ?_))
        with_reducible refine T_not ?_
        refine T_val ?_
        refine E_fn 9 ?_
        refine A_cons ?_
        refine E_name rfl ?_
        refine A_cons ?_
        refine E_name rfl ?_
        refine A_cons ?_
        refine E_name rfl ?_
        with_reducible refine A_nil ?_
        refine ih hy' ?_ hin (hE.tail) ?_
        · have := Ex.depL_get he'; simp only [Ex.dep] at hd; omega
        with_reducible refine ⟨_, rfl, ?_⟩
        refine if_b (fun q' => ?_) (fun q' => ?_)
        · rw [Bool.not_eq_true'] at q'
          rw [q', Bool.false_and] at q
          rw [q] at h
          with_reducible refine S_ret ?_
          with_reducible refine E_bool ?_
          with_reducible refine ret_ok ?_
          exact h
        · rw [Bool.not_eq_false'] at q'
          rw [q', Bool.true_and] at q
          exact S_end ⟨rfl, rfl, q⟩
      · obtain ⟨rfl, rfl, q⟩ := q
        rw [hx.length, List.drop_length, allE] at q
        with_reducible refine S_ret ?_
        with_reducible refine E_bool ?_
        with_reducible refine ret_ok ?_
        rw [q] at h; exact h
    | @alt a c vs es ha hc hx =>
      refine S_asg ?_
      with_reducible refine E_sub ?_
      refine E_name rfl ?_
      with_reducible refine E_int ?_
      refine Item_tuple ha.ent rfl rfl ?_
      refine Sto_ok ?_
      with_reducible refine S_if1 ?_
      with_reducible refine T_bool ?_
      with_reducible refine TL_or ?_
      refine T_cmp ?_
      refine E_name rfl ?_
      with_reducible refine E_str ?_
      with_reducible refine Cmp_eqS ?_
      with_reducible refine ⟨_, rfl, ?_⟩
      refine if_f rfl ?_
      with_reducible refine TL_or ?_
      refine T_cmp ?_
      refine E_name rfl ?_
      with_reducible refine E_str ?_
      with_reducible refine Cmp_eqS ?_
      with_reducible refine ⟨_, rfl, ?_⟩
      refine if_f rfl ?_
      with_reducible refine TL_or0 ?_
      refine if_f rfl ?_
      with_reducible refine S_if1 ?_
      refine T_cmp ?_
      refine E_name rfl ?_
      with_reducible refine E_str ?_
      with_reducible refine Cmp_eqS ?_
      with_reducible refine ⟨_, rfl, ?_⟩
      refine if_f rfl ?_
      with_reducible refine S_if1 ?_
      refine T_cmp ?_
      refine E_name rfl ?_
      with_reducible refine E_str ?_
      with_reducible refine Cmp_eqS ?_
      with_reducible refine ⟨_, rfl, ?_⟩
      refine if_t rfl ?_
      refine S_for ?_
      with_reducible refine E_sub ?_
      refine E_name rfl ?_
      with_reducible refine E_int ?_
      refine Item_tuple ha.ent rfl rfl ?_
      refine Itr_tuple hc.ent fun I => ?_
      refine ForQ_tuple (fun j b' o' => b' = b ∧ o' = Ch.loc y.L [(Str.ofString "tag", vS (Str.ofString "alt")), (Str.ofString "empty", .ref de), (Str.ofString "table", vt), (Str.ofString "e", .ref a)] :: own ∧ mayE emp (.alt es) = anyE emp (es.drop j)) hc ⟨rfl, rfl, rfl⟩ (fun j u b' o' hu _ q => ?_) (fun b' o' _ q => ?_)
      · obtain ⟨rfl, rfl, q⟩ := q
        obtain ⟨e', he', hin⟩ := hx.get _ _ hu
        rw [anyE_step he'] at q
        refine Asg_name (Sto_ok (S_if1 ?_))
        refine T_val ?_
        refine E_fn 9 ?_
        refine A_cons ?_
        refine E_name rfl ?_
        refine A_cons ?_
        refine E_name rfl ?_
        refine A_cons ?_
        refine E_name rfl ?_
        with_reducible refine A_nil ?_
        refine ih hy' ?_ hin (hE.tail) ?_
        · have := Ex.depL_get he'; simp only [Ex.dep] at hd; omega
        with_reducible refine ⟨_, rfl, ?_⟩
        refine if_b (fun q' => ?_) (fun q' => ?_)
        · rw [q', Bool.true_or] at q
          rw [q] at h
          with_reducible refine S_ret ?_
          with_reducible refine E_bool ?_
          with_reducible refine ret_ok ?_
          exact h
        · rw [q', Bool.false_or] at q
          exact S_end ⟨rfl, rfl, q⟩
      · obtain ⟨rfl, rfl, q⟩ := q
        rw [hx.length, List.drop_length, anyE] at q
        with_reducible refine S_ret ?_
        with_reducible refine E_bool ?_
        with_reducible refine ret_ok ?_
        rw [q] at h; exact h
end
noncomputable def Tbl.Le (t : Tbl) (D : Nat) : Prop := ∀ n e, t.lookup n = some e → e.dep ≤ D
noncomputable def passE (tbl : Tbl) : List Str → List Str × Bool → List Str × Bool
  | [], s => s
  | n :: ns, s => passE tbl ns (if !s.1.contains n && mayE s.1 ((tbl.lookup n).getD default) then (addS s.1 n, true) else s)
noncomputable def emptyP (tbl : Tbl) (ord : List Str) : Nat → List Str → Option (List Str)
  | 0, _ => none
  | f + 1, emp => if emp.length + ord.length ≤ 1000 then (if (passE tbl ord (emp, false)).2 then emptyP tbl ord f (passE tbl ord (emp, false)).1 else some (passE tbl ord (emp, false)).1) else none
theorem passE_step (tbl : Tbl) {ord : List Str} {j : Nat} {n : Str} {s : List Str × Bool} (h : ord[j]? = some n) : passE tbl (ord.drop j) s = passE tbl (ord.drop (j + 1)) (if !s.1.contains n && mayE s.1 ((tbl.lookup n).getD default) then (addS s.1 n, true) else s) := by
  rw [List.drop_eq_getElem_cons (List.getElem?_eq_some_iff.mp h).1, (List.getElem?_eq_some_iff.mp h).2, passE]
section
variable {Z : Zc} {i : Nat} {x : Act Z i} {b : Kn} {own : List Ch}
theorem names_get {ord : List Str} {j : Nat} {u : Value} (h : (ord.map vS)[j]? = some u) : ∃ n, ord[j]? = some n ∧ u = vS n := by
  rw [List.getElem?_map] at h; obtain ⟨n, h1, h2⟩ := Option.map_eq_some_iff.mp h; exact ⟨n, h1, h2.symm⟩
theorem tbl_item {ve se : Expr} {vt : Value} {tbl : Tbl} {n : Str} {e : Ex} {P : Value → Kn → List Ch → Prop} (ht : TblIn Z.w b vt tbl) (hn : tbl.lookup n = some e) (h : ∀ v, ExIn b v e → P v b own)
    (hs : ∀ d tk, subscripted se false (.ref d) (.str n tk) = operate [.ref d, .str n tk] (getItem (.ref d) (.str n tk)) := by intro _ _; with_unfolding_all rfl) : Item x ve se vt (vS n) b own P := by
  obtain ⟨d, kvs, rfl, hd, hk⟩ := ht
  obtain ⟨v, hv, hx⟩ := hk.get hn
  exact Item_dict hd.ent (keyS _ _) hv (h v hx) fun key' hk => by obtain ⟨t, rfl⟩ := er_str hk; exact hs d t
theorem empty_rules_ok {D fuel : Nat} {vt : Value} {lo : Addr} {tbl : Tbl} {ord emp : List Str} {P : Value → Kn → List Ch → Prop} (hn : D + 1 ≤ x.n) (ht : TblIn Z.w b vt tbl) (hD : tbl.Le D) (ho : At b lo (LstO (ord.map vS)))
    (hord : ∀ n ∈ ord, (tbl.lookup n).isSome = true) (hf : emptyP tbl ord fuel [] = some emp) (h : ∀ v b', b.le b' → SetIn Z.w b' v emp → P v b' own) : Call x (.ref (Z.F 10)) [vt, .ref lo] b own P := by
  refine Call.alone ?_
  refine Call_fn [Str.ofString "table", Str.ofString "order"] (by show 1 ≤ x.n; omega) (by decide) (fun vs hv _ _ _ _ _ _ => by obtain ⟨a, c, rfl⟩ := two_of hv; rfl) rfl rfl rfl (fun y hy => ?_)
  refine S_asg (E_dict0 (strKind pw Z.w) fun de => ?_)
  refine Sto_ok ?_
  refine S_asg ?_
  with_reducible refine E_bool ?_
  refine Sto_ok ?_
  refine S_while (fun m b' o' => b' = b ∧ ∃ em g, o' = [Ch.loc y.L [(Str.ofString "grown", .bool g), (Str.ofString "empty", .ref de), (Str.ofString "order", .ref lo), (Str.ofString "table", vt)], SetC Z.w de em] ∧
    (if g then emptyP tbl ord m em = some emp else em = emp)) fuel ⟨rfl, [], true, rfl, hf⟩ (fun m b₁ o₁ _ q => ?_)
  obtain ⟨rfl, em, g, rfl, q⟩ := q
  refine T_val ?_
  refine E_name rfl ?_
  with_reducible refine ⟨_, rfl, ?_⟩
  cases g with
  | false =>
    obtain rfl : em = emp := q
    refine if_f rfl ?_
    refine W.freeze (.right (.left (Split.none _))) (fun h q => q) fun o b' hφ hb hbo => ?_
    refine S_ret (E_name rfl (ret_ok ⟨rfl, ?_⟩))
    exact h _ b' hb ⟨de, rfl, o, hbo, hφ⟩
  | true =>
    refine if_t rfl ?_
    obtain ⟨m, rfl⟩ : ∃ k, m = k + 1 := by cases m with | zero => simp [emptyP] at q | succ k => exact ⟨k, rfl⟩
    rw [if_pos rfl, emptyP] at q
    by_cases hsz : em.length + ord.length ≤ 1000
    · rw [if_pos hsz] at q
      refine S_asg (E_bool (Sto_ok (S_names (l' := [(Str.ofString "grown", .bool false), (Str.ofString "empty", .ref de), (Str.ofString "order", .ref lo), (Str.ofString "table", vt)]) ?_)))
      refine S_for ?_
      refine E_name rfl ?_
      refine Itr_list ho.ent fun I => ?_
      refine ForQ_list (fun j b' o' => b' = b₁ ∧ ∃ e g, o' = [Ch.loc y.L [(Str.ofString "grown", .bool g), (Str.ofString "empty", .ref de), (Str.ofString "order", .ref lo), (Str.ofString "table", vt)], SetC Z.w de e] ∧
        e.length ≤ em.length + j ∧ passE tbl ord (em, false) = passE tbl (ord.drop j) (e, g)) ⟨rfl, em, false, ?_, Nat.le_refl _, rfl⟩ (fun j b' o' hb _ => .inl (ho.mono hb)) (fun j u b' o' hu _ q' => ?_) (fun b' o' _ q' => ?_)
      · rfl
      · obtain ⟨rfl, e, g, rfl, hl, q'⟩ := q'
        obtain ⟨n, hn', rfl⟩ := names_get hu
        rw [passE_step tbl hn'] at q'
        obtain ⟨ex, hex⟩ := Option.isSome_iff_exists.mp (hord n (List.mem_of_getElem? hn'))
        rw [hex] at q'
        have jl : j < ord.length := (List.getElem?_eq_some_iff.mp hn').1
        have al := addS_len e n
        refine Asg_name (Sto_ok (S_if1 ?_))
        with_reducible refine T_bool ?_
        with_reducible refine TL_and ?_
        refine T_cmp ?_
        refine E_name rfl ?_
        refine E_name rfl ?_
        refine Cmp_notin (Ent.own (.tail _ (.head _))) (keyS _ _) ⟨_, rfl, ?_⟩
        rw [valueAt_set]
        refine if_b (fun c1 => ?_) (fun c1 => ?_)
        · refine TL_and (T_val (E_fn 9 ?_))
          refine A_cons ?_
          with_reducible refine E_sub ?_
          refine E_name rfl ?_
          refine E_name rfl ?_
          refine tbl_item ht hex fun v hv => ?_
          refine A_cons ?_
          refine E_name rfl ?_
          refine A_cons ?_
          refine E_name rfl ?_
          with_reducible refine A_nil ?_
          refine may_be_empty_ok D (by show D ≤ y.n; have : y.n + 1 = x.n := hy; omega) (hD n ex hex) hv (.inr (.tail _ (.head _))) ⟨_, rfl, ?_⟩
          rw [c1, Bool.true_and] at q'
          simp only [Option.getD_some] at q'
          refine if_b (fun c2 => ?_) (fun c2 => ?_)
          · rw [c2, if_pos rfl] at q'
            refine TL_and0 (if_t rfl (S_seti ?_))
            with_reducible refine E_bool ?_
            refine E_name rfl ?_
            refine E_name rfl ?_
            refine SetI_dict (.tail .head) (keyS _ _) (by rw [len_set]; have : sizeLine = 2 ^ 24 := rfl; omega) ?_
            rw [stored_set]
            exact S_asg (E_bool (Sto_ok (S_nil (S_end ⟨rfl, addS e n, true, rfl, by omega, q'⟩))))
          · rw [c2, if_neg Bool.false_ne_true] at q'
            exact if_f rfl (S_end ⟨rfl, e, g, rfl, by omega, q'⟩)
        · rw [c1, Bool.false_and, if_neg Bool.false_ne_true] at q'
          exact if_f rfl (S_end ⟨rfl, e, g, rfl, by omega, q'⟩)
      · obtain ⟨rfl, e, g, rfl, hl, q'⟩ := q'
        rw [List.length_map, List.drop_length, passE] at q'
        rw [q'] at q
        exact S_nil ⟨m, Nat.lt_succ_self m, rfl, e, g, rfl, by cases g with | true => exact q | false => exact Option.some.inj q⟩
    · rw [if_neg hsz] at q; cases q
end
noncomputable abbrev Fst := List (Str × List Str)
section
variable (tbl : Tbl) (emp : List Str) (fs : Fst)
mutual
noncomputable def firstP : Ex → Option (List Str)
  | .text s => some [s]
  | .name s => if (tbl.lookup s).isSome then fs.lookup s else some [s]
  | .opt e => firstP e
  | .rep e => firstP e
  | .seq es => loopF true es []
  | .alt es => loopF false es []
noncomputable def loopF (sq : Bool) : List Ex → List Str → Option (List Str)
  | [], acc => some acc
  | e :: es, acc => match firstP e with
    | none => none
    | some s => if acc.length + s.length ≤ 1000 then (if sq && !mayE emp e then some (mergeS acc s) else loopF sq es (mergeS acc s)) else none
end
theorem loopF_step {sq : Bool} {es : List Ex} {acc : List Str} {j : Nat} {e : Ex} (h : es[j]? = some e) : loopF tbl emp fs sq (es.drop j) acc = match firstP tbl emp fs e with
    | none => none
    | some s => if acc.length + s.length ≤ 1000 then (if sq && !mayE emp e then some (mergeS acc s) else loopF tbl emp fs sq (es.drop (j + 1)) (mergeS acc s)) else none := by
  rw [List.drop_eq_getElem_cons (List.getElem?_eq_some_iff.mp h).1, (List.getElem?_eq_some_iff.mp h).2, loopF]
end
noncomputable def Ex.alias (tbl : Tbl) : Ex → Bool
  | .name s => (tbl.lookup s).isSome
  | .opt e => e.alias tbl
  | .rep e => e.alias tbl
  | _ => false
noncomputable def SetSrc (w : World) (b : Kn) (own : List Ch) (v : Value) (s : List Str) : Prop := ∃ d, v = .ref d ∧ Src b own d (DicO (strKind pw w) d (setKvs s))
noncomputable def FrIn (w : World) (b : Kn) (own : List Ch) (v : Value) (fs : Fst) : Prop := ∃ df kvs, v = .ref df ∧ At b df (DicO (strKind pw w) df kvs) ∧ KvsIn (SetSrc w b own) kvs fs
theorem SetSrc.mono {w : World} {b b' : Kn} {own own' : List Ch} {v : Value} {s : List Str} (h : SetSrc w b own v s) (hb : b.le b') (ho : ∀ z ∈ own, z ∈ own') : SetSrc w b' own' v s := let ⟨d, e, q⟩ := h; ⟨d, e, q.mono hb ho⟩
theorem FrIn.mono {w : World} {b b' : Kn} {own own' : List Ch} {v : Value} {s : Fst} (h : FrIn w b own v s) (hb : b.le b') (ho : ∀ z ∈ own, z ∈ own') : FrIn w b' own' v s := let ⟨d, k, e, q, r⟩ := h; ⟨d, k, e, q.mono hb, r.mono fun _ _ q => q.mono hb ho⟩
noncomputable def FirstV (w : World) (tbl : Tbl) (b : Kn) (own : List Ch) (e : Ex) (v : Value) (s : List Str) : Prop := ∃ d, v = .ref d ∧ (At b d (DicO (strKind pw w) d (setKvs s)) ∨ (e.alias tbl = true ∧ Ch.of d (DicO (strKind pw w) d (setKvs s)) ∈ own))
theorem FirstV.src {w : World} {tbl : Tbl} {b : Kn} {own : List Ch} {e : Ex} {v : Value} {s : List Str} (h : FirstV w tbl b own e v s) : SetSrc w b own v s := let ⟨d, e, q⟩ := h; ⟨d, e, q.elim .inl fun q => .inr q.2⟩
section
variable {Z : Zc}
theorem merge_src {i : Nat} {x : Act Z i} {b : Kn} {own own₁ own' : List Ch} {t : Addr} {vs : Value} {T s : List Str} (hn : 1 ≤ x.n) (hs : SetSrc Z.w b own₁ vs s) (hm : ∀ z ∈ own₁, ∃ r r', Split own [z] r ∧ Put (SetC Z.w t T) (SetC Z.w t (mergeS T s)) r r' ∧ (z :: r').Perm own')
    (hp : Put (SetC Z.w t T) (SetC Z.w t (mergeS T s)) own own') (hsz : T.length + s.length ≤ sizeLine) {P : Value → Kn → List Ch → Prop}
    (h : P (.bool (decide (T.length < (mergeS T s).length))) b own') : Call x (.ref (Z.F 7)) [.ref t, vs] b own P := by
  obtain ⟨d, rfl, hs | hs⟩ := hs
  · exact merge_ok hn hs hsz hp h
  · obtain ⟨r, r', hr, hp', hl⟩ := hm _ hs
    intro us hus
    refine W.postperm (W.lend hr fun o b' hφ hb hbo => ?_)
    exact merge_ok (x := x.free) hn ⟨o, hbo, hφ⟩ hsz hp' ⟨rfl, own', hl, h⟩ us hus
theorem put_of_mem {c c' z : Ch} {y : Ch} {own₁ : List Ch} (hz : z ∈ own₁) : ∃ r r', Split (y :: c :: own₁) [z] r ∧ Put c c' r r' ∧ (z :: r').Perm (y :: c' :: own₁) := by
  obtain ⟨r, hr⟩ := Split.of_mem hz
  refine ⟨y :: c :: r, y :: c' :: r, .right (.right hr), .tail .head, ?_⟩
  exact (List.perm_middle (l₁ := [y, c']) (a := z) (l₂ := r)).symm.trans (((hr.perm).symm.cons c').cons y)
theorem first_of_ok (n : Nat) : ∀ {i : Nat} {x : Act Z i} {b : Kn} {own : List Ch} {ve vt vf : Value} {de : Addr} {e : Ex} {tbl : Tbl} {emp s : List Str} {fs : Fst} {P : Value → Kn → List Ch → Prop}, n + 1 ≤ x.n → e.dep ≤ n → ExIn b ve e → TblIn Z.w b vt tbl →
    At b de (DicO (strKind pw Z.w) de (setKvs emp)) → FrIn Z.w b own vf fs → firstP tbl emp fs e = some s → (∀ v b', b.le b' → FirstV Z.w tbl b' own e v s → P v b' own) → Call x (.ref (Z.F 11)) [ve, vt, .ref de, vf] b own P := by
  induction n with
  | zero => intro i x b own ve vt vf de e tbl emp s fs P hn hd; cases e <;> (simp [Ex.dep] at hd)
  | succ n ih =>
    intro i x b own ve vt vf de e tbl emp s fs P hn hd he ht hE hF hs h
    refine Call_fn [Str.ofString "e", Str.ofString "table", Str.ofString "empty", Str.ofString "firsts"] (by omega) (by decide) (fun vs hv _ _ _ _ _ _ => by obtain ⟨a, c, d, e, rfl⟩ := four_of hv; rfl) rfl rfl rfl (fun y hy => ?_)
    have hy' : n + 1 ≤ y.n := by omega
    refine S_if1 (T_val (E_fn 6 ?_))
    refine A_cons ?_
    refine E_name rfl ?_
    refine A_cons ?_
    refine E_name rfl ?_
    with_reducible refine A_nil ?_
    refine is_token_ok (by omega) he ht ⟨_, rfl, if_b (fun c => ?_) (fun c => ?_)⟩
    · have hs' : s = [tokenOf tbl e] := by
        cases e with
        | text z => simp only [firstP] at hs; exact (Option.some.inj hs).symm
        | name z => simp only [isToken, Bool.not_eq_true'] at c; simp only [firstP] at hs; rw [c, if_neg Bool.false_ne_true] at hs; simp only [tokenOf]; rw [c, if_neg Bool.false_ne_true]; exact (Option.some.inj hs).symm
        | _ => cases c
      subst hs'
      refine S_ret (W.postfreeze (E_dict1 fun d => E_fn 5 ?_))
      refine A_cons ?_
      refine E_name rfl ?_
      refine A_cons ?_
      refine E_name rfl ?_
      with_reducible refine A_nil ?_
      refine token_of_ok (by omega) he ht ?_
      with_reducible refine E_bool ?_
      refine ⟨_, _, rfl, .tail .head, ?_⟩
      refine ⟨_, _, _, .right (.left (Split.none _)), fun _ q => q, fun o b' hφ hb hbo => ret_ok (h _ b' hb ⟨d, rfl, .inl ⟨o, hbo, hφ⟩⟩)⟩
    · cases he with
      | text => cases c
      | @name a z ha =>
        simp only [isToken, Bool.not_eq_false'] at c
        simp only [firstP] at hs
        rw [if_pos c] at hs
        obtain ⟨df, kvs, rfl, hdf, hk⟩ := hF
        obtain ⟨v, hv, d, rfl, hsrc⟩ := hk.get hs
        refine S_asg ?_
        with_reducible refine E_sub ?_
        refine E_name rfl ?_
        with_reducible refine E_int ?_
        refine Item_tuple ha.ent rfl rfl ?_
        refine Sto_ok ?_
        with_reducible refine S_if1 ?_
        refine T_cmp ?_
        refine E_name rfl ?_
        with_reducible refine E_str ?_
        with_reducible refine Cmp_eqS ?_
        with_reducible refine ⟨_, rfl, ?_⟩
        refine if_t rfl ?_
        with_reducible refine S_ret ?_
        with_reducible refine E_sub ?_
        refine E_name rfl ?_
        with_reducible refine E_sub ?_
        refine E_name rfl ?_
        with_reducible refine E_int ?_
        refine Item_tuple ha.ent rfl rfl ?_
        refine Item_dict hdf.ent (keyS _ _) hv ?_ (fun key' hk => by obtain ⟨t, rfl⟩ := er_str hk; with_unfolding_all rfl)
        exact ret_ok (h _ b .rfl ⟨d, rfl, hsrc.imp id fun q => ⟨c, q⟩⟩)
      | @opt a ve' e' ha hx =>
        refine S_asg ?_
        with_reducible refine E_sub ?_
        refine E_name rfl ?_
        with_reducible refine E_int ?_
        refine Item_tuple ha.ent rfl rfl ?_
        refine Sto_ok ?_
        with_reducible refine S_if1 ?_
        refine T_cmp ?_
        refine E_name rfl ?_
        with_reducible refine E_str ?_
        with_reducible refine Cmp_eqS ?_
        with_reducible refine ⟨_, rfl, ?_⟩
        refine if_f rfl ?_
        with_reducible refine S_if1 ?_
        with_reducible refine T_bool ?_
        with_reducible refine TL_or ?_
        refine T_cmp ?_
        refine E_name rfl ?_
        with_reducible refine E_str ?_
        with_reducible refine Cmp_eqS ?_
        with_reducible refine ⟨_, rfl, ?_⟩
        refine if_t rfl ?_
        refine if_t rfl ?_
        with_reducible refine S_ret ?_
        refine E_fn 11 ?_
        refine A_cons ?_
        with_reducible refine E_sub ?_
        refine E_name rfl ?_
        with_reducible refine E_int ?_
        refine Item_tuple ha.ent rfl rfl ?_
        refine A_cons ?_
        refine E_name rfl ?_
        refine A_cons ?_
        refine E_name rfl ?_
        refine A_cons ?_
        refine E_name rfl ?_
        with_reducible refine A_nil ?_
        simp only [Ex.dep] at hd
        exact Call.frame (.right (Split.all _)) (ih (x := y.free) hy' (by omega) hx ht hE hF hs fun v b' hb q => ret_ok (h v b' hb q))
      | @rep a ve' e' ha hx =>
        refine S_asg ?_
        with_reducible refine E_sub ?_
        refine E_name rfl ?_
        with_reducible refine E_int ?_
        refine Item_tuple ha.ent rfl rfl ?_
        refine Sto_ok ?_
        with_reducible refine S_if1 ?_
        refine T_cmp ?_
        refine E_name rfl ?_
        with_reducible refine E_str ?_
        with_reducible refine Cmp_eqS ?_
        with_reducible refine ⟨_, rfl, ?_⟩
        refine if_f rfl ?_
        with_reducible refine S_if1 ?_
        with_reducible refine T_bool ?_
        with_reducible refine TL_or ?_
        refine T_cmp ?_
        refine E_name rfl ?_
        with_reducible refine E_str ?_
        with_reducible refine Cmp_eqS ?_
        with_reducible refine ⟨_, rfl, ?_⟩
        refine if_f rfl ?_
        with_reducible refine TL_or ?_
        refine T_cmp ?_
        refine E_name rfl ?_
        with_reducible refine E_str ?_
        with_reducible refine Cmp_eqS ?_
        with_reducible refine ⟨_, rfl, ?_⟩
        refine if_t rfl ?_
        refine if_t rfl ?_
        with_reducible refine S_ret ?_
        refine E_fn 11 ?_
        refine A_cons ?_
        with_reducible refine E_sub ?_
        refine E_name rfl ?_
        with_reducible refine E_int ?_
        refine Item_tuple ha.ent rfl rfl ?_
        refine A_cons ?_
        refine E_name rfl ?_
        refine A_cons ?_
        refine E_name rfl ?_
        refine A_cons ?_
        refine E_name rfl ?_
        with_reducible refine A_nil ?_
        simp only [Ex.dep] at hd
        exact Call.frame (.right (Split.all _)) (ih (x := y.free) hy' (by omega) hx ht hE hF hs fun v b' hb q => ret_ok (h v b' hb q))
      | @seq a c vs es ha hc hx =>
        simp only [firstP] at hs
        simp only [Ex.dep] at hd
        refine S_asg ?_
        with_reducible refine E_sub ?_
        refine E_name rfl ?_
        with_reducible refine E_int ?_
        refine Item_tuple ha.ent rfl rfl ?_
        refine Sto_ok ?_
        with_reducible refine S_if1 ?_
        refine T_cmp ?_
        refine E_name rfl ?_
        with_reducible refine E_str ?_
        with_reducible refine Cmp_eqS ?_
        with_reducible refine ⟨_, rfl, ?_⟩
        refine if_f rfl ?_
        with_reducible refine S_if1 ?_
        with_reducible refine T_bool ?_
        with_reducible refine TL_or ?_
        refine T_cmp ?_
        refine E_name rfl ?_
        with_reducible refine E_str ?_
        with_reducible refine Cmp_eqS ?_
        with_reducible refine ⟨_, rfl, ?_⟩
        refine if_f rfl ?_
        with_reducible refine TL_or ?_
        refine T_cmp ?_
        refine E_name rfl ?_
        with_reducible refine E_str ?_
        with_reducible refine Cmp_eqS ?_
        with_reducible refine ⟨_, rfl, ?_⟩
        refine if_f rfl ?_
        with_reducible refine TL_or0 ?_
        refine if_f rfl ?_
        refine S_asg ?_
        refine E_dict0 (strKind pw Z.w) fun df => ?_
        refine Sto_ok ?_
        refine S_for ?_
        with_reducible refine E_sub ?_
        refine E_name rfl ?_
        with_reducible refine E_int ?_
        refine Item_tuple ha.ent rfl rfl ?_
        refine Itr_tuple hc.ent fun I => ?_
        refine ForQ_tuple (fun j b' o' => b.le b' ∧ ∃ acc, o' = Ch.loc y.L [(Str.ofString "found", .ref df), (Str.ofString "tag", vS (Str.ofString "seq")), (Str.ofString "firsts", vf), (Str.ofString "empty", .ref de), (Str.ofString "table", vt), (Str.ofString "e", .ref a)] :: SetC Z.w df acc :: own ∧
          loopF tbl emp fs true (es.drop j) acc = some s) hc ⟨.rfl, [], rfl, hs⟩ (fun j u b' o' hu _ q => ?_) (fun b' o' _ q => ?_)
        · obtain ⟨hb, acc, rfl, q⟩ := q
          obtain ⟨e', he', hin⟩ := hx.get _ _ hu
          have hde : e'.dep ≤ n := by have := Ex.depL_get he'; omega
          rw [loopF_step tbl emp fs he'] at q
          cases hf : firstP tbl emp fs e' with
          | none => rw [hf] at q; cases q
          | some s' =>
            rw [hf] at q
            by_cases hsz : acc.length + s'.length ≤ 1000
            · simp only [if_pos hsz] at q
              have hsl : acc.length + s'.length ≤ sizeLine := by have : sizeLine = 2 ^ 24 := rfl; omega
              refine Asg_name (Sto_ok (S_exp (E_fn 7 ?_)))
              refine A_cons ?_
              refine E_name rfl ?_
              refine A_cons ?_
              refine E_fn 11 ?_
              refine A_cons ?_
              refine E_name rfl ?_
              refine A_cons ?_
              refine E_name rfl ?_
              refine A_cons ?_
              refine E_name rfl ?_
              refine A_cons ?_
              refine E_name rfl ?_
              with_reducible refine A_nil ?_
              refine Call.frame (.right (.right (Split.all _))) (ih (x := y.free.free) hy' hde (hin.mono hb) (ht.mono hb) (hE.mono hb) (hF.mono hb fun _ q => q) hf fun v b₂ hb₂ hv => A_nil ?_)
              refine merge_src (by show 1 ≤ y.n; omega) hv.src (fun z hz => put_of_mem hz) (.tail .head) hsl ⟨fun _ => nofun, ?_⟩
              refine S_if1 ?_
              with_reducible refine T_bool ?_
              with_reducible refine TL_and ?_
              refine T_cmp ?_
              refine E_name rfl ?_
              with_reducible refine E_str ?_
              with_reducible refine Cmp_eqS ?_
              with_reducible refine ⟨_, rfl, ?_⟩
              refine if_t rfl ?_
              with_reducible refine TL_and ?_
              with_reducible refine T_not ?_
              refine T_val ?_
              refine E_fn 9 ?_
              refine A_cons ?_
              refine E_name rfl ?_
              refine A_cons ?_
              refine E_name rfl ?_
              refine A_cons ?_
              refine E_name rfl ?_
              with_reducible refine A_nil ?_
              refine may_be_empty_ok n (by show n ≤ y.n; omega) hde (hin.mono (hb.trans hb₂)) (.inl (hE.mono (hb.trans hb₂))) ⟨_, rfl, ?_⟩
              refine if_b (fun c => ?_) (fun c => ?_)
              · rw [Bool.not_eq_true'] at c
                rw [c, if_pos (by rfl)] at q
                cases Option.some.inj q
                refine TL_and0 (if_t rfl (W.freeze (.right (.left (Split.none _))) (fun h q => q) fun o b₃ hφ hb₃ hbo => ?_))
                exact S_ret (E_name rfl (ret_ok (h _ b₃ (hb.trans (hb₂.trans hb₃)) ⟨df, rfl, .inl ⟨o, hbo, hφ⟩⟩)))
              · rw [Bool.not_eq_false'] at c
                rw [c, if_neg (by decide)] at q
                exact if_f rfl (S_end ⟨hb.trans hb₂, _, rfl, q⟩)
            · simp only [if_neg hsz] at q; cases q
        · obtain ⟨hb, acc, rfl, q⟩ := q
          rw [hx.length, List.drop_length, loopF] at q
          cases Option.some.inj q
          refine W.freeze (.right (.left (Split.none _))) (fun h q => q) fun o b₂ hφ hb₂ hbo => ?_
          exact S_ret (E_name rfl (ret_ok (h _ b₂ (hb.trans hb₂) ⟨df, rfl, .inl ⟨o, hbo, hφ⟩⟩)))
      | @alt a c vs es ha hc hx =>
        simp only [firstP] at hs
        simp only [Ex.dep] at hd
        refine S_asg ?_
        with_reducible refine E_sub ?_
        refine E_name rfl ?_
        with_reducible refine E_int ?_
        refine Item_tuple ha.ent rfl rfl ?_
        refine Sto_ok ?_
        with_reducible refine S_if1 ?_
        refine T_cmp ?_
        refine E_name rfl ?_
        with_reducible refine E_str ?_
        with_reducible refine Cmp_eqS ?_
        with_reducible refine ⟨_, rfl, ?_⟩
        refine if_f rfl ?_
        with_reducible refine S_if1 ?_
        with_reducible refine T_bool ?_
        with_reducible refine TL_or ?_
        refine T_cmp ?_
        refine E_name rfl ?_
        with_reducible refine E_str ?_
        with_reducible refine Cmp_eqS ?_
        with_reducible refine ⟨_, rfl, ?_⟩
        refine if_f rfl ?_
        with_reducible refine TL_or ?_
        refine T_cmp ?_
        refine E_name rfl ?_
        with_reducible refine E_str ?_
        with_reducible refine Cmp_eqS ?_
        with_reducible refine ⟨_, rfl, ?_⟩
        refine if_f rfl ?_
        with_reducible refine TL_or0 ?_
        refine if_f rfl ?_
        refine S_asg ?_
        refine E_dict0 (strKind pw Z.w) fun df => ?_
        refine Sto_ok ?_
        refine S_for ?_
        with_reducible refine E_sub ?_
        refine E_name rfl ?_
        with_reducible refine E_int ?_
        refine Item_tuple ha.ent rfl rfl ?_
        refine Itr_tuple hc.ent fun I => ?_
        refine ForQ_tuple (fun j b' o' => b.le b' ∧ ∃ acc, o' = Ch.loc y.L [(Str.ofString "found", .ref df), (Str.ofString "tag", vS (Str.ofString "alt")), (Str.ofString "firsts", vf), (Str.ofString "empty", .ref de), (Str.ofString "table", vt), (Str.ofString "e", .ref a)] :: SetC Z.w df acc :: own ∧
          loopF tbl emp fs false (es.drop j) acc = some s) hc ⟨.rfl, [], rfl, hs⟩ (fun j u b' o' hu _ q => ?_) (fun b' o' _ q => ?_)
        · obtain ⟨hb, acc, rfl, q⟩ := q
          obtain ⟨e', he', hin⟩ := hx.get _ _ hu
          have hde : e'.dep ≤ n := by have := Ex.depL_get he'; omega
          rw [loopF_step tbl emp fs he'] at q
          cases hf : firstP tbl emp fs e' with
          | none => rw [hf] at q; cases q
          | some s' =>
            rw [hf] at q
            by_cases hsz : acc.length + s'.length ≤ 1000
            · simp only [if_pos hsz] at q
              have hsl : acc.length + s'.length ≤ sizeLine := by have : sizeLine = 2 ^ 24 := rfl; omega
              refine Asg_name (Sto_ok (S_exp (E_fn 7 ?_)))
              refine A_cons ?_
              refine E_name rfl ?_
              refine A_cons ?_
              refine E_fn 11 ?_
              refine A_cons ?_
              refine E_name rfl ?_
              refine A_cons ?_
              refine E_name rfl ?_
              refine A_cons ?_
              refine E_name rfl ?_
              refine A_cons ?_
              refine E_name rfl ?_
              with_reducible refine A_nil ?_
              refine Call.frame (.right (.right (Split.all _))) (ih (x := y.free.free) hy' hde (hin.mono hb) (ht.mono hb) (hE.mono hb) (hF.mono hb fun _ q => q) hf fun v b₂ hb₂ hv => A_nil ?_)
              refine merge_src (by show 1 ≤ y.n; omega) hv.src (fun z hz => put_of_mem hz) (.tail .head) hsl ⟨fun _ => nofun, ?_⟩
              refine S_if1 ?_
              with_reducible refine T_bool ?_
              with_reducible refine TL_and ?_
              refine T_cmp ?_
              refine E_name rfl ?_
              with_reducible refine E_str ?_
              with_reducible refine Cmp_eqS ?_
              with_reducible refine ⟨_, rfl, ?_⟩
              refine if_f rfl ?_
              refine if_f rfl ?_
              rw [Bool.false_and, if_neg Bool.false_ne_true] at q
              exact S_end ⟨hb.trans hb₂, _, rfl, q⟩
            · simp only [if_neg hsz] at q; cases q
        · obtain ⟨hb, acc, rfl, q⟩ := q
          rw [hx.length, List.drop_length, loopF] at q
          cases Option.some.inj q
          refine W.freeze (.right (.left (Split.none _))) (fun h q => q) fun o b₂ hφ hb₂ hbo => ?_
          exact S_ret (E_name rfl (ret_ok (h _ b₂ (hb.trans hb₂) ⟨df, rfl, .inl ⟨o, hbo, hφ⟩⟩)))
end
noncomputable abbrev Row := Str × Addr × List Str
noncomputable def rowsC (w : World) (rows : List Row) : List Ch := rows.map fun r => SetC w r.2.1 r.2.2
noncomputable def rowsK (rows : List Row) : List (Str × Value) := rows.map fun r => (r.1, .ref r.2.1)
noncomputable def rowsF (rows : List Row) : Fst := rows.map fun r => (r.1, r.2.2)
noncomputable def updR : List Row → Str → List Str → List Row
  | [], _, _ => []
  | (k, d, s) :: r, n, t => if k = n then (k, d, t) :: r else (k, d, s) :: updR r n t
noncomputable def updF : Fst → Str → List Str → Fst
  | [], _, _ => []
  | (k, s) :: r, n, t => if k = n then (k, t) :: r else (k, s) :: updF r n t
theorem updR_F (rows : List Row) (n : Str) (t : List Str) : rowsF (updR rows n t) = updF (rowsF rows) n t := by
  induction rows with
  | nil => rfl
  | cons r rows ih =>
    obtain ⟨k, d, s⟩ := r
    show rowsF (if k = n then (k, d, t) :: rows else (k, d, s) :: updR rows n t) = if k = n then (k, t) :: rowsF rows else (k, s) :: updF (rowsF rows) n t
    split
    · rfl
    · show (k, s) :: rowsF _ = _; rw [ih]
theorem updR_K (rows : List Row) (n : Str) (t : List Str) : rowsK (updR rows n t) = rowsK rows := by
  induction rows with
  | nil => rfl
  | cons r rows ih =>
    obtain ⟨k, d, s⟩ := r
    show rowsK (if k = n then (k, d, t) :: rows else (k, d, s) :: updR rows n t) = (k, .ref d) :: rowsK rows
    split
    · rfl
    · show (k, .ref d) :: rowsK _ = _; rw [ih]
theorem rows_find {w : World} : ∀ {rows : List Row} {n : Str} {T : List Str}, (rowsF rows).lookup n = some T → ∃ d, valueAt (rowsK rows) n = some (.ref d) ∧ SetC w d T ∈ rowsC w rows ∧ ∀ t, Put (SetC w d T) (SetC w d t) (rowsC w rows) (rowsC w (updR rows n t))
  | [], n, T, h => by cases h
  | (k, d, s) :: rows, n, T, h => by
    change ((k, s) :: rowsF rows).lookup n = some T at h
    rw [List.lookup_cons] at h
    show ∃ d', valueAt ((k, .ref d) :: rowsK rows) n = some (.ref d') ∧ SetC w d' T ∈ SetC w d s :: rowsC w rows ∧ ∀ t, Put _ _ (SetC w d s :: rowsC w rows) (rowsC w (if k = n then (k, d, t) :: rows else (k, d, s) :: updR rows n t))
    by_cases e : k = n
    · subst e
      simp only [beq_self_eq_true, Option.some.injEq] at h
      subst h
      refine ⟨d, ?_, .head _, fun t => ?_⟩
      · unfold valueAt; simp
      · rw [if_pos rfl]; exact .head
    · rw [beq_eq_false_iff_ne.mpr (Ne.symm e)] at h
      obtain ⟨d', h1, h2, h3⟩ := rows_find (w := w) h
      refine ⟨d', ?_, .tail _ h2, fun t => ?_⟩
      · unfold valueAt at h1 ⊢; simpa [List.find?_cons, e] using h1
      · rw [if_neg e]; exact .tail (h3 t)
theorem rows_in {w : World} {b : Kn} {own : List Ch} : ∀ (rows : List Row), (∀ r ∈ rows, Src b own r.2.1 (DicO (strKind pw w) r.2.1 (setKvs r.2.2))) → KvsIn (SetSrc w b own) (rowsK rows) (rowsF rows)
  | [], _ => .nil
  | (k, d, s) :: rows, h => .cons ⟨d, rfl, h _ (.head _)⟩ (rows_in rows fun r hr => h r (.tail _ hr))
theorem rows_src {w : World} {b : Kn} (rows : List Row) : ∀ r ∈ rows, Src b (rowsC w rows) r.2.1 (DicO (strKind pw w) r.2.1 (setKvs r.2.2)) := fun r hr => .inr (List.mem_map_of_mem (f := fun r : Row => SetC w r.2.1 r.2.2) hr)
section
variable {Z : Zc} {i : Nat} {x : Act Z i}
theorem W.freezeRows {α β : Type} {R : α → β → Prop} {t : Sem α} {P : β → Kn → List Ch → Prop} {y : Ch} {r : List Ch} : ∀ {b : Kn} (rows : List Row), (∀ b', b.le b' → (∀ q ∈ rows, At b' q.2.1 (DicO (strKind pw Z.w) q.2.1 (setKvs q.2.2))) → W x R t b' (y :: r) P) → W x R t b (y :: (rowsC Z.w rows ++ r)) P
  | b, [], h => h b .rfl fun _ hq => by cases hq
  | b, (k, d, s) :: rows, h => W.freeze (y := SetC Z.w d s) (r := y :: (rowsC Z.w rows ++ r)) (.right (.left (Split.none _))) (fun h q => q) fun o b' hφ hb hbo =>
      W.freezeRows rows fun b'' hb' hq => h b'' (hb.trans hb') fun q hq' => by
        rcases List.mem_cons.mp hq' with rfl | m
        · exact ⟨o, hb' _ _ hbo, hφ⟩
        · exact hq q m
end
section
variable (tbl : Tbl) (emp ord : List Str)
noncomputable def stepF (s : Fst × Bool) (n : Str) : Option (Fst × Bool) :=
  match s.1.lookup n, tbl.lookup n with
  | some T, some e => match firstP tbl emp s.1 e with
    | some q => if T.length + q.length ≤ 1000 then some (updF s.1 n (mergeS T q), s.2 || decide (T.length < (mergeS T q).length)) else none
    | none => none
  | _, _ => none
noncomputable def passF : List Str → Fst × Bool → Option (Fst × Bool)
  | [], s => some s
  | n :: ns, s => match stepF tbl emp s n with
    | some s' => passF ns s'
    | none => none
noncomputable def firstsP : Nat → Fst → Option Fst
  | 0, _ => none
  | f + 1, fs => match passF tbl emp ord (fs, false) with
    | some (fs', g) => if g then firstsP f fs' else some fs'
    | none => none
theorem passF_step {ns : List Str} {j : Nat} {n : Str} {s : Fst × Bool} (h : ns[j]? = some n) : passF tbl emp (ns.drop j) s = match stepF tbl emp s n with
    | some s' => passF tbl emp (ns.drop (j + 1)) s'
    | none => none := by
  rw [List.drop_eq_getElem_cons (List.getElem?_eq_some_iff.mp h).1, (List.getElem?_eq_some_iff.mp h).2, passF]
end
noncomputable def fst0 (ord : List Str) : Fst := ord.map fun n => (n, [])
theorem stored_new {kvs : List (Str × Value)} {n : Str} {v : Value} (h : n ∉ kvs.map (·.1)) : stored kvs n v = kvs ++ [(n, v)] := by
  unfold stored
  rw [if_neg]
  intro q
  obtain ⟨p, hp, e⟩ := List.any_eq_true.mp q
  exact h (List.mem_map.mpr ⟨p, hp, of_decide_eq_true e⟩)
theorem rows_names (rows : List Row) : (rowsK rows).map (·.1) = (rowsF rows).map (·.1) := by unfold rowsK rowsF; rw [List.map_map, List.map_map]; rfl
theorem fst0_names (ord : List Str) : (fst0 ord).map (·.1) = ord := by unfold fst0; rw [List.map_map]; exact List.map_id' ord
theorem rows_more {rows : List Row} {ord : List Str} {j : Nat} {n : Str} (nd : ord.Nodup) (hn : ord[j]? = some n) (h : rowsF rows = fst0 (ord.take j)) (d : Addr) :
    stored (rowsK rows) n (.ref d) = rowsK (rows ++ [(n, d, [])]) ∧ rowsF (rows ++ [(n, d, [])]) = fst0 (ord.take (j + 1)) := by
  constructor
  · rw [stored_new]
    · unfold rowsK; rw [List.map_append]; rfl
    · rw [rows_names, h, fst0_names]
      intro q
      obtain ⟨k, hk, e⟩ := List.mem_take_iff_getElem.mp q
      have := (List.getElem?_eq_some_iff.mp hn)
      obtain ⟨h1, h2⟩ := this
      have := (List.getElem_inj nd).mp (e.trans h2.symm)
      omega
  · unfold rowsF at h ⊢
    rw [List.map_append, h, List.take_add_one, hn]
    unfold fst0; rw [List.map_append]; rfl
theorem perm3 (a c d : Ch) (r : List Ch) : (a :: d :: (r ++ [c])).Perm (a :: c :: d :: r) :=
  ((List.perm_append_comm (l₁ := d :: r) (l₂ := [c]))).cons a
section
variable {Z : Zc} {i : Nat} {x : Act Z i} {b : Kn} {own : List Ch}
theorem first_rows_ok {D fuel : Nat} {vt : Value} {lo de : Addr} {tbl : Tbl} {ord emp : List Str} {fs : Fst} {P : Value → Kn → List Ch → Prop} (hn : D + 3 ≤ x.n) (ht : TblIn Z.w b vt tbl) (hD : tbl.Le D) (hal : ∀ n e, tbl.lookup n = some e → e.alias tbl = false)
    (ho : At b lo (LstO (ord.map vS))) (nd : ord.Nodup) (hE : At b de (DicO (strKind pw Z.w) de (setKvs emp))) (hsz : ord.length ≤ 1000)
    (hf : firstsP tbl emp ord fuel (fst0 ord) = some fs) (h : ∀ v b', b.le b' → FrIn Z.w b' [] v fs → P v b' own) : Call x (.ref (Z.F 12)) [vt, .ref lo, .ref de] b own P := by
  refine Call.alone ?_
  refine Call_fn [Str.ofString "table", Str.ofString "order", Str.ofString "empty"] (by show 1 ≤ x.n; omega) (by decide) (fun vs hv _ _ _ _ _ _ => by obtain ⟨a, c, d, rfl⟩ := three_of hv; rfl) rfl rfl rfl (fun y hy => ?_)
  have hy' : D + 2 ≤ y.n := by have : y.n + 1 = x.n := hy; omega
  refine S_asg (E_dict0 (strKind pw Z.w) fun df => ?_)
  refine Sto_ok ?_
  refine S_for ?_
  refine E_name rfl ?_
  refine Itr_list ho.ent fun I => ?_
  refine ForQ_list (fun j b' o' => b' = b ∧ ∃ rows, o' = Ch.loc y.L [(Str.ofString "firsts", .ref df), (Str.ofString "empty", .ref de), (Str.ofString "order", .ref lo), (Str.ofString "table", vt)] :: Ch.of df (DicO (strKind pw Z.w) df (rowsK rows)) :: rowsC Z.w rows ∧
    rowsF rows = fst0 (ord.take j)) ⟨rfl, [], rfl, rfl⟩ (fun j b' o' hb _ => .inl (ho.mono hb)) (fun j u b' o' hu _ q' => ?_) (fun b' o' _ q' => ?_)
  · obtain ⟨rfl, rows, rfl, q⟩ := q'
    obtain ⟨n, hn', rfl⟩ := names_get hu
    refine Asg_name (Sto_ok (S_seti (E_dict0 (strKind pw Z.w) fun d => ?_)))
    obtain ⟨h1, h2⟩ := rows_more nd hn' q d
    have h3 : rowsC Z.w (rows ++ [(n, d, [])]) = rowsC Z.w rows ++ [SetC Z.w d []] := by unfold rowsC; rw [List.map_append]; rfl
    refine E_name rfl ?_
    refine E_name rfl ?_
    refine SetI_dict (.tail (.tail .head)) (keyS _ _) ?_ ?_
    · have : (rowsK rows).length = (rowsF rows).length := by rw [← List.length_map (f := (·.1)), rows_names, List.length_map]
      rw [this, q, fst0, List.length_map, List.length_take]
      have : sizeLine = 2 ^ 24 := rfl
      omega
    · rw [h1]
      exact W.perm (perm3 _ _ _ _) (S_end ⟨rfl, rows ++ [(n, d, [])], by rw [h3]; rfl, h2⟩)
  · obtain ⟨rfl, rows, rfl, q⟩ := q'
    rw [List.length_map, List.take_length] at q
    refine W.freeze (.right (.left (Split.none _))) (fun h q => q) fun o b₁ hφ hb₁ hbo => ?_
    have hdf : At b₁ df (DicO (strKind pw Z.w) df (rowsK rows)) := ⟨o, hbo, hφ⟩
    refine S_asg ?_
    with_reducible refine E_bool ?_
    refine Sto_ok ?_
    refine S_while (fun m b' o' => ∃ rs g, o' = Ch.loc y.L [(Str.ofString "grown", .bool g), (Str.ofString "firsts", .ref df), (Str.ofString "empty", .ref de), (Str.ofString "order", .ref lo), (Str.ofString "table", vt)] :: rowsC Z.w rs ∧ rowsK rs = rowsK rows ∧ b₁.le b' ∧
      (if g then firstsP tbl emp ord m (rowsF rs) = some fs else rowsF rs = fs)) fuel ⟨rows, true, rfl, rfl, .rfl, by rw [q]; exact hf⟩ (fun m b₂ o₁ _ q => ?_)
    obtain ⟨rs, g, rfl, hK, hb₂, q⟩ := q
    refine T_val ?_
    refine E_name rfl ?_
    with_reducible refine ⟨_, rfl, ?_⟩
    cases g with
    | false =>
      refine if_f rfl ?_
      have q : rowsF rs = fs := q
      subst q
      rw [← List.append_nil (rowsC Z.w rs)]
      refine W.freezeRows rs fun b₃ hb₃ hq => ?_
      refine S_ret (E_name rfl (ret_ok ⟨rfl, h _ b₃ (hb₁.trans (hb₂.trans hb₃)) ⟨df, rowsK rs, rfl, ?_, rows_in rs fun r hr => .inl (hq r hr)⟩⟩))
      rw [hK]; exact hdf.mono (hb₂.trans hb₃)
    | true =>
      refine if_t rfl ?_
      have q : firstsP tbl emp ord m (rowsF rs) = some fs := q
      obtain ⟨m, rfl⟩ : ∃ k, m = k + 1 := by cases m with | zero => simp [firstsP] at q | succ k => exact ⟨k, rfl⟩
      rw [firstsP] at q
      refine S_asg (E_bool (Sto_ok (S_names (l' := [(Str.ofString "grown", .bool false), (Str.ofString "firsts", .ref df), (Str.ofString "empty", .ref de), (Str.ofString "order", .ref lo), (Str.ofString "table", vt)]) ?_)))
      refine S_for ?_
      refine E_name rfl ?_
      refine Itr_list (ho.mono (hb₁.trans hb₂)).ent fun I => ?_
      refine ForQ_list (fun j b' o' => ∃ r g, o' = Ch.loc y.L [(Str.ofString "grown", .bool g), (Str.ofString "firsts", .ref df), (Str.ofString "empty", .ref de), (Str.ofString "order", .ref lo), (Str.ofString "table", vt)] :: rowsC Z.w r ∧ rowsK r = rowsK rows ∧ b₁.le b' ∧
        passF tbl emp ord (rowsF rs, false) = passF tbl emp (ord.drop j) (rowsF r, g)) ⟨rs, false, rfl, hK, hb₂, rfl⟩ (fun j b' o' hb _ => .inl (ho.mono (hb₁.trans (hb₂.trans hb)))) (fun j u b' o' hu hb q' => ?_) (fun b' o' hb q' => ?_)
      · obtain ⟨r, g, rfl, hK', hb₃, q'⟩ := q'
        obtain ⟨n, hn', rfl⟩ := names_get hu
        rw [passF_step tbl emp hn', stepF] at q'
        have hbb := hb₁.trans hb₃
        cases h1 : (rowsF r).lookup n with
        | none => rw [h1] at q'; rw [q'] at q; cases q
        | some T =>
          cases h2 : tbl.lookup n with
          | none => rw [h1, h2] at q'; rw [q'] at q; cases q
          | some e =>
            simp only [h1, h2] at q'
            cases h3 : firstP tbl emp (rowsF r) e with
            | none => simp only [h3] at q'; rw [q'] at q; cases q
            | some s =>
              simp only [h3] at q'
              by_cases hT : T.length + s.length ≤ 1000
              · simp only [if_pos hT] at q'
                obtain ⟨d, r1, r2, r3⟩ := rows_find (w := Z.w) h1
                refine Asg_name (Sto_ok (S_if1 (T_val (E_fn 7 ?_))))
                refine A_cons ?_
                with_reducible refine E_sub ?_
                refine E_name rfl ?_
                refine E_name rfl ?_
                refine Item_dict (hdf.mono hb₃).ent (keyS _ _) (by rw [← hK']; exact r1) ?_ (fun key' hk => by obtain ⟨t, rfl⟩ := er_str hk; with_unfolding_all rfl)
                refine A_cons ?_
                refine E_fn 11 ?_
                refine A_cons ?_
                with_reducible refine E_sub ?_
                refine E_name rfl ?_
                refine E_name rfl ?_
                refine tbl_item (ht.mono hbb) h2 fun v hv => ?_
                refine A_cons ?_
                refine E_name rfl ?_
                refine A_cons ?_
                refine E_name rfl ?_
                refine A_cons ?_
                refine E_name rfl ?_
                with_reducible refine A_nil ?_
                refine Call.frame (.right (Split.all _)) (first_of_ok D (x := y.free.free) (by show D + 1 ≤ y.n; omega) (hD n e h2) hv (ht.mono hbb) (hE.mono hbb) ⟨df, rowsK r, rfl, by rw [hK']; exact hdf.mono hb₃, rows_in r (rows_src r)⟩ h3 fun v b₄ hb₄ hv => A_nil ?_)
                obtain ⟨d', rfl, hv | hv⟩ := hv
                · refine merge_ok (by show 1 ≤ y.n; omega) hv (by have : sizeLine = 2 ^ 24 := rfl; omega) (.tail (r3 _)) ⟨_, rfl, if_b (fun c => ?_) (fun c => ?_)⟩
                  · rw [c, Bool.or_true] at q'
                    exact S_asg (E_bool (Sto_ok (S_nil (S_end ⟨updR r n (mergeS T s), true, rfl, by rw [updR_K]; exact hK', hb₃.trans hb₄, by rw [updR_F]; exact q'⟩))))
                  · rw [c, Bool.or_false] at q'
                    exact S_end ⟨updR r n (mergeS T s), g, rfl, by rw [updR_K]; exact hK', hb₃.trans hb₄, by rw [updR_F]; exact q'⟩
                · rw [hal n e h2] at hv; cases hv.1
              · simp only [if_neg hT] at q'; rw [q'] at q; cases q
      · obtain ⟨r, g, rfl, hK', hb₃, q'⟩ := q'
        rw [List.length_map, List.drop_length, passF] at q'
        rw [q'] at q
        refine S_nil ⟨m, Nat.lt_succ_self m, r, g, rfl, hK', hb₃, ?_⟩
        cases g with
        | true => exact q
        | false => exact Option.some.inj q
end
structure GrD (Z : Zc) (b : Kn) (own : List Ch) (g dx lo de : Addr) (as : List (Str × Value)) (vt vf : Value) (st : Str) (ord : List Str) (tbl : Tbl) (emp : List Str) (fs : Fst) : Prop where
  g : At b g (InstO Z.G dx)
  d : Src b own dx (AttO as)
  a1 : as.lookup (Str.ofString "start") = some (vS st)
  a2 : as.lookup (Str.ofString "order") = some (.ref lo)
  o : At b lo (LstO (ord.map vS))
  a3 : as.lookup (Str.ofString "table") = some vt
  t : TblIn Z.w b vt tbl
  a4 : as.lookup (Str.ofString "empty") = some (.ref de)
  e : At b de (DicO (strKind pw Z.w) de (setKvs emp))
  a5 : as.lookup (Str.ofString "firsts") = some vf
  f : FrIn Z.w b [] vf fs
  n1 : as.lookup (Str.ofString "nullable") = none
  n2 : as.lookup (Str.ofString "first") = none
  n3 : as.lookup (Str.ofString "predict") = none
noncomputable def Gr (Z : Zc) (b : Kn) (own : List Ch) (g : Addr) (st : Str) (ord : List Str) (tbl : Tbl) (emp : List Str) (fs : Fst) : Prop := ∃ dx lo de as vt vf, GrD Z b own g dx lo de as vt vf st ord tbl emp fs
theorem GrD.mono {Z : Zc} {b b' : Kn} {own own' : List Ch} {g dx lo de : Addr} {as : List (Str × Value)} {vt vf : Value} {st : Str} {ord : List Str} {tbl : Tbl} {emp : List Str} {fs : Fst} (q : GrD Z b own g dx lo de as vt vf st ord tbl emp fs)
    (hb : b.le b') (ho : ∀ z ∈ own, z ∈ own') : GrD Z b' own' g dx lo de as vt vf st ord tbl emp fs :=
  ⟨q.g.mono hb, q.d.mono hb ho, q.a1, q.a2, q.o.mono hb, q.a3, q.t.mono hb, q.a4, q.e.mono hb, q.a5, q.f.mono hb fun _ h => h, q.n1, q.n2, q.n3⟩
theorem Gr.mono {Z : Zc} {b b' : Kn} {own own' : List Ch} {g : Addr} {st : Str} {ord : List Str} {tbl : Tbl} {emp : List Str} {fs : Fst} (q : Gr Z b own g st ord tbl emp fs)
    (hb : b.le b') (ho : ∀ z ∈ own, z ∈ own') : Gr Z b' own' g st ord tbl emp fs := let ⟨dx, lo, de, as, vt, vf, q⟩ := q; ⟨dx, lo, de, as, vt, vf, q.mono hb ho⟩
section
variable {Z : Zc} {i : Nat} {x : Act Z i} {b : Kn} {own : List Ch} {g : Addr} {st : Str} {ord : List Str} {tbl : Tbl} {emp : List Str} {fs : Fst} {ve : Value} {e : Ex} {P : Value → Kn → List Ch → Prop}
theorem Call_dict {y : Ch} {r : List Ch} {d : Addr} {kvs : List (Str × Value)} (hd : Ent Z.h₀ b (y :: r) d (DicO (strKind pw Z.w) d kvs)) (hsz : kvs.length ≤ sizeLine) (h : ∀ d', P (.ref d') b (y :: Ch.of d' (DicO (strKind pw Z.w) d' kvs) :: r)) : Call x (.type "dict") [.ref d] b (y :: r) P := fun vs hvs => by
  obtain ⟨v, rfl, hv⟩ : ∃ v, vs = [v] ∧ er v = .ref d := by cases vs with | nil => cases hvs | cons v r => cases r with | nil => simp at hvs; exact ⟨v, rfl, hvs⟩ | cons _ _ => simp at hvs
  obtain rfl := er_ref hv
  refine W.alloc (v := .ref) (u := .ref) (φ := fun d' => DicO (strKind pw Z.w) d' kvs) (fun _ => rfl) (fun s Q E ok k => ?_) h
  obtain ⟨h1, kvs', h2, e⟩ := dict_of (hd _ ok)
  refine kt_call_dict h1 h2 (by rw [← List.length_map (f := fun p : Str × Value => (p.1, er p.2)), e]; exact hsz) fun h' hd' hs => ?_
  obtain ⟨o, ho, hq⟩ := Heap.dictOf_iff.mp hd'
  exact k _ h' o s.toks (fresh_size _) (fun c ob e => (hs.2 c (Nat.ne_of_lt (Heap.lt_size e))).trans (Heap.get?_push_of_some _ e)) ho ⟨ok.notMods, kvs', hq, e⟩
theorem nullable_ok (hn : e.dep + 1 ≤ x.n) (hg : Gr Z b own g st ord tbl emp fs) (he : ExIn b ve e) (h : P (.bool (mayE emp e)) b own) : Call x (.ref (Z.F 208)) [.ref g, ve] b own P := by
  obtain ⟨dx, lo, de, as, vt, vf, hg⟩ := hg
  refine Call_fn [Str.ofString "self", Str.ofString "e"] (by omega) (by decide) (fun vs hv _ _ _ _ _ _ => by obtain ⟨a, c, rfl⟩ := two_of hv; rfl) rfl rfl rfl (fun y hy => ?_)
  refine S_ret (E_fn 9 ?_)
  refine A_cons ?_
  refine E_name rfl ?_
  refine A_cons ?_
  refine E_attr ?_
  refine E_name rfl ?_
  refine GetA_inst Z.ok.cG hg.g hg.d.tail hg.a3 ?_
  refine A_cons ?_
  refine E_attr ?_
  refine E_name rfl ?_
  refine GetA_inst Z.ok.cG hg.g hg.d.tail hg.a4 ?_
  with_reducible refine A_nil ?_
  exact may_be_empty_ok e.dep (by omega) (Nat.le_refl _) he (.inl hg.e) (ret_ok h)
theorem first_ok {s : List Str} (hn : e.dep + 2 ≤ x.n) (hg : Gr Z b own g st ord tbl emp fs) (he : ExIn b ve e) (hs : firstP tbl emp fs e = some s) (hsz : s.length ≤ sizeLine) (h : ∀ d b', b.le b' → P (.ref d) b' (SetC Z.w d s :: own)) : Call x (.ref (Z.F 308)) [.ref g, ve] b own P := by
  obtain ⟨dx, lo, de, as, vt, vf, hg⟩ := hg
  refine Call_fn [Str.ofString "self", Str.ofString "e"] (by omega) (by decide) (fun vs hv _ _ _ _ _ _ => by obtain ⟨a, c, rfl⟩ := two_of hv; rfl) rfl rfl rfl (fun y hy => ?_)
  refine S_ret (E_ty (Z.ok.bt "dict" (by decide)) (A_cons (E_fn 11 ?_)))
  refine A_cons ?_
  refine E_name rfl ?_
  refine A_cons ?_
  refine E_attr ?_
  refine E_name rfl ?_
  refine GetA_inst Z.ok.cG hg.g hg.d.tail hg.a3 ?_
  refine A_cons ?_
  refine E_attr ?_
  refine E_name rfl ?_
  refine GetA_inst Z.ok.cG hg.g hg.d.tail hg.a4 ?_
  refine A_cons ?_
  refine E_attr ?_
  refine E_name rfl ?_
  refine GetA_inst Z.ok.cG hg.g hg.d.tail hg.a5 ?_
  with_reducible refine A_nil ?_
  refine first_of_ok e.dep (by omega) (Nat.le_refl _) he hg.t hg.e (hg.f.mono .rfl fun _ h => by cases h) hs fun v b' hb hv => A_nil ?_
  obtain ⟨d, rfl, hd⟩ := hv.src
  exact Call_dict hd.ent (by rw [len_set]; exact hsz) fun d' => ret_ok (h d' b' hb)
noncomputable def predictP (tbl : Tbl) (emp : List Str) (fs : Fst) (e : Ex) (after : List Str) : Option (List Str) :=
  match firstP tbl emp fs e with
  | none => none
  | some s => if s.length + after.length ≤ 1000 then some (if mayE emp e then mergeS s after else s) else none
theorem predict_ok {va : Value} {after s : List Str} (hn : e.dep + 3 ≤ x.n) (hg : Gr Z b own g st ord tbl emp fs) (he : ExIn b ve e) (ha : SetSrc Z.w b own va after) (hs : predictP tbl emp fs e after = some s) (h : ∀ d b', b.le b' → P (.ref d) b' (SetC Z.w d s :: own)) : Call x (.ref (Z.F 408)) [.ref g, ve, va] b own P := by
  obtain ⟨dx, lo, de, as, vt, vf, hg⟩ := hg
  refine Call_fn [Str.ofString "self", Str.ofString "e", Str.ofString "after"] (by omega) (by decide) (fun vs hv _ _ _ _ _ _ => by obtain ⟨a, c, d, rfl⟩ := three_of hv; rfl) rfl rfl rfl (fun y hy => ?_)
  unfold predictP at hs
  cases hf : firstP tbl emp fs e with
  | none => rw [hf] at hs; cases hs
  | some s₀ =>
    rw [hf] at hs
    by_cases hsz : s₀.length + after.length ≤ 1000
    · simp only [if_pos hsz, Option.some.injEq] at hs
      have sl : sizeLine = 2 ^ 24 := rfl
      refine S_asg (E_meth Z.ok.cG 308 ?_)
      refine E_name rfl ?_
      refine ⟨g, dx, as, rfl, hg.g, hg.d.tail, hg.n2, ?_⟩
      refine A_cons ?_
      refine E_name rfl ?_
      with_reducible refine A_nil ?_
      refine first_ok (by omega) (.intro _ ⟨_, _, _, _, _, hg.mono .rfl fun _ h => .tail _ h⟩) he hf (by omega) fun d b₁ hb₁ => ?_
      refine Sto.perm (.swap _ _ _) (Sto_ok (S_if1 (T_val (E_meth Z.ok.cG 208 ?_))))
      refine E_name rfl ?_
      have hg₁ := hg.mono hb₁ (own' := Ch.loc y.L [(Str.ofString "found", .ref d), (Str.ofString "after", va), (Str.ofString "e", ve), (Str.ofString "self", .ref g)] :: SetC Z.w d s₀ :: own) fun _ h => .tail _ (.tail _ h)
      refine ⟨g, dx, as, rfl, hg₁.g, hg₁.d, hg₁.n1, ?_⟩
      refine A_cons ?_
      refine E_name rfl ?_
      with_reducible refine A_nil ?_
      refine nullable_ok (by omega) (.intro _ ⟨_, _, _, _, _, hg₁⟩) (he.mono hb₁) ⟨_, rfl, if_b (fun c => ?_) (fun c => ?_)⟩
      · rw [c, if_pos rfl] at hs
        subst hs
        refine S_exp (E_fn 7 ?_)
        refine A_cons ?_
        refine E_name rfl ?_
        refine A_cons ?_
        refine E_name rfl ?_
        with_reducible refine A_nil ?_
        refine merge_src (by omega) (ha.mono hb₁ fun _ h => h) (fun z hz => put_of_mem hz) (.tail .head) (by omega) ⟨fun _ => nofun, ?_⟩
        exact S_nil (S_ret (E_name rfl (ret_ok (h d b₁ hb₁))))
      · rw [c, if_neg Bool.false_ne_true] at hs
        subst hs
        exact S_ret (E_name rfl (ret_ok (h d b₁ hb₁)))
    · simp only [if_neg hsz] at hs; cases hs
end
inductive Aft where
  | row (n : Str)
  | set (s : List Str)
  deriving DecidableEq
noncomputable def Aft.val (fo : Fst) : Aft → Option (List Str)
  | .row n => fo.lookup n
  | .set s => some s
noncomputable def AftIn (w : World) (b : Kn) (rows : List Row) (v : Value) : Aft → Prop
  | .row n => valueAt (rowsK rows) n = some v
  | .set s => SetIn w b v s
theorem AftIn.mono {w : World} {b b' : Kn} {rows : List Row} {v : Value} {a : Aft} (h : AftIn w b rows v a) (hb : b.le b') : AftIn w b' rows v a := by
  cases a with
  | row n => exact h
  | set s => exact SetIn.mono h hb
theorem AftIn.rows {w : World} {b : Kn} {rows rows' : List Row} {v : Value} {a : Aft} (h : AftIn w b rows v a) (hK : rowsK rows' = rowsK rows) : AftIn w b rows' v a := by
  cases a with
  | row n => show valueAt (rowsK rows') n = _; rw [hK]; exact h
  | set s => exact h
theorem AftIn.src {w : World} {b : Kn} {own : List Ch} {rows : List Row} {v : Value} {a : Aft} {s : List Str} (h : AftIn w b rows v a) (hs : a.val (rowsF rows) = some s) (ho : ∀ z ∈ rowsC w rows, z ∈ own) : SetSrc w b own v s := by
  cases a with
  | row n =>
    obtain ⟨d, h1, h2, _⟩ := rows_find (w := w) hs
    have h : valueAt (rowsK rows) n = some v := h
    rw [h1] at h; cases h
    exact ⟨d, rfl, .inr (ho _ h2)⟩
  | set s' => cases hs; obtain ⟨d, rfl, q⟩ := h; exact ⟨d, rfl, .inl q⟩
section
variable (tbl : Tbl) (emp : List Str) (fs fo : Fst)
noncomputable def behind1 (sq : Bool) (e : Ex) (a : Aft) : Option Aft :=
  if sq then match a.val fo with
    | some s => match predictP tbl emp fs e s with
      | some q => some (.set q)
      | none => none
    | none => none
  else some a
noncomputable def behinds (sq : Bool) : List Ex → Aft → Option (Aft × List Aft)
  | [], a => some (a, [])
  | e :: es, a => match behinds sq es a with
    | none => none
    | some (a1, l) => match behind1 tbl emp fs fo sq e a1 with
      | none => none
      | some a2 => some (a2, a1 :: l)
theorem behinds_drop {sq : Bool} {a : Aft} : ∀ {es : List Ex} {r : Aft × List Aft}, behinds tbl emp fs fo sq es a = some r → ∀ k, ∃ r', behinds tbl emp fs fo sq (es.drop k) a = some r'
  | es, r, h, 0 => ⟨r, h⟩
  | [], r, h, k + 1 => ⟨r, h⟩
  | e :: es, r, h, k + 1 => by
    rw [behinds] at h
    cases q : behinds tbl emp fs fo sq es a with
    | none => rw [q] at h; cases h
    | some r' => exact behinds_drop q k
end
inductive PartsIn (w : World) (b : Kn) (rows : List Row) : List Value → List Ex → List Aft → Prop
  | nil : PartsIn w b rows [] [] []
  | cons {t ve va e a vs es as} : At b t (TupO [ve, va]) → ExIn b ve e → AftIn w b rows va a → PartsIn w b rows vs es as → PartsIn w b rows (.ref t :: vs) (e :: es) (a :: as)
theorem PartsIn.mono {w : World} {b b' : Kn} {rows : List Row} (hb : b.le b') {vs : List Value} {es : List Ex} {as : List Aft} (h : PartsIn w b rows vs es as) : PartsIn w b' rows vs es as := by
  induction h with
  | nil => exact .nil
  | cons h1 h2 h3 _ ih => exact .cons (h1.mono hb) (h2.mono hb) (h3.mono hb) ih
theorem PartsIn.len {w : World} {b : Kn} {rows : List Row} {vs : List Value} {es : List Ex} {as : List Aft} (h : PartsIn w b rows vs es as) : vs.length = es.length := by
  induction h with
  | nil => rfl
  | cons _ _ _ _ ih => simp [ih]
section
variable {Z : Zc} {i : Nat} {x : Act Z i} {b : Kn} {own : List Ch} {g : Addr} {st : Str} {ord : List Str} {tbl : Tbl} {emp : List Str} {fs : Fst} {P : Value → Kn → List Ch → Prop}
theorem parts_ok {D : Nat} {a₀ c : Addr} {tag : Str} {va : Value} {vs : List Value} {es : List Ex} {sq : Bool} {rows : List Row} {af : Aft} {r : Aft × List Aft} (hn : D + 4 ≤ x.n) (hg : Gr Z b own g st ord tbl emp fs) (hr : ∀ z ∈ rowsC Z.w rows, z ∈ own)
    (ha : At b a₀ (TupO [vS tag, .ref c])) (hc : At b c (TupO vs)) (hx : ExsIn b vs es) (hd : ∀ e ∈ es, e.dep ≤ D) (hsq : sq = (tag == Str.ofString "seq")) (hsz : es.length ≤ 1000) (haf : AftIn Z.w b rows va af) (hp : behinds tbl emp fs (rowsF rows) sq es af = some r)
    (h : ∀ l ws b', b.le b' → At b' l (LstO ws) → PartsIn Z.w b' rows ws es r.2 → P (.ref l) b' own) : Call x (.ref (Z.F 15)) [.ref g, .ref a₀, va] b own P := by
  refine Call_fn [Str.ofString "grammar", Str.ofString "e", Str.ofString "after"] (by omega) (by decide) (fun vs hv _ _ _ _ _ _ => by obtain ⟨a, c, d, rfl⟩ := three_of hv; rfl) rfl rfl rfl (fun y hy => ?_)
  have sl : sizeLine = 2 ^ 24 := rfl
  have vl := hx.length
  refine S_asg (E_list0 fun fl => ?_)
  refine Sto_ok ?_
  refine S_asg ?_
  refine E_name rfl ?_
  refine Sto_ok ?_
  refine S_for ?_
  refine E_ty (Z.ok.bt "reversed" (by decide)) ?_
  refine A_cons ?_
  with_reducible refine E_sub ?_
  refine E_name rfl ?_
  with_reducible refine E_int ?_
  refine Item_tuple ha.ent rfl rfl ?_
  with_reducible refine A_nil ?_
  refine Call_rev hc.ent (by omega) fun I => ?_
  refine Itr_rev (Ent.own (.tail _ (.head _))) ?_
  refine ⟨I, _, _, _, _, _, fun j b' o' => b.le b' ∧ ∃ vb ab las ws, o' = Ch.loc y.L [(Str.ofString "behind", vb), (Str.ofString "found", .ref fl), (Str.ofString "after", va), (Str.ofString "e", .ref a₀), (Str.ofString "grammar", .ref g)] :: Ch.of fl (LstO ws) :: own ∧
      AftIn Z.w b' rows vb ab ∧ behinds tbl emp fs (rowsF rows) sq (es.drop (es.length - j)) af = some (ab, las) ∧ PartsIn Z.w b' rows ws.reverse (es.drop (es.length - j)) las,
    rfl, .right (.left (Split.none _)), itk_rev (us := vs) (t := c) (by omega), ⟨.rfl, va, af, [], [], rfl, haf, ?_, ?_⟩, fun j b' o' hb q => (hc.mono hb).ent, fun j u b' o' hj hu hb q => ?_, fun b' o' hb q => ?_⟩
  · rw [Nat.sub_zero, List.drop_length]; rfl
  · rw [Nat.sub_zero, List.drop_length]; exact .nil
  · obtain ⟨_, vb, ab, las, ws, rfl, q1, q2, q3⟩ := q
    rw [vl] at hu hj
    obtain ⟨e', he', hin⟩ := hx.get _ _ hu
    have hmem : e' ∈ es := List.mem_of_getElem? he'
    have hdrop : es.drop (es.length - (j + 1)) = e' :: es.drop (es.length - j) := by
      have e1 : es.length - (j + 1) = es.length - 1 - j := by rw [Nat.sub_sub, Nat.add_comm 1 j]
      rw [e1, List.drop_eq_getElem_cons (List.getElem?_eq_some_iff.mp he').1, (List.getElem?_eq_some_iff.mp he').2, ← e1, show es.length - (j + 1) + 1 = es.length - j from Nat.sub_add_cancel (Nat.sub_pos_of_lt hj)]
    obtain ⟨r', hr'⟩ := behinds_drop tbl emp fs (rowsF rows) hp (es.length - (j + 1))
    have hb1 : ∃ a2, behind1 tbl emp fs (rowsF rows) sq e' ab = some a2 ∧ behinds tbl emp fs (rowsF rows) sq (es.drop (es.length - (j + 1))) af = some (a2, ab :: las) := by
      rw [hdrop, behinds, q2] at hr' ⊢
      simp only at hr' ⊢
      cases q : behind1 tbl emp fs (rowsF rows) sq e' ab with
      | none => rw [q] at hr'; cases hr'
      | some a2 => exact ⟨a2, rfl, rfl⟩
    obtain ⟨a2, hb1, hb2⟩ := hb1
    have wl : ws.length = j := by have := q3.len; rw [List.length_reverse, List.length_drop] at this; omega
    refine Asg_name (Sto_ok (S_exp (E_lmeth "list.append" F.slot_list_append F.type_list_append (E_name rfl ⟨fl, ws, rfl, Ent.own (.tail _ (.head _)), M_append (E_tuple ?_)⟩))))
    refine A_cons ?_
    refine E_name rfl ?_
    refine A_cons ?_
    refine E_name rfl ?_
    with_reducible refine A_nil ?_
    refine ⟨by simp [sizeLine], fun t b₁ hb₁ htup => ⟨ws, _, .tail .head, by omega, fun _ => nofun, ?_⟩⟩
    have hcons : PartsIn Z.w b₁ rows (ws ++ [Value.ref t]).reverse (es.drop (es.length - (j + 1))) (ab :: las) := by
      rw [List.reverse_append, hdrop]
      exact .cons htup (hin.mono (hb.trans hb₁)) (q1.mono hb₁) (q3.mono hb₁)
    refine S_if1 ?_
    refine T_cmp ?_
    with_reducible refine E_sub ?_
    refine E_name rfl ?_
    with_reducible refine E_int ?_
    refine Item_tuple (ha.mono (hb.trans hb₁)).ent rfl rfl ?_
    with_reducible refine E_str ?_
    with_reducible refine Cmp_eqS ?_
    with_reducible refine ⟨_, rfl, ?_⟩
    rw [← hsq]
    unfold behind1 at hb1
    refine if_b (fun hq => ?_) (fun hq => ?_)
    · rw [hq, if_pos rfl] at hb1
      cases hv : ab.val (rowsF rows) with
      | none => rw [hv] at hb1; cases hb1
      | some s =>
        rw [hv] at hb1
        simp only at hb1
        cases hpr : predictP tbl emp fs e' s with
        | none => rw [hpr] at hb1; cases hb1
        | some q' =>
          rw [hpr] at hb1
          cases hb1
          obtain ⟨dx, lo, de, as, vt, vf, hg⟩ := hg
          have hg₁ := hg.mono (hb.trans hb₁) (own' := Ch.loc y.L [(Str.ofString "item", u), (Str.ofString "behind", vb), (Str.ofString "found", .ref fl), (Str.ofString "after", va), (Str.ofString "e", .ref a₀), (Str.ofString "grammar", .ref g)] :: Ch.of fl (LstO (ws ++ [Value.ref t])) :: own) fun _ h => .tail _ (.tail _ h)
          refine S_asg (E_meth Z.ok.cG 408 ?_)
          refine E_name rfl ?_
          refine ⟨g, dx, as, rfl, hg₁.g, hg₁.d, hg₁.n3, ?_⟩
          refine A_cons ?_
          refine E_name rfl ?_
          refine A_cons ?_
          refine E_name rfl ?_
          with_reducible refine A_nil ?_
          have hde := hd e' hmem
          refine predict_ok (by show e'.dep + 3 ≤ y.n; omega) ⟨_, _, _, _, _, _, hg₁⟩ (hin.mono (hb.trans hb₁)) ((q1.mono hb₁).src hv fun z hz => .tail _ (.tail _ (hr z hz))) hpr fun d b₂ hb₂ => ?_
          refine Sto.perm (.swap _ _ _) (Sto_ok ?_)
          refine W.freeze (y := SetC Z.w d q') (.right (.left (Split.none _))) (fun h q => q) fun o b₃ hφ hb₃ hbo => ?_
          exact S_nil (S_end ⟨hb.trans (hb₁.trans (hb₂.trans hb₃)), .ref d, .set q', ab :: las, ws ++ [.ref t], rfl, ⟨d, rfl, o, hbo, hφ⟩, hb2, hcons.mono (hb₂.trans hb₃)⟩)
    · rw [hq, if_neg Bool.false_ne_true] at hb1
      cases hb1
      exact S_end ⟨hb.trans hb₁, vb, ab, ab :: las, ws ++ [.ref t], rfl, q1.mono hb₁, hb2, hcons⟩
  · obtain ⟨_, vb, ab, las, ws, rfl, q1, q2, q3⟩ := q
    rw [vl, Nat.sub_self, List.drop_zero] at q2 q3
    rw [hp] at q2
    cases q2
    have wl : ws.length = es.length := by have := q3.len; rwa [List.length_reverse] at this
    refine S_exp (E_lmeth "list.reverse" F.slot_list_reverse F.type_list_reverse (E_name rfl ⟨fl, ws, rfl, Ent.own (.tail _ (.head _)), M_reverse (.tail .head) (by omega) ⟨fun _ => nofun, ?_⟩⟩))
    refine W.freeze (y := Ch.of fl (LstO ws.reverse)) (.right (.left (Split.none _))) (fun h q => q) fun o b₃ hφ hb₃ hbo => ?_
    exact S_ret (E_name rfl (ret_ok (h fl _ b₃ (hb.trans hb₃) ⟨o, hbo, hφ⟩ (q3.mono hb₃))))
end
section
variable (tbl : Tbl) (emp : List Str) (fs : Fst)
mutual
noncomputable def addF : Ex → Aft → Fst → Option (Bool × Fst)
  | .name s, a, fo => match fo.lookup s with
    | some T => if a = .row s then none else match a.val fo with
      | some q => if T.length + q.length ≤ 1000 then some (decide (T.length < (mergeS T q).length), updF fo s (mergeS T q)) else none
      | none => none
    | none => some (false, fo)
  | .text _, _, fo => some (false, fo)
  | .opt e, a, fo => addF e a fo
  | .rep e, a, fo => match a.val fo with
    | some q => match predictP tbl emp fs (.rep e) q with
      | some q' => addF e (.set q') fo
      | none => none
    | none => none
  | .seq es, a, fo => match behinds tbl emp fs fo true es a with
    | some r => if es.length ≤ 1000 then addL es r.2 false fo else none
    | none => none
  | .alt es, a, fo => match behinds tbl emp fs fo false es a with
    | some r => if es.length ≤ 1000 then addL es r.2 false fo else none
    | none => none
noncomputable def addL : List Ex → List Aft → Bool → Fst → Option (Bool × Fst)
  | [], [], g, fo => some (g, fo)
  | e :: es, a :: as, g, fo => match addF e a fo with
    | some r => addL es as (g || r.1) r.2
    | none => none
  | _, _, _, _ => none
end
theorem addL_step {es : List Ex} {as : List Aft} {g : Bool} {fo : Fst} {j : Nat} {e : Ex} {a : Aft} (he : es[j]? = some e) (ha : as[j]? = some a) : addL tbl emp fs (es.drop j) (as.drop j) g fo = match addF tbl emp fs e a fo with
    | some r => addL tbl emp fs (es.drop (j + 1)) (as.drop (j + 1)) (g || r.1) r.2
    | none => none := by
  rw [List.drop_eq_getElem_cons (List.getElem?_eq_some_iff.mp he).1, (List.getElem?_eq_some_iff.mp he).2, List.drop_eq_getElem_cons (List.getElem?_eq_some_iff.mp ha).1, (List.getElem?_eq_some_iff.mp ha).2, addL]
end
theorem Split.app {o a c : List Ch} (p : List Ch) (h : Split o a c) : Split (p ++ o) a (p ++ c) := by
  induction p with
  | nil => exact h
  | cons _ _ ih => exact .right ih
theorem Put.app {c c' : Ch} {o o' : List Ch} (p : List Ch) (h : Put c c' o o') : Put c c' (p ++ o) (p ++ o') := by
  induction p with
  | nil => exact h
  | cons _ _ ih => exact .tail ih
theorem rows_two {w : World} {n m : Str} {T U : List Str} (hne : n ≠ m) : ∀ {rows : List Row}, (rowsF rows).lookup n = some T → (rowsF rows).lookup m = some U → ∃ dn dm, valueAt (rowsK rows) n = some (.ref dn) ∧ valueAt (rowsK rows) m = some (.ref dm) ∧
    ∀ t, ∃ r r', Split (rowsC w rows) [SetC w dm U] r ∧ Put (SetC w dn T) (SetC w dn t) r r' ∧ (SetC w dm U :: r').Perm (rowsC w (updR rows n t))
  | [], hn, _ => by cases hn
  | (k, d, s) :: rows, hn, hm => by
    have hn₀ := hn
    have hm₀ := hm
    change ((k, s) :: rowsF rows).lookup n = some T at hn
    change ((k, s) :: rowsF rows).lookup m = some U at hm
    rw [List.lookup_cons] at hn hm
    by_cases e : k = n
    · subst e
      have hmk : (m == k) = false := beq_eq_false_iff_ne.mpr (Ne.symm hne)
      rw [hmk] at hm
      simp only [beq_self_eq_true, Option.some.injEq] at hn
      subst hn
      obtain ⟨dm, h1, h2, _⟩ := rows_find (w := w) hm
      obtain ⟨dm', h1', _, _⟩ := rows_find (w := w) hm₀
      have : dm' = dm := by
        have q : valueAt ((k, Value.ref d) :: rowsK rows) m = some (.ref dm') := h1'
        unfold valueAt at q h1
        simp only [List.find?_cons, show decide (k = m) = false from decide_eq_false hne] at q
        rw [h1] at q
        cases q; rfl
      subst this
      refine ⟨d, dm', by show valueAt ((k, Value.ref d) :: rowsK rows) k = _; unfold valueAt; simp, h1', fun t => ?_⟩
      obtain ⟨r, hr⟩ := Split.of_mem h2
      refine ⟨SetC w d s :: r, SetC w d t :: r, .right hr, .head, ?_⟩
      show (SetC w dm' U :: SetC w d t :: r).Perm (rowsC w (if k = k then (k, d, t) :: rows else (k, d, s) :: updR rows k t))
      rw [if_pos rfl]
      exact (List.Perm.swap _ _ _).trans ((hr.perm.symm).cons _)
    · have hnk : (n == k) = false := beq_eq_false_iff_ne.mpr (Ne.symm e)
      rw [hnk] at hn
      obtain ⟨dn, h1, h2, h3⟩ := rows_find (w := w) hn
      have hvn : valueAt (rowsK ((k, d, s) :: rows)) n = some (.ref dn) := by
        show valueAt ((k, Value.ref d) :: rowsK rows) n = _
        unfold valueAt at h1 ⊢
        simpa only [List.find?_cons, show decide (k = n) = false from decide_eq_false e] using h1
      by_cases e' : k = m
      · subst e'
        simp only [beq_self_eq_true, Option.some.injEq] at hm
        subst hm
        refine ⟨dn, d, hvn, by show valueAt ((k, Value.ref d) :: rowsK rows) k = _; unfold valueAt; simp, fun t => ⟨rowsC w rows, _, .left (Split.none _), h3 t, ?_⟩⟩
        show (SetC w d s :: rowsC w (updR rows n t)).Perm (rowsC w (if k = n then (k, d, t) :: rows else (k, d, s) :: updR rows n t))
        rw [if_neg e]; exact .refl _
      · have hmk : (m == k) = false := beq_eq_false_iff_ne.mpr (Ne.symm e')
        rw [hmk] at hm
        obtain ⟨dn', dm, q1, q2, q3⟩ := rows_two (w := w) hne hn hm
        refine ⟨dn', dm, ?_, ?_, fun t => ?_⟩
        · show valueAt ((k, Value.ref d) :: rowsK rows) n = _
          unfold valueAt at q1 ⊢
          simpa only [List.find?_cons, show decide (k = n) = false from decide_eq_false e] using q1
        · show valueAt ((k, Value.ref d) :: rowsK rows) m = _
          unfold valueAt at q2 ⊢
          simpa only [List.find?_cons, show decide (k = m) = false from decide_eq_false e'] using q2
        · obtain ⟨r, r', s1, s2, s3⟩ := q3 t
          refine ⟨SetC w d s :: r, SetC w d s :: r', .right s1, .tail s2, ?_⟩
          show (SetC w dm U :: SetC w d s :: r').Perm (rowsC w (if k = n then (k, d, t) :: rows else (k, d, s) :: updR rows n t))
          rw [if_neg e]
          exact (List.Perm.swap _ _ _).trans (s3.cons _)
theorem PartsIn.get {w : World} {b : Kn} {rows : List Row} {vs : List Value} {es : List Ex} {as : List Aft} (h : PartsIn w b rows vs es as) : ∀ (j : Nat) (u : Value), vs[j]? = some u → ∃ t ve va e a, u = .ref t ∧ At b t (TupO [ve, va]) ∧ es[j]? = some e ∧ as[j]? = some a ∧ ExIn b ve e ∧ AftIn w b rows va a := by
  induction h with
  | nil => intro j u hu; simp at hu
  | @cons t ve va e a vs es as h1 h2 h3 _ ih =>
    intro j u hu
    cases j with
    | zero => simp at hu; exact ⟨t, ve, va, e, a, hu.symm, h1, rfl, rfl, h2, h3⟩
    | succ j => simp at hu; simpa using ih j u hu
theorem PartsIn.lenA {w : World} {b : Kn} {rows : List Row} {vs : List Value} {es : List Ex} {as : List Aft} (h : PartsIn w b rows vs es as) : as.length = es.length := by
  induction h with
  | nil => rfl
  | cons _ _ _ _ ih => simp [ih]
theorem PartsIn.rows {w : World} {b : Kn} {rows rows' : List Row} (hK : rowsK rows' = rowsK rows) {vs : List Value} {es : List Ex} {as : List Aft} (h : PartsIn w b rows vs es as) : PartsIn w b rows' vs es as := by
  induction h with
  | nil => exact .nil
  | cons h1 h2 h3 _ ih => exact .cons h1 h2 (h3.rows hK) ih
section
variable {Z : Zc} {g : Addr} {st : Str} {ord : List Str} {tbl : Tbl} {emp : List Str} {fs : Fst}
theorem add_follows_ok (n : Nat) : ∀ {i : Nat} {x : Act Z i} {b : Kn} {G : List Ch} {rows : List Row} {ve va : Value} {df : Addr} {e : Ex} {af : Aft} {r : Bool × Fst} {P : Value → Kn → List Ch → Prop}, n + 5 ≤ x.n → e.dep ≤ n → Gr Z b G g st ord tbl emp fs → ExIn b ve e →
    AftIn Z.w b rows va af → At b df (DicO (strKind pw Z.w) df (rowsK rows)) → addF tbl emp fs e af (rowsF rows) = some r →
    (∀ rows' b', b.le b' → rowsK rows' = rowsK rows → rowsF rows' = r.2 → P (.bool r.1) b' (G ++ rowsC Z.w rows')) → Call x (.ref (Z.F 14)) [.ref g, ve, va, .ref df] b (G ++ rowsC Z.w rows) P := by
  induction n with
  | zero => intro i x b G rows ve va df e af r P hn hd; cases e <;> (simp [Ex.dep] at hd)
  | succ n ih =>
    intro i x b G rows ve va df e af r P hn hd hg he ha hdf hs h
    have sl : sizeLine = 2 ^ 24 := rfl
    refine Call_fn [Str.ofString "grammar", Str.ofString "e", Str.ofString "after", Str.ofString "follows"] (by omega) (by decide) (fun vs hv _ _ _ _ _ _ => by obtain ⟨a, c, d, e, rfl⟩ := four_of hv; rfl) rfl rfl rfl (fun y hy => ?_)
    have hy' : n + 5 ≤ y.n := by omega
    have recall : ∀ {l : List (Str × Value)} {rows' : List Row} {b₁ : Kn} {ve' va' : Value} {e' : Ex} {a' : Aft} {Q : Value → Kn → List Ch → Prop} {r' : Bool × Fst} {j : Nat} {z : Act Z j}, n + 5 ≤ z.n → b.le b₁ → e'.dep ≤ n → ExIn b₁ ve' e' → AftIn Z.w b₁ rows' va' a' → rowsK rows' = rowsK rows → addF tbl emp fs e' a' (rowsF rows') = some r' →
        (∀ rows'' b', b₁.le b' → rowsK rows'' = rowsK rows → rowsF rows'' = r'.2 → Q (.bool r'.1) b' (Ch.loc y.L l :: (G ++ rowsC Z.w rows''))) → Call z (.ref (Z.F 14)) [.ref g, ve', va', .ref df] b₁ (Ch.loc y.L l :: (G ++ rowsC Z.w rows')) Q :=
      fun {l rows' b₁ _ _ _ _ _ _ _ _} hz hb hd' he' ha' hK hs' hq => ih (G := Ch.loc y.L l :: G) hz hd' (hg.mono hb fun _ q => .tail _ q) he' ha' (by rw [hK]; exact hdf.mono hb) hs' fun rows'' b' hb' hK' hF => hq rows'' b' hb' (hK'.trans hK) hF
    cases he with
    | @text a z ha₀ =>
      simp only [addF] at hs
      cases hs
      refine S_asg ?_
      with_reducible refine E_sub ?_
      refine E_name rfl ?_
      with_reducible refine E_int ?_
      refine Item_tuple ha₀.ent rfl rfl ?_
      refine Sto_ok ?_
      with_reducible refine S_if1 ?_
      refine T_cmp ?_
      refine E_name rfl ?_
      with_reducible refine E_str ?_
      with_reducible refine Cmp_eqS ?_
      with_reducible refine ⟨_, rfl, ?_⟩
      refine if_f rfl ?_
      with_reducible refine S_if1 ?_
      refine T_cmp ?_
      refine E_name rfl ?_
      with_reducible refine E_str ?_
      with_reducible refine Cmp_eqS ?_
      with_reducible refine ⟨_, rfl, ?_⟩
      refine if_t rfl ?_
      with_reducible refine S_ret ?_
      with_reducible refine E_bool ?_
      with_reducible refine ret_ok ?_
      exact h rows b .rfl rfl rfl
    | @name a z ha₀ =>
      simp only [addF] at hs
      refine S_asg ?_
      with_reducible refine E_sub ?_
      refine E_name rfl ?_
      with_reducible refine E_int ?_
      refine Item_tuple ha₀.ent rfl rfl ?_
      refine Sto_ok ?_
      with_reducible refine S_if1 ?_
      refine T_cmp ?_
      refine E_name rfl ?_
      with_reducible refine E_str ?_
      with_reducible refine Cmp_eqS ?_
      with_reducible refine ⟨_, rfl, ?_⟩
      refine if_t rfl ?_
      with_reducible refine S_if1 ?_
      refine T_cmp ?_
      with_reducible refine E_sub ?_
      refine E_name rfl ?_
      with_reducible refine E_int ?_
      refine Item_tuple ha₀.ent rfl rfl ?_
      refine E_name rfl ?_
      refine Cmp_in hdf.ent (keyS _ _) ⟨_, rfl, ?_⟩
      cases hT : (rowsF rows).lookup z with
      | none =>
        rw [hT] at hs
        cases hs
        have : (valueAt (rowsK rows) z).isSome = false := by
          rw [(rows_in (w := Z.w) (b := b) (own := rowsC Z.w rows) rows (rows_src rows)).some_, hT]; rfl
        rw [this]
        refine if_f rfl ?_
        with_reducible refine S_ret ?_
        with_reducible refine E_bool ?_
        with_reducible refine ret_ok ?_
        exact h rows b .rfl rfl rfl
      | some T =>
        rw [hT] at hs
        obtain ⟨d, r1, r2, r3⟩ := rows_find (w := Z.w) hT
        rw [show (valueAt (rowsK rows) z).isSome = true by rw [r1]; rfl]
        simp only at hs
        by_cases hne : af = .row z
        · rw [if_pos hne] at hs; cases hs
        rw [if_neg hne] at hs
        cases hv : af.val (rowsF rows) with
        | none => rw [hv] at hs; cases hs
        | some q =>
          rw [hv] at hs
          by_cases hsz : T.length + q.length ≤ 1000
          · simp only [if_pos hsz] at hs
            cases hs
            refine if_t rfl (S_ret (E_fn 7 ?_))
            refine A_cons ?_
            with_reducible refine E_sub ?_
            refine E_name rfl ?_
            with_reducible refine E_sub ?_
            refine E_name rfl ?_
            with_reducible refine E_int ?_
            refine Item_tuple ha₀.ent rfl rfl ?_
            refine Item_dict hdf.ent (keyS _ _) r1 ?_ (fun key' hk => by obtain ⟨t, rfl⟩ := er_str hk; with_unfolding_all rfl)
            refine A_cons ?_
            refine E_name rfl ?_
            with_reducible refine A_nil ?_
            have fin := h (updR rows z (mergeS T q)) b .rfl (updR_K ..) (updR_F ..)
            cases af with
            | set s' =>
              cases hv
              obtain ⟨d', rfl, hk⟩ := ha
              exact merge_ok (by omega) hk (by omega) (.tail (Put.app G (r3 _))) (ret_ok fin)
            | row m =>
              obtain ⟨dn, dm, v1, v2, v3⟩ := rows_two (w := Z.w) (n := z) (m := m) (fun q => hne (by rw [q])) hT hv
              rw [r1] at v1
              cases v1
              have ha : valueAt (rowsK rows) m = some va := ha
              rw [v2] at ha
              cases ha
              obtain ⟨r₁, r₂, s1, s2, s3⟩ := v3 (mergeS T q)
              refine merge_src (own₁ := [SetC Z.w dm q]) (by omega) ⟨dm, rfl, .inr (.head _)⟩ (fun z' hz' => ?_) (.tail (Put.app G (r3 _))) (by omega) (ret_ok fin)
              rw [List.mem_singleton.mp hz']
              refine ⟨_, _, .right (Split.app G s1), .tail (Put.app G s2), ?_⟩
              exact (List.perm_middle (l₁ := Ch.loc y.L _ :: G)).symm.trans (List.Perm.append_left _ s3)
          · simp only [if_neg hsz] at hs; cases hs
    | @opt a ve' e' ha₀ hx =>
      simp only [addF] at hs
      simp only [Ex.dep] at hd
      refine S_asg ?_
      with_reducible refine E_sub ?_
      refine E_name rfl ?_
      with_reducible refine E_int ?_
      refine Item_tuple ha₀.ent rfl rfl ?_
      refine Sto_ok ?_
      with_reducible refine S_if1 ?_
      refine T_cmp ?_
      refine E_name rfl ?_
      with_reducible refine E_str ?_
      with_reducible refine Cmp_eqS ?_
      with_reducible refine ⟨_, rfl, ?_⟩
      refine if_f rfl ?_
      with_reducible refine S_if1 ?_
      refine T_cmp ?_
      refine E_name rfl ?_
      with_reducible refine E_str ?_
      with_reducible refine Cmp_eqS ?_
      with_reducible refine ⟨_, rfl, ?_⟩
      refine if_f rfl ?_
      with_reducible refine S_if1 ?_
      refine T_cmp ?_
      refine E_name rfl ?_
      with_reducible refine E_str ?_
      with_reducible refine Cmp_eqS ?_
      with_reducible refine ⟨_, rfl, ?_⟩
      refine if_t rfl ?_
      with_reducible refine S_ret ?_
      refine E_fn 14 ?_
      refine A_cons ?_
      refine E_name rfl ?_
      refine A_cons ?_
      with_reducible refine E_sub ?_
      refine E_name rfl ?_
      with_reducible refine E_int ?_
      refine Item_tuple ha₀.ent rfl rfl ?_
      refine A_cons ?_
      refine E_name rfl ?_
      refine A_cons ?_
      refine E_name rfl ?_
      with_reducible refine A_nil ?_
      exact recall (by omega) .rfl (by omega) hx ha rfl hs fun rows' b' hb' hK hF => ret_ok (h rows' b' hb' hK hF)
    | @rep a ve' e' ha₀ hx =>
      simp only [addF] at hs
      simp only [Ex.dep] at hd
      cases hv : af.val (rowsF rows) with
      | none => rw [hv] at hs; cases hs
      | some q =>
        rw [hv] at hs
        simp only at hs
        cases hpr : predictP tbl emp fs (.rep e') q with
        | none => rw [hpr] at hs; cases hs
        | some q' =>
          rw [hpr] at hs
          simp only at hs
          refine S_asg ?_
          with_reducible refine E_sub ?_
          refine E_name rfl ?_
          with_reducible refine E_int ?_
          refine Item_tuple ha₀.ent rfl rfl ?_
          refine Sto_ok ?_
          with_reducible refine S_if1 ?_
          refine T_cmp ?_
          refine E_name rfl ?_
          with_reducible refine E_str ?_
          with_reducible refine Cmp_eqS ?_
          with_reducible refine ⟨_, rfl, ?_⟩
          refine if_f rfl ?_
          with_reducible refine S_if1 ?_
          refine T_cmp ?_
          refine E_name rfl ?_
          with_reducible refine E_str ?_
          with_reducible refine Cmp_eqS ?_
          with_reducible refine ⟨_, rfl, ?_⟩
          refine if_f rfl ?_
          with_reducible refine S_if1 ?_
          refine T_cmp ?_
          refine E_name rfl ?_
          with_reducible refine E_str ?_
          with_reducible refine Cmp_eqS ?_
          with_reducible refine ⟨_, rfl, ?_⟩
          refine if_f rfl ?_
          with_reducible refine S_if1 ?_
          refine T_cmp ?_
          refine E_name rfl ?_
          with_reducible refine E_str ?_
          with_reducible refine Cmp_eqS ?_
          with_reducible refine ⟨_, rfl, ?_⟩
          refine if_t rfl ?_
          with_reducible refine S_ret ?_
          refine E_fn 14 ?_
          refine A_cons ?_
          refine E_name rfl ?_
          refine A_cons ?_
          with_reducible refine E_sub ?_
          refine E_name rfl ?_
          with_reducible refine E_int ?_
          refine Item_tuple ha₀.ent rfl rfl ?_
          refine A_cons ?_
          obtain ⟨dx, lo, de, as, vt, vf, hg'⟩ := id hg
          have hg₁ := hg'.mono (b' := b) .rfl (own' := Ch.loc y.L [(Str.ofString "tag", vS (Str.ofString "rep")), (Str.ofString "follows", .ref df), (Str.ofString "after", va), (Str.ofString "e", .ref a), (Str.ofString "grammar", .ref g)] :: (G ++ rowsC Z.w rows)) fun _ h => .tail _ (List.mem_append_left _ h)
          refine E_meth Z.ok.cG 408 ?_
          refine E_name rfl ?_
          refine ⟨g, dx, as, rfl, hg₁.g, hg₁.d, hg₁.n3, ?_⟩
          refine A_cons ?_
          refine E_name rfl ?_
          refine A_cons ?_
          refine E_name rfl ?_
          with_reducible refine A_nil ?_
          refine predict_ok (by simp only [Ex.dep]; omega) ⟨_, _, _, _, _, _, hg₁⟩ (.rep ha₀ hx) (ha.src hv fun z hz => .tail _ (List.mem_append_right _ hz)) hpr fun d b₂ hb₂ => ?_
          refine W.freeze (y := SetC Z.w d q') (.left (Split.none _)) (fun h q => q) fun o b₃ hφ hb₃ hbo => ?_
          refine A_cons (E_name rfl (A_nil ?_))
          refine recall (a' := .set q') (by omega) (hb₂.trans hb₃) (by omega) (hx.mono (hb₂.trans hb₃)) ⟨d, rfl, o, hbo, hφ⟩ rfl hs fun rows' b' hb' hK hF => ?_
          exact ret_ok (h rows' b' (hb₂.trans (hb₃.trans hb')) hK hF)
    | @seq a c vs es ha₀ hc hx =>
      simp only [addF] at hs
      simp only [Ex.dep] at hd
      cases hbh : behinds tbl emp fs (rowsF rows) true es af with
      | none => rw [hbh] at hs; cases hs
      | some rr =>
        rw [hbh] at hs
        by_cases hsz : es.length ≤ 1000
        · simp only [if_pos hsz] at hs
          have hde : ∀ e' ∈ es, e'.dep ≤ n := fun e' he' => by
            obtain ⟨j, hj, e⟩ := List.getElem_of_mem he'
            have := Ex.depL_get (es := es) (j := j) (e := e') (by rw [List.getElem?_eq_getElem hj, e]); omega
          refine S_asg ?_
          with_reducible refine E_sub ?_
          refine E_name rfl ?_
          with_reducible refine E_int ?_
          refine Item_tuple ha₀.ent rfl rfl ?_
          refine Sto_ok ?_
          with_reducible refine S_if1 ?_
          refine T_cmp ?_
          refine E_name rfl ?_
          with_reducible refine E_str ?_
          with_reducible refine Cmp_eqS ?_
          with_reducible refine ⟨_, rfl, ?_⟩
          refine if_f rfl ?_
          with_reducible refine S_if1 ?_
          refine T_cmp ?_
          refine E_name rfl ?_
          with_reducible refine E_str ?_
          with_reducible refine Cmp_eqS ?_
          with_reducible refine ⟨_, rfl, ?_⟩
          refine if_f rfl ?_
          with_reducible refine S_if1 ?_
          refine T_cmp ?_
          refine E_name rfl ?_
          with_reducible refine E_str ?_
          with_reducible refine Cmp_eqS ?_
          with_reducible refine ⟨_, rfl, ?_⟩
          refine if_f rfl ?_
          with_reducible refine S_if1 ?_
          refine T_cmp ?_
          refine E_name rfl ?_
          with_reducible refine E_str ?_
          with_reducible refine Cmp_eqS ?_
          with_reducible refine ⟨_, rfl, ?_⟩
          refine if_f rfl ?_
          refine S_asg ?_
          with_reducible refine E_bool ?_
          refine Sto_ok ?_
          refine S_for ?_
          refine E_fn 15 ?_
          refine A_cons ?_
          refine E_name rfl ?_
          refine A_cons ?_
          refine E_name rfl ?_
          refine A_cons ?_
          refine E_name rfl ?_
          with_reducible refine A_nil ?_
          refine parts_ok (D := n) (rows := rows) (tag := Str.ofString "seq") (sq := true) (by omega) (hg.mono .rfl fun _ q => .tail _ (List.mem_append_left _ q)) (fun z hz => .tail _ (List.mem_append_right _ hz)) ha₀ hc hx hde rfl hsz ha hbh fun l ws b₁ hb₁ hl hparts => ?_
          refine Itr_list hl.ent fun I => ?_
          refine ForQ_listT (fun j b' o' => b₁.le b' ∧ ∃ rows' gr, o' = Ch.loc y.L [(Str.ofString "grown", .bool gr), (Str.ofString "tag", vS (Str.ofString "seq")), (Str.ofString "follows", .ref df), (Str.ofString "after", va), (Str.ofString "e", .ref a), (Str.ofString "grammar", .ref g)] :: (G ++ rowsC Z.w rows') ∧
            rowsK rows' = rowsK rows ∧ addL tbl emp fs (es.drop j) (rr.2.drop j) gr (rowsF rows') = some r) ⟨.rfl, rows, false, rfl, rfl, hs⟩ (fun u hu => ?_) (fun j b' o' hb _ => .inl (hl.mono hb)) (fun j u b' o' hu _ q => ?_) (fun b' o' _ q => ?_)
          · obtain ⟨j, hj, e⟩ := List.getElem_of_mem hu
            obtain ⟨t, ve, va, e, a, rfl, _⟩ := hparts.get j u (by rw [List.getElem?_eq_getElem hj, e])
            exact ⟨t, rfl⟩
          · obtain ⟨hb, rows', gr, rfl, hK, q⟩ := q
            obtain ⟨t, ve', va', e', a', rfl, p1, p2, p3, p4, p5⟩ := hparts.get j u hu
            rw [addL_step tbl emp fs p2 p3] at q
            cases hr' : addF tbl emp fs e' a' (rowsF rows') with
            | none => rw [hr'] at q; cases q
            | some r' =>
              rw [hr'] at q
              simp only at q
              refine Asg_pair (p1.mono hb).ent (Sto_ok (Sto_ok (S_if1 (T_val (E_fn 14 ?_)))))
              refine A_cons ?_
              refine E_name rfl ?_
              refine A_cons ?_
              refine E_name rfl ?_
              refine A_cons ?_
              refine E_name rfl ?_
              refine A_cons ?_
              refine E_name rfl ?_
              with_reducible refine A_nil ?_
              refine recall (by show n + 5 ≤ y.n; omega) (hb₁.trans hb) (hde e' (List.mem_of_getElem? p2)) (p4.mono hb) ((p5.mono hb).rows hK) hK hr' fun rows'' b₂ hb₂ hK₂ hF₂ => ⟨_, rfl, if_b (fun c => ?_) (fun c => ?_)⟩
              · rw [c, Bool.or_true] at q
                exact S_asg (E_bool (Sto_ok (S_nil (S_end ⟨hb.trans hb₂, rows'', true, rfl, hK₂, by rw [hF₂]; exact q⟩))))
              · rw [c, Bool.or_false] at q
                exact S_end ⟨hb.trans hb₂, rows'', gr, rfl, hK₂, by rw [hF₂]; exact q⟩
          · obtain ⟨hb, rows', gr, rfl, hK, q⟩ := q
            rw [hparts.len, List.drop_length, List.drop_eq_nil_of_le (by rw [hparts.lenA]; exact Nat.le_refl _), addL] at q
            cases Option.some.inj q
            exact S_ret (E_name rfl (ret_ok (h rows' _ (hb₁.trans hb) hK rfl)))
        · simp only [if_neg hsz] at hs; cases hs
    | @alt a c vs es ha₀ hc hx =>
      simp only [addF] at hs
      simp only [Ex.dep] at hd
      cases hbh : behinds tbl emp fs (rowsF rows) false es af with
      | none => rw [hbh] at hs; cases hs
      | some rr =>
        rw [hbh] at hs
        by_cases hsz : es.length ≤ 1000
        · simp only [if_pos hsz] at hs
          have hde : ∀ e' ∈ es, e'.dep ≤ n := fun e' he' => by
            obtain ⟨j, hj, e⟩ := List.getElem_of_mem he'
            have := Ex.depL_get (es := es) (j := j) (e := e') (by rw [List.getElem?_eq_getElem hj, e]); omega
          refine S_asg ?_
          with_reducible refine E_sub ?_
          refine E_name rfl ?_
          with_reducible refine E_int ?_
          refine Item_tuple ha₀.ent rfl rfl ?_
          refine Sto_ok ?_
          with_reducible refine S_if1 ?_
          refine T_cmp ?_
          refine E_name rfl ?_
          with_reducible refine E_str ?_
          with_reducible refine Cmp_eqS ?_
          with_reducible refine ⟨_, rfl, ?_⟩
          refine if_f rfl ?_
          with_reducible refine S_if1 ?_
          refine T_cmp ?_
          refine E_name rfl ?_
          with_reducible refine E_str ?_
          with_reducible refine Cmp_eqS ?_
          with_reducible refine ⟨_, rfl, ?_⟩
          refine if_f rfl ?_
          with_reducible refine S_if1 ?_
          refine T_cmp ?_
          refine E_name rfl ?_
          with_reducible refine E_str ?_
          with_reducible refine Cmp_eqS ?_
          with_reducible refine ⟨_, rfl, ?_⟩
          refine if_f rfl ?_
          with_reducible refine S_if1 ?_
          refine T_cmp ?_
          refine E_name rfl ?_
          with_reducible refine E_str ?_
          with_reducible refine Cmp_eqS ?_
          with_reducible refine ⟨_, rfl, ?_⟩
          refine if_f rfl ?_
          refine S_asg ?_
          with_reducible refine E_bool ?_
          refine Sto_ok ?_
          refine S_for ?_
          refine E_fn 15 ?_
          refine A_cons ?_
          refine E_name rfl ?_
          refine A_cons ?_
          refine E_name rfl ?_
          refine A_cons ?_
          refine E_name rfl ?_
          with_reducible refine A_nil ?_
          refine parts_ok (D := n) (rows := rows) (tag := Str.ofString "alt") (sq := false) (by omega) (hg.mono .rfl fun _ q => .tail _ (List.mem_append_left _ q)) (fun z hz => .tail _ (List.mem_append_right _ hz)) ha₀ hc hx hde rfl hsz ha hbh fun l ws b₁ hb₁ hl hparts => ?_
          refine Itr_list hl.ent fun I => ?_
          refine ForQ_listT (fun j b' o' => b₁.le b' ∧ ∃ rows' gr, o' = Ch.loc y.L [(Str.ofString "grown", .bool gr), (Str.ofString "tag", vS (Str.ofString "alt")), (Str.ofString "follows", .ref df), (Str.ofString "after", va), (Str.ofString "e", .ref a), (Str.ofString "grammar", .ref g)] :: (G ++ rowsC Z.w rows') ∧
            rowsK rows' = rowsK rows ∧ addL tbl emp fs (es.drop j) (rr.2.drop j) gr (rowsF rows') = some r) ⟨.rfl, rows, false, rfl, rfl, hs⟩ (fun u hu => ?_) (fun j b' o' hb _ => .inl (hl.mono hb)) (fun j u b' o' hu _ q => ?_) (fun b' o' _ q => ?_)
          · obtain ⟨j, hj, e⟩ := List.getElem_of_mem hu
            obtain ⟨t, ve, va, e, a, rfl, _⟩ := hparts.get j u (by rw [List.getElem?_eq_getElem hj, e])
            exact ⟨t, rfl⟩
          · obtain ⟨hb, rows', gr, rfl, hK, q⟩ := q
            obtain ⟨t, ve', va', e', a', rfl, p1, p2, p3, p4, p5⟩ := hparts.get j u hu
            rw [addL_step tbl emp fs p2 p3] at q
            cases hr' : addF tbl emp fs e' a' (rowsF rows') with
            | none => rw [hr'] at q; cases q
            | some r' =>
              rw [hr'] at q
              simp only at q
              refine Asg_pair (p1.mono hb).ent (Sto_ok (Sto_ok (S_if1 (T_val (E_fn 14 ?_)))))
              refine A_cons ?_
              refine E_name rfl ?_
              refine A_cons ?_
              refine E_name rfl ?_
              refine A_cons ?_
              refine E_name rfl ?_
              refine A_cons ?_
              refine E_name rfl ?_
              with_reducible refine A_nil ?_
              refine recall (by show n + 5 ≤ y.n; omega) (hb₁.trans hb) (hde e' (List.mem_of_getElem? p2)) (p4.mono hb) ((p5.mono hb).rows hK) hK hr' fun rows'' b₂ hb₂ hK₂ hF₂ => ⟨_, rfl, if_b (fun c => ?_) (fun c => ?_)⟩
              · rw [c, Bool.or_true] at q
                exact S_asg (E_bool (Sto_ok (S_nil (S_end ⟨hb.trans hb₂, rows'', true, rfl, hK₂, by rw [hF₂]; exact q⟩))))
              · rw [c, Bool.or_false] at q
                exact S_end ⟨hb.trans hb₂, rows'', gr, rfl, hK₂, by rw [hF₂]; exact q⟩
          · obtain ⟨hb, rows', gr, rfl, hK, q⟩ := q
            rw [hparts.len, List.drop_length, List.drop_eq_nil_of_le (by rw [hparts.lenA]; exact Nat.le_refl _), addL] at q
            cases Option.some.inj q
            exact S_ret (E_name rfl (ret_ok (h rows' _ (hb₁.trans hb) hK rfl)))
        · simp only [if_neg hsz] at hs; cases hs
end
section
variable (tbl : Tbl) (emp : List Str) (fs : Fst) (ord : List Str)
noncomputable def stepA (s : Fst × Bool) (n : Str) : Option (Fst × Bool) :=
  match tbl.lookup n with
  | some e => match addF tbl emp fs e (.row n) s.1 with
    | some r => some (r.2, s.2 || r.1)
    | none => none
  | none => none
noncomputable def passA : List Str → Fst × Bool → Option (Fst × Bool)
  | [], s => some s
  | n :: ns, s => match stepA tbl emp fs s n with
    | some s' => passA ns s'
    | none => none
noncomputable def followsP : Nat → Fst → Option Fst
  | 0, _ => none
  | f + 1, fo => match passA tbl emp fs ord (fo, false) with
    | some (fo', g) => if g then followsP f fo' else some fo'
    | none => none
theorem passA_step {ns : List Str} {j : Nat} {n : Str} {s : Fst × Bool} (h : ns[j]? = some n) : passA tbl emp fs (ns.drop j) s = match stepA tbl emp fs s n with
    | some s' => passA tbl emp fs (ns.drop (j + 1)) s'
    | none => none := by
  rw [List.drop_eq_getElem_cons (List.getElem?_eq_some_iff.mp h).1, (List.getElem?_eq_some_iff.mp h).2, passA]
end
noncomputable def eofS : Str := Str.ofString "eof"
noncomputable def follow0 (st : Str) (ord : List Str) : Fst := if ord.contains st then updF (fst0 ord) st [eofS] else fst0 ord
section
variable {Z : Zc} {i : Nat} {x : Act Z i} {b : Kn} {G : List Ch} {g : Addr} {st : Str} {ord : List Str} {tbl : Tbl} {emp : List Str} {fs : Fst}
theorem fst0_look {ord : List Str} {n : Str} {T : List Str} (h : (fst0 ord).lookup n = some T) : T = [] := by
  induction ord with
  | nil => cases h
  | cons k ord ih =>
    change ((k, []) :: fst0 ord).lookup n = some T at h
    rw [List.lookup_cons] at h
    cases e : n == k with
    | true => rw [e] at h; cases h; rfl
    | false => rw [e] at h; exact ih h
theorem fst0_some {ord : List Str} {n : Str} : ((fst0 ord).lookup n).isSome = ord.contains n := by
  induction ord with
  | nil => rfl
  | cons k ord ih =>
    show (((k, []) :: fst0 ord).lookup n).isSome = _
    rw [List.lookup_cons, List.contains_cons]
    cases n == k <;> simp [ih]
theorem follow_rows_ok {D fuel : Nat} {fo : Fst} {P : Value → Kn → List Ch → Prop} (hn : D + 7 ≤ x.n) (hg : Gr Z b G g st ord tbl emp fs) (hD : tbl.Le D) (nd : ord.Nodup) (hsz : ord.length ≤ 1000)
    (hf : followsP tbl emp fs ord fuel (follow0 st ord) = some fo) (h : ∀ d b', b.le b' → P (.ref d) b' G) : Call x (.ref (Z.F 13)) [.ref g] b G P := by
  have sl : sizeLine = 2 ^ 24 := rfl
  obtain ⟨dx, lo, de, as, vt, vf, hg⟩ := hg
  refine Call_fn [Str.ofString "grammar"] (by omega) (by decide) (fun vs hv _ _ _ _ _ _ => by obtain ⟨a, rfl⟩ := one_of hv; rfl) rfl rfl rfl (fun y hy => ?_)
  refine S_asg (E_dict0 (strKind pw Z.w) fun df => ?_)
  refine Sto_ok ?_
  refine S_for ?_
  refine E_attr ?_
  refine E_name rfl ?_
  refine GetA_inst Z.ok.cG hg.g (hg.d.mono .rfl fun _ q => .tail _ (.tail _ q)) hg.a2 ?_
  refine Itr_list hg.o.ent fun I => ?_
  refine ForQ_list (fun j b' o' => b' = b ∧ ∃ rows, o' = Ch.loc y.L [(Str.ofString "follows", .ref df), (Str.ofString "grammar", .ref g)] :: Ch.of df (DicO (strKind pw Z.w) df (rowsK rows)) :: (G ++ rowsC Z.w rows) ∧
    rowsF rows = fst0 (ord.take j)) ⟨rfl, [], by rw [show rowsC Z.w [] = [] from rfl, List.append_nil]; rfl, rfl⟩ (fun j b' o' hb _ => .inl (hg.o.mono hb)) (fun j u b' o' hu _ q' => ?_) (fun b' o' _ q' => ?_)
  · obtain ⟨rfl, rows, rfl, q⟩ := q'
    obtain ⟨n, hn', rfl⟩ := names_get hu
    refine Asg_name (Sto_ok (S_seti (E_dict0 (strKind pw Z.w) fun d => ?_)))
    obtain ⟨h1, h2⟩ := rows_more nd hn' q d
    have h3 : G ++ rowsC Z.w (rows ++ [(n, d, [])]) = (G ++ rowsC Z.w rows) ++ [SetC Z.w d []] := by rw [List.append_assoc]; unfold rowsC; rw [List.map_append]; rfl
    refine E_name rfl ?_
    refine E_name rfl ?_
    refine SetI_dict (.tail (.tail .head)) (keyS _ _) ?_ ?_
    · have : (rowsK rows).length = (rowsF rows).length := by rw [← List.length_map (f := (·.1)), rows_names, List.length_map]
      rw [this, q, fst0, List.length_map, List.length_take]
      omega
    · rw [h1]
      exact W.perm (perm3 _ _ _ _) (S_end ⟨rfl, rows ++ [(n, d, [])], by rw [h3]; rfl, h2⟩)
  · obtain ⟨rfl, rows, rfl, q⟩ := q'
    rw [List.length_map, List.take_length] at q
    refine W.freeze (.right (.left (Split.none _))) (fun h q => q) fun o b₁ hφ hb₁ hbo => ?_
    have hdf : At b₁ df (DicO (strKind pw Z.w) df (rowsK rows)) := ⟨o, hbo, hφ⟩
    have rest : ∀ (rows₁ : List Row) (b₂ : Kn), b₁.le b₂ → rowsK rows₁ = rowsK rows → rowsF rows₁ = follow0 st ord → S y ((dBody (stmtAt 13)).drop 3) b₂ (Ch.loc y.L [(Str.ofString "follows", .ref df), (Str.ofString "grammar", .ref g)] :: (G ++ rowsC Z.w rows₁)) (Ret P) := by
      intro rows₁ b₂ hb₂ hK₁ hF₁
      show S y (_ :: _ :: _ :: []) _ _ _
      refine S_asg (E_bool (Sto_ok ?_))
      refine S_while (fun m b' o' => ∃ rs gr, o' = Ch.loc y.L [(Str.ofString "grown", .bool gr), (Str.ofString "follows", .ref df), (Str.ofString "grammar", .ref g)] :: (G ++ rowsC Z.w rs) ∧ rowsK rs = rowsK rows ∧ b₁.le b' ∧
        (if gr then followsP tbl emp fs ord m (rowsF rs) = some fo else rowsF rs = fo)) fuel ⟨rows₁, true, rfl, hK₁, hb₂, by rw [hF₁]; exact hf⟩ (fun m b₃ o₁ _ q => ?_)
      obtain ⟨rs, gr, rfl, hK, hb₃, q⟩ := q
      refine T_val ?_
      refine E_name rfl ?_
      with_reducible refine ⟨_, rfl, ?_⟩
      cases gr with
      | false =>
        refine if_f rfl ?_
        refine W.forget (o₁ := Ch.loc y.L [(Str.ofString "grown", .bool false), (Str.ofString "follows", .ref df), (Str.ofString "grammar", .ref g)] :: G) ((List.sublist_append_left G _).cons_cons _) ?_
        exact S_ret (E_name rfl (ret_ok (h _ b₃ (hb₁.trans hb₃))))
      | true =>
        refine if_t rfl ?_
        have q : followsP tbl emp fs ord m (rowsF rs) = some fo := q
        obtain ⟨m, rfl⟩ : ∃ k, m = k + 1 := by cases m with | zero => simp [followsP] at q | succ k => exact ⟨k, rfl⟩
        rw [followsP] at q
        have hgg := fun {b' : Kn} {l : List (Str × Value)} {r : List Row} (hb : b₁.le b') => hg.mono (hb₁.trans hb) (own' := Ch.loc y.L l :: (G ++ rowsC Z.w r)) fun _ q => .tail _ (List.mem_append_left _ q)
        refine S_asg (E_bool (Sto_ok (S_names (l' := [(Str.ofString "grown", .bool false), (Str.ofString "follows", .ref df), (Str.ofString "grammar", .ref g)]) ?_)))
        refine S_for ?_
        refine E_attr ?_
        refine E_name rfl ?_
        refine GetA_inst Z.ok.cG (hgg (l := []) (r := []) hb₃).g (hgg hb₃).d (hgg (l := []) (r := []) hb₃).a2 ?_
        refine Itr_list (hgg (l := []) (r := []) hb₃).o.ent fun I => ?_
        refine ForQ_list (fun j b' o' => ∃ r gr, o' = Ch.loc y.L [(Str.ofString "grown", .bool gr), (Str.ofString "follows", .ref df), (Str.ofString "grammar", .ref g)] :: (G ++ rowsC Z.w r) ∧ rowsK r = rowsK rows ∧ b₁.le b' ∧
          passA tbl emp fs ord (rowsF rs, false) = passA tbl emp fs (ord.drop j) (rowsF r, gr)) ⟨rs, false, rfl, hK, hb₃, rfl⟩ (fun j b' o' hb _ => .inl ((hgg (l := []) (r := []) (hb₃.trans hb)).o)) (fun j u b' o' hu hb q' => ?_) (fun b' o' hb q' => ?_)
        · obtain ⟨r, gr, rfl, hK', hb₄, q'⟩ := q'
          obtain ⟨n, hn', rfl⟩ := names_get hu
          rw [passA_step tbl emp fs hn', stepA] at q'
          cases h2 : tbl.lookup n with
          | none => rw [h2] at q'; rw [q'] at q; cases q
          | some e =>
            simp only [h2] at q'
            cases h3 : addF tbl emp fs e (.row n) (rowsF r) with
            | none => simp only [h3] at q'; rw [q'] at q; cases q
            | some r' =>
              simp only [h3] at q'
              have hrow : (valueAt (rowsK rows) n).isSome = true := by
                rw [(rows_in (w := Z.w) (b := b₁) (own := rowsC Z.w rows) rows (rows_src rows)).some_, (by assumption : rowsF rows = fst0 ord), fst0_some]
                exact List.contains_iff_mem.mpr (List.mem_of_getElem? hn')
              obtain ⟨vr, hvr⟩ := Option.isSome_iff_exists.mp hrow
              refine Asg_name (Sto_ok (S_if1 (T_val (E_fn 14 ?_))))
              refine A_cons ?_
              refine E_name rfl ?_
              refine A_cons ?_
              with_reducible refine E_sub ?_
              refine E_attr ?_
              refine E_name rfl ?_
              refine GetA_inst Z.ok.cG (hgg (l := []) (r := []) hb₄).g (hgg hb₄).d (hgg (l := []) (r := []) hb₄).a3 ?_
              refine E_name rfl ?_
              refine tbl_item (hgg (l := []) (r := []) hb₄).t h2 fun v hv => ?_
              refine A_cons ?_
              with_reducible refine E_sub ?_
              refine E_name rfl ?_
              refine E_name rfl ?_
              refine Item_dict (hdf.mono hb₄).ent (keyS _ _) hvr ?_ (fun key' hk => by obtain ⟨t, rfl⟩ := er_str hk; with_unfolding_all rfl)
              refine A_cons ?_
              refine E_name rfl ?_
              with_reducible refine A_nil ?_
              refine add_follows_ok (x := y.free) D (by show D + 5 ≤ y.n; omega) (hD n e h2) (G := Ch.loc y.L _ :: G) ⟨_, _, _, _, _, _, hg.mono (hb₁.trans hb₄) fun _ q => .tail _ q⟩ hv (af := .row n) (show valueAt (rowsK r) n = _ by rw [hK']; exact hvr) (by rw [hK']; exact hdf.mono hb₄) h3 fun r'' b₅ hb₅ hK₅ hF₅ => ⟨_, rfl, if_b (fun c => ?_) (fun c => ?_)⟩
              · rw [c, Bool.or_true] at q'
                exact S_asg (E_bool (Sto_ok (S_nil (S_end ⟨r'', true, rfl, hK₅.trans hK', hb₄.trans hb₅, by rw [hF₅]; exact q'⟩))))
              · rw [c, Bool.or_false] at q'
                exact S_end ⟨r'', gr, rfl, hK₅.trans hK', hb₄.trans hb₅, by rw [hF₅]; exact q'⟩
        · obtain ⟨r, gr, rfl, hK', hb₄, q'⟩ := q'
          rw [List.length_map, List.drop_length, passA] at q'
          rw [q'] at q
          refine S_nil ⟨m, Nat.lt_succ_self m, r, gr, rfl, hK', hb₄, ?_⟩
          cases gr with
          | true => exact q
          | false => exact Option.some.inj q
    refine S_if1 ?_
    refine T_cmp ?_
    refine E_attr ?_
    refine E_name rfl ?_
    refine GetA_inst Z.ok.cG (hg.g.mono hb₁) (hg.d.mono hb₁ fun _ q => .tail _ (List.mem_append_left _ q)) hg.a1 ?_
    refine E_name rfl ?_
    refine Cmp_in hdf.ent (keyS _ _) ⟨_, rfl, ?_⟩
    have e0 : (valueAt (rowsK rows) st).isSome = ord.contains st := by
      rw [(rows_in (w := Z.w) (b := b₁) (own := rowsC Z.w rows) rows (rows_src rows)).some_, q, fst0_some]
    rw [e0]
    refine if_b (fun c => ?_) (fun c => ?_)
    · have hT : (rowsF rows).lookup st = some [] := by
        rw [q]
        cases e : (fst0 ord).lookup st with
        | none => rw [← fst0_some, e] at c; cases c
        | some T => rw [fst0_look e]
      obtain ⟨d, r1, r2, r3⟩ := rows_find (w := Z.w) hT
      obtain ⟨ve, hve, hge⟩ := Z.ok.endv
      refine S_seti ?_
      with_reducible refine E_bool ?_
      with_reducible refine E_sub ?_
      refine E_name rfl ?_
      refine E_attr ?_
      refine E_name rfl ?_
      refine GetA_inst Z.ok.cG (hg.g.mono hb₁) (hg.d.mono hb₁ fun _ q => .tail _ (List.mem_append_left _ q)) hg.a1 ?_
      refine Item_dict hdf.ent (keyS _ _) r1 ?_ (fun key' hk => by obtain ⟨t, rfl⟩ := er_str hk; with_unfolding_all rfl)
      refine E_globalV hge hve ?_
      have hput : Put (Ch.of d (DicO (strKind pw Z.w) d (setKvs []))) (Ch.of d (DicO (strKind pw Z.w) d (stored (setKvs []) (Str.ofString "eof") (.bool true)))) (rowsC Z.w rows) (rowsC Z.w (updR rows st [eofS])) := by rw [stored_set]; exact r3 _
      refine SetI_dict (.tail (Put.app G hput)) (keyS _ _) (Nat.zero_le _) ?_
      refine S_nil (rest (updR rows st [eofS]) b₁ .rfl (updR_K ..) ?_)
      rw [updR_F, q, follow0, c, if_pos rfl]
    · refine rest rows b₁ .rfl rfl ?_
      rw [q, follow0, c, if_neg Bool.false_ne_true]
end
inductive RulesIn (b : Kn) : List Value → Tbl → Prop
  | nil : RulesIn b [] []
  | cons {t n ve e vs tbl} : At b t (TupO [vS n, ve]) → ExIn b ve e → RulesIn b vs tbl → RulesIn b (.ref t :: vs) ((n, e) :: tbl)
theorem RulesIn.mono {b b' : Kn} (hb : b.le b') {vs : List Value} {tbl : Tbl} (h : RulesIn b vs tbl) : RulesIn b' vs tbl := by
  induction h with
  | nil => exact .nil
  | cons h1 h2 _ ih => exact .cons (h1.mono hb) (h2.mono hb) ih
theorem RulesIn.get {b : Kn} {vs : List Value} {tbl : Tbl} (h : RulesIn b vs tbl) : ∀ (j : Nat) (u : Value), vs[j]? = some u → ∃ t n ve e, u = .ref t ∧ At b t (TupO [vS n, ve]) ∧ tbl[j]? = some (n, e) ∧ ExIn b ve e := by
  induction h with
  | nil => intro j u hu; simp at hu
  | @cons t n ve e vs tbl h1 h2 _ ih =>
    intro j u hu
    cases j with
    | zero => simp at hu; exact ⟨t, n, ve, e, hu.symm, h1, rfl, h2⟩
    | succ j => simp at hu; simpa using ih j u hu
theorem RulesIn.len {b : Kn} {vs : List Value} {tbl : Tbl} (h : RulesIn b vs tbl) : vs.length = tbl.length := by
  induction h with
  | nil => rfl
  | cons _ _ _ ih => simp [ih]
noncomputable def ordOf (tbl : Tbl) : List Str := tbl.map (·.1)
noncomputable def Ready (D : Nat) (tbl : Tbl) (st : Str) (emp : List Str) (fs : Fst) : Prop :=
  (ordOf tbl).Nodup ∧ tbl.length ≤ 1000 ∧ (∀ p ∈ tbl, p.2.dep ≤ D ∧ p.2.alias tbl = false) ∧ ∃ f1 f2 f3 fo, emptyP tbl (ordOf tbl) f1 [] = some emp ∧ firstsP tbl emp (ordOf tbl) f2 (fst0 (ordOf tbl)) = some fs ∧ followsP tbl emp fs (ordOf tbl) f3 (follow0 st (ordOf tbl)) = some fo
theorem look_mem {α : Type} {tbl : List (Str × α)} {n : Str} {e : α} (h : tbl.lookup n = some e) : (n, e) ∈ tbl := by
  obtain ⟨l₁, l₂, q, _⟩ := List.lookup_eq_some_iff.mp h
  rw [q]; simp
theorem look_of_mem {α : Type} {tbl : List (Str × α)} {n : Str} (h : n ∈ tbl.map (·.1)) : (tbl.lookup n).isSome = true := by
  induction tbl with
  | nil => cases h
  | cons p tbl ih =>
    obtain ⟨k, v⟩ := p
    rw [List.lookup_cons]
    cases e : n == k with
    | true => rfl
    | false =>
      rcases List.mem_cons.mp h with q | q
      · rw [show (n == k) = true from beq_iff_eq.mpr q] at e; cases e
      · exact ih q
theorem KvsIn.keys {α : Type} {R : Value → α → Prop} {kvs : List (Str × Value)} {xs : List (Str × α)} (h : KvsIn R kvs xs) : kvs.map (·.1) = xs.map (·.1) := by
  induction h with
  | nil => rfl
  | cons _ _ ih => simp [ih]
theorem KvsIn.snoc {α : Type} {R : Value → α → Prop} {kvs : List (Str × Value)} {xs : List (Str × α)} {k : Str} {v : Value} {e : α} (h : KvsIn R kvs xs) (hv : R v e) : KvsIn R (kvs ++ [(k, v)]) (xs ++ [(k, e)]) := by
  induction h with
  | nil => exact .cons hv .nil
  | cons h1 _ ih => exact .cons h1 ih
section
variable {Z : Zc} {i : Nat} {x : Act Z i} {b : Kn} {own : List Ch}
theorem Grammar_ok {D : Nat} {lr : Addr} {vs : List Value} {tbl : Tbl} {st : Str} {emp : List Str} {fs : Fst} {P : Value → Kn → List Ch → Prop} (hn : D + 10 ≤ x.n) (hl : At b lr (LstO vs)) (hr : RulesIn b vs tbl) (hR : Ready D tbl st emp fs)
    (h : ∀ g b', b.le b' → Gr Z b' [] g st (ordOf tbl) tbl emp fs → P (.ref g) b' own) : Call x (.ref Z.G) [.ref lr, vS st] b own P := by
  have sl : sizeLine = 2 ^ 24 := rfl
  obtain ⟨nd, hsz, hD, f1, f2, f3, fo, hf1, hf2, hf3⟩ := hR
  refine Call.alone ?_
  refine Call_cls Z.ok.cG [Str.ofString "self", Str.ofString "rules", Str.ofString "start"] (by show 2 ≤ x.n; omega) (j := 108) (by decide) (by decide) (fun g vs hv _ _ _ _ _ _ => by obtain ⟨a, c, rfl⟩ := two_of hv; rfl) rfl rfl (fun y g dx b₀ hy hb₀ hg => ?_)
  have hy' : y.n + 2 = x.n := hy
  refine S_seta ?_
  refine E_name rfl ?_
  refine E_name rfl ?_
  refine SetA_inst Z.ok.cG hg (.tail .head) ?_
  refine S_seta (E_list0 fun lo => ?_)
  refine E_name rfl ?_
  refine SetA_inst Z.ok.cG hg (.tail (.tail .head)) ?_
  refine S_seta (E_dict0 (strKind pw Z.w) fun lt => ?_)
  refine E_name rfl ?_
  refine SetA_inst Z.ok.cG hg (.tail (.tail (.tail .head))) ?_
  refine S_for ?_
  refine E_name rfl ?_
  refine Itr_list (hl.mono hb₀).ent fun I => ?_
  refine ForQ_listT (fun j b' o' => b' = b₀ ∧ ∃ kvs l, o' = Ch.loc y.L ([(Str.ofString "start", vS st), (Str.ofString "rules", .ref lr), (Str.ofString "self", .ref g)]) :: Ch.of lt (DicO (strKind pw Z.w) lt kvs) :: Ch.of lo (LstO l) ::
      [Ch.of dx (AttO [(Str.ofString "table", .ref lt), (Str.ofString "order", .ref lo), (Str.ofString "start", vS st)])] ∧ KvsIn (ExIn b₀) kvs (tbl.take j) ∧ l = (ordOf (tbl.take j)).map vS) ⟨rfl, [], [], rfl, .nil, rfl⟩ (fun u hu => ?_)
    (fun j b' o' hb _ => .inl (hl.mono (hb₀.trans hb))) (fun j u b' o' hu _ q => ?_) (fun b' o' _ q => ?_)
  · obtain ⟨j, hj, e⟩ := List.getElem_of_mem hu
    obtain ⟨t, n, ve, e, rfl, _⟩ := hr.get j u (by rw [List.getElem?_eq_getElem hj, e])
    exact ⟨t, rfl⟩
  · obtain ⟨rfl, kvs, l, rfl, hk, rfl⟩ := q
    obtain ⟨t, n, ve, e, rfl, p1, p2, p3⟩ := hr.get j u hu
    have hlt : j < tbl.length := (List.getElem?_eq_some_iff.mp p2).1
    have htk : tbl.take (j + 1) = tbl.take j ++ [(n, e)] := by rw [List.take_add_one, p2]; rfl
    have hnin : n ∉ kvs.map (·.1) := by
      rw [hk.keys]
      intro q
      have : (ordOf tbl)[j]? = some n := by unfold ordOf; rw [List.getElem?_map, p2]; rfl
      rw [show (tbl.take j).map (·.1) = (ordOf tbl).take j by unfold ordOf; rw [List.map_take]] at q
      obtain ⟨k, hk', e'⟩ := List.mem_take_iff_getElem.mp q
      obtain ⟨h1, h2⟩ := List.getElem?_eq_some_iff.mp this
      have := (List.getElem_inj nd).mp (e'.trans h2.symm)
      omega
    have hval : (valueAt kvs n).isSome = false := by
      rw [hk.some_]
      cases q : (tbl.take j).lookup n with
      | none => rfl
      | some e' => exact absurd (by rw [hk.keys]; exact List.mem_map_of_mem (f := Prod.fst) (look_mem q)) hnin
    have kl : kvs.length ≤ 1000 := by rw [← List.length_map (f := (·.1)), hk.keys, List.length_map, List.length_take]; omega
    refine Asg_pair (p1.mono hb₀).ent (Sto_ok (Sto_ok (S_if1 ?_)))
    refine T_cmp ?_
    refine E_name rfl ?_
    refine E_attr ?_
    refine E_name rfl ?_
    refine GetA_inst Z.ok.cG hg (.inr (.tail _ (.tail _ (.tail _ (.head _))))) rfl ?_
    refine Cmp_notin (Ent.own (.tail _ (.head _))) (keyS _ _) ⟨_, rfl, ?_⟩
    rw [hval]
    refine if_t rfl (S_exp (E_lmeth "list.append" F.slot_list_append F.type_list_append ?_))
    refine E_attr ?_
    refine E_name rfl ?_
    refine GetA_inst Z.ok.cG hg (.inr (.tail _ (.tail _ (.tail _ (.head _))))) rfl ?_
    refine ⟨lo, _, rfl, Ent.own (.tail _ (.tail _ (.head _))), M_append (E_name rfl ⟨_, _, .tail (.tail .head), by rw [List.length_map, ordOf, List.length_map, List.length_take]; omega, fun _ => nofun, ?_⟩)⟩
    refine S_seti ?_
    refine E_name rfl ?_
    refine E_attr ?_
    refine E_name rfl ?_
    refine GetA_inst Z.ok.cG hg (.inr (.tail _ (.tail _ (.tail _ (.head _))))) rfl ?_
    refine E_name rfl ?_
    refine SetI_dict (.tail .head) (keyS _ _) (by omega) ?_
    rw [stored_new hnin]
    refine S_nil (S_end ⟨rfl, _, _, rfl, ?_, ?_⟩)
    · rw [htk]; exact hk.snoc (p3.mono hb₀)
    · rw [htk]; unfold ordOf; rw [List.map_append, List.map_append]; rfl
  · obtain ⟨rfl, kvs, l, rfl, hk, rfl⟩ := q
    rw [hr.len, List.take_length] at hk ⊢
    refine W.freeze (.right (.left (Split.none _))) (fun h q => q) fun ot b₁ hφt hb₁ hbt => ?_
    refine W.freeze (.right (.left (Split.none _))) (fun h q => q) fun ol b₂ hφl hb₂ hbl => ?_
    have ht : TblIn Z.w b₂ (.ref lt) tbl := ⟨lt, kvs, rfl, ⟨ot, hb₂ _ _ hbt, hφt⟩, hk.mono fun _ _ q => q.mono (hb₁.trans hb₂)⟩
    have ho : At b₂ lo (LstO ((ordOf tbl).map vS)) := ⟨ol, hbl, hφl⟩
    have hle : tbl.Le D := fun n e q => (hD _ (look_mem q)).1
    have hg₂ := hg.mono (hb₁.trans hb₂)
    refine S_seta (E_fn 10 ?_)
    refine A_cons ?_
    refine E_attr ?_
    refine E_name rfl ?_
    refine GetA_inst Z.ok.cG hg₂ (.inr (.tail _ (.head _))) rfl ?_
    refine A_cons ?_
    refine E_attr ?_
    refine E_name rfl ?_
    refine GetA_inst Z.ok.cG hg₂ (.inr (.tail _ (.head _))) rfl ?_
    with_reducible refine A_nil ?_
    refine empty_rules_ok (D := D) (by omega) ht hle ho (fun n hn => look_of_mem hn) hf1 fun v b₃ hb₃ hv => ?_
    obtain ⟨de, rfl, hE⟩ := hv
    refine E_name rfl ?_
    refine SetA_inst Z.ok.cG (hg₂.mono hb₃) (.tail .head) ?_
    refine S_seta (E_fn 12 ?_)
    refine A_cons ?_
    refine E_attr ?_
    refine E_name rfl ?_
    refine GetA_inst Z.ok.cG (hg₂.mono hb₃) (.inr (.tail _ (.head _))) rfl ?_
    refine A_cons ?_
    refine E_attr ?_
    refine E_name rfl ?_
    refine GetA_inst Z.ok.cG (hg₂.mono hb₃) (.inr (.tail _ (.head _))) rfl ?_
    refine A_cons ?_
    refine E_attr ?_
    refine E_name rfl ?_
    refine GetA_inst Z.ok.cG (hg₂.mono hb₃) (.inr (.tail _ (.head _))) rfl ?_
    with_reducible refine A_nil ?_
    refine first_rows_ok (D := D) (by omega) (ht.mono hb₃) hle (fun n e q => (hD _ (look_mem q)).2) (ho.mono hb₃) nd hE (by rw [ordOf, List.length_map]; exact hsz) hf2 fun vf b₄ hb₄ hF => ?_
    refine E_name rfl ?_
    have hb24 := hb₃.trans hb₄
    have hvf : ∃ a, vf = .ref a := let ⟨d, _, e, _⟩ := hF; ⟨d, e⟩
    refine SetA_inst Z.ok.cG (hg₂.mono hb24) (.tail .head) ?_ (hu := by obtain ⟨a, rfl⟩ := hvf; intro _ q; cases q)
    have hGr : ∀ {as b' own'}, b₄.le b' → Src b' own' dx (AttO as) → as.lookup (Str.ofString "start") = some (vS st) → as.lookup (Str.ofString "order") = some (.ref lo) → as.lookup (Str.ofString "table") = some (.ref lt) → as.lookup (Str.ofString "empty") = some (.ref de) → as.lookup (Str.ofString "firsts") = some vf →
        as.lookup (Str.ofString "nullable") = none → as.lookup (Str.ofString "first") = none → as.lookup (Str.ofString "predict") = none → Gr Z b' own' g st (ordOf tbl) tbl emp fs := fun hb hs e1 e2 e3 e4 e5 e6 e7 e8 =>
      ⟨dx, lo, de, _, _, vf, ⟨hg₂.mono (hb24.trans hb), hs, e1, e2, ho.mono (hb24.trans hb), e3, ht.mono (hb24.trans hb), e4, hE.mono (hb₄.trans hb), e5, hF.mono hb fun _ q => q, e6, e7, e8⟩⟩
    refine S_seta (E_fn 13 ?_)
    refine A_cons ?_
    refine E_name rfl ?_
    with_reducible refine A_nil ?_
    refine follow_rows_ok (D := D) (by omega) (hGr .rfl (.inr (.tail _ (.head _))) rfl rfl rfl rfl rfl rfl rfl rfl) hle nd (by rw [ordOf, List.length_map]; exact hsz) hf3 fun d b₅ hb₅ => ?_
    refine E_name rfl ?_
    refine SetA_inst Z.ok.cG (hg₂.mono (hb24.trans hb₅)) (.tail .head) ?_
    refine W.freeze (.right (.left (Split.none _))) (fun h q => q) fun og b₆ hφ hb₆ hbo => ?_
    refine S_nil (next_ok ⟨rfl, rfl, h g b₆ (hb₀.trans (hb₁.trans (hb₂.trans (hb24.trans (hb₅.trans hb₆))))) (hGr (hb₅.trans hb₆) (.inl ⟨og, hbo, hφ⟩) rfl rfl rfl rfl rfl rfl rfl rfl)⟩)
end
noncomputable def tokAt (row : List Str) (p : Nat) : Str := (row[p]?).getD eofS
section
variable (tbl : Tbl) (emp : List Str) (fs : Fst)
noncomputable def pick1 (tok : Str) : List Ex → Option (Option Ex)
  | [] => some none
  | e :: es => match firstP tbl emp fs e with
    | some s => if s.length ≤ 1000 then (if s.contains tok then some (some e) else pick1 tok es) else none
    | none => none
noncomputable def pick2 : List Ex → Option Ex
  | [] => none
  | e :: es => if mayE emp e then some e else pick2 es
noncomputable def chosenP (tok : Str) (es : List Ex) : Option (Option Ex) := match pick1 tbl emp fs tok es with
  | some (some e) => some (some e)
  | some none => some (pick2 emp es)
  | none => none
noncomputable def expandedP (tok : Str) : Ex → Option (Option (List Ex))
  | .seq es => some (some es.reverse)
  | .alt es => match chosenP tbl emp fs tok es with
    | some (some e) => some (some [e])
    | some none => some none
    | none => none
  | .opt e => match firstP tbl emp fs e with
    | some s => if s.length ≤ 1000 then (if s.contains tok then some (some [e]) else some (some [])) else none
    | none => none
  | .rep e => match firstP tbl emp fs e with
    | some s => if s.length ≤ 1000 then (if s.contains tok then some (some [.rep e, e]) else some (some [])) else none
    | none => none
  | _ => none
theorem pick1_step {tok : Str} {es : List Ex} {j : Nat} {e : Ex} (h : es[j]? = some e) : pick1 tbl emp fs tok (es.drop j) = match firstP tbl emp fs e with
    | some s => if s.length ≤ 1000 then (if s.contains tok then some (some e) else pick1 tbl emp fs tok (es.drop (j + 1))) else none
    | none => none := by
  rw [List.drop_eq_getElem_cons (List.getElem?_eq_some_iff.mp h).1, (List.getElem?_eq_some_iff.mp h).2, pick1]
theorem pick2_step {es : List Ex} {j : Nat} {e : Ex} (h : es[j]? = some e) : pick2 emp (es.drop j) = if mayE emp e then some e else pick2 emp (es.drop (j + 1)) := by
  rw [List.drop_eq_getElem_cons (List.getElem?_eq_some_iff.mp h).1, (List.getElem?_eq_some_iff.mp h).2, pick2]
end
section
variable {Z : Zc} {i : Nat} {x : Act Z i} {b : Kn} {own : List Ch} {g : Addr} {st : Str} {ord : List Str} {tbl : Tbl} {emp : List Str} {fs : Fst} {P : Value → Kn → List Ch → Prop}
theorem token_at_ok {lk : Addr} {row : List Str} {p : Nat} (hn : 1 ≤ x.n) (hk : At b lk (LstO (row.map vS))) (hz : row.length ≤ 100000) (h : P (vS (tokAt row p)) b own) : Call x (.ref (Z.F 19)) [.ref lk, vI p] b own P := by
  refine Call_fn [Str.ofString "kinds", Str.ofString "place"] (by omega) (by decide) (fun vs hv _ _ _ _ _ _ => by obtain ⟨a, c, rfl⟩ := two_of hv; rfl) rfl rfl rfl (fun y hy => ?_)
  refine S_if1 (T_cmp (E_name rfl (E_bi Z.ok.len ?_)))
  refine A_cons ?_
  refine E_name rfl ?_
  with_reducible refine A_nil ?_
  refine Call_len_list hk.ent (by rw [List.length_map]; omega) ?_
  with_reducible refine Cmp_ltI ?_
  with_reducible refine ⟨_, rfl, ?_⟩
  refine if_b (fun c => ?_) (fun c => ?_)
  · have hp : p < row.length := by have := of_decide_eq_true c; rw [List.length_map] at this; omega
    have ht : tokAt row p = row[p] := by unfold tokAt; rw [List.getElem?_eq_getElem hp]; rfl
    rw [ht] at h
    with_reducible refine S_ret ?_
    with_reducible refine E_sub ?_
    refine E_name rfl ?_
    refine E_name rfl ?_
    refine Item_list (k := (p : Int)) hk.ent (by omega) (by omega) (u := vS row[p]) ?_ (ret_ok h)
    rw [Int.toNat_natCast, List.getElem?_map, List.getElem?_eq_getElem hp]; rfl
  · have hp : row.length ≤ p := by have := of_decide_eq_false c; rw [List.length_map] at this; omega
    have ht : tokAt row p = eofS := by unfold tokAt; rw [List.getElem?_eq_none hp]; rfl
    rw [ht] at h
    obtain ⟨ve, hve, hge⟩ := Z.ok.endv
    exact S_ret (E_globalV hge hve (ret_ok h))
theorem chosen_ok {D : Nat} {a c : Addr} {tag tok : Str} {vs : List Value} {es : List Ex} {r : Option Ex} (hn : D + 4 ≤ x.n) (hg : Gr Z b own g st ord tbl emp fs) (ha : At b a (TupO [vS tag, .ref c])) (hc : At b c (TupO vs)) (hx : ExsIn b vs es) (hd : ∀ e ∈ es, e.dep ≤ D)
    (hr : chosenP tbl emp fs tok es = some r) (h : ∀ v b', b.le b' → (match r with | some e => ExIn b' v e | none => v = .none) → P v b' own) : Call x (.ref (Z.F 20)) [.ref g, .ref a, vS tok] b own P := by
  refine Call_fn [Str.ofString "grammar", Str.ofString "e", Str.ofString "token"] (by omega) (by decide) (fun vs hv _ _ _ _ _ _ => by obtain ⟨a, c, d, rfl⟩ := three_of hv; rfl) rfl rfl rfl (fun y hy => ?_)
  obtain ⟨dx, lo, de, as, vt, vf, hg⟩ := hg
  have sl : sizeLine = 2 ^ 24 := rfl
  have hgg := fun {b' : Kn} {l : List (Str × Value)} (hb : b.le b') => hg.mono hb (own' := Ch.loc y.L l :: own) fun _ q => .tail _ q
  refine S_for ?_
  with_reducible refine E_sub ?_
  refine E_name rfl ?_
  with_reducible refine E_int ?_
  refine Item_tuple ha.ent rfl rfl ?_
  refine Itr_tuple hc.ent fun I => ?_
  refine ForQ_tuple (fun j b' o' => b.le b' ∧ o' = Ch.loc y.L [(Str.ofString "token", vS tok), (Str.ofString "e", .ref a), (Str.ofString "grammar", .ref g)] :: own ∧
    (match pick1 tbl emp fs tok (es.drop j) with | some (some e) => some (some e) | some none => some (pick2 emp es) | none => none) = some r) hc ⟨.rfl, rfl, hr⟩ (fun j u b' o' hu _ q => ?_) (fun b' o' _ q => ?_)
  · obtain ⟨hb, rfl, q⟩ := q
    obtain ⟨e', he', hin⟩ := hx.get _ _ hu
    have hde := hd e' (List.mem_of_getElem? he')
    rw [pick1_step tbl emp fs he'] at q
    cases hf : firstP tbl emp fs e' with
    | none => rw [hf] at q; cases q
    | some s =>
      simp only [hf] at q
      by_cases hsz : s.length ≤ 1000
      · simp only [if_pos hsz] at q
        have hg₁ := hgg (l := [(Str.ofString "item", u), (Str.ofString "token", vS tok), (Str.ofString "e", .ref a), (Str.ofString "grammar", .ref g)]) hb
        refine Asg_name (Sto_ok (S_if1 (T_cmp (E_name rfl (E_meth Z.ok.cG 308 ?_)))))
        refine E_name rfl ?_
        refine ⟨g, dx, as, rfl, hg₁.g, hg₁.d, hg₁.n2, ?_⟩
        refine A_cons ?_
        refine E_name rfl ?_
        with_reducible refine A_nil ?_
        refine first_ok (by show e'.dep + 2 ≤ y.n; omega) ⟨_, _, _, _, _, _, hg₁⟩ (hin.mono hb) hf (by omega) fun d b₁ hb₁ => ?_
        refine Cmp_in (Ent.own (.head _)) (keyS _ _) ⟨_, rfl, ?_⟩
        rw [valueAt_set]
        refine if_b (fun c => ?_) (fun c => ?_)
        · simp only [c, if_true] at q
          cases q
          refine W.forget (List.sublist_cons_self _ _) ?_
          exact S_ret (E_name rfl (ret_ok (h u b₁ (hb.trans hb₁) (hin.mono (hb.trans hb₁)))))
        · simp only [c, Bool.false_eq_true, if_false] at q
          refine W.forget (List.sublist_cons_self _ _) ?_
          exact S_end ⟨hb.trans hb₁, rfl, q⟩
      · simp only [if_neg hsz] at q; cases q
  · obtain ⟨hb, rfl, q⟩ := q
    rw [hx.length, List.drop_length, pick1] at q
    simp only [Option.some.injEq] at q
    refine S_for ?_
    with_reducible refine E_sub ?_
    refine E_name rfl ?_
    with_reducible refine E_int ?_
    refine Item_tuple (ha.mono hb).ent rfl rfl ?_
    refine Itr_tuple (hc.mono hb).ent fun I => ?_
    refine ForQ_tuple (fun j b₁ o' => b'.le b₁ ∧ o' = Ch.loc y.L [(Str.ofString "token", vS tok), (Str.ofString "e", .ref a), (Str.ofString "grammar", .ref g)] :: own ∧ pick2 emp (es.drop j) = r) (hc.mono hb) ⟨.rfl, rfl, q⟩ (fun j u b₁ o' hu _ q => ?_) (fun b₁ o' _ q => ?_)
    · obtain ⟨hb₁, rfl, q⟩ := q
      obtain ⟨e', he', hin⟩ := hx.get _ _ hu
      have hde := hd e' (List.mem_of_getElem? he')
      rw [pick2_step emp he'] at q
      have hg₁ := hgg (l := [(Str.ofString "item", u), (Str.ofString "token", vS tok), (Str.ofString "e", .ref a), (Str.ofString "grammar", .ref g)]) (hb.trans hb₁)
      refine Asg_name (Sto_ok (S_if1 (T_val (E_meth Z.ok.cG 208 ?_))))
      refine E_name rfl ?_
      refine ⟨g, dx, as, rfl, hg₁.g, hg₁.d, hg₁.n1, ?_⟩
      refine A_cons ?_
      refine E_name rfl ?_
      with_reducible refine A_nil ?_
      refine nullable_ok (by show e'.dep + 1 ≤ y.n; omega) ⟨_, _, _, _, _, _, hg₁⟩ (hin.mono (hb.trans hb₁)) ⟨_, rfl, if_b (fun c => ?_) (fun c => ?_)⟩
      · rw [c, if_pos rfl] at q
        subst q
        exact S_ret (E_name rfl (ret_ok (h u b₁ (hb.trans hb₁) (hin.mono (hb.trans hb₁)))))
      · rw [c, if_neg Bool.false_ne_true] at q
        exact S_end ⟨hb₁, rfl, q⟩
    · obtain ⟨hb₁, rfl, q⟩ := q
      rw [hx.length, List.drop_length, pick2] at q
      subst q
      exact S_ret (E_none (ret_ok (h .none b₁ (hb.trans hb₁) rfl)))
end
theorem ExsIn.rev {b : Kn} {vs : List Value} {es : List Ex} (h : ExsIn b vs es) (ws : List Value) (fs : List Ex) (q : ExsIn b ws fs) : ExsIn b (vs.reverse ++ ws) (es.reverse ++ fs) := by
  cases h with
  | nil => exact q
  | cons h1 h2 => rw [List.reverse_cons, List.reverse_cons, List.append_assoc, List.append_assoc]; exact h2.rev _ _ (.cons h1 q)
section
variable {Z : Zc} {i : Nat} {x : Act Z i} {b : Kn} {own : List Ch} {g : Addr} {st : Str} {ord : List Str} {tbl : Tbl} {emp : List Str} {fs : Fst} {P : Value → Kn → List Ch → Prop}
theorem expanded_ok {ve : Value} {e : Ex} {tok : Str} {r : Option (List Ex)} (hn : e.dep + 5 ≤ x.n) (hg : Gr Z b own g st ord tbl emp fs) (he : ExIn b ve e) (hr : expandedP tbl emp fs tok e = some r)
    (hsz : ∀ es, e = .seq es → es.length < sizeLine) (hN : r = none → ∀ b', b.le b' → P .none b' own) (hS : ∀ es, r = some es → ∀ l vs b', b.le b' → ExsIn b' vs es → P (.ref l) b' (Ch.of l (LstO vs) :: own)) : Call x (.ref (Z.F 21)) [.ref g, ve, vS tok] b own P := by
  refine Call_fn [Str.ofString "grammar", Str.ofString "e", Str.ofString "token"] (by omega) (by decide) (fun vs hv _ _ _ _ _ _ => by obtain ⟨a, c, d, rfl⟩ := three_of hv; rfl) rfl rfl rfl (fun y hy => ?_)
  obtain ⟨dx, lo, de, as, vt, vf, hg⟩ := hg
  have sl : sizeLine = 2 ^ 24 := rfl
  have hgg := fun {b' : Kn} {l : List (Str × Value)} (hb : b.le b') => hg.mono hb (own' := Ch.loc y.L l :: own) fun _ q => .tail _ q
  have list1 : ∀ {es : List Ex} {vs : List Value} {b' : Kn} {yy : Act Z 21} {pos : Pos} {elts : List Expr} {l : List (Str × Value)}, b.le b' → r = some es → ExsIn b' vs es → Ags yy pos elts b' (Ch.loc yy.L l :: own) (fun us b₁ o₁ => us = vs ∧ b₁ = b' ∧ o₁ = Ch.loc yy.L l :: own) → vs.length ≤ sizeLine → E yy (.List elts pos) b' (Ch.loc yy.L l :: own) fun v => Ret P (.ret v) := fun {es vs b' yy pos elts l} hb hes hx hag hz =>
    E_list (W.mono hag fun us b₁ o₁ q => by
      obtain ⟨rfl, rfl, rfl⟩ := q
      exact ⟨hz, _, _, rfl, fun l => ret_ok (hS _ hes l _ _ hb hx)⟩)
  cases he with
  | text => cases hr
  | name => cases hr
  | @seq a c vs es ha hc hx =>
    simp only [expandedP] at hr
    cases hr
    refine S_asg ?_
    with_reducible refine E_sub ?_
    refine E_name rfl ?_
    with_reducible refine E_int ?_
    refine Item_tuple ha.ent rfl rfl ?_
    refine Sto_ok ?_
    with_reducible refine S_if1 ?_
    refine T_cmp ?_
    refine E_name rfl ?_
    with_reducible refine E_str ?_
    with_reducible refine Cmp_eqS ?_
    with_reducible refine ⟨_, rfl, ?_⟩
    refine if_t rfl ?_
    with_reducible refine S_ret ?_
    refine E_ty (Z.ok.bt "list" (by decide)) (A_cons (E_ty (Z.ok.bt "reversed" (by decide)) ?_))
    refine A_cons ?_
    with_reducible refine E_sub ?_
    refine E_name rfl ?_
    with_reducible refine E_int ?_
    refine Item_tuple ha.ent rfl rfl ?_
    with_reducible refine A_nil ?_
    have hl := hx.length
    have hsz := hsz es rfl
    refine Call_rev hc.ent (by rw [hl]; exact Nat.le_of_lt hsz) fun I => A_nil ?_
    exact Call_list_rev (t := c) (us := vs) (.right (.left (Split.none _))) hc.ent (by rw [hl]; exact hsz) fun l => ret_ok (hS _ rfl l vs.reverse b .rfl (by simpa using hx.rev _ _ .nil))
  | @alt a c vs es ha hc hx =>
    have hde : ∀ e' ∈ es, e'.dep ≤ Ex.depL es := fun e' he' => by
      obtain ⟨j, hj, e⟩ := List.getElem_of_mem he'
      exact Ex.depL_get (es := es) (j := j) (e := e') (by rw [List.getElem?_eq_getElem hj, e])
    simp only [Ex.dep] at hn
    simp only [expandedP] at hr
    cases hch : chosenP tbl emp fs tok es with
    | none => rw [hch] at hr; cases hr
    | some r' =>
      refine S_asg ?_
      with_reducible refine E_sub ?_
      refine E_name rfl ?_
      with_reducible refine E_int ?_
      refine Item_tuple ha.ent rfl rfl ?_
      refine Sto_ok ?_
      with_reducible refine S_if1 ?_
      refine T_cmp ?_
      refine E_name rfl ?_
      with_reducible refine E_str ?_
      with_reducible refine Cmp_eqS ?_
      with_reducible refine ⟨_, rfl, ?_⟩
      refine if_f rfl ?_
      with_reducible refine S_if1 ?_
      refine T_cmp ?_
      refine E_name rfl ?_
      with_reducible refine E_str ?_
      with_reducible refine Cmp_eqS ?_
      with_reducible refine ⟨_, rfl, ?_⟩
      refine if_t rfl ?_
      refine S_asg ?_
      refine E_fn 20 ?_
      refine A_cons ?_
      refine E_name rfl ?_
      refine A_cons ?_
      refine E_name rfl ?_
      refine A_cons ?_
      refine E_name rfl ?_
      with_reducible refine A_nil ?_
      refine chosen_ok (D := Ex.depL es) (by omega) ⟨_, _, _, _, _, _, hgg .rfl⟩ ha hc hx hde hch fun v b₁ hb₁ hv => ?_
      refine Sto_ok ?_
      with_reducible refine S_ret ?_
      with_reducible refine E_if ?_
      refine T_cmp ?_
      refine E_name rfl ?_
      with_reducible refine E_none ?_
      cases r' with
      | none =>
        rw [hch] at hr
        cases hr
        have hv : v = .none := hv
        subst hv
        refine Cmp_isNone ⟨_, rfl, if_t rfl (E_none (ret_ok (hN rfl b₁ hb₁)))⟩
      | some e' =>
        rw [hch] at hr
        cases hr
        have hv : ExIn b₁ v e' := hv
        obtain ⟨a', p', rfl, _, _⟩ := hv.open_
        refine Cmp_isNone ⟨_, rfl, if_f rfl ?_⟩
        exact list1 hb₁ rfl (.cons hv .nil) (A_cons (E_name rfl (A_nil ⟨rfl, rfl, rfl⟩))) (by simp [sizeLine])
  | @opt a ve' e' ha hx =>
    simp only [Ex.dep] at hn
    simp only [expandedP] at hr
    cases hf : firstP tbl emp fs e' with
    | none => rw [hf] at hr; cases hr
    | some s =>
      rw [hf] at hr
      by_cases hs : s.length ≤ 1000
      · simp only [if_pos hs] at hr
        have hg₁ := hgg (l := [(Str.ofString "tag", vS (Str.ofString "opt")), (Str.ofString "token", vS tok), (Str.ofString "e", .ref a), (Str.ofString "grammar", .ref g)]) .rfl
        refine S_asg ?_
        with_reducible refine E_sub ?_
        refine E_name rfl ?_
        with_reducible refine E_int ?_
        refine Item_tuple ha.ent rfl rfl ?_
        refine Sto_ok ?_
        with_reducible refine S_if1 ?_
        refine T_cmp ?_
        refine E_name rfl ?_
        with_reducible refine E_str ?_
        with_reducible refine Cmp_eqS ?_
        with_reducible refine ⟨_, rfl, ?_⟩
        refine if_f rfl ?_
        with_reducible refine S_if1 ?_
        refine T_cmp ?_
        refine E_name rfl ?_
        with_reducible refine E_str ?_
        with_reducible refine Cmp_eqS ?_
        with_reducible refine ⟨_, rfl, ?_⟩
        refine if_f rfl ?_
        with_reducible refine S_if1 ?_
        refine T_cmp ?_
        refine E_name rfl ?_
        refine E_meth Z.ok.cG 308 ?_
        refine E_name rfl ?_
        refine ⟨g, dx, as, rfl, hg₁.g, hg₁.d, hg₁.n2, ?_⟩
        refine A_cons ?_
        with_reducible refine E_sub ?_
        refine E_name rfl ?_
        with_reducible refine E_int ?_
        refine Item_tuple ha.ent rfl rfl ?_
        with_reducible refine A_nil ?_
        refine first_ok (by omega) ⟨_, _, _, _, _, _, hg₁⟩ hx hf (by omega) fun d b₁ hb₁ => ?_
        refine Cmp_notin (Ent.own (.head _)) (keyS _ _) ⟨_, rfl, ?_⟩
        rw [valueAt_set]
        refine if_b (fun c => W.forget (List.sublist_cons_self _ _) ?_) (fun c => W.forget (List.sublist_cons_self _ _) ?_)
        · rw [Bool.not_eq_true'] at c
          rw [c, if_neg Bool.false_ne_true] at hr
          cases hr
          exact S_ret (list1 hb₁ rfl .nil (A_nil ⟨rfl, rfl, rfl⟩) (by simp))
        · rw [Bool.not_eq_false'] at c
          rw [c, if_pos rfl] at hr
          cases hr
          refine S_if1 ?_
          refine T_cmp ?_
          refine E_name rfl ?_
          with_reducible refine E_str ?_
          with_reducible refine Cmp_eqS ?_
          with_reducible refine ⟨_, rfl, ?_⟩
          refine if_f rfl ?_
          with_reducible refine S_ret ?_
          refine list1 hb₁ rfl (.cons (hx.mono hb₁) .nil) (A_cons (E_sub ?_)) (by simp [sizeLine])
          refine E_name rfl ?_
          with_reducible refine E_int ?_
          exact Item_tuple (ha.mono hb₁).ent rfl rfl (A_nil ⟨rfl, rfl, rfl⟩)
      · simp only [if_neg hs] at hr; cases hr
  | @rep a ve' e' ha hx =>
    simp only [Ex.dep] at hn
    simp only [expandedP] at hr
    cases hf : firstP tbl emp fs e' with
    | none => rw [hf] at hr; cases hr
    | some s =>
      rw [hf] at hr
      by_cases hs : s.length ≤ 1000
      · simp only [if_pos hs] at hr
        have hg₁ := hgg (l := [(Str.ofString "tag", vS (Str.ofString "rep")), (Str.ofString "token", vS tok), (Str.ofString "e", .ref a), (Str.ofString "grammar", .ref g)]) .rfl
        refine S_asg ?_
        with_reducible refine E_sub ?_
        refine E_name rfl ?_
        with_reducible refine E_int ?_
        refine Item_tuple ha.ent rfl rfl ?_
        refine Sto_ok ?_
        with_reducible refine S_if1 ?_
        refine T_cmp ?_
        refine E_name rfl ?_
        with_reducible refine E_str ?_
        with_reducible refine Cmp_eqS ?_
        with_reducible refine ⟨_, rfl, ?_⟩
        refine if_f rfl ?_
        with_reducible refine S_if1 ?_
        refine T_cmp ?_
        refine E_name rfl ?_
        with_reducible refine E_str ?_
        with_reducible refine Cmp_eqS ?_
        with_reducible refine ⟨_, rfl, ?_⟩
        refine if_f rfl ?_
        with_reducible refine S_if1 ?_
        refine T_cmp ?_
        refine E_name rfl ?_
        refine E_meth Z.ok.cG 308 ?_
        refine E_name rfl ?_
        refine ⟨g, dx, as, rfl, hg₁.g, hg₁.d, hg₁.n2, ?_⟩
        refine A_cons ?_
        with_reducible refine E_sub ?_
        refine E_name rfl ?_
        with_reducible refine E_int ?_
        refine Item_tuple ha.ent rfl rfl ?_
        with_reducible refine A_nil ?_
        refine first_ok (by omega) ⟨_, _, _, _, _, _, hg₁⟩ hx hf (by omega) fun d b₁ hb₁ => ?_
        refine Cmp_notin (Ent.own (.head _)) (keyS _ _) ⟨_, rfl, ?_⟩
        rw [valueAt_set]
        refine if_b (fun c => W.forget (List.sublist_cons_self _ _) ?_) (fun c => W.forget (List.sublist_cons_self _ _) ?_)
        · rw [Bool.not_eq_true'] at c
          rw [c, if_neg Bool.false_ne_true] at hr
          cases hr
          exact S_ret (list1 hb₁ rfl .nil (A_nil ⟨rfl, rfl, rfl⟩) (by simp))
        · rw [Bool.not_eq_false'] at c
          rw [c, if_pos rfl] at hr
          cases hr
          refine S_if1 ?_
          refine T_cmp ?_
          refine E_name rfl ?_
          with_reducible refine E_str ?_
          with_reducible refine Cmp_eqS ?_
          with_reducible refine ⟨_, rfl, ?_⟩
          refine if_t rfl ?_
          with_reducible refine S_ret ?_
          refine list1 hb₁ rfl (.cons (.rep (ha.mono hb₁) (hx.mono hb₁)) (.cons (hx.mono hb₁) .nil)) (A_cons (E_name rfl (A_cons (E_sub ?_)))) (by simp [sizeLine])
          refine E_name rfl ?_
          with_reducible refine E_int ?_
          exact Item_tuple (ha.mono hb₁).ent rfl rfl (A_nil ⟨rfl, rfl, rfl⟩)
      · simp only [if_neg hs] at hr; cases hr
end
inductive Tree where
  | leaf (t : Str) (p : Nat)
  | node (n : Str) (kids : List Tree)
mutual
inductive TreeIn (b : Kn) : Value → Tree → Prop
  | leaf {a t p} : At b a (TupO [vS t, vI ((p : Nat) : Int)]) → TreeIn b (.ref a) (.leaf t p)
  | node {a n c vs ks} : At b a (TupO [vS n, .ref c]) → At b c (TupO vs) → TreesIn b vs ks → TreeIn b (.ref a) (.node n ks)
inductive TreesIn (b : Kn) : List Value → List Tree → Prop
  | nil : TreesIn b [] []
  | cons {v k vs ks} : TreeIn b v k → TreesIn b vs ks → TreesIn b (v :: vs) (k :: ks)
end
mutual
theorem TreeIn.mono {b b' : Kn} (hb : b.le b') {v : Value} {k : Tree} (q : TreeIn b v k) : TreeIn b' v k := by
  cases q with
  | leaf h => exact .leaf (h.mono hb)
  | node h h' x => exact .node (h.mono hb) (h'.mono hb) (x.mono hb)
theorem TreesIn.mono {b b' : Kn} (hb : b.le b') {vs : List Value} {ks : List Tree} (q : TreesIn b vs ks) : TreesIn b' vs ks := by
  cases q with
  | nil => exact .nil
  | cons h x => exact .cons (h.mono hb) (x.mono hb)
end
theorem TreesIn.app {b : Kn} {vs : List Value} {ks : List Tree} (h : TreesIn b vs ks) {us : List Value} {ls : List Tree} (q : TreesIn b us ls) : TreesIn b (vs ++ us) (ks ++ ls) := by
  cases h with
  | nil => exact q
  | cons h x => exact .cons h (x.app q)
theorem TreesIn.snoc {b : Kn} {vs : List Value} {ks : List Tree} {v : Value} {k : Tree} (h : TreesIn b vs ks) (q : TreeIn b v k) : TreesIn b (vs ++ [v]) (ks ++ [k]) := h.app (.cons q .nil)
theorem TreesIn.len {b : Kn} {vs : List Value} {ks : List Tree} (q : TreesIn b vs ks) : vs.length = ks.length := by
  cases q with
  | nil => rfl
  | cons h x => exact congrArg (· + 1) x.len
theorem TreesIn.get {b : Kn} {vs : List Value} {ks : List Tree} (q : TreesIn b vs ks) (i : Nat) (v : Value) (h : vs[i]? = some v) : ∃ k, ks[i]? = some k ∧ TreeIn b v k := by
  cases q with
  | nil => cases h
  | cons h' x => cases i with
    | zero => cases h; exact ⟨_, rfl, h'⟩
    | succ i => exact x.get i v h
structure Stt where
  w : List (Option Ex)
  ns : List (Str × List Tree)
  p : Nat
  k : Nat
inductive Res where
  | ok (t : Tree) (p : Nat)
  | bad (p : Nat)
  | limit
section
variable (tbl : Tbl) (emp : List Str) (fs : Fst) (row : List Str) (most : Nat)
noncomputable def stepR : Stt → Option (Stt ⊕ Res)
  | ⟨[], _, _, _⟩ => none
  | ⟨none :: w, ns, p, k⟩ => match ns with
    | (n, kids) :: (n2, kids2) :: ns => some (.inl ⟨w, (n2, kids2 ++ [.node n kids]) :: ns, p, k⟩)
    | _ => none
  | ⟨some e :: w, ns, p, k⟩ =>
    if isToken tbl e then
      if tokAt row p != tokenOf tbl e then some (.inr (.bad p)) else match ns with
        | (n, kids) :: ns => some (.inl ⟨w, (n, kids ++ [.leaf (tokAt row p) p]) :: ns, p + 1, 0⟩)
        | [] => none
    else match e with
      | .name s => match tbl.lookup s with
        | some e' => some (.inl ⟨some e' :: none :: w, (s, []) :: ns, p, k⟩)
        | none => none
      | e => match expandedP tbl emp fs (tokAt row p) e with
        | none => none
        | some none => match firstP tbl emp fs e with
          | some s => if s.length < 60 then some (.inr (.bad p)) else none
          | none => none
        | some (some l) => if l.length ≤ 1000 then some (.inl ⟨l.reverse.map some ++ w, ns, p, k⟩) else none
noncomputable def recR : Nat → Stt → Option Res
  | 0, _ => none
  | f + 1, s => match s.w with
    | [] => if s.p < row.length then some (.bad s.p) else match s.ns with
      | [(_, t :: _)] => some (.ok t s.p)
      | _ => none
    | _ => if most < s.k + 1 then some .limit else match stepR tbl emp fs row ⟨s.w, s.ns, s.p, s.k + 1⟩ with
      | some (.inl s') => recR f s'
      | some (.inr r) => some r
      | none => none
end
structure Nd where
  t : Addr
  kl : Addr
  n : Str
  vs : List Value
  ks : List Tree
noncomputable def ndsC (nds : List Nd) : List Ch := nds.map fun d => Ch.of d.kl (LstO d.vs)
noncomputable def ndsV (nds : List Nd) : List Value := nds.map fun d => .ref d.t
noncomputable def ndsM (nds : List Nd) : List (Str × List Tree) := nds.map fun d => (d.n, d.ks)
noncomputable def NdsIn (b : Kn) (nds : List Nd) : Prop := ∀ d ∈ nds, At b d.t (TupO [vS d.n, .ref d.kl]) ∧ TreesIn b d.vs d.ks
theorem NdsIn.mono {b b' : Kn} {nds : List Nd} (h : NdsIn b nds) (hb : b.le b') : NdsIn b' nds := fun d hd => ⟨(h d hd).1.mono hb, (h d hd).2.mono hb⟩
inductive WaitIn (Z : Zc) (b : Kn) : List Value → List (Option Ex) → Prop
  | nil : WaitIn Z b [] []
  | ex {v e vs es} : ExIn b v e → WaitIn Z b vs es → WaitIn Z b (v :: vs) (some e :: es)
  | close {a vs es} : Glo Z.h₀ (Str.ofString "CLOSE") (.ref a) → At b a (TupO [vS (Str.ofString "close"), vS (Str.ofString "")]) → WaitIn Z b vs es → WaitIn Z b (.ref a :: vs) (none :: es)
theorem WaitIn.mono {Z : Zc} {b b' : Kn} (hb : b.le b') {vs : List Value} {es : List (Option Ex)} (q : WaitIn Z b vs es) : WaitIn Z b' vs es := by
  induction q with
  | nil => exact .nil
  | ex h _ ih => exact .ex (h.mono hb) ih
  | close g h _ ih => exact .close g (h.mono hb) ih
theorem WaitIn.len {Z : Zc} {b : Kn} {vs : List Value} {es : List (Option Ex)} (q : WaitIn Z b vs es) : vs.length = es.length := by
  induction q with
  | nil => rfl
  | ex _ _ ih => exact congrArg (· + 1) ih
  | close _ _ _ ih => exact congrArg (· + 1) ih
theorem WaitIn.app {Z : Zc} {b : Kn} {vs : List Value} {es : List (Option Ex)} (h : WaitIn Z b vs es) {us : List Value} {fs : List Ex} (q : ExsIn b us fs) : WaitIn Z b (us ++ vs) (fs.map some ++ es) := by
  cases q with
  | nil => exact h
  | cons q r => exact .ex q (h.app r)
noncomputable def ResIn (Z : Zc) (b : Kn) (v : Value) (r : Res) : Prop := ∃ g dx vt vw p, v = .ref g ∧ At b g (InstO Z.R dx) ∧ At b dx (AttO [(Str.ofString "wanted", vw), (Str.ofString "place", vI ((p : Nat) : Int)), (Str.ofString "tree", vt)]) ∧
  match r with
  | .ok t q => q = p ∧ TreeIn b vt t
  | .bad q => q = p ∧ vt = .none
  | .limit => False
theorem chosen_mem {tbl : Tbl} {emp : List Str} {fs : Fst} {tok : Str} {e : Ex} : ∀ {es : List Ex}, chosenP tbl emp fs tok es = some (some e) → e ∈ es := by
  have p1 : ∀ {es : List Ex}, pick1 tbl emp fs tok es = some (some e) → e ∈ es := fun {es} => by
    induction es with
    | nil => intro h; cases h
    | cons e' es ih =>
      intro h
      rw [pick1] at h
      cases hf : firstP tbl emp fs e' with
      | none => rw [hf] at h; cases h
      | some s =>
        rw [hf] at h
        simp only at h
        split at h
        · split at h
          · cases h; exact .head _
          · exact .tail _ (ih h)
        · cases h
  have p2 : ∀ {es : List Ex}, pick2 emp es = some e → e ∈ es := fun {es} => by
    induction es with
    | nil => intro h; cases h
    | cons e' es ih =>
      intro h
      rw [pick2] at h
      split at h
      · cases h; exact .head _
      · exact .tail _ (ih h)
  intro es h
  unfold chosenP at h
  cases q : pick1 tbl emp fs tok es with
  | none => rw [q] at h; cases h
  | some r =>
    rw [q] at h
    cases r with
    | none => exact p2 (Option.some.inj h)
    | some e' => cases h; exact p1 q
theorem depL_mem {es : List Ex} {e : Ex} (h : e ∈ es) : e.dep ≤ Ex.depL es := by
  obtain ⟨j, hj, q⟩ := List.getElem_of_mem h
  exact Ex.depL_get (es := es) (j := j) (e := e) (by rw [List.getElem?_eq_getElem hj, q])
theorem expanded_dep {tbl : Tbl} {emp : List Str} {fs : Fst} {tok : Str} {e : Ex} {l : List Ex} (h : expandedP tbl emp fs tok e = some (some l)) : ∀ e' ∈ l, e'.dep ≤ e.dep := by
  intro e' he'
  cases e with
  | text => cases h
  | name => cases h
  | seq es =>
    simp only [expandedP, Option.some.injEq] at h
    subst h
    have := depL_mem (List.mem_reverse.mp he')
    simp only [Ex.dep]; omega
  | alt es =>
    simp only [expandedP] at h
    cases q : chosenP tbl emp fs tok es with
    | none => rw [q] at h; cases h
    | some r =>
      rw [q] at h
      cases r with
      | none => cases h
      | some e₁ =>
        cases h
        rw [List.mem_singleton.mp he']
        have := depL_mem (chosen_mem q)
        simp only [Ex.dep]; omega
  | opt e₁ =>
    simp only [expandedP] at h
    cases q : firstP tbl emp fs e₁ with
    | none => rw [q] at h; cases h
    | some s =>
      rw [q] at h
      simp only at h
      split at h
      · split at h
        · cases h; rw [List.mem_singleton.mp he']; simp only [Ex.dep]; omega
        · cases h; cases he'
      · cases h
  | rep e₁ =>
    simp only [expandedP] at h
    cases q : firstP tbl emp fs e₁ with
    | none => rw [q] at h; cases h
    | some s =>
      rw [q] at h
      simp only at h
      split at h
      · split at h
        · cases h
          rcases List.mem_cons.mp he' with rfl | he'
          · exact Nat.le_refl _
          · rw [List.mem_singleton.mp he']; simp only [Ex.dep]; omega
        · cases h; cases he'
      · cases h
section
variable {Z : Zc} {i : Nat} {x : Act Z i} {b : Kn} {own : List Ch} {P : Value → Kn → List Ch → Prop}
theorem Recognised_ok {vt vw : Value} {p : Nat} (hn : 3 ≤ x.n) (ht : ∀ i, vt ≠ .builtin i) (hw : ∀ i, vw ≠ .builtin i) (h : ∀ g dx b', b.le b' → At b' g (InstO Z.R dx) → At b' dx (AttO [(Str.ofString "wanted", vw), (Str.ofString "place", vI p), (Str.ofString "tree", vt)]) → P (.ref g) b' own) :
    Call x (.ref Z.R) [vt, vI p, vw] b own P := by
  refine Call_cls Z.ok.cR [Str.ofString "self", Str.ofString "tree", Str.ofString "place", Str.ofString "wanted"] (by omega) (j := 118) (by decide) (by decide) (fun g vs hv _ _ _ _ _ _ => by obtain ⟨a, c, d, rfl⟩ := three_of hv; rfl) rfl rfl (fun y g dx b₀ hy hb₀ hg => ?_)
  refine S_seta ?_
  refine E_name rfl ?_
  refine E_name rfl ?_
  refine SetA_inst Z.ok.cR hg (.tail .head) ?_ (hu := ht)
  refine S_seta ?_
  refine E_name rfl ?_
  refine E_name rfl ?_
  refine SetA_inst Z.ok.cR hg (.tail .head) ?_
  refine S_seta ?_
  refine E_name rfl ?_
  refine E_name rfl ?_
  refine SetA_inst Z.ok.cR hg (.tail .head) ?_ (hu := hw)
  refine W.freeze (.right (.left (Split.none _))) (fun h q => q) fun o b₁ hφ hb₁ hbo => ?_
  exact S_nil (next_ok ⟨rfl, h g dx b₁ (hb₀.trans hb₁) (hg.mono hb₁) ⟨o, hbo, hφ⟩⟩)
end
noncomputable def ItemIn (Z : Zc) (b : Kn) (v : Value) : Option Ex → Prop
  | some e => ExIn b v e
  | none => ∃ a, v = .ref a ∧ Glo Z.h₀ (Str.ofString "CLOSE") (.ref a) ∧ At b a (TupO [vS (Str.ofString "close"), vS (Str.ofString "")])
theorem WaitIn.inv {Z : Zc} {b : Kn} {ws : List Value} {o : Option Ex} {w : List (Option Ex)} (h : WaitIn Z b ws (o :: w)) : ∃ v vs, ws = v :: vs ∧ ItemIn Z b v o ∧ WaitIn Z b vs w := by
  cases h with
  | ex h r => exact ⟨_, _, rfl, h, r⟩
  | close g h r => exact ⟨_, _, rfl, ⟨_, rfl, g, h⟩, r⟩
section
variable (tbl : Tbl) (emp : List Str) (fs : Fst) (row : List Str)
theorem stepR_more {e : Ex} {w : List (Option Ex)} {ns : List (Str × List Tree)} {p k : Nat} (h : isToken tbl e = false) (hn : ∀ s, e ≠ .name s) : stepR tbl emp fs row ⟨some e :: w, ns, p, k⟩ = match expandedP tbl emp fs (tokAt row p) e with
        | none => none
        | some none => match firstP tbl emp fs e with
          | some s => if s.length < 60 then some (.inr (.bad p)) else none
          | none => none
        | some (some l) => if l.length ≤ 1000 then some (.inl ⟨l.reverse.map some ++ w, ns, p, k⟩) else none := by
  cases e with
  | text => cases h
  | name s => exact absurd rfl (hn s)
  | _ => rfl
theorem stepR_tok {e : Ex} {w : List (Option Ex)} {ns : List (Str × List Tree)} {p k : Nat} (h : isToken tbl e = true) : stepR tbl emp fs row ⟨some e :: w, ns, p, k⟩ = if tokAt row p != tokenOf tbl e then some (.inr (.bad p)) else match ns with
        | (n, kids) :: ns => some (.inl ⟨w, (n, kids ++ [.leaf (tokAt row p) p]) :: ns, p + 1, 0⟩)
        | [] => none := by
  exact if_pos h
theorem stepR_name {s : Str} {e' : Ex} {w : List (Option Ex)} {ns : List (Str × List Tree)} {p k : Nat} (h : isToken tbl (.name s) = false) (hl : tbl.lookup s = some e') : stepR tbl emp fs row ⟨some (.name s) :: w, ns, p, k⟩ = some (.inl ⟨some e' :: none :: w, (s, []) :: ns, p, k⟩) := by
  refine (if_neg (by rw [h]; exact Bool.false_ne_true)).trans ?_
  show (match tbl.lookup s with | some e' => some (Sum.inl (⟨some e' :: none :: w, (s, []) :: ns, p, k⟩ : Stt)) | none => none) = _
  rw [hl]
end
section
variable {Z : Zc} {b : Kn} {g : Addr} {st : Str} {ord : List Str} {tbl : Tbl} {emp : List Str} {fs : Fst} {P : Value → Kn → List Ch → Prop}
theorem recognise_body {y : Act Z 22} {D fu most : Nat} {lk : Addr} {row : List Str} {res : Res} (hG : y.G = GL Z y.A y.env (res = .limit)) (hFr : y.fr = some y.L) (hn : D + 20 ≤ y.n) (hg : Gr Z b [] g st ord tbl emp fs) (hD : tbl.Le D) (hk : At b lk (LstO (row.map vS))) (hrow : row.length ≤ 100000)
    (hF : fu ≤ 10000) (hD1 : 1 ≤ D) (hclo : ∃ ac, Glo Z.h₀ (Str.ofString "CLOSE") (.ref ac) ∧ At b ac (TupO [vS (Str.ofString "close"), vS (Str.ofString "")])) (hf : recR tbl emp fs row most fu ⟨[some (.name st)], [(Str.ofString "", [])], 0, 0⟩ = some res) (h : ∀ v b', b.le b' → ResIn Z b' v res → P v b' []) :
    S y (dBody (stmtAt 22)) b [Ch.loc y.L [(Str.ofString "most", vI (most : Int)), (Str.ofString "kinds", .ref lk), (Str.ofString "grammar", .ref g)]] (Ret P) := by
  have sl : sizeLine = 2 ^ 24 := rfl
  obtain ⟨dx, lo, de, as, vt, vf, hg⟩ := hg
  have hgm := fun {b' : Kn} {own' : List Ch} (hb : b.le b') => hg.mono hb (own' := own') fun _ q => by cases q
  refine S_asg (E_list (A_cons (E_tuple ?_)))
  refine A_cons ?_
  with_reducible refine E_str ?_
  refine A_cons ?_
  refine E_attr ?_
  refine E_name rfl ?_
  refine GetA_inst Z.ok.cG hg.g (.inl (hg.d.elim id fun q => by cases q)) hg.a1 ?_
  with_reducible refine A_nil ?_
  refine ⟨by simp [sizeLine], fun t₀ b₀ hb₀ ht₀ => A_nil ⟨by simp [sizeLine], _, _, rfl, fun lw => ?_⟩⟩
  refine Sto_ok ?_
  refine S_asg ?_
  refine E_list (A_cons (E_tuple (A_cons (E_str (A_cons (E_list0 fun kl => A_nil ⟨by simp [sizeLine], fun t₁ b₁ hb₁ ht₁ => A_nil ⟨by simp [sizeLine], _, _, rfl, fun ln => ?_⟩⟩))))))
  refine Sto_ok ?_
  refine S_asg ?_
  with_reducible refine E_int ?_
  refine Sto_ok ?_
  refine S_asg ?_
  with_reducible refine E_int ?_
  refine Sto_ok ?_
  have hb01 := hb₀.trans hb₁
  have hperm : [Ch.loc y.L [(Str.ofString "steps", vI 0), (Str.ofString "place", vI 0), (Str.ofString "nodes", .ref ln), (Str.ofString "waiting", .ref lw), (Str.ofString "most", vI (most : Int)), (Str.ofString "kinds", .ref lk), (Str.ofString "grammar", .ref g)], Ch.of lw (LstO [.ref t₀]), Ch.of ln (LstO [.ref t₁]), Ch.of kl (LstO [])].Perm
      [Ch.loc y.L [(Str.ofString "steps", vI 0), (Str.ofString "place", vI 0), (Str.ofString "nodes", .ref ln), (Str.ofString "waiting", .ref lw), (Str.ofString "most", vI (most : Int)), (Str.ofString "kinds", .ref lk), (Str.ofString "grammar", .ref g)], Ch.of ln (LstO [.ref t₁]), Ch.of kl (LstO []), Ch.of lw (LstO [.ref t₀])] :=
    .cons _ ((List.perm_append_comm (l₁ := [Ch.of lw (LstO [.ref t₀])]) (l₂ := [Ch.of ln (LstO [.ref t₁]), Ch.of kl (LstO [])])))
  refine W.perm hperm ?_
  refine S_while (fun m b' o' => ∃ (ws : List Value) (w : List (Option Ex)) (nds : List Nd) (p k : Nat), o' = Ch.loc y.L [(Str.ofString "steps", vI k), (Str.ofString "place", vI p), (Str.ofString "nodes", .ref ln), (Str.ofString "waiting", .ref lw), (Str.ofString "most", vI (most : Int)), (Str.ofString "kinds", .ref lk), (Str.ofString "grammar", .ref g)] ::
      Ch.of lw (LstO ws.reverse) :: Ch.of ln (LstO (ndsV nds).reverse) :: ndsC nds ∧ b.le b' ∧ WaitIn Z b' ws w ∧ NdsIn b' nds ∧ (∀ e, some e ∈ w → e.dep ≤ D) ∧ recR tbl emp fs row most m ⟨w, ndsM nds, p, k⟩ = some res ∧ w.length + 1000 * m ≤ 1000 * fu + 1000 ∧ nds.length + m ≤ fu + 1 ∧ (∀ d ∈ nds, d.ks.length + m ≤ fu) ∧ p + m ≤ fu) fu
    ⟨[.ref t₀], [some (.name st)], [⟨t₁, kl, Str.ofString "", [], []⟩], 0, 0, rfl, hb01, .ex (.name (ht₀.mono hb₁)) .nil, ?_, ?_, hf, by simp; omega, by simp; omega, by simp, by simp⟩ (fun m b₂ o₂ _ q => ?_)
  · intro d hd; rw [List.mem_singleton.mp hd]; exact ⟨ht₁, .nil⟩
  · intro e he; simp at he; subst he; simpa [Ex.dep] using hD1
  obtain ⟨ws, w, nds, p, k, rfl, hb₂, hw, hnd, hwd, hrec, hz1, hz2, hz3, hz4⟩ := q
  have hwl := hw.len
  obtain ⟨m, rfl⟩ : ∃ m', m = m' + 1 := by cases m with | zero => simp [recR] at hrec | succ m => exact ⟨m, rfl⟩
  rw [recR] at hrec
  refine T_cmp (E_bi Z.ok.len ?_)
  refine A_cons ?_
  refine E_name rfl ?_
  with_reducible refine A_nil ?_
  refine Call_len_list (Ent.own (.tail _ (.head _))) (by rw [List.length_reverse]; omega) ?_
  with_reducible refine E_int ?_
  with_reducible refine Cmp_gtI ?_
  with_reducible refine ⟨_, rfl, ?_⟩
  rw [List.length_reverse]
  cases w with
  | nil =>
    cases hw
    refine if_f rfl ?_
    simp only at hrec
    refine S_if1 (T_cmp (E_name rfl (E_bi Z.ok.len ?_)))
    refine A_cons ?_
    refine E_name rfl ?_
    with_reducible refine A_nil ?_
    refine Call_len_list (hk.mono hb₂).ent (by rw [List.length_map]; omega) ?_
    with_reducible refine Cmp_ltI ?_
    with_reducible refine ⟨_, rfl, ?_⟩
    rw [List.length_map]
    refine if_b (fun c => ?_) (fun c => ?_)
    · have hp : p < row.length := by have := of_decide_eq_true c; omega
      rw [if_pos hp] at hrec
      cases hrec
      obtain ⟨ve, hve, hge⟩ := Z.ok.endv
      refine S_ret (E_cls Z.ok.gR Z.ok.cR ?_)
      refine A_cons ?_
      with_reducible refine E_none ?_
      refine A_cons ?_
      refine E_name rfl ?_
      refine A_cons ?_
      refine E_list (A_cons (E_globalV hge hve (A_nil ⟨by simp [sizeLine], _, _, rfl, fun l => A_nil ?_⟩)))
      refine Call.forget (o₁ := [Ch.loc y.L _]) (.cons_cons _ (List.nil_sublist _)) (Recognised_ok (by omega) (by intro _ q; cases q) (by intro _ q; cases q) fun g' dx' b₃ hb₃ hg' hd' => ret_ok (h _ b₃ (hb₂.trans hb₃) ⟨g', dx', _, _, p, rfl, hg', hd', rfl, rfl⟩))
    · have hp : ¬ p < row.length := by have := of_decide_eq_false c; omega
      rw [if_neg hp] at hrec
      match nds, hnd, hrec with
      | [], _, hrec => simp [ndsM] at hrec
      | _ :: _ :: _, _, hrec => simp [ndsM] at hrec
      | [d], hnd, hrec =>
        obtain ⟨h1, h1'⟩ := hnd d (.head _)
        obtain ⟨dt, dk, dn, dv, ds⟩ := d
        simp only at h1 h1'
        cases h1' with
        | nil => simp [ndsM] at hrec
        | @cons v t vs ts ht hts =>
          simp only [ndsM, List.map_cons, List.map_nil, Option.some.injEq] at hrec
          subst hrec
          refine S_ret (E_cls Z.ok.gR Z.ok.cR ?_)
          refine A_cons ?_
          with_reducible refine E_sub ?_
          with_reducible refine E_sub ?_
          with_reducible refine E_sub ?_
          refine E_name rfl ?_
          with_reducible refine E_int ?_
          refine Item_list (k := 0) (u := .ref dt) (Ent.own (.tail _ (.tail _ (.head _)))) (by decide) (by decide) rfl ?_
          with_reducible refine E_int ?_
          refine Item_tuple h1.ent rfl rfl ?_
          with_reducible refine E_int ?_
          refine Item_list (k := 0) (u := v) (Ent.own (.tail _ (.tail _ (.tail _ (.head _))))) (by decide) (by decide) rfl ?_
          refine A_cons ?_
          refine E_name rfl ?_
          refine A_cons ?_
          refine E_list0 fun l => A_nil ?_
          have hvr : ∃ a, v = .ref a := by cases ht <;> exact ⟨_, rfl⟩
          refine Call.forget (o₁ := [Ch.loc y.L _]) (.cons_cons _ (List.nil_sublist _)) (Recognised_ok (by omega) (by obtain ⟨a, rfl⟩ := hvr; intro _ q; cases q) (by intro _ q; cases q) fun g' dx' b₃ hb₃ hg' hd' => ret_ok (h _ b₃ (hb₂.trans hb₃) ⟨g', dx', _, _, p, rfl, hg', hd', rfl, ht.mono hb₃⟩))
  | cons o w =>
    obtain ⟨v, vs, rfl, hv, hrest⟩ := hw.inv
    refine if_t (decide_eq_true (by simp)) ?_
    simp only at hrec
    refine S_asg ?_
    with_reducible refine E_bin ?_
    refine E_name rfl ?_
    with_reducible refine E_int ?_
    with_reducible refine Bin_addI ?_
    refine Sto_ok ?_
    with_reducible refine S_if1 ?_
    refine T_cmp ?_
    refine E_name rfl ?_
    refine E_name rfl ?_
    with_reducible refine Cmp_gtI ?_
    with_reducible refine ⟨_, rfl, ?_⟩
    have ek : ((k : Int) + 1) = ((k + 1 : Nat) : Int) := rfl
    rw [ek]
    refine if_b (fun c => S_raise hG (Option.some.inj (((if_pos (show most < k + 1 by have := of_decide_eq_true c; omega)).symm.trans hrec).symm)) hFr (by omega)) (fun c => ?_)
    have hmost : ¬ most < k + 1 := fun q => by have := of_decide_eq_false c; omega
    rw [if_neg hmost] at hrec
    rw [List.reverse_cons]
    simp only [List.length_cons] at hz1 hwl
    refine S_asg (E_lmeth "list.pop" F.slot_list_pop F.type_list_pop (E_name rfl ⟨lw, _, rfl, Ent.own (.tail _ (.head _)), M_pop (.tail .head) (by rw [List.length_reverse]; omega) ?_⟩))
    refine Sto_ok ?_
    refine S_asg ?_
    refine E_fn 19 ?_
    refine A_cons ?_
    refine E_name rfl ?_
    refine A_cons ?_
    refine E_name rfl ?_
    with_reducible refine A_nil ?_
    refine token_at_ok (by omega) (hk.mono hb₂) hrow ?_
    refine Sto_ok ?_
    with_reducible refine S_if ?_
    refine T_cmp ?_
    refine E_name rfl ?_
    have hun := y.rm.units
    cases o with
    | none =>
      obtain ⟨a, rfl, hga, hat⟩ := hv
      match nds, hnd, hz2, hz3, hrec with
      | [], _, _, _, hrec => exact nomatch (show (none : Option Res) = some res from hrec)
      | [d], _, _, _, hrec => exact nomatch (show (none : Option Res) = some res from hrec)
      | d :: d2 :: nds, hnd, hz2, hz3, hrec =>
        replace hrec : recR tbl emp fs row most _ ⟨w, (d2.n, d2.ks ++ [.node d.n d.ks]) :: ndsM nds, p, k + 1⟩ = some res := hrec
        obtain ⟨h1, h1'⟩ := hnd d (.head _)
        obtain ⟨h2, h2'⟩ := hnd d2 (.tail _ (.head _))
        have z3 := hz3 d (.head _)
        have z3' := hz3 d2 (.tail _ (.head _))
        have l1 := h1'.len
        have l2 := h2'.len
        simp only [List.length_cons] at hz2
        refine E_global hga (Cmp_tself hat.ent ⟨_, rfl, if_t rfl ?_⟩)
        have erev : (ndsV (d :: d2 :: nds)).reverse = (ndsV (d2 :: nds)).reverse ++ [.ref d.t] := by simp [ndsV]
        have erev2 : (ndsV (d2 :: nds)).reverse = (ndsV nds).reverse ++ [.ref d2.t] := by simp [ndsV]
        rw [erev]
        refine S_asgT (E_lmeth "list.pop" F.slot_list_pop F.type_list_pop (E_name rfl ⟨ln, _, rfl, Ent.own (.tail _ (.tail _ (.head _))), M_pop (.tail (.tail .head)) (by rw [List.length_reverse, ndsV, List.length_map, List.length_cons]; omega) ?_⟩))
        refine Asg_pair h1.ent (Sto_ok (Sto_ok (S_exp (E_lmeth "list.append" F.slot_list_append F.type_list_append ?_))))
        with_reducible refine E_sub ?_
        with_reducible refine E_sub ?_
        refine E_name rfl ?_
        with_reducible refine E_un ?_
        with_reducible refine E_int ?_
        with_reducible refine Una_negI ?_
        rw [erev2]
        refine Item_last (Ent.own (.tail _ (.tail _ (.head _)))) ?_
        with_reducible refine E_int ?_
        refine Item_tuple h2.ent rfl rfl ?_
        refine ⟨d2.kl, d2.vs, rfl, Ent.own (.tail _ (.tail _ (.tail _ (.tail _ (.head _))))), M_append (E_tuple ?_)⟩
        refine A_cons ?_
        refine E_name rfl ?_
        refine A_cons ?_
        refine E_ty (Z.ok.bt "tuple" (by decide)) ?_
        refine A_cons ?_
        refine E_name rfl ?_
        with_reducible refine A_nil ?_
        refine Call_tuple (Ent.own (.tail _ (.tail _ (.tail _ (.head _))))) (by omega) fun tk b₃ hb₃ htk => A_nil ⟨by simp [sizeLine], fun t b₄ hb₄ ht => ⟨d2.vs, _, .tail (.tail (.tail (.tail .head))), by omega, fun _ => nofun, ?_⟩⟩
        have hb34 := hb₃.trans hb₄
        refine W.forget (o₁ := Ch.loc y.L _ :: Ch.of lw (LstO vs.reverse) :: Ch.of ln (LstO ((ndsV nds).reverse ++ [.ref d2.t])) :: Ch.of d2.kl (LstO (d2.vs ++ [.ref t])) :: ndsC nds) (.cons_cons _ (.cons_cons _ (.cons_cons _ (.cons _ (.refl _))))) ?_
        refine S_nil (S_end ⟨m, Nat.lt_succ_self m, vs, w, ⟨d2.t, d2.kl, d2.n, d2.vs ++ [Value.ref t], d2.ks ++ [Tree.node d.n d.ks]⟩ :: nds, p, k + 1, by rw [show (ndsV (⟨d2.t, d2.kl, d2.n, d2.vs ++ [Value.ref t], d2.ks ++ [Tree.node d.n d.ks]⟩ :: nds)).reverse = (ndsV nds).reverse ++ [.ref d2.t] by simp [ndsV]]; rfl, hb₂.trans hb34, hrest.mono hb34, ?_, fun e he => hwd e (.tail _ he), hrec, by omega, by simp only [List.length_cons]; omega, ?_, by omega⟩)
        · intro q hq
          rcases List.mem_cons.mp hq with rfl | hq
          · exact ⟨h2.mono hb34, (h2'.mono hb34).snoc (.node ht (htk.mono hb₄) (h1'.mono hb34))⟩
          · exact ⟨(hnd q (.tail _ (.tail _ hq))).1.mono hb34, (hnd q (.tail _ (.tail _ hq))).2.mono hb34⟩
        · intro q hq
          rcases List.mem_cons.mp hq with rfl | hq
          · simp only [List.length_append, List.length_singleton]; omega
          · have := hz3 q (.tail _ (.tail _ hq)); omega
    | some e =>
      have hv : ExIn b₂ v e := hv
      have hde : e.dep ≤ D := hwd e (.head _)
      obtain ⟨a, p', rfl, ha, hpay⟩ := hv.open_
      obtain ⟨ac, hga, hac⟩ := hclo
      have hpp : (∃ s, p' = vS s) ∨ ∃ d us, p' = .ref d ∧ At b₂ d (TupO us) := by
        cases e with
        | text s => exact .inl ⟨s, hpay⟩
        | name s => exact .inl ⟨s, hpay⟩
        | opt e' => obtain ⟨a', p'', rfl, ha', _⟩ := ExIn.open_ hpay; exact .inr ⟨a', _, rfl, ha'⟩
        | rep e' => obtain ⟨a', p'', rfl, ha', _⟩ := ExIn.open_ hpay; exact .inr ⟨a', _, rfl, ha'⟩
        | seq es => obtain ⟨c', vs', rfl, hc', _⟩ := hpay; exact .inr ⟨c', _, rfl, hc'⟩
        | alt es => obtain ⟨c', vs', rfl, hc', _⟩ := hpay; exact .inr ⟨c', _, rfl, hc'⟩
      have hdx : At b dx (AttO as) := hg.d.elim id fun q => by cases q
      have htag : e.tag ≠ Str.ofString "close" := by cases e <;> (simp only [Ex.tag]; decide)
      have hg₂ := hgm (own' := Ch.loc y.L [(Str.ofString "token", vS (tokAt row p)), (Str.ofString "e", .ref a), (Str.ofString "steps", vI ((k + 1 : Nat) : Int)), (Str.ofString "place", vI (p : Int)), (Str.ofString "nodes", .ref ln), (Str.ofString "waiting", .ref lw), (Str.ofString "most", vI (most : Int)), (Str.ofString "kinds", .ref lk), (Str.ofString "grammar", .ref g)] ::
        Ch.of lw (LstO vs.reverse) :: Ch.of ln (LstO (ndsV nds).reverse) :: ndsC nds) hb₂
      refine E_global hga (Cmp_close ha (hac.mono hb₂) hpp htag ⟨_, rfl, if_f rfl (S_if (T_val (E_fn 6 ?_)))⟩)
      refine A_cons ?_
      refine E_name rfl ?_
      refine A_cons ?_
      refine E_attr ?_
      refine E_name rfl ?_
      refine GetA_inst Z.ok.cG hg₂.g (.inl (hdx.mono hb₂)) hg₂.a3 ?_
      with_reducible refine A_nil ?_
      refine is_token_ok (by omega) hv hg₂.t ⟨_, rfl, if_b (fun c => ?_) (fun c => ?_)⟩
      · -- a token
        rw [stepR_tok _ _ _ _ c] at hrec
        refine S_if1 (T_cmp (E_name rfl (E_fn 5 ?_)))
        refine A_cons ?_
        refine E_name rfl ?_
        refine A_cons ?_
        refine E_attr ?_
        refine E_name rfl ?_
        refine GetA_inst Z.ok.cG hg₂.g (.inl (hdx.mono hb₂)) hg₂.a3 ?_
        with_reducible refine A_nil ?_
        refine token_of_ok (by omega) hv hg₂.t ?_
        refine Cmp_neS ⟨_, rfl, if_b (fun c' => ?_) (fun c' => ?_)⟩
        · rw [if_pos c'] at hrec
          cases hrec
          refine S_ret (E_cls Z.ok.gR Z.ok.cR ?_)
          refine A_cons ?_
          with_reducible refine E_none ?_
          refine A_cons ?_
          refine E_name rfl ?_
          refine A_cons ?_
          refine E_list (A_cons (E_fn 5 ?_))
          refine A_cons ?_
          refine E_name rfl ?_
          refine A_cons ?_
          refine E_attr ?_
          refine E_name rfl ?_
          refine GetA_inst Z.ok.cG hg₂.g (.inl (hdx.mono hb₂)) hg₂.a3 ?_
          with_reducible refine A_nil ?_
          refine token_of_ok (by omega) hv hg₂.t (A_nil ⟨by simp [sizeLine], _, _, rfl, fun l => A_nil ?_⟩)
          refine Call.forget (o₁ := [Ch.loc y.L _]) (.cons_cons _ (List.nil_sublist _)) (Recognised_ok (by omega) (by intro _ q; cases q) (by intro _ q; cases q) fun g' dx' b₃ hb₃ hg' hd' => ret_ok (h _ b₃ (hb₂.trans hb₃) ⟨g', dx', _, _, p, rfl, hg', hd', rfl, rfl⟩))
        · rw [if_neg (by rw [c']; exact Bool.false_ne_true)] at hrec
          match nds, hnd, hz2, hz3, hrec with
          | [], _, _, _, hrec => simp [ndsM] at hrec
          | d :: nds, hnd, hz2, hz3, hrec =>
            simp only [ndsM, List.map_cons] at hrec
            obtain ⟨h1, h1'⟩ := hnd d (.head _)
            have z3 := hz3 d (.head _)
            have l1 := h1'.len
            simp only [List.length_cons] at hz2
            have erev : (ndsV (d :: nds)).reverse = (ndsV nds).reverse ++ [.ref d.t] := by simp [ndsV]
            refine S_exp (E_lmeth "list.append" F.slot_list_append F.type_list_append ?_)
            with_reducible refine E_sub ?_
            with_reducible refine E_sub ?_
            refine E_name rfl ?_
            with_reducible refine E_un ?_
            with_reducible refine E_int ?_
            with_reducible refine Una_negI ?_
            rw [erev]
            refine Item_last (Ent.own (.tail _ (.tail _ (.head _)))) ?_
            with_reducible refine E_int ?_
            refine Item_tuple h1.ent rfl rfl ?_
            refine ⟨d.kl, d.vs, rfl, Ent.own (.tail _ (.tail _ (.tail _ (.head _)))), M_append (E_tuple ?_)⟩
            refine A_cons ?_
            refine E_name rfl ?_
            refine A_cons ?_
            refine E_name rfl ?_
            with_reducible refine A_nil ?_
            refine ⟨by simp [sizeLine], fun t b₃ hb₃ ht => ⟨d.vs, _, .tail (.tail (.tail .head)), by omega, fun _ => nofun, ?_⟩⟩
            refine S_asg ?_
            with_reducible refine E_bin ?_
            refine E_name rfl ?_
            with_reducible refine E_int ?_
            with_reducible refine Bin_addI ?_
            refine Sto_ok ?_
            refine S_asg ?_
            with_reducible refine E_int ?_
            refine Sto_ok ?_
            have ep : ((p : Int) + 1) = ((p + 1 : Nat) : Int) := rfl
            rw [ep]
            refine S_nil (S_nil (S_end ⟨m, Nat.lt_succ_self m, vs, w, ⟨d.t, d.kl, d.n, d.vs ++ [Value.ref t], d.ks ++ [Tree.leaf (tokAt row p) p]⟩ :: nds, p + 1, 0, by rw [show (ndsV (⟨d.t, d.kl, d.n, d.vs ++ [Value.ref t], d.ks ++ [Tree.leaf (tokAt row p) p]⟩ :: nds)).reverse = (ndsV nds).reverse ++ [.ref d.t] by simp [ndsV]]; rfl, hb₂.trans hb₃, hrest.mono hb₃, ?_, fun e he => hwd e (.tail _ he), hrec, by omega, by simp only [List.length_cons]; omega, ?_, by omega⟩))
            · intro q hq
              rcases List.mem_cons.mp hq with rfl | hq
              · exact ⟨h1.mono hb₃, (h1'.mono hb₃).snoc (.leaf ht)⟩
              · exact ⟨(hnd q (.tail _ hq)).1.mono hb₃, (hnd q (.tail _ hq)).2.mono hb₃⟩
            · intro q hq
              rcases List.mem_cons.mp hq with rfl | hq
              · simp only [List.length_append, List.length_singleton]; omega
              · have := hz3 q (.tail _ hq); omega
      · by_cases hnm : ∃ s, e = .name s
        · obtain ⟨s, rfl⟩ := hnm
          have hpay : p' = vS s := hpay
          subst hpay
          have c' := c
          simp only [isToken, Bool.not_eq_false'] at c'
          obtain ⟨e', hlk⟩ := Option.isSome_iff_exists.mp c'
          rw [stepR_name _ _ _ _ c hlk] at hrec
          simp only at hrec
          refine S_if ?_
          refine T_cmp ?_
          with_reducible refine E_sub ?_
          refine E_name rfl ?_
          with_reducible refine E_int ?_
          refine Item_tuple ha.ent rfl rfl ?_
          with_reducible refine E_str ?_
          with_reducible refine Cmp_eqS ?_
          with_reducible refine ⟨_, rfl, ?_⟩
          refine if_t rfl ?_
          refine S_exp ?_
          refine E_lmeth "list.append" F.slot_list_append F.type_list_append (E_name rfl ⟨ln, _, rfl, Ent.own (.tail _ (.tail _ (.head _))), M_append (E_tuple ?_)⟩)
          refine A_cons ?_
          with_reducible refine E_sub ?_
          refine E_name rfl ?_
          with_reducible refine E_int ?_
          refine Item_tuple ha.ent rfl rfl ?_
          refine A_cons ?_
          refine E_list0 fun kl' => A_nil ⟨by simp [sizeLine], fun t b₃ hb₃ ht => ⟨_, _, .tail (.tail (.tail .head)), by rw [List.length_reverse, ndsV, List.length_map]; omega, fun _ => nofun, ?_⟩⟩
          refine S_exp (E_lmeth "list.append" F.slot_list_append F.type_list_append (E_name rfl ⟨lw, _, rfl, Ent.own (.tail _ (.tail _ (.head _))), M_append (E_global hga ⟨_, _, .tail (.tail .head), by rw [List.length_reverse]; omega, fun _ => nofun, ?_⟩)⟩))
          refine S_exp (E_lmeth "list.append" F.slot_list_append F.type_list_append (E_name rfl ⟨lw, _, rfl, Ent.own (.tail _ (.tail _ (.head _))), M_append (E_sub ?_)⟩))
          have hb23 := hb₂.trans hb₃
          refine E_attr ?_
          refine E_name rfl ?_
          refine GetA_inst Z.ok.cG (hg₂.g.mono hb₃) (.inl (hdx.mono hb23)) hg₂.a3 ?_
          with_reducible refine E_sub ?_
          refine E_name rfl ?_
          with_reducible refine E_int ?_
          refine Item_tuple (ha.mono hb₃).ent rfl rfl ?_
          refine tbl_item (hg₂.t.mono hb₃) hlk fun v' hv' => ?_
          refine ⟨_, _, .tail (.tail .head), by rw [List.length_append, List.length_reverse, List.length_singleton]; omega, fun _ => nofun, ?_⟩
          have hpm : ∀ (a c d e : Ch) (r : List Ch), (a :: d :: e :: c :: r).Perm (a :: c :: d :: e :: r) := fun a c d e r => .cons _ (List.perm_middle (l₁ := [d, e]))
          refine W.perm (hpm _ _ _ _ _) ?_
          refine S_nil (S_nil (S_nil (S_end ⟨m, Nat.lt_succ_self m, v' :: .ref ac :: vs, some e' :: none :: w, ⟨t, kl', s, [], []⟩ :: nds, p, k + 1, by rw [show (v' :: .ref ac :: vs).reverse = vs.reverse ++ [.ref ac] ++ [v'] by simp, show (ndsV (⟨t, kl', s, [], []⟩ :: nds)).reverse = (ndsV nds).reverse ++ [.ref t] by simp [ndsV]]; rfl, hb23, .ex hv' (.close hga (hac.mono hb23) (hrest.mono hb₃)), ?_, ?_, hrec, by simp only [List.length_cons]; omega, by simp only [List.length_cons]; omega, ?_, by omega⟩)))
          · intro q hq
            rcases List.mem_cons.mp hq with rfl | hq
            · exact ⟨ht, .nil⟩
            · exact ⟨(hnd q hq).1.mono hb₃, (hnd q hq).2.mono hb₃⟩
          · intro q hq
            rcases List.mem_cons.mp hq with hq | hq
            · cases hq; exact hD _ _ hlk
            · rcases List.mem_cons.mp hq with hq | hq
              · cases hq
              · exact hwd q (.tail _ hq)
          · intro q hq
            rcases List.mem_cons.mp hq with rfl | hq
            · simp only [List.length_nil]; omega
            · have := hz3 q hq; omega
        · rw [stepR_more _ _ _ _ c (fun s q => hnm ⟨s, q⟩)] at hrec
          refine S_if ?_
          refine T_cmp ?_
          with_reducible refine E_sub ?_
          refine E_name rfl ?_
          with_reducible refine E_int ?_
          refine Item_tuple ha.ent rfl rfl ?_
          with_reducible refine E_str ?_
          with_reducible refine Cmp_eqS ?_
          with_reducible refine ⟨_, rfl, ?_⟩
          have htn : (e.tag == Str.ofString "name") = false := by
            cases e with
            | name s => exact absurd ⟨s, rfl⟩ hnm
            | _ => rfl
          refine if_f htn ?_
          refine S_asg (E_fn 21 ?_)
          refine A_cons ?_
          refine E_name rfl ?_
          refine A_cons ?_
          refine E_name rfl ?_
          refine A_cons ?_
          refine E_name rfl ?_
          with_reducible refine A_nil ?_
          cases hex : expandedP tbl emp fs (tokAt row p) e with
          | none => rw [hex] at hrec; cases hrec
          | some r =>
            rw [hex] at hrec
            have hseq : ∀ es, e = .seq es → es.length < sizeLine := fun es he => by
              subst he
              simp only [expandedP, Option.some.injEq] at hex
              subst hex
              simp only at hrec
              by_cases q : es.reverse.length ≤ 1000
              · rw [List.length_reverse] at q; omega
              · rw [if_neg q] at hrec; cases hrec
            refine expanded_ok (by omega) ⟨_, _, _, _, _, _, hgm hb₂⟩ hv hex hseq (fun hr b₃ hb₃ => ?_) (fun es hr l us b₃ hb₃ hus => ?_)
            · subst hr
              simp only at hrec
              cases hfp : firstP tbl emp fs e with
              | none => rw [hfp] at hrec; cases hrec
              | some s =>
                rw [hfp] at hrec
                simp only at hrec
                by_cases q : s.length < 60
                · rw [if_pos q] at hrec
                  cases hrec
                  refine Sto_ok ?_
                  with_reducible refine S_if1 ?_
                  refine T_cmp ?_
                  refine E_name rfl ?_
                  with_reducible refine E_none ?_
                  refine Cmp_isNone ⟨_, rfl, if_t rfl (S_ret (E_cls Z.ok.gR Z.ok.cR ?_))⟩
                  refine A_cons ?_
                  with_reducible refine E_none ?_
                  refine A_cons ?_
                  refine E_name rfl ?_
                  refine A_cons ?_
                  refine E_bi (Z.ok.bf "sorted" (by decide)) (A_cons (E_meth Z.ok.cG 308 ?_))
                  have hg₃ := hg.g.mono (hb₂.trans hb₃)
                  refine E_name rfl ?_
                  refine ⟨g, dx, as, rfl, hg₃, .inl (hdx.mono (hb₂.trans hb₃)), hg.n2, ?_⟩
                  refine A_cons ?_
                  refine E_name rfl ?_
                  with_reducible refine A_nil ?_
                  refine first_ok (by omega) ⟨_, _, _, _, _, _, hgm (hb₂.trans hb₃)⟩ (hv.mono hb₃) hfp (by omega) fun d b₄ hb₄ => A_nil ?_
                  refine Call_sortedS (Ent.own (.head _)) (by rw [len_set]; exact q) fun l => A_nil ?_
                  exact Call.forget (o₁ := [Ch.loc y.L _]) (.cons _ (.cons_cons _ (List.nil_sublist _))) (Recognised_ok (by omega) (by intro _ q; cases q) (by intro _ q; cases q) fun g' dx' b₅ hb₅ hg' hd' => ret_ok (h _ b₅ (hb₂.trans (hb₃.trans (hb₄.trans hb₅))) ⟨g', dx', _, _, p, rfl, hg', hd', rfl, rfl⟩))
                · rw [if_neg q] at hrec; cases hrec
            · subst hr
              simp only at hrec
              by_cases q : es.length ≤ 1000
              · rw [if_pos q] at hrec
                have ul := hus.length
                refine Sto.perm (.swap _ _ _) (Sto_ok ?_)
                refine S_if1 ?_
                refine T_cmp ?_
                refine E_name rfl ?_
                with_reducible refine E_none ?_
                refine Cmp_isNone ⟨_, rfl, if_f rfl ?_⟩
                refine S_exp (E_lmeth "list.extend" F.slot_list_extend F.type_list_extend (E_name rfl ⟨lw, _, rfl, Ent.own (.tail _ (.tail _ (.head _))), M_extend (E_name rfl ⟨l, vs.reverse, us, _, rfl, Ent.own (.tail _ (.head _)), .tail (.tail .head), by rw [List.length_reverse]; omega, fun _ => nofun, ?_⟩)⟩))
                refine W.forget (o₁ := Ch.loc y.L _ :: Ch.of lw (LstO (vs.reverse ++ us)) :: Ch.of ln (LstO (ndsV nds).reverse) :: ndsC nds) (.cons_cons _ (.cons _ (.refl _))) ?_
                have hrv : ExsIn b₃ us.reverse es.reverse := by have := hus.rev [] [] .nil; simpa using this
                refine S_nil (S_nil (S_nil (S_end ⟨m, Nat.lt_succ_self m, us.reverse ++ vs, es.reverse.map some ++ w, nds, p, k + 1, by rw [List.reverse_append, List.reverse_reverse], hb₂.trans hb₃, (hrest.mono hb₃).app hrv, hnd.mono hb₃, ?_, hrec, by simp only [List.length_append, List.length_map, List.length_reverse]; omega, by omega, fun d hd => by have := hz3 d hd; omega, by omega⟩)))
                intro e' he'
                rcases List.mem_append.mp he' with he' | he'
                · obtain ⟨e'', he'', q⟩ := List.mem_map.mp he'
                  cases q
                  have := expanded_dep hex e' (List.mem_reverse.mp he'')
                  omega
                · exact hwd e' (.tail _ he')
              · rw [if_neg q] at hrec; cases hrec
end
mutual
noncomputable def leavesP : Tree → List Str
  | .leaf t _ => [t]
  | .node _ ks => leavesL ks
noncomputable def leavesL : List Tree → List Str
  | [] => []
  | k :: ks => leavesP k ++ leavesL ks
end
mutual
noncomputable def Tree.size : Tree → Nat
  | .leaf _ _ => 1
  | .node _ ks => 1 + Tree.sizeL ks
noncomputable def Tree.sizeL : List Tree → Nat
  | [] => 0
  | k :: ks => k.size + Tree.sizeL ks
end
theorem leavesL_app (a c : List Tree) : leavesL (a ++ c) = leavesL a ++ leavesL c := by
  induction a with
  | nil => rfl
  | cons k ks ih => show leavesP k ++ leavesL (ks ++ c) = leavesP k ++ leavesL ks ++ leavesL c; rw [ih, List.append_assoc]
theorem sizeL_app (a c : List Tree) : Tree.sizeL (a ++ c) = Tree.sizeL a + Tree.sizeL c := by
  induction a with
  | nil => simp [Tree.sizeL]
  | cons k ks ih => show k.size + Tree.sizeL (ks ++ c) = k.size + Tree.sizeL ks + Tree.sizeL c; rw [ih]; omega
theorem size_pos (t : Tree) : 1 ≤ t.size := by cases t <;> simp only [Tree.size] <;> omega
theorem sizeL_len : ∀ ks : List Tree, ks.length ≤ Tree.sizeL ks
  | [] => Nat.le_refl _
  | k :: ks => by have := sizeL_len ks; have := size_pos k; simp only [Tree.sizeL, List.length_cons]; omega
noncomputable def Tree.isLeaf : Tree → Bool
  | .leaf _ _ => true
  | .node _ _ => false
section
variable {Z : Zc} {i : Nat} {x : Act Z i} {b : Kn} {own : List Ch} {P : Value → Kn → List Ch → Prop}
theorem is_leaf_ok {v : Value} {t : Tree} (hn : 1 ≤ x.n) (ht : TreeIn b v t) (h : P (.bool t.isLeaf) b own) : Call x (.ref (Z.F 23)) [v] b own P := by
  refine Call_fn [Str.ofString "kid"] (by omega) (by decide) (fun vs hv _ _ _ _ _ _ => by obtain ⟨a, rfl⟩ := one_of hv; rfl) rfl rfl rfl (fun y hy => ?_)
  refine S_ret (E_bi (Z.ok.bf "isinstance" (by decide)) ?_)
  cases ht with
  | leaf ha =>
    refine A_cons ?_
    with_reducible refine E_sub ?_
    refine E_name rfl ?_
    with_reducible refine E_int ?_
    refine Item_tuple ha.ent rfl rfl (A_cons (E_builtin (Z.ok.bt "int" (by decide)) (A_nil (Call_isintI (ret_ok h)))))
  | node ha hc hks =>
    refine A_cons ?_
    with_reducible refine E_sub ?_
    refine E_name rfl ?_
    with_reducible refine E_int ?_
    refine Item_tuple ha.ent rfl rfl (A_cons (E_builtin (Z.ok.bt "int" (by decide)) (A_nil (Call_isintT hc.ent (ret_ok h)))))
theorem leaves_ok {v : Value} {t : Tree} (hn : 3 ≤ x.n) (ht : TreeIn b v t) (hz : t.size ≤ 100000) (h : ∀ l b', b.le b' → At b' l (LstO ((leavesP t).map vS)) → P (.ref l) b' own) : Call x (.ref (Z.F 24)) [v] b own P := by
  have sl : sizeLine = 2 ^ 24 := rfl
  refine Call.alone ?_
  refine Call_fn [Str.ofString "tree"] (by show 1 ≤ x.n; omega) (by decide) (fun vs hv _ _ _ _ _ _ => by obtain ⟨a, rfl⟩ := one_of hv; rfl) rfl rfl rfl (fun y hy => ?_)
  have hy' : y.n + 1 = x.n := hy
  refine S_asg (E_list0 fun lf => ?_)
  refine Sto_ok ?_
  refine S_asg ?_
  refine E_list (A_cons (E_name rfl (A_nil ⟨by simp [sizeLine], _, _, rfl, fun lw => ?_⟩)))
  refine Sto_ok ?_
  refine S_while (fun m b' o' => b' = b ∧ ∃ (ws : List Value) (w : List Tree) (fd : List Str), o' = [Ch.loc y.L [(Str.ofString "waiting", .ref lw), (Str.ofString "found", .ref lf), (Str.ofString "tree", v)], Ch.of lw (LstO ws.reverse), Ch.of lf (LstO (fd.map vS))] ∧ TreesIn b ws w ∧ m = Tree.sizeL w ∧ fd ++ leavesL w = leavesP t ∧ fd.length + m ≤ t.size) t.size
    ⟨rfl, [v], [t], [], rfl, .cons ht .nil, by simp [Tree.sizeL], by simp [leavesL], by simp⟩ (fun m b₁ o₁ _ q => ?_)
  obtain ⟨rfl, ws, w, fd, rfl, hw, rfl, hfd, hsz⟩ := q
  have wl := hw.len
  have wz := sizeL_len w
  refine T_cmp (E_bi Z.ok.len ?_)
  refine A_cons ?_
  refine E_name rfl ?_
  with_reducible refine A_nil ?_
  refine Call_len_list (Ent.own (.tail _ (.head _))) (by rw [List.length_reverse]; omega) ?_
  with_reducible refine E_int ?_
  with_reducible refine Cmp_gtI ?_
  with_reducible refine ⟨_, rfl, ?_⟩
  rw [List.length_reverse]
  cases hw with
  | nil =>
    refine if_f rfl ?_
    rw [leavesL, List.append_nil] at hfd
    subst hfd
    refine W.freeze (y := Ch.of lf (LstO _)) (.right (.right (.left .nil))) (fun h q => q) fun o b₂ hφ hb₂ hbo => ?_
    refine W.forget (o₁ := [Ch.loc y.L _]) (.cons_cons _ (List.nil_sublist _)) ?_
    exact S_ret (E_name rfl (ret_ok ⟨rfl, h lf b₂ hb₂ ⟨o, hbo, hφ⟩⟩))
  | @cons v₁ k vs ks hk hks =>
    refine if_t (decide_eq_true (by simp)) ?_
    simp only [Tree.sizeL] at hsz wz
    have hp := size_pos k
    simp only [List.length_cons] at wl wz
    rw [List.reverse_cons]
    refine S_asg (E_lmeth "list.pop" F.slot_list_pop F.type_list_pop (E_name rfl ⟨lw, _, rfl, Ent.own (.tail _ (.head _)), M_pop (.tail .head) (by rw [List.length_reverse]; omega) ?_⟩))
    refine Sto_ok (S_if (T_val (E_fn 23 ?_)))
    refine A_cons ?_
    refine E_name rfl ?_
    with_reducible refine A_nil ?_
    refine is_leaf_ok (by omega) hk ⟨_, rfl, ?_⟩
    cases hk with
    | @leaf a tk p ha =>
      refine if_t rfl (S_exp (E_lmeth "list.append" F.slot_list_append F.type_list_append (E_name rfl ⟨lf, _, rfl, Ent.own (.tail _ (.tail _ (.head _))), M_append (E_sub ?_)⟩)))
      refine E_name rfl ?_
      with_reducible refine E_int ?_
      refine Item_tuple ha.ent rfl rfl ⟨_, _, .tail (.tail .head), by rw [List.length_map]; omega, fun _ => nofun, ?_⟩
      refine S_nil (S_end ⟨Tree.sizeL ks, by simp only [Tree.sizeL]; omega, rfl, vs, ks, fd ++ [tk], by rw [List.map_append]; rfl, hks, rfl, by rw [List.append_assoc]; exact hfd, by rw [List.length_append, List.length_singleton]; simp only [Tree.size] at hsz; omega⟩)
    | @node a n c us ls ha hc hls =>
      simp only [Tree.size] at hsz hp
      have lz := sizeL_len ls; have kz := sizeL_len ks
      have ul := hls.len
      refine if_f rfl (S_exp (E_lmeth "list.extend" F.slot_list_extend F.type_list_extend (E_name rfl ⟨lw, _, rfl, Ent.own (.tail _ (.head _)), M_extend_rev (E_ty (Z.ok.bt "reversed" (by decide)) ?_)⟩)))
      refine A_cons ?_
      with_reducible refine E_sub ?_
      refine E_name rfl ?_
      with_reducible refine E_int ?_
      refine Item_tuple ha.ent rfl rfl (A_nil (Call_rev hc.ent (by omega) fun I => ⟨I, c, _, us, _, _, rfl, .right (.left (Split.none _)), hc.ent, .tail .head, ?_, fun _ => nofun, ?_⟩))
      · rw [List.length_reverse]; omega
      refine S_nil (S_end ⟨Tree.sizeL (ls ++ ks), by rw [sizeL_app]; simp only [Tree.sizeL, Tree.size]; omega, rfl, us ++ vs, ls ++ ks, fd, by rw [List.reverse_append], hls.app hks, rfl, by rw [leavesL_app, ← List.append_assoc]; rw [← hfd]; simp only [leavesL, leavesP, List.append_assoc], by rw [sizeL_app]; omega⟩)
end
noncomputable abbrev vN (n : Nat) : Value := vI (n : Int)
noncomputable def addN (t : List Nat) (k : Nat) : List Nat := if t.contains k then t else t ++ [k]
noncomputable def addAll (t s : List Nat) : List Nat := s.foldl addN t
noncomputable def setN (t : List Nat) : List (Int × Value) := t.map fun k : Nat => ((k : Int), .bool true)
noncomputable def insN (a : Nat) : List Nat → List Nat
  | [] => [a]
  | c :: l => if a ≤ c then a :: c :: l else c :: insN a l
noncomputable def isortN : List Nat → List Nat
  | [] => []
  | a :: l => insN a (isortN l)
noncomputable def Tree.label : Tree → Str
  | .leaf t _ => t
  | .node n _ => n
noncomputable def fits (kids : List Tree) (w : Str) (lf : Bool) (at_ : Nat) : Bool := match kids[at_]? with
  | some k => k.label == w && k.isLeaf == lf
  | none => false
noncomputable def leafE (kids : List Tree) (w : Str) (lf : Bool) (st : List Nat) : List Nat := (st.filter (fits kids w lf)).map (· + 1)
noncomputable def loopE (f : List Nat → Option (List Nat)) (op : Bool) (st : List Nat) : Nat → List Nat → List Nat → Option (List Nat)
  | 0, _, _ => none
  | k + 1, fr, fo => if fr.isEmpty then some (isortN fo) else
      if (addAll fo fr).length < 64 then
        if op && decide (fr ≠ st) then some (isortN (addAll fo fr)) else
        match f fr with
        | none => none
        | some r => if r.length ≤ 1000 then loopE f op st k (r.filter fun a => !decide (a ∈ addAll fo fr)) (addAll fo fr) else none
      else none
mutual
noncomputable def endsP (tbl : Tbl) (kids : List Tree) : Ex → List Nat → Option (List Nat)
  | .text w, st => some (leafE kids w true st)
  | .name w, st => some (leafE kids w (!tbl.has w) st)
  | .seq es, st => endsQ tbl kids es st
  | .alt es, st => endsA tbl kids es st []
  | .opt e, st => loopE (endsP tbl kids e) true st 100 st []
  | .rep e, st => loopE (endsP tbl kids e) false st 100 st []
noncomputable def endsQ (tbl : Tbl) (kids : List Tree) : List Ex → List Nat → Option (List Nat)
  | [], st => some st
  | e :: es, st => match endsP tbl kids e st with
    | none => none
    | some r => if r.length ≤ 1000 then endsQ tbl kids es r else none
noncomputable def endsA (tbl : Tbl) (kids : List Tree) : List Ex → List Nat → List Nat → Option (List Nat)
  | [], _, fo => some (isortN fo)
  | e :: es, st, fo => match endsP tbl kids e st with
    | none => none
    | some r => if r.length ≤ 1000 ∧ (addAll fo r).length < 64 then endsA tbl kids es st (addAll fo r) else none
end
theorem stored_setN (t : List Nat) (k : Nat) : stored (setN t) (k : Int) (.bool true) = setN (addN t k) := by
  unfold stored setN addN
  have e : (List.any (t.map fun k : Nat => ((k : Int), Value.bool true)) fun kv => decide (kv.1 = (k : Int))) = t.contains k := by
    rw [List.any_map, Bool.eq_iff_iff, List.any_eq_true, List.contains_iff_mem]
    constructor
    · rintro ⟨c, hc, q⟩
      have : c = k := by have q : ((c : Int)) = k := by simpa using q
                         omega
      rwa [← this]
    · intro hk; exact ⟨k, hk, by simp⟩
  rw [e]
  split
  · rw [List.map_map]
    refine List.map_congr_left fun c _ => ?_
    simp only [Function.comp]
    split
    · rename_i q; rw [q]
    · rfl
  · rw [List.map_append]; rfl
theorem insN_perm (a : Nat) : ∀ l : List Nat, (insN a l).Perm (a :: l)
  | [] => .refl _
  | c :: l => by
    unfold insN
    split
    · exact .refl _
    · exact ((insN_perm a l).cons c).trans (.swap _ _ _)
theorem isortN_perm : ∀ l : List Nat, (isortN l).Perm l
  | [] => .refl _
  | a :: l => (insN_perm a _).trans ((isortN_perm l).cons a)
theorem insN_sorted (a : Nat) : ∀ {l : List Nat}, l.Pairwise (· ≤ ·) → (insN a l).Pairwise (· ≤ ·)
  | [], _ => by simp [insN]
  | c :: l, h => by
    unfold insN
    have h' := List.pairwise_cons.mp h
    split
    · rename_i q
      refine List.pairwise_cons.mpr ⟨fun d hd => ?_, h⟩
      rcases List.mem_cons.mp hd with rfl | hd
      · exact q
      · exact Nat.le_trans q (h'.1 d hd)
    · rename_i q
      refine List.pairwise_cons.mpr ⟨fun d hd => ?_, insN_sorted a h'.2⟩
      rcases List.mem_cons.mp ((insN_perm a l).mem_iff.mp hd) with rfl | hd
      · omega
      · exact h'.1 d hd
theorem isortN_sorted : ∀ l : List Nat, (isortN l).Pairwise (· ≤ ·)
  | [] => .nil
  | a :: l => insN_sorted a (isortN_sorted l)
theorem sorted_eq {ns : List Int} {t : List Nat} (h1 : ns.Perm ((setN t).map (·.1))) (h2 : ns.Pairwise (· ≤ ·)) : ns.map vI = (isortN t).map vN := by
  have e : (setN t).map (·.1) = t.map fun k : Nat => (k : Int) := by unfold setN; rw [List.map_map]; rfl
  rw [e] at h1
  have p : ns.Perm ((isortN t).map fun k : Nat => (k : Int)) := h1.trans ((isortN_perm t).symm.map _)
  have q : ((isortN t).map fun k : Nat => (k : Int)).Pairwise (· ≤ ·) := List.pairwise_map.mpr ((isortN_sorted t).imp fun h => by omega)
  have := List.Perm.eq_of_pairwise (le := (· ≤ ·)) (fun a c _ _ x y => Int.le_antisymm x y) h2 q p
  rw [this, List.map_map]; rfl
theorem TreesIn.at_ {b : Kn} {vs : List Value} {ks : List Tree} (q : TreesIn b vs ks) {j : Nat} {k : Tree} (h : ks[j]? = some k) : ∃ v, vs[j]? = some v ∧ TreeIn b v k := by
  cases q with
  | nil => cases h
  | cons h' x => cases j with
    | zero => cases h; exact ⟨_, rfl, h'⟩
    | succ i => exact x.at_ h
theorem TreeIn.head {b : Kn} {v : Value} {k : Tree} (h : TreeIn b v k) : ∃ a u, v = .ref a ∧ At b a (TupO [vS k.label, u]) := by
  cases h with
  | leaf h => exact ⟨_, _, rfl, h⟩
  | node h _ _ => exact ⟨_, _, rfl, h⟩
noncomputable def nfits (kids : List Tree) (w : Str) (lf : Bool) (v : Value) : Bool := match v with
  | .int n _ => fits kids w lf n.toNat
  | _ => false
noncomputable def suc1 (v : Value) : Value := match v with
  | .int n _ => vI (n + 1)
  | v => v
theorem leafE_map (kids : List Tree) (w : Str) (lf : Bool) (st : List Nat) : ((st.map vN).filter (nfits kids w lf)).map suc1 = (leafE kids w lf st).map vN := by
  unfold leafE
  rw [List.filter_map, List.map_map, List.map_map]
  rw [show st.filter (nfits kids w lf ∘ vN) = st.filter (fits kids w lf) from List.filter_congr fun n _ => by show fits kids w lf ((n : Int).toNat) = _; rw [Int.toNat_natCast]]
  rfl
noncomputable def nnot (fo : List Nat) (v : Value) : Bool := match v with
  | .int n _ => !decide (n.toNat ∈ fo)
  | _ => false
theorem nnot_map (fo r : List Nat) : ((r.map vN).filter (nnot fo)).map id = (r.filter fun a => !decide (a ∈ fo)).map vN := by
  rw [List.map_id, List.filter_map]
  refine congrArg _ (List.filter_congr fun n _ => ?_)
  show (!decide ((n : Int).toNat ∈ fo)) = _; rw [Int.toNat_natCast]
noncomputable def cScope1 : Expr → Scope | .ListComp _ _ s _ => s | _ => default
theorem clos1 {cl : List (Str × Addr)} {fu fr : Option Addr} {e : Env} {c1 c2 c3 c4 : Addr} {sc : Scope} {cs : List (Str × Addr)} (hcl : cl = [(Str.ofString "found", c4), (Str.ofString "leaf", c3), (Str.ofString "wanted", c2), (Str.ofString "kids", c1)])
    (h : closureFor sc (cEnv [(Str.ofString "found", c4), (Str.ofString "leaf", c3), (Str.ofString "wanted", c2), (Str.ofString "kids", c1)] fu fr e) = Pure.pure cs := by rfl) : closureFor sc (cEnv cl fu fr e) = Pure.pure cs := by subst hcl; exact h
section
variable {Z : Zc} {i : Nat} {x : Act Z i} {b : Kn} {own : List Ch} {P : Value → Kn → List Ch → Prop}
theorem Call_len_tuple {l : Addr} {us : List Value} (hl : Ent Z.h₀ b own l (TupO us)) (hfit : (us.length : Int) < 2 ^ 63) (h : P (vI us.length) b own) : Call x (.builtin "len") [.ref l] b own P := fun vs hvs => by
  obtain ⟨v, rfl, hv⟩ := one_val hvs
  obtain rfl := er_ref hv
  intro s Q E ok g q
  obtain ⟨o, ho, hc, arr, n, hd, e⟩ := hl _ ok
  exact call_function_entry kind_len plain_len entry_len (args_len1 _) (len_entry_tuple ⟨o, ho, hc, n, hd⟩ (by rw [arr_len e]; exact hfit) (q _ (vI us.length) b own s.heap _ (by rw [arr_len e]; rfl) h ok Frm.rfl))
end
section
variable {Z : Zc} {b : Kn}
theorem ends_leaf {y : Act Z 25} {c1 c2 c3 c4 : Addr} {g dx ck ls : Addr} {as : List (Str × Value)} {vt : Value} {tbl : Tbl} {a : Addr} {e : Ex} {w : Str} {vs : List Value} {ks : List Tree} {st : List Nat} {P : Value → Kn → List Ch → Prop}
    (hn : 6 ≤ y.n) (hcl : y.cl = [(Str.ofString "found", c4), (Str.ofString "leaf", c3), (Str.ofString "wanted", c2), (Str.ofString "kids", c1)]) (hg : At b g (InstO Z.G dx)) (hd : At b dx (AttO as)) (hat : as.lookup (Str.ofString "table") = some vt) (ht : TblIn Z.w b vt tbl)
    (he : ExIn b (.ref a) e) (hw : e = .text w ∨ e = .name w) (hk : At b ck (TupO vs)) (hks : TreesIn b vs ks) (hs : At b ls (LstO (st.map vN))) (hz : st.length ≤ 100000) (hkz : ks.length ≤ 100000)
    (h : ∀ l b', b.le b' → At b' l (LstO ((leafE ks w (isToken tbl e) st).map vN)) → P (.ref l) b' []) :
    S y (dBody (stmtAt 25)) b [Ch.loc y.L [(Str.ofString "starts", .ref ls), (Str.ofString "e", .ref a), (Str.ofString "grammar", .ref g)], Ch.of c1 (CellO (some (.ref ck))), Ch.of c2 (CellO none), Ch.of c3 (CellO none), Ch.of c4 (CellO none)] (RetC P) := by
  have sl : sizeLine = 2 ^ 24 := rfl
  obtain ⟨_, p, q, ha, hpay⟩ := he.open_
  cases q
  have hpv : p = vS w := by rcases hw with rfl | rfl <;> exact hpay
  subst hpv
  refine S_asg ?_
  with_reducible refine E_sub ?_
  refine E_name rfl ?_
  with_reducible refine E_int ?_
  refine Item_tuple ha.ent rfl rfl ?_
  refine Sto_ok ?_
  refine S_if1 (W.mono (P := fun c b' o' => c = true ∧ b' = b ∧ o' = [Ch.loc y.L [(Str.ofString "tag", vS e.tag), (Str.ofString "starts", .ref ls), (Str.ofString "e", .ref a), (Str.ofString "grammar", .ref g)], Ch.of c1 (CellO (some (.ref ck))), Ch.of c2 (CellO none), Ch.of c3 (CellO none), Ch.of c4 (CellO none)]) ?_ fun c b' o' q => ?_)
  · rcases hw with rfl | rfl
    · show T _ _ _ _ _
      with_reducible refine T_bool ?_
      with_reducible refine TL_or ?_
      refine T_cmp ?_
      refine E_name rfl ?_
      with_reducible refine E_str ?_
      with_reducible refine Cmp_eqS ?_
      with_reducible refine ⟨_, rfl, ?_⟩
      refine if_f rfl ?_
      with_reducible refine TL_or ?_
      refine T_cmp ?_
      refine E_name rfl ?_
      with_reducible refine E_str ?_
      with_reducible refine Cmp_eqS ?_
      with_reducible refine ⟨_, rfl, ?_⟩
      refine if_t rfl ?_
      exact ⟨rfl, rfl, rfl⟩
    · show T _ _ _ _ _
      with_reducible refine T_bool ?_
      with_reducible refine TL_or ?_
      refine T_cmp ?_
      refine E_name rfl ?_
      with_reducible refine E_str ?_
      with_reducible refine Cmp_eqS ?_
      with_reducible refine ⟨_, rfl, ?_⟩
      refine if_t rfl ?_
      exact ⟨rfl, rfl, rfl⟩
  obtain ⟨rfl, rfl, rfl⟩ := q
  refine if_t rfl (S_asg ?_)
  with_reducible refine E_sub ?_
  refine E_name rfl ?_
  with_reducible refine E_int ?_
  refine Item_tuple ha.ent rfl rfl ?_
  refine Sto_cell (by rw [hcl]; rfl) (.tail (.tail .head)) ?_
  refine S_asg (E_fn 6 ?_)
  refine A_cons ?_
  refine E_name rfl ?_
  refine A_cons ?_
  refine E_attr ?_
  refine E_name rfl ?_
  refine GetA_inst Z.ok.cG hg (.inl hd) hat ?_
  with_reducible refine A_nil ?_
  refine is_token_ok (by omega) he ht ?_
  refine Sto_cell (by rw [hcl]; rfl) (.tail (.tail (.tail .head))) ?_
  refine W.postfreeze (S_ret (E_comp 1000 (nfits ks w (isToken tbl e)) suc1 (clos1 hcl) ?_))
  refine E_name rfl ?_
  refine ⟨ls, _, _, _, rfl, hs, by rw [List.length_map]; omega, rfl, ?_, fun D => ⟨_, _, _, .right (.left (Split.none _)), fun h q => q, fun o b'' hφ hb hbo => retC_ok (h D b'' hb ⟨o, hbo, by rw [leafE_map] at hφ; exact hφ⟩)⟩⟩
  intro z b₂ hzn hzc hb₂ hknown u hu hL
  obtain ⟨n, hn', rfl⟩ := List.mem_map.mp hu
  have k1 := hknown c1 _ (.tail _ (.head _))
  have k2 := hknown c2 _ (.tail _ (.tail _ (.head _)))
  have k3 := hknown c3 _ (.tail _ (.tail _ (.tail _ (.head _))))
  have hkl := hks.len
  refine ⟨T_bool ?_, fun _ => ?_⟩
  · refine TL_and (T_cmp (E_nameK hL rfl (E_bi Z.ok.len (A_cons (E_cell (by rw [hzc]; rfl) k1.ent (A_nil (Call_len_tuple (hk.mono hb₂).ent (by omega) ?_)))))))
    with_reducible refine Cmp_ltI ?_
    with_reducible refine ⟨_, rfl, ?_⟩
    refine if_b (fun c => ?_) (fun c => ?_)
    · have hlt : n < ks.length := by have := of_decide_eq_true c; omega
      obtain ⟨v, hv, hin⟩ := hks.at_ (List.getElem?_eq_getElem hlt)
      obtain ⟨t, u, rfl, hh⟩ := hin.head
      have hin := hin.mono hb₂
      have hh := hh.mono hb₂
      have ek : nfits ks w (isToken tbl e) (vN n) = ((ks[n]'hlt).label == w && (ks[n]'hlt).isLeaf == isToken tbl e) := by
        show fits ks w (isToken tbl e) ((n : Int).toNat) = _
        rw [Int.toNat_natCast, fits, List.getElem?_eq_getElem hlt]
      rw [ek]
      refine TL_and (T_cmp (E_sub (E_sub (E_cell (by rw [hzc]; rfl) k1.ent (E_nameK hL rfl (Item_tuple (hk.mono hb₂).ent (by rw [seqIndex_of (by omega) (by omega), Int.toNat_natCast]) hv ?_ (by omega) (by omega)))))))
      with_reducible refine E_int ?_
      refine Item_tuple hh.ent rfl rfl (E_cell (by rw [hzc]; rfl) k2.ent (Cmp_eqS ⟨_, rfl, if_b (fun c' => ?_) fun c' => ?_⟩))
      · rw [c', Bool.true_and]
        refine TL_and (T_cmp (E_fn 23 (A_cons (E_sub (E_cell (by rw [hzc]; rfl) k1.ent (E_nameK hL rfl (Item_tuple (hk.mono hb₂).ent (by rw [seqIndex_of (by omega) (by omega), Int.toNat_natCast]) hv (A_nil ?_) (by omega) (by omega))))))))
        refine is_leaf_ok (by omega) hin (E_cell (by rw [hzc]; rfl) k3.ent (Cmp_eqB ⟨_, rfl, ?_⟩))
        cases hq : (ks[n]'hlt).isLeaf == isToken tbl e with
        | true => exact if_t rfl (TL_and0 rfl)
        | false => exact if_f rfl rfl
      · rw [c', Bool.false_and]
    · have hge : ks.length ≤ n := by have := of_decide_eq_false c; omega
      show false = fits ks w (isToken tbl e) ((n : Int).toNat)
      rw [Int.toNat_natCast, fits, List.getElem?_eq_none hge]
  · refine E_bin (E_nameK hL rfl ?_)
    with_reducible refine E_int ?_
    with_reducible refine Bin_addI ?_
    rfl
end
theorem valueAt_setN (t : List Nat) (k : Nat) : (valueAt (setN t) (k : Int)).isSome = decide (k ∈ t) := by
  unfold valueAt setN
  rw [Option.isSome_map, Bool.eq_iff_iff, decide_eq_true_iff, List.find?_isSome]
  constructor
  · rintro ⟨p, hp, q⟩
    obtain ⟨c, hc, rfl⟩ := List.mem_map.mp hp
    have q : (c : Int) = k := by simpa using q
    have : c = k := by omega
    rwa [← this]
  · intro hk; exact ⟨((k : Int), .bool true), List.mem_map.mpr ⟨k, hk, rfl⟩, by simp⟩
theorem addN_len (t : List Nat) (k : Nat) : (addN t k).length ≤ t.length + 1 := by unfold addN; split <;> simp
theorem addAll_len (t s : List Nat) : (addAll t s).length ≤ t.length + s.length := by
  unfold addAll
  induction s generalizing t with
  | nil => simp
  | cons a s ih => have := ih (addN t a); have := addN_len t a; simp only [List.foldl_cons, List.length_cons]; omega
theorem addAll_take {t s : List Nat} {j a : Nat} (h : s[j]? = some a) : addAll t (s.take (j + 1)) = addN (addAll t (s.take j)) a := by
  unfold addAll
  rw [List.take_add_one, h]
  simp [List.foldl_append]
theorem endsQ_step {tbl : Tbl} {ks : List Tree} {es : List Ex} {j : Nat} {e : Ex} {st : List Nat} (h : es[j]? = some e) : endsQ tbl ks (es.drop j) st = match endsP tbl ks e st with
    | none => none
    | some r => if r.length ≤ 1000 then endsQ tbl ks (es.drop (j + 1)) r else none := by
  rw [List.drop_eq_getElem_cons (List.getElem?_eq_some_iff.mp h).1, (List.getElem?_eq_some_iff.mp h).2, endsQ]
  try (cases endsP tbl ks e st <;> rfl)
theorem endsA_step {tbl : Tbl} {ks : List Tree} {es : List Ex} {j : Nat} {e : Ex} {st fo : List Nat} (h : es[j]? = some e) : endsA tbl ks (es.drop j) st fo = match endsP tbl ks e st with
    | none => none
    | some r => if r.length ≤ 1000 ∧ (addAll fo r).length < 64 then endsA tbl ks (es.drop (j + 1)) st (addAll fo r) else none := by
  rw [List.drop_eq_getElem_cons (List.getElem?_eq_some_iff.mp h).1, (List.getElem?_eq_some_iff.mp h).2, endsA]
  try (cases endsP tbl ks e st <;> rfl)
section
variable {Z : Zc} {b : Kn} {P : Value → Kn → List Ch → Prop}
noncomputable abbrev endL (y : Act Z 25) (c1 c2 c3 c4 df ck : Addr) (l : List (Str × Value)) (fo : List Nat) : List Ch := [Ch.loc y.L l, Ch.of df (DicO (intKind pw Z.w) df (setN fo)), Ch.of c1 (CellO (some (.ref ck))), Ch.of c2 (CellO none), Ch.of c3 (CellO none), Ch.of c4 (CellO (some (.ref df)))]
theorem ret_sorted {y : Act Z 25} {c1 c2 c3 c4 df ck : Addr} {l : List (Str × Value)} {fo : List Nat} {p1 p2 p3 pos : Pos} {rest : List Stmt} (hcl : y.cl = [(Str.ofString "found", c4), (Str.ofString "leaf", c3), (Str.ofString "wanted", c2), (Str.ofString "kids", c1)]) (hz : fo.length < 64)
    {P : Flow → Kn → List Ch → Prop} (h : ∀ a b', b.le b' → At b' a (LstO ((isortN fo).map vN)) → P (.ret (.ref a)) b' [Ch.loc y.L l, Ch.of c1 (CellO (some (.ref ck))), Ch.of c2 (CellO none), Ch.of c3 (CellO none), Ch.of c4 (CellO (some (.ref df)))]) : S y (.Return (some (.Call (.Name (Str.ofString "sorted") p1) [.Name (Str.ofString "found") p2] [] p3)) pos :: rest) b (endL y c1 c2 c3 c4 df ck l fo) P := by
  refine W.drop (W.postfreeze (S_ret (E_bi (Z.ok.bf "sorted" (by decide)) (A_cons (E_cell (by rw [hcl]; rfl) (Ent.own (.tail _ (.tail _ (.tail _ (.tail _ (.tail _ (.head _))))))) (A_nil ?_))))))
  refine Call_sortedI (Ent.own (.tail _ (.head _))) (by unfold setN; rw [List.length_map]; exact hz) fun a ns hp hs => ⟨_, _, _, .right (.left (Split.none _)), fun h q => q, fun o b'' hφ hb hbo => ⟨_, .cons_cons _ (.cons _ (.refl _)), h a b'' hb ⟨o, hbo, by rw [← sorted_eq hp hs]; exact hφ⟩⟩⟩
theorem ForQ_found {y : Act Z 25} {c1 c2 c3 c4 df ck lr I : Addr} {l : List (Str × Value)} {fo r : List Nat} {p1 p2 p3 p4 p5 p6 : Pos} {k : Nat} {rest : List Stmt} {P : Flow → Kn → List Ch → Prop} (hcl : y.cl = [(Str.ofString "found", c4), (Str.ofString "leaf", c3), (Str.ofString "wanted", c2), (Str.ofString "kids", c1)])
    (hr : At b lr (LstO (r.map vN))) (hz : fo.length + r.length ≤ 10000) (hno : ∀ v : Value, Has ((Str.ofString "at", v) :: l) l) (fin : ∀ b', b.le b' → S y rest b' (endL y c1 c2 c3 c4 df ck l (addAll fo r)) P) :
    ForQ y (.Name (Str.ofString "at") p1) [.Assign [.Subscript (.Name (Str.ofString "found") p2) (.Name (Str.ofString "at") p3) p4] (.Constant (.bool true) k p5) p6] rest P (.ref I) b
      (Ch.loc y.L l :: Ch.of I (ListItO lr 0) :: [Ch.of df (DicO (intKind pw Z.w) df (setN fo)), Ch.of c1 (CellO (some (.ref ck))), Ch.of c2 (CellO none), Ch.of c3 (CellO none), Ch.of c4 (CellO (some (.ref df)))]) := by
  have sl : sizeLine = 2 ^ 24 := rfl
  refine ForQ_list (fun j b' o' => o' = endL y c1 c2 c3 c4 df ck l (addAll fo (r.take j))) (by simp [addAll]) (fun j b' o' hb q => .inl (hr.mono hb)) (fun j u b' o' hu hb q => ?_) (fun b' o' hb q => ?_)
  · subst q
    rw [List.getElem?_map, Option.map_eq_some_iff] at hu
    obtain ⟨a, ha, rfl⟩ := hu
    refine Asg_name (Sto_ok (S_seti ?_))
    with_reducible refine E_bool ?_
    refine E_cell (by show List.lookup _ y.cl = _; rw [hcl]; rfl) (Ent.own (.tail _ (.tail _ (.tail _ (.tail _ (.tail _ (.head _))))))) ?_
    refine E_name rfl ?_
    refine SetI_dict (.tail .head) (keyI _ _) ?_ ?_
    · have := addAll_len fo (r.take j); have : (r.take j).length ≤ r.length := by rw [List.length_take]; omega
      unfold setN; rw [List.length_map]; omega
    · rw [stored_setN, ← addAll_take ha]
      exact S_end rfl (hno _)
  · subst q
    rw [List.length_map, List.take_length]
    exact fin b' hb
end
noncomputable def wBody : Stmt → List Stmt
  | .While _ b .. => b
  | _ => []
noncomputable def wTail : List Stmt := ((dBody (stmtAt 25)).map wBody).flatten.drop 2
section
variable {Z : Zc}
theorem ends_ok (n : Nat) : ∀ {i : Nat} {x : Act Z i} {b : Kn} {own : List Ch} {g dx ck ls : Addr} {as : List (Str × Value)} {vt ve : Value} {tbl : Tbl} {e : Ex} {vs : List Value} {ks : List Tree} {st r : List Nat} {P : Value → Kn → List Ch → Prop}, n + 8 ≤ x.n → e.dep ≤ n →
    At b g (InstO Z.G dx) → At b dx (AttO as) → as.lookup (Str.ofString "table") = some vt → TblIn Z.w b vt tbl → ExIn b ve e → At b ck (TupO vs) → TreesIn b vs ks → ks.length ≤ 100000 → At b ls (LstO (st.map vN)) → st.length ≤ 1000 → endsP tbl ks e st = some r →
    (∀ l b', b.le b' → At b' l (LstO (r.map vN)) → P (.ref l) b' own) → Call x (.ref (Z.F 25)) [.ref g, ve, .ref ck, .ref ls] b own P := by
  have sl : sizeLine = 2 ^ 24 := rfl
  induction n with
  | zero => intro i x b own g dx ck ls as vt ve tbl e vs ks st r P hn hd; cases e <;> (simp [Ex.dep] at hd)
  | succ n ih =>
    intro i x b own g dx ck ls as vt ve tbl e vs ks st r P hn hd hg hdx hat ht he hk hks hkz hs hz hr h
    refine Call.alone (Call_ends (by show 1 ≤ x.n; omega) fun y c1 c2 c3 c4 hy hcl => ?_)
    have hy' : n + 8 ≤ y.n := by have : y.n + 1 = x.n := hy; omega
    cases he with
    | @text a s ha =>
      simp only [endsP, Option.some.injEq] at hr
      subst hr
      exact ends_leaf (by omega) hcl hg hdx hat ht (.text ha) (.inl rfl) hk hks hs (by omega) hkz fun l b' hb hl => ⟨rfl, h l b' hb hl⟩
    | @name a s ha =>
      simp only [endsP, Option.some.injEq] at hr
      subst hr
      exact ends_leaf (by omega) hcl hg hdx hat ht (.name ha) (.inr rfl) hk hks hs (by omega) hkz fun l b' hb hl => ⟨rfl, h l b' hb hl⟩
    | @seq a c us es ha hc hx =>
      simp only [endsP] at hr
      simp only [Ex.dep] at hd
      refine S_asg ?_
      with_reducible refine E_sub ?_
      refine E_name rfl ?_
      with_reducible refine E_int ?_
      refine Item_tuple ha.ent rfl rfl (Sto_ok ?_)
      with_reducible refine S_if1 ?_
      with_reducible refine T_bool ?_
      with_reducible refine TL_or ?_
      refine T_cmp ?_
      refine E_name rfl ?_
      with_reducible refine E_str ?_
      with_reducible refine Cmp_eqS ?_
      with_reducible refine ⟨_, rfl, ?_⟩
      refine if_f rfl ?_
      with_reducible refine TL_or ?_
      refine T_cmp ?_
      refine E_name rfl ?_
      with_reducible refine E_str ?_
      with_reducible refine Cmp_eqS ?_
      with_reducible refine ⟨_, rfl, ?_⟩
      refine if_f rfl ?_
      with_reducible refine TL_or0 ?_
      refine if_f rfl ?_
      with_reducible refine S_if1 ?_
      refine T_cmp ?_
      refine E_name rfl ?_
      with_reducible refine E_str ?_
      with_reducible refine Cmp_eqS ?_
      with_reducible refine ⟨_, rfl, ?_⟩
      refine if_t rfl ?_
      refine S_for ?_
      with_reducible refine E_sub ?_
      refine E_name rfl ?_
      with_reducible refine E_int ?_
      refine Item_tuple ha.ent rfl rfl ?_
      refine Itr_tuple hc.ent fun I => ?_
      refine ForQ_tuple (fun j b' o' => b.le b' ∧ ∃ l s, o' = [Ch.loc y.L [(Str.ofString "tag", vS (Str.ofString "seq")), (Str.ofString "starts", .ref l), (Str.ofString "e", .ref a), (Str.ofString "grammar", .ref g)], Ch.of c1 (CellO (some (.ref ck))), Ch.of c2 (CellO none), Ch.of c3 (CellO none), Ch.of c4 (CellO none)] ∧
        At b' l (LstO (s.map vN)) ∧ s.length ≤ 1000 ∧ endsQ tbl ks (es.drop j) s = some r) hc ⟨.rfl, ls, st, rfl, hs, hz, hr⟩ (fun j u b' o' hu _ q => ?_) (fun b' o' _ q => ?_)
      · obtain ⟨hb, l, s, rfl, hl, hlz, q⟩ := q
        obtain ⟨e', he', hin⟩ := hx.get _ _ hu
        have hde : e'.dep ≤ n := by have := Ex.depL_get he'; omega
        rw [endsQ_step he'] at q
        cases hf : endsP tbl ks e' s with
        | none => rw [hf] at q; cases q
        | some r' =>
          rw [hf] at q
          simp only at q
          by_cases hsz : r'.length ≤ 1000
          · rw [if_pos hsz] at q
            refine Asg_name (Sto_ok (S_asg (E_fn 25 ?_)))
            refine A_cons ?_
            refine E_name rfl ?_
            refine A_cons ?_
            refine E_name rfl ?_
            refine A_cons ?_
            refine E_cell (by show List.lookup _ y.cl = _; rw [hcl]; rfl) (Ent.own (.tail _ (.head _))) ?_
            refine A_cons ?_
            refine E_name rfl ?_
            with_reducible refine A_nil ?_
            refine ih (x := y.free) hy' hde (hg.mono hb) (hdx.mono hb) hat (ht.mono hb) (hin.mono hb) (hk.mono hb) (hks.mono hb) hkz hl hlz hf fun l' b₂ hb₂ hl' => Sto_ok (S_end ⟨hb.trans hb₂, l', r', rfl, hl', hsz, q⟩)
          · rw [if_neg hsz] at q; cases q
      · obtain ⟨hb, l, s, rfl, hl, hlz, q⟩ := q
        rw [hx.length, List.drop_length, endsQ] at q
        cases Option.some.inj q
        exact S_ret (E_name rfl (retC_ok ⟨rfl, h l b' hb hl⟩))
    | @alt a c us es ha hc hx =>
      simp only [endsP] at hr
      simp only [Ex.dep] at hd
      refine S_asg ?_
      with_reducible refine E_sub ?_
      refine E_name rfl ?_
      with_reducible refine E_int ?_
      refine Item_tuple ha.ent rfl rfl (Sto_ok ?_)
      with_reducible refine S_if1 ?_
      with_reducible refine T_bool ?_
      with_reducible refine TL_or ?_
      refine T_cmp ?_
      refine E_name rfl ?_
      with_reducible refine E_str ?_
      with_reducible refine Cmp_eqS ?_
      with_reducible refine ⟨_, rfl, ?_⟩
      refine if_f rfl ?_
      with_reducible refine TL_or ?_
      refine T_cmp ?_
      refine E_name rfl ?_
      with_reducible refine E_str ?_
      with_reducible refine Cmp_eqS ?_
      with_reducible refine ⟨_, rfl, ?_⟩
      refine if_f rfl ?_
      with_reducible refine TL_or0 ?_
      refine if_f rfl ?_
      with_reducible refine S_if1 ?_
      refine T_cmp ?_
      refine E_name rfl ?_
      with_reducible refine E_str ?_
      with_reducible refine Cmp_eqS ?_
      with_reducible refine ⟨_, rfl, ?_⟩
      refine if_f rfl ?_
      refine S_asg ?_
      refine E_dict0 (intKind pw Z.w) fun df => Sto_cell (by rw [hcl]; rfl) (.tail (.tail (.tail (.tail (.tail .head))))) ?_
      with_reducible refine S_if1 ?_
      refine T_cmp ?_
      refine E_name rfl ?_
      with_reducible refine E_str ?_
      with_reducible refine Cmp_eqS ?_
      with_reducible refine ⟨_, rfl, ?_⟩
      refine if_t rfl ?_
      refine S_for ?_
      with_reducible refine E_sub ?_
      refine E_name rfl ?_
      with_reducible refine E_int ?_
      refine Item_tuple ha.ent rfl rfl ?_
      refine Itr_tuple hc.ent fun I => ?_
      refine ForQ_tuple (fun j b' o' => b.le b' ∧ ∃ fo, o' = endL y c1 c2 c3 c4 df ck [(Str.ofString "tag", vS (Str.ofString "alt")), (Str.ofString "starts", .ref ls), (Str.ofString "e", .ref a), (Str.ofString "grammar", .ref g)] fo ∧
        fo.length < 64 ∧ endsA tbl ks (es.drop j) st fo = some r) hc ⟨.rfl, [], rfl, by decide, hr⟩ (fun j u b' o' hu _ q => ?_) (fun b' o' _ q => ?_)
      · obtain ⟨hb, fo, rfl, hfz, q⟩ := q
        obtain ⟨e', he', hin⟩ := hx.get _ _ hu
        have hde : e'.dep ≤ n := by have := Ex.depL_get he'; omega
        rw [endsA_step he'] at q
        cases hf : endsP tbl ks e' st with
        | none => rw [hf] at q; cases q
        | some r' =>
          rw [hf] at q
          simp only at q
          by_cases hsz : r'.length ≤ 1000 ∧ (addAll fo r').length < 64
          · rw [if_pos hsz] at q
            refine Asg_name (Sto_ok (S_for (E_fn 25 ?_)))
            refine A_cons ?_
            refine E_name rfl ?_
            refine A_cons ?_
            refine E_name rfl ?_
            refine A_cons ?_
            refine E_cell (by show List.lookup _ y.cl = _; rw [hcl]; rfl) (Ent.own (.tail _ (.tail _ (.head _)))) ?_
            refine A_cons ?_
            refine E_name rfl ?_
            with_reducible refine A_nil ?_
            refine ih (x := y.free) hy' hde (hg.mono hb) (hdx.mono hb) hat (ht.mono hb) (hin.mono hb) (hk.mono hb) (hks.mono hb) hkz (hs.mono hb) hz hf fun l' b₂ hb₂ hl' => Itr_list hl'.ent fun I' => ?_
            refine ForQ_found hcl hl' (by omega) (fun v => by repeat first | exact .nil | refine .cons rfl ?_) fun b₃ hb₃ => S_end ⟨hb.trans (hb₂.trans hb₃), addAll fo r', rfl, hsz.2, q⟩
          · rw [if_neg hsz] at q; cases q
      · obtain ⟨hb, fo, rfl, hfz, q⟩ := q
        rw [hx.length, List.drop_length, endsA] at q
        cases Option.some.inj q
        exact ret_sorted hcl hfz fun l b₂ hb₂ hl => retC_ok ⟨rfl, h l b₂ (hb.trans hb₂) hl⟩
    | @opt a ve' e' ha hx =>
      simp only [endsP] at hr
      simp only [Ex.dep] at hd
      refine S_asg ?_
      with_reducible refine E_sub ?_
      refine E_name rfl ?_
      with_reducible refine E_int ?_
      refine Item_tuple ha.ent rfl rfl (Sto_ok ?_)
      with_reducible refine S_if1 ?_
      with_reducible refine T_bool ?_
      with_reducible refine TL_or ?_
      refine T_cmp ?_
      refine E_name rfl ?_
      with_reducible refine E_str ?_
      with_reducible refine Cmp_eqS ?_
      with_reducible refine ⟨_, rfl, ?_⟩
      refine if_f rfl ?_
      with_reducible refine TL_or ?_
      refine T_cmp ?_
      refine E_name rfl ?_
      with_reducible refine E_str ?_
      with_reducible refine Cmp_eqS ?_
      with_reducible refine ⟨_, rfl, ?_⟩
      refine if_f rfl ?_
      with_reducible refine TL_or0 ?_
      refine if_f rfl ?_
      with_reducible refine S_if1 ?_
      refine T_cmp ?_
      refine E_name rfl ?_
      with_reducible refine E_str ?_
      with_reducible refine Cmp_eqS ?_
      with_reducible refine ⟨_, rfl, ?_⟩
      refine if_f rfl ?_
      refine S_asg ?_
      refine E_dict0 (intKind pw Z.w) fun df => Sto_cell (by rw [hcl]; rfl) (.tail (.tail (.tail (.tail (.tail .head))))) ?_
      with_reducible refine S_if1 ?_
      refine T_cmp ?_
      refine E_name rfl ?_
      with_reducible refine E_str ?_
      with_reducible refine Cmp_eqS ?_
      with_reducible refine ⟨_, rfl, ?_⟩
      refine if_f rfl ?_
      refine S_asg ?_
      refine E_name rfl ?_
      refine Sto_ok ?_
      refine S_while (fun m b' o' => b.le b' ∧ ∃ lf fr fo, o' = endL y c1 c2 c3 c4 df ck [(Str.ofString "fresh", .ref lf), (Str.ofString "tag", vS (Str.ofString "opt")), (Str.ofString "starts", .ref ls), (Str.ofString "e", .ref a), (Str.ofString "grammar", .ref g)] fo ∧
        At b' lf (LstO (fr.map vN)) ∧ fr.length ≤ 1000 ∧ fo.length < 64 ∧ loopE (endsP tbl ks e') true st m fr fo = some r) 100 ⟨.rfl, ls, st, [], rfl, hs, hz, by decide, hr⟩ (fun m b₁ o₁ _ q => ?_)
      obtain ⟨hb, lf, fr, fo, rfl, hl, hlz, hfz, q⟩ := q
      obtain ⟨m, rfl⟩ : ∃ m', m = m' + 1 := by cases m with | zero => simp [loopE] at q | succ m => exact ⟨m, rfl⟩
      rw [loopE] at q
      refine T_cmp (E_bi Z.ok.len ?_)
      refine A_cons ?_
      refine E_name rfl ?_
      with_reducible refine A_nil ?_
      refine Call_len_list hl.ent (by rw [List.length_map]; omega) ?_
      with_reducible refine E_int ?_
      with_reducible refine Cmp_gtI ?_
      with_reducible refine ⟨_, rfl, ?_⟩
      rw [List.length_map]
      cases fr with
      | nil =>
        simp only [List.isEmpty_nil, if_true] at q
        cases Option.some.inj q
        exact if_f rfl (ret_sorted hcl hfz fun l b₂ hb₂ hl => retC_ok ⟨rfl, h l b₂ (hb.trans hb₂) hl⟩)
      | cons f0 fr' =>
        generalize hfr : f0 :: fr' = fr at *
        have hpos : 0 < fr.length := by rw [← hfr]; simp
        rw [show fr.isEmpty = false by rw [← hfr]; rfl, if_neg Bool.false_ne_true] at q
        refine if_t (decide_eq_true (by omega)) ?_
        by_cases hf2 : (addAll fo fr).length < 64
        · rw [if_pos hf2] at q
          refine S_for (E_name rfl (Itr_list hl.ent fun I => ?_))
          refine ForQ_found hcl hl (by omega) (fun v => by repeat first | exact .nil | refine .cons rfl ?_) fun b₂ hb₂ => ?_
          have hb₂' := hb.trans hb₂
          have go : ∀ {P' : Flow → Kn → List Ch → Prop}, (∀ b₃ lf' fr', b₁.le b₃ → At b₃ lf' (LstO (fr'.map vN)) → fr'.length ≤ 1000 → loopE (endsP tbl ks e') true st m fr' (addAll fo fr) = some r → P' .next b₃ (endL y c1 c2 c3 c4 df ck [(Str.ofString "fresh", .ref lf'), (Str.ofString "tag", vS (Str.ofString "opt")), (Str.ofString "starts", .ref ls), (Str.ofString "e", .ref a), (Str.ofString "grammar", .ref g)] (addAll fo fr))) →
              ((match endsP tbl ks e' fr with
                | none => none
                | some r => if r.length ≤ 1000 then loopE (endsP tbl ks e') true st m (r.filter fun a => !decide (a ∈ addAll fo fr)) (addAll fo fr) else none) = some r) →
              S y (wTail) b₂ (endL y c1 c2 c3 c4 df ck [(Str.ofString "fresh", .ref lf), (Str.ofString "tag", vS (Str.ofString "opt")), (Str.ofString "starts", .ref ls), (Str.ofString "e", .ref a), (Str.ofString "grammar", .ref g)] (addAll fo fr)) P' := by
            intro P' hP q
            cases hf : endsP tbl ks e' fr with
            | none => rw [hf] at q; cases q
            | some r' =>
              rw [hf] at q
              simp only at q
              by_cases hsz : r'.length ≤ 1000
              · rw [if_pos hsz] at q
                show S y [.Assign _ _ _] _ _ _
                refine S_asgComp 1001 (nnot (addAll fo fr)) id (clos1 hcl) (E_fn 25 ?_)
                refine A_cons ?_
                refine E_name rfl ?_
                refine A_cons ?_
                with_reducible refine E_sub ?_
                refine E_name rfl ?_
                with_reducible refine E_int ?_
                refine Item_tuple (ha.mono hb₂').ent rfl rfl ?_
                refine A_cons ?_
                refine E_cell (by rw [hcl]; rfl) (Ent.own (.tail _ (.tail _ (.head _)))) ?_
                refine A_cons ?_
                refine E_name rfl ?_
                with_reducible refine A_nil ?_
                refine ih (x := y) hy' (by omega) (hg.mono hb₂') (hdx.mono hb₂') hat (ht.mono hb₂') (hx.mono hb₂') (hk.mono hb₂') (hks.mono hb₂') hkz (hl.mono hb₂) hlz hf fun l' b₃ hb₃ hl' => ⟨l', _, _, _, rfl, hl', by rw [List.length_map]; omega, rfl, ?_, fun D => ?_⟩
                · intro z b₄ hzn hzc hb₄ hknown u hu hL
                  obtain ⟨n, hn', rfl⟩ := List.mem_map.mp hu
                  have k1 := hknown df _ (.tail _ (.head _))
                  have k2 := hknown c4 _ (.tail _ (.tail _ (.tail _ (.tail _ (.tail _ (.head _))))))
                  refine ⟨T_cmp (E_nameK hL rfl (E_cell (by rw [hzc]; rfl) k2.ent (Cmp_notin k1.ent (keyI _ _) ⟨_, rfl, ?_⟩))), fun _ => E_nameK hL rfl rfl⟩
                  rw [valueAt_setN]
                  show (!decide (n ∈ addAll fo fr)) = !decide ((n : Int).toNat ∈ addAll fo fr)
                  rw [Int.toNat_natCast]
                · rw [nnot_map]
                  refine W.freeze (.right (.left (Split.none _))) (fun h q => q) fun o b₄ hφ hb₄ hbo => ?_
                  exact S_end (hP b₄ D _ (hb₂.trans (hb₃.trans hb₄)) ⟨o, hbo, hφ⟩ (Nat.le_trans (List.length_filter_le _ _) hsz) q)
              · rw [if_neg hsz] at q; cases q
          refine S_if1 (T_bool ?_)
          with_reducible refine TL_and ?_
          refine T_cmp ?_
          refine E_name rfl ?_
          with_reducible refine E_str ?_
          with_reducible refine Cmp_eqS ?_
          with_reducible refine ⟨_, rfl, ?_⟩
          refine if_t rfl ?_
          with_reducible refine TL_and ?_
          refine T_cmp ?_
          refine E_name rfl ?_
          refine E_name rfl ?_
          refine Cmp_neL encN (hl.mono hb₂).ent (hs.mono hb₂').ent ⟨_, rfl, if_b (fun c => ?_) fun c => ?_⟩
          · have c : decide (fr ≠ st) = true := by rw [decide_not]; exact c
            rw [c, Bool.true_and, if_pos rfl] at q
            cases Option.some.inj q
            refine TL_and0 (if_t rfl ?_)
            exact ret_sorted hcl hf2 fun l b₃ hb₃ hl => retC_ok ⟨rfl, h l b₃ (hb₂'.trans hb₃) hl⟩
          · have c : decide (fr ≠ st) = false := by rw [decide_not]; exact c
            rw [c, Bool.and_false, if_neg Bool.false_ne_true] at q
            refine if_f rfl ?_
            exact go (fun b₃ lf' fr' hb₃ hl' hz' q' => ⟨m, Nat.lt_succ_self m, hb.trans hb₃, lf', fr', _, rfl, hl', hz', hf2, q'⟩) q
        · rw [if_neg hf2] at q; cases q
    | @rep a ve' e' ha hx =>
      simp only [endsP] at hr
      simp only [Ex.dep] at hd
      refine S_asg ?_
      with_reducible refine E_sub ?_
      refine E_name rfl ?_
      with_reducible refine E_int ?_
      refine Item_tuple ha.ent rfl rfl (Sto_ok ?_)
      with_reducible refine S_if1 ?_
      with_reducible refine T_bool ?_
      with_reducible refine TL_or ?_
      refine T_cmp ?_
      refine E_name rfl ?_
      with_reducible refine E_str ?_
      with_reducible refine Cmp_eqS ?_
      with_reducible refine ⟨_, rfl, ?_⟩
      refine if_f rfl ?_
      with_reducible refine TL_or ?_
      refine T_cmp ?_
      refine E_name rfl ?_
      with_reducible refine E_str ?_
      with_reducible refine Cmp_eqS ?_
      with_reducible refine ⟨_, rfl, ?_⟩
      refine if_f rfl ?_
      with_reducible refine TL_or0 ?_
      refine if_f rfl ?_
      with_reducible refine S_if1 ?_
      refine T_cmp ?_
      refine E_name rfl ?_
      with_reducible refine E_str ?_
      with_reducible refine Cmp_eqS ?_
      with_reducible refine ⟨_, rfl, ?_⟩
      refine if_f rfl ?_
      refine S_asg ?_
      refine E_dict0 (intKind pw Z.w) fun df => Sto_cell (by rw [hcl]; rfl) (.tail (.tail (.tail (.tail (.tail .head))))) ?_
      with_reducible refine S_if1 ?_
      refine T_cmp ?_
      refine E_name rfl ?_
      with_reducible refine E_str ?_
      with_reducible refine Cmp_eqS ?_
      with_reducible refine ⟨_, rfl, ?_⟩
      refine if_f rfl ?_
      refine S_asg ?_
      refine E_name rfl ?_
      refine Sto_ok ?_
      refine S_while (fun m b' o' => b.le b' ∧ ∃ lf fr fo, o' = endL y c1 c2 c3 c4 df ck [(Str.ofString "fresh", .ref lf), (Str.ofString "tag", vS (Str.ofString "rep")), (Str.ofString "starts", .ref ls), (Str.ofString "e", .ref a), (Str.ofString "grammar", .ref g)] fo ∧
        At b' lf (LstO (fr.map vN)) ∧ fr.length ≤ 1000 ∧ fo.length < 64 ∧ loopE (endsP tbl ks e') false st m fr fo = some r) 100 ⟨.rfl, ls, st, [], rfl, hs, hz, by decide, hr⟩ (fun m b₁ o₁ _ q => ?_)
      obtain ⟨hb, lf, fr, fo, rfl, hl, hlz, hfz, q⟩ := q
      obtain ⟨m, rfl⟩ : ∃ m', m = m' + 1 := by cases m with | zero => simp [loopE] at q | succ m => exact ⟨m, rfl⟩
      rw [loopE] at q
      refine T_cmp (E_bi Z.ok.len ?_)
      refine A_cons ?_
      refine E_name rfl ?_
      with_reducible refine A_nil ?_
      refine Call_len_list hl.ent (by rw [List.length_map]; omega) ?_
      with_reducible refine E_int ?_
      with_reducible refine Cmp_gtI ?_
      with_reducible refine ⟨_, rfl, ?_⟩
      rw [List.length_map]
      cases fr with
      | nil =>
        simp only [List.isEmpty_nil, if_true] at q
        cases Option.some.inj q
        exact if_f rfl (ret_sorted hcl hfz fun l b₂ hb₂ hl => retC_ok ⟨rfl, h l b₂ (hb.trans hb₂) hl⟩)
      | cons f0 fr' =>
        generalize hfr : f0 :: fr' = fr at *
        have hpos : 0 < fr.length := by rw [← hfr]; simp
        rw [show fr.isEmpty = false by rw [← hfr]; rfl, if_neg Bool.false_ne_true] at q
        refine if_t (decide_eq_true (by omega)) ?_
        by_cases hf2 : (addAll fo fr).length < 64
        · rw [if_pos hf2] at q
          refine S_for (E_name rfl (Itr_list hl.ent fun I => ?_))
          refine ForQ_found hcl hl (by omega) (fun v => by repeat first | exact .nil | refine .cons rfl ?_) fun b₂ hb₂ => ?_
          have hb₂' := hb.trans hb₂
          have go : ∀ {P' : Flow → Kn → List Ch → Prop}, (∀ b₃ lf' fr', b₁.le b₃ → At b₃ lf' (LstO (fr'.map vN)) → fr'.length ≤ 1000 → loopE (endsP tbl ks e') false st m fr' (addAll fo fr) = some r → P' .next b₃ (endL y c1 c2 c3 c4 df ck [(Str.ofString "fresh", .ref lf'), (Str.ofString "tag", vS (Str.ofString "rep")), (Str.ofString "starts", .ref ls), (Str.ofString "e", .ref a), (Str.ofString "grammar", .ref g)] (addAll fo fr))) →
              ((match endsP tbl ks e' fr with
                | none => none
                | some r => if r.length ≤ 1000 then loopE (endsP tbl ks e') false st m (r.filter fun a => !decide (a ∈ addAll fo fr)) (addAll fo fr) else none) = some r) →
              S y (wTail) b₂ (endL y c1 c2 c3 c4 df ck [(Str.ofString "fresh", .ref lf), (Str.ofString "tag", vS (Str.ofString "rep")), (Str.ofString "starts", .ref ls), (Str.ofString "e", .ref a), (Str.ofString "grammar", .ref g)] (addAll fo fr)) P' := by
            intro P' hP q
            cases hf : endsP tbl ks e' fr with
            | none => rw [hf] at q; cases q
            | some r' =>
              rw [hf] at q
              simp only at q
              by_cases hsz : r'.length ≤ 1000
              · rw [if_pos hsz] at q
                show S y [.Assign _ _ _] _ _ _
                refine S_asgComp 1001 (nnot (addAll fo fr)) id (clos1 hcl) (E_fn 25 ?_)
                refine A_cons ?_
                refine E_name rfl ?_
                refine A_cons ?_
                with_reducible refine E_sub ?_
                refine E_name rfl ?_
                with_reducible refine E_int ?_
                refine Item_tuple (ha.mono hb₂').ent rfl rfl ?_
                refine A_cons ?_
                refine E_cell (by rw [hcl]; rfl) (Ent.own (.tail _ (.tail _ (.head _)))) ?_
                refine A_cons ?_
                refine E_name rfl ?_
                with_reducible refine A_nil ?_
                refine ih (x := y) hy' (by omega) (hg.mono hb₂') (hdx.mono hb₂') hat (ht.mono hb₂') (hx.mono hb₂') (hk.mono hb₂') (hks.mono hb₂') hkz (hl.mono hb₂) hlz hf fun l' b₃ hb₃ hl' => ⟨l', _, _, _, rfl, hl', by rw [List.length_map]; omega, rfl, ?_, fun D => ?_⟩
                · intro z b₄ hzn hzc hb₄ hknown u hu hL
                  obtain ⟨n, hn', rfl⟩ := List.mem_map.mp hu
                  have k1 := hknown df _ (.tail _ (.head _))
                  have k2 := hknown c4 _ (.tail _ (.tail _ (.tail _ (.tail _ (.tail _ (.head _))))))
                  refine ⟨T_cmp (E_nameK hL rfl (E_cell (by rw [hzc]; rfl) k2.ent (Cmp_notin k1.ent (keyI _ _) ⟨_, rfl, ?_⟩))), fun _ => E_nameK hL rfl rfl⟩
                  rw [valueAt_setN]
                  show (!decide (n ∈ addAll fo fr)) = !decide ((n : Int).toNat ∈ addAll fo fr)
                  rw [Int.toNat_natCast]
                · rw [nnot_map]
                  refine W.freeze (.right (.left (Split.none _))) (fun h q => q) fun o b₄ hφ hb₄ hbo => ?_
                  exact S_end (hP b₄ D _ (hb₂.trans (hb₃.trans hb₄)) ⟨o, hbo, hφ⟩ (Nat.le_trans (List.length_filter_le _ _) hsz) q)
              · rw [if_neg hsz] at q; cases q
          refine S_if1 (T_bool ?_)
          with_reducible refine TL_and ?_
          refine T_cmp ?_
          refine E_name rfl ?_
          with_reducible refine E_str ?_
          with_reducible refine Cmp_eqS ?_
          with_reducible refine ⟨_, rfl, ?_⟩
          refine if_f rfl ?_
          refine if_f rfl ?_
          rw [Bool.false_and, if_neg Bool.false_ne_true] at q
          exact go (fun b₃ lf' fr' hb₃ hl' hz' q' => ⟨m, Nat.lt_succ_self m, hb.trans hb₃, lf', fr', _, rfl, hl', hz', hf2, q'⟩) q
        · rw [if_neg hf2] at q; cases q
end
noncomputable def ruleOk (tbl : Tbl) (n : Str) (ks : List Tree) : Bool := match tbl.lookup n with
  | none => false
  | some e => match endsP tbl ks e [0] with
    | none => false
    | some r => decide (ks.length ∈ r)
mutual
noncomputable def derT (tbl : Tbl) : Tree → Bool
  | .leaf _ _ => true
  | .node n ks => ruleOk tbl n ks && derL tbl ks
noncomputable def derL (tbl : Tbl) : List Tree → Bool
  | [] => true
  | k :: ks => derT tbl k && derL tbl ks
end
theorem ruleOk_some {tbl : Tbl} {n : Str} {ks : List Tree} (h : ruleOk tbl n ks = true) : ∃ e r, tbl.lookup n = some e ∧ endsP tbl ks e [0] = some r ∧ ks.length ∈ r := by
  unfold ruleOk at h
  cases hl : tbl.lookup n with
  | none => rw [hl] at h; cases h
  | some e =>
    rw [hl] at h
    simp only at h
    cases hr : endsP tbl ks e [0] with
    | none => rw [hr] at h; cases h
    | some r => rw [hr] at h; exact ⟨e, r, rfl, hr, of_decide_eq_true h⟩
theorem derL_get {tbl : Tbl} : ∀ {ks : List Tree} {j : Nat} {k : Tree}, derL tbl ks = true → ks[j]? = some k → derT tbl k = true
  | [], _, _, _, h => by simp at h
  | k' :: ks, 0, k, h, e => by simp at e; subst e; rw [derL, Bool.and_eq_true] at h; exact h.1
  | k' :: ks, j + 1, k, h, e => by rw [derL, Bool.and_eq_true] at h; simp at e; exact derL_get h.2 e
theorem sizeL_drop {ks : List Tree} {j : Nat} {k : Tree} (h : ks[j]? = some k) : Tree.sizeL (ks.drop j) = k.size + Tree.sizeL (ks.drop (j + 1)) := by
  rw [List.drop_eq_getElem_cons (List.getElem?_eq_some_iff.mp h).1, (List.getElem?_eq_some_iff.mp h).2, Tree.sizeL]
theorem Call.freeze {Z : Zc} {i : Nat} {x : Act Z i} {b : Kn} {own r : List Ch} {f : Value} {us : List Value} {P : Value → Kn → List Ch → Prop} {φ : Obj → Prop} {y : Ch} (hs : Split own [y] r) (hx : ∀ h, y.ok h → ∃ o, h.get? y.addr = some o ∧ φ o)
    (h : ∀ o b', φ o → b.le b' → b' y.addr = some o → Call x f us b' r P) : Call x f us b own P := fun vs hvs => W.freeze hs hx fun o b' p hb e => h o b' p hb e vs hvs
section
variable {Z : Zc} {i : Nat} {x : Act Z i} {b : Kn} {own : List Ch} {P : Value → Kn → List Ch → Prop}
theorem derives_ok {D : Nat} {g dx : Addr} {as : List (Str × Value)} {vt v : Value} {tbl : Tbl} {t : Tree} (hn : D + 12 ≤ x.n) (hD : tbl.Le D) (hg : At b g (InstO Z.G dx)) (hdx : At b dx (AttO as)) (hat : as.lookup (Str.ofString "table") = some vt) (htb : TblIn Z.w b vt tbl)
    (ht : TreeIn b v t) (hl : t.isLeaf = false) (hz : t.size ≤ 100000) (hd : derT tbl t = true) (h : ∀ b', b.le b' → P (.bool true) b' own) : Call x (.ref (Z.F 26)) [.ref g, v] b own P := by
  have sl : sizeLine = 2 ^ 24 := rfl
  refine Call.alone ?_
  refine Call_fn [Str.ofString "grammar", Str.ofString "tree"] (by show 1 ≤ x.n; omega) (by decide) (fun vs hv _ _ _ _ _ _ => by obtain ⟨a, c, rfl⟩ := two_of hv; rfl) rfl rfl rfl (fun y hy => ?_)
  have hy' : y.n + 1 = x.n := hy
  refine S_asg ?_
  refine E_list (A_cons (E_name rfl (A_nil ⟨by simp [sizeLine], _, _, rfl, fun lw => ?_⟩)))
  refine Sto_ok ?_
  refine S_while (fun m b' o' => b.le b' ∧ ∃ (ws : List Value) (w : List Tree), o' = [Ch.loc y.L [(Str.ofString "waiting", .ref lw), (Str.ofString "tree", v), (Str.ofString "grammar", .ref g)], Ch.of lw (LstO ws.reverse)] ∧ TreesIn b' ws w ∧ (∀ k ∈ w, k.isLeaf = false ∧ derT tbl k = true) ∧ Tree.sizeL w ≤ m ∧ m ≤ 100000) t.size
    ⟨.rfl, [v], [t], rfl, .cons ht .nil, fun k hk => by rw [List.mem_singleton.mp hk]; exact ⟨hl, hd⟩, by simp [Tree.sizeL], hz⟩ (fun m b₁ o₁ _ q => ?_)
  obtain ⟨hb, ws, w, rfl, hw, hgood, hm, hmz⟩ := q
  have wl := hw.len
  have wz := sizeL_len w
  refine T_cmp (E_bi Z.ok.len ?_)
  refine A_cons ?_
  refine E_name rfl ?_
  with_reducible refine A_nil ?_
  refine Call_len_list (Ent.own (.tail _ (.head _))) (by rw [List.length_reverse]; omega) ?_
  with_reducible refine E_int ?_
  with_reducible refine Cmp_gtI ?_
  with_reducible refine ⟨_, rfl, ?_⟩
  rw [List.length_reverse]
  cases hw with
  | nil =>
    refine if_f rfl ?_
    refine W.forget (o₁ := [Ch.loc y.L _]) (.cons_cons _ (List.nil_sublist _)) ?_
    refine S_ret ?_
    with_reducible refine E_bool ?_
    with_reducible refine ret_ok ?_
    exact ⟨rfl, h _ hb⟩
  | @cons v₁ k vs ks hk hks =>
    refine if_t (decide_eq_true (by simp)) ?_
    simp only [Tree.sizeL] at hm wz
    simp only [List.length_cons] at wl wz
    have hgk := hgood k (.head _)
    have hp := size_pos k
    rw [List.reverse_cons]
    cases hk with
    | leaf => cases hgk.1
    | @node a n c us ls ha hc hls =>
      have hdk := hgk.2
      rw [derT, Bool.and_eq_true] at hdk
      obtain ⟨e, r, hlk, hends, hmem⟩ := ruleOk_some hdk.1
      have ul := hls.len
      have lz := sizeL_len ls
      simp only [Tree.size] at hm hp wz
      obtain ⟨dt, kvs, rfl, hdt, hkv⟩ := htb
      refine S_asgT (E_lmeth "list.pop" F.slot_list_pop F.type_list_pop (E_name rfl ⟨lw, _, rfl, Ent.own (.tail _ (.head _)), M_pop (.tail .head) (by rw [List.length_reverse]; omega) ?_⟩))
      refine Asg_pair ha.ent (Sto_ok (Sto_ok (S_if1 (T_cmp (E_name rfl ?_)))))
      refine E_attr ?_
      refine E_name rfl ?_
      refine GetA_inst Z.ok.cG (hg.mono hb) (.inl (hdx.mono hb)) hat ?_
      refine Cmp_notin (hdt.mono hb).ent (keyS _ _) ?_
      rw [hkv.some_, hlk]
      refine ⟨_, rfl, if_f rfl (S_if1 (T_cmp (E_bi Z.ok.len ?_)))⟩
      refine A_cons ?_
      refine E_name rfl ?_
      with_reducible refine A_nil ?_
      refine Call_len_tuple hc.ent (by omega) ?_
      refine E_fn 25 ?_
      refine A_cons ?_
      refine E_name rfl ?_
      refine A_cons ?_
      with_reducible refine E_sub ?_
      refine E_attr ?_
      refine E_name rfl ?_
      refine GetA_inst Z.ok.cG (hg.mono hb) (.inl (hdx.mono hb)) hat ?_
      refine E_name rfl ?_
      refine tbl_item (TblIn.mono ⟨dt, kvs, rfl, hdt, hkv⟩ hb) hlk fun v' hv' => ?_
      refine A_cons ?_
      refine E_name rfl ?_
      refine A_cons ?_
      refine E_list ?_
      refine A_cons ?_
      with_reducible refine E_int ?_
      with_reducible refine A_nil ?_
      refine ⟨by simp [sizeLine], _, _, rfl, fun l0 => A_nil ?_⟩
      refine Call.freeze (.right (.left (Split.none _))) (fun h q => q) fun o b₂ hφ hb₂ hbo => ?_
      have hb₂' := hb.trans hb₂
      refine ends_ok D (by omega) (hD _ _ hlk) (hg.mono hb₂') (hdx.mono hb₂') hat (TblIn.mono ⟨dt, kvs, rfl, hdt, hkv⟩ hb₂') (hv'.mono hb₂) (hc.mono hb₂) (hls.mono hb₂) (by omega) (st := [0]) ⟨o, hbo, hφ⟩ (by decide) hends fun lr b₃ hb₃ hlr => ?_
      have hb₃' := hb₂'.trans hb₃
      have hb13 := hb₂.trans hb₃
      rw [ul]
      refine Cmp_notinN hlr.ent ?_
      rw [decide_eq_true hmem]
      refine ⟨_, rfl, if_f rfl (S_names (l' := [(Str.ofString "waiting", .ref lw), (Str.ofString "kids", .ref c), (Str.ofString "tree", v), (Str.ofString "grammar", .ref g)]) (S_for (E_name rfl (Itr_tuple (hc.mono hb13).ent fun I => ?_))))⟩
      refine ForQ_tuple (fun j b' o' => b₃.le b' ∧ ∃ (ws : List Value) (w : List Tree), o' = [Ch.loc y.L [(Str.ofString "waiting", .ref lw), (Str.ofString "kids", .ref c), (Str.ofString "tree", v), (Str.ofString "grammar", .ref g)], Ch.of lw (LstO ws.reverse)] ∧ TreesIn b' ws w ∧ (∀ k ∈ w, k.isLeaf = false ∧ derT tbl k = true) ∧ Tree.sizeL w + Tree.sizeL (ls.drop j) + 1 ≤ m) (hc.mono hb13) ?_ (fun j u b' o' hu _ q => ?_) (fun b' o' _ q => ?_)
      · exact ⟨.rfl, vs, ks, rfl, hks.mono hb13, fun k hk => hgood k (.tail _ hk), by simp only [List.drop_zero]; omega⟩
      · obtain ⟨hb', ws', w', rfl, hw', hgood', hm'⟩ := q
        obtain ⟨k', hk', hin⟩ := hls.get _ _ hu
        have hin := hin.mono (hb13.trans hb')
        rw [sizeL_drop hk'] at hm'
        have wl' := hw'.len
        have wz' := sizeL_len w'
        refine Asg_name (Sto_ok (S_if1 (T_not (T_val (E_fn 23 ?_)))))
        refine A_cons ?_
        refine E_name rfl ?_
        with_reducible refine A_nil ?_
        refine is_leaf_ok (by show 1 ≤ y.n; omega) hin ⟨_, rfl, ?_⟩
        cases hq : k'.isLeaf with
        | true => exact if_f rfl (S_end ⟨hb', ws', w', rfl, hw', hgood', by omega⟩)
        | false =>
          have hvr : ∃ a, u = .ref a := by cases hin <;> exact ⟨_, rfl⟩
          refine if_t rfl (S_exp (E_lmeth "list.append" F.slot_list_append F.type_list_append (E_name rfl ⟨lw, _, rfl, Ent.own (.tail _ (.head _)), M_append (E_name rfl ⟨_, _, .tail .head, by rw [List.length_reverse]; omega, fun _ => nofun, ?_⟩)⟩)))
          refine S_nil (S_end ⟨hb', u :: ws', k' :: w', by rw [List.reverse_cons]; rfl, .cons hin hw', ?_, by simp only [Tree.sizeL]; omega⟩)
          intro q hq'
          rcases List.mem_cons.mp hq' with rfl | hq'
          · exact ⟨hq, derL_get hdk.2 hk'⟩
          · exact hgood' q hq'
      · obtain ⟨hb', ws', w', rfl, hw', hgood', hm'⟩ := q
        exact S_end ⟨m - 1, by omega, hb₃'.trans hb', ws', w', rfl, hw', hgood', by omega, by omega⟩
end
noncomputable def partP (ns : List Int) (spot ways : Nat) : Nat := match ns[spot]? with
  | some a => a.natAbs % ways
  | none => 0
section
variable {Z : Zc} {i : Nat} {x : Act Z i} {b : Kn} {own : List Ch} {P : Value → Kn → List Ch → Prop}
theorem part_ok {ls : Addr} {ns : List Int} {spot ways : Nat} (hn : 1 ≤ x.n) (hl : At b ls (LstO (ns.map vI))) (hz : ns.length ≤ 100000) (hw : 0 < ways) (h : P (vN (partP ns spot ways)) b own) :
    Call x (.ref (Z.F 28)) [.ref ls, vN spot, vN ways] b own P := by
  refine Call_fn [Str.ofString "script", Str.ofString "spot", Str.ofString "ways"] (by omega) (by decide) (fun vs hv _ _ _ _ _ _ => by obtain ⟨a, c, d, rfl⟩ := three_of hv; rfl) rfl rfl rfl (fun y hy => ?_)
  refine S_if1 (T_cmp (E_name rfl (E_bi Z.ok.len ?_)))
  refine A_cons ?_
  refine E_name rfl ?_
  with_reducible refine A_nil ?_
  refine Call_len_list hl.ent (by rw [List.length_map]; omega) ?_
  with_reducible refine Cmp_ltI ?_
  with_reducible refine ⟨_, rfl, ?_⟩
  rw [List.length_map]
  unfold partP at h
  refine if_b (fun c => ?_) (fun c => ?_)
  · have hlt : spot < ns.length := by have := of_decide_eq_true c; omega
    rw [List.getElem?_eq_getElem hlt] at h
    refine S_ret (E_bin (E_bi (Z.ok.bf "abs" (by decide)) ?_))
    refine A_cons ?_
    with_reducible refine E_sub ?_
    refine E_name rfl ?_
    refine E_name rfl ?_
    refine Item_list (k := (spot : Int)) (u := vI ns[spot]) hl.ent (by omega) (by omega) (by rw [Int.toNat_natCast, List.getElem?_map, List.getElem?_eq_getElem hlt]; rfl) (A_nil (Call_abs ?_))
    refine E_name rfl ?_
    refine Bin_modI (by omega) (ret_ok ?_)
    have e : (if ns[spot] < 0 then -ns[spot] else ns[spot]) = ((ns[spot].natAbs : Nat) : Int) := by split <;> omega
    rw [e]
    have e' : Int.fmod ((ns[spot].natAbs : Nat) : Int) (ways : Int) = ((ns[spot].natAbs % ways : Nat) : Int) := by
      rw [Int.fmod_eq_emod_of_nonneg _ (by omega)]; rfl
    rw [e']
    exact h
  · have hge : ns.length ≤ spot := by have := of_decide_eq_false c; omega
    rw [List.getElem?_eq_none hge] at h
    exact S_ret (E_int (ret_ok h))
end
theorem ok_part {h₀ h h' : Heap} {b b' : Kn} {o₁ o₂ o' : List Ch} (ok : Ok h₀ b (o₁ ++ o₂) h) (ok' : Ok h₀ b' o' h') (f : Frm h b o₁ h' b' o') : Ok h₀ b' (o' ++ o₂) h' ∧ Frm h b (o₁ ++ o₂) h' b' (o' ++ o₂) := by
  have nd := ok.nodup
  rw [List.map_append] at nd
  obtain ⟨nd1, nd2, ap⟩ := List.nodup_append.mp nd
  have m1 : ∀ x ∈ o₁, x ∈ o₁ ++ o₂ := fun x hx => List.mem_append_left _ hx
  have m2 : ∀ x ∈ o₂, x ∈ o₁ ++ o₂ := fun x hx => List.mem_append_right _ hx
  have n2 : ∀ x ∈ o₂, x.addr ∉ o₁.map Ch.addr := fun x hx q => ap _ q _ (List.mem_map_of_mem hx) rfl
  have old2 : ∀ x ∈ o₂, h.get? x.addr ≠ none := fun x hx q => by
    obtain ⟨o, ho⟩ := x.live _ (ok.mine x (m2 x hx)); rw [ho] at q; cases q
  refine ⟨⟨ok'.base, ok'.kn, fun x hx => ?_, ?_, fun x hx => ?_⟩, ⟨fun a o n e => f.keep a o (fun q => n ?_) e, f.kn, fun a o e => ?_, fun x hx => ?_⟩⟩
  · rcases List.mem_append.mp hx with q | q
    · exact ok'.mine x q
    · obtain ⟨o, ho⟩ := x.live _ (ok.mine x (m2 x q))
      exact x.same _ _ (by rw [f.keep _ _ (n2 x q) ho, ho]) (ok.mine x (m2 x q))
  · rw [List.map_append]
    refine List.nodup_append.mpr ⟨ok'.nodup, nd2, fun a ha c hc e => ?_⟩
    subst e
    obtain ⟨x, hx, rfl⟩ := List.mem_map.mp hc
    obtain ⟨y, hy, e⟩ := List.mem_map.mp ha
    rcases f.U y hy with u | u
    · rw [e] at u; exact n2 x hx u
    · rw [e] at u; exact old2 x hx u
  · rcases List.mem_append.mp hx with q | q
    · exact ok'.disj x q
    · cases hb : b' x.addr with
      | none => rfl
      | some o =>
        exfalso
        rcases f.new _ _ hb with u | u | u
        · rw [ok.disj x (m2 x q)] at u; cases u
        · exact old2 x q u
        · exact n2 x q u
  · rw [List.map_append]; exact List.mem_append_left _ q
  · rcases f.new a o e with u | u | u
    · exact .inl u
    · exact .inr (.inl u)
    · exact .inr (.inr (by rw [List.map_append]; exact List.mem_append_left _ u))
  · rcases List.mem_append.mp hx with q | q
    · rcases f.U x q with u | u
      · exact .inl (by rw [List.map_append]; exact List.mem_append_left _ u)
      · exact .inr u
    · exact .inl (List.mem_map_of_mem (m2 x q))
section
variable {Z : Zc} {b : Kn} {own : List Ch}
theorem enterX {A : Around} {n j : Nat} {us : List Value} (names : List Str) (rm : Rm A (n + 1)) {dV : Value} (hj : FnAt Z.h₀ (Z.F j) j dV)
    (hbind : ∀ vs : List Value, vs.length = us.length → ∀ kV doc pm an cdv ct s, (∀ c o, Z.h₀.get? c = some o → s.heap.get? c = some o) → BindsTo s (fnOf (dName (stmtAt j)) (qName j) (dParams (stmtAt j)) (dBody (stmtAt j)) (dScope (stmtAt j)) dV kV doc pm an cdv ct) ⟨vs, []⟩ (names.zip vs))
    (hloc : (names.all fun y => decide ((dScope (stmtAt j)).names.lookup y = some .local)) = true) (hcell : ((dScope (stmtAt j)).names.all fun z => decide (z.2 ≠ .cell)) = true)
    {s : Shared} {R : Result → Shared → Prop} (ok : Ok Z.h₀ b own s.heap) (vs : List Value) (hvs : vs.map er = us)
    (h : ∀ (y : Act Z j) h₁ tk, y.n = n → y.A = A.deeper y.env → y.fr = some y.L → y.G = GT Z.h₀ → s.heap.get? y.L = none → (∀ a o, s.heap.get? a = some o → h₁.get? a = some o) → Ok Z.h₀ b (Ch.loc y.L (names.zip us).reverse :: own) h₁ →
      wpAny (model pw Z.w) y.A (execs (dBody (stmtAt j)) y.env) (fun fl s' => R (.ok (.ret (match fl with | .ret v => v | _ => .none))) s')
        (fun e s' => wpAny (model pw Z.w) y.A (leaving y.env e) (fun _ s'' => R (.error e) s'') (fun e' s'' => R (.error e') s'') s') { s with heap := h₁, toks := tk })
    (hco : (dScope (stmtAt j)).isCoroutine = false := by rfl) (hgen : (dScope (stmtAt j)).isGenerator = false := by rfl) (hk : (dScope (stmtAt j)).kind = .function := by rfl) : codeAny (model pw Z.w) A (.call (.ref (Z.F j)) ⟨vs, []⟩) R s := by
  obtain ⟨oc, od, osl, kV, doc, pm, an, cdv, ct, ho, hcd⟩ := hj
  refine codeAny_call_def (fd := fnOf (dName (stmtAt j)) (qName j) (dParams (stmtAt j)) (dBody (stmtAt j)) (dScope (stmtAt j)) dV kV doc pm an cdv ct) (body := dBody (stmtAt j)) (binds := names.zip vs) rm.lim (ok.stays _ _ ho) rfl (Z.ok.lim.keeps ok.stays) (hcd.keeps ok.stays) rfl (hbind _ (map_len hvs) _ _ _ _ _ _ _ ok.stays)
    (fun z hz => of_decide_eq_true (List.all_eq_true.mp hcell z hz)) (fun y hy => of_decide_eq_true (List.all_eq_true.mp hloc _ (List.of_mem_zip hy).1)) (fun h₁ hns hk₁ => ?_) hco hgen hk
  have none_ := fresh_size s.heap
  have ok₁ : Ok Z.h₀ b (Ch.loc s.heap.objs.size (names.zip us).reverse :: own) h₁ := by
    obtain ⟨q, _⟩ := ok_keep ok hk₁
    refine ⟨q.base, q.kn, fun x hx => ?_, List.nodup_cons.mpr ⟨fun z => ?_, q.nodup⟩, fun x hx => ?_⟩
    · rcases List.mem_cons.mp hx with rfl | m
      · refine of_ns hns fun y u hu => ?_
        rw [← hvs, zip_er, ← List.map_reverse, lookup_er] at hu
        exact Option.map_eq_some_iff.mp hu
      · exact q.mine x m
    · obtain ⟨x, hx, e⟩ := List.mem_map.mp z
      obtain ⟨ob, hob⟩ := x.live _ (ok.mine x hx)
      rw [e, Ch.of_addr, none_] at hob; cases hob
    · rcases List.mem_cons.mp hx with rfl | m
      · refine Option.eq_none_iff_forall_not_mem.mpr fun ob e => ?_
        have := ok.kn _ _ e; rw [Ch.of_addr, none_] at this; cases this
      · exact q.disj x m
  let y : Act Z j := { A := A.deeper (envOf (qName j) (dScope (stmtAt j)) s.heap.objs.size (Z.F j) cdv), n := n, rm := rm.deeper, L := s.heap.objs.size, cd := cdv, cl := [], fu := some (Z.F j), fr := some s.heap.objs.size, G := GT Z.h₀, thru := fun _ _ _ _ _ => .inl trivial }
  exact h y h₁ _ rfl rfl rfl rfl none_ hk₁ ok₁
end
structure FrameAt (h : Heap) (env : Env) (L : Addr) : Prop where
  fr : env.frame = some L
  kd : env.scope.kind = .function
  ob : ∃ o es n, h.get? L = some o ∧ o.data = .dict es n
theorem funFrames_of {h base : Heap} : ∀ {l : List (Env × Addr)}, (∀ p ∈ l, FrameAt h p.1 p.2 ∧ base.get? p.2 = none) → h.FunFrames base (l.map (·.1))
  | [], _ => trivial
  | p :: l, q => by
    obtain ⟨f, hn⟩ := q p (.head _)
    obtain ⟨o, es, n, ho, hd⟩ := f.ob
    exact ⟨by rw [f.kd]; exact nofun, ⟨p.2, o, f.fr, hn, ho, fun vs e => by rw [hd] at e; cases e⟩, funFrames_of fun p' hp' => q p' (.tail _ hp')⟩
theorem limit_leaves {M : Model} {A : Around} {E : Value → Shared → Prop} {s : Shared} {h₁ h' : Heap} {C e : Addr} {p : Env × Addr} {l : List (Env × Addr)} {Q : Unit → Shared → Prop} (hA : A.frames = some ((p :: l).map (·.1))) (hf : ∀ q ∈ p :: l, FrameAt h₁ q.1 q.2) (hx : LimExc C h₁ h' e) (hs : s.heap = h')
    (hQ : ∀ h'' t, Heap.FlyingW (hideAll h₁ ((p :: l).map (·.2))) (l.map (·.1)) e (.ref C) (.ref t) h'' → h₁.UpToSlots h'' → Q () { s with heap := h'' }) : wpAny M A (leaving p.1 (.ref e)) Q E s := by
  subst hs
  obtain ⟨t, d, vs, he, ht⟩ := hx.there
  have hen : (hideAll h₁ ((p :: l).map (·.2))).get? e = none := by
    cases q : (hideAll h₁ ((p :: l).map (·.2))).get? e with
    | none => rfl
    | some o => have := of_hideAll _ q; rw [hx.new] at this; cases this
  have ff : s.heap.FunFrames (hideAll h₁ ((p :: l).map (·.2))) ((p :: l).map (·.1)) := funFrames_of fun q hq => by
    obtain ⟨o, es, n, ho, hd⟩ := (hf q hq).ob
    exact ⟨⟨(hf q hq).fr, (hf q hq).kd, o, es, n, hx.keeps _ _ ho, hd⟩, hideAll_none _ (List.mem_map_of_mem hq)⟩
  refine wpAny_leaving_firstW (a0 := .ref t) hA ff (hf p (.head _)).fr he (fun b o hb => hx.keeps b o (of_hideAll _ hb)) hen rfl rfl rfl fun h'' hL => ?_
  obtain ⟨k1, ⟨_, _, k2⟩, k3, k4⟩ := hL
  exact hQ h'' t ⟨k1, hen, k2, k3⟩ ((Heap.UpToSlots.of_keeps hx.keeps).trans k4)
section
variable {Z : Zc}
theorem exc_matches {A : Around} {E : Value → Shared → Prop} {s : Shared} {e : Addr} {Q : Bool → Shared → Prop} (hk : ∀ c o, Z.h₀.get? c = some o → s.heap.get? c = some o) (he : ∃ ob, s.heap.get? e = some ob ∧ ob.cls = .ref Z.C) (hq : Q true s) :
    wpAny (model pw Z.w) A (excMatches (.ref e) (.ref Z.C)) Q E s := by
  obtain ⟨nm, q, N, bs, Y, sn, sub, ab, col, dd, k0, k1, k2, k3, k5, mN, hC, hN, hi, T⟩ := Z.ok.exC.obj
  obtain ⟨ob, hob, hc⟩ := he
  obtain ⟨hh, g, d, tk, os⟩ := s
  exact wpAny_excMatches_sub_self (hk _ _ hC) hob hc (T.hasType PySem.F.excBase_Exception.hasBase) hq
theorem limit_caught {A : Around} {E : Value → Shared → Prop} {s : Shared} {base : Heap} {e t : Addr} {env : Env} {L : Addr} {l : List Env} {b₀ : Stmt} {suite : List Stmt} {np pos : Pos} {rest : List ExceptHandler} {Q : Flow → Shared → Prop} (hA : A.frames = some (env :: l)) (hf : env.frame = some L)
    (hfl : Heap.FlyingW base (env :: l) e (.ref Z.C) (.ref t) s.heap) (h0 : ∀ c o, Z.h₀.get? c = some o → base.get? c = some o) (hk : env.scope.kind = .function) (hg : env.globals = mainGlobals) (hx : env.kindOf (Str.ofString "LimitReached") = some .globalImplicit)
    (hE : PassesOwnAt (model pw Z.w) (A.mark (some (.ref e))) A env E)
    (k : ∀ h', Heap.FlyingW base (env :: l) e (.ref Z.C) (.ref t) h' → s.heap.UpToSlots h' → wpAny (model pw Z.w) (A.mark (some (.ref e))) (execs (b₀ :: suite) env) Q E { s with heap := h' }) :
    wpAny (model pw Z.w) A (noteFrame (.ref e) env) (fun _ s₂ => wpAny (model pw Z.w) A (setFlight (.ref e) none) (fun _ s₃ =>
        wpAny (model pw Z.w) A (handleBy (.ref e) env (.ExceptHandler (some (.Name (Str.ofString "LimitReached") np)) none (b₀ :: suite) pos :: rest)) Q E s₃) E s₂) E s := by
  refine wpAny_looks_onW hA hf hfl fun h₄ hheld₄ hsm₄ => ?_
  refine wpAny_landsW hheld₄ fun h₅ hheld hsm₅ => ?_
  have hk₅ : ∀ c o, Z.h₀.get? c = some o → h₅.get? c = some o := fun c o q => hheld.1 _ _ (h0 c o q)
  obtain ⟨mg, n', hm⟩ := Z.ok.gC
  refine wpAny_handleBy_cons (codeAny_handlers_test (wpAny_passesOwnAt hE (Name_function_global hk hx (loadGlobal_global (mg := mg) (by rw [hg]; exact n'.keeps hk₅) hm ?_) (by rfl)))) (by intro q; cases q)
  refine exc_matches hk₅ hheld.there ?_
  refine codeAny_handlers_suite (lands_againW hheld fun h₆ hfl₆ hsm₆ => wpAny_passesOwnAt hE ?_)
  exact k h₆ hfl₆ (hsm₄.trans (hsm₅.trans hsm₆))
end
theorem frameAt_of {Z : Zc} {i : Nat} {x : Act Z i} {h : Heap} {l : List (Str × Value)} (hf : x.fr = some x.L) (hk : (dScope (stmtAt i)).kind = .function) (hc : (Ch.loc x.L l).ok h) : FrameAt h x.env x.L := by
  obtain ⟨o, ho, es, ep, m, hd, _⟩ := hc
  exact ⟨hf, hk, o, es, ep, ho, hd⟩
section
variable {Z : Zc} {i : Nat} {x : Act Z i} {b : Kn} {r : List Ch} {P : Value → Kn → List Ch → Prop}
theorem told_ok {D fu most : Nat} {g lk : Addr} {st : Str} {ord : List Str} {tbl : Tbl} {emp : List Str} {fs : Fst} {row : List Str} {res : Res} {l : List (Str × Value)} (hfr : x.A.frames = some [x.env]) (hxf : x.fr = some x.L) (hxk : (dScope (stmtAt i)).kind = .function) (hn : D + 30 ≤ x.n)
    (hg : Gr Z b [] g st ord tbl emp fs) (hD : tbl.Le D) (hk : At b lk (LstO (row.map vS))) (hrow : row.length ≤ 100000) (hF : fu ≤ 10000) (hD1 : 1 ≤ D) (hclo : ∃ ac, Glo Z.h₀ (Str.ofString "CLOSE") (.ref ac) ∧ At b ac (TupO [vS (Str.ofString "close"), vS (Str.ofString "")]))
    (hf : recR tbl emp fs row most fu ⟨[some (.name st)], [(Str.ofString "", [])], 0, 0⟩ = some res) (h : ∀ v b', b.le b' → (match res with | .limit => v = .none | res => ResIn Z b' v res) → P v b' (Ch.loc x.L l :: r)) :
    Call x (.ref (Z.F 29)) [.ref g, .ref lk, vI (most : Int)] b (Ch.loc x.L l :: r) P := by
  intro vs hvs s Q E ok gx k
  obtain ⟨n, hn'⟩ : ∃ n, x.n = n + 1 := ⟨x.n - 1, by omega⟩
  have rm := x.rm
  rw [hn'] at rm
  refine wpAny_call (enterX (j := 29) [Str.ofString "made", Str.ofString "row", Str.ofString "most"] rm (Z.ok.fn 29 (by decide)) (fun vs hv _ _ _ _ _ _ _ _ => by obtain ⟨a, c, d, rfl⟩ := three_of hv; exact .of_eq rfl) rfl rfl ok vs hvs (fun y h₁ tk hyn hyA hyf hyG hyL hk₁ ok₁ => ?_))
  refine wpAny_execs_cons (wpAny_Try_except ?_)
  generalize hE₀ : (fun (e : Value) (s₁ : Shared) => wpAny (model pw Z.w) y.A (noteFrame e y.env) _ _ s₁) = E₀
  let own₁ : List Ch := Ch.loc y.L [(Str.ofString "most", vI (most : Int)), (Str.ofString "row", .ref lk), (Str.ofString "made", .ref g)] :: Ch.loc x.L l :: r
  let G₂ : Guard Z.h₀ := ⟨fun s' b' o' E' => E' = E₀ ∧ (∃ hp tk, s' = { s with heap := hp, toks := tk }) ∧ Frm h₁ b own₁ s'.heap b' o', fun s' b' o' E' h' b'' o'' tk p _ _ f => ⟨p.1, by obtain ⟨hp, tk', p2⟩ := p.2.1; exact ⟨h', tk, by rw [p2]⟩, p.2.2.trans f⟩⟩
  let y₂ : Act Z 29 := { y with G := G₂, thru := fun s b own E' p => .inr (by rw [p.1, ← hE₀]; exact PassesOwn.looking) }
  obtain ⟨dt, dob, dit, dn, hdt, hds, fn22⟩ := Z.ok.fn22
  have body : S y₂ (match dBody (stmtAt 29) with | .Try b .. :: _ => b | _ => []) b (Ch.loc y.L [(Str.ofString "most", vI (most : Int)), (Str.ofString "row", .ref lk), (Str.ofString "made", .ref g)] :: Ch.loc x.L l :: r) (fun f b' o' => ∃ u q, f = .ret u ∧ o' = q :: Ch.loc x.L l :: r ∧ P u b' (Ch.loc x.L l :: r)) := by
    refine S_ret (E_call (E_global Z.ok.g22 ⟨_, rfl, fun _ q => er_ref q, callee_fn fn22, ?_⟩))
    refine A_cons ?_
    refine E_name rfl ?_
    refine A_cons ?_
    refine E_name rfl ?_
    refine A_cons ?_
    refine E_name rfl ?_
    with_reducible refine A_nil ?_
    intro vs₂ hvs₂ s₂ Q₂ E₂ ok₂ g₂ k₂
    obtain ⟨g₂, ⟨hp₂, tkk, rfl⟩, fr₂⟩ := (g₂ : E₂ = E₀ ∧ (∃ hp tk, s₂ = { s with heap := hp, toks := tk }) ∧ Frm h₁ b own₁ s₂.heap b own₁)
    subst g₂
    obtain ⟨n₂, hn₂⟩ : ∃ n', y₂.n = n' + 1 := ⟨y.n - 1, by show y.n = _; omega⟩
    have rm₂ := y₂.rm
    rw [hn₂] at rm₂
    refine wpAny_call (enterX (j := 22) [Str.ofString "grammar", Str.ofString "kinds", Str.ofString "most"] rm₂ fn22 (fun vs hv _ _ _ _ _ _ s' hk' => by obtain ⟨a, c, d, rfl⟩ := three_of hv; exact .of_defaults rfl (hk' _ _ hdt) hds rfl rfl) rfl rfl ok₂ vs₂ hvs₂ (fun z h₂ tk₂ hzn hzA hzf hzG hzL hk₂ ok₂' => ?_))
    let z₂ : Act Z 22 := { z with G := GL Z z.A z.env (res = .limit), thru := fun s b own E' p => .inr p.1 }
    have hyA2 : y.A.frames = some [y.env, x.env] := by rw [hyA]; exact Around.frames_deeper hfr
    have hzA2 : z.A.frames = some [z.env, y.env, x.env] := by rw [hzA]; exact Around.frames_deeper hyA2
    have nd := ok₂'.nodup
    have okz : Ok Z.h₀ b [Ch.loc z.L [(Str.ofString "most", vI (most : Int)), (Str.ofString "kinds", .ref lk), (Str.ofString "grammar", .ref g)]] h₂ := ok₂'.sub (.cons_cons _ (List.nil_sublist _))
    refine (recognise_body (y := z₂) (P := fun v b' o' => o' = [] ∧ b.le b' ∧ ResIn Z b' v res) rfl hzf (by show D + 20 ≤ z.n; rw [hzn]; have : n₂ + 1 = y.n := hn₂.symm; omega) hg hD hk hrow hF hD1 hclo hf fun v b' hb hv => ⟨rfl, hb, hv⟩).go okz ⟨PassesOwn.leaving, fun hlim b₁ own₁ h₁' L l' okq fq hL hm h' e tk hx => ?_⟩ fun fl fl' b' o' h' tk hfl p ok' _ f' => ?_
    · obtain rfl : z.L = L := by have := hzf.symm.trans hL; exact Option.some.inj this
      have ndz : ∀ c ∈ Ch.loc y.L [(Str.ofString "most", vI (most : Int)), (Str.ofString "row", .ref lk), (Str.ofString "made", .ref g)] :: Ch.loc x.L l :: r, c.addr ≠ z.L := fun c hc q => (List.nodup_cons.mp nd).1 (by rw [Ch.of_addr, ← q]; exact List.mem_map_of_mem hc)
      have kept : ∀ c ∈ Ch.loc y.L [(Str.ofString "most", vI (most : Int)), (Str.ofString "row", .ref lk), (Str.ofString "made", .ref g)] :: Ch.loc x.L l :: r, c.ok h₁' := fun c hc => by
        obtain ⟨o, ho⟩ := c.live _ (ok₂'.mine c (.tail _ hc))
        exact c.same _ _ (by rw [fq.keep _ _ (fun q => ndz c hc (by simpa using q)) ho, ho]) (ok₂'.mine c (.tail _ hc))
      refine limit_leaves (p := (z.env, z.L)) (l := [(y.env, y.L), (x.env, x.L)]) hzA2 (fun q hq => ?_) hx rfl (fun h'' t hfl hsm => ?_)
      · simp only [List.mem_cons, List.not_mem_nil, or_false] at hq
        rcases hq with rfl | rfl | rfl
        · exact frameAt_of hzf rfl (okq.mine _ hm)
        · exact frameAt_of hyf rfl (kept _ (.head _))
        · exact frameAt_of hxf hxk (kept _ (.tail _ (.head _)))
      · have inb : ∀ c o, b c = some o → (hideAll h₁' (((z.env, z.L) :: [(y.env, y.L), (x.env, x.L)]).map (·.2))).get? c = some o := fun c o q => hideAll_get _ (okq.kn _ _ (fq.kn _ _ q)) fun hm' => by
          simp only [List.map_cons, List.map_nil, List.mem_cons, List.not_mem_nil, or_false] at hm'
          rcases hm' with rfl | rfl | rfl
          · have := ok₂'.disj _ (.head _); rw [Ch.of_addr, q] at this; cases this
          · have := ok₂'.disj _ (.tail _ (.head _)); rw [Ch.of_addr, q] at this; cases this
          · have := ok₂'.disj _ (.tail _ (.tail _ (.head _))); rw [Ch.of_addr, q] at this; cases this
        show E₂ (.ref e) _
        rw [← hE₀]
        refine limit_caught (A := y.A) (env := y.env) (L := y.L) (l := [x.env]) hyA2 hyf hfl (fun c o q => inb _ _ (ok₂'.base _ _ q)) rfl rfl rfl PassesOwnAt.leaving (fun h₆ hfl₆ hsm₆ => ?_)
        refine wpAny_execs_cons (wpAny_Return_some (fun _ _ _ => ?_))
        have nd' := List.nodup_cons.mp (List.nodup_cons.mp nd).2
        have inr' : ∀ a o, a ≠ z.L → a ≠ y.L → a ≠ x.L → h₁'.get? a = some o → h₆.get? a = some o := fun a o n1 n2 n3 q => hfl₆.1 _ _ (hideAll_get _ q fun hm' => by
          simp only [List.map_cons, List.map_nil, List.mem_cons, List.not_mem_nil, or_false] at hm'
          rcases hm' with q | q | q
          · exact n1 q
          · exact n2 q
          · exact n3 q)
        refine k .none .none b (Ch.loc x.L l :: r) h₆ _ rfl (h .none b .rfl (by rw [hlim])) ⟨ok.base, fun a ob q => hfl₆.1 _ _ (inb _ _ q), fun c hc => ?_, ok.nodup, ok.disj⟩ ⟨fun a ob hn q => ?_, .rfl, fun _ _ q => .inl q, fun c hc => .inl (List.mem_map_of_mem hc)⟩
        · rcases List.mem_cons.mp hc with rfl | hc
          · obtain ⟨o, ho, es, ep, m, hd, rest⟩ := kept _ (.tail _ (.head _))
            obtain ⟨sl, hs⟩ := (hsm.trans hsm₆) _ _ ho fun vs q => by rw [hd] at q; cases q
            exact ⟨_, hs, es, ep, m, hd, rest⟩
          · have kc := kept c (.tail _ (.tail _ hc))
            obtain ⟨o, ho⟩ := c.live _ kc
            refine c.same _ _ ?_ kc
            rw [ho]
            exact inr' _ _ (ndz c (.tail _ (.tail _ hc))) (fun q => nd'.1 (by rw [Ch.of_addr, ← q]; exact List.mem_map_of_mem (List.mem_cons_of_mem _ hc))) (fun q => (List.nodup_cons.mp nd'.2).1 (by rw [Ch.of_addr, ← q]; exact List.mem_map_of_mem hc)) ho
        · have n2 : a ≠ y.L := fun e => by rw [e, hyL] at q; cases q
          have n3 : a ≠ x.L := fun e => hn (by rw [e]; exact .head _)
          have q₁ := fr₂.keep _ _ (fun hm' => (List.mem_cons.mp hm').elim n2 hn) (hk₁ _ _ q)
          have n1 : a ≠ z.L := fun e => by rw [e, hzL] at q₁; cases q₁
          exact inr' _ _ n1 n2 n3 (fq.keep _ _ (fun q => n1 (by simpa using q)) (hk₂ _ _ q₁))
    · obtain ⟨q, r', rfl, rfl, hb, hv⟩ := p
      obtain ⟨okf, ff⟩ := ok_part (o₂ := own₁) ok₂' ok' f'
      refine k₂ _ (retv fl') b' own₁ h' tk (by cases hfl; cases fl <;> rfl) ⟨_, _, rfl, rfl, h _ _ hb (by cases res with | limit => (obtain ⟨_, _, _, _, _, _, _, _, hf⟩ := hv; exact hf.elim) | ok => exact hv | bad => exact hv)⟩ (tl_ok okf) (frm_enter hk₂ hzL ff)
  refine body.go ok₁ ⟨rfl, ⟨h₁, tk, rfl⟩, Frm.rfl⟩ fun f f' b' o' h' tk' hf p ok' _ fr => ?_
  obtain ⟨u, q, rfl, rfl, p⟩ := p
  cases f with
  | ret v => exact k v u b' _ h' tk' (by cases hf; rfl) p (tl_ok ok') (frm_enter hk₁ hyL fr)
  | _ => cases hf
end
theorem inplace_lists {A : Around} {w : World} {E : Value → Shared → Prop} {s : Shared} {l m : Addr} {a1 a2 : Array Value} {n1 n2 : Nat} {Q : Value → Shared → Prop} (hl : IsL s.heap l a1 n1) (hm : IsL s.heap m a2 n2) (hz : a1.size + a2.size ≤ 1000000)
    (h : Q (.ref l) { s with heap := s.heap.update l (Obj.mapSeq fun x => x ++ a2) }) : wpAny (model pw w) A (inplaceOp .Add (.ref l) (.ref m)) Q E s := by
  have sl : sizeLine = 2 ^ 24 := rfl
  have ha : s.TypeIs (.ref l) "list" := ⟨_, hl, rfl⟩
  have hb : s.TypeIs (.ref m) "list" := ⟨_, hm, rfl⟩
  have hlk := F.slot_list_iadd.lookup
  have hfi : fillsInplaceSlot (.type "list") "add" (Operator.Add == .Add) = Pure.pure false := by
    unfold fillsInplaceSlot
    show (typeLookup (.type "list") (dunderI "add") >>= fun fi => Pure.pure (fi.isSome && !isSeqSlot fi)) = Pure.pure false
    rw [hlk]; rfl
  unfold inplaceOp
  refine wpAny_holding ?_
  refine wpAny_bind (wpAny_typeOf ha (wpAny_bind (wpAny_of_eq hfi ?_)))
  show wpAny _ A (if false = true then _ else _) Q E s
  rw [if_neg Bool.false_ne_true]
  refine wpAny_bind (wpAny_binaryOp1_none (nm := "add") ha hb noFill_list_add ?_)
  refine wpAny_bind (wpAny_of_eq (PySem.seqSlot_of hlk (by decide +kernel)) ?_)
  refine wpAny_bind (wpAny_rule ?_)
  refine call_meets F.slot_list_iadd ha F.entry_list_iadd (F.args_list_iadd_2 _ _) (AutoSeq1.list___iadd___list_list_0 l a1 n1 m a2 n2 ?_ (by omega) (by omega)) ⟨hl, hm, h⟩
  simp only [Builtin.List.listTooLong, Bool.and_eq_true, decide_eq_true_eq, not_and]
  intro _
  omega
section
variable {Z : Zc} {i : Nat} {x : Act Z i} {b : Kn} {own own' : List Ch} {P : Value → Kn → List Ch → Prop}
theorem Inp_addL {l m : Addr} {us vs : List Value} (hm : Ent Z.h₀ b own m (LstO vs)) (hp : Put (Ch.of l (LstO us)) (Ch.of l (LstO (us ++ vs))) own own') (hz : us.length + vs.length ≤ 1000000) (h : P (.ref l) b own') : Inp x .Add (.ref l) (.ref m) b own P := fun u' v' hu hv => by
  obtain rfl := er_ref hu
  obtain rfl := er_ref hv
  refine W.upd (R := RV) (v := Value.ref l) (u := Value.ref l) rfl hp (fun s Q E ok hd q => ?_) h
  obtain ⟨a1, n1, h1, e1⟩ := at_L hd
  obtain ⟨a2, n2, h2, e2⟩ := at_L (hm _ ok)
  have s1 := arr_len e1
  have s2 := arr_len e2
  refine inplace_lists h1 h2 (by omega) ?_
  refine q _ _ s.toks (Heap.SameBut.update ..) (PySem.IsL.update h1 (fun x => x ++ a2)) ⟨a1 ++ a2, _, rfl, by rw [Array.toList_append, List.map_append, e1, e2]⟩
theorem Bin_addL {y : Ch} {r : List Ch} {l m : Addr} {us vs : List Value} (hl : Ent Z.h₀ b (y :: r) l (LstO us)) (hm : Ent Z.h₀ b (y :: r) m (LstO vs)) (hz : us.length + vs.length ≤ 1000000) (h : ∀ a, P (.ref a) b (y :: Ch.of a (LstO (us ++ vs)) :: r)) : Bin x .Add (.ref l) (.ref m) b (y :: r) P := fun u' v' hu hv => by
  obtain rfl := er_ref hu
  obtain rfl := er_ref hv
  have sl : sizeLine = 2 ^ 24 := rfl
  refine W.alloc (v := .ref) (u := .ref) (φ := fun _ => LstO (us ++ vs)) (fun _ => rfl) (fun s Q E ok k => ?_) h
  obtain ⟨a1, n1, h1, e1⟩ := at_L (hl _ ok)
  obtain ⟨a2, n2, h2, e2⟩ := at_L (hm _ ok)
  have s1 := arr_len e1
  have s2 := arr_len e2
  refine concat_meets ⟨_, h1, rfl⟩ ⟨_, h2, rfl⟩ noFill_list_add seq_list_add F.slot_list_add F.entry_list_add (F.args_list_add_2 _ _) (AutoSeq1.list___add___list_list_0 l a1 n1 m a2 n2 (by omega)) ⟨h1, h2, ?_⟩
  exact k _ _ _ _ (fresh_size _) (fun c ob e => Heap.get?_push_of_some _ e) (Heap.get?_push_size _ rfl) ⟨a1 ++ a2, 0, rfl, by rw [Array.toList_append, List.map_append, e1, e2]⟩
theorem SetI_list {l : Addr} {us us' : List Value} {k : Nat} {u : Value} {P : Unit → Kn → List Ch → Prop} (hp : Put (Ch.of l (LstO us)) (Ch.of l (LstO us')) own own') (hk : k < us.length) (hz : us.length ≤ 1000000) (he : us' = us.set k u) (h : P () b own') : SetI x (.ref l) (vI (k : Int)) u b own P := fun o' k' u' ho hk' hu => by
  obtain rfl := er_ref ho
  obtain ⟨t, rfl⟩ := er_int hk'
  subst he
  refine W.upd rfl hp (fun s Q E ok hd q => ?_) h
  obtain ⟨a1, n1, h1, e1⟩ := at_L hd
  have s1 := arr_len e1
  refine ki_setAt h1 (by omega) (by omega) (by omega) (q _ _ s.toks (Heap.SameBut.update ..) (PySem.IsL.update h1 (fun x => x.setIfInBounds (k : Int).toNat u')) ⟨_, _, rfl, ?_⟩)
  rw [Int.toNat_natCast, Array.toList_setIfInBounds, List.map_set, e1, hu]
noncomputable def RngO (n : Nat) (o : Obj) : Prop := ∃ t u v, o = { cls := .type "range", data := .fields #[.int 0 t, .int (n : Int) u, .int 1 v] }
noncomputable def RngItO (n j : Nat) (o : Obj) : Prop := o = { cls := .type "range_iterator", dict := none, data := .fields #[rawInt (j : Int), rawInt ((n : Int) - (j : Int)), rawInt 1], slots := #[] }
theorem Call_range {n : Nat} (h : ∀ t b', b.le b' → At b' t (RngO n) → P (.ref t) b' own) : Call x (.type "range") [vI (n : Int)] b own P := fun vs hvs => by
  obtain ⟨v, rfl, hv⟩ := one_val hvs
  obtain ⟨t, rfl⟩ := er_int hv
  refine W.know (v := .ref) (u := .ref) (φ := fun _ => RngO n) (fun _ => rfl) (fun s Q E ok k => ?_) h
  exact call_range_1 (k _ _ _ _ (fresh_size _) (fun c ob q => Heap.get?_push_of_some _ q) (Heap.get?_push_size _ rfl) ⟨_, _, _, rfl⟩)
theorem Itr_range {y : Ch} {r : List Ch} {t : Addr} {n : Nat} (ht : Ent Z.h₀ b (y :: r) t (RngO n)) (hz : n ≤ 1000000) (h : ∀ I, P (.ref I) b (y :: Ch.of I (RngItO n 0) :: r)) : Itr x (.ref t) b (y :: r) P := fun u hu => by
  obtain rfl := er_ref hu
  refine W.alloc (v := .ref) (u := .ref) (φ := fun _ => RngItO n 0) (fun _ => rfl) (fun s Q E ok k => ?_) h
  obtain ⟨o, ho, t1, t2, t3, rfl⟩ := ht _ ok
  have e : Builtin.Range.rangeSize 0 (n : Int) 1 = (n : Int) := by rw [rangeSize_nat]; omega
  refine wpAny_pyIter_range ho (small_one (by omega) (by omega) (by omega) (by omega)) (k _ _ _ s.toks (fresh_size _) (fun c ob e => Heap.get?_push_of_some _ e) (Heap.get?_push_size _ rfl) (by unfold RngItO; rw [e]; simp))
theorem itk_range {target : Expr} {I : Addr} {n : Nat} (ht : ∀ it v, letOwnedTupleGo target it v = Pure.pure () := by intro _ _; rfl) :
    ItK x target I (RngItO n) n (fun j v => v = vI (j : Int)) (fun _ _ => True) where
  next := fun i b o s Q E hi hc ok k => by
    obtain ⟨oi, ho, h1⟩ := ok.mine _ (.head _)
    subst h1
    refine wpAny_pyNext_range_item (x := (i : Int)) (left := (n : Int) - i) (step := 1) ho (by omega) fun h' hit hs => ?_
    exact k _ h' _ rfl hs ⟨_, hit, by unfold RngItO; rw [show ((i + 1 : Nat) : Int) = (i : Int) + 1 by omega, show (n : Int) - ((i : Int) + 1) = (n : Int) - i - 1 by omega]⟩
  done := fun b o s Q E hc ok k => by
    obtain ⟨oi, ho, h1⟩ := ok.mine _ (.head _)
    subst h1
    exact wpAny_pyNext_range_end x.rm.1 (x := (n : Int)) (left := (n : Int) - n) (step := 1) ho (by omega) fun h' hs => k h' s.toks hs
  go := fun i v b o s Q E hv ok k => by rw [ht]; exact wpAny_pure k
theorem ForQ_range {target : Expr} {body rest : List Stmt} {P : Flow → Kn → List Ch → Prop} {I : Addr} {n : Nat} {y : Ch} {r : List Ch} (J : Nat → Kn → List Ch → Prop) (h0 : J 0 b (y :: r))
    (turn : ∀ j b' o', j < n → b.le b' → J j b' o' → Asg x.free target (vI (j : Int)) b' o' fun _ b₃ o₃ => S x.free body b₃ o₃ fun f b₄ o₄ => match f with
        | .next | .cont => J (j + 1) b₄ o₄
        | .brk => S x rest b₄ o₄ P
        | .ret u => P (.ret u) b₄ o₄)
    (fin : ∀ b' o', b.le b' → J n b' o' → S x rest b' o' P)
    (ht : ∀ it v, letOwnedTupleGo target it v = Pure.pure () := by intro _ _; rfl) : ForQ x target body rest P (.ref I) b (y :: Ch.of I (RngItO n 0) :: r) :=
  ⟨I, _, _, _, _, _, J, rfl, .right (.left (Split.none _)), itk_range ht, h0, fun _ _ _ _ _ => trivial, fun j u b' o' hj hu q p => by obtain rfl := hu; exact turn j b' o' hj q p, fin⟩
end
noncomputable def rN (k : Nat) : Str := Str.ofString "r" ++ Str.ofString (toString (k : Int))
noncomputable def lowP (d k : Nat) : Ex := if k + 1 < d then .name (rN (k + 1)) else .text (Str.ofString "x")
noncomputable def levelP (d k : Nat) : Str × Ex := (rN k, .alt [.seq [.text (Str.ofString "("), lowP d k, .text (Str.ofString ")")], lowP d k])
noncomputable def levelsP (d n : Nat) : Tbl := (List.range n).map (levelP d)
noncomputable def startP : Str := Str.ofString "start"
noncomputable def start0 : Str × Ex := (startP, .seq [.name (Str.ofString "r0"), .rep (.seq [.text (Str.ofString ","), .name (Str.ofString "r0")])])
noncomputable def start1 : Str × Ex := (startP, .seq [.name (Str.ofString "r0"), .name (Str.ofString "more")])
noncomputable def moreP : Str × Ex := (Str.ofString "more", .opt (.seq [.text (Str.ofString ","), .name startP]))
noncomputable def rulesP (d v : Nat) : Tbl := if v = 1 then start1 :: (levelsP d d ++ [moreP]) else start0 :: levelsP d d
noncomputable def rowStep (lap : Nat) : List Str := if lap % 7 = 3 then [Str.ofString ",", Str.ofString "(", Str.ofString "x", Str.ofString ")"] else [Str.ofString ",", Str.ofString "x"]
noncomputable def rowP : Nat → List Str
  | 0 => [Str.ofString "x"]
  | n + 1 => rowP n ++ rowStep n
noncomputable def enoughP (d c v : Nat) : Nat := 12 + 6 * d + 4 * c * v
noncomputable def extraP : Nat → Str
  | 0 => Str.ofString ")"
  | 1 => Str.ofString "x"
  | _ => Str.ofString ","
noncomputable def againP : Tbl := [(startP, .alt [.seq [.name startP, .text (Str.ofString "x")], .text (Str.ofString "x")])]
noncomputable def initP : Stt := ⟨[some (.name startP)], [(Str.ofString "", [])], 0, 0⟩
theorem rowP_len : ∀ n, (rowP n).length ≤ 1 + 4 * n
  | 0 => by simp [rowP]
  | n + 1 => by
    have := rowP_len n
    have h : (rowStep n).length ≤ 4 := by unfold rowStep; split <;> simp
    rw [rowP, List.length_append]; omega
structure LawF (d c v e : Nat) : Prop where
  one : ∃ emp fs, Ready 20 (rulesP d v) startP emp fs ∧
    (∃ fu t p, fu ≤ 10000 ∧ recR (rulesP d v) emp fs (rowP (c - 1)) (enoughP d c v) fu initP = some (.ok t p) ∧ leavesP t = rowP (c - 1) ∧ derT (rulesP d v) t = true ∧ t.isLeaf = false ∧ t.size ≤ 100000) ∧
    (∃ fu p, fu ≤ 10000 ∧ recR (rulesP d v) emp fs (rowP (c - 1) ++ [extraP e]) (enoughP d c v) fu initP = some (.bad p) ∧ p = (rowP (c - 1)).length + (if extraP e == Str.ofString "," then 1 else 0)) ∧
    (∃ fu, fu ≤ 10000 ∧ recR (rulesP d v) emp fs (rowP (c - 1)) 2 fu initP = some .limit)
  two : ∃ emp fs, Ready 20 againP startP emp fs ∧ ∃ fu, fu ≤ 10000 ∧ recR againP emp fs (rowP (c - 1)) (enoughP d c v) fu initP = some .limit
mutual
inductive ExSyn (Γ : List (Str × Ex)) : Expr → Ex → Prop
  | var {n p t} : Γ.lookup n = some t → ExSyn Γ (.Name n p) t
  | text {k1 p1 s k2 p2 k p} : ExSyn Γ (.Tuple [.Constant (.str (Str.ofString "text")) k1 p1, .Constant (.str s) k2 p2] k p) (.text s)
  | name {k1 p1 s k2 p2 k p} : ExSyn Γ (.Tuple [.Constant (.str (Str.ofString "name")) k1 p1, .Constant (.str s) k2 p2] k p) (.name s)
  | opt {k1 p1 e t k p} : ExSyn Γ e t → ExSyn Γ (.Tuple [.Constant (.str (Str.ofString "opt")) k1 p1, e] k p) (.opt t)
  | rep {k1 p1 e t k p} : ExSyn Γ e t → ExSyn Γ (.Tuple [.Constant (.str (Str.ofString "rep")) k1 p1, e] k p) (.rep t)
  | seq {k1 p1 es ts k2 p2 k p} : ExsSyn Γ es ts → ts.length ≤ 100 → ExSyn Γ (.Tuple [.Constant (.str (Str.ofString "seq")) k1 p1, .Tuple es k2 p2] k p) (.seq ts)
  | alt {k1 p1 es ts k2 p2 k p} : ExsSyn Γ es ts → ts.length ≤ 100 → ExSyn Γ (.Tuple [.Constant (.str (Str.ofString "alt")) k1 p1, .Tuple es k2 p2] k p) (.alt ts)
inductive ExsSyn (Γ : List (Str × Ex)) : List Expr → List Ex → Prop
  | nil : ExsSyn Γ [] []
  | cons {e t es ts} : ExSyn Γ e t → ExsSyn Γ es ts → ExsSyn Γ (e :: es) (t :: ts)
end
section
variable {Z : Zc} {i : Nat} {x : Act Z i} {l : List (Str × Value)} {r : List Ch}
noncomputable def GamIn (x : Act Z i) (Γ : List (Str × Ex)) (l : List (Str × Value)) (b : Kn) : Prop := ∀ n t, Γ.lookup n = some t → ∃ v, l.lookup n = some v ∧ ExIn b v t ∧ x.env.kindOf n = some .local ∧ (n == ("__debug__" : Str)) = false
theorem GamIn.mono {x : Act Z i} {Γ : List (Str × Ex)} {b b' : Kn} (h : GamIn x Γ l b) (hb : b.le b') : GamIn x Γ l b' := fun n t q => let ⟨v, h1, h2, h3⟩ := h n t q; ⟨v, h1, h2.mono hb, h3⟩
theorem exsyn_star {Γ : List (Str × Ex)} {e : Expr} {t : Ex} (h : ExSyn Γ e t) (es : List Expr) (env : Env) : starEach (e :: es) env = (false, eval e env) :: starEach es env := by cases h <;> rfl
mutual
theorem E_ex {Γ : List (Str × Ex)} (hk : (dScope (stmtAt i)).kind = .function) {e : Expr} {t : Ex} {b : Kn} {P : Value → Kn → List Ch → Prop} (q : ExSyn Γ e t) (hΓ : GamIn x Γ l b) (h : ∀ v b', b.le b' → ExIn b' v t → P v b' (Ch.loc x.L l :: r)) : E x e b (Ch.loc x.L l :: r) P := by
  cases q with
  | var hn =>
    obtain ⟨v, h1, h2, h3, h4⟩ := hΓ _ _ hn
    exact E_name h1 (h v b .rfl h2) hk h3 h4
  | text => exact E_tuple (A_cons (E_str (A_cons (E_str (A_nil ⟨by simp [sizeLine], fun t b' hb ht => h _ b' hb (.text ht)⟩)))))
  | name => exact E_tuple (A_cons (E_str (A_cons (E_str (A_nil ⟨by simp [sizeLine], fun t b' hb ht => h _ b' hb (.name ht)⟩)))))
  | opt q => exact E_tuple (A_cons (E_str (A_cons (E_ex hk q hΓ fun v b₁ hb₁ hv => A_nil ⟨by simp [sizeLine], fun t b' hb ht => h _ b' (hb₁.trans hb) (.opt ht (hv.mono hb))⟩) (exsyn_star q _ _))))
  | rep q => exact E_tuple (A_cons (E_str (A_cons (E_ex hk q hΓ fun v b₁ hb₁ hv => A_nil ⟨by simp [sizeLine], fun t b' hb ht => h _ b' (hb₁.trans hb) (.rep ht (hv.mono hb))⟩) (exsyn_star q _ _))))
  | seq q hz => exact E_tuple (A_cons (E_str (A_cons (E_tuple (E_exs hk q hΓ fun us b₁ hb₁ hus => ⟨by have := hus.length; have sl : sizeLine = 2 ^ 24 := rfl; omega, fun c b₂ hb₂ hc => A_nil ⟨by simp [sizeLine], fun t b' hb ht => h _ b' (hb₁.trans (hb₂.trans hb)) (.seq ht (hc.mono hb) (hus.mono (hb₂.trans hb)))⟩⟩)))))
  | alt q hz => exact E_tuple (A_cons (E_str (A_cons (E_tuple (E_exs hk q hΓ fun us b₁ hb₁ hus => ⟨by have := hus.length; have sl : sizeLine = 2 ^ 24 := rfl; omega, fun c b₂ hb₂ hc => A_nil ⟨by simp [sizeLine], fun t b' hb ht => h _ b' (hb₁.trans (hb₂.trans hb)) (.alt ht (hc.mono hb) (hus.mono (hb₂.trans hb)))⟩⟩)))))
theorem E_exs {Γ : List (Str × Ex)} (hk : (dScope (stmtAt i)).kind = .function) {es : List Expr} {ts : List Ex} {pos : Pos} {b : Kn} {P : List Value → Kn → List Ch → Prop} (q : ExsSyn Γ es ts) (hΓ : GamIn x Γ l b) (h : ∀ us b', b.le b' → ExsIn b' us ts → P us b' (Ch.loc x.L l :: r)) : Ags x pos es b (Ch.loc x.L l :: r) P := by
  cases q with
  | nil => exact A_nil (h [] b .rfl .nil)
  | cons q qs => exact A_cons (E_ex hk q hΓ fun v b₁ hb₁ hv => E_exs hk qs (hΓ.mono hb₁) fun us b₂ hb₂ hus => h _ b₂ (hb₁.trans hb₂) (.cons (hv.mono hb₂) hus)) (exsyn_star q _ _)
end
end
theorem rN_len {k : Nat} (h : k ≤ 5) : (Str.ofString "r").length + (Str.ofString (toString (k : Int))).length ≤ sizeLine :=
  (by decide +kernel : ∀ k : Nat, k < 6 → (Str.ofString "r").length + (Str.ofString (toString (k : Int))).length ≤ sizeLine) k (Nat.lt_succ_of_le h)
theorem log_small {k : Nat} (h : k ≤ 100) : ((k : Int)).natAbs.log2 < 1920 := by
  rw [Int.natAbs_natCast]; exact Nat.lt_of_le_of_lt (Nat.log2_le_self k) (by omega)
theorem RulesIn.snoc {b : Kn} {vs : List Value} {tbl : Tbl} {t : Addr} {n : Str} {ve : Value} {e : Ex} (h : RulesIn b vs tbl) (h1 : At b t (TupO [vS n, ve])) (h2 : ExIn b ve e) : RulesIn b (vs ++ [.ref t]) (tbl ++ [(n, e)]) := by
  induction h with
  | nil => exact .cons h1 h2 .nil
  | cons p q _ ih => exact .cons p q ih
theorem levelsP_succ (d n : Nat) : levelsP d (n + 1) = levelsP d n ++ [levelP d n] := by
  unfold levelsP; rw [List.range_succ, List.map_append]; rfl
theorem levelsP_len (d n : Nat) : (levelsP d n).length = n := by unfold levelsP; rw [List.length_map, List.length_range]
section
variable {Z : Zc} {i : Nat} {x : Act Z i} {l : List (Str × Value)} {r : List Ch}
theorem E.mono {e : Expr} {b : Kn} {own : List Ch} {P P' : Value → Kn → List Ch → Prop} (h : E x e b own P) (hP : ∀ v b' o', P v b' o' → P' v b' o') : E x e b own P' := W.mono h hP
theorem E_rule {Γ : List (Str × Ex)} {e : Expr} {t : Ex} {n : Str} {k1 k : Nat} {p1 p : Pos} {b : Kn} {P : Value → Kn → List Ch → Prop} (hk : (dScope (stmtAt i)).kind = .function) (q : ExSyn Γ e t) (hΓ : GamIn x Γ l b)
    (h : ∀ a ve b', b.le b' → At b' a (TupO [vS n, ve]) → ExIn b' ve t → P (.ref a) b' (Ch.loc x.L l :: r)) : E x (.Tuple [.Constant (.str n) k1 p1, e] k p) b (Ch.loc x.L l :: r) P :=
  E_tuple (A_cons (E_str (A_cons (E_ex hk q hΓ fun v b₁ hb₁ hv => A_nil ⟨by simp [sizeLine], fun t b' hb ht => h t v b' (hb₁.trans hb) ht (hv.mono hb)⟩) (exsyn_star q _ _))))
theorem GamIn.nil {b : Kn} : GamIn x [] l b := fun n t q => by cases q
end
section
variable {Z : Zc} {i : Nat} {x : Act Z i} {b : Kn} {own : List Ch} {l : List (Str × Value)} {r : List Ch}
theorem A_tup {es0 : List Expr} {k : Nat} {p pos : Pos} {es : List Expr} {P : List Value → Kn → List Ch → Prop} (h : E x (.Tuple es0 k p) b own fun v b₁ o₁ => Ags x pos es b₁ o₁ fun vs b₂ o₂ => P (v :: vs) b₂ o₂) : Ags x pos (.Tuple es0 k p :: es) b own P := A_cons h rfl
theorem A_str {n : Str} {k : Nat} {p pos : Pos} {es : List Expr} {P : List Value → Kn → List Ch → Prop} (h : Ags x pos es b own fun vs b₂ o₂ => P (vS n :: vs) b₂ o₂) : Ags x pos (.Constant (.str n) k p :: es) b own P := A_cons (E_str h) rfl
theorem A_ex {Γ : List (Str × Ex)} {e : Expr} {t : Ex} {pos : Pos} {es : List Expr} {P : List Value → Kn → List Ch → Prop} (hk : (dScope (stmtAt i)).kind = .function) (q : ExSyn Γ e t) (hΓ : GamIn x Γ l b)
    (h : ∀ v b', b.le b' → ExIn b' v t → Ags x pos es b' (Ch.loc x.L l :: r) fun vs b₂ o₂ => P (v :: vs) b₂ o₂) : Ags x pos (e :: es) b (Ch.loc x.L l :: r) P := A_cons (E_ex hk q hΓ h) (exsyn_star q _ _)
theorem A_bin {a c : Expr} {op : Operator} {p pos : Pos} {es : List Expr} {P : List Value → Kn → List Ch → Prop} (h : E x (.BinOp a op c p) b own fun v b₁ o₁ => Ags x pos es b₁ o₁ fun vs b₂ o₂ => P (v :: vs) b₂ o₂) : Ags x pos (.BinOp a op c p :: es) b own P := A_cons h rfl
end
section
variable {Z : Zc} {y : Act Z 30} {b : Kn}
theorem law_levels {d : Nat} {ls lr : Addr} {c : Value} {vs : List Value} {P : Flow → Kn → List Ch → Prop} (hn : 10 ≤ y.n) (hd : d ≤ 5) (hr : RulesIn b vs [start0])
    (fin : ∀ b' vs' l, b.le b' → RulesIn b' vs' (start0 :: levelsP d d) → l.lookup (Str.ofString "script") = some (.ref ls) → l.lookup (Str.ofString "deep") = some (vN d) → l.lookup (Str.ofString "count") = some c → l.lookup (Str.ofString "rules") = some (.ref lr) →
      S y ((dBody (stmtAt 30)).drop 4) b' [Ch.loc y.L l, Ch.of lr (LstO vs')] P) :
    S y ((dBody (stmtAt 30)).drop 3) b [Ch.loc y.L [(Str.ofString "rules", .ref lr), (Str.ofString "count", c), (Str.ofString "deep", vN d), (Str.ofString "script", .ref ls)], Ch.of lr (LstO vs)] P := by
  have sl : sizeLine = 2 ^ 24 := rfl
  refine S_for (E_ty (Z.ok.bt "range" (by decide)) (A_cons (E_name rfl (A_nil (Call_range fun tr b₁ hb₁ htr => Itr_range htr.ent (by omega) fun I => ?_)))))
  refine ForQ_range (fun j b' o' => b₁.le b' ∧ ∃ us, o' = [Ch.loc y.L [(Str.ofString "rules", .ref lr), (Str.ofString "count", c), (Str.ofString "deep", vN d), (Str.ofString "script", .ref ls)], Ch.of lr (LstO us)] ∧ RulesIn b' us (start0 :: levelsP d j)) ⟨.rfl, vs, rfl, hr.mono hb₁⟩ (fun j b' o' hj _ q => ?_) (fun b' o' _ q => ?_)
  · obtain ⟨hb, us, rfl, hus⟩ := q
    have hul := hus.len
    rw [List.length_cons, levelsP_len] at hul
    refine Asg_name (Sto_ok ?_)
    refine S_asg ?_
    refine (E.mono (P := fun v b₂ o₂ => b'.le b₂ ∧ ExIn b₂ v (lowP d j) ∧ o₂ = Ch.loc y.L [(Str.ofString "level", vN j), (Str.ofString "rules", .ref lr), (Str.ofString "count", c), (Str.ofString "deep", vN d), (Str.ofString "script", .ref ls)] :: [Ch.of lr (LstO us)]) ?_ fun vl b₂ o₂ q => ?_)
    · refine E_if ?_
      refine T_cmp ?_
      with_reducible refine E_bin ?_
      refine E_name rfl ?_
      with_reducible refine E_int ?_
      with_reducible refine Bin_addI ?_
      refine E_name rfl ?_
      with_reducible refine Cmp_ltI ?_
      with_reducible refine ⟨_, rfl, ?_⟩
      rw [show ((j : Int) + 1) = ((j + 1 : Nat) : Int) from rfl]
      refine if_b (fun q => ?_) (fun q => ?_)
      · have hlt : j + 1 < d := by have := of_decide_eq_true q; omega
        refine E_tuple ?_
        refine A_cons ?_
        with_reducible refine E_str ?_
        refine A_cons ?_
        with_reducible refine E_bin ?_
        with_reducible refine E_str ?_
        refine E_ty (Z.ok.bt "str" (by decide)) ?_
        refine A_cons ?_
        with_reducible refine E_bin ?_
        refine E_name rfl ?_
        with_reducible refine E_int ?_
        with_reducible refine Bin_addI ?_
        with_reducible refine A_nil ?_
        rw [show ((j : Int) + 1) = ((j + 1 : Nat) : Int) from rfl]
        refine Call_str (log_small (k := j + 1) (by omega)) ?_
        refine Bin_addS (rN_len (k := j + 1) (by omega)) ?_
        refine A_nil ?_
        refine ⟨by simp [sizeLine], fun t b₂ hb₂ ht => ⟨hb₂, ?_, rfl⟩⟩
        unfold lowP; rw [if_pos hlt]; exact .name ht
      · have hlt : ¬ j + 1 < d := by have := of_decide_eq_false q; omega
        refine E_tuple ?_
        refine A_cons ?_
        with_reducible refine E_str ?_
        refine A_cons ?_
        with_reducible refine E_str ?_
        with_reducible refine A_nil ?_
        refine ⟨by simp [sizeLine], fun t b₂ hb₂ ht => ⟨hb₂, ?_, rfl⟩⟩
        unfold lowP; rw [if_neg hlt]; exact .text ht
    · obtain ⟨hb₂, hvl, rfl⟩ := q
      refine Sto_ok ?_
      refine S_exp (E_lmeth "list.append" F.slot_list_append F.type_list_append (E_name rfl ⟨lr, us, rfl, Ent.own (.tail _ (.head _)), M_append ?_⟩))
      refine E_tuple ?_
      refine A_bin ?_
      with_reducible refine E_bin ?_
      with_reducible refine E_str ?_
      refine E_ty (Z.ok.bt "str" (by decide)) ?_
      refine A_cons ?_
      refine E_name rfl ?_
      with_reducible refine A_nil ?_
      refine Call_str (log_small (k := j) (by omega)) ?_
      refine Bin_addS (rN_len (k := j) (by omega)) ?_
      refine A_ex (Γ := [(Str.ofString "lower_rule", lowP d j)]) (t := .alt [.seq [.text (Str.ofString "("), lowP d j, .text (Str.ofString ")")], lowP d j]) ?k1 ?k2 ?k3 ?k4
      case k1 => rfl
      case k2 => exact .alt (.cons (.seq (.cons .text (.cons (.var rfl) (.cons .text .nil))) (by simp)) (.cons (.var rfl) .nil)) (by simp)
      case k3 =>
        intro n t q
        rw [List.lookup_cons] at q
        cases e : n == Str.ofString "lower_rule" with
        | false => rw [e] at q; cases q
        | true =>
          rw [e] at q; cases q
          rw [beq_iff_eq.mp e]
          exact ⟨vl, rfl, hvl, rfl, rfl⟩
      case k4 =>
        intro v b₃ hb₃ hv
        refine A_nil ⟨by simp [sizeLine], fun t b₄ hb₄ ht => ?_⟩
        refine ⟨_, _, .tail .head, by omega, fun _ => nofun, S_end ⟨hb.trans (hb₂.trans (hb₃.trans hb₄)), us ++ [.ref t], rfl, ?_⟩⟩
        rw [levelsP_succ]
        exact (hus.mono (hb₂.trans (hb₃.trans hb₄))).snoc ht (hv.mono hb₄)
  · obtain ⟨hb, us, rfl, hus⟩ := q
    exact fin b' us _ (hb₁.trans hb) hus rfl rfl rfl rfl
end
theorem small_r : (Str.ofString "r").length + 2 ≤ sizeLine := by decide
theorem partP_lt {ns : List Int} {spot ways : Nat} (h : 0 < ways) : partP ns spot ways < ways := by
  unfold partP; split
  · exact Nat.mod_lt _ h
  · exact h
section
variable {Z : Zc} {y : Act Z 30} {b : Kn}
theorem law_head {ls : Addr} {ns : List Int} {P : Flow → Kn → List Ch → Prop} (hn : 10 ≤ y.n) (hl : At b ls (LstO (ns.map vI))) (hz : ns.length ≤ 100000)
    (h : ∀ b' lr vs, b.le b' → RulesIn b' vs [start0] → S y ((dBody (stmtAt 30)).drop 3) b' [Ch.loc y.L [(Str.ofString "rules", .ref lr), (Str.ofString "count", vN (1 + partP ns 1 60)), (Str.ofString "deep", vN (1 + partP ns 0 5)), (Str.ofString "script", .ref ls)], Ch.of lr (LstO vs)] P) :
    S y (dBody (stmtAt 30)) b [Ch.loc y.L [(Str.ofString "script", .ref ls)]] P := by
  refine S_asg (E_bin (E_int (E_fn 28 ?_)))
  refine A_cons ?_
  refine E_name rfl ?_
  refine A_cons ?_
  with_reducible refine E_int ?_
  refine A_cons ?_
  with_reducible refine E_int ?_
  with_reducible refine A_nil ?_
  refine part_ok (spot := 0) (ways := 5) (by omega) hl hz (by decide) (Bin_addI ?_)
  rw [show (1 : Int) + ((partP ns 0 5 : Nat) : Int) = ((1 + partP ns 0 5 : Nat) : Int) by omega]
  refine Sto_ok ?_
  refine S_asg (E_bin (E_int (E_fn 28 ?_)))
  refine A_cons ?_
  refine E_name rfl ?_
  refine A_cons ?_
  with_reducible refine E_int ?_
  refine A_cons ?_
  with_reducible refine E_int ?_
  with_reducible refine A_nil ?_
  refine part_ok (spot := 1) (ways := 60) (by omega) hl hz (by decide) (Bin_addI ?_)
  rw [show (1 : Int) + ((partP ns 1 60 : Nat) : Int) = ((1 + partP ns 1 60 : Nat) : Int) by omega]
  refine Sto_ok ?_
  refine S_asg ?_
  refine E_list ?_
  refine A_tup ?_
  refine E_tuple ?_
  refine A_str ?_
  refine A_ex (Γ := []) (t := start0.2) ?k1 ?k2 ?k3 ?k4
  case k1 => rfl
  case k2 => exact .seq (.cons .name (.cons (.rep (.seq (.cons .text (.cons .name .nil)) (by decide))) .nil)) (by decide)
  case k3 => exact .nil
  case k4 =>
    intro v b₁ hb₁ hv
    refine A_nil ⟨by simp [sizeLine], fun a b' hb ha => A_nil ⟨by simp [sizeLine], _, _, rfl, fun lr => ?_⟩⟩
    refine Sto_ok ?_
    exact h b' lr [.ref a] (hb₁.trans hb) (.cons ha (hv.mono hb) .nil)
end
theorem ExIn.lvl {d : Nat} : (levelsP d d).length = d := levelsP_len d d
section
variable {Z : Zc} {y : Act Z 30} {b : Kn}
theorem law_more {d : Nat} {ls lr : Addr} {ns : List Int} {vs : List Value} {l : List (Str × Value)} {P : Flow → Kn → List Ch → Prop} (hn : 10 ≤ y.n) (hd : d ≤ 5) (hl : At b ls (LstO (ns.map vI))) (hz : ns.length ≤ 100000)
    (h1 : l.lookup (Str.ofString "script") = some (.ref ls)) (h4 : l.lookup (Str.ofString "rules") = some (.ref lr)) (hr : RulesIn b vs (start0 :: levelsP d d))
    (fin : ∀ b' vs', b.le b' → RulesIn b' vs' (rulesP d (partP ns 2 2)) → S y ((dBody (stmtAt 30)).drop 5) b' [Ch.loc y.L l, Ch.of lr (LstO vs')] P) :
    S y ((dBody (stmtAt 30)).drop 4) b [Ch.loc y.L l, Ch.of lr (LstO vs)] P := by
  have sl : sizeLine = 2 ^ 24 := rfl
  have hlen := hr.len
  rw [List.length_cons, levelsP_len] at hlen
  have hp := partP_lt (ns := ns) (spot := 2) (ways := 2) (by decide)
  refine S_if1 (T_cmp (E_fn 28 ?_))
  refine A_cons (E_name h1 ?_)
  refine A_cons ?_
  with_reducible refine E_int ?_
  refine A_cons ?_
  with_reducible refine E_int ?_
  with_reducible refine A_nil ?_
  refine part_ok (spot := 2) (ways := 2) (by omega) hl hz (by decide) ?_
  with_reducible refine E_int ?_
  with_reducible refine Cmp_eqI ?_
  with_reducible refine ⟨_, rfl, ?_⟩
  refine if_b (fun q => ?_) (fun q => ?_)
  · have e1 : partP ns 2 2 = 1 := by have q := of_decide_eq_true q; omega
    rw [e1] at fin
    cases hr with
    | @cons t n ve e vs' tbl' ht hve hrest =>
    refine S_seti ?_
    refine E_tuple ?_
    refine A_str ?_
    refine A_ex (Γ := []) (t := start1.2) ?k1 ?k2 ?k3 ?k4
    case k1 => rfl
    case k2 => exact .seq (.cons .name (.cons .name .nil)) (by decide)
    case k3 => exact .nil
    case k4 =>
    intro v b₁ hb₁ hv
    refine A_nil ⟨by simp [sizeLine], fun a b₂ hb₂ ha => E_name h4 (E_int ?_)⟩
    refine SetI_list (k := 0) (us' := .ref a :: vs') (.tail .head) (by simp) (by rw [hlen]; omega) rfl ?_
    refine S_exp (E_lmeth "list.append" F.slot_list_append F.type_list_append (E_name h4 ⟨lr, _, rfl, Ent.own (.tail _ (.head _)), M_append ?_⟩))
    refine E_tuple ?_
    refine A_str ?_
    refine A_ex (Γ := []) (t := moreP.2) ?j1 ?j2 ?j3 ?j4
    case j1 => rfl
    case j2 => exact .opt (.seq (.cons .text (.cons .name .nil)) (by decide))
    case j3 => exact .nil
    case j4 =>
    intro w b₃ hb₃ hw
    refine A_nil ⟨by simp [sizeLine], fun c b₄ hb₄ hc => ⟨_, _, .tail .head, by simp only [List.length_cons] at hlen ⊢; omega, fun _ => nofun, S_nil ?_⟩⟩
    have hb := hb₁.trans (hb₂.trans (hb₃.trans hb₄))
    exact fin b₄ _ hb (RulesIn.snoc (.cons (ha.mono (hb₃.trans hb₄)) (hv.mono (hb₂.trans (hb₃.trans hb₄))) (hrest.mono hb)) hc (hw.mono hb₄))
  · have e1 : partP ns 2 2 = 0 := by have q := of_decide_eq_false q; omega
    rw [e1] at fin
    exact fin b vs .rfl hr
end
section
variable {Z : Zc} {y : Act Z 30} {b : Kn}
noncomputable abbrev lawL (g : Addr) (d c : Nat) (ls : Addr) : List (Str × Value) := [(Str.ofString "made", .ref g), (Str.ofString "count", vN c), (Str.ofString "deep", vN d), (Str.ofString "script", .ref ls)]
theorem law_made {d c : Nat} {ls lr : Addr} {tbl : Tbl} {emp : List Str} {fs : Fst} {vs : List Value} {l : List (Str × Value)} {P : Flow → Kn → List Ch → Prop} (hn : 40 ≤ y.n) (hr : RulesIn b vs tbl) (hR : Ready 20 tbl startP emp fs)
    (h1 : l.lookup (Str.ofString "script") = some (.ref ls)) (h2 : l.lookup (Str.ofString "deep") = some (vN d)) (h3 : l.lookup (Str.ofString "count") = some (vN c)) (h4 : l.lookup (Str.ofString "rules") = some (.ref lr))
    (fin : ∀ b' g, b.le b' → Gr Z b' [] g startP (ordOf tbl) tbl emp fs → S y ((dBody (stmtAt 30)).drop 6) b' [Ch.loc y.L (lawL g d c ls)] P) :
    S y ((dBody (stmtAt 30)).drop 5) b [Ch.loc y.L l, Ch.of lr (LstO vs)] P := by
  refine W.freeze (y := Ch.of lr (LstO vs)) (.right (.left .nil)) (fun h q => q) fun o b₁ hφ hb₁ hbo => ?_
  refine S_asg ?_
  refine E_cls Z.ok.gG Z.ok.cG ?_
  refine A_cons (E_name h4 ?_)
  refine A_str (A_nil ?_)
  refine Grammar_ok (D := 20) (by omega) ⟨o, hbo, hφ⟩ (hr.mono hb₁) hR fun g b₂ hb₂ hg => ?_
  refine Sto_ok ?_
  exact S_names (hl := .cons rfl (.cons h3 (.cons h2 (.cons h1 .nil)))) (fin b₂ g (hb₁.trans hb₂) hg)
theorem row_mod (j : Nat) : ((((j : Int)).fmod 7 == 3) = true) = (j % 7 = 3) := by
  rw [Int.fmod_eq_emod_of_nonneg _ (by omega), beq_iff_eq]
  exact propext ⟨fun h => by omega, fun h => by omega⟩
theorem law_rows {d c : Nat} {ls g : Addr} {P : Flow → Kn → List Ch → Prop} (hn : 40 ≤ y.n) (hc : 1 ≤ c) (hc' : c ≤ 60)
    (fin : ∀ b' lk, b.le b' → S y ((dBody (stmtAt 30)).drop 8) b' [Ch.loc y.L ((Str.ofString "row", .ref lk) :: lawL g d c ls), Ch.of lk (LstO ((rowP (c - 1)).map vS))] P) :
    S y ((dBody (stmtAt 30)).drop 6) b [Ch.loc y.L (lawL g d c ls)] P := by
  have sl : sizeLine = 2 ^ 24 := rfl
  refine S_asg ?_
  refine E_list ?_
  refine A_str (A_nil ⟨by simp [sizeLine], _, _, rfl, fun lk => ?_⟩)
  refine Sto_ok ?_
  refine S_for ?_
  refine E_ty (Z.ok.bt "range" (by decide)) ?_
  refine A_bin ?_
  with_reducible refine E_bin ?_
  refine E_name rfl ?_
  with_reducible refine E_int ?_
  with_reducible refine Bin_subI ?_
  with_reducible refine A_nil ?_
  rw [show ((c : Int) - 1) = ((c - 1 : Nat) : Int) by omega]
  refine Call_range fun tr b₁ hb₁ htr => Itr_range htr.ent (by omega) fun I => ?_
  refine ForQ_range (fun j b' o' => b₁.le b' ∧ o' = [Ch.loc y.L ((Str.ofString "row", .ref lk) :: lawL g d c ls), Ch.of lk (LstO ((rowP j).map vS))]) ⟨.rfl, rfl⟩ (fun j b' o' hj _ q => ?_) (fun b' o' _ q => ?_)
  · obtain ⟨hb, rfl⟩ := q
    have hz := rowP_len j
    refine Asg_name (Sto_ok ?_)
    refine S_aug rfl ?_
    refine E_if ?_
    refine T_cmp ?_
    refine E_bin ?_
    refine E_name rfl ?_
    with_reducible refine E_int ?_
    refine Bin_modI (by decide) ?_
    with_reducible refine E_int ?_
    with_reducible refine Cmp_eqI ?_
    with_reducible refine ⟨_, rfl, ?_⟩
    refine if_b (fun q => ?_) (fun q => ?_)
    · rw [row_mod] at q
      refine E_list ?_
      refine A_str (A_str (A_str (A_str (A_nil ⟨by simp [sizeLine], _, _, rfl, fun lt => ?_⟩))))
      refine Inp_addL (us := (rowP j).map vS) (Ent.own (.tail _ (.head _))) (.tail (.tail .head)) (by simp only [List.length_map, List.length_cons, List.length_nil]; omega) (Sto_ok ?_)
      refine W.forget (o₁ := [Ch.loc y.L _, Ch.of lk _]) (.cons_cons _ (.cons _ (.cons_cons _ .slnil))) (S_end (l' := (Str.ofString "row", .ref lk) :: lawL g d c ls) ⟨hb, ?_⟩)
      rw [show rowP (j + 1) = rowP j ++ rowStep j from rfl, show rowStep j = [Str.ofString ",", Str.ofString "(", Str.ofString "x", Str.ofString ")"] from if_pos q, List.map_append]; rfl
    · have q : ¬ j % 7 = 3 := by rw [← row_mod, q]; decide
      refine E_list ?_
      refine A_str (A_str (A_nil ⟨by simp [sizeLine], _, _, rfl, fun lt => ?_⟩))
      refine Inp_addL (us := (rowP j).map vS) (Ent.own (.tail _ (.head _))) (.tail (.tail .head)) (by simp only [List.length_map, List.length_cons, List.length_nil]; omega) (Sto_ok ?_)
      refine W.forget (o₁ := [Ch.loc y.L _, Ch.of lk _]) (.cons_cons _ (.cons _ (.cons_cons _ .slnil))) (S_end (l' := (Str.ofString "row", .ref lk) :: lawL g d c ls) ⟨hb, ?_⟩)
      rw [show rowP (j + 1) = rowP j ++ rowStep j from rfl, show rowStep j = [Str.ofString ",", Str.ofString "x"] from if_neg q, List.map_append]; rfl
  · obtain ⟨hb, rfl⟩ := q
    exact fin b' lk (hb₁.trans hb)
end
theorem bits_small {k : Nat} (h : k ≤ 1000) : Builtin.Int.intBits ((k : Nat) : Int) ≤ 64 := by
  unfold Builtin.Int.intBits
  split
  · omega
  · rw [Int.natAbs_natCast]
    have : k.log2 < 10 := by
      by_cases h0 : k = 0
      · subst h0; decide
      · exact (Nat.log2_lt h0).mpr (by omega)
    omega
theorem A_nm {Z : Zc} {i : Nat} {x : Act Z i} {b : Kn} {l : List (Str × Value)} {r : List Ch} {n : Str} {p pos : Pos} {es : List Expr} {v : Value} {P : List Value → Kn → List Ch → Prop} (hv : l.lookup n = some v) (h : Ags x pos es b (Ch.loc x.L l :: r) fun vs b₂ o₂ => P (v :: vs) b₂ o₂) (hk : (dScope (stmtAt i)).kind = .function := by rfl) (hl : x.env.kindOf n = some .local := by rfl) (hd : (n == ("__debug__" : Str)) = false := by rfl) : Ags x pos (.Name n p :: es) b (Ch.loc x.L l :: r) P := A_cons (E_name hv h hk hl hd) rfl
theorem A_att {Z : Zc} {i : Nat} {x : Act Z i} {b : Kn} {own : List Ch} {e : Expr} {n : Str} {p pos : Pos} {es : List Expr} {P : List Value → Kn → List Ch → Prop} (h : E x (.Attribute e n p) b own fun v b₁ o₁ => Ags x pos es b₁ o₁ fun vs b₂ o₂ => P (v :: vs) b₂ o₂) : Ags x pos (.Attribute e n p :: es) b own P := A_cons h rfl
noncomputable def Clo (Z : Zc) (b : Kn) : Prop := ∃ ac, Glo Z.h₀ (Str.ofString "CLOSE") (.ref ac) ∧ At b ac (TupO [vS (Str.ofString "close"), vS (Str.ofString "")])
theorem Clo.mono {Z : Zc} {b b' : Kn} (h : Clo Z b) (hb : b.le b') : Clo Z b' := let ⟨a, g, q⟩ := h; ⟨a, g, q.mono hb⟩
section
variable {Z : Zc} {y : Act Z 30} {b : Kn}
noncomputable abbrev lawM (m : Nat) (lk g : Addr) (d c : Nat) (ls : Addr) : List (Str × Value) := (Str.ofString "enough", vN m) :: (Str.ofString "row", .ref lk) :: lawL g d c ls
theorem law_enough {d c : Nat} {ls lk g : Addr} {ns : List Int} {r : List Ch} {P : Flow → Kn → List Ch → Prop} (hn : 40 ≤ y.n) (hd : d ≤ 5) (hc : c ≤ 60) (hl : At b ls (LstO (ns.map vI))) (hz : ns.length ≤ 100000)
    (fin : S y ((dBody (stmtAt 30)).drop 9) b (Ch.loc y.L (lawM (enoughP d c (partP ns 2 2)) lk g d c ls) :: r) P) :
    S y ((dBody (stmtAt 30)).drop 8) b (Ch.loc y.L ((Str.ofString "row", .ref lk) :: lawL g d c ls) :: r) P := by
  have hp := partP_lt (ns := ns) (spot := 2) (ways := 2) (by decide)
  refine S_asg ?_
  refine E_bin ?_
  refine E_bin (E_int (E_bin (E_int (E_name rfl (Bin_mulI (.of_left (by decide)) ?_)))))
  refine Bin_addI ?_
  refine E_bin (E_bin (E_int (E_name rfl (Bin_mulI (.of_left (by decide)) ?_))))
  refine E_fn 28 ?_
  refine A_nm rfl ?_
  refine A_cons ?_
  with_reducible refine E_int ?_
  refine A_cons ?_
  with_reducible refine E_int ?_
  with_reducible refine A_nil ?_
  refine part_ok (spot := 2) (ways := 2) (by omega) hl hz (by decide) (Bin_mulI (.of_right (bits_small (by omega))) ?_)
  refine Bin_addI ?_
  rw [show (12 : Int) + 6 * (d : Int) + 4 * (c : Int) * ((partP ns 2 2 : Nat) : Int) = ((enoughP d c (partP ns 2 2) : Nat) : Int) by unfold enoughP; simp only [Int.natCast_add, Int.natCast_mul]; rfl]
  exact Sto_ok fin
theorem law_told {d c m fu : Nat} {ls lk g : Addr} {tbl : Tbl} {emp : List Str} {fs : Fst} {row : List Str} {t : Tree} {p : Nat} {P : Flow → Kn → List Ch → Prop} (hfr : y.A.frames = some [y.env]) (hxf : y.fr = some y.L) (hn : 60 ≤ y.n)
    (hg : Gr Z b [] g startP (ordOf tbl) tbl emp fs) (hD : tbl.Le 20) (hk : At b lk (LstO (row.map vS))) (hrow : row.length ≤ 1000) (hclo : Clo Z b)
    (hF : fu ≤ 10000) (hf : recR tbl emp fs row m fu initP = some (.ok t p)) (hlv : leavesP t = row) (hdr : derT tbl t = true) (hlf : t.isLeaf = false) (hsz : t.size ≤ 100000)
    (fin : ∀ b' v, b.le b' → S y ((dBody (stmtAt 30)).drop 11) b' [Ch.loc y.L ((Str.ofString "told", v) :: lawM m lk g d c ls)] P) :
    S y ((dBody (stmtAt 30)).drop 9) b [Ch.loc y.L (lawM m lk g d c ls)] P := by
  refine S_asg ?_
  refine E_fn 29 ?_
  refine A_nm rfl (A_nm rfl (A_nm rfl (A_nil ?_)))
  refine told_ok (D := 20) (st := startP) (res := .ok t p) hfr hxf rfl (by omega) hg hD hk (by omega) hF (by decide) hclo hf fun v b₁ hb₁ hv => ?_
  obtain ⟨gr, dx, vt, vw, p', rfl, hgr, hdx, rfl, ht⟩ := hv
  refine Sto_ok ?_
  refine S_if1 ?_
  refine T_bool ?_
  refine TL_or ?_
  refine T_cmp (E_name rfl (E_none ?_))
  refine Cmp_isNone ⟨_, rfl, if_f rfl ?_⟩
  refine TL_or ?_
  refine T_cmp (E_attr (E_name rfl ?_))
  refine GetA_inst Z.ok.cR hgr (.inl hdx) rfl (E_none ?_)
  have hvr : ∃ a, vt = .ref a := by cases ht <;> exact ⟨_, rfl⟩
  obtain ⟨a, rfl⟩ := hvr
  refine Cmp_isNone ⟨_, rfl, if_f rfl ?_⟩
  refine TL_or ?_
  refine T_cmp ?_
  refine E_fn 24 ?_
  refine A_att ?_
  refine E_attr (E_name rfl ?_)
  refine GetA_inst Z.ok.cR hgr (.inl hdx) rfl (A_nil ?_)
  refine leaves_ok (by omega) ht hsz fun lv b₂ hb₂ hlv' => ?_
  refine E_name rfl ?_
  rw [hlv] at hlv'
  refine Cmp_neL encS hlv'.ent (hk.mono (hb₁.trans hb₂)).ent ⟨_, rfl, ?_⟩
  refine if_f (by simp) ?_
  refine TL_or ?_
  refine T_not (T_val ?_)
  refine E_fn 26 ?_
  refine A_nm rfl (A_att ?_)
  refine E_attr (E_name rfl ?_)
  refine GetA_inst Z.ok.cR (hgr.mono hb₂) (.inl (hdx.mono hb₂)) rfl (A_nil ?_)
  obtain ⟨gx, lo, de, as, gt, gf, q⟩ := hg.mono (hb₁.trans hb₂) (fun _ h => h)
  refine derives_ok (D := 20) (by omega) hD q.g (q.d.elim id fun h => by cases h) q.a3 q.t (ht.mono hb₂) hlf hsz hdr fun b₃ hb₃ => ⟨_, rfl, ?_⟩
  refine if_f rfl (TL_or0 (if_f rfl ?_))
  exact fin b₃ _ (hb₁.trans (hb₂.trans hb₃))
end
theorem A_lst {Z : Zc} {i : Nat} {x : Act Z i} {b : Kn} {own : List Ch} {e : List Expr} {p pos : Pos} {es : List Expr} {P : List Value → Kn → List Ch → Prop} (h : E x (.List e p) b own fun v b₁ o₁ => Ags x pos es b₁ o₁ fun vs b₂ o₂ => P (v :: vs) b₂ o₂) : Ags x pos (.List e p :: es) b own P := A_cons h rfl
theorem A_int {Z : Zc} {i : Nat} {x : Act Z i} {b : Kn} {own : List Ch} {n : Int} {k : Nat} {p pos : Pos} {es : List Expr} {P : List Value → Kn → List Ch → Prop} (h : Ags x pos es b own fun vs b₂ o₂ => P (vI n :: vs) b₂ o₂) : Ags x pos (.Constant (.int n) k p :: es) b own P := A_cons (E_int h) rfl
section
variable {Z : Zc} {y : Act Z 30} {b : Kn}
theorem law_bad {d c m fu : Nat} {ls lk g : Addr} {ns : List Int} {v₀ : Value} {tbl : Tbl} {emp : List Str} {fs : Fst} {row : List Str} {p : Nat} {P : Flow → Kn → List Ch → Prop} (hfr : y.A.frames = some [y.env]) (hxf : y.fr = some y.L) (hn : 60 ≤ y.n)
    (hl : At b ls (LstO (ns.map vI))) (hz : ns.length ≤ 100000)
    (hg : Gr Z b [] g startP (ordOf tbl) tbl emp fs) (hD : tbl.Le 20) (hk : At b lk (LstO (row.map vS))) (hrow : row.length ≤ 1000) (hclo : Clo Z b)
    (hF : fu ≤ 10000) (hf : recR tbl emp fs (row ++ [extraP (partP ns 3 3)]) m fu initP = some (.bad p)) (hp : p = row.length + (if extraP (partP ns 3 3) == Str.ofString "," then 1 else 0))
    (fin : ∀ b' v, b.le b' → S y ((dBody (stmtAt 30)).drop 14) b' [Ch.loc y.L ((Str.ofString "extra", vS (extraP (partP ns 3 3))) :: (Str.ofString "told", v) :: lawM m lk g d c ls)] P) :
    S y ((dBody (stmtAt 30)).drop 11) b [Ch.loc y.L ((Str.ofString "told", v₀) :: lawM m lk g d c ls)] P := by
  have he := partP_lt (ns := ns) (spot := 3) (ways := 3) (by decide)
  refine S_asg ?_
  refine E_sub ?_
  refine E_list ?_
  refine A_str (A_str (A_str (A_nil ⟨by simp [sizeLine], _, _, rfl, fun lt => ?_⟩)))
  refine E_fn 28 ?_
  refine A_nm rfl ?_
  refine A_cons ?_
  with_reducible refine E_int ?_
  refine A_cons ?_
  with_reducible refine E_int ?_
  with_reducible refine A_nil ?_
  refine part_ok (spot := 3) (ways := 3) (by omega) hl hz (by decide) ?_
  refine Item_list (us := [vS (Str.ofString ")"), vS (Str.ofString "x"), vS (Str.ofString ",")]) (u := vS (extraP (partP ns 3 3))) (Ent.own (.tail _ (.head _))) (by omega) (by omega) ?_ ?_
  · rw [Int.toNat_natCast]
    match partP ns 3 3, he with
    | 0, _ | 1, _ | 2, _ => rfl
  refine Sto_ok ?_
  refine W.forget (o₁ := [Ch.loc y.L _]) (.cons_cons _ (List.nil_sublist _)) ?_
  generalize extraP (partP ns 3 3) = ex at *
  refine S_asg ?_
  refine E_fn 29 ?_
  refine A_nm rfl (A_bin ?_)
  refine E_bin (E_name rfl ?_)
  refine E_list ?_
  refine A_nm rfl (A_nil ⟨by simp [sizeLine], _, _, rfl, fun l1 => ?_⟩)
  refine Bin_addL hk.ent (us := row.map vS) (vs := [vS ex]) (Ent.own (.tail _ (.head _))) (by simp only [List.length_map, List.length_cons, List.length_nil]; omega) fun l2 => ?_
  refine A_nm rfl (A_nil ?_)
  refine Call.freeze (.right (.left (Split.none _))) (fun h q => q) fun o b₁ hφ hb₁ hbo => ?_
  have hk2 : At b₁ l2 (LstO ((row ++ [ex]).map vS)) := ⟨o, hbo, by rw [List.map_append]; exact hφ⟩
  refine told_ok (D := 20) (st := startP) (res := .bad p) hfr hxf rfl (by omega) (hg.mono hb₁ fun _ h => h) hD hk2 (by simp only [List.length_append, List.length_cons, List.length_nil]; omega) hF (by decide) (hclo.mono hb₁) hf fun v b₂ hb₂ hv => ?_
  obtain ⟨gr, dx, vt, vw, p', rfl, hgr, hdx, rfl, rfl⟩ := hv
  have hb := hb₁.trans hb₂
  refine Sto_ok ?_
  refine W.forget (o₁ := [Ch.loc y.L _]) (.cons_cons _ (List.nil_sublist _)) ?_
  refine S_if1 ?_
  refine T_bool ?_
  refine TL_or ?_
  refine T_cmp (E_name rfl (E_none ?_))
  refine Cmp_isNone ⟨_, rfl, if_f rfl ?_⟩
  refine TL_or ?_
  refine T_cmp (E_attr (E_name rfl ?_))
  refine GetA_inst Z.ok.cR hgr (.inl hdx) rfl (E_none ?_)
  refine Cmp_isNotNone ⟨_, rfl, if_f rfl ?_⟩
  refine TL_or ?_
  refine T_cmp (E_attr (E_name rfl ?_))
  refine GetA_inst Z.ok.cR hgr (.inl hdx) rfl ?_
  refine E_bin ?_
  refine E_bi Z.ok.len ?_
  refine A_nm rfl (A_nil ?_)
  refine Call_len_list (hk.mono hb).ent (by rw [List.length_map]; omega) ?_
  rw [List.length_map]
  refine E_if (T_cmp (E_name rfl (E_str (Cmp_eqS ⟨_, rfl, ?_⟩))))
  refine if_b (fun q => ?_) (fun q => ?_)
  · rw [if_pos q] at hp
    refine E_int (Bin_addI (Cmp_neI ⟨_, rfl, ?_⟩))
    refine if_f ?_ (TL_or0 (if_f rfl (S_names (fin b₂ _ hb))))
    rw [hp]; simp
  · rw [if_neg (by rw [q]; decide)] at hp
    refine E_int (Bin_addI (Cmp_neI ⟨_, rfl, ?_⟩))
    refine if_f ?_ (TL_or0 (if_f rfl (S_names (fin b₂ _ hb))))
    rw [hp]; simp
end
section
variable {Z : Zc} {y : Act Z 30} {b : Kn}
theorem law_end {d c m fu fu' : Nat} {ls lk g : Addr} {ve v₀ : Value} {tbl : Tbl} {emp emp' : List Str} {fs fs' : Fst} {row : List Str} {P : Flow → Kn → List Ch → Prop} (hfr : y.A.frames = some [y.env]) (hxf : y.fr = some y.L) (hn : 60 ≤ y.n)
    (hg : Gr Z b [] g startP (ordOf tbl) tbl emp fs) (hD : tbl.Le 20) (hk : At b lk (LstO (row.map vS))) (hrow : row.length ≤ 1000) (hclo : Clo Z b)
    (hF : fu ≤ 10000) (hf : recR tbl emp fs row 2 fu initP = some .limit) (hR : Ready 20 againP startP emp' fs') (hD' : againP.Le 20) (hF' : fu' ≤ 10000) (hf' : recR againP emp' fs' row m fu' initP = some .limit)
    (fin : ∀ b' o', P (.ret (.bool true)) b' o') :
    S y ((dBody (stmtAt 30)).drop 14) b [Ch.loc y.L ((Str.ofString "extra", ve) :: (Str.ofString "told", v₀) :: lawM m lk g d c ls)] P := by
  refine S_if1 ?_
  refine T_cmp ?_
  refine E_fn 29 ?_
  refine A_nm rfl (A_nm rfl (A_int (A_nil ?_)))
  refine told_ok (D := 20) (st := startP) (most := 2) (res := .limit) hfr hxf rfl (by omega) hg hD hk (by omega) hF (by decide) hclo hf fun v b₁ hb₁ hv => ?_
  obtain rfl : v = .none := hv
  refine E_none ?_
  refine Cmp_isNotNone ⟨_, rfl, if_f rfl ?_⟩
  refine S_asg ?_
  refine E_cls Z.ok.gG Z.ok.cG ?_
  refine A_lst ?_
  refine E_list ?_
  refine A_tup ?_
  refine E_tuple ?_
  refine A_str ?_
  refine A_ex (Γ := []) (t := .alt [.seq [.name startP, .text (Str.ofString "x")], .text (Str.ofString "x")]) ?k1 ?k2 ?k3 ?k4
  case k1 => rfl
  case k2 => exact .alt (.cons (.seq (.cons .name (.cons .text .nil)) (by decide)) (.cons .text .nil)) (by decide)
  case k3 => exact .nil
  case k4 =>
  intro v b₂ hb₂ hv
  refine A_nil ⟨by simp [sizeLine], fun t b₃ hb₃ ht => A_nil ⟨by simp [sizeLine], _, _, rfl, fun lr => ?_⟩⟩
  refine A_str (A_nil ?_)
  refine Call.freeze (.right (.left (Split.none _))) (fun h q => q) fun o b₄ hφ hb₄ hbo => ?_
  refine Grammar_ok (D := 20) (tbl := againP) (by omega) ⟨o, hbo, hφ⟩ (.cons (ht.mono hb₄) (hv.mono (hb₃.trans hb₄)) .nil) hR fun g' b₅ hb₅ hg' => ?_
  have hb := hb₁.trans (hb₂.trans (hb₃.trans (hb₄.trans hb₅)))
  refine Sto_ok ?_
  refine S_ret ?_
  refine E_cmp ?_
  refine E_fn 29 ?_
  refine A_nm rfl (A_nm rfl (A_nm rfl (A_nil ?_)))
  refine told_ok (D := 20) (st := startP) (res := .limit) hfr hxf rfl (by omega) hg' hD' (hk.mono hb) (by omega) hF' (by decide) (hclo.mono hb) hf' fun v b₆ hb₆ hv => ?_
  obtain rfl : v = .none := hv
  refine E_none ?_
  exact Cmp_isNone (fin _ _)
theorem Ready.le {tbl : Tbl} {D : Nat} {st : Str} {emp : List Str} {fs : Fst} (h : Ready D tbl st emp fs) : tbl.Le D := fun n e q => (h.2.2.1 _ (look_mem q)).1
theorem law_ok {ls : Addr} {ns : List Int} {P : Flow → Kn → List Ch → Prop} (hfr : y.A.frames = some [y.env]) (hxf : y.fr = some y.L) (hn : 60 ≤ y.n) (hl : At b ls (LstO (ns.map vI))) (hz : ns.length ≤ 100000) (hclo : Clo Z b)
    (F : LawF (1 + partP ns 0 5) (1 + partP ns 1 60) (partP ns 2 2) (partP ns 3 3)) (fin : ∀ b' o', P (.ret (.bool true)) b' o') :
    S y (dBody (stmtAt 30)) b [Ch.loc y.L [(Str.ofString "script", .ref ls)]] P := by
  have p0 := partP_lt (ns := ns) (spot := 0) (ways := 5) (by decide)
  have p1 := partP_lt (ns := ns) (spot := 1) (ways := 60) (by decide)
  obtain ⟨⟨emp, fs, hR, ⟨fu, t, p, hF, hf, hlv, hdr, hlf, hsz⟩, ⟨fu₁, p₁, hF₁, hf₁, hp₁⟩, fu₂, hF₂, hf₂⟩, emp', fs', hR', fu₃, hF₃, hf₃⟩ := F
  have hrow := rowP_len (1 + partP ns 1 60 - 1)
  refine law_head (by omega) hl hz fun b₁ lr vs hb₁ hr => ?_
  refine law_levels (by omega) (by omega) hr fun b₂ vs₂ l hb₂ hr₂ h1 h2 h3 h4 => ?_
  have hb12 := hb₁.trans hb₂
  refine law_more (by omega) (by omega) (hl.mono hb12) hz h1 h4 hr₂ fun b₃ vs₃ hb₃ hr₃ => ?_
  refine law_made (by omega) hr₃ hR h1 h2 h3 h4 fun b₄ g hb₄ hg => ?_
  refine law_rows (by omega) (by omega) (by omega) fun b₅ lk hb₅ => ?_
  have hb := hb12.trans (hb₃.trans (hb₄.trans hb₅))
  refine law_enough (by omega) (by omega) (by omega) (hl.mono hb) hz ?_
  refine W.freeze (y := Ch.of lk (LstO _)) (.right (.left .nil)) (fun h q => q) fun o b₆ hφ hb₆ hbo => ?_
  have hb' := hb.trans hb₆
  refine law_told hfr hxf hn (hg.mono (hb₅.trans hb₆) fun _ h => h) hR.le ⟨o, hbo, hφ⟩ (by omega) (hclo.mono hb') hF hf hlv hdr hlf hsz fun b₇ v hb₇ => ?_
  have hk : At b₆ lk (LstO ((rowP (1 + partP ns 1 60 - 1)).map vS)) := ⟨o, hbo, hφ⟩
  refine law_bad hfr hxf hn (hl.mono (hb'.trans hb₇)) hz (hg.mono ((hb₅.trans hb₆).trans hb₇) fun _ h => h) hR.le (hk.mono hb₇) (by omega) (hclo.mono (hb'.trans hb₇)) hF₁ hf₁ hp₁ fun b₈ v hb₈ => ?_
  exact law_end hfr hxf hn (hg.mono ((hb₅.trans hb₆).trans (hb₇.trans hb₈)) fun _ h => h) hR.le (hk.mono (hb₇.trans hb₈)) (by omega) (hclo.mono (hb'.trans (hb₇.trans hb₈))) hF₂ hf₂ hR' hR'.le hF₃ hf₃ fin
end
section
variable (tbl : Tbl) (emp : List Str) (fs : Fst)
noncomputable def stepK (tok : Str) : Stt → Option (Stt ⊕ Res)
  | ⟨[], _, _, _⟩ => none
  | ⟨none :: w, ns, p, k⟩ => match ns with
    | (n, kids) :: (n2, kids2) :: ns => some (.inl ⟨w, (n2, kids2 ++ [.node n kids]) :: ns, p, k⟩)
    | _ => none
  | ⟨some e :: w, ns, p, k⟩ =>
    if isToken tbl e then
      if tok != tokenOf tbl e then some (.inr (.bad p)) else match ns with
        | (n, kids) :: ns => some (.inl ⟨w, (n, kids ++ [.leaf tok p]) :: ns, p + 1, 0⟩)
        | [] => none
    else match e with
      | .name s => match tbl.lookup s with
        | some e' => some (.inl ⟨some e' :: none :: w, (s, []) :: ns, p, k⟩)
        | none => none
      | e => match expandedP tbl emp fs tok e with
        | none => none
        | some none => match firstP tbl emp fs e with
          | some s => if s.length < 60 then some (.inr (.bad p)) else none
          | none => none
        | some (some l) => if l.length ≤ 1000 then some (.inl ⟨l.reverse.map some ++ w, ns, p, k⟩) else none
theorem stepR_eq (row : List Str) (s : Stt) : stepR tbl emp fs row s = stepK tbl emp fs (tokAt row s.p) s := by
  obtain ⟨w, ns, p, k⟩ := s
  cases w with
  | nil => rfl
  | cons o w => cases o <;> rfl
noncomputable def itK : Nat → List Str → Stt → Option (Stt × List Str)
  | 0, ts, s => some (s, ts)
  | n + 1, ts, s => match s.w with
    | [] => none
    | none :: _ => match stepK tbl emp fs eofS ⟨s.w, s.ns, s.p, s.k + 1⟩ with
      | some (.inl s') => itK n ts s'
      | _ => none
    | some _ :: _ => match ts with
      | [] => none
      | t :: ts => match stepK tbl emp fs t ⟨s.w, s.ns, s.p, s.k + 1⟩ with
        | some (.inl s') => match s'.k with
          | 0 => itK n ts s'
          | _ + 1 => itK n (t :: ts) s'
        | _ => none
end
section
variable {tbl : Tbl} {emp : List Str} {fs : Fst} {row : List Str} {most : Nat}
theorem stepK_none {t : Str} {w : List (Option Ex)} {ns : List (Str × List Tree)} {p k : Nat} {s' : Stt} (h : stepK tbl emp fs eofS ⟨none :: w, ns, p, k⟩ = some (.inl s')) : stepK tbl emp fs t ⟨none :: w, ns, p, k⟩ = some (.inl s') ∧ s'.p = p ∧ s'.k = k := by
  match ns, h with
  | [], h => cases h
  | [_], h => cases h
  | (n, ks) :: (n2, ks2) :: ns, h => cases h; exact ⟨rfl, rfl, rfl⟩
theorem stepK_some {t : Str} {e : Ex} {w : List (Option Ex)} {ns : List (Str × List Tree)} {p k : Nat} {s' : Stt} (h : stepK tbl emp fs t ⟨some e :: w, ns, p, k⟩ = some (.inl s')) : (s'.p = p ∧ s'.k = k) ∨ (s'.p = p + 1 ∧ s'.k = 0) := by
  unfold stepK at h
  simp only at h
  repeat' split at h
  all_goals first | (cases h; first | exact .inl ⟨rfl, rfl⟩ | exact .inr ⟨rfl, rfl⟩) | cases h
theorem recR_step {s s' : Stt} {f : Nat} (hw : s.w ≠ []) (hm : s.k + 1 ≤ most) (h : stepK tbl emp fs (tokAt row s.p) ⟨s.w, s.ns, s.p, s.k + 1⟩ = some (.inl s')) : recR tbl emp fs row most (f + 1) s = recR tbl emp fs row most f s' := by
  obtain ⟨w, ns, p, k⟩ := s
  cases w with
  | nil => exact absurd rfl hw
  | cons o w =>
    rw [recR]
    simp only
    rw [if_neg (by simp only at hm; omega), stepR_eq]
    simp only at h ⊢
    rw [h]
theorem recR_out {s : Stt} {r : Res} {f : Nat} (hw : s.w ≠ []) (hm : s.k + 1 ≤ most) (h : stepK tbl emp fs (tokAt row s.p) ⟨s.w, s.ns, s.p, s.k + 1⟩ = some (.inr r)) : recR tbl emp fs row most (f + 1) s = some r := by
  obtain ⟨w, ns, p, k⟩ := s
  cases w with
  | nil => exact absurd rfl hw
  | cons o w =>
    rw [recR]
    simp only
    rw [if_neg (by simp only at hm; omega), stepR_eq]
    simp only at h ⊢
    rw [h]
theorem recR_lim {s : Stt} {f : Nat} (hw : s.w ≠ []) (hm : most < s.k + 1) : recR tbl emp fs row most (f + 1) s = some .limit := by
  obtain ⟨w, ns, p, k⟩ := s
  cases w with
  | nil => exact absurd rfl hw
  | cons o w =>
    rw [recR]
    simp only
    rw [if_pos (by simpa using hm)]
theorem itK_go : ∀ (n : Nat) {ts ts' : List Str} {s s' : Stt}, itK tbl emp fs n ts s = some (s', ts') → (∀ i t, ts[i]? = some t → tokAt row (s.p + i) = t) → s.k + n ≤ most → ∀ f, recR tbl emp fs row most (n + f) s = recR tbl emp fs row most f s'
  | 0, ts, ts', s, s', h, _, _, f => by cases h; rw [Nat.zero_add]
  | n + 1, ts, ts', ⟨w, ns, p, k⟩, s', h, ht, hm, f => by
    simp only at ht hm
    rw [show n + 1 + f = (n + f) + 1 by omega]
    unfold itK at h
    simp only at h
    split at h
    · cases h
    · split at h
      · rename_i hs
        obtain ⟨h1, h2, h3⟩ := stepK_none (t := tokAt row p) hs
        rw [recR_step (by simp) (by simp only; omega) h1]
        exact itK_go n h (by rw [h2]; exact ht) (by rw [h3]; omega) f
      · cases h
    · cases ts with
      | nil => cases h
      | cons t ts =>
        simp only at h
        split at h
        · rename_i s₁ hs
          have h0 := ht 0 t rfl
          rw [Nat.add_zero] at h0
          have hh := stepK_some hs
          rw [recR_step (by simp) (by simp only; omega) (by simp only; rw [h0]; exact hs)]
          split at h
          · rename_i hk
            rcases hh with hh | hh
            · rw [hh.2] at hk; cases hk
            · exact itK_go n h (fun i t' q => by rw [hh.1, show p + 1 + i = p + (i + 1) by omega]; exact ht (i + 1) t' q) (by rw [hk]; omega) f
          · rename_i k' hk
            rcases hh with hh | hh
            · exact itK_go n h (by rw [hh.1]; exact ht) (by rw [hh.2]; omega) f
            · rw [hh.2] at hk; cases hk
        · cases h
end
noncomputable abbrev tX : Str := Str.ofString "x"
noncomputable abbrev tO : Str := Str.ofString "("
noncomputable abbrev tC : Str := Str.ofString ")"
noncomputable abbrev tK : Str := Str.ofString ","
noncomputable abbrev tM : Str := Str.ofString "more"
noncomputable def empV (v : Nat) : List Str := if v = 1 then [tM] else []
noncomputable def fsV (d v : Nat) : Fst := (ordOf (rulesP d v)).map fun n => (n, if n == tM then [tK] else [tO, tX])
noncomputable def chT (d : Nat) : Nat → Nat → Tree
  | 0, p => .leaf tX p
  | j + 1, p => .node (rN (d - (j + 1))) [chT d j p]
noncomputable def itX (d p : Nat) : Tree := chT d d p
noncomputable def itP (d p : Nat) : Tree := .node (rN 0) [.leaf tO p, chT d (d - 1) (p + 1), .leaf tC (p + 2)]
noncomputable def rdy (tbl : Tbl) (emp : List Str) (fs : Fst) : Bool := decide (ordOf tbl).Nodup && (decide (tbl.length ≤ 1000) && (tbl.all (fun p => decide (p.2.dep ≤ 20) && !p.2.alias tbl) && (emptyP tbl (ordOf tbl) 100 [] == some emp && (firstsP tbl emp (ordOf tbl) 100 (fst0 (ordOf tbl)) == some fs && (followsP tbl emp fs (ordOf tbl) 100 (follow0 startP (ordOf tbl))).isSome))))
theorem Ready_of {tbl : Tbl} {emp : List Str} {fs : Fst} (h : rdy tbl emp fs = true) : Ready 20 tbl startP emp fs := by
  unfold rdy at h
  simp only [Bool.and_eq_true, decide_eq_true_eq, beq_iff_eq, List.all_eq_true, Bool.not_eq_true'] at h
  obtain ⟨h1, h2, h3, h4, h5, h6⟩ := h
  obtain ⟨fo, h6⟩ := Option.isSome_iff_exists.mp h6
  exact ⟨h1, h2, h3, 100, 100, 100, fo, h4, h5, h6⟩
theorem rdyD (d v : Nat) (h1 : 1 ≤ d) (h2 : d ≤ 5) (h3 : v ≤ 1) : rdy (rulesP d v) (empV v) (fsV d v) = true := by
  match v, h3 with
  | 0, _ | 1, _ => match d, h1, h2 with
    | 1, _, _ | 2, _, _ | 3, _, _ | 4, _, _ | 5, _, _ => decide +kernel
noncomputable def S0 (kids : List Tree) (p k : Nat) : Stt := ⟨[some (.rep (.seq [.text tK, .name (Str.ofString "r0")])), none], [(startP, kids), (Str.ofString "", [])], p, k⟩
noncomputable abbrev it0 (d : Nat) := itK (rulesP d 0) (empV 0) (fsV d 0)
noncomputable abbrev it1 (d : Nat) := itK (rulesP d 1) (empV 1) (fsV d 1)
theorem init0 (d : Nat) (h1 : 1 ≤ d) (h2 : d ≤ 5) : it0 d (3 * d + 3) [tX] initP = some (S0 [itX d 0] 1 d, []) := by
  match d, h1, h2 with
  | 1, _, _ | 2, _, _ | 3, _, _ | 4, _, _ | 5, _, _ => kernel_rfl
theorem stepX0 (d : Nat) (h1 : 1 ≤ d) (h2 : d ≤ 5) (ks : List Tree) (p k : Nat) : it0 d (3 * d + 4) [tK, tX] (S0 ks p k) = some (S0 (ks ++ [.leaf tK p] ++ [itX d (p + 1)]) (p + 2) d, []) := by
  match d, h1, h2 with
  | 1, _, _ | 2, _, _ | 3, _, _ | 4, _, _ | 5, _, _ => kernel_rfl
theorem stepP0 (d : Nat) (h1 : 1 ≤ d) (h2 : d ≤ 5) (ks : List Tree) (p k : Nat) : it0 d (3 * d + 7) [tK, tO, tX, tC] (S0 ks p k) = some (S0 (ks ++ [.leaf tK p] ++ [itP d (p + 1)]) (p + 4) 1, []) := by
  match d, h1, h2 with
  | 1, _, _ | 2, _, _ | 3, _, _ | 4, _, _ | 5, _, _ => kernel_rfl
theorem end0 (d : Nat) (h1 : 1 ≤ d) (h2 : d ≤ 5) (t : Str) (ht : t = eofS ∨ t = tC ∨ t = tX) (ks : List Tree) (p k : Nat) : it0 d 2 [t] (S0 ks p k) = some (⟨[], [(Str.ofString "", [.node startP ks])], p, k + 2⟩, [t]) := by
  rcases ht with rfl | rfl | rfl <;> match d, h1, h2 with
  | 1, _, _ | 2, _, _ | 3, _, _ | 4, _, _ | 5, _, _ => kernel_rfl
noncomputable def altP (d : Nat) : Ex := (levelP d 0).2
theorem comma0 (d : Nat) (h1 : 1 ≤ d) (h2 : d ≤ 5) (ks : List Tree) (p k : Nat) : ∃ w ns, it0 d 4 [tK, eofS] (S0 ks p k) = some (⟨some (altP d) :: w, ns, p + 1, 1⟩, [eofS]) ∧ stepK (rulesP d 0) (empV 0) (fsV d 0) eofS ⟨some (altP d) :: w, ns, p + 1, 2⟩ = some (.inr (.bad (p + 1))) := by
  match d, h1, h2 with
  | 1, _, _ | 2, _, _ | 3, _, _ | 4, _, _ | 5, _, _ => exact ⟨[none, some (.rep (.seq [.text tK, .name (Str.ofString "r0")])), none], [(Str.ofString "r0", []), (startP, ks ++ [.leaf tK p]), (Str.ofString "", [])], by kernel_rfl, by kernel_rfl⟩
theorem two0 (d v : Nat) (h1 : 1 ≤ d) (h2 : d ≤ 5) (h3 : v ≤ 1) (row : List Str) : recR (rulesP d v) (empV v) (fsV d v) row 2 3 initP = some .limit := by
  match v, h3 with
  | 0, _ | 1, _ => match d, h1, h2 with
    | 1, _, _ | 2, _, _ | 3, _, _ | 4, _, _ | 5, _, _ => kernel_rfl
noncomputable def S1 (cs : List (Option Ex)) (kids : List Tree) (ns : List (Str × List Tree)) (p k : Nat) : Stt := ⟨some (.name tM) :: none :: cs, (startP, kids) :: ns, p, k⟩
theorem init1 (d : Nat) (h1 : 1 ≤ d) (h2 : d ≤ 5) : it1 d (3 * d + 3) [tX] initP = some (S1 [] [itX d 0] [(Str.ofString "", [])] 1 d, []) := by
  match d, h1, h2 with
  | 1, _, _ | 2, _, _ | 3, _, _ | 4, _, _ | 5, _, _ => kernel_rfl
theorem stepX1 (d : Nat) (h1 : 1 ≤ d) (h2 : d ≤ 5) (cs : List (Option Ex)) (ks : List Tree) (ns : List (Str × List Tree)) (p k : Nat) : it1 d (3 * d + 7) [tK, tX] (S1 cs ks ns p k) = some (S1 (none :: none :: cs) [itX d (p + 1)] ((tM, [.leaf tK p]) :: (startP, ks) :: ns) (p + 2) d, []) := by
  match d, h1, h2 with
  | 1, _, _ | 2, _, _ | 3, _, _ | 4, _, _ | 5, _, _ => kernel_rfl
theorem stepP1 (d : Nat) (h1 : 1 ≤ d) (h2 : d ≤ 5) (cs : List (Option Ex)) (ks : List Tree) (ns : List (Str × List Tree)) (p k : Nat) : it1 d (3 * d + 10) [tK, tO, tX, tC] (S1 cs ks ns p k) = some (S1 (none :: none :: cs) [itP d (p + 1)] ((tM, [.leaf tK p]) :: (startP, ks) :: ns) (p + 4) 1, []) := by
  match d, h1, h2 with
  | 1, _, _ | 2, _, _ | 3, _, _ | 4, _, _ | 5, _, _ => kernel_rfl
theorem end1 (d : Nat) (h1 : 1 ≤ d) (h2 : d ≤ 5) (t : Str) (ht : t = eofS ∨ t = tC ∨ t = tX) (cs : List (Option Ex)) (ks : List Tree) (ns : List (Str × List Tree)) (p k : Nat) : it1 d 2 [t] (S1 cs ks ns p k) = some (⟨none :: none :: cs, (tM, []) :: (startP, ks) :: ns, p, k + 2⟩, [t]) := by
  rcases ht with rfl | rfl | rfl <;> match d, h1, h2 with
  | 1, _, _ | 2, _, _ | 3, _, _ | 4, _, _ | 5, _, _ => kernel_rfl
theorem comma1 (d : Nat) (h1 : 1 ≤ d) (h2 : d ≤ 5) (cs : List (Option Ex)) (ks : List Tree) (ns : List (Str × List Tree)) (p k : Nat) : ∃ w ns', it1 d 7 [tK, eofS] (S1 cs ks ns p k) = some (⟨some (altP d) :: w, ns', p + 1, 3⟩, [eofS]) ∧ stepK (rulesP d 1) (empV 1) (fsV d 1) eofS ⟨some (altP d) :: w, ns', p + 1, 4⟩ = some (.inr (.bad (p + 1))) := by
  match d, h1, h2 with
  | 1, _, _ | 2, _, _ | 3, _, _ | 4, _, _ | 5, _, _ => exact ⟨none :: some (.name tM) :: none :: none :: none :: cs, (Str.ofString "r0", []) :: (startP, []) :: (tM, [.leaf tK p]) :: (startP, ks) :: ns, by kernel_rfl, by kernel_rfl⟩
theorem derX (d v : Nat) (h1 : 1 ≤ d) (h2 : d ≤ 5) (h3 : v ≤ 1) (p : Nat) : derT (rulesP d v) (itX d p) = true ∧ derT (rulesP d v) (itP d p) = true := by
  match v, h3 with
  | 0, _ | 1, _ => match d, h1, h2 with
    | 1, _, _ | 2, _, _ | 3, _, _ | 4, _, _ | 5, _, _ => exact ⟨by kernel_rfl, by kernel_rfl⟩
theorem rul0 (d : Nat) (h1 : 1 ≤ d) (h2 : d ≤ 5) : (rulesP d 0).lookup startP = some start0.2 ∧ (rulesP d 0).has (Str.ofString "r0") = true := by
  match d, h1, h2 with
  | 1, _, _ | 2, _, _ | 3, _, _ | 4, _, _ | 5, _, _ => exact ⟨by kernel_rfl, by kernel_rfl⟩
theorem rul1 (d : Nat) (h1 : 1 ≤ d) (h2 : d ≤ 5) (p : Nat) (ks : List Tree) (us : List Tree) : ruleOk (rulesP d 1) tM [] = true ∧ ruleOk (rulesP d 1) tM [.leaf tK p, .node startP ks] = true ∧ ruleOk (rulesP d 1) startP [.node (rN 0) us, .node tM ks] = true := by
  match d, h1, h2 with
  | 1, _, _ | 2, _, _ | 3, _, _ | 4, _, _ | 5, _, _ => exact ⟨by kernel_rfl, by kernel_rfl, by kernel_rfl⟩
noncomputable def fsA : Fst := [(startP, [tX])]
theorem rdyA : rdy againP [] fsA = true := by decide +kernel
theorem rowP_pre {n m : Nat} (h : n ≤ m) : ∃ r, rowP m = rowP n ++ r := by
  induction m with
  | zero => obtain rfl : n = 0 := by omega
            exact ⟨[], by simp⟩
  | succ m ih =>
    rcases Nat.lt_or_ge m n with q | q
    · obtain rfl : n = m + 1 := by omega
      exact ⟨[], by simp⟩
    · obtain ⟨r, e⟩ := ih q
      exact ⟨r ++ rowStep m, by rw [rowP, e, List.append_assoc]⟩
noncomputable abbrev ln (n : Nat) : Nat := (rowP n).length
theorem at_step {n m : Nat} (h : n < m) (x : List Str) (i : Nat) (t : Str) (q : (rowStep n)[i]? = some t) : tokAt (rowP m ++ x) (ln n + i) = t := by
  obtain ⟨r, e⟩ := rowP_pre (n := n + 1) (m := m) h
  unfold tokAt
  rw [e, rowP, List.append_assoc, List.append_assoc, List.getElem?_append_right (Nat.le_add_right _ _), Nat.add_sub_cancel_left, List.getElem?_append_left ((List.getElem?_eq_some_iff.mp q).1), q]; rfl
theorem at_end {m : Nat} (x : List Str) (i : Nat) : tokAt (rowP m ++ x) (ln m + i) = (x[i]?).getD eofS := by
  unfold tokAt
  rw [List.getElem?_append_right (Nat.le_add_right _ _), Nat.add_sub_cancel_left]
theorem at_0 (m : Nat) (x : List Str) : tokAt (rowP m ++ x) 0 = tX := by
  obtain ⟨r, e⟩ := rowP_pre (n := 0) (m := m) (Nat.zero_le _)
  rw [e]; rfl
noncomputable def itm (d n p : Nat) : Tree := if n % 7 = 3 then itP d p else itX d p
noncomputable def kids0 (d : Nat) : Nat → List Tree
  | 0 => [itX d 0]
  | n + 1 => kids0 d n ++ [.leaf tK (ln n)] ++ [itm d n (ln n + 1)]
theorem ln_succ (n : Nat) : ln (n + 1) = ln n + (if n % 7 = 3 then 4 else 2) := by
  unfold ln; rw [rowP, List.length_append]; unfold rowStep; split <;> rfl
section
variable {d m most : Nat} {x : List Str}
theorem go0 (h1 : 1 ≤ d) (h2 : d ≤ 5) (hm : 12 + 6 * d ≤ most) : ∀ n, n ≤ m → ∃ fu k, fu ≤ 30 * (n + 1) ∧ k ≤ 5 ∧ ∀ f, recR (rulesP d 0) (empV 0) (fsV d 0) (rowP m ++ x) most (fu + f) initP = recR (rulesP d 0) (empV 0) (fsV d 0) (rowP m ++ x) most f (S0 (kids0 d n) (ln n) k)
  | 0, _ => ⟨3 * d + 3, d, by omega, h2, fun f => itK_go _ (init0 d h1 h2) (fun i t q => by
      match i, q with
      | 0, q => cases q; exact at_0 m x) (by show 0 + _ ≤ _; omega) f⟩
  | n + 1, hn => by
    obtain ⟨fu, k, hf, hk, h⟩ := go0 h1 h2 hm n (by omega)
    have at_ := at_step (n := n) (m := m) hn x
    unfold rowStep at at_
    by_cases c : n % 7 = 3
    · rw [if_pos c] at at_
      refine ⟨fu + (3 * d + 7), 1, by omega, by decide, fun f => ?_⟩
      rw [Nat.add_assoc, h, itK_go _ (stepP0 d h1 h2 _ _ _) at_ (by show k + _ ≤ _; omega) f, kids0, ln_succ, if_pos c]
      unfold itm; rw [if_pos c]
    · rw [if_neg c] at at_
      refine ⟨fu + (3 * d + 4), d, by omega, h2, fun f => ?_⟩
      rw [Nat.add_assoc, h, itK_go _ (stepX0 d h1 h2 _ _ _) at_ (by show k + _ ≤ _; omega) f, kids0, ln_succ, if_neg c]
      unfold itm; rw [if_neg c]
end
theorem chT_leaves (d p : Nat) : ∀ j, leavesP (chT d j p) = [tX]
  | 0 => rfl
  | j + 1 => by rw [chT, leavesP, leavesL, chT_leaves d p j]; rfl
theorem chT_size (d p : Nat) : ∀ j, (chT d j p).size = j + 1
  | 0 => rfl
  | j + 1 => by rw [chT, Tree.size, Tree.sizeL, chT_size d p j, Tree.sizeL]; omega
theorem itm_leaves (d n p : Nat) : tK :: leavesP (itm d n p) = rowStep n := by
  unfold itm rowStep
  split
  · simp only [itP, leavesP, leavesL, chT_leaves]; rfl
  · simp only [itX, chT_leaves]
theorem itm_size (d n p : Nat) (h2 : d ≤ 5) : (itm d n p).size ≤ 8 := by
  unfold itm
  split
  · simp only [itP, Tree.size, Tree.sizeL, chT_size]; omega
  · simp only [itX, chT_size]; omega
theorem kids0_leaves (d : Nat) : ∀ n, leavesL (kids0 d n) = rowP n
  | 0 => by rw [kids0, leavesL, itX, chT_leaves]; rfl
  | n + 1 => by
    rw [kids0, leavesL_app, leavesL_app, kids0_leaves d n, rowP, ← itm_leaves d n (ln n + 1)]
    simp [leavesL, leavesP]
theorem kids0_size (d : Nat) (h2 : d ≤ 5) : ∀ n, Tree.sizeL (kids0 d n) ≤ 6 + 9 * n
  | 0 => by rw [kids0, Tree.sizeL, itX, chT_size, Tree.sizeL]; omega
  | n + 1 => by
    have := kids0_size d h2 n
    have q := itm_size d n (ln n + 1) h2
    rw [kids0, sizeL_app, sizeL_app]
    simp only [Tree.sizeL, Tree.size]; omega
theorem itm_der (d v : Nat) (h1 : 1 ≤ d) (h2 : d ≤ 5) (h3 : v ≤ 1) (n p : Nat) : derT (rulesP d v) (itm d n p) = true := by
  unfold itm
  split
  · exact (derX d v h1 h2 h3 p).2
  · exact (derX d v h1 h2 h3 p).1
theorem derL_app (tbl : Tbl) : ∀ (a c : List Tree), derL tbl (a ++ c) = (derL tbl a && derL tbl c)
  | [], c => rfl
  | k :: a, c => by rw [List.cons_append, derL, derL, derL_app tbl a c, Bool.and_assoc]
theorem kids0_der (d : Nat) (h1 : 1 ≤ d) (h2 : d ≤ 5) : ∀ n, derL (rulesP d 0) (kids0 d n) = true
  | 0 => by rw [kids0, derL, (derX d 0 h1 h2 (by decide) 0).1]; rfl
  | n + 1 => by
    rw [kids0, derL_app, derL_app, kids0_der d h1 h2 n, derL, derL, derL, itm_der d 0 h1 h2 (by decide)]; rfl
theorem itm_node (d n p : Nat) (h1 : 1 ≤ d) : ∃ us, itm d n p = .node (rN 0) us := by
  unfold itm
  split
  · exact ⟨_, rfl⟩
  · obtain ⟨j, rfl⟩ : ∃ j, d = j + 1 := ⟨d - 1, by omega⟩
    exact ⟨[chT (j + 1) j p], by rw [itX, chT, Nat.sub_self]⟩
theorem kids0_len (d : Nat) : ∀ n, (kids0 d n).length = 2 * n + 1
  | 0 => rfl
  | n + 1 => by rw [kids0, List.length_append, List.length_append, kids0_len d n]; simp only [List.length_cons, List.length_nil]; omega
theorem kids0_at (d : Nat) (h1 : 1 ≤ d) : ∀ n, (∀ j, j ≤ n → ∃ us, (kids0 d n)[2 * j]? = some (.node (rN 0) us)) ∧ (∀ j, j < n → ∃ p, (kids0 d n)[2 * j + 1]? = some (.leaf tK p))
  | 0 => ⟨fun j hj => by
      obtain rfl : j = 0 := by omega
      obtain ⟨us, e⟩ := itm_node d 0 0 h1
      exact ⟨us, by rw [kids0, ← e]; rfl⟩, fun j hj => by omega⟩
  | n + 1 => by
    obtain ⟨q1, q2⟩ := kids0_at d h1 n
    have hl := kids0_len d n
    rw [kids0, List.append_assoc]
    refine ⟨fun j hj => ?_, fun j hj => ?_⟩
    · rcases Nat.lt_or_ge n j with c | c
      · obtain rfl : j = n + 1 := by omega
        obtain ⟨us, e⟩ := itm_node d n (ln n + 1) h1
        refine ⟨us, ?_⟩
        rw [List.getElem?_append_right (by omega), hl, show 2 * (n + 1) - (2 * n + 1) = 1 by omega, ← e]; rfl
      · obtain ⟨us, e⟩ := q1 j c
        exact ⟨us, by rw [List.getElem?_append_left (by omega), e]⟩
    · rcases Nat.lt_or_ge j n with c | c
      · obtain ⟨p, e⟩ := q2 j c
        exact ⟨p, by rw [List.getElem?_append_left (by omega), e]⟩
      · obtain rfl : j = n := by omega
        exact ⟨ln j, by rw [List.getElem?_append_right (by omega), hl, Nat.sub_self]; rfl⟩
noncomputable def odds (j : Nat) : List Nat := (List.range j).map fun i => 2 * i + 1
theorem odds_succ (j : Nat) : odds (j + 1) = odds j ++ [2 * j + 1] := by unfold odds; rw [List.range_succ, List.map_append]; rfl
theorem odds_len (j : Nat) : (odds j).length = j := by unfold odds; rw [List.length_map, List.length_range]
theorem mem_odds {j a : Nat} (h : a ∈ odds j) : a < 2 * j := by
  unfold odds at h
  obtain ⟨i, hi, rfl⟩ := List.mem_map.mp h
  have := List.mem_range.mp hi; omega
theorem odds_add (j : Nat) : addAll (odds j) [2 * j + 1] = odds (j + 1) := by
  rw [odds_succ]
  show addN _ _ = _
  unfold addN
  rw [if_neg (fun h => by have := mem_odds (List.contains_iff_mem.mp h); omega)]
section
variable {tbl : Tbl} {d n : Nat}
noncomputable abbrev bodyE : Ex := .seq [.text tK, .name (Str.ofString "r0")]
theorem leaf_hit {ks : List Tree} {w : Str} {lf : Bool} {a : Nat} {k : Tree} (h : ks[a]? = some k) (q : (k.label == w && k.isLeaf == lf) = true) : leafE ks w lf [a] = [a + 1] := by
  unfold leafE
  rw [List.filter_cons, if_pos (by unfold fits; rw [h]; exact q)]; rfl
theorem leaf_miss {ks : List Tree} {w : Str} {lf : Bool} {a : Nat} (h : ks[a]? = none) : leafE ks w lf [a] = [] := by
  unfold leafE
  rw [List.filter_cons, if_neg (by unfold fits; rw [h]; exact Bool.false_ne_true)]; rfl
theorem body_at (h1 : 1 ≤ d) (hr : tbl.has (Str.ofString "r0") = true) {j : Nat} (hj : j < n) : endsP tbl (kids0 d n) bodyE [2 * j + 1] = some [2 * (j + 1) + 1] := by
  obtain ⟨q1, q2⟩ := kids0_at d h1 n
  obtain ⟨p, e2⟩ := q2 j hj
  obtain ⟨us, e1⟩ := q1 (j + 1) hj
  rw [endsP, endsQ, endsP]
  simp only
  rw [leaf_hit e2 rfl, if_pos (by simp), endsQ, endsP, hr]
  simp only
  rw [show 2 * j + 1 + 1 = 2 * (j + 1) by omega, leaf_hit e1 rfl, if_pos (by simp), endsQ]
theorem body_end : endsP tbl (kids0 d n) bodyE [2 * n + 1] = some [] := by
  rw [endsP, endsQ, endsP]
  simp only
  rw [leaf_miss (List.getElem?_eq_none (by rw [kids0_len]; omega)), if_pos (by decide), endsQ, endsP]
  rfl
theorem loop0 (h1 : 1 ≤ d) (hr : tbl.has (Str.ofString "r0") = true) (hn : n ≤ 60) {st : List Nat} : ∀ (m j k : Nat), j + m = n → m + 2 ≤ k → loopE (endsP tbl (kids0 d n) bodyE) false st k [2 * j + 1] (odds j) = some (isortN (odds (n + 1)))
  | m, j, 0, _, hk => by omega
  | m, j, k + 1, hj, hk => by
    rw [loopE, odds_add, odds_len]
    rw [if_neg (by simp), if_pos (by omega), if_neg (by simp)]
    match m with
    | 0 =>
      obtain rfl : j = n := by omega
      rw [body_end]
      simp only
      rw [if_pos (by decide)]
      obtain ⟨k, rfl⟩ : ∃ k', k = k' + 1 := ⟨k - 1, by omega⟩
      rfl
    | m + 1 =>
      rw [body_at h1 hr (by omega)]
      simp only
      rw [if_pos (by simp), List.filter_cons, if_pos (by
        rw [Bool.not_eq_true', decide_eq_false_iff_not]
        intro h; have := mem_odds h; omega), List.filter_nil]
      exact loop0 h1 hr hn m (j + 1) k (by omega) (by omega)
theorem rule0 (h1 : 1 ≤ d) (hn : n ≤ 60) (hl : tbl.lookup startP = some start0.2) (hr : tbl.has (Str.ofString "r0") = true) : ruleOk tbl startP (kids0 d n) = true := by
  have e : endsP tbl (kids0 d n) start0.2 [0] = some (isortN (odds (n + 1))) := by
    obtain ⟨us, e0⟩ := (kids0_at d h1 n).1 0 (Nat.zero_le _)
    show endsP tbl (kids0 d n) (.seq [.name (Str.ofString "r0"), .rep bodyE]) [0] = _
    rw [endsP, endsQ, endsP, hr]
    simp only
    rw [leaf_hit (a := 0) e0 rfl, if_pos (by decide), endsQ, endsP]
    rw [show loopE (endsP tbl (kids0 d n) bodyE) false [0 + 1] 100 [0 + 1] [] = some (isortN (odds (n + 1))) from loop0 (st := [1]) h1 hr hn n 0 100 (by omega) (by omega)]
    simp only
    rw [if_pos (by rw [(isortN_perm _).length_eq, odds_len]; omega), endsQ]
  unfold ruleOk
  rw [hl]
  simp only
  rw [e, kids0_len]
  simp only [decide_eq_true_eq]
  rw [(isortN_perm _).mem_iff, odds_succ]
  simp
end
theorem der0 (d n : Nat) (h1 : 1 ≤ d) (h2 : d ≤ 5) (hn : n ≤ 60) : derT (rulesP d 0) (.node startP (kids0 d n)) = true := by
  rw [derT, rule0 h1 hn (rul0 d h1 h2).1 (rul0 d h1 h2).2, kids0_der d h1 h2]; rfl
noncomputable def finT (d : Nat) : Nat → List Tree → Tree
  | 0, M => .node startP [itX d 0, .node tM M]
  | n + 1, M => finT d n [.leaf tK (ln n), .node startP [itm d n (ln n + 1), .node tM M]]
theorem finT_leaf (d : Nat) : ∀ n M, (finT d n M).isLeaf = false
  | 0, M => rfl
  | n + 1, M => finT_leaf d n _
theorem finT_leaves (d : Nat) : ∀ n M, leavesP (finT d n M) = rowP n ++ leavesL M
  | 0, M => by
    rw [finT]
    simp only [leavesP, leavesL, itX, chT_leaves, List.append_nil]; rfl
  | n + 1, M => by
    rw [finT, finT_leaves d n, rowP, ← itm_leaves d n (ln n + 1)]
    simp [leavesL, leavesP]
theorem finT_size (d : Nat) (h2 : d ≤ 5) : ∀ n M, (finT d n M).size ≤ 8 + 11 * n + Tree.sizeL M
  | 0, M => by
    rw [finT]
    simp only [Tree.size, Tree.sizeL, itX, chT_size]; omega
  | n + 1, M => by
    have q := itm_size d n (ln n + 1) h2
    have := finT_size d h2 n [.leaf tK (ln n), .node startP [itm d n (ln n + 1), .node tM M]]
    simp only [Tree.size, Tree.sizeL] at this
    rw [finT]; omega
theorem finT_der (d : Nat) (h1 : 1 ≤ d) (h2 : d ≤ 5) : ∀ n M, derL (rulesP d 1) M = true → ruleOk (rulesP d 1) tM M = true → derT (rulesP d 1) (finT d n M) = true
  | 0, M, q, r => by
    obtain ⟨us, e⟩ := itm_node d 0 0 h1
    have hx := (derX d 1 h1 h2 (by decide) 0).1
    have e : itX d 0 = .node (rN 0) us := e
    rw [finT, derT, derL, derL, derL, derT, q, r, hx, e, (rul1 d h1 h2 0 M us).2.2]; rfl
  | n + 1, M, q, r => by
    rw [finT]
    obtain ⟨us, e⟩ := itm_node d n (ln n + 1) h1
    have hx := itm_der d 1 h1 h2 (by decide) n (ln n + 1)
    refine finT_der d h1 h2 n _ ?_ (rul1 d h1 h2 (ln n) _ us).2.1
    rw [derL, derL, derL, derT, derT, derL, derL, derL, derT, q, r, hx, e, (rul1 d h1 h2 0 M us).2.2]; rfl
noncomputable def itI (d : Nat) : Nat → Tree
  | 0 => itX d 0
  | n + 1 => itm d n (ln n + 1)
noncomputable def csT : Nat → List (Option Ex)
  | 0 => []
  | n + 1 => none :: none :: csT n
noncomputable def nsT (d : Nat) : Nat → List (Str × List Tree)
  | 0 => [(Str.ofString "", [])]
  | n + 1 => (tM, [.leaf tK (ln n)]) :: (startP, [itI d n]) :: nsT d n
section
variable {tbl : Tbl} {emp : List Str} {fs : Fst} {row : List Str} {d m most : Nat} {x : List Str}
theorem go1 (h1 : 1 ≤ d) (h2 : d ≤ 5) (hm : 12 + 6 * d ≤ most) : ∀ n, n ≤ m → ∃ fu k, fu ≤ 30 * (n + 1) ∧ k ≤ 5 ∧ ∀ f, recR (rulesP d 1) (empV 1) (fsV d 1) (rowP m ++ x) most (fu + f) initP = recR (rulesP d 1) (empV 1) (fsV d 1) (rowP m ++ x) most f (S1 (csT n) [itI d n] (nsT d n) (ln n) k)
  | 0, _ => ⟨3 * d + 3, d, by omega, h2, fun f => itK_go _ (init1 d h1 h2) (fun i t q => by
      match i, q with
      | 0, q => cases q; exact at_0 m x) (by show 0 + _ ≤ _; omega) f⟩
  | n + 1, hn => by
    obtain ⟨fu, k, hf, hk, h⟩ := go1 h1 h2 hm n (by omega)
    have at_ := at_step (n := n) (m := m) hn x
    unfold rowStep at at_
    by_cases c : n % 7 = 3
    · rw [if_pos c] at at_
      refine ⟨fu + (3 * d + 10), 1, by omega, by decide, fun f => ?_⟩
      rw [Nat.add_assoc, h, itK_go _ (stepP1 d h1 h2 _ _ _ _ _) at_ (by show k + _ ≤ _; omega) f, itI, ln_succ, if_pos c]
      unfold itm; rw [if_pos c]; rfl
    · rw [if_neg c] at at_
      refine ⟨fu + (3 * d + 7), d, by omega, h2, fun f => ?_⟩
      rw [Nat.add_assoc, h, itK_go _ (stepX1 d h1 h2 _ _ _ _ _) at_ (by show k + _ ≤ _; omega) f, itI, ln_succ, if_neg c]
      unfold itm; rw [if_neg c]; rfl
theorem close1 : ∀ (n : Nat) (M : List Tree) (p k f : Nat), k + 2 * (n + 1) ≤ most → recR tbl emp fs row most (2 * (n + 1) + f) ⟨none :: none :: csT n, (tM, M) :: (startP, [itI d n]) :: nsT d n, p, k⟩ = recR tbl emp fs row most f ⟨[], [(Str.ofString "", [finT d n M])], p, k + 2 * (n + 1)⟩
  | 0, M, p, k, f, hk => itK_go 2 (ts := []) (ts' := []) rfl (fun i t q => by simp at q) hk f
  | n + 1, M, p, k, f, hk => by
    rw [show 2 * (n + 1 + 1) + f = 2 + (2 * (n + 1) + f) by omega, itK_go 2 (ts := []) (ts' := []) (s' := ⟨csT (n + 1), (tM, [.leaf tK (ln n), .node startP [itI d (n + 1), .node tM M]]) :: (startP, [itI d n]) :: nsT d n, p, k + 2⟩) rfl (fun i t q => by simp at q) (by show k + 2 ≤ most; omega)]
    rw [show csT (n + 1) = none :: none :: csT n from rfl, close1 n _ p (k + 2) f (by omega), show k + 2 + 2 * (n + 1) = k + 2 * (n + 1 + 1) by omega]
    rfl
theorem recR_ok {t : Tree} {p k f : Nat} (h : ¬ p < row.length) : recR tbl emp fs row most (f + 1) ⟨[], [(Str.ofString "", [t])], p, k⟩ = some (.ok t p) := by
  rw [recR]
  simp only
  rw [if_neg h]
theorem recR_rest {t : Tree} {p k f : Nat} (h : p < row.length) : recR tbl emp fs row most (f + 1) ⟨[], [(Str.ofString "", [t])], p, k⟩ = some (.bad p) := by
  rw [recR]
  simp only
  rw [if_pos h]
theorem tok1 {P : Prop} {t : Str} {s : Nat} (h : tokAt row s = t) : ∀ i u, [t][i]? = some u → tokAt row (s + i) = u := fun i u q => by
  match i, q with
  | 0, q => cases q; exact h
theorem tok2 {t u : Str} {s : Nat} (h : tokAt row s = t) (h' : tokAt row (s + 1) = u) : ∀ i z, [t, u][i]? = some z → tokAt row (s + i) = z := fun i z q => by
  match i, q with
  | 0, q => cases q; exact h
  | 1, q => cases q; exact h'
end
noncomputable def TellsF (d c v e : Nat) : Prop :=
    (∃ fu t p, fu ≤ 10000 ∧ recR (rulesP d v) (empV v) (fsV d v) (rowP (c - 1)) (enoughP d c v) fu initP = some (.ok t p) ∧ leavesP t = rowP (c - 1) ∧ derT (rulesP d v) t = true ∧ t.isLeaf = false ∧ t.size ≤ 100000) ∧
    (∃ fu p, fu ≤ 10000 ∧ recR (rulesP d v) (empV v) (fsV d v) (rowP (c - 1) ++ [extraP e]) (enoughP d c v) fu initP = some (.bad p) ∧ p = (rowP (c - 1)).length + (if extraP e == Str.ofString "," then 1 else 0))
theorem extra_or (e : Nat) : (extraP e == tK) = true ∧ extraP e = tK ∨ (extraP e == tK) = false ∧ (extraP e = tC ∨ extraP e = tX) := by
  match e with
  | 0 => exact .inr ⟨by decide, .inl rfl⟩
  | 1 => exact .inr ⟨by decide, .inr rfl⟩
  | _ + 2 => exact .inl ⟨by show (tK == tK) = true; decide, rfl⟩
theorem tells0 {d c e : Nat} (h1 : 1 ≤ d) (h2 : d ≤ 5) (h3 : 1 ≤ c) (h4 : c ≤ 60) : TellsF d c 0 e := by
  have hm : 12 + 6 * d ≤ enoughP d c 0 := by unfold enoughP; omega
  constructor
  · obtain ⟨fu, k, hf, hk, h⟩ := go0 (m := c - 1) (x := []) h1 h2 hm (c - 1) (Nat.le_refl _)
    have e0 := at_end (m := c - 1) [] 0
    rw [List.append_nil] at h e0
    rw [Nat.add_zero] at e0
    refine ⟨fu + (2 + 1), .node startP (kids0 d (c - 1)), ln (c - 1), by omega, ?_, ?_, der0 d _ h1 h2 (by omega), rfl, ?_⟩
    · rw [h, itK_go 2 (end0 d h1 h2 eofS (.inl rfl) _ _ _) (tok1 (P := True) e0) (by show k + 2 ≤ _; omega), recR_ok (Nat.lt_irrefl _)]
    · rw [leavesP, kids0_leaves]
    · have := kids0_size d h2 (c - 1)
      rw [Tree.size]; omega
  · obtain ⟨fu, k, hf, hk, h⟩ := go0 (m := c - 1) (x := [extraP e]) h1 h2 hm (c - 1) (Nat.le_refl _)
    have e0 := at_end (m := c - 1) [extraP e] 0
    have e1 := at_end (m := c - 1) [extraP e] 1
    rw [Nat.add_zero] at e0
    have hl : ln (c - 1) < (rowP (c - 1) ++ [extraP e]).length := by rw [List.length_append]; simp
    rcases extra_or e with ⟨q, q'⟩ | ⟨q, q'⟩
    · rw [q'] at e0 e1
      obtain ⟨w, ns, hs, ho⟩ := comma0 d h1 h2 (kids0 d (c - 1)) (ln (c - 1)) k
      refine ⟨fu + (4 + 1), ln (c - 1) + 1, by omega, ?_, by rw [if_pos q]⟩
      rw [q'] at h ⊢
      rw [h, itK_go 4 hs (tok2 e0 e1) (by show k + 4 ≤ _; omega)]
      exact recR_out (by simp) (by show 1 + 1 ≤ _; omega) (by show stepK _ _ _ (tokAt _ _) _ = _; rw [show tokAt (rowP (c - 1) ++ [tK]) (ln (c - 1) + 1) = eofS from e1]; exact ho)
    · refine ⟨fu + (2 + 1), ln (c - 1), by omega, ?_, by rw [if_neg (by rw [q]; exact Bool.false_ne_true)]; rfl⟩
      rw [h, itK_go 2 (end0 d h1 h2 (extraP e) (.inr q') _ _ _) (tok1 (P := True) e0) (by show k + 2 ≤ _; omega), recR_rest hl]
theorem tells1 {d c e : Nat} (h1 : 1 ≤ d) (h2 : d ≤ 5) (h3 : 1 ≤ c) (h4 : c ≤ 60) : TellsF d c 1 e := by
  have hm : 12 + 6 * d + 4 * c ≤ enoughP d c 1 := by unfold enoughP; omega
  constructor
  · obtain ⟨fu, k, hf, hk, h⟩ := go1 (most := enoughP d c 1) (m := c - 1) (x := []) h1 h2 (by omega) (c - 1) (Nat.le_refl _)
    have e0 := at_end (m := c - 1) [] 0
    rw [List.append_nil] at h e0
    rw [Nat.add_zero] at e0
    refine ⟨fu + (2 + (2 * (c - 1 + 1) + 1)), finT d (c - 1) [], ln (c - 1), by omega, ?_, ?_, ?_, finT_leaf d _ _, ?_⟩
    · rw [h, itK_go 2 (end1 d h1 h2 eofS (.inl rfl) _ _ _ _ _) (tok1 (P := True) e0) (by show k + 2 ≤ _; omega), close1 _ _ _ _ _ (by omega), recR_ok (Nat.lt_irrefl _)]
    · rw [finT_leaves]; simp [leavesL]
    · exact finT_der d h1 h2 _ _ rfl (rul1 d h1 h2 0 [] []).1
    · have := finT_size d h2 (c - 1) []
      simp only [Tree.sizeL] at this; omega
  · obtain ⟨fu, k, hf, hk, h⟩ := go1 (most := enoughP d c 1) (m := c - 1) (x := [extraP e]) h1 h2 (by omega) (c - 1) (Nat.le_refl _)
    have e0 := at_end (m := c - 1) [extraP e] 0
    have e1 := at_end (m := c - 1) [extraP e] 1
    rw [Nat.add_zero] at e0
    have hl : ln (c - 1) < (rowP (c - 1) ++ [extraP e]).length := by rw [List.length_append]; simp
    rcases extra_or e with ⟨q, q'⟩ | ⟨q, q'⟩
    · rw [q'] at e0 e1
      obtain ⟨w, ns, hs, ho⟩ := comma1 d h1 h2 (csT (c - 1)) [itI d (c - 1)] (nsT d (c - 1)) (ln (c - 1)) k
      refine ⟨fu + (7 + 1), ln (c - 1) + 1, by omega, ?_, by rw [if_pos q]⟩
      rw [q'] at h ⊢
      rw [h, itK_go 7 hs (tok2 e0 e1) (by show k + 7 ≤ _; omega)]
      exact recR_out (by simp) (by show 3 + 1 ≤ _; omega) (by show stepK _ _ _ (tokAt _ _) _ = _; rw [show tokAt (rowP (c - 1) ++ [tK]) (ln (c - 1) + 1) = eofS from e1]; exact ho)
    · refine ⟨fu + (2 + (2 * (c - 1 + 1) + 1)), ln (c - 1), by omega, ?_, by rw [if_neg (by rw [q]; exact Bool.false_ne_true)]; rfl⟩
      rw [h, itK_go 2 (end1 d h1 h2 (extraP e) (.inr q') _ _ _ _ _) (tok1 (P := True) e0) (by show k + 2 ≤ _; omega), close1 _ _ _ _ _ (by omega), recR_rest hl]
noncomputable def altA : Ex := .alt [.seq [.name startP, .text tX], .text tX]
noncomputable def seqA : Ex := .seq [.name startP, .text tX]
theorem ag1 (w : List (Option Ex)) (ns : List (Str × List Tree)) (p k : Nat) (t : Str) : stepK againP [] fsA t ⟨some (.name startP) :: w, ns, p, k⟩ = some (.inl ⟨some altA :: none :: w, (startP, []) :: ns, p, k⟩) := by kernel_rfl
theorem ag2 (w : List (Option Ex)) (ns : List (Str × List Tree)) (p k : Nat) : stepK againP [] fsA tX ⟨some altA :: w, ns, p, k⟩ = some (.inl ⟨some seqA :: w, ns, p, k⟩) := by kernel_rfl
theorem ag3 (w : List (Option Ex)) (ns : List (Str × List Tree)) (p k : Nat) (t : Str) : stepK againP [] fsA t ⟨some seqA :: w, ns, p, k⟩ = some (.inl ⟨some (.name startP) :: some (.text tX) :: w, ns, p, k⟩) := by kernel_rfl
theorem againL {row : List Str} {most : Nat} (f : Nat) (w : List (Option Ex)) (ns : List (Str × List Tree)) (p k : Nat) (ht : tokAt row p = tX) (hk : most + 1 ≤ k + f) (hk' : k ≤ most) : recR againP [] fsA row most f ⟨some (.name startP) :: w, ns, p, k⟩ = some .limit := by
  obtain ⟨f, rfl⟩ : ∃ f', f = f' + 1 := ⟨f - 1, by omega⟩
  by_cases c1 : most < k + 1
  · exact recR_lim (by simp) c1
  rw [recR_step (s' := ⟨some altA :: none :: w, (startP, []) :: ns, p, k + 1⟩) (by simp) (by show k + 1 ≤ most; omega) (ag1 w ns p (k + 1) _)]
  obtain ⟨f, rfl⟩ : ∃ f', f = f' + 1 := ⟨f - 1, by omega⟩
  by_cases c2 : most < k + 2
  · exact recR_lim (by simp) c2
  rw [recR_step (s' := ⟨some seqA :: none :: w, (startP, []) :: ns, p, k + 2⟩) (by simp) (by show k + 1 + 1 ≤ most; omega) (by show stepK _ _ _ (tokAt row p) _ = _; rw [ht]; exact ag2 (none :: w) _ p (k + 2))]
  obtain ⟨f, rfl⟩ : ∃ f', f = f' + 1 := ⟨f - 1, by omega⟩
  by_cases c3 : most < k + 3
  · exact recR_lim (by simp) c3
  rw [recR_step (s' := ⟨some (.name startP) :: some (.text tX) :: none :: w, (startP, []) :: ns, p, k + 3⟩) (by simp) (by show k + 2 + 1 ≤ most; omega) (ag3 (none :: w) _ p (k + 3) _)]
  exact againL f _ _ p (k + 3) ht (by omega) (by omega)
termination_by f
theorem lawF {d c v e : Nat} (h1 : 1 ≤ d) (h2 : d ≤ 5) (h3 : 1 ≤ c) (h4 : c ≤ 60) (h5 : v ≤ 1) : LawF d c v e := by
  have T : TellsF d c v e := by
    match v, h5 with
    | 0, _ => exact tells0 h1 h2 h3 h4
    | 1, _ => exact tells1 h1 h2 h3 h4
  refine ⟨⟨_, _, Ready_of (rdyD d v h1 h2 h5), T.1, T.2, 3, by decide, two0 d v h1 h2 h5 _⟩, _, _, Ready_of rdyA, enoughP d c v + 1, ?_, ?_⟩
  · have : c * v ≤ 60 := Nat.le_trans (Nat.mul_le_mul h4 h5) (by decide)
    unfold enoughP; rw [Nat.mul_assoc]; omega
  · refine againL _ [] _ 0 0 ?_ (by omega) (by omega)
    have := at_0 (c - 1) []
    rwa [List.append_nil] at this
noncomputable def kAt : List Addr := [105, 104, 176, 175, 44, 43, 24, 23, 41, 81, 88, 95, 102, 173]
noncomputable def kOf (h : Heap) (l : List Addr) : Frag := l.filterMap fun a => (h.get? a).map fun o => (a, o)
theorem kOf_in (h : Heap) (l : List Addr) : (kOf h l).In h := by
  intro a o e
  induction l with
  | nil => cases e
  | cons c l ih =>
    unfold kOf at e ih
    rw [List.filterMap_cons] at e
    cases q : h.get? c with
    | none => rw [q] at e; exact ih e
    | some oc =>
      rw [q] at e
      simp only [Option.map_some, List.lookup_cons] at e
      cases r : a == c with
      | true => rw [r] at e; cases e; rw [beq_iff_eq.mp r]; exact q
      | false => rw [r] at e; exact ih e
noncomputable def nmF (h : Heap) (f : Addr) : Option FuncData := match h.get? f with
  | some o => (match o.data with
    | .func d => if h.codeRecOk d.code d.qualname then some { d with kwdefaults := .none, doc := .none, pyModule := .none, annotations := none, code := .none, closureTuple := .none } else none
    | _ => none)
  | none => none
noncomputable def nmW (i : Nat) (dV : Value) : FuncData := fnOf (dName (stmtAt i)) (qName i) (dParams (stmtAt i)) (dBody (stmtAt i)) (dScope (stmtAt i)) dV .none .none .none none .none .none
theorem fnAt_of {h : Heap} {f : Addr} {i : Nat} {dV : Value} (e : nmF h f = some (nmW i dV)) : FnAt h f i dV := by
  unfold nmF at e
  cases q : h.get? f with
  | none => rw [q] at e; cases e
  | some o =>
    rw [q] at e
    obtain ⟨oc, od, dt, osl⟩ := o
    cases dt with
    | func d =>
      simp only at e
      by_cases c : h.codeRecOk d.code d.qualname = true
      · rw [if_pos c] at e
        obtain ⟨n, qn, pa, bo, sc, gl, cl, df, kw, doc, pm, an, cd, ct, bi⟩ := d
        have e := Option.some.inj e
        unfold nmW fnOf at e
        simp only [FuncData.mk.injEq, true_and] at e
        obtain ⟨h1, h2, h3, h4, h5, h6, h7, h8, h9⟩ := e
        subst h1 h2 h3 h4 h5 h6 h7 h8 h9
        exact ⟨oc, od, osl, kw, doc, pm, an, cd, ct, q, Heap.CodeRec.of_ok c⟩
      · rw [if_neg c] at e; cases e
    | _ => cases e
noncomputable def clsOk (K : Frag) (C : Addr) (attrs : List Str) (meths : List (Str × Nat)) : Bool :=
  (findIn K (.ref C) "__getattribute__" == some (some (.builtin "object.__getattribute__")) && (findIn K (.ref C) "__getattr__" == some none && (findIn K (.ref C) "__setattr__" == some (some (.builtin "object.__setattr__")) &&
   (makesIn K C && (plainOver K C && (hasDictIn K C && (keepIn K (.ref C) && (attrs.all (fun n => findIn K (.ref C) n == some none) && meths.all fun p => findIn K (.ref C) p.1 == some (some (.ref (fa p.2))) && typeIn K (.ref (fa p.2)) == some (.type "function")))))))))
theorem clsF_of {K : Frag} {C : Addr} {attrs : List Str} {meths : List (Str × Nat)} (e : clsOk K C attrs meths = true) : ClsF K fa C attrs meths := by
  unfold clsOk at e
  simp only [Bool.and_eq_true, beq_iff_eq, List.all_eq_true] at e
  obtain ⟨h1, h2, h3, h4, h5, h6, h7, h8, h9⟩ := e
  exact ⟨h1, h2, h3, h4, h5, h6, h7, h8, h9⟩
noncomputable def excOk (h : Heap) (K : Frag) (C Y fI : Addr) : Bool :=
  (match h.get? C with
  | some o => (match o.data with
    | .cls cd => decide (o.cls = .type "type") && (decide (cd.mro = .ref C :: .ref Y :: excM) && (!cd.hasDel && (cd.hasDict && (decide (o.slots.size = 6) && (decide (o.slots[4]? = some (some (.builtin "Exception.__new__"))) && (h.isNs cd.ns && (h.nsMap cd.ns (Str.ofString "__init__") == some (.ref fI))))))))
    | _ => false)
  | none => false) && ((match h.get? Y with
  | some o => (match o.data with
    | .cls cd => h.isNs cd.ns && (h.nsMap cd.ns (Str.ofString "__init__")).isNone
    | _ => false)
  | none => false) && (findIn K (.ref C) "__setattr__" == some (some (.builtin "object.__setattr__")) && (findIn K (.ref C) (Str.ofString "what") == some none && (match h.get? fI with | some o => decide (o.cls = .type "function") | none => false))))
theorem excF_of {h : Heap} {K : Frag} {C Y fI : Addr} (e : excOk h K C Y fI = true) : ExcF h K C fI := by
  unfold excOk at e
  rw [Bool.and_eq_true, Bool.and_eq_true, Bool.and_eq_true, Bool.and_eq_true] at e
  obtain ⟨e1, e2, e3, e4, e5⟩ := e
  refine ⟨?_, beq_iff_eq.mp e3, beq_iff_eq.mp e4, ?_⟩
  rotate_left
  · cases q : h.get? fI with
    | none => rw [q] at e5; cases e5
    | some o => rw [q] at e5; exact ⟨o, rfl, of_decide_eq_true e5⟩
  cases q : h.get? C with
  | none => rw [q] at e1; cases e1
  | some o =>
    rw [q] at e1
    obtain ⟨oc, dd, dt, sl⟩ := o
    cases dt with
    | cls cd =>
      obtain ⟨nm, bs, mro, N, qn, hdct, sn, sub, ab, col, hdel⟩ := cd
      simp only [Bool.and_eq_true, decide_eq_true_eq, Bool.not_eq_true', beq_iff_eq] at e1
      obtain ⟨h1, h2, h3, h4, h5, h6, h7, h8⟩ := e1
      obtain ⟨l⟩ := sl
      obtain ⟨k0, k1, k2, k3, k5, rfl⟩ := six_places (l := l) (by simpa using h5) (by simpa using h6)
      subst h1 h2 h3 h4
      cases q' : h.get? Y with
      | none => rw [q'] at e2; cases e2
      | some o' =>
        rw [q'] at e2
        obtain ⟨oc', dd', dt', sl'⟩ := o'
        cases dt' with
        | cls cd' =>
          simp only [Bool.and_eq_true, Option.isNone_iff_eq_none] at e2
          exact ⟨nm, qn, N, bs, Y, sn, sub, ab, col, dd, k0, k1, k2, k3, k5, _, ⟨q, .of_isNs h7, h8, .own q' (.of_isNs e2.1) e2.2 .base⟩⟩
        | _ => cases e2
    | _ => cases e1
noncomputable def cloOk (h : Heap) : Bool := match h.nsMap mainGlobals (Str.ofString "CLOSE") with
  | some (.ref a) => (match h.get? a with
    | some o => (match o.data with
      | .seq arr _ => decide (o.cls = .type "tuple") && decide (arr.toList.map er = [vS (Str.ofString "close"), vS (Str.ofString "")])
      | _ => false)
    | none => false)
  | _ => false
noncomputable def endOk (h : Heap) : Bool := match h.nsMap mainGlobals (Str.ofString "END") with
  | some v => decide (er v = vS (Str.ofString "eof"))
  | none => false
noncomputable def gloOk (h : Heap) (n : Str) (a : Addr) : Bool := h.nsMap mainGlobals n == some (.ref a)
noncomputable def buiOk (h : Heap) (n : Str) (v : Value) : Bool := (h.nsMap mainGlobals n).isNone && h.nsMap builtinsNs n == some v
noncomputable def dftOk (h : Heap) : Bool := match h.get? 202 with
  | some o => (match o.data with
    | .seq arr _ => arr.size == 1
    | _ => false)
  | none => false
noncomputable def chk (h : Heap) : Bool :=
  h.isNs mainGlobals && (h.isNs builtinsNs && (h.noLimitOk && ((h.get? sysModules).isSome && (defIdx.all (fun i => gloOk h (dName (stmtAt i)) (fa i)) && (gloOk h (dName (stmtAt 22)) (fa 22) &&
  (gloOk h (Str.ofString "Grammar") aG && (gloOk h (Str.ofString "Recognised") aR && (gloOk h (Str.ofString "LimitReached") aC && (endOk h && (cloOk h &&
  (bTypes.all (fun n => buiOk h (Str.ofString n) (.type n)) && (bFuns.all (fun n => buiOk h (Str.ofString n) (.builtin n)) && (buiOk h (Str.ofString "len") (.builtin "len") && (dftOk h &&
  (clsOk (kOf h kAt) aG gAttrs gMeths && (clsOk (kOf h kAt) aR rAttrs rMeths && excOk h (kOf h kAt) aC 24 (fa 102)))))))))))))))))
noncomputable def fIds : List Nat := defIdx ++ metIdx
theorem glo_of {h : Heap} {n : Str} {a : Addr} (hg : h.isNs mainGlobals = true) (e : gloOk h n a = true) : Glo h n (.ref a) := ⟨_, .of_isNs hg, beq_iff_eq.mp e⟩
theorem bui_of {h : Heap} {n : Str} {v : Value} (hg : h.isNs mainGlobals = true) (hb : h.isNs builtinsNs = true) (e : buiOk h n v = true) : Bui h n v := by
  unfold buiOk at e
  rw [Bool.and_eq_true, Option.isNone_iff_eq_none, beq_iff_eq] at e
  exact ⟨_, _, .of_isNs hg, .of_isNs hb, e.1, e.2⟩
theorem zok_of {h : Heap} (e : chk h = true) (hf : fIds.map (fun i => nmF h (fa i)) = fIds.map fun i => some (nmW i .none)) (h22 : nmF h (fa 22) = some (nmW 22 (.ref 202))) : ZOk h (kOf h kAt) := by
  unfold chk at e
  simp only [Bool.and_eq_true, List.all_eq_true] at e
  obtain ⟨e1, e2, e3, e4, e5, e6, e7, e8, e9, e10, e11, e12, e13, e14, e15, e16, e17, e18⟩ := e
  refine ⟨.of_ok e3, fun i hi => glo_of e1 (e5 i hi), fun i hi => fnAt_of (List.map_inj_left.mp hf i hi), e4, kOf_in _ _, clsF_of e16, clsF_of e17, glo_of e1 e7, glo_of e1 e8, ?_, ?_, fun n hn => bui_of e1 e2 (e12 n hn), fun n hn => bui_of e1 e2 (e13 n hn), bui_of e1 e2 e14, glo_of e1 e9, excF_of e18, glo_of e1 e6, ?_⟩
  · unfold endOk at e10
    cases q : h.nsMap mainGlobals (Str.ofString "END") with
    | none => rw [q] at e10; cases e10
    | some v => rw [q] at e10; exact ⟨v, of_decide_eq_true e10, _, .of_isNs e1, q⟩
  · unfold cloOk at e11
    split at e11
    · rename_i a q
      split at e11
      · rename_i o ho
        split at e11
        · rename_i arr n hd
          rw [Bool.and_eq_true, decide_eq_true_eq, decide_eq_true_eq] at e11
          exact ⟨a, o, ⟨_, .of_isNs e1, q⟩, ho, e11.1, arr, n, hd, e11.2⟩
        · cases e11
      · cases e11
    · cases e11
  · unfold dftOk at e15
    split at e15
    · rename_i o ho
      split at e15
      · rename_i arr n hd
        obtain ⟨l⟩ := arr
        obtain ⟨v, rfl⟩ := List.length_eq_one_iff.mp (beq_iff_eq.mp e15)
        exact ⟨202, o, v, n, ho, hd, fnAt_of h22⟩
      · cases e15
    · cases e15
section
variable {h h' : Heap} (hk : ∀ b o, h.get? b = some o → h'.get? b = some o)
include hk
theorem Glo.keeps {x : Str} {v : Value} (g : Glo h x v) : Glo h' x v := let ⟨m, a, b⟩ := g; ⟨m, a.keeps hk, b⟩
theorem Bui.keeps {x : Str} {v : Value} (g : Bui h x v) : Bui h' x v := let ⟨m, m', a, b, c⟩ := g; ⟨m, m', a.keeps hk, b.keeps hk, c⟩
theorem FnAt.keeps {f : Addr} {i : Nat} {dV : Value} (g : FnAt h f i dV) : FnAt h' f i dV := by
  obtain ⟨a1, a2, a3, a4, a5, a6, a7, a8, a9, p⟩ := g
  exact ⟨a1, a2, a3, a4, a5, a6, a7, a8, a9, ⟨hk _ _ p.ho, p.hc.keeps hk⟩⟩
theorem ZOk.keeps {K : Frag} (z : ZOk h K) : ZOk h' K where
  lim := z.lim.keeps hk
  glo := fun i hi => (z.glo i hi).keeps hk
  fn := fun i hi => (z.fn i hi).keeps hk
  mods := let ⟨o, e⟩ := Option.isSome_iff_exists.mp z.mods; Option.isSome_iff_exists.mpr ⟨o, hk _ _ e⟩
  KI := z.KI.keeps hk
  cG := z.cG
  cR := z.cR
  gG := z.gG.keeps hk
  gR := z.gR.keeps hk
  endv := let ⟨v, a, b⟩ := z.endv; ⟨v, a, b.keeps hk⟩
  clo := let ⟨a, o, p, q, r⟩ := z.clo; ⟨a, o, p.keeps hk, hk _ _ q, r⟩
  bt := fun n hn => (z.bt n hn).keeps hk
  bf := fun n hn => (z.bf n hn).keeps hk
  len := z.len.keeps hk
  gC := z.gC.keeps hk
  exC := ⟨by
    obtain ⟨a1, a2, a3, a4, a5, a6, a7, a8, a9, b1, b2, b3, b4, b5, b6, b7, p⟩ := z.exC.obj
    exact ⟨a1, a2, a3, a4, a5, a6, a7, a8, a9, b1, b2, b3, b4, b5, b6, b7, ⟨hk _ _ p.hC, p.hN.keeps hk, p.hi, p.tl.keeps hk⟩⟩, z.exC.sa, z.exC.wh, let ⟨o, p, q⟩ := z.exC.fc; ⟨o, hk _ _ p, q⟩⟩
  g22 := z.g22.keeps hk
  fn22 := let ⟨t, o, v, n, p, q, r⟩ := z.fn22; ⟨t, o, v, n, hk _ _ p, q, r.keeps hk⟩
end
noncomputable def hk : Hook where
  α := Bool × (List (Option FuncData) × Option FuncData)
  obs := fun s => (chk s.heap, (fIds.map (fun i => nmF s.heap (fa i)), nmF s.heap (fa 22)))
  val := fun _ => (true, (fIds.map (fun i => some (nmW i .none)), some (nmW 22 (.ref 202))))
  says := fun _ h => ∃ K, ZOk h K
  of := fun _ s e => ⟨_, zok_of (congrArg Prod.fst e) (congrArg (fun x => x.2.1) e) (congrArg (fun x => x.2.2) e)⟩
  keeps := fun _ _ _ ⟨K, z⟩ hk => ⟨K, z.keeps hk⟩
theorem well_ints {P : Params} {h : Heap} : ∀ {ns : List Int} {vs : List Value}, WellAll P h vs (ofPys (ns.map PyData.int)) → vs.map er = ns.map vI
  | [], _, q => by cases q; rfl
  | n :: ns, _, q => by
    cases q with
    | cons h q =>
      cases h
      rw [List.map_cons, List.map_cons, well_ints q]; rfl
theorem well_list {P : Params} {h : Heap} {a : Addr} {ns : List Int} (q : Well P h (.ref a) (ofPy (.list (ns.map PyData.int)))) : ∃ o, h.get? a = some o ∧ LstO (ns.map vI) o := by
  rw [ofPy] at q
  cases q with
  | list h1 h2 => exact ⟨_, h1, _, _, rfl, well_ints h2⟩
theorem top_call {w : World} {s₀ s₁ : Shared} {mg mb : Str → Option Value} (T : Top pw (looseW pw []) (ExcName.means s₀.heap) mg mb s₁.heap) (Y : hk.says w s₁.heap) {f : Addr} (hmg : mg (Str.ofString "law") = some (.ref f)) (hg : s₁.gens = #[])
    {args : List WData} {vals : List Value} {as : List Addr} (hpre : PySem.Challenge.rw_pq0752_01.row.claim.pre args = true) (hlay : WData.layableAll args = true) (hrd : ReadsAllW PySem.Challenge.rw_pq0752_01.row.records (classAt s₀.heap) s₁.heap vals args as)
    (hwl : WellAll w.params s₁.heap vals args) (hlo : ∀ (a : Addr), a ∈ as → (a == sysModules) = false) :
    wpAny (model pw w) callerA (call (.ref f) vals) (fun v s' => GoodWG PySem.Challenge.rw_pq0752_01.row.claim (classAt s₀.heap) (ExcName.means s₀.heap) args s₁ (.ok (.ret v)) s')
      (fun e s' => GoodWG PySem.Challenge.rw_pq0752_01.row.claim (classAt s₀.heap) (ExcName.means s₀.heap) args s₁ (.error e) s') s₁ := by
  obtain ⟨K, z⟩ := Y
  have hf : f = fa 30 := by
    obtain ⟨m, hm, e⟩ := z.glo 30 (by decide)
    have e' := (hm.agree T.g _).symm.trans e
    rw [show dName (stmtAt 30) = Str.ofString "law" from rfl, hmg] at e'
    exact Value.ref.inj (Option.some.inj e')
  subst hf
  wrow_args hpre hlay hrd hwl hlo
  rename_i ns _ _ _ _ _ _ _ ls _ _ _ _ w1 _ _ _ hlen _
  obtain ⟨o, ho, hφ⟩ := well_list w1
  let Z : Zc := ⟨w, s₁.heap, K, z⟩
  have ok : Ok Z.h₀ s₁.heap.get? [] s₁.heap := ⟨fun _ _ e => e, fun _ _ e => e, fun _ h => by simp at h, List.Pairwise.nil, fun _ h => by simp at h⟩
  refine wpAny_call (enterX (Z := Z) (j := 30) (n := 300) (us := [.ref ls]) [Str.ofString "script"] ⟨rfl, by decide, by decide⟩ (z.fn 30 (by decide)) (fun vs hv _ _ _ _ _ _ _ _ => by obtain ⟨a, rfl⟩ := one_of hv; exact .of_eq rfl) rfl rfl ok [.ref ls] rfl (fun y h₁ tk hyn hyA hyf hyG hyL hk₁ ok₁ => ?_))
  have hclo : Clo Z s₁.heap.get? := by
    obtain ⟨a, o, g, h1, h2, h3⟩ := z.clo
    exact ⟨a, g, o, h1, h2, h3⟩
  have L : S y (dBody (stmtAt 30)) s₁.heap.get? [Ch.loc y.L [(Str.ofString "script", .ref ls)]] fun f b' o' => f = .ret (.bool true) := by
    refine law_ok (by rw [hyA]; exact Around.frames_deeper rfl) hyf (by omega) ⟨o, ho, hφ⟩ (by omega) hclo ?_ fun _ _ => rfl
    have p0 := partP_lt (ns := ns) (spot := 0) (ways := 5) (by decide)
    have p1 := partP_lt (ns := ns) (spot := 1) (ways := 60) (by decide)
    have p2 := partP_lt (ns := ns) (spot := 2) (ways := 2) (by decide)
    exact lawF (by omega) (by omega) (by omega) (by omega) (by omega)
  refine L.go ok₁ (by rw [hyG]; trivial) fun fl u b' o' h' tk' hr p ok' _ fr => ?_
  subst p
  cases fl with
  | ret v =>
    have hv : v = .bool true := er_bool (Flow.ret.inj hr)
    subst hv
    refine ⟨.inl ⟨_, .bool true, [], rfl, fun _ => rfl, .bool true, by wrow_post, fun _ => ⟨.nil, fun _ h => nomatch h⟩⟩, .of_keep fun a ob q => fr.keep a ob (fun hm => ?_) (hk₁ _ _ q), rfl, .of_eq hg⟩
    have e : a = y.L := by simpa using hm
    rw [e, hyL] at q; cases q
  | _ => cases hr
theorem said : PySem.Challenge.rw_pq0752_01.wellSaid = true := by kernel_rfl
theorem top : PySem.Challenge.rw_pq0752_01.Holds := by
  w_on
  refine holds_law said fun _ => ?_
  refine holds_open (q := pw) (loose := []) (Xt := fun s => xlAt pw [] s && recOk (RowW.records PySem.Challenge.rw_pq0752_01.row.toRowW) s) (XP := XL pw []) (Yf := hk.obs) (Ya := hk.val) (YP := hk.says) (N := 3610) ?hl hk.of hk.keeps (fun s e => xl_of s (Bool.and_eq_true_iff.mp e).1) XL.keeps (by rfl) (by rfl) (by rfl) (fun s e => recFacts_of (Bool.and_eq_true_iff.mp e).2) (by rfl) (by first | assumption | decide +kernel) (by decide +kernel) ⟨rfl, rfl, rfl, rfl, rfl, by decide +kernel⟩ ?hw ?hc
  case hw => w_witness2
  case hl => intro w; kernel_rfl
  case hc =>
    intro w s₀ s₁ mg mb G Y fa o pm cd doc dV kV ho hd hcd hD hmg hg args vals as hpre hlay hrd hwl hlo
    exact top_call G.T Y hmg hg hpre hlay hrd hwl hlo
end
end Pq
theorem PySem.Challenge.cw_pq0752_01_holds : PySem.Challenge.rw_pq0752_01.Holds :=
  Pq.top
