import PyProof.Rows.All
import Wide.All
import OpenK.AllK
import Wide.FinOn
import PySem.Challenge.RW_sj0051_01
open PySem PySem.W PyProof.Rows
set_option Elab.async false
set_option linter.unusedVariables false
set_option linter.unusedSimpArgs false

noncomputable section
open PySem PySem.W PyProof.Rows PySem.Calls PySem.Spec
namespace Mine

noncomputable def stAt (i : Nat) : Stmt := PySem.Challenge.pw_sj0051_01.main.body.getD i (.Pass ⟨0, 0, 0, 0⟩)
noncomputable def clsBody : Stmt → List Stmt
  | .ClassDef _ _ _ b _ _ _ _ _ _ _ => b
  | _ => []
noncomputable def mtAt (i j : Nat) : Stmt := (clsBody (stAt i)).getD j (.Pass ⟨0, 0, 0, 0⟩)

structure Cx where
  prog : Program
  w : World
  K : Frag
  p : Program
  loose : List Str
  mg : Str → Option Value
  mb : Str → Option Value
  B : Heap

structure FnIn (K : Frag) (qual : Str) (f : Addr) (st : Stmt) : Prop where
  keep : keepIn K (.ref f) = true
  obj : ∀ nm ar bd dl rt tp sc ts bi po, st = .FunctionDef nm ar bd dl rt tp sc ts bi po →
    ∃ dV kV doc pm an cdv ct od osl oc, K.lookup f = some ⟨oc, od, .func (fnOf nm qual ar bd sc dV kV doc pm an cdv ct), osl⟩ ∧ codeIn K cdv qual = true ∧ (ar.defaults = [] → dV = .none) ∧ kV = .none

abbrev Cx.M (C : Cx) : Model := model C.prog C.w

structure Am (A : Around) (n : Nat) : Prop where
  hh : A.handled = none
  hd : A.depth + 2 * n < recursionLimit
  hu : A.units + 10 * n < 9000

theorem Am.deeper {A : Around} {n : Nat} (h : Am A (n + 1)) (env : Env) : Am (A.deeper env) n :=
  ⟨h.hh, by have := h.hd; rw [depth_deeper]; lia, by have := h.hu; rw [units_deeper]; lia⟩
theorem Am.in1 {A : Around} {n : Nat} (h : Am A (n + 1)) : Am A.in1 n :=
  ⟨h.hh, by have := h.hd; show A.depth + _ < _; lia, by have := h.hu; show A.units + 1 + _ < _; lia⟩
theorem Am.le {A : Around} {n k : Nat} (h : Am A n) (hk : k ≤ n) : Am A k :=
  ⟨h.hh, by have := h.hd; lia, by have := h.hu; lia⟩
theorem Am.room {A : Around} {n : Nat} (h : Am A n) : A.depth < recursionLimit := by have := h.hd; lia

noncomputable def IsT (o : Obj) : Prop := o.cls = .type "tuple" ∧ ∃ xs n, o.data = .seq xs n
noncomputable def TupLe (h h' : Heap) : Prop := ∀ b o, IsT o → h.get? b = some o → h'.get? b = some o
theorem TupLe.refl (h : Heap) : TupLe h h := fun _ _ _ e => e
theorem TupLe.trans {a b c : Heap} (x : TupLe a b) (y : TupLe b c) : TupLe a c := fun q o t e => y q o t (x q o t e)

structure Info where
  H : Heap
  G : Heap
  L : Addr
  z : Shared

structure St (I : Info) (m : Str → Option Value) (led : List (Addr × Obj)) (s : Shared) : Prop where
  fr : Fr I.H I.L s.heap m
  news : News I.H I.L s.heap led
  nd : (led.map (·.1)).Nodup
  tup : TupLe I.G s.heap
  gens : s.gens = I.z.gens
  os : s.os = I.z.os

abbrev St.at {I : Info} {m : Str → Option Value} {led : List (Addr × Obj)} {s : Shared} (_ : St I m led s) (led' : List (Addr × Obj)) (s' : Shared) : Prop := St I m led' s'

structure Pre (B h : Heap) (led : List (Addr × Obj)) : Prop where
  base : ∀ b o, B.get? b = some o → h.get? b = some o
  at_ : ∀ p ∈ led, h.get? p.1 = some p.2 ∧ B.get? p.1 = none
  nd : (led.map (·.1)).Nodup
  nt : ∀ p ∈ led, ¬ IsT p.2

structure Post (M : List Addr) (s s' : Shared) : Prop where
  keep : ∀ b o, b ∉ M → s.heap.get? b = some o → s'.heap.get? b = some o
  tup : TupLe s.heap s'.heap
  gens : s'.gens = s.gens
  os : s'.os = s.os

theorem Post.trans {M : List Addr} {a b c : Shared} (x : Post M a b) (y : Post M b c) : Post M a c :=
  ⟨fun q o h e => y.keep q o h (x.keep q o h e), x.tup.trans y.tup, y.gens.trans x.gens, y.os.trans x.os⟩
theorem Post.mono {M M' : List Addr} {a b : Shared} (x : Post M a b) (h : ∀ q ∈ M, q ∈ M') : Post M' a b :=
  ⟨fun q o n e => x.keep q o (fun k => n (h q k)) e, x.tup, x.gens, x.os⟩

structure Stat (C : Cx) (h : Heap) : Prop where
  X : C.K.In h
  T : TopRead C.p C.loose C.mg C.mb h
  base : ∀ b o, C.B.get? b = some o → h.get? b = some o

theorem Stat.keeps {C : Cx} {h h' : Heap} (S : Stat C h) (k : ∀ b o, h.get? b = some o → h'.get? b = some o) : Stat C h' :=
  ⟨S.X.keeps k, S.T.keeps k, fun b o e => k b o (S.base b o e)⟩

section
variable {C : Cx} {I : Info} {m : Str → Option Value} {led : List (Addr × Obj)} {s : Shared}

theorem St.stat (x : St I m led s) (S : Stat C I.H) : Stat C s.heap := S.keeps x.fr.keep
theorem St.get (x : St I m led s) {a : Addr} {o : Obj} (h : (a, o) ∈ led) : s.heap.get? a = some o := (x.news _ h).1

theorem base_none {S : Stat C I.H} {a : Addr} (h : I.H.get? a = none) : C.B.get? a = none := by
  cases q : C.B.get? a with
  | none => rfl
  | some o => rw [S.base a o q] at h; cases h

theorem St.pre {l1 l2 : List (Addr × Obj)} (x : St I m (l1 ++ l2) s) (S : Stat C I.H) (nt : ∀ p ∈ l1, ¬ IsT p.2) : Pre C.B s.heap l1 where
  base := fun b o e => x.fr.keep b o (S.base b o e)
  at_ := fun p hp => ⟨(x.news p (List.mem_append_left _ hp)).1, base_none (S := S) (x.news p (List.mem_append_left _ hp)).2.2⟩
  nd := by have := x.nd; rw [List.map_append] at this; exact (List.nodup_append.mp this).1
  nt := nt

theorem Post.ns {M : List Addr} {s s' : Shared} (P : Post M s s') {L : Addr} {m : Str → Option Value} (hn : s.heap.Ns L m) (hL : L ∉ M) : s'.heap.Ns L m :=
  hn.at fun o e => P.keep L o hL e

theorem St.post {l1 l1' l2 : List (Addr × Obj)} {s' : Shared} (x : St I m (l1 ++ l2) s) (P : Post (l1.map (·.1)) s s')
    (e : l1'.map (·.1) = l1.map (·.1)) (h1 : ∀ p ∈ l1', s'.heap.get? p.1 = some p.2) : St I m (l1' ++ l2) s' := by
  have hd := x.nd
  rw [List.map_append] at hd
  have hd' := List.nodup_append.mp hd
  have nL : I.L ∉ l1.map (·.1) := fun q => by
    obtain ⟨p, hp, e⟩ := List.mem_map.mp q
    exact (x.news p (List.mem_append_left _ hp)).2.1 e
  have nH : ∀ b o, I.H.get? b = some o → b ∉ l1.map (·.1) := fun b o q k => by
    obtain ⟨p, hp, rfl⟩ := List.mem_map.mp k
    rw [(x.news p (List.mem_append_left _ hp)).2.2] at q; cases q
  refine ⟨⟨P.ns x.fr.ns nL, fun b o q => P.keep b o (nH b o q) (x.fr.keep b o q), x.fr.above⟩, fun p hp => ?_, by rw [List.map_append, e, ← List.map_append]; exact x.nd, x.tup.trans P.tup, P.gens.trans x.gens, P.os.trans x.os⟩
  rcases List.mem_append.mp hp with q | q
  · have hm : p.1 ∈ l1.map (·.1) := e ▸ List.mem_map_of_mem q
    obtain ⟨p0, hp0, e0⟩ := List.mem_map.mp hm
    have := x.news p0 (List.mem_append_left _ hp0)
    rw [e0] at this
    exact ⟨h1 p q, this.2⟩
  · have := x.news p (List.mem_append_right _ q)
    refine ⟨P.keep _ _ (fun k => ?_) this.1, this.2⟩
    exact hd'.2.2 p.1 k p.1 (List.mem_map_of_mem q) rfl

theorem St.perm {led' : List (Addr × Obj)} (x : St I m led s) (h : led.Perm led') : St I m led' s :=
  ⟨x.fr, fun p hp => x.news p (h.mem_iff.mpr hp), (h.map (·.1)).nodup_iff.mp x.nd, x.tup, x.gens, x.os⟩
theorem St.swapDrop {p q : Addr × Obj} (x : St I m (p :: q :: led) s) : St I m (p :: led) s :=
  ⟨x.fr, fun r hr => x.news r (by rcases List.mem_cons.mp hr with rfl | h; exact .head _; exact .tail _ (.tail _ h)), (x.nd.sublist (by simp)), x.tup, x.gens, x.os⟩
theorem St.drop {p : Addr × Obj} (x : St I m (p :: led) s) : St I m led s :=
  ⟨x.fr, fun q hq => x.news q (.tail _ hq), (List.nodup_cons.mp x.nd).2, x.tup, x.gens, x.os⟩
theorem St.sub {led' : List (Addr × Obj)} (x : St I m led s) (h : List.Sublist led' led) : St I m led' s :=
  ⟨x.fr, fun q hq => x.news q (h.mem hq), (h.map (·.1)).nodup x.nd, x.tup, x.gens, x.os⟩

theorem St.up1 {p q0 : Addr × Obj} {r : List (Addr × Obj)} (x : St I m (q0 :: p :: r) s) : St I m (p :: q0 :: r) s := x.perm (List.perm_middle (l₁ := [q0]) (l₂ := r) (a := p))
theorem St.dn1 {p q0 : Addr × Obj} {r : List (Addr × Obj)} (x : St I m (p :: q0 :: r) s) : St I m (q0 :: p :: r) s := x.perm (List.perm_middle (l₁ := [q0]) (l₂ := r) (a := p)).symm
theorem St.up2 {p q0 q1 : Addr × Obj} {r : List (Addr × Obj)} (x : St I m (q0 :: q1 :: p :: r) s) : St I m (p :: q0 :: q1 :: r) s := x.perm (List.perm_middle (l₁ := [q0, q1]) (l₂ := r) (a := p))
theorem St.dn2 {p q0 q1 : Addr × Obj} {r : List (Addr × Obj)} (x : St I m (p :: q0 :: q1 :: r) s) : St I m (q0 :: q1 :: p :: r) s := x.perm (List.perm_middle (l₁ := [q0, q1]) (l₂ := r) (a := p)).symm
theorem St.up3 {p q0 q1 q2 : Addr × Obj} {r : List (Addr × Obj)} (x : St I m (q0 :: q1 :: q2 :: p :: r) s) : St I m (p :: q0 :: q1 :: q2 :: r) s := x.perm (List.perm_middle (l₁ := [q0, q1, q2]) (l₂ := r) (a := p))
theorem St.dn3 {p q0 q1 q2 : Addr × Obj} {r : List (Addr × Obj)} (x : St I m (p :: q0 :: q1 :: q2 :: r) s) : St I m (q0 :: q1 :: q2 :: p :: r) s := x.perm (List.perm_middle (l₁ := [q0, q1, q2]) (l₂ := r) (a := p)).symm
theorem St.up4 {p q0 q1 q2 q3 : Addr × Obj} {r : List (Addr × Obj)} (x : St I m (q0 :: q1 :: q2 :: q3 :: p :: r) s) : St I m (p :: q0 :: q1 :: q2 :: q3 :: r) s := x.perm (List.perm_middle (l₁ := [q0, q1, q2, q3]) (l₂ := r) (a := p))
theorem St.dn4 {p q0 q1 q2 q3 : Addr × Obj} {r : List (Addr × Obj)} (x : St I m (p :: q0 :: q1 :: q2 :: q3 :: r) s) : St I m (q0 :: q1 :: q2 :: q3 :: p :: r) s := x.perm (List.perm_middle (l₁ := [q0, q1, q2, q3]) (l₂ := r) (a := p)).symm
theorem St.up5 {p q0 q1 q2 q3 q4 : Addr × Obj} {r : List (Addr × Obj)} (x : St I m (q0 :: q1 :: q2 :: q3 :: q4 :: p :: r) s) : St I m (p :: q0 :: q1 :: q2 :: q3 :: q4 :: r) s := x.perm (List.perm_middle (l₁ := [q0, q1, q2, q3, q4]) (l₂ := r) (a := p))
theorem St.dn5 {p q0 q1 q2 q3 q4 : Addr × Obj} {r : List (Addr × Obj)} (x : St I m (p :: q0 :: q1 :: q2 :: q3 :: q4 :: r) s) : St I m (q0 :: q1 :: q2 :: q3 :: q4 :: p :: r) s := x.perm (List.perm_middle (l₁ := [q0, q1, q2, q3, q4]) (l₂ := r) (a := p)).symm
theorem St.up6 {p q0 q1 q2 q3 q4 q5 : Addr × Obj} {r : List (Addr × Obj)} (x : St I m (q0 :: q1 :: q2 :: q3 :: q4 :: q5 :: p :: r) s) : St I m (p :: q0 :: q1 :: q2 :: q3 :: q4 :: q5 :: r) s := x.perm (List.perm_middle (l₁ := [q0, q1, q2, q3, q4, q5]) (l₂ := r) (a := p))
theorem St.dn6 {p q0 q1 q2 q3 q4 q5 : Addr × Obj} {r : List (Addr × Obj)} (x : St I m (p :: q0 :: q1 :: q2 :: q3 :: q4 :: q5 :: r) s) : St I m (q0 :: q1 :: q2 :: q3 :: q4 :: q5 :: p :: r) s := x.perm (List.perm_middle (l₁ := [q0, q1, q2, q3, q4, q5]) (l₂ := r) (a := p)).symm
theorem St.up7 {p q0 q1 q2 q3 q4 q5 q6 : Addr × Obj} {r : List (Addr × Obj)} (x : St I m (q0 :: q1 :: q2 :: q3 :: q4 :: q5 :: q6 :: p :: r) s) : St I m (p :: q0 :: q1 :: q2 :: q3 :: q4 :: q5 :: q6 :: r) s := x.perm (List.perm_middle (l₁ := [q0, q1, q2, q3, q4, q5, q6]) (l₂ := r) (a := p))
theorem St.dn7 {p q0 q1 q2 q3 q4 q5 q6 : Addr × Obj} {r : List (Addr × Obj)} (x : St I m (p :: q0 :: q1 :: q2 :: q3 :: q4 :: q5 :: q6 :: r) s) : St I m (q0 :: q1 :: q2 :: q3 :: q4 :: q5 :: q6 :: p :: r) s := x.perm (List.perm_middle (l₁ := [q0, q1, q2, q3, q4, q5, q6]) (l₂ := r) (a := p)).symm

theorem St.toks {tk : Nat} (x : St I m led s) : St I m led { s with toks := tk } := ⟨x.fr, x.news, x.nd, x.tup, x.gens, x.os⟩

theorem St.push (x : St I m led s) (o : Obj) (hf : o.isFreed = false := by rfl) : St I m ((s.heap.objs.size, o) :: led) { s with heap := s.heap.push o } where
  fr := x.fr.push o
  news := x.news.push x.fr o hf
  nd := by
    rw [List.map_cons]
    refine List.nodup_cons.mpr ⟨fun k => ?_, x.nd⟩
    obtain ⟨p, hp, e⟩ := List.mem_map.mp k
    exact absurd (Heap.lt_size (x.news p hp).1) (by rw [e]; exact Nat.lt_irrefl _)
  tup := fun b o' t e => Heap.get?_push_of_some _ (x.tup b o' t e)
  gens := x.gens
  os := x.os

theorem St.grown {s' : Shared} (x : St I m led s) (k : ∀ b o, s.heap.get? b = some o → s'.heap.get? b = some o) (g : s'.gens = s.gens) (o : s'.os = s.os) : St I m led s' :=
  ⟨x.fr.after k, fun p hp => ⟨k _ _ (x.news p hp).1, (x.news p hp).2⟩, x.nd, fun b o' t e => k b o' (x.tup b o' t e), g.trans x.gens, o.trans x.os⟩

theorem St.store {m' : Str → Option Value} {h' : Heap} {tk : Nat} (x : St I m led s) (hn : h'.Ns I.L m') (hs : Heap.SameBut I.L s.heap h') : St I m' led { s with heap := h', toks := tk } where
  fr := x.fr.set hn hs
  news := x.news.set hs
  nd := x.nd
  tup := fun b o' t e => by
    have e' := x.tup b o' t e
    by_cases hb : b = I.L
    · subst hb
      obtain ⟨oL, es, ep, hL, hd, _⟩ := x.fr.ns
      rw [hL] at e'; cases e'
      obtain ⟨_, xs, n, hq⟩ := t
      rw [hd] at hq; cases hq
    · exact (hs.2 b hb).trans e'
  gens := x.gens
  os := x.os
end
end Mine
end

noncomputable section
open PySem PySem.W PyProof.Rows PySem.Calls PySem.Spec
namespace Mine

noncomputable def Is (v : Value) : Value → Prop := fun u => u = v
noncomputable def IsI (i : Int) : Value → Prop := fun u => ∃ t, u = .int i t
noncomputable def IsS (x : Str) : Value → Prop := fun u => ∃ t, u = .str x t

section
variable {C : Cx} {A : Around} {E : Value → Shared → Prop} {I : Info} {m : Str → Option Value} {led : List (Addr × Obj)} {s : Shared}
  {cn : Str} {cs : Scope} {f : Addr} {cd : Value}

structure EOk (env : Env) (I : Info) : Prop where
  hk : env.scope.kind = .function
  hL : env.locals = I.L
  hg : env.globals = mainGlobals
  hb : env.builtins = builtinsNs

noncomputable def Ev (C : Cx) (A : Around) (env : Env) (I : Info) (m : Str → Option Value) (led : List (Addr × Obj)) (e : Expr) (R : Value → Prop) : Prop :=
  ∀ (s : Shared) (Q : Value → Shared → Prop) (E : Value → Shared → Prop), St I m led s → (∀ v s', R v → St I m led s' → Q v s') → wpAny C.M A (eval e env) Q E s
noncomputable def Tr (C : Cx) (A : Around) (env : Env) (I : Info) (m : Str → Option Value) (led : List (Addr × Obj)) (e : Expr) (b : Bool) : Prop :=
  ∀ (s : Shared) (Q : Bool → Shared → Prop) (E : Value → Shared → Prop), St I m led s → (∀ s', St I m led s' → Q b s') → wpAny C.M A (isTrue e env (eval e env)) Q E s
noncomputable def EvL (C : Cx) (A : Around) (env : Env) (I : Info) (m : Str → Option Value) (led : List (Addr × Obj)) (pos : Pos) (es : List Expr) (R : List Value → Prop) : Prop :=
  ∀ (s : Shared) (Q : List Value → Shared → Prop) (E : Value → Shared → Prop), St I m led s → (∀ vs s', R vs → St I m led s' → Q vs s') → wpAny C.M A (spliced (backTo pos (starEach es env))) Q E s

variable {env : Env}
theorem Ev.use {e : Expr} {R : Value → Prop} {s : Shared} {Q : Value → Shared → Prop} {E : Value → Shared → Prop} (h : Ev C A env I m led e R) (x : St I m led s) (k : ∀ v s', R v → St I m led s' → Q v s') : wpAny C.M A (eval e env) Q E s := h _ _ _ x k
theorem Ev.useV {e : Expr} {w : Value} {s : Shared} {Q : Value → Shared → Prop} {E : Value → Shared → Prop} (h : Ev C A env I m led e (Is w)) (x : St I m led s) (k : ∀ s', St I m led s' → Q w s') : wpAny C.M A (eval e env) Q E s := h _ _ _ x fun v s' r x' => by obtain rfl : v = w := r; exact k s' x'
theorem Ev.useI {e : Expr} {i : Int} {s : Shared} {Q : Value → Shared → Prop} {E : Value → Shared → Prop} (h : Ev C A env I m led e (IsI i)) (x : St I m led s) (k : ∀ t s', St I m led s' → Q (.int i t) s') : wpAny C.M A (eval e env) Q E s := h _ _ _ x fun v s' r x' => by obtain ⟨t, rfl⟩ := r; exact k t s' x'
theorem Ev.useS {e : Expr} {i : Str} {s : Shared} {Q : Value → Shared → Prop} {E : Value → Shared → Prop} (h : Ev C A env I m led e (IsS i)) (x : St I m led s) (k : ∀ t s', St I m led s' → Q (.str i t) s') : wpAny C.M A (eval e env) Q E s := h _ _ _ x fun v s' r x' => by obtain ⟨t, rfl⟩ := r; exact k t s' x'
theorem EvL.use {pos : Pos} {es : List Expr} {R : List Value → Prop} {s : Shared} {Q : List Value → Shared → Prop} {E : Value → Shared → Prop} (h : EvL C A env I m led pos es R) (x : St I m led s) (k : ∀ v s', R v → St I m led s' → Q v s') : wpAny C.M A (spliced (backTo pos (starEach es env))) Q E s := h _ _ _ x k
theorem Ev.mono {e : Expr} {R R' : Value → Prop} (h : Ev C A env I m led e R) (k : ∀ v, R v → R' v) : Ev C A env I m led e R' :=
  fun s Q E x q => h s Q E x fun v s' r x' => q v s' (k v r) x'
theorem Ev.loc {y : Str} {pos : Pos} {v : Value} (hv : m y = some v) (hE : EOk env I := by exact ⟨rfl, rfl, rfl, rfl⟩) (hl : env.kindOf y = some .local := by rfl) (hd : (y == ("__debug__" : Str)) = false := by rfl) :
    Ev C A env I m led (.Name y pos) (Is v) := fun s Q E x q => wpAny_Name (wpAny_loadName_local hE.hk hl (hE.hL ▸ x.fr.ns) hv (q _ _ rfl x)) hd
theorem Ev.locI {y : Str} {pos : Pos} {i : Int} {t : Tok} (hv : m y = some (.int i t)) (hE : EOk env I := by exact ⟨rfl, rfl, rfl, rfl⟩) (hl : env.kindOf y = some .local := by rfl) (hd : (y == ("__debug__" : Str)) = false := by rfl) :
    Ev C A env I m led (.Name y pos) (IsI i) := (Ev.loc hv hE hl hd).mono fun v h => ⟨t, h⟩
theorem Ev.locS {y : Str} {pos : Pos} {i : Str} {t : Tok} (hv : m y = some (.str i t)) (hE : EOk env I := by exact ⟨rfl, rfl, rfl, rfl⟩) (hl : env.kindOf y = some .local := by rfl) (hd : (y == ("__debug__" : Str)) = false := by rfl) :
    Ev C A env I m led (.Name y pos) (IsS i) := (Ev.loc hv hE hl hd).mono fun v h => ⟨t, h⟩
theorem Ev.cel {y : Str} {pos : Pos} {v : Value} {c : Addr} {o : Obj} (hm : (c, o) ∈ led) (ho : o.data = .cell (some v)) (hc : env.cells.lookup y = some c) (hE : EOk env I := by exact ⟨rfl, rfl, rfl, rfl⟩) (hl : env.kindOf y = some .cell := by rfl) (hd : (y == ("__debug__" : Str)) = false := by rfl) :
    Ev C A env I m led (.Name y pos) (Is v) := fun s Q E x q => wpAny_Name (wpAny_loadName_cell hE.hk hl hc ⟨o, x.get hm, ho⟩ (q _ _ rfl x)) hd
theorem Ev.glob {y : Str} {pos : Pos} {v : Value} (S : Stat C I.H) (e : nsIn C.K mainGlobals y = some (some v)) (hE : EOk env I := by exact ⟨rfl, rfl, rfl, rfl⟩) (hl : env.kindOf y = some .globalImplicit := by rfl) (hd : (y == ("__debug__" : Str)) = false := by rfl) :
    Ev C A env I m led (.Name y pos) (Is v) := fun s Q E x q => Name_function_global hE.hk hl (loadGlobal_global (hE.hg ▸ S.T.g.keeps x.fr.keep) (mg_of S.X S.T.g e) (q _ _ rfl x)) hd
theorem Ev.bi {y : Str} {pos : Pos} {v : Value} (S : Stat C I.H) (e : nsIn C.K mainGlobals y = some none) (hv : bootBuiltins y = some v) (hn : y ≠ "__name__" := by decide) (hE : EOk env I := by exact ⟨rfl, rfl, rfl, rfl⟩) (hl : env.kindOf y = some .globalImplicit := by rfl) (hd : (y == ("__debug__" : Str)) = false := by rfl) :
    Ev C A env I m led (.Name y pos) (Is v) := fun s Q E x q => Name_function_global hE.hk hl (loadGlobal_builtin (hE.hg ▸ S.T.g.keeps x.fr.keep) (mg_none_of S.X S.T.g e) (hE.hb ▸ S.T.b.keeps x.fr.keep) ((S.T.builtins y hn).trans hv) (q _ _ rfl x)) hd
theorem Ev.cI {i : Int} {k : Nat} {pos : Pos} : Ev C A env I m led (.Constant (.int i) k pos) (IsI i) := fun s Q E x q => wpAny_Constant_int (q _ _ ⟨_, rfl⟩ x.toks)
theorem Ev.cS {i : Str} {k : Nat} {pos : Pos} : Ev C A env I m led (.Constant (.str i) k pos) (IsS i) := fun s Q E x q => Constant_str (q _ _ ⟨_, rfl⟩ x.toks)
theorem Ev.cB {i : Bool} {k : Nat} {pos : Pos} : Ev C A env I m led (.Constant (.bool i) k pos) (Is (.bool i)) := fun s Q E x q => Constant_bool (q _ _ rfl x)
theorem Ev.cN {k : Nat} {pos : Pos} : Ev C A env I m led (.Constant .none k pos) (Is .none) := fun s Q E x q => Constant_none (q _ _ rfl x)
theorem Ev.add {a b : Expr} {i j : Int} {pos : Pos} (ha : Ev C A env I m led a (IsI i)) (hb : Ev C A env I m led b (IsI j)) : Ev C A env I m led (.BinOp a .Add b pos) (IsI (i + j)) :=
  fun s Q E x q => wpAny_BinOp (ha _ _ _ x fun v s1 h1 x1 => hb _ _ _ x1 fun u s2 h2 x2 => by
    obtain ⟨t, rfl⟩ := h1; obtain ⟨t', rfl⟩ := h2; exact add_int (q _ _ ⟨_, rfl⟩ x2.toks))
theorem Ev.sub {a b : Expr} {i j : Int} {pos : Pos} (ha : Ev C A env I m led a (IsI i)) (hb : Ev C A env I m led b (IsI j)) : Ev C A env I m led (.BinOp a .Sub b pos) (IsI (i - j)) :=
  fun s Q E x q => wpAny_BinOp (ha _ _ _ x fun v s1 h1 x1 => hb _ _ _ x1 fun u s2 h2 x2 => by
    obtain ⟨t, rfl⟩ := h1; obtain ⟨t', rfl⟩ := h2; exact sub_int (q _ _ ⟨_, rfl⟩ x2.toks))
theorem Ev.mod {a b : Expr} {i j : Int} {pos : Pos} (hh : A.handled = .none) (ha : Ev C A env I m led a (IsI i)) (hb : Ev C A env I m led b (IsI j)) (hj : j ≠ 0) : Ev C A env I m led (.BinOp a .Mod b pos) (IsI (Int.fmod i j)) :=
  fun s Q E x q => wpAny_BinOp (ha _ _ _ x fun v s1 h1 x1 => hb _ _ _ x1 fun u s2 h2 x2 => by
    obtain ⟨t, rfl⟩ := h1; obtain ⟨t', rfl⟩ := h2; exact mod_int_or hh (fun h => absurd h hj) fun _ => q _ _ ⟨_, rfl⟩ x2.toks)
theorem Ev.fdiv {a b : Expr} {i j : Int} {pos : Pos} (hh : A.handled = .none) (ha : Ev C A env I m led a (IsI i)) (hb : Ev C A env I m led b (IsI j)) (hj : j ≠ 0) (hs : j.natAbs < 1073741824) : Ev C A env I m led (.BinOp a .FloorDiv b pos) (IsI (Int.fdiv i j)) :=
  fun s Q E x q => wpAny_BinOp (ha _ _ _ x fun v s1 h1 x1 => hb _ _ _ x1 fun u s2 h2 x2 => by
    obtain ⟨t, rfl⟩ := h1; obtain ⟨t', rfl⟩ := h2; exact floordiv_int_or hh (fun h => absurd h hj) (fun _ => q _ _ ⟨_, rfl⟩ x2.toks) fun _ => .inl (PyProof.noPylong_small hs))
theorem Ev.mul {a b : Expr} {i j : Int} {pos : Pos} (ha : Ev C A env I m led a (IsI i)) (hb : Ev C A env I m led b (IsI j)) (ok : IntMulOk i j) : Ev C A env I m led (.BinOp a .Mult b pos) (IsI (i * j)) :=
  fun s Q E x q => wpAny_BinOp (ha _ _ _ x fun v s1 h1 x1 => hb _ _ _ x1 fun u s2 h2 x2 => by
    obtain ⟨t, rfl⟩ := h1; obtain ⟨t', rfl⟩ := h2; exact mul_int (q _ _ ⟨_, rfl⟩ x2.toks) ok)

theorem Ev.tup {e ix : Expr} {pos : Pos} {a : Addr} {items : List Value} {j : Nat} {v : Value} {k : Int} (he : Ev C A env I m led e (Is (.ref a))) (hi : Ev C A env I m led ix (IsI k))
    (ht : IsTup I.G a items.toArray) (hlo : -(2 ^ 63) ≤ k := by decide) (hhi : k < 2 ^ 63 := by decide) (hj : seqIndex? k items.length = some j := by rfl) (hx : items[j]? = some v := by rfl)
    (hs : ∀ u, subscripted ix false (.ref a) (.int k u) = operate [.ref a, .int k u] (getItem (.ref a) (.int k u)) := by intro _; rfl) : Ev C A env I m led (.Subscript e ix pos) (Is v) :=
  fun s Q E x q => Subscript_ (he _ _ _ x fun v1 s1 h1 x1 => hi _ _ _ x1 fun u s2 h2 x2 => by
    obtain rfl : v1 = .ref a := h1; obtain ⟨t, rfl⟩ := h2
    obtain ⟨o, ho, hc, n, hd⟩ := ht
    exact item_tupleT ⟨o, x2.tup a o ⟨hc, _, n, hd⟩ ho, hc, n, hd⟩ hlo hhi hj hx (q _ _ rfl x2) (hs t))

noncomputable def Lst (o : Obj) (items : List Value) : Prop := o.cls = .type "list" ∧ ∃ n, o.data = .seq items.toArray n
theorem Lst.not {o : Obj} {items : List Value} (h : Lst o items) : ¬ IsT o := fun k => by have e := h.1.symm.trans k.1; simp at e
theorem Lst.isList {h : Heap} {l : Addr} {o : Obj} {items : List Value} (x : Lst o items) (g : h.get? l = some o) : h.IsList l items.toArray := ⟨o, g, x.1, x.2⟩
theorem Ev.lst {e ix : Expr} {pos : Pos} {a : Addr} {o : Obj} {items : List Value} {v : Value} {k : Int} (he : Ev C A env I m led e (Is (.ref a))) (hi : Ev C A env I m led ix (IsI k))
    (hm : (a, o) ∈ led) (hl : Lst o items) (hlo : 0 ≤ k := by decide) (hhi : k < 2 ^ 63 := by decide) (hx : items[k.toNat]? = some v := by rfl)
    (hs : ∀ u, subscripted ix false (.ref a) (.int k u) = operate [.ref a, .int k u] (getItem (.ref a) (.int k u)) := by intro _; rfl) : Ev C A env I m led (.Subscript e ix pos) (Is v) :=
  fun s Q E x q => Subscript_ (he _ _ _ x fun v1 s1 h1 x1 => hi _ _ _ x1 fun u s2 h2 x2 => by
    obtain rfl : v1 = .ref a := h1; obtain ⟨t, rfl⟩ := h2
    have hL := hl.isList (x2.get hm)
    exact tail_any hL.typeIs slot_list_getitem.lookup (wpAny_getItem_list hL hlo hhi (by simpa using hx) (q _ _ rfl x2)) (hs t))

noncomputable def Dct (C : Cx) (o : Obj) (kvs : List (Str × Value)) : Prop := o.IsDictOf (strKind C.prog C.w) kvs
theorem Dct.not {o : Obj} {kvs : List (Str × Value)} (h : Dct C o kvs) : ¬ IsT o := fun k => by
  obtain ⟨_, _, hc, _⟩ := h; have e := hc.1.symm.trans k.1; simp at e
theorem Dct.at {h : Heap} {a : Addr} {o : Obj} {kvs : List (Str × Value)} (x : Dct C o kvs) (g : h.get? a = some o) : h.DictOf (strKind C.prog C.w) a kvs := Heap.dictOf_iff.mpr ⟨o, g, x⟩
theorem Ev.dct {e ix : Expr} {pos : Pos} {a : Addr} {o : Obj} {kvs : List (Str × Value)} {v : Value} {k : Str} (he : Ev C A env I m led e (Is (.ref a))) (hi : Ev C A env I m led ix (IsS k))
    (hm : (a, o) ∈ led) (hl : Dct C o kvs) (hx : valueAt kvs k = some v)
    (hs : ∀ u, subscripted ix false (.ref a) (.str k u) = operate [.ref a, .str k u] (getItem (.ref a) (.str k u)) := by intro _; rfl) : Ev C A env I m led (.Subscript e ix pos) (Is v) :=
  fun s Q E x q => Subscript_ (he _ _ _ x fun v1 s1 h1 x1 => hi _ _ _ x1 fun u s2 h2 x2 => by
    obtain rfl : v1 = .ref a := h1; obtain ⟨t, rfl⟩ := h2
    have hL := hl.at (x2.get hm)
    exact tail_any hL.mapOf.typeIs slot_dict_getitem.lookup (wpAny_getItem_of (strKind_is C.prog C.w k t) hL.mapOf hx (q _ _ rfl x2.toks)) (hs t))

theorem EvL.nil {pos : Pos} : EvL C A env I m led pos [] (fun vs => vs = []) := fun s Q E x q => spliced_none (q _ _ rfl x)
theorem EvL.cons {pos : Pos} {e : Expr} {es : List Expr} {R : Value → Prop} {Rs : List Value → Prop} (h : Ev C A env I m led e R) (hs : EvL C A env I m led pos es Rs)
    (he : starEach (e :: es) env = (false, eval e env) :: starEach es env := by rfl) : EvL C A env I m led pos (e :: es) (fun vs => ∃ v r, vs = v :: r ∧ R v ∧ Rs r) :=
  fun s Q E x q => spliced_more (h _ _ _ x fun v s1 h1 x1 => hs _ _ _ x1 fun r s2 h2 x2 => q _ _ ⟨v, r, rfl, h1, h2⟩ x2) he

noncomputable def EvF (C : Cx) (A : Around) (env : Env) (I : Info) (m : Str → Option Value) (led : List (Addr × Obj)) (pos : Pos) (es : List Expr) (F : (Nat → Tok) → List Value) : Prop := EvL C A env I m led pos es (fun l => ∃ τ, l = F τ)
theorem EvF.nil {pos : Pos} : EvF C A env I m led pos [] (fun _ => []) := fun s Q E x q => spliced_none (q _ _ ⟨fun _ => 0, rfl⟩ x)
theorem EvF.v {pos : Pos} {e : Expr} {es : List Expr} {v : Value} {F : (Nat → Tok) → List Value} (h : Ev C A env I m led e (Is v)) (hs : EvF C A env I m led pos es F)
    (he : starEach (e :: es) env = (false, eval e env) :: starEach es env := by rfl) : EvF C A env I m led pos (e :: es) (fun τ => v :: F τ) :=
  fun s Q E x q => spliced_more (h.useV x fun s1 x1 => hs _ _ _ x1 fun r s2 h2 x2 => q _ _ (by obtain ⟨τ, rfl⟩ := h2; exact ⟨τ, rfl⟩) x2) he
theorem EvF.i {pos : Pos} {e : Expr} {es : List Expr} {i : Int} {F : (Nat → Tok) → List Value} (h : Ev C A env I m led e (IsI i)) (hs : EvF C A env I m led pos es F)
    (he : starEach (e :: es) env = (false, eval e env) :: starEach es env := by rfl) : EvF C A env I m led pos (e :: es) (fun τ => .int i (τ 0) :: F fun n => τ (n + 1)) :=
  fun s Q E x q => spliced_more (h.useI x fun t s1 x1 => hs _ _ _ x1 fun r s2 h2 x2 => q _ _ (by obtain ⟨τ, rfl⟩ := h2; exact ⟨fun n => n.casesOn t τ, rfl⟩) x2) he
theorem EvF.z {pos : Pos} {e : Expr} {es : List Expr} {i : Str} {F : (Nat → Tok) → List Value} (h : Ev C A env I m led e (IsS i)) (hs : EvF C A env I m led pos es F)
    (he : starEach (e :: es) env = (false, eval e env) :: starEach es env := by rfl) : EvF C A env I m led pos (e :: es) (fun τ => .str i (τ 0) :: F fun n => τ (n + 1)) :=
  fun s Q E x q => spliced_more (h.useS x fun t s1 x1 => hs _ _ _ x1 fun r s2 h2 x2 => q _ _ (by obtain ⟨τ, rfl⟩ := h2; exact ⟨fun n => n.casesOn t τ, rfl⟩) x2) he

theorem Tr.eqI {a b : Expr} {i j : Int} {pos : Pos} (ha : Ev C A env I m led a (IsI i)) (hb : Ev C A env I m led b (IsI j)) (hm : behindInMarks .Eq b = false := by rfl) : Tr C A env I m led (.Compare a [.Eq] [b] pos) (i == j) :=
  fun s Q E x q => wpAny_isTrue_Compare1 (ha _ _ _ x fun v s1 h1 x1 => hb _ _ _ x1 fun u s2 h2 x2 => by
    obtain ⟨t, rfl⟩ := h1; obtain ⟨t', rfl⟩ := h2; exact eq_int (wpAny_truthy_bool (q _ x2))) hm
theorem Tr.eqS {a b : Expr} {i j : Str} {pos : Pos} (ha : Ev C A env I m led a (IsS i)) (hb : Ev C A env I m led b (IsS j)) (hm : behindInMarks .Eq b = false := by rfl) : Tr C A env I m led (.Compare a [.Eq] [b] pos) (i == j) :=
  fun s Q E x q => wpAny_isTrue_Compare1 (ha _ _ _ x fun v s1 h1 x1 => hb _ _ _ x1 fun u s2 h2 x2 => by
    obtain ⟨t, rfl⟩ := h1; obtain ⟨t', rfl⟩ := h2; exact eq_str (wpAny_truthy_bool (q _ x2))) hm
theorem Tr.ltI {a b : Expr} {i j : Int} {pos : Pos} (ha : Ev C A env I m led a (IsI i)) (hb : Ev C A env I m led b (IsI j)) (hm : behindInMarks .Lt b = false := by rfl) : Tr C A env I m led (.Compare a [.Lt] [b] pos) (decide (i < j)) :=
  fun s Q E x q => wpAny_isTrue_Compare1 (ha _ _ _ x fun v s1 h1 x1 => hb _ _ _ x1 fun u s2 h2 x2 => by
    obtain ⟨t, rfl⟩ := h1; obtain ⟨t', rfl⟩ := h2; exact lt_int (wpAny_truthy_bool (q _ x2))) hm
theorem Tr.gtI {a b : Expr} {i j : Int} {pos : Pos} (ha : Ev C A env I m led a (IsI i)) (hb : Ev C A env I m led b (IsI j)) (hm : behindInMarks .Gt b = false := by rfl) : Tr C A env I m led (.Compare a [.Gt] [b] pos) (decide (j < i)) :=
  fun s Q E x q => wpAny_isTrue_Compare1 (ha _ _ _ x fun v s1 h1 x1 => hb _ _ _ x1 fun u s2 h2 x2 => by
    obtain ⟨t, rfl⟩ := h1; obtain ⟨t', rfl⟩ := h2; exact gt_int (wpAny_truthy_bool (q _ x2))) hm
theorem Tr.ofB {e : Expr} {b : Bool} (h : Ev C A env I m led e (Is (.bool b))) (hw : isTrue e env (eval e env) = (do let v ← eval e env; standAt e.pos; holding [v] (truthy v)) := by rfl) : Tr C A env I m led e b :=
  fun s Q E x q => isTrue_plain (h _ _ _ x fun v s1 h1 x1 => by obtain rfl : v = .bool b := h1; exact wpAny_truthy_bool (q _ x1)) hw
theorem Tr.neg {e : Expr} {b : Bool} {pos : Pos} (h : Tr C A env I m led e b) : Tr C A env I m led (.UnaryOp .Not e pos) (!b) := fun s Q E x q => isTrue_not (h _ _ _ x fun s' x' => q _ x')
theorem Tr.cast {e : Expr} {b b' : Bool} (h : Tr C A env I m led e b) (k : b = b') : Tr C A env I m led e b' := k ▸ h

theorem xIf {test : Expr} {bd el : List Stmt} {pos : Pos} {b : Bool} {Q : Flow → Shared → Prop} (h : Tr C A env I m led test b) (x : St I m led s)
    (k : ∀ s', St I m led s' → wpAny C.M A (execs (if b = true then bd else el) env) Q E s') : wpAny C.M A (exec (.If test bd el pos) env) Q E s :=
  wpAny_If (h _ _ _ x fun s' x' => by cases b <;> exact k _ x')
theorem xRet {e : Expr} {pos : Pos} {R : Value → Prop} {Q : Flow → Shared → Prop} (h : Ev C A env I m led e R) (x : St I m led s)
    (k : ∀ v s', R v → St I m led s' → Q (.ret v) s') : wpAny C.M A (exec (.Return (some e) pos) env) Q E s := wpAny_Return_some (h _ _ _ x k)
noncomputable def upd (m : Str → Option Value) (y : Str) (v : Value) : Str → Option Value := fun z => if z = y then some v else m z
noncomputable def par0 (ar : Arguments) (vals : List Value) : Str → Option Value := fun y => ((ar.args.map (·.arg)).zip vals).reverse.lookup y
theorem store {y : Str} {v : Value} {Q : Unit → Shared → Prop} (x : St I m led s)
    (k : ∀ s', St I (upd m y v) led s' → Q () s') (hE : EOk env I := by exact ⟨rfl, rfl, rfl, rfl⟩) (hl : env.kindOf y = some .local := by rfl) :
    wpAny C.M A (storeName env y v) Q E s := by
  refine wpAny_storeName_local hl (hE.hL ▸ x.fr.ns) (fun h' hn hs => k _ ?_) (by rw [hE.hk]; rfl)
  rw [hE.hL] at hn hs
  exact x.store hn hs
theorem xSet {y : Str} {p pos : Pos} {e : Expr} {R : Value → Prop} {Q : Flow → Shared → Prop} (h : Ev C A env I m led e R) (x : St I m led s)
    (k : ∀ v s', R v → St I (upd m y v) led s' → Q .next s') (hE : EOk env I := by exact ⟨rfl, rfl, rfl, rfl⟩) (hl : env.kindOf y = some .local := by rfl)
    (hsw : swapsWith e (some (.Name y p)) pos.line env = pure false := by rfl) :
    wpAny C.M A (exec (.Assign [.Name y p] e pos) env) Q E s :=
  wpAny_Assign_Name (h _ _ _ x fun v s1 h1 x1 => store x1 (fun s' x' => k _ _ h1 x') hE hl) hsw

theorem St.upd {a : Addr} {o o' : Obj} {s' : Shared} (x : St I m ((a, o) :: led) s) (hs : Heap.SameBut a s.heap s'.heap) (h : s'.heap.get? a = some o') (ho : ¬ IsT o) (hg : s'.gens = s.gens) (hos : s'.os = s.os) : St I m ((a, o') :: led) s' := by
  have P : Post (([(a, o)] : List (Addr × Obj)).map (·.1)) s s' := ⟨fun b ob hb e => (hs.2 b (fun q => hb (by simp [q]))).trans e, fun b ob t e => by
    by_cases hb : b = a
    · subst hb; rw [x.get (.head _)] at e; cases e; exact absurd t ho
    · exact (hs.2 b hb).trans e, hg, hos⟩
  exact St.post (l1 := [(a, o)]) (l1' := [(a, o')]) x P rfl fun p hp => by
    rw [List.mem_singleton] at hp; subst hp; exact h

theorem setLst {a : Addr} {o : Obj} {items : List Value} {k : Int} {t : Tok} {v : Value} {Q : Unit → Shared → Prop} (x : St I m ((a, o) :: led) s) (hl : Lst o items) (h0 : 0 ≤ k) (hh : k < 2 ^ 63) (hk : k < items.length)
    (q : ∀ o' s', Lst o' (items.set k.toNat v) → St I m ((a, o') :: led) s' → Q () s') : wpAny C.M A (setItem (.ref a) (.int k t) v) Q E s := by
  refine wpAny_setItem_list (hl.isList (x.get (.head _))) h0 hh (by simpa using hk) fun h' hL hs => ?_
  obtain ⟨o', ho', hc, n, hd⟩ := hL
  exact q o' _ ⟨hc, n, by rw [hd]; simp⟩ (x.upd (s' := { s with heap := h' }) hs ho' hl.not rfl rfl)
theorem setDct {a : Addr} {o : Obj} {kvs : List (Str × Value)} {k : Str} {t : Tok} {v : Value} {Q : Unit → Shared → Prop} (x : St I m ((a, o) :: led) s) (hl : Dct C o kvs) (hz : kvs.length ≤ 1000)
    (q : ∀ o' s', Dct C o' (stored kvs k v) → St I m ((a, o') :: led) s' → Q () s') : wpAny C.M A (setItem (.ref a) (.str k t) v) Q E s := by
  refine wpAny_setItem_pairs (strKind_is C.prog C.w k t) (hl.at (x.get (.head _))) (fun h' hL hs => ?_) (by rw [sizeLine_eq]; lia)
  obtain ⟨o', ho', hd⟩ := Heap.dictOf_iff.mp hL
  exact q o' _ hd (x.upd (s' := { s with heap := h', toks := s.toks + 1 }) hs ho' hl.not rfl rfl)

theorem ev_callX {fn qual : Str} {g : Addr} {st : Stmt} {p pos : Pos} {e : Expr} {rest : List Expr} {Q : Value → Shared → Prop} (S : Stat C I.H) (hn : nsIn C.K mainGlobals fn = some (some (.ref g))) (hf : FnIn C.K qual g st) (x : St I m led s)
    (k : ∀ s', St I m led s' → wpAny C.M A (spliced (backTo pos (starEach (e :: rest) env))) (fun vs s'' => (C.K.In s''.heap ∧ wpAny C.M A (call (.ref g) vs) Q E s'')) E s')
    (hE : EOk env I := by exact ⟨rfl, rfl, rfl, rfl⟩) (hl : env.kindOf fn = some .globalImplicit := by rfl) (hd : (fn == ("__debug__" : Str)) = false := by rfl)
    (he : starEach (e :: rest) env = (false, eval e env) :: starEach rest env := by rfl) (hp : (backTo pos (starEach rest env)).any (·.1) = false := by rfl)
    (hc : eval (.Call (.Name fn p) (e :: rest) [] pos) env = (do callWith pos (← eval (.Name fn p) env) [] (backTo pos (starEach (e :: rest) env)) (backToKw pos (keywordEach [] env))) := by rfl) :
    wpAny C.M A (eval (.Call (.Name fn p) (e :: rest) [] pos) env) Q E s :=
  Call_ (Ev.glob S hn hE hl hd _ _ _ x fun v s1 h1 x1 => by
    obtain rfl : v = .ref g := h1
    exact callWith_K S.X hf.keep (k s1 x1) he hp) hc
theorem ev_call {fn qual : Str} {g : Addr} {st : Stmt} {p pos : Pos} {e : Expr} {rest : List Expr} {Rs : List Value → Prop} {Q : Value → Shared → Prop} (S : Stat C I.H) (hn : nsIn C.K mainGlobals fn = some (some (.ref g))) (hf : FnIn C.K qual g st)
    (ha : EvL C A env I m led pos (e :: rest) Rs) (x : St I m led s)
    (k : ∀ vs s', Rs vs → St I m led s' → wpAny C.M A (call (.ref g) vs) Q E s')
    (hE : EOk env I := by exact ⟨rfl, rfl, rfl, rfl⟩) (hl : env.kindOf fn = some .globalImplicit := by rfl) (hd : (fn == ("__debug__" : Str)) = false := by rfl)
    (he : starEach (e :: rest) env = (false, eval e env) :: starEach rest env := by rfl) (hp : (backTo pos (starEach rest env)).any (·.1) = false := by rfl)
    (hc : eval (.Call (.Name fn p) (e :: rest) [] pos) env = (do callWith pos (← eval (.Name fn p) env) [] (backTo pos (starEach (e :: rest) env)) (backToKw pos (keywordEach [] env))) := by rfl) :
    wpAny C.M A (eval (.Call (.Name fn p) (e :: rest) [] pos) env) Q E s :=
  ev_callX S hn hf x (fun s1 x1 => ha _ _ _ x1 fun vs s2 h2 x2 => ⟨(x2.stat S).X, k vs s2 h2 x2⟩) hE hl hd he hp hc
theorem ev_bf {fn : Str} {id : String} {p pos : Pos} {e : Expr} {rest : List Expr} {Q : Value → Shared → Prop} (S : Stat C I.H) (hn : nsIn C.K mainGlobals fn = some none) (hb : bootBuiltins fn = some (.builtin id)) (x : St I m led s)
    (k : ∀ s', St I m led s' → wpAny C.M A (spliced (backTo pos (starEach (e :: rest) env))) (fun vs s'' => wpAny C.M A (call (.builtin id) vs) Q E s'') E s')
    (hnm : fn ≠ "__name__" := by decide) (hE : EOk env I := by exact ⟨rfl, rfl, rfl, rfl⟩) (hl : env.kindOf fn = some .globalImplicit := by rfl) (hd : (fn == ("__debug__" : Str)) = false := by rfl)
    (he : starEach (e :: rest) env = (false, eval e env) :: starEach rest env := by rfl) (hp : (backTo pos (starEach rest env)).any (·.1) = false := by rfl)
    (hc : eval (.Call (.Name fn p) (e :: rest) [] pos) env = (do callWith pos (← eval (.Name fn p) env) [] (backTo pos (starEach (e :: rest) env)) (backToKw pos (keywordEach [] env))) := by rfl) :
    wpAny C.M A (eval (.Call (.Name fn p) (e :: rest) [] pos) env) Q E s :=
  Call_ (Ev.bi S hn hb hnm hE hl hd _ _ _ x fun v s1 h1 x1 => by
    obtain rfl : v = .builtin id := h1
    exact PyProof.Rows.callWith_builtin1 (k s1 x1) he hp) hc
theorem ev_bt {fn : Str} {id : String} {p pos : Pos} {e : Expr} {rest : List Expr} {Q : Value → Shared → Prop} (S : Stat C I.H) (hn : nsIn C.K mainGlobals fn = some none) (hb : bootBuiltins fn = some (.type id)) (x : St I m led s)
    (k : ∀ s', St I m led s' → wpAny C.M A (spliced (backTo pos (starEach (e :: rest) env))) (fun vs s'' => wpAny C.M A (call (.type id) vs) Q E s'') E s')
    (hnm : fn ≠ "__name__" := by decide) (hE : EOk env I := by exact ⟨rfl, rfl, rfl, rfl⟩) (hl : env.kindOf fn = some .globalImplicit := by rfl) (hd : (fn == ("__debug__" : Str)) = false := by rfl)
    (he : starEach (e :: rest) env = (false, eval e env) :: starEach rest env := by rfl) (hp : (backTo pos (starEach rest env)).any (·.1) = false := by rfl)
    (hc : eval (.Call (.Name fn p) (e :: rest) [] pos) env = (do callWith pos (← eval (.Name fn p) env) [] (backTo pos (starEach (e :: rest) env)) (backToKw pos (keywordEach [] env))) := by rfl) :
    wpAny C.M A (eval (.Call (.Name fn p) (e :: rest) [] pos) env) Q E s :=
  Call_ (Ev.bi S hn hb hnm hE hl hd _ _ _ x fun v s1 h1 x1 => by
    obtain rfl : v = .type id := h1
    exact PyProof.Rows.callWith_type1 (k s1 x1) he hp) hc

theorem hideAll_in {h : Heap} {as : List Addr} {B : Heap} (k : ∀ b o, B.get? b = some o → h.get? b = some o) (n : ∀ a ∈ as, B.get? a = .none) : ∀ b o, B.get? b = some o → (hideAll h as).get? b = some o :=
  fun b o e => hideAll_get _ (k b o e) fun q => by rw [n b q] at e; cases e

noncomputable def retOf : Flow → Value
  | .ret v => v
  | _ => .none

theorem enter {n : Nat} {qual : Str} {st : Stmt} {nm : Str} {ar : Arguments} {bd : List Stmt} {dl : List Expr} {rt : Option Expr} {tp : List TypeParam} {sc : Scope} {ts : Option Scope} {bi : Str} {po : Pos} {vals : List Value} {binds : List (Str × Value)} {R : Result → Shared → Prop}
    (hst : st = .FunctionDef nm ar bd dl rt tp sc ts bi po) (hA : Am A (n + 1)) (S : Stat C C.B) (hf : FnIn C.K qual f st) (P : Pre C.B s.heap led)
    (hdef : ar.defaults = []) (hbind : ∀ doc pm an cdv ct, BindsTo s (fnOf nm qual ar bd sc .none .none doc pm an cdv ct) ⟨vals, []⟩ binds)
    (hloc : ∀ y ∈ binds, sc.names.lookup y.1 = some .local) (hcell : ∀ y ∈ sc.names, y.2 ≠ .cell)
    (hco : sc.isCoroutine = false) (hgen : sc.isGenerator = false) (hk : sc.kind = .function)
    (h : ∀ (I : Info) (s₁ : Shared) (cdv : Value) (A' : Around), Am A' n → I.H = hideAll s.heap (led.map (·.1)) → I.G = s.heap → I.z = s → Stat C I.H → St I (fun y => binds.reverse.lookup y) led s₁ →
      wpAny C.M A' (execs bd (envOf qual sc I.L f cdv)) (fun fl s' => R (.ok (.ret (retOf fl))) s') (fun _ _ => False) s₁) :
    codeAny C.M A (.call (.ref f) ⟨vals, []⟩) R s := by
  obtain ⟨dV, kV, doc, pm, an, cdv, ct, od, osl, oc, hK, hcd, hdV, rfl⟩ := hf.obj _ _ _ _ _ _ _ _ _ _ hst
  obtain rfl := hdV hdef
  have Ss : Stat C s.heap := S.keeps P.base
  have SH : Stat C (hideAll s.heap (led.map (·.1))) := S.keeps (hideAll_in P.base fun a ha => by
    obtain ⟨p, hp, rfl⟩ := List.mem_map.mp ha
    exact (P.at_ p hp).2)
  refine codeAny_call_def (fd := fnOf nm qual ar bd sc .none .none doc pm an cdv ct) (body := bd) (binds := binds) hA.room (Ss.X _ _ hK) rfl Ss.T.nolimit (codeRec_of Ss.X hcd) rfl (hbind _ _ _ _ _) hcell hloc (fun h₁ hns hk₁ => ?_) hco hgen hk
  have St1 : St ⟨hideAll s.heap (led.map (·.1)), s.heap, s.heap.objs.size, s⟩ (fun y => binds.reverse.lookup y) led { s with heap := h₁, toks := s.toks + binds.length } :=
    ⟨⟨hns, fun b o e => hk₁ b o (of_hideAll _ e), Nat.le_of_eq (hideAll_size _ _)⟩, fun p hp => ⟨hk₁ _ _ (P.at_ p hp).1, Nat.ne_of_lt (Heap.lt_size (P.at_ p hp).1), hideAll_none _ (List.mem_map_of_mem hp)⟩, P.nd, fun b o _ e => hk₁ b o e, rfl, rfl⟩
  refine wpAny_mono (h _ _ cdv _ (hA.deeper (callEnv (fnOf nm qual ar bd sc .none .none doc pm an cdv ct) s.heap.objs.size f)) rfl rfl rfl SH St1) (fun fl s' hq => ?_) fun _ _ x => x.elim
  cases fl <;> exact hq

theorem leave {M : List Addr} {s s' : Shared} (x : St I m led s') (hH : I.H = hideAll s.heap M) (hG : TupLe s.heap I.G) (hz : I.z = s) : Post M s s' :=
  ⟨fun b o hb e => x.fr.keep b o (hH ▸ hideAll_get _ e hb), hG.trans x.tup, hz ▸ x.gens, hz ▸ x.os⟩

theorem call_of {f : Value} {vals : List Value} {Q : Value → Shared → Prop} (h : codeAny C.M A (.call f ⟨vals, []⟩) (fun r s' => match r with | .ok (.ret v) => Q v s' | .ok _ => False | .error e => E e s') s) : wpAny C.M A (call f vals) Q E s := wpAny_call h
end
end Mine
end

noncomputable section
open PySem PySem.W PyProof.Rows PySem.Calls PySem.Spec
namespace Mine
section
variable {C : Cx} {A : Around} {E : Value → Shared → Prop} {I : Info} {m : Str → Option Value} {led : List (Addr × Obj)} {s : Shared}
  {cn : Str} {cs : Scope} {f : Addr} {cd : Value} {env : Env}

noncomputable def LX (o : Obj) (items : List Value) : Prop := ∃ n, o = W.listOf items.toArray n
theorem LX.lst {o : Obj} {items : List Value} : LX o items → Lst o items := fun ⟨n, h⟩ => by subst h; exact ⟨rfl, n, rfl⟩
theorem LX.not {o : Obj} {items : List Value} (h : LX o items) : ¬ IsT o := h.lst.not
theorem LX.isList {h : Heap} {l : Addr} {o : Obj} {items : List Value} (x : LX o items) (g : h.get? l = some o) : h.IsList l items.toArray := x.lst.isList g

theorem upd_seq {a : Addr} {items : List Value} {n : Nat} {g : Array Value → Array Value} {l' : List Value} (x : St I m ((a, W.listOf items.toArray n) :: led) s) (e : g items.toArray = l'.toArray) :
    ∃ o', LX o' l' ∧ St I m ((a, o') :: led) { s with heap := s.heap.update a (Obj.mapSeq g) } := by
  have q := PySem.IsL.update (x.get (.head _)) g
  rw [e] at q
  exact ⟨_, ⟨_, rfl⟩, x.upd (s' := { s with heap := s.heap.update a (Obj.mapSeq g) }) (Heap.SameBut.update ..) q (LX.not (items := items) ⟨n, rfl⟩) rfl rfl⟩

theorem lst_append {a : Addr} {o : Obj} {items : List Value} {v : Value} {Q : Value → Shared → Prop} (x : St I m ((a, o) :: led) s) (hl : LX o items) (hz : items.length ≤ 100000)
    (q : ∀ o' s', LX o' (items ++ [v]) → St I m ((a, o') :: led) s' → Q .none s') : wpAny C.M A (call (.builtin "list.append") [.ref a, v]) Q E s := by
  obtain ⟨n, rfl⟩ := hl
  have hg := x.get (.head _)
  obtain ⟨o', h1, h2⟩ := upd_seq (g := (·.push v)) (l' := items ++ [v]) x (by simp)
  refine wpAny_call_entry slot_list_append ⟨_, hg, rfl⟩ entry_list_append ?_ (args_list_append _ _)
  show wpAny _ _ (updateSeq a (·.push v) >>= fun _ => ret .none) _ _ s
  refine wpAny_bind ?_
  exact wpAny_updateSeq hg rfl (wpAny_pure ⟨.none, rfl, q _ _ h1 h2⟩) (by rw [sizeLine_eq, List.size_toArray]; lia) (by rw [sizeLine_eq]; simp; lia)

theorem lst_pop {a : Addr} {o : Obj} {items : List Value} {v : Value} {Q : Value → Shared → Prop} (x : St I m ((a, o) :: led) s) (hl : LX o (items ++ [v])) (hz : items.length ≤ 100000)
    (q : ∀ o' s', LX o' items → St I m ((a, o') :: led) s' → Q v s') : wpAny C.M A (call (.builtin "list.pop") [.ref a]) Q E s := by
  obtain ⟨n, rfl⟩ := hl
  have hg := x.get (.head _)
  have hk : (items ++ [v]).toArray.size - 1 = items.length := by simp
  obtain ⟨o', h1, h2⟩ := upd_seq (g := fun xs => xs.eraseIdxIfInBounds ((items ++ [v]).toArray.size - 1)) (l' := items) x (by
    rw [hk]; have := kl_erase items [] v; simpa using this)
  refine call_meets PySem.F.slot_list_pop ⟨_, hg, rfl⟩ PySem.F.entry_list_pop (PySem.F.args_list_pop_1 _) (PySem.MeetsSeq.list_pop_last a _ n v (by rw [hk]; simp) (by rw [sizeLine_eq, List.size_toArray]; simp; lia)) ⟨hg, q _ _ h1 h2⟩

theorem lst_pop0 {a : Addr} {o : Obj} {items : List Value} {v : Value} {t : Tok} {Q : Value → Shared → Prop} (x : St I m ((a, o) :: led) s) (hl : LX o (v :: items)) (hz : items.length ≤ 100000)
    (q : ∀ o' s', LX o' items → St I m ((a, o') :: led) s' → Q v s') : wpAny C.M A (call (.builtin "list.pop") [.ref a, .int 0 t]) Q E s := by
  obtain ⟨n, rfl⟩ := hl
  have hg := x.get (.head _)
  obtain ⟨o', h1, h2⟩ := upd_seq (g := fun xs => xs.eraseIdxIfInBounds 0) (l' := items) x (by
    have := kl_erase [] items v; simpa using this)
  refine call_meets PySem.F.slot_list_pop ⟨_, hg, rfl⟩ PySem.F.entry_list_pop (PySem.F.args_list_pop_2 _ _) (PySem.MeetsSeq.list_pop_at a _ n 0 t 0 v (by decide) (by simp [seqIndex?]) (by simp) (by rw [sizeLine_eq, List.size_toArray]; simp; lia)) ⟨hg, q _ _ h1 h2⟩

theorem ev_lmeth {o : Expr} {name : Str} {apos pos : Pos} {args : List Expr} {id : String} {a : Addr} {ob : Obj} {items : List Value} {Q : Value → Shared → Prop} (ho : Ev C A env I m led o (Is (.ref a))) (hm : (a, ob) ∈ led) (hl : LX ob items)
    (slot : Slot "list" name id) (hty : typeOf (.builtin id) = pure (.type "method_descriptor")) (x : St I m led s)
    (k : ∀ s', St I m led s' → wpAny C.M A (callWith pos (.builtin id) [.ref a] (backTo pos (starEach args env)) []) Q E s')
    (h1 : attributeBase o name env (eval o env) = eval o env := by rfl)
    (h2 : (((List.all (backTo pos (starEach args env)) fun x => !Prod.fst x) && List.all (backToKw pos (keywordEach [] env)) fun x => Option.isSome (Prod.fst x)) && decide ((List.length args + List.length (α := Keyword) [] + if List.isEmpty (α := Keyword) [] = true then 0 else 1) < 30)) = true := by rfl)
    (h3 : (apos.endLine == pos.line) = true := by rfl) :
    wpAny C.M A (eval (.Call (.Attribute o name apos) args [] pos) env) Q E s :=
  wpAny_Call_method h1 h2 h3 PySem.F.plainAttrs_list slot hty (ho _ _ _ x fun v s1 h x1 => by
    obtain rfl : v = .ref a := h
    obtain ⟨n, rfl⟩ := hl
    have hg := x1.get hm
    exact ⟨⟨_, hg, rfl⟩, (fun b e => by cases e; exact ⟨_, hg, rfl⟩), k _ x1⟩)

abbrev tupO (vs : List Value) : Obj := { cls := .type "tuple", data := .seq vs.toArray }
theorem IsTup.of_St {a : Addr} {vs : List Value} (x : St I m led s) (h : (a, tupO vs) ∈ led) : IsTup s.heap a vs.toArray := ⟨_, x.get h, rfl, 0, rfl⟩
theorem new_tuple {vs : List Value} {Q : Value → Shared → Prop} (x : St I m led s) (hz : vs.length ≤ 100000) (k : ∀ a s', St I m ((a, tupO vs) :: led) s' → (∀ b o, s.heap.get? b = some o → s'.heap.get? b = some o) → Q (.ref a) s') : wpAny C.M A (newTuple vs) Q E s :=
  wpAny_newTuple (k _ _ (x.push _) fun b o e => Heap.get?_push_of_some _ e) (by rw [sizeLine_eq]; lia)
theorem new_list {vs : List Value} {Q : Value → Shared → Prop} (x : St I m led s) (hz : vs.length ≤ 100000) (k : ∀ a o s', LX o vs → St I m ((a, o) :: led) s' → Q (.ref a) s') : wpAny C.M A (newList vs) Q E s :=
  wpAny_newList (k _ _ _ ⟨0, rfl⟩ (x.push _)) (by rw [sizeLine_eq]; lia)
theorem ev_tuple {es : List Expr} {k : Nat} {pos : Pos} {Rs : List Value → Prop} {Q : Value → Shared → Prop} (h : EvL C A env I m led pos es Rs) (x : St I m led s) (hz : ∀ vs, Rs vs → vs.length ≤ 100000)
    (q : ∀ vs a s', Rs vs → St I m ((a, tupO vs) :: led) s' → Q (.ref a) s') : wpAny C.M A (eval (.Tuple es k pos) env) Q E s :=
  Tuple_ (h _ _ _ x fun vs s1 h1 x1 => new_tuple x1 (hz vs h1) fun a s2 x2 _ => q vs a s2 h1 x2)
theorem ev_list {es : List Expr} {pos : Pos} {Rs : List Value → Prop} {Q : Value → Shared → Prop} (h : EvL C A env I m led pos es Rs) (x : St I m led s) (hz : ∀ vs, Rs vs → vs.length ≤ 100000)
    (q : ∀ vs a o s', Rs vs → LX o vs → St I m ((a, o) :: led) s' → Q (.ref a) s') : wpAny C.M A (eval (.List es pos) env) Q E s :=
  List_ (h _ _ _ x fun vs s1 h1 x1 => new_list x1 (hz vs h1) fun a o s2 h2 x2 => q vs a o s2 h1 h2 x2)

theorem Tr.eqNil {e : Expr} {p pos : Pos} {a : Addr} {o : Obj} {items : List Value} {ns : List Int} (he : Ev C A env I m led e (Is (.ref a))) (hm : (a, o) ∈ led) (hl : Lst o items) (hi : IntsAre items ns) (hu : A.units + 64 < cLine)
    (hb : behindInMarks .Eq (.List [] p) = false := by rfl) : Tr C A env I m led (.Compare e [.Eq] [.List [] p] pos) (decide (ns = [])) :=
  fun s Q E x q => wpAny_isTrue_Compare1 (he _ _ _ x fun v s1 h1 x1 => by
    obtain rfl : v = .ref a := h1
    refine ev_list EvL.nil x1 (fun vs h => by subst h; exact Nat.zero_le _) fun vs b ob s2 h2 h3 x2 => ?_
    subst h2
    exact eq_intsK (hl.isList (x2.get (.tail _ hm))) hi (h3.isList (x2.get (.head _))) IntsAre.nil hu (wpAny_truthy_bool (q _ x2.drop))) hb

theorem Ev.toInt {e : Expr} {p pos : Pos} {i : Int} (S : Stat C I.H) (hn : nsIn C.K mainGlobals "int" = some none) (h : Ev C A env I m led e (IsI i)) (hE : EOk env I := by exact ⟨rfl, rfl, rfl, rfl⟩)
    (hl : env.kindOf "int" = some .globalImplicit := by rfl) (he : starEach (e :: []) env = (false, eval e env) :: starEach [] env := by rfl) (hp : (backTo pos (starEach [] env)).any (·.1) = false := by rfl)
    (hc : eval (.Call (.Name "int" p) (e :: []) [] pos) env = (do callWith pos (← eval (.Name "int" p) env) [] (backTo pos (starEach (e :: []) env)) (backToKw pos (keywordEach [] env))) := by rfl) :
    Ev C A env I m led (.Call (.Name "int" p) [e] [] pos) (IsI i) :=
  fun s Q E x q => ev_bt S hn boot_int x (fun s1 x1 => EvL.cons h EvL.nil he _ _ _ x1 fun vs s2 h2 x2 => by
      obtain ⟨u, r, rfl, ⟨t, rfl⟩, rfl⟩ := h2
      exact call_int_int (q _ _ ⟨_, rfl⟩ x2)) (by decide) hE hl (by rfl) he hp hc

theorem valueAt_stored (kvs : List (Str × Value)) (k x : Str) (v : Value) : valueAt (stored kvs k v) x = if x = k then some v else valueAt kvs x := by
  unfold stored valueAt
  induction kvs with
  | nil =>
    by_cases h : x = k
    · subst h; simp
    · simp [h, Ne.symm h]
  | cons p r ih =>
    obtain ⟨a, b⟩ := p
    by_cases h : x = k
    · subst h
      by_cases ha : a = x
      · subst ha; simp
      · simp only [List.any_cons, ha, decide_false, Bool.false_or, if_true] at ih ⊢
        by_cases hr : (r.any fun kv => decide (kv.1 = x)) = true
        · rw [if_pos hr] at ih ⊢; simpa [List.find?_cons, ha] using ih
        · rw [if_neg hr] at ih ⊢; simpa [List.find?_cons, ha] using ih
    · rw [if_neg h] at ih ⊢
      by_cases ha : a = k
      · subst ha
        simp only [List.any_cons, decide_true, Bool.true_or, if_true, List.map_cons, List.find?_cons]
        have hax : decide (a = x) = false := by simp [Ne.symm h]
        simp only [hax]
        by_cases hr : (r.any fun kv => decide (kv.1 = a)) = true
        · rw [if_pos hr] at ih; exact ih
        · have : r.map (fun kv => if kv.1 = a then (kv.1, v) else kv) = r := by
            refine List.map_congr_left (g := id) (fun kv hkv => ?_) |>.trans (List.map_id _)
            have : ¬ kv.1 = a := fun e => hr (List.any_eq_true.mpr ⟨kv, hkv, by simp [e]⟩)
            simp [this]
          rw [this]
      · simp only [List.any_cons, ha, decide_false, Bool.false_or]
        by_cases hr : (r.any fun kv => decide (kv.1 = k)) = true
        · rw [if_pos hr] at ih ⊢
          simp only [List.map_cons, ha, if_false, List.find?_cons]
          by_cases hax : a = x
          · simp [hax]
          · simp only [hax, decide_false]; exact ih
        · rw [if_neg hr] at ih ⊢
          simp only [List.cons_append, List.find?_cons]
          by_cases hax : a = x
          · simp [hax]
          · simp only [hax, decide_false]; exact ih
theorem stored_length (kvs : List (Str × Value)) (k : Str) (v : Value) (h : (valueAt kvs k).isSome = true) : (stored kvs k v).length = kvs.length := by
  unfold stored
  have : (kvs.any fun kv => decide (kv.1 = k)) = true := by
    unfold valueAt at h
    simpa using h
  rw [if_pos this, List.length_map]
end

noncomputable def nmAt (i : Nat) : Str := match stAt i with
  | .FunctionDef nm _ _ _ _ _ _ _ _ _ => nm
  | .ClassDef nm _ _ _ _ _ _ _ _ _ _ => nm
  | _ => Str.empty
noncomputable def biNames : List Str := ["abs", "int", "sum", "max", "range", "len", "list", "reversed", "sorted", "tuple"]
noncomputable def fnIdx : List Nat := [3, 5, 6, 8, 9, 10, 11, 12, 13, 16, 17, 18, 20, 21, 22, 23, 25, 26, 27, 30, 31, 32, 33, 34, 35, 36, 37, 38, 39]

structure Ok (C : Cx) (fa : Nat → Addr) : Prop where
  S : Stat C C.B
  bi : ∀ y ∈ biNames, nsIn C.K mainGlobals y = some none
  nm : ∀ i ∈ fnIdx, nsIn C.K mainGlobals (nmAt i) = some (some (.ref (fa i)))
  fn : ∀ i ∈ fnIdx, FnIn C.K (nmAt i) (fa i) (stAt i)
end Mine
end

noncomputable section
open PySem PySem.W PyProof.Rows PySem.Calls PySem.Spec
set_option maxRecDepth 100000
namespace Mine
section
variable {C : Cx} {A : Around} {E : Value → Shared → Prop} {s : Shared} {fa : Nat → Addr} {f : Addr} {led : List (Addr × Obj)}

theorem go {n : Nat} {qual : Str} {st : Stmt} {nm : Str} {ar : Arguments} {bd : List Stmt} {dl : List Expr} {rt : Option Expr} {tp : List TypeParam} {sc : Scope} {ts : Option Scope} {bi : Str} {po : Pos} {vals : List Value} {Q : Value → Shared → Prop}
    (hst : st = .FunctionDef nm ar bd dl rt tp sc ts bi po) (hA : Am A (n + 1)) (S : Stat C C.B) (hf : FnIn C.K qual f st) (P : Pre C.B s.heap led)
    (h : ∀ (I : Info) (s₁ : Shared) (cdv : Value) (A' : Around), Am A' n → I.H = hideAll s.heap (led.map (·.1)) → I.G = s.heap → I.z = s → Stat C I.H → St I (par0 ar vals) led s₁ →
      wpAny C.M A' (execs bd (envOf qual sc I.L f cdv)) (fun fl s' => Q (retOf fl) s') (fun _ _ => False) s₁)
    (hdef : ar.defaults = [] := by rfl) (hbind : ∀ doc pm an cdv ct, bindArgs (fnOf nm qual ar bd sc .none .none doc pm an cdv ct) ⟨vals, []⟩ = pure ((ar.args.map (·.arg)).zip vals) := by intros; rfl)
    (hloc : (((ar.args.map (·.arg)).zip vals).all fun x => decide (sc.names.lookup x.1 = some .local)) = true := by rfl) (hcell : ∀ y ∈ sc.names, y.2 ≠ .cell := by decide)
    (hco : sc.isCoroutine = false := by rfl) (hgen : sc.isGenerator = false := by rfl) (hk : sc.kind = .function := by rfl) :
    wpAny C.M A (call (.ref f) vals) Q E s :=
  call_of (enter hst hA S hf P hdef (fun _ _ _ _ _ => BindsTo.of_eq (hbind _ _ _ _ _)) (locs hloc) hcell hco hgen hk h)

inductive Fd (c : Addr) (o : Obj) : Prop
  | mk (i : Int) (t : Tok) (j : Int) (u : Tok) (h1 : Lst o [.ref c, .int i t, .int j u]) (h2 : 0 ≤ j ∧ j < 2147483647) : Fd c o
inductive Cl (o : Obj) : Prop
  | mk (vs : List Value) (ns : List Int) (h1 : LX o vs) (h2 : IntsAre vs ns ∧ vs.length ≤ 1000) : Cl o
inductive Wl (C : Cx) (f : Addr) (room : Int) (o : Obj) : Prop
  | mk (kvs : List (Str × Value)) (h1 : Dct C o kvs) (h2 : kvs.length ≤ 3) (h3 : valueAt kvs "feed" = some (.ref f) ∧ (∃ i t, valueAt kvs "at" = some (.int i t)) ∧ ∃ t, valueAt kvs "room" = some (.int room t)) : Wl C f room o

theorem mark_spec {n : Nat} {w f c : Addr} {ow of oc : Obj} {room : Int} {Q : Value → Shared → Prop} (O : Ok C fa) (hA : Am A (n + 1)) (P : Pre C.B s.heap [(w, ow), (f, of), (c, oc)]) (hw : Wl C f room ow)
    (k : ∀ i t s' ow', Post [w, f, c] s s' → s'.heap.get? w = some ow' → s'.heap.get? f = some of → s'.heap.get? c = some oc → Wl C f room ow' → Q (.int i t) s') :
    wpAny C.M A (call (.ref (fa 32)) [.ref w]) Q E s := by
  refine go (st := stAt 32) rfl hA O.S (O.fn 32 (by decide)) P fun I s1 cd A' hA' hH hG hz SI x => ?_
  obtain ⟨kvs, hd, hlen, h1, ⟨i, t, h2⟩, t', h3⟩ := hw
  refine wpAny_execs_cons ?_
  refine wpAny_Assign_Subscript (Ev.use (Ev.add (i := i) (.mono (.dct (.loc rfl) .cS (.head _) hd h2) fun v h => ⟨t, h⟩) .cI) x fun v s2 e2 x2 => ?_) (by rfl)
  refine Ev.use (Ev.loc rfl) x2 fun v3 s3 e3 x3 => ?_
  refine Ev.use Ev.cS x3 fun v4 s4 e4 x4 => ?_
  obtain ⟨t2, rfl⟩ := e2; obtain rfl := e3; obtain ⟨t4, rfl⟩ := e4
  refine setDct x4 hd (Nat.le_trans hlen (by decide)) fun ow' s5 hd' x5 => ?_
  dsimp only
  refine wpAny_execs_cons (xRet (.dct (.loc rfl) .cS (.head _) hd' (by rw [valueAt_stored, if_pos rfl])) x5 fun v s6 e6 x6 => ?_)
  obtain rfl := e6
  refine k _ _ _ _ (leave x6 hH (hG ▸ TupLe.refl _) hz) (x6.get (.head _)) (x6.get (.tail _ (.head _))) (x6.get (.tail _ (.tail _ (.head _)))) ⟨_, hd', ?_, ?_, ?_, ?_⟩
  · rw [stored_length _ _ _ (by rw [h2]; rfl)]; exact hlen
  · rw [valueAt_stored, if_neg (by decide)]; exact h1
  · exact ⟨_, _, by rw [valueAt_stored, if_pos rfl]⟩
  · exact ⟨_, by rw [valueAt_stored, if_neg (by decide)]; exact h3⟩

theorem St.swap {I : Info} {m : Str → Option Value} {p q : Addr × Obj} {r : List (Addr × Obj)} (x : St I m (p :: q :: r) s) : St I m (q :: p :: r) s := x.perm (.swap _ _ _)
theorem seq {env : Env} {P : Shared → Prop} {st : Stmt} {rest : List Stmt} {Q : Flow → Shared → Prop} (h : wpAny C.M A (exec st env) (fun fl s' => fl = .next ∧ P s') E s) (k : ∀ s', P s' → wpAny C.M A (execs rest env) Q E s') :
    wpAny C.M A (execs (st :: rest) env) Q E s := wpAny_execs_cons (wpAny_mono h (fun fl s' h' => by obtain ⟨rfl, hP⟩ := h'; exact k _ hP) fun _ _ e => e)
theorem seq' {env : Env} {P : Shared → Prop} {st : Stmt} {rest : List Stmt} {Q : Flow → Shared → Prop} (h : ∀ P' : Flow → Shared → Prop, (∀ s', P s' → P' .next s') → wpAny C.M A (exec st env) P' E s) (k : ∀ s', P s' → wpAny C.M A (execs rest env) Q E s') :
    wpAny C.M A (execs (st :: rest) env) Q E s := seq (h _ fun s' h => ⟨rfl, h⟩) k
theorem nxt {env : Env} {P : Shared → Prop} (h : P s) : wpAny C.M A (execs [] env) (fun fl s' => fl = .next ∧ P s') E s := wpAny_execs_nil ⟨rfl, h⟩
theorem last {env : Env} {st : Stmt} {Q : Flow → Shared → Prop} (h : wpAny C.M A (exec st env) Q E s) : wpAny C.M A (execs [st] env) Q E s :=
  wpAny_execs_cons (wpAny_mono h (fun fl s' h' => by cases fl <;> first | exact wpAny_execs_nil h' | exact h') fun _ _ e => e)

theorem fmod_bd (a : Int) {b : Int} (h : 0 < b) : 0 ≤ Int.fmod a b ∧ Int.fmod a b < b := ⟨Int.fmod_nonneg_of_pos a h, Int.fmod_lt_of_pos a h⟩

theorem pick_spec {n : Nat} {f c : Addr} {of oc : Obj} {many : Int} {t : Tok} {Q : Value → Shared → Prop} (O : Ok C fa) (hA : Am A (n + 1)) (P : Pre C.B s.heap [(f, of), (c, oc)]) (hf : Fd c of) (hc : Cl oc) (h0 : 0 < many) (h1 : many < 1000)
    (k : ∀ i t s' of' oc', 0 ≤ i → i < many → Post [f, c] s s' → s'.heap.get? f = some of' → s'.heap.get? c = some oc' → Fd c of' → Cl oc' → Q (.int i t) s') :
    wpAny C.M A (call (.ref (fa 31)) [.ref f, .int many t]) Q E s := by
  refine go (st := stAt 31) rfl hA O.S (O.fn 31 (by decide)) P fun I s1 cd A' hA' hH hG hz SI x => ?_
  obtain ⟨i, ti, j, u, hl, hj0, hj1⟩ := hf
  refine seq (P := fun s' => ∃ of' oc', x.at [(f, of'), (c, oc')] s' ∧ Fd c of' ∧ Cl oc') ?_ fun s2 h2 => ?_
  · refine xIf (Tr.eqI (i := i) (.mono (.lst (.loc rfl) .cI (.head _) hl) fun v h => ⟨_, h⟩) .cI) x fun s2 x2 => ?_
    by_cases hi : (i == 0) = true
    · rw [if_pos hi]
      obtain ⟨vs, ns, hx, hns, hlen⟩ := hc
      refine last (xIf (Tr.eqNil (.lst (.loc rfl) .cI (.head _) hl) (.tail _ (.head _)) hx.lst hns (by have := hA'.hu; rw [cLine_is]; lia)) x2 fun s3 x3 => ?_)
      by_cases he : ns = []
      · rw [if_pos (by simpa using he)]
        refine wpAny_execs_cons ?_
        refine wpAny_Assign_Subscript (Ev.use (Ev.mod hA'.hh (.mul (.toInt SI (O.bi "int" (by decide)) (.mono (.lst (.loc rfl) .cI (.head _) hl) fun v h => ⟨_, h⟩)) .cI (.of_right (by decide +kernel))) .cI (by decide)) x3 fun v4 s4 e4 x4 => ?_) (by rfl)
        refine Ev.use (Ev.loc rfl) x4 fun v5 s5 e5 x5 => ?_
        refine Ev.use Ev.cI x5 fun v6 s6 e6 x6 => ?_
        obtain ⟨t4, rfl⟩ := e4; obtain rfl := e5; obtain ⟨t6, rfl⟩ := e6
        refine setLst x6 hl (by decide) (by decide) (by simp) fun of' s7 hl' x7 => ?_
        have b := fmod_bd (j * 48271) (b := 2147483647) (by decide)
        refine last ?_
        refine wpAny_Assign_Subscript (Ev.use (Ev.fdiv hA'.hh (.mono (.lst (.loc rfl) .cI (.head _) hl') fun v h => ⟨_, h⟩) .cI (by decide) (by decide)) x7 fun v4 s4 e4 x4 => ?_) (by rfl)
        refine Ev.use (Ev.loc rfl) x4 fun v5 s5 e5 x5 => ?_
        refine Ev.use Ev.cI x5 fun v6 s6 e6 x6 => ?_
        obtain ⟨t4, rfl⟩ := e4; obtain rfl := e5; obtain ⟨t6, rfl⟩ := e6
        refine setLst x6 hl' (by decide) (by decide) (by simp) fun of' s7 hl'' x7 => ?_
        exact ⟨rfl, _, _, x7, ⟨_, _, _, _, hl'', b.1, b.2⟩, ⟨vs, ns, hx, hns, hlen⟩⟩
      · rw [if_neg (by simpa using he)]
        cases hns with
        | nil => exact absurd rfl he
        | @cons vs' ns' a ta hns' =>
        refine last ?_
        refine wpAny_Assign_Subscript (ev_lmeth (.lst (.loc rfl) .cI (.head _) hl) (.tail _ (.head _)) hx PySem.F.slot_list_pop PySem.F.type_list_pop x3 fun s4 x4 => ?_) (by rfl)
        refine PyProof.Rows.callWith_method1 (EvL.use (EvL.cons .cI .nil) x4 fun vs5 s5 e5 x5 => ?_)
        obtain ⟨v, r, rfl, ⟨tv, rfl⟩, rfl⟩ := e5
        refine lst_pop0 x5.swap hx (by simp at hlen; lia) fun oc' s6 hx' x6 => ?_
        refine Ev.use (Ev.loc rfl) x6.swap fun v5 s5 e5 x5 => ?_
        refine Ev.use Ev.cI x5 fun v6 s6 e6 x6 => ?_
        obtain rfl := e5; obtain ⟨t6, rfl⟩ := e6
        refine setLst x6 hl (by decide) (by decide) (by simp) fun of' s7 hl' x7 => ?_
        exact ⟨rfl, _, _, x7, ⟨_, _, _, _, hl', hj0, hj1⟩, ⟨_, _, hx', hns', by simp at hlen; lia⟩⟩
    · rw [if_neg hi]
      exact nxt ⟨of, oc, x2, ⟨i, ti, j, u, hl, hj0, hj1⟩, hc⟩
  · obtain ⟨of2, oc2, x2, ⟨i, ti, j, u, hl, hj0, hj1⟩, hc⟩ := h2
    refine wpAny_execs_cons (xSet (.mod hA'.hh (.toInt SI (O.bi "int" (by decide)) (.mono (.lst (.loc rfl) .cI (.head _) hl) fun v h => ⟨_, h⟩)) (.locI rfl) (by lia)) x2 fun v s3 e3 x3 => ?_)
    refine wpAny_execs_cons ?_
    refine wpAny_Assign_Subscript (Ev.use (Ev.fdiv hA'.hh (.mono (.lst (.loc rfl) .cI (.head _) hl) fun v h => ⟨_, h⟩) (.locI rfl) (by lia) (by lia)) x3 fun v4 s4 e4 x4 => ?_) (by rfl)
    refine Ev.use (Ev.loc rfl) x4 fun v5 s5 e5 x5 => ?_
    refine Ev.use Ev.cI x5 fun v6 s6 e6 x6 => ?_
    obtain ⟨t4, rfl⟩ := e4; obtain rfl := e5; obtain ⟨t6, rfl⟩ := e6
    refine setLst x6 hl (by decide) (by decide) (by simp) fun of' s7 hl' x7 => ?_
    obtain ⟨t3, rfl⟩ := e3
    refine last (xRet (Ev.loc rfl) x7 fun v s8 e8 x8 => ?_)
    obtain rfl := e8
    have b := fmod_bd i h0
    exact k _ _ _ _ _ b.1 b.2 (leave x8 hH (hG ▸ TupLe.refl _) hz) (x8.get (.head _)) (x8.get (.tail _ (.head _))) ⟨_, _, _, _, hl', hj0, hj1⟩ hc
end
end Mine
end

noncomputable section
open PySem PySem.W PyProof.Rows PySem.Calls PySem.Spec
set_option maxRecDepth 100000
namespace Mine

structure D where
  isVar : Bool
  m : Int
  x : Str
inductive K1 where
  | delay | while | repeat | wait
inductive T where
  | non
  | dis (m m2 : Int) (x : Str)
  | trg (m m2 : Int) (x : Str)
  | pth (d : Bool) (m : Int)
  | blk (fk : Bool) (m : Int) (lab : Option Str) (ds : List D) (ts : List T)
  | cho (m : Int) (a b : T)
  | cas (m : Int) (a b : T)
  | one (k : K1) (m : Int) (a : T)
  | fev (m : Int) (a : T)
  | awt (m : Int) (a : T)
  | lop (m : Int) (a : T)

noncomputable def K1.tag : K1 → Str
  | .delay => "delay"
  | .while => "while"
  | .repeat => "repeat"
  | .wait => "wait"

mutual
noncomputable def T.cnt : T → Nat
  | .non => 0
  | .dis .. | .trg .. | .pth .. => 1
  | .blk _ _ _ _ ts => 1 + T.cnts ts
  | .cho _ a b | .cas _ a b => 1 + a.cnt + b.cnt
  | .one _ _ a | .fev _ a | .awt _ a | .lop _ a => 1 + a.cnt
noncomputable def T.cnts : List T → Nat
  | [] => 0
  | t :: ts => t.cnt + T.cnts ts
end
mutual
noncomputable def T.sz : T → Nat
  | .non => 1
  | .dis .. | .trg .. | .pth .. => 1
  | .blk _ _ _ _ ts => 1 + T.szs ts
  | .cho _ a b | .cas _ a b => 1 + a.sz + b.sz
  | .one _ _ a | .fev _ a | .awt _ a | .lop _ a => 1 + a.sz
noncomputable def T.szs : List T → Nat
  | [] => 0
  | t :: ts => t.sz + T.szs ts
end
theorem T.sz_pos : ∀ t : T, 1 ≤ t.sz := by
  intro t; cases t <;> simp only [T.sz] <;> lia
mutual
noncomputable def T.ok : Nat → T → Prop
  | _, .non | _, .dis .. | _, .trg .. | _, .pth .. => True
  | 0, _ => False
  | d + 1, .blk _ _ lab ds ts => (∀ l, lab = some l → l ≠ "i") ∧ ds.length ≤ 2 ∧ (∀ e ∈ ds, e.x ≠ "i") ∧ ts.length ≤ 7 ∧ T.oks d ts
  | d + 1, .cho _ a b | d + 1, .cas _ a b => a.ok d ∧ b.ok d
  | d + 1, .one _ _ a | d + 1, .fev _ a | d + 1, .awt _ a | d + 1, .lop _ a => a.ok d
noncomputable def T.oks : Nat → List T → Prop
  | _, [] => True
  | d, t :: ts => t.ok d ∧ T.oks d ts
end
theorem T.oks_mem {d : Nat} : ∀ {ts : List T}, T.oks d ts → ∀ t ∈ ts, t.ok d
  | t :: ts, h, u, hu => by
    rcases List.mem_cons.mp hu with rfl | hu
    · exact h.1
    · exact T.oks_mem h.2 u hu

inductive One (h : Heap) (v : Value) : Prop
  | mk (a : Addr) (x : Tok) (r : List Value) (h1 : v = .ref a) (h2 : IsTup h a ((Value.str "num" x) :: r).toArray) : One h v
inductive Nm (h : Heap) (m : Int) (x : Str) (v : Value) : Prop
  | mk (a : Addr) (t1 t2 t3 : Tok) (h1 : v = .ref a) (h2 : IsTup h a [.str "id" t1, .int m t2, .str x t3].toArray) : Nm h m x v
inductive Pt (h : Heap) (v : Value) : Prop
  | mk (a : Addr) (t1 : Tok) (r : List Value) (e : v = .ref a) (y : IsTup h a ((Value.str "path" t1) :: r).toArray) : Pt h v
noncomputable def Lab (l : Option Str) (v : Value) : Prop := match l with
  | none => v = .none
  | some x => ∃ t, v = .str x t
inductive Lead (h : Heap) (v : Value) : Prop
  | mk (a : Addr) (i o : Value) (m : Int) (e : v = .ref a) (y : IsTup h a [i, o].toArray) (y2 : Nm h m "i" i) (y3 : One h o) : Lead h v
noncomputable def Dc (h : Heap) (d : D) (v : Value) : Prop := ∃ a, v = .ref a ∧
  ((d.isVar = true ∧ ∃ t1 t2 t3 t4 b, IsTup h a [.str "var" t1, .int d.m t2, .str "reg" t3, .bool false, .none, .str d.x t4, .ref b, .none].toArray ∧ IsTup h b [].toArray) ∨
   (d.isVar = false ∧ ∃ t1 t2 t3, IsTup h a [.str "event" t1, .int d.m t2, .str d.x t3].toArray))
inductive All2 {α β : Type} (R : α → β → Prop) : List α → List β → Prop
  | nil : All2 R [] []
  | cons {a b as bs} : R a b → All2 R as bs → All2 R (a :: as) (b :: bs)
theorem All2.mono {α β : Type} {R S : α → β → Prop} {as : List α} {bs : List β} (h : All2 R as bs) (k : ∀ a b, R a b → S a b) : All2 S as bs := by
  induction h with
  | nil => exact .nil
  | cons h _ ih => exact .cons (k _ _ h) ih
theorem All2.length {α β : Type} {R : α → β → Prop} {as : List α} {bs : List β} (h : All2 R as bs) : as.length = bs.length := by
  induction h with
  | nil => rfl
  | cons _ _ ih => simp [ih]
theorem All2.snoc {α β : Type} {R : α → β → Prop} {as : List α} {bs : List β} {a : α} {b : β} (h : All2 R as bs) (k : R a b) : All2 R (as ++ [a]) (bs ++ [b]) := by
  induction h with
  | nil => exact .cons k .nil
  | cons h _ ih => exact .cons h ih
theorem All2.get {α β : Type} {R : α → β → Prop} {as : List α} {bs : List β} (h : All2 R as bs) {i : Nat} {b : β} (hb : bs[i]? = some b) : ∃ a, as[i]? = some a ∧ R a b := by
  induction h generalizing i with
  | nil => simp at hb
  | cons h _ ih =>
    cases i with
    | zero => simp at hb; subst hb; exact ⟨_, rfl, h⟩
    | succ i => simp at hb; simpa using ih hb
theorem All2.append {α β : Type} {R : α → β → Prop} {as as' : List α} {bs bs' : List β} (h : All2 R as bs) (k : All2 R as' bs') : All2 R (as ++ as') (bs ++ bs') := by
  induction h with
  | nil => exact k
  | cons h _ ih => exact .cons h ih
theorem All2.rev {α β : Type} {R : α → β → Prop} {as : List α} {bs : List β} (h : All2 R as bs) : All2 R as.reverse bs.reverse := by
  induction h with
  | nil => exact .nil
  | cons h _ ih => rw [List.reverse_cons, List.reverse_cons]; exact ih.snoc h

inductive V3 (h : Heap) (tag : Str) (m : Int) (P : Value → Prop) (v : Value) : Prop
  | mk (p : Addr) (t1 t2 : Tok) (n : Value) (e : v = .ref p) (y : IsTup h p [.str tag t1, .int m t2, n].toArray) (z : P n) : V3 h tag m P v
inductive V4 (h : Heap) (tag : Str) (m : Int) (P : Value → Prop) (v : Value) : Prop
  | mk (p : Addr) (t1 t2 : Tok) (o n : Value) (e : v = .ref p) (y : IsTup h p [.str tag t1, .int m t2, o, n].toArray) (y2 : One h o) (z : P n) : V4 h tag m P v
inductive Cho (h : Heap) (m : Int) (P R : Value → Prop) (v : Value) : Prop
  | mk (p : Addr) (t1 t2 : Tok) (o va vb : Value) (e : v = .ref p) (y : IsTup h p [.str "if" t1, .int m t2, o, va, vb].toArray) (y2 : One h o) (z : P va) (w : R vb) : Cho h m P R v
inductive Cas (h : Heap) (m : Int) (P R : Value → Prop) (v : Value) : Prop
  | mk (p : Addr) (t1 t2 : Tok) (z o : Value) (c p1 p2 l : Addr) (lo va vb : Value) (e : v = .ref p) (y : IsTup h p [.str "case" t1, .int m t2, z, o, .ref c].toArray) (y2 : One h o) (y3 : IsTup h c [.ref p1, .ref p2].toArray)
      (y4 : IsTup h p1 [.ref l, va].toArray) (y5 : IsTup h l [lo].toArray) (y6 : One h lo) (y7 : IsTup h p2 [.none, vb].toArray) (w1 : P va) (w2 : R vb) : Cas h m P R v
inductive Awt (h : Heap) (m : Int) (P : Value → Prop) (v : Value) : Prop
  | mk (p : Addr) (t1 t2 t3 : Tok) (e : Addr) (va : Value) (e1 : v = .ref p) (y : IsTup h p [.str "await" t1, .int m t2, .ref e, va].toArray) (y2 : IsTup h e [.str "star" t3].toArray) (z : P va) : Awt h m P v
inductive Lop (h : Heap) (m : Int) (P : Value → Prop) (v : Value) : Prop
  | mk (p : Addr) (t1 t2 : Tok) (l1 o l2 va : Value) (e : v = .ref p) (y : IsTup h p [.str "for" t1, .int m t2, l1, o, l2, va].toArray) (y2 : Lead h l1) (y3 : One h o) (y4 : Lead h l2) (z : P va) : Lop h m P v
inductive Blk (h : Heap) (fk : Bool) (m : Int) (lab : Option Str) (ds : List D) (P : List Value → Prop) (v : Value) : Prop
  | mk (a : Addr) (t1 t2 : Tok) (lv : Value) (da : Addr) (dvs : List Value) (ta : Addr) (tvs : List Value) (e : v = .ref a) (y1 : IsTup h a [.str (if fk then "fork" else "block") t1, .int m t2, lv, .ref da, .ref ta].toArray) (y2 : Lab lab lv)
      (y3 : IsTup h da dvs.toArray) (y4 : All2 (Dc h) ds dvs) (y5 : IsTup h ta tvs.toArray) (y6 : P tvs) : Blk h fk m lab ds P v
inductive Con (P : Value → Prop) (R : List Value → Prop) (vs : List Value) : Prop
  | mk (v : Value) (r : List Value) (e : vs = v :: r) (x : P v) (y : R r) : Con P R vs
mutual
noncomputable def Tree (h : Heap) : T → Value → Prop
  | .non, v => v = .none
  | .dis m m2 x, v => V3 h "disable" m (Nm h m2 x) v
  | .trg m m2 x, v => V3 h "trigger" m (Nm h m2 x) v
  | .pth d m, v => V3 h (if d then "disable" else "trigger") m (Pt h) v
  | .blk fk m lab ds ts, v => Blk h fk m lab ds (Trees h ts) v
  | .cho m a b, v => Cho h m (Tree h a) (Tree h b) v
  | .cas m a b, v => Cas h m (Tree h a) (Tree h b) v
  | .one k m a, v => V4 h k.tag m (Tree h a) v
  | .fev m a, v => V3 h "forever" m (Tree h a) v
  | .awt m a, v => Awt h m (Tree h a) v
  | .lop m a, v => Lop h m (Tree h a) v
noncomputable def Trees (h : Heap) : List T → List Value → Prop
  | [], vs => vs = []
  | t :: ts, vs => Con (Tree h t) (Trees h ts) vs
end

theorem ref_inj {a b : Addr} (h : Value.ref a = .ref b) : a = b := Value.ref.inj h
theorem TupLe.tup {h h' : Heap} {a : Addr} {xs : Array Value} (k : TupLe h h') (x : IsTup h a xs) : IsTup h' a xs := by
  obtain ⟨o, ho, hc, n, hd⟩ := x
  exact ⟨o, k a o ⟨hc, _, n, hd⟩ ho, hc, n, hd⟩
theorem One.le {h h' : Heap} {v : Value} (x : One h v) (k : TupLe h h') : One h' v := by
  obtain ⟨a, t, r, rfl, x⟩ := x; exact ⟨a, t, r, rfl, k.tup x⟩
theorem Nm.le {h h' : Heap} {v : Value} {m : Int} {n : Str} (x : Nm h m n v) (k : TupLe h h') : Nm h' m n v := by
  obtain ⟨a, t1, t2, t3, rfl, x⟩ := x; exact ⟨a, t1, t2, t3, rfl, k.tup x⟩
theorem Pt.le {h h' : Heap} {v : Value} (x : Pt h v) (k : TupLe h h') : Pt h' v := by
  obtain ⟨a, t, r, rfl, x⟩ := x; exact ⟨a, t, r, rfl, k.tup x⟩
theorem Lead.le {h h' : Heap} {v : Value} (x : Lead h v) (k : TupLe h h') : Lead h' v := by
  obtain ⟨a, i, o, m, rfl, x, y, z⟩ := x; exact ⟨a, i, o, m, rfl, k.tup x, y.le k, z.le k⟩
theorem Dc.le {h h' : Heap} {v : Value} {d : D} (x : Dc h d v) (k : TupLe h h') : Dc h' d v := by
  obtain ⟨a, rfl, x⟩ := x
  refine ⟨a, rfl, ?_⟩
  rcases x with ⟨e, t1, t2, t3, t4, b, x, y⟩ | ⟨e, t1, t2, t3, x⟩
  · exact .inl ⟨e, t1, t2, t3, t4, b, k.tup x, k.tup y⟩
  · exact .inr ⟨e, t1, t2, t3, k.tup x⟩
mutual
theorem Tree.le {h h' : Heap} (k : TupLe h h') : ∀ (t : T) (v : Value), Tree h t v → Tree h' t v
  | .non, v, x => x
  | .dis m m2 x, v, y => by
    obtain ⟨a, t1, t2, n, e, y, z⟩ := y; exact ⟨a, t1, t2, n, e, k.tup y, z.le k⟩
  | .trg m m2 x, v, y => by
    obtain ⟨a, t1, t2, n, e, y, z⟩ := y; exact ⟨a, t1, t2, n, e, k.tup y, z.le k⟩
  | .pth d m, v, y => by
    obtain ⟨a, t1, t2, n, e, y, z⟩ := y; exact ⟨a, t1, t2, n, e, k.tup y, z.le k⟩
  | .blk fk m lab ds ts, v, y => by
    obtain ⟨a, t1, t2, lv, da, dvs, ta, tvs, e, y1, y2, y3, y4, y5, y6⟩ := y
    exact ⟨a, t1, t2, lv, da, dvs, ta, tvs, e, k.tup y1, y2, k.tup y3, y4.mono fun _ _ z => z.le k, k.tup y5, Trees.le k ts tvs y6⟩
  | .cho m a b, v, y => by
    obtain ⟨p, t1, t2, o, va, vb, e, y1, y2, y3, y4⟩ := y
    exact ⟨p, t1, t2, o, va, vb, e, k.tup y1, y2.le k, Tree.le k a va y3, Tree.le k b vb y4⟩
  | .cas m a b, v, y => by
    obtain ⟨p, t1, t2, z, o, c, p1, p2, l, lo, va, vb, e, y1, y2, y3, y4, y5, y6, y7, y8, y9⟩ := y
    exact ⟨p, t1, t2, z, o, c, p1, p2, l, lo, va, vb, e, k.tup y1, y2.le k, k.tup y3, k.tup y4, k.tup y5, y6.le k, k.tup y7, Tree.le k a va y8, Tree.le k b vb y9⟩
  | .one kk m a, v, y => by
    obtain ⟨p, t1, t2, o, va, e, y1, y2, y3⟩ := y
    exact ⟨p, t1, t2, o, va, e, k.tup y1, y2.le k, Tree.le k a va y3⟩
  | .fev m a, v, y => by
    obtain ⟨p, t1, t2, va, e, y1, y3⟩ := y
    exact ⟨p, t1, t2, va, e, k.tup y1, Tree.le k a va y3⟩
  | .awt m a, v, y => by
    obtain ⟨p, t1, t2, t3, ev, va, e, y1, y2, y3⟩ := y
    exact ⟨p, t1, t2, t3, ev, va, e, k.tup y1, k.tup y2, Tree.le k a va y3⟩
  | .lop m a, v, y => by
    obtain ⟨p, t1, t2, l1, o, l2, va, e, y1, y2, y3, y4, y5⟩ := y
    exact ⟨p, t1, t2, l1, o, l2, va, e, k.tup y1, y2.le k, y3.le k, y4.le k, Tree.le k a va y5⟩
theorem Trees.le {h h' : Heap} (k : TupLe h h') : ∀ (ts : List T) (vs : List Value), Trees h ts vs → Trees h' ts vs
  | [], vs, x => x
  | t :: ts, vs, x => by
    obtain ⟨v, r, e, x, y⟩ := x
    exact ⟨v, r, e, Tree.le k t v x, Trees.le k ts r y⟩
end
theorem Trees.all2 {h : Heap} : ∀ {ts : List T} {vs : List Value}, Trees h ts vs → All2 (Tree h) ts vs
  | [], vs, x => by obtain rfl : vs = [] := x; exact .nil
  | t :: ts, vs, x => by
    obtain ⟨v, r, rfl, x, y⟩ := x
    exact .cons x y.all2
theorem All2.trees {h : Heap} {ts : List T} {vs : List Value} (x : All2 (Tree h) ts vs) : Trees h ts vs := by
  induction x with
  | nil => rfl
  | cons x _ ih => exact ⟨_, _, rfl, x, ih⟩
end Mine
end

noncomputable section
open PySem PySem.W PyProof.Rows PySem.Calls PySem.Spec
set_option maxRecDepth 100000
namespace Mine
section
variable {C : Cx} {A : Around} {E : Value → Shared → Prop} {s : Shared} {I : Info} {m : Str → Option Value} {led : List (Addr × Obj)} {env : Env}

abbrev Info.on (I : Info) (G : Heap) : Info := { I with G := G }
theorem St.rebase (x : St I m led s) : St (I.on s.heap) m led s := ⟨x.fr, x.news, x.nd, TupLe.refl _, x.gens, x.os⟩

structure Itr (C : Cx) (A : Around) (it : Addr) (N : Nat) (V : Nat → Value → Prop) (K : Nat → Obj → Prop) (side : Heap → List (Addr × Obj) → Prop) : Prop where
  self : ∀ {i o I m led s Q E}, K i o → St I m ((it, o) :: led) s → Q (.ref it) s → wpAny C.M A (pyIter (.ref it)) Q E s
  own : ∀ {i o target v I m led s Q E}, K i o → St I m ((it, o) :: led) s → Q () s → wpAny C.M A (letOwnedTupleGo target (.ref it) v) Q E s
  item : ∀ {i o I m led s Q E}, i < N → K i o → side I.G led → St I m ((it, o) :: led) s → (∀ v o' s', V i v → K (i + 1) o' → St I m ((it, o') :: led) s' → Q (some v) s') → wpAny C.M A (pyNext (.ref it)) Q E s
  stop : ∀ {o I m led s Q E}, K N o → side I.G led → St I m ((it, o) :: led) s → (∀ s', St I m led s' → Q none s') → wpAny C.M A (pyNext (.ref it)) Q E s

theorem St.ext {it : Addr} {o : Obj} {s' : Shared} (x : St I m ((it, o) :: led) s) (k : Heap.ExtBut it s.heap s'.heap) (ho : ¬ IsT o) (hg : s'.gens = s.gens) (hos : s'.os = s.os) : St I m led s' := by
  have ni : ∀ p ∈ led, p.1 ≠ it := fun p hp e => (List.nodup_cons.mp x.nd).1 (e ▸ List.mem_map_of_mem (f := (·.1)) hp)
  have h1 := x.news _ (.head _)
  refine ⟨⟨x.fr.ns.at fun ob e => k _ ob (Ne.symm h1.2.1) e, fun b ob e => k b ob (fun q => ?_) (x.fr.keep b ob e), x.fr.above⟩, fun p hp => ⟨k _ _ (ni p hp) (x.news p (.tail _ hp)).1, (x.news p (.tail _ hp)).2⟩, (List.nodup_cons.mp x.nd).2, fun b ob t e => ?_, hg.trans x.gens, hos.trans x.os⟩
  · rw [q, h1.2.2] at e; cases e
  · have e' := x.tup b ob t e
    refine k b ob (fun q => ?_) e'
    subst q; rw [h1.1] at e'; cases e'; exact ho t

theorem own_skip {target : Expr} {it : Addr} {v : Value} {n : String} {vs : Array Value} {o : Obj} {Q : Unit → Shared → Prop} (hg : s.heap.get? it = some o) (hc : o.cls = .type n) (hd : o.data = .fields vs)
    (hn : (["enumerate", "zip", "dict_itemiterator", "dict_reverseitemiterator", "odict_iterator", "itertools.zip_longest", "itertools.pairwise"].contains n) = false) (h : Q () s) : wpAny C.M A (letOwnedTupleGo target (.ref it) v) Q E s := by
  have key : ∀ a, wpAny C.M A (letOwnedTupleGo (.List [] ⟨0, 0, 0, 0⟩) (.ref it) (.ref a)) Q E s := fun a => by
    refine wpAny_bind (wpAny_load hg ?_)
    rw [hc, hd]
    show wpAny _ A (if (["enumerate", "zip", "dict_itemiterator", "dict_reverseitemiterator", "odict_iterator", "itertools.zip_longest", "itertools.pairwise"].contains n && _) = true then _ else _) Q E s
    rw [if_neg (by rw [hn, Bool.false_and]; exact Bool.false_ne_true)]
    exact wpAny_pure h
  cases target <;> first
    | exact wpAny_pure h
    | (cases v <;> first | exact wpAny_pure h | exact key _)

noncomputable def KT (t : Addr) (i : Nat) (o : Obj) : Prop := o.cls = .type "tuple_iterator" ∧ o.data = .fields #[.ref t, .int i 0]
noncomputable def KL (t : Addr) (i : Nat) (o : Obj) : Prop := o.cls = .type "list_iterator" ∧ o.data = .fields #[.ref t, .int i 0]
noncomputable def KR (a : Int) (n : Nat) (i : Nat) (o : Obj) : Prop := o = { cls := .type "range_iterator", dict := none, data := .fields #[rawInt (a + i), rawInt (n - i), rawInt 1], slots := #[] }
theorem notT {o : Obj} {n : String} (h : o.cls = .type n) (hn : n ≠ "tuple") : ¬ IsT o := fun k => by have e := h.symm.trans k.1; exact hn (by injection e)

theorem Itr.tuple {it t : Addr} {vs : List Value} (hh : A.handled = none) : Itr C A it vs.length (fun i v => vs[i]? = some v) (KT t) (fun G _ => IsTup G t vs.toArray) where
  self := fun hk x q => wpAny_pyIter_tupleiter ⟨_, x.get (.head _), hk⟩ q
  own := fun hk x q => own_skip (x.get (.head _)) hk.1 hk.2 (by decide) q
  item := fun {i o I m led s Q E} hi hk hs x q => by
    have ht := x.tup.tup hs
    refine wpAny_pyNext_tuple_item ⟨o, x.get (.head _), hk⟩ ht (x := vs[i]) (by simp [hi]) fun h' hit hsb => ?_
    obtain ⟨o', ho', hk'⟩ := hit
    exact q _ o' _ (by simp [hi]) hk' (x.upd (s' := { s with heap := h' }) hsb ho' (notT hk.1 (by decide)) rfl rfl)
  stop := fun {o I m led s Q E} hk hs x q => by
    have ht := x.tup.tup hs
    exact wpAny_pyNext_tuple_end hh ⟨o, x.get (.head _), hk⟩ ht (by simp) fun h' hx => q _ (x.ext (s' := { s with heap := h' }) hx (notT hk.1 (by decide)) rfl rfl)

theorem Itr.list {it t : Addr} {vs : List Value} (hh : A.handled = none) : Itr C A it vs.length (fun i v => vs[i]? = some v) (KL t) (fun _ led => ∃ o, (t, o) ∈ led ∧ Lst o vs) where
  self := fun hk x q => wpAny_pyIter_listiter ⟨_, x.get (.head _), hk⟩ q
  own := fun hk x q => own_skip (x.get (.head _)) hk.1 hk.2 (by decide) q
  item := fun {i o I m led s Q E} hi hk hs x q => by
    obtain ⟨ol, hol, hl⟩ := hs
    have ht := hl.isList (x.get (.tail _ hol))
    refine wpAny_pyNext_list_item ⟨o, x.get (.head _), hk⟩ ht (x := vs[i]) (by simp [hi]) fun h' hit hsb => ?_
    obtain ⟨o', ho', hk'⟩ := hit
    exact q _ o' _ (by simp [hi]) hk' (x.upd (s' := { s with heap := h' }) hsb ho' (notT hk.1 (by decide)) rfl rfl)
  stop := fun {o I m led s Q E} hk hs x q => by
    obtain ⟨ol, hol, hl⟩ := hs
    have ht := hl.isList (x.get (.tail _ hol))
    exact wpAny_pyNext_list_end hh ⟨o, x.get (.head _), hk⟩ ht (by simp) fun h' hx => q _ (x.ext (s' := { s with heap := h' }) hx (notT hk.1 (by decide)) rfl rfl)

theorem Itr.range {it : Addr} {a : Int} {n : Nat} (hh : A.handled = none) : Itr C A it n (fun i v => ∃ t, v = .int (a + i) t) (KR a n) (fun _ _ => True) where
  self := fun hk x q => by unfold KR at hk; subst hk; exact wpAny_pyIter_rangeiter (x.get (.head _)) q
  own := fun {i o target v I m led s Q E} hk x q => by
    unfold KR at hk; subst hk; exact own_skip (x.get (.head _)) rfl rfl (by decide) q
  item := fun {i o I m led s Q E} hi hk hs x q => by
    unfold KR at hk; subst hk
    refine wpAny_pyNext_range_item (x.get (.head _)) (by lia) fun h' hit hsb => ?_
    refine q _ _ _ ⟨_, rfl⟩ ?_ (x.upd (s' := { s with heap := h', toks := s.toks + 1 }) hsb hit (notT rfl (by decide)) rfl rfl)
    unfold KR
    rw [show a + ((i + 1 : Nat) : Int) = a + i + 1 by lia, show (n : Int) - ((i + 1 : Nat) : Int) = n - i - 1 by lia]
  stop := fun {o I m led s Q E} hk hs x q => by
    unfold KR at hk; subst hk
    exact wpAny_pyNext_range_end hh (x.get (.head _)) (by lia) fun h' hx => q _ (x.ext (s' := { s with heap := h' }) hx (notT rfl (by decide)) rfl rfl)

theorem for_loop {target : Expr} {body : List Stmt} {it : Addr} {o₀ : Obj} {N : Nat} {V : Nat → Value → Prop} {K : Nat → Obj → Prop} {side : Heap → List (Addr × Obj) → Prop} {R : Result → Shared → Prop}
    (W : Itr C A it N V K side) (J : Nat → Heap → (Str → Option Value) → List (Addr × Obj) → Prop) (hside : ∀ i G m led, J i G m led → side G led)
    (x : St I m ((it, o₀) :: led) s) (hk : K 0 o₀) (h0 : J 0 I.G m led)
    (turn : ∀ (i : Nat) (G : Heap) (m : Str → Option Value) (led : List (Addr × Obj)) (o : Obj) (v : Value) (s : Shared) (E : Value → Shared → Prop), i < N → V i v → J i G m led → TupLe I.G G → St (I.on G) m ((it, o) :: led) s →
      wpAny C.M A (assign target env v) (fun _ s2 => wpAny C.M A (execs body env) (fun fl s3 => (fl = .next ∨ fl = .cont) ∧ ∃ G' m' led', J (i + 1) G' m' led' ∧ TupLe I.G G' ∧ St (I.on G') m' ((it, o) :: led') s3) E s2) E s)
    (done : ∀ G m led s', J N G m led → TupLe I.G G → St (I.on G) m led s' → R (.ok .next) s') : codeAny C.M A (.forLoop target (.ref it) body [] env) R s := by
  refine codeAny_forLoop_any (fun n s => ∃ i G m led o, n = N + 1 - i ∧ i ≤ N ∧ J i G m led ∧ K i o ∧ TupLe I.G G ∧ St (I.on G) m ((it, o) :: led) s) ?_ (N + 1) ⟨0, I.G, m, led, o₀, rfl, Nat.zero_le _, h0, hk, TupLe.refl _, x⟩
  rintro n s ⟨i, G, m, led, o, rfl, hi, hJ, hK, hG, x⟩
  rcases Nat.lt_or_ge i N with h | h
  · refine W.item h hK (hside _ _ _ _ hJ) x fun v o' s' hv hk' x' => ?_
    refine W.own hk' x' ?_
    refine wpAny_mono (turn i G m led o' v s' _ h hv hJ hG x') (fun _ s2 h2 => wpAny_mono h2 (fun fl s3 h3 => ?_) fun _ _ e => e) fun _ _ e => e
    obtain ⟨hf, G', m', led', hJ', hG', x3⟩ := h3
    have : ∃ mm, mm < N + 1 - i ∧ ∃ i' G'' m'' led'' o'', mm = N + 1 - i' ∧ i' ≤ N ∧ J i' G'' m'' led'' ∧ K i' o'' ∧ TupLe I.G G'' ∧ St (I.on G'') m'' ((it, o'') :: led'') s3 :=
      ⟨N + 1 - (i + 1), by lia, i + 1, G', m', led', o', rfl, h, hJ', hk', hG', x3⟩
    rcases hf with rfl | rfl
    · exact this
    · exact this
  · have : i = N := by lia
    subst this
    exact W.stop hK (hside _ _ _ _ hJ) x fun s' x' => wpAny_execs_nil (done G m led s' hJ hG x')

theorem for_loop' {target : Expr} {body : List Stmt} {it : Addr} {o₀ : Obj} {N : Nat} {V : Nat → Value → Prop} {K : Nat → Obj → Prop} {side : Heap → List (Addr × Obj) → Prop} {R : Result → Shared → Prop}
    (W : Itr C A it N V K side) (J : Nat → Heap → (Str → Option Value) → List (Addr × Obj) → Prop) (hside : ∀ i G m led, J i G m led → side G led)
    (x : St I m ((it, o₀) :: led) s) (hk : K 0 o₀) (h0 : J 0 I.G m led)
    (turn : ∀ (P : Flow → Shared → Prop) (i : Nat) (G : Heap) (m : Str → Option Value) (led : List (Addr × Obj)) (o : Obj) (v : Value) (s : Shared) (E : Value → Shared → Prop), i < N → V i v → J i G m led → TupLe I.G G → St (I.on G) m ((it, o) :: led) s →
      (∀ s3, (∃ G' m' led', J (i + 1) G' m' led' ∧ TupLe I.G G' ∧ St (I.on G') m' ((it, o) :: led') s3) → P .next s3) →
      wpAny C.M A (assign target env v) (fun _ s2 => wpAny C.M A (execs body env) P E s2) E s)
    (done : ∀ G m led s', J N G m led → TupLe I.G G → St (I.on G) m led s' → R (.ok .next) s') : codeAny C.M A (.forLoop target (.ref it) body [] env) R s :=
  for_loop W J hside x hk h0 (fun i G m led o v s E a b c d e => turn _ i G m led o v s E a b c d e fun s3 h => ⟨.inl rfl, h⟩) done
theorem while' {test : Expr} {body orelse : List Stmt} {R : Result → Shared → Prop} (Inv : Nat → Shared → Prop)
    (turn : ∀ (B : Flow → Shared → Prop) n s, Inv n s → (∀ s3, (∃ k, k < n ∧ Inv k s3) → B .next s3) →
      wpAny C.M A (isTrue test env (eval test env)) (fun b s₂ => if b = true then wpAny C.M A (execs body env) B (notedBy C.M A env fun e s' => R (.error e) s') s₂
        else wpAny C.M A (execs orelse env) (fun f s₃ => R (.ok f) s₃) (notedBy C.M A env fun e s' => R (.error e) s') s₂) (notedBy C.M A env fun e s' => R (.error e) s') s)
    (n : Nat) (h : Inv n s) : codeAny C.M A (.whileLoop test body orelse env) R s :=
  codeAny_whileLoop Inv (fun n s h => turn _ n s h fun s3 k => k) n h

theorem iter_tuple {t : Addr} {vs : List Value} {Q : Value → Shared → Prop} (x : St I m led s) (ht : IsTup I.G t vs.toArray) (k : ∀ it o s', KT t 0 o → St I m ((it, o) :: led) s' → Q (.ref it) s') : wpAny C.M A (pyIter (.ref t)) Q E s :=
  wpAny_pyIter_tuple (x.tup.tup ht) (k _ _ _ ⟨rfl, rfl⟩ (x.push _))
theorem iter_list {t : Addr} {o : Obj} {vs : List Value} {Q : Value → Shared → Prop} (x : St I m led s) (hm : (t, o) ∈ led) (ht : Lst o vs) (k : ∀ it o s', KL t 0 o → St I m ((it, o) :: led) s' → Q (.ref it) s') : wpAny C.M A (pyIter (.ref t)) Q E s :=
  wpAny_pyIter_list (ht.isList (x.get hm)) (k _ _ _ ⟨rfl, rfl⟩ (x.push _))
theorem iter_range1 {n : Int} {t : Tok} {Q : Value → Shared → Prop} (x : St I m led s) (h0 : 0 ≤ n) (h1 : n < 1000) (k : ∀ it o s', KR 0 n.toNat 0 o → St I m ((it, o) :: led) s' → Q (.ref it) s') :
    wpAny C.M A (call (.type "range") [.int n t]) (fun v s' => wpAny C.M A (pyIter v) Q E s') E s := by
  refine call_range_1 ?_
  have x1 := (x.push ({ cls := Value.type "range", data := Data.fields #[Value.int 0 s.toks, Value.int n t, Value.int 1 (s.toks + 1)] } : Obj)).toks (tk := s.toks + 1 + 1)
  have hs : Builtin.Range.small 0 n 1 = true := small_one (by lia) (by lia) (by lia) (by lia)
  refine wpAny_pyIter_range (IsRange.new ..) hs (k _ _ _ ?_ (x1.push _).swapDrop)
  unfold KR
  rw [rangeSize_nat, show (n - 0).toNat = n.toNat by simp]
  simp

noncomputable def NsO (o : Obj) (m : Str → Option Value) : Prop := ∃ es ep, o.data = .dict es ep ∧ StrKeys es ∧ ∀ name, nsFind es name = m name
theorem NsO.not {o : Obj} {m : Str → Option Value} (h : NsO o m) : ¬ IsT o := fun k => by
  obtain ⟨es, ep, hd, _⟩ := h; obtain ⟨_, xs, n, e⟩ := k; rw [hd] at e; cases e
abbrev Info.to (I : Info) (L : Addr) (G : Heap) : Info := { I with L := L, G := G }

theorem switch {L Cc : Addr} {G : Heap} {mC : Str → Option Value} {oL : Obj} (x : St (I.to Cc G) mC ((I.L, oL) :: led) s) (hL : NsO oL m) (hab : I.H.objs.size ≤ I.L) (hlt : I.H.objs.size ≤ Cc) :
    ∃ oC, NsO oC mC ∧ St (I.on G) m ((Cc, oC) :: led) s := by
  obtain ⟨oC, ec, pc, hc, hcd, hck, hcf⟩ := x.fr.ns
  obtain ⟨es, ep, hLd, hLk, hLf⟩ := hL
  have gL := x.news _ (.head _)
  refine ⟨oC, ⟨ec, pc, hcd, hck, hcf⟩, ⟨⟨oL, es, ep, gL.1, hLd, hLk, hLf⟩, x.fr.keep, hab⟩, fun p hp => ?_, ?_, x.tup, x.gens, x.os⟩
  · rcases List.mem_cons.mp hp with rfl | hp
    · refine ⟨hc, fun e => gL.2.1 e.symm, ?_⟩
      cases q : I.H.get? Cc with
      | none => rfl
      | some oo => exact absurd (Nat.lt_of_lt_of_le (Heap.lt_size q) hlt) (Nat.lt_irrefl _)
    · have g := x.news p (.tail _ hp)
      refine ⟨g.1, fun q => ?_, g.2.2⟩
      have hd := x.nd
      rw [List.map_cons, List.nodup_cons] at hd
      exact hd.1 (q ▸ List.mem_map_of_mem (f := (·.1)) hp)
  · have hd := x.nd
    rw [List.map_cons, List.nodup_cons] at hd ⊢
    refine ⟨fun k => ?_, hd.2⟩
    obtain ⟨p, hp, e⟩ := List.mem_map.mp k
    exact (x.news p (.tail _ hp)).2.1 e
theorem St.lose {a : Addr} {o : Obj} {h' : Heap} {m' : Str → Option Value} (x : St I m ((a, o) :: led) s) (hn : NsO o m') (hs : Heap.SameBut a s.heap h') : St I m led { s with heap := h' } :=
  x.ext (s' := { s with heap := h' }) hs.extBut hn.not rfl rfl
theorem St.nsAt {a : Addr} {o : Obj} {m' : Str → Option Value} (x : St I m led s) (hm : (a, o) ∈ led) (hn : NsO o m') : s.heap.Ns a m' := let ⟨es, ep, h1, h2, h3⟩ := hn; ⟨o, es, ep, x.get hm, h1, h2, h3⟩

theorem ev_comp {elt iter : Expr} {x : Str} {px : Pos} {scope : Scope} {cl : List (Str × Addr)} {pos : Pos} {RR : Value → Addr → Result → Shared → Prop} {it : Addr} {o₀ : Obj} {N : Nat} {V : Nat → Value → Prop} {K : Nat → Obj → Prop} {side : Heap → List (Addr × Obj) → Prop}
    (W : Itr C A it N V K side) (J : Nat → Heap → List Value → List (Addr × Obj) → Prop) (hz : ∀ i G vs led, J i G vs led → vs.length ≤ 100000) (hside : ∀ i G vs led q, J i G vs led → side G (q ++ led))
    (X : St I m ((it, o₀) :: led) s) (hk : K 0 o₀) (h0 : J 0 I.G [] led) (hE : EOk env I)
    (hcell : ∀ y ∈ scope.names, y.2 ≠ .cell) (hkind : scope.kind = .function) (hx : scope.names.lookup x = some .local)
    (turn : ∀ (i : Nat) (G : Heap) (vs : List Value) (led : List (Addr × Obj)) (Cc : Addr) (mC : Str → Option Value) (o oL lo : Obj) (acc : Addr) (v : Value) (s : Shared) (E : Value → Shared → Prop), i < N → V i v → J i G vs led → TupLe I.G G → LX lo vs → NsO oL m →
      St (I.to Cc G) (upd mC x v) ((it, o) :: (I.L, oL) :: (acc, lo) :: led) s →
      wpAny C.M A (eval elt (compEnvC scope cl Cc env)) (fun y s3 => ∃ G' led' mC', J (i + 1) G' (vs ++ [y]) led' ∧ TupLe I.G G' ∧ St (I.to Cc G') mC' ((it, o) :: (I.L, oL) :: (acc, lo) :: led') s3) E s)
    (done : ∀ G vs led acc lo Cc oC mC s', J N G vs led → TupLe I.G G → LX lo vs → NsO oC mC → St (I.on G) m ((Cc, oC) :: (acc, lo) :: led) s' → RR (.ref acc) Cc (.ok .next) s') :
    wpAny C.M A (newList []) (fun acc s₃ => wpAny C.M A (newFunctionEnv scope env.globals cl [] env.qual none .none (some env)) (fun cenv s₄ =>
      codeAny C.M A (.compStart (.ListComp elt [⟨.Name x px, iter, [], 0⟩] scope pos) 0 (.ref it) acc { cenv with scope := relabel scope env }) (RR acc cenv.locals) s₄) E s₃) E s := by
  refine new_list X (Nat.zero_le _) fun acc lo s1 hl X1 => ?_
  refine wpAny_newFunctionEnv hcell (by intro y hy; simp at hy) (fun h₁ hns₁ hsb₁ => ?_) hkind
  generalize hC : s1.heap.objs.size = Cc at hns₁ hsb₁ ⊢
  obtain ⟨oL, es, ep, hL, hLd, hLk, hLf⟩ := X1.fr.ns
  have hLO : NsO oL m := ⟨es, ep, hLd, hLk, hLf⟩
  have up : ∀ b ob, s1.heap.get? b = some ob → h₁.get? b = some ob := fun b ob e => hsb₁.extBut b ob (Nat.ne_of_lt (hC ▸ Heap.lt_size e)) (Heap.get?_push_of_some _ e)
  have hLC : I.L ≠ Cc := Nat.ne_of_lt (hC ▸ Heap.lt_size hL)
  have X2 : St (I.to Cc I.G) (fun y => List.lookup y (List.reverse [])) ((it, o₀) :: (I.L, oL) :: (acc, lo) :: led) { s1 with heap := h₁, toks := s1.toks + ([] : List (Str × Value)).length } := by
    refine ⟨⟨hns₁, fun b ob e => up b ob (X1.fr.keep b ob e), Nat.le_trans X1.fr.above (Nat.le_of_lt (hC ▸ Heap.lt_size hL))⟩, fun p hp => ?_, ?_, fun b ob t e => up b ob (X1.tup b ob t e), X1.gens, X1.os⟩
    · have g : s1.heap.get? p.1 = some p.2 ∧ I.H.get? p.1 = none := by
        rcases List.mem_cons.mp hp with rfl | hp
        · exact ⟨(X1.news _ (.tail _ (.head _))).1, (X1.news _ (.tail _ (.head _))).2.2⟩
        rcases List.mem_cons.mp hp with rfl | hp
        · exact ⟨hL, by
            cases q : I.H.get? I.L with
            | none => rfl
            | some oo => exact absurd (Nat.lt_of_lt_of_le (Heap.lt_size q) X1.fr.above) (Nat.lt_irrefl _)⟩
        rcases List.mem_cons.mp hp with rfl | hp
        · exact ⟨(X1.news _ (.head _)).1, (X1.news _ (.head _)).2.2⟩
        · exact ⟨(X1.news _ (.tail _ (.tail _ hp))).1, (X1.news _ (.tail _ (.tail _ hp))).2.2⟩
      exact ⟨up _ _ g.1, Nat.ne_of_lt (hC ▸ Heap.lt_size g.1), g.2⟩
    · have hd := X1.nd
      simp only [List.map_cons, List.nodup_cons, List.mem_cons, not_or] at hd ⊢
      have h1 := (X1.news _ (.head _)).2.1
      have h2 := (X1.news _ (.tail _ (.head _))).2.1
      refine ⟨⟨h2, Ne.symm hd.1.1, hd.2.1⟩, ⟨Ne.symm h1, fun k => ?_⟩, hd.1.2, hd.2.2⟩
      obtain ⟨p, hp, e⟩ := List.mem_map.mp k
      exact (X1.news p (.tail _ (.tail _ hp))).2.1 e
  clear hns₁ hsb₁ up
  generalize ({ s1 with heap := h₁, toks := s1.toks + ([] : List (Str × Value)).length } : Shared) = s2 at X2 ⊢
  generalize (fun y => List.lookup y (List.reverse ([] : List (Str × Value)))) = m0 at X2
  have loop : codeAny C.M A (.compLoop (.ListComp elt [⟨.Name x px, iter, [], 0⟩] scope pos) 0 (.ref it) (.ref acc) (compEnvC scope cl Cc env)) (RR (.ref acc) Cc) s2 := by
    refine codeAny_compLoop_list (fun n s => ∃ i G vs led o lo mC, n = N + 1 - i ∧ i ≤ N ∧ J i G vs led ∧ K i o ∧ LX lo vs ∧ TupLe I.G G ∧ St (I.to Cc G) mC ((it, o) :: (I.L, oL) :: (acc, lo) :: led) s) ?_ (N + 1)
      ⟨0, I.G, [], led, o₀, lo, m0, rfl, Nat.zero_le _, h0, hk, hl, TupLe.refl _, X2⟩ (fun _ => rfl)
    rintro n s ⟨i, G, vs, led, o, lo, mC, rfl, hi, hJ, hK, hlo, hG, X⟩
    rcases Nat.lt_or_ge i N with h | h
    · refine W.item h hK (hside _ _ _ _ [(I.L, oL), (acc, lo)] hJ) X fun v o' s' hv hk' X' => ?_
      refine wpAny_assign_Name ?_
      refine store (m := mC) X' (fun s3 X3 => ?_) ?_ (lookup_relabel_local hx)
      · refine wpAny_mono (turn i G vs led Cc mC o' oL lo acc v s3 _ h hv hJ hG hlo hLO X3) (fun y s4 h4 => ?_) fun _ _ e => e
        obtain ⟨G', led', mC', hJ', hG', X4⟩ := h4
        have X5 : St (I.to Cc G') mC' ((acc, lo) :: (it, o') :: (I.L, oL) :: led') s4 := X4.perm (by
          refine (List.Perm.cons _ (List.Perm.swap _ _ _)).trans (List.Perm.swap _ _ _))
        refine lst_append X5 hlo (hz _ _ _ _ hJ) fun lo' s5 hlo' X6 => ?_
        refine ⟨N + 1 - (i + 1), by lia, i + 1, G', vs ++ [y], led', o', lo', mC', rfl, h, hJ', hk', hlo', hG', X6.perm ?_⟩
        exact (List.Perm.swap _ _ _).trans (List.Perm.cons _ (List.Perm.swap _ _ _))
      · exact ⟨hkind, rfl, hE.hg, hE.hb⟩
    · obtain rfl : i = N := by lia
      refine W.stop hK (hside _ _ _ _ [(I.L, oL), (acc, lo)] hJ) X fun s' X' => ?_
      change St (I.to Cc G) mC ((I.L, oL) :: (acc, lo) :: led) s' at X'
      obtain ⟨oC, hC', X3⟩ := switch (L := I.L) X' hLO X1.fr.above X'.fr.above
      exact done G vs led acc lo Cc oC mC s' hJ hG hlo hC' X3
  have hself := W.self (Q := fun it' s' => codeAny C.M A (.compLoop (.ListComp elt [⟨.Name x px, iter, [], 0⟩] scope pos) 0 it' (.ref acc) (compEnvC scope cl Cc env)) (RR (.ref acc) Cc) s')
    (E := notedBy C.M A (compEnvC scope cl Cc env) fun x s' => RR (.ref acc) Cc (.error x) s') hk X2 loop
  exact codeAny_compStart_list loop hself

theorem ev_comp' {elt iter : Expr} {x : Str} {px : Pos} {scope : Scope} {cl : List (Str × Addr)} {pos : Pos} {RR : Value → Addr → Result → Shared → Prop} {it : Addr} {o₀ : Obj} {N : Nat} {V : Nat → Value → Prop} {K : Nat → Obj → Prop} {side : Heap → List (Addr × Obj) → Prop}
    (W : Itr C A it N V K side) (J : Nat → Heap → List Value → List (Addr × Obj) → Prop) (hz : ∀ i G vs led, J i G vs led → vs.length ≤ 100000) (hside : ∀ i G vs led q, J i G vs led → side G (q ++ led))
    (X : St I m ((it, o₀) :: led) s) (hk : K 0 o₀) (h0 : J 0 I.G [] led) (hE : EOk env I)
    (hcell : ∀ y ∈ scope.names, y.2 ≠ .cell) (hkind : scope.kind = .function) (hx : scope.names.lookup x = some .local)
    (turn : ∀ (P : Value → Shared → Prop) (i : Nat) (G : Heap) (vs : List Value) (led : List (Addr × Obj)) (Cc : Addr) (mC : Str → Option Value) (o oL lo : Obj) (acc : Addr) (v : Value) (s : Shared) (E : Value → Shared → Prop), i < N → V i v → J i G vs led → TupLe I.G G → LX lo vs → NsO oL m →
      St (I.to Cc G) (upd mC x v) ((it, o) :: (I.L, oL) :: (acc, lo) :: led) s →
      (∀ y s3, (∃ G' led' mC', J (i + 1) G' (vs ++ [y]) led' ∧ TupLe I.G G' ∧ St (I.to Cc G') mC' ((it, o) :: (I.L, oL) :: (acc, lo) :: led') s3) → P y s3) →
      wpAny C.M A (eval elt (compEnvC scope cl Cc env)) P E s)
    (done : ∀ G vs led acc lo Cc oC mC s', J N G vs led → TupLe I.G G → LX lo vs → NsO oC mC → St (I.on G) m ((Cc, oC) :: (acc, lo) :: led) s' → RR (.ref acc) Cc (.ok .next) s') :
    wpAny C.M A (newList []) (fun acc s₃ => wpAny C.M A (newFunctionEnv scope env.globals cl [] env.qual none .none (some env)) (fun cenv s₄ =>
      codeAny C.M A (.compStart (.ListComp elt [⟨.Name x px, iter, [], 0⟩] scope pos) 0 (.ref it) acc { cenv with scope := relabel scope env }) (RR acc cenv.locals) s₄) E s₃) E s :=
  ev_comp W J hz hside X hk h0 hE hcell hkind hx (fun i G vs led Cc mC o oL lo acc v s E a b c d e f g => turn _ i G vs led Cc mC o oL lo acc v s E a b c d e f g fun y s3 h => h) done

theorem xComp {elt iter : Expr} {x y : Str} {px py : Pos} {scope : Scope} {cl : List (Str × Addr)} {pos spos : Pos} {Q : Flow → Shared → Prop}
    (h : wpAny C.M A (eval iter env) (fun xv s₁ => wpAny C.M A (pyIter xv) (fun it s₂ => wpAny C.M A (newList []) (fun acc s₃ => wpAny C.M A (newFunctionEnv scope env.globals cl [] env.qual none .none (some env)) (fun cenv s₄ =>
      codeAny C.M A (.compStart (.ListComp elt [⟨.Name x px, iter, [], 0⟩] scope pos) 0 it acc { cenv with scope := relabel scope env }) (compPost C.M A E (some (assign (.Name y py) env)) (fun _ s' => Q .next s') acc cenv.locals) s₄) E s₃) E s₂) E s₁) E s)
    (hclos : closureFor scope env = pure cl) (hsw : swapsWith (.ListComp elt [⟨.Name x px, iter, [], 0⟩] scope pos) (some (.Name y py)) spos.line env = pure true := by rfl)
    (hkind : scope.kind = .function := by rfl) (hnames : ∀ z ∈ scope.names, z.2 = .local → scope.names.lookup z.1 = some .local := by decide) (hs : ∀ x, foldedSetIterable iter env x = pure x := by intro _; rfl) :
    wpAny C.M A (exec (.Assign [.Name y py] (.ListComp elt [⟨.Name x px, iter, [], 0⟩] scope pos) spos) env) Q E s := by
  rw [exec_Assign_Name_used _ _ _ _ hsw]
  refine wpAny_bind (wpAny_standAt (wpAny_bind ?_))
  show wpAny _ A (do let _ ← comprehension (.ListComp elt [⟨.Name x px, iter, [], 0⟩] scope pos) scope env _ (newList []) false (eval iter env) (some (assign (.Name y py) env))) _ _ s
  exact wpAny_bind (wpAny_mono (wpAny_comprehension_free (use := some (assign (.Name y py) env)) (Q := fun _ s' => Q .next s') rfl hs hclos hkind hnames h) (fun _ s' hq => wpAny_pure (wpAny_pure hq)) fun _ _ e => e)

theorem tuple_of {l : Addr} {lo : Obj} {vs : List Value} {Q : Value → Shared → Prop} (x : St I m led s) (hm : (l, lo) ∈ led) (hl : LX lo vs) (hz : vs.length ≤ 100000) (k : ∀ a s', St I m ((a, tupO vs) :: led) s' → Q (.ref a) s') : wpAny C.M A (call (.type "tuple") [.ref l]) Q E s :=
  call_tuple_list (hl.isList (x.get hm)) (fun h' hk => k _ _ ((x.grown (s' := { s with heap := h' }) hk rfl rfl).push _)) (by rw [sizeLine_eq, List.size_toArray]; lia)
end
end Mine
end

noncomputable section
open PySem PySem.W PyProof.Rows PySem.Calls PySem.Spec
set_option maxRecDepth 100000
set_option maxHeartbeats 4000000
namespace Mine
section
variable {C : Cx} {A : Around} {E : Value → Shared → Prop} {s : Shared} {I : Info} {m : Str → Option Value} {led : List (Addr × Obj)} {env : Env} {fa : Nat → Addr} {w f c : Addr} {room : Int}

inductive Gs (C : Cx) (I : Info) (m : Str → Option Value) (w f c : Addr) (room : Int) (led : List (Addr × Obj)) (s : Shared) : Prop
  | mk (ow of oc : Obj) (x : St I m ((w, ow) :: (f, of) :: (c, oc) :: led) s) (r : Wl C f room ow ∧ Fd c of ∧ Cl oc) : Gs C I m w f c room led s
inductive Gp (C : Cx) (w f c : Addr) (room : Int) (h : Heap) : Prop
  | mk (ow of oc : Obj) (x : Pre C.B h [(w, ow), (f, of), (c, oc)]) (r : Wl C f room ow ∧ Fd c of ∧ Cl oc) : Gp C w f c room h

theorem Wl.not {o : Obj} (h : Wl C f room o) : ¬ IsT o := let ⟨_, h, _, _⟩ := h; h.not
theorem Fd.not {o : Obj} (h : Fd c o) : ¬ IsT o := let ⟨_, _, _, _, h, _⟩ := h; h.not
theorem Cl.not {o : Obj} (h : Cl o) : ¬ IsT o := let ⟨_, _, h, _⟩ := h; h.not
theorem nt3 {a b d : Addr} {oa ob od : Obj} (ha : ¬ IsT oa) (hb : ¬ IsT ob) (hd : ¬ IsT od) : ∀ p ∈ [(a, oa), (b, ob), (d, od)], ¬ IsT p.2 := by
  intro p hp
  simp only [List.mem_cons, List.not_mem_nil, or_false] at hp
  rcases hp with rfl | rfl | rfl <;> assumption

theorem Gs.pre (g : Gs C I m w f c room led s) (S : Stat C I.H) : Gp C w f c room s.heap := by
  obtain ⟨ow, of, oc, x, h1, h2, h3⟩ := g
  exact ⟨ow, of, oc, x.pre (l1 := [_, _, _]) S (nt3 h1.not h2.not h3.not), h1, h2, h3⟩
theorem Gs.perm {led' : List (Addr × Obj)} (g : Gs C I m w f c room led s) (h : led.Perm led') : Gs C I m w f c room led' s := by
  obtain ⟨ow, of, oc, x, r⟩ := g
  exact ⟨ow, of, oc, x.perm (.cons _ (.cons _ (.cons _ h))), r⟩
theorem Gs.rebase (g : Gs C I m w f c room led s) : Gs C (I.on s.heap) m w f c room led s := by
  obtain ⟨ow, of, oc, x, r⟩ := g; exact ⟨ow, of, oc, x.rebase, r⟩
theorem Gs.tup (g : Gs C I m w f c room led s) : TupLe I.G s.heap := by obtain ⟨ow, of, oc, x, r⟩ := g; exact x.tup
theorem Gs.drop {p : Addr × Obj} (g : Gs C I m w f c room (p :: led) s) : Gs C I m w f c room led s := by
  obtain ⟨ow, of, oc, x, r⟩ := g
  exact ⟨ow, of, oc, x.sub (.cons_cons _ (.cons_cons _ (.cons_cons _ (.cons _ (.refl _))))), r⟩
theorem perm3 {p a b d : Addr × Obj} {r : List (Addr × Obj)} : (p :: a :: b :: d :: r).Perm (a :: b :: d :: p :: r) :=
  (List.Perm.swap _ _ _).trans (.cons _ ((List.Perm.swap _ _ _).trans (.cons _ (.swap _ _ _))))
theorem St.gs {ow of oc : Obj} {p : Addr × Obj} (x : St I m (p :: (w, ow) :: (f, of) :: (c, oc) :: led) s) (h1 : Wl C f room ow) (h2 : Fd c of) (h3 : Cl oc) : Gs C I m w f c room (p :: led) s :=
  ⟨ow, of, oc, x.perm perm3, h1, h2, h3⟩
theorem Gs.post {room' : Int} {s' : Shared} (g : Gs C I m w f c room led s) (P : Post [w, f, c] s s') (h : Gp C w f c room' s'.heap) : Gs C I m w f c room' led s' := by
  obtain ⟨ow, of, oc, x, h1, h2, h3⟩ := g
  obtain ⟨ow', of', oc', p, h1', h2', h3'⟩ := h
  exact ⟨ow', of', oc', St.post (l1 := [(w, ow), (f, of), (c, oc)]) (l1' := [(w, ow'), (f, of'), (c, oc')]) x P rfl fun q hq => (p.at_ q hq).1, h1', h2', h3'⟩
theorem Gs.leave {s₀ : Shared} (g : Gs C I m w f c room led s) (S : Stat C I.H) (hH : I.H = hideAll s₀.heap [w, f, c]) (hG : TupLe s₀.heap I.G) (hz : I.z = s₀) : Post [w, f, c] s₀ s ∧ Gp C w f c room s.heap := by
  have p := g.pre S
  obtain ⟨ow, of, oc, x, h1, h2, h3⟩ := g
  exact ⟨Mine.leave x hH hG hz, p⟩

theorem g_pick {n : Nat} {many : Int} {t : Tok} {Q : Value → Shared → Prop} (O : Ok C fa) (S : Stat C I.H) (hA : Am A (n + 1)) (g : Gs C I m w f c room led s) (h0 : 0 < many) (h1 : many < 1000)
    (k : ∀ i t s', 0 ≤ i → i < many → Gs C I m w f c room led s' → Q (.int i t) s') : wpAny C.M A (call (.ref (fa 31)) [.ref f, .int many t]) Q E s := by
  obtain ⟨ow, of, oc, x, hw, hf, hc⟩ := g
  have x' : St I m ([(f, of), (c, oc)] ++ ((w, ow) :: led)) s := x.perm ((List.Perm.swap _ _ _).trans (.cons _ (.swap _ _ _)))
  refine pick_spec O hA (x'.pre S fun p hp => ?_) hf hc h0 h1 fun i t s' of' oc' hi0 hi1 P gf gc hf' hc' => ?_
  · simp only [List.mem_cons, List.not_mem_nil, or_false] at hp
    rcases hp with rfl | rfl
    · exact hf.not
    · exact hc.not
  · have x2 : St I m ([(f, of'), (c, oc')] ++ ((w, ow) :: led)) s' := x'.post P rfl fun p hp => by
      simp only [List.mem_cons, List.not_mem_nil, or_false] at hp
      rcases hp with rfl | rfl
      · exact gf
      · exact gc
    exact k i t s' hi0 hi1 ⟨ow, of', oc', x2.perm ((List.Perm.cons _ (.swap _ _ _)).trans (.swap _ _ _)), hw, hf', hc'⟩

theorem g_mark {n : Nat} {Q : Value → Shared → Prop} (O : Ok C fa) (S : Stat C I.H) (hA : Am A (n + 1)) (g : Gs C I m w f c room led s)
    (k : ∀ i t s', Gs C I m w f c room led s' → Q (.int i t) s') : wpAny C.M A (call (.ref (fa 32)) [.ref w]) Q E s := by
  obtain ⟨ow, of, oc, p, hw, hf, hc⟩ := g.pre S
  refine mark_spec O hA p hw fun i t s' ow' P g1 g2 g3 hw' => ?_
  refine k i t s' (g.post P ⟨ow', of, oc, ⟨fun b o e => P.keep b o (fun q => ?_) (p.base b o e), fun q hq => ?_, p.nd, nt3 hw'.not hf.not hc.not⟩, hw', hf, hc⟩)
  · simp only [List.mem_cons, List.not_mem_nil, or_false] at q
    rcases q with rfl | rfl | rfl
    · have := (p.at_ _ (.head _)).2; simp only at this; rw [e] at this; cases this
    · have := (p.at_ _ (.tail _ (.head _))).2; simp only at this; rw [e] at this; cases this
    · have := (p.at_ _ (.tail _ (.tail _ (.head _)))).2; simp only at this; rw [e] at this; cases this
  · simp only [List.mem_cons, List.not_mem_nil, or_false] at hq
    rcases hq with rfl | rfl | rfl
    · exact ⟨g1, (p.at_ _ (.head _)).2⟩
    · exact ⟨g2, (p.at_ _ (.tail _ (.head _))).2⟩
    · exact ⟨g3, (p.at_ _ (.tail _ (.tail _ (.head _)))).2⟩

theorem Gs.feed {e : Expr} {k : Nat} {p pos : Pos} {Q : Value → Shared → Prop} (g : Gs C I m w f c room led s) (he : ∀ (ow of oc : Obj), Ev C A env I m ((w, ow) :: (f, of) :: (c, oc) :: led) e (Is (.ref w)))
    (q : ∀ s', Gs C I m w f c room led s' → Q (.ref f) s')
    (hs : ∀ u, subscripted (.Constant (.str "feed") k p) false (.ref w) (.str "feed" u) = operate [.ref w, .str "feed" u] (getItem (.ref w) (.str "feed" u)) := by intro _; rfl) :
    wpAny C.M A (eval (.Subscript e (.Constant (.str "feed") k p) pos) env) Q E s := by
  obtain ⟨ow, of, oc, x, ⟨kvs, hd, h1, h2, h3⟩, hf, hc⟩ := g
  refine Ev.use (Ev.dct (he ow of oc) .cS (.head _) hd h2 hs) x fun v s' hv x' => ?_
  obtain rfl := hv
  exact q s' ⟨ow, of, oc, x', ⟨kvs, hd, h1, h2, h3⟩, hf, hc⟩

theorem item_lst {value slice : Expr} {l : Addr} {lo : Obj} {vs : List Value} {i : Int} {t : Tok} {P : Value → Prop} {Q : Value → Shared → Prop} (x : St I m led s) (hm : (l, lo) ∈ led) (hl : LX lo vs) (h0 : 0 ≤ i) (h1 : i < vs.length) (hb : vs.length ≤ 1000) (hP : ∀ v ∈ vs, P v)
    (q : ∀ v, P v → Q v s) (hs : subscripted slice false (.ref l) (.int i t) = operate [.ref l, .int i t] (getItem (.ref l) (.int i t)) := by rfl) : wpAny C.M A (subscriptTail value slice (.ref l) (.int i t)) Q E s := by
  have hL := hl.isList (x.get hm)
  have hlt : i.toNat < vs.length := by lia
  exact tail_any hL.typeIs slot_list_getitem.lookup (wpAny_getItem_list hL h0 (by lia) (by simp [hlt]) (q _ (hP _ (List.getElem_mem hlt)))) hs

theorem named_spec {n : Nat} {Q : Value → Shared → Prop} (O : Ok C fa) (hA : Am A (n + 3)) (g : Gp C w f c room s.heap)
    (k : ∀ m2 x v s', Nm s'.heap m2 x v → Post [w, f, c] s s' → Gp C w f c room s'.heap → Q v s') : wpAny C.M A (call (.ref (fa 33)) [.ref w]) Q E s := by
  obtain ⟨ow, of, oc, P, hw, hf, hc⟩ := g
  refine go (st := stAt 33) rfl hA O.S (O.fn 33 (by decide)) P fun I s1 cd A' hA' hH hG hz SI x => ?_
  refine wpAny_execs_cons (wpAny_Assign_Name ?_ (by rfl))
  refine Subscript_ ?_
  refine ev_list (EvL.cons .cS (EvL.cons .cS (EvL.cons .cS (EvL.cons .cS (EvL.cons .cS (EvL.cons .cS .nil)))))) x (fun vs h => ?_) fun vs l lo s2 hvs hl x2 => ?_
  · obtain ⟨_, _, rfl, _, _, _, rfl, _, _, _, rfl, _, _, _, rfl, _, _, _, rfl, _, _, _, rfl, _, rfl⟩ := h; simp
  refine ev_callX SI (O.nm 31 (by decide)) (O.fn 31 (by decide)) x2 fun s3 x3 => ?_
  refine spliced_more ?_
  refine Gs.feed (x3.gs hw hf hc) (fun _ _ _ => .loc rfl) fun s4 g4 => ?_
  refine spliced_more ?_
  obtain ⟨ow4, of4, oc4, x4, hw4, hf4, hc4⟩ := g4
  refine Ev.use .cI x4 fun v5 s5 e5 x5 => ?_
  obtain ⟨t5, rfl⟩ := e5
  refine spliced_none ⟨(x5.stat SI).X, ?_⟩
  refine g_pick O SI hA' ⟨ow4, of4, oc4, x5, hw4, hf4, hc4⟩ (by decide) (by decide) fun i t s6 hi0 hi1 g6 => ?_
  obtain ⟨ow6, of6, oc6, x6, r6⟩ := g6
  obtain ⟨v0, _, rfl, ⟨t0, rfl⟩, v1, _, rfl, ⟨t1, rfl⟩, v2, _, rfl, ⟨t2, rfl⟩, v3, _, rfl, ⟨t3, rfl⟩, v4, _, rfl, ⟨t4, rfl⟩, v5, _, rfl, ⟨t5, rfl⟩, rfl⟩ := hvs
  refine item_lst (P := fun v => ∃ x t, v = .str x t) x6 (.tail _ (.tail _ (.tail _ (.head _)))) hl hi0 (by simpa using hi1) (by simp) (by simp) fun v hv => ?_
  obtain ⟨xn, tn, rfl⟩ := hv
  refine store x6 fun s7 x7 => ?_
  refine last ?_
  refine wpAny_Return_some (Tuple_ (spliced_more (Ev.use .cS x7 fun v8 s8 e8 x8 => ?_)))
  refine spliced_more (ev_callX SI (O.nm 32 (by decide)) (O.fn 32 (by decide)) x8 fun s9 x9 => ?_)
  refine spliced_more (Ev.useV (.loc rfl) x9 fun s10 x10 => ?_)
  refine spliced_none ⟨(x10.stat SI).X, ?_⟩
  refine g_mark O SI hA' (room := room) (led := [(l, lo)]) ⟨ow6, of6, oc6, x10, r6⟩ fun i2 ti2 s11 g11 => ?_
  obtain ⟨ow11, of11, oc11, x11, r11⟩ := g11
  refine spliced_more (Ev.useV (.loc rfl) x11 fun s12 x12 => ?_)
  obtain ⟨t8, rfl⟩ := e8
  refine spliced_none (new_tuple x12 (by simp) fun a s13 x13 _ => ?_)
  have g13 := Gs.leave (St.gs x13 r11.1 r11.2.1 r11.2.2) SI hH (hG ▸ TupLe.refl _) hz
  exact k i2 xn _ _ ⟨a, _, _, _, rfl, IsTup.of_St x13 (.head _)⟩ g13.1 g13.2
end
end Mine
end

noncomputable section
open PySem PySem.W PyProof.Rows PySem.Calls PySem.Spec
set_option maxRecDepth 100000
set_option maxHeartbeats 4000000
namespace Mine
local macro_rules | `(tactic| walk_at "sub") => `(tactic| (repeat (first | exact List.Sublist.refl _ | apply List.Sublist.cons_cons | apply List.Sublist.cons)))
section
variable {C : Cx} {A : Around} {E : Value → Shared → Prop} {s : Shared} {I : Info} {m : Str → Option Value} {led : List (Addr × Obj)} {env : Env} {fa : Nat → Addr} {w f c : Addr} {room : Int}

theorem enterC {n : Nat} {qual : Str} {st : Stmt} {nm : Str} {ar : Arguments} {bd : List Stmt} {dl : List Expr} {rt : Option Expr} {tp : List TypeParam} {sc : Scope} {ts : Option Scope} {bi : Str} {po : Pos} {vals : List Value} {binds : List (Str × Value)} {R : Result → Shared → Prop}
    {n1 n2 : Str} {v1 v2 : Value}
    (hst : st = .FunctionDef nm ar bd dl rt tp sc ts bi po) (hA : Am A (n + 1)) (S : Stat C C.B) (hf : FnIn C.K qual f st) (P : Pre C.B s.heap led) (hdef : ar.defaults = [])
    (hbind : ∀ doc pm an cdv ct, bindArgs (fnOf nm qual ar bd sc .none .none doc pm an cdv ct) ⟨vals, []⟩ = pure binds)
    (hcs : ∀ L, cellsFrom (L + 1) sc.names [] = [(n2, L + 2), (n1, L + 1)])
    (hkind : ∀ L, (binds.all fun y => sc.names.lookup y.1 == some .local || (sc.names.lookup y.1 == some .cell && ((cellsFrom (L + 1) sc.names []).lookup y.1).isSome)) = true)
    (hne : n1 ≠ n2) (h1 : ∀ L cdv, bindC (envOfC qual sc L f cdv).kindOf binds (fun _ => none) n1 = some v1) (h2 : ∀ L cdv, bindC (envOfC qual sc L f cdv).kindOf binds (fun _ => none) n2 = some v2)
    (hco : sc.isCoroutine = false) (hgen : sc.isGenerator = false) (hk : sc.kind = .function)
    (h : ∀ (I : Info) (s₁ : Shared) (cdv : Value) (A' : Around) (o1 o2 : Obj), Am A' n → I.H = hideAll s.heap (led.map (·.1)) → I.G = s.heap → I.z = s → Stat C I.H → o1.data = .cell (some v1) → o2.data = .cell (some v2) →
      St I (bindL (envOfC qual sc I.L f cdv).kindOf binds fun _ => none) (led ++ [(I.L + 1, o1), (I.L + 2, o2)]) s₁ →
      wpAny C.M A' (execs bd (envOfC qual sc I.L f cdv)) (fun fl s' => R (.ok (.ret (retOf fl))) s') (fun _ _ => False) s₁) :
    codeAny C.M A (.call (.ref f) ⟨vals, []⟩) R s := by
  obtain ⟨dV, kV, doc, pm, an, cdv, ct, od, osl, oc, hK, hcd, hdV, rfl⟩ := hf.obj _ _ _ _ _ _ _ _ _ _ hst
  obtain rfl := hdV hdef
  have Ss : Stat C s.heap := S.keeps P.base
  have SH : Stat C (hideAll s.heap (led.map (·.1))) := S.keeps (hideAll_in P.base fun a ha => by
    obtain ⟨p, hp, rfl⟩ := List.mem_map.mp ha
    exact (P.at_ p hp).2)
  refine codeAny_call_cells (fd := fnOf nm qual ar bd sc .none .none doc pm an cdv ct) (body := bd) (binds := binds) hA.room (Ss.X _ _ hK) rfl Ss.T.nolimit (codeRec_of Ss.X hcd) rfl (hbind _ _ _ _ _) rfl (fun x hx => ?_) (fun s₁ x => ?_) hco hgen hk
  · have := List.all_eq_true.mp (hkind s.heap.objs.size) x hx
    simpa using this
  · obtain ⟨⟨⟨hh, tk, rfl⟩, ns, keep, fresh⟩, cell, apart, above⟩ := x
    have hcells : (callEnvC (fnOf nm qual ar bd sc .none .none doc pm an cdv ct) s.heap.objs.size f).cells = [(n2, s.heap.objs.size + 2), (n1, s.heap.objs.size + 1)] := hcs _
    obtain ⟨o1, g1, d1⟩ := cell n1 (s.heap.objs.size + 1) (by rw [hcells, List.lookup_cons, show (n1 == n2) = false by simpa using hne]; simp)
    obtain ⟨o2, g2, d2⟩ := cell n2 (s.heap.objs.size + 2) (by rw [hcells]; simp)
    have St1 : St ⟨hideAll s.heap (led.map (·.1)), s.heap, s.heap.objs.size, s⟩ (bindL (envOfC qual sc s.heap.objs.size f cdv).kindOf binds fun _ => none) (led ++ [(s.heap.objs.size + 1, o1), (s.heap.objs.size + 2, o2)]) { s with heap := hh, toks := tk } := by
      have hidden : ∀ a, s.heap.objs.size ≤ a → (hideAll s.heap (led.map (·.1))).get? a = none := fun a ha => by
        cases q : (hideAll s.heap (led.map (·.1))).get? a with
        | none => rfl
        | some oo => exact absurd (Heap.lt_size (of_hideAll _ q)) (Nat.not_lt.mpr ha)
      refine ⟨⟨ns, fun b o e => keep b o (of_hideAll _ e), Nat.le_of_eq (hideAll_size _ _)⟩, fun p hp => ?_, ?_, fun b o _ e => keep b o e, rfl, rfl⟩
      · rcases List.mem_append.mp hp with hp | hp
        · exact ⟨keep _ _ (P.at_ p hp).1, Nat.ne_of_lt (Heap.lt_size (P.at_ p hp).1), hideAll_none _ (List.mem_map_of_mem hp)⟩
        · simp only [List.mem_cons, List.not_mem_nil, or_false] at hp
          rcases hp with rfl | rfl
          · exact ⟨g1, Nat.succ_ne_self _, hidden _ (Nat.le_succ _)⟩
          · exact ⟨g2, (by show s.heap.objs.size + 2 ≠ s.heap.objs.size; lia), hidden _ (by lia)⟩
      · rw [List.map_append, List.nodup_append]
        refine ⟨P.nd, by simp, fun a ha b hb e => ?_⟩
        obtain ⟨p, hp, rfl⟩ := List.mem_map.mp ha
        have := Heap.lt_size (P.at_ p hp).1
        simp only [List.map_cons, List.map_nil, List.mem_cons, List.not_mem_nil, or_false] at hb
        have e' : p.1 = b := e
        have hb' : b = s.heap.objs.size + 1 ∨ b = s.heap.objs.size + 2 := hb
        rw [e'] at this
        rcases hb' with rfl | rfl
        · exact Nat.not_lt.mpr (Nat.le_add_right _ _) this
        · exact Nat.not_lt.mpr (Nat.le_add_right _ _) this
    refine wpAny_mono (h _ _ cdv _ o1 o2 (hA.deeper (callEnvC (fnOf nm qual ar bd sc .none .none doc pm an cdv ct) s.heap.objs.size f)) rfl rfl rfl SH (by rw [d1]; exact congrArg _ (h1 _ _)) (by rw [d2]; exact congrArg _ (h2 _ _)) St1) (fun fl s' hq => ?_) fun _ _ x => x.elim
    cases fl <;> exact hq

noncomputable def StmtSpec (C : Cx) (fa : Nat → Addr) (d : Nat) : Prop := ∀ {A : Around} {n : Nat} {w f c : Addr} {room : Int} {t : Tok} {s : Shared} {Q : Value → Shared → Prop} {E : Value → Shared → Prop}, Am A (n + 8 * d + 8) → Gp C w f c room s.heap →
  (∀ v tr s' room', Tree s'.heap tr v → tr.ok d → tr.cnt + room'.toNat ≤ room.toNat → Post [w, f, c] s s' → Gp C w f c room' s'.heap → Q v s') →
  wpAny C.M A (call (.ref (fa 35)) [.ref w, .int d t]) Q E s

noncomputable def BlockSpec (C : Cx) (fa : Nat → Addr) (d : Nat) : Prop := ∀ {A : Around} {n : Nat} {w f c : Addr} {room mk : Int} {t u : Tok} {s : Shared} {Q : Value → Shared → Prop} {E : Value → Shared → Prop}, Am A (n + 8 * d + 12) → Gp C w f c room s.heap →
  (∀ v tr s' room', Tree s'.heap tr v → tr.ok (d + 1) → tr.cnt + room'.toNat ≤ room.toNat + 1 → Post [w, f, c] s s' → Gp C w f c room' s'.heap → Q v s') →
  wpAny C.M A (call (.ref (fa 34)) [.ref w, .int (d + 1 : Nat) t, .int mk u]) Q E s

theorem g_stmt {d n : Nat} {t : Tok} {Q : Value → Shared → Prop} (hS : StmtSpec C fa d) (S : Stat C I.H) (hA : Am A (n + 8 * d + 8)) (g : Gs C I m w f c room led s)
    (k : ∀ v tr s' room', Tree s'.heap tr v → tr.ok d → tr.cnt + room'.toNat ≤ room.toNat → Gs C I m w f c room' led s' → Q v s') : wpAny C.M A (call (.ref (fa 35)) [.ref w, .int d t]) Q E s :=
  hS hA (g.pre S) fun v tr s' room' h1 h2 h3 P p => k v tr s' room' h1 h2 h3 (g.post P p)

theorem ev_menu {n : Nat} {es : List Expr} {lp pos p1 p2 kp : Pos} {kk : Nat} {fn : Expr} {Rs : List Value → Prop} {P : Value → Prop} {many : Int} {Q : Value → Shared → Prop} (O : Ok C fa) (S : Stat C I.H) (hA : Am A (n + 2)) (hl : ∀ led, EvL C A env I m led lp es Rs) (hP : ∀ vs, Rs vs → (vs.length : Int) = many ∧ ∀ v ∈ vs, P v)
    (hfeed : ∀ (led : List (Addr × Obj)), Ev C A env I m led fn (Is (.ref f))) (h0 : 0 < many) (h1 : many < 1000) (g : Gs C I m w f c room led s)
    (k : ∀ v s', P v → Gs C I m w f c room led s' → Q v s') (hE : EOk env I) (hk : env.kindOf "_law_pick" = some .globalImplicit := by rfl)
    (he : starEach [fn, .Constant (.int many) kk kp] env = (false, eval fn env) :: starEach [.Constant (.int many) kk kp] env := by rfl) (he2 : starEach [.Constant (.int many) kk kp] env = (false, eval (.Constant (.int many) kk kp) env) :: starEach [] env := by rfl)
    (hp : (backTo p2 (starEach [.Constant (.int many) kk kp] env)).any (·.1) = false := by rfl)
    (hc : eval (.Call (.Name "_law_pick" p1) [fn, .Constant (.int many) kk kp] [] p2) env = (do callWith p2 (← eval (.Name "_law_pick" p1) env) [] (backTo p2 (starEach [fn, .Constant (.int many) kk kp] env)) (backToKw p2 (keywordEach [] env))) := by rfl)
    (hs : ∀ l i t, subscripted (.Call (.Name "_law_pick" p1) [fn, .Constant (.int many) kk kp] [] p2) false (.ref l) (.int i t) = operate [.ref l, .int i t] (getItem (.ref l) (.int i t)) := by intros; rfl) :
    wpAny C.M A (eval (.Subscript (.List es lp) (.Call (.Name "_law_pick" p1) [fn, .Constant (.int many) kk kp] [] p2) pos) env) Q E s := by
  refine Subscript_ ?_
  obtain ⟨ow, of, oc, x, r⟩ := g
  refine ev_list (hl _) x (fun vs h => by have := (hP vs h).1; lia) fun vs l lo s2 hvs hl x2 => ?_
  obtain ⟨hlen, hall⟩ := hP vs hvs
  refine ev_callX S (O.nm 31 (by decide)) (O.fn 31 (by decide)) x2 (fun s3 x3 => ?_) hE hk (by rfl) he hp hc
  refine spliced_more (Ev.useV (hfeed _) x3 fun s4 x4 => ?_) he
  refine spliced_more (Ev.use .cI x4 fun v5 s5 e5 x5 => ?_) he2
  obtain ⟨t5, rfl⟩ := e5
  refine spliced_none ⟨(x5.stat S).X, ?_⟩
  refine g_pick O S hA (x5.gs r.1 r.2.1 r.2.2) h0 h1 fun i t s6 hi0 hi1 g6 => ?_
  obtain ⟨ow6, of6, oc6, x6, r6⟩ := g6
  refine item_lst x6 (.tail _ (.tail _ (.tail _ (.head _)))) hl hi0 (by lia) (by lia) hall (fun v hv => ?_) (hs _ _ _)
  exact k v _ hv (Gs.drop ⟨ow6, of6, oc6, x6, r6⟩)

theorem Gs.store {y : Str} {v : Value} {Q : Unit → Shared → Prop} (g : Gs C I m w f c room led s) (k : ∀ s', Gs C I (upd m y v) w f c room led s' → Q () s') (hE : EOk env I := by exact ⟨rfl, rfl, rfl, rfl⟩) (hl : env.kindOf y = some .local := by rfl) :
    wpAny C.M A (storeName env y v) Q E s := by
  obtain ⟨ow, of, oc, x, r⟩ := g
  exact Mine.store x (fun s' x' => k s' ⟨ow, of, oc, x', r⟩) hE hl
theorem Gs.ev {e : Expr} {R : Value → Prop} {Q : Value → Shared → Prop} (g : Gs C I m w f c room led s) (h : ∀ (ow of oc : Obj), Ev C A env I m ((w, ow) :: (f, of) :: (c, oc) :: led) e R) (k : ∀ v s', R v → Gs C I m w f c room led s' → Q v s') : wpAny C.M A (eval e env) Q E s := by
  obtain ⟨ow, of, oc, x, r⟩ := g
  exact Ev.use (h ow of oc) x fun v s' hv x' => k v s' hv ⟨ow, of, oc, x', r⟩
theorem Gs.evV {e : Expr} {w1 : Value} {Q : Value → Shared → Prop} (g : Gs C I m w f c room led s) (h : ∀ (ow of oc : Obj), Ev C A env I m ((w, ow) :: (f, of) :: (c, oc) :: led) e (Is w1)) (k : ∀ s', Gs C I m w f c room led s' → Q w1 s') : wpAny C.M A (eval e env) Q E s := g.ev h fun v s' r g => by obtain rfl : v = w1 := r; exact k s' g
theorem Gs.evI {e : Expr} {i : Int} {Q : Value → Shared → Prop} (g : Gs C I m w f c room led s) (h : ∀ (ow of oc : Obj), Ev C A env I m ((w, ow) :: (f, of) :: (c, oc) :: led) e (IsI i)) (k : ∀ t s', Gs C I m w f c room led s' → Q (.int i t) s') : wpAny C.M A (eval e env) Q E s := g.ev h fun v s' r g => by obtain ⟨t, rfl⟩ := r; exact k t s' g
theorem Gs.evS {e : Expr} {i : Str} {Q : Value → Shared → Prop} (g : Gs C I m w f c room led s) (h : ∀ (ow of oc : Obj), Ev C A env I m ((w, ow) :: (f, of) :: (c, oc) :: led) e (IsS i)) (k : ∀ t s', Gs C I m w f c room led s' → Q (.str i t) s') : wpAny C.M A (eval e env) Q E s := g.ev h fun v s' r g => by obtain ⟨t, rfl⟩ := r; exact k t s' g
theorem Gs.X (g : Gs C I m w f c room led s) (S : Stat C I.H) : C.K.In s.heap := by obtain ⟨ow, of, oc, x, r⟩ := g; exact (x.stat S).X
theorem Gs.get {a : Addr} {o : Obj} (g : Gs C I m w f c room led s) (h : (a, o) ∈ led) : s.heap.get? a = some o := by obtain ⟨ow, of, oc, x, r⟩ := g; exact x.get (.tail _ (.tail _ (.tail _ h)))
theorem Gs.newT {vs : List Value} {Q : Value → Shared → Prop} (g : Gs C I m w f c room led s) (hz : vs.length ≤ 100000) (k : ∀ a s', Gs C I m w f c room ((a, tupO vs) :: led) s' → Q (.ref a) s') : wpAny C.M A (newTuple vs) Q E s := by
  obtain ⟨ow, of, oc, x, r⟩ := g
  exact new_tuple x hz fun a s' x' _ => k a s' (x'.gs r.1 r.2.1 r.2.2)
theorem Gs.newL {vs : List Value} {Q : Value → Shared → Prop} (g : Gs C I m w f c room led s) (hz : vs.length ≤ 100000) (k : ∀ a o s', LX o vs → Gs C I m w f c room ((a, o) :: led) s' → Q (.ref a) s') : wpAny C.M A (newList vs) Q E s := by
  obtain ⟨ow, of, oc, x, r⟩ := g
  exact new_list x hz fun a o s' h x' => k a o s' h (x'.gs r.1 r.2.1 r.2.2)
theorem Gs.st {Q : Prop} (g : Gs C I m w f c room led s) (k : ∀ ow of oc, St I m ((w, ow) :: (f, of) :: (c, oc) :: led) s → Wl C f room ow → Fd c of → Cl oc → Q) : Q := by
  obtain ⟨ow, of, oc, x, r⟩ := g; exact k ow of oc x r.1 r.2.1 r.2.2
theorem Gs.isTup {a : Addr} {vs : List Value} (g : Gs C I m w f c room led s) (h : (a, tupO vs) ∈ led) : IsTup s.heap a vs.toArray := ⟨_, g.get h, rfl, 0, rfl⟩
theorem Gs.sub {led' : List (Addr × Obj)} (g : Gs C I m w f c room led s) (h : List.Sublist led' led) : Gs C I m w f c room led' s := by
  obtain ⟨ow, of, oc, x, r⟩ := g
  exact ⟨ow, of, oc, x.sub (.cons_cons _ (.cons_cons _ (.cons_cons _ h))), r⟩

structure DJ (f dl : Addr) (tag lab : Value) (mk : Int) (mt : Tok) (G : Heap) (m : Str → Option Value) (od : Obj) (ds : List D) : Prop where
  feed : m "feed" = some (.ref f)
  decls : m "decls" = some (.ref dl)
  tag : m "tag" = some tag
  lab : m "label" = some lab
  mark : m "mark" = some (.int mk mt)
  good : ∃ vs, LX od vs ∧ All2 (Dc G) ds vs
  nm : ∀ e ∈ ds, e.x ≠ "i"

theorem cnts_app : ∀ (as bs : List T), T.cnts (as ++ bs) = T.cnts as + T.cnts bs
  | [], bs => by simp [T.cnts]
  | a :: as, bs => by rw [List.cons_append, T.cnts, T.cnts, cnts_app as bs]; lia
theorem oks_app {d : Nat} : ∀ {as bs : List T}, T.oks d as → T.oks d bs → T.oks d (as ++ bs)
  | [], bs, _, h => h
  | a :: as, bs, h, k => ⟨h.1, oks_app h.2 k⟩

theorem block_spec {d : Nat} (O : Ok C fa) (hS : StmtSpec C fa d) : BlockSpec C fa d := by
  intro A n w f c room mk t u s Q E hA g k
  obtain ⟨ow, of, oc, P, hw, hf, hc⟩ := g
  refine call_of (enterC (st := stAt 34) (n := n + 8 * d + 11) (binds := [("world", .ref w), ("depth", .int (d + 1 : Nat) t), ("mark", .int mk u)]) (n1 := "world") (n2 := "depth") (v1 := .ref w) (v2 := .int (d + 1 : Nat) t)
    rfl hA O.S (O.fn 34 (by decide)) P rfl (by intros; rfl) (by intros; rfl) (by intros; rfl) (by decide) (by intros; rfl) (by intros; rfl) rfl rfl rfl fun I s1 cdv A' o1 o2 hA' hH hG hz SI d1 d2 x => ?_)
  have g : Gs C I _ w f c room [(I.L + 1, o1), (I.L + 2, o2)] s1 := ⟨ow, of, oc, x, hw, hf, hc⟩
  clear x hw hf hc
  refine wpAny_execs_cons (wpAny_Assign_Name ?_ (by rfl))
  refine g.feed (fun _ _ _ => .cel (.tail _ (.tail _ (.tail _ (.head _)))) d1 rfl) fun s2 g => g.store fun s3 g => ?_
  refine wpAny_execs_cons (wpAny_Assign_Name ?_ (by rfl))
  refine ev_menu (n := 0) (P := fun v => ∃ fk t, v = .str (if fk = true then "fork" else "block") t) O SI (hA'.le (by lia)) (fun _ => EvL.cons .cS (EvL.cons .cS (EvL.cons .cS .nil))) ?_ (fun _ => .loc rfl) (by decide) (by decide) g (fun vtag s4 htag g => ?_) ⟨rfl, rfl, rfl, rfl⟩
  · rintro vs ⟨_, _, rfl, ⟨_, rfl⟩, _, _, rfl, ⟨_, rfl⟩, _, _, rfl, ⟨_, rfl⟩, rfl⟩
    refine ⟨rfl, fun v hv => ?_⟩
    simp only [List.mem_cons, List.not_mem_nil, or_false] at hv
    rcases hv with rfl | rfl | rfl
    · exact ⟨false, _, rfl⟩
    · exact ⟨false, _, rfl⟩
    · exact ⟨true, _, rfl⟩
  refine g.store fun s5 g => ?_
  refine wpAny_execs_cons (wpAny_Assign_Name ?_ (by rfl))
  refine ev_menu (n := 0) (P := fun v => ∃ l, Lab l v ∧ ∀ x, l = some x → x ≠ "i") O SI (hA'.le (by lia)) (fun _ => EvL.cons .cS (EvL.cons .cN (EvL.cons .cS (EvL.cons .cS (EvL.cons .cS .nil))))) ?_ (fun _ => .loc rfl) (by decide) (by decide) g (fun vlab s6 hlab g => ?_) ⟨rfl, rfl, rfl, rfl⟩
  · rintro vs ⟨_, _, rfl, ⟨_, rfl⟩, _, _, rfl, rfl, _, _, rfl, ⟨_, rfl⟩, _, _, rfl, ⟨_, rfl⟩, _, _, rfl, ⟨_, rfl⟩, rfl⟩
    refine ⟨rfl, fun v hv => ?_⟩
    simp only [List.mem_cons, List.not_mem_nil, or_false] at hv
    rcases hv with rfl | rfl | rfl | rfl | rfl
    · exact ⟨some "A", ⟨_, rfl⟩, by decide⟩
    · exact ⟨none, rfl, by simp⟩
    · exact ⟨some "B", ⟨_, rfl⟩, by decide⟩
    · exact ⟨some "E", ⟨_, rfl⟩, by decide⟩
    · exact ⟨some "T", ⟨_, rfl⟩, by decide⟩
  refine g.store fun s7 g => ?_
  refine wpAny_execs_cons (wpAny_Assign_Name ?_ (by rfl))
  refine List_ (spliced_none (g.newL (Nat.zero_le _) fun dl od s8 hod g => g.store fun s9 g => ?_))
  obtain ⟨fk, tgt, rfl⟩ := htag
  obtain ⟨lb, hlab, hlabi⟩ := hlab
  refine seq' (P := fun s' => ∃ G m od ds, TupLe I.G G ∧ DJ f dl (.str (if fk = true then "fork" else "block") tgt) vlab mk u G m od ds ∧ ds.length ≤ 2 ∧ Gs C (I.on G) m w f c room [(dl, od), (I.L + 1, o1), (I.L + 2, o2)] s') ?_ ?_
  · intro Pq hPq
    refine wpAny_For ?_ (by intro _; rfl)
    refine g.st fun ow of oc x hw hf hc => ?_
    refine ev_bt SI (O.bi "range" (by decide)) boot_range x fun s10 x => ?_
    refine spliced_more ?_
    refine ev_bf SI (O.bi "max" (by decide)) boot_max x fun s11 x => ?_
    refine spliced_more (Ev.use .cI x fun v0 s12 e0 x => ?_)
    obtain ⟨t0, rfl⟩ := e0
    refine spliced_more (wpAny_BinOp ?_)
    refine ev_callX SI (O.nm 31 (by decide)) (O.fn 31 (by decide)) x fun s13 x => ?_
    refine spliced_more (Ev.useV (.loc rfl) x fun s14 x => ?_)
    refine spliced_more (Ev.use .cI x fun v2 s15 e2 x => ?_)
    obtain ⟨t2, rfl⟩ := e2
    refine spliced_none ⟨(x.stat SI).X, ?_⟩
    refine g_pick O SI (hA'.le (k := 0 + 1) (by lia)) ⟨ow, of, oc, x, hw, hf, hc⟩ (by decide) (by decide) fun np tp s16 hn0 hn1 g => ?_
    refine g.st fun ow of oc x hw hf hc => ?_
    refine Ev.use .cI x fun v3 s17 e3 x => ?_
    obtain ⟨t3, rfl⟩ := e3
    refine sub_int (spliced_none (max_two_ints hA'.hh fun h18 tk18 k18 => ?_))
    obtain ⟨N, tN, hN, hN2⟩ : ∃ (N : Int) (tN : Tok), (if np - 1 > 0 then Value.int (np - 1) s17.toks else Value.int 0 t0) = .int N tN ∧ 0 ≤ N ∧ N ≤ 2 := by
      split
      · exact ⟨_, _, rfl, by lia, by lia⟩
      · exact ⟨_, _, rfl, by lia, by lia⟩
    rw [hN]
    replace x := (x.toks (tk := s17.toks + 1)).grown (s' := { s17 with heap := h18, toks := tk18 }) k18 rfl rfl
    refine spliced_none (iter_range1 x hN2.1 (by lia) fun it io s19 hio x => ?_)
    refine for_loop' (Itr.range hA'.hh) (fun i G m led => ∃ ow of oc od ds, led = [(w, ow), (f, of), (c, oc), (dl, od), (I.L + 1, o1), (I.L + 2, o2)] ∧ Wl C f room ow ∧ Fd c of ∧ Cl oc ∧
      DJ f dl (.str (if fk = true then "fork" else "block") tgt) vlab mk u G m od ds ∧ ds.length = i) (fun _ _ _ _ _ => trivial) x hio ⟨ow, of, oc, od, [], rfl, hw, hf, hc, ⟨rfl, rfl, rfl, rfl, rfl, ⟨[], hod, .nil⟩, by simp⟩, rfl⟩ ?_ ?_
    · rintro PP i G m' led' o v s20 E' hi ⟨tv, rfl⟩ ⟨ow, of, oc, od, ds, rfl, hw, hf, hc, DJ, hds⟩ hG x hPP
      replace SI : Stat C (I.on G).H := SI
      refine wpAny_assign_Name (store x fun s21 x => ?_)
      have g := x.gs hw hf hc
      refine wpAny_execs_cons (wpAny_Assign_Name ?_ (by rfl))
      refine ev_menu (n := 0) (P := fun v => ∃ y t, v = .str y t ∧ y ≠ "i") O SI (hA'.le (by lia)) (fun _ => EvL.cons .cS (EvL.cons .cS (EvL.cons .cS (EvL.cons .cS .nil)))) ?_ (fun _ => .loc (by exact DJ.feed)) (by decide) (by decide) g (fun vn s22 hvn g => ?_) ⟨rfl, rfl, rfl, rfl⟩
      · rintro vs ⟨_, _, rfl, ⟨_, rfl⟩, _, _, rfl, ⟨_, rfl⟩, _, _, rfl, ⟨_, rfl⟩, _, _, rfl, ⟨_, rfl⟩, rfl⟩
        refine ⟨rfl, fun v hv => ?_⟩
        simp only [List.mem_cons, List.not_mem_nil, or_false] at hv
        rcases hv with rfl | rfl | rfl | rfl
        · exact ⟨_, _, rfl, by decide⟩
        · exact ⟨_, _, rfl, by decide⟩
        · exact ⟨_, _, rfl, by decide⟩
        · exact ⟨_, _, rfl, by decide⟩
      obtain ⟨yn, tn, rfl, hyn⟩ := hvn
      refine g.store fun s23 g => ?_
      refine last (wpAny_If (wpAny_isTrue_Compare1 ?_ (by rfl)))
      refine g.st fun ow of oc x hw hf hc => ?_
      refine ev_callX SI (O.nm 31 (by decide)) (O.fn 31 (by decide)) x fun s24 x => ?_
      refine spliced_more (Ev.useV (.loc (by exact DJ.feed)) x fun s25 x => ?_)
      refine spliced_more (Ev.use .cI x fun v2 s26 e2 x => ?_)
      obtain ⟨t2, rfl⟩ := e2
      refine spliced_none ⟨(x.stat SI).X, ?_⟩
      refine g_pick O SI (hA'.le (k := 0 + 1) (by lia)) ⟨ow, of, oc, x, hw, hf, hc⟩ (by decide) (by decide) fun np tp s27 hn0 hn1 g => ?_
      refine g.ev (fun _ _ _ => .cI) fun v3 s28 e3 g => ?_
      obtain ⟨t3, rfl⟩ := e3
      refine eq_int (wpAny_truthy_bool ?_)
      obtain ⟨vs, hod, hall⟩ := DJ.good
      have hlen : vs.length ≤ 100 := by have := hall.length; lia
      have fin : ∀ (s' : Shared) (ow of oc od' : Obj) (e : D) (v : Value), Wl C f room ow → Fd c of → Cl oc → LX od' (vs ++ [v]) → e.x ≠ "i" → Dc s'.heap e v →
          ∀ m2, St (I.on G) m2 [(dl, od'), (w, ow), (f, of), (c, oc), (it, o), (I.L + 1, o1), (I.L + 2, o2)] s' → m2 "feed" = some (.ref f) → m2 "decls" = some (.ref dl) → m2 "tag" = some (.str (if fk = true then "fork" else "block") tgt) → m2 "label" = some vlab → m2 "mark" = some (.int mk u) →
          PP .next s' := by
        intro s' ow of oc od' e v hw hf hc hod' he hd m2 x h1 h2 h3 h4 h5
        have x2 := x.rebase
        refine hPP _ ⟨s'.heap, m2, _, ⟨ow, of, oc, od', ds ++ [e], rfl, hw, hf, hc, ⟨h1, h2, h3, h4, h5, ⟨_, hod', (hall.mono fun _ _ z => z.le x.tup).snoc hd⟩, fun e' he' => ?_⟩, by simp [hds]⟩, hG.trans x.tup, x2.up4.perm (.cons _ perm3)⟩
        rcases List.mem_append.mp he' with h | h
        · exact DJ.nm e' h
        · rw [List.mem_singleton] at h; subst h; exact he
      by_cases hnp : (np == 0) = true
      · rw [if_pos hnp]
        refine last (wpAny_Expr_any ?_ (by rfl) (by rfl))
        refine g.st fun ow of oc x hw hf hc => ?_
        refine ev_lmeth (.loc (by exact DJ.decls)) (.tail _ (.tail _ (.tail _ (.tail _ (.head _))))) hod PySem.F.slot_list_append type_list_append x fun s29 x => ?_
        refine PyProof.Rows.callWith_method1 (spliced_more (Tuple_ ?_))
        refine spliced_more (Ev.use .cS x fun v1 s30 e1 x => ?_)
        obtain ⟨u1, rfl⟩ := e1
        refine spliced_more (ev_callX SI (O.nm 32 (by decide)) (O.fn 32 (by decide)) x fun s31 x => ?_)
        refine spliced_more (Ev.useV (.cel (.tail _ (.tail _ (.tail _ (.tail _ (.tail _ (.head _)))))) d1 rfl) x fun s32 x => ?_)
        refine spliced_none ⟨(x.stat SI).X, ?_⟩
        refine g_mark O SI (hA'.le (k := 0 + 1) (by lia)) ⟨ow, of, oc, x, hw, hf, hc⟩ fun mi mt s33 g => ?_
        refine spliced_more (g.ev (fun _ _ _ => .cS) fun v4 s34 e4 g => ?_)
        refine spliced_more (g.ev (fun _ _ _ => .cB) fun v5 s35 e5 g => ?_)
        refine spliced_more (g.ev (fun _ _ _ => .cN) fun v6 s36 e6 g => ?_)
        refine spliced_more (g.ev (fun _ _ _ => .loc rfl) fun v7 s37 e7 g => ?_)
        refine spliced_more (Tuple_ (spliced_none (g.newT (Nat.zero_le _) fun b s38 g => ?_)))
        refine spliced_more (g.ev (fun _ _ _ => .cN) fun v8 s39 e8 g => ?_)
        refine spliced_none (g.newT (by simp) fun a s40 g => spliced_none ?_)
        obtain ⟨t4, rfl⟩ := e4; obtain rfl := e5; obtain rfl := e6; obtain rfl := e7; obtain rfl := e8
        refine g.st fun ow of oc x hw hf hc => ?_
        refine lst_append x.up6 hod (by lia) fun od' s41 hod' x => ?_
        refine fin s41 ow of oc od' ⟨true, mi, yn⟩ (.ref a) hw hf hc hod' hyn ⟨a, rfl, .inl ⟨rfl, _, _, _, _, b, IsTup.of_St x (.tail _ (.tail _ (.tail _ (.tail _ (.head _))))), IsTup.of_St x (.tail _ (.tail _ (.tail _ (.tail _ (.tail _ (.head _))))))⟩⟩ _ (x.sub (by walk_at "sub")) (by exact DJ.feed) (by exact DJ.decls) (by exact DJ.tag) (by exact DJ.lab) (by exact DJ.mark)
      · rw [if_neg hnp]
        refine last (wpAny_Expr_any ?_ (by rfl) (by rfl))
        refine g.st fun ow of oc x hw hf hc => ?_
        refine ev_lmeth (.loc (by exact DJ.decls)) (.tail _ (.tail _ (.tail _ (.tail _ (.head _))))) hod PySem.F.slot_list_append type_list_append x fun s29 x => ?_
        refine PyProof.Rows.callWith_method1 (spliced_more (Tuple_ ?_))
        refine spliced_more (Ev.use .cS x fun v1 s30 e1 x => ?_)
        obtain ⟨u1, rfl⟩ := e1
        refine spliced_more (ev_callX SI (O.nm 32 (by decide)) (O.fn 32 (by decide)) x fun s31 x => ?_)
        refine spliced_more (Ev.useV (.cel (.tail _ (.tail _ (.tail _ (.tail _ (.tail _ (.head _)))))) d1 rfl) x fun s32 x => ?_)
        refine spliced_none ⟨(x.stat SI).X, ?_⟩
        refine g_mark O SI (hA'.le (k := 0 + 1) (by lia)) ⟨ow, of, oc, x, hw, hf, hc⟩ fun mi mt s33 g => ?_
        refine spliced_more (g.evV (fun _ _ _ => .loc rfl) fun s37 g => ?_)
        refine spliced_none (g.newT (by simp) fun a s40 g => spliced_none ?_)
        refine g.st fun ow of oc x hw hf hc => ?_
        refine lst_append x.up5 hod (by lia) fun od' s41 hod' x => ?_
        refine fin s41 ow of oc od' ⟨false, mi, yn⟩ (.ref a) hw hf hc hod' hyn ⟨a, rfl, .inr ⟨rfl, _, _, _, IsTup.of_St x (.tail _ (.tail _ (.tail _ (.tail _ (.head _)))))⟩⟩ _ (x.sub (by walk_at "sub")) (by exact DJ.feed) (by exact DJ.decls) (by exact DJ.tag) (by exact DJ.lab) (by exact DJ.mark)
    · rintro G m' led' s20 ⟨ow, of, oc, od, ds, rfl, hw, hf, hc, DJ, hds⟩ hG' x
      exact hPq _ ⟨G, m', od, ds, hG', DJ, by lia, ⟨ow, of, oc, x, hw, hf, hc⟩⟩
  · rintro s10 ⟨G, m1, od, ds, hG1, DJ, hds, g⟩
    clear hod
    replace SI : Stat C (I.on G).H := SI
    obtain ⟨dvs, hod, hdall⟩ := DJ.good
    have hdl : dvs.length ≤ 2 := by have := hdall.length; lia
    refine wpAny_execs_cons (xComp (cl := [("world", I.L + 1), ("depth", I.L + 2)]) ?_ (by rfl))
    refine g.st fun ow of oc x hw hf hc => ?_
    refine ev_bt SI (O.bi "range" (by decide)) boot_range x fun s11 x => ?_
    refine spliced_more (ev_callX SI (O.nm 31 (by decide)) (O.fn 31 (by decide)) x fun s13 x => ?_)
    refine spliced_more (Ev.useV (.loc (by exact DJ.feed)) x fun s14 x => ?_)
    refine spliced_more (Ev.use .cI x fun v2 s15 e2 x => ?_)
    obtain ⟨t2, rfl⟩ := e2
    refine spliced_none ⟨(x.stat SI).X, ?_⟩
    refine g_pick O SI (hA'.le (k := 0 + 1) (by lia)) ⟨ow, of, oc, x, hw, hf, hc⟩ (by decide) (by decide) fun np tp s16 hn0 hn1 g => ?_
    refine g.st fun ow of oc x hw hf hc => ?_
    refine spliced_none (iter_range1 x hn0 (by lia) fun it io s19 hio x => ?_)
    refine ev_comp' (Itr.range hA'.hh) (fun i G' vs led => ∃ ow of oc room' ts, led = [(w, ow), (f, of), (c, oc), (dl, od), (I.L + 1, o1), (I.L + 2, o2)] ∧ Wl C f room' ow ∧ Fd c of ∧ Cl oc ∧ All2 (Tree G') ts vs ∧ ts.length = i ∧ i ≤ 3 ∧ T.oks d ts ∧ T.cnts ts + room'.toNat ≤ room.toNat)
      (fun i G' vs led h => ?_) (fun _ _ _ _ _ _ => trivial) x hio ⟨ow, of, oc, room, [], rfl, hw, hf, hc, .nil, rfl, by lia, trivial, by simp [T.cnts]⟩ ⟨rfl, rfl, rfl, rfl⟩ (by decide) rfl rfl ?_ ?_
    · obtain ⟨_, _, _, _, ts, _, _, _, _, h, h2, h3, _⟩ := h
      have := h.length; lia
    · rintro PP i G' vs led' Cc mC o oL lo acc v s20 E' hi ⟨tv, rfl⟩ ⟨ow, of, oc, room', ts, rfl, hw, hf, hc, hall, hts, hi3, hok, hcnt⟩ hG' hlo hoL x hPP
      replace SI : Stat C ((I.on G).to Cc G').H := SI
      refine ev_callX SI (O.nm 35 (by decide)) (O.fn 35 (by decide)) x fun s21 x => ?_
      refine spliced_more (Ev.useV (.cel (.tail _ (.tail _ (.tail _ (.tail _ (.tail _ (.tail _ (.tail _ (.head _)))))))) d1 rfl) x fun s22 x => ?_)
      refine spliced_more (Ev.use (.sub (.mono (.cel (.tail _ (.tail _ (.tail _ (.tail _ (.tail _ (.tail _ (.tail _ (.tail _ (.head _))))))))) d2 rfl) fun v h => ⟨_, h⟩) .cI) x fun v3 s23 e3 x => ?_)
      obtain ⟨t3, rfl⟩ := e3
      refine spliced_none ⟨(x.stat SI).X, ?_⟩
      rw [show (((d + 1 : Nat) : Int) - 1) = (d : Int) by lia]
      refine g_stmt (n := 0) hS SI (hA'.le (by lia)) ⟨ow, of, oc, x.up5.up5.up5, hw, hf, hc⟩ fun vt tr s24 room2 htr hok2 hcnt2 g => ?_
      refine g.st fun ow of oc x hw hf hc => ?_
      have x2 := x.up5.up5.up5.rebase
      exact hPP _ _ ⟨s24.heap, _, _, ⟨ow, of, oc, room2, ts ++ [tr], rfl, hw, hf, hc, (hall.mono fun _ _ z => Tree.le x.tup _ _ z).snoc htr, by simp [hts], by lia, oks_app hok ⟨hok2, trivial⟩, by rw [cnts_app]; simp only [T.cnts]; lia⟩, hG'.trans x.tup, x2⟩
    · rintro G' vs led' acc lo Cc oC mC s20 ⟨ow, of, oc, room', ts, rfl, hw, hf, hc, hall, hts, hi3, hok, hcnt⟩ hG' hlo hoC x
      have hvl : vs.length ≤ 100 := by have := hall.length; lia
      replace SI : Stat C ((I.on G).on G').H := SI
      refine wpAny_assign_Name (store x fun s21 x => ?_)
      refine ⟨mC, x.nsAt (.head _) hoC, fun h' hs => ?_⟩
      replace x := x.lose hoC hs
      refine last (wpAny_Return_some (Tuple_ ?_))
      refine spliced_more (Ev.useV (.loc (by exact DJ.tag)) x fun s22 x => ?_)
      refine spliced_more (Ev.useV (.loc (by exact DJ.mark)) x fun s23 x => ?_)
      refine spliced_more (Ev.useV (.loc (by exact DJ.lab)) x fun s24 x => ?_)
      refine spliced_more (ev_bt SI (O.bi "tuple" (by decide)) boot_tuple x fun s25 x => ?_)
      refine spliced_more (Ev.useV (.loc (by exact DJ.decls)) x fun s26 x => ?_)
      refine spliced_none (tuple_of x (.tail _ (.tail _ (.tail _ (.tail _ (.head _))))) hod (by lia) fun ta s27 x => ?_)
      refine spliced_more (ev_bt SI (O.bi "tuple" (by decide)) boot_tuple x fun s28 x => ?_)
      refine spliced_more (Ev.useV (.loc (by rfl)) x fun s29 x => ?_)
      refine spliced_none (tuple_of x (.tail _ (.head _)) hlo (by lia) fun tb s30 x => ?_)
      refine spliced_none (new_tuple x (by simp) fun tc s31 x _ => ?_)
      have g : Gs C ((I.on G).on G') _ w f c room' _ s31 := ⟨ow, of, oc, x.up6.up6.up6, hw, hf, hc⟩
      have gl := g.leave SI hH (hG ▸ hG1.trans hG') hz
      refine k _ (.blk fk mk lb ds ts) s31 room' ?_ ?_ (by simp only [T.cnt]; lia) gl.1 gl.2
      · skip
        exact ⟨tc, _, _, _, ta, dvs, tb, vs, rfl, IsTup.of_St x (.head _), hlab, IsTup.of_St x (.tail _ (.tail _ (.head _))), hdall.mono fun _ _ z => z.le (hG'.trans x.tup), IsTup.of_St x (.tail _ (.head _)), ((hall.mono fun _ _ z => Tree.le x.tup _ _ z)).trees⟩
      · exact ⟨fun l hl => hlabi l hl, hds, DJ.nm, by lia, hok⟩
end
end Mine
end

noncomputable section
open PySem PySem.W PyProof.Rows PySem.Calls PySem.Spec
set_option maxRecDepth 100000
set_option maxHeartbeats 4000000
namespace Mine
local macro_rules | `(tactic| walk_at "sub") => `(tactic| (repeat (first | exact List.Sublist.refl _ | apply List.Sublist.cons_cons | apply List.Sublist.cons)))
section
variable {C : Cx} {A : Around} {E : Value → Shared → Prop} {s : Shared} {I : Info} {m : Str → Option Value} {led : List (Addr × Obj)} {env : Env} {fa : Nat → Addr} {w f c : Addr} {room : Int}

theorem Tr.or2 {a b : Expr} {x y : Bool} {pos : Pos} (ha : Tr C A env I m led a x) (hb : Tr C A env I m led b y) : Tr C A env I m led (.BoolOp .Or [a, b] pos) (x || y) :=
  fun s Q E st q => wpAny_isTrue_BoolOp (wpAny_allTrue_Or_cons (ha _ _ _ st fun s1 x1 => by
    cases x with
    | true => exact q _ x1
    | false => exact wpAny_allTrue_Or_cons (hb _ _ _ x1 fun s2 x2 => by
        cases y with
        | true => exact q _ x2
        | false => exact wpAny_allTrue_Or_nil (q _ x2))))

theorem Ev.ife {test a b : Expr} {c : Bool} {i j : Int} {pos : Pos} (h : Tr C A env I m led test c) (ha : Ev C A env I m led a (IsI i)) (hb : Ev C A env I m led b (IsI j)) : Ev C A env I m led (.IfExp test a b pos) (IsI (if c = true then i else j)) :=
  fun s Q E st q => IfExp_ (h _ _ _ st fun s1 x1 => by
    cases c with
    | true => exact ha _ _ _ x1 q
    | false => exact hb _ _ _ x1 q)

theorem Gs.ifRet {test e : Expr} {p pos : Pos} {rest : List Stmt} {b : Bool} {Q : Flow → Shared → Prop} (g : Gs C I m w f c room led s) (h : ∀ (ow of oc : Obj), Tr C A env I m ((w, ow) :: (f, of) :: (c, oc) :: led) test b)
    (k1 : b = true → ∀ s', Gs C I m w f c room led s' → wpAny C.M A (eval e env) (fun v s'' => Q (.ret v) s'') E s') (k2 : b = false → ∀ s', Gs C I m w f c room led s' → wpAny C.M A (execs rest env) Q E s') :
    wpAny C.M A (execs (.If test [.Return (some e) p] [] pos :: rest) env) Q E s := by
  obtain ⟨ow, of, oc, x, r⟩ := g
  refine wpAny_execs_cons (wpAny_If (h ow of oc _ _ _ x fun s' x' => ?_))
  cases b with
  | true => exact last (wpAny_Return_some (k1 rfl _ ⟨ow, of, oc, x', r⟩))
  | false => exact wpAny_execs_nil (k2 rfl _ ⟨ow, of, oc, x', r⟩)

theorem Gs.tr {test : Expr} {b : Bool} {Q : Bool → Shared → Prop} (g : Gs C I m w f c room led s) (h : ∀ (ow of oc : Obj), Tr C A env I m ((w, ow) :: (f, of) :: (c, oc) :: led) test b) (k : ∀ s', Gs C I m w f c room led s' → Q b s') :
    wpAny C.M A (isTrue test env (eval test env)) Q E s := by
  obtain ⟨ow, of, oc, x, r⟩ := g
  exact h ow of oc _ _ _ x fun s' x' => k s' ⟨ow, of, oc, x', r⟩
theorem g_named {n : Nat} {Q : Value → Shared → Prop} (O : Ok C fa) (S : Stat C I.H) (hA : Am A (n + 3)) (g : Gs C I m w f c room led s)
    (k : ∀ m2 x v s', Nm s'.heap m2 x v → Gs C I m w f c room led s' → Q v s') : wpAny C.M A (call (.ref (fa 33)) [.ref w]) Q E s :=
  named_spec O hA (g.pre S) fun m2 x v s' h P p => k m2 x v s' h (g.post P p)
theorem g_block {d n : Nat} {mk : Int} {t u : Tok} {Q : Value → Shared → Prop} (hS : BlockSpec C fa d) (S : Stat C I.H) (hA : Am A (n + 8 * d + 12)) (g : Gs C I m w f c room led s)
    (k : ∀ v tr s' room', Tree s'.heap tr v → tr.ok (d + 1) → tr.cnt + room'.toNat ≤ room.toNat + 1 → Gs C I m w f c room' led s' → Q v s') : wpAny C.M A (call (.ref (fa 34)) [.ref w, .int (d + 1 : Nat) t, .int mk u]) Q E s :=
  hS hA (g.pre S) fun v tr s' room' h1 h2 h3 P p => k v tr s' room' h1 h2 h3 (g.post P p)

theorem ev_sub {d n : Nat} {t : Tok} {p1 p2 p3 p4 p5 pos : Pos} {kk : Nat} {Q : Value → Shared → Prop} (O : Ok C fa) (hS : StmtSpec C fa d) (S : Stat C I.H) (hA : Am A (n + 8 * d + 8)) (g : Gs C I m w f c room led s)
    (hw : m "world" = some (.ref w)) (hd : m "depth" = some (.int (d + 1 : Nat) t))
    (k : ∀ v tr s' room', Tree s'.heap tr v → tr.ok d → tr.cnt + room'.toNat ≤ room.toNat → Gs C I m w f c room' led s' → Q v s')
    (hE : EOk env I := by exact ⟨rfl, rfl, rfl, rfl⟩) (h1 : env.kindOf "_law_stmt" = some .globalImplicit := by rfl) (h2 : env.kindOf "world" = some .local := by rfl) (h3 : env.kindOf "depth" = some .local := by rfl) :
    wpAny C.M A (eval (.Call (.Name "_law_stmt" p1) [.Name "world" p2, .BinOp (.Name "depth" p3) .Sub (.Constant (.int 1) kk p4) p5] [] pos) env) Q E s := by
  refine g.st fun ow of oc x hw' hf hc => ?_
  refine ev_callX S (O.nm 35 (by decide)) (O.fn 35 (by decide)) x (fun s2 x => ?_) hE h1 (by rfl) (by rfl) (by rfl) (by rfl)
  refine spliced_more (Ev.useV (.loc hw hE h2) x fun s22 x => ?_) (by rfl)
  refine spliced_more (Ev.use (.sub (.locI hd hE h3) .cI) x fun v3 s23 e3 x => ?_) (by rfl)
  obtain ⟨t3, rfl⟩ := e3
  refine spliced_none ⟨(x.stat S).X, ?_⟩
  rw [show (((d + 1 : Nat) : Int) - 1) = (d : Int) by lia]
  exact g_stmt hS S hA ⟨ow, of, oc, x, hw', hf, hc⟩ k

theorem stmt_step {d : Nat} (O : Ok C fa) (ih : ∀ e, d = e + 1 → StmtSpec C fa e) : StmtSpec C fa d := by
  intro A n w f c room t s Q E hA g k
  obtain ⟨ow, of, oc, P, hw, hf, hc⟩ := g
  refine go (st := stAt 35) (n := n + 8 * d + 7) rfl hA O.S (O.fn 35 (by decide)) P fun I s1 cdv A' hA' hH hG hz SI x => ?_
  have g : Gs C I _ w f c room [] s1 := ⟨ow, of, oc, x, hw, hf, hc⟩
  clear x hw hf hc
  refine wpAny_execs_cons (wpAny_Assign_Name ?_ (by rfl))
  refine g.feed (fun _ _ _ => .loc (by rfl)) fun s2 g => g.store fun s3 g => ?_
  refine wpAny_execs_cons (wpAny_Assign_Name ?_ (by rfl))
  refine g.st fun ow of oc x hw hf hc => ?_
  refine ev_callX SI (O.nm 32 (by decide)) (O.fn 32 (by decide)) x fun s4 x => ?_
  refine spliced_more (Ev.useV (.loc (by rfl)) x fun s5 x => ?_)
  refine spliced_none ⟨(x.stat SI).X, ?_⟩
  refine g_mark O SI (hA'.le (k := 0 + 1) (by lia)) ⟨ow, of, oc, x, hw, hf, hc⟩ fun mk mt s6 g => g.store fun s7 g => ?_
  refine wpAny_execs_cons ?_
  refine g.st fun ow of oc x hw hf hc => ?_
  obtain ⟨kvs, hd, hlen, h1, h2, tr, h3⟩ := hw
  refine wpAny_Assign_Subscript (Ev.use (Ev.sub (i := room) (.mono (.dct (.loc (by rfl)) .cS (.head _) hd h3) fun v h => ⟨_, h⟩) .cI) x fun v8 s8 e8 x => ?_) (by rfl)
  refine Ev.use (.loc (by rfl)) x fun v9 s9 e9 x => ?_
  refine Ev.use .cS x fun v10 s10 e10 x => ?_
  obtain ⟨t8, rfl⟩ := e8; obtain rfl := e9; obtain ⟨t10, rfl⟩ := e10
  refine setDct x hd (Nat.le_trans hlen (by decide)) fun ow' s11 hd' x => ?_
  have hw : Wl C f (room - 1) ow' := ⟨_, hd', by rw [stored_length _ _ _ (by rw [h3]; rfl)]; exact hlen, by rw [valueAt_stored, if_neg (by decide)]; exact h1,
    by obtain ⟨i, ti, h2⟩ := h2; exact ⟨i, ti, by rw [valueAt_stored, if_neg (by decide)]; exact h2⟩, ⟨_, by rw [valueAt_stored, if_pos rfl]⟩⟩
  have h4 : ∃ tt, valueAt (stored kvs "room" (.int (room - 1) t8)) "room" = some (.int (room - 1) tt) := ⟨_, by rw [valueAt_stored, if_pos rfl]⟩
  obtain ⟨tt, h4⟩ := h4
  dsimp only
  refine wpAny_execs_cons (xIf (Tr.ltI (i := room - 1) (.mono (.dct (.loc (by rfl)) .cS (.head _) hd' h4) fun v h => ⟨_, h⟩) .cI) x fun s12 x => ?_)
  by_cases hneg : room - 1 < 0
  · rw [if_pos (by simpa using hneg)]
    refine last (wpAny_Return_some (Constant_none ?_))
    have gl := Gs.leave (⟨_, _, _, x, hw, hf, hc⟩ : Gs C I _ w f c (room - 1) [] s12) SI hH (hG ▸ TupLe.refl _) hz
    exact k _ .non _ _ rfl (by cases d <;> trivial) (by clear h1 h2 h3 h4; simp only [T.cnt]; lia) gl.1 gl.2
  rw [if_neg (by simpa using hneg)]
  refine wpAny_execs_nil ?_
  have g : Gs C I _ w f c (room - 1) [] s12 := ⟨_, _, _, x, hw, hf, hc⟩
  clear x hw hf hc hd' h4 h3 h2 h1 hd
  refine wpAny_execs_cons (wpAny_Assign_Name ?_ (by rfl))
  refine g.st fun ow of oc x hw hf hc => ?_
  refine ev_callX SI (O.nm 31 (by decide)) (O.fn 31 (by decide)) x fun s13 x => ?_
  refine spliced_more (Ev.useV (.loc (by rfl)) x fun s14 x => ?_)
  refine spliced_more (Ev.use (.ife (.gtI (i := (d : Int)) (j := 0) (.locI (by rfl)) .cI) .cI .cI) x fun v15 s15 e15 x => ?_)
  obtain ⟨t15, rfl⟩ := e15
  refine spliced_none ⟨(x.stat SI).X, ?_⟩
  refine g_pick O SI (hA'.le (k := 0 + 1) (by lia)) ⟨ow, of, oc, x, hw, hf, hc⟩ (by split <;> lia) (by split <;> lia) fun so ts s16 hs0 hs1 g => g.store fun s17 g => ?_
  refine wpAny_execs_cons (wpAny_Assign_Name ?_ (by rfl))
  refine Tuple_ (spliced_more (g.ev (fun _ _ _ => .cS) fun v18 s18 e18 g => spliced_more (g.ev (fun _ _ _ => .cI) fun v19 s19 e19 g => ?_)))
  refine spliced_more (Tuple_ (spliced_more (g.ev (fun _ _ _ => .cI) fun v20 s20 e20 g => spliced_more (g.ev (fun _ _ _ => .cI) fun v21 s21 e21 g => spliced_more (g.ev (fun _ _ _ => .cI) fun v22 s22 e22 g => spliced_none (g.newT (by simp) fun a1 s23 g => ?_))))))
  refine spliced_more (g.ev (fun _ _ _ => .cB) fun v24 s24 e24 g => spliced_more (g.ev (fun _ _ _ => .cB) fun v25 s25 e25 g => spliced_none (g.newT (by simp) fun oa s26 g => ?_)))
  obtain ⟨t18, rfl⟩ := e18
  have hone : One s26.heap (.ref oa) := ⟨oa, _, _, rfl, g.isTup (.head _)⟩
  have hG1 : TupLe s.heap s26.heap := (hG ▸ g.tup)
  replace g := g.rebase.drop.drop
  refine g.store fun s27 g => ?_
  replace SI : Stat C (I.on s26.heap).H := SI
  obtain ⟨m2, ⟨l1, l2, l3, l4, l5, l6⟩, g⟩ : ∃ m2, (m2 "world" = some (.ref w) ∧ m2 "depth" = some (.int d t) ∧ m2 "feed" = some (.ref f) ∧ m2 "mark" = some (.int mk mt) ∧ m2 "one" = some (.ref oa) ∧ m2 "sort" = some (.int so ts)) ∧ Gs C (I.on s26.heap) m2 w f c (room - 1) [] s27 :=
    ⟨_, ⟨rfl, rfl, rfl, rfl, rfl, rfl⟩, g⟩
  generalize hG0 : s26.heap = G0 at g hG1 hone SI
  have fin : ∀ (G : Heap) (m : Str → Option Value) (led : List (Addr × Obj)) (v : Value) (tr : T) (s' : Shared) (room' : Int), TupLe G0 G → Gs C (I.on G) m w f c room' led s' → Tree s'.heap tr v → tr.ok d → tr.cnt + room'.toNat ≤ (room - 1).toNat + 1 → Q v s' := by
    intro G m led v tr s' room' e3 g h1 h2 h3
    have gl := Gs.leave g SI hH (hG1.trans e3) hz
    exact k v tr s' room' h1 h2 (by lia) gl.1 gl.2
  clear hG1 k
  refine g.ifRet (fun _ _ _ => Tr.eqI (i := so) (j := 0) (.locI l6) .cI) (fun hb s28 g => ?_) fun hb0 s28 g => ?_
  · refine Tuple_ (spliced_more (g.ev (fun _ _ _ => .cS) fun v s29 e29 g => spliced_more (g.evV (fun _ _ _ => .loc l4) fun s30 g => ?_)))
    refine g.st fun ow of oc x hw hf hc => ?_
    refine spliced_more (ev_callX SI (O.nm 33 (by decide)) (O.fn 33 (by decide)) x fun s31 x => ?_)
    refine spliced_more (Ev.use (.loc l1) x fun v3 s32 e32 x => ?_)
    obtain rfl := e32; obtain ⟨t29, rfl⟩ := e29
    refine spliced_none ⟨(x.stat SI).X, ?_⟩
    refine g_named (n := 0) O SI (hA'.le (by lia)) ⟨ow, of, oc, x, hw, hf, hc⟩ fun m3 x3 v3 s33 hnm g => ?_
    have e3 := g.tup
    replace g := g.rebase
    refine spliced_none (g.newT (by simp) fun ta s34 g => ?_)
    refine fin s33.heap _ _ _ (.dis mk m3 x3) _ (room - 1) e3 g ?_ (by cases d <;> trivial) (by simp only [T.cnt]; lia)
    exact ⟨ta, _, _, v3, rfl, g.isTup (.head _), hnm.le g.tup⟩
  refine g.ifRet (fun _ _ _ => Tr.eqI (i := so) (j := 1) (.locI l6) .cI) (fun hb s28 g => ?_) fun hb1 s28 g => ?_
  · refine Tuple_ (spliced_more (g.ev (fun _ _ _ => .cS) fun v s29 e29 g => spliced_more (g.evV (fun _ _ _ => .loc l4) fun s30 g => ?_)))
    refine g.st fun ow of oc x hw hf hc => ?_
    refine spliced_more (ev_callX SI (O.nm 33 (by decide)) (O.fn 33 (by decide)) x fun s31 x => ?_)
    refine spliced_more (Ev.use (.loc l1) x fun v3 s32 e32 x => ?_)
    obtain rfl := e32; obtain ⟨t29, rfl⟩ := e29
    refine spliced_none ⟨(x.stat SI).X, ?_⟩
    refine g_named (n := 0) O SI (hA'.le (by lia)) ⟨ow, of, oc, x, hw, hf, hc⟩ fun m3 x3 v3 s33 hnm g => ?_
    have e3 := g.tup
    replace g := g.rebase
    refine spliced_none (g.newT (by simp) fun ta s34 g => ?_)
    refine fin s33.heap _ _ _ (.trg mk m3 x3) _ (room - 1) e3 g ?_ (by cases d <;> trivial) (by simp only [T.cnt]; lia)
    exact ⟨ta, _, _, v3, rfl, g.isTup (.head _), hnm.le g.tup⟩
  refine g.ifRet (fun _ _ _ => Tr.eqI (i := so) (j := 2) (.locI l6) .cI) (fun hb s28 g => ?_) fun hb2 s28 g => ?_
  · refine Tuple_ (spliced_more ?_)
    refine ev_menu (n := 0) (P := fun v => ∃ b t, v = .str (if b = true then "disable" else "trigger") t) O SI (hA'.le (by lia)) (fun _ => EvL.cons .cS (EvL.cons .cS .nil)) ?_ (fun _ => .loc (by exact l3)) (by decide) (by decide) g (fun vtag s29 htag g => ?_) ⟨rfl, rfl, rfl, rfl⟩
    · rintro vs ⟨_, _, rfl, ⟨_, rfl⟩, _, _, rfl, ⟨_, rfl⟩, rfl⟩
      refine ⟨rfl, fun v hv => ?_⟩
      simp only [List.mem_cons, List.not_mem_nil, or_false] at hv
      rcases hv with rfl | rfl
      · exact ⟨true, _, rfl⟩
      · exact ⟨false, _, rfl⟩
    obtain ⟨b, tb, rfl⟩ := htag
    refine spliced_more (g.evV (fun _ _ _ => .loc l4) fun s30 g => ?_)
    refine spliced_more (Tuple_ (spliced_more (g.ev (fun _ _ _ => .cS) fun v3 s31 e31 g => spliced_more (g.ev (fun _ _ _ => .loc l4) fun v4 s32 e32 g => ?_))))
    refine spliced_more (Tuple_ (spliced_more (Tuple_ (spliced_more (g.ev (fun _ _ _ => .cS) fun v5 s33 e33 g => spliced_more (g.ev (fun _ _ _ => .cN) fun v6 s34 e34 g => spliced_none (g.newT (by simp) fun a1 s35 g => ?_)))))))
    refine spliced_more (Tuple_ (spliced_more (g.ev (fun _ _ _ => .cS) fun v7 s36 e36 g => spliced_more (g.ev (fun _ _ _ => .cN) fun v8 s37 e37 g => spliced_none (g.newT (by simp) fun a2 s38 g => ?_)))))
    refine spliced_none (g.newT (by simp) fun a3 s39 g => spliced_none (g.newT (by simp) fun a4 s40 g => spliced_none (g.newT (by simp) fun a5 s41 g => ?_)))
    obtain ⟨t31, rfl⟩ := e31
    refine fin G0 _ _ _ (.pth b mk) _ (room - 1) (TupLe.refl _) g ?_ (by cases d <;> trivial) (by simp only [T.cnt]; lia)
    exact ⟨a5, _, _, _, rfl, g.isTup (.head _), a4, _, _, rfl, g.isTup (.tail _ (.head _))⟩
  refine g.ifRet (fun _ _ _ => Tr.eqI (i := so) (j := 3) (.locI l6) .cI) (fun hb s28 g => ?_) fun hb3 s28 g => ?_
  · refine Constant_none ?_
    exact fin G0 _ _ _ .non _ (room - 1) (TupLe.refl _) g (by rfl) (by cases d <;> trivial) (by simp only [T.cnt]; lia)
  simp only [beq_eq_false_iff_ne, ne_eq] at hb0 hb1 hb2 hb3
  obtain ⟨e, hde⟩ : ∃ e, d = e + 1 := by
    cases d with
    | zero => exfalso; simp at hs1; lia
    | succ e => exact ⟨e, rfl⟩
  have hS : StmtSpec C fa e := ih e hde
  rw [hde] at fin l2
  clear ih hs1 hb0 hb1 hb2 hb3
  refine g.ifRet (fun _ _ _ => Tr.ltI (i := so) (j := 8) (.locI l6) .cI) (fun hb s28 g => ?_) fun hb4 s28 g => ?_
  · refine g.st fun ow of oc x hw hf hc => ?_
    refine ev_callX SI (O.nm 34 (by decide)) (O.fn 34 (by decide)) x fun s31 x => ?_
    refine spliced_more (Ev.useV (.loc l1) x fun s32 x => ?_)
    refine spliced_more (Ev.useV (.loc l2) x fun s33 x => ?_)
    refine spliced_more (Ev.useV (.loc l4) x fun s34 x => ?_)
    refine spliced_none ⟨(x.stat SI).X, ?_⟩
    refine g_block (n := 0) (block_spec O hS) SI (hA'.le (by lia)) ⟨ow, of, oc, x, hw, hf, hc⟩ fun v tr s35 room' htr hok hcnt g => ?_
    exact fin G0 _ _ _ tr _ room' (TupLe.refl _) g htr hok hcnt
  refine g.ifRet (fun _ _ _ => Tr.or2 (Tr.eqI (i := so) (j := 8) (.locI l6) .cI) (Tr.eqI (i := so) (j := 9) (.locI l6) .cI)) (fun hb s28 g => ?_) fun hb5 s28 g => ?_
  · refine Tuple_ (spliced_more (g.ev (fun _ _ _ => .cS) fun v s29 e29 g => spliced_more (g.evV (fun _ _ _ => .loc l4) fun s30 g => spliced_more (g.evV (fun _ _ _ => .loc l5) fun s31 g => ?_))))
    obtain ⟨t29, rfl⟩ := e29
    refine spliced_more (ev_sub (n := 0) O hS SI (hA'.le (by lia)) g l1 l2 fun v1 tr1 s32 room1 h1 ok1 c1 g => ?_)
    have q1 := g.tup
    replace g := g.rebase
    refine spliced_more (ev_sub (n := 0) O hS (by exact SI) (hA'.le (by lia)) g l1 l2 fun v2 tr2 s33 room2 h2 ok2 c2 g => ?_)
    have q2 := g.tup
    replace g := g.rebase
    refine spliced_none (g.newT (by simp) fun a5 s41 g => ?_)
    refine fin s33.heap _ _ _ (.cho mk tr1 tr2) _ room2 (q1.trans q2) g ?_ ⟨ok1, ok2⟩ (by simp only [T.cnt]; lia)
    exact ⟨a5, _, _, _, _, _, rfl, g.isTup (.head _), hone.le ((q1.trans q2).trans g.tup), Tree.le (q2.trans g.tup) _ _ h1, Tree.le g.tup _ _ h2⟩
  refine g.ifRet (fun _ _ _ => Tr.eqI (i := so) (j := 10) (.locI l6) .cI) (fun hb s28 g => ?_) fun hb6 s28 g => ?_
  · refine Tuple_ (spliced_more (g.ev (fun _ _ _ => .cS) fun v s29 e29 g => spliced_more (g.evV (fun _ _ _ => .loc l4) fun s30 g => spliced_more (g.ev (fun _ _ _ => .cS) fun v4 s42 e42 g => spliced_more (g.evV (fun _ _ _ => .loc l5) fun s31 g => ?_)))))
    refine spliced_more (Tuple_ (spliced_more (Tuple_ (spliced_more (Tuple_ (spliced_more (g.ev (fun _ _ _ => .loc l5) fun v6 s43 e43 g => spliced_none (g.newT (by simp) fun al s44 g => ?_))))))))
    obtain ⟨t29, rfl⟩ := e29; obtain ⟨t42, rfl⟩ := e42; obtain rfl := e43
    refine spliced_more (ev_sub (n := 0) O hS SI (hA'.le (by lia)) g l1 l2 fun v1 tr1 s32 room1 h1 ok1 c1 g => ?_)
    have q1 := g.tup
    replace g := g.rebase
    refine spliced_none (g.newT (by simp) fun a1 s45 g => ?_)
    refine spliced_more (Tuple_ (spliced_more (g.evV (fun _ _ _ => .cN) fun s46 g => ?_)))
    refine spliced_more (ev_sub (n := 0) O hS (by exact SI) (hA'.le (by lia)) g l1 l2 fun v2 tr2 s33 room2 h2 ok2 c2 g => ?_)
    have q2 := g.tup
    replace g := g.rebase
    refine spliced_none (g.newT (by simp) fun a2 s47 g => ?_)
    refine spliced_none (g.newT (by simp) fun a3 s48 g => ?_)
    refine spliced_none (g.newT (by simp) fun a4 s49 g => ?_)
    refine fin s33.heap _ _ _ (.cas mk tr1 tr2) _ room2 (q1.trans q2) g ?_ ⟨ok1, ok2⟩ (by simp only [T.cnt]; lia)
    exact ⟨a4, _, _, _, _, a3, a1, a2, al, _, _, _, rfl, g.isTup (.head _), hone.le ((q1.trans q2).trans g.tup), g.isTup (.tail _ (.head _)), g.isTup (.tail _ (.tail _ (.tail _ (.head _)))), g.isTup (.tail _ (.tail _ (.tail _ (.tail _ (.head _))))),
      hone.le ((q1.trans q2).trans g.tup), g.isTup (.tail _ (.tail _ (.head _))), Tree.le (q2.trans g.tup) _ _ h1, Tree.le g.tup _ _ h2⟩
  refine g.ifRet (fun _ _ _ => Tr.eqI (i := so) (j := 11) (.locI l6) .cI) (fun hb s28 g => ?_) fun hb7 s28 g => ?_
  · refine Tuple_ (spliced_more ?_)
    refine ev_menu (n := 0) (P := fun v => ∃ (b : K1) (t : Tok), v = .str b.tag t) O SI (hA'.le (by lia)) (fun _ => EvL.cons .cS (EvL.cons .cS (EvL.cons .cS (EvL.cons .cS .nil)))) ?_ (fun _ => .loc (by exact l3)) (by decide) (by decide) g (fun vtag s29 htag g => ?_) ⟨rfl, rfl, rfl, rfl⟩
    · rintro vs ⟨_, _, rfl, ⟨_, rfl⟩, _, _, rfl, ⟨_, rfl⟩, _, _, rfl, ⟨_, rfl⟩, _, _, rfl, ⟨_, rfl⟩, rfl⟩
      refine ⟨rfl, fun v hv => ?_⟩
      simp only [List.mem_cons, List.not_mem_nil, or_false] at hv
      rcases hv with rfl | rfl | rfl | rfl
      · exact ⟨.delay, _, rfl⟩
      · exact ⟨.while, _, rfl⟩
      · exact ⟨.repeat, _, rfl⟩
      · exact ⟨.wait, _, rfl⟩
    obtain ⟨b, tb, rfl⟩ := htag
    refine spliced_more (g.evV (fun _ _ _ => .loc l4) fun s30 g => spliced_more (g.evV (fun _ _ _ => .loc l5) fun s31 g => ?_))
    refine spliced_more (ev_sub (n := 0) O hS SI (hA'.le (by lia)) g l1 l2 fun v1 tr1 s32 room1 h1 ok1 c1 g => ?_)
    have q1 := g.tup
    replace g := g.rebase
    refine spliced_none (g.newT (by simp) fun a5 s41 g => ?_)
    refine fin s32.heap _ _ _ (.one b mk tr1) _ room1 q1 g ?_ ok1 (by simp only [T.cnt]; lia)
    exact ⟨a5, _, _, _, _, rfl, g.isTup (.head _), hone.le (q1.trans g.tup), Tree.le g.tup _ _ h1⟩
  refine wpAny_execs_cons (wpAny_If (wpAny_isTrue_BoolOp (wpAny_allTrue_And_cons (g.tr (fun _ _ _ => Tr.eqI (i := so) (j := 12) (.locI l6) .cI) fun s27 g => ?_))))
  by_cases hb8 : (so == 12) = true
  · rw [if_pos hb8]
    refine wpAny_allTrue_And_cons (wpAny_isTrue_Compare1 ?_ (by rfl))
    refine g.st fun ow of oc x hw hf hc => ?_
    refine ev_callX SI (O.nm 31 (by decide)) (O.fn 31 (by decide)) x fun s30 x => ?_
    refine spliced_more (Ev.useV (.loc (by exact l3)) x fun s31 x => ?_)
    refine spliced_more (Ev.use .cI x fun v2 s32 e32 x => ?_)
    obtain ⟨t32, rfl⟩ := e32
    refine spliced_none ⟨(x.stat SI).X, ?_⟩
    refine g_pick O SI (hA'.le (k := 0 + 1) (by lia)) ⟨ow, of, oc, x, hw, hf, hc⟩ (by decide) (by decide) fun np tp s33 hn0 hn1 g => ?_
    refine g.ev (fun _ _ _ => .cI) fun v3 s34 e34 g => ?_
    obtain ⟨t34, rfl⟩ := e34
    refine eq_int (wpAny_truthy_bool ?_)
    by_cases hb9 : (np == 0) = true
    · rw [if_pos hb9]
      refine wpAny_allTrue_And_nil ?_
      rw [if_pos rfl]
      refine last (wpAny_Return_some ?_)
      refine Tuple_ (spliced_more (g.ev (fun _ _ _ => .cS) fun v s29 e29 g => spliced_more (g.evV (fun _ _ _ => .loc l4) fun s30 g => ?_)))
      obtain ⟨t29, rfl⟩ := e29
      refine spliced_more (ev_sub (n := 0) O hS SI (hA'.le (by lia)) g l1 l2 fun v1 tr1 s32 room1 h1 ok1 c1 g => ?_)
      have q1 := g.tup
      replace g := g.rebase
      refine spliced_none (g.newT (by simp) fun a5 s41 g => ?_)
      refine fin s32.heap _ _ _ (.fev mk tr1) _ room1 q1 g ?_ ok1 (by simp only [T.cnt]; lia)
      exact ⟨a5, _, _, _, rfl, g.isTup (.head _), Tree.le g.tup _ _ h1⟩
    · rw [if_neg hb9]
      rw [if_neg (by simp)]
      refine wpAny_execs_nil ?_
      refine g.ifRet (fun _ _ _ => Tr.eqI (i := so) (j := 12) (.locI l6) .cI) (fun hb s28 g => ?_) fun hb10 s28 g => absurd (hb8.symm.trans hb10) (by decide)
      refine Tuple_ (spliced_more (g.ev (fun _ _ _ => .cS) fun v s29 e29 g => spliced_more (g.evV (fun _ _ _ => .loc l4) fun s30 g => ?_)))
      refine spliced_more (Tuple_ (spliced_more (g.ev (fun _ _ _ => .cS) fun v3 s35 e35 g => spliced_none (g.newT (by simp) fun ae s36 g => ?_))))
      obtain ⟨t29, rfl⟩ := e29; obtain ⟨t35, rfl⟩ := e35
      refine spliced_more (ev_sub (n := 0) O hS SI (hA'.le (by lia)) g l1 l2 fun v1 tr1 s32 room1 h1 ok1 c1 g => ?_)
      have q1 := g.tup
      replace g := g.rebase
      refine spliced_none (g.newT (by simp) fun a5 s41 g => ?_)
      refine fin s32.heap _ _ _ (.awt mk tr1) _ room1 q1 g ?_ ok1 (by simp only [T.cnt]; lia)
      exact ⟨a5, _, _, _, ae, _, rfl, g.isTup (.head _), g.isTup (.tail _ (.head _)), Tree.le g.tup _ _ h1⟩
  · rw [if_neg hb8]
    rw [if_neg (by simp)]
    refine wpAny_execs_nil ?_
    refine g.ifRet (fun _ _ _ => Tr.eqI (i := so) (j := 12) (.locI l6) .cI) (fun hb s28 g => absurd hb hb8) fun hb10 s28 g => ?_
    refine wpAny_execs_cons (wpAny_Assign_Name ?_ (by rfl))
    refine Tuple_ (spliced_more (Tuple_ (spliced_more (g.ev (fun _ _ _ => .cS) fun v s29 e29 g => spliced_more (g.evV (fun _ _ _ => .loc l4) fun s30 g => spliced_more (g.ev (fun _ _ _ => .cS) fun v3 s31 e31 g => ?_))))))
    obtain ⟨t29, rfl⟩ := e29; obtain ⟨t31, rfl⟩ := e31
    refine spliced_none (g.newT (by simp) fun ai s32 g => ?_)
    refine spliced_more (g.evV (fun _ _ _ => .loc l5) fun s33 g => ?_)
    refine spliced_none (g.newT (by simp) fun al s34 g => ?_)
    have hl : Lead s34.heap (.ref al) := ⟨al, _, _, mk, rfl, g.isTup (.head _), ⟨ai, _, _, _, rfl, g.isTup (.tail _ (.head _))⟩, hone.le g.tup⟩
    have q0 := g.tup
    replace g := g.rebase
    refine g.store fun s35 g => ?_
    refine last (wpAny_Return_some ?_)
    refine Tuple_ (spliced_more (g.ev (fun _ _ _ => .cS) fun v s36 e36 g => spliced_more (g.ev (fun _ _ _ => .loc (by exact l4)) fun v2 s37 e37 g => spliced_more (g.ev (fun _ _ _ => .loc (by rfl)) fun v3 s38 e38 g => ?_))))
    refine spliced_more (g.ev (fun _ _ _ => .loc (by exact l5)) fun v4 s39 e39 g => spliced_more (g.ev (fun _ _ _ => .loc (by rfl)) fun v5 s40 e40 g => ?_))
    obtain ⟨t36, rfl⟩ := e36; obtain rfl := e37; obtain rfl := e38; obtain rfl := e39; obtain rfl := e40
    refine spliced_more (ev_sub (n := 0) O hS (by exact SI) (hA'.le (by lia)) g (by exact l1) (by exact l2) fun v1 tr1 s42 room1 h1 ok1 c1 g => ?_)
    have q1 := g.tup
    replace g := g.rebase
    refine spliced_none (g.newT (by simp) fun a5 s43 g => ?_)
    refine fin s42.heap _ _ _ (.lop mk tr1) _ room1 (q0.trans q1) g ?_ ok1 (by simp only [T.cnt]; lia)
    exact ⟨a5, _, _, _, _, _, _, rfl, g.isTup (.head _), hl.le (q1.trans g.tup), hone.le ((q0.trans q1).trans g.tup), hl.le (q1.trans g.tup), Tree.le g.tup _ _ h1⟩

theorem stmt_spec (O : Ok C fa) : ∀ d, StmtSpec C fa d
  | 0 => stmt_step (d := 0) O fun e h => absurd h (by lia)
  | d + 1 => stmt_step (d := d + 1) O fun e h => (show d = e by lia) ▸ stmt_spec O d
end
end Mine
end

noncomputable section
open PySem PySem.W PyProof.Rows PySem.Calls PySem.Spec
set_option maxRecDepth 100000
set_option maxHeartbeats 4000000
namespace Mine
section
variable {C : Cx} {A : Around} {E : Value → Shared → Prop} {s : Shared} {I : Info} {m : Str → Option Value} {led : List (Addr × Obj)} {env : Env} {fa : Nat → Addr}

structure Whole (I : Info) (led rest : List (Addr × Obj)) (h : Heap) : Prop where
  news : News I.H I.L h (led ++ rest)
  apart : ∀ p ∈ rest, p.1 ∉ led.map (·.1)
  all : ∀ b o, h.get? b = some o → I.H.get? b = some o ∨ b = I.L ∨ b ∈ led.map (·.1) ∨ (b, o) ∈ rest

open Classical in
theorem St.whole (x : St I m led s) : ∃ rest, Whole I led rest s.heap := by
  refine ⟨(List.range s.heap.objs.size).filterMap (fun a => match s.heap.get? a with
    | some o => if I.H.get? a = none ∧ a ≠ I.L ∧ a ∉ led.map (·.1) then some (a, o) else none
    | none => none), ?_, ?_, ?_⟩
  · intro p hp
    rcases List.mem_append.mp hp with hp | hp
    · exact x.news p hp
    · obtain ⟨a, ha, e⟩ := List.mem_filterMap.mp hp
      split at e
      · rename_i o ho
        split at e
        · rename_i hc
          cases e
          exact ⟨ho, hc.2.1, hc.1⟩
        · cases e
      · cases e
  · intro p hp
    obtain ⟨a, ha, e⟩ := List.mem_filterMap.mp hp
    split at e
    · split at e
      · rename_i hc
        cases e
        exact hc.2.2
      · cases e
    · cases e
  · intro b o e
    by_cases h1 : I.H.get? b = none
    · by_cases h2 : b = I.L
      · exact .inr (.inl h2)
      by_cases h3 : b ∈ led.map (·.1)
      · exact .inr (.inr (.inl h3))
      refine .inr (.inr (.inr (List.mem_filterMap.mpr ⟨b, List.mem_range.mpr (Heap.lt_size e), ?_⟩)))
      rw [e]
      exact if_pos ⟨h1, h2, h3⟩
    · obtain ⟨o', e'⟩ := Option.ne_none_iff_exists'.mp h1
      have := x.fr.keep b o' e'
      rw [e] at this; cases this
      exact .inl e'

theorem Whole.back {led' rest : List (Addr × Obj)} {m' : Str → Option Value} {h' : Heap} {tk : Nat} (x : St I m led s) (W : Whole I led rest s.heap) (F : Fr I.H I.L h' m') (N : News I.H I.L h' (led' ++ rest)) (nd : (led'.map (·.1)).Nodup)
    (ht : ∀ p ∈ led, p ∈ led' ∨ ¬ IsT p.2) : St I m' led' { s with heap := h', toks := tk } := by
  refine ⟨F, fun p hp => N p (List.mem_append_left _ hp), nd, fun b o t e => ?_, x.gens, x.os⟩
  have e' := x.tup b o t e
  rcases W.all b o e' with h | rfl | h | h
  · exact F.keep b o h
  · obtain ⟨oL, es, ep, hL, hd, _⟩ := x.fr.ns
    rw [hL] at e'; cases e'
    obtain ⟨_, xs, n, hq⟩ := t
    rw [hd] at hq; cases hq
  · obtain ⟨p, hp, rfl⟩ := List.mem_map.mp h
    have e2 := x.get hp
    rw [e2] at e'; cases e'
    rcases ht p hp with h | h
    · exact (N p (List.mem_append_left _ h)).1
    · exact absurd t h
  · exact (N _ (List.mem_append_right _ h)).1

structure Klass (K : Frag) (c i : Addr) : Prop where
  make : makesIn K c = true
  init : findIn K (.ref c) "__init__" = some (some (.ref i))
  ifn : isFn K (.ref i) = true
  get : plainGet K c "" = true
  set : findIn K (.ref c) "__setattr__" = some (some (.builtin "object.__setattr__"))
  over : plainOver K c = true
  has : hasDictIn K c = true
  keep : keepIn K (.ref c) = true

variable {c i : Addr}
theorem set_att {x dx : Addr} {es : List DictEntry} {n : Nat} {name : Str} {v : Value} {Q : Unit → Shared → Prop} (kc : Klass C.K c i) (S : Stat C I.H) (X : St I m ((dx, dictOf es n) :: led) s) (hx : (x, instObj c dx) ∈ led) (hn : findIn C.K (.ref c) name = some none)
    (hl : (getL name es).isSome = true) (hz : (putL name (PyData.keyHash C.w.params name) (.str name (s.toks + 1)) v es).length ≤ 1000)
    (q : ∀ s' t, St I m ((dx, dictOf (putL name (PyData.keyHash C.w.params name) (.str name t) v es) (putN name es n)) :: led) s' → Q () s') :
    wpAny C.M A (setAttr (.ref x) name v) Q E s := by
  obtain ⟨rest, W⟩ := X.whole
  have nd := X.nd
  rw [List.map_cons, List.nodup_cons] at nd
  refine set_dict (news := (dx, dictOf es n) :: (led ++ rest)) X.fr S.X W.news (InstAt.of_news W.news (.tail _ (List.mem_append_left _ hx)) (.head _)) rfl kc.set kc.over (by unfold takerIn; rw [hn]; rfl) kc.has hl rfl (.head fun p hp => ?_) hz fun h' F N => ?_
  · rcases List.mem_append.mp hp with hp | hp
    · intro e; exact nd.1 (show dx ∈ _ from e ▸ List.mem_map_of_mem hp)
    · intro e; exact W.apart p hp (by rw [e]; exact .head _)
  · refine q _ _ (Whole.back (s := s) X W F N (by rw [List.map_cons, List.nodup_cons]; exact nd) fun p hp => ?_)
    rcases List.mem_cons.mp hp with rfl | hp
    · refine .inr fun t => ?_
      obtain ⟨_, xs, n, e⟩ := t; cases e
    · exact .inl (.tail _ hp)

theorem get_att {x dx : Addr} {es : List DictEntry} {n : Nat} {name : Str} {v : Value} {ex : Bool} {Q : Value → Shared → Prop} (kc : Klass C.K c i) (S : Stat C I.H) (X : St I m led s) (hx : (x, instObj c dx) ∈ led) (hd : (dx, dictOf es n) ∈ led) (hn : findIn C.K (.ref c) name = some none)
    (hl : getL name es = some (some v)) (hv : handedIn v = true) (q : ∀ s', St I m led s' → Q v s') : wpAny C.M A (getAttr (.ref x) name ex) Q E s :=
  get_own X.fr S.X (InstAt.of_news X.news hx hd) kc.get kc.has hn rfl hl hv (q _ X.toks)

theorem Ev.att {e : Expr} {x dx : Addr} {es : List DictEntry} {n : Nat} {name : Str} {v : Value} {pos : Pos} (he : Ev C A env I m led e (Is (.ref x))) (kc : Klass C.K c i) (S : Stat C I.H) (hx : (x, instObj c dx) ∈ led) (hd : (dx, dictOf es n) ∈ led) (hn : findIn C.K (.ref c) name = some none)
    (hl : getL name es = some (some v)) (hv : handedIn v = true)
    (hc : eval (.Attribute e name pos) env = (do
      let o ← eval e env
      standAt pos.atName
      let r ← holding [o] (getAttr o name true)
      letTemporaryGo e o r
      pure r) := by with_unfolding_all rfl) :
    Ev C A env I m led (.Attribute e name pos) (Is v) := fun s Q E X q => by
  refine Attribute_any_ (he _ _ _ X fun o s1 ho X1 => ?_) hc
  obtain rfl : o = .ref x := ho
  exact get_att kc S X1 hx hd hn hl hv fun s' X' => q v s' rfl X'

theorem ev_imeth {o e : Expr} {rest : List Expr} {name : Str} {apos pos : Pos} {x dx f : Addr} {es : List DictEntry} {n : Nat} {Q : Value → Shared → Prop} (ho : Ev C A env I m led o (Is (.ref x))) (kc : Klass C.K c i) (S : Stat C I.H) (hx : (x, instObj c dx) ∈ led) (hd : (dx, dictOf es n) ∈ led)
    (hf : findIn C.K (.ref c) name = some (some (.ref f))) (hfn : isFn C.K (.ref f) = true) (hkeep : keepIn C.K (.ref f) = true) (hl : getL name es = some none) (X : St I m led s)
    (k : ∀ s', St I m led s' → wpAny C.M A (spliced (backTo pos (starEach (e :: rest) env))) (fun vs s'' => (C.K.In s''.heap ∧ wpAny C.M A (call (.ref f) (.ref x :: vs)) Q E s'')) E s')
    (hbase : attributeBase o name env (eval o env) = eval o env := by rfl)
    (hfew : ((backTo pos (starEach (e :: rest) env)).all (fun x => !x.1) && (backToKw pos (keywordEach [] env)).all (fun x => x.1.isSome)
      && decide ((e :: rest).length + ([] : List Keyword).length + (if ([] : List Keyword).isEmpty then 0 else 1) < 30)) = true := by rfl)
    (hline : (apos.endLine == pos.line) = true := by rfl)
    (he : starEach (e :: rest) env = (false, eval e env) :: starEach rest env := by rfl) (hp : (backTo pos (starEach rest env)).any (·.1) = false := by rfl) :
    wpAny C.M A (eval (.Call (.Attribute o name apos) (e :: rest) [] pos) env) Q E s := by
  rw [arm_eval_Call, hbase]
  refine wpAny_bind (ho _ _ _ X fun v s1 hv X1 => ?_)
  obtain rfl : v = .ref x := hv
  refine wpAny_bind (wpAny_standAt ?_)
  have hform : methodCallForm ((e :: rest).length + ([] : List Keyword).length) (backTo pos (starEach (e :: rest) env)) (backToKw pos (keywordEach [] env)) = true := hfew
  have hpos : methodCallPos true o env apos pos = pure pos := by unfold methodCallPos; simp [hline]
  unfold methodCall
  rw [hform]
  refine wpAny_bind (wpAny_holding (method_inst X1.fr S.X (InstAt.of_news X1.news hx hd) kc.get hf hfn hl ?_))
  exact wpAny_bind (wpAny_of_eq hpos (callWith_K (first := [.ref x]) S.X hkeep (k s1 X1) he hp))

theorem new_inst {vals : List Value} {Q : Value → Shared → Prop} (kc : Klass C.K c i) (S : Stat C I.H) (X : St I m led s)
    (h : ∀ s' x dx, St I m ((x, instObj c dx) :: (dx, dictOf [] 0) :: led) s' → codeAny C.M (A.under (.builtin "type.__call__" ⟨.ref c :: vals, []⟩)) (.call (.ref i) ⟨.ref x :: vals, []⟩)
      (InitBack x fun r s' => match r with | .ok (.ret v) => Q v s' | .ok _ => False | .error e => E e s') s') : wpAny C.M A (call (.ref c) vals) Q E s := by
  refine wpAny_call ?_
  have X1 := (X.push (dictOf [] 0)).push (instObj c s.heap.objs.size)
  have hX : C.K.In s.heap := (X.stat S).X
  obtain ⟨hh, g, d, t, os⟩ := s
  refine make_core (makes_of hX kc.make) (looks_findIn hX kc.init) (fun self => bind_fn hX self (beq_iff_eq.mp kc.ifn)) (.inl rfl) ?_
  have := h _ (hh.objs.size + 1) hh.objs.size (by simpa only [Heap.size_push] using X1)
  exact this

theorem ev_callK {fn : Str} {g : Addr} {p pos : Pos} {e : Expr} {rest : List Expr} {Q : Value → Shared → Prop} (S : Stat C I.H) (hn : nsIn C.K mainGlobals fn = some (some (.ref g))) (hf : keepIn C.K (.ref g) = true) (x : St I m led s)
    (k : ∀ s', St I m led s' → wpAny C.M A (spliced (backTo pos (starEach (e :: rest) env))) (fun vs s'' => (C.K.In s''.heap ∧ wpAny C.M A (call (.ref g) vs) Q E s'')) E s')
    (hE : EOk env I := by exact ⟨rfl, rfl, rfl, rfl⟩) (hl : env.kindOf fn = some .globalImplicit := by rfl) (hd : (fn == ("__debug__" : Str)) = false := by rfl)
    (he : starEach (e :: rest) env = (false, eval e env) :: starEach rest env := by rfl) (hp : (backTo pos (starEach rest env)).any (·.1) = false := by rfl)
    (hc : eval (.Call (.Name fn p) (e :: rest) [] pos) env = (do callWith pos (← eval (.Name fn p) env) [] (backTo pos (starEach (e :: rest) env)) (backToKw pos (keywordEach [] env))) := by rfl) :
    wpAny C.M A (eval (.Call (.Name fn p) (e :: rest) [] pos) env) Q E s :=
  Call_ (Ev.glob S hn hE hl hd _ _ _ x fun v s1 h1 x1 => by
    obtain rfl : v = .ref g := h1
    exact callWith_K (first := []) S.X hf (k s1 x1) he hp) hc

theorem Am.under {n : Nat} {a : Args} {id : String} (h : Am A (n + 1)) (hw : (Code.builtin id a).weight ≤ 2) (hu : (Code.builtin id a).cUnits ≤ 10) : Am (A.under (.builtin id a)) n :=
  ⟨h.hh, by have := h.hd; show A.depth + _ + _ < _; lia, by have := h.hu; show A.units + _ + _ < _; lia⟩
theorem w_tc {vals : List Value} : (Code.builtin "type.__call__" ⟨.ref c :: vals, []⟩).weight ≤ 2 := by
  have : (Code.builtin "type.__call__" ⟨.ref c :: vals, []⟩).weight = 1 := by kernel_rfl
  lia
theorem u_tc {a : Args} : (Code.builtin "type.__call__" a).cUnits ≤ 10 := by
  have : (Code.builtin "type.__call__" a).cUnits = 1 := by kernel_rfl
  lia
end
end Mine
end

noncomputable section
open PySem PySem.W PyProof.Rows PySem.Calls PySem.Spec
set_option maxRecDepth 100000
set_option maxHeartbeats 4000000
namespace Mine
section
variable {C : Cx} {A : Around} {E : Value → Shared → Prop} {s : Shared} {I : Info} {m : Str → Option Value} {led : List (Addr × Obj)} {env : Env} {fa : Nat → Addr}

theorem Tr.use {e : Expr} {b : Bool} {Q : Bool → Shared → Prop} (h : Tr C A env I m led e b) (x : St I m led s) (k : ∀ s', St I m led s' → Q b s') : wpAny C.M A (isTrue e env (eval e env)) Q E s := h _ _ _ x k
theorem Tr.inD {a b : Expr} {x : Str} {d : Addr} {o : Obj} {kvs : List (Str × Value)} {pos : Pos} (ha : Ev C A env I m led a (IsS x)) (hb : Ev C A env I m led b (Is (.ref d))) (hm : (d, o) ∈ led) (hd : Dct C o kvs) (hs : (d == sysModules) = false) (hk : behindInMarks .In b = false := by rfl) :
    Tr C A env I m led (.Compare a [.In] [b] pos) (valueAt kvs x).isSome :=
  fun s Q E st q => wpAny_isTrue_Compare1 (ha _ _ _ st fun v s1 h1 x1 => hb _ _ _ x1 fun u s2 h2 x2 => by
    obtain ⟨t, rfl⟩ := h1; obtain rfl : u = .ref d := h2
    exact wpAny_in_of (strKind_is C.prog C.w x t) hs (hd.at (x2.get hm)).mapOf (wpAny_truthy_bool (q _ x2.toks))) hk
theorem Tr.notInD {a b : Expr} {x : Str} {d : Addr} {o : Obj} {kvs : List (Str × Value)} {pos : Pos} (ha : Ev C A env I m led a (IsS x)) (hb : Ev C A env I m led b (Is (.ref d))) (hm : (d, o) ∈ led) (hd : Dct C o kvs) (hs : (d == sysModules) = false) (hk : behindInMarks .NotIn b = false := by rfl) :
    Tr C A env I m led (.Compare a [.NotIn] [b] pos) (!(valueAt kvs x).isSome) :=
  fun s Q E st q => wpAny_isTrue_Compare1 (ha _ _ _ st fun v s1 h1 x1 => hb _ _ _ x1 fun u s2 h2 x2 => by
    obtain ⟨t, rfl⟩ := h1; obtain rfl : u = .ref d := h2
    exact wpAny_notIn_of (strKind_is C.prog C.w x t) hs (hd.at (x2.get hm)).mapOf (wpAny_truthy_bool (q _ x2.toks))) hk
theorem Tr.isN {a : Expr} {v : Value} {b : Bool} {k : Nat} {p pos : Pos} (ha : Ev C A env I m led a (Is v)) (hb : (b = true ∧ v = .none) ∨ (b = false ∧ v ≠ .none)) : Tr C A env I m led (.Compare a [.Is] [.Constant .none k p] pos) b :=
  fun s Q E st q => wpAny_isTrue_Compare1 (ha _ _ _ st fun u s1 h1 x1 => Constant_none (by
    obtain rfl : u = v := h1
    rcases hb with ⟨rfl, rfl⟩ | ⟨rfl, hb⟩
    · exact is_none_none (wpAny_truthy_bool (q _ x1))
    · exact is_none_ne hb (wpAny_truthy_bool (q _ x1)))) rfl
theorem Tr.isNotN {a : Expr} {v : Value} {b : Bool} {k : Nat} {p pos : Pos} (ha : Ev C A env I m led a (Is v)) (hb : (b = false ∧ v = .none) ∨ (b = true ∧ v ≠ .none)) : Tr C A env I m led (.Compare a [.IsNot] [.Constant .none k p] pos) b :=
  fun s Q E st q => wpAny_isTrue_Compare1 (ha _ _ _ st fun u s1 h1 x1 => Constant_none (by
    obtain rfl : u = v := h1
    rcases hb with ⟨rfl, rfl⟩ | ⟨rfl, hb⟩
    · exact isnot_none_none (wpAny_truthy_bool (q _ x1))
    · exact isnot_none_ne hb (wpAny_truthy_bool (q _ x1)))) rfl

inductive LitS : List Expr → List Str → Prop
  | nil : LitS [] []
  | cons {y : Str} {k : Nat} {p : Pos} {r : List Expr} {ys : List Str} : LitS r ys → LitS (.Constant (.str y) k p :: r) (y :: ys)
theorem EvL.strs {pos : Pos} {es : List Expr} {ys : List Str} (h : LitS es ys) : EvL C A env I m led pos es (fun vs => All2 (fun y v => IsS y v) ys vs) := by
  induction h with
  | nil => exact fun s Q E st q => EvL.nil.use st fun vs s' e st' => by subst e; exact q _ _ .nil st'
  | @cons y k p r ys _ ih =>
    exact fun s Q E st q => (EvL.cons (R := IsS y) .cS ih rfl).use st fun vs s' e st' => by
      obtain ⟨v, r, rfl, h1, h2⟩ := e
      exact q _ _ (.cons h1 h2) st'
noncomputable def strIs (x : Str) : Value → Bool
  | .str y _ => y == x
  | _ => false
theorem All2.anyS {ys : List Str} {vs : List Value} (h : All2 (fun y v => IsS y v) ys vs) (x : Str) : vs.any (strIs x) = ys.any (· == x) := by
  induction h with
  | nil => rfl
  | cons h _ ih => obtain ⟨t, rfl⟩ := h; rw [List.any_cons, List.any_cons, ih]; rfl
theorem All2.allS {ys : List Str} {vs : List Value} (h : All2 (fun y v => IsS y v) ys vs) : ∀ v ∈ vs, ∃ y t, v = .str y t := by
  induction h with
  | nil => simp
  | cons h _ ih =>
    intro v hv
    rcases List.mem_cons.mp hv with rfl | hv
    · obtain ⟨t, rfl⟩ := h; exact ⟨_, _, rfl⟩
    · exact ih v hv
theorem Tr.inS {a : Expr} {es : List Expr} {ys : List Str} {x : Str} {k : Nat} {p pos : Pos} (ha : Ev C A env I m led a (IsS x)) (hl : LitS es ys := by repeat constructor) (hz : ys.length ≤ 1000 := by decide) (hk : behindInMarks .In (.Tuple es k p) = false := by rfl) :
    Tr C A env I m led (.Compare a [.In] [.Tuple es k p] pos) (ys.any (· == x)) :=
  fun s Q E st q => wpAny_isTrue_Compare1 (ha _ _ _ st fun v s1 h1 x1 => Tuple_ (EvL.strs hl _ _ _ x1 fun vs s2 hv x2 => new_tuple x2 (by rw [← hv.length]; lia) fun ad s3 x3 _ => by
    obtain ⟨t, rfl⟩ := h1
    refine PySem.SeqAt.in_tupleAt (strIs x) (IsTup.of_St x3 (.head _)) (fun y hy => ?_) (wpAny_truthy_bool ?_)
    · obtain ⟨z, u, rfl⟩ := hv.allS y (by simpa using hy)
      exact (eqGives_str z x u t).at _ _
    · have := q _ x3.drop
      rw [← hv.anyS x] at this
      simpa using this)) hk
theorem Tr.notInS {a : Expr} {es : List Expr} {ys : List Str} {x : Str} {k : Nat} {p pos : Pos} (ha : Ev C A env I m led a (IsS x)) (hl : LitS es ys := by repeat constructor) (hz : ys.length ≤ 1000 := by decide) (hk : behindInMarks .NotIn (.Tuple es k p) = false := by rfl) :
    Tr C A env I m led (.Compare a [.NotIn] [.Tuple es k p] pos) (!ys.any (· == x)) :=
  fun s Q E st q => wpAny_isTrue_Compare1 (ha _ _ _ st fun v s1 h1 x1 => Tuple_ (EvL.strs hl _ _ _ x1 fun vs s2 hv x2 => new_tuple x2 (by rw [← hv.length]; lia) fun ad s3 x3 _ => by
    obtain ⟨t, rfl⟩ := h1
    refine PySem.SeqAt.notIn_tupleAt (strIs x) (IsTup.of_St x3 (.head _)) (fun y hy => ?_) (wpAny_truthy_bool ?_)
    · obtain ⟨z, u, rfl⟩ := hv.allS y (by simpa using hy)
      exact (eqGives_str z x u t).at _ _
    · have := q _ x3.drop
      rw [← hv.anyS x] at this
      simpa using this)) hk
theorem Tr.and2 {a b : Expr} {x y : Bool} {pos : Pos} (ha : Tr C A env I m led a x) (hb : x = true → Tr C A env I m led b y) : Tr C A env I m led (.BoolOp .And [a, b] pos) (x && y) :=
  fun s Q E st q => wpAny_isTrue_BoolOp (wpAny_allTrue_And_cons (ha _ _ _ st fun s1 x1 => by
    cases x with
    | false => exact q _ x1
    | true => exact wpAny_allTrue_And_cons (hb rfl _ _ _ x1 fun s2 x2 => by
        cases y with
        | false => exact q _ x2
        | true => exact wpAny_allTrue_And_nil (q _ x2))))
theorem Tr.or2' {a b : Expr} {x y : Bool} {pos : Pos} (ha : Tr C A env I m led a x) (hb : x = false → Tr C A env I m led b y) : Tr C A env I m led (.BoolOp .Or [a, b] pos) (x || y) :=
  fun s Q E st q => wpAny_isTrue_BoolOp (wpAny_allTrue_Or_cons (ha _ _ _ st fun s1 x1 => by
    cases x with
    | true => exact q _ x1
    | false => exact wpAny_allTrue_Or_cons (hb rfl _ _ _ x1 fun s2 x2 => by
        cases y with
        | true => exact q _ x2
        | false => exact wpAny_allTrue_Or_nil (q _ x2))))

inductive Tst (y x : Str) : Expr → Bool → Prop
  | eq {z : Str} {k : Nat} {p p' pos : Pos} {b : Bool} : (x == z) = b → Tst y x (.Compare (.Name y p) [.Eq] [.Constant (.str z) k p'] pos) b
  | or {e1 e2 : Expr} {u v b : Bool} {pos : Pos} : Tst y x e1 u → Tst y x e2 v → (u || v) = b → Tst y x (.BoolOp .Or [e1, e2] pos) b
  | mem {es : List Expr} {zs : List Str} {k : Nat} {p p' pos : Pos} {b : Bool} : LitS es zs → zs.length ≤ 1000 → zs.any (· == x) = b → Tst y x (.Compare (.Name y p) [.In] [.Tuple es k p'] pos) b
inductive Pick (y x : Str) : List Stmt → List Stmt → Prop
  | hit {t : Expr} {bd el : List Stmt} {pos : Pos} : Tst y x t true → Pick y x [.If t bd el pos] bd
  | miss {t : Expr} {bd el r : List Stmt} {pos : Pos} : Tst y x t false → Pick y x el r → Pick y x [.If t bd el pos] r
  | all {ss : List Stmt} : Pick y x ss ss
theorem Tst.tr {y x : Str} {e : Expr} {b : Bool} {u : Tok} (h : Tst y x e b) (hm : m y = some (.str x u)) (hE : EOk env I) (hl : env.kindOf y = some .local) (hd : (y == ("__debug__" : Str)) = false) : Tr C A env I m led e b := by
  induction h with
  | eq e => exact (Tr.eqS (.locS hm hE hl hd) .cS rfl).cast e
  | or _ _ e ih1 ih2 => exact (Tr.or2 ih1 ih2).cast e
  | mem hl' hz e => exact (Tr.inS (.locS hm hE hl hd) hl' hz rfl).cast e


structure Kl where
  cR : Addr
  iR : Addr
  aR : Addr
  cN : Addr
  iN : Addr
structure Okk (C : Cx) (fa : Nat → Addr) (k : Kl) : Prop where
  O : Ok C fa
  R : Klass C.K k.cR k.iR
  N : Klass C.K k.cN k.iN
  nR : nsIn C.K mainGlobals "Report" = some (some (.ref k.cR))
  nN : nsIn C.K mainGlobals "NameTable" = some (some (.ref k.cN))
  aNames : findIn C.K (.ref k.cR) "names" = some none
  aNet : findIn C.K (.ref k.cR) "nettype" = some none
  aRows : findIn C.K (.ref k.cR) "rows" = some none
  aAdd : findIn C.K (.ref k.cR) "add" = some (some (.ref k.aR))
  fnA : isFn C.K (.ref k.aR) = true
  aPar : findIn C.K (.ref k.cN) "parent" = some none
  aEnt : findIn C.K (.ref k.cN) "entries" = some none
  fR : FnIn C.K "Report.__init__" k.iR (mtAt 1 0)
  fA : FnIn C.K "Report.add" k.aR (mtAt 1 1)
  fN : FnIn C.K "NameTable.__init__" k.iN (mtAt 2 0)

abbrev Row := Str × Int × Str
abbrev Sc := List (Str × Str)
inductive RowV (h : Heap) (q : Row) (v : Value) : Prop
  | mk (a : Addr) (t1 t2 t3 : Tok) (h1 : v = .ref a) (h2 : IsTup h a [.str q.1 t1, .int q.2.1 t2, .str q.2.2 t3].toArray) : RowV h q v
inductive Rw (h : Heap) (rows : List Row) (o : Obj) : Prop
  | mk (vs : List Value) (h1 : LX o vs) (h2 : All2 (RowV h) rows vs) : Rw h rows o
noncomputable def Ent (h : Heap) (p : Str × Str) (kv : Str × Value) : Prop := kv.1 = p.1 ∧ ∃ a t r, kv.2 = .ref a ∧ IsTup h a (.str p.2 t :: r).toArray ∧ (((["net", "var"] : List Str).any (· == p.2)) = true → ∃ z b x y, r = [z, .ref b] ∧ IsTup h b [x, y, .bool true].toArray)
inductive Es (C : Cx) (h : Heap) (es : Sc) (o : Obj) : Prop
  | mk (kvs : List (Str × Value)) (h1 : Dct C o kvs) (h2 : All2 (Ent h) es kvs) : Es C h es o
theorem RowV.le {h h' : Heap} {q : Row} {v : Value} (x : RowV h q v) (k : TupLe h h') : RowV h' q v := by
  obtain ⟨a, t1, t2, t3, rfl, x⟩ := x; exact ⟨a, t1, t2, t3, rfl, k.tup x⟩
theorem Rw.le {h h' : Heap} {rows : List Row} {o : Obj} (x : Rw h rows o) (k : TupLe h h') : Rw h' rows o := by
  obtain ⟨vs, h1, h2⟩ := x; exact ⟨vs, h1, h2.mono fun _ _ z => z.le k⟩
theorem Rw.not {h : Heap} {rows : List Row} {o : Obj} (x : Rw h rows o) : ¬ IsT o := by obtain ⟨vs, h1, h2⟩ := x; exact h1.not
theorem Ent.le {h h' : Heap} {p : Str × Str} {kv : Str × Value} (x : Ent h p kv) (k : TupLe h h') : Ent h' p kv := by
  obtain ⟨e, a, t, r, e1, x, y⟩ := x
  exact ⟨e, a, t, r, e1, k.tup x, fun q => by obtain ⟨z, b, x1, y1, e2, z1⟩ := y q; exact ⟨z, b, x1, y1, e2, k.tup z1⟩⟩
theorem Es.le {h h' : Heap} {es : Sc} {o : Obj} (x : Es C h es o) (k : TupLe h h') : Es C h' es o := by
  obtain ⟨vs, h1, h2⟩ := x; exact ⟨vs, h1, h2.mono fun _ _ z => z.le k⟩
theorem Es.not {h : Heap} {es : Sc} {o : Obj} (x : Es C h es o) : ¬ IsT o := by obtain ⟨vs, h1, h2⟩ := x; exact h1.not
theorem isNone_of {α : Type} {o : Option α} (h : o.isSome = false) : o = none := by cases o; rfl; exact nomatch h
theorem ents_at {h : Heap} {es : Sc} {kvs : List (Str × Value)} (H : All2 (Ent h) es kvs) (x : Str) :
    match es.lookup x with
    | none => valueAt kvs x = none
    | some st => ∃ v, valueAt kvs x = some v ∧ Ent h (x, st) (x, v) := by
  induction H with
  | nil => rfl
  | @cons p kv _ _ h1 _ ih =>
    obtain ⟨p1, p2⟩ := p
    obtain ⟨k1, k2⟩ := kv
    have e : k1 = p1 := h1.1
    subst e
    unfold valueAt at ih ⊢
    rw [List.lookup_cons, List.find?_cons]
    by_cases hx : k1 = x
    · subst hx
      simp only [beq_self_eq_true, decide_true, Option.map_some]
      exact ⟨_, rfl, h1⟩
    · rw [show (x == k1) = false by simpa using fun e => hx e.symm, show decide (k1 = x) = false by simpa using hx]
      exact ih
theorem ents_has {h : Heap} {es : Sc} {kvs : List (Str × Value)} (H : All2 (Ent h) es kvs) (x : Str) : (valueAt kvs x).isSome = (es.lookup x).isSome := by
  have := ents_at H x
  cases e : es.lookup x with
  | none => rw [e] at this; replace this : valueAt kvs x = none := this; rw [this]; rfl
  | some v => rw [e] at this; obtain ⟨u, hu, _⟩ := this; rw [hu]; rfl

variable {k : Kl}
inductive RepIn (k : Kl) (fz : List (Addr × Obj)) (p r : Addr) : Prop
  | mk (d : Addr) (es : List DictEntry) (n : Nat) (h1 : (p, instObj k.cR d) ∈ fz) (h2 : (d, dictOf es n) ∈ fz) (h3 : getL "rows" es = some (some (.ref r)) ∧ getL "add" es = some none) : RepIn k fz p r
inductive TabIn (k : Kl) (fz : List (Addr × Obj)) (t : Addr) (par : Value) (e : Addr) : Prop
  | mk (d : Addr) (es : List DictEntry) (n : Nat) (h1 : (t, instObj k.cN d) ∈ fz) (h2 : (d, dictOf es n) ∈ fz) (h3 : getL "parent" es = some (some par) ∧ getL "entries" es = some (some (.ref e)) ∧ handedIn par = true ∧ (e == sysModules) = false) : TabIn k fz t par e
theorem RepIn.mono {fz fz' : List (Addr × Obj)} {p r : Addr} (x : RepIn k fz p r) (h : ∀ q ∈ fz, q ∈ fz') : RepIn k fz' p r := by
  obtain ⟨d, es, n, h1, h2, h3⟩ := x; exact ⟨d, es, n, h _ h1, h _ h2, h3⟩
theorem TabIn.mono {fz fz' : List (Addr × Obj)} {t e : Addr} {par : Value} (x : TabIn k fz t par e) (h : ∀ q ∈ fz, q ∈ fz') : TabIn k fz' t par e := by
  obtain ⟨d, es, n, h1, h2, h3⟩ := x; exact ⟨d, es, n, h _ h1, h _ h2, h3⟩
inductive Chn (C : Cx) (k : Kl) (h : Heap) (fz : List (Addr × Obj)) : Value → List Sc → Prop
  | nil : Chn C k h fz .none []
  | cons {t e : Addr} {par : Value} {eo : Obj} {sc : Sc} {ch : List Sc} : TabIn k fz t par e → (e, eo) ∈ fz → Es C h sc eo → Chn C k h fz par ch → Chn C k h fz (.ref t) (sc :: ch)
theorem Chn.mono {h h' : Heap} {fz fz' : List (Addr × Obj)} {v : Value} {ch : List Sc} (x : Chn C k h fz v ch) (kk : TupLe h h') (hf : ∀ q ∈ fz, q ∈ fz') : Chn C k h' fz' v ch := by
  induction x with
  | nil => exact .nil
  | cons h1 h2 h3 _ ih => exact .cons (h1.mono hf) (hf _ h2) (h3.le kk) ih
theorem RepIn.rows {fz : List (Addr × Obj)} {p r : Addr} {e : Expr} {pos : Pos} (x : RepIn k fz p r) (O : Okk C fa k) (S : Stat C I.H) (he : Ev C A env I m led e (Is (.ref p))) (hf : ∀ q ∈ fz, q ∈ led)
    (hc : eval (.Attribute e "rows" pos) env = (do
      let o ← eval e env
      standAt pos.atName
      let r ← holding [o] (getAttr o "rows" true)
      letTemporaryGo e o r
      pure r) := by with_unfolding_all rfl) : Ev C A env I m led (.Attribute e "rows" pos) (Is (.ref r)) := by
  obtain ⟨d, es, n, h1, h2, h3, h4⟩ := x
  exact Ev.att he O.R S (hf _ h1) (hf _ h2) O.aRows h3 rfl hc
theorem TabIn.ent {fz : List (Addr × Obj)} {t a : Addr} {par : Value} {e : Expr} {pos : Pos} (x : TabIn k fz t par a) (O : Okk C fa k) (S : Stat C I.H) (he : Ev C A env I m led e (Is (.ref t))) (hf : ∀ q ∈ fz, q ∈ led)
    (hc : eval (.Attribute e "entries" pos) env = (do
      let o ← eval e env
      standAt pos.atName
      let r ← holding [o] (getAttr o "entries" true)
      letTemporaryGo e o r
      pure r) := by with_unfolding_all rfl) : Ev C A env I m led (.Attribute e "entries" pos) (Is (.ref a)) := by
  obtain ⟨d, es, n, h1, h2, h3, h4, h5, h6⟩ := x
  exact Ev.att he O.N S (hf _ h1) (hf _ h2) O.aEnt h4 rfl hc
theorem TabIn.par {fz : List (Addr × Obj)} {t a : Addr} {par : Value} {e : Expr} {pos : Pos} (x : TabIn k fz t par a) (O : Okk C fa k) (S : Stat C I.H) (he : Ev C A env I m led e (Is (.ref t))) (hf : ∀ q ∈ fz, q ∈ led)
    (hc : eval (.Attribute e "parent" pos) env = (do
      let o ← eval e env
      standAt pos.atName
      let r ← holding [o] (getAttr o "parent" true)
      letTemporaryGo e o r
      pure r) := by with_unfolding_all rfl) : Ev C A env I m led (.Attribute e "parent" pos) (Is par) := by
  obtain ⟨d, es, n, h1, h2, h3, h4, h5, h6⟩ := x
  exact Ev.att he O.N S (hf _ h1) (hf _ h2) O.aPar h3 h5 hc

noncomputable def findS : List Sc → Str → Option Str
  | [], _ => none
  | sc :: r, x => match sc.lookup x with
    | some st => some st
    | none => findS r x
theorem findS_cons {sc : Sc} {r : List Sc} {x : Str} : findS (sc :: r) x = match sc.lookup x with
    | some st => some st
    | none => findS r x := rfl
noncomputable def EntV (h : Heap) (o : Option Str) (v : Value) : Prop := match o with
  | none => v = .none
  | some st => ∃ a t r, v = .ref a ∧ IsTup h a (.str st t :: r).toArray

theorem leaveF {l1 l1' fz : List (Addr × Obj)} {s s' : Shared} (x : St I m (l1' ++ fz) s') (P : Pre C.B s.heap (l1 ++ fz)) (hH : I.H = hideAll s.heap ((l1 ++ fz).map (·.1))) (hG : TupLe s.heap I.G) (hz : I.z = s) : Post (l1.map (·.1)) s s' := by
  refine ⟨fun b o hb e => ?_, hG.trans x.tup, hz ▸ x.gens, hz ▸ x.os⟩
  by_cases hf : b ∈ fz.map (·.1)
  · obtain ⟨p, hp, rfl⟩ := List.mem_map.mp hf
    have := (P.at_ p (List.mem_append_right _ hp)).1
    rw [this] at e; cases e
    exact x.get (List.mem_append_right _ hp)
  · refine x.fr.keep b o (hH ▸ hideAll_get _ e fun q => ?_)
    rw [List.map_append] at q
    rcases List.mem_append.mp q with q | q
    · exact hb q
    · exact hf q

theorem find_spec {n : Nat} {tv : Value} {x : Str} {tx : Tok} {ch : List Sc} {fz : List (Addr × Obj)} {Q : Value → Shared → Prop} (O : Okk C fa k) (hA : Am A (n + 1)) (P : Pre C.B s.heap fz) (hc : Chn C k s.heap fz tv ch)
    (q : ∀ v s', EntV s'.heap (findS ch x) v → Post [] s s' → Q v s') : wpAny C.M A (call (.ref (fa 3)) [tv, .str x tx]) Q E s := by
  refine go (st := stAt 3) rfl hA O.O.S (O.O.fn 3 (by decide)) P fun I s1 cdv A' hA' hH hG hz SI X => ?_
  have out : ∀ (v : Value) (m : Str → Option Value) (s' : Shared), St I m fz s' → EntV s'.heap (findS ch x) v → Q v s' := fun v m s' X h => q v s' h (leaveF (l1 := []) (l1' := []) X P hH (hG ▸ TupLe.refl _) hz)
  replace hc : Chn C k I.G fz tv ch := hG ▸ hc
  obtain ⟨m, hm1, hm2, X⟩ : ∃ m, m "table" = some tv ∧ m "name" = some (.str x tx) ∧ St I m fz s1 := ⟨_, rfl, rfl, X⟩
  refine wpAny_execs_cons (wpAny_While (codeAny_whileLoop (fun n s => ∃ m tv ch', St I m fz s ∧ Chn C k I.G fz tv ch' ∧ findS ch' x = findS ch x ∧ n = ch'.length ∧ m "table" = some tv ∧ m "name" = some (.str x tx)) ?_ ch.length ⟨m, tv, ch, X, hc, rfl, rfl, hm1, hm2⟩))
  rintro n s2 ⟨m, tv, ch', X, hc, hf, rfl, hm1, hm2⟩
  cases hc with
  | nil =>
    refine Tr.isNotN (b := false) (.loc hm1) (.inl ⟨rfl, rfl⟩) _ _ _ X fun s3 X => ?_
    refine wpAny_execs_nil (last (wpAny_Return_some (Constant_none ?_)))
    refine out _ _ _ X ?_
    rw [← hf]; rfl
  | cons h1 h2 h3 h4 =>
    obtain ⟨kvs, hd, hall⟩ := h3
    have hms := h1
    obtain ⟨_, _, _, _, _, _, _, _, hsm⟩ := hms
    refine Tr.isNotN (b := true) (.loc hm1) (.inr ⟨rfl, by simp⟩) _ _ _ X fun s3 X => ?_
    refine wpAny_execs_cons (wpAny_If (Tr.use (Tr.inD (.locS hm2) (h1.ent O SI (.loc hm1) fun _ z => z) h2 hd hsm) X fun s4 X => ?_))
    have hat := ents_at hall x
    rw [ents_has hall]
    rw [findS_cons] at hf
    cases hl : List.lookup x ‹Sc› with
    | some st =>
      rw [hl] at hat hf
      obtain ⟨v, hv, hev⟩ := hat
      refine last (wpAny_Return_some (Ev.use (Ev.dct (h1.ent O SI (.loc hm1) fun _ z => z) (.locS hm2) h2 hd hv) X fun u s5 e5 X => ?_))
      obtain rfl := e5
      refine out _ _ _ X ?_
      rw [← hf]
      obtain ⟨_, a, t, r, e, y, _⟩ := hev
      exact ⟨a, t, r, e, X.tup.tup y⟩
    | none =>
      rw [hl] at hat hf
      refine wpAny_execs_nil (last (xSet (h1.par O SI (.loc hm1) fun _ z => z) X fun v s5 e5 X => ?_))
      obtain rfl := e5
      exact ⟨_, Nat.lt_succ_self _, _, _, _, X, h4, hf, rfl, rfl, hm2⟩
end
end Mine
end

noncomputable section
open PySem PySem.W PyProof.Rows PySem.Calls PySem.Spec
set_option maxRecDepth 100000
set_option maxHeartbeats 4000000
namespace Mine
section
variable {C : Cx} {A : Around} {E : Value → Shared → Prop} {s : Shared} {I : Info} {G : Heap} {m : Str → Option Value} {env : Env} {fa : Nat → Addr} {k : Kl} {r e p : Addr} {rows : List Row} {es : Sc} {fz tl : List (Addr × Obj)}

inductive Rs (C : Cx) (I : Info) (G : Heap) (m : Str → Option Value) (r : Addr) (rows : List Row) (fz tl : List (Addr × Obj)) (s : Shared) : Prop
  | mk (ro : Obj) (x : St (I.on G) m ((r, ro) :: (fz ++ tl)) s) (w : Rw G rows ro) : Rs C I G m r rows fz tl s
inductive RPre (C : Cx) (r : Addr) (rows : List Row) (fz : List (Addr × Obj)) (h : Heap) : Prop
  | mk (ro : Obj) (x : Pre C.B h ((r, ro) :: fz)) (w : Rw h rows ro) : RPre C r rows fz h
inductive RPost (r : Addr) (rows : List Row) (s s' : Shared) : Prop
  | mk (ro : Obj) (x : Post [r] s s') (y : s'.heap.get? r = some ro) (w : Rw s'.heap rows ro) : RPost r rows s s'
inductive DPre (C : Cx) (r : Addr) (rows : List Row) (e : Addr) (es : Sc) (fz : List (Addr × Obj)) (h : Heap) : Prop
  | mk (ro eo : Obj) (x : Pre C.B h ((r, ro) :: (e, eo) :: fz)) (w : Rw h rows ro) (v : Es C h es eo) : DPre C r rows e es fz h
inductive DPost (C : Cx) (r : Addr) (rows : List Row) (e : Addr) (es : Sc) (s s' : Shared) : Prop
  | mk (ro eo : Obj) (x : Post [r, e] s s') (y : s'.heap.get? r = some ro) (z : s'.heap.get? e = some eo) (w : Rw s'.heap rows ro) (v : Es C s'.heap es eo) : DPost C r rows e es s s'
inductive Ds (C : Cx) (I : Info) (G : Heap) (m : Str → Option Value) (r : Addr) (rows : List Row) (e : Addr) (es : Sc) (fz tl : List (Addr × Obj)) (s : Shared) : Prop
  | mk (eo : Obj) (g : Rs C I G m r rows ((e, eo) :: fz) tl s) (h : Es C G es eo) : Ds C I G m r rows e es fz tl s

noncomputable def Nt (fz : List (Addr × Obj)) : Prop := ∀ q ∈ fz, ¬ IsT q.2

theorem Rs.st {Q : Prop} (g : Rs C I G m r rows fz tl s) (q : ∀ ro, St (I.on G) m ((r, ro) :: (fz ++ tl)) s → Rw G rows ro → Q) : Q := by obtain ⟨ro, x, h⟩ := g; exact q ro x h
theorem Rs.tup (g : Rs C I G m r rows fz tl s) : TupLe G s.heap := by obtain ⟨ro, x, h⟩ := g; exact x.tup
theorem Rs.ev {x : Expr} {R : Value → Prop} {Q : Value → Shared → Prop} (g : Rs C I G m r rows fz tl s) (h : ∀ ro, Ev C A env (I.on G) m ((r, ro) :: (fz ++ tl)) x R) (q : ∀ v s', R v → Rs C I G m r rows fz tl s' → Q v s') : wpAny C.M A (eval x env) Q E s := by
  obtain ⟨ro, X, w⟩ := g
  exact Ev.use (h ro) X fun v s' hv X' => q v s' hv ⟨ro, X', w⟩
theorem Rs.evV {x : Expr} {w1 : Value} {Q : Value → Shared → Prop} (g : Rs C I G m r rows fz tl s) (h : ∀ ro, Ev C A env (I.on G) m ((r, ro) :: (fz ++ tl)) x (Is w1)) (q : ∀ s', Rs C I G m r rows fz tl s' → Q w1 s') : wpAny C.M A (eval x env) Q E s := g.ev h fun v s' h g => by obtain rfl : v = w1 := h; exact q s' g
theorem Rs.evI {x : Expr} {i : Int} {Q : Value → Shared → Prop} (g : Rs C I G m r rows fz tl s) (h : ∀ ro, Ev C A env (I.on G) m ((r, ro) :: (fz ++ tl)) x (IsI i)) (q : ∀ t s', Rs C I G m r rows fz tl s' → Q (.int i t) s') : wpAny C.M A (eval x env) Q E s := g.ev h fun v s' h g => by obtain ⟨t, rfl⟩ := h; exact q t s' g
theorem Rs.evS {x : Expr} {i : Str} {Q : Value → Shared → Prop} (g : Rs C I G m r rows fz tl s) (h : ∀ ro, Ev C A env (I.on G) m ((r, ro) :: (fz ++ tl)) x (IsS i)) (q : ∀ t s', Rs C I G m r rows fz tl s' → Q (.str i t) s') : wpAny C.M A (eval x env) Q E s := g.ev h fun v s' h g => by obtain ⟨t, rfl⟩ := h; exact q t s' g
theorem Rs.tr {x : Expr} {b : Bool} {Q : Bool → Shared → Prop} (g : Rs C I G m r rows fz tl s) (h : ∀ ro, Tr C A env (I.on G) m ((r, ro) :: (fz ++ tl)) x b) (q : ∀ s', Rs C I G m r rows fz tl s' → Q b s') : wpAny C.M A (isTrue x env (eval x env)) Q E s := by
  obtain ⟨ro, X, w⟩ := g
  exact Tr.use (h ro) X fun s' X' => q s' ⟨ro, X', w⟩
theorem Rs.iff {x : Expr} {bd el : List Stmt} {pos : Pos} {b : Bool} {Q : Flow → Shared → Prop} (g : Rs C I G m r rows fz tl s) (h : ∀ ro, Tr C A env (I.on G) m ((r, ro) :: (fz ++ tl)) x b)
    (k1 : b = true → ∀ s', Rs C I G m r rows fz tl s' → wpAny C.M A (execs bd env) Q E s') (k2 : b = false → ∀ s', Rs C I G m r rows fz tl s' → wpAny C.M A (execs el env) Q E s') : wpAny C.M A (exec (.If x bd el pos) env) Q E s := by
  obtain ⟨ro, X, w⟩ := g
  refine xIf (h ro) X fun s' X' => ?_
  cases b with
  | true => exact k1 rfl _ ⟨ro, X', w⟩
  | false => exact k2 rfl _ ⟨ro, X', w⟩
theorem Rs.pick {y x : Str} {u : Tok} {ss bd : List Stmt} {Q : Flow → Shared → Prop} (g : Rs C I G m r rows fz tl s) (hm : m y = some (.str x u)) (P : Pick y x ss bd)
    (q : ∀ s', Rs C I G m r rows fz tl s' → wpAny C.M A (execs bd env) Q E s') (hE : EOk env I := by exact ⟨rfl, rfl, rfl, rfl⟩) (hl : env.kindOf y = some .local := by rfl) (hd : (y == ("__debug__" : Str)) = false := by rfl) : wpAny C.M A (execs ss env) Q E s := by
  have hE' : EOk env (I.on G) := ⟨hE.hk, hE.hL, hE.hg, hE.hb⟩
  induction P generalizing s with
  | hit h => exact last (g.iff (fun ro => h.tr hm hE' hl hd) (fun _ s' g => q s' g) fun h => nomatch h)
  | miss h _ ih => exact last (g.iff (fun ro => h.tr hm hE' hl hd) (fun h => nomatch h) fun _ s' g => ih g q)
  | all => exact q s g
theorem Rs.store {y : Str} {v : Value} {Q : Unit → Shared → Prop} (g : Rs C I G m r rows fz tl s) (q : ∀ s', Rs C I G (upd m y v) r rows fz tl s' → Q () s') (hE : EOk env I := by exact ⟨rfl, rfl, rfl, rfl⟩) (hl : env.kindOf y = some .local := by rfl) :
    wpAny C.M A (storeName env y v) Q E s := by
  obtain ⟨ro, X, w⟩ := g
  exact Mine.store X (fun s' x' => q s' ⟨ro, x', w⟩) ⟨hE.hk, hE.hL, hE.hg, hE.hb⟩ hl
theorem Rs.set {y : Str} {x : Expr} {R : Value → Prop} {p pos : Pos} {Q : Flow → Shared → Prop} (g : Rs C I G m r rows fz tl s) (h : ∀ ro, Ev C A env (I.on G) m ((r, ro) :: (fz ++ tl)) x R)
    (q : ∀ v s', R v → Rs C I G (upd m y v) r rows fz tl s' → Q .next s') (hE : EOk env I := by exact ⟨rfl, rfl, rfl, rfl⟩) (hl : env.kindOf y = some .local := by rfl)
    (hs : swapsWith x (some (.Name y p)) pos.line env = pure false := by rfl) :
    wpAny C.M A (exec (.Assign [.Name y p] x pos) env) Q E s :=
  wpAny_Assign_Name (g.ev h fun v s' hv g => g.store (fun s'' g' => q v s'' hv g') hE hl) hs
theorem Rs.setV {y : Str} {x : Expr} {w1 : Value} {p pos : Pos} {Q : Flow → Shared → Prop} (g : Rs C I G m r rows fz tl s) (h : ∀ ro, Ev C A env (I.on G) m ((r, ro) :: (fz ++ tl)) x (Is w1))
    (q : ∀ s', Rs C I G (upd m y w1) r rows fz tl s' → Q .next s') (hE : EOk env I := by exact ⟨rfl, rfl, rfl, rfl⟩) (hl : env.kindOf y = some .local := by rfl)
    (hs : swapsWith x (some (.Name y p)) pos.line env = pure false := by rfl) :
    wpAny C.M A (exec (.Assign [.Name y p] x pos) env) Q E s := g.set h (fun v s' e g => by obtain rfl : v = w1 := e; exact q s' g) hE hl hs
theorem Rs.setS {y : Str} {x : Expr} {i : Str} {p pos : Pos} {Q : Flow → Shared → Prop} (g : Rs C I G m r rows fz tl s) (h : ∀ ro, Ev C A env (I.on G) m ((r, ro) :: (fz ++ tl)) x (IsS i))
    (q : ∀ t s', Rs C I G (upd m y (.str i t)) r rows fz tl s' → Q .next s') (hE : EOk env I := by exact ⟨rfl, rfl, rfl, rfl⟩) (hl : env.kindOf y = some .local := by rfl)
    (hs : swapsWith x (some (.Name y p)) pos.line env = pure false := by rfl) :
    wpAny C.M A (exec (.Assign [.Name y p] x pos) env) Q E s := g.set h (fun v s' e g => by obtain ⟨t, rfl⟩ := e; exact q t s' g) hE hl hs
theorem Rs.pre (g : Rs C I G m r rows fz tl s) (S : ∀ G, Stat C (I.on G).H) (nt : Nt fz) : RPre C r rows fz s.heap := by
  obtain ⟨ro, X, w⟩ := g
  refine ⟨ro, X.pre (I := I.on G) (l1 := (r, ro) :: fz) (S G) fun q hq => ?_, w.le X.tup⟩
  rcases List.mem_cons.mp hq with rfl | hq
  · exact w.not
  · exact nt q hq
theorem Rs.post {rows' : List Row} {s' : Shared} (g : Rs C I G m r rows fz tl s) (P : RPost r rows' s s') : Rs C I s'.heap m r rows' fz tl s' ∧ TupLe G s'.heap := by
  obtain ⟨ro, X, w⟩ := g
  obtain ⟨ro', P, h, w'⟩ := P
  have X' := St.post (l1 := [(r, ro)]) (l1' := [(r, ro')]) X P rfl fun q hq => by rw [List.mem_singleton] at hq; subst hq; exact h
  exact ⟨⟨ro', X'.rebase, w'⟩, X'.tup⟩
theorem Rs.rebase (g : Rs C I G m r rows fz tl s) : Rs C I s.heap m r rows fz tl s := by
  obtain ⟨ro, X, w⟩ := g; exact ⟨ro, X.rebase, w.le X.tup⟩

theorem goR {n : Nat} {qual : Str} {st : Stmt} {nm : Str} {ar : Arguments} {bd : List Stmt} {dl : List Expr} {rt : Option Expr} {tp : List TypeParam} {sc : Scope} {ts : Option Scope} {bi : Str} {po : Pos} {vals : List Value} {f : Addr} {Q : Value → Shared → Prop}
    (hst : st = .FunctionDef nm ar bd dl rt tp sc ts bi po) (hA : Am A (n + 1)) (S : Stat C C.B) (hf : FnIn C.K qual f st) (P : RPre C r rows fz s.heap)
    (h : ∀ (I : Info) (G : Heap) (s₁ : Shared) (cdv : Value) (A' : Around), Am A' n → (∀ G, Stat C (I.on G).H) → G = s.heap → Nt fz → Rs C I G (par0 ar vals) r rows fz [] s₁ →
      (∀ G' m' rows' tl s', TupLe G G' → Rs C I G' m' r rows' fz tl s' → RPost r rows' s s') →
      wpAny C.M A' (execs bd (envOf qual sc I.L f cdv)) (fun fl s' => Q (retOf fl) s') (fun _ _ => False) s₁)
    (hdef : ar.defaults = [] := by rfl) (hbind : ∀ doc pm an cdv ct, bindArgs (fnOf nm qual ar bd sc .none .none doc pm an cdv ct) ⟨vals, []⟩ = pure ((ar.args.map (·.arg)).zip vals) := by intros; rfl)
    (hloc : (((ar.args.map (·.arg)).zip vals).all fun x => decide (sc.names.lookup x.1 = some .local)) = true := by rfl) (hcell : ∀ y ∈ sc.names, y.2 ≠ .cell := by decide)
    (hco : sc.isCoroutine = false := by rfl) (hgen : sc.isGenerator = false := by rfl) (hk : sc.kind = .function := by rfl) :
    wpAny C.M A (call (.ref f) vals) Q E s := by
  obtain ⟨ro, P, w⟩ := P
  refine go hst hA S hf P (fun I s1 cdv A' hA' hH hG hz SI X => ?_) hdef hbind hloc hcell hco hgen hk
  refine h I I.G s1 cdv A' hA' (fun _ => SI) hG (fun q hq => P.nt q (.tail _ hq)) ⟨ro, by rw [List.append_nil]; exact X, hG ▸ w⟩ fun G' m' rows' tl s' hle g => ?_
  obtain ⟨ro', X', w'⟩ := g
  have X2 : St (I.on G') m' ([(r, ro')] ++ fz) s' := X'.sub (by exact (List.sublist_append_left fz tl).cons_cons _)
  exact ⟨ro', leaveF (l1 := [(r, ro)]) X2 P hH (hG ▸ hle) hz, X2.get (.head _), w'.le X2.tup⟩

theorem add_spec {n : Nat} {kd dt : Str} {av : Int} {t1 t2 t3 : Tok} {Q : Value → Shared → Prop} (O : Okk C fa k) (hA : Am A (n + 1)) (P : RPre C r rows fz s.heap) (hp : RepIn k fz p r) (hz : rows.length ≤ 10000)
    (q : ∀ s', RPost r (rows ++ [(kd, av, dt)]) s s' → Q .none s') : wpAny C.M A (call (.ref k.aR) [.ref p, .str kd t1, .int av t2, .str dt t3]) Q E s := by
  refine goR (st := mtAt 1 1) rfl hA O.O.S O.fA P fun I G s1 cdv A' hA' SI hG nt g out => ?_
  refine last (wpAny_Expr_any ?_ (by rfl) (by rfl))
  obtain ⟨ro, X, vs, hl, hall⟩ := g
  refine ev_lmeth (hp.rows O (SI _) (.loc rfl) fun q hq => .tail _ (List.mem_append_left _ hq)) (.head _) hl PySem.F.slot_list_append type_list_append X fun s2 X => ?_
  refine PyProof.Rows.callWith_method1 (spliced_more (Tuple_ (spliced_more (Ev.useV (.loc rfl) X fun s3 X => ?_))))
  refine spliced_more (Ev.useV (.loc rfl) X fun s4 X => ?_)
  refine spliced_more (Ev.useV (.loc rfl) X fun s5 X => ?_)
  refine spliced_none (new_tuple X (by simp) fun a s6 X _ => spliced_none ?_)
  refine lst_append X.swap hl (by have := hall.length; lia) fun ro' s7 hl' X => ?_
  refine q _ (out s7.heap _ _ _ _ X.tup ⟨ro', X.swapDrop.rebase, _, hl', (hall.mono fun _ _ z => z.le X.tup).snoc ⟨a, _, _, _, rfl, IsTup.of_St X (.tail _ (.head _))⟩⟩)

theorem Rs.add {n : Nat} {e1 e2 e3 : Expr} {kd dt : Str} {av : Int} {np ap pos p0 : Pos} {Q : Flow → Shared → Prop} (g : Rs C I G m r rows fz tl s) (O : Okk C fa k) (S : ∀ G, Stat C (I.on G).H) (nt : Nt fz) (hA : Am A (n + 1)) (hp : RepIn k fz p r) (hm : m "report" = some (.ref p)) (hz : rows.length ≤ 10000)
    (h1 : ∀ ro, Ev C A env (I.on G) m ((r, ro) :: (fz ++ tl)) e1 (IsS kd)) (h2 : ∀ ro, Ev C A env (I.on G) m ((r, ro) :: (fz ++ tl)) e2 (IsI av)) (h3 : ∀ ro, Ev C A env (I.on G) m ((r, ro) :: (fz ++ tl)) e3 (IsS dt))
    (q : ∀ s', Rs C I s'.heap m r (rows ++ [(kd, av, dt)]) fz tl s' → TupLe G s'.heap → Q .next s')
    (hE : EOk env I := by exact ⟨rfl, rfl, rfl, rfl⟩) (hl : env.kindOf "report" = some .local := by rfl)
    (hline : (ap.endLine == pos.line) = true := by rfl) (hs1 : starEach [e1, e2, e3] env = (false, eval e1 env) :: starEach [e2, e3] env := by rfl) (hs2 : starEach [e2, e3] env = (false, eval e2 env) :: starEach [e3] env := by rfl) (hs3 : starEach [e3] env = (false, eval e3 env) :: starEach [] env := by rfl)
    (hp1 : (backTo pos (starEach [e2, e3] env)).any (·.1) = false := by rfl)
    (hfew : ((backTo pos (starEach [e1, e2, e3] env)).all (fun x => !x.1) && (backToKw pos (keywordEach [] env)).all (fun x => x.1.isSome)
      && decide ([e1, e2, e3].length + ([] : List Keyword).length + (if ([] : List Keyword).isEmpty then 0 else 1) < 30)) = true := by rfl)
    (hi : interactive env = false := by rfl) (hsw : swapsWith (.Call (.Attribute (.Name "report" np) "add" ap) [e1, e2, e3] [] pos) none p0.line env = pure false := by rfl) :
    wpAny C.M A (exec (.Expr (.Call (.Attribute (.Name "report" np) "add" ap) [e1, e2, e3] [] pos) p0) env) Q E s := by
  have hE' : EOk env (I.on G) := ⟨hE.hk, hE.hL, hE.hg, hE.hb⟩
  refine wpAny_Expr_any ?_ hi hsw
  have gg := g
  obtain ⟨ro, X, w⟩ := g
  obtain ⟨d, des, dn, m1, m2, m3, m4⟩ := hp
  refine ev_imeth (.loc hm hE' hl) O.R (S G) (.tail _ (List.mem_append_left _ m1)) (.tail _ (List.mem_append_left _ m2)) O.aAdd O.fnA O.fA.keep m4 X (fun s1 X => ?_) (by rfl) hfew hline hs1 hp1
  refine spliced_more (Ev.use (h1 ro) X fun v1 s2 e1 X => ?_) hs1
  refine spliced_more (Ev.use (h2 ro) X fun v2 s3 e2 X => ?_) hs2
  refine spliced_more (Ev.use (h3 ro) X fun v3 s4 e3 X => ?_) hs3
  obtain ⟨u1, rfl⟩ := e1; obtain ⟨u2, rfl⟩ := e2; obtain ⟨u3, rfl⟩ := e3
  refine spliced_none ⟨(X.stat (S G)).X, ?_⟩
  have g' : Rs C I G m r rows fz tl s4 := ⟨ro, X, w⟩
  refine add_spec O hA (g'.pre S nt) ⟨d, des, dn, m1, m2, m3, m4⟩ hz fun s' P => ?_
  exact q s' (g'.post P).1 (g'.post P).2
end
end Mine
end

noncomputable section
open PySem PySem.W PyProof.Rows PySem.Calls PySem.Spec
set_option maxRecDepth 100000
set_option maxHeartbeats 4000000
namespace Mine
section
variable {C : Cx} {A : Around} {E : Value → Shared → Prop} {s : Shared} {I : Info} {G : Heap} {m : Str → Option Value} {env : Env} {fa : Nat → Addr} {k : Kl} {r e p t : Addr} {par : Value} {rows : List Row} {es : Sc} {fz tl led : List (Addr × Obj)}

theorem Tr.neS {a b : Expr} {i j : Str} {pos : Pos} (ha : Ev C A env I m led a (IsS i)) (hb : Ev C A env I m led b (IsS j)) (hm : behindInMarks .NotEq b = false := by rfl) : Tr C A env I m led (.Compare a [.NotEq] [b] pos) (i != j) :=
  fun s Q E x q => wpAny_isTrue_Compare1 (ha _ _ _ x fun v s1 h1 x1 => hb _ _ _ x1 fun u s2 h2 x2 => by
    obtain ⟨t, rfl⟩ := h1; obtain ⟨t', rfl⟩ := h2; exact ne_str (wpAny_truthy_bool (q _ x2))) hm
theorem Tr.orHit {a b : Expr} {rest : List Expr} {x : Bool} {pos : Pos} (ha : Tr C A env I m led a x) (hb : Tr C A env I m led b true) : Tr C A env I m led (.BoolOp .Or (a :: b :: rest) pos) true :=
  fun s Q E st q => wpAny_isTrue_BoolOp (wpAny_allTrue_Or_cons (ha _ _ _ st fun s1 x1 => by
    cases x with
    | true => exact q _ x1
    | false => exact wpAny_allTrue_Or_cons (hb _ _ _ x1 fun s2 x2 => q _ x2)))
theorem Ev.neg1 {a : Expr} {i : Int} {pos : Pos} (ha : Ev C A env I m led a (IsI i)) : Ev C A env I m led (.UnaryOp .USub a pos) (IsI (-i)) :=
  fun s Q E x q => wpAny_UnaryOp (ha _ _ _ x fun v s1 h1 x1 => by obtain ⟨t, rfl⟩ := h1; exact neg_int (q _ _ ⟨_, rfl⟩ x1.toks))
theorem seq0 {n : Nat} : seqIndex? 0 (n + 1) = some 0 := by
  unfold seqIndex?
  simp

theorem Ev.tag {x : Expr} {a : Addr} {rr : List Value} {st : Str} {t5 : Tok} {kk : Nat} {p pos : Pos} (he : Ev C A env I m led x (Is (.ref a))) (ht : IsTup I.G a (.str st t5 :: rr).toArray)
    (hs : ∀ u, subscripted (.Constant (.int 0) kk p) false (.ref a) (.int 0 u) = operate [.ref a, .int 0 u] (getItem (.ref a) (.int 0 u)) := by intro _; rfl) :
    Ev C A env I m led (.Subscript x (.Constant (.int 0) kk p) pos) (IsS st) :=
  (Ev.tup (j := 0) (k := 0) he .cI ht (by decide) (by decide) seq0 rfl hs).mono fun v h => ⟨_, h⟩
theorem wBool {p q : Prop} [Decidable p] [Decidable q] (h : p ↔ q) : decide p = decide q := by simp [h]

noncomputable def putE (dup st x : Str) (av : Int) (q : List Row × Sc) : List Row × Sc := if (q.2.lookup x).isSome = true then (q.1 ++ [(dup, av, x)], q.2) else (q.1, q.2 ++ [(x, st)])

theorem stored_new {kvs : List (Str × Value)} {x : Str} {v : Value} (h : valueAt kvs x = none) : stored kvs x v = kvs ++ [(x, v)] := by
  unfold stored
  rw [if_neg]
  intro hh
  unfold valueAt at h
  rw [Option.map_eq_none_iff, List.find?_eq_none] at h
  obtain ⟨kv, hk, e⟩ := List.any_eq_true.mp hh
  exact h kv hk e

theorem Ds.iff {x : Expr} {bd el : List Stmt} {pos : Pos} {b : Bool} {Q : Flow → Shared → Prop} (g : Ds C I G m r rows e es fz tl s) (h : ∀ ro eo kvs, Dct C eo kvs → All2 (Ent G) es kvs → Tr C A env (I.on G) m ((r, ro) :: (e, eo) :: (fz ++ tl)) x b)
    (k1 : b = true → ∀ s', Ds C I G m r rows e es fz tl s' → wpAny C.M A (execs bd env) Q E s') (k2 : b = false → ∀ s', Ds C I G m r rows e es fz tl s' → wpAny C.M A (execs el env) Q E s') : wpAny C.M A (exec (.If x bd el pos) env) Q E s := by
  obtain ⟨eo, g, kvs, hd, hall⟩ := g
  exact g.iff (fun ro => h ro eo kvs hd hall) (fun hb s' g => k1 hb s' ⟨eo, g, kvs, hd, hall⟩) (fun hb s' g => k2 hb s' ⟨eo, g, kvs, hd, hall⟩)
theorem Ds.ev {x : Expr} {R : Value → Prop} {Q : Value → Shared → Prop} (g : Ds C I G m r rows e es fz tl s) (h : ∀ ro eo, Ev C A env (I.on G) m ((r, ro) :: (e, eo) :: (fz ++ tl)) x R) (q : ∀ v s', R v → Ds C I G m r rows e es fz tl s' → Q v s') : wpAny C.M A (eval x env) Q E s := by
  obtain ⟨eo, g, hh⟩ := g
  exact g.ev (fun ro => h ro eo) fun v s' hv g => q v s' hv ⟨eo, g, hh⟩
theorem Ds.evV {x : Expr} {w1 : Value} {Q : Value → Shared → Prop} (g : Ds C I G m r rows e es fz tl s) (h : ∀ ro eo, Ev C A env (I.on G) m ((r, ro) :: (e, eo) :: (fz ++ tl)) x (Is w1)) (q : ∀ s', Ds C I G m r rows e es fz tl s' → Q w1 s') : wpAny C.M A (eval x env) Q E s := g.ev h fun v s' h g => by obtain rfl : v = w1 := h; exact q s' g
theorem Ds.evI {x : Expr} {i : Int} {Q : Value → Shared → Prop} (g : Ds C I G m r rows e es fz tl s) (h : ∀ ro eo, Ev C A env (I.on G) m ((r, ro) :: (e, eo) :: (fz ++ tl)) x (IsI i)) (q : ∀ t s', Ds C I G m r rows e es fz tl s' → Q (.int i t) s') : wpAny C.M A (eval x env) Q E s := g.ev h fun v s' h g => by obtain ⟨t, rfl⟩ := h; exact q t s' g
theorem Ds.evS {x : Expr} {i : Str} {Q : Value → Shared → Prop} (g : Ds C I G m r rows e es fz tl s) (h : ∀ ro eo, Ev C A env (I.on G) m ((r, ro) :: (e, eo) :: (fz ++ tl)) x (IsS i)) (q : ∀ t s', Ds C I G m r rows e es fz tl s' → Q (.str i t) s') : wpAny C.M A (eval x env) Q E s := g.ev h fun v s' h g => by obtain ⟨t, rfl⟩ := h; exact q t s' g
theorem Ds.set {y : Str} {x : Expr} {R : Value → Prop} {p pos : Pos} {Q : Flow → Shared → Prop} (g : Ds C I G m r rows e es fz tl s) (h : ∀ ro eo kvs, Dct C eo kvs → All2 (Ent G) es kvs → Ev C A env (I.on G) m ((r, ro) :: (e, eo) :: (fz ++ tl)) x R)
    (q : ∀ v s', R v → Ds C I G (upd m y v) r rows e es fz tl s' → Q .next s') (hE : EOk env I := by exact ⟨rfl, rfl, rfl, rfl⟩) (hl : env.kindOf y = some .local := by rfl)
    (hs : swapsWith x (some (.Name y p)) pos.line env = pure false := by rfl) :
    wpAny C.M A (exec (.Assign [.Name y p] x pos) env) Q E s := by
  obtain ⟨eo, g, kvs, hd, hall⟩ := g
  exact g.set (fun ro => h ro eo kvs hd hall) (fun v s' hv g => q v s' hv ⟨eo, g, kvs, hd, hall⟩) hE hl hs
theorem Ds.pick {y x : Str} {u : Tok} {ss bd : List Stmt} {Q : Flow → Shared → Prop} (g : Ds C I G m r rows e es fz tl s) (hm : m y = some (.str x u)) (P : Pick y x ss bd)
    (q : ∀ s', Ds C I G m r rows e es fz tl s' → wpAny C.M A (execs bd env) Q E s') (hE : EOk env I := by exact ⟨rfl, rfl, rfl, rfl⟩) (hl : env.kindOf y = some .local := by rfl) (hd : (y == ("__debug__" : Str)) = false := by rfl) : wpAny C.M A (execs ss env) Q E s := by
  obtain ⟨eo, g, hh⟩ := g
  exact g.pick hm P (fun s' g => q s' ⟨eo, g, hh⟩) hE hl hd
theorem Ds.setV {y : Str} {x : Expr} {w1 : Value} {p pos : Pos} {Q : Flow → Shared → Prop} (g : Ds C I G m r rows e es fz tl s) (h : ∀ ro eo, Ev C A env (I.on G) m ((r, ro) :: (e, eo) :: (fz ++ tl)) x (Is w1))
    (q : ∀ s', Ds C I G (upd m y w1) r rows e es fz tl s' → Q .next s') (hE : EOk env I := by exact ⟨rfl, rfl, rfl, rfl⟩) (hl : env.kindOf y = some .local := by rfl)
    (hs : swapsWith x (some (.Name y p)) pos.line env = pure false := by rfl) :
    wpAny C.M A (exec (.Assign [.Name y p] x pos) env) Q E s := g.set (fun ro eo _ _ _ => h ro eo) (fun v s' e g => by obtain rfl : v = w1 := e; exact q s' g) hE hl hs
theorem Ds.setS {y : Str} {x : Expr} {i : Str} {p pos : Pos} {Q : Flow → Shared → Prop} (g : Ds C I G m r rows e es fz tl s) (h : ∀ ro eo, Ev C A env (I.on G) m ((r, ro) :: (e, eo) :: (fz ++ tl)) x (IsS i))
    (q : ∀ t s', Ds C I G (upd m y (.str i t)) r rows e es fz tl s' → Q .next s') (hE : EOk env I := by exact ⟨rfl, rfl, rfl, rfl⟩) (hl : env.kindOf y = some .local := by rfl)
    (hs : swapsWith x (some (.Name y p)) pos.line env = pure false := by rfl) :
    wpAny C.M A (exec (.Assign [.Name y p] x pos) env) Q E s := g.set (fun ro eo _ _ _ => h ro eo) (fun v s' e g => by obtain ⟨t, rfl⟩ := e; exact q t s' g) hE hl hs
theorem Ds.tup (g : Ds C I G m r rows e es fz tl s) : TupLe G s.heap := by obtain ⟨eo, g, hh⟩ := g; exact g.tup
theorem Ds.st {Q : Prop} (g : Ds C I G m r rows e es fz tl s) (q : ∀ ro eo, St (I.on G) m ((r, ro) :: (e, eo) :: (fz ++ tl)) s → Rw G rows ro → Es C G es eo → Q) : Q := by
  obtain ⟨eo, ⟨ro, X, w⟩, hh⟩ := g; exact q ro eo X w hh
theorem Ds.newT {vs : List Value} {Q : Value → Shared → Prop} (g : Ds C I G m r rows e es fz tl s) (hz : vs.length ≤ 100000) (q : ∀ a s', Ds C I s'.heap m r rows e es fz tl s' → TupLe G s'.heap → IsTup s'.heap a vs.toArray → Q (.ref a) s') : wpAny C.M A (newTuple vs) Q E s := by
  obtain ⟨eo, ⟨ro, X, w⟩, hh⟩ := g
  refine new_tuple X hz fun a s' X' _ => q a s' ⟨eo, ⟨ro, X'.drop.rebase, w.le X'.tup⟩, hh.le X'.tup⟩ X'.tup (IsTup.of_St X' (.head _))
theorem Ds.pre (g : Ds C I G m r rows e es fz tl s) (S : ∀ G, Stat C (I.on G).H) (nt : Nt fz) : DPre C r rows e es fz s.heap := by
  obtain ⟨eo, g, hh⟩ := g
  obtain ⟨ro, P, w⟩ := g.pre S (fun q hq => by
    rcases List.mem_cons.mp hq with rfl | hq
    · exact hh.not
    · exact nt q hq)
  exact ⟨ro, eo, P, w, hh.le g.tup⟩
theorem Ds.post {rows' : List Row} {es' : Sc} {s' : Shared} (g : Ds C I G m r rows e es fz tl s) (P : DPost C r rows' e es' s s') : Ds C I s'.heap m r rows' e es' fz tl s' ∧ TupLe G s'.heap := by
  obtain ⟨eo, ⟨ro, X, w⟩, hh⟩ := g
  obtain ⟨ro', eo', P, h1, h2, w', hh'⟩ := P
  have X' := St.post (l1 := [(r, ro), (e, eo)]) (l1' := [(r, ro'), (e, eo')]) X P rfl fun q hq => by
    simp only [List.mem_cons, List.not_mem_nil, or_false] at hq
    rcases hq with rfl | rfl
    · exact h1
    · exact h2
  exact ⟨⟨eo', ⟨ro', X'.rebase, w'⟩, hh'⟩, X'.tup⟩
theorem Ds.nt2 {eo : Obj} (hh : Es C G es eo) (nt : Nt fz) : Nt ((e, eo) :: fz) := fun q hq => by
  rcases List.mem_cons.mp hq with rfl | hq
  · exact hh.not
  · exact nt q hq

theorem Ds.put {x st : Str} {tx : Tok} {v : Value} {Q : Unit → Shared → Prop} (g : Ds C I G m r rows e es fz tl s) (hx : (es.lookup x).isSome = false) (hz : es.length ≤ 900) (hv : Ent G (x, st) (x, v))
    (q : ∀ s', Ds C I G m r rows e (es ++ [(x, st)]) fz tl s' → Q () s') : wpAny C.M A (setItem (.ref e) (.str x tx) v) Q E s := by
  obtain ⟨eo, ⟨ro, X, w⟩, kvs, hd, hall⟩ := g
  have hn : valueAt kvs x = none := isNone_of ((ents_has hall x).trans hx)
  refine setDct X.swap hd (by have := hall.length; clear hn; lia) fun eo' s' hd' X' => ?_
  rw [stored_new hn] at hd'
  exact q s' ⟨eo', ⟨ro, X'.swap, w⟩, _, hd', hall.snoc hv⟩

theorem goD {n : Nat} {qual : Str} {st : Stmt} {nm : Str} {ar : Arguments} {bd : List Stmt} {dl : List Expr} {rt : Option Expr} {tp : List TypeParam} {sc : Scope} {ts : Option Scope} {bi : Str} {po : Pos} {vals : List Value} {f : Addr} {Q : Value → Shared → Prop}
    (hst : st = .FunctionDef nm ar bd dl rt tp sc ts bi po) (hA : Am A (n + 1)) (S : Stat C C.B) (hf : FnIn C.K qual f st) (P : DPre C r rows e es fz s.heap)
    (h : ∀ (I : Info) (G : Heap) (s₁ : Shared) (cdv : Value) (A' : Around), Am A' n → (∀ G, Stat C (I.on G).H) → G = s.heap → Nt fz → Ds C I G (par0 ar vals) r rows e es fz [] s₁ →
      (∀ G' m' rows' es' tl s', TupLe G G' → Ds C I G' m' r rows' e es' fz tl s' → DPost C r rows' e es' s s') →
      wpAny C.M A' (execs bd (envOf qual sc I.L f cdv)) (fun fl s' => Q (retOf fl) s') (fun _ _ => False) s₁)
    (hdef : ar.defaults = [] := by rfl) (hbind : ∀ doc pm an cdv ct, bindArgs (fnOf nm qual ar bd sc .none .none doc pm an cdv ct) ⟨vals, []⟩ = pure ((ar.args.map (·.arg)).zip vals) := by intros; rfl)
    (hloc : (((ar.args.map (·.arg)).zip vals).all fun x => decide (sc.names.lookup x.1 = some .local)) = true := by rfl) (hcell : ∀ y ∈ sc.names, y.2 ≠ .cell := by decide)
    (hco : sc.isCoroutine = false := by rfl) (hgen : sc.isGenerator = false := by rfl) (hk : sc.kind = .function := by rfl) :
    wpAny C.M A (call (.ref f) vals) Q E s := by
  obtain ⟨ro, eo, P, w, hh⟩ := P
  refine go hst hA S hf P (fun I s1 cdv A' hA' hH hG hz SI X => ?_) hdef hbind hloc hcell hco hgen hk
  refine h I I.G s1 cdv A' hA' (fun _ => SI) hG (fun q hq => P.nt q (.tail _ (.tail _ hq))) ⟨eo, ⟨ro, by rw [List.append_nil]; exact X, hG ▸ w⟩, hG ▸ hh⟩ fun G' m' rows' es' tl s' hle g => ?_
  obtain ⟨eo', ⟨ro', X', w'⟩, hh'⟩ := g
  have X2 : St (I.on G') m' ([(r, ro'), (e, eo')] ++ fz) s' := X'.sub (by exact ((List.sublist_append_left fz tl).cons_cons _).cons_cons _)
  exact ⟨ro', eo', leaveF (l1 := [(r, ro), (e, eo)]) X2 P hH (hG ▸ hle) hz, X2.get (.head _), X2.get (.tail _ (.head _)), w'.le X2.tup, hh'.le X2.tup⟩

theorem Ds.add {n : Nat} {e1 e2 e3 : Expr} {kd dt : Str} {av : Int} {np ap pos p0 : Pos} {Q : Flow → Shared → Prop} (g : Ds C I G m r rows e es fz tl s) (O : Okk C fa k) (S : ∀ G, Stat C (I.on G).H) (nt : Nt fz) (hA : Am A (n + 1)) (hp : RepIn k fz p r) (hm : m "report" = some (.ref p)) (hz : rows.length ≤ 10000)
    (h1 : ∀ ro eo, Ev C A env (I.on G) m ((r, ro) :: (e, eo) :: (fz ++ tl)) e1 (IsS kd)) (h2 : ∀ ro eo, Ev C A env (I.on G) m ((r, ro) :: (e, eo) :: (fz ++ tl)) e2 (IsI av)) (h3 : ∀ ro eo, Ev C A env (I.on G) m ((r, ro) :: (e, eo) :: (fz ++ tl)) e3 (IsS dt))
    (q : ∀ s', Ds C I s'.heap m r (rows ++ [(kd, av, dt)]) e es fz tl s' → TupLe G s'.heap → Q .next s')
    (hE : EOk env I := by exact ⟨rfl, rfl, rfl, rfl⟩) (hl : env.kindOf "report" = some .local := by rfl)
    (hline : (ap.endLine == pos.line) = true := by rfl) (hs1 : starEach [e1, e2, e3] env = (false, eval e1 env) :: starEach [e2, e3] env := by rfl) (hs2 : starEach [e2, e3] env = (false, eval e2 env) :: starEach [e3] env := by rfl) (hs3 : starEach [e3] env = (false, eval e3 env) :: starEach [] env := by rfl)
    (hp1 : (backTo pos (starEach [e2, e3] env)).any (·.1) = false := by rfl)
    (hfew : ((backTo pos (starEach [e1, e2, e3] env)).all (fun x => !x.1) && (backToKw pos (keywordEach [] env)).all (fun x => x.1.isSome)
      && decide ([e1, e2, e3].length + ([] : List Keyword).length + (if ([] : List Keyword).isEmpty then 0 else 1) < 30)) = true := by rfl)
    (hi : interactive env = false := by rfl) (hsw : swapsWith (.Call (.Attribute (.Name "report" np) "add" ap) [e1, e2, e3] [] pos) none p0.line env = pure false := by rfl) :
    wpAny C.M A (exec (.Expr (.Call (.Attribute (.Name "report" np) "add" ap) [e1, e2, e3] [] pos) p0) env) Q E s := by
  obtain ⟨eo, g, hh⟩ := g
  exact g.add O S (Ds.nt2 hh nt) hA (hp.mono fun q hq => .tail _ hq) hm hz (fun ro => h1 ro eo) (fun ro => h2 ro eo) (fun ro => h3 ro eo) (fun s' g hle => q s' ⟨eo, g, hh.le hle⟩ hle) hE hl hline hs1 hs2 hs3 hp1 hfew hi hsw

theorem putE_yes {dup st x : Str} {av : Int} (h : (es.lookup x).isSome = true) : putE dup st x av (rows, es) = (rows ++ [(dup, av, x)], es) := by unfold putE; rw [if_pos h]
theorem putE_no {dup st x : Str} {av : Int} (h : (es.lookup x).isSome = false) : putE dup st x av (rows, es) = (rows, es ++ [(x, st)]) := by unfold putE; rw [if_neg (by rw [h]; simp)]

theorem add_name_spec {n : Nat} {x what : Str} {av iv : Int} {t1 t2 t3 t4 : Tok} {Q : Value → Shared → Prop} (O : Okk C fa k) (hA : Am A (n + 2)) (P : DPre C r rows e es fz s.heap) (hp : RepIn k fz p r) (ht : TabIn k fz t par e) (hz : rows.length ≤ 10000) (hz2 : es.length ≤ 900)
    (hw : ((["net", "var"] : List Str).any (· == what)) = false) (q : ∀ s', DPost C r (putE "duplicate" what x av (rows, es)).1 e (putE "duplicate" what x av (rows, es)).2 s s' → Q .none s') :
    wpAny C.M A (call (.ref (fa 5)) [.ref p, .ref t, .str x t1, .str what t2, .int av t3, .int iv t4]) Q E s := by
  refine goD (st := stAt 5) rfl hA O.O.S (O.O.fn 5 (by decide)) P fun I G s1 cdv A' hA' SI hG nt g out => ?_
  have hsm := ht
  obtain ⟨_, _, _, _, _, _, _, _, hsm⟩ := hsm
  have hmem : ∀ (ro eo : Obj), ∀ q ∈ fz, q ∈ (r, ro) :: (e, eo) :: (fz ++ []) := fun ro eo q hq => .tail _ (.tail _ (List.mem_append_left _ hq))
  refine last (g.iff (b := (es.lookup x).isSome) (fun ro eo kvs hd hall => ents_has hall x ▸ Tr.inD (.locS rfl) (ht.ent O (SI _) (.loc rfl) (hmem ro eo)) (.tail _ (.head _)) hd hsm) (fun hb s2 g => ?_) fun hb s2 g => ?_)
  · refine last (g.add O SI nt hA' hp rfl hz (fun _ _ => .cS) (fun _ _ => .locI rfl) (fun _ _ => .locS rfl) fun s3 g hle => ?_)
    rw [putE_yes hb] at q
    exact q _ (out _ _ _ _ _ _ hle g)
  · refine last (wpAny_Assign_Subscript (Tuple_ ?_) (by rfl))
    refine spliced_more (g.evV (fun _ _ => .loc rfl) fun s3 g => ?_)
    refine spliced_more (g.evV (fun _ _ => .loc rfl) fun s4 g => ?_)
    refine spliced_more (g.evV (fun _ _ => .loc rfl) fun s5 g => ?_)
    refine spliced_none (g.newT (by simp) fun a s6 g hle hT => ?_)
    refine g.evV (fun ro eo => ht.ent O (SI _) (.loc rfl) (hmem ro eo)) fun s7 g => ?_
    refine g.evV (fun _ _ => .loc rfl) fun s8 g => ?_
    refine g.put (st := what) hb hz2 ⟨rfl, a, _, _, rfl, hT, fun h => by rw [hw] at h; cases h⟩ fun s9 g => ?_
    rw [putE_no hb] at q
    exact q _ (out _ _ _ _ _ _ hle g)

theorem add_label_spec {n : Nat} {x : Str} {av gv : Int} {t1 t3 t4 : Tok} {Q : Value → Shared → Prop} (O : Okk C fa k) (hA : Am A (n + 2)) (P : DPre C r rows e es fz s.heap) (hp : RepIn k fz p r) (ht : TabIn k fz t par e) (hz : rows.length ≤ 10000) (hz2 : es.length ≤ 900)
    (hg : gv < 0) (q : ∀ s', DPost C r (putE "duplicate_label" "block" x av (rows, es)).1 e (putE "duplicate_label" "block" x av (rows, es)).2 s s' → Q .none s') :
    wpAny C.M A (call (.ref (fa 6)) [.ref p, .ref t, .str x t1, .int av t3, .int gv t4]) Q E s := by
  refine goD (st := stAt 6) rfl hA O.O.S (O.O.fn 6 (by decide)) P fun I G s1 cdv A' hA' SI hG nt g out => ?_
  have hsm := ht
  obtain ⟨_, _, _, _, _, _, _, _, hsm⟩ := hsm
  have hmem : ∀ (ro eo : Obj), ∀ q ∈ fz, q ∈ (r, ro) :: (e, eo) :: (fz ++ []) := fun ro eo q hq => .tail _ (.tail _ (List.mem_append_left _ hq))
  refine wpAny_execs_cons (g.iff (b := !(es.lookup x).isSome) (fun ro eo kvs hd hall => ents_has hall x ▸ Tr.notInD (.locS rfl) (ht.ent O (SI _) (.loc rfl) (hmem ro eo)) (.tail _ (.head _)) hd hsm) (fun hb s2 g => ?_) fun hb s2 g => ?_)
  · have hb : (es.lookup x).isSome = false := by simpa using hb
    refine wpAny_execs_cons (wpAny_Assign_Subscript (Tuple_ ?_) (by rfl))
    refine spliced_more (g.ev (fun _ _ => .cS) fun v1 s3 e1 g => ?_)
    refine spliced_more (g.ev (fun _ _ => .loc rfl) fun v2 s4 e2 g => ?_)
    refine spliced_more (g.ev (fun _ _ => .loc rfl) fun v3 s5 e3 g => ?_)
    obtain ⟨u1, rfl⟩ := e1; obtain rfl := e2; obtain rfl := e3
    refine spliced_none (g.newT (by simp) fun a s6 g hle hT => ?_)
    refine g.evV (fun ro eo => ht.ent O (SI _) (.loc rfl) (hmem ro eo)) fun s7 g => ?_
    refine g.evV (fun _ _ => .loc rfl) fun s8 g => ?_
    refine g.put (st := "block") hb hz2 ⟨rfl, a, _, _, rfl, hT, fun h => by cases h⟩ fun s9 g => ?_
    rw [putE_no hb] at q
    exact last (wpAny_Return_none (q _ (out _ _ _ _ _ _ hle g)))
  · have hb : (es.lookup x).isSome = true := by simpa using hb
    obtain ⟨st, hst⟩ := Option.isSome_iff_exists.mp hb
    refine wpAny_execs_nil ?_
    refine wpAny_execs_cons (g.set (R := fun v => ∃ a t rr, v = .ref a ∧ IsTup G a (.str st t :: rr).toArray) (fun ro eo kvs hd hall => ?_) fun v1 s3 e1 g => ?_)
    · have hat := ents_at hall x
      rw [hst] at hat
      obtain ⟨v, hv, _, a, t, rr, e1, e2, _⟩ := hat
      exact (Ev.dct (ht.ent O (SI _) (.loc rfl) (hmem ro eo)) (.locS rfl) (.tail _ (.head _)) hd hv).mono fun u hu => ⟨a, t, rr, hu.trans e1, e2⟩
    · obtain ⟨a, t5, rr, rfl, hT⟩ := e1
      have hb0 := hb
      refine last (g.iff (b := true) (fun ro eo kvs hd hall => ?_) (fun hb s4 g => ?_) fun hb => by cases hb)
      · refine Tr.orHit (x := st != "block") (Tr.neS (Ev.tag (.loc rfl) hT) .cS) ?_
        exact Tr.cast (Tr.ltI (.locI rfl) .cI) (by simpa using hg)
      · refine last (g.add O SI nt hA' hp rfl hz (fun _ _ => .cS) (fun _ _ => .locI rfl) (fun _ _ => .locS rfl) fun s5 g hle => ?_)
        rw [putE_yes hb0] at q
        exact q _ (out _ _ _ _ _ _ hle g)

theorem add_signal_spec {n : Nat} {x what : Str} {av : Int} {t1 t2 t3 : Tok} {b : Value} {Q : Value → Shared → Prop} (O : Okk C fa k) (hA : Am A (n + 2)) (P : DPre C r rows e es fz s.heap) (hp : RepIn k fz p r) (ht : TabIn k fz t par e) (hz : rows.length ≤ 10000) (hz2 : es.length ≤ 900)
    (q : ∀ s', DPost C r (putE "duplicate" what x av (rows, es)).1 e (putE "duplicate" what x av (rows, es)).2 s s' → Q .none s') :
    wpAny C.M A (call (.ref (fa 8)) [.ref p, .ref t, .str x t1, .str what t2, .int av t3, b]) Q E s := by
  refine goD (st := stAt 8) rfl hA O.O.S (O.O.fn 8 (by decide)) P fun I G s1 cdv A' hA' SI hG nt g out => ?_
  have hsm := ht
  obtain ⟨_, _, _, _, _, _, _, _, hsm⟩ := hsm
  have hmem : ∀ (ro eo : Obj), ∀ q ∈ fz, q ∈ (r, ro) :: (e, eo) :: (fz ++ []) := fun ro eo q hq => .tail _ (.tail _ (List.mem_append_left _ hq))
  refine wpAny_execs_cons (g.iff (b := !(es.lookup x).isSome) (fun ro eo kvs hd hall => ents_has hall x ▸ Tr.notInD (.locS rfl) (ht.ent O (SI _) (.loc rfl) (hmem ro eo)) (.tail _ (.head _)) hd hsm) (fun hb s2 g => ?_) fun hb s2 g => ?_)
  · have hb : (es.lookup x).isSome = false := by simpa using hb
    refine wpAny_execs_cons (wpAny_Assign_Subscript (Tuple_ ?_) (by rfl))
    refine spliced_more (g.evV (fun _ _ => .loc rfl) fun s3 g => ?_)
    refine spliced_more (g.evV (fun _ _ => .loc rfl) fun s4 g => ?_)
    refine spliced_more (Tuple_ (spliced_more (g.ev (fun _ _ => .cS) fun v3 s5 e3 g => spliced_more (g.ev (fun _ _ => .cB) fun v6 s5 e6 g => spliced_more (g.evV (fun _ _ => .cB) fun s5 g => ?_)))))
    refine spliced_none (g.newT (by simp) fun a0 s6 g hle0 hT0 => ?_)
    refine spliced_none (g.newT (by simp) fun a s6 g hle hT => ?_)
    refine g.evV (fun ro eo => ht.ent O (SI _) (.loc rfl) (hmem ro eo)) fun s7 g => ?_
    refine g.evV (fun _ _ => .loc rfl) fun s8 g => ?_
    refine g.put (st := what) hb hz2 ⟨rfl, a, _, _, rfl, hT, fun h => ⟨_, _, _, _, rfl, hle.tup hT0⟩⟩ fun s9 g => ?_
    rw [putE_no hb] at q
    exact last (wpAny_Return_none (q _ (out _ _ _ _ _ _ (hle0.trans hle) g)))
  · have hb : (es.lookup x).isSome = true := by simpa using hb
    obtain ⟨st, hst⟩ := Option.isSome_iff_exists.mp hb
    refine wpAny_execs_nil ?_
    refine wpAny_execs_cons (g.set (R := fun v => ∃ a t rr, v = .ref a ∧ IsTup G a (.str st t :: rr).toArray ∧ (((["net", "var"] : List Str).any (· == st)) = true → ∃ z b x y, rr = [z, .ref b] ∧ IsTup G b [x, y, .bool true].toArray)) (fun ro eo kvs hd hall => ?_) fun v1 s3 e1 g => ?_)
    · have hat := ents_at hall x
      rw [hst] at hat
      obtain ⟨v, hv, _, a, t, rr, e1, e2, e3⟩ := hat
      exact (Ev.dct (ht.ent O (SI _) (.loc rfl) (hmem ro eo)) (.locS rfl) (.tail _ (.head _)) hd hv).mono fun u hu => ⟨a, t, rr, hu.trans e1, e2, e3⟩
    · obtain ⟨a, t5, rr, rfl, hT, hT2⟩ := e1
      refine wpAny_execs_cons (g.iff (b := true) (fun ro eo kvs hd hall => ?_) (fun hb2 s4 g => ?_) fun hb => by cases hb)
      · refine Tr.cast (b := (!((["net", "var"] : List Str).any (· == st))) || true) (Tr.or2' ?_ fun hx => ?_) (by simp)
        · exact Tr.notInS (Ev.tag (.loc rfl) hT)
        obtain ⟨z, b2, x2, y2, rfl, hB⟩ := hT2 (by simpa only [Bool.not_eq_false'] using hx)
        exact Tr.ofB (Ev.tup (Ev.tup (.loc rfl) .cI hT) .cI hB)
      · refine wpAny_execs_cons (g.add O SI nt hA' hp rfl hz (fun _ _ => .cS) (fun _ _ => .locI rfl) (fun _ _ => .locS rfl) fun s5 g hle => ?_)
        rw [putE_yes hb] at q
        exact last (wpAny_Return_none (q _ (out _ _ _ _ _ _ hle g)))
end
end Mine
end

noncomputable section
open PySem PySem.W PyProof.Rows PySem.Calls PySem.Spec
set_option maxRecDepth 100000
set_option maxHeartbeats 4000000
namespace Mine
local macro_rules | `(tactic| walk_at "tst") => `(tactic| first | exact .eq (by decide) | exact .or (.eq rfl) (.eq rfl) (by decide) | exact .mem (by repeat constructor) (by decide) (by decide))
local macro_rules | `(tactic| walk_at "pick") => `(tactic| ((repeat (apply Pick.miss; focus (walk_at "tst"))); first | (apply Pick.hit; focus (walk_at "tst")) | exact Pick.all))

noncomputable def dup (d : D) : Str := if d.isVar = true then "var" else "event"
noncomputable def declAll (ds : List D) (q : List Row × Sc) : List Row × Sc := ds.foldl (fun q d => putE "duplicate" (dup d) d.x d.m q) q
noncomputable def runLabs (ls : List (Str × Int)) (q : List Row × Sc) : List Row × Sc := ls.foldl (fun q l => putE "duplicate_label" "block" l.1 l.2 q) q
mutual
noncomputable def labs : T → List (Str × Int)
  | .non | .dis .. | .trg .. | .pth .. => []
  | .blk _ m lab ds ts => match lab with
    | some x => [(x, m)]
    | none => if ds = [] then labsL ts else []
  | .cho _ a b | .cas _ a b => labs a ++ labs b
  | .one _ _ a | .fev _ a | .awt _ a | .lop _ a => labs a
noncomputable def labsL : List T → List (Str × Int)
  | [] => []
  | t :: ts => labs t ++ labsL ts
end
noncomputable def tim (b : Bool) (m : Int) : List Row := if b = true then [("timing_in_function", m, "")] else []
noncomputable def okD : Option Str → Bool
  | none => false
  | some st => st == "block" || st == "task"
noncomputable def disR (o : Option Str) (m : Int) (x : Str) : List Row := if okD o = true then [] else [("disable_unknown", m, x)]
noncomputable def trgR (o : Option Str) (m : Int) (x : Str) : List Row := match o with
  | none => [("undeclared", m, x)]
  | some st => if (st == "event") = true then [] else [("bad_event", m, x)]
noncomputable def K1.waits : K1 → Bool
  | .delay | .wait => true
  | _ => false
mutual
noncomputable def chk (w : Bool) : T → List Sc → List Row
  | .non, _ | .pth .., _ => []
  | .dis m m2 x, ch => disR (findS ch x) m2 x
  | .trg m m2 x, ch => trgR (findS ch x) m2 x
  | .blk fk m lab ds ts, ch => tim (!w && fk) m ++
      (if (lab.isSome || !ds.isEmpty) = true then (runLabs (labsL ts) (declAll ds ([], []))).1 ++ chks w ts ((runLabs (labsL ts) (declAll ds ([], []))).2 :: ch) else chks w ts ch)
  | .cho _ a b, ch | .cas _ a b, ch => chk w a ch ++ chk w b ch
  | .one kk m a, ch => tim (!w && kk.waits) m ++ chk w a ch
  | .fev _ a, ch | .lop _ a, ch => chk w a ch
  | .awt m a, ch => tim (!w) m ++ chk w a ch
noncomputable def chks (w : Bool) : List T → List Sc → List Row
  | [], _ => []
  | t :: ts, ch => chk w t ch ++ chks w ts ch
end

theorem putE_fst (dup st x : Str) (av : Int) (r0 : List Row) (q : List Row × Sc) : putE dup st x av (r0 ++ q.1, q.2) = (r0 ++ (putE dup st x av q).1, (putE dup st x av q).2) := by
  unfold putE
  dsimp only
  split <;> simp
theorem runLabs_fst (ls : List (Str × Int)) : ∀ (r0 : List Row) (q : List Row × Sc), runLabs ls (r0 ++ q.1, q.2) = (r0 ++ (runLabs ls q).1, (runLabs ls q).2) := by
  induction ls with
  | nil => intro r0 q; rfl
  | cons l ls ih =>
    intro r0 q
    unfold runLabs
    rw [List.foldl_cons, List.foldl_cons, putE_fst]
    exact ih _ _
theorem declAll_fst (ls : List D) : ∀ (r0 : List Row) (q : List Row × Sc), declAll ls (r0 ++ q.1, q.2) = (r0 ++ (declAll ls q).1, (declAll ls q).2) := by
  induction ls with
  | nil => intro r0 q; rfl
  | cons l ls ih =>
    intro r0 q
    unfold declAll
    rw [List.foldl_cons, List.foldl_cons, putE_fst]
    exact ih _ _
theorem runLabs_app (a b : List (Str × Int)) (q : List Row × Sc) : runLabs (a ++ b) q = runLabs b (runLabs a q) := List.foldl_append ..
theorem putE_len (dup st x : Str) (av : Int) (q : List Row × Sc) : (putE dup st x av q).1.length + (putE dup st x av q).2.length = q.1.length + q.2.length + 1 ∧ q.1.length ≤ (putE dup st x av q).1.length ∧ q.2.length ≤ (putE dup st x av q).2.length := by
  unfold putE
  split
  · refine ⟨?_, ?_, Nat.le_refl _⟩ <;> simp <;> lia
  · refine ⟨?_, Nat.le_refl _, ?_⟩ <;> simp <;> lia
theorem runLabs_len (ls : List (Str × Int)) : ∀ (q : List Row × Sc), (runLabs ls q).1.length + (runLabs ls q).2.length = q.1.length + q.2.length + ls.length ∧ q.1.length ≤ (runLabs ls q).1.length ∧ q.2.length ≤ (runLabs ls q).2.length := by
  induction ls with
  | nil => intro q; exact ⟨rfl, Nat.le_refl _, Nat.le_refl _⟩
  | cons l ls ih =>
    intro q
    have h1 := putE_len "duplicate_label" "block" l.1 l.2 q
    have h2 := ih (putE "duplicate_label" "block" l.1 l.2 q)
    unfold runLabs at h2 ⊢
    rw [List.foldl_cons, List.length_cons]
    lia
theorem declAll_len (ls : List D) : ∀ (q : List Row × Sc), (declAll ls q).1.length + (declAll ls q).2.length = q.1.length + q.2.length + ls.length ∧ q.1.length ≤ (declAll ls q).1.length ∧ q.2.length ≤ (declAll ls q).2.length := by
  induction ls with
  | nil => intro q; exact ⟨rfl, Nat.le_refl _, Nat.le_refl _⟩
  | cons l ls ih =>
    intro q
    have h1 := putE_len "duplicate" (dup l) l.x l.m q
    have h2 := ih (putE "duplicate" (dup l) l.x l.m q)
    unfold declAll at h2 ⊢
    rw [List.foldl_cons, List.length_cons]
    lia

section
variable {C : Cx} {A : Around} {E : Value → Shared → Prop} {s : Shared} {I : Info} {G : Heap} {m : Str → Option Value} {env : Env} {fa : Nat → Addr} {k : Kl} {r e p t : Addr} {par : Value} {rows : List Row} {es : Sc} {fz tl led : List (Addr × Obj)}

theorem Rs.callX {fn qual : Str} {g : Addr} {st : Stmt} {p pos : Pos} {x : Expr} {rest : List Expr} {Q : Value → Shared → Prop} (gg : Rs C I G m r rows fz tl s) (S : ∀ G, Stat C (I.on G).H) (hn : nsIn C.K mainGlobals fn = some (some (.ref g))) (hf : FnIn C.K qual g st)
    (q : ∀ s', Rs C I G m r rows fz tl s' → wpAny C.M A (spliced (backTo pos (starEach (x :: rest) env))) (fun vs s'' => (∃ G' m' rows' fz' tl', Rs C I G' m' r rows' fz' tl' s'') ∧ wpAny C.M A (call (.ref g) vs) Q E s'') E s')
    (hE : EOk env I := by exact ⟨rfl, rfl, rfl, rfl⟩) (hl : env.kindOf fn = some .globalImplicit := by rfl) (hd : (fn == ("__debug__" : Str)) = false := by rfl)
    (he : starEach (x :: rest) env = (false, eval x env) :: starEach rest env := by rfl) (hp : (backTo pos (starEach rest env)).any (·.1) = false := by rfl)
    (hc : eval (.Call (.Name fn p) (x :: rest) [] pos) env = (do callWith pos (← eval (.Name fn p) env) [] (backTo pos (starEach (x :: rest) env)) (backToKw pos (keywordEach [] env))) := by rfl) :
    wpAny C.M A (eval (.Call (.Name fn p) (x :: rest) [] pos) env) Q E s := by
  obtain ⟨ro, X, w⟩ := gg
  refine ev_callX (S G) hn hf X (fun s' X' => ?_) ⟨hE.hk, hE.hL, hE.hg, hE.hb⟩ hl hd he hp hc
  refine wpAny_mono (q s' ⟨ro, X', w⟩) (fun vs s'' h => ?_) fun _ _ z => z
  obtain ⟨⟨G', m', rows', fz', tl', ro', X'', _⟩, h2⟩ := h
  exact ⟨(X''.stat (S G')).X, h2⟩
theorem Ds.callX {fn qual : Str} {g : Addr} {st : Stmt} {p pos : Pos} {x : Expr} {rest : List Expr} {Q : Value → Shared → Prop} (gg : Ds C I G m r rows e es fz tl s) (S : ∀ G, Stat C (I.on G).H) (hn : nsIn C.K mainGlobals fn = some (some (.ref g))) (hf : FnIn C.K qual g st)
    (q : ∀ s', Ds C I G m r rows e es fz tl s' → wpAny C.M A (spliced (backTo pos (starEach (x :: rest) env))) (fun vs s'' => (∃ G' m' rows' e' es' fz' tl', Ds C I G' m' r rows' e' es' fz' tl' s'') ∧ wpAny C.M A (call (.ref g) vs) Q E s'') E s')
    (hE : EOk env I := by exact ⟨rfl, rfl, rfl, rfl⟩) (hl : env.kindOf fn = some .globalImplicit := by rfl) (hd : (fn == ("__debug__" : Str)) = false := by rfl)
    (he : starEach (x :: rest) env = (false, eval x env) :: starEach rest env := by rfl) (hp : (backTo pos (starEach rest env)).any (·.1) = false := by rfl)
    (hc : eval (.Call (.Name fn p) (x :: rest) [] pos) env = (do callWith pos (← eval (.Name fn p) env) [] (backTo pos (starEach (x :: rest) env)) (backToKw pos (keywordEach [] env))) := by rfl) :
    wpAny C.M A (eval (.Call (.Name fn p) (x :: rest) [] pos) env) Q E s := by
  obtain ⟨eo, gg, hh⟩ := gg
  refine gg.callX S hn hf (fun s' g' => ?_) hE hl hd he hp hc
  refine wpAny_mono (q s' ⟨eo, g', hh⟩) (fun vs s'' h => ?_) fun _ _ z => z
  obtain ⟨⟨G', m', rows', e', es', fz', tl', eo', g'', _⟩, h2⟩ := h
  exact ⟨⟨G', m', rows', _, tl', g''⟩, h2⟩

theorem Rs.callV {fn qual : Str} {g : Addr} {st : Stmt} {p pos p0 : Pos} {x : Expr} {rest : List Expr} {F : (Nat → Tok) → List Value} {Q : Flow → Shared → Prop} (gg : Rs C I G m r rows fz tl s) (S : ∀ G, Stat C (I.on G).H) (hn : nsIn C.K mainGlobals fn = some (some (.ref g))) (hf : FnIn C.K qual g st)
    (ha : ∀ ro, EvF C A env (I.on G) m ((r, ro) :: (fz ++ tl)) pos (x :: rest) F)
    (q : ∀ τ s', Rs C I G m r rows fz tl s' → wpAny C.M A (call (.ref g) (F τ)) (fun _ s' => Q .next s') E s')
    (hE : EOk env I := by exact ⟨rfl, rfl, rfl, rfl⟩) (hl : env.kindOf fn = some .globalImplicit := by rfl) (hd : (fn == ("__debug__" : Str)) = false := by rfl)
    (he : starEach (x :: rest) env = (false, eval x env) :: starEach rest env := by rfl) (hp : (backTo pos (starEach rest env)).any (·.1) = false := by rfl)
    (hc : eval (.Call (.Name fn p) (x :: rest) [] pos) env = (do callWith pos (← eval (.Name fn p) env) [] (backTo pos (starEach (x :: rest) env)) (backToKw pos (keywordEach [] env))) := by rfl)
    (hi : interactive env = false := by rfl) (hsw : swapsWith (.Call (.Name fn p) (x :: rest) [] pos) none p0.line env = pure false := by rfl) :
    wpAny C.M A (exec (.Expr (.Call (.Name fn p) (x :: rest) [] pos) p0) env) Q E s := by
  obtain ⟨ro, X, w⟩ := gg
  refine wpAny_Expr_any (ev_callX (S G) hn hf X (fun s' X' => ha ro _ _ _ X' fun l s'' e X'' => ?_) ⟨hE.hk, hE.hL, hE.hg, hE.hb⟩ hl hd he hp hc) hi hsw
  obtain ⟨τ, rfl⟩ := e
  exact ⟨(X''.stat (S G)).X, q τ s'' ⟨ro, X'', w⟩⟩
theorem Ds.callV {fn qual : Str} {g : Addr} {st : Stmt} {p pos p0 : Pos} {x : Expr} {rest : List Expr} {F : (Nat → Tok) → List Value} {Q : Flow → Shared → Prop} (gg : Ds C I G m r rows e es fz tl s) (S : ∀ G, Stat C (I.on G).H) (hn : nsIn C.K mainGlobals fn = some (some (.ref g))) (hf : FnIn C.K qual g st)
    (ha : ∀ ro eo, EvF C A env (I.on G) m ((r, ro) :: (e, eo) :: (fz ++ tl)) pos (x :: rest) F)
    (q : ∀ τ s', Ds C I G m r rows e es fz tl s' → wpAny C.M A (call (.ref g) (F τ)) (fun _ s' => Q .next s') E s')
    (hE : EOk env I := by exact ⟨rfl, rfl, rfl, rfl⟩) (hl : env.kindOf fn = some .globalImplicit := by rfl) (hd : (fn == ("__debug__" : Str)) = false := by rfl)
    (he : starEach (x :: rest) env = (false, eval x env) :: starEach rest env := by rfl) (hp : (backTo pos (starEach rest env)).any (·.1) = false := by rfl)
    (hc : eval (.Call (.Name fn p) (x :: rest) [] pos) env = (do callWith pos (← eval (.Name fn p) env) [] (backTo pos (starEach (x :: rest) env)) (backToKw pos (keywordEach [] env))) := by rfl)
    (hi : interactive env = false := by rfl) (hsw : swapsWith (.Call (.Name fn p) (x :: rest) [] pos) none p0.line env = pure false := by rfl) :
    wpAny C.M A (exec (.Expr (.Call (.Name fn p) (x :: rest) [] pos) p0) env) Q E s := by
  obtain ⟨eo, gg, hh⟩ := gg
  exact gg.callV S hn hf (fun ro => ha ro eo) (fun τ s' g => q τ s' ⟨eo, g, hh⟩) hE hl hd he hp hc hi hsw
theorem Rs.forT {target x : Expr} {body : List Stmt} {pos : Pos} {t : Addr} {vs : List Value} {Q : Flow → Shared → Prop} (f : Nat → List Row) (g : Rs C I G m r (f 0) fz tl s) (hh : A.handled = none) (ht : IsTup G t vs.toArray) (hx : ∀ ro, Ev C A env (I.on G) m ((r, ro) :: (fz ++ tl)) x (Is (.ref t)))
    (kp : Nat → (Str → Option Value) → Prop) (hm : kp 0 m)
    (turn : ∀ (i : Nat) (G' : Heap) (m' : Str → Option Value) (s : Shared) (v : Value) (q : Addr × Obj) (E : Value → Shared → Prop), vs[i]? = some v → TupLe G G' → kp i m' → Rs C I G' m' r (f i) fz (q :: tl) s →
      wpAny C.M A (assign target env v) (fun _ s2 => wpAny C.M A (execs body env) (fun fl s3 => (fl = .next ∨ fl = .cont) ∧ ∃ G'' m'', TupLe G' G'' ∧ kp (i + 1) m'' ∧ Rs C I G'' m'' r (f (i + 1)) fz (q :: tl) s3) E s2) E s)
    (done : ∀ G' m' s', TupLe G G' → kp vs.length m' → Rs C I G' m' r (f vs.length) fz tl s' → Q .next s') (hs : ∀ v, foldedSetIterable x env v = pure v := by intro _; rfl) :
    wpAny C.M A (exec (.For target x body [] pos) env) Q E s := by
  obtain ⟨ro, X, w⟩ := g
  refine wpAny_For ?_ hs
  refine Ev.use (hx ro) X fun v s1 e1 X => ?_
  obtain rfl : v = .ref t := e1
  refine iter_tuple X ht fun it io s2 hio X => ?_
  refine for_loop (Itr.tuple (vs := vs) hh) (fun i G' m led => ∃ ro, led = (r, ro) :: (fz ++ tl) ∧ Rw G' (f i) ro ∧ kp i m ∧ TupLe G G') (fun i G' m led h => ?_) X hio ⟨ro, rfl, w, hm, TupLe.refl _⟩ ?_ ?_
  · obtain ⟨_, _, _, _, h⟩ := h
    exact h.tup ht
  · rintro i G' m' led o v s3 E' hi hv ⟨ro, rfl, w, hk, hle⟩ hle2 X
    refine wpAny_mono (turn i G' m' s3 v (it, o) E' hv hle hk ⟨ro, X.perm ((List.Perm.swap _ _ _).trans (.cons _ List.perm_middle.symm)), w⟩) (fun _ s4 h => wpAny_mono h (fun fl s5 h => ?_) fun _ _ z => z) fun _ _ z => z
    obtain ⟨hfl, G'', m'', hle3, hk, ro', X, w⟩ := h
    exact ⟨hfl, G'', m'', _, ⟨ro', rfl, w, hk, hle.trans hle3⟩, hle2.trans hle3, X.perm ((List.Perm.cons _ List.perm_middle).trans (.swap _ _ _))⟩
  · rintro G' m' led s3 ⟨ro, rfl, w, hk, hle⟩ hle2 X
    exact done G' m' s3 hle hk ⟨ro, X, w⟩
theorem Ds.forT {target x : Expr} {body : List Stmt} {pos : Pos} {t : Addr} {vs : List Value} {Q : Flow → Shared → Prop} (f : Nat → List Row × Sc) (g : Ds C I G m r (f 0).1 e (f 0).2 fz tl s) (hh : A.handled = none) (ht : IsTup G t vs.toArray) (hx : ∀ ro eo, Ev C A env (I.on G) m ((r, ro) :: (e, eo) :: (fz ++ tl)) x (Is (.ref t)))
    (kp : (Str → Option Value) → Prop) (hm : kp m)
    (turn : ∀ (i : Nat) (G' : Heap) (m' : Str → Option Value) (s : Shared) (v : Value) (q : Addr × Obj) (E : Value → Shared → Prop), vs[i]? = some v → TupLe G G' → kp m' → Ds C I G' m' r (f i).1 e (f i).2 fz (q :: tl) s →
      wpAny C.M A (assign target env v) (fun _ s2 => wpAny C.M A (execs body env) (fun fl s3 => (fl = .next ∨ fl = .cont) ∧ ∃ G'' m'', TupLe G' G'' ∧ kp m'' ∧ Ds C I G'' m'' r (f (i + 1)).1 e (f (i + 1)).2 fz (q :: tl) s3) E s2) E s)
    (done : ∀ G' m' s', TupLe G G' → kp m' → Ds C I G' m' r (f vs.length).1 e (f vs.length).2 fz tl s' → Q .next s') (hs : ∀ v, foldedSetIterable x env v = pure v := by intro _; rfl) :
    wpAny C.M A (exec (.For target x body [] pos) env) Q E s := by
  obtain ⟨eo, ⟨ro, X, w⟩, hes⟩ := g
  refine wpAny_For ?_ hs
  refine Ev.use (hx ro eo) X fun v s1 e1 X => ?_
  obtain rfl : v = .ref t := e1
  refine iter_tuple X ht fun it io s2 hio X => ?_
  refine for_loop (Itr.tuple (vs := vs) hh) (fun i G' m led => ∃ ro eo, led = (r, ro) :: (e, eo) :: (fz ++ tl) ∧ Rw G' (f i).1 ro ∧ Es C G' (f i).2 eo ∧ kp m ∧ TupLe G G') (fun i G' m led h => ?_) X hio ⟨ro, eo, rfl, w, hes, hm, TupLe.refl _⟩ ?_ ?_
  · obtain ⟨_, _, _, _, _, _, h⟩ := h
    exact h.tup ht
  · rintro i G' m' led o v s3 E' hi hv ⟨ro, eo, rfl, w, hes, hk, hle⟩ hle2 X
    refine wpAny_mono (turn i G' m' s3 v (it, o) E' hv hle hk ⟨eo, ⟨ro, X.perm ((List.Perm.swap _ _ _).trans (.cons _ ((List.Perm.swap _ _ _).trans (.cons _ List.perm_middle.symm)))), w⟩, hes⟩) (fun _ s4 h => wpAny_mono h (fun fl s5 h => ?_) fun _ _ z => z) fun _ _ z => z
    obtain ⟨hfl, G'', m'', hle3, hk, eo', ⟨ro', X, w⟩, hes⟩ := h
    exact ⟨hfl, G'', m'', _, ⟨ro', eo', rfl, w, hes, hk, hle.trans hle3⟩, hle2.trans hle3, X.perm ((List.Perm.cons _ ((List.Perm.cons _ List.perm_middle).trans (.swap _ _ _))).trans (.swap _ _ _))⟩
  · rintro G' m' led s3 ⟨ro, eo, rfl, w, hes, hk, hle⟩ hle2 X
    exact done G' m' s3 hle hk ⟨eo, ⟨ro, X, w⟩, hes⟩

theorem declare_item_spec {n : Nat} {d : D} {v : Value} {Q : Value → Shared → Prop} (O : Okk C fa k) (hA : Am A (n + 3)) (P : DPre C r rows e es fz s.heap) (hp : RepIn k fz p r) (ht : TabIn k fz t par e) (hz : rows.length ≤ 10000) (hz2 : es.length ≤ 900) (hd : Dc s.heap d v)
    (q : ∀ s', DPost C r (putE "duplicate" (dup d) d.x d.m (rows, es)).1 e (putE "duplicate" (dup d) d.x d.m (rows, es)).2 s s' → Q .none s') :
    wpAny C.M A (call (.ref (fa 9)) [.ref p, .ref t, v, .bool true]) Q E s := by
  refine goD (st := stAt 9) rfl hA O.O.S (O.O.fn 9 (by decide)) P fun I G s1 cdv A' hA' SI hG nt g out => ?_
  rw [← hG] at hd
  obtain ⟨a, rfl, hd⟩ := hd
  rcases hd with ⟨hv, t1, t2, t3, t4, b, hT, hT2⟩ | ⟨hv, t1, t2, t3, hT⟩
  · refine wpAny_execs_cons (g.setV (fun ro eo => .tup (.loc rfl) .cI hT) fun s2 g => ?_)
    refine wpAny_execs_cons (g.setV (fun ro eo => .tup (.loc rfl) .cI hT) fun s2 g => ?_)
    refine g.pick (y := "tag") (x := "var") rfl (by walk_at "pick") fun s3 g => ?_
    refine last (g.callV SI (O.O.nm 8 (by decide)) (O.O.fn 8 (by decide)) (fun _ _ => .v (.loc rfl) (.v (.loc rfl) (.v (.tup (.loc rfl) .cI hT) (.z .cS (.v (.loc rfl) (.v (.loc rfl) .nil)))))) fun τ s4 g => ?_)
    refine add_signal_spec O hA' (g.pre SI nt) hp ht hz hz2 fun s6 P => ?_
    have hdup : dup d = "var" := by unfold dup; rw [hv]; rfl
    rw [hdup] at q
    exact q _ (out _ _ _ _ _ _ (g.post P).2 (g.post P).1)
  · refine wpAny_execs_cons (g.setV (fun ro eo => .tup (.loc rfl) .cI hT) fun s2 g => ?_)
    refine wpAny_execs_cons (g.setV (fun ro eo => .tup (.loc rfl) .cI hT) fun s2 g => ?_)
    refine g.pick (y := "tag") (x := "event") rfl (by walk_at "pick") fun s3 g => ?_
    refine last (g.callV SI (O.O.nm 5 (by decide)) (O.O.fn 5 (by decide)) (fun _ _ => .v (.loc rfl) (.v (.loc rfl) (.v (.tup (.loc rfl) .cI hT) (.z .cS (.v (.loc rfl) (.i (.neg1 .cI) .nil)))))) fun τ s4 g => ?_)
    refine add_name_spec O hA' (g.pre SI nt) hp ht hz hz2 (by decide) fun s6 P => ?_
    have hdup : dup d = "event" := by unfold dup; rw [hv]; rfl
    rw [hdup] at q
    exact q _ (out _ _ _ _ _ _ (g.post P).2 (g.post P).1)
end
end Mine
end

noncomputable section
open PySem PySem.W PyProof.Rows PySem.Calls PySem.Spec
set_option maxRecDepth 100000
set_option maxHeartbeats 4000000
namespace Mine
noncomputable def T.tag : T → Str
  | .non => ""
  | .dis .. => "disable"
  | .trg .. => "trigger"
  | .pth d _ => if d = true then "disable" else "trigger"
  | .blk fk .. => if fk = true then "fork" else "block"
  | .cho .. => "if"
  | .cas .. => "case"
  | .one k .. => k.tag
  | .fev .. => "forever"
  | .awt .. => "await"
  | .lop .. => "for"
noncomputable def T.mk : T → Int
  | .non => 0
  | .dis m .. | .trg m .. | .pth _ m | .blk _ m .. | .cho m .. | .cas m .. | .one _ m _ | .fev m _ | .awt m _ | .lop m _ => m
theorem tree_view {h : Heap} {tr : T} {v : Value} (hv : Tree h tr v) (hn : tr ≠ .non) : ∃ a t1 t2 rest, v = .ref a ∧ IsTup h a (.str tr.tag t1 :: .int tr.mk t2 :: rest).toArray := by
  cases tr with
  | non => exact absurd rfl hn
  | dis => obtain ⟨a, t1, t2, nn, e1, e2, _⟩ := hv; exact ⟨_, _, _, _, e1, e2⟩
  | trg => obtain ⟨a, t1, t2, nn, e1, e2, _⟩ := hv; exact ⟨_, _, _, _, e1, e2⟩
  | pth d m => obtain ⟨a, t1, t2, nn, e1, e2, _⟩ := hv; exact ⟨_, _, _, _, e1, e2⟩
  | blk fk => obtain ⟨a, t1, t2, lv, da, dvs, ta, tvs, e1, e2, _⟩ := hv; exact ⟨_, _, _, _, e1, e2⟩
  | cho => obtain ⟨p, t1, t2, o, va, vb, e1, e2, _⟩ := hv; exact ⟨_, _, _, _, e1, e2⟩
  | cas => obtain ⟨p, t1, t2, z, o, c, p1, p2, l, lo, va, vb, e1, e2, _⟩ := hv; exact ⟨_, _, _, _, e1, e2⟩
  | one => obtain ⟨p, t1, t2, o, va, e1, e2, _⟩ := hv; exact ⟨_, _, _, _, e1, e2⟩
  | fev => obtain ⟨p, t1, t2, va, e1, e2, _⟩ := hv; exact ⟨_, _, _, _, e1, e2⟩
  | awt => obtain ⟨p, t1, t2, t3, ev, va, e1, e2, _⟩ := hv; exact ⟨_, _, _, _, e1, e2⟩
  | lop => obtain ⟨p, t1, t2, l1, o, l2, va, e1, e2, _⟩ := hv; exact ⟨_, _, _, _, e1, e2⟩
noncomputable def T.leaf : T → Bool
  | .non | .dis .. | .trg .. | .pth .. => true
  | _ => false
theorem leaf_tag {tr : T} (hn : tr ≠ .non) (h : tr.leaf = true) : tr.tag = "disable" ∨ tr.tag = "trigger" := by
  cases tr with
  | non => exact absurd rfl hn
  | dis => exact .inl rfl
  | trg => exact .inr rfl
  | pth d m =>
    cases d
    · exact .inr rfl
    · exact .inl rfl
  | _ => exact nomatch h
theorem leaf_labs {tr : T} (h : tr.leaf = true) : labs tr = [] := by cases tr <;> first | rfl | exact nomatch h
theorem ok_succ {tr : T} {d : Nat} (h : tr.ok d) (hl : ¬ tr.leaf = true) : ∃ c, d = c + 1 := by
  cases d with
  | zero => exfalso; cases tr <;> first | exact hl rfl | exact h
  | succ c => exact ⟨c, rfl⟩

section
variable {C : Cx} {A : Around} {E : Value → Shared → Prop} {s : Shared} {I : Info} {G : Heap} {m : Str → Option Value} {env : Env} {fa : Nat → Addr} {k : Kl} {r e p t : Addr} {par : Value} {rows : List Row} {es : Sc} {fz tl led : List (Addr × Obj)}

noncomputable def DLSpec (C : Cx) (fa : Nat → Addr) (k : Kl) (d : Nat) : Prop := ∀ {A : Around} {E : Value → Shared → Prop} {s : Shared} {n : Nat} {r e p t : Addr} {par : Value} {rows : List Row} {es : Sc} {fz : List (Addr × Obj)} {tr : T} {v : Value} {Q : Value → Shared → Prop},
  tr.ok d → Am A (n + d + 3) → DPre C r rows e es fz s.heap → RepIn k fz p r → TabIn k fz t par e → rows.length + es.length + (labs tr).length ≤ 900 → Tree s.heap tr v →
  (∀ s', DPost C r (runLabs (labs tr) (rows, es)).1 e (runLabs (labs tr) (rows, es)).2 s s' → Q .none s') → wpAny C.M A (call (.ref (fa 20)) [.ref p, .ref t, v]) Q E s

theorem Ds.lab {d n : Nat} {x : Expr} {tr : T} {v : Value} {p1 p2 p3 p4 p5 : Pos} {Q : Flow → Shared → Prop} (g : Ds C I G m r rows e es fz tl s) (ih : DLSpec C fa k d) (O : Okk C fa k) (SI : ∀ G, Stat C (I.on G).H) (nt : Nt fz) (hA : Am A (n + d + 3)) (hp : RepIn k fz p r) (ht : TabIn k fz t par e)
    (hm : m "report" = some (.ref p)) (hm2 : m "table" = some (.ref t)) (hx : ∀ ro eo, Ev C A env (I.on G) m ((r, ro) :: (e, eo) :: (fz ++ tl)) x (Is v)) (hv : Tree G tr v) (hok : tr.ok d) (hz : rows.length + es.length + (labs tr).length ≤ 900)
    (q : ∀ s', Ds C I s'.heap m r (runLabs (labs tr) (rows, es)).1 e (runLabs (labs tr) (rows, es)).2 fz tl s' → TupLe G s'.heap → Q .next s')
    (hE : EOk env I := by exact ⟨rfl, rfl, rfl, rfl⟩) (hl : env.kindOf "declare_labels" = some .globalImplicit := by rfl) (hl1 : env.kindOf "report" = some .local := by rfl) (hl2 : env.kindOf "table" = some .local := by rfl)
    (he1 : starEach [.Name "report" p2, .Name "table" p3, x] env = (false, eval (.Name "report" p2) env) :: starEach [.Name "table" p3, x] env := by rfl)
    (he2 : starEach [.Name "table" p3, x] env = (false, eval (.Name "table" p3) env) :: starEach [x] env := by rfl) (he3 : starEach [x] env = (false, eval x env) :: starEach [] env := by rfl)
    (hpp : (backTo p4 (starEach [.Name "table" p3, x] env)).any (·.1) = false := by rfl)
    (hc : eval (.Call (.Name "declare_labels" p1) [.Name "report" p2, .Name "table" p3, x] [] p4) env = (do callWith p4 (← eval (.Name "declare_labels" p1) env) [] (backTo p4 (starEach [.Name "report" p2, .Name "table" p3, x] env)) (backToKw p4 (keywordEach [] env))) := by rfl)
    (hi : interactive env = false := by rfl) (hsw : swapsWith (.Call (.Name "declare_labels" p1) [.Name "report" p2, .Name "table" p3, x] [] p4) none p5.line env = pure false := by rfl) :
    wpAny C.M A (exec (.Expr (.Call (.Name "declare_labels" p1) [.Name "report" p2, .Name "table" p3, x] [] p4) p5) env) Q E s := by
  have hE' : EOk env (I.on G) := ⟨hE.hk, hE.hL, hE.hg, hE.hb⟩
  refine wpAny_Expr_any ?_ hi hsw
  refine g.callX SI (O.O.nm 20 (by decide)) (O.O.fn 20 (by decide)) (fun s4 g => ?_) hE hl (by rfl) he1 hpp hc
  refine spliced_more (g.evV (fun _ _ => .loc hm hE' hl1) fun s5 g => ?_) he1
  refine spliced_more (g.evV (fun _ _ => .loc hm2 hE' hl2) fun s5 g => ?_) he2
  refine spliced_more (g.evV hx fun s5 g => ?_) he3
  refine spliced_none ⟨⟨_, _, _, _, _, _, _, g⟩, ?_⟩
  exact ih hok hA (g.pre SI nt) hp ht hz (Tree.le g.tup _ _ hv) fun s' P => q s' (g.post P).1 (g.post P).2

theorem All2.getTree {h : Heap} {ts : List T} {vs : List Value} (H : Trees h ts vs) {i : Nat} {v : Value} (hv : vs[i]? = some v) : ∃ tr, ts[i]? = some tr ∧ Tree h tr v := H.all2.get hv
theorem labsL_take (ts : List T) (i : Nat) (tr : T) (h : ts[i]? = some tr) : labsL (ts.take (i + 1)) = labsL (ts.take i) ++ labs tr := by
  induction ts generalizing i with
  | nil => simp at h
  | cons a ts ih =>
    cases i with
    | zero => simp at h; subst h; simp [labsL]
    | succ i =>
      simp at h
      rw [List.take_succ_cons, List.take_succ_cons, labsL, labsL, ih i h, List.append_assoc]
theorem labsL_take_le : ∀ (ts : List T) (i : Nat), (labsL (ts.take i)).length ≤ (labsL ts).length
  | [], i => by simp
  | t :: ts, 0 => by simp [labsL]
  | t :: ts, i + 1 => by
    rw [List.take_succ_cons, labsL, labsL, List.length_append, List.length_append]
    have := labsL_take_le ts i
    lia
theorem labsL_le {ts : List T} {i : Nat} {tr : T} (h : ts[i]? = some tr) : (labsL (ts.take i)).length + (labs tr).length ≤ (labsL ts).length := by
  have h1 := labsL_take ts i tr h
  have h2 := labsL_take_le ts (i + 1)
  rw [h1, List.length_append] at h2
  exact h2
theorem oks_get {d : Nat} {ts : List T} {i : Nat} {tr : T} (h : T.oks d ts) (e : ts[i]? = some tr) : tr.ok d := T.oks_mem h tr (List.mem_of_getElem? e)

theorem labs_room {ts : List T} {i : Nat} {tr : T} {rows : List Row} {es : Sc} (hz : rows.length + es.length + (labsL ts).length ≤ 900) (h : ts[i]? = some tr) :
    (runLabs (labsL (ts.take i)) (rows, es)).1.length + (runLabs (labsL (ts.take i)) (rows, es)).2.length + (labs tr).length ≤ 900 := by
  have h1 := labsL_le h
  have h2 := (runLabs_len (labsL (ts.take i)) (rows, es)).1
  dsimp only at h2
  lia
theorem labs_room2 {ta tb : T} {rows : List Row} {es : Sc} (hz : rows.length + es.length + ((labs ta).length + (labs tb).length) ≤ 900) :
    (runLabs (labs ta) (rows, es)).1.length + (runLabs (labs ta) (rows, es)).2.length + (labs tb).length ≤ 900 := by
  have h2 := (runLabs_len (labs ta) (rows, es)).1
  dsimp only at h2
  lia

theorem two_targets {x y : Str} {px py pos : Pos} {kk : Nat} {a : Addr} {v1 v2 : Value} {Q : Unit → Shared → Prop} (X : St I m led s) (hh : A.handled = none) (ht : IsTup I.G a [v1, v2].toArray)
    (q : ∀ s', St I (upd (upd m x v1) y v2) led s' → Q () s') (hE : EOk env I) (hlx : env.kindOf x = some .local := by rfl) (hly : env.kindOf y = some .local := by rfl)
    (he : assignEach [.Name x px, .Name y py] env = [(false, assign (.Name x px) env), (false, assign (.Name y py) env)] := by rfl) :
    wpAny C.M A (assign (.Tuple [.Name x px, .Name y py] kk pos) env (.ref a)) Q E s := by
  refine assign_Tuple_tuple hh (X.tup.tup ht) (by rw [he]; rfl) (by rw [he]; rfl) fun h' hx => ?_
  rw [he]
  have X2 : St I m led { s with heap := h' } := ⟨⟨X.fr.ns.at fun o e => hx _ _ (Nat.ne_of_lt (Heap.lt_size e)) e, fun b o e => hx _ _ (Nat.ne_of_lt (Heap.lt_size (X.fr.keep b o e))) (X.fr.keep b o e), X.fr.above⟩,
    fun p hp => ⟨hx _ _ (Nat.ne_of_lt (Heap.lt_size (X.news p hp).1)) (X.news p hp).1, (X.news p hp).2⟩, X.nd, fun b o t e => hx _ _ (Nat.ne_of_lt (Heap.lt_size (X.tup b o t e))) (X.tup b o t e), X.gens, X.os⟩
  show wpAny _ A (do holding [v2] (assign (.Name x px) env v1); assignInOrder [assign (.Name y py) env] [v2]) Q E _
  refine wpAny_bind (wpAny_holding (wpAny_assign_Name (Mine.store X2 (fun s3 X3 => ?_) hE hlx)))
  show wpAny _ A (do holding [] (assign (.Name y py) env v2); assignInOrder [] []) Q E _
  refine wpAny_bind (wpAny_holding (wpAny_assign_Name (Mine.store X3 (fun s4 X4 => ?_) hE hly)))
  exact wpAny_pure (q _ X4)
theorem Ev.lenT {x : Expr} {a : Addr} {vs : List Value} {p pos : Pos} (S : ∀ G, Stat C (I.on G).H) (O : Ok C fa) (hx : Ev C A env (I.on G) m led x (Is (.ref a))) (ht : IsTup G a vs.toArray) (hz : vs.length ≤ 1000)
    (hE : EOk env (I.on G) := by exact ⟨rfl, rfl, rfl, rfl⟩) (hl : env.kindOf "len" = some .globalImplicit := by rfl)
    (he : starEach [x] env = (false, eval x env) :: starEach [] env := by rfl)
    (hc : eval (.Call (.Name "len" p) [x] [] pos) env = (do callWith pos (← eval (.Name "len" p) env) [] (backTo pos (starEach [x] env)) (backToKw pos (keywordEach [] env))) := by rfl) :
    Ev C A env (I.on G) m led (.Call (.Name "len" p) [x] [] pos) (IsI vs.length) := fun s Q E X q => by
  refine ev_bf (S G) (O.bi "len" (by decide)) boot_len X (fun s1 X => ?_) (by decide) hE hl (by rfl) he (by rfl) hc
  refine spliced_more (hx _ _ _ X fun v s2 e2 X => ?_) he
  obtain rfl : v = .ref a := e2
  refine spliced_none (len_tuple (X.tup.tup ht) (by simp; lia) ?_)
  rw [List.size_toArray]
  exact q _ _ ⟨_, rfl⟩ X.toks
end
end Mine
end

noncomputable section
open PySem PySem.W PyProof.Rows PySem.Calls PySem.Spec
set_option maxRecDepth 100000
set_option maxHeartbeats 4000000
namespace Mine
local macro_rules | `(tactic| walk_at "tst") => `(tactic| first | exact .eq (by decide) | exact .or (.eq rfl) (.eq rfl) (by decide) | exact .mem (by repeat constructor) (by decide) (by decide))
local macro_rules | `(tactic| walk_at "pick") => `(tactic| ((repeat (apply Pick.miss; focus (walk_at "tst"))); first | (apply Pick.hit; focus (walk_at "tst")) | exact Pick.all))
section
variable {C : Cx} {A : Around} {E : Value → Shared → Prop} {s : Shared} {I : Info} {G : Heap} {m : Str → Option Value} {env : Env} {fa : Nat → Addr} {k : Kl} {r e p t : Addr} {par : Value} {rows : List Row} {es : Sc} {fz tl led : List (Addr × Obj)}

theorem labels_step {d : Nat} (O : Okk C fa k) (ih : ∀ c, d = c + 1 → DLSpec C fa k c) : DLSpec C fa k d := by
  intro A E s n r e p t par rows es fz tr v Q hok hA P hp ht hz hv q
  refine goD (st := stAt 20) (n := n + d + 2) rfl hA O.O.S (O.O.fn 20 (by decide)) P fun I G s1 cdv A' hA' SI hG nt g1 out => ?_
  rw [← hG] at hv
  have fin : ∀ G' m' s', TupLe G G' → Ds C I G' m' r (runLabs (labs tr) (rows, es)).1 e (runLabs (labs tr) (rows, es)).2 fz [] s' → Q .none s' := fun G' m' s' h g => q s' (out _ _ _ _ _ _ h g)
  clear q out
  by_cases hn : tr = .non
  · subst hn
    obtain rfl : v = .none := hv
    exact wpAny_execs_cons (g1.iff (b := true) (fun ro eo _ _ _ => Tr.isN (.loc rfl) (.inl ⟨rfl, rfl⟩)) (fun _ s2 g => last (wpAny_Return_none (fin _ _ _ (TupLe.refl _) g))) fun hb => by cases hb)
  obtain ⟨a, t1, t2, rest, rfl, hT⟩ := tree_view hv hn
  refine wpAny_execs_cons (g1.iff (b := false) (fun ro eo _ _ _ => Tr.isN (.loc rfl) (.inr ⟨rfl, by simp⟩)) (fun hb => by cases hb) fun _ s2 g2 => ?_)
  refine wpAny_execs_nil ?_
  refine wpAny_execs_cons (g2.setS (fun ro eo => .tag (.loc rfl) hT) fun u1 s3 g3 => ?_)
  obtain ⟨m1, k1, k2, k4, k5, g⟩ : ∃ m1 : Str → Option Value, m1 "report" = some (.ref p) ∧ m1 "table" = some (.ref t) ∧ m1 "s" = some (.ref a) ∧ m1 "tag" = some (.str tr.tag u1) ∧ Ds C I G m1 r rows e es fz [] s3 := ⟨_, rfl, rfl, rfl, rfl, g3⟩
  clear g1 g2 g3 hT t1 t2 rest
  by_cases hl : tr.leaf = true
  · refine g.pick k5 (bd := []) ?_ fun s4 g => wpAny_execs_nil (fin G m1 s4 (TupLe.refl _) ?_)
    · rcases leaf_tag hn hl with e | e <;> rw [e] <;> walk_at "pick"
    · rw [leaf_labs hl]; exact g
  obtain ⟨c, rfl⟩ := ok_succ hok hl
  have ih : DLSpec C fa k c := ih c rfl
  have hA2 : Am A' (0 + c + 3) := hA'.le (by lia)
  cases tr with
  | non => exact absurd rfl hl
  | dis => exact absurd rfl hl
  | trg => exact absurd rfl hl
  | pth => exact absurd rfl hl
  | blk fk m lab ds ts =>
    replace k5 : m1 "tag" = some (.str (if fk = true then "fork" else "block") u1) := k5
    obtain ⟨a, t1, t2, lv, da, dvs, ta, tvs, ea, hT, hlab, hda, hds, hta, hts⟩ := hv
    obtain rfl := ref_inj ea
    refine g.pick k5 (by cases fk <;> walk_at "pick") fun s4 g => ?_
    cases lab with
    | some x =>
      obtain ⟨tx, rfl⟩ := hlab
      refine last (g.iff (b := true) (fun ro eo _ _ _ => Tr.isNotN (.tup (.loc (by exact k4)) .cI hT) (.inr ⟨rfl, by simp⟩)) (fun _ s5 g => ?_) fun hb => by cases hb)
      refine last (g.callV SI (O.O.nm 6 (by decide)) (O.O.fn 6 (by decide)) (fun _ _ => .v (.loc (by exact k1)) (.v (.loc (by exact k2)) (.v (.tup (.loc (by exact k4)) .cI hT) (.v (.tup (.loc (by exact k4)) .cI hT) (.i (.neg1 .cI) .nil))))) fun τ s6 g => ?_)
      have hz : rows.length + es.length + 1 ≤ 900 := hz
      refine add_label_spec O (hA'.le (k := n + c + 2) (by lia)) (g.pre SI nt) hp ht (by lia) (by lia) (by decide) fun s8 P => ?_
      exact fin _ _ _ (g.post P).2 (g.post P).1
    | none =>
      obtain rfl : lv = .none := hlab
      refine last (g.iff (b := false) (fun ro eo _ _ _ => Tr.isNotN (.tup (.loc (by exact k4)) .cI hT) (.inl ⟨rfl, rfl⟩)) (fun hb => by cases hb) fun _ s5 g => ?_)
      cases ds with
      | cons d0 ds =>
        cases hds with | @cons _ b0 _ bs _ hds =>
        have hb2 : (bs.length + 1 == 0) = false := rfl
        have h2 : ds.length + 1 ≤ 2 := hok.2.1
        refine last (g.iff (b := false) (fun ro eo _ _ _ => ?_) (fun hb => by cases hb) fun _ s6 g => wpAny_execs_nil (fin _ _ _ (TupLe.refl _) g))
        refine Tr.cast (Tr.eqI (Ev.lenT SI O.O (.tup (.loc (by exact k4)) .cI hT) hda ?_) .cI) ?_
        · rw [List.length_cons, ← hds.length]; lia
        · rw [List.length_cons]; simp; lia
      | nil =>
        cases hds
        refine last (g.iff (b := true) (fun ro eo _ _ _ => Tr.cast (Tr.eqI (Ev.lenT SI O.O (.tup (.loc (by exact k4)) .cI hT) hda (by decide)) .cI) (by decide)) (fun hb s6 g => ?_) fun hb => by cases hb)
        have hz : rows.length + es.length + (labsL ts).length ≤ 900 := hz
        have hlen := hts.all2.length
        refine last (g.forT (vs := tvs) (fun i => runLabs (labsL (ts.take i)) (rows, es)) hA'.hh hta (fun ro eo => .tup (.loc (by exact k4)) .cI hT) (fun m' => m' "report" = some (.ref p) ∧ m' "table" = some (.ref t)) ⟨k1, k2⟩ ?_ ?_)
        · intro i G' m' s7 v qq E' hv hle hk g
          obtain ⟨tr, htr, hvt⟩ := All2.getTree hts hv
          obtain ⟨eo, g, hes⟩ := g
          refine wpAny_assign_Name (g.store fun s8 g => ?_)
          refine last (Ds.lab ⟨eo, g, hes⟩ ih O SI nt hA2 hp ht hk.1 hk.2 (fun _ _ => .loc rfl) (Tree.le hle _ _ hvt) (oks_get hok.2.2.2.2 htr) (labs_room hz htr) fun s9 g hle2 => ?_)
          refine ⟨.inl rfl, s9.heap, _, hle2, ?_, by rw [labsL_take ts i tr htr, runLabs_app]; exact g⟩
          exact hk
        · intro G' m' s7 hle hk g
          rw [← hlen, List.take_length] at g
          exact fin _ _ _ hle g
  | cho m ta tb =>
    replace k5 : m1 "tag" = some (.str "if" u1) := k5
    obtain ⟨a, t1, t2, o, va, vb, ea, hT, _, hva, hvb⟩ := hv
    obtain rfl := ref_inj ea
    refine g.pick k5 (by walk_at "pick") fun s4 g => ?_
    have hz : rows.length + es.length + (labs ta ++ labs tb).length ≤ 900 := hz
    rw [List.length_append] at hz
    refine wpAny_execs_cons (g.lab ih O SI nt hA2 hp ht k1 k2 (fun _ _ => .tup (.loc (by exact k4)) .cI hT) hva hok.1 (by lia) fun s5 g hle => ?_)
    refine wpAny_execs_cons (g.lab ih O SI nt hA2 hp ht k1 k2 (fun _ _ => .tup (.loc (by exact k4)) .cI (hle.tup hT)) (Tree.le hle _ _ hvb) hok.2 (labs_room2 hz) fun s5 g hle2 => ?_)
    exact wpAny_execs_nil (fin _ _ _ (hle.trans hle2) (by rw [labs, runLabs_app]; exact g))
  | cas m ta tb =>
    replace k5 : m1 "tag" = some (.str "case" u1) := k5
    obtain ⟨a, t1, t2, z, o, cc, p1, p2, l, lo, va, vb, ea, hT, _, hcc, hp1, hl, hlo, hp2, hva, hvb⟩ := hv
    obtain rfl := ref_inj ea
    refine g.pick k5 (by walk_at "pick") fun s4 g => ?_
    have hz : rows.length + es.length + (labs ta ++ labs tb).length ≤ 900 := hz
    have hz' : rows.length + es.length + (labsL [ta, tb]).length ≤ 900 := by rw [labsL, labsL, labsL, List.append_nil]; exact hz
    refine last (g.forT (vs := [.ref p1, .ref p2]) (fun i => runLabs (labsL ([ta, tb].take i)) (rows, es)) hA'.hh hcc (fun ro eo => .tup (.loc (by exact k4)) .cI hT) (fun m' => m' "report" = some (.ref p) ∧ m' "table" = some (.ref t)) ⟨k1, k2⟩ ?_ ?_)
    · intro i G' m' s7 v qq E' hv hle hk g
      obtain ⟨tr, x, y, pa, rfl, htr, hokt, hpa, hvt⟩ : ∃ tr x y pa, v = .ref pa ∧ [ta, tb][i]? = some tr ∧ tr.ok c ∧ IsTup G pa [x, y].toArray ∧ Tree G tr y := by
        match i, hv with
        | 0, hv => cases hv; exact ⟨ta, _, _, _, rfl, rfl, hok.1, hp1, hva⟩
        | 1, hv => cases hv; exact ⟨tb, _, _, _, rfl, rfl, hok.2, hp2, hvb⟩
      obtain ⟨eo, ⟨ro, X, w⟩, hes⟩ := g
      refine two_targets X hA'.hh (hle.tup hpa) (fun s8 X => ?_) ⟨rfl, rfl, rfl, rfl⟩
      refine last (Ds.lab ⟨eo, ⟨ro, X, w⟩, hes⟩ ih O SI nt hA2 hp ht hk.1 hk.2 (fun _ _ => .loc rfl) (Tree.le hle _ _ hvt) hokt (labs_room hz' htr) fun s9 g hle2 => ?_)
      refine ⟨.inl rfl, s9.heap, _, hle2, ?_, by rw [labsL_take [ta, tb] i tr htr, runLabs_app]; exact g⟩
      exact hk
    · intro G' m' s7 hle hk g
      have e : runLabs (labs (.cas m ta tb)) (rows, es) = runLabs (labsL ([ta, tb].take [Value.ref p1, Value.ref p2].length)) (rows, es) := by
        show runLabs (labs ta ++ labs tb) (rows, es) = runLabs (labs ta ++ (labs tb ++ [])) (rows, es)
        rw [List.append_nil]
      exact fin _ _ _ hle (by rw [e]; exact g)
  | one kk m ta =>
    replace k5 : m1 "tag" = some (.str kk.tag u1) := k5
    obtain ⟨a, t1, t2, o, va, ea, hT, _, hva⟩ := hv
    obtain rfl := ref_inj ea
    refine g.pick k5 (by cases kk <;> walk_at "pick") fun s4 g => ?_
    refine wpAny_execs_cons (g.lab ih O SI nt hA2 hp ht k1 k2 (fun _ _ => .tup (.loc (by exact k4)) .cI hT) hva hok hz fun s5 g hle => ?_)
    exact wpAny_execs_nil (fin _ _ _ hle g)
  | fev m ta =>
    replace k5 : m1 "tag" = some (.str "forever" u1) := k5
    obtain ⟨a, t1, t2, va, ea, hT, hva⟩ := hv
    obtain rfl := ref_inj ea
    refine g.pick k5 (by walk_at "pick") fun s4 g => ?_
    refine wpAny_execs_cons (g.lab ih O SI nt hA2 hp ht k1 k2 (fun _ _ => .tup (.loc (by exact k4)) .cI hT) hva hok hz fun s5 g hle => ?_)
    exact wpAny_execs_nil (fin _ _ _ hle g)
  | awt m ta =>
    replace k5 : m1 "tag" = some (.str "await" u1) := k5
    obtain ⟨a, t1, t2, t3, ev, va, ea, hT, _, hva⟩ := hv
    obtain rfl := ref_inj ea
    refine g.pick k5 (by walk_at "pick") fun s4 g => ?_
    refine wpAny_execs_cons (g.lab ih O SI nt hA2 hp ht k1 k2 (fun _ _ => .tup (.loc (by exact k4)) .cI hT) hva hok hz fun s5 g hle => ?_)
    exact wpAny_execs_nil (fin _ _ _ hle g)
  | lop m ta =>
    replace k5 : m1 "tag" = some (.str "for" u1) := k5
    obtain ⟨a, t1, t2, l1, o, l2, va, ea, hT, _, _, _, hva⟩ := hv
    obtain rfl := ref_inj ea
    refine g.pick k5 (by walk_at "pick") fun s4 g => ?_
    refine wpAny_execs_cons (g.lab ih O SI nt hA2 hp ht k1 k2 (fun _ _ => .tup (.loc (by exact k4)) .cI hT) hva hok hz fun s5 g hle => ?_)
    exact wpAny_execs_nil (fin _ _ _ hle g)

theorem labels_spec (O : Okk C fa k) : ∀ d, DLSpec C fa k d
  | 0 => labels_step (d := 0) O fun e h => absurd h (by lia)
  | d + 1 => labels_step (d := d + 1) O fun e h => (show d = e by lia) ▸ labels_spec O d
end
end Mine
end

noncomputable section
open PySem PySem.W PyProof.Rows PySem.Calls PySem.Spec
set_option maxRecDepth 100000
set_option maxHeartbeats 4000000
namespace Mine
local macro_rules | `(tactic| walk_at "no") => `(tactic| exact Tr.cast (Tr.eqS (.locS rfl) .cS) (by decide))
local macro_rules | `(tactic| walk_at "in") => `(tactic| exact Tr.cast (Tr.inS (.locS rfl)) (by decide))
section
variable {C : Cx} {A : Around} {E : Value → Shared → Prop} {s : Shared} {I : Info} {G : Heap} {m : Str → Option Value} {env : Env} {fa : Nat → Addr} {k : Kl} {r e p t : Addr} {par tv : Value} {rows : List Row} {es : Sc} {ch : List Sc} {fz tl led : List (Addr × Obj)}

theorem Rs.KIn (g : Rs C I G m r rows fz tl s) : ∃ G' m' rows' fz' tl', Rs C I G' m' r rows' fz' tl' s := ⟨_, _, _, _, _, g⟩

theorem Rs.find {n : Nat} {y : Str} {xe : Expr} {x : Str} {p0 p1 p2 p4 p5 : Pos} {Q : Flow → Shared → Prop} (g : Rs C I G m r rows fz tl s) (O : Okk C fa k) (SI : ∀ G, Stat C (I.on G).H) (nt : Nt fz) (hA : Am A (n + 1)) (hc : Chn C k G fz tv ch) (hm : m "table" = some tv)
    (hx : ∀ ro, Ev C A env (I.on G) m ((r, ro) :: (fz ++ tl)) xe (IsS x))
    (q : ∀ v s', EntV s'.heap (findS ch x) v → TupLe G s'.heap → Rs C I s'.heap (upd m y v) r rows fz tl s' → Q .next s')
    (hE : EOk env I := by exact ⟨rfl, rfl, rfl, rfl⟩) (hl : env.kindOf "find" = some .globalImplicit := by rfl) (hl1 : env.kindOf "table" = some .local := by rfl) (hl2 : env.kindOf y = some .local := by rfl)
    (he1 : starEach [.Name "table" p2, xe] env = (false, eval (.Name "table" p2) env) :: starEach [xe] env := by rfl) (he3 : starEach [xe] env = (false, eval xe env) :: starEach [] env := by rfl)
    (hpp : (backTo p4 (starEach [xe] env)).any (·.1) = false := by rfl)
    (hcl : eval (.Call (.Name "find" p1) [.Name "table" p2, xe] [] p4) env = (do callWith p4 (← eval (.Name "find" p1) env) [] (backTo p4 (starEach [.Name "table" p2, xe] env)) (backToKw p4 (keywordEach [] env))) := by rfl)
    (hsw : swapsWith (.Call (.Name "find" p1) [.Name "table" p2, xe] [] p4) (some (.Name y p0)) p5.line env = pure false := by rfl) :
    wpAny C.M A (exec (.Assign [.Name y p0] (.Call (.Name "find" p1) [.Name "table" p2, xe] [] p4) p5) env) Q E s := by
  have hE' : EOk env (I.on G) := ⟨hE.hk, hE.hL, hE.hg, hE.hb⟩
  refine wpAny_Assign_Name ?_ hsw
  refine g.callX SI (O.O.nm 3 (by decide)) (O.O.fn 3 (by decide)) (fun s4 g => ?_) hE hl (by rfl) he1 hpp hcl
  refine spliced_more (g.evV (fun _ => .loc hm hE' hl1) fun s5 g => ?_) he1
  refine spliced_more (g.ev hx fun v2 s5 e2 g => ?_) he3
  obtain ⟨u, rfl⟩ := e2
  refine spliced_none ⟨g.KIn, ?_⟩
  obtain ⟨ro, X, w⟩ := g
  have X1 : St (I.on G) m (fz ++ ((r, ro) :: tl)) s5 := X.perm List.perm_middle.symm
  refine find_spec O hA (X1.pre (SI G) nt) (hc.mono X.tup fun _ z => z) fun v s6 hv P => ?_
  have X2 : St (I.on G) m ((r, ro) :: (fz ++ tl)) s6 := St.post (l1 := []) (l1' := []) X P rfl fun q hq => by cases hq
  have g2 : Rs C I s6.heap m r rows fz tl s6 := ⟨ro, X2.rebase, w.le X2.tup⟩
  refine g2.store (fun s7 g => ?_) hE hl2
  refine q v s7 ?_ (X2.tup.trans g.tup) g.rebase
  revert hv
  unfold EntV
  cases findS ch x with
  | none => exact fun h => h
  | some st => exact fun ⟨a, t, r, e1, e2⟩ => ⟨a, t, r, e1, g.tup.tup e2⟩

structure FnD (K : Frag) (qual : Str) (f : Addr) (st : Stmt) : Prop where
  obj : ∀ nm ar bd dl rt tp sc ts bi po, st = .FunctionDef nm ar bd dl rt tp sc ts bi po →
    ∃ T doc pm an cdv ct od osl oc o n, K.lookup f = some ⟨oc, od, .func (fnOf nm qual ar bd sc (.ref T) .none doc pm an cdv ct), osl⟩ ∧ codeIn K cdv qual = true ∧ K.lookup T = some o ∧ o.data = .seq #[.bool false] n

theorem enterD {n : Nat} {qual : Str} {st : Stmt} {nm : Str} {ar : Arguments} {bd : List Stmt} {dl : List Expr} {rt : Option Expr} {tp : List TypeParam} {sc : Scope} {ts : Option Scope} {bi : Str} {po : Pos} {vals : List Value} {binds : List (Str × Value)} {f : Addr} {R : Result → Shared → Prop}
    (hst : st = .FunctionDef nm ar bd dl rt tp sc ts bi po) (hA : Am A (n + 1)) (S : Stat C C.B) (hf : FnD C.K qual f st) (P : Pre C.B s.heap led)
    (hbind : ∀ T doc pm an cdv ct o n, C.K.lookup T = some o → o.data = .seq #[.bool false] n → C.K.In s.heap → BindsTo s (fnOf nm qual ar bd sc (.ref T) .none doc pm an cdv ct) ⟨vals, []⟩ binds)
    (hloc : ∀ y ∈ binds, sc.names.lookup y.1 = some .local) (hcell : ∀ y ∈ sc.names, y.2 ≠ .cell)
    (hco : sc.isCoroutine = false) (hgen : sc.isGenerator = false) (hk : sc.kind = .function)
    (h : ∀ (I : Info) (s₁ : Shared) (cdv : Value) (A' : Around), Am A' n → I.H = hideAll s.heap (led.map (·.1)) → I.G = s.heap → I.z = s → Stat C I.H → St I (fun y => binds.reverse.lookup y) led s₁ →
      wpAny C.M A' (execs bd (envOf qual sc I.L f cdv)) (fun fl s' => R (.ok (.ret (retOf fl))) s') (fun _ _ => False) s₁) :
    codeAny C.M A (.call (.ref f) ⟨vals, []⟩) R s := by
  obtain ⟨T, doc, pm, an, cdv, ct, od, osl, oc, o, no, hK, hcd, hT, ho⟩ := hf.obj _ _ _ _ _ _ _ _ _ _ hst
  have Ss : Stat C s.heap := S.keeps P.base
  have SH : Stat C (hideAll s.heap (led.map (·.1))) := S.keeps (hideAll_in P.base fun a ha => by
    obtain ⟨p, hp, rfl⟩ := List.mem_map.mp ha
    exact (P.at_ p hp).2)
  refine codeAny_call_def (fd := fnOf nm qual ar bd sc (.ref T) .none doc pm an cdv ct) (body := bd) (binds := binds) hA.room (Ss.X _ _ hK) rfl Ss.T.nolimit (codeRec_of Ss.X hcd) rfl (hbind _ _ _ _ _ _ _ _ hT ho Ss.X) hcell hloc (fun h₁ hns hk₁ => ?_) hco hgen hk
  have St1 : St ⟨hideAll s.heap (led.map (·.1)), s.heap, s.heap.objs.size, s⟩ (fun y => binds.reverse.lookup y) led { s with heap := h₁, toks := s.toks + binds.length } :=
    ⟨⟨hns, fun b o e => hk₁ b o (of_hideAll _ e), Nat.le_of_eq (hideAll_size _ _)⟩, fun p hp => ⟨hk₁ _ _ (P.at_ p hp).1, Nat.ne_of_lt (Heap.lt_size (P.at_ p hp).1), hideAll_none _ (List.mem_map_of_mem hp)⟩, P.nd, fun b o _ e => hk₁ b o e, rfl, rfl⟩
  refine wpAny_mono (h _ _ cdv _ (hA.deeper (callEnv (fnOf nm qual ar bd sc (.ref T) .none doc pm an cdv ct) s.heap.objs.size f)) rfl rfl rfl SH St1) (fun fl s' hq => ?_) fun _ _ x => x.elim
  cases fl <;> exact hq
theorem goRD {n : Nat} {qual : Str} {st : Stmt} {nm : Str} {ar : Arguments} {bd : List Stmt} {dl : List Expr} {rt : Option Expr} {tp : List TypeParam} {sc : Scope} {ts : Option Scope} {bi : Str} {po : Pos} {vals : List Value} {f : Addr} {Q : Value → Shared → Prop} {binds : List (Str × Value)}
    (hst : st = .FunctionDef nm ar bd dl rt tp sc ts bi po) (hA : Am A (n + 1)) (S : Stat C C.B) (hf : FnD C.K qual f st) (P : RPre C r rows fz s.heap)
    (hbind : ∀ T doc pm an cdv ct o n, C.K.lookup T = some o → o.data = .seq #[.bool false] n → C.K.In s.heap → BindsTo s (fnOf nm qual ar bd sc (.ref T) .none doc pm an cdv ct) ⟨vals, []⟩ binds)
    (h : ∀ (I : Info) (G : Heap) (s₁ : Shared) (cdv : Value) (A' : Around), Am A' n → (∀ G, Stat C (I.on G).H) → G = s.heap → Nt fz → Rs C I G (fun y => binds.reverse.lookup y) r rows fz [] s₁ →
      (∀ G' m' rows' tl s', TupLe G G' → Rs C I G' m' r rows' fz tl s' → RPost r rows' s s') →
      wpAny C.M A' (execs bd (envOf qual sc I.L f cdv)) (fun fl s' => Q (retOf fl) s') (fun _ _ => False) s₁)
    (hloc : (binds.all fun x => decide (sc.names.lookup x.1 = some .local)) = true := by rfl) (hcell : ∀ y ∈ sc.names, y.2 ≠ .cell := by decide)
    (hco : sc.isCoroutine = false := by rfl) (hgen : sc.isGenerator = false := by rfl) (hk : sc.kind = .function := by rfl) :
    wpAny C.M A (call (.ref f) vals) Q E s := by
  obtain ⟨ro, P, w⟩ := P
  refine call_of (enterD hst hA S hf P hbind (locs hloc) hcell hco hgen hk fun I s1 cdv A' hA' hH hG hz SI X => ?_)
  refine h I I.G s1 cdv A' hA' (fun _ => SI) hG (fun q hq => P.nt q (.tail _ hq)) ⟨ro, by rw [List.append_nil]; exact X, hG ▸ w⟩ fun G' m' rows' tl s' hle g => ?_
  obtain ⟨ro', X', w'⟩ := g
  have X2 : St (I.on G') m' ([(r, ro')] ++ fz) s' := X'.sub (by exact (List.sublist_append_left fz tl).cons_cons _)
  exact ⟨ro', leaveF (l1 := [(r, ro)]) X2 P hH (hG ▸ hle) hz, X2.get (.head _), w'.le X2.tup⟩

theorem check_num {n : Nat} {v1 v2 v : Value} {Q : Value → Shared → Prop} (O : Okk C fa k) (hA : Am A (n + 1)) (P : RPre C r rows fz s.heap) (hv : One s.heap v) (q : ∀ s', RPost r rows s s' → Q .none s') : wpAny C.M A (call (.ref (fa 10)) [v1, v2, v]) Q E s := by
  refine goR (st := stAt 10) rfl hA O.O.S (O.O.fn 10 (by decide)) P fun I G s1 cdv A' hA' SI hG nt g out => ?_
  rw [← hG] at hv
  obtain ⟨a, x, rr, rfl, hT⟩ := hv
  refine wpAny_execs_cons (g.set (fun ro => .tag (.loc rfl) hT) fun v1 s2 e1 g => ?_)
  obtain ⟨tt, rfl⟩ := e1
  iterate 8 refine last (g.iff (b := false) (fun ro => by walk_at "no") (fun hb => by cases hb) fun _ s4 g => ?_)
  refine last (g.iff (b := false) (fun ro => by exact Tr.cast (b := false && false) (Tr.and2 (Tr.cast (Tr.neS (.locS rfl) .cS) (by decide)) fun h => absurd h (by decide)) rfl) (fun hb => by cases hb) fun _ s4 g => ?_)
  exact wpAny_execs_nil (q _ (out _ _ _ _ _ (TupLe.refl _) g))

theorem Rs.num {n : Nat} {x : Expr} {v v1 v2 : Value} {p1 p2 p3 p4 p5 : Pos} {Q : Flow → Shared → Prop} (g : Rs C I G m r rows fz tl s) (O : Okk C fa k) (SI : ∀ G, Stat C (I.on G).H) (nt : Nt fz) (hA : Am A (n + 1))
    (hm : m "report" = some v1) (hm2 : m "table" = some v2) (hx : ∀ ro, Ev C A env (I.on G) m ((r, ro) :: (fz ++ tl)) x (Is v)) (hv : One G v)
    (q : ∀ s', Rs C I s'.heap m r rows fz tl s' → TupLe G s'.heap → Q .next s')
    (hE : EOk env I := by exact ⟨rfl, rfl, rfl, rfl⟩) (hl : env.kindOf "check_expr" = some .globalImplicit := by rfl) (hl1 : env.kindOf "report" = some .local := by rfl) (hl2 : env.kindOf "table" = some .local := by rfl)
    (he1 : starEach [.Name "report" p2, .Name "table" p3, x] env = (false, eval (.Name "report" p2) env) :: starEach [.Name "table" p3, x] env := by rfl)
    (he2 : starEach [.Name "table" p3, x] env = (false, eval (.Name "table" p3) env) :: starEach [x] env := by rfl) (he3 : starEach [x] env = (false, eval x env) :: starEach [] env := by rfl)
    (hpp : (backTo p4 (starEach [.Name "table" p3, x] env)).any (·.1) = false := by rfl)
    (hc : eval (.Call (.Name "check_expr" p1) [.Name "report" p2, .Name "table" p3, x] [] p4) env = (do callWith p4 (← eval (.Name "check_expr" p1) env) [] (backTo p4 (starEach [.Name "report" p2, .Name "table" p3, x] env)) (backToKw p4 (keywordEach [] env))) := by rfl)
    (hi : interactive env = false := by rfl) (hsw : swapsWith (.Call (.Name "check_expr" p1) [.Name "report" p2, .Name "table" p3, x] [] p4) none p5.line env = pure false := by rfl) :
    wpAny C.M A (exec (.Expr (.Call (.Name "check_expr" p1) [.Name "report" p2, .Name "table" p3, x] [] p4) p5) env) Q E s := by
  have hE' : EOk env (I.on G) := ⟨hE.hk, hE.hL, hE.hg, hE.hb⟩
  refine wpAny_Expr_any ?_ hi hsw
  refine g.callX SI (O.O.nm 10 (by decide)) (O.O.fn 10 (by decide)) (fun s4 g => ?_) hE hl (by rfl) he1 hpp hc
  refine spliced_more (g.evV (fun _ => .loc hm hE' hl1) fun s5 g => ?_) he1
  refine spliced_more (g.evV (fun _ => .loc hm2 hE' hl2) fun s5 g => ?_) he2
  refine spliced_more (g.evV hx fun s5 g => ?_) he3
  refine spliced_none ⟨g.KIn, ?_⟩
  exact check_num O hA (g.pre SI nt) (hv.le g.tup) fun s' P => q s' (g.post P).1 (g.post P).2

theorem check_each1 {n : Nat} {v1 v2 o : Value} {a : Addr} {Q : Value → Shared → Prop} (O : Okk C fa k) (hA : Am A (n + 2)) (P : RPre C r rows fz s.heap) (ha : IsTup s.heap a [o].toArray) (hv : One s.heap o) (q : ∀ s', RPost r rows s s' → Q .none s') : wpAny C.M A (call (.ref (fa 11)) [v1, v2, .ref a]) Q E s := by
  refine goR (st := stAt 11) rfl hA O.O.S (O.O.fn 11 (by decide)) P fun I G s1 cdv A' hA' SI hG nt g out => ?_
  rw [← hG] at hv ha
  refine last (g.forT (vs := [o]) (fun _ => rows) hA'.hh ha (fun ro => .loc rfl) (fun _ m' => m' "report" = some v1 ∧ m' "table" = some v2) ⟨rfl, rfl⟩ ?_ ?_)
  · intro i G' m' s7 v qq E' hvi hle hk g
    obtain rfl : v = o := by
      match i, hvi with
      | 0, h => cases h; rfl
    refine wpAny_assign_Name (g.store fun s8 g => ?_)
    refine last (g.num O SI nt hA' hk.1 hk.2 (fun _ => .loc rfl) (hv.le hle) fun s9 g hle2 => ?_)
    refine ⟨.inl rfl, s9.heap, _, hle2, ?_, by exact g⟩
    exact hk
  · intro G' m' s7 hle hk g
    exact q _ (out _ _ _ _ _ hle g)
theorem check_optional0 {n : Nat} {v1 v2 : Value} {Q : Value → Shared → Prop} (O : Okk C fa k) (hA : Am A (n + 1)) (P : RPre C r rows fz s.heap) (q : ∀ s', RPost r rows s s' → Q .none s') : wpAny C.M A (call (.ref (fa 12)) [v1, v2, .none]) Q E s := by
  refine goR (st := stAt 12) rfl hA O.O.S (O.O.fn 12 (by decide)) P fun I G s1 cdv A' hA' SI hG nt g out => ?_
  refine last (g.iff (b := false) (fun ro => Tr.isNotN (.loc rfl) (.inl ⟨rfl, rfl⟩)) (fun hb => by cases hb) fun _ s4 g => ?_)
  exact wpAny_execs_nil (q _ (out _ _ _ _ _ (TupLe.refl _) g))
theorem check_range0 {n : Nat} {v1 v2 : Value} {Q : Value → Shared → Prop} (O : Okk C fa k) (hA : Am A (n + 1)) (P : RPre C r rows fz s.heap) (q : ∀ s', RPost r rows s s' → Q .none s') : wpAny C.M A (call (.ref (fa 13)) [v1, v2, .none]) Q E s := by
  refine goR (st := stAt 13) rfl hA O.O.S (O.O.fn 13 (by decide)) P fun I G s1 cdv A' hA' SI hG nt g out => ?_
  refine last (g.iff (b := false) (fun ro => Tr.isNotN (.loc rfl) (.inl ⟨rfl, rfl⟩)) (fun hb => by cases hb) fun _ s4 g => ?_)
  exact wpAny_execs_nil (q _ (out _ _ _ _ _ (TupLe.refl _) g))

theorem check_decl {n : Nat} {v1 v2 v : Value} {d : D} {Q : Value → Shared → Prop} (O : Okk C fa k) (hA : Am A (n + 2)) (P : RPre C r rows fz s.heap) (hd : Dc s.heap d v) (q : ∀ s', RPost r rows s s' → Q .none s') : wpAny C.M A (call (.ref (fa 16)) [v1, v2, v]) Q E s := by
  refine goR (st := stAt 16) rfl hA O.O.S (O.O.fn 16 (by decide)) P fun I G s1 cdv A' hA' SI hG nt g out => ?_
  rw [← hG] at hd
  obtain ⟨a, rfl, hd⟩ := hd
  rcases hd with ⟨hv, t1, t2, t3, t4, b, hT, hT2⟩ | ⟨hv, t1, t2, t3, hT⟩
  · refine wpAny_execs_cons (g.set (fun ro => .tup (.loc rfl) .cI hT) fun v1 s2 e1 g => ?_)
    obtain rfl := e1
    iterate 3 refine last (g.iff (b := false) (fun ro => by walk_at "no") (fun hb => by cases hb) fun _ s3 g => ?_)
    refine last (g.iff (b := true) (fun ro => by walk_at "no") (fun _ s3 g => ?_) fun hb => by cases hb)
    refine wpAny_execs_cons (wpAny_Expr_any ?_ (by rfl) (by rfl))
    refine g.callX SI (O.O.nm 13 (by decide)) (O.O.fn 13 (by decide)) fun s4 g => ?_
    refine spliced_more (g.ev (fun _ => .loc rfl) fun v1 s5 e1 g => ?_)
    refine spliced_more (g.ev (fun _ => .loc rfl) fun v2 s5 e2 g => ?_)
    refine spliced_more (g.evV (fun _ => .tup (.loc rfl) .cI hT) fun s5 g => ?_)
    obtain rfl := e1; obtain rfl := e2
    refine spliced_none ⟨g.KIn, ?_⟩
    refine check_range0 O hA' (g.pre SI nt) fun s6 P => ?_
    have hle1 := (g.post P).2
    replace g := (g.post P).1
    refine wpAny_execs_cons (g.forT (vs := []) (fun _ => rows) hA'.hh (hle1.tup hT2) (fun ro => .tup (.loc rfl) .cI (hle1.tup hT)) (fun _ m' => m' "report" = some v1 ∧ m' "table" = some v2 ∧ m' "item" = some (.ref a)) ⟨rfl, rfl, rfl⟩ ?_ ?_)
    · intro i G' m' s7 v qq E' hvi
      simp at hvi
    · intro G' m' s7 hle hk g
      refine last (wpAny_Expr_any ?_ (by rfl) (by rfl))
      refine g.callX SI (O.O.nm 12 (by decide)) (O.O.fn 12 (by decide)) fun s4 g => ?_
      refine spliced_more (g.evV (fun _ => .loc (by exact hk.1)) fun s5 g => ?_)
      refine spliced_more (g.evV (fun _ => .loc (by exact hk.2.1)) fun s5 g => ?_)
      refine spliced_more (g.evV (fun _ => .tup (.loc (by exact hk.2.2)) .cI ((hle1.trans hle).tup hT)) fun s5 g => ?_)
      refine spliced_none ⟨g.KIn, ?_⟩
      refine check_optional0 O hA' (g.pre SI nt) fun s6 P => ?_
      exact q _ (out _ _ _ _ _ ((hle1.trans hle).trans (g.post P).2) (g.post P).1)
  · refine wpAny_execs_cons (g.set (fun ro => .tup (.loc rfl) .cI hT) fun v1 s2 e1 g => ?_)
    obtain rfl := e1
    iterate 4 refine last (g.iff (b := false) (fun ro => by walk_at "no") (fun hb => by cases hb) fun _ s3 g => ?_)
    exact wpAny_execs_nil (q _ (out _ _ _ _ _ (TupLe.refl _) g))

theorem check_events0 {n : Nat} {v1 v2 : Value} {a : Addr} {t3 : Tok} {Q : Value → Shared → Prop} (O : Okk C fa k) (hA : Am A (n + 1)) (P : RPre C r rows fz s.heap) (hT : IsTup s.heap a [.str "star" t3].toArray) (q : ∀ s', RPost r rows s s' → Q .none s') : wpAny C.M A (call (.ref (fa 25)) [v1, v2, .ref a]) Q E s := by
  refine goR (st := stAt 25) rfl hA O.O.S (O.O.fn 25 (by decide)) P fun I G s1 cdv A' hA' SI hG nt g out => ?_
  rw [← hG] at hT
  refine wpAny_execs_cons (g.iff (b := true) (fun ro => Tr.cast (Tr.eqS (.tag (.loc rfl) hT) .cS) (by decide)) (fun _ s3 g => ?_) fun hb => by cases hb)
  exact last (wpAny_Return_none (q _ (out _ _ _ _ _ (TupLe.refl _) g)))

theorem check_trigger_path {n : Nat} {v1 v2 v : Value} {Q : Value → Shared → Prop} (O : Okk C fa k) (hA : Am A (n + 1)) (P : RPre C r rows fz s.heap) (hv : Pt s.heap v) (q : ∀ s', RPost r rows s s' → Q .none s') : wpAny C.M A (call (.ref (fa 26)) [v1, v2, v]) Q E s := by
  refine goR (st := stAt 26) rfl hA O.O.S (O.O.fn 26 (by decide)) P fun I G s1 cdv A' hA' SI hG nt g out => ?_
  rw [← hG] at hv
  obtain ⟨a, t1, rr, rfl, hT⟩ := hv
  refine wpAny_execs_cons (g.iff (b := true) (fun ro => Tr.cast (Tr.neS (.tag (.loc rfl) hT) .cS) (by decide)) (fun _ s3 g => ?_) fun hb => by cases hb)
  exact last (wpAny_Return_none (q _ (out _ _ _ _ _ (TupLe.refl _) g)))
theorem check_disable_path {n : Nat} {v1 v2 v : Value} {Q : Value → Shared → Prop} (O : Okk C fa k) (hA : Am A (n + 1)) (P : RPre C r rows fz s.heap) (hv : Pt s.heap v) (q : ∀ s', RPost r rows s s' → Q .none s') : wpAny C.M A (call (.ref (fa 27)) [v1, v2, v]) Q E s := by
  refine goR (st := stAt 27) rfl hA O.O.S (O.O.fn 27 (by decide)) P fun I G s1 cdv A' hA' SI hG nt g out => ?_
  rw [← hG] at hv
  obtain ⟨a, t1, rr, rfl, hT⟩ := hv
  refine wpAny_execs_cons (g.iff (b := true) (fun ro => Tr.cast (Tr.neS (.tag (.loc rfl) hT) .cS) (by decide)) (fun _ s3 g => ?_) fun hb => by cases hb)
  exact last (wpAny_Return_none (q _ (out _ _ _ _ _ (TupLe.refl _) g)))

theorem check_trigger_id {n : Nat} {v : Value} {mm : Int} {x : Str} {Q : Value → Shared → Prop} (O : Okk C fa k) (hA : Am A (n + 2)) (P : RPre C r rows fz s.heap) (hp : RepIn k fz p r) (hc : Chn C k s.heap fz tv ch) (hz : rows.length ≤ 10000) (hv : Nm s.heap mm x v)
    (q : ∀ s', RPost r (rows ++ trgR (findS ch x) mm x) s s' → Q .none s') : wpAny C.M A (call (.ref (fa 26)) [.ref p, tv, v]) Q E s := by
  refine goR (st := stAt 26) rfl hA O.O.S (O.O.fn 26 (by decide)) P fun I G s1 cdv A' hA' SI hG nt g out => ?_
  rw [← hG] at hv hc
  obtain ⟨a, t1, t2, t3, rfl, hT⟩ := hv
  refine wpAny_execs_cons (g.iff (b := false) (fun ro => Tr.cast (Tr.neS (.tag (.loc rfl) hT) .cS) (by decide)) (fun hb => by cases hb) fun _ s3 g => ?_)
  refine wpAny_execs_nil (wpAny_execs_cons (g.find O SI nt hA' hc rfl (fun ro => .mono (.tup (.loc rfl) .cI hT) fun v h => ⟨_, h⟩) fun v s4 hev hle g => ?_))
  cases hf : findS ch x with
  | none =>
    rw [hf] at hev q
    obtain rfl : v = .none := hev
    refine last (g.iff (b := true) (fun ro => Tr.isN (.loc rfl) (.inl ⟨rfl, rfl⟩)) (fun _ s5 g => ?_) fun hb => by cases hb)
    refine last (g.add O SI nt hA' hp rfl hz (fun _ => .cS) (fun _ => .mono (.tup (.loc rfl) .cI (hle.tup hT)) fun v h => ⟨_, h⟩) (fun _ => .mono (.tup (.loc rfl) .cI (hle.tup hT)) fun v h => ⟨_, h⟩) fun s6 g hle2 => ?_)
    exact q _ (out _ _ _ _ _ (hle.trans hle2) g)
  | some st =>
    rw [hf] at hev q
    obtain ⟨ea, et, er, rfl, heT⟩ := hev
    refine last (g.iff (b := false) (fun ro => Tr.isN (.loc rfl) (.inr ⟨rfl, by simp⟩)) (fun hb => by cases hb) fun _ s5 g => ?_)
    refine last (g.iff (b := st != "event") (fun ro => Tr.neS (.tag (.loc rfl) heT) .cS) (fun hb s5 g => ?_) fun hb s5 g => ?_)
    · refine last (g.add O SI nt hA' hp rfl hz (fun _ => .cS) (fun _ => .mono (.tup (.loc rfl) .cI (hle.tup hT)) fun v h => ⟨_, h⟩) (fun _ => .mono (.tup (.loc rfl) .cI (hle.tup hT)) fun v h => ⟨_, h⟩) fun s6 g hle2 => ?_)
      have e : trgR (some st) mm x = [(("bad_event" : Str), mm, x)] := by unfold trgR; simp only; rw [if_neg (by simpa using hb)]
      rw [e] at q
      exact q _ (out _ _ _ _ _ (hle.trans hle2) g)
    · have e : trgR (some st) mm x = [] := by unfold trgR; simp only; rw [if_pos (by simpa using hb)]
      rw [e, List.append_nil] at q
      exact wpAny_execs_nil (q _ (out _ _ _ _ _ hle g))
theorem check_disable_id {n : Nat} {v : Value} {mm : Int} {x : Str} {Q : Value → Shared → Prop} (O : Okk C fa k) (hA : Am A (n + 2)) (P : RPre C r rows fz s.heap) (hp : RepIn k fz p r) (hc : Chn C k s.heap fz tv ch) (hz : rows.length ≤ 10000) (hv : Nm s.heap mm x v)
    (q : ∀ s', RPost r (rows ++ disR (findS ch x) mm x) s s' → Q .none s') : wpAny C.M A (call (.ref (fa 27)) [.ref p, tv, v]) Q E s := by
  refine goR (st := stAt 27) rfl hA O.O.S (O.O.fn 27 (by decide)) P fun I G s1 cdv A' hA' SI hG nt g out => ?_
  rw [← hG] at hv hc
  obtain ⟨a, t1, t2, t3, rfl, hT⟩ := hv
  refine wpAny_execs_cons (g.iff (b := false) (fun ro => Tr.cast (Tr.neS (.tag (.loc rfl) hT) .cS) (by decide)) (fun hb => by cases hb) fun _ s3 g => ?_)
  refine wpAny_execs_nil (wpAny_execs_cons (g.find O SI nt hA' hc rfl (fun ro => .mono (.tup (.loc rfl) .cI hT) fun v h => ⟨_, h⟩) fun v s4 hev hle g => ?_))
  refine last (g.iff (b := !okD (findS ch x)) (fun ro => ?_) (fun hb s5 g => ?_) fun hb s5 g => ?_)
  · cases hf : findS ch x with
    | none =>
      rw [hf] at hev
      obtain rfl : v = .none := hev
      exact Tr.cast (Tr.or2' (y := false) (Tr.isN (b := true) (.loc rfl) (.inl ⟨rfl, rfl⟩)) fun h => by cases h) rfl
    | some st =>
      rw [hf] at hev
      obtain ⟨ea, et, er, rfl, heT⟩ := hev
      refine Tr.cast (Tr.or2' (Tr.isN (b := false) (.loc rfl) (.inr ⟨rfl, by simp⟩)) fun h => Tr.notInS (.tag (.loc rfl) heT)) ?_
      simp [okD, Bool.beq_comm]
  · refine last (g.add O SI nt hA' hp rfl hz (fun _ => .cS) (fun _ => .mono (.tup (.loc rfl) .cI (hle.tup hT)) fun v h => ⟨_, h⟩) (fun _ => .mono (.tup (.loc rfl) .cI (hle.tup hT)) fun v h => ⟨_, h⟩) fun s6 g hle2 => ?_)
    have e : disR (findS ch x) mm x = [(("disable_unknown" : Str), mm, x)] := by unfold disR; rw [if_neg (by simpa using hb)]
    rw [e] at q
    exact q _ (out _ _ _ _ _ (hle.trans hle2) g)
  · have e : disR (findS ch x) mm x = [] := by unfold disR; rw [if_pos (by simpa using hb)]
    rw [e, List.append_nil] at q
    exact wpAny_execs_nil (q _ (out _ _ _ _ _ hle g))
end
end Mine
end

noncomputable section
open PySem PySem.W PyProof.Rows PySem.Calls PySem.Spec
set_option maxRecDepth 100000
set_option maxHeartbeats 4000000
namespace Mine
local macro_rules | `(tactic| walk_at "no") => `(tactic| exact Tr.cast (Tr.eqS (.locS rfl) .cS) (by decide))
section
variable {C : Cx} {A : Around} {E : Value → Shared → Prop} {s : Shared} {I : Info} {G : Heap} {m : Str → Option Value} {env : Env} {fa : Nat → Addr} {k : Kl} {r e p t : Addr} {par tv : Value} {rows : List Row} {es : Sc} {ch : List Sc} {fz tl led : List (Addr × Obj)}

theorem new_dict {pos : Pos} {Q : Value → Shared → Prop} (S : Stat C I.H) (X : St I m led s) (q : ∀ a o s', Dct C o [] → (a == sysModules) = false → s.heap.get? a = none → St I m ((a, o) :: led) s' → Q (.ref a) s') : wpAny C.M A (eval (.Dict [] [] pos) env) Q E s := by
  refine wpAny_Dict_empty ?_
  have hlt : mainGlobals < s.heap.objs.size := (X.stat S).T.g.lt
  have hne : (s.heap.objs.size == sysModules) = false := by
    have h3 : mainGlobals = 3 := by decide
    have h1 : sysModules = 1 := by decide
    rw [h3] at hlt; rw [h1]
    simp only [beq_eq_false_iff_ne]
    intro h
    have h2 : (3 : Nat) < s.heap.objs.size := hlt
    have h4 : s.heap.objs.size = (1 : Nat) := h
    lia
  refine q _ _ _ ?_ hne ?_ (X.push _)
  · obtain ⟨o, ho, hd⟩ := Heap.dictOf_iff.mp (Heap.DictOf.new (knd := strKind C.prog C.w) s.heap)
    rw [Heap.get?_push_size _ rfl] at ho
    exact (Option.some.inj ho) ▸ hd
  · cases h : s.heap.get? s.heap.objs.size with
    | none => rfl
    | some o => exact absurd (Heap.lt_size h) (Nat.lt_irrefl _)

theorem St.adopt {led' : List (Addr × Obj)} {s' : Shared} {a : Addr} {o : Obj} (x : St I m led s) (x' : St I m led' s') (he : led'.map (·.1) = led.map (·.1)) (h : s'.heap.get? a = some o) (hn : s.heap.get? a = none) : St I m ((a, o) :: led') s' where
  fr := x'.fr
  news := fun p hp => by
    rcases List.mem_cons.mp hp with rfl | hp
    · refine ⟨h, fun e => ?_, ?_⟩
      · obtain ⟨oL, es, ep, hL, _⟩ := x.fr.ns
        have e : a = I.L := e
        rw [e, hL] at hn; cases hn
      · cases q : I.H.get? a with
        | none => rfl
        | some oo => rw [x.fr.keep a oo q] at hn; cases hn
    · exact x'.news p hp
  nd := by
    rw [List.map_cons]
    refine List.nodup_cons.mpr ⟨fun q => ?_, x'.nd⟩
    rw [he] at q
    obtain ⟨p, hp, e⟩ := List.mem_map.mp q
    have e : p.1 = a := e
    have := (x.news p hp).1
    rw [e, hn] at this; cases this
  tup := x'.tup
  gens := x'.gens
  os := x'.os

theorem instN {c dx : Addr} : ¬ IsT (instObj c dx) := fun ⟨h, _⟩ => by cases h
theorem dictN {es : List DictEntry} {n : Nat} : ¬ IsT (dictOf es n) := fun ⟨h, _⟩ => by injection h with h; exact absurd h (by decide)

theorem new_table {n : Nat} {Q : Value → Shared → Prop} (O : Okk C fa k) (S : Stat C I.H) (hA : Am A (n + 2)) (X : St I m led s) (hpar : handedIn tv = true)
    (q : ∀ s' t d e es dn eo, St I m ((e, eo) :: (t, instObj k.cN d) :: (d, dictOf es dn) :: led) s' → getL "parent" es = some (some tv) → getL "entries" es = some (some (.ref e)) → (e == sysModules) = false → Dct C eo [] → Q (.ref t) s') :
    wpAny C.M A (call (.ref k.cN) [tv]) Q E s := by
  refine new_inst O.N S X fun s1 t d X1 => ?_
  have P : Pre C.B s1.heap [(t, instObj k.cN d), (d, dictOf [] 0)] := X1.pre (l1 := [_, _]) S fun p hp => by
    simp only [List.mem_cons, List.not_mem_nil, or_false] at hp
    rcases hp with rfl | rfl
    · exact instN
    · exact dictN
  refine enter (st := mtAt 2 0) (binds := [("self", .ref t), ("parent", tv)]) rfl (hA.under w_tc u_tc) O.O.S O.fN P rfl (fun _ _ _ _ _ => BindsTo.of_eq (by rfl)) (locs (by rfl)) (by decide) rfl rfl rfl fun I2 s2 cdv A' hA' hH hG hz SI X2 => ?_
  refine wpAny_execs_cons (plainObj_wpAny_Assign_Attribute ?_ (by rfl))
  refine Ev.useV (.loc rfl) X2 fun s3 X2 => ?_
  refine Ev.useV (.loc rfl) X2 fun s4 X2 => ?_
  refine set_att O.N SI X2.swap (.head _) O.aPar (by rfl) (by simp [putL]) fun s5 t5 X2 => ?_
  refine last (plainObj_wpAny_Assign_Attribute ?_ (by rfl))
  refine new_dict SI X2 fun e eo s6 hd hsm hfr X2 => ?_
  refine Ev.useV (.loc rfl) X2 fun s7 X2 => ?_
  refine set_att O.N SI X2.swap (.tail _ (.head _)) O.aEnt ?_ ?_ fun s8 t8 X2 => ?_
  · rfl
  · show 2 ≤ 1000
    lia
  obtain ⟨es, dn, X2, ge1, ge2⟩ : ∃ es dn, St I2 (fun y => List.lookup y [("parent", tv), ("self", .ref t)]) [(d, dictOf es dn), (e, eo), (t, instObj k.cN d)] s8 ∧ getL "parent" es = some (some tv) ∧ getL "entries" es = some (some (.ref e)) := ⟨_, _, X2, by rfl, by rfl⟩
  have hne : s1.heap.get? e = none := by
    have h1 := (X2.news _ (.tail _ (.head _))).2.2
    have nd := X2.nd
    rw [hH] at h1
    cases h : s1.heap.get? e with
    | none => rfl
    | some oo =>
      rw [hideAll_get _ h ?_] at h1
      · cases h1
      · intro hh
        simp only [List.map_cons, List.map_nil, List.mem_cons, List.not_mem_nil, or_false, List.nodup_cons] at hh nd
        rcases hh with rfl | rfl
        · exact nd.2.1 (by simp)
        · exact nd.1 (by simp)
  have PP := leave X2 hH (hG ▸ TupLe.refl _) hz
  refine ⟨rfl, ?_⟩
  have X3 := St.post (l1 := [(t, instObj k.cN d), (d, dictOf [] 0)]) (l1' := [(t, instObj k.cN d), (d, dictOf es dn)]) X1 PP rfl fun p hp => by
    simp only [List.mem_cons, List.not_mem_nil, or_false] at hp
    rcases hp with rfl | rfl
    · exact X2.get (.tail _ (.tail _ (.head _)))
    · exact X2.get (.head _)
  exact q _ t d e _ _ eo (X1.adopt X3 rfl (X2.get (.tail _ (.head _))) hne) ge1 ge2 hsm hd
end
end Mine
end

noncomputable section
open PySem PySem.W PyProof.Rows PySem.Calls PySem.Spec
set_option maxRecDepth 100000
set_option maxHeartbeats 4000000
namespace Mine
local macro_rules | `(tactic| walk_at "no") => `(tactic| exact Tr.cast (Tr.eqS (.locS rfl) .cS) (by decide))
section
variable {C : Cx} {A : Around} {E : Value → Shared → Prop} {s : Shared} {I : Info} {G : Heap} {m : Str → Option Value} {env : Env} {fa : Nat → Addr} {k : Kl} {r e p t : Addr} {par tv : Value} {rows : List Row} {es : Sc} {ch : List Sc} {fz tl led : List (Addr × Obj)}

structure Oka (C : Cx) (fa : Nat → Addr) (k : Kl) : Prop where
  K : Okk C fa k
  d17 : FnD C.K (nmAt 17) (fa 17) (stAt 17)
  d18 : FnD C.K (nmAt 18) (fa 18) (stAt 18)

theorem check_target_name0 {n : Nat} {v1 : Value} {av : Int} {x : Str} {t1 t2 : Tok} {Q : Value → Shared → Prop} (O : Oka C fa k) (hA : Am A (n + 2)) (P : RPre C r rows fz s.heap) (hc : Chn C k s.heap fz tv ch) (hf : findS ch x = some "var")
    (q : ∀ s', RPost r rows s s' → Q .none s') : wpAny C.M A (call (.ref (fa 18)) [v1, tv, .int av t1, .str x t2, .bool true, .bool false]) Q E s := by
  refine goRD (st := stAt 18) (binds := [("report", v1), ("table", tv), ("at", .int av t1), ("name", .str x t2), ("procedural", .bool true), ("inputs", .bool false)]) rfl hA O.K.O.S O.d18 P
    (fun T doc pm an cdv ct o n hT ho X => binds_K X rfl hT ho rfl rfl) fun I G s1 cdv A' hA' SI hG nt g out => ?_
  rw [← hG] at hc
  refine wpAny_execs_cons (g.find O.K SI nt hA' hc rfl (fun ro => .locS rfl) fun v s4 hev hle g => ?_)
  rw [hf] at hev
  obtain ⟨ea, et, er, rfl, heT⟩ := hev
  refine last (g.iff (b := false) (fun ro => Tr.isN (.loc rfl) (.inr ⟨rfl, by simp⟩)) (fun hb => by cases hb) fun _ s5 g => ?_)
  refine last (g.iff (b := false) (fun ro => Tr.cast (b := false || false) (Tr.or2 (Tr.cast (Tr.eqS (.tag (.loc rfl) heT) .cS) (by decide)) (Tr.cast (Tr.eqS (.tag (.loc rfl) heT) .cS) (by decide))) rfl) (fun hb => by cases hb) fun _ s5 g => ?_)
  refine last (g.iff (b := true) (fun ro => Tr.cast (Tr.eqS (.tag (.loc rfl) heT) .cS) (by decide)) (fun _ s5 g => ?_) fun hb => by cases hb)
  refine last (g.iff (b := false) (fun ro => Tr.cast (b := !true) (Tr.neg (Tr.ofB (.loc rfl))) rfl) (fun hb => by cases hb) fun _ s5 g => ?_)
  exact wpAny_execs_nil (q _ (out _ _ _ _ _ hle g))

theorem check_target0 {n : Nat} {v1 v : Value} {av : Int} {x : Str} {Q : Value → Shared → Prop} (O : Oka C fa k) (hA : Am A (n + 3)) (P : RPre C r rows fz s.heap) (hc : Chn C k s.heap fz tv ch) (hf : findS ch x = some "var") (hv : Nm s.heap av x v)
    (q : ∀ s', RPost r rows s s' → Q .none s') : wpAny C.M A (call (.ref (fa 17)) [v1, tv, v, .bool true]) Q E s := by
  refine goRD (st := stAt 17) (binds := [("report", v1), ("table", tv), ("lv", v), ("procedural", .bool true), ("inputs", .bool false)]) rfl hA O.K.O.S O.d17 P
    (fun T doc pm an cdv ct o n hT ho X => binds_K X rfl hT ho rfl rfl) fun I G s1 cdv A' hA' SI hG nt g out => ?_
  rw [← hG] at hc hv
  obtain ⟨a, t1, t2, t3, rfl, hT⟩ := hv
  refine wpAny_execs_cons (g.set (fun ro => .tag (.loc rfl) hT) fun v2 s2 e1 g => ?_)
  obtain ⟨u1, rfl⟩ := e1
  refine last (g.iff (b := false) (fun ro => by walk_at "no") (fun hb => by cases hb) fun _ s3 g => ?_)
  refine last (g.iff (b := false) (fun ro => by walk_at "no") (fun hb => by cases hb) fun _ s3 g => ?_)
  refine last (g.iff (b := true) (fun ro => by walk_at "no") (fun _ s3 g => ?_) fun hb => by cases hb)
  refine last (wpAny_Expr_any ?_ (by rfl) (by rfl))
  refine g.callX SI (O.K.O.nm 18 (by decide)) (O.K.O.fn 18 (by decide)) fun s4 g => ?_
  refine spliced_more (g.evV (fun _ => .loc rfl) fun s5 g => ?_)
  refine spliced_more (g.evV (fun _ => .loc rfl) fun s5 g => ?_)
  refine spliced_more (g.evV (fun _ => .tup (.loc rfl) .cI hT) fun s5 g => ?_)
  refine spliced_more (g.evV (fun _ => .tup (.loc rfl) .cI hT) fun s5 g => ?_)
  refine spliced_more (g.evV (fun _ => .loc rfl) fun s5 g => ?_)
  refine spliced_more (g.evV (fun _ => .loc rfl) fun s5 g => ?_)
  refine spliced_none ⟨g.KIn, ?_⟩
  refine check_target_name0 O hA' (g.pre SI nt) (hc.mono g.tup fun _ z => z) hf fun s6 P => ?_
  exact q _ (out _ _ _ _ _ (g.post P).2 (g.post P).1)

noncomputable def CSpec (C : Cx) (fa : Nat → Addr) (k : Kl) (d : Nat) : Prop := ∀ {A : Around} {E : Value → Shared → Prop} {s : Shared} {n : Nat} {r p : Addr} {tv : Value} {ch : List Sc} {w : Bool} {rows : List Row} {fz : List (Addr × Obj)} {tr : T} {v : Value} {Q : Value → Shared → Prop},
  tr.ok d → Am A (n + 4 * d + 8) → RPre C r rows fz s.heap → RepIn k fz p r → Chn C k s.heap fz tv ch → findS ch "i" = some "var" → rows.length + (chk w tr ch).length ≤ 500 → tr.cnt ≤ 60 → handedIn tv = true → Tree s.heap tr v →
  (∀ s', RPost r (rows ++ chk w tr ch) s s' → Q .none s') → wpAny C.M A (call (.ref (fa 21)) [.ref p, tv, v, .bool w]) Q E s

theorem Rs.stmt {d n : Nat} {tn : Str} {x : Expr} {tr : T} {v : Value} {w : Bool} {p1 p2 p3 p4 p5 p6 : Pos} {Q : Flow → Shared → Prop} (g : Rs C I G m r rows fz tl s) (ih : CSpec C fa k d) (O : Okk C fa k) (SI : ∀ G, Stat C (I.on G).H) (nt : Nt fz) (hA : Am A (n + 4 * d + 8)) (hp : RepIn k fz p r) (hch : Chn C k G fz tv ch) (hfi : findS ch "i" = some "var") (htv : handedIn tv = true)
    (hm : m "report" = some (.ref p)) (hm2 : m tn = some tv) (hm3 : m "timing" = some (.bool w)) (hx : ∀ ro, Ev C A env (I.on G) m ((r, ro) :: (fz ++ tl)) x (Is v)) (hv : Tree G tr v) (hok : tr.ok d) (hz : rows.length + (chk w tr ch).length ≤ 500) (hcn : tr.cnt ≤ 60)
    (q : ∀ s', Rs C I s'.heap m r (rows ++ chk w tr ch) fz tl s' → TupLe G s'.heap → Q .next s')
    (hE : EOk env I := by exact ⟨rfl, rfl, rfl, rfl⟩) (hl : env.kindOf "check_stmt" = some .globalImplicit := by rfl) (hl1 : env.kindOf "report" = some .local := by rfl) (hl2 : env.kindOf tn = some .local := by rfl) (hl3 : env.kindOf "timing" = some .local := by rfl) (hdn : (tn == ("__debug__" : Str)) = false := by rfl)
    (he1 : starEach [.Name "report" p2, .Name tn p3, x, .Name "timing" p6] env = (false, eval (.Name "report" p2) env) :: starEach [.Name tn p3, x, .Name "timing" p6] env := by rfl)
    (he2 : starEach [.Name tn p3, x, .Name "timing" p6] env = (false, eval (.Name tn p3) env) :: starEach [x, .Name "timing" p6] env := by rfl) (he3 : starEach [x, .Name "timing" p6] env = (false, eval x env) :: starEach [.Name "timing" p6] env := by rfl)
    (hpp : (backTo p4 (starEach [.Name tn p3, x, .Name "timing" p6] env)).any (·.1) = false := by rfl)
    (hc : eval (.Call (.Name "check_stmt" p1) [.Name "report" p2, .Name tn p3, x, .Name "timing" p6] [] p4) env = (do callWith p4 (← eval (.Name "check_stmt" p1) env) [] (backTo p4 (starEach [.Name "report" p2, .Name tn p3, x, .Name "timing" p6] env)) (backToKw p4 (keywordEach [] env))) := by rfl)
    (hi : interactive env = false := by rfl) (hsw : swapsWith (.Call (.Name "check_stmt" p1) [.Name "report" p2, .Name tn p3, x, .Name "timing" p6] [] p4) none p5.line env = pure false := by rfl) :
    wpAny C.M A (exec (.Expr (.Call (.Name "check_stmt" p1) [.Name "report" p2, .Name tn p3, x, .Name "timing" p6] [] p4) p5) env) Q E s := by
  have hE' : EOk env (I.on G) := ⟨hE.hk, hE.hL, hE.hg, hE.hb⟩
  refine wpAny_Expr_any ?_ hi hsw
  refine g.callX SI (O.O.nm 21 (by decide)) (O.O.fn 21 (by decide)) (fun s4 g => ?_) hE hl (by rfl) he1 hpp hc
  refine spliced_more (g.evV (fun _ => .loc hm hE' hl1) fun s5 g => ?_) he1
  refine spliced_more (g.evV (fun _ => .loc hm2 hE' hl2 hdn) fun s5 g => ?_) he2
  refine spliced_more (g.evV hx fun s5 g => ?_) he3
  refine spliced_more (g.evV (fun _ => .loc hm3 hE' hl3) fun s5 g => ?_)
  refine spliced_none ⟨g.KIn, ?_⟩
  exact ih hok hA (g.pre SI nt) hp (hch.mono g.tup fun _ z => z) hfi hz hcn htv (Tree.le g.tup _ _ hv) fun s' P => q s' (g.post P).1 (g.post P).2

theorem chks_take (w : Bool) (ch : List Sc) (ts : List T) (i : Nat) (tr : T) (h : ts[i]? = some tr) : chks w (ts.take (i + 1)) ch = chks w (ts.take i) ch ++ chk w tr ch := by
  induction ts generalizing i with
  | nil => simp at h
  | cons a ts ih =>
    cases i with
    | zero => simp at h; subst h; simp [chks]
    | succ i =>
      simp at h
      rw [List.take_succ_cons, List.take_succ_cons, chks, chks, ih i h, List.append_assoc]
theorem cnts_take (ts : List T) (i : Nat) (tr : T) (h : ts[i]? = some tr) : T.cnts (ts.take i) + tr.cnt ≤ T.cnts ts := by
  induction ts generalizing i with
  | nil => simp at h
  | cons a ts ih =>
    cases i with
    | zero => simp at h; subst h; simp [T.cnts]
    | succ i =>
      simp at h
      have := ih i h
      rw [List.take_succ_cons, T.cnts, T.cnts]; lia
theorem declAll_one : ∀ {ds : List D}, ds.length ≤ 2 → (declAll ds ([], [])).1.length ≤ 1
  | [], _ => by simp [declAll]
  | [a], _ => by simp [declAll, putE]
  | [a, b], _ => by
    simp only [declAll, putE, List.foldl_cons, List.foldl_nil, List.lookup_nil, Option.isSome_none, if_neg, List.nil_append, Bool.false_eq_true, if_false]
    split <;> simp
  | a :: b :: c :: r, h => by simp at h
theorem tim_len (b : Bool) (m : Int) : (tim b m).length ≤ 1 := by unfold tim; split <;> simp
mutual
theorem chk_len (w : Bool) : ∀ (t : T) (d : Nat) (ch : List Sc), t.ok d → (chk w t ch).length + (labs t).length ≤ 3 * t.cnt
  | .non, d, ch, h => by simp [chk, labs, T.cnt]
  | .dis m m2 x, d, ch, h => by simp only [chk, labs, T.cnt, disR]; split <;> simp
  | .trg m m2 x, d, ch, h => by
    simp only [chk, labs, T.cnt, trgR]; split
    · simp
    · split <;> simp
  | .pth _ m, d, ch, h => by simp [chk, labs, T.cnt]
  | .blk fk m lab ds ts, 0, ch, h => h.elim
  | .blk fk m lab ds ts, d + 1, ch, h => by
    have h1 := chks_len w ts d ch h.2.2.2.2
    have h2 := chks_len w ts d ((runLabs (labsL ts) (declAll ds ([], []))).2 :: ch) h.2.2.2.2
    have h3 := runLabs_len (labsL ts) (declAll ds ([], []))
    have h4 := declAll_len ds ([], [])
    have h5 := declAll_one h.2.1
    have h6 := tim_len (!w && fk) m
    simp only [List.length_nil] at h4
    simp only [chk, labs, T.cnt, List.length_append]
    cases lab with
    | some x =>
      rw [if_pos (by simp)]
      simp only [List.length_append, List.length_cons, List.length_nil]
      lia
    | none =>
      by_cases hds : ds = []
      · rw [if_neg (by simp [hds])]
        simp only [hds, if_pos]
        lia
      · rw [if_pos (by simpa using hds)]
        simp only [hds, if_neg, if_false, List.length_append, List.length_nil]
        lia
  | .cho m a b, 0, ch, h => h.elim
  | .cho m a b, d + 1, ch, h => by have := chk_len w a d ch h.1; have := chk_len w b d ch h.2; simp only [chk, labs, T.cnt, List.length_append]; lia
  | .cas m a b, 0, ch, h => h.elim
  | .cas m a b, d + 1, ch, h => by have := chk_len w a d ch h.1; have := chk_len w b d ch h.2; simp only [chk, labs, T.cnt, List.length_append]; lia
  | .one kk m a, 0, ch, h => h.elim
  | .one kk m a, d + 1, ch, h => by have := chk_len w a d ch h; have := tim_len (!w && kk.waits) m; simp only [chk, labs, T.cnt, List.length_append]; lia
  | .fev m a, 0, ch, h => h.elim
  | .fev m a, d + 1, ch, h => by have := chk_len w a d ch h; simp only [chk, labs, T.cnt]; lia
  | .awt m a, 0, ch, h => h.elim
  | .awt m a, d + 1, ch, h => by have := chk_len w a d ch h; have := tim_len (!w) m; simp only [chk, labs, T.cnt, List.length_append]; lia
  | .lop m a, 0, ch, h => h.elim
  | .lop m a, d + 1, ch, h => by have := chk_len w a d ch h; simp only [chk, labs, T.cnt]; lia
theorem chks_len (w : Bool) : ∀ (ts : List T) (d : Nat) (ch : List Sc), T.oks d ts → (chks w ts ch).length + (labsL ts).length ≤ 3 * T.cnts ts
  | [], d, ch, h => by simp [chks, labsL, T.cnts]
  | t :: ts, d, ch, h => by have := chk_len w t d ch h.1; have := chks_len w ts d ch h.2; simp only [chks, labsL, T.cnts, List.length_append]; lia
end
end
end Mine
end

noncomputable section
open PySem PySem.W PyProof.Rows PySem.Calls PySem.Spec
set_option maxRecDepth 100000
set_option maxHeartbeats 4000000
namespace Mine
section
variable {C : Cx} {A : Around} {E : Value → Shared → Prop} {s : Shared} {I : Info} {G : Heap} {m : Str → Option Value} {env : Env} {fa : Nat → Addr} {k : Kl} {r e p t : Addr} {par tv : Value} {rows : List Row} {es : Sc} {ch : List Sc} {fz tl led : List (Addr × Obj)}

noncomputable def blkR (w : Bool) (lab : Option Str) (ds : List D) (ts : List T) (ch : List Sc) : List Row :=
  if (lab.isSome || !ds.isEmpty) = true then (runLabs (labsL ts) (declAll ds ([], []))).1 ++ chks w ts ((runLabs (labsL ts) (declAll ds ([], []))).2 :: ch) else chks w ts ch

theorem declAll_take (ds : List D) (i : Nat) (d : D) (q : List Row × Sc) (h : ds[i]? = some d) : declAll (ds.take (i + 1)) q = putE "duplicate" (dup d) d.x d.m (declAll (ds.take i) q) := by
  have : ds.take (i + 1) = ds.take i ++ [d] := by rw [List.take_add_one, h]; rfl
  rw [this]
  unfold declAll
  rw [List.foldl_append]; rfl

theorem putE_i {dup st x : Str} {av : Int} {q : List Row × Sc} (h : List.lookup ("i" : Str) q.2 = none) (hx : x ≠ "i") : List.lookup ("i" : Str) (putE dup st x av q).2 = none := by
  unfold putE
  split
  · exact h
  · simp only
    rw [List.lookup_append, h, List.lookup_cons, show (("i" : Str) == x) = false by simpa using fun e => hx e.symm]
    rfl
theorem declAll_i : ∀ {ds : List D} {q : List Row × Sc}, List.lookup ("i" : Str) q.2 = none → (∀ d ∈ ds, d.x ≠ "i") → List.lookup ("i" : Str) (declAll ds q).2 = none
  | [], q, h, _ => h
  | d :: ds, q, h, hd => declAll_i (ds := ds) (putE_i h (hd d (.head _))) fun e he => hd e (.tail _ he)
theorem runLabs_i : ∀ {ls : List (Str × Int)} {q : List Row × Sc}, List.lookup ("i" : Str) q.2 = none → (∀ l ∈ ls, l.1 ≠ "i") → List.lookup ("i" : Str) (runLabs ls q).2 = none
  | [], q, h, _ => h
  | d :: ds, q, h, hd => runLabs_i (ls := ds) (putE_i h (hd d (.head _))) fun e he => hd e (.tail _ he)
mutual
theorem labs_i : ∀ (t : T) (d : Nat), t.ok d → ∀ l ∈ labs t, l.1 ≠ "i"
  | .non, d, h, l, hl => by simp [labs] at hl
  | .dis m m2 x, d, h, l, hl => by simp [labs] at hl
  | .trg m m2 x, d, h, l, hl => by simp [labs] at hl
  | .pth _ m, d, h, l, hl => by simp [labs] at hl
  | .blk fk m lab ds ts, 0, h, l, hl => h.elim
  | .blk fk m lab ds ts, d + 1, h, l, hl => by
    cases lab with
    | some x => simp [labs] at hl; subst hl; exact h.1 x rfl
    | none =>
      simp only [labs] at hl
      split at hl
      · exact labsL_i ts d h.2.2.2.2 l hl
      · cases hl
  | .cho m a b, 0, h, l, hl => h.elim
  | .cho m a b, d + 1, h, l, hl => by rw [labs] at hl; rcases List.mem_append.mp hl with hl | hl; exact labs_i a d h.1 l hl; exact labs_i b d h.2 l hl
  | .cas m a b, 0, h, l, hl => h.elim
  | .cas m a b, d + 1, h, l, hl => by rw [labs] at hl; rcases List.mem_append.mp hl with hl | hl; exact labs_i a d h.1 l hl; exact labs_i b d h.2 l hl
  | .one kk m a, 0, h, l, hl => h.elim
  | .one kk m a, d + 1, h, l, hl => by rw [labs] at hl; exact labs_i a d h l hl
  | .fev m a, 0, h, l, hl => h.elim
  | .fev m a, d + 1, h, l, hl => by rw [labs] at hl; exact labs_i a d h l hl
  | .awt m a, 0, h, l, hl => h.elim
  | .awt m a, d + 1, h, l, hl => by rw [labs] at hl; exact labs_i a d h l hl
  | .lop m a, 0, h, l, hl => h.elim
  | .lop m a, d + 1, h, l, hl => by rw [labs] at hl; exact labs_i a d h l hl
theorem labsL_i : ∀ (ts : List T) (d : Nat), T.oks d ts → ∀ l ∈ labsL ts, l.1 ≠ "i"
  | [], d, h, l, hl => by simp [labsL] at hl
  | t :: ts, d, h, l, hl => by rw [labsL] at hl; rcases List.mem_append.mp hl with hl | hl; exact labs_i t d h.1 l hl; exact labsL_i ts d h.2 l hl
end
theorem findS_i {ts : List T} {ds : List D} {d : Nat} (hf : findS ch "i" = some "var") (hd : ∀ e ∈ ds, e.x ≠ "i") (ht : T.oks d ts) : findS ((runLabs (labsL ts) (declAll ds ([], []))).2 :: ch) "i" = some "var" := by
  rw [findS_cons, runLabs_i (declAll_i rfl hd) (labsL_i ts d ht)]
  exact hf

theorem chks_take_le (w : Bool) (ch : List Sc) {ts : List T} {i : Nat} {tr : T} (h : ts[i]? = some tr) : (chks w (ts.take i) ch).length + (chk w tr ch).length ≤ (chks w ts ch).length := by
  have h1 := chks_take w ch ts i tr h
  have h2 : ∀ (ts : List T) (i : Nat), (chks w (ts.take i) ch).length ≤ (chks w ts ch).length := by
    intro ts
    induction ts with
    | nil => intro i; simp
    | cons a ts ih =>
      intro i
      cases i with
      | zero => simp [chks]
      | succ i => rw [List.take_succ_cons, chks, chks, List.length_append, List.length_append]; have := ih i; lia
  have h3 := h2 ts (i + 1)
  rw [h1, List.length_append] at h3
  exact h3

theorem check_case_spec {d n : Nat} {w : Bool} {mk : Int} {ta tb : T} {v : Value} {Q : Value → Shared → Prop} (ih : CSpec C fa k d) (O : Oka C fa k) (hok : (T.cas mk ta tb).ok (d + 1)) (hA : Am A (n + 4 * d + 9)) (P : RPre C r rows fz s.heap) (hp : RepIn k fz p r) (hc : Chn C k s.heap fz tv ch) (hf : findS ch "i" = some "var") (htv : handedIn tv = true)
    (hz : rows.length + (chk w ta ch ++ chk w tb ch).length ≤ 500) (hcn : ta.cnt + tb.cnt ≤ 60) (hv : Tree s.heap (.cas mk ta tb) v) (q : ∀ s', RPost r (rows ++ (chk w ta ch ++ chk w tb ch)) s s' → Q .none s') :
    wpAny C.M A (call (.ref (fa 23)) [.ref p, tv, v, .bool w]) Q E s := by
  refine goR (st := stAt 23) rfl hA O.K.O.S (O.K.O.fn 23 (by decide)) P fun I G s1 cdv A' hA' SI hG nt g out => ?_
  rw [← hG] at hv hc
  obtain ⟨a, t1, t2, z, o, cc, p1, p2, l, lo, va, vb, rfl, hT, ho, hcc, hp1, hl, hlo, hp2, hva, hvb⟩ := hv
  refine wpAny_execs_cons (g.num O.K SI nt (hA'.le (k := 0 + 1) (by lia)) rfl rfl (fun _ => .tup (.loc rfl) .cI hT) ho fun s2 g hle1 => ?_)
  refine wpAny_execs_cons (g.set (fun ro => .cI) fun v1 s3 e1 g => ?_)
  obtain ⟨u1, rfl⟩ := e1
  rw [show rows = rows ++ chks w ([ta, tb].take 0) ch by simp [chks]] at g
  refine wpAny_execs_cons (g.forT (vs := [.ref p1, .ref p2]) (fun i => rows ++ chks w ([ta, tb].take i) ch) hA'.hh (hle1.tup hcc) (fun ro => .tup (.loc rfl) .cI (hle1.tup hT)) (fun i m' => m' "report" = some (.ref p) ∧ m' "table" = some tv ∧ m' "timing" = some (.bool w) ∧ ∃ c u, m' "defaults" = some (.int c u) ∧ c = (if i = 2 then 1 else 0)) ⟨rfl, rfl, rfl, 0, _, rfl, rfl⟩ ?_ ?_)
  · intro i G' m' s7 v qq E' hvi hle hk g
    have hle := hle1.trans hle
    obtain ⟨k1, k2, k3, cnt, cu, k4, k5⟩ := hk
    match i, hvi with
    | 0, hvi =>
      cases hvi
      obtain ⟨ro, X, w1⟩ := g
      refine two_targets X hA'.hh (hle.tup hp1) (fun s8 X => ?_) ⟨rfl, rfl, rfl, rfl⟩
      have g : Rs C I G' _ r (rows ++ chks w ([ta, tb].take 0) ch) fz (qq :: []) s8 := ⟨ro, X, w1⟩
      refine wpAny_execs_cons (g.iff (b := false) (fun ro => Tr.isN (.loc rfl) (.inr ⟨rfl, by simp⟩)) (fun hb => by cases hb) fun _ s9 g => ?_)
      refine last (wpAny_Expr_any ?_ (by rfl) (by rfl))
      refine g.callX SI (O.K.O.nm 11 (by decide)) (O.K.O.fn 11 (by decide)) fun s4 g => ?_
      refine spliced_more (g.evV (fun _ => .loc (by exact k1)) fun s5 g => ?_)
      refine spliced_more (g.evV (fun _ => .loc (by exact k2)) fun s5 g => ?_)
      refine spliced_more (g.evV (fun _ => .loc (by rfl)) fun s5 g => ?_)
      refine spliced_none ⟨g.KIn, ?_⟩
      refine check_each1 O.K (hA'.le (k := 0 + 2) (by lia)) (g.pre SI nt) (g.tup.tup (hle.tup hl)) (hlo.le (hle.trans g.tup)) fun s6 P => ?_
      have hle2 := hle.trans (g.post P).2
      have hle3 := (g.post P).2
      replace g := (g.post P).1
      simp only [List.take_zero, chks, List.append_nil] at g
      rw [List.length_append] at hz
      refine last (g.stmt ih O.K SI nt (hA'.le (k := 0 + 4 * d + 8) (by lia)) hp (hc.mono hle2 fun _ z => z) hf htv (by exact k1) (by exact k2) (by exact k3) (fun _ => .loc (by rfl)) (Tree.le hle2 _ _ hva) hok.1 (by lia) (by lia) fun s10 g hle4 => ?_)
      refine ⟨.inl rfl, s10.heap, _, hle3.trans hle4, ?_, by simpa [chks] using g⟩
      exact ⟨k1, k2, k3, cnt, cu, k4, by rw [k5]; rfl⟩
    | 1, hvi =>
      cases hvi
      obtain ⟨ro, X, w1⟩ := g
      refine two_targets X hA'.hh (hle.tup hp2) (fun s8 X => ?_) ⟨rfl, rfl, rfl, rfl⟩
      have g : Rs C I G' _ r (rows ++ chks w ([ta, tb].take 1) ch) fz (qq :: []) s8 := ⟨ro, X, w1⟩
      refine wpAny_execs_cons (g.iff (b := true) (fun ro => Tr.isN (.loc rfl) (.inl ⟨rfl, rfl⟩)) (fun _ s9 g => ?_) fun hb => by cases hb)
      refine last (wpAny_AugAssign_Name ?_)
      obtain ⟨ro, X, w1⟩ := g
      refine wpAny_loadName_local rfl (by rfl) X.fr.ns (by exact k4) ?_
      refine Ev.use .cI X fun v1 s5 e1 X => ?_
      obtain ⟨u1, rfl⟩ := e1
      refine iadd_int (Mine.store X.toks fun s6 X => ?_)
      have g : Rs C I G' _ r (rows ++ chks w ([ta, tb].take 1) ch) fz (qq :: []) s6 := ⟨ro, X, w1⟩
      have e1 : chks w ([ta, tb].take 1) ch = chk w ta ch := by simp [chks]
      rw [e1] at g
      rw [List.length_append] at hz
      refine last (g.stmt ih O.K SI nt (hA'.le (k := 0 + 4 * d + 8) (by lia)) hp (hc.mono hle fun _ z => z) hf htv (by exact k1) (by exact k2) (by exact k3) (fun _ => .loc (by rfl)) (Tree.le hle _ _ hvb) hok.2 (by rw [List.length_append]; lia) (by lia) fun s10 g hle4 => ?_)
      refine ⟨.inl rfl, s10.heap, _, hle4, ?_, by simpa [chks] using g⟩
      exact ⟨k1, k2, k3, cnt + 1, _, rfl, by rw [k5]; rfl⟩
  · intro G' m' s7 hle hk g
    obtain ⟨k1, k2, k3, cnt, cu, k4, k5⟩ := hk
    refine last (g.iff (b := false) (fun ro => Tr.cast (Tr.gtI (.locI (by exact k4)) .cI) (by rw [k5]; rfl)) (fun hb => by cases hb) fun _ s8 g => ?_)
    simp only [List.length_cons, List.length_nil, chks, List.take, List.append_nil] at g
    exact wpAny_execs_nil (q _ (out _ _ _ _ _ (hle1.trans hle) g))

theorem check_block_spec {d n : Nat} {w fk : Bool} {mk : Int} {lab : Option Str} {ds : List D} {ts : List T} {v : Value} {Q : Value → Shared → Prop} (ih : CSpec C fa k d) (O : Oka C fa k) (hok : (T.blk fk mk lab ds ts).ok (d + 1)) (hA : Am A (n + 4 * d + 11)) (P : RPre C r rows fz s.heap) (hp : RepIn k fz p r) (hc : Chn C k s.heap fz tv ch) (hf : findS ch "i" = some "var") (htv : handedIn tv = true)
    (hz : rows.length + (blkR w lab ds ts ch).length ≤ 500) (hcn : T.cnts ts ≤ 60) (hv : Tree s.heap (.blk fk mk lab ds ts) v) (q : ∀ s', RPost r (rows ++ blkR w lab ds ts ch) s s' → Q .none s') :
    wpAny C.M A (call (.ref (fa 22)) [.ref p, tv, v, .bool w]) Q E s := by
  refine goR (st := stAt 22) rfl hA O.K.O.S (O.K.O.fn 22 (by decide)) P fun I G s1 cdv A' hA' SI hG nt g out => ?_
  rw [← hG] at hv hc
  obtain ⟨a, t1, t2, lv, da, dvs, ta, tvs, rfl, hT, hlab, hda, hds, hta, hts⟩ := hv
  have hlen := hts.all2.length
  have hdlen := hds.length
  refine wpAny_execs_cons (g.set (fun ro => .loc rfl) fun v1 s2 e1 g => ?_)
  obtain rfl := e1.symm
  refine seq (P := fun s' => ∃ G' m' fz1 rows1 tv1 ch1, Rs C I G' m' r rows1 fz1 [] s' ∧ TupLe G G' ∧ Nt fz1 ∧ (∃ x, fz1 = x ++ fz) ∧ Chn C k G' fz1 tv1 ch1 ∧ findS ch1 "i" = some "var" ∧ handedIn tv1 = true ∧ m' "report" = some (.ref p) ∧ m' "inner" = some tv1 ∧ m' "timing" = some (.bool w) ∧ m' "s" = some (.ref a) ∧ rows1 ++ chks w ts ch1 = rows ++ blkR w lab ds ts ch) ?_ ?_
  · refine g.iff (b := lab.isSome || !ds.isEmpty) (fun ro => ?_) (fun hb s3 g => ?_) fun hb s3 g => ?_
    · refine Tr.or2' (Tr.isNotN (.tup (.loc rfl) .cI hT) ?_) fun _ => Tr.cast (Tr.gtI (Ev.lenT SI O.K.O (.tup (.loc rfl) .cI hT) hda (by have := hok.2.1; lia)) .cI) ?_
      · cases lab with
        | none => exact .inl ⟨rfl, hlab⟩
        | some x => obtain ⟨tx, rfl⟩ := hlab; exact .inr ⟨rfl, by simp⟩
      · rw [← hdlen]; cases ds <;> simp
    · have hblk : blkR w lab ds ts ch = (runLabs (labsL ts) (declAll ds ([], []))).1 ++ chks w ts ((runLabs (labsL ts) (declAll ds ([], []))).2 :: ch) := by unfold blkR; rw [if_pos hb]
      refine wpAny_execs_cons (wpAny_Assign_Name ?_ (by rfl))
      obtain ⟨ro, X, w1⟩ := g
      refine ev_callK (SI G) O.K.nN O.K.N.keep X fun s4 X => ?_
      refine spliced_more (Ev.useV (.loc rfl) X fun s5 X => ?_)
      refine spliced_none ⟨(X.stat (SI G)).X, ?_⟩
      refine new_table (n := n) O.K (SI G) (hA'.le (by lia)) X htv fun s6 tb dd e des dn eo X he1 he2 hsm hde => ?_
      refine Mine.store X (fun s7 X => ?_) ⟨rfl, rfl, rfl, rfl⟩ (by rfl)
      have g : Ds C I G _ r rows e [] ((tb, instObj k.cN dd) :: (dd, dictOf des dn) :: fz) [] s7 := ⟨eo, ⟨ro, X.perm (by
        refine (List.Perm.cons _ ?_).trans (List.Perm.swap _ _ _)
        exact (List.Perm.cons _ (List.Perm.swap _ _ _)).trans (List.Perm.swap _ _ _)), w1⟩, [], hde, .nil⟩
      generalize hfz : ((tb, instObj k.cN dd) :: (dd, dictOf des dn) :: fz) = fz2 at g
      have hsub : ∀ q ∈ fz, q ∈ fz2 := fun q hq => hfz ▸ .tail _ (.tail _ hq)
      have nt2 : Nt fz2 := by
        subst hfz
        intro q hq
        rcases List.mem_cons.mp hq with rfl | hq
        · exact instN
        rcases List.mem_cons.mp hq with rfl | hq
        · exact dictN
        exact nt q hq
      have htab : TabIn k fz2 tb tv e := ⟨dd, des, dn, hfz ▸ .head _, hfz ▸ .tail _ (.head _), he1, he2, htv, hsm⟩
      have hp2 := hp.mono hsub
      have hcnt := chks_len w ts d ch hok.2.2.2.2
      have hdl := hok.2.1
      have hz0 : rows.length ≤ 500 := by lia
      have hsuf : ∃ x, fz2 = x ++ fz := ⟨[_, _], hfz.symm⟩
      clear X w1 hde hfz
      refine wpAny_execs_cons (g.forT (vs := dvs) (fun i => declAll (ds.take i) (rows, [])) hA'.hh hda (fun ro eo => .tup (.loc (by rfl)) .cI hT) (fun m' => m' "report" = some (.ref p) ∧ m' "inner" = some (.ref tb) ∧ m' "timing" = some (.bool w) ∧ m' "s" = some (.ref a)) ⟨rfl, rfl, rfl, rfl⟩ ?_ ?_)
      · intro i G' m' s8 v qq E' hvi hle hk g
        obtain ⟨dc, hdc, hdv⟩ := hds.get hvi
        have hln := declAll_len (ds.take i) (rows, [])
        have htk : (ds.take i).length ≤ 2 := by rw [List.length_take]; lia
        simp only [List.length_nil] at hln
        refine wpAny_assign_Name ?_
        obtain ⟨eo, g, hes⟩ := g
        refine g.store fun s9 g => ?_
        have g : Ds C I G' _ r (declAll (ds.take i) (rows, [])).1 e (declAll (ds.take i) (rows, [])).2 fz2 (qq :: []) s9 := ⟨eo, g, hes⟩
        refine last (wpAny_Expr_any ?_ (by rfl) (by rfl))
        refine g.callX SI (O.K.O.nm 9 (by decide)) (O.K.O.fn 9 (by decide)) fun s4 g => ?_
        refine spliced_more (g.evV (fun _ _ => .loc (by exact hk.1)) fun s5 g => ?_)
        refine spliced_more (g.evV (fun _ _ => .loc (by exact hk.2.1)) fun s5 g => ?_)
        refine spliced_more (g.evV (fun _ _ => .loc (by rfl)) fun s5 g => ?_)
        refine spliced_more (g.evV (fun _ _ => .cB) fun s5 g => ?_)
        refine spliced_none ⟨⟨_, _, _, _, _, _, _, g⟩, ?_⟩
        refine declare_item_spec O.K (hA'.le (k := 0 + 3) (by lia)) (g.pre SI nt2) hp2 htab (by lia) (by lia) (hdv.le (hle.trans g.tup)) fun s10 P => ?_
        refine ⟨.inl rfl, s10.heap, _, (g.post P).2, ?_, by rw [declAll_take ds i dc _ hdc]; exact (g.post P).1⟩
        exact hk
      · intro G1 m1 s8 hle1 hk1 g
        rw [← hdlen, List.take_length] at g
        have hln1 := declAll_len ds (rows, [])
        simp only [List.length_nil] at hln1
        refine wpAny_execs_cons (g.forT (vs := tvs) (fun i => runLabs (labsL (ts.take i)) (declAll ds (rows, []))) hA'.hh (hle1.tup hta) (fun ro eo => .tup (.loc (by exact hk1.2.2.2)) .cI (hle1.tup hT)) (fun m' => m' "report" = some (.ref p) ∧ m' "inner" = some (.ref tb) ∧ m' "timing" = some (.bool w) ∧ m' "s" = some (.ref a)) hk1 ?_ ?_)
        · intro i G' m' s9 v qq E' hvi hle hk g
          obtain ⟨tr, htr, hvt⟩ := All2.getTree hts hvi
          have hll := labsL_le htr
          have hrl := runLabs_len (labsL (ts.take i)) (declAll ds (rows, []))
          refine wpAny_assign_Name ?_
          obtain ⟨eo, g, hes⟩ := g
          refine g.store fun s10 g => ?_
          have g : Ds C I G' _ r (runLabs (labsL (ts.take i)) (declAll ds (rows, []))).1 e (runLabs (labsL (ts.take i)) (declAll ds (rows, []))).2 fz2 (qq :: []) s10 := ⟨eo, g, hes⟩
          refine last (wpAny_Expr_any ?_ (by rfl) (by rfl))
          refine g.callX SI (O.K.O.nm 20 (by decide)) (O.K.O.fn 20 (by decide)) fun s4 g => ?_
          refine spliced_more (g.evV (fun _ _ => .loc (by exact hk.1)) fun s5 g => ?_)
          refine spliced_more (g.evV (fun _ _ => .loc (by exact hk.2.1)) fun s5 g => ?_)
          refine spliced_more (g.evV (fun _ _ => .loc (by rfl)) fun s5 g => ?_)
          refine spliced_none ⟨⟨_, _, _, _, _, _, _, g⟩, ?_⟩
          refine labels_spec O.K d (oks_get hok.2.2.2.2 htr) (hA'.le (k := 0 + d + 3) (by lia)) (g.pre SI nt2) hp2 htab (by lia) (Tree.le ((hle1.trans hle).trans g.tup) _ _ hvt) fun s11 P => ?_
          refine ⟨.inl rfl, s11.heap, _, (g.post P).2, ?_, by rw [labsL_take ts i tr htr, runLabs_app]; exact (g.post P).1⟩
          exact hk
        · intro G2 m2 s9 hle2 hk2 g
          rw [← hlen, List.take_length] at g
          have hlee := hle1.trans hle2
          obtain ⟨eo2, g, hes2⟩ := g
          refine last (g.forT (vs := dvs) (fun _ => (runLabs (labsL ts) (declAll ds (rows, []))).1) hA'.hh (hlee.tup hda) (fun ro => .tup (.loc (by exact hk2.2.2.2)) .cI (hlee.tup hT)) (fun _ m' => m' "report" = some (.ref p) ∧ m' "inner" = some (.ref tb) ∧ m' "timing" = some (.bool w) ∧ m' "s" = some (.ref a)) hk2 ?_ ?_)
          · intro i G' m' s10 v qq E' hvi hle hk g
            obtain ⟨dc, hdc, hdv⟩ := hds.get hvi
            refine wpAny_assign_Name (g.store fun s11 g => ?_)
            refine last (wpAny_Expr_any ?_ (by rfl) (by rfl))
            refine g.callX SI (O.K.O.nm 16 (by decide)) (O.K.O.fn 16 (by decide)) fun s4 g => ?_
            refine spliced_more (g.ev (fun _ => .loc (by exact hk.1)) fun v1 s5 e1 g => ?_)
            refine spliced_more (g.evV (fun _ => .loc (by exact hk.2.1)) fun s5 g => ?_)
            refine spliced_more (g.evV (fun _ => .loc (by rfl)) fun s5 g => ?_)
            obtain rfl := e1.symm
            refine spliced_none ⟨g.KIn, ?_⟩
            refine check_decl O.K (hA'.le (k := 0 + 2) (by lia)) (g.pre SI (Ds.nt2 hes2 nt2)) (hdv.le ((hlee.trans hle).trans g.tup)) fun s12 P => ?_
            refine ⟨.inl rfl, s12.heap, _, (g.post P).2, ?_, by exact (g.post P).1⟩
            exact hk
          · intro G3 m3 s10 hle3 hk3 g
            have e0 : (declAll ds (rows, [])) = (rows ++ (declAll ds ([], [])).1, (declAll ds ([], [])).2) := by
              have := declAll_fst ds rows ([], [])
              rw [List.append_nil] at this
              exact this
            have e1 : runLabs (labsL ts) (declAll ds (rows, [])) = (rows ++ (runLabs (labsL ts) (declAll ds ([], []))).1, (runLabs (labsL ts) (declAll ds ([], []))).2) := by
              rw [e0]; exact runLabs_fst _ _ _
            rw [e1] at g hes2
            refine ⟨rfl, G3, m3, _, _, .ref tb, _, g, hlee.trans hle3, Ds.nt2 hes2 nt2, ?_, .cons (htab.mono fun q hq => .tail _ hq) (.head _) (hes2.le hle3) (hc.mono (hlee.trans hle3) fun q hq => .tail _ (hsub q hq)), findS_i hf hok.2.2.1 hok.2.2.2.2, rfl, hk3.1, hk3.2.1, hk3.2.2.1, hk3.2.2.2, ?_⟩
            · obtain ⟨x, hx⟩ := hsuf
              exact ⟨_ :: x, by rw [hx]; rfl⟩
            · rw [hblk, List.append_assoc]
    · have hblk : blkR w lab ds ts ch = chks w ts ch := by unfold blkR; rw [if_neg (by rw [hb]; simp)]
      exact wpAny_execs_nil ⟨rfl, G, _, fz, rows, tv, ch, g, TupLe.refl _, nt, ⟨[], rfl⟩, hc, hf, htv, rfl, rfl, rfl, rfl, by rw [hblk]⟩
  · rintro s3 ⟨G', m', fz1, rows1, tv1, ch1, g, hle, nt1, ⟨fx, rfl⟩, hc1, hf1, htv1, k1, k2, k3, k4, hrows⟩
    have hz1 : rows1.length + (chks w ts ch1).length ≤ 500 := by
      have := congrArg List.length hrows
      rw [List.length_append, List.length_append] at this
      lia
    rw [show rows1 = rows1 ++ chks w (ts.take 0) ch1 by simp [chks]] at g
    refine last (g.forT (vs := tvs) (fun i => rows1 ++ chks w (ts.take i) ch1) hA'.hh (hle.tup hta) (fun ro => .tup (.loc (by exact k4)) .cI (hle.tup hT)) (fun i m' => m' "report" = some (.ref p) ∧ m' "inner" = some tv1 ∧ m' "timing" = some (.bool w)) ⟨k1, k2, k3⟩ ?_ ?_)
    · intro i G2 m2 s7 v qq E' hvi hle2 hk g
      obtain ⟨tr, htr, hvt⟩ := All2.getTree hts hvi
      have h1 := chks_take_le w ch1 htr
      have h2 := cnts_take ts i tr htr
      refine wpAny_assign_Name (g.store fun s8 g => ?_)
      refine last (g.stmt (tn := "inner") ih O.K SI nt1 (hA'.le (k := 0 + 4 * d + 8) (by lia)) (hp.mono fun q hq => List.mem_append_right _ hq) (hc1.mono hle2 fun _ z => z) hf1 htv1 (by exact hk.1) (by exact hk.2.1) (by exact hk.2.2) (fun _ => .loc (by rfl)) (Tree.le (hle.trans hle2) _ _ hvt) (oks_get hok.2.2.2.2 htr) (by rw [List.length_append]; lia) (by lia) fun s9 g hle3 => ?_)
      refine ⟨.inl rfl, s9.heap, _, hle3, ?_, by rw [chks_take w ch1 ts i tr htr, ← List.append_assoc]; exact g⟩
      exact hk
    · intro G2 m2 s7 hle2 hk g
      rw [← hlen, List.take_length, hrows] at g
      obtain ⟨ro, X, w1⟩ := g
      have g2 : Rs C I G2 m2 r (rows ++ blkR w lab ds ts ch) fz [] s7 := ⟨ro, by
        rw [List.append_nil] at X ⊢
        exact X.sub (by exact (List.sublist_append_right fx fz).cons_cons _), w1⟩
      exact q _ (out _ _ _ _ _ (hle.trans hle2) g2)
end
end Mine
end

noncomputable section
open PySem PySem.W PyProof.Rows PySem.Calls PySem.Spec
set_option maxRecDepth 100000
set_option maxHeartbeats 4000000
namespace Mine

noncomputable def waitTags : List Str := ["fork", "delay", "await", "wait"]
theorem seq1 {n : Nat} : seqIndex? 1 (n + 1 + 1) = some 1 := by
  unfold seqIndex?
  simp
  lia

section
variable {C : Cx} {A : Around} {E : Value → Shared → Prop} {s : Shared} {I : Info} {G : Heap} {m : Str → Option Value} {env : Env} {fa : Nat → Addr} {k : Kl} {r e p t : Addr} {par tv : Value} {rows : List Row} {es : Sc} {ch : List Sc} {fz tl led : List (Addr × Obj)}

noncomputable def tailR (w : Bool) : T → List Sc → List Row
  | .non, _ | .pth .., _ => []
  | .dis m m2 x, ch => disR (findS ch x) m2 x
  | .trg m m2 x, ch => trgR (findS ch x) m2 x
  | .blk fk m lab ds ts, ch => blkR w lab ds ts ch
  | .cho _ a b, ch | .cas _ a b, ch => chk w a ch ++ chk w b ch
  | .one _ _ a, ch | .fev _ a, ch | .lop _ a, ch | .awt _ a, ch => chk w a ch
noncomputable def T.isW : T → Bool
  | .blk fk .. => fk
  | .one kk .. => kk.waits
  | .awt .. => true
  | _ => false
theorem tag_waits (tr : T) (hn : tr ≠ .non) : waitTags.any (· == tr.tag) = tr.isW := by
  cases tr with
  | non => exact absurd rfl hn
  | dis => exact (by decide : waitTags.any (· == ("disable" : Str)) = false)
  | trg => exact (by decide : waitTags.any (· == ("trigger" : Str)) = false)
  | pth d m => cases d; exact (by decide : waitTags.any (· == ("trigger" : Str)) = false); exact (by decide : waitTags.any (· == ("disable" : Str)) = false)
  | blk fk m lab ds ts => cases fk; exact (by decide : waitTags.any (· == ("block" : Str)) = false); exact (by decide : waitTags.any (· == ("fork" : Str)) = true)
  | cho => exact (by decide : waitTags.any (· == ("if" : Str)) = false)
  | cas => exact (by decide : waitTags.any (· == ("case" : Str)) = false)
  | one kk m a =>
    show waitTags.any (· == kk.tag) = kk.waits
    cases kk <;> decide
  | fev => exact (by decide : waitTags.any (· == ("forever" : Str)) = false)
  | awt => exact (by decide : waitTags.any (· == ("await" : Str)) = true)
  | lop => exact (by decide : waitTags.any (· == ("for" : Str)) = false)
theorem chk_head (w : Bool) (tr : T) (ch : List Sc) (hn : tr ≠ .non) : chk w tr ch = tim (!w && tr.isW) tr.mk ++ tailR w tr ch := by
  cases tr with
  | non => exact absurd rfl hn
  | blk fk m lab ds ts => simp [chk, tailR, tim, T.isW, blkR, T.mk]
  | _ => simp [chk, tailR, tim, T.isW, T.mk]
end
end Mine
end

noncomputable section
open PySem PySem.W PyProof.Rows PySem.Calls PySem.Spec
set_option maxRecDepth 100000
set_option maxHeartbeats 4000000
namespace Mine
local macro_rules | `(tactic| walk_at "tst") => `(tactic| first | exact .eq (by decide) | exact .or (.eq rfl) (.eq rfl) (by decide) | exact .mem (by repeat constructor) (by decide) (by decide))
local macro_rules | `(tactic| walk_at "pick") => `(tactic| ((repeat (apply Pick.miss; focus (walk_at "tst"))); first | (apply Pick.hit; focus (walk_at "tst")) | exact Pick.all))
section
variable {C : Cx} {A : Around} {E : Value → Shared → Prop} {s : Shared} {I : Info} {G : Heap} {m : Str → Option Value} {env : Env} {fa : Nat → Addr} {k : Kl} {r e p t : Addr} {par tv : Value} {rows : List Row} {es : Sc} {ch : List Sc} {fz tl led : List (Addr × Obj)}

theorem Rs.forGo {target : Expr} {body : List Stmt} {t : Addr} {vs : List Value} {Q : Flow → Shared → Prop} (f : Nat → List Row) (g : Rs C I G m r (f 0) fz tl s) (hh : A.handled = none) (ht : IsTup G t vs.toArray)
    (kp : Nat → (Str → Option Value) → Prop) (hm : kp 0 m)
    (turn : ∀ (i : Nat) (G' : Heap) (m' : Str → Option Value) (s : Shared) (v : Value) (q : Addr × Obj) (E : Value → Shared → Prop), vs[i]? = some v → TupLe G G' → kp i m' → Rs C I G' m' r (f i) fz (q :: tl) s →
      wpAny C.M A (assign target env v) (fun _ s2 => wpAny C.M A (execs body env) (fun fl s3 => (fl = .next ∨ fl = .cont) ∧ ∃ G'' m'', TupLe G' G'' ∧ kp (i + 1) m'' ∧ Rs C I G'' m'' r (f (i + 1)) fz (q :: tl) s3) E s2) E s)
    (done : ∀ G' m' s', TupLe G G' → kp vs.length m' → Rs C I G' m' r (f vs.length) fz tl s' → Q .next s') :
    wpAny C.M A (pyIter (.ref t)) (fun it s₂ => codeAny C.M A (.forLoop target it body [] env) (fun r s' => match r with | .ok f => Q f s' | .error e => cameBackBy C.M A env E e s') s₂) E s := by
  obtain ⟨ro, X, w⟩ := g
  refine iter_tuple X ht fun it io s2 hio X => ?_
  refine for_loop (Itr.tuple (vs := vs) hh) (fun i G' m led => ∃ ro, led = (r, ro) :: (fz ++ tl) ∧ Rw G' (f i) ro ∧ kp i m ∧ TupLe G G') (fun i G' m led h => ?_) X hio ⟨ro, rfl, w, hm, TupLe.refl _⟩ ?_ ?_
  · obtain ⟨_, _, _, _, h⟩ := h
    exact h.tup ht
  · rintro i G' m' led o v s3 E' hi hv ⟨ro, rfl, w, hk, hle⟩ hle2 X
    refine wpAny_mono (turn i G' m' s3 v (it, o) E' hv hle hk ⟨ro, X.perm ((List.Perm.swap _ _ _).trans (.cons _ List.perm_middle.symm)), w⟩) (fun _ s4 h => wpAny_mono h (fun fl s5 h => ?_) fun _ _ z => z) fun _ _ z => z
    obtain ⟨hfl, G'', m'', hle3, hk, ro', X, w⟩ := h
    exact ⟨hfl, G'', m'', _, ⟨ro', rfl, w, hk, hle.trans hle3⟩, hle2.trans hle3, X.perm ((List.Perm.cons _ List.perm_middle).trans (.swap _ _ _))⟩
  · rintro G' m' led s3 ⟨ro, rfl, w, hk, hle⟩ hle2 X
    exact done G' m' s3 hle hk ⟨ro, X, w⟩
theorem Rs.newT {vs : List Value} {Q : Value → Shared → Prop} (g : Rs C I G m r rows fz tl s) (hz : vs.length ≤ 100000) (q : ∀ a s', Rs C I s'.heap m r rows fz tl s' → TupLe G s'.heap → IsTup s'.heap a vs.toArray → Q (.ref a) s') : wpAny C.M A (newTuple vs) Q E s := by
  obtain ⟨ro, X, w⟩ := g
  exact new_tuple X hz fun a s' X' _ => q a s' ⟨ro, X'.drop.rebase, w.le X'.tup⟩ X'.tup (IsTup.of_St X' (.head _))

theorem le3a {a b n : Nat} (h : 1 + a + b ≤ n) : a ≤ n := by lia
theorem le3b {a b n : Nat} (h : 1 + a + b ≤ n) : b ≤ n := by lia
theorem le2 {a n : Nat} (h : 1 + a ≤ n) : a ≤ n := by lia
theorem rowsA {r a b : List Row} (h : r.length + (a ++ b).length ≤ 500) : r.length + a.length ≤ 500 := by rw [List.length_append] at h; lia
theorem rowsB {r a b : List Row} (h : r.length + (a ++ b).length ≤ 500) : (r ++ a).length + b.length ≤ 500 := by rw [List.length_append] at h ⊢; lia

theorem stmt_check_step {d : Nat} (O : Oka C fa k) (ih : ∀ c, d = c + 1 → CSpec C fa k c) : CSpec C fa k d := by
  intro A E s n r p tv ch w rows fz tr v Q hok hA P hp hc hf hz hcn htv hv q
  refine goR (st := stAt 21) (n := n + 4 * d + 7) rfl hA O.K.O.S (O.K.O.fn 21 (by decide)) P fun I G s1 cdv A' hA' SI hG nt g out => ?_
  rw [← hG] at hv hc
  by_cases hn : tr = .non
  · subst hn
    subst hv
    rw [chk, List.append_nil] at q
    exact wpAny_execs_cons (g.iff (b := true) (fun ro => Tr.isN (.loc rfl) (.inl ⟨rfl, rfl⟩)) (fun _ s2 g => last (wpAny_Return_none (q _ (out _ _ _ _ _ (TupLe.refl _) g)))) fun hb => by cases hb)
  obtain ⟨a, t1, t2, rest, rfl, hT⟩ := tree_view hv hn
  rw [chk_head w tr ch hn] at q hz
  refine wpAny_execs_cons (g.iff (b := false) (fun ro => Tr.isN (.loc rfl) (.inr ⟨rfl, by simp⟩)) (fun hb => by cases hb) fun _ s2 g2 => ?_)
  refine wpAny_execs_nil ?_
  refine wpAny_execs_cons (g2.set (fun ro => .tag (.loc rfl) hT) fun v1 s3 e1 g3 => ?_)
  obtain ⟨u1, rfl⟩ := e1
  refine wpAny_execs_cons (g3.set (fun ro => .tup (j := 1) (.loc rfl) .cI hT (by decide) (by decide) seq1 rfl) fun v1 s4 e1 g4 => ?_)
  obtain rfl := e1.symm
  refine seq (P := fun s' => ∃ G' m', (m' "report" = some (.ref p) ∧ m' "table" = some tv ∧ m' "timing" = some (.bool w) ∧ m' "s" = some (.ref a) ∧ m' "tag" = some (.str tr.tag u1)) ∧ TupLe G G' ∧ Rs C I G' m' r (rows ++ tim (!w && tr.isW) tr.mk) fz [] s') ?_ ?_
  · refine g4.iff (b := !w && tr.isW) (fun ro => ?_) (fun hb s5 g => ?_) fun hb s5 g => ?_
    · exact Tr.and2 (Tr.neg (Tr.ofB (.loc rfl))) fun _ => Tr.cast (Tr.inS (.locS rfl)) (tag_waits tr hn)
    · refine last (g.add O.K SI nt (hA'.le (k := 0 + 1) (by lia)) hp rfl (by lia) (fun _ => .cS) (fun _ => .locI rfl) (fun _ => .cS) fun s6 g hle => ?_)
      exact ⟨rfl, _, _, ⟨rfl, rfl, rfl, rfl, rfl⟩, hle, by rw [hb]; exact g⟩
    · exact wpAny_execs_nil ⟨rfl, _, _, ⟨rfl, rfl, rfl, rfl, rfl⟩, TupLe.refl _, by rw [hb]; rw [show tim false tr.mk = [] from rfl, List.append_nil]; exact g⟩
  clear g4 g3 g2 g
  rintro s5 ⟨G1, m1, ⟨k1, k2, k3, k4, k5⟩, hle, g⟩
  have hv := Tree.le hle _ _ hv
  have hc := hc.mono hle fun _ z => z
  have hT0 := hle.tup hT
  rw [List.length_append] at hz
  have hz1 : (rows ++ tim (!w && tr.isW) tr.mk).length + (tailR w tr ch).length ≤ 500 := by rw [List.length_append]; lia
  clear hz
  rw [← List.append_assoc] at q
  generalize rows ++ tim (!w && tr.isW) tr.mk = rows1 at g q hz1
  have fin : ∀ G' m' s', TupLe G1 G' → Rs C I G' m' r (rows1 ++ tailR w tr ch) fz [] s' → Q .none s' := fun G' m' s' h g => q s' (out _ _ _ _ _ (hle.trans h) g)
  clear q out hT hle
  have hA1 : Am A' (0 + 1) := hA'.le (by lia)
  by_cases hl : tr.leaf = true
  · cases tr with
    | non => exact absurd rfl hn
    | dis mm m2 x =>
      replace k5 : m1 "tag" = some (.str "disable" u1) := k5
      obtain ⟨a, t1, t2, nn, ea, hT, hN⟩ := hv
      obtain rfl := ref_inj ea
      refine g.pick k5 (by walk_at "pick") fun s4 g => ?_
      refine last (g.callV SI (O.K.O.nm 27 (by decide)) (O.K.O.fn 27 (by decide)) (fun _ => .v (.loc (by exact k1)) (.v (.loc (by exact k2)) (.v (.tup (.loc (by exact k4)) .cI hT) .nil))) fun τ s6 g => ?_)
      refine check_disable_id O.K (hA'.le (k := 0 + 2) (by lia)) (g.pre SI nt) hp (hc.mono g.tup fun _ z => z) (by lia) (hN.le g.tup) fun s8 P => ?_
      exact fin _ _ _ (g.post P).2 (g.post P).1
    | trg mm m2 x =>
      replace k5 : m1 "tag" = some (.str "trigger" u1) := k5
      obtain ⟨a, t1, t2, nn, ea, hT, hN⟩ := hv
      obtain rfl := ref_inj ea
      refine g.pick k5 (by walk_at "pick") fun s4 g => ?_
      refine last (g.callV SI (O.K.O.nm 26 (by decide)) (O.K.O.fn 26 (by decide)) (fun _ => .v (.loc (by exact k1)) (.v (.loc (by exact k2)) (.v (.tup (.loc (by exact k4)) .cI hT) .nil))) fun τ s6 g => ?_)
      refine check_trigger_id O.K (hA'.le (k := 0 + 2) (by lia)) (g.pre SI nt) hp (hc.mono g.tup fun _ z => z) (by lia) (hN.le g.tup) fun s8 P => ?_
      exact fin _ _ _ (g.post P).2 (g.post P).1
    | pth b mm =>
      obtain ⟨a, t1, t2, nn, ea, hT, hN⟩ := hv
      obtain rfl := ref_inj ea
      have fin0 : ∀ G' m' s', TupLe G1 G' → Rs C I G' m' r rows1 fz [] s' → Q .none s' := fun G' m' s' h g => fin G' m' s' h (by rw [tailR, List.append_nil]; exact g)
      cases b with
      | false =>
        replace k5 : m1 "tag" = some (.str "trigger" u1) := k5
        refine g.pick k5 (by walk_at "pick") fun s4 g => ?_
        refine last (g.callV SI (O.K.O.nm 26 (by decide)) (O.K.O.fn 26 (by decide)) (fun _ => .v (.loc (by exact k1)) (.v (.loc (by exact k2)) (.v (.tup (.loc (by exact k4)) .cI hT) .nil))) fun τ s6 g => ?_)
        refine check_trigger_path O.K hA1 (g.pre SI nt) (hN.le g.tup) fun s8 P => ?_
        exact fin0 _ _ _ (g.post P).2 (g.post P).1
      | true =>
        replace k5 : m1 "tag" = some (.str "disable" u1) := k5
        refine g.pick k5 (by walk_at "pick") fun s4 g => ?_
        refine last (g.callV SI (O.K.O.nm 27 (by decide)) (O.K.O.fn 27 (by decide)) (fun _ => .v (.loc (by exact k1)) (.v (.loc (by exact k2)) (.v (.tup (.loc (by exact k4)) .cI hT) .nil))) fun τ s6 g => ?_)
        refine check_disable_path O.K hA1 (g.pre SI nt) (hN.le g.tup) fun s8 P => ?_
        exact fin0 _ _ _ (g.post P).2 (g.post P).1
    | _ => exact nomatch hl
  obtain ⟨c, rfl⟩ := ok_succ hok hl
  have ih : CSpec C fa k c := ih c rfl
  have hA2 : Am A' (0 + 4 * c + 8) := hA'.le (by lia)
  cases tr with
  | non => exact absurd rfl hl
  | dis => exact absurd rfl hl
  | trg => exact absurd rfl hl
  | pth => exact absurd rfl hl
  | blk fk mm lab ds ts =>
    replace k5 : m1 "tag" = some (.str (if fk = true then "fork" else "block") u1) := k5
    refine g.pick k5 (by cases fk <;> walk_at "pick") fun s4 g => ?_
    refine last (g.callV SI (O.K.O.nm 22 (by decide)) (O.K.O.fn 22 (by decide)) (fun _ => .v (.loc (by exact k1)) (.v (.loc (by exact k2)) (.v (.loc (by exact k4)) (.v (.loc (by exact k3)) .nil)))) fun τ s6 g => ?_)
    refine check_block_spec (n := n) ih O hok (hA'.le (by lia)) (g.pre SI nt) hp (hc.mono g.tup fun _ z => z) hf htv hz1 (le2 hcn) (Tree.le g.tup _ _ hv) fun s8 P => ?_
    exact fin _ _ _ (g.post P).2 (g.post P).1
  | cho mm ta tb =>
    replace k5 : m1 "tag" = some (.str "if" u1) := k5
    obtain ⟨a, t1, t2, o, va, vb, ea, hT, ho, hva, hvb⟩ := hv
    obtain rfl := ref_inj ea
    refine g.pick k5 (by walk_at "pick") fun s4 g => ?_
    refine wpAny_execs_cons (g.num O.K SI nt hA1 k1 k2 (fun _ => .tup (.loc (by exact k4)) .cI hT) ho fun s6 g hle1 => ?_)
    refine wpAny_execs_cons (g.stmt (tn := "table") ih O.K SI nt hA2 hp (hc.mono (hle1) fun _ z => z) hf htv k1 k2 k3 (fun _ => .tup (.loc (by exact k4)) .cI ((hle1).tup hT)) (Tree.le (hle1) _ _ hva) hok.1 (rowsA hz1) (le3a hcn) fun s9 g hle2 => ?_)
    refine wpAny_execs_cons (g.stmt (tn := "table") ih O.K SI nt hA2 hp (hc.mono (hle1.trans hle2) fun _ z => z) hf htv k1 k2 k3 (fun _ => .tup (.loc (by exact k4)) .cI ((hle1.trans hle2).tup hT)) (Tree.le (hle1.trans hle2) _ _ hvb) hok.2 (rowsB hz1) (le3b hcn) fun s10 g hle3 => ?_)
    exact wpAny_execs_nil (fin _ _ _ ((hle1.trans hle2).trans hle3) (by rw [tailR, ← List.append_assoc]; exact g))
  | cas mm ta tb =>
    replace k5 : m1 "tag" = some (.str "case" u1) := k5
    refine g.pick k5 (by walk_at "pick") fun s4 g => ?_
    refine last (g.callV SI (O.K.O.nm 23 (by decide)) (O.K.O.fn 23 (by decide)) (fun _ => .v (.loc (by exact k1)) (.v (.loc (by exact k2)) (.v (.loc (by exact k4)) (.v (.loc (by exact k3)) .nil)))) fun τ s6 g => ?_)
    refine check_case_spec (n := n) ih O hok (hA'.le (by lia)) (g.pre SI nt) hp (hc.mono g.tup fun _ z => z) hf htv hz1 (by have hcn : 1 + ta.cnt + tb.cnt ≤ 60 := hcn; lia) (Tree.le g.tup _ _ hv) fun s8 P => ?_
    exact fin _ _ _ (g.post P).2 (g.post P).1
  | one kk mm ta =>
    obtain ⟨a, t1, t2, o, va, ea, hT, ho, hva⟩ := hv
    obtain rfl := ref_inj ea
    replace k5 : m1 "tag" = some (.str kk.tag u1) := k5
    refine g.pick k5 (by cases kk <;> walk_at "pick") fun s4 g => ?_
    refine wpAny_execs_cons (g.num O.K SI nt hA1 k1 k2 (fun _ => .tup (.loc (by exact k4)) .cI hT) ho fun s6 g hle1 => ?_)
    refine wpAny_execs_cons (g.stmt (tn := "table") ih O.K SI nt hA2 hp (hc.mono (hle1) fun _ z => z) hf htv k1 k2 k3 (fun _ => .tup (.loc (by exact k4)) .cI ((hle1).tup hT)) (Tree.le (hle1) _ _ hva) hok hz1 (le2 hcn) fun s9 g hle2 => ?_)
    exact wpAny_execs_nil (fin _ _ _ (hle1.trans hle2) g)
  | fev mm ta =>
    replace k5 : m1 "tag" = some (.str "forever" u1) := k5
    obtain ⟨a, t1, t2, va, ea, hT, hva⟩ := hv
    obtain rfl := ref_inj ea
    refine g.pick k5 (by walk_at "pick") fun s4 g => ?_
    refine wpAny_execs_cons (g.stmt (tn := "table") ih O.K SI nt hA2 hp (hc.mono (TupLe.refl _) fun _ z => z) hf htv k1 k2 k3 (fun _ => .tup (.loc (by exact k4)) .cI ((TupLe.refl _).tup hT)) (Tree.le (TupLe.refl _) _ _ hva) hok hz1 (le2 hcn) fun s9 g hle2 => ?_)
    exact wpAny_execs_nil (fin _ _ _ hle2 g)
  | awt mm ta =>
    replace k5 : m1 "tag" = some (.str "await" u1) := k5
    obtain ⟨a, t1, t2, t3, ev, va, ea, hT, hE, hva⟩ := hv
    obtain rfl := ref_inj ea
    refine g.pick k5 (by walk_at "pick") fun s4 g => ?_
    refine wpAny_execs_cons (g.callV SI (O.K.O.nm 25 (by decide)) (O.K.O.fn 25 (by decide)) (fun _ => .v (.loc (by exact k1)) (.v (.loc (by exact k2)) (.v (.tup (.loc (by exact k4)) .cI hT) .nil))) fun τ s6 g => ?_)
    refine check_events0 O.K hA1 (g.pre SI nt) (g.tup.tup hE) fun s8 P => ?_
    have hle1 := (g.post P).2
    replace g := (g.post P).1
    refine wpAny_execs_cons (g.stmt (tn := "table") ih O.K SI nt hA2 hp (hc.mono (hle1) fun _ z => z) hf htv k1 k2 k3 (fun _ => .tup (.loc (by exact k4)) .cI ((hle1).tup hT)) (Tree.le (hle1) _ _ hva) hok hz1 (le2 hcn) fun s9 g hle2 => ?_)
    exact wpAny_execs_nil (fin _ _ _ (hle1.trans hle2) g)
  | lop mm ta =>
    replace k5 : m1 "tag" = some (.str "for" u1) := k5
    obtain ⟨a, t1, t2, l1, o, l2, va, ea, hT, hl1, ho, hl2, hva⟩ := hv
    obtain rfl := ref_inj ea
    refine g.pick k5 (by walk_at "pick") fun s4 g => ?_
    refine wpAny_execs_cons (wpAny_For ?_ (by intro _; rfl))
    refine Tuple_ (spliced_more (g.evV (fun _ => .tup (.loc (by exact k4)) .cI hT) fun s6 g => spliced_more (g.evV (fun _ => .tup (.loc (by exact k4)) .cI hT) fun s7 g => ?_)))
    refine spliced_none (g.newT (by simp) fun at_ s8 g hle0 hTT => ?_)
    refine g.forGo (vs := [l1, l2]) (fun _ => rows1) hA'.hh hTT (fun i m' => m' "report" = some (.ref p) ∧ m' "table" = some tv ∧ m' "timing" = some (.bool w) ∧ m' "s" = some (.ref a)) ⟨k1, k2, k3, k4⟩ ?_ ?_
    · intro i G' m' s7 v qq E' hvi hle hk g
      have hlead : Lead G1 v := by
        match i, hvi with
        | 0, hvi => cases hvi; exact hl1
        | 1, hvi => cases hvi; exact hl2
      have hle := hle0.trans hle
      obtain ⟨la, li, lo, lm, rfl, hl, hli, hlo⟩ := hlead
      obtain ⟨ro, X, w1⟩ := g
      refine two_targets X hA'.hh (hle.tup hl) (fun s8 X => ?_) ⟨rfl, rfl, rfl, rfl⟩
      have g : Rs C I G' _ r rows1 fz (qq :: []) s8 := ⟨ro, X, w1⟩
      refine wpAny_execs_cons (g.callV SI (O.K.O.nm 17 (by decide)) (O.K.O.fn 17 (by decide)) (fun _ => .v (.loc (by exact hk.1)) (.v (.loc (by exact hk.2.1)) (.v (.loc (by rfl)) (.v .cB .nil)))) fun τ s6 g => ?_)
      refine check_target0 O (hA'.le (k := 0 + 3) (by lia)) (g.pre SI nt) (hc.mono (hle.trans g.tup) fun _ z => z) hf (hli.le (hle.trans g.tup)) fun s9 P => ?_
      have hle2 := (g.post P).2
      replace g := (g.post P).1
      refine last (g.num O.K SI nt hA1 (by exact hk.1) (by exact hk.2.1) (fun _ => .loc (by rfl)) (hlo.le (hle.trans hle2)) fun s10 g hle3 => ?_)
      refine ⟨.inl rfl, s10.heap, _, hle2.trans hle3, ?_, by exact g⟩
      exact hk
    · intro G' m' s7 hle hk g
      have hle1 := hle0.trans hle
      clear k1 k2 k3 k4
      obtain ⟨k1, k2, k3, k4⟩ := hk
      refine wpAny_execs_cons (g.num O.K SI nt hA1 k1 k2 (fun _ => .tup (.loc (by exact k4)) .cI (hle1.tup hT)) (ho.le hle1) fun s6 g hle2 => ?_)
      refine wpAny_execs_cons (g.stmt (tn := "table") ih O.K SI nt hA2 hp (hc.mono (hle1.trans hle2) fun _ z => z) hf htv k1 k2 k3 (fun _ => .tup (.loc (by exact k4)) .cI ((hle1.trans hle2).tup hT)) (Tree.le (hle1.trans hle2) _ _ hva) hok hz1 (le2 hcn) fun s9 g hle3 => ?_)
      exact wpAny_execs_nil (fin _ _ _ ((hle1.trans hle2).trans hle3) g)
theorem stmt_check (O : Oka C fa k) : ∀ d, CSpec C fa k d
  | 0 => stmt_check_step (d := 0) O fun e h => absurd h (by lia)
  | d + 1 => stmt_check_step (d := d + 1) O fun e h => (show d = e by lia) ▸ stmt_check O d
end
end Mine
end

noncomputable section
open PySem PySem.W PyProof.Rows PySem.Calls PySem.Spec
set_option maxRecDepth 100000
set_option maxHeartbeats 4000000
namespace Mine

theorem rev_no_len : typeLookup (.type "list_reverseiterator") "__len__" = pure none := by rw [typeLookup_type, builtinLookup_eq_fast]; kernel_rfl
theorem rev_hint_at : typeLookup (.type "list_reverseiterator") "__length_hint__" = pure (some (.builtin "list_reverseiterator.__length_hint__")) := by rw [typeLookup_type, builtinLookup_eq_fast]; kernel_rfl
section
variable {prog : Program} {w : World} {A : Around} {E : Value → Shared → Prop} {s : Shared} {r : Addr}
theorem rev_hint {Q : Bool → Shared → Prop} (hT : s.TypeIs (.ref r) "list_reverseiterator") (h : Q false s) : wpAny (model prog w) A (Builtin.List.listLengthHint (.ref r)) Q E s := by
  unfold Builtin.List.listLengthHint
  refine wpAny_bind (wpAny_specialOf hT rev_no_len ?_)
  refine wpAny_ite_split (fun hab => absurd hab (by decide +kernel)) (fun _ => ?_)
  refine wpAny_bind (wpAny_specialOf hT rev_hint_at ?_)
  generalize hid : ("list_reverseiterator.__length_hint__" : String) = id0
  wp_delta
  rw [show splitId id0 = some ("list_reverseiterator", "__length_hint__") from by subst hid; decide +kernel]
  subst hid
  refine wpAny_bind (wpAny_isInstance (T := "list_reverseiterator") (b := true) hT (by rw [isSubtype_type]; kernel_rfl) ?_)
  refine wpAny_ite_split (fun hab => absurd hab (by decide)) (fun _ => ?_)
  refine wpAny_ite_split (fun _ => ?_) (fun hab => absurd (by decide +kernel) hab)
  refine wpAny_ite_split (fun hab => absurd hab (by decide +kernel)) (fun _ => ?_)
  exact wpAny_pure h

variable {l : Addr} {items : Array Value}
noncomputable def RevP (items : Array Value) (i : Nat) (v : Value) : Prop := items[items.size - 1 - i]? = some v
noncomputable def RevOk (r l : Addr) (items : Array Value) (h : Heap) : Prop := h.IsRevIter r l ((items.size : Int) - 1) ∧ h.IsList l items
theorem rev_extend {R : Result → Shared → Prop} (hh : A.handled = none) (hne : l ≠ r) (hok : RevOk r l items s.heap) (S : Addr) (hSr : S ≠ r) (hSd : S ≠ l) (res : Value) (c₀ : Nat) (hS : s.heap.get? S = some { cls := .type "list", data := .seq #[] c₀ })
    (hR : ∀ h' tk acc' c', (∀ b o, b ≠ S → b ≠ r → s.heap.get? b = some o → h'.get? b = some o) → h'.get? S = some { cls := .type "list", dict := none, data := .seq acc' c', slots := #[] } → ItemsOf (RevP items) acc' items.size → R (.ok (.ret res)) { s with heap := h', toks := tk }) (hn : items.size ≤ sizeLine) :
    wpAny (model prog w) A.in1 (Builtin.List.listExtendWith (.ref S) (.ref r) res)
      (fun fin s' => match fin with | .done f => R (.ok f) s' | .again c' => c'.quiet = true ∧ codeAny (model prog w) A c' R s') (fun e s' => R (.error e) s') s := by
  have hSf : S ∉ [r, l] := by simp only [List.mem_cons, List.not_mem_nil, or_false, not_or]; exact ⟨hSr, hSd⟩
  have W := Walks.listRev (prog := prog) (w := w) (A := A.in1) hh r l hne items
  have st : (fun (i : Nat) (h : Heap) => i ≤ items.size ∧ h.IsRevIter r l ((items.size : Int) - 1 - (i : Int)) ∧ h.IsList l items) 0 s.heap := ⟨Nat.zero_le _, by simpa using hok.1, hok.2⟩
  have hT := hok.1.typeIs
  have key : ∀ (h : Heap) (c₁ tk : Nat), (fun (i : Nat) (h : Heap) => i ≤ items.size ∧ h.IsRevIter r l ((items.size : Int) - 1 - (i : Int)) ∧ h.IsList l items) 0 h → (∀ b o, b ≠ S → s.heap.get? b = some o → h.get? b = some o) →
      h.get? S = some { cls := .type "list", data := .seq #[] c₁ } → codeAny (model prog w) A (.builtin "list.extend.loop" ⟨[.ref S, .ref r, res], []⟩) R { s with heap := h, toks := tk } := by
    intro h c₁ tk hst hk hS₁
    refine codeAny_extend_loopS W.toS hn S hSf res items.size 0 _ #[] c₁ rfl (Nat.zero_le _) hst hS₁ (ItemsOf.nil _) fun s' acc' c' hm hS' hacc => ?_
    rw [Moved.eq_with hm]
    refine hR s'.heap s'.toks acc' c' (fun b o hb hbr e => hm.heap b o (fun hmem => ?_) (hk b o hb e)) hS' hacc
    rcases List.mem_cons.mp hmem with e' | hmem
    · exact hb e'
    · exact hbr (List.mem_singleton.mp hmem)
  unfold Builtin.List.listExtendWith
  refine wpAny_bind (wpAny_typeOf (T := "list_reverseiterator") hT ?_)
  have h1 : Builtin.List.listSameRef (.ref S) (.ref r) = false := by simp [Builtin.List.listSameRef, hSr]
  have h2 : (Value.type "list_reverseiterator" == Value.type "list") = false := by decide +kernel
  have h3 : (Value.type "list_reverseiterator" == Value.type "tuple") = false := by decide +kernel
  simp only [h1, h2, h3, Bool.or_false, Bool.false_eq_true, if_false]
  refine wpAny_bind (wpAny_pyIter_revIter hok.1 ?_)
  refine wpAny_bind (wpAny_holding (rev_hint hT ?_))
  refine wpAny_ite_split (fun hab => absurd hab (by decide +kernel)) (fun _ => wpAny_pure ⟨plainId_quiet PySem.F.plain_extend_loop _, key _ c₀ _ st (fun b o _ e => e) hS⟩)
theorem rev_init {R : Result → Shared → Prop} (hh : A.handled = none) (hne : l ≠ r) (hok : RevOk r l items s.heap) (S : Addr) (hSr : S ≠ r) (hSd : S ≠ l) (hS : s.heap.get? S = some { cls := .type "list", data := .seq #[] })
    (hR : ∀ h' tk acc' c', (∀ b o, b ≠ S → b ≠ r → s.heap.get? b = some o → h'.get? b = some o) → h'.get? S = some { cls := .type "list", dict := none, data := .seq acc' c', slots := #[] } → ItemsOf (RevP items) acc' items.size → R (.ok (.ret .none)) { s with heap := h', toks := tk }) (hn : items.size ≤ sizeLine) :
    wpAny (model prog w) A.in1 (Builtin.«list.__init__» ⟨[.ref S, .ref r], []⟩)
      (fun fin s' => match fin with | .done f => R (.ok f) s' | .again c' => c'.quiet = true ∧ codeAny (model prog w) A c' R s') (fun e s' => R (.error e) s') s := by
  show wpAny _ _ (do let old ← Builtin.List.listItems (.ref S); Builtin.List.listUpdate (.ref S) (fun _ => #[]); letGo old.toList.reverse; Builtin.List.listExtendWith (.ref S) (.ref r) .none) _ _ s
  refine wpAny_bind ?_
  unfold Builtin.List.listItems
  refine wpAny_bind (wpAny_seqItems hS rfl (wpAny_pure ?_))
  show wpAny _ _ (updateSeq S (fun _ => #[]) >>= fun _ => letGo (#[] : Array Value).toList.reverse >>= fun _ => Builtin.List.listExtendWith (.ref S) (.ref r) .none) _ _ s
  refine wpAny_bind (wpAny_updateSeq hS rfl ?_)
  have hS₂ := Heap.get?_update_self (Obj.mapSeq (fun _ => (#[] : Array Value))) hS rfl
  have oth : ∀ b o, b ≠ S → s.heap.get? b = some o → (s.heap.update S (Obj.mapSeq (fun _ => (#[] : Array Value)))).get? b = some o :=
    fun b o hb e => (Heap.get?_update_other _ _ (Ne.symm hb)).trans e
  refine wpAny_bind (wpAny_letGo ?_)
  refine rev_extend (s := { s with heap := s.heap.update S (Obj.mapSeq (fun _ => (#[] : Array Value))) }) hh hne ⟨hok.1.at fun o e => oth r o hSr.symm e, hok.2.at fun o e => oth l o hSd.symm e⟩ S hSr hSd .none _ hS₂ (fun h' tk acc' c' hk hS' hacc => ?_) hn
  exact hR h' tk acc' c' (fun b o hb hbr e => hk b o hb hbr (oth b o hb e)) hS' hacc
theorem rev_call {Q : Value → Shared → Prop} (hh : A.handled = none) (hne : l ≠ r) (hok : RevOk r l items s.heap) (hn : items.size ≤ sizeLine)
    (hQ : ∀ h' tk acc' c', (∀ b o, b ≠ r → s.heap.get? b = some o → h'.get? b = some o) → h'.get? s.heap.objs.size = some { cls := .type "list", dict := none, data := .seq acc' c', slots := #[] } → ItemsOf (RevP items) acc' items.size → Q (.ref s.heap.objs.size) { s with heap := h', toks := tk }) :
    wpAny (model prog w) A (call (.type "list") [.ref r]) Q E s := by
  refine callType_codes (Q₁ := fun obj s₁ => obj = .ref s.heap.objs.size ∧ s₁ = { s with heap := s.heap.push { cls := .type "list", data := .seq #[] } }) PySem.F.called_list (PySem.F.typeCall_list_1 _) PySem.F.entry_list_init
    (code_list_new _ ⟨rfl, rfl⟩) fun obj s₁ h₁ => ?_
  obtain ⟨rfl, rfl⟩ := h₁
  have hS : (s.heap.push { cls := .type "list", data := .seq #[] }).get? s.heap.objs.size = some { cls := .type "list", data := .seq #[] } := Heap.get?_push_size _ rfl
  obtain ⟨or_, hr, _⟩ := id hok.1
  obtain ⟨ol_, hl, _⟩ := id hok.2
  refine ⟨⟨_, hS, rfl⟩, PySem.F.args_list_init_2 _ _, rev_init (s := { s with heap := s.heap.push { cls := .type "list", data := .seq #[] } }) (A := A.in1) hh hne ⟨hok.1.at fun o e => Heap.get?_push_of_some _ e, hok.2.at fun o e => Heap.get?_push_of_some _ e⟩ _ (Nat.ne_of_gt (Heap.lt_size hr)) (Nat.ne_of_gt (Heap.lt_size hl)) hS (fun h' tk acc' c' hk hS' hacc => ?_) hn⟩
  exact ⟨rfl, hQ h' tk acc' c' (fun b o hb e => hk b o (Nat.ne_of_lt (Heap.lt_size e)) hb (Heap.get?_push_of_some _ e)) hS' hacc⟩
end
end Mine
end

noncomputable section
open PySem PySem.W PyProof.Rows PySem.Calls PySem.Spec
set_option maxRecDepth 100000
set_option maxHeartbeats 4000000
namespace Mine
section
variable {C : Cx} {A : Around} {E : Value → Shared → Prop} {s : Shared} {I : Info} {G : Heap} {m : Str → Option Value} {env : Env} {fa : Nat → Addr} {led : List (Addr × Obj)}

theorem rev_items {vs : List Value} {acc : Array Value} (h : ItemsOf (RevP vs.toArray) acc vs.toArray.size) : acc = vs.reverse.toArray := by
  obtain ⟨h1, h2⟩ := h
  have hl : acc.toList = vs.reverse := by
    apply List.ext_getElem?
    intro i
    by_cases hi : i < vs.length
    · have hi' : i < acc.size := by rw [h1]; simpa using hi
      have := h2 i acc[i] (Array.getElem?_eq_getElem hi')
      unfold RevP at this
      rw [Array.getElem?_toList, Array.getElem?_eq_getElem hi', ← this, List.getElem?_reverse hi]
      simp
    · rw [List.getElem?_eq_none (by simp at h1 ⊢; lia), List.getElem?_eq_none (by simp; lia)]
  rw [← hl, Array.toArray_toList]

theorem list_rev {l : Addr} {lo : Obj} {vs : List Value} {Q : Value → Shared → Prop} (X : St I m led s) (hm : (l, lo) ∈ led) (hl : LX lo vs) (hh : A.handled = none) (hz : vs.length ≤ 100000)
    (q : ∀ a o s', LX o vs.reverse → St I m ((a, o) :: led) s' → Q (.ref a) s') :
    wpAny C.M A (call (.type "reversed") [.ref l]) (fun v s1 => wpAny C.M A (call (.type "list") [v]) Q E s1) E s := by
  have hL := hl.isList (X.get hm)
  refine call_reversed_list hL ?_
  have X1 := X.push (revObj l ((vs.toArray.size : Int) - 1))
  have hg := X1.get (.head _)
  have hne : l ≠ s.heap.objs.size := Nat.ne_of_lt (Heap.lt_size (X.get hm))
  refine rev_call (items := vs.toArray) hh hne ⟨⟨_, hg, rfl, rfl⟩, hL.at fun o e => Heap.get?_push_of_some _ e⟩ (by rw [sizeLine_eq]; simp; lia) fun h' tk acc' c' hk hS hI => ?_
  have hacc := rev_items hI
  subst hacc
  have X2 : St I m led { s with heap := h', toks := tk } := X1.ext (s' := { s with heap := h', toks := tk }) (fun b o hb e => hk b o hb e) (notT rfl (by decide)) rfl rfl
  have hfr : s.heap.get? (s.heap.push (revObj l ((vs.toArray.size : Int) - 1))).objs.size = none := by
    cases h : s.heap.get? (s.heap.push (revObj l ((vs.toArray.size : Int) - 1))).objs.size with
    | none => rfl
    | some o => have := Heap.lt_size h; rw [Heap.size_push] at this; exact absurd this (Nat.not_lt.mpr (Nat.le_succ _))
  exact q _ _ _ ⟨c', rfl⟩ (St.adopt (s := s) X X2 rfl hS hfr)

noncomputable def hasSc : T → Bool
  | .blk _ _ lab ds _ => lab.isSome || !ds.isEmpty
  | _ => false
noncomputable def belowT : T → List T
  | .blk fk m lab ds ts => if hasSc (.blk fk m lab ds ts) = true then [] else ts
  | .cas _ a b | .cho _ a b => [a, b]
  | .one _ _ a | .fev _ a | .awt _ a | .lop _ a => [a]
  | _ => []

theorem Ev.cmpInS {a : Expr} {es : List Expr} {ys : List Str} {x : Str} {k : Nat} {p pos : Pos} (ha : Ev C A env I m led a (IsS x)) (hl : LitS es ys := by repeat constructor) (hz : ys.length ≤ 1000 := by decide) (hk : behindInMarks .In (.Tuple es k p) = false := by rfl) :
    Ev C A env I m led (.Compare a [.In] [.Tuple es k p] pos) (Is (.bool (ys.any (· == x)))) :=
  fun s Q E st q => wpAny_Compare1 (ha _ _ _ st fun v s1 h1 x1 => Tuple_ (EvL.strs hl _ _ _ x1 fun vs s2 hv x2 => new_tuple x2 (by rw [← hv.length]; lia) fun ad s3 x3 _ => by
    obtain ⟨t, rfl⟩ := h1
    refine PySem.SeqAt.in_tupleAt (strIs x) (IsTup.of_St x3 (.head _)) (fun y hy => ?_) ?_
    · obtain ⟨z, u, rfl⟩ := hv.allS y (by simpa using hy)
      exact (eqGives_str z x u t).at _ _
    · have := q _ _ rfl x3.drop
      rw [← hv.anyS x] at this
      simpa using this)) hk
theorem Ev.cmpNotN {a : Expr} {v : Value} {b : Bool} {k : Nat} {p pos : Pos} (ha : Ev C A env I m led a (Is v)) (hb : (b = false ∧ v = .none) ∨ (b = true ∧ v ≠ .none)) : Ev C A env I m led (.Compare a [.IsNot] [.Constant .none k p] pos) (Is (.bool b)) :=
  fun s Q E st q => wpAny_Compare1 (ha _ _ _ st fun u s1 h1 x1 => Constant_none (by
    obtain rfl : u = v := h1
    rcases hb with ⟨rfl, rfl⟩ | ⟨rfl, hb⟩
    · exact isnot_none_none (q _ _ rfl x1)
    · exact isnot_none_ne hb (q _ _ rfl x1))) rfl
theorem Ev.neUnit {a : Expr} {t : Addr} {vs : List Value} {k : Nat} {p pos : Pos} (ha : Ev C A env I m led a (Is (.ref t))) (ht : IsTup I.G t vs.toArray) (hu : A.units < cLine) : Ev C A env I m led (.Compare a [.NotEq] [.Tuple [] k p] pos) (Is (.bool (!vs.isEmpty))) :=
  fun s Q E st q => wpAny_Compare1 (ha _ _ _ st fun v s1 h1 x1 => Tuple_ (EvL.nil.use x1 fun ws s2 hw x2 => by
    subst hw
    obtain rfl : v = .ref t := h1
    refine new_tuple x2 (by simp) fun b s3 x3 _ => ?_
    refine PySem.SeqAt.RcNeAt.tuples (e := fun _ => true) (x3.tup.tup ht) (IsTup.of_St x3 (.head _)) hu (fun j h1 h2 => absurd h2 (by simp)) _ _ _ _ ?_
    have := q _ _ rfl x3.drop
    cases vs with
    | nil => simpa using this
    | cons v r => simpa using this)) rfl

theorem has_scope_spec {n : Nat} {tr : T} {v : Value} {Q : Value → Shared → Prop} (O : Ok C fa) (hA : Am A (n + 1)) (P : Pre C.B s.heap []) (hn : tr ≠ .non) (hv : Tree s.heap tr v)
    (q : ∀ s', Post [] s s' → Q (.bool (hasSc tr)) s') : wpAny C.M A (call (.ref (fa 36)) [v]) Q E s := by
  refine go (st := stAt 36) rfl hA O.S (O.fn 36 (by decide)) P fun I s1 cdv A' hA' hH hG hz SI X => ?_
  have out : ∀ (v : Value) (m : Str → Option Value) (s' : Shared), St I m [] s' → v = .bool (hasSc tr) → Q v s' := fun v m s' X h => by subst h; exact q s' (leaveF (l1 := []) (l1' := []) X P hH (hG ▸ TupLe.refl _) hz)
  rw [← hG] at hv
  obtain ⟨a, t1, t2, rest, rfl, hT⟩ := tree_view hv hn
  refine last (wpAny_Return_some (BoolOp_and ?_))
  refine Ev.useV (Ev.cmpInS (.tag (.loc rfl) hT)) X fun s2 X => ?_
  refine wpAny_truthy_bool ?_
  by_cases hb : ((["block", "fork"] : List Str).any (· == tr.tag)) = true
  · rw [if_pos hb]
    cases tr with
    | blk fk mm lab ds ts =>
      clear hT
      obtain ⟨a', t1, t2, lv, da, dvs, ta, tvs, ea, hT, hlab, hda, hds, hta, hts⟩ := hv
      cases ea
      refine BoolOp_one (BoolOp_or ?_)
      refine Ev.useV (Ev.cmpNotN (b := lab.isSome) (.tup (.loc rfl) .cI hT) ?_) X fun s2 X => ?_
      · cases lab with
        | none => exact .inl ⟨rfl, hlab⟩
        | some x => obtain ⟨tx, rfl⟩ := hlab; exact .inr ⟨rfl, by simp⟩
      refine wpAny_truthy_bool ?_
      cases lab with
      | some x => exact out _ _ _ X (show Value.bool true = _ by simp [hasSc])
      | none =>
        have hu : A'.units < cLine := by
          have := hA'.hu
          have h2 : cLine ≥ 9000 := by decide
          lia
        refine BoolOp_one (Ev.useV (Ev.neUnit (.tup (.loc rfl) .cI hT) hda hu) X fun s2 X => ?_)
        refine out _ _ _ X (show Value.bool (!dvs.isEmpty) = _ from ?_)
        have := hds.length
        cases ds <;> cases dvs <;> simp [hasSc] at this ⊢
    | one kk => exact absurd hb (by show ¬ ((["block", "fork"] : List Str).any (· == kk.tag)) = true; cases kk <;> decide)
    | pth d => exact absurd hb (by cases d; exact (by decide : ¬ ((["block", "fork"] : List Str).any (· == ("trigger" : Str))) = true); exact (by decide : ¬ ((["block", "fork"] : List Str).any (· == ("disable" : Str))) = true))
    | non => exact absurd rfl hn
    | dis => exact absurd hb (by exact (by decide : ¬ ((["block", "fork"] : List Str).any (· == ("disable" : Str))) = true))
    | trg => exact absurd hb (by exact (by decide : ¬ ((["block", "fork"] : List Str).any (· == ("trigger" : Str))) = true))
    | cho => exact absurd hb (by exact (by decide : ¬ ((["block", "fork"] : List Str).any (· == ("if" : Str))) = true))
    | cas => exact absurd hb (by exact (by decide : ¬ ((["block", "fork"] : List Str).any (· == ("case" : Str))) = true))
    | fev => exact absurd hb (by exact (by decide : ¬ ((["block", "fork"] : List Str).any (· == ("forever" : Str))) = true))
    | awt => exact absurd hb (by exact (by decide : ¬ ((["block", "fork"] : List Str).any (· == ("await" : Str))) = true))
    | lop => exact absurd hb (by exact (by decide : ¬ ((["block", "fork"] : List Str).any (· == ("for" : Str))) = true))
  · rw [if_neg hb]
    refine out _ _ _ X ?_
    cases tr with
    | blk fk mm lab ds ts => exact absurd (by cases fk; exact (by decide : ((["block", "fork"] : List Str).any (· == ("block" : Str))) = true); exact (by decide : ((["block", "fork"] : List Str).any (· == ("fork" : Str))) = true)) hb
    | _ => simp only [Bool.not_eq_true] at hb; rw [hb]; rfl
end
end Mine
end

noncomputable section
open PySem PySem.W PyProof.Rows PySem.Calls PySem.Spec
set_option maxRecDepth 100000
set_option maxHeartbeats 4000000
namespace Mine
section
variable {C : Cx} {A : Around} {E : Value → Shared → Prop} {s : Shared} {I : Info} {G : Heap} {m : Str → Option Value} {env : Env} {fa : Nat → Addr} {led : List (Addr × Obj)}

theorem fresh_of {l1 : List Addr} {s' : Shared} {a : Addr} {o : Obj} (X : St I m led s') (hH : I.H = hideAll s.heap l1) (hm : (a, o) ∈ led) (hn : a ∉ l1) : s.heap.get? a = none := by
  have h1 := (X.news _ hm).2.2
  cases h : s.heap.get? a with
  | none => rfl
  | some oo => rw [hH, hideAll_get _ h hn] at h1; cases h1

theorem list_of_tup {t : Addr} {vs : List Value} {Q : Value → Shared → Prop} (X : St I m led s) (ht : IsTup I.G t vs.toArray) (hz : vs.length ≤ 100000) (q : ∀ a o s', LX o vs → St I m ((a, o) :: led) s' → Q (.ref a) s') : wpAny C.M A (call (.type "list") [.ref t]) Q E s := by
  obtain ⟨o, ho, hc, n, hd⟩ := X.tup.tup ht
  refine call_list_seq t (.inr rfl) ho hc hd (fun h' c' hk hg => ?_) (by rw [sizeLine_eq]; simp; lia)
  have X2 := X.grown (s' := { s with heap := h' }) hk rfl rfl
  have hfr : s.heap.get? s.heap.objs.size = none := by
    cases h : s.heap.get? s.heap.objs.size with
    | none => rfl
    | some o => exact absurd (Heap.lt_size h) (Nat.lt_irrefl _)
  exact q _ _ _ ⟨c', rfl⟩ (St.adopt (s := s) X X2 rfl hg hfr)

theorem below_spec {n : Nat} {tr : T} {v : Value} {Q : Value → Shared → Prop} (O : Ok C fa) (hA : Am A (n + 2)) (P : Pre C.B s.heap []) (hn : tr ≠ .non) (hv : Tree s.heap tr v) (hok : ∃ d, tr.ok d)
    (q : ∀ a o vs s', LX o vs → All2 (Tree s'.heap) (belowT tr) vs → s'.heap.get? a = some o → s.heap.get? a = none → Post [] s s' → Q (.ref a) s') : wpAny C.M A (call (.ref (fa 37)) [v]) Q E s := by
  refine go (st := stAt 37) rfl hA O.S (O.fn 37 (by decide)) P fun I s1 cdv A' hA' hH hG hz SI X => ?_
  have out : ∀ (a : Addr) (o : Obj) (vs : List Value) (m : Str → Option Value) (s' : Shared), St I m [(a, o)] s' → LX o vs → All2 (Tree I.G) (belowT tr) vs → Q (.ref a) s' := fun a o vs m s' X hl h =>
    q a o vs s' hl (h.mono fun _ _ z => Tree.le X.tup _ _ z) (X.get (.head _)) (fresh_of X hH (.head _) (by simp)) (leaveF (l1 := []) (l1' := []) (fz := []) (X.drop) P hH (hG ▸ TupLe.refl _) hz)
  rw [← hG] at hv
  obtain ⟨a, t1, t2, rest, rfl, hT⟩ := tree_view hv hn
  refine wpAny_execs_cons (xIf (b := ((["block", "fork"] : List Str).any (· == tr.tag))) (Tr.inS (.tag (.loc rfl) hT)) X fun s2 X => ?_)
  by_cases hb : ((["block", "fork"] : List Str).any (· == tr.tag)) = true
  · rw [if_pos hb]
    cases tr with
    | blk fk mm lab ds ts =>
      have hv0 := hv
      obtain ⟨a', t1, t2, lv, da, dvs, ta, tvs, ea, hT, hlab, hda, hds, hta, hts⟩ := hv
      cases ea
      refine last (wpAny_Return_some (IfExp_ (isTrue_plain ?_)))
      refine ev_callX SI (O.nm 36 (by decide)) (O.fn 36 (by decide)) X fun s3 X => ?_
      refine spliced_more (Ev.useV (.loc rfl) X fun s4 X => ?_)
      refine spliced_none ⟨(X.stat SI).X, ?_⟩
      refine has_scope_spec (n := 0) O (hA'.le (by lia)) (X.pre (l1 := []) SI fun p hp => by cases hp) hn (Tree.le X.tup _ _ hv0) fun s5 P2 => ?_
      have X := St.post (l1 := []) (l1' := []) X P2 rfl fun p hp => by cases hp
      refine wpAny_truthy_bool ?_
      by_cases hs : hasSc (.blk fk mm lab ds ts) = true
      · rw [if_pos hs]
        refine ev_list EvL.nil X (fun vs h => by subst h; exact Nat.zero_le _) fun vs b ob s6 h2 h3 X => ?_
        subst h2
        exact out _ _ _ _ _ X h3 (by rw [belowT, if_pos hs]; exact .nil)
      · rw [if_neg hs]
        refine ev_bt SI (O.bi "list" (by decide)) boot_list X fun s6 X => ?_
        refine spliced_more (Ev.useV (.tup (.loc rfl) .cI hT) X fun s7 X => ?_)
        have hlen := hts.all2.length
        have : ts.length ≤ 7 := by
          obtain ⟨d, hok⟩ := hok
          cases d with
          | zero => exact hok.elim
          | succ d => exact hok.2.2.2.1
        refine spliced_none (list_of_tup X hta (by lia) fun b ob s8 h3 X => ?_)
        exact out _ _ _ _ _ X h3 (by rw [belowT, if_neg hs]; exact hts.all2)
    | one kk => exact absurd hb (by show ¬ ((["block", "fork"] : List Str).any (· == kk.tag)) = true; cases kk <;> decide)
    | pth d => exact absurd hb (by cases d; exact (by decide : ¬ ((["block", "fork"] : List Str).any (· == ("trigger" : Str))) = true); exact (by decide : ¬ ((["block", "fork"] : List Str).any (· == ("disable" : Str))) = true))
    | non => exact absurd rfl hn
    | dis => exact absurd hb (by exact (by decide : ¬ ((["block", "fork"] : List Str).any (· == ("disable" : Str))) = true))
    | trg => exact absurd hb (by exact (by decide : ¬ ((["block", "fork"] : List Str).any (· == ("trigger" : Str))) = true))
    | cho => exact absurd hb (by exact (by decide : ¬ ((["block", "fork"] : List Str).any (· == ("if" : Str))) = true))
    | cas => exact absurd hb (by exact (by decide : ¬ ((["block", "fork"] : List Str).any (· == ("case" : Str))) = true))
    | fev => exact absurd hb (by exact (by decide : ¬ ((["block", "fork"] : List Str).any (· == ("forever" : Str))) = true))
    | awt => exact absurd hb (by exact (by decide : ¬ ((["block", "fork"] : List Str).any (· == ("await" : Str))) = true))
    | lop => exact absurd hb (by exact (by decide : ¬ ((["block", "fork"] : List Str).any (· == ("for" : Str))) = true))
  rw [if_neg hb]
  refine wpAny_execs_nil ?_
  clear hT
  cases tr with
  | non => exact absurd rfl hn
  | blk fk mm lab ds ts => exact absurd (by cases fk; exact (by decide : ((["block", "fork"] : List Str).any (· == ("block" : Str))) = true); exact (by decide : ((["block", "fork"] : List Str).any (· == ("fork" : Str))) = true)) hb
  | dis mm m2 x =>
    obtain ⟨a, t1, t2, nn, ea, hT, hN⟩ := hv
    cases ea
    refine wpAny_execs_cons (xIf (b := false) (Tr.cast (Tr.eqS (.tag (.loc rfl) hT) .cS) (by decide)) X fun s3 X => ?_)
    rw [if_neg (by decide)]
    refine wpAny_execs_nil ?_
    refine wpAny_execs_cons (xIf (b := false) (Tr.cast (Tr.eqS (.tag (.loc rfl) hT) .cS) (by decide)) X fun s3 X => ?_)
    rw [if_neg (by decide)]
    refine wpAny_execs_nil ?_
    refine wpAny_execs_cons (xIf (b := true) (Tr.cast (Tr.inS (.tag (.loc rfl) hT)) (by decide)) X fun s3 X => ?_)
    rw [if_pos rfl]
    refine last (wpAny_Return_some (ev_list EvL.nil X (fun vs h => by subst h; exact Nat.zero_le _) fun vs b ob s6 h2 h3 X => ?_))
    subst h2
    exact out _ _ _ _ _ X h3 .nil
  | trg mm m2 x =>
    obtain ⟨a, t1, t2, nn, ea, hT, hN⟩ := hv
    cases ea
    refine wpAny_execs_cons (xIf (b := false) (Tr.cast (Tr.eqS (.tag (.loc rfl) hT) .cS) (by decide)) X fun s3 X => ?_)
    rw [if_neg (by decide)]
    refine wpAny_execs_nil ?_
    refine wpAny_execs_cons (xIf (b := false) (Tr.cast (Tr.eqS (.tag (.loc rfl) hT) .cS) (by decide)) X fun s3 X => ?_)
    rw [if_neg (by decide)]
    refine wpAny_execs_nil ?_
    refine wpAny_execs_cons (xIf (b := true) (Tr.cast (Tr.inS (.tag (.loc rfl) hT)) (by decide)) X fun s3 X => ?_)
    rw [if_pos rfl]
    refine last (wpAny_Return_some (ev_list EvL.nil X (fun vs h => by subst h; exact Nat.zero_le _) fun vs b ob s6 h2 h3 X => ?_))
    subst h2
    exact out _ _ _ _ _ X h3 .nil
  | pth b mm =>
    obtain ⟨a, t1, t2, nn, ea, hT, hN⟩ := hv
    cases ea
    cases b
    · refine wpAny_execs_cons (xIf (b := false) (Tr.cast (Tr.eqS (.tag (.loc rfl) hT) .cS) (by decide)) X fun s3 X => ?_)
      rw [if_neg (by decide)]
      refine wpAny_execs_nil ?_
      refine wpAny_execs_cons (xIf (b := false) (Tr.cast (Tr.eqS (.tag (.loc rfl) hT) .cS) (by decide)) X fun s3 X => ?_)
      rw [if_neg (by decide)]
      refine wpAny_execs_nil ?_
      refine wpAny_execs_cons (xIf (b := true) (Tr.cast (Tr.inS (.tag (.loc rfl) hT)) (by decide)) X fun s3 X => ?_)
      rw [if_pos rfl]
      refine last (wpAny_Return_some (ev_list EvL.nil X (fun vs h => by subst h; exact Nat.zero_le _) fun vs b ob s6 h2 h3 X => ?_))
      subst h2
      exact out _ _ _ _ _ X h3 .nil
    · refine wpAny_execs_cons (xIf (b := false) (Tr.cast (Tr.eqS (.tag (.loc rfl) hT) .cS) (by decide)) X fun s3 X => ?_)
      rw [if_neg (by decide)]
      refine wpAny_execs_nil ?_
      refine wpAny_execs_cons (xIf (b := false) (Tr.cast (Tr.eqS (.tag (.loc rfl) hT) .cS) (by decide)) X fun s3 X => ?_)
      rw [if_neg (by decide)]
      refine wpAny_execs_nil ?_
      refine wpAny_execs_cons (xIf (b := true) (Tr.cast (Tr.inS (.tag (.loc rfl) hT)) (by decide)) X fun s3 X => ?_)
      rw [if_pos rfl]
      refine last (wpAny_Return_some (ev_list EvL.nil X (fun vs h => by subst h; exact Nat.zero_le _) fun vs b ob s6 h2 h3 X => ?_))
      subst h2
      exact out _ _ _ _ _ X h3 .nil
  | cas mm ta tb =>
    obtain ⟨a, t1, t2, z, o, c, p1, p2, l, lo, va, vb, ea, hT, ho, hcc, hp1, hl, hlo, hp2, hva, hvb⟩ := hv
    cases ea
    refine wpAny_execs_cons (xIf (b := true) (Tr.cast (Tr.eqS (.tag (.loc rfl) hT) .cS) (by decide)) X fun s3 X => ?_)
    rw [if_pos rfl]
    refine last (wpAny_Return_some (ev_list (EvL.cons (.tup (.tup (.tup (.loc rfl) .cI hT) .cI hcc) .cI hp1) (EvL.cons (.tup (.tup (.tup (.loc rfl) .cI hT) .cI hcc) .cI hp2) .nil)) X (fun vs h => ?_) fun vs b ob s6 h2 h3 X => ?_))
    · obtain ⟨_, _, rfl, _, _, _, rfl, _, rfl⟩ := h; simp
    · obtain ⟨_, _, rfl, e1, _, _, rfl, e2, rfl⟩ := h2
      obtain rfl := e1; obtain rfl := e2
      exact out _ _ _ _ _ X h3 (.cons hva (.cons hvb .nil))
  | cho mm ta tb =>
    obtain ⟨a, t1, t2, o, va, vb, ea, hT, ho, hva, hvb⟩ := hv
    cases ea
    refine wpAny_execs_cons (xIf (b := false) (Tr.cast (Tr.eqS (.tag (.loc rfl) hT) .cS) (by decide)) X fun s3 X => ?_)
    rw [if_neg (by decide)]
    refine wpAny_execs_nil ?_
    refine wpAny_execs_cons (xIf (b := true) (Tr.cast (Tr.eqS (.tag (.loc rfl) hT) .cS) (by decide)) X fun s3 X => ?_)
    rw [if_pos rfl]
    refine last (wpAny_Return_some (ev_list (EvL.cons (.tup (.loc rfl) .cI hT) (EvL.cons (.tup (.loc rfl) .cI hT) .nil)) X (fun vs h => ?_) fun vs b ob s6 h2 h3 X => ?_))
    · obtain ⟨_, _, rfl, _, _, _, rfl, _, rfl⟩ := h; simp
    · obtain ⟨_, _, rfl, e1, _, _, rfl, e2, rfl⟩ := h2
      obtain rfl := e1; obtain rfl := e2
      exact out _ _ _ _ _ X h3 (.cons hva (.cons hvb .nil))
  | one kk mm ta =>
    obtain ⟨a, t1, t2, o, va, ea, hT, ho, hva⟩ := hv
    cases ea
    have i1 : (kk.tag == "case") = false := by cases kk <;> decide
    have i2 : (kk.tag == "if") = false := by cases kk <;> decide
    have i3 : ((["disable", "trigger"] : List Str).any (· == kk.tag)) = false := by cases kk <;> decide
    refine wpAny_execs_cons (xIf (b := false) (Tr.cast (Tr.eqS (.tag (.loc rfl) hT) .cS) i1) X fun s3 X => ?_)
    rw [if_neg (by decide)]
    refine wpAny_execs_nil ?_
    refine wpAny_execs_cons (xIf (b := false) (Tr.cast (Tr.eqS (.tag (.loc rfl) hT) .cS) i2) X fun s3 X => ?_)
    rw [if_neg (by decide)]
    refine wpAny_execs_nil ?_
    refine wpAny_execs_cons (xIf (b := false) (Tr.cast (Tr.inS (.tag (.loc rfl) hT)) i3) X fun s3 X => ?_)
    rw [if_neg (by decide)]
    refine wpAny_execs_nil ?_
    refine last (wpAny_Return_some (ev_list (EvL.cons (.tup (.loc rfl) (.neg1 .cI) hT) .nil) X (fun vs h => ?_) fun vs b ob s6 h2 h3 X => ?_))
    · obtain ⟨_, _, rfl, _, rfl⟩ := h; simp
    · obtain ⟨_, _, rfl, e1, rfl⟩ := h2
      obtain rfl := e1
      exact out _ _ _ _ _ X h3 (.cons hva .nil)
  | fev mm ta =>
    obtain ⟨a, t1, t2, va, ea, hT, hva⟩ := hv
    cases ea
    refine wpAny_execs_cons (xIf (b := false) (Tr.cast (Tr.eqS (.tag (.loc rfl) hT) .cS) (by decide)) X fun s3 X => ?_)
    rw [if_neg (by decide)]
    refine wpAny_execs_nil ?_
    refine wpAny_execs_cons (xIf (b := false) (Tr.cast (Tr.eqS (.tag (.loc rfl) hT) .cS) (by decide)) X fun s3 X => ?_)
    rw [if_neg (by decide)]
    refine wpAny_execs_nil ?_
    refine wpAny_execs_cons (xIf (b := false) (Tr.cast (Tr.inS (.tag (.loc rfl) hT)) (by decide)) X fun s3 X => ?_)
    rw [if_neg (by decide)]
    refine wpAny_execs_nil ?_
    refine last (wpAny_Return_some (ev_list (EvL.cons (.tup (.loc rfl) (.neg1 .cI) hT) .nil) X (fun vs h => ?_) fun vs b ob s6 h2 h3 X => ?_))
    · obtain ⟨_, _, rfl, _, rfl⟩ := h; simp
    · obtain ⟨_, _, rfl, e1, rfl⟩ := h2
      obtain rfl := e1
      exact out _ _ _ _ _ X h3 (.cons hva .nil)
  | awt mm ta =>
    obtain ⟨a, t1, t2, t3, ev, va, ea, hT, hE, hva⟩ := hv
    cases ea
    refine wpAny_execs_cons (xIf (b := false) (Tr.cast (Tr.eqS (.tag (.loc rfl) hT) .cS) (by decide)) X fun s3 X => ?_)
    rw [if_neg (by decide)]
    refine wpAny_execs_nil ?_
    refine wpAny_execs_cons (xIf (b := false) (Tr.cast (Tr.eqS (.tag (.loc rfl) hT) .cS) (by decide)) X fun s3 X => ?_)
    rw [if_neg (by decide)]
    refine wpAny_execs_nil ?_
    refine wpAny_execs_cons (xIf (b := false) (Tr.cast (Tr.inS (.tag (.loc rfl) hT)) (by decide)) X fun s3 X => ?_)
    rw [if_neg (by decide)]
    refine wpAny_execs_nil ?_
    refine last (wpAny_Return_some (ev_list (EvL.cons (.tup (.loc rfl) (.neg1 .cI) hT) .nil) X (fun vs h => ?_) fun vs b ob s6 h2 h3 X => ?_))
    · obtain ⟨_, _, rfl, _, rfl⟩ := h; simp
    · obtain ⟨_, _, rfl, e1, rfl⟩ := h2
      obtain rfl := e1
      exact out _ _ _ _ _ X h3 (.cons hva .nil)
  | lop mm ta =>
    obtain ⟨a, t1, t2, l1, o, l2, va, ea, hT, hl1, ho, hl2, hva⟩ := hv
    cases ea
    refine wpAny_execs_cons (xIf (b := false) (Tr.cast (Tr.eqS (.tag (.loc rfl) hT) .cS) (by decide)) X fun s3 X => ?_)
    rw [if_neg (by decide)]
    refine wpAny_execs_nil ?_
    refine wpAny_execs_cons (xIf (b := false) (Tr.cast (Tr.eqS (.tag (.loc rfl) hT) .cS) (by decide)) X fun s3 X => ?_)
    rw [if_neg (by decide)]
    refine wpAny_execs_nil ?_
    refine wpAny_execs_cons (xIf (b := false) (Tr.cast (Tr.inS (.tag (.loc rfl) hT)) (by decide)) X fun s3 X => ?_)
    rw [if_neg (by decide)]
    refine wpAny_execs_nil ?_
    refine last (wpAny_Return_some (ev_list (EvL.cons (.tup (.loc rfl) (.neg1 .cI) hT) .nil) X (fun vs h => ?_) fun vs b ob s6 h2 h3 X => ?_))
    · obtain ⟨_, _, rfl, _, rfl⟩ := h; simp
    · obtain ⟨_, _, rfl, e1, rfl⟩ := h2
      obtain rfl := e1
      exact out _ _ _ _ _ X h3 (.cons hva .nil)
end
end Mine
end

noncomputable section
open PySem PySem.W PyProof.Rows PySem.Calls PySem.Spec
set_option maxRecDepth 100000
set_option maxHeartbeats 4000000
namespace Mine
theorem type_dget : typeOf (.builtin "dict.get") = pure (.type "method_descriptor") := by show builtinType _ = _; rw [builtinType_eq_fast]; kernel_rfl
section
variable {C : Cx} {A : Around} {E : Value → Shared → Prop} {s : Shared} {I : Info} {G : Heap} {m : Str → Option Value} {env : Env} {fa : Nat → Addr} {led : List (Addr × Obj)}

theorem Ev.dget {e k z : Expr} {apos pos : Pos} {a : Addr} {o : Obj} {kvs : List (Str × Value)} {x : Str} {w : Value} (he : Ev C A env I m led e (Is (.ref a))) (hm : (a, o) ∈ led) (hd : Dct C o kvs) (hs : (a == sysModules) = false)
    (hk : Ev C A env I m led k (IsS x)) (hz : Ev C A env I m led z (Is w))
    (h1 : attributeBase e "get" env (eval e env) = eval e env := by rfl)
    (h2 : (((List.all (backTo pos (starEach [k, z] env)) fun x => !Prod.fst x) && List.all (backToKw pos (keywordEach [] env)) fun x => Option.isSome (Prod.fst x)) && decide ((List.length [k, z] + List.length (α := Keyword) [] + if List.isEmpty (α := Keyword) [] = true then 0 else 1) < 30)) = true := by rfl)
    (h3 : (apos.endLine == pos.line) = true := by rfl)
    (h4 : backTo pos (starEach [k, z] env) = [(false, eval k env), (false, eval z env)] := by rfl) :
    Ev C A env I m led (.Call (.Attribute e "get" apos) [k, z] [] pos) (Is ((valueAt kvs x).getD w)) := fun s Q E X q => by
  refine wpAny_Call_method h1 h2 h3 PySem.F.plainAttrs_dict PySem.F.slot_dict_get type_dget (he _ _ _ X fun v s1 h X => ?_)
  obtain rfl : v = .ref a := h
  have hg := X.get hm
  have hx := (hd.at hg).mapOf
  refine ⟨hx.typeIs, fun b eb => ?_, ?_⟩
  · cases eb
    obtain ⟨es, ep, hc, _⟩ := hd
    exact ⟨_, hg, hc.2.1⟩
  · rw [h4]
    refine wpAny_dict_get2 (knd := strKind C.prog C.w) hs (hk _ _ _ X fun kv s2 h X => hz _ _ _ X fun zv s3 h' X => ?_)
    obtain ⟨t, rfl⟩ := h
    obtain rfl : zv = w := h'
    exact ⟨x, _, strKind_is C.prog C.w x t, (hd.at (X.get hm)).mapOf, q _ _ rfl X.toks⟩

noncomputable def LEnt (p : Str × Str) (kv : Str × Value) : Prop := kv.1 = p.1 ∧ IsS p.2 kv.2
noncomputable def LD (C : Cx) (o : Obj) (sc : Sc) : Prop := ∃ kvs, Dct C o kvs ∧ All2 LEnt sc kvs
theorem LD.not {o : Obj} {sc : Sc} (h : LD C o sc) : ¬ IsT o := by obtain ⟨_, h, _⟩ := h; exact h.not
theorem lent_at {sc : Sc} {kvs : List (Str × Value)} (H : All2 LEnt sc kvs) (x : Str) :
    match sc.lookup x with
    | none => valueAt kvs x = none
    | some st => ∃ v, valueAt kvs x = some v ∧ IsS st v := by
  induction H with
  | nil => rfl
  | @cons p kv _ _ h1 _ ih =>
    obtain ⟨p1, p2⟩ := p
    obtain ⟨k1, k2⟩ := kv
    have e : k1 = p1 := h1.1
    subst e
    unfold valueAt at ih ⊢
    rw [List.lookup_cons, List.find?_cons]
    by_cases hx : k1 = x
    · subst hx
      simp only [beq_self_eq_true, decide_true, Option.map_some]
      exact ⟨_, rfl, h1.2⟩
    · rw [show (x == k1) = false by simpa using fun e => hx e.symm, show decide (k1 = x) = false by simpa using hx]
      exact ih
theorem lent_has {sc : Sc} {kvs : List (Str × Value)} (H : All2 LEnt sc kvs) (x : Str) : (valueAt kvs x).isSome = (sc.lookup x).isSome := by
  have := lent_at H x
  cases e : sc.lookup x with
  | none => rw [e] at this; replace this : valueAt kvs x = none := this; rw [this]; rfl
  | some v => rw [e] at this; obtain ⟨u, hu, _⟩ := this; rw [hu]; rfl
inductive LScope (C : Cx) (fz : List (Addr × Obj)) (sc : Sc) (v : Value) : Prop
  | mk (a : Addr) (o : Obj) (h1 : v = .ref a) (h2 : (a, o) ∈ fz) (h3 : LD C o sc ∧ (a == sysModules) = false) : LScope C fz sc v
noncomputable def meaning (scs : List Sc) (x : Str) : Str := scs.foldl (fun st sc => (sc.lookup x).getD st) ""

theorem meaning_spec {n : Nat} {lc : Addr} {lo : Obj} {vs : List Value} {scs : List Sc} {x : Str} {tx : Tok} {fz : List (Addr × Obj)} {Q : Value → Shared → Prop} (O : Ok C fa) (hA : Am A (n + 1)) (P : Pre C.B s.heap fz) (hm : (lc, lo) ∈ fz) (hl : LX lo vs) (hs : All2 (LScope C fz) scs vs)
    (q : ∀ t s', Post [] s s' → Q (.str (meaning scs x) t) s') : wpAny C.M A (call (.ref (fa 38)) [.ref lc, .str x tx]) Q E s := by
  refine go (st := stAt 38) rfl hA O.S (O.fn 38 (by decide)) P fun I s1 cdv A' hA' hH hG hz SI X => ?_
  refine wpAny_execs_cons (xSet .cS X fun v1 s2 e1 X => ?_)
  obtain ⟨t0, rfl⟩ := e1
  refine wpAny_execs_cons (wpAny_For ?_ (by intro _; rfl))
  refine Ev.useV (.loc rfl) X fun s3 X => ?_
  refine iter_list X hm hl.lst fun it io s4 hio X => ?_
  refine for_loop (Itr.list (vs := vs) hA'.hh) (fun i G m led => led = fz ∧ m "name" = some (.str x tx) ∧ ∃ t, m "sort" = some (.str (meaning (scs.take i) x) t)) (fun i G m led h => ?_) X hio ⟨rfl, rfl, t0, rfl⟩ ?_ ?_
  · obtain ⟨rfl, _⟩ := h
    exact ⟨lo, hm, hl.lst⟩
  · rintro i G m' led o v s5 E' hi hv ⟨rfl, k1, t1, k2⟩ hle X
    obtain ⟨sc, hsc, a, ao, rfl, ham, hld, hsm⟩ := hs.get hv
    obtain ⟨kvs, hd, hall⟩ := hld
    refine wpAny_assign_Name (store X fun s6 X => ?_)
    refine last (xSet (.dget (.loc (by rfl)) (.tail _ ham) hd hsm (.locS (by exact k1)) (.loc (by exact k2))) X fun v3 s7 e3 X => ?_)
    have hat := lent_at hall x
    have htake : scs.take (i + 1) = scs.take i ++ [sc] := by rw [List.take_add_one, hsc]; rfl
    refine ⟨.inl rfl, s7.heap, (fun z => if z = "sort" then some v3 else if z = "names" then some (.ref a) else m' z), _, ⟨rfl, k1, ?_⟩, hle.trans X.tup, X.rebase⟩
    obtain rfl := e3
    have hmn : meaning (scs.take (i + 1)) x = (sc.lookup x).getD (meaning (scs.take i) x) := by rw [htake]; unfold meaning; rw [List.foldl_append]; rfl
    rw [hmn]
    cases e : sc.lookup x with
    | none => rw [e] at hat; replace hat : valueAt _ _ = none := hat; exact ⟨t1, by show some _ = _; rw [hat]; rfl⟩
    | some st => rw [e] at hat; obtain ⟨u, hu, tu, rfl⟩ := hat; exact ⟨tu, by show some _ = _; rw [hu]; rfl⟩
  · rintro G m' led s5 ⟨rfl, k1, t1, k2⟩ hle X
    refine last (xRet (.loc (by exact k2)) X fun v3 s7 e3 X => ?_)
    obtain rfl := e3
    rw [← hs.length, List.take_length]
    exact q _ _ (leaveF (l1 := []) (l1' := []) X P hH (hG ▸ hle) hz)
end
end Mine
end

noncomputable section
open PySem PySem.W PyProof.Rows PySem.Calls PySem.Spec
set_option maxRecDepth 100000
namespace Mine

mutual
noncomputable def nodesT : T → List T
  | .non => []
  | .dis m m2 x => [.dis m m2 x]
  | .trg m m2 x => [.trg m m2 x]
  | .pth d m => [.pth d m]
  | .blk fk m lab ds ts => .blk fk m lab ds ts :: (if hasSc (.blk fk m lab ds ts) = true then [] else nodesL ts)
  | .cho m a b => .cho m a b :: (nodesT a ++ nodesT b)
  | .cas m a b => .cas m a b :: (nodesT a ++ nodesT b)
  | .one k m a => .one k m a :: nodesT a
  | .fev m a => .fev m a :: nodesT a
  | .awt m a => .awt m a :: nodesT a
  | .lop m a => .lop m a :: nodesT a
noncomputable def nodesL : List T → List T
  | [] => []
  | t :: ts => nodesT t ++ nodesL ts
end
theorem nodesL_app : ∀ (a b : List T), nodesL (a ++ b) = nodesL a ++ nodesL b
  | [], b => rfl
  | t :: a, b => by rw [List.cons_append, nodesL, nodesL, nodesL_app a b, List.append_assoc]
theorem nodesT_below {t : T} (h : t ≠ .non) : nodesT t = t :: nodesL (belowT t) := by
  cases t with
  | non => exact absurd rfl h
  | blk fk m lab ds ts => rw [nodesT, belowT]; split <;> simp [nodesL]
  | _ => simp [nodesT, belowT, nodesL]
theorem szs_app : ∀ (a b : List T), T.szs (a ++ b) = T.szs a + T.szs b
  | [], b => by simp [T.szs]
  | t :: a, b => by rw [List.cons_append, T.szs, T.szs, szs_app a b]; lia
theorem szs_rev : ∀ (a : List T), T.szs a.reverse = T.szs a
  | [] => rfl
  | t :: a => by rw [List.reverse_cons, szs_app, szs_rev a, T.szs, T.szs, T.szs]; lia
theorem below_sz (t : T) : T.szs (belowT t) < t.sz := by
  cases t with
  | blk fk m lab ds ts => rw [belowT]; split <;> simp [T.szs, T.sz] <;> lia
  | _ => simp [belowT, T.szs, T.sz] <;> lia
mutual
theorem nodesT_len : ∀ t : T, (nodesT t).length ≤ t.cnt
  | .non => by simp [nodesT]
  | .dis .. => by simp [nodesT, T.cnt]
  | .trg .. => by simp [nodesT, T.cnt]
  | .pth .. => by simp [nodesT, T.cnt]
  | .blk fk m lab ds ts => by
    have := nodesL_len ts
    rw [nodesT]; split <;> simp [T.cnt] <;> lia
  | .cho m a b => by have := nodesT_len a; have := nodesT_len b; simp [nodesT, T.cnt]; lia
  | .cas m a b => by have := nodesT_len a; have := nodesT_len b; simp [nodesT, T.cnt]; lia
  | .one k m a => by have := nodesT_len a; simp [nodesT, T.cnt]; lia
  | .fev m a => by have := nodesT_len a; simp [nodesT, T.cnt]; lia
  | .awt m a => by have := nodesT_len a; simp [nodesT, T.cnt]; lia
  | .lop m a => by have := nodesT_len a; simp [nodesT, T.cnt]; lia
theorem nodesL_len : ∀ ts : List T, (nodesL ts).length ≤ T.cnts ts
  | [] => by simp [nodesL]
  | t :: ts => by have := nodesT_len t; have := nodesL_len ts; simp [nodesL, T.cnts]; lia
end

noncomputable def labOf : T → List (Str × Int)
  | .blk _ m (some x) _ _ => [(x, m)]
  | _ => []
mutual
theorem labs_nodes : ∀ t : T, labs t = (nodesT t).flatMap labOf
  | .non => by simp [labs, nodesT]
  | .dis .. => by simp [labs, nodesT, labOf]
  | .trg .. => by simp [labs, nodesT, labOf]
  | .pth .. => by simp [labs, nodesT, labOf]
  | .blk fk m lab ds ts => by
    have := labsL_nodes ts
    cases lab with
    | some x => simp [labs, nodesT, hasSc, labOf]
    | none =>
      by_cases h : ds = []
      · simp [labs, nodesT, hasSc, labOf, h, this]
      · simp [labs, nodesT, hasSc, labOf, h]
  | .cho m a b => by simp [labs, nodesT, labOf, labs_nodes a, labs_nodes b]
  | .cas m a b => by simp [labs, nodesT, labOf, labs_nodes a, labs_nodes b]
  | .one k m a => by simp [labs, nodesT, labOf, labs_nodes a]
  | .fev m a => by simp [labs, nodesT, labOf, labs_nodes a]
  | .awt m a => by simp [labs, nodesT, labOf, labs_nodes a]
  | .lop m a => by simp [labs, nodesT, labOf, labs_nodes a]
theorem labsL_nodes : ∀ ts : List T, labsL ts = (nodesL ts).flatMap labOf
  | [] => by simp [labsL, nodesL]
  | t :: ts => by simp [labsL, nodesL, labs_nodes t, labsL_nodes ts]
end

noncomputable def nodeR (w : Bool) (ch : List Sc) : T → List Row
  | .dis m m2 x => disR (findS ch x) m2 x
  | .trg m m2 x => trgR (findS ch x) m2 x
  | .blk fk m _ _ _ => tim (!w && fk) m
  | .one kk m _ => tim (!w && kk.waits) m
  | .awt m _ => tim (!w) m
  | _ => []
noncomputable def innR (w : Bool) (ch : List Sc) : T → List Row
  | .blk fk m lab ds ts => if hasSc (.blk fk m lab ds ts) = true then (runLabs (labsL ts) (declAll ds ([], []))).1 ++ chks w ts ((runLabs (labsL ts) (declAll ds ([], []))).2 :: ch) else []
  | _ => []
theorem perm_two {α : Type} {a1 a2 b1 b2 : List α} : ((a1 ++ b1) ++ (a2 ++ b2)).Perm ((a1 ++ a2) ++ (b1 ++ b2)) := by
  rw [List.append_assoc, List.append_assoc]
  refine List.Perm.append_left _ ?_
  rw [← List.append_assoc, ← List.append_assoc]
  exact List.Perm.append_right _ List.perm_append_comm
mutual
theorem chk_nodes (w : Bool) (ch : List Sc) : ∀ t : T, (chk w t ch).Perm ((nodesT t).flatMap (nodeR w ch) ++ (nodesT t).flatMap (innR w ch))
  | .non => by simp [chk, nodesT]
  | .dis .. => by simp [chk, nodesT, nodeR, innR]
  | .trg .. => by simp [chk, nodesT, nodeR, innR]
  | .pth .. => by simp [chk, nodesT, nodeR, innR]
  | .blk fk m lab ds ts => by
    have ih := chks_nodes w ch ts
    rw [chk, nodesT]
    by_cases h : (lab.isSome || !ds.isEmpty) = true
    · have h' : hasSc (.blk fk m lab ds ts) = true := h
      rw [if_pos h, if_pos h']
      simp only [List.flatMap_cons, List.flatMap_nil, List.append_nil, nodeR, innR]
      rw [if_pos h']
    · have h' : ¬ hasSc (.blk fk m lab ds ts) = true := h
      rw [if_neg h, if_neg h']
      simp only [List.flatMap_cons, nodeR, innR]
      rw [if_neg h', List.nil_append, List.append_assoc]
      exact ih.append_left _
  | .cho m a b => by
    simp only [chk, nodesT, List.flatMap_cons, nodeR, innR, List.nil_append, List.flatMap_append]
    exact ((chk_nodes w ch a).append (chk_nodes w ch b)).trans perm_two
  | .cas m a b => by
    simp only [chk, nodesT, List.flatMap_cons, nodeR, innR, List.nil_append, List.flatMap_append]
    exact ((chk_nodes w ch a).append (chk_nodes w ch b)).trans perm_two
  | .one kk m a => by
    simp only [chk, nodesT, List.flatMap_cons, nodeR, innR, List.nil_append]
    rw [List.append_assoc]
    exact (chk_nodes w ch a).append_left _
  | .fev m a => by
    simp only [chk, nodesT, List.flatMap_cons, nodeR, innR, List.nil_append]
    exact chk_nodes w ch a
  | .awt m a => by
    simp only [chk, nodesT, List.flatMap_cons, nodeR, innR, List.nil_append]
    rw [List.append_assoc]
    exact (chk_nodes w ch a).append_left _
  | .lop m a => by
    simp only [chk, nodesT, List.flatMap_cons, nodeR, innR, List.nil_append]
    exact chk_nodes w ch a
theorem chks_nodes (w : Bool) (ch : List Sc) : ∀ ts : List T, (chks w ts ch).Perm ((nodesL ts).flatMap (nodeR w ch) ++ (nodesL ts).flatMap (innR w ch))
  | [] => by simp [chks, nodesL]
  | t :: ts => by
    rw [chks, nodesL, List.flatMap_append, List.flatMap_append]
    exact ((chk_nodes w ch t).append (chks_nodes w ch ts)).trans perm_two
end
end Mine
end

noncomputable section
open PySem PySem.W PyProof.Rows PySem.Calls PySem.Spec
set_option maxRecDepth 100000
namespace Mine

noncomputable def l1 (q : List Row × Sc × List (Sc × List T)) : T → List Row × Sc × List (Sc × List T)
  | .blk fk m lab ds ts => if hasSc (.blk fk m lab ds ts) = true then
      (match lab with
        | some x => ((putE "duplicate_label" "block" x m ((declAll ds (q.1, [])).1, q.2.1)).1, (putE "duplicate_label" "block" x m ((declAll ds (q.1, [])).1, q.2.1)).2, q.2.2 ++ [((declAll ds (q.1, [])).2, ts)])
        | none => ((declAll ds (q.1, [])).1, q.2.1, q.2.2 ++ [((declAll ds (q.1, [])).2, ts)]))
    else q
  | _ => q
noncomputable def declR : T → List Row
  | .blk fk m lab ds ts => if hasSc (.blk fk m lab ds ts) = true then (declAll ds ([], [])).1 else []
  | _ => []
noncomputable def scopeOf : T → List (Sc × List T)
  | .blk fk m lab ds ts => if hasSc (.blk fk m lab ds ts) = true then [((declAll ds ([], [])).2, ts)] else []
  | _ => []
theorem declAll_split (ds : List D) (r : List Row) : declAll ds (r, []) = (r ++ (declAll ds ([], [])).1, (declAll ds ([], [])).2) := by
  have := declAll_fst ds r ([], [])
  rw [List.append_nil] at this
  exact this
theorem putE_split (dup st x : Str) (av : Int) (r : List Row) (n : Sc) : putE dup st x av (r, n) = (r ++ (putE dup st x av ([], n)).1, (putE dup st x av ([], n)).2) := by
  have := putE_fst dup st x av r ([], n)
  rw [List.append_nil] at this
  exact this
theorem runLabs_split (ls : List (Str × Int)) (r : List Row) (n : Sc) : runLabs ls (r, n) = (r ++ (runLabs ls ([], n)).1, (runLabs ls ([], n)).2) := by
  have := runLabs_fst ls r ([], n)
  rw [List.append_nil] at this
  exact this

theorem l1_all : ∀ (ns : List T) (told : List Row) (names : Sc) (nw : List (Sc × List T)),
    (ns.foldl l1 (told, names, nw)).2.1 = (runLabs (ns.flatMap labOf) ([], names)).2 ∧ (ns.foldl l1 (told, names, nw)).2.2 = nw ++ ns.flatMap scopeOf ∧
    (ns.foldl l1 (told, names, nw)).1.Perm (told ++ ((runLabs (ns.flatMap labOf) ([], names)).1 ++ ns.flatMap declR))
  | [], told, names, nw => ⟨rfl, by simp, by simp [runLabs]⟩
  | n :: ns, told, names, nw => by
    rw [List.foldl_cons]
    by_cases hb : ∃ fk m lab ds ts, n = .blk fk m lab ds ts ∧ hasSc n = true
    · obtain ⟨fk, m, lab, ds, ts, rfl, hs⟩ := hb
      have e2 : scopeOf (.blk fk m lab ds ts) = [((declAll ds ([], [])).2, ts)] := by rw [scopeOf, if_pos hs]
      have e3 : declR (.blk fk m lab ds ts) = (declAll ds ([], [])).1 := by rw [declR, if_pos hs]
      cases lab with
      | some x =>
        have e1 : l1 (told, names, nw) (.blk fk m (some x) ds ts) = (told ++ (declAll ds ([], [])).1 ++ (putE "duplicate_label" "block" x m ([], names)).1, (putE "duplicate_label" "block" x m ([], names)).2, nw ++ [((declAll ds ([], [])).2, ts)]) := by
          rw [l1, if_pos hs]
          simp only
          rw [declAll_split ds told, putE_split]
        rw [e1]
        obtain ⟨h1, h2, h3⟩ := l1_all ns (told ++ (declAll ds ([], [])).1 ++ (putE "duplicate_label" "block" x m ([], names)).1) (putE "duplicate_label" "block" x m ([], names)).2 (nw ++ [((declAll ds ([], [])).2, ts)])
        have e4 : runLabs ((T.blk fk m (some x) ds ts :: ns).flatMap labOf) ([], names) = ((putE "duplicate_label" "block" x m ([], names)).1 ++ (runLabs (ns.flatMap labOf) ([], (putE "duplicate_label" "block" x m ([], names)).2)).1, (runLabs (ns.flatMap labOf) ([], (putE "duplicate_label" "block" x m ([], names)).2)).2) := by
          rw [List.flatMap_cons]
          show runLabs (ns.flatMap labOf) (putE "duplicate_label" "block" x m ([], names)) = _
          exact runLabs_split _ _ _
        refine ⟨by rw [h1, e4], by rw [h2, List.flatMap_cons, e2, List.append_assoc], h3.trans ?_⟩
        rw [e4, List.flatMap_cons, e3]
        simp only [List.append_assoc]
        refine List.Perm.append_left _ ?_
        refine (List.perm_append_comm_assoc _ _ _).trans (List.Perm.append_left _ ?_)
        exact List.perm_append_comm_assoc _ _ _
      | none =>
        have e1 : l1 (told, names, nw) (.blk fk m none ds ts) = (told ++ (declAll ds ([], [])).1, names, nw ++ [((declAll ds ([], [])).2, ts)]) := by
          rw [l1, if_pos hs]
          simp only
          rw [declAll_split ds told]
        rw [e1]
        obtain ⟨h1, h2, h3⟩ := l1_all ns (told ++ (declAll ds ([], [])).1) names (nw ++ [((declAll ds ([], [])).2, ts)])
        have e4 : (T.blk fk m none ds ts :: ns).flatMap labOf = ns.flatMap labOf := by rw [List.flatMap_cons]; rfl
        refine ⟨by rw [h1, e4], by rw [h2, List.flatMap_cons, e2, List.append_assoc], h3.trans ?_⟩
        rw [e4, List.flatMap_cons, e3]
        simp only [List.append_assoc]
        refine List.Perm.append_left _ ?_
        exact List.perm_append_comm_assoc _ _ _
    · have e1 : l1 (told, names, nw) n = (told, names, nw) := by
        cases n with
        | blk fk m lab ds ts =>
          have hs : ¬ hasSc (.blk fk m lab ds ts) = true := fun h => hb ⟨fk, m, lab, ds, ts, rfl, h⟩
          simp only [l1, hs, if_false]
          simp
        | _ => rfl
      have e2 : scopeOf n = [] := by
        cases n with
        | blk fk m lab ds ts => rw [scopeOf, if_neg fun h => hb ⟨fk, m, lab, ds, ts, rfl, h⟩]
        | _ => rfl
      have e3 : declR n = [] := by
        cases n with
        | blk fk m lab ds ts => rw [declR, if_neg fun h => hb ⟨fk, m, lab, ds, ts, rfl, h⟩]
        | _ => rfl
      have e4 : labOf n = [] := by
        cases n with
        | blk fk m lab ds ts =>
          cases lab with
          | some x => exact absurd ⟨fk, m, some x, ds, ts, rfl, by simp [hasSc]⟩ hb
          | none => rfl
        | _ => rfl
      rw [e1, List.flatMap_cons, List.flatMap_cons, List.flatMap_cons, e2, e3, e4]
      exact l1_all ns told names nw

noncomputable def pot (w : Bool) (above : List Sc) (own : Sc) (row : List T) : List Row :=
  (runLabs (labsL row) ([], own)).1 ++ chks w row ((runLabs (labsL row) ([], own)).2 :: above)
noncomputable def pots (w : Bool) (pend : List (List Sc × Sc × List T)) : List Row := pend.flatMap fun p => pot w p.1 p.2.1 p.2.2

theorem innR_split (w : Bool) (ch : List Sc) (n : T) : innR w ch n = declR n ++ (scopeOf n).flatMap fun p => pot w ch p.1 p.2 := by
  cases n with
  | blk fk m lab ds ts =>
    rw [innR, declR, scopeOf]
    split
    · simp only [List.flatMap_cons, List.flatMap_nil, List.append_nil, pot]
      have := runLabs_split (labsL ts) (declAll ds ([], [])).1 (declAll ds ([], [])).2
      rw [show runLabs (labsL ts) (declAll ds ([], [])) = _ from this, List.append_assoc]
    · rfl
  | _ => rfl
theorem flatMap_perm_app {α β : Type} (f g : α → List β) : ∀ l : List α, (l.flatMap fun x => f x ++ g x).Perm (l.flatMap f ++ l.flatMap g)
  | [] => .nil
  | x :: l => by
    rw [List.flatMap_cons, List.flatMap_cons, List.flatMap_cons]
    exact ((flatMap_perm_app f g l).append_left _).trans perm_two
theorem pot_step (w : Bool) (above : List Sc) (own : Sc) (row : List T) :
    (pot w above own row).Perm ((runLabs (labsL row) ([], own)).1 ++ ((nodesL row).flatMap (nodeR w ((runLabs (labsL row) ([], own)).2 :: above)) ++
      ((nodesL row).flatMap declR ++ ((nodesL row).flatMap scopeOf).flatMap fun p => pot w ((runLabs (labsL row) ([], own)).2 :: above) p.1 p.2))) := by
  unfold pot
  refine List.Perm.append_left _ ?_
  refine (chks_nodes w _ row).trans (List.Perm.append_left _ ?_)
  rw [show (nodesL row).flatMap (innR w ((runLabs (labsL row) ([], own)).2 :: above)) = (nodesL row).flatMap (fun n => declR n ++ (scopeOf n).flatMap fun p => pot w ((runLabs (labsL row) ([], own)).2 :: above) p.1 p.2) from by
    congr 1; funext n; exact innR_split w _ n]
  refine (flatMap_perm_app _ _ _).trans ?_
  rw [List.flatMap_assoc]
  exact .refl _

theorem turn_perm (w : Bool) (told : List Row) (above : List Sc) (own : Sc) (row : List T) (rest : List (List Sc × Sc × List T)) (told' : List Row) (names : Sc) (nw : List (Sc × List T))
    (h : (nodesL row).foldl l1 (told, own, []) = (told', names, nw)) :
    ((told' ++ (nodesL row).flatMap (nodeR w (names :: above))) ++ pots w (rest ++ nw.map fun p => (names :: above, p.1, p.2))).Perm (told ++ pots w ((above, own, row) :: rest)) := by
  obtain ⟨h1, h2, h3⟩ := l1_all (nodesL row) told own []
  rw [h] at h1 h2 h3
  simp only [List.nil_append] at h1 h2 h3
  rw [← labsL_nodes] at h1 h3
  subst h1 h2
  have hp := pot_step w above own row
  have e1 : pots w (rest ++ ((nodesL row).flatMap scopeOf).map fun p => ((runLabs (labsL row) ([], own)).2 :: above, p.1, p.2)) = pots w rest ++ ((nodesL row).flatMap scopeOf).flatMap fun p => pot w ((runLabs (labsL row) ([], own)).2 :: above) p.1 p.2 := by
    unfold pots
    rw [List.flatMap_append, List.flatMap_map]
  have e2 : pots w ((above, own, row) :: rest) = pot w above own row ++ pots w rest := by unfold pots; rw [List.flatMap_cons]
  rw [e1, e2]
  have g1 : (told ++ (pot w above own row ++ pots w rest)).Perm (told ++ ((runLabs (labsL row) ([], own)).1 ++ ((nodesL row).flatMap (nodeR w ((runLabs (labsL row) ([], own)).2 :: above)) ++
      ((nodesL row).flatMap declR ++ ((nodesL row).flatMap scopeOf).flatMap fun p => pot w ((runLabs (labsL row) ([], own)).2 :: above) p.1 p.2)) ++ pots w rest)) :=
    List.Perm.append_left _ (hp.append_right _)
  refine List.Perm.trans ?_ g1.symm
  refine ((h3.append_right _).append_right _).trans ?_
  simp only [List.append_assoc]
  refine List.Perm.append_left _ (List.Perm.append_left _ ?_)
  refine (List.perm_append_comm_assoc _ _ _).trans (List.Perm.append_left _ (List.Perm.append_left _ ?_))
  exact List.perm_append_comm
end Mine
end

noncomputable section
open PySem PySem.W PyProof.Rows PySem.Calls PySem.Spec
set_option maxRecDepth 100000
set_option maxHeartbeats 4000000
namespace Mine
section
variable {C : Cx} {A : Around} {E : Value → Shared → Prop} {s : Shared} {I : Info} {G : Heap} {m : Str → Option Value} {env : Env} {fa : Nat → Addr} {led : List (Addr × Obj)}

theorem add_two {l b : Addr} {lo bo : Obj} {vs ws : List Value} {Q : Value → Shared → Prop} (X : St I m led s) (h1 : (l, lo) ∈ led) (h2 : (b, bo) ∈ led) (hl : LX lo vs) (hb : LX bo ws) (hz : vs.length + ws.length ≤ 100000)
    (q : ∀ a o s', LX o (vs ++ ws) → St I m ((a, o) :: led) s' → Q (.ref a) s') : wpAny C.M A (binaryOp .Add (.ref l) (.ref b)) Q E s := by
  obtain ⟨rest, W⟩ := X.whole
  refine add_lists X.fr W.news (hl.isList (X.get h1)) (hb.isList (X.get h2)) (fun h' F N => ?_) (by rw [sizeLine_eq]; lia)
  refine q _ _ _ ⟨0, rfl⟩ (Whole.back (s := s) (tk := s.toks) X W F N ?_ fun p hp => .inl (.tail _ hp))
  rw [List.map_cons, List.nodup_cons]
  refine ⟨fun hh => ?_, X.nd⟩
  obtain ⟨p, hp, e⟩ := List.mem_map.mp hh
  exact absurd (Heap.lt_size (X.get (a := p.1) (o := p.2) hp)) (by rw [e]; exact Nat.lt_irrefl _)

theorem Tr.neNil {e : Expr} {p pos : Pos} {a : Addr} {o : Obj} {items : List Value} (he : Ev C A env I m led e (Is (.ref a))) (hm : (a, o) ∈ led) (hl : LX o items) (hu : A.units < cLine)
    (hb : behindInMarks .NotEq (.List [] p) = false := by rfl) : Tr C A env I m led (.Compare e [.NotEq] [.List [] p] pos) (!items.isEmpty) :=
  fun s Q E x q => wpAny_isTrue_Compare1 (he _ _ _ x fun v s1 h1 x1 => by
    obtain rfl : v = .ref a := h1
    refine ev_list EvL.nil x1 (fun vs h => by subst h; exact Nat.zero_le _) fun vs b ob s2 h2 h3 x2 => ?_
    subst h2
    have L1 := hl.isList (x2.get (.tail _ hm))
    have L2 := h3.isList (x2.get (.head _))
    cases items with
    | nil => exact PySem.SeqAt.RcNeAt.lists (e := fun _ => true) L1 L2 rfl hu (fun j h1 h2 => absurd h2 (by simp)) _ _ _ _ (wpAny_truthy_bool (by simpa using q _ x2.drop))
    | cons v r => exact PySem.SeqAt.RcNeAt.lists_lengths L1 L2 (by simp) hu _ _ _ _ (wpAny_truthy_bool (by simpa using q _ x2.drop))) hb

theorem ev_dict {keys : List (Option Expr)} {values : List Expr} {pos : Pos} {Q : Value → Shared → Prop} (S : Stat C I.H) (X : St I m led s)
    (h : ∀ d o s0, Dct C o [] → (d == sysModules) = false → St I m ((d, o) :: led) s0 → wpAny C.M A (evalPairs (pairTrees keys values env pos)) (fun vs s1 => allStrKeys vs = true ∧ ∃ led', St I m ((d, o) :: led') s1 ∧
      ∀ o' s2, Dct C o' (merged [] (strPairs vs)) → St I m ((d, o') :: led') s2 → Q (.ref d) s2) E s0)
    (hs : strLits keys = true := by rfl) (hall : keys.all (·.isSome) = true := by rfl) (hl : keys.length = values.length := by rfl) (h0 : keys ≠ [] := by simp) (hlen : keys.length ≤ 15 := by decide) :
    wpAny C.M A (eval (.Dict keys values pos) env) Q E s := by
  have hlt : mainGlobals < s.heap.objs.size := (X.stat S).T.g.lt
  have hne : (s.heap.objs.size == sysModules) = false := by
    have h3 : mainGlobals = 3 := by decide
    have h1 : sysModules = 1 := by decide
    rw [h3] at hlt; rw [h1]
    simp only [beq_eq_false_iff_ne]
    intro h
    have h2 : (3 : Nat) < s.heap.objs.size := hlt
    have h4 : s.heap.objs.size = (1 : Nat) := h
    lia
  refine Dict_made_str hs X.fr hall hl h0 hlen fun _ => ?_
  have X1 := X.push ({ cls := .type "dict", data := .dict #[] } : Obj)
  have hd : Dct C ({ cls := .type "dict", data := .dict #[] } : Obj) [] := by
    obtain ⟨o, ho, hd⟩ := Heap.dictOf_iff.mp (Heap.DictOf.new (knd := strKind C.prog C.w) s.heap)
    rw [Heap.get?_push_size _ rfl] at ho
    exact (Option.some.inj ho) ▸ hd
  refine wpAny_mono (h _ _ _ hd hne X1) (fun vs s1 hh => ?_) fun _ _ z => z
  obtain ⟨hk, led', X2, q⟩ := hh
  refine ⟨strPairs vs, carries_strPairs _ _ vs hk, hd.at (X2.get (.head _)), fun h' hD hS => ?_⟩
  obtain ⟨o', ho', hd'⟩ := Heap.dictOf_iff.mp hD
  exact q o' _ hd' (X2.upd (s' := { s1 with heap := h', toks := s1.toks + vs.length }) hS ho' hd.not rfl rfl)
end
end Mine
end

noncomputable section
open PySem PySem.W PyProof.Rows PySem.Calls PySem.Spec
set_option maxRecDepth 100000
set_option maxHeartbeats 4000000
namespace Mine
section
variable {C : Cx} {A : Around} {E : Value → Shared → Prop} {s : Shared} {I : Info} {G : Heap} {m : Str → Option Value} {env : Env} {fa : Nat → Addr} {led : List (Addr × Obj)}

theorem three_targets {x y z : Str} {px py pz pos : Pos} {kk : Nat} {a : Addr} {v1 v2 v3 : Value} {Q : Unit → Shared → Prop} (X : St I m led s) (hh : A.handled = none) (ht : IsTup I.G a [v1, v2, v3].toArray)
    (q : ∀ s', St I (upd (upd (upd m x v1) y v2) z v3) led s' → Q () s') (hE : EOk env I) (hlx : env.kindOf x = some .local := by rfl) (hly : env.kindOf y = some .local := by rfl) (hlz : env.kindOf z = some .local := by rfl)
    (he : assignEach [.Name x px, .Name y py, .Name z pz] env = [(false, assign (.Name x px) env), (false, assign (.Name y py) env), (false, assign (.Name z pz) env)] := by rfl) :
    wpAny C.M A (assign (.Tuple [.Name x px, .Name y py, .Name z pz] kk pos) env (.ref a)) Q E s := by
  refine assign_Tuple_tuple hh (X.tup.tup ht) (by rw [he]; rfl) (by rw [he]; rfl) fun h' hx => ?_
  rw [he]
  have X2 : St I m led { s with heap := h' } := ⟨⟨X.fr.ns.at fun o e => hx _ _ (Nat.ne_of_lt (Heap.lt_size e)) e, fun b o e => hx _ _ (Nat.ne_of_lt (Heap.lt_size (X.fr.keep b o e))) (X.fr.keep b o e), X.fr.above⟩,
    fun p hp => ⟨hx _ _ (Nat.ne_of_lt (Heap.lt_size (X.news p hp).1)) (X.news p hp).1, (X.news p hp).2⟩, X.nd, fun b o t e => hx _ _ (Nat.ne_of_lt (Heap.lt_size (X.tup b o t e))) (X.tup b o t e), X.gens, X.os⟩
  show wpAny _ A (do holding [v2, v3] (assign (.Name x px) env v1); assignInOrder [assign (.Name y py) env, assign (.Name z pz) env] [v2, v3]) Q E _
  refine wpAny_bind (wpAny_holding (wpAny_assign_Name (Mine.store X2 (fun s3 X3 => ?_) hE hlx)))
  show wpAny _ A (do holding [v3] (assign (.Name y py) env v2); assignInOrder [assign (.Name z pz) env] [v3]) Q E _
  refine wpAny_bind (wpAny_holding (wpAny_assign_Name (Mine.store X3 (fun s4 X4 => ?_) hE hly)))
  show wpAny _ A (do holding [] (assign (.Name z pz) env v3); assignInOrder [] []) Q E _
  refine wpAny_bind (wpAny_holding (wpAny_assign_Name (Mine.store X4 (fun s5 X5 => ?_) hE hlz)))
  exact wpAny_pure (q _ X5)

theorem told_add {td : Addr} {to : Obj} {told : List Row} {e1 e2 e3 : Expr} {kd dt : Str} {av : Int} {kk : Nat} {p1 p2 p3 p4 ap : Pos} {Q : Flow → Shared → Prop} (X : St (I.on G) m ((td, to) :: led) s) (w : Rw G told to) (hm : m "told" = some (.ref td)) (hz : told.length ≤ 50000)
    (h1 : Ev C A env (I.on G) m ((td, to) :: led) e1 (IsS kd)) (h2 : Ev C A env (I.on G) m ((td, to) :: led) e2 (IsI av)) (h3 : Ev C A env (I.on G) m ((td, to) :: led) e3 (IsS dt))
    (q : ∀ s' to', St (I.on s'.heap) m ((td, to') :: led) s' → Rw s'.heap (told ++ [(kd, av, dt)]) to' → TupLe G s'.heap → Q .next s')
    (hE : EOk env I := by exact ⟨rfl, rfl, rfl, rfl⟩) (hl : env.kindOf "told" = some .local := by rfl)
    (hline : (ap.endLine == p3.line) = true := by rfl)
    (hs1 : starEach [e1, e2, e3] env = (false, eval e1 env) :: starEach [e2, e3] env := by rfl) (hs2 : starEach [e2, e3] env = (false, eval e2 env) :: starEach [e3] env := by rfl) (hs3 : starEach [e3] env = (false, eval e3 env) :: starEach [] env := by rfl)
    (hi : interactive env = false := by rfl) (hsw : swapsWith (.Call (.Attribute (.Name "told" p1) "append" ap) [.Tuple [e1, e2, e3] kk p2] [] p3) none p4.line env = pure false := by rfl) :
    wpAny C.M A (exec (.Expr (.Call (.Attribute (.Name "told" p1) "append" ap) [.Tuple [e1, e2, e3] kk p2] [] p3) p4) env) Q E s := by
  have hE' : EOk env (I.on G) := ⟨hE.hk, hE.hL, hE.hg, hE.hb⟩
  obtain ⟨vs, hlx, hall⟩ := w
  refine wpAny_Expr_any ?_ hi hsw
  refine ev_lmeth (.loc hm hE' hl) (.head _) hlx PySem.F.slot_list_append type_list_append X (fun s2 X => ?_) (by rfl) (by rfl) hline
  refine PyProof.Rows.callWith_method1 (spliced_more (Tuple_ ?_) (by rfl)) (by rfl) (by rfl)
  refine spliced_more (Ev.use h1 X fun v1 s3 x1 X => ?_) hs1
  refine spliced_more (Ev.use h2 X fun v2 s4 x2 X => ?_) hs2
  refine spliced_more (Ev.use h3 X fun v3 s5 x3 X => ?_) hs3
  obtain ⟨u1, rfl⟩ := x1; obtain ⟨u2, rfl⟩ := x2; obtain ⟨u3, rfl⟩ := x3
  refine spliced_none (new_tuple X (by simp) fun a s6 X _ => spliced_none ?_)
  refine lst_append X.swap hlx (by have := hall.length; lia) fun to' s7 hl' X => ?_
  exact q _ _ X.swapDrop.rebase ⟨_, hl', (hall.mono fun _ _ z => z.le X.tup).snoc ⟨a, _, _, _, rfl, IsTup.of_St X (.tail _ (.head _))⟩⟩ X.tup

noncomputable def firstSc : Sc := [("T", "task"), ("E", "event"), ("V", "var"), ("i", "var")]

end
end Mine
end

noncomputable section
open PySem PySem.W PyProof.Rows PySem.Calls PySem.Spec
set_option maxRecDepth 100000
set_option maxHeartbeats 4000000
namespace Mine
noncomputable def fnB : Stmt → List Stmt
  | .FunctionDef _ _ b _ _ _ _ _ _ _ => b
  | _ => []
noncomputable def whB : Stmt → List Stmt
  | .While _ b _ _ => b
  | _ => []
noncomputable def scOf : Stmt → Scope
  | .FunctionDef _ _ _ _ _ _ sc _ _ _ => sc
  | _ => { kind := .function, names := [], isGenerator := false, isCoroutine := false }
noncomputable def dueSt (i : Nat) : Stmt := (fnB (stAt 39)).getD i (.Pass ⟨0, 0, 0, 0⟩)
noncomputable def turnSt (i : Nat) : Stmt := (whB (dueSt 4)).getD i (.Pass ⟨0, 0, 0, 0⟩)
noncomputable def dueEnv (L f : Addr) (cdv : Value) : Env := envOf (nmAt 39) (scOf (stAt 39)) L f cdv
section
variable {C : Cx} {A : Around} {E : Value → Shared → Prop} {s : Shared} {I : Info} {G : Heap} {m : Str → Option Value} {env : Env} {fa : Nat → Addr} {led : List (Addr × Obj)}

theorem below_ok {d : Nat} {t : T} (h : t.ok d) : ∀ u ∈ belowT t, ∃ d, u.ok d := by
  intro u hu
  cases t with
  | non => simp [belowT] at hu
  | dis => simp [belowT] at hu
  | trg => simp [belowT] at hu
  | pth => simp [belowT] at hu
  | blk fk m lab ds ts =>
    cases d with
    | zero => exact h.elim
    | succ d =>
      rw [belowT] at hu
      split at hu
      · cases hu
      · exact ⟨d, T.oks_mem h.2.2.2.2 u hu⟩
  | cho m a b =>
    cases d with
    | zero => exact h.elim
    | succ d =>
      simp only [belowT, List.mem_cons, List.not_mem_nil, or_false] at hu
      rcases hu with rfl | rfl
      · exact ⟨d, h.1⟩
      · exact ⟨d, h.2⟩
  | cas m a b =>
    cases d with
    | zero => exact h.elim
    | succ d =>
      simp only [belowT, List.mem_cons, List.not_mem_nil, or_false] at hu
      rcases hu with rfl | rfl
      · exact ⟨d, h.1⟩
      · exact ⟨d, h.2⟩
  | one k m a =>
    cases d with
    | zero => exact h.elim
    | succ d => simp only [belowT, List.mem_singleton] at hu; subst hu; exact ⟨d, h⟩
  | fev m a =>
    cases d with
    | zero => exact h.elim
    | succ d => simp only [belowT, List.mem_singleton] at hu; subst hu; exact ⟨d, h⟩
  | awt m a =>
    cases d with
    | zero => exact h.elim
    | succ d => simp only [belowT, List.mem_singleton] at hu; subst hu; exact ⟨d, h⟩
  | lop m a =>
    cases d with
    | zero => exact h.elim
    | succ d => simp only [belowT, List.mem_singleton] at hu; subst hu; exact ⟨d, h⟩
theorem pile_loop {n : Nat} {f : Addr} {cdv : Value} {pl nd : Addr} {po no : Obj} {pvs : List Value} {pts NS : List T} {Q : Flow → Shared → Prop} (O : Ok C fa) (SI : ∀ G, Stat C (I.on G).H) (hA : Am A (n + 3))
    (X : St (I.on G) m ((pl, po) :: (nd, no) :: led) s) (hpl : LX po pvs) (hno : LX no []) (hm1 : m "pile" = some (.ref pl)) (hm2 : m "nodes" = some (.ref nd)) (hv : All2 (Tree G) pts pvs) (hok : ∀ t ∈ pts, ∃ d, t.ok d) (hz : T.szs pts ≤ 1000) (hNS : nodesL pts.reverse = NS) (hNZ : NS.length ≤ 1000)
    (q : ∀ G' m' s' no' nvs, TupLe G G' → St (I.on G') m' ((nd, no') :: led) s' → LX no' nvs → All2 (Tree G') NS nvs → (∀ t ∈ NS, t ≠ .non ∧ ∃ d, t.ok d) → (∀ y : Str, y ≠ "pile" → y ≠ "s" → m' y = m y) → Q .next s') :
    wpAny C.M A (exec (turnSt 5) (dueEnv I.L f cdv)) Q E s := by
  show wpAny C.M A (exec (.While _ _ _ _) _) Q E s
  refine wpAny_While (while' (fun n s => ∃ G' m' pl po pvs no nvs pts nts, St (I.on G') m' ((pl, po) :: (nd, no) :: led) s ∧ n = T.szs pts ∧ TupLe G G' ∧ LX po pvs ∧ LX no nvs ∧ All2 (Tree G') pts pvs ∧ All2 (Tree G') nts nvs ∧ (∀ t ∈ pts, ∃ d, t.ok d) ∧ (∀ t ∈ nts, t ≠ .non ∧ ∃ d, t.ok d) ∧ T.szs pts ≤ 1000 ∧
    nts ++ nodesL pts.reverse = NS ∧ m' "pile" = some (.ref pl) ∧ m' "nodes" = some (.ref nd) ∧ ∀ y : Str, y ≠ "pile" → y ≠ "s" → m' y = m y) ?_ (T.szs pts) ⟨G, m, pl, po, pvs, no, [], pts, [], X, rfl, TupLe.refl _, hpl, hno, hv, .nil, hok, by simp, hz, by simpa using hNS, hm1, hm2, fun _ _ _ => rfl⟩)
  rintro BB k s2 ⟨G', m', pl, po, pvs, no, nvs, pts, nts, X, rfl, hle, hpl, hno, hv, hn, hok, hnok, hz, hNS, k1, k2, k3⟩ hBB
  have hu : A.units < cLine := by
    have := hA.hu
    have h2 : cLine ≥ 9000 := by decide
    lia
  refine Tr.neNil (.loc k1) (.head _) hpl hu rfl _ _ _ X fun s3 X => ?_
  rcases List.eq_nil_or_concat pvs with rfl | ⟨pvs, v, rfl⟩
  · cases hv
    simp only [List.reverse_nil, nodesL, List.append_nil] at hNS
    subst hNS
    refine wpAny_execs_nil ?_
    exact q G' m' s3 no nvs hle X.drop hno hn hnok k3
  · have hlast : ∃ ps t, pts = ps ++ [t] ∧ All2 (Tree G') ps pvs ∧ Tree G' t v := by
      have hr := hv.rev
      rw [List.concat_eq_append, List.reverse_append, List.reverse_cons, List.reverse_nil, List.nil_append, List.singleton_append] at hr
      generalize hps : pts.reverse = pr at hr
      cases hr with
      | @cons t _ ps _ h1 h2 =>
        refine ⟨ps.reverse, t, ?_, ?_, h1⟩
        · rw [← List.reverse_reverse pts, hps, List.reverse_cons]
        · have := h2.rev; rwa [List.reverse_reverse] at this
    obtain ⟨ps, t, rfl, hps, ht⟩ := hlast
    rw [List.concat_eq_append] at hpl
    rw [if_pos (by simp)]
    have hlen := hps.length
    have hpz : ps.length ≤ 1000 := by
      have h1 : ∀ l : List T, l.length ≤ T.szs l := by
        intro l; induction l with
        | nil => simp
        | cons a l ih => have := T.sz_pos a; simp only [List.length_cons, T.szs]; lia
      have := h1 ps
      rw [szs_app] at hz; lia
    rw [szs_app] at hz
    have hsz1 : T.szs [t] = t.sz := by simp [T.szs]
    rw [hsz1] at hz
    rw [List.reverse_append, List.reverse_cons, List.reverse_nil, List.nil_append, List.singleton_append, nodesL] at hNS
    refine wpAny_execs_cons (wpAny_Assign_Name ?_ (by rfl))
    refine ev_lmeth (.loc k1) (.head _) hpl PySem.F.slot_list_pop PySem.F.type_list_pop X fun s4 X => ?_
    refine PyProof.Rows.callWith_method0 (lst_pop X hpl (by lia) fun po' s5 hpl2 X => ?_)
    refine store X fun s6 X => ?_
    by_cases hn0 : t = .non
    · subst hn0
      subst ht
      refine last (xIf (b := false) (Tr.isNotN (.loc rfl) (.inl ⟨rfl, rfl⟩)) X fun s7 X => ?_)
      rw [if_neg (by decide)]
      refine wpAny_execs_nil ?_
      refine hBB _ ⟨T.szs ps, by rw [szs_app, hsz1]; simp [T.sz], G', _, pl, po', pvs, no, nvs, ps, nts, X, rfl, hle, hpl2, hno, hps, hn, fun u hu => hok u (List.mem_append_left _ hu), hnok, by lia, by simpa [nodesT] using hNS, k1, k2, fun y h1 h2 => ?_⟩
      show (if y = "s" then _ else m' y) = _
      rw [if_neg h2]; exact k3 y h1 h2
    · obtain ⟨a, _, _, _, rfl, _⟩ := tree_view ht hn0
      have hokt := hok t (List.mem_append_right _ (.head _))
      rw [nodesT_below hn0] at hNS
      have hnl : nts.length ≤ 1000 := by
        have := congrArg List.length hNS
        simp only [List.length_append] at this; lia
      have hnlen := hn.length
      refine last (xIf (b := true) (Tr.isNotN (.loc rfl) (.inr ⟨rfl, by simp⟩)) X fun s7 X => ?_)
      rw [if_pos rfl]
      refine wpAny_execs_cons (wpAny_Expr_any ?_ (by rfl) (by rfl))
      refine ev_lmeth (.loc (by exact k2)) (.tail _ (.head _)) hno PySem.F.slot_list_append type_list_append X fun s8 X => ?_
      refine PyProof.Rows.callWith_method1 (spliced_more (Ev.useV (.loc rfl) X fun s9 X => ?_))
      refine spliced_none (lst_append X.swap hno (by lia) fun no' s10 hno X => ?_)
      replace X := X.swap
      refine last (wpAny_Assign_Name (wpAny_BinOp ?_) (by rfl))
      refine Ev.useV (.loc (by exact k1)) X fun s11 X => ?_
      refine ev_bt (SI G') (O.bi "list" (by decide)) boot_list X fun s12 X => ?_
      refine spliced_more ?_
      refine ev_bt (SI G') (O.bi "reversed" (by decide)) boot_reversed X fun s13 X => ?_
      refine spliced_more ?_
      refine ev_callX (SI G') (O.nm 37 (by decide)) (O.fn 37 (by decide)) X fun s14 X => ?_
      refine spliced_more (Ev.useV (.loc rfl) X fun s15 X => ?_)
      refine spliced_none ⟨(X.stat (SI G')).X, ?_⟩
      refine below_spec (n := 0) O (hA.le (by lia)) (X.pre (l1 := []) (SI G') fun p hp => by cases hp) hn0 (Tree.le X.tup _ _ ht) hokt fun ba bo bvs s16 hbl hbt hbg hbn P => ?_
      have X2 := X.adopt (St.post (l1 := []) (l1' := []) X P rfl fun p hp => by cases hp) rfl hbg hbn
      have hq1 := X2.tup
      replace X2 := X2.rebase
      have hblen : bvs.length ≤ 1000 := by
        have h1 : ∀ l : List T, l.length ≤ T.szs l := by
          intro l; induction l with
          | nil => simp
          | cons a l ih => have := T.sz_pos a; simp only [List.length_cons, T.szs]; lia
        have := h1 (belowT t); have := below_sz t; have := hbt.length; lia
      refine spliced_none ?_
      refine wpAny_mono (list_rev X2 (.head _) hbl hA.hh (by lia) fun ra ro s17 hrl X => ?_) (fun v s18 h => spliced_none h) fun _ _ z => z
      refine add_two X (.tail _ (.tail _ (.head _))) (.head _) hpl2 hrl (by rw [List.length_reverse]; lia) fun pa pao s19 hpl' X => ?_
      refine store X fun s20 X => ?_
      have hle2 := hq1.trans X.tup
      have hbt2 : All2 (Tree s20.heap) (belowT t).reverse bvs.reverse := (hbt.mono fun _ _ z => Tree.le X.tup _ _ z).rev
      replace X := X.rebase
      have X3 := X.sub (led' := (pa, pao) :: (nd, no') :: led) (by exact (List.Sublist.cons_cons _ (.cons _ (.cons _ (.cons _ (.refl _))))))
      have hbz := below_sz t
      refine hBB _ ⟨T.szs (ps ++ (belowT t).reverse), by rw [szs_app, szs_app, szs_rev, hsz1]; lia, s20.heap, _, pa, pao, _, no', _, ps ++ (belowT t).reverse, nts ++ [t], X3, rfl, hle.trans hle2, hpl', hno, (hps.mono fun _ _ z => Tree.le hle2 _ _ z).append hbt2, (hn.mono fun _ _ z => Tree.le hle2 _ _ z).snoc (Tree.le hle2 _ _ ht), ?_, ?_, by rw [szs_app, szs_rev]; lia, ?_, rfl, k2, fun y h1 h2 => ?_⟩
      · intro u hu
        rcases List.mem_append.mp hu with h | h
        · exact hok u (List.mem_append_left _ h)
        · obtain ⟨d, hd⟩ := hokt; exact below_ok hd u (List.mem_reverse.mp h)
      · intro u hu
        rcases List.mem_append.mp hu with h | h
        · exact hnok u h
        · rw [List.mem_singleton] at h; subst h; exact ⟨hn0, hokt⟩
      · rw [List.reverse_append, List.reverse_reverse, nodesL_app, List.append_assoc]
        exact hNS
      · show (if y = "pile" then _ else if y = "s" then _ else m' y) = _
        rw [if_neg h1, if_neg h2]; exact k3 y h1 h2
end
end Mine
end

noncomputable section
open PySem PySem.W PyProof.Rows PySem.Calls PySem.Spec
set_option maxRecDepth 100000
set_option maxHeartbeats 4000000
namespace Mine
theorem find_app : ∀ (a b : List Sc) (x : Str), findS (a ++ b) x = match findS a x with | some st => some st | none => findS b x
  | [], b, x => rfl
  | sc :: a, b, x => by
    rw [List.cons_append, findS_cons, findS_cons]
    cases sc.lookup x with
    | some st => rfl
    | none => exact find_app a b x
theorem meaning_find (x : Str) : ∀ (scs : List Sc), meaning scs x = (findS scs.reverse x).getD "" := by
  intro scs
  have key : ∀ (scs : List Sc) (st : Str), scs.foldl (fun st sc => (sc.lookup x).getD st) st = (findS scs.reverse x).getD st := by
    intro scs
    induction scs with
    | nil => intro st; rfl
    | cons sc r ih =>
      intro st
      rw [List.foldl_cons, ih, List.reverse_cons, find_app]
      cases findS r.reverse x with
      | some st' => rfl
      | none =>
        show (sc.lookup x).getD st = (findS [sc] x).getD st
        rw [findS_cons]
        cases sc.lookup x <;> rfl
  exact key scs ""
noncomputable def NoNil (sc : Sc) : Prop := ∀ p ∈ sc, p.2 ≠ ""
theorem lookup_mem {sc : Sc} {x st : Str} (h : sc.lookup x = some st) : ∃ p ∈ sc, p.2 = st := by
  induction sc with
  | nil => cases h
  | cons p r ih =>
    obtain ⟨p1, p2⟩ := p
    rw [List.lookup_cons] at h
    split at h
    · cases h; exact ⟨_, .head _, rfl⟩
    · obtain ⟨p, hp, e⟩ := ih h; exact ⟨p, .tail _ hp, e⟩
theorem findS_ne {x st : Str} : ∀ {ch : List Sc}, (∀ sc ∈ ch, NoNil sc) → findS ch x = some st → st ≠ ""
  | [], _, h => by cases h
  | sc :: r, hn, h => by
    rw [findS_cons] at h
    cases e : sc.lookup x with
    | some s2 => rw [e] at h; cases h; obtain ⟨p, hp, rfl⟩ := lookup_mem e; exact hn sc (.head _) p hp
    | none => rw [e] at h; exact findS_ne (fun sc hs => hn sc (.tail _ hs)) h

noncomputable def nodeT (w : Bool) (ch : List Sc) : T → List Row
  | .dis m m2 x => disR (findS ch x) m2 x
  | .trg m m2 x => trgR (findS ch x) m2 x
  | _ => []
theorem nodeR_split (w : Bool) (ch : List Sc) (t : T) : nodeR w ch t = tim (!w && t.isW) t.mk ++ nodeT w ch t := by
  cases t <;> simp [nodeR, nodeT, T.isW, T.mk, tim]
section
variable {C : Cx} {A : Around} {E : Value → Shared → Prop} {s : Shared} {I : Info} {G : Heap} {m : Str → Option Value} {env : Env} {fa : Nat → Addr} {fz : List (Addr × Obj)}

theorem Ev.ifS {led : List (Addr × Obj)} {test a b : Expr} {c : Bool} {i j : Str} {pos : Pos} (h : Tr C A env I m led test c) (ha : Ev C A env I m led a (IsS i)) (hb : Ev C A env I m led b (IsS j)) : Ev C A env I m led (.IfExp test a b pos) (IsS (if c = true then i else j)) :=
  fun s Q E st q => IfExp_ (h _ _ _ st fun s1 x1 => by
    cases c with
    | true => exact ha _ _ _ x1 q
    | false => exact hb _ _ _ x1 q)
theorem sec_loop {n : Nat} {f : Addr} {cdv : Value} {td nd cl : Addr} {to no clo : Obj} {nvs cvs : List Value} {NS : List T} {told : List Row} {scs : List Sc} {w : Bool} {Q : Flow → Shared → Prop} (O : Ok C fa) (SI : ∀ G, Stat C (I.on G).H) (hA : Am A (n + 3))
    (X : St (I.on G) m ((td, to) :: fz) s) (hto : Rw G told to) (hnm : (nd, no) ∈ fz) (hno : LX no nvs) (hcm : (cl, clo) ∈ fz) (hcl : LX clo cvs) (hsc : All2 (LScope C fz) scs cvs) (hns : ∀ sc ∈ scs, NoNil sc) (nt : Nt fz)
    (hv : All2 (Tree G) NS nvs) (hok : ∀ t ∈ NS, t ≠ .non ∧ ∃ d, t.ok d) (hz : told.length + 3 * NS.length ≤ 10000)
    (k1 : m "told" = some (.ref td)) (k2 : m "waits" = some (.bool w)) (k3 : m "chain" = some (.ref cl)) (k4 : m "nodes" = some (.ref nd))
    (q : ∀ G' m' s' to', TupLe G G' → St (I.on G') m' ((td, to') :: fz) s' → Rw G' (told ++ NS.flatMap (nodeR w scs.reverse)) to' → (∀ y : Str, y ≠ "s" → y ≠ "sort" → m' y = m y) → Q .next s') :
    wpAny C.M A (exec (turnSt 7) (dueEnv I.L f cdv)) Q E s := by
  show wpAny C.M A (exec (.For _ _ _ _ _) _) Q E s
  refine wpAny_For ?_ (by intro _; rfl)
  refine Ev.useV (.loc k4) X fun s3 X => ?_
  refine iter_list X (.tail _ hnm) hno.lst fun it io s4 hio X => ?_
  have hlen1 : ∀ t, (nodeR w scs.reverse t).length ≤ 3 := by
    intro t
    rw [nodeR_split, List.length_append]
    have := tim_len (!w && t.isW) t.mk
    have : (nodeT w scs.reverse t).length ≤ 1 := by
      cases t <;> simp only [nodeT, disR, trgR] <;> (repeat' split) <;> simp
    lia
  have hlen2 : ∀ l : List T, (l.flatMap (nodeR w scs.reverse)).length ≤ 3 * l.length := by
    intro l
    induction l with
    | nil => simp
    | cons a l ih => rw [List.flatMap_cons, List.length_append, List.length_cons]; have := hlen1 a; lia
  refine for_loop' (Itr.list (vs := nvs) hA.hh) (fun i G' m' led => ∃ to, led = (td, to) :: fz ∧ Rw G' (told ++ (NS.take i).flatMap (nodeR w scs.reverse)) to ∧ TupLe G G' ∧ ∀ y : Str, y ≠ "s" → y ≠ "sort" → m' y = m y) (fun i G' m' led h => ?_) X hio ⟨to, rfl, by simpa using hto, TupLe.refl _, fun _ _ _ => rfl⟩ ?_ ?_
  · obtain ⟨to, rfl, _⟩ := h
    exact ⟨no, .tail _ hnm, hno.lst⟩
  · rintro PP i G' m' led o v s5 E' hi hvi ⟨to, rfl, w1, hle, hk⟩ hle2 X hPP
    obtain ⟨t, hti, ht⟩ := hv.get hvi
    obtain ⟨hn0, d, hd⟩ := hok t (List.mem_of_getElem? hti)
    have htake : NS.take (i + 1) = NS.take i ++ [t] := by rw [List.take_add_one, hti]; rfl
    have hil : (NS.take i).length ≤ NS.length := by rw [List.length_take]; lia
    have hl2 := hlen2 (NS.take i)
    have hk1 : m' "told" = some (.ref td) := (hk _ (by decide) (by decide)).trans k1
    have hk2 : m' "waits" = some (.bool w) := (hk _ (by decide) (by decide)).trans k2
    have hk3 : m' "chain" = some (.ref cl) := (hk _ (by decide) (by decide)).trans k3
    replace ht := Tree.le hle _ _ ht
    obtain ⟨a, t1, t2, rest, rfl, hT⟩ := tree_view ht hn0
    refine wpAny_assign_Name (store X fun s6 X => ?_)
    have X := X.swap
    generalize hrows : told ++ (NS.take i).flatMap (nodeR w scs.reverse) = rows at w1
    have hrl : rows.length ≤ 9999 := by rw [← hrows, List.length_append]; have : i < NS.length := by rw [hv.length]; exact hi
                                        have : (NS.take i).length = i := by rw [List.length_take]; lia
                                        lia
    have fin : ∀ G2 m2 s2 to2, TupLe G' G2 → St (I.on G2) m2 ((td, to2) :: (it, o) :: fz) s2 → Rw G2 (rows ++ nodeR w scs.reverse t) to2 → (∀ y : Str, y ≠ "s" → y ≠ "sort" → m2 y = m' y) →
        PP .next s2 := by
      intro G2 m2 s2 to2 h1 h2 h3 h4
      refine hPP _ ⟨G2, m2, _, ⟨to2, rfl, ?_, hle.trans h1, fun y e1 e2 => (h4 y e1 e2).trans (hk y e1 e2)⟩, hle.trans h1, h2.swap⟩
      rw [htake, List.flatMap_append, List.flatMap_cons, List.flatMap_nil, List.append_nil, ← List.append_assoc, hrows]
      exact h3
    refine seq' (P := fun s' => ∃ G2 to2, TupLe G' G2 ∧ St (I.on G2) (fun z => if z = "s" then some (.ref a) else m' z) ((td, to2) :: (it, o) :: fz) s' ∧ Rw G2 (rows ++ tim (!w && t.isW) t.mk) to2) ?_ ?_
    · intro Pq hPq
      refine xIf (b := !w && t.isW) (Tr.and2 (Tr.neg (Tr.ofB (.loc (by exact hk2)))) fun _ => Tr.cast (Tr.inS (.tag (.loc (by rfl)) hT)) (tag_waits t hn0)) X fun s7 X => ?_
      cases hb : (!w && t.isW) with
      | true =>
        rw [hb] at hPq
        rw [if_pos rfl]
        refine last (told_add X w1 (by exact hk1) (by lia) .cS (.mono (.tup (j := 1) (.loc (by rfl)) .cI hT (by decide) (by decide) seq1 rfl) fun v h => ⟨_, h⟩) .cS fun s8 to2 X w2 hle3 => ?_)
        exact hPq _ ⟨s8.heap, to2, hle3, X, w2⟩
      | false =>
        rw [hb] at hPq
        rw [if_neg (by simp)]
        exact wpAny_execs_nil (hPq _ ⟨G', to, TupLe.refl _, X, by rw [show tim false t.mk = [] from rfl, List.append_nil]; exact w1⟩)
    rintro s7 ⟨G2, to2, hle3, X, w2⟩
    have hT := hle3.tup hT
    have ht := Tree.le hle3 _ _ ht
    have fin : ∀ G3 m2 s2 to3, TupLe G2 G3 → St (I.on G3) m2 ((td, to3) :: (it, o) :: fz) s2 → Rw G3 ((rows ++ tim (!w && t.isW) t.mk) ++ nodeT w scs.reverse t) to3 → (∀ y : Str, y ≠ "s" → y ≠ "sort" → m2 y = m' y) → _ := fun G3 m2 s2 to3 h1 h2 h3 h4 => fin G3 m2 s2 to3 (hle3.trans h1) h2 (by rw [nodeR_split, ← List.append_assoc]; exact h3) h4
    have hrl2 : (rows ++ tim (!w && t.isW) t.mk).length ≤ 10000 := by rw [List.length_append]; have := tim_len (!w && t.isW) t.mk; lia
    generalize rows ++ tim (!w && t.isW) t.mk = rows2 at w2 fin hrl2
    have hkS : ∀ y : Str, y ≠ "s" → y ≠ "sort" → (fun z : Str => if z = ("s" : Str) then some (Value.ref a) else m' z) y = m' y := fun y h1 h2 => by
      show (if y = ("s" : Str) then _ else m' y) = _
      rw [if_neg h1]
    have skip : nodeT w scs.reverse t = [] → ∀ s2, St (I.on G2) (fun z => if z = "s" then some (.ref a) else m' z) ((td, to2) :: (it, o) :: fz) s2 → _ := fun h0 s2 X => fin G2 _ s2 to2 (TupLe.refl _) X (by rw [h0, List.append_nil]; exact w2) hkS
    cases t with
    | non => exact absurd rfl hn0
    | dis mm m2 x =>
      obtain ⟨a', t1', t2', nn, ea, hT', b', u1, u2, u3, rfl, hN⟩ := ht
      cases ea
      refine last (xIf (b := true) (Tr.cast (b := true && true) (Tr.and2 (Tr.cast (Tr.inS (.tag (.loc (by rfl)) hT')) (by decide)) fun _ => Tr.cast (Tr.eqS (.tag (.tup (.loc (by rfl)) .cI hT') hN) .cS) (by decide)) rfl) X fun s8 X => ?_)
      rw [if_pos rfl]
      refine wpAny_execs_cons (wpAny_Assign_Name ?_ (by rfl))
      refine ev_callX (SI G2) (O.nm 38 (by decide)) (O.fn 38 (by decide)) X fun s9 X => ?_
      refine spliced_more (Ev.useV (.loc (by exact hk3)) X fun s10 X => ?_)
      refine spliced_more (Ev.useV (.tup (.tup (.loc (by rfl)) .cI hT') .cI hN) X fun s11 X => ?_)
      refine spliced_none ⟨(X.stat (SI G2)).X, ?_⟩
      have X0 := X.perm (List.perm_append_comm (l₁ := [(td, to2), (it, o)]) (l₂ := fz))
      refine meaning_spec (n := n) O (hA.le (by lia)) (X0.pre (SI G2) nt) hcm hcl hsc fun tm s12 P => ?_
      have X := St.post (l1 := []) (l1' := []) X P rfl fun p hp => by cases hp
      refine store X fun s13 X => ?_
      have hms := meaning_find x scs
      have hbb : (true && !((["block", "task"] : List Str).any (· == meaning scs x))) = !okD (findS scs.reverse x) := by
        rw [hms]
        cases findS scs.reverse x with
        | none => decide
        | some st => simp [okD, Bool.beq_comm]
      refine wpAny_execs_cons (xIf (b := !okD (findS scs.reverse x)) (Tr.cast (Tr.and2 (Tr.cast (Tr.eqS (.tag (.loc (by rfl)) hT') .cS) (by decide)) fun _ => Tr.notInS (.locS (by rfl))) hbb) X fun s14 X => ?_)
      have done : ∀ G3 to3 s15, TupLe G2 G3 → St (I.on G3) _ ((td, to3) :: (it, o) :: fz) s15 → Rw G3 (rows2 ++ nodeT w scs.reverse (.dis mm m2 x)) to3 → _ := fun G3 to3 s15 h1 h2 h3 => fin G3 (fun z => if z = "sort" then some (.str (meaning scs x) tm) else if z = "s" then some (.ref a) else m' z) s15 to3 h1 h2 h3 (fun y h1 h2 => by
        show (if y = ("sort" : Str) then _ else if y = ("s" : Str) then _ else m' y) = _
        rw [if_neg h2, if_neg h1])
      cases hok : okD (findS scs.reverse x) with
      | true =>
        rw [if_neg (by simp)]
        refine wpAny_execs_nil ?_
        refine last (xIf (b := false) (Tr.cast (b := false && false) (Tr.and2 (Tr.cast (Tr.eqS (.tag (.loc (by rfl)) hT') .cS) (by decide)) fun h => by cases h) rfl) X fun s15 X => ?_)
        rw [if_neg (by decide)]
        exact wpAny_execs_nil (done G2 to2 _ (TupLe.refl _) X (by rw [nodeT, disR, if_pos hok, List.append_nil]; exact w2))
      | false =>
        rw [if_pos (by simp)]
        refine last (told_add X w2 (by exact hk1) (by lia) .cS (.mono (.tup (.tup (.loc (by rfl)) .cI hT') .cI hN) fun v h => ⟨_, h⟩) (.mono (.tup (.tup (.loc (by rfl)) .cI hT') .cI hN) fun v h => ⟨_, h⟩) fun s15 to3 X w3 hle4 => ?_)
        refine last (xIf (b := false) (Tr.cast (b := false && false) (Tr.and2 (Tr.cast (Tr.eqS (.tag (.loc (by rfl)) (hle4.tup hT')) .cS) (by decide)) fun h => by cases h) rfl) X fun s16 X => ?_)
        rw [if_neg (by decide)]
        exact wpAny_execs_nil (done s15.heap to3 _ hle4 X (by rw [nodeT, disR, if_neg (by rw [hok]; simp)]; exact w3))
    | trg mm m2 x =>
      obtain ⟨a', t1', t2', nn, ea, hT', b', u1, u2, u3, rfl, hN⟩ := ht
      cases ea
      refine last (xIf (b := true) (Tr.cast (b := true && true) (Tr.and2 (Tr.cast (Tr.inS (.tag (.loc (by rfl)) hT')) (by decide)) fun _ => Tr.cast (Tr.eqS (.tag (.tup (.loc (by rfl)) .cI hT') hN) .cS) (by decide)) rfl) X fun s8 X => ?_)
      rw [if_pos rfl]
      refine wpAny_execs_cons (wpAny_Assign_Name ?_ (by rfl))
      refine ev_callX (SI G2) (O.nm 38 (by decide)) (O.fn 38 (by decide)) X fun s9 X => ?_
      refine spliced_more (Ev.useV (.loc (by exact hk3)) X fun s10 X => ?_)
      refine spliced_more (Ev.useV (.tup (.tup (.loc (by rfl)) .cI hT') .cI hN) X fun s11 X => ?_)
      refine spliced_none ⟨(X.stat (SI G2)).X, ?_⟩
      have X0 := X.perm (List.perm_append_comm (l₁ := [(td, to2), (it, o)]) (l₂ := fz))
      refine meaning_spec (n := n) O (hA.le (by lia)) (X0.pre (SI G2) nt) hcm hcl hsc fun tm s12 P => ?_
      have X := St.post (l1 := []) (l1' := []) X P rfl fun p hp => by cases hp
      refine store X fun s13 X => ?_
      have hms := meaning_find x scs
      refine wpAny_execs_cons (xIf (b := false) (Tr.cast (b := false && false) (Tr.and2 (Tr.cast (Tr.eqS (.tag (.loc (by rfl)) hT') .cS) (by decide)) fun h => by cases h) rfl) X fun s14 X => ?_)
      rw [if_neg (by decide)]
      refine wpAny_execs_nil ?_
      have done : ∀ G3 to3 s15, TupLe G2 G3 → St (I.on G3) _ ((td, to3) :: (it, o) :: fz) s15 → Rw G3 (rows2 ++ nodeT w scs.reverse (.trg mm m2 x)) to3 → _ := fun G3 to3 s15 h1 h2 h3 => fin G3 (fun z => if z = "sort" then some (.str (meaning scs x) tm) else if z = "s" then some (.ref a) else m' z) s15 to3 h1 h2 h3 (fun y h1 h2 => by
        show (if y = ("sort" : Str) then _ else if y = ("s" : Str) then _ else m' y) = _
        rw [if_neg h2, if_neg h1])
      refine last (xIf (b := meaning scs x != "event") (Tr.cast (b := true && (meaning scs x != "event")) (Tr.and2 (Tr.cast (Tr.eqS (.tag (.loc (by rfl)) hT') .cS) (by decide)) fun _ => Tr.neS (.locS (by rfl)) .cS) (Bool.true_and _)) X fun s15 X => ?_)
      cases hok : (meaning scs x != ("event" : Str)) with
      | true =>
        rw [if_pos rfl]
        refine last (told_add X w2 (by exact hk1) (by lia) (.ifS (Tr.eqS (.locS (by rfl)) .cS) .cS .cS) (.mono (.tup (.tup (.loc (by rfl)) .cI hT') .cI hN) fun v h => ⟨_, h⟩) (.mono (.tup (.tup (.loc (by rfl)) .cI hT') .cI hN) fun v h => ⟨_, h⟩) fun s16 to3 X w3 hle4 => ?_)
        refine done s16.heap to3 _ hle4 X ?_
        have e : nodeT w scs.reverse (.trg mm m2 x) = [((if (meaning scs x == ("" : Str)) = true then ("undeclared" : Str) else "bad_event"), m2, x)] := by
          rw [nodeT]
          cases hf : findS scs.reverse x with
          | none => rw [hms, hf]; rfl
          | some st =>
            have hne := findS_ne (fun sc hs => hns sc (List.mem_reverse.mp hs)) hf
            rw [hms, hf] at hok ⊢
            simp only [Option.getD_some, trgR] at hok ⊢
            rw [if_neg (by simpa using hok), if_neg (by simpa using hne)]
        rw [e]; exact w3
      | false =>
        rw [if_neg (by decide)]
        refine wpAny_execs_nil (done G2 to2 _ (TupLe.refl _) X ?_)
        have e : nodeT w scs.reverse (.trg mm m2 x) = [] := by
          rw [nodeT]
          cases hf : findS scs.reverse x with
          | none => rw [hms, hf] at hok; exact absurd hok (by decide)
          | some st =>
            rw [hms, hf] at hok
            simp only [Option.getD_some] at hok
            simp only [trgR]
            rw [if_pos (by simpa using hok)]
        rw [e, List.append_nil]; exact w2
    | pth b mm =>
      obtain ⟨a', t1', t2', nn, ea, hT', b', u1, rr, rfl, hN⟩ := ht
      cases ea
      refine last (xIf (b := false) (Tr.cast (b := true && false) (Tr.and2 (Tr.cast (Tr.inS (.tag (.loc (by rfl)) hT')) (by cases b <;> decide)) fun _ => Tr.cast (Tr.eqS (.tag (.tup (.loc (by rfl)) .cI hT') hN) .cS) (by decide)) rfl) X fun s8 X => ?_)
      rw [if_neg (by decide)]
      exact wpAny_execs_nil (skip rfl _ X)
    | blk fk mm lab ds ts =>
      have hb : ((["disable", "trigger"] : List Str).any (· == T.tag (.blk fk mm lab ds ts))) = false := by cases fk; exact (by decide : ((["disable", "trigger"] : List Str).any (· == ("block" : Str))) = false); exact (by decide : ((["disable", "trigger"] : List Str).any (· == ("fork" : Str))) = false)
      refine last (xIf (b := false) (Tr.cast (b := false && false) (Tr.and2 (Tr.cast (Tr.inS (.tag (.loc (by rfl)) hT)) hb) fun h => by cases h) rfl) X fun s8 X => ?_)
      rw [if_neg (by decide)]
      exact wpAny_execs_nil (skip rfl _ X)
    | one kk mm ta =>
      have hb : ((["disable", "trigger"] : List Str).any (· == T.tag (.one kk mm ta))) = false := by show ((["disable", "trigger"] : List Str).any (· == kk.tag)) = false; cases kk <;> decide
      refine last (xIf (b := false) (Tr.cast (b := false && false) (Tr.and2 (Tr.cast (Tr.inS (.tag (.loc (by rfl)) hT)) hb) fun h => by cases h) rfl) X fun s8 X => ?_)
      rw [if_neg (by decide)]
      exact wpAny_execs_nil (skip rfl _ X)
    | cho =>
      refine last (xIf (b := false) (Tr.cast (b := false && false) (Tr.and2 (Tr.cast (Tr.inS (.tag (.loc (by rfl)) hT)) (by exact (by decide : ((["disable", "trigger"] : List Str).any (· == ("if" : Str))) = false))) fun h => by cases h) rfl) X fun s8 X => ?_)
      rw [if_neg (by decide)]
      exact wpAny_execs_nil (skip rfl _ X)
    | cas =>
      refine last (xIf (b := false) (Tr.cast (b := false && false) (Tr.and2 (Tr.cast (Tr.inS (.tag (.loc (by rfl)) hT)) (by exact (by decide : ((["disable", "trigger"] : List Str).any (· == ("case" : Str))) = false))) fun h => by cases h) rfl) X fun s8 X => ?_)
      rw [if_neg (by decide)]
      exact wpAny_execs_nil (skip rfl _ X)
    | fev =>
      refine last (xIf (b := false) (Tr.cast (b := false && false) (Tr.and2 (Tr.cast (Tr.inS (.tag (.loc (by rfl)) hT)) (by exact (by decide : ((["disable", "trigger"] : List Str).any (· == ("forever" : Str))) = false))) fun h => by cases h) rfl) X fun s8 X => ?_)
      rw [if_neg (by decide)]
      exact wpAny_execs_nil (skip rfl _ X)
    | awt =>
      refine last (xIf (b := false) (Tr.cast (b := false && false) (Tr.and2 (Tr.cast (Tr.inS (.tag (.loc (by rfl)) hT)) (by exact (by decide : ((["disable", "trigger"] : List Str).any (· == ("await" : Str))) = false))) fun h => by cases h) rfl) X fun s8 X => ?_)
      rw [if_neg (by decide)]
      exact wpAny_execs_nil (skip rfl _ X)
    | lop =>
      refine last (xIf (b := false) (Tr.cast (b := false && false) (Tr.and2 (Tr.cast (Tr.inS (.tag (.loc (by rfl)) hT)) (by exact (by decide : ((["disable", "trigger"] : List Str).any (· == ("for" : Str))) = false))) fun h => by cases h) rfl) X fun s8 X => ?_)
      rw [if_neg (by decide)]
      exact wpAny_execs_nil (skip rfl _ X)
  · rintro G' m' led s5 ⟨to, rfl, w1, hle, hk⟩ hle2 X
    rw [← hv.length, List.take_length] at w1
    exact q G' m' s5 to hle X w1 hk
end
end Mine
end

noncomputable section
open PySem PySem.W PyProof.Rows PySem.Calls PySem.Spec
set_option maxRecDepth 100000
set_option maxHeartbeats 4000000
namespace Mine
noncomputable def forB : Stmt → List Stmt
  | .For _ _ b _ _ => b
  | _ => []
noncomputable def ifB : Stmt → List Stmt
  | .If _ b _ _ => b
  | _ => []
noncomputable def fstSt (i : Nat) : Stmt := (ifB ((forB (turnSt 6)).getD 0 (.Pass ⟨0, 0, 0, 0⟩))).getD i (.Pass ⟨0, 0, 0, 0⟩)
section
variable {C : Cx} {A : Around} {E : Value → Shared → Prop} {s : Shared} {I : Info} {G : Heap} {m : Str → Option Value} {env : Env} {fa : Nat → Addr} {led : List (Addr × Obj)}

theorem ld_put {ow : Addr} {oo : Obj} {sc : Sc} {x st : Str} {tx ts : Tok} {Q : Unit → Shared → Prop} (X : St I m ((ow, oo) :: led) s) (h : LD C oo sc) (hx : (sc.lookup x).isSome = false) (hz : sc.length ≤ 900)
    (q : ∀ oo' s', LD C oo' (sc ++ [(x, st)]) → St I m ((ow, oo') :: led) s' → Q () s') : wpAny C.M A (setItem (.ref ow) (.str x tx) (.str st ts)) Q E s := by
  obtain ⟨kvs, hd, hall⟩ := h
  have hn : valueAt kvs x = none := isNone_of ((lent_has hall x).trans hx)
  refine setDct X hd (by have := hall.length; clear hn; lia) fun oo' s' hd' X' => ?_
  rw [stored_new hn] at hd'
  exact q _ _ ⟨_, hd', hall.snoc ⟨rfl, ts, rfl⟩⟩ X'

theorem Ev.ifPick {test a b : Expr} {c : Bool} {R : Value → Prop} {pos : Pos} (h : Tr C A env I m led test c) (ha : c = true → Ev C A env I m led a R) (hb : c = false → Ev C A env I m led b R) : Ev C A env I m led (.IfExp test a b pos) R :=
  fun s Q E st q => IfExp_ (h _ _ _ st fun s1 x1 => by
    cases c with
    | true => exact ha rfl _ _ _ x1 q
    | false => exact hb rfl _ _ _ x1 q)
theorem decl_loop {n : Nat} {f : Addr} {cdv : Value} {td ow a da : Addr} {to oo : Obj} {told : List Row} {ds : List D} {dvs : List Value} {v0 v1 v2 v4 : Value} {Q : Flow → Shared → Prop} (hA : Am A (n + 1))
    (X : St (I.on G) m ((ow, oo) :: (td, to) :: led) s) (hto : Rw G told to) (hoo : LD C oo []) (hsm : (ow == sysModules) = false) (hT : IsTup G a [v0, v1, v2, .ref da, v4].toArray) (hda : IsTup G da dvs.toArray) (hds : All2 (Dc G) ds dvs) (hl : ds.length ≤ 2) (hz : told.length ≤ 10000)
    (k1 : m "s" = some (.ref a)) (k2 : m "told" = some (.ref td)) (k3 : m "own" = some (.ref ow))
    (q : ∀ G' m' s' to' oo', TupLe G G' → St (I.on G') m' ((ow, oo') :: (td, to') :: led) s' → Rw G' (declAll ds (told, [])).1 to' → LD C oo' (declAll ds (told, [])).2 → (∀ y : Str, y ≠ "item" → y ≠ "name" → m' y = m y) → Q .next s') :
    wpAny C.M A (exec (fstSt 1) (dueEnv I.L f cdv)) Q E s := by
  show wpAny C.M A (exec (.For _ _ _ _ _) _) Q E s
  refine wpAny_For ?_ (by intro _; rfl)
  refine Ev.use (.tup (.loc k1) .cI hT) X fun v s1 e1 X => ?_
  obtain rfl := e1.symm
  refine iter_tuple X hda fun it io s2 hio X => ?_
  refine for_loop' (Itr.tuple (vs := dvs) hA.hh) (fun i G' m' led' => ∃ to oo, led' = (ow, oo) :: (td, to) :: led ∧ Rw G' (declAll (ds.take i) (told, [])).1 to ∧ LD C oo (declAll (ds.take i) (told, [])).2 ∧ TupLe G G' ∧ ∀ y : Str, y ≠ "item" → y ≠ "name" → m' y = m y) (fun i G' m' led' h => ?_) X hio ⟨to, oo, rfl, hto, hoo, TupLe.refl _, fun _ _ _ => rfl⟩ ?_ ?_
  · obtain ⟨_, _, _, _, _, h, _⟩ := h
    exact h.tup hda
  · rintro PP i G' m' led' o v s3 E' hi hvi ⟨to, oo, rfl, w1, hoo, hle, hk⟩ hle2 X hPP
    obtain ⟨d, hdi, hdv⟩ := hds.get hvi
    have hk1 : m' "told" = some (.ref td) := (hk _ (by decide) (by decide)).trans k2
    have hk3 : m' "own" = some (.ref ow) := (hk _ (by decide) (by decide)).trans k3
    have htk := declAll_take ds i d (told, []) hdi
    have hln := declAll_len (ds.take i) (told, [])
    have hil : (ds.take i).length ≤ 2 := by rw [List.length_take]; lia
    simp only [List.length_nil] at hln
    replace hdv := hdv.le hle
    generalize hq0 : declAll (ds.take i) (told, []) = q0 at w1 hoo htk hln
    obtain ⟨rows, names⟩ := q0
    simp only at w1 hoo hln
    obtain ⟨a', t1, t2, rest, rfl, hT1, hnm⟩ : ∃ a' t1 t2 rest, v = .ref a' ∧ IsTup G' a' (.str (dup d) t1 :: .int d.m t2 :: rest).toArray ∧ ((dup d = "var" ∧ ∃ t3 t4 b, rest = [.str "reg" t3, .bool false, .none, .str d.x t4, .ref b, .none]) ∨ (dup d = "event" ∧ ∃ t4, rest = [.str d.x t4])) := by
      obtain ⟨a', rfl, hd⟩ := hdv
      rcases hd with ⟨hv, t1, t2, t3, t4, b, hT1, hT2⟩ | ⟨hv, t1, t2, t3, hT1⟩
      · have e : dup d = "var" := by unfold dup; rw [hv]; rfl
        exact ⟨a', t1, t2, _, rfl, by rw [e]; exact hT1, .inl ⟨e, t3, t4, b, rfl⟩⟩
      · have e : dup d = "event" := by unfold dup; rw [hv]; rfl
        exact ⟨a', t1, t2, _, rfl, by rw [e]; exact hT1, .inr ⟨e, t3, rfl⟩⟩
    refine wpAny_assign_Name (store X fun s4 X => ?_)
    refine seq (P := fun s' => ∃ tx, St (I.on G') (fun z => if z = "name" then some (.str d.x tx) else if z = "item" then some (.ref a') else m' z) ((ow, oo) :: (td, to) :: (it, o) :: led) s') ?_ ?_
    · refine wpAny_Assign_Name ?_ (by rfl)
      refine Ev.use (Ev.ifPick (R := IsS d.x) (c := dup d == "var") (Tr.eqS (.tag (.loc (by rfl)) hT1) .cS) (fun hc => ?_) fun hc => ?_) X fun v5 s5 e5 X => ?_
      · rcases hnm with ⟨e, t3, t4, b, rfl⟩ | ⟨e, t4, rfl⟩
        · exact .mono (.tup (.loc (by rfl)) .cI hT1) fun v h => ⟨_, h⟩
        · rw [e] at hc; exact absurd hc (by decide)
      · rcases hnm with ⟨e, t3, t4, b, rfl⟩ | ⟨e, t4, rfl⟩
        · rw [e] at hc; exact absurd hc (by decide)
        · exact .mono (.tup (.loc (by rfl)) .cI hT1) fun v h => ⟨_, h⟩
      · obtain ⟨tx, rfl⟩ := e5
        exact store X fun s6 X => ⟨rfl, tx, X.up2.swap.dn2.swap⟩
    rintro s5 ⟨tx, X⟩
    obtain ⟨kvs, hd, hall⟩ := id hoo
    have hkS : ∀ y : Str, y ≠ "item" → y ≠ "name" → (fun z : Str => if z = ("name" : Str) then some (.str d.x tx) else if z = ("item" : Str) then some (Value.ref a') else m' z) y = m' y := fun y h1 h2 => by
      show (if y = ("name" : Str) then _ else if y = ("item" : Str) then _ else m' y) = _
      rw [if_neg h2, if_neg h1]
    refine last (xIf (b := (names.lookup d.x).isSome) (lent_has hall d.x ▸ Tr.inD (.locS (by rfl)) (.loc (by exact hk3)) (.head _) hd hsm) X fun s6 X => ?_)
    cases hb : (names.lookup d.x).isSome with
    | true =>
      rw [if_pos rfl]
      rw [putE_yes hb] at htk
      refine last (told_add X.swap w1 (by exact hk1) (by lia) .cS (.mono (.tup (j := 1) (.loc (by rfl)) .cI hT1 (by decide) (by decide) seq1 rfl) fun v h => ⟨_, h⟩) (.locS (by rfl)) fun s7 to2 X w2 hle3 => ?_)
      exact hPP _ ⟨s7.heap, _, _, ⟨to2, oo, rfl, by rw [htk]; exact w2, by rw [htk]; exact hoo, hle.trans hle3, fun y h1 h2 => (hkS y h1 h2).trans (hk y h1 h2)⟩, hle.trans hle3, X.swap.up2⟩
    | false =>
      rw [if_neg (by decide)]
      rw [putE_no hb] at htk
      refine last (wpAny_Assign_Subscript ?_ (by rfl))
      refine Ev.useV (.tup (j := 0) (.loc (by rfl)) .cI hT1 (by decide) (by decide) seq0 rfl) X fun s7 X => ?_
      refine Ev.useV (.loc (by exact hk3)) X fun s8 X => ?_
      refine Ev.useV (.loc (by rfl)) X fun s9 X => ?_
      refine ld_put (st := dup d) X hoo hb (by lia) fun oo' s10 hoo' X => ?_
      exact hPP _ ⟨G', _, _, ⟨to, oo', rfl, by rw [htk]; exact w1, by rw [htk]; exact hoo', hle, fun y h1 h2 => (hkS y h1 h2).trans (hk y h1 h2)⟩, hle, X.up2⟩
  · rintro G' m' led' s3 ⟨to, oo, rfl, w1, hoo, hle, hk⟩ hle2 X
    rw [← hds.length, List.take_length] at w1 hoo
    exact q G' m' s3 to oo hle X w1 hoo hk
end
end Mine
end

noncomputable section
open PySem PySem.W PyProof.Rows PySem.Calls PySem.Spec
set_option maxRecDepth 100000
set_option maxHeartbeats 4000000
namespace Mine
section
variable {C : Cx} {A : Around} {E : Value → Shared → Prop} {s : Shared} {I : Info} {G : Heap} {m : Str → Option Value} {env : Env} {fa : Nat → Addr} {led : List (Addr × Obj)}

inductive NewI (C : Cx) (G : Heap) (nl : List (Addr × Obj)) (cl : Addr) (p : Addr × Sc × List T) (v : Value) : Prop
  | mk (t : Addr) (oo : Obj) (lr : Addr) (lro : Obj) (rvs : List Value) (h1 : v = .ref t) (h2 : IsTup G t [.ref cl, .ref p.1, .ref lr].toArray) (h3 : (p.1, oo) ∈ nl) (h4 : LD C oo p.2.1) (h5 : (p.1 == sysModules) = false) (h6 : (lr, lro) ∈ nl) (h7 : LX lro rvs) (h8 : All2 (Tree G) p.2.2 rvs) : NewI C G nl cl p v
theorem NewI.mono {G G' : Heap} {nl nl' : List (Addr × Obj)} {cl : Addr} {p : Addr × Sc × List T} {v : Value} (h : NewI C G nl cl p v) (hG : TupLe G G') (hl : ∀ q ∈ nl, q ∈ nl') : NewI C G' nl' cl p v := by
  obtain ⟨t, oo, lr, lro, rvs, e, h1, h2, h3, h4, h5, h6, h7⟩ := h
  exact ⟨t, oo, lr, lro, rvs, e, hG.tup h1, hl _ h2, h3, h4, hl _ h5, h6, h7.mono fun _ _ z => Tree.le hG _ _ z⟩

theorem l1_len {t : T} {d : Nat} (h : t.ok d) (q : List Row × Sc × List (Sc × List T)) : (l1 q t).1.length + (l1 q t).2.1.length ≤ q.1.length + q.2.1.length + 3 ∧ (l1 q t).2.2.length ≤ q.2.2.length + 1 := by
  cases t with
  | blk fk m lab ds ts =>
    cases d with
    | zero => exact h.elim
    | succ d =>
      have h2 := h.2.1
      have hd := declAll_len ds (q.1, [])
      simp only [List.length_nil] at hd
      by_cases hs : hasSc (.blk fk m lab ds ts) = true
      · cases lab with
        | some x =>
          have hp := putE_len "duplicate_label" "block" x m ((declAll ds (q.1, [])).1, q.2.1)
          simp only at hp
          simp only [l1, hs, if_true, List.length_append, List.length_cons, List.length_nil]
          lia
        | none =>
          simp only [l1, hs, if_true, List.length_append, List.length_cons, List.length_nil]
          lia
      · simp only [l1, hs, if_false]
        simp
  | _ => exact ⟨by simp [l1], by simp [l1]⟩
theorem l1_no {t : T} {q : List Row × Sc × List (Sc × List T)} (h : ¬ hasSc t = true) : l1 q t = q := by
  cases t with
  | blk fk m lab ds ts => simp only [l1, h, if_false]; simp
  | _ => rfl
theorem l1_fold_len : ∀ (ns : List T) (q : List Row × Sc × List (Sc × List T)), (∀ t ∈ ns, ∃ d, t.ok d) → (ns.foldl l1 q).1.length + (ns.foldl l1 q).2.1.length ≤ q.1.length + q.2.1.length + 3 * ns.length ∧ (ns.foldl l1 q).2.2.length ≤ q.2.2.length + ns.length
  | [], q, _ => by simp
  | t :: ns, q, h => by
    obtain ⟨d, hd⟩ := h t (.head _)
    have h1 := l1_len hd q
    have h2 := l1_fold_len ns (l1 q t) fun u hu => h u (.tail _ hu)
    rw [List.foldl_cons, List.length_cons]
    lia
theorem fst_loop {n : Nat} {f : Addr} {cdv : Value} {td wk da nd cl : Addr} {to wo do_ no : Obj} {nvs wvs : List Value} {NS : List T} {told : List Row} {names : Sc} {fz : List (Addr × Obj)} {Q : Flow → Shared → Prop} (O : Ok C fa) (SI : ∀ G, Stat C (I.on G).H) (hA : Am A (n + 3))
    (X : St (I.on G) m ((td, to) :: (wk, wo) :: (da, do_) :: fz) s) (hto : Rw G told to) (hwk : LX wo wvs) (hda : LD C do_ names) (hsm : (da == sysModules) = false) (hnm : (nd, no) ∈ fz) (hno : LX no nvs)
    (hv : All2 (Tree G) NS nvs) (hok : ∀ t ∈ NS, t ≠ .non ∧ ∃ d, t.ok d) (hz : told.length + names.length + wvs.length + 4 * NS.length ≤ 800)
    (k1 : m "told" = some (.ref td)) (k2 : m "work" = some (.ref wk)) (k3 : m "chain" = some (.ref cl)) (k4 : m "nodes" = some (.ref nd)) (k5 : m "names" = some (.ref da))
    (q : ∀ G' m' s' to' wo' do' nl nw tn, tn.map (·.2) = (NS.foldl l1 (told, names, [])).2.2 → (tn.map (·.1)).Nodup → TupLe G G' → St (I.on G') m' ((td, to') :: (wk, wo') :: (da, do') :: (fz ++ nl)) s' → Rw G' (NS.foldl l1 (told, names, [])).1 to' → LD C do' (NS.foldl l1 (told, names, [])).2.1 → LX wo' (wvs ++ nw) → All2 (NewI C G' nl cl) tn nw → Nt nl →
      (∀ y : Str, y ∈ (["told", "work", "chain", "names", "nodes", "waits", "step"] : List Str) → m' y = m y) → Q .next s') :
    wpAny C.M A (exec (turnSt 6) (dueEnv I.L f cdv)) Q E s := by
  show wpAny C.M A (exec (.For _ _ _ _ _) _) Q E s
  refine wpAny_For ?_ (by intro _; rfl)
  refine Ev.useV (.loc k4) X fun s3 X => ?_
  refine iter_list X (.tail _ (.tail _ (.tail _ hnm))) hno.lst fun it io s4 hio X => ?_
  refine for_loop' (Itr.list (vs := nvs) hA.hh) (fun i G' m' led => ∃ to wo do_ nl nw tn, tn.map (·.2) = ((NS.take i).foldl l1 (told, names, [])).2.2 ∧ (tn.map (·.1)).Nodup ∧ led = (td, to) :: (wk, wo) :: (da, do_) :: (fz ++ nl) ∧ Rw G' ((NS.take i).foldl l1 (told, names, [])).1 to ∧ LD C do_ ((NS.take i).foldl l1 (told, names, [])).2.1 ∧ LX wo (wvs ++ nw) ∧ All2 (NewI C G' nl cl) tn nw ∧ Nt nl ∧ TupLe G G' ∧
    ∀ y : Str, y ∈ (["told", "work", "chain", "names", "nodes", "waits", "step"] : List Str) → m' y = m y) (fun i G' m' led h => ?_) X hio ⟨to, wo, do_, [], [], [], rfl, by simp, by rw [List.append_nil], hto, hda, by rw [List.append_nil]; exact hwk, .nil, by simp [Nt], TupLe.refl _, fun _ _ => rfl⟩ ?_ ?_
  · obtain ⟨_, _, _, nl, _, _, _, _, rfl, _⟩ := h
    exact ⟨no, .tail _ (.tail _ (.tail _ (List.mem_append_left _ hnm))), hno.lst⟩
  · rintro PP i G' m' led o v s5 E' hi hvi ⟨to, wo, do_, nl, nw, tn, htn, hnd, rfl, w1, hda, hwk, hnw, hnt, hle, hk⟩ hle2 X hPP
    obtain ⟨t, hti, ht⟩ := hv.get hvi
    obtain ⟨hn0, hokt⟩ := hok t (List.mem_of_getElem? hti)
    have htake : NS.take (i + 1) = NS.take i ++ [t] := by rw [List.take_add_one, hti]; rfl
    have hfl := l1_fold_len (NS.take i) (told, names, []) fun u hu => (hok u (List.mem_of_mem_take hu)).2
    have hil : (NS.take i).length ≤ NS.length := by rw [List.length_take]; lia
    have hstep : (NS.take (i + 1)).foldl l1 (told, names, []) = l1 ((NS.take i).foldl l1 (told, names, [])) t := by rw [htake, List.foldl_append]; rfl
    rw [hstep] at hPP
    generalize (NS.take i).foldl l1 (told, names, []) = q0 at w1 hda htn hfl hstep hPP
    obtain ⟨rows, nms, nws⟩ := q0
    simp only [List.length_nil] at w1 hda htn hfl hstep
    have hnl : nws.length = nw.length := by rw [← htn, List.length_map, hnw.length]
    have j1 : m' "told" = some (.ref td) := (hk _ (by decide)).trans k1
    have j2 : m' "work" = some (.ref wk) := (hk _ (by decide)).trans k2
    have j3 : m' "chain" = some (.ref cl) := (hk _ (by decide)).trans k3
    have j5 : m' "names" = some (.ref da) := (hk _ (by decide)).trans k5
    replace ht := Tree.le hle _ _ ht
    obtain ⟨a, t1, t2, rest, rfl, hT⟩ := tree_view ht hn0
    refine wpAny_assign_Name (store X fun s6 X => ?_)
    have fin : ∀ G2 m2 s2 to2 wo2 do2 nl2 nw2 tn2, tn2.map (·.2) = (l1 (rows, nms, nws) t).2.2 → (tn2.map (·.1)).Nodup → TupLe G' G2 → St (I.on G2) m2 ((it, o) :: (td, to2) :: (wk, wo2) :: (da, do2) :: (fz ++ nl2)) s2 → Rw G2 (l1 (rows, nms, nws) t).1 to2 → LD C do2 (l1 (rows, nms, nws) t).2.1 → LX wo2 (wvs ++ nw2) → All2 (NewI C G2 nl2 cl) tn2 nw2 → Nt nl2 →
        (∀ y : Str, y ∈ (["told", "work", "chain", "names", "nodes", "waits", "step"] : List Str) → m2 y = m' y) →
        PP .next s2 := by
      intro G2 m2 s2 to2 wo2 do2 nl2 nw2 tn2 g1 g2 h1 h2 h3 h4 h5 h6 h7 h8
      exact hPP _ ⟨G2, m2, _, ⟨to2, wo2, do2, nl2, nw2, tn2, g1, g2, rfl, h3, h4, h5, h6, h7, hle.trans h1, fun y hy => (h8 y hy).trans (hk y hy)⟩, hle.trans h1, h2⟩
    have hkS : ∀ v : Value, ∀ y : Str, y ∈ (["told", "work", "chain", "names", "nodes", "waits", "step"] : List Str) → (fun z : Str => if z = ("s" : Str) then some v else m' z) y = m' y := fun v y hy => by
      show (if y = ("s" : Str) then _ else m' y) = _
      rw [if_neg]
      rintro rfl
      exact absurd hy (by decide)
    refine last (wpAny_If (isTrue_plain ?_))
    refine ev_callX (SI G') (O.nm 36 (by decide)) (O.fn 36 (by decide)) X fun s7 X => ?_
    refine spliced_more (Ev.useV (.loc (by rfl)) X fun s8 X => ?_)
    refine spliced_none ⟨(X.stat (SI G')).X, ?_⟩
    refine has_scope_spec (n := n) O (hA.le (by lia)) (X.pre (l1 := []) (SI G') fun p hp => by cases hp) hn0 (Tree.le X.tup _ _ ht) fun s9 P => ?_
    have X := St.post (l1 := []) (l1' := []) X P rfl fun p hp => by cases hp
    refine wpAny_truthy_bool ?_
    by_cases hs : hasSc t = true
    · rw [if_pos hs]
      cases t with
      | blk fk mm lab ds ts =>
        obtain ⟨a', t1', t2', lv, dda, dvs, ta, tvs, ea, hT', hlab, hdda, hds, hta, hts⟩ := ht
        cases ea
        have hdl : ds.length ≤ 2 := by
          obtain ⟨d, hd⟩ := hokt
          cases d with
          | zero => exact hd.elim
          | succ d => exact hd.2.1
        refine wpAny_execs_cons (wpAny_Assign_Name (new_dict (SI G') X fun ow oo s10 hoo hsow _ X => store X fun s11 X => ?_) (by rfl))
        refine wpAny_execs_cons (decl_loop (n := n) (hA.le (by lia)) (X.perm (.cons _ (.swap _ _ _))) w1 ⟨[], hoo, .nil⟩ hsow hT' hdda hds hdl (by lia) rfl (by exact j1) rfl fun G2 m2 s12 to2 oo2 hle3 X w2 hoo2 hk2 => ?_)
        have hfresh : ∀ q ∈ fz ++ nl, q.1 ≠ ow := fun q hq e => by
          have nd := X.nd
          rw [List.map_cons, List.nodup_cons] at nd
          have hq2 : q ∈ (td, to2) :: (it, o) :: (wk, wo) :: (da, do_) :: (fz ++ nl) := .tail _ (.tail _ (.tail _ (.tail _ hq)))
          have h2 := List.mem_map_of_mem (f := fun p : Addr × Obj => p.1) hq2
          simp only [e] at h2
          exact nd.1 h2
        have j1' : m2 "told" = some (.ref td) := (hk2 _ (by decide) (by decide)).trans j1
        have j2' : m2 "work" = some (.ref wk) := (hk2 _ (by decide) (by decide)).trans j2
        have j3' : m2 "chain" = some (.ref cl) := (hk2 _ (by decide) (by decide)).trans j3
        have j5' : m2 "names" = some (.ref da) := (hk2 _ (by decide) (by decide)).trans j5
        have j6' : m2 "own" = some (.ref ow) := (hk2 _ (by decide) (by decide)).trans rfl
        have j7' : m2 "s" = some (.ref a) := (hk2 _ (by decide) (by decide)).trans rfl
        have hlen := hts.all2.length
        have htl : ts.length ≤ 7 := by
          obtain ⟨d, hd⟩ := hokt
          cases d with
          | zero => exact hd.elim
          | succ d => exact hd.2.2.2.1
        refine wpAny_execs_cons (wpAny_Expr_any ?_ (by rfl) (by rfl))
        refine ev_lmeth (.loc (by exact j2')) (.tail _ (.tail _ (.tail _ (.head _)))) hwk PySem.F.slot_list_append type_list_append X fun s13 X => ?_
        refine PyProof.Rows.callWith_method1 (spliced_more (Tuple_ (spliced_more (Ev.useV (.loc (by exact j3')) X fun s14 X => ?_))))
        refine spliced_more (Ev.useV (.loc (by exact j6')) X fun s15 X => ?_)
        refine spliced_more (ev_bt (SI G2) (O.bi "list" (by decide)) boot_list X fun s16 X => ?_)
        refine spliced_more (Ev.useV (.tup (.loc (by exact j7')) .cI (hle3.tup hT')) X fun s17 X => ?_)
        refine spliced_none (list_of_tup X (hle3.tup hta) (by lia) fun lr lro s18 hlr X => ?_)
        refine spliced_none (new_tuple X (by simp) fun wt s19 X _ => ?_)
        have hwt := IsTup.of_St X (.head _)
        have hle4a := X.tup
        replace X := X.rebase
        refine spliced_none (lst_append X.up5 hwk (by rw [List.length_append]; lia) fun wo3 s20 hwk3 X => ?_)
        have hle4 := hle4a.trans X.tup
        replace hwt := X.tup.tup hwt
        have X := ((X.swapDrop.up3.up5).swap).rebase
        have hlt := declAll_len ds (rows, [])
        simp only [List.length_nil] at hlt
        have w3 := w2.le hle4
        have hT3 := (hle3.trans hle4).tup hT'
        have hnew : NewI C s20.heap (nl ++ [(lr, lro), (ow, oo2)]) cl (ow, (declAll ds (rows, [])).2, ts) (.ref wt) := ⟨wt, oo2, lr, lro, tvs, rfl, hwt, by simp, hoo2, hsow, by simp, hlr, hts.all2.mono fun _ _ z => Tree.le (hle3.trans hle4) _ _ z⟩
        have hnw2 : All2 (NewI C s20.heap (nl ++ [(lr, lro), (ow, oo2)]) cl) (tn ++ [(ow, (declAll ds (rows, [])).2, ts)]) (nw ++ [.ref wt]) := (hnw.mono fun _ _ z => z.mono (hle3.trans hle4) fun q hq => List.mem_append_left _ hq).snoc hnew
        have htn2 : (tn ++ [(ow, (declAll ds (rows, [])).2, ts)]).map (·.2) = nws ++ [((declAll ds (rows, [])).2, ts)] := by rw [List.map_append, htn]; rfl
        have hnd2 : ((tn ++ [(ow, (declAll ds (rows, [])).2, ts)]).map (·.1)).Nodup := by
          rw [List.map_append]
          refine List.nodup_append.mpr ⟨hnd, by simp, fun x hx y hy e => ?_⟩
          subst e
          simp only [List.map_cons, List.map_nil, List.mem_singleton] at hy
          subst hy
          obtain ⟨p, hp, e⟩ := List.mem_map.mp hx
          obtain ⟨j, hj, ej⟩ := List.getElem_of_mem hp
          obtain ⟨oo', ho'⟩ : ∃ oo', (p.1, oo') ∈ nl := by
            obtain ⟨v', hv'⟩ : ∃ v', nw[j]? = some v' := ⟨nw[j]'(by rw [← hnw.length]; exact hj), by simp [← hnw.length, hj]⟩
            obtain ⟨p', hp', t', oo', _, _, _, _, _, ho', _⟩ := hnw.get hv'
            rw [List.getElem?_eq_getElem hj, ej] at hp'
            cases hp'
            exact ⟨oo', ho'⟩
          refine hfresh (p.1, oo') (List.mem_append_right _ ho') ?_
          exact e
        have hnt2 : Nt (nl ++ [(lr, lro), (ow, oo2)]) := fun q hq => by
          rcases List.mem_append.mp hq with h | h
          · exact hnt q h
          · simp only [List.mem_cons, List.not_mem_nil, or_false] at h
            rcases h with rfl | rfl
            · exact hlr.not
            · exact hoo2.not
        have arr : ∀ {I' : Info} {m' : Str → Option Value} {s' : Shared} {to' do' : Obj}, St I' m' ((td, to') :: (da, do') :: (wk, wo3) :: (lr, lro) :: (ow, oo2) :: (it, o) :: (fz ++ nl)) s' → St I' m' ((it, o) :: (td, to') :: (wk, wo3) :: (da, do') :: (fz ++ (nl ++ [(lr, lro), (ow, oo2)]))) s' := by
          intro I' m' s' to' do' X
          refine X.up5.perm (.cons _ (.cons _ ((List.Perm.swap _ _ _).trans (.cons _ (.cons _ ?_)))))
          rw [← List.append_assoc]
          exact List.perm_append_comm (l₁ := [(lr, lro), (ow, oo2)]) (l₂ := fz ++ nl)
        have hk6 : ∀ y : Str, y ∈ (["told", "work", "chain", "names", "nodes", "waits", "step"] : List Str) → m2 y = m' y := fun y hy => by
          refine (hk2 y (by rintro rfl; exact absurd hy (by decide)) (by rintro rfl; exact absurd hy (by decide))).trans ?_
          show (if y = ("own" : Str) then _ else if y = ("s" : Str) then _ else m' y) = _
          rw [if_neg (by rintro rfl; exact absurd hy (by decide)), if_neg (by rintro rfl; exact absurd hy (by decide))]
        cases lab with
        | none =>
          obtain rfl : lv = .none := hlab
          have e : l1 (rows, nms, nws) (.blk fk mm none ds ts) = ((declAll ds (rows, [])).1, nms, nws ++ [((declAll ds (rows, [])).2, ts)]) := by simp only [l1, hs, if_true]
          refine last (xIf (b := false) (Tr.cast (b := false && false) (Tr.and2 (Tr.isNotN (.tup (.loc (by exact j7')) .cI hT3) (.inl ⟨rfl, rfl⟩)) fun h => by cases h) rfl) X fun s21 X => ?_)
          rw [if_neg (by decide)]
          refine last (xIf (b := false) (Tr.isNotN (.tup (.loc (by exact j7')) .cI hT3) (.inl ⟨rfl, rfl⟩)) X fun s22 X => ?_)
          rw [if_neg (by decide)]
          exact wpAny_execs_nil (fin s20.heap _ _ to2 wo3 do_ _ _ _ (by rw [e]; exact htn2) hnd2 (hle3.trans hle4) (arr X) (by rw [e]; exact w3) (by rw [e]; exact hda) (by rw [← List.append_assoc]; exact hwk3) hnw2 hnt2 hk6)
        | some x =>
          obtain ⟨tx, rfl⟩ := hlab
          obtain ⟨kvs, hkd, hkall⟩ := id hda
          have e : l1 (rows, nms, nws) (.blk fk mm (some x) ds ts) = ((putE "duplicate_label" "block" x mm ((declAll ds (rows, [])).1, nms)).1, (putE "duplicate_label" "block" x mm ((declAll ds (rows, [])).1, nms)).2, nws ++ [((declAll ds (rows, [])).2, ts)]) := by simp only [l1, hs, if_true]
          refine last (xIf (b := (nms.lookup x).isSome) (Tr.cast (b := true && (nms.lookup x).isSome) (Tr.and2 (Tr.isNotN (.tup (.loc (by exact j7')) .cI hT3) (.inr ⟨rfl, by simp⟩)) fun _ => lent_has hkall x ▸ Tr.inD (.mono (.tup (.loc (by exact j7')) .cI hT3) fun v h => ⟨_, h⟩) (.loc (by exact j5')) (.tail _ (.head _)) hkd hsm) (Bool.true_and _)) X fun s21 X => ?_)
          cases hb : (nms.lookup x).isSome with
          | true =>
            rw [if_pos rfl]
            rw [putE_yes hb] at e
            refine last (told_add X w3 (by exact j1') (by lia) .cS (.mono (.tup (.loc (by exact j7')) .cI hT3) fun v h => ⟨_, h⟩) (.mono (.tup (.loc (by exact j7')) .cI hT3) fun v h => ⟨_, h⟩) fun s22 to3 X w4 hle5 => ?_)
            exact fin s22.heap _ _ to3 wo3 do_ _ _ _ (by rw [e]; exact htn2) hnd2 ((hle3.trans hle4).trans hle5) (arr X) (by rw [e]; exact w4) (by rw [e]; exact hda) (by rw [← List.append_assoc]; exact hwk3) (hnw2.mono fun _ _ z => z.mono hle5 fun q hq => hq) hnt2 hk6
          | false =>
            rw [if_neg (by decide)]
            rw [putE_no hb] at e
            refine last (xIf (b := true) (Tr.isNotN (.tup (.loc (by exact j7')) .cI hT3) (.inr ⟨rfl, by simp⟩)) X fun s22 X => ?_)
            rw [if_pos rfl]
            refine last (wpAny_Assign_Subscript ?_ (by rfl))
            refine Ev.use .cS X fun v7 s23 e7 X => ?_
            refine Ev.use (.loc (by exact j5')) X fun v8 s24 e8 X => ?_
            refine Ev.use (.tup (.loc (by exact j7')) .cI hT3) X fun v9 s25 e9 X => ?_
            obtain ⟨t7, rfl⟩ := e7; obtain rfl := e8.symm; obtain rfl := e9.symm
            refine ld_put (st := "block") X.swap hda hb (by lia) fun do2 s26 hda2 X => ?_
            exact fin s20.heap _ _ to2 wo3 do2 _ _ _ (by rw [e]; exact htn2) hnd2 (hle3.trans hle4) (arr X.swap) (by rw [e]; exact w3) (by rw [e]; exact hda2) (by rw [← List.append_assoc]; exact hwk3) hnw2 hnt2 hk6
      | _ => cases hs
    · rw [if_neg hs]
      refine wpAny_execs_nil (fin G' _ _ to wo do_ nl nw tn (by rw [l1_no hs]; exact htn) hnd (TupLe.refl _) X (by rw [l1_no hs]; exact w1) (by rw [l1_no hs]; exact hda) hwk hnw hnt (hkS _))
  · rintro G' m' led s5 ⟨to, wo, do_, nl, nw, tn, htn, hnd, rfl, w1, hda, hwk, hnw, hnt, hle, hk⟩ hle2 X
    rw [← hv.length, List.take_length] at w1 hda htn
    exact q G' m' s5 to wo do_ nl nw tn htn hnd hle X w1 hda hwk hnw hnt hk
end
end Mine
end

noncomputable section
open PySem PySem.W PyProof.Rows PySem.Calls PySem.Spec
set_option maxRecDepth 100000
namespace Mine

noncomputable def sumC (l : List (Sc × List T)) : Nat := (l.map fun p => T.cnts p.2).sum
theorem sumC_app (a b : List (Sc × List T)) : sumC (a ++ b) = sumC a + sumC b := by simp [sumC]
mutual
theorem nodesT_cnt : ∀ t : T, (nodesT t).length + sumC ((nodesT t).flatMap scopeOf) = t.cnt
  | .non => by simp [nodesT, sumC, T.cnt]
  | .dis .. => by simp [nodesT, sumC, scopeOf, T.cnt]
  | .trg .. => by simp [nodesT, sumC, scopeOf, T.cnt]
  | .pth .. => by simp [nodesT, sumC, scopeOf, T.cnt]
  | .blk fk m lab ds ts => by
    have ih := nodesL_cnt ts
    rw [nodesT]
    by_cases h : hasSc (.blk fk m lab ds ts) = true
    · rw [if_pos h]
      simp [scopeOf, h, sumC, T.cnt]
    · rw [if_neg h, List.flatMap_cons, scopeOf, if_neg h, List.nil_append, List.length_cons, T.cnt]
      lia
  | .cho m a b => by
    have := nodesT_cnt a; have := nodesT_cnt b
    rw [nodesT, List.flatMap_cons, scopeOf, List.nil_append, List.flatMap_append, sumC_app, List.length_cons, List.length_append, T.cnt]; lia
    all_goals (intros; contradiction)
  | .cas m a b => by
    have := nodesT_cnt a; have := nodesT_cnt b
    rw [nodesT, List.flatMap_cons, scopeOf, List.nil_append, List.flatMap_append, sumC_app, List.length_cons, List.length_append, T.cnt]; lia
    all_goals (intros; contradiction)
  | .one k m a => by
    have := nodesT_cnt a
    rw [nodesT, List.flatMap_cons, scopeOf, List.nil_append, List.length_cons, T.cnt]; lia
    all_goals (intros; contradiction)
  | .fev m a => by
    have := nodesT_cnt a
    rw [nodesT, List.flatMap_cons, scopeOf, List.nil_append, List.length_cons, T.cnt]; lia
    all_goals (intros; contradiction)
  | .awt m a => by
    have := nodesT_cnt a
    rw [nodesT, List.flatMap_cons, scopeOf, List.nil_append, List.length_cons, T.cnt]; lia
    all_goals (intros; contradiction)
  | .lop m a => by
    have := nodesT_cnt a
    rw [nodesT, List.flatMap_cons, scopeOf, List.nil_append, List.length_cons, T.cnt]; lia
    all_goals (intros; contradiction)
theorem nodesL_cnt : ∀ ts : List T, (nodesL ts).length + sumC ((nodesL ts).flatMap scopeOf) = T.cnts ts
  | [] => by simp [nodesL, sumC, T.cnts]
  | t :: ts => by
    have := nodesT_cnt t; have := nodesL_cnt ts
    rw [nodesL, List.flatMap_append, sumC_app, List.length_append, T.cnts]; lia
end
theorem scopeOf_len (t : T) : (scopeOf t).length ≤ 1 := by
  cases t with
  | blk fk m lab ds ts => rw [scopeOf]; split <;> simp
  | _ => simp [scopeOf]
theorem scopes_len : ∀ ns : List T, (ns.flatMap scopeOf).length ≤ ns.length
  | [] => by simp
  | t :: ns => by have := scopeOf_len t; have := scopes_len ns; rw [List.flatMap_cons, List.length_append, List.length_cons]; lia
theorem labOf_len (t : T) : (labOf t).length ≤ 1 := by
  cases t with
  | blk fk m lab ds ts => cases lab <;> simp [labOf]
  | _ => simp [labOf]
theorem labsOf_len : ∀ ns : List T, (ns.flatMap labOf).length ≤ ns.length
  | [] => by simp
  | t :: ns => by have := labOf_len t; have := labsOf_len ns; rw [List.flatMap_cons, List.length_append, List.length_cons]; lia
theorem declR_len {t : T} {d : Nat} (h : t.ok d) : (declR t).length ≤ 2 := by
  cases t with
  | blk fk m lab ds ts =>
    cases d with
    | zero => exact h.elim
    | succ d =>
      have h2 := h.2.1
      have hd := declAll_len ds ([], [])
      simp only [List.length_nil] at hd
      rw [declR]; split
      · lia
      · simp
  | _ => simp [declR]
theorem declsR_len : ∀ ns : List T, (∀ t ∈ ns, ∃ d, t.ok d) → (ns.flatMap declR).length ≤ 2 * ns.length
  | [], _ => by simp
  | t :: ns, h => by
    obtain ⟨d, hd⟩ := h t (.head _)
    have := declR_len hd; have := declsR_len ns fun u hu => h u (.tail _ hu)
    rw [List.flatMap_cons, List.length_append, List.length_cons]; lia
theorem nodeR_len (w : Bool) (ch : List Sc) (t : T) : (nodeR w ch t).length ≤ 1 := by
  cases t <;> simp only [nodeR, disR, trgR, tim] <;> (repeat' split) <;> simp
theorem nodesR_len (w : Bool) (ch : List Sc) : ∀ ns : List T, (ns.flatMap (nodeR w ch)).length ≤ ns.length
  | [] => by simp
  | t :: ns => by have := nodeR_len w ch t; have := nodesR_len w ch ns; rw [List.flatMap_cons, List.length_append, List.length_cons]; lia
mutual
theorem sz_le : ∀ (t : T) (d : Nat), t.ok d → t.sz ≤ 1 + 7 * t.cnt
  | .non, _, _ => by simp [T.sz]
  | .dis .., _, _ => by simp [T.sz]
  | .trg .., _, _ => by simp [T.sz]
  | .pth .., _, _ => by simp [T.sz]
  | .blk fk m lab ds ts, 0, h => h.elim
  | .blk fk m lab ds ts, d + 1, h => by
    have := szs_le ts d h.2.2.2.2
    have := h.2.2.2.1
    simp only [T.sz, T.cnt]; lia
  | .cho m a b, 0, h => h.elim
  | .cho m a b, d + 1, h => by have := sz_le a d h.1; have := sz_le b d h.2; simp only [T.sz, T.cnt]; lia
  | .cas m a b, 0, h => h.elim
  | .cas m a b, d + 1, h => by have := sz_le a d h.1; have := sz_le b d h.2; simp only [T.sz, T.cnt]; lia
  | .one k m a, 0, h => h.elim
  | .one k m a, d + 1, h => by have := sz_le a d h; simp only [T.sz, T.cnt]; lia
  | .fev m a, 0, h => h.elim
  | .fev m a, d + 1, h => by have := sz_le a d h; simp only [T.sz, T.cnt]; lia
  | .awt m a, 0, h => h.elim
  | .awt m a, d + 1, h => by have := sz_le a d h; simp only [T.sz, T.cnt]; lia
  | .lop m a, 0, h => h.elim
  | .lop m a, d + 1, h => by have := sz_le a d h; simp only [T.sz, T.cnt]; lia
theorem szs_le : ∀ (ts : List T) (d : Nat), T.oks d ts → T.szs ts ≤ ts.length + 7 * T.cnts ts
  | [], _, _ => by simp [T.szs]
  | t :: ts, d, h => by have := sz_le t d h.1; have := szs_le ts d h.2; simp only [T.szs, T.cnts, List.length_cons]; lia
end
theorem szs_le' : ∀ (ts : List T), (∀ t ∈ ts, ∃ d, t.ok d) → T.szs ts ≤ ts.length + 7 * T.cnts ts
  | [], _ => by simp [T.szs]
  | t :: ts, h => by
    obtain ⟨d, hd⟩ := h t (.head _)
    have := sz_le t d hd; have := szs_le' ts fun u hu => h u (.tail _ hu); simp only [T.szs, T.cnts, List.length_cons]; lia

theorem putE_nn {dup st x : Str} {av : Int} {q : List Row × Sc} (h : NoNil q.2) (hs : st ≠ "") : NoNil (putE dup st x av q).2 := by
  unfold putE
  split
  · exact h
  · intro p hp
    rcases List.mem_append.mp hp with hp | hp
    · exact h p hp
    · rw [List.mem_singleton] at hp; subst hp; exact hs
theorem dup_ne (d : D) : dup d ≠ "" := by unfold dup; split <;> decide
theorem declAll_nn : ∀ (ds : List D) (q : List Row × Sc), NoNil q.2 → NoNil (declAll ds q).2
  | [], q, h => h
  | d :: ds, q, h => declAll_nn ds _ (putE_nn h (dup_ne d))
theorem runLabs_nn : ∀ (ls : List (Str × Int)) (q : List Row × Sc), NoNil q.2 → NoNil (runLabs ls q).2
  | [], q, h => h
  | l :: ls, q, h => runLabs_nn ls _ (putE_nn h (by decide))
theorem nil_nn : NoNil [] := fun _ h => by cases h

theorem scope_facts {ns : List T} (h : ∀ t ∈ ns, ∃ d, t.ok d) : ∀ p ∈ ns.flatMap scopeOf, NoNil p.1 ∧ p.1.length ≤ 2 ∧ p.2.length ≤ 7 ∧ ∀ t ∈ p.2, ∃ d, t.ok d := by
  intro p hp
  obtain ⟨t, ht, hp⟩ := List.mem_flatMap.mp hp
  obtain ⟨d, hd⟩ := h t ht
  cases t with
  | blk fk m lab ds ts =>
    cases d with
    | zero => exact hd.elim
    | succ d =>
      rw [scopeOf] at hp
      split at hp
      · rw [List.mem_singleton] at hp
        subst hp
        have hl := declAll_len ds ([], [])
        simp only [List.length_nil] at hl
        have := hd.2.1
        exact ⟨declAll_nn _ _ nil_nn, by show (declAll ds ([], [])).2.length ≤ 2; lia, hd.2.2.2.1, fun t ht => ⟨d, T.oks_mem hd.2.2.2.2 t ht⟩⟩
      · cases hp
  | _ => simp [scopeOf] at hp

abbrev Pn := List Addr × Addr × List T
noncomputable def view (σ : Addr → Sc) (p : Pn) : List Sc × Sc × List T := ((p.1.map σ).reverse, σ p.2.1, p.2.2)
noncomputable def kap (pend : List Pn) : Nat := (pend.map fun p => T.cnts p.2.2).sum
theorem kap_app (a b : List Pn) : kap (a ++ b) = kap a + kap b := by simp [kap]
theorem kap_cons (p : Pn) (b : List Pn) : kap (p :: b) = T.cnts p.2.2 + kap b := by simp [kap]

structure Wk (w : Bool) (σ : Addr → Sc) (ds : List Addr) (told : List Row) (pend : List Pn) (R : List Row) : Prop where
  sub : ∀ p ∈ pend, (∀ a ∈ p.1, a ∈ ds) ∧ p.2.1 ∈ ds
  nd : (pend.map (·.2.1)).Nodup
  ap : ∀ p ∈ pend, ∀ q ∈ pend, p.2.1 ∉ q.1
  nn : ∀ d ∈ ds, NoNil (σ d)
  rows : ∀ p ∈ pend, p.2.2.length ≤ 7 ∧ ∀ t ∈ p.2.2, ∃ d, t.ok d
  len : told.length + 6 * kap pend ≤ 400
  names : ∀ d ∈ ds, (σ d).length + kap pend ≤ 100
  dep : ∀ p ∈ pend, p.1.length + kap pend ≤ 100
  perm : (told ++ pots w (pend.map (view σ))).Perm R

theorem Wk.turn {w : Bool} {σ σ' : Addr → Sc} {ds abv : List Addr} {own : Addr} {row : List T} {told told' R : List Row} {names : Sc} {rest : List Pn} {tn : List (Addr × Sc × List T)}
    (W : Wk w σ ds told ((abv, own, row) :: rest) R) (h : (nodesL row).foldl l1 (told, σ own, []) = (told', names, tn.map (·.2))) (hd : (tn.map (·.1)).Nodup) (hf : ∀ p ∈ tn, p.1 ∉ ds)
    (s1 : σ' own = names) (s2 : ∀ a ∈ ds, a ≠ own → σ' a = σ a) (s3 : ∀ p ∈ tn, σ' p.1 = p.2.1) :
    Wk w σ' (ds ++ tn.map (·.1)) (told' ++ (nodesL row).flatMap (nodeR w ((abv ++ [own]).map σ').reverse)) (rest ++ tn.map fun p => (abv ++ [own], p.1, p.2.2)) R ∧
    told'.length + 3 * (nodesL row).length ≤ 400 ∧ kap (rest ++ tn.map fun p => (abv ++ [own], p.1, p.2.2)) + (nodesL row).length = kap ((abv, own, row) :: rest) ∧ tn.length ≤ (nodesL row).length := by
  obtain ⟨hsub, hown⟩ := W.sub _ (.head _)
  have hoa : own ∉ abv := W.ap _ (.head _) _ (.head _)
  have hnd := W.nd
  rw [List.map_cons, List.nodup_cons] at hnd
  have hro : ∀ q ∈ rest, q.2.1 ≠ own := fun q hq e => by
    have h2 := List.mem_map_of_mem (f := fun p : Pn => p.2.1) hq
    simp only [e] at h2
    exact hnd.1 h2
  obtain ⟨l1, l2, l3⟩ := l1_all (nodesL row) told (σ own) []
  rw [h] at l1 l2 l3
  simp only [List.nil_append] at l1 l2 l3
  have hrow := W.rows _ (.head _)
  have hnok : ∀ t ∈ nodesL row, ∃ d, t.ok d := by
    have key : ∀ (n : Nat) (ts : List T), T.szs ts ≤ n → (∀ t ∈ ts, ∃ d, t.ok d) → ∀ t ∈ nodesL ts, ∃ d, t.ok d := by
      intro n
      induction n with
      | zero =>
        intro ts hn h t ht
        cases ts with
        | nil => cases ht
        | cons a ts => have := T.sz_pos a; simp only [T.szs] at hn; lia
      | succ n ih =>
        intro ts hn h t ht
        cases ts with
        | nil => cases ht
        | cons a ts =>
          simp only [T.szs] at hn
          have hp := T.sz_pos a
          rw [nodesL] at ht
          rcases List.mem_append.mp ht with ht | ht
          · by_cases h0 : a = .non
            · subst h0; simp [nodesT] at ht
            · rw [nodesT_below h0] at ht
              obtain ⟨d, hd⟩ := h a (.head _)
              rcases List.mem_cons.mp ht with rfl | ht
              · exact ⟨d, hd⟩
              · exact ih (belowT a) (by have := below_sz a; lia) (below_ok hd) t ht
          · exact ih ts (by lia) (fun u hu => h u (.tail _ hu)) t ht
    exact key _ row (Nat.le_refl _) hrow.2
  have hsf := scope_facts hnok
  rw [← l2] at hsf
  have hmap : (abv ++ [own]).map σ' = abv.map σ ++ [names] := by
    rw [List.map_append, List.map_cons, List.map_nil, s1]
    congr 1
    refine List.map_congr_left fun a ha => s2 a (hsub a ha) fun e => hoa (e ▸ ha)
  have hrev : ((abv ++ [own]).map σ').reverse = names :: (abv.map σ).reverse := by rw [hmap, List.reverse_append]; rfl
  have hc := nodesL_cnt row
  have hsum : sumC (tn.map (·.2)) = kap (tn.map fun p => ((abv ++ [own], p.1, p.2.2) : Pn)) := by
    unfold sumC kap; rw [List.map_map, List.map_map]; rfl
  rw [← l2, hsum] at hc
  have hk : kap (rest ++ tn.map fun p => (abv ++ [own], p.1, p.2.2)) + (nodesL row).length = kap ((abv, own, row) :: rest) := by
    rw [kap_app, kap_cons]; show _ = T.cnts row + _; lia
  have e1 := l3.length_eq
  have e2 := runLabs_len ((nodesL row).flatMap labOf) ([], σ own)
  have e3 := labsOf_len (nodesL row)
  have e4 := declsR_len (nodesL row) hnok
  have e5 := nodesR_len w ((abv ++ [own]).map σ').reverse (nodesL row)
  have e6 := scopes_len (nodesL row)
  rw [← l2, List.length_map] at e6
  simp only [List.length_nil, List.length_append] at e1 e2
  have hlen := W.len
  refine ⟨⟨?_, ?_, ?_, ?_, ?_, ?_, ?_, ?_, ?_⟩, by lia, hk, e6⟩
  · intro p hp
    rcases List.mem_append.mp hp with hp | hp
    · obtain ⟨h1, h2⟩ := W.sub p (.tail _ hp)
      exact ⟨fun a ha => List.mem_append_left _ (h1 a ha), List.mem_append_left _ h2⟩
    · obtain ⟨q, hq, rfl⟩ := List.mem_map.mp hp
      refine ⟨fun a ha => List.mem_append_left _ ?_, List.mem_append_right _ (List.mem_map_of_mem (f := fun p : Addr × Sc × List T => p.1) hq)⟩
      rcases List.mem_append.mp ha with ha | ha
      · exact hsub a ha
      · rw [List.mem_singleton] at ha; subst ha; exact hown
  · rw [List.map_append, List.map_map]
    refine List.nodup_append.mpr ⟨hnd.2, hd, fun x hx y hy e => ?_⟩
    subst e
    obtain ⟨p, hp, rfl⟩ := List.mem_map.mp hx
    obtain ⟨q, hq, e⟩ := List.mem_map.mp hy
    have e : q.1 = p.2.1 := e
    exact hf q hq (e ▸ (W.sub p (.tail _ hp)).2)
  · intro p hp q hq hin
    have hp' : p.2.1 ∈ ds → p.2.1 ≠ own → (p ∈ rest) → False := fun h1 h2 h3 => by
      rcases List.mem_append.mp hq with hq | hq
      · exact W.ap p (.tail _ h3) q (.tail _ hq) hin
      · obtain ⟨q', hq', rfl⟩ := List.mem_map.mp hq
        rcases List.mem_append.mp hin with hin | hin
        · exact W.ap p (.tail _ h3) _ (.head _) hin
        · rw [List.mem_singleton] at hin; exact h2 hin
    have hqs : ∀ a ∈ q.1, a ∈ ds := by
      rcases List.mem_append.mp hq with hq | hq
      · exact (W.sub q (.tail _ hq)).1
      · obtain ⟨q', hq', rfl⟩ := List.mem_map.mp hq
        intro a ha
        rcases List.mem_append.mp ha with ha | ha
        · exact hsub a ha
        · rw [List.mem_singleton] at ha; subst ha; exact hown
    rcases List.mem_append.mp hp with hp | hp
    · exact hp' (W.sub p (.tail _ hp)).2 (hro p hp) hp
    · obtain ⟨p', hp'', rfl⟩ := List.mem_map.mp hp
      exact hf p' hp'' (hqs _ hin)
  · intro d hd
    rcases List.mem_append.mp hd with hd | hd
    · by_cases e : d = own
      · subst e; rw [s1, l1]; exact runLabs_nn _ _ (W.nn _ hown)
      · rw [s2 d hd e]; exact W.nn d hd
    · obtain ⟨p, hp, rfl⟩ := List.mem_map.mp hd
      rw [s3 p hp]
      exact (hsf p.2 (List.mem_map_of_mem (f := fun p : Addr × Sc × List T => p.2) hp)).1
  · intro p hp
    rcases List.mem_append.mp hp with hp | hp
    · exact W.rows p (.tail _ hp)
    · obtain ⟨q, hq, rfl⟩ := List.mem_map.mp hp
      exact (hsf q.2 (List.mem_map_of_mem (f := fun p : Addr × Sc × List T => p.2) hq)).2.2
  · rw [List.length_append]; lia
  · intro d hd
    rcases List.mem_append.mp hd with hd | hd
    · have hdn := W.names d hd
      by_cases e : d = own
      · subst e; rw [s1, l1]; have := W.names _ hown; lia
      · rw [s2 d hd e]; lia
    · obtain ⟨p, hp, rfl⟩ := List.mem_map.mp hd
      rw [s3 p hp]
      have := (hsf p.2 (List.mem_map_of_mem (f := fun p : Addr × Sc × List T => p.2) hp)).2.1
      lia
  · intro p hp
    rcases List.mem_append.mp hp with hp | hp
    · have := W.dep p (.tail _ hp); lia
    · obtain ⟨q, hq, rfl⟩ := List.mem_map.mp hp
      have := W.dep _ (.head _)
      have h1 : 0 < tn.length := List.length_pos_of_mem hq
      show (abv ++ [own]).length + _ ≤ 100
      rw [List.length_append, List.length_singleton]
      have h2 : abv.length + kap ((abv, own, row) :: rest) ≤ 100 := this
      lia
  · refine List.Perm.trans ?_ W.perm
    rw [List.map_cons, List.map_append (f := view σ'), List.map_map, hrev]
    have hr : rest.map (view σ') = rest.map (view σ) := by
      refine List.map_congr_left fun q hq => ?_
      obtain ⟨h1, h2⟩ := W.sub q (.tail _ hq)
      unfold view
      rw [s2 _ h2 (hro q hq)]
      rw [show q.1.map σ' = q.1.map σ from List.map_congr_left fun a ha => s2 a (h1 a ha) fun e => W.ap _ (.head _) q (.tail _ hq) (e ▸ ha)]
    have hn : tn.map (view σ' ∘ fun p => (abv ++ [own], p.1, p.2.2)) = (tn.map (·.2)).map fun p => (names :: (abv.map σ).reverse, p.1, p.2) := by
      rw [List.map_map]
      refine List.map_congr_left fun p hp => ?_
      show view σ' (abv ++ [own], p.1, p.2.2) = _
      unfold view
      simp only
      rw [hrev, s3 p hp]
      rfl
    rw [hr, hn]
    exact turn_perm w told (abv.map σ).reverse (σ own) row (rest.map (view σ)) told' names (tn.map (·.2)) h

noncomputable def upS (σ : Addr → Sc) (own : Addr) (names : Sc) (tn : List (Addr × Sc × List T)) (a : Addr) : Sc :=
  if a = own then names else ((tn.find? fun p => decide (p.1 = a)).map (·.2.1)).getD (σ a)
theorem upS_own {σ : Addr → Sc} {own : Addr} {names : Sc} {tn : List (Addr × Sc × List T)} : upS σ own names tn own = names := if_pos rfl
theorem upS_old {σ : Addr → Sc} {own : Addr} {names : Sc} {tn : List (Addr × Sc × List T)} {ds : List Addr} (hf : ∀ p ∈ tn, p.1 ∉ ds) : ∀ a ∈ ds, a ≠ own → upS σ own names tn a = σ a := by
  intro a ha hn
  unfold upS
  have h0 : tn.find? (fun p => decide (p.1 = a)) = none := List.find?_eq_none.mpr fun p hp e => hf p hp ((of_decide_eq_true e : p.1 = a) ▸ ha)
  rw [if_neg hn, h0]
  rfl
theorem upS_new {σ : Addr → Sc} {own : Addr} {names : Sc} {tn : List (Addr × Sc × List T)} (hd : (tn.map (·.1)).Nodup) (ho : ∀ p ∈ tn, p.1 ≠ own) : ∀ p ∈ tn, upS σ own names tn p.1 = p.2.1 := by
  intro p hp
  unfold upS
  rw [if_neg (ho p hp)]
  have : tn.find? (fun q => decide (q.1 = p.1)) = some p := by
    induction tn with
    | nil => cases hp
    | cons q tn ih =>
      rw [List.map_cons, List.nodup_cons] at hd
      rw [List.find?_cons]
      rcases List.mem_cons.mp hp with rfl | hp
      · simp
      · rw [show decide (q.1 = p.1) = false from decide_eq_false fun e => hd.1 (e ▸ List.mem_map_of_mem (f := fun p : Addr × Sc × List T => p.1) hp)]
        exact ih hd.2 (fun r hr => ho r (.tail _ hr)) hp
  rw [this]; rfl
end Mine
end

noncomputable section
open PySem PySem.W PyProof.Rows PySem.Calls PySem.Spec
set_option maxRecDepth 100000
set_option maxHeartbeats 4000000
namespace Mine
theorem all2_maps {α β γ : Type} {R : α → β → Prop} {f : γ → α} {g : γ → β} : ∀ {l : List γ}, (∀ a ∈ l, R (f a) (g a)) → All2 R (l.map f) (l.map g)
  | [], _ => .nil
  | a :: l, h => .cons (h a (.head _)) (all2_maps fun b hb => h b (.tail _ hb))
theorem All2.mapL {α β γ : Type} {R : α → β → Prop} {f : γ → α} {l : List γ} {bs : List β} (h : All2 (fun a b => R (f a) b) l bs) : All2 R (l.map f) bs := by
  induction h with
  | nil => exact .nil
  | cons h _ ih => exact .cons h ih
theorem All2.left {α β : Type} {R : α → β → Prop} {as : List α} {bs : List β} (h : All2 R as bs) : ∀ a ∈ as, ∃ b, b ∈ bs ∧ R a b := by
  induction h with
  | nil => intro a ha; cases ha
  | cons h _ ih =>
    intro a ha
    rcases List.mem_cons.mp ha with rfl | ha
    · exact ⟨_, .head _, h⟩
    · obtain ⟨b, hb, k⟩ := ih a ha
      exact ⟨b, .tail _ hb, k⟩
section
variable {C : Cx} {A : Around} {E : Value → Shared → Prop} {s : Shared} {I : Info} {G : Heap} {m : Str → Option Value} {env : Env} {fa : Nat → Addr} {led : List (Addr × Obj)}

theorem Ev.lenL {x : Expr} {a : Addr} {o : Obj} {vs : List Value} {p pos : Pos} (S : Stat C I.H) (O : Ok C fa) (hx : Ev C A env I m led x (Is (.ref a))) (hm : (a, o) ∈ led) (hl : LX o vs) (hz : vs.length ≤ 100000)
    (hE : EOk env I := by exact ⟨rfl, rfl, rfl, rfl⟩) (hl' : env.kindOf "len" = some .globalImplicit := by rfl)
    (he : starEach [x] env = (false, eval x env) :: starEach [] env := by rfl)
    (hc : eval (.Call (.Name "len" p) [x] [] pos) env = (do callWith pos (← eval (.Name "len" p) env) [] (backTo pos (starEach [x] env)) (backToKw pos (keywordEach [] env))) := by rfl) :
    Ev C A env I m led (.Call (.Name "len" p) [x] [] pos) (IsI vs.length) := fun s Q E X q => by
  refine ev_bf S (O.bi "len" (by decide)) boot_len X (fun s1 X => ?_) (by decide) hE hl' (by rfl) he (by rfl) hc
  refine spliced_more (hx _ _ _ X fun v s2 e2 X => ?_) he
  obtain rfl : v = .ref a := e2
  refine spliced_none (len_list (hl.isList (X.get hm)) (by simp; lia) ?_)
  rw [List.size_toArray]
  exact q _ _ ⟨_, rfl⟩ X.toks

inductive PendI (C : Cx) (G : Heap) (led : List (Addr × Obj)) (p : Pn) (v : Value) : Prop
  | mk (t la : Addr) (lao : Obj) (lr : Addr) (lro : Obj) (rvs : List Value) (h1 : v = .ref t) (h2 : IsTup G t [.ref la, .ref p.2.1, .ref lr].toArray) (h3 : (la, lao) ∈ led) (h4 : LX lao (p.1.map .ref)) (h5 : (lr, lro) ∈ led) (h6 : LX lro rvs) (h7 : All2 (Tree G) p.2.2 rvs) : PendI C G led p v
theorem PendI.mono {G' : Heap} {led' : List (Addr × Obj)} {p : Pn} {v : Value} (h : PendI C G led p v) (hG : TupLe G G') (hl : ∀ q ∈ led, (∃ vs, LX q.2 vs) → q ∈ led') : PendI C G' led' p v := by
  obtain ⟨t, la, lao, lr, lro, rvs, e, h1, h2, h3, h4, h5, h6⟩ := h
  exact ⟨t, la, lao, lr, lro, rvs, e, hG.tup h1, hl _ h2 ⟨_, h3⟩, h3, hl _ h4 ⟨_, h5⟩, h5, h6.mono fun _ _ z => Tree.le hG _ _ z⟩
noncomputable def LdAll (C : Cx) (led : List (Addr × Obj)) (σ : Addr → Sc) (ds : List Addr) : Prop := ∀ d ∈ ds, ∃ o, (d, o) ∈ led ∧ LD C o (σ d) ∧ (d == sysModules) = false
theorem LD.notL {o : Obj} {sc : Sc} {vs : List Value} (h : LD C o sc) : ¬ LX o vs := fun k => by
  obtain ⟨kvs, hd, _⟩ := h
  obtain ⟨_, _, hc, _⟩ := hd
  have e := hc.1.symm.trans k.lst.1
  simp at e

theorem due_loop {n : Nat} {f : Addr} {cdv : Value} {td wk : Addr} {to wo : Obj} {wvs : List Value} {told R : List Row} {w : Bool} {σ : Addr → Sc} {ds : List Addr} {pend : List Pn} {t0 : Tok} {Q : Flow → Shared → Prop} (O : Ok C fa) (SI : ∀ G, Stat C (I.on G).H) (hA : Am A (n + 3))
    (X : St (I.on G) m ((td, to) :: (wk, wo) :: led) s) (hto : Rw G told to) (hwk : LX wo wvs) (hnt : Nt led) (hW : Wk w σ ds told pend R) (hld : LdAll C led σ ds) (hp : All2 (PendI C G led) pend wvs) (hwz : wvs.length + kap pend ≤ 100)
    (k1 : m "told" = some (.ref td)) (k2 : m "work" = some (.ref wk)) (k3 : m "waits" = some (.bool w)) (k4 : m "step" = some (.int 0 t0))
    (q : ∀ G' m' s' to' led' told', TupLe G G' → St (I.on G') m' ((td, to') :: led') s' → Rw G' told' to' → told'.Perm R → m' "told" = some (.ref td) → Q .next s') :
    wpAny C.M A (exec (dueSt 4) (dueEnv I.L f cdv)) Q E s := by
  show wpAny C.M A (exec (.While _ _ _ _) _) Q E s
  refine wpAny_While (while' (fun n s => ∃ G' m' to wo led wvs σ ds told pend i ti, St (I.on G') m' ((td, to) :: (wk, wo) :: led) s ∧ n = pend.length + kap pend ∧ TupLe G G' ∧ Rw G' told to ∧ LX wo wvs ∧ Nt led ∧ Wk w σ ds told pend R ∧ LdAll C led σ ds ∧ i ≤ wvs.length ∧ All2 (PendI C G' led) pend (wvs.drop i) ∧ wvs.length + kap pend ≤ 100 ∧
    m' "told" = some (.ref td) ∧ m' "work" = some (.ref wk) ∧ m' "waits" = some (.bool w) ∧ m' "step" = some (.int (i : Nat) ti)) ?_ (pend.length + kap pend) ⟨G, m, to, wo, led, wvs, σ, ds, told, pend, 0, t0, X, rfl, TupLe.refl _, hto, hwk, hnt, hW, hld, Nat.zero_le _, hp, hwz, k1, k2, k3, k4⟩)
  clear X hto hwk hnt hW hld hp hwz k1 k2 k3 k4
  rintro BB k s2 ⟨G', m', to, wo, led, wvs, σ, ds, told, pend, i, ti, X, rfl, hle, hto, hwk, hnt, hW, hld, hi, hp, hwz, k1, k2, k3, k4⟩ hBB
  refine Tr.use (Tr.ltI (.locI k4) (.lenL (SI G') O (.loc k2) (.tail _ (.head _)) hwk (by lia))) X fun s3 X => ?_
  generalize hdv : wvs.drop i = dv at hp
  cases hp with
  | nil =>
    have : ¬ i < wvs.length := fun h => by rw [List.drop_eq_getElem_cons h] at hdv; cases hdv
    rw [if_neg (by simp; lia)]
    refine wpAny_execs_nil ?_
    refine q G' m' s3 to _ told hle X hto ?_ k1
    have := hW.perm
    simpa [pots] using this
  | @cons p v rest wr h1 h2 =>
    obtain ⟨abv, own, row⟩ := p
    have hlt : i < wvs.length := by
      rcases Nat.lt_or_ge i wvs.length with h | h
      · exact h
      · rw [List.drop_eq_nil_of_le h] at hdv; cases hdv
    rw [List.drop_eq_getElem_cons hlt] at hdv
    injection hdv with hv1 hv2
    rw [if_pos (by simp; lia)]
    obtain ⟨t, la, lao, lr, lro, rvs, rfl, hT, hla, hlaL, hlr, hlrL, htr⟩ := h1
    simp only at hT hlaL htr
    obtain ⟨hrl, hrok⟩ := hW.rows _ (.head _)
    simp only at hrl hrok
    have hsub := hW.sub _ (.head _)
    obtain ⟨do_, hdm, hdl, hds⟩ := hld own hsub.2
    have hkc := kap_cons (abv, own, row) rest
    simp only at hkc
    have hlen := hW.len
    have hnames := hW.names own hsub.2
    have hbl := hW.dep _ (.head _)
    simp only at hbl
    refine wpAny_execs_cons (Assign_Tuple ?_ (by rfl) (by rfl))
    refine Ev.useV (Ev.lst (v := .ref t) (.loc k2) (.locI k4) (.tail _ (.head _)) hwk.lst (by lia) (by lia) (by simp [hlt, hv1])) X fun s4 X => ?_
    refine three_targets X hA.hh hT (fun s5 X => ?_) ⟨rfl, rfl, rfl, rfl⟩
    refine wpAny_execs_cons (xSet (.add (.locI (by exact k4)) .cI) X fun v1 s6 e1 X => ?_)
    obtain ⟨t1, rfl⟩ := e1
    refine wpAny_execs_cons (wpAny_Assign_Name (wpAny_BinOp ?_) (by rfl))
    refine Ev.use (.loc (by rfl)) X fun v2 s7 e2 X => ?_
    obtain rfl := e2.symm
    refine ev_list (EvL.cons (.loc (by rfl)) .nil) X (fun vs h => by obtain ⟨_, _, rfl, _, rfl⟩ := h; simp) fun vs b1 b1o s8 h8 hb1 X => ?_
    obtain ⟨_, _, rfl, e8, rfl⟩ := h8
    obtain rfl := e8.symm
    refine add_two X (.tail _ (.tail _ (.tail _ hla))) (.head _) hlaL hb1 (by simp; lia) fun cl clo s9 hcl X => ?_
    refine store X.swapDrop fun s10 X => ?_
    have hcl' : LX clo ((abv ++ [own]).map .ref) := by rw [List.map_append]; exact hcl
    refine wpAny_execs_cons (wpAny_Assign_Name (ev_list EvL.nil X (fun vs h => by subst h; exact Nat.zero_le _) fun vs nd no s11 h11 hno X => store X fun s12 X => ?_) (by rfl))
    subst h11
    refine wpAny_execs_cons (wpAny_Assign_Name ?_ (by rfl))
    refine ev_bt (SI G') (O.bi "list" (by decide)) boot_list X fun s13 X => ?_
    refine spliced_more ?_
    refine ev_bt (SI G') (O.bi "reversed" (by decide)) boot_reversed X fun s14 X => ?_
    refine spliced_more (Ev.useV (.loc (by rfl)) X fun s15 X => ?_)
    refine spliced_none ?_
    have hrvl := htr.length
    refine wpAny_mono (list_rev X (.tail _ (.tail _ (.tail _ (.tail _ hlr)))) hlrL hA.hh (by lia) fun pl po s16 hpl X => ?_) (fun v s18 h => spliced_none h) fun _ _ z => z
    refine store X fun s17 X => ?_
    have hszs := szs_le' row hrok
    have hnl := nodesL_len row
    refine wpAny_execs_cons (pile_loop (n := n) (pts := row.reverse) (NS := nodesL row) O SI hA X hpl hno (by rfl) (by rfl) htr.rev (fun t ht => hrok t (List.mem_reverse.mp ht)) (by rw [szs_rev]; lia) (by rw [List.reverse_reverse]) (by lia) fun G1 m1 s18 no1 nvs hle1 X hno1 hnv hnok hk1 => ?_)
    obtain ⟨z1, z2, hz12⟩ := List.append_of_mem hdm
    subst hz12
    have p1 : m1 "told" = some (.ref td) := (hk1 _ (by decide) (by decide)).trans k1
    have p2 : m1 "work" = some (.ref wk) := (hk1 _ (by decide) (by decide)).trans k2
    have p3 : m1 "waits" = some (.bool w) := (hk1 _ (by decide) (by decide)).trans k3
    have p4 : m1 "step" = some (.int ((i : Nat) + 1) t1) := (hk1 _ (by decide) (by decide)).trans rfl
    have p5 : m1 "chain" = some (.ref cl) := (hk1 _ (by decide) (by decide)).trans rfl
    have p6 : m1 "nodes" = some (.ref nd) := (hk1 _ (by decide) (by decide)).trans rfl
    have p7 : m1 "names" = some (.ref own) := (hk1 _ (by decide) (by decide)).trans rfl
    replace X := X.perm (show List.Perm _ ((td, to) :: (wk, wo) :: (own, do_) :: ((nd, no1) :: (cl, clo) :: (z1 ++ z2))) from by
      refine (List.perm_append_comm (l₁ := [(nd, no1), (cl, clo)]) (l₂ := [(td, to), (wk, wo)])).append_right _ |>.trans (.cons _ (.cons _ ?_))
      exact List.perm_middle (l₁ := (nd, no1) :: (cl, clo) :: z1) (l₂ := z2) (a := (own, do_)))
    have hwvl := hwk.lst
    refine wpAny_execs_cons (fst_loop (n := n) (NS := nodesL row) (told := told) (names := σ own) (fz := (nd, no1) :: (cl, clo) :: (z1 ++ z2)) O SI hA X (hto.le hle1) hwk hdl hds (.head _) hno1 hnv hnok (by lia) p1 p2 p5 p6 p7 fun G2 m2 s19 to2 wo2 do2 nl nw tn htn htnd hle2 X hto2 hdl2 hwk2 hnw hnt2 hk2 => ?_)
    obtain ⟨⟨told', names', nw'⟩, hq⟩ : ∃ q, (nodesL row).foldl l1 (told, σ own, []) = q := ⟨_, rfl⟩
    rw [hq] at htn hto2 hdl2
    simp only at htn hto2 hdl2
    subst htn
    have hnwl := hnw.length
    have hdis : ∀ a ∈ (own :: (z1 ++ z2).map fun p : Addr × Obj => p.1), ∀ p ∈ nl, a ≠ p.1 := by
      have hd := X.nd
      rw [List.map_cons, List.nodup_cons, List.map_cons, List.nodup_cons] at hd
      have hd := hd.2.2
      have hd : (((own, do2) :: (nd, no1) :: (cl, clo) :: (z1 ++ z2)) ++ nl).map (fun p : Addr × Obj => p.1) |>.Nodup := hd
      rw [List.map_append, List.nodup_append] at hd
      intro a ha p hp
      refine hd.2.2 a ?_ p.1 (List.mem_map_of_mem (f := fun p : Addr × Obj => p.1) hp)
      rcases List.mem_cons.mp ha with rfl | ha
      · exact .head _
      · exact .tail _ (.tail _ (.tail _ ha))
    have hin : ∀ p ∈ tn, ∃ oo, (p.1, oo) ∈ nl ∧ LD C oo p.2.1 ∧ (p.1 == sysModules) = false := fun p hp => by
      obtain ⟨v, _, t, oo, _, _, _, _, _, h1, h2, h3, _⟩ := hnw.left p hp
      exact ⟨oo, h1, h2, h3⟩
    have hdsl : ∀ d ∈ ds, d ∈ own :: (z1 ++ z2).map fun p : Addr × Obj => p.1 := fun d hd => by
      obtain ⟨o, ho, _⟩ := hld d hd
      rcases List.mem_append.mp ho with ho | ho
      · exact .tail _ (List.mem_map_of_mem (f := fun p : Addr × Obj => p.1) (List.mem_append_left z2 ho))
      · rcases List.mem_cons.mp ho with e | ho
        · have e : d = own := congrArg Prod.fst e
          subst e; exact .head _
        · exact .tail _ (List.mem_map_of_mem (f := fun p : Addr × Obj => p.1) (List.mem_append_right z1 ho))
    have hf : ∀ p ∈ tn, p.1 ∉ ds := fun p hp hd => by
      obtain ⟨oo, h1, _⟩ := hin p hp
      exact hdis _ (hdsl _ hd) _ h1 rfl
    have hfo : ∀ p ∈ tn, p.1 ≠ own := fun p hp e => hf p hp (e ▸ hsub.2)
    obtain ⟨hW2, hl2, hk3, htl⟩ := hW.turn (σ' := upS σ own names' tn) hq htnd hf upS_own (upS_old hf) (upS_new htnd hfo)
    have hld2 : LdAll C ((wk, wo2) :: (own, do2) :: ((nd, no1) :: (cl, clo) :: (z1 ++ z2) ++ nl)) (upS σ own names' tn) (ds ++ tn.map (·.1)) := by
      intro d hd
      rcases List.mem_append.mp hd with hd | hd
      · by_cases e : d = own
        · subst e
          exact ⟨do2, .tail _ (.head _), by rw [upS_own]; exact hdl2, hds⟩
        · obtain ⟨o, ho, hl, hs⟩ := hld d hd
          refine ⟨o, .tail _ (.tail _ (List.mem_append_left _ (.tail _ (.tail _ ?_)))), by rw [upS_old hf d hd e]; exact hl, hs⟩
          rcases List.mem_append.mp ho with ho | ho
          · exact List.mem_append_left _ ho
          · rcases List.mem_cons.mp ho with e2 | ho
            · exact absurd (congrArg Prod.fst e2) e
            · exact List.mem_append_right _ ho
      · obtain ⟨p, hp, rfl⟩ := List.mem_map.mp hd
        obtain ⟨oo, h1, h2, h3⟩ := hin p hp
        exact ⟨oo, .tail _ (.tail _ (List.mem_append_right _ h1)), by rw [upS_new htnd hfo p hp]; exact h2, h3⟩
    have hab : ∀ a ∈ abv ++ [own], a ∈ ds := fun a ha => by
      rcases List.mem_append.mp ha with ha | ha
      · exact hsub.1 a ha
      · rw [List.mem_singleton] at ha; subst ha; exact hsub.2
    have hntz : Nt (z1 ++ (own, do_) :: z2) := hnt
    have hnt3 : Nt ((own, do2) :: ((nd, no1) :: (cl, clo) :: (z1 ++ z2) ++ nl)) := fun q hq => by
      rcases List.mem_cons.mp hq with rfl | hq
      · exact hdl2.not
      · rcases List.mem_append.mp hq with hq | hq
        · rcases List.mem_cons.mp hq with rfl | hq
          · exact hno1.not
          · rcases List.mem_cons.mp hq with rfl | hq
            · exact hcl'.not
            · rcases List.mem_append.mp hq with hq | hq
              · exact hntz q (List.mem_append_left _ hq)
              · exact hntz q (List.mem_append_right _ (.tail _ hq))
        · exact hnt2 q hq
    refine last (sec_loop (n := n) (fz := (wk, wo2) :: (own, do2) :: ((nd, no1) :: (cl, clo) :: (z1 ++ z2) ++ nl)) (scs := (abv ++ [own]).map (upS σ own names' tn)) (w := w) O SI hA X hto2 (.tail _ (.tail _ (.head _))) hno1 (.tail _ (.tail _ (.tail _ (.head _)))) hcl' (all2_maps fun a ha => ?_) (fun sc hsc => ?_) (fun q hq => ?_) (hnv.mono fun _ _ z => Tree.le hle2 _ _ z) hnok (by lia)
      ((hk2 _ (by decide)).trans p1) ((hk2 _ (by decide)).trans p3) ((hk2 _ (by decide)).trans p5) ((hk2 _ (by decide)).trans p6) fun G3 m3 s20 to3 hle3 X hto3 hk4 => ?_)
    · obtain ⟨o, h1, h2, h3⟩ := hld2 a (List.mem_append_left _ (hab a ha))
      exact ⟨a, o, rfl, h1, h2, h3⟩
    · obtain ⟨a, ha, rfl⟩ := List.mem_map.mp hsc
      exact hW2.nn a (List.mem_append_left _ (hab a ha))
    · rcases List.mem_cons.mp hq with rfl | hq
      · exact hwk2.not
      · exact hnt3 q hq
    · have hle13 : TupLe G' G3 := (hle1.trans hle2).trans hle3
      refine hBB _ ⟨(rest ++ tn.map fun p => ((abv ++ [own], p.1, p.2.2) : Pn)).length + kap (rest ++ tn.map fun p => ((abv ++ [own], p.1, p.2.2) : Pn)), ?_, G3, m3, to3, wo2, _, wvs ++ nw, _, _, _, _, i + 1, t1, X, rfl, hle.trans hle13, hto3, hwk2, hnt3, hW2, fun d hd => ?_, by rw [List.length_append]; lia, ?_, ?_, ?_, ?_, ?_, ?_⟩
      · rw [List.length_append, List.length_map, List.length_cons]; lia
      · obtain ⟨o, h1, h2, h3⟩ := hld2 d hd
        rcases List.mem_cons.mp h1 with e | h1
        · cases e; exact absurd hwk2 h2.notL
        · exact ⟨o, h1, h2, h3⟩
      · rw [List.drop_append_of_le_length (by lia), hv2]
        refine All2.append (h2.mono fun p v z => z.mono hle13 fun q hq hx => ?_) (All2.mapL (hnw.mono fun p v z => ?_))
        · refine .tail _ (List.mem_append_left _ (.tail _ (.tail _ ?_)))
          rcases List.mem_append.mp hq with hq | hq
          · exact List.mem_append_left _ hq
          · rcases List.mem_cons.mp hq with rfl | hq
            · obtain ⟨vs, hx⟩ := hx; exact absurd hx hdl.notL
            · exact List.mem_append_right _ hq
        · obtain ⟨t, oo, lr, lro, rvs, e, h1, h2, h3, h4, h5, h6, h7⟩ := z
          exact ⟨t, cl, clo, lr, lro, rvs, e, hle3.tup h1, .tail _ (List.mem_append_left _ (.tail _ (.head _))), hcl', .tail _ (List.mem_append_right _ h5), h6, h7.mono fun _ _ z => Tree.le hle3 _ _ z⟩
      · rw [List.length_append]; lia
      · exact (hk4 _ (by decide) (by decide)).trans ((hk2 _ (by decide)).trans p1)
      · exact (hk4 _ (by decide) (by decide)).trans ((hk2 _ (by decide)).trans p2)
      · exact (hk4 _ (by decide) (by decide)).trans ((hk2 _ (by decide)).trans p3)
      · exact (hk4 _ (by decide) (by decide)).trans ((hk2 _ (by decide)).trans p4)
end
end Mine
end

noncomputable section
open PySem PySem.W PyProof.Rows PySem.Calls PySem.Spec
set_option maxRecDepth 100000
set_option maxHeartbeats 4000000
namespace Mine
section
variable {C : Cx} {A : Around} {E : Value → Shared → Prop} {s : Shared} {I : Info} {G : Heap} {m : Str → Option Value} {env : Env} {fa : Nat → Addr} {led : List (Addr × Obj)}

theorem due_spec {n : Nat} {tr : T} {v : Value} {w : Bool} {Q : Value → Shared → Prop} (O : Ok C fa) (hA : Am A (n + 4)) (P : Pre C.B s.heap []) (hv : Tree s.heap tr v) (hok : ∃ d, tr.ok d) (hcn : tr.cnt ≤ 60)
    (q : ∀ a o rows s', Rw s'.heap rows o → rows.Perm (pot w [] firstSc [tr]) → s'.heap.get? a = some o → s.heap.get? a = none → Post [] s s' → Q (.ref a) s') : wpAny C.M A (call (.ref (fa 39)) [v, .bool w]) Q E s := by
  refine go (st := stAt 39) rfl hA O.S (O.fn 39 (by decide)) P fun I s1 cdv A' hA' hH hG hz SI X => ?_
  rw [← hG] at hv
  have SI : ∀ G, Stat C (I.on G).H := fun _ => SI
  refine wpAny_execs_cons (wpAny_Assign_Name ?_ (by rfl))
  refine ev_list EvL.nil X (fun vs h => by subst h; exact Nat.zero_le _) fun vs td to s2 h2 hto X => store X fun s3 X => ?_
  subst h2
  refine wpAny_execs_cons ?_
  refine wpAny_Assign_Name ?_ ?_
  rotate_left
  · rfl
  refine ev_dict (SI I.G) X ?_
  intro d od s4 hd hsm X
  refine evalPairs_cons (Ev.use .cS X fun v1 s5 e1 X => wpAny_bind (Ev.use .cS X fun v2 s6 e2 X => wpAny_bind (wpAny_standAt (wpAny_pure ?_))))
  refine evalPairs_cons (Ev.use .cS X fun v3 s5 e3 X => wpAny_bind (Ev.use .cS X fun v4 s6 e4 X => wpAny_bind (wpAny_standAt (wpAny_pure ?_))))
  refine evalPairs_cons (Ev.use .cS X fun v5 s5 e5 X => wpAny_bind (Ev.use .cS X fun v6 s6 e6 X => wpAny_bind (wpAny_standAt (wpAny_pure ?_))))
  refine evalPairs_cons (Ev.use .cS X fun v7 s5 e7 X => wpAny_bind (Ev.use .cS X fun v8 s6 e8 X => wpAny_bind (wpAny_standAt (wpAny_pure ?_))))
  refine evalPairs_nil ?_
  obtain ⟨t1, rfl⟩ := e1; obtain ⟨t2, rfl⟩ := e2; obtain ⟨t3, rfl⟩ := e3; obtain ⟨t4, rfl⟩ := e4; obtain ⟨t5, rfl⟩ := e5; obtain ⟨t6, rfl⟩ := e6; obtain ⟨t7, rfl⟩ := e7; obtain ⟨t8, rfl⟩ := e8
  refine ⟨rfl, _, X, fun od s7 hd X => store X fun s8 X => ?_⟩
  have hld : LD C od firstSc := ⟨_, hd, .cons ⟨rfl, _, rfl⟩ (.cons ⟨rfl, _, rfl⟩ (.cons ⟨rfl, _, rfl⟩ (.cons ⟨rfl, _, rfl⟩ .nil)))⟩
  clear hd
  refine wpAny_execs_cons (wpAny_Assign_Name ?_ (by rfl))
  refine List_ (spliced_more (Tuple_ (spliced_more ?_)))
  refine ev_list EvL.nil X (fun vs h => by subst h; exact Nat.zero_le _) fun vs l0 l0o s9 h9 hl0 X => ?_
  subst h9
  refine spliced_more (Ev.useV (.loc rfl) X fun s10 X => ?_)
  refine spliced_more ?_
  refine ev_list (EvL.cons (.loc rfl) .nil) X (fun vs h => by obtain ⟨_, _, rfl, _, rfl⟩ := h; simp) fun vs l1 l1o s11 h11 hl1 X => ?_
  obtain ⟨_, _, rfl, e11, rfl⟩ := h11
  obtain rfl := e11.symm
  refine spliced_none (new_tuple X (by simp) fun it0 s12 X _ => ?_)
  have hit := IsTup.of_St X (.head _)
  have hle := X.tup
  replace X := X.rebase.drop
  refine spliced_none (new_list X (by simp) fun wk wo s13 hwk X => store X fun s14 X => ?_)
  refine wpAny_execs_cons (xSet .cI X fun v12 s15 e12 X => ?_)
  obtain ⟨u12, rfl⟩ := e12
  have X : St (I.on s12.heap) _ _ _ := X.up4
  have htr : All2 (Tree s12.heap) [tr] [v] := .cons (Tree.le hle _ _ hv) .nil
  have hnt : Nt [(l1, l1o), (l0, l0o), (d, od)] := fun q hq => by
    rcases List.mem_cons.mp hq with rfl | hq
    · exact hl1.not
    · rcases List.mem_cons.mp hq with rfl | hq
      · exact hl0.not
      · rw [List.mem_singleton] at hq; subst hq; exact hld.not
  have hpi : PendI C s12.heap [(l1, l1o), (l0, l0o), (d, od)] (([], d, [tr]) : Pn) (.ref it0) := ⟨it0, l0, l0o, l1, l1o, [v], rfl, hit, .tail _ (.head _), hl0, .head _, hl1, htr⟩
  have hkap : kap [(([], d, [tr]) : Pn)] = tr.cnt := by simp [kap, T.cnts]
  have hW : Wk w (fun _ => firstSc) [d] [] [(([], d, [tr]) : Pn)] (pot w [] firstSc [tr]) := by
    refine ⟨?_, by simp, ?_, ?_, ?_, by rw [hkap]; simp; lia, fun _ _ => by rw [hkap]; show 4 + _ ≤ _; lia, fun p hp => ?_, ?_⟩
    · intro p hp
      rw [List.mem_singleton] at hp; subst hp
      exact ⟨fun a ha => by (cases ha), .head _⟩
    · intro p hp q hq
      rw [List.mem_singleton] at hq; subst hq
      simp
    · intro _ _ p hp
      simp only [firstSc, List.mem_cons, List.not_mem_nil, or_false] at hp
      rcases hp with rfl | rfl | rfl | rfl <;> decide
    · intro p hp
      rw [List.mem_singleton] at hp; subst hp
      refine ⟨by simp, fun t ht => ?_⟩
      rw [List.mem_singleton] at ht; subst ht; exact hok
    · rw [List.mem_singleton] at hp; subst hp
      rw [hkap]; show 0 + _ ≤ _; lia
    · simp [pots, view]
  refine wpAny_execs_cons (due_loop (n := n) (σ := fun _ => firstSc) (ds := [d]) (pend := [(([], d, [tr]) : Pn)]) O SI hA' X ⟨[], hto, .nil⟩ hwk hnt hW (fun a ha => ?_) (.cons hpi .nil) (by rw [hkap]; simp; lia) (by rfl) (by rfl) (by rfl) (by rfl) fun G' m' s16 to2 led' told' hle2 X hto2 hperm k1 => ?_)
  · rw [List.mem_singleton] at ha; subst ha
    exact ⟨od, .tail _ (.tail _ (.head _)), hld, hsm⟩
  refine last (xRet (.loc (by exact k1)) X fun v1 s17 e1 X => ?_)
  obtain rfl := e1.symm
  exact q td to2 told' s17 (hto2.le X.tup) hperm (X.get (.head _)) (fresh_of X hH (.head _) (by simp)) (leaveF (l1 := []) (l1' := []) (fz := []) (X.sub (List.nil_sublist _)) P hH (hG ▸ hle.trans hle2) hz)
end
end Mine
end

noncomputable section
open PySem PySem.W PyProof.Rows PySem.Calls PySem.Spec
set_option maxRecDepth 100000
namespace Mine

noncomputable def KW {α : Type} (lt : Nat → Nat → Bool) (n : Nat) : KasT α → (α → Prop) → Prop
  | .ret a, Q => Q a
  | .ask i j k, Q => i < n ∧ j < n ∧ KW lt n (k (lt i j)) Q
theorem KW_bind {α β : Type} {lt : Nat → Nat → Bool} {n : Nat} {f : α → KasT β} {Q : β → Prop} : ∀ (t : KasT α), KW lt n t (fun a => KW lt n (f a) Q) → KW lt n (t.bind f) Q
  | .ret a, h => h
  | .ask i j k, h => ⟨h.1, h.2.1, KW_bind (k (lt i j)) h.2.2⟩
theorem KW_mono {α : Type} {lt : Nat → Nat → Bool} {n : Nat} {Q Q' : α → Prop} (hq : ∀ a, Q a → Q' a) : ∀ (t : KasT α), KW lt n t Q → KW lt n t Q'
  | .ret a, h => hq a h
  | .ask i j k, h => ⟨h.1, h.2.1, KW_mono hq (k (lt i j)) h.2.2⟩
theorem KW_wp {α : Type} {lt : Nat → Nat → Bool} {n : Nat} {cmp : Nat → Nat → (Bool → Shared → Prop) → Shared → Prop} {Inv : Shared → Prop} {Q : α → Shared → Prop} {P : α → Prop}
    (hc : ∀ i j (D : Bool → Shared → Prop) s, i < n → j < n → Inv s → (∀ s', Inv s' → D (lt i j) s') → cmp i j D s) (hQ : ∀ a s, P a → Inv s → Q a s) : ∀ (t : KasT α) (s : Shared), KW lt n t P → Inv s → t.kasWp cmp Q s
  | .ret a, s, h, hi => hQ a s h hi
  | .ask i j k, s, h, hi => hc i j _ s h.1 h.2.1 hi fun s' hi' => KW_wp hc hQ (k (lt i j)) s' h.2.2 hi'

section
variable {O : KeyOrd} {key : Nat → O.α} {n : Nat}
noncomputable def kk (key : Nat → O.α) (p : Array Nat) (i : Nat) : O.α := key (p.getD i 0)
noncomputable def Bs (n : Nat) (p : Array Nat) : Prop := p.Perm (List.range n).toArray
noncomputable def So (key : Nat → O.α) (p : Array Nat) (k : Nat) : Prop := ∀ i j, i ≤ j → j < k → O.kle (kk key p i) (kk key p j)
noncomputable def Ni (key : Nat → O.α) (p : Array Nat) (k : Nat) : Prop := ∀ i j, i ≤ j → j < k → O.kle (kk key p j) (kk key p i)
abbrev ltK (key : Nat → O.α) (i j : Nat) : Bool := O.blt (key i) (key j)
theorem Bs.size {p : Array Nat} (h : Bs n p) : p.size = n := by have := h.size_eq; simpa using this
theorem getD_of {p : Array Nat} {i : Nat} : p.getD i 0 = (p[i]?).getD 0 := by
  rw [Array.getD_eq_getD_getElem?]
theorem Bs.lt {p : Array Nat} (h : Bs n p) (hn : 0 < n) (i : Nat) : p.getD i 0 < n := by
  rw [getD_of]
  by_cases hi : i < p.size
  · rw [getElem?_pos p i hi]
    have hm : p[i] ∈ p.toList := by simp
    have := (Array.perm_iff_toList_perm.mp h).mem_iff.mp hm
    simpa using this
  · rw [getElem?_neg p i hi]; exact hn
theorem kk_congr {p q : Array Nat} {i j : Nat} (h : p[i]? = q[j]?) : kk key p i = kk key q j := by unfold kk; rw [getD_of, getD_of, h]
theorem kk_bubble {xs : Array Nat} {src d : Nat} (hs : src < xs.size) (hd : d ≤ src) (k : Nat) :
    kk key (bubble xs src d) k = if k = src - d then kk key xs src else if src - d < k ∧ k ≤ src then kk key xs (k - 1) else kk key xs k := by
  have e := getElem?_bubble hs d hd k
  by_cases h1 : k = src - d
  · rw [if_pos h1] at e ⊢; exact kk_congr e
  · rw [if_neg h1] at e ⊢
    by_cases h2 : src - d < k ∧ k ≤ src
    · rw [if_pos h2] at e ⊢; exact kk_congr e
    · rw [if_neg h2] at e ⊢; exact kk_congr e
theorem kk_mirror {xs : Array Nat} {i j : Nat} (hj : j ≤ xs.size) (k : Nat) :
    kk key (kas_rev xs i j) k = if i ≤ k ∧ k < j then kk key xs (i + j - 1 - k) else kk key xs k := by
  have e := getElem?_mirror_all (i := i) hj k
  by_cases h1 : i ≤ k ∧ k < j
  · rw [if_pos h1] at e ⊢; exact kk_congr e
  · rw [if_neg h1] at e ⊢; exact kk_congr e
theorem kk_mirror_equal {xs : Array Nat} {i j : Nat} (hj : j ≤ xs.size) (heq : ∀ k, i ≤ k → k < j → kk key xs k = kk key xs (j - 1)) (k : Nat) :
    kk key (kas_rev xs i j) k = kk key xs k := by
  rw [kk_mirror hj]
  split
  · rw [heq _ (by lia) (by lia), heq k (by lia) (by lia)]
  · rfl
theorem Bs.rev {p : Array Nat} (h : Bs n p) (i j : Nat) : Bs n (kas_rev p i j) := (mirror_perm _ _ _ _).trans h
theorem Bs.bub {p : Array Nat} (h : Bs n p) (i j : Nat) : Bs n (bubble p i j) := (bubble_perm _ _ _).trans h

theorem KW_asc {p : Array Nat} {nrem : Nat} (hn0 : 0 < n) (hn : nrem ≤ n) (hB : Bs n p) {Q : Nat → Prop} : ∀ (f a : Nat), a + f = nrem → 1 ≤ a → So key p a →
    (∀ m, a ≤ m → m ≤ nrem → So key p m → (m = nrem ∨ O.klt (kk key p m) (kk key p (m - 1))) → Q m) → KW (ltK key) n (kas_asc p f a) Q
  | 0, a, hf, ha, hs, h => h a (Nat.le_refl _) (by lia) hs (.inl (by lia))
  | f + 1, a, hf, ha, hs, h => by
    refine ⟨hB.lt hn0 _, hB.lt hn0 _, ?_⟩
    show KW _ _ (if O.blt (kk key p a) (kk key p (a - 1)) = true then _ else _) _
    cases hless : O.blt (kk key p a) (kk key p (a - 1)) with
    | true => rw [if_pos rfl]; exact h a (Nat.le_refl _) (by lia) hs (.inr hless)
    | false =>
      rw [if_neg (by simp)]
      refine KW_asc hn0 hn hB f (a + 1) (by lia) (by lia) (fun i j hij hj => ?_) fun m h1 h2 => h m (by lia) h2
      by_cases hjx : j < a
      · exact hs i j hij hjx
      · have hj' : j = a := by lia
        subst hj'
        by_cases hi' : i = j
        · subst hi'; exact KeyOrd.kle_refl _
        · exact KeyOrd.kle_trans (hs i (j - 1) (by lia) (by lia)) hless
theorem KW_tail3 {p : Array Nat} {m nrem : Nat} (hn0 : 0 < n) (hn : nrem ≤ n) (hB : Bs n p) (h1 : 1 ≤ m) (hm : m ≤ nrem) (hs : Ni key p m) {Q : Nat × Array Nat → Prop}
    (h : ∀ k q, Bs n q → 1 ≤ k → k ≤ nrem → So key q k → Q (k, q)) : KW (ltK key) n (kas_tail3 m nrem p) Q := by
  unfold kas_tail3
  have hsz : m ≤ p.size := by rw [hB.size]; lia
  refine KW_bind _ (KW_asc hn0 hn (hB.rev 0 m) _ _ (by lia) h1 ?_ fun k hk1 hk2 hs _ => h k _ (hB.rev 0 m) (by lia) hk2 hs)
  intro i j hij hj
  rw [kk_mirror hsz, kk_mirror hsz, if_pos (by lia), if_pos (by lia)]
  exact hs _ _ (by lia) (by lia)
theorem KW_desc {nrem : Nat} (hn0 : 0 < n) (hn : nrem ≤ n) {Q : Array Nat × Nat × Nat → Prop} : ∀ (f x q : Nat) (p : Array Nat), x + f = nrem → 1 ≤ x → Bs n p → Ni key p x → q + 1 ≤ x → (∀ i, x - (q + 1) ≤ i → i < x → kk key p i = kk key p (x - 1)) →
    (∀ p' m q', Bs n p' → x ≤ m → m ≤ nrem → Ni key p' m → q' + 1 ≤ m → (∀ i, m - (q' + 1) ≤ i → i < m → kk key p' i = kk key p' (m - 1)) → Q (p', m, q')) → KW (ltK key) n (kas_desc f p x q) Q
  | 0, x, q, p, hf, hx, hB, hs, hq, he, h => h p x q hB (Nat.le_refl _) (by lia) hs hq he
  | f + 1, x, q, p, hf, hx, hB, hs, hq, he, h => by
    have hsz : x ≤ p.size := by rw [hB.size]; lia
    refine ⟨hB.lt hn0 _, hB.lt hn0 _, ?_⟩
    show KW _ _ (if O.blt (kk key p x) (kk key p (x - 1)) = true then _ else _) _
    cases hless : O.blt (kk key p x) (kk key p (x - 1)) with
    | true =>
      rw [if_pos rfl]
      have step1 : ∀ xs : Array Nat, (∀ k, kk key xs k = kk key p k) → Ni key xs (x + 1) := by
        intro xs hk i j hij hj
        rw [hk, hk]
        by_cases hjx : j < x
        · exact hs i j hij hjx
        · have hj' : j = x := by lia
          subst hj'
          by_cases hi' : i = j
          · subst hi'; exact KeyOrd.kle_refl _
          · exact KeyOrd.kle_trans (KeyOrd.kle_of_klt hless) (hs i (j - 1) (by lia) (by lia))
      by_cases hneq : q > 0
      · rw [if_pos hneq]
        exact KW_desc hn0 hn f (x + 1) 0 _ (by lia) (by lia) (hB.rev _ _) (step1 _ (kk_mirror_equal hsz he)) (by lia) (fun i h1 h2 => by congr 1; lia) fun p' m q' h1 h2 => h p' m q' h1 (by lia)
      · rw [if_neg hneq]
        exact KW_desc hn0 hn f (x + 1) 0 _ (by lia) (by lia) hB (step1 _ fun _ => rfl) (by lia) (fun i h1 h2 => by congr 1; lia) fun p' m q' h1 h2 => h p' m q' h1 (by lia)
    | false =>
      rw [if_neg (by simp)]
      refine ⟨hB.lt hn0 _, hB.lt hn0 _, ?_⟩
      show KW _ _ (if O.blt (kk key p (x - 1)) (kk key p x) = true then _ else _) _
      cases hlarger : O.blt (kk key p (x - 1)) (kk key p x) with
      | true => rw [if_pos rfl]; exact h p x q hB (Nat.le_refl _) (by lia) hs hq he
      | false =>
        rw [if_neg (by simp)]
        have heqx : kk key p x = kk key p (x - 1) := KeyOrd.kle_antisymm hlarger hless
        refine KW_desc hn0 hn f (x + 1) (q + 1) p (by lia) (by lia) hB (fun i j hij hj => ?_) (by lia) (fun i h1 h2 => ?_) fun p' m q' h1 h2 => h p' m q' h1 (by lia)
        · by_cases hjx : j < x
          · exact hs i j hij hjx
          · have hj' : j = x := by lia
            subst hj'
            by_cases hi' : i = j
            · subst hi'; exact KeyOrd.kle_refl _
            · rw [heqx]; exact hs i (j - 1) (by lia) (by lia)
        · rw [show x + 1 - 1 = x by lia]
          by_cases hix : i = x
          · subst hix; rfl
          · rw [heqx]; exact he i (by lia) (by lia)
theorem KW_descPart {p : Array Nat} {m nrem : Nat} (hn0 : 0 < n) (hn : nrem ≤ n) (hB : Bs n p) (hm : m + 1 ≤ nrem) (hs : Ni key p (m + 1)) {Q : Nat × Array Nat → Prop}
    (h : ∀ k q, Bs n q → 1 ≤ k → k ≤ nrem → So key q k → Q (k, q)) : KW (ltK key) n (kas_descPart m nrem p) Q := by
  unfold kas_descPart
  refine KW_bind _ (KW_desc hn0 hn _ _ 0 p (by lia) (by lia) hB hs (by lia) (fun i h1 h2 => by congr 1; lia) fun p' m' q' hB' h1 h2 hs' hq he => ?_)
  dsimp only
  have hsz : m' ≤ p'.size := by rw [hB'.size]; lia
  by_cases hneq : q' > 0
  · rw [if_pos hneq]
    refine KW_tail3 hn0 hn (hB'.rev _ _) (by lia) h2 (fun i j hij hj => ?_) h
    rw [kk_mirror_equal hsz he, kk_mirror_equal hsz he]
    exact hs' i j hij hj
  · rw [if_neg hneq]
    exact KW_tail3 hn0 hn hB' (by lia) h2 hs' h
theorem KW_count {p : Array Nat} {nrem : Nat} (hn0 : 0 < n) (hn : nrem ≤ n) (h1 : 1 ≤ nrem) (hB : Bs n p) {Q : Nat × Array Nat → Prop}
    (h : ∀ k q, Bs n q → 1 ≤ k → k ≤ nrem → So key q k → Q (k, q)) : KW (ltK key) n (kas_count nrem p) Q := by
  unfold kas_count
  refine KW_bind _ (KW_asc hn0 hn hB _ 1 (by lia) (by lia) (fun i j hij hj => by have : i = j := (by lia); subst this; exact KeyOrd.kle_refl _) fun m hm1 hm2 hsm hor => ?_)
  by_cases hnn : m = nrem
  · rw [if_pos (by simpa using hnn)]
    exact h m p hB hm1 hm2 hsm
  · rw [if_neg (by simpa using hnn)]
    have hlt : O.klt (kk key p m) (kk key p (m - 1)) := hor.resolve_left hnn
    have ext : ∀ xs : Array Nat, (∀ k, kk key xs k = kk key p k) → (∀ k, k < m → kk key p k = kk key p (m - 1)) → Ni key xs (m + 1) := by
      intro xs hx hall i j hij hj
      rw [hx, hx]
      by_cases hjn : j < m
      · rw [hall i (by lia), hall j hjn]; exact KeyOrd.kle_refl _
      · have : j = m := by lia
        subst this
        by_cases hi' : i = j
        · subst hi'; exact KeyOrd.kle_refl _
        · rw [hall i (by lia)]; exact KeyOrd.kle_of_klt hlt
    by_cases hgt : m > 1
    · rw [if_pos hgt]
      refine ⟨hB.lt hn0 _, hB.lt hn0 _, ?_⟩
      show KW _ _ (if O.blt (kk key p 0) (kk key p (m - 1)) = true then _ else _) _
      cases hrose : O.blt (kk key p 0) (kk key p (m - 1)) with
      | true => rw [if_pos rfl]; exact h m p hB hm1 hm2 hsm
      | false =>
        rw [if_neg (by simp)]
        have hsz : m ≤ p.size := by rw [hB.size]; lia
        have hall : ∀ k, k < m → kk key p k = kk key p (m - 1) := by
          intro k hk
          have a1 := hsm 0 k (by lia) hk
          have a2 := hsm k (m - 1) (by lia) (by lia)
          exact KeyOrd.kle_antisymm a2 (KeyOrd.kle_trans hrose a1)
        exact KW_descPart hn0 hn (hB.rev _ _) (by lia) (ext _ (kk_mirror_equal hsz fun k _ hk => hall k hk) hall) h
    · rw [if_neg hgt]
      have hm : m = 1 := by lia
      exact KW_descPart hn0 hn hB (by lia) (ext _ (fun _ => rfl) fun k hk => by congr 1; lia) h
theorem KW_place {p : Array Nat} {k : Nat} (hn0 : 0 < n) (hB : Bs n p) (hs : So key p k) {Q : Nat → Prop} : ∀ (f l r : Nat), l ≤ r → r ≤ k → r - l ≤ f → (∀ i, i < l → O.kle (kk key p i) (kk key p k)) → (∀ i, r ≤ i → i < k → O.klt (kk key p k) (kk key p i)) →
    (∀ l, l ≤ k → (∀ i, i < l → O.kle (kk key p i) (kk key p k)) → (∀ i, l ≤ i → i < k → O.klt (kk key p k) (kk key p i)) → Q l) → KW (ltK key) n (kas_place p k f l r) Q
  | 0, l, r, h1, h2, h3, hlo, hhi, h => by
    have : l = r := by lia
    subst this
    exact h l h2 hlo hhi
  | f + 1, l, r, h1, h2, h3, hlo, hhi, h => by
    show KW _ _ (if l ≥ r then .ret l else _) _
    by_cases hge : l ≥ r
    · rw [if_pos hge]
      have : l = r := by lia
      subst this
      exact h l h2 hlo hhi
    · rw [if_neg hge]
      refine ⟨hB.lt hn0 _, hB.lt hn0 _, ?_⟩
      show KW _ _ (if O.blt (kk key p k) (kk key p ((l + r) / 2)) = true then _ else _) _
      cases hless : O.blt (kk key p k) (kk key p ((l + r) / 2)) with
      | true =>
        rw [if_pos rfl]
        exact KW_place hn0 hB hs f l ((l + r) / 2) (by lia) (by lia) (by lia) hlo (fun i h1 h2 => KeyOrd.klt_of_klt_of_kle hless (hs _ _ h1 h2)) h
      | false =>
        rw [if_neg (by simp)]
        exact KW_place hn0 hB hs f ((l + r) / 2 + 1) r (by lia) (by lia) (by lia) (fun i h1 => KeyOrd.kle_trans (hs i ((l + r) / 2) (by lia) (by lia)) hless) hhi h
theorem KW_bin (hn0 : 0 < n) {Q : Array Nat → Prop} : ∀ (f k : Nat) (p : Array Nat), k + f = n → Bs n p → So key p k → (∀ p, Bs n p → So key p n → Q p) → KW (ltK key) n (kas_bin f p k) Q
  | 0, k, p, hf, hB, hs, h => h p hB ((show k = n by lia) ▸ hs)
  | f + 1, k, p, hf, hB, hs, h => by
    refine KW_bind _ (KW_place hn0 hB hs k 0 k (by lia) (by lia) (by lia) (fun i hi => by lia) (fun i h1 h2 => by lia) fun l hlk hlo hhi => ?_)
    refine KW_bin hn0 f (k + 1) _ (by lia) (hB.bub _ _) ?_ h
    have hks : k < p.size := by rw [hB.size]; lia
    intro i j hij hj
    rw [kk_bubble hks (by lia), kk_bubble hks (by lia), show k - (k - l) = l by lia]
    repeat' split
    all_goals first
      | (exfalso; lia)
      | exact KeyOrd.kle_refl _
      | exact KeyOrd.kle_of_klt (hhi _ (by lia) (by lia))
      | exact hlo _ (by lia)
      | exact hs _ _ (by lia) (by lia)
theorem KW_sort (hn0 : 0 < n) {Q : Array Nat → Prop} (h : ∀ p, Bs n p → So key p n → Q p) : KW (ltK key) n (kas_sort n) Q := by
  unfold kas_sort
  refine KW_bind _ (KW_count hn0 (Nat.le_refl _) hn0 (.refl _) fun k q hB h1 h2 hs => ?_)
  dsimp only
  by_cases hlt : k < n
  · rw [if_pos hlt]
    exact KW_bin hn0 _ _ q (by lia) hB (by rw [show max k 1 = k by lia]; exact hs) h
  · rw [if_neg hlt]
    exact h q hB ((show k = n by lia) ▸ hs)
end
end Mine
end

noncomputable section
open PySem PySem.W PyProof.Rows PySem.Calls PySem.Spec
set_option maxRecDepth 100000
namespace Mine

abbrev cl (x : Str) : List Nat := x.cps.toList
theorem cl_inj {x y : Str} (h : cl x = cl y) : x = y := by
  cases x; cases y; simp only [cl, Str.mk.injEq] at h ⊢; exact Array.toList_inj.mp h
theorem ltL_irrefl (a : List Nat) : ¬ a < a := List.lt_irrefl a
theorem ltL_trans {a b c : List Nat} (h : a < b) (k : b < c) : a < c := List.lt_trans h k
theorem ltL_total (a b : List Nat) : a < b ∨ a = b ∨ b < a := by
  by_cases h : a < b
  · exact .inl h
  · rcases List.le_iff_lt_or_eq.mp (List.not_lt.mp h) with h | h
    · exact .inr (.inr h)
    · exact .inr (.inl h.symm)

abbrev rlt (p q : Row) : Prop := cl p.1 < cl q.1 ∨ (p.1 = q.1 ∧ (p.2.1 < q.2.1 ∨ (p.2.1 = q.2.1 ∧ cl p.2.2 < cl q.2.2)))
theorem rlt_irrefl (p : Row) : ¬ rlt p p := by
  rintro (h | ⟨_, h | ⟨_, h⟩⟩)
  · exact ltL_irrefl _ h
  · lia
  · exact ltL_irrefl _ h
theorem rlt_trans {p q r : Row} (h : rlt p q) (k : rlt q r) : rlt p r := by
  obtain ⟨p1, p2, p3⟩ := p; obtain ⟨q1, q2, q3⟩ := q; obtain ⟨r1, r2, r3⟩ := r
  unfold rlt at *
  simp only at *
  rcases h with h | ⟨rfl, h⟩
  · rcases k with k | ⟨rfl, k⟩
    · exact .inl (ltL_trans h k)
    · exact .inl h
  · rcases k with k | ⟨rfl, k⟩
    · exact .inl k
    · refine .inr ⟨rfl, ?_⟩
      rcases h with h | ⟨rfl, h⟩
      · rcases k with k | ⟨rfl, k⟩
        · exact .inl (by lia)
        · exact .inl h
      · rcases k with k | ⟨rfl, k⟩
        · exact .inl k
        · exact .inr ⟨rfl, ltL_trans h k⟩
theorem rlt_total (p q : Row) : rlt p q ∨ p = q ∨ rlt q p := by
  obtain ⟨p1, p2, p3⟩ := p; obtain ⟨q1, q2, q3⟩ := q
  unfold rlt
  simp only
  rcases ltL_total (cl p1) (cl q1) with h | h | h
  · exact .inl (.inl h)
  · obtain rfl := cl_inj h
    rcases Int.lt_trichotomy p2 q2 with k | rfl | k
    · exact .inl (.inr ⟨rfl, .inl k⟩)
    · rcases ltL_total (cl p3) (cl q3) with l | l | l
      · exact .inl (.inr ⟨rfl, .inr ⟨rfl, l⟩⟩)
      · obtain rfl := cl_inj l; exact .inr (.inl rfl)
      · exact .inr (.inr (.inr ⟨rfl, .inr ⟨rfl, l⟩⟩))
    · exact .inr (.inr (.inr ⟨rfl, .inl k⟩))
  · exact .inr (.inr (.inl h))
noncomputable def RO : KeyOrd where
  α := Row
  blt p q := decide (rlt p q)
  irrefl p := decide_eq_false (rlt_irrefl p)
  trans p q r h k := decide_eq_true (rlt_trans (of_decide_eq_true h) (of_decide_eq_true k))
  negTrans p q r h := by
    have h := of_decide_eq_true h
    rcases rlt_total p q with k | rfl | k
    · exact .inl (decide_eq_true k)
    · exact .inr (decide_eq_true h)
    · exact .inr (decide_eq_true (rlt_trans k h))
  total p q h k := by
    rcases rlt_total p q with l | l | l
    · exact absurd l (of_decide_eq_false h)
    · exact l
    · exact absurd l (of_decide_eq_false k)

noncomputable def Srt (l : List Row) : Prop := ∀ i j (hi : i < l.length) (hj : j < l.length), i ≤ j → ¬ rlt l[j] l[i]
theorem Srt.tail {a : Row} {l : List Row} (h : Srt (a :: l)) : Srt l := fun i j hi hj hij => h (i + 1) (j + 1) (by simp; lia) (by simp; lia) (by lia)
theorem Srt.head {a : Row} {l : List Row} (h : Srt (a :: l)) : ∀ b ∈ l, ¬ rlt b a := fun b hb => by
  obtain ⟨j, hj, rfl⟩ := List.getElem_of_mem hb
  exact h 0 (j + 1) (by simp) (by simp; lia) (by lia)
theorem Srt.unique : ∀ {l k : List Row}, Srt l → Srt k → l.Perm k → l = k
  | [], k, _, _, p => by rw [p.nil_eq]
  | a :: l, [], _, _, p => by simp at p
  | a :: l, b :: k, hl, hk, p => by
    have e : a = b := by
      have ha : a ∈ b :: k := p.mem_iff.mp (.head _)
      have hb : b ∈ a :: l := p.mem_iff.mpr (.head _)
      rcases List.mem_cons.mp ha with h | ha
      · exact h
      · rcases List.mem_cons.mp hb with h | hb
        · exact h.symm
        · have h1 := hk.head a ha
          have h2 := hl.head b hb
          rcases rlt_total a b with h | h | h
          · exact absurd h h1
          · exact h
          · exact absurd h h2
    subst e
    rw [Srt.unique hl.tail hk.tail p.cons_inv]
end Mine
end

noncomputable section
open PySem PySem.W PyProof.Rows PySem.Calls PySem.Spec
set_option maxRecDepth 100000
set_option maxHeartbeats 4000000
namespace Mine
section
variable {C : Cx} {A : Around} {E : Value → Shared → Prop} {s : Shared} {I : Info} {G : Heap} {m : Str → Option Value} {env : Env} {fa : Nat → Addr} {led : List (Addr × Obj)}

theorem row_lt {prog : Program} {w : World} {p q : Row} {x y : Value} {Q : Bool → Shared → Prop} (hx : RowV s.heap p x) (hy : RowV s.heap q y) (h : Q (decide (rlt p q)) s) : wpAny (model prog w) A (keyLt' (tuples' true) x y) Q E s := by
  obtain ⟨p1, p2, p3⟩ := p
  obtain ⟨q1, q2, q3⟩ := q
  obtain ⟨a, t1, t2, t3, rfl, o1, g1, c1, n1, d1⟩ := hx
  obtain ⟨b, u1, u2, u3, rfl, o2, g2, c2, n2, d2⟩ := hy
  refine kat_lt g1 d1 g2 d2 ?_
  show KatLex _ _ _ true (decide (3 < 3)) Q [(.str p1 t1, .str q1 u1), (.int p2 t2, .int q2 u2), (.str p3 t3, .str q3 u3)] 0 s
  refine kat_cons (wpAny_eqBool_str (kat_go (fun e1 => ?_) fun e1 => ?_))
  · have e1 := of_decide_eq_true e1
    subst e1
    refine kat_yes (kat_cons (wpAny_eqBool_int (kat_go (fun e2 => ?_) fun e2 => ?_)))
    · have e2 : p2 = q2 := by simpa using e2
      subst e2
      refine kat_yes (kat_cons (wpAny_eqBool_str (kat_go (fun e3 => ?_) fun e3 => ?_)))
      · have e3 := of_decide_eq_true e3
        subst e3
        refine kat_yes (kat_nil ?_)
        rw [show decide (rlt (p1, p2, p3) (p1, p2, p3)) = false from decide_eq_false (rlt_irrefl _)] at h
        exact h
      · refine kat_no (kat_one _ _ (lt_str ?_))
        show Q (decide (Mine.cl p3 < Mine.cl q3)) s
        have : decide (rlt (p1, p2, p3) (p1, p2, q3)) = decide (Mine.cl p3 < Mine.cl q3) := by
          refine decide_eq_decide.mpr ⟨fun k => ?_, fun k => .inr ⟨rfl, .inr ⟨rfl, k⟩⟩⟩
          rcases k with k | ⟨_, k | ⟨_, k⟩⟩
          · exact absurd k (ltL_irrefl _)
          · exact absurd k (Int.lt_irrefl _)
          · exact k
        rw [this] at h
        exact h
    · have e2 : p2 ≠ q2 := by simpa using e2
      refine kat_no (kat_one _ _ (lt_int ?_))
      show Q (decide (p2 < q2)) s
      have : decide (rlt (p1, p2, p3) (p1, q2, q3)) = decide (p2 < q2) := by
        refine decide_eq_decide.mpr ⟨fun k => ?_, fun k => .inr ⟨rfl, .inl k⟩⟩
        rcases k with k | ⟨_, k | ⟨k, _⟩⟩
        · exact absurd k (ltL_irrefl _)
        · exact k
        · exact absurd k e2
      rw [this] at h
      exact h
  · have e1 := of_decide_eq_false e1
    refine kat_no (oneLt_str ?_)
    show Q (decide (Mine.cl p1 < Mine.cl q1)) s
    have : decide (rlt (p1, p2, p3) (q1, q2, q3)) = decide (Mine.cl p1 < Mine.cl q1) := by
      refine decide_eq_decide.mpr ⟨fun k => ?_, fun k => .inl k⟩
      rcases k with k | ⟨k, _⟩
      · exact k
      · exact absurd k e1
    rw [this] at h
    exact h

theorem rows_kat {h : Heap} {rows : List Row} {vs : List Value} (x : All2 (RowV h) rows vs) : ∃ fs, KatTups h vs fs ∧ fs.length = rows.length ∧ ∀ v ∈ fs, ∃ y t, v = .str y t := by
  induction x with
  | nil => exact ⟨[], .nil, rfl, fun _ h => by cases h⟩
  | @cons p v ps vs h1 _ ih =>
    obtain ⟨fs, h2, h3, h4⟩ := ih
    obtain ⟨a, t1, t2, t3, rfl, o1, g1, c1, n1, d1⟩ := h1
    refine ⟨.str p.1 t1 :: fs, .cons g1 c1 d1 rfl h2, by simp [h3], fun v hv => ?_⟩
    rcases List.mem_cons.mp hv with rfl | hv
    · exact ⟨_, _, rfl⟩
    · exact h4 v hv

theorem seqObj_LX {vs : List Value} {e : Nat} : LX (seqObj "list" vs.toArray e) vs := ⟨e, rfl⟩

theorem sorted_short {prog : Program} {w : World} {l : Addr} {vs : List Value} {Q : Value → Shared → Prop} (hl : s.heap.IsList l vs.toArray) (h2 : vs.length < 2)
    (h : Q (.ref (s.heap.objs.size + 1)) { s with heap := sortedAll s.heap vs vs.toArray }) : wpAny (model prog w) A (call (.builtin "sorted") [.ref l]) Q E s := by
  refine Calls.call_function_entry kind_sorted plain_sorted entry_sorted (args_sorted1 _) ?_
  unfold Builtin.«sorted»
  refine wpAny_bind (m := checkCount "sorted" 1 1 _) (wpAny_pure ?_)
  refine wpAny_bind (collect_list hl ?_ (by rw [sizeLine_eq]; lia))
  refine wpAny_bind (wpAny_newList ?_ (by rw [sizeLine_eq]; lia))
  have hsz : ((s.heap.push (seqObj "list" #[] 0)).update s.heap.objs.size (Obj.mapSeq (· ++ vs.toArray))).objs.size = s.heap.objs.size + 1 := by
    rw [Heap.size_update, size_push']
  have hoL : (((s.heap.push (seqObj "list" #[] 0)).update s.heap.objs.size (Obj.mapSeq (· ++ vs.toArray))).push (seqObj "list" vs.toArray 0)).get? (s.heap.objs.size + 1) = some (seqObj "list" vs.toArray 0) := by
    rw [← hsz]; exact Heap.get?_push_size _ rfl
  show wpAny _ _ _ _ _ { s with heap := ((s.heap.push (seqObj "list" #[] 0)).update s.heap.objs.size (Obj.mapSeq (· ++ vs.toArray))).push (seqObj "list" vs.toArray 0) }
  rw [hsz]
  refine wpAny_bind (wpAny_holding (wpAny_call_entry slot_list_sort ⟨_, hoL, rfl⟩ entry_list_sort ?_ (args_list_sort _)))
  unfold sortedAll at h
  generalize ((s.heap.push (seqObj "list" #[] 0)).update s.heap.objs.size (Obj.mapSeq (· ++ vs.toArray))).push (seqObj "list" vs.toArray 0) = H at hoL h
  generalize s.heap.objs.size + 1 = a at hoL h
  have ha : a < H.objs.size := Heap.lt_size hoL
  rw [list_sort_plain]
  refine wpAny_bind (listItems_at hoL rfl ?_)
  refine wpAny_bind (listUpdate_at hoL rfl ?_ (by rw [List.size_toArray, sizeLine_eq]; lia) (Nat.zero_le _))
  obtain ⟨e1, ho1⟩ : ∃ e1, (H.update a (Obj.mapSeq fun _ => #[])).get? a = some (seqObj "list" #[] e1) := ⟨_, get?_update_seq hoL (fun _ => #[])⟩
  refine wpAny_bind (seqEpoch_at ho1 rfl ?_)
  refine wpAny_bind (wpAny_newTuple ?_ (by show vs.length ≤ _; rw [sizeLine_eq]; lia))
  refine wpAny_bind (wpAny_newList ?_ (Nat.zero_le _))
  refine wpAny_holding ?_
  have ho6 : (((H.update a (Obj.mapSeq fun _ => #[])).push (seqObj "tuple" vs.toArray 0)).push (seqObj "list" #[] 0)).get? a = some (seqObj "list" #[] e1) := by
    rw [Heap.get?_push_ne _ _ _ (by rw [size_push', Heap.size_update]; exact Nat.ne_of_lt (Nat.lt_succ_of_lt ha)), Heap.get?_push_ne _ _ _ (by rw [Heap.size_update]; exact Nat.ne_of_lt ha)]
    exact ho1
  show wpAny (model prog w) _ _ _ _ { s with heap := ((H.update a (Obj.mapSeq fun _ => #[])).push (seqObj "tuple" vs.toArray 0)).push (seqObj "list" #[] 0) }
  dsimp only
  have hn2 : vs.toArray.size < 2 := by rw [List.size_toArray]; lia
  rw [if_pos hn2, if_pos hn2]
  refine wpAny_bind (wpAny_pure ?_)
  rw [StateT.run_pure]
  refine wpAny_bind (wpAny_pure ?_)
  dsimp only
  have hout : (arrOf (SortSt.mk' general' (vs.toArray.zip vs.toArray) #[] 7 none)).map (·.2) = vs.toArray := by
    show (vs.toArray.zip vs.toArray).map (·.2) = _
    apply Array.toList_inj.mp
    simp [List.map_snd_zip]
  rw [hout]
  refine wpAny_bind (seqEpoch_at ho6 rfl ?_)
  refine wpAny_bind (listUpdate_at ho6 rfl ?_ (Nat.zero_le _) (by show vs.toArray.size ≤ _; rw [List.size_toArray, sizeLine_eq]; lia))
  simp only [bne_self_eq_false, Bool.false_eq_true, if_false]
  exact wpAny_pure ⟨_, rfl, wpAny_pure ⟨_, rfl, h⟩⟩
end
end Mine
end

noncomputable section
open PySem PySem.W PyProof.Rows PySem.Calls PySem.Spec
set_option maxRecDepth 100000
set_option maxHeartbeats 4000000
namespace Mine
theorem perm_map_range {α : Type} (l : List α) (d : α) (p : Array Nat) (h : Bs l.length p) : (p.toList.map fun i => l.getD i d).Perm l := by
  have h1 : p.toList.Perm (List.range l.length) := Array.perm_iff_toList_perm.mp h
  refine (h1.map _).trans ?_
  rw [show (List.range l.length).map (fun i => l.getD i d) = l from ?_]
  apply List.ext_getElem?
  intro i
  rw [List.getElem?_map]
  by_cases hi : i < l.length
  · rw [List.getElem?_range hi]
    simp [hi]
  · rw [List.getElem?_eq_none (by simpa using Nat.le_of_not_lt hi), List.getElem?_eq_none (Nat.le_of_not_lt hi)]
    rfl
theorem srt_of {rows : List Row} {d : Row} {p : Array Nat} (hB : Bs rows.length p) (hs : So (O := RO) (fun i => rows.getD i d) p rows.length) : Srt (p.toList.map fun i => rows.getD i d) := by
  intro i j hi hj hij
  have hsz : p.toList.length = rows.length := by rw [Array.length_toList]; exact hB.size
  rw [List.length_map, hsz] at hi hj
  have key := hs i j hij hj
  unfold KeyOrd.kle kk at key
  have ei : p.getD i 0 = p.toList[i]'(by lia) := by simp [Array.getD, hB.size, hi]
  have ej : p.getD j 0 = p.toList[j]'(by lia) := by simp [Array.getD, hB.size, hj]
  rw [ei, ej] at key
  have := of_decide_eq_false (p := rlt _ _) key
  rw [List.getElem_map, List.getElem_map]
  exact this
section
variable {C : Cx} {A : Around} {E : Value → Shared → Prop} {s : Shared} {I : Info} {G : Heap} {m : Str → Option Value} {env : Env} {fa : Nat → Addr} {led : List (Addr × Obj)}

theorem All2.getD {α β : Type} {R : α → β → Prop} {as : List α} {bs : List β} {a : α} {b : β} (h : All2 R as bs) : ∀ {i : Nat}, i < bs.length → R (as.getD i a) (bs.getD i b) := by
  induction h with
  | nil => intro i hi; simp at hi
  | cons h _ ih =>
    intro i hi
    cases i with
    | zero => exact h
    | succ i => simpa using ih (by simpa using hi)
theorem All2.pick {α β : Type} {R : α → β → Prop} {as : List α} {bs : List β} {a : α} {b : β} (h : All2 R as bs) : ∀ {l : List Nat}, (∀ i ∈ l, i < bs.length) → All2 R (l.map fun i => as.getD i a) (l.map fun i => bs.getD i b)
  | [], _ => .nil
  | i :: l, hl => .cons (h.getD (hl i (.head _))) (h.pick fun j hj => hl j (.tail _ hj))

theorem sorted_rows {l : Addr} {lo : Obj} {rows : List Row} {Q : Value → Shared → Prop} (X : St (I.on G) m led s) (hm : (l, lo) ∈ led) (w : Rw G rows lo) (h64 : rows.length < 64)
    (q : ∀ a o rows' s', Rw s'.heap rows' o → rows'.Perm rows → Srt rows' → St (I.on G) m ((a, o) :: led) s' → Q (.ref a) s') :
    wpAny C.M A (call (.builtin "sorted") [.ref l]) Q E s := by
  obtain ⟨vs, hlx, hall⟩ := w
  have hlen := hall.length
  have hL := hlx.isList (X.get hm)
  rcases Nat.lt_or_ge vs.length 2 with h2 | h2
  · refine sorted_short hL h2 ?_
    obtain ⟨e, he⟩ := sortedAll_at s.heap vs vs.toArray
    have X2 := X.grown (s' := { s with heap := sortedAll s.heap vs vs.toArray }) (fun b o hb => sortedAll_old hb) rfl rfl
    have hfr : s.heap.get? (s.heap.objs.size + 1) = none := by
      cases h : s.heap.get? (s.heap.objs.size + 1) with
      | none => rfl
      | some o => exact absurd (Heap.lt_size h) (Nat.not_lt.mpr (Nat.le_succ _))
    refine q _ _ rows _ ⟨vs, seqObj_LX, hall.mono fun _ _ z => z.le X2.tup⟩ (.refl _) ?_ (St.adopt (s := s) X X2 rfl he hfr)
    intro i j hi hj hij
    have : i = j := by lia
    subst this
    exact rlt_irrefl _
  · obtain ⟨rest, W⟩ := X.whole
    refine kat_sorted (news := led ++ rest) X.fr W.news hL h2 (by lia) fun D e1 h' F' N' hD => ?_
    have hfresh : ∀ p ∈ led, p.1 ≠ D := fun p hp e => by
      have := hD p (List.mem_append_left _ hp)
      rw [e] at this; exact Nat.lt_irrefl _ this
    have hnd : ∀ o : Obj, (((D, o) :: led).map (·.1)).Nodup := fun o => by
      rw [List.map_cons, List.nodup_cons]
      refine ⟨fun k => ?_, X.nd⟩
      obtain ⟨p, hp, e⟩ := List.mem_map.mp k
      exact hfresh p hp e
    have X1 : St (I.on G) m ((D, seqObj "list" #[] e1) :: led) { s with heap := h' } := Whole.back (s := s) (tk := s.toks) X W F' N' (hnd _) fun p hp => .inl (.tail _ hp)
    have hall1 : All2 (RowV h') rows vs := hall.mono fun _ _ z => z.le X1.tup
    obtain ⟨fs, hk, hfl, hfs⟩ := rows_kat hall1
    refine kat_kind (s := { s with heap := h' }) (T := .type "str") hk (by lia) (fun v hv => ?_) (by decide +kernel) ?_
    · obtain ⟨y, t, rfl⟩ := hfs v hv
      exact Looks.of_pure rfl
    rw [show (Value.type "str" != Value.type "tuple") = true by decide +kernel]
    refine KW_wp (lt := ltK (O := RO) fun i => rows.getD i ("", 0, "")) (n := vs.length) (Inv := fun s' => s' = { s with heap := h' }) (P := fun p => Bs vs.length p ∧ So (O := RO) (fun i => rows.getD i ("", 0, "")) p vs.length) (fun i j D s' hi hj e k => ?_) (fun p s' hp e => ?_) _ _ (KW_sort (by lia) fun p h1 h2 => ⟨h1, h2⟩) rfl
    · subst e
      show wpAny _ _ (keyLt' _ (vs.getD i Value.none) (vs.getD j Value.none)) _ _ _
      exact row_lt (p := rows.getD i ("", 0, "")) (q := rows.getD j ("", 0, "")) (hall1.getD hi) (hall1.getD hj) (k _ rfl)
    · subst e
      obtain ⟨hB, hS⟩ := hp
      rw [← hlen] at hB hS
      have hU : UpdF D (seqObj "list" #[] e1) ((D, seqObj "list" #[] e1) :: (led ++ rest)) _ := .head fun p hp e => by
        have := hD p hp
        rw [e] at this; exact Nat.lt_irrefl _ this
      refine KasFin.intro (s := { s with heap := h' }) F' N' hU fun h2 c F2 N2 => ?_
      have X2 : St (I.on G) m ((D, listOf (List.toArray (p.toList.map fun i => vs.getD i Value.none)) c) :: led) { s with heap := h2 } := Whole.back (s := s) (tk := s.toks) X W F2 N2 (hnd _) fun p hp => .inl (.tail _ hp)
      have hall2 : All2 (RowV h2) rows vs := hall.mono fun _ _ z => z.le X2.tup
      refine q _ _ (p.toList.map fun i => rows.getD i ("", 0, "")) _ ⟨_, ⟨c, rfl⟩, hall2.pick fun i hi => ?_⟩ (perm_map_range _ _ _ hB) (srt_of hB hS) X2
      have := (Array.perm_iff_toList_perm.mp hB).mem_iff.mp hi
      rw [← hlen]
      simpa using this

theorem eq_rows {a b : Addr} {ao bo : Obj} {rows : List Row} {Q : Value → Shared → Prop} (ha : s.heap.get? a = some ao) (hb : s.heap.get? b = some bo) (wa : Rw s.heap rows ao) (wb : Rw s.heap rows bo) (hu : A.units + 64 < cLine)
    (q : Q (.bool true) s) : wpAny C.M A (compareOp .Eq (.ref a) (.ref b)) Q E s := by
  obtain ⟨vs, hl1, x⟩ := wa
  obtain ⟨us, hl2, y⟩ := wb
  have h1 := x.length; have h2 := y.length
  refine PySem.SeqAt.eq_listAt (e := fun _ => true) (hl1.isList ha) (hl2.isList hb) (by simp; lia) (by lia) (fun j k1 k2 => ?_) ?_
  · obtain ⟨p, hp, r1⟩ := x.get (i := j) (b := vs.toArray[j]) (by simp at k1 ⊢)
    obtain ⟨p', hp', r2⟩ := y.get (i := j) (b := us.toArray[j]) (by simp at k2 ⊢)
    rw [hp] at hp'; cases hp'
    obtain ⟨a1, t1, t2, t3, e1, T1⟩ := r1
    obtain ⟨a2, u1, u2, u3, e2, T2⟩ := r2
    rw [e1, e2]
    by_cases hne : a1 = a2
    · subst hne; exact PySem.SeqAt.EqAt.same _
    refine PySem.SeqAt.EqAt.of_refs hne ?_
    have := PySem.SeqAt.RcAt.tuples (A := A.in1) (s := s) (e := fun _ => true) T1 T2 (by show A.units + 1 < _; lia) (fun j h1 h2 => ?_)
    · exact this
    · match j, h1 with
      | 0, _ => exact fun prog w E Q h => wpAny_eqBool_str (by simpa using h)
      | 1, _ => exact fun prog w E Q h => wpAny_eqBool_int (by simpa using h)
      | 2, _ => exact fun prog w E Q h => wpAny_eqBool_str (by simpa using h)
  · rw [show (List.range vs.toArray.size).all (fun _ => true) = true from List.all_eq_true.mpr fun _ _ => rfl]; exact q
end
end Mine
end

noncomputable section
open PySem PySem.W PyProof.Rows PySem.Calls PySem.Spec
set_option maxRecDepth 100000
set_option maxHeartbeats 4000000
namespace Mine
theorem my_boot_abs : bootBuiltins "abs" = some (.builtin "abs") := by decide +kernel
section
variable {C : Cx} {A : Around} {E : Value → Shared → Prop} {s : Shared} {I : Info} {G : Heap} {m : Str → Option Value} {env : Env} {fa : Nat → Addr} {led : List (Addr × Obj)}

theorem Ev.absI {e : Expr} {p pos : Pos} {i : Int} (S : Stat C I.H) (hn : nsIn C.K mainGlobals "abs" = some none) (h : Ev C A env I m led e (IsI i)) (hE : EOk env I := by exact ⟨rfl, rfl, rfl, rfl⟩)
    (hl : env.kindOf "abs" = some .globalImplicit := by rfl) (he : starEach (e :: []) env = (false, eval e env) :: starEach [] env := by rfl) (hp : (backTo pos (starEach [] env)).any (·.1) = false := by rfl)
    (hc : eval (.Call (.Name "abs" p) (e :: []) [] pos) env = (do callWith pos (← eval (.Name "abs" p) env) [] (backTo pos (starEach (e :: []) env)) (backToKw pos (keywordEach [] env))) := by rfl) :
    Ev C A env I m led (.Call (.Name "abs" p) [e] [] pos) (IsI (if i < 0 then -i else i)) :=
  fun s Q E x q => ev_bf S hn my_boot_abs x (fun s1 x1 => EvL.cons h EvL.nil he _ _ _ x1 fun vs s2 h2 x2 => by
      obtain ⟨u, r, rfl, ⟨t, rfl⟩, rfl⟩ := h2
      exact call_abs_int fun u tk => q _ _ ⟨_, rfl⟩ x2.toks) (by decide) hE hl (by rfl) he hp hc

theorem slice40 {value slice : Expr} {l : Addr} {vs : List Value} {ns : List Int} {vu : Value} {Q : Value → Shared → Prop} (X : St I m led s) (hl : s.heap.IsList l vs.toArray) (hi : IntsAre vs ns) (hz : vs.length ≤ 1000) (hu : IsPart vu (some 40))
    (q : ∀ a o ws s', LX o ws → IntsAre ws (ns.take 40) → St I m ((a, o) :: led) s' → Q (.ref a) s')
    (hs : subscripted slice false (.ref l) (.ref s.heap.objs.size) = operate [.ref s.heap.objs.size, .ref l] (getItem (.ref l) (.ref s.heap.objs.size)) := by with_unfolding_all rfl)
    (ht : ∀ r, letTemporaryGo value (.ref l) r = pure () := by intro _; with_unfolding_all rfl) :
    wpAny C.M A (subscriptTail value slice (.ref l) (.ref s.heap.objs.size)) Q E { s with heap := s.heap.push { cls := .type "slice", data := .fields #[.none, vu, .none] } } := by
  refine slice_listK (lo := none) (hi := some 40) hl .none hu ?_ hs ht (by rw [sizeLine_eq, List.size_toArray]; lia)
  have X1 := (X.push ({ cls := .type "slice", data := .fields #[.none, vu, .none] } : Obj)).drop
  have X2 := X1.push ({ cls := .type "list", data := .seq (slicePick vs.toArray none (some 40) none) } : Obj)
  rw [Heap.size_push] at X2
  refine q _ _ (slicePick vs.toArray none (some 40) none).toList _ ⟨0, by rw [Array.toArray_toList]⟩ ?_ X2
  exact slice_ints_uptoW hi (y := 40) (by decide)

theorem feed_spec {n : Nat} {l : Addr} {vs : List Value} {ns : List Int} {Q : Value → Shared → Prop} (O : Ok C fa) (hA : Am A (n + 2)) (P : Pre C.B s.heap []) (hl : C.B.IsList l vs.toArray) (hi : IntsAre vs ns) (hz : vs.length ≤ 1000)
    (q : ∀ f of c oc s', Fd c of → Cl oc → s'.heap.get? f = some of → s'.heap.get? c = some oc → f ≠ c → s.heap.get? f = none → s.heap.get? c = none → Post [] s s' → Q (.ref f) s') : wpAny C.M A (call (.ref (fa 30)) [.ref l]) Q E s := by
  refine go (st := stAt 30) rfl hA O.S (O.fn 30 (by decide)) P fun I s1 cdv A' hA' hH hG hz' SI X => ?_
  have SI : ∀ G, Stat C (I.on G).H := fun _ => SI
  refine wpAny_execs_cons (xComp (cl := []) ?_ (by rfl))
  refine Subscript_ (Ev.useV (.loc rfl) X fun s2 X => ?_)
  refine wpAny_Slice ?_
  refine wpAny_of_eq (evalPart_none _) ?_
  show wpAny _ _ (eval _ _) _ _ _
  refine Ev.use .cI X fun v1 s3 e1 X => ?_
  refine wpAny_of_eq (evalPart_none _) ?_
  obtain ⟨t1, rfl⟩ := e1
  refine slice40 X (hl.at fun o e => (X.stat (SI I.G)).base _ _ e) hi hz (.int _ _) fun D Do ws s4 hD hws X => ?_
  have hwl := hws.length
  have htl : (ns.take 40).length ≤ 40 := by rw [List.length_take]; lia
  refine iter_list X (.head _) hD.lst fun it io s5 hio X => ?_
  refine ev_comp (I := I) (Itr.list (vs := ws) hA'.hh) (fun i G us led => led = [(D, Do)] ∧ i ≤ ws.length ∧ ∃ ms, IntsAre us ms ∧ ms.length = i) (fun i G us led h => ?_) (fun i G us led q h => ?_) X hio ⟨rfl, Nat.zero_le _, [], .nil, rfl⟩ ⟨rfl, rfl, rfl, rfl⟩ (by decide) rfl rfl ?_ ?_
  · obtain ⟨_, h, ms, h1, h2⟩ := h
    have := h1.length; lia
  · obtain ⟨rfl, _⟩ := h
    exact ⟨Do, List.mem_append_right _ (.head _), hD.lst⟩
  · rintro i G us led Cc mC o oL lo acc v s6 E' hi' hv ⟨rfl, _, ms, hus, hms⟩ hle hlo hoL X
    have hSI : Stat C (I.to Cc G).H := SI G
    obtain ⟨k, t, rfl⟩ : ∃ k t, v = .int k t := by
      have hm := List.mem_of_getElem? hv
      obtain ⟨k, t, e⟩ := hws.all v hm
      exact ⟨k, t, e⟩
    refine Ev.use (.absI hSI (O.bi "abs" (by decide)) (.toInt hSI (O.bi "int" (by decide)) (.locI (by rfl)))) X fun y s7 ey X => ?_
    obtain ⟨ty, rfl⟩ := ey
    exact ⟨G, _, _, ⟨rfl, by lia, ms ++ [_], hus.append (.cons _ _ .nil), by simp [hms]⟩, hle, X⟩
  · rintro G us led acc lo Cc oC mC s6 ⟨rfl, _, ms, hus, hms⟩ hle hlo hoC X
    refine wpAny_assign_Name (store X fun s7 X => ?_)
    refine ⟨mC, X.nsAt (.head _) hoC, fun h' hs => ?_⟩
    replace X := X.lose hoC hs
    have hul := hus.length
    refine last (wpAny_Return_some (List_ ?_))
    refine spliced_more (Ev.useV (.loc (by rfl)) X fun s8 X => ?_)
    refine spliced_more (Ev.use .cI X fun v2 s9 e2 X => ?_)
    refine spliced_more (wpAny_BinOp (Ev.use .cI X fun v3 s10 e3 X => wpAny_BinOp ?_))
    obtain ⟨t2, rfl⟩ := e2; obtain ⟨t3, rfl⟩ := e3
    refine ev_bt (SI G) (O.bi "int" (by decide)) boot_int X fun s11 X => ?_
    refine spliced_more ?_
    refine ev_bf (SI G) (O.bi "sum" (by decide)) boot_sum X (fun s12 X => ?_) (by decide)
    refine spliced_more (Ev.useV (.loc (by rfl)) X fun s13 X => ?_)
    refine spliced_none ?_
    obtain ⟨rest, W⟩ := X.whole
    refine sumK hA'.hh X.fr W.news (hlo.isList (X.get (.head _))) hus fun h' tk t' F' N' => ?_
    replace X := Whole.back (tk := tk) X W F' N' X.nd fun p hp => .inl hp
    refine spliced_none (call_int_int ?_)
    refine Ev.use .cI X fun v5 s14 e5 X => ?_
    obtain ⟨t5, rfl⟩ := e5
    refine mod_int_or hA'.hh (fun h => absurd h (by decide)) fun _ => ?_
    refine add_int (spliced_none ?_)
    have b := fmod_bd ms.sum (b := 1000003) (by decide)
    refine new_list X.toks.toks (by simp) fun fl fo s15 hfo X => ?_
    refine q fl fo acc lo s15 ⟨0, _, _, _, hfo.lst, by lia, by lia⟩ ⟨us, ms, hlo, hus, by lia⟩ (X.get (.head _)) (X.get (.tail _ (.head _))) ?_ (fresh_of X hH (.head _) (by simp)) (fresh_of X hH (.tail _ (.head _)) (by simp)) (leaveF (l1 := []) (l1' := []) (fz := []) (X.sub (List.nil_sublist _)) P hH (hG ▸ hle) hz')
    have hd := X.nd
    rw [List.map_cons, List.nodup_cons] at hd
    exact fun e => hd.1 (e ▸ .head _)
end
end Mine
end

noncomputable section
open PySem PySem.W PyProof.Rows PySem.Calls PySem.Spec
set_option maxRecDepth 100000
set_option maxHeartbeats 4000000
namespace Mine
noncomputable def lawEnv (L f : Addr) (cdv : Value) : Env := envOf (nmAt 40) (scOf (stAt 40)) L f cdv
section
variable {M : Model} {A : Around} {E : Value → Shared → Prop} {s : Shared} {env : Env} {rest es : List Expr} {pos p : Pos} {Q : List Value → Shared → Prop} {k : Nat}
theorem mC {c : Const} (h : wpAny M A (eval (.Constant c k p) env) (fun v s₁ => wpAny M A (spliced (backTo pos (starEach rest env))) (fun vs s₂ => Q (v :: vs) s₂) E s₁) E s) : wpAny M A (spliced (backTo pos (starEach (.Constant c k p :: rest) env))) Q E s := spliced_more h rfl
theorem mT (h : wpAny M A (eval (.Tuple es k p) env) (fun v s₁ => wpAny M A (spliced (backTo pos (starEach rest env))) (fun vs s₂ => Q (v :: vs) s₂) E s₁) E s) : wpAny M A (spliced (backTo pos (starEach (.Tuple es k p :: rest) env))) Q E s := spliced_more h rfl
theorem mB {a b : Expr} {op : Operator} (h : wpAny M A (eval (.BinOp a op b p) env) (fun v s₁ => wpAny M A (spliced (backTo pos (starEach rest env))) (fun vs s₂ => Q (v :: vs) s₂) E s₁) E s) : wpAny M A (spliced (backTo pos (starEach (.BinOp a op b p :: rest) env))) Q E s := spliced_more h rfl
theorem mTup (h : wpAny M A (spliced (backTo p (starEach es env))) (fun vs s1 => wpAny M A (newTuple vs) (fun v s₁ => wpAny M A (spliced (backTo pos (starEach rest env))) (fun vs s₂ => Q (v :: vs) s₂) E s₁) E s1) E s) : wpAny M A (spliced (backTo pos (starEach (.Tuple es k p :: rest) env))) Q E s := mT (Tuple_ h)
theorem mN {y : Str} (h : wpAny M A (eval (.Name y p) env) (fun v s₁ => wpAny M A (spliced (backTo pos (starEach rest env))) (fun vs s₂ => Q (v :: vs) s₂) E s₁) E s) : wpAny M A (spliced (backTo pos (starEach (.Name y p :: rest) env))) Q E s := spliced_more h rfl
theorem mK {f : Expr} {ks : List Keyword} (h : wpAny M A (eval (.Call f es ks p) env) (fun v s₁ => wpAny M A (spliced (backTo pos (starEach rest env))) (fun vs s₂ => Q (v :: vs) s₂) E s₁) E s) : wpAny M A (spliced (backTo pos (starEach (.Call f es ks p :: rest) env))) Q E s := spliced_more h rfl
end
section
variable {C : Cx} {A : Around} {E : Value → Shared → Prop} {s : Shared} {I : Info} {m : Str → Option Value} {env : Env} {led : List (Addr × Obj)} {w f c : Addr} {room : Int} {rest : List Expr} {pos p : Pos} {Q : List Value → Shared → Prop} {k : Nat}
theorem Gs.sS {x : Str} (g : Gs C I m w f c room led s) (q : ∀ t s', Gs C I m w f c room led s' → wpAny C.M A (spliced (backTo pos (starEach rest env))) (fun vs s₂ => Q (.str x t :: vs) s₂) E s') : wpAny C.M A (spliced (backTo pos (starEach (.Constant (.str x) k p :: rest) env))) Q E s :=
  mC (g.ev (fun _ _ _ => .cS) fun v s1 e g => by obtain ⟨t, rfl⟩ := e; exact q t s1 g)
theorem Gs.sI {x : Int} (g : Gs C I m w f c room led s) (q : ∀ t s', Gs C I m w f c room led s' → wpAny C.M A (spliced (backTo pos (starEach rest env))) (fun vs s₂ => Q (.int x t :: vs) s₂) E s') : wpAny C.M A (spliced (backTo pos (starEach (.Constant (.int x) k p :: rest) env))) Q E s :=
  mC (g.ev (fun _ _ _ => .cI) fun v s1 e g => by obtain ⟨t, rfl⟩ := e; exact q t s1 g)
theorem Gs.sB {x : Bool} (g : Gs C I m w f c room led s) (q : ∀ s', Gs C I m w f c room led s' → wpAny C.M A (spliced (backTo pos (starEach rest env))) (fun vs s₂ => Q (.bool x :: vs) s₂) E s') : wpAny C.M A (spliced (backTo pos (starEach (.Constant (.bool x) k p :: rest) env))) Q E s :=
  mC (g.evV (fun _ _ _ => .cB) fun s1 g => by exact q s1 g)
theorem Gs.sN (g : Gs C I m w f c room led s) (q : ∀ s', Gs C I m w f c room led s' → wpAny C.M A (spliced (backTo pos (starEach rest env))) (fun vs s₂ => Q (.none :: vs) s₂) E s') : wpAny C.M A (spliced (backTo pos (starEach (.Constant .none k p :: rest) env))) Q E s :=
  mC (g.evV (fun _ _ _ => .cN) fun s1 g => by exact q s1 g)
theorem Gs.sL {y : Str} {v : Value} (g : Gs C I m w f c room led s) (hv : m y = some v) (hE : EOk env I) (hl : env.kindOf y = some .local) (hd : (y == ("__debug__" : Str)) = false)
    (q : ∀ s', Gs C I m w f c room led s' → wpAny C.M A (spliced (backTo pos (starEach rest env))) (fun vs s₂ => Q (v :: vs) s₂) E s') : wpAny C.M A (spliced (backTo pos (starEach (.Name y p :: rest) env))) Q E s :=
  mN (g.evV (fun _ _ _ => .loc hv hE hl hd) fun s1 g => by exact q s1 g)
end
section
variable {C : Cx} {A : Around} {E : Value → Shared → Prop} {s : Shared} {I : Info} {G : Heap} {m : Str → Option Value} {env : Env} {fa : Nat → Addr} {led : List (Addr × Obj)}

theorem St.adopt2 {s' : Shared} {a b : Addr} {oa ob : Obj} (x : St I m led s) (x' : St I m led s') (ha : s'.heap.get? a = some oa) (hna : s.heap.get? a = none) (hb : s'.heap.get? b = some ob) (hnb : s.heap.get? b = none) (hne : a ≠ b) : St I m ((a, oa) :: (b, ob) :: led) s' := by
  have y := St.adopt x x' rfl hb hnb
  have z := St.adopt x x' rfl ha hna
  refine ⟨y.fr, fun p hp => ?_, ?_, y.tup, y.gens, y.os⟩
  · rcases List.mem_cons.mp hp with rfl | hp
    · exact z.news _ (.head _)
    · exact y.news p hp
  · have h1 := z.nd
    have h2 := y.nd
    rw [List.map_cons, List.nodup_cons] at h1
    rw [List.map_cons, List.nodup_cons]
    refine ⟨fun q => ?_, h2⟩
    rw [List.map_cons] at q
    rcases List.mem_cons.mp q with q | q
    · exact hne q
    · exact h1.1 q

theorem law_draw {n : Nat} {f : Addr} {cdv : Value} {l : Addr} {vs : List Value} {ns : List Int} {Q : Flow → Shared → Prop} (O : Ok C fa) (SI : ∀ G, Stat C (I.on G).H) (hA : Am A (n + 41)) (X : St I m [] s) (k1 : m "script" = some (.ref l)) (hl : C.B.IsList l vs.toArray) (hi : IntsAre vs ns) (hz : vs.length ≤ 1000)
    (q : ∀ G m' s' ts v w, St (I.on G) m' [] s' → Tree G (.blk false 2 none [] ts) v → (T.blk false 2 none [] ts).ok 5 → (T.blk false 2 none [] ts).cnt ≤ 21 → m' "top" = some v → m' "waits" = some (.bool w) → wpAny C.M A (execs ((fnB (stAt 40)).drop 8) (lawEnv I.L f cdv)) Q E s') :
    wpAny C.M A (execs (fnB (stAt 40)) (lawEnv I.L f cdv)) Q E s := by
  refine wpAny_execs_cons ?_
  refine wpAny_Assign_Name ?_ ?_
  rotate_left
  · rfl
  refine ev_dict (SI I.G) X ?_
  intro d od s1 hd hsm X
  refine evalPairs_cons ?_
  refine Ev.use .cS X fun v1 s2 e1 X => wpAny_bind ?_
  refine ev_callX (SI I.G) (O.nm 30 (by decide)) (O.fn 30 (by decide)) X fun s3 X => ?_
  refine spliced_more (Ev.useV (.loc (by exact k1)) X fun s4 X => ?_)
  refine spliced_none ⟨(X.stat (SI I.G)).X, ?_⟩
  refine feed_spec (n := n) O (hA.le (by lia)) (X.pre (l1 := []) (SI I.G) fun p hp => by cases hp) hl hi hz fun fd ofd c oc s5 hfd hc g1 g2 hne h1 h2 P => ?_
  have X2 := St.post (l1 := []) (l1' := []) X P rfl fun p hp => by cases hp
  replace X := St.adopt2 X X2 g1 h1 g2 h2 hne
  clear X2
  refine wpAny_bind (wpAny_standAt (wpAny_pure ?_))
  refine evalPairs_cons (Ev.use .cS X fun v3 s6 e3 X => wpAny_bind (Ev.use .cI X fun v4 s7 e4 X => wpAny_bind (wpAny_standAt (wpAny_pure ?_))))
  refine evalPairs_cons (Ev.use .cS X fun v5 s8 e5 X => wpAny_bind (Ev.use .cI X fun v6 s9 e6 X => wpAny_bind (wpAny_standAt (wpAny_pure ?_))))
  refine evalPairs_nil ?_
  obtain ⟨t1, rfl⟩ := e1; obtain ⟨t3, rfl⟩ := e3; obtain ⟨t4, rfl⟩ := e4; obtain ⟨t5, rfl⟩ := e5; obtain ⟨t6, rfl⟩ := e6
  refine ⟨rfl, _, X.up2, fun od s10 hd X => store X fun s11 X => ?_⟩
  have hw : Wl C fd 15 od := ⟨_, hd, Nat.le_refl 3, rfl, ⟨_, _, rfl⟩, ⟨_, rfl⟩⟩
  clear hd
  have g : Gs C I _ d fd c 15 [] s11 := ⟨od, ofd, oc, X, hw, hfd, hc⟩
  clear X hw hfd hc g1 g2
  refine wpAny_execs_cons ?_
  refine wpAny_Assign_Name ?_ ?_
  rotate_left
  · rfl
  refine g.feed (fun _ _ _ => .loc (by rfl)) fun s12 g => g.store fun s13 g => ?_
  refine wpAny_execs_cons ?_
  refine wpAny_Assign_Name ?_ ?_
  rotate_left
  · rfl
  refine wpAny_Compare1 ?_ (by rfl)
  refine g.st fun ow of oc X hw hf hc => ?_
  refine ev_callX (SI I.G) (O.nm 31 (by decide)) (O.fn 31 (by decide)) X fun s14 X => ?_
  refine spliced_more (Ev.useV (.loc (by rfl)) X fun s15 X => ?_)
  refine spliced_more (Ev.use .cI X fun v8 s16 e8 X => ?_)
  obtain ⟨t8, rfl⟩ := e8
  refine spliced_none ⟨(X.stat (SI I.G)).X, ?_⟩
  refine g_pick O (SI I.G) (hA.le (k := 0 + 1) (by lia)) ⟨ow, of, oc, X, hw, hf, hc⟩ (by decide) (by decide) fun np tp s17 hn0 hn1 g => ?_
  refine g.ev (fun _ _ _ => .cI) fun v9 s18 e9 g => ?_
  obtain ⟨t9, rfl⟩ := e9
  refine lt_int (g.store fun s19 g => ?_)
  generalize decide (np < 2) = w at g
  clear X hw hf hc
  refine wpAny_execs_cons ?_
  refine wpAny_Assign_Name ?_ ?_
  rotate_left
  · rfl
  refine Tuple_ ?_
  refine g.sS ?_
  intro u10 s20 g
  refine g.sI ?_
  intro u11 s21 g
  refine mTup ?_
  refine g.sI ?_
  intro u12 s22 g
  refine g.sI ?_
  intro u13 s23 g
  refine g.sI ?_
  intro u14 s24 g
  refine spliced_none ?_
  refine g.newT (Nat.le_of_ble_eq_true rfl) ?_
  intro a1 s25 g
  refine g.sB ?_
  intro s26 g
  refine g.sB ?_
  intro s27 g
  refine spliced_none ?_
  refine g.newT (Nat.le_of_ble_eq_true rfl) ?_
  intro a2 s28 g
  refine g.store ?_
  intro s29 g
  have hone : One s29.heap (.ref a2) := ⟨a2, _, _, rfl, g.isTup (.head _)⟩
  replace g := g.rebase.drop.drop
  refine wpAny_execs_cons ?_
  refine wpAny_Assign_Name ?_ ?_
  rotate_left
  · rfl
  refine Tuple_ ?_
  refine g.sS ?_
  intro u10 s30 g
  refine g.sI ?_
  intro u11 s31 g
  refine g.sS ?_
  intro u12 s32 g
  refine mTup ?_
  refine spliced_none ?_
  refine g.newT (Nat.le_of_ble_eq_true rfl) ?_
  intro a3 s33 g
  refine mTup ?_
  refine mTup ?_
  refine g.sS ?_
  intro u13 s34 g
  refine g.sI ?_
  intro u14 s35 g
  refine mTup ?_
  refine g.sS ?_
  intro u15 s36 g
  refine g.sI ?_
  intro u16 s37 g
  refine g.sS ?_
  intro u17 s38 g
  refine spliced_none ?_
  refine g.newT (Nat.le_of_ble_eq_true rfl) ?_
  intro a4 s39 g
  refine spliced_none ?_
  refine g.newT (Nat.le_of_ble_eq_true rfl) ?_
  intro a5 s40 g
  refine spliced_none ?_
  refine g.newT (Nat.le_of_ble_eq_true rfl) ?_
  intro a6 s41 g
  refine spliced_none ?_
  refine g.newT (Nat.le_of_ble_eq_true rfl) ?_
  intro a7 s42 g
  refine g.store ?_
  intro s43 g
  have hleft : Tree s43.heap (.blk false 4 (some "A") [] [.dis 5 6 "A"]) (.ref a7) := by
    refine ⟨a7, _, _, _, a3, [], a6, [.ref a5], rfl, g.isTup (.head _), ⟨_, rfl⟩, g.isTup (.tail _ (.tail _ (.tail _ (.tail _ (.head _))))), .nil, g.isTup (.tail _ (.head _)), All2.trees (.cons ?_ .nil)⟩
    exact ⟨a5, _, _, _, rfl, g.isTup (.tail _ (.tail _ (.head _))), ⟨a4, _, _, _, rfl, g.isTup (.tail _ (.tail _ (.tail _ (.head _))))⟩⟩
  replace hone := hone.le g.tup
  replace g := g.rebase.drop.drop.drop.drop.drop
  refine wpAny_execs_cons ?_
  refine wpAny_Assign_Name ?_ ?_
  rotate_left
  · rfl
  refine List_ ?_
  refine mTup ?_
  refine g.sS ?_
  intro u51 s51 g
  refine g.sI ?_
  intro u52 s52 g
  refine g.sL (by rfl) ⟨rfl, rfl, rfl, rfl⟩ (by rfl) (by rfl) ?_
  intro s53 g
  refine g.sL (by rfl) ⟨rfl, rfl, rfl, rfl⟩ (by rfl) (by rfl) ?_
  intro s54 g
  refine mTup ?_
  refine g.sS ?_
  intro u55 s55 g
  refine g.sI ?_
  intro u56 s56 g
  refine g.sS ?_
  intro u57 s57 g
  refine mTup ?_
  refine spliced_none ?_
  refine g.newT (Nat.le_of_ble_eq_true rfl) ?_
  intro b1 s58 g
  refine mTup ?_
  refine spliced_none ?_
  refine g.newT (Nat.le_of_ble_eq_true rfl) ?_
  intro b2 s59 g
  refine spliced_none ?_
  refine g.newT (Nat.le_of_ble_eq_true rfl) ?_
  intro b3 s60 g
  refine spliced_none ?_
  refine g.newT (Nat.le_of_ble_eq_true rfl) ?_
  intro b4 s61 g
  refine mTup ?_
  refine g.sS ?_
  intro u62 s62 g
  refine g.sI ?_
  intro u63 s63 g
  refine mTup ?_
  refine g.sS ?_
  intro u64 s64 g
  refine g.sI ?_
  intro u65 s65 g
  refine g.sS ?_
  intro u66 s66 g
  refine spliced_none ?_
  refine g.newT (Nat.le_of_ble_eq_true rfl) ?_
  intro b5 s67 g
  refine spliced_none ?_
  refine g.newT (Nat.le_of_ble_eq_true rfl) ?_
  intro b6 s68 g
  refine spliced_none ?_
  refine g.newL (Nat.le_of_ble_eq_true rfl) ?_
  intro il io s80 hio g
  refine g.store ?_
  intro s81 g
  replace hone := hone.le g.tup
  replace hleft := Tree.le g.tup _ _ hleft
  have hcho : Tree s81.heap (.cho 3 (.blk false 4 (some "A") [] [.dis 5 6 "A"]) (.blk false 7 (some "A") [] [])) (.ref b4) := by
    refine ⟨b4, _, _, _, _, .ref b3, rfl, g.isTup (.tail _ (.tail _ (.tail _ (.head _)))), hone, hleft, ?_⟩
    exact ⟨b3, _, _, _, b1, [], b2, [], rfl, g.isTup (.tail _ (.tail _ (.tail _ (.tail _ (.head _))))), ⟨_, rfl⟩, g.isTup (.tail _ (.tail _ (.tail _ (.tail _ (.tail _ (.tail _ (.head _))))))), .nil, g.isTup (.tail _ (.tail _ (.tail _ (.tail _ (.tail _ (.head _)))))), All2.trees .nil⟩
  have hdis : Tree s81.heap (.dis 8 9 "A") (.ref b6) := by
    exact ⟨b6, _, _, _, rfl, g.isTup (.tail _ (.head _)), ⟨b5, _, _, _, rfl, g.isTup (.tail _ (.tail _ (.head _)))⟩⟩
  replace g : Gs C (I.on s81.heap) _ d fd c 15 [(il, io)] s81 := (g.rebase).sub (led' := [(il, io)]) (.cons_cons _ (List.nil_sublist _))
  have S0 : Stat C (I.on s81.heap).H := SI _
  obtain ⟨ow, of, oc, X, hw, hf, hc⟩ := g
  refine wpAny_execs_cons ?_
  refine wpAny_For ?_ (by intro _; rfl)
  refine ev_bt S0 (O.bi "range" (by decide)) boot_range X ?_
  intro s82 X
  refine mB ?_
  refine wpAny_BinOp ?_
  refine Ev.use .cI X ?_
  intro v82 s83 e82 X
  obtain ⟨t82, rfl⟩ := e82
  refine ev_callX S0 (O.nm 31 (by decide)) (O.fn 31 (by decide)) X ?_
  intro s84 X
  refine mN ?_
  refine Ev.use (.loc (by rfl)) X ?_
  intro v84 s85 e84 X
  obtain rfl := e84.symm
  refine mC ?_
  refine Ev.use .cI X ?_
  intro v85 s86 e85 X
  obtain ⟨t85, rfl⟩ := e85
  refine spliced_none ⟨(X.stat S0).X, ?_⟩
  refine g_pick O S0 (hA.le (k := 0 + 1) (by lia)) ⟨ow, of, oc, X, hw, hf, hc⟩ (by decide) (by decide) ?_
  intro np2 tp2 s87 hm0 hm1 g
  clear X hw hf hc
  obtain ⟨ow, of, oc, X, hw, hf, hc⟩ := g
  refine add_int (spliced_none ?_)
  refine iter_range1 X.toks (by lia) (by lia) ?_
  intro it ito s88 hito X
  refine for_loop' (Itr.range hA.hh) (fun i G m led => ∃ ow of oc ilo room' ts vs, led = [(d, ow), (fd, of), (c, oc), (il, ilo)] ∧ Wl C fd room' ow ∧ Fd c of ∧ Cl oc ∧ LX ilo vs ∧ All2 (Tree G) ts vs ∧ ts.length = i + 2 ∧ T.oks 4 ts ∧ T.cnts ts + room'.toNat ≤ 20 ∧ m "inside" = some (.ref il) ∧ m "world" = some (.ref d) ∧ m "waits" = some (.bool w)) (fun _ _ _ _ _ => trivial) X hito
    ⟨ow, of, oc, io, 15, [_, _], [.ref b4, .ref b6], rfl, hw, hf, hc, hio, .cons hcho (.cons hdis .nil), rfl, ⟨⟨⟨by decide, by decide, by simp, by decide, trivial, trivial⟩, by decide, by decide, by simp, by decide, trivial⟩, trivial, trivial⟩, by decide, by rfl, by rfl, by rfl⟩ ?_ ?_
  · rintro PP i G m' led o v s90 E' hi ⟨tv, rfl⟩ ⟨ow, of, oc, ilo, room', ts, vs, rfl, hw, hf, hc, hil, hall, hts, hok, hcnt, j1, j2, j3⟩ hle X hPP
    have S1 : Stat C ((I.on s81.heap).on G).H := SI _
    refine wpAny_assign_Name (store X ?_)
    intro s91 X
    refine last ?_
    refine wpAny_Expr_any ?_ (by rfl) (by rfl)
    refine ev_lmeth (.loc (by exact j1)) (.tail _ (.tail _ (.tail _ (.tail _ (.head _))))) hil PySem.F.slot_list_append type_list_append X ?_
    intro s92 X
    refine PyProof.Rows.callWith_method1 ?_
    refine mK ?_
    refine ev_callX S1 (O.nm 35 (by decide)) (O.fn 35 (by decide)) X ?_
    intro s93 X
    refine mN ?_
    refine Ev.use (.loc (by exact j2)) X ?_
    intro v93 s94 e93 X
    obtain rfl := e93.symm
    refine mC ?_
    refine Ev.use .cI X ?_
    intro v94 s95 e94 X
    obtain ⟨t94, rfl⟩ := e94
    refine spliced_none ⟨(X.stat S1).X, ?_⟩
    have hlen := hall.length
    refine g_stmt (n := 0) (d := 4) (stmt_spec O 4) S1 (hA.le (by lia)) (X.gs hw hf hc) ?_
    intro vt tr s96 room2 htr hok2 hcnt2 g
    clear X hw hf hc
    have hq := g.tup
    replace g := g.rebase
    obtain ⟨ow, of, oc, X, hw, hf, hc⟩ := g
    refine spliced_none ?_
    have hiN : i < 10 := by lia
    refine lst_append X.up4 hil (by lia) ?_
    intro ilo2 s97 hil2 X
    replace X := (X.up4).perm (.cons _ perm3)
    have hq2 := hq.trans X.tup
    refine hPP _ ⟨s97.heap, _, _, ⟨ow, of, oc, ilo2, room2, ts ++ [tr], vs ++ [vt], rfl, hw, hf, hc, hil2, (hall.mono fun _ _ z => Tree.le hq2 _ _ z).snoc (Tree.le X.tup _ _ htr), by simp [hts], oks_app hok ⟨hok2, trivial⟩, by rw [cnts_app]; simp only [T.cnts]; lia, by exact j1, by exact j2, by exact j3⟩, hle.trans hq2, X.rebase⟩
  · rintro G m' led s90 ⟨ow, of, oc, ilo, room', ts, vs, rfl, hw, hf, hc, hil, hall, hts, hok, hcnt, j1, j2, j3⟩ hle X
    have S1 : Stat C ((I.on s81.heap).on G).H := SI _
    have hlen := hall.length
    have g : Gs C ((I.on s81.heap).on G) m' d fd c room' [(il, ilo)] s90 := ⟨ow, of, oc, X, hw, hf, hc⟩
    clear X hw hf hc
    refine wpAny_execs_cons ?_
    refine wpAny_Assign_Name ?_ ?_
    rotate_left
    · rfl
    refine Tuple_ ?_
    refine g.sS ?_
    intro u1 s91 g
    refine g.sI ?_
    intro u2 s92 g
    refine g.sN ?_
    intro s93 g
    refine mTup ?_
    refine spliced_none ?_
    refine g.newT (Nat.le_of_ble_eq_true rfl) ?_
    intro c1 s94 g
    refine mK ?_
    obtain ⟨ow, of, oc, X, hw, hf, hc⟩ := g
    refine ev_bt S1 (O.bi "tuple" (by decide)) boot_tuple X ?_
    intro s95 X
    refine mN ?_
    refine Ev.use (.loc (by exact j1)) X ?_
    intro v96 s96 e96 X
    obtain rfl := e96.symm
    refine spliced_none ?_
    refine tuple_of X (.tail _ (.tail _ (.tail _ (.tail _ (.head _))))) hil (by lia) ?_
    intro ta s97 X
    refine spliced_none ?_
    refine new_tuple X (Nat.le_of_ble_eq_true rfl) ?_
    intro tt s98 X _
    refine store X ?_
    intro s99 X
    have htree : Tree s99.heap (.blk false 2 none [] ts) (.ref tt) := by
      exact ⟨tt, _, _, _, c1, [], ta, vs, rfl, IsTup.of_St X (.head _), rfl, IsTup.of_St X (.tail _ (.tail _ (.tail _ (.tail _ (.tail _ (.head _)))))), .nil, IsTup.of_St X (.tail _ (.head _)), (hall.mono fun _ _ z => Tree.le X.tup _ _ z).trees⟩
    refine q s99.heap _ s99 ts _ w (X.rebase.sub (List.nil_sublist _)) htree ⟨by simp, by simp, by simp, by lia, hok⟩ (by simp only [T.cnt]; lia) (by rfl) (by exact j3)
end
end Mine
end

noncomputable section
open PySem PySem.W PyProof.Rows PySem.Calls PySem.Spec
set_option maxRecDepth 100000
set_option maxHeartbeats 4000000
namespace Mine
section
variable {M : Model} {A : Around} {E : Value → Shared → Prop} {s : Shared} {env : Env} {rest es : List Expr} {pos p : Pos} {Q : List Value → Shared → Prop} {k : Nat}
theorem mD {ks : List (Option Expr)} {vs : List Expr} (h : wpAny M A (eval (.Dict ks vs p) env) (fun v s₁ => wpAny M A (spliced (backTo pos (starEach rest env))) (fun vs s₂ => Q (v :: vs) s₂) E s₁) E s) : wpAny M A (spliced (backTo pos (starEach (.Dict ks vs p :: rest) env))) Q E s := spliced_more h rfl
theorem mU {op : UnaryOp} {x : Expr} (h : wpAny M A (eval (.UnaryOp op x p) env) (fun v s₁ => wpAny M A (spliced (backTo pos (starEach rest env))) (fun vs s₂ => Q (v :: vs) s₂) E s₁) E s) : wpAny M A (spliced (backTo pos (starEach (.UnaryOp op x p :: rest) env))) Q E s := spliced_more h rfl
theorem mA {x : Expr} {y : Str} (h : wpAny M A (eval (.Attribute x y p) env) (fun v s₁ => wpAny M A (spliced (backTo pos (starEach rest env))) (fun vs s₂ => Q (v :: vs) s₂) E s₁) E s) : wpAny M A (spliced (backTo pos (starEach (.Attribute x y p :: rest) env))) Q E s := spliced_more h rfl
end
section
variable {C : Cx} {A : Around} {E : Value → Shared → Prop} {s : Shared} {I : Info} {G : Heap} {m : Str → Option Value} {env : Env} {fa : Nat → Addr} {led : List (Addr × Obj)} {k : Kl} {r e p t : Addr} {rows : List Row} {es : Sc} {fz tl : List (Addr × Obj)}

theorem new_report {n : Nat} {v1 v2 : Value} {Q : Value → Shared → Prop} (O : Okk C fa k) (S : Stat C I.H) (hA : Am A (n + 2)) (X : St I m led s)
    (q : ∀ s' t d r es dn ro, St I m ((r, ro) :: (t, instObj k.cR d) :: (d, dictOf es dn) :: led) s' → getL "rows" es = some (some (.ref r)) → getL "add" es = some none → LX ro [] → Q (.ref t) s') :
    wpAny C.M A (call (.ref k.cR) [v1, v2]) Q E s := by
  refine new_inst O.R S X fun s1 t d X1 => ?_
  have P : Pre C.B s1.heap [(t, instObj k.cR d), (d, dictOf [] 0)] := X1.pre (l1 := [_, _]) S fun p hp => by
    simp only [List.mem_cons, List.not_mem_nil, or_false] at hp
    rcases hp with rfl | rfl
    · exact instN
    · exact dictN
  refine enter (st := mtAt 1 0) (binds := [("self", .ref t), ("names", v1), ("nettype", v2)]) rfl (hA.under w_tc u_tc) O.O.S O.fR P rfl (fun _ _ _ _ _ => BindsTo.of_eq (by rfl)) (locs (by rfl)) (by decide) rfl rfl rfl fun I2 s2 cdv A' hA' hH hG hz SI X2 => ?_
  refine wpAny_execs_cons (plainObj_wpAny_Assign_Attribute ?_ (by rfl))
  refine Ev.useV (.loc rfl) X2 fun s3 X2 => ?_
  refine Ev.useV (.loc rfl) X2 fun s4 X2 => ?_
  refine set_att O.R SI X2.swap (.head _) O.aNames (by rfl) (by simp [putL]) fun s5 t5 X2 => ?_
  refine wpAny_execs_cons (plainObj_wpAny_Assign_Attribute ?_ (by rfl))
  refine Ev.useV (.loc rfl) X2 fun s6 X2 => ?_
  refine Ev.useV (.loc rfl) X2 fun s7 X2 => ?_
  refine set_att O.R SI X2 (.head _) O.aNet ?_ ?_ fun s8 t8 X2 => ?_
  · rfl
  · show 2 ≤ 1000
    lia
  refine last (plainObj_wpAny_Assign_Attribute ?_ (by rfl))
  refine ev_list EvL.nil X2 (fun vs h => by subst h; exact Nat.zero_le _) fun vs r ro s9 h9 hro X2 => ?_
  subst h9
  refine Ev.useV (.loc rfl) X2 fun s10 X2 => ?_
  refine set_att O.R SI X2.swap (.tail _ (.head _)) O.aRows ?_ ?_ fun s11 t11 X2 => ?_
  · rfl
  · show 3 ≤ 1000
    lia
  obtain ⟨es, dn, X2, ge1, ge2⟩ : ∃ es dn, St I2 (fun y => List.lookup y [("nettype", v2), ("names", v1), ("self", .ref t)]) [(d, dictOf es dn), (r, ro), (t, instObj k.cR d)] s11 ∧ getL "rows" es = some (some (.ref r)) ∧ getL "add" es = some none := ⟨_, _, X2, by rfl, by rfl⟩
  have hne : s1.heap.get? r = none := by
    have h1 := (X2.news _ (.tail _ (.head _))).2.2
    have nd := X2.nd
    rw [hH] at h1
    cases h : s1.heap.get? r with
    | none => rfl
    | some oo =>
      rw [hideAll_get _ h ?_] at h1
      · cases h1
      · intro hh
        simp only [List.map_cons, List.map_nil, List.mem_cons, List.not_mem_nil, or_false, List.nodup_cons] at hh nd
        rcases hh with rfl | rfl
        · exact nd.2.1 (by simp)
        · exact nd.1 (by simp)
  have PP := leave X2 hH (hG ▸ TupLe.refl _) hz
  refine ⟨rfl, ?_⟩
  have X3 := St.post (l1 := [(t, instObj k.cR d), (d, dictOf [] 0)]) (l1' := [(t, instObj k.cR d), (d, dictOf es dn)]) X1 PP rfl fun p hp => by
    simp only [List.mem_cons, List.not_mem_nil, or_false] at hp
    rcases hp with rfl | rfl
    · exact X2.get (.tail _ (.tail _ (.head _)))
    · exact X2.get (.head _)
  exact q _ t d r _ _ ro (X1.adopt X3 rfl (X2.get (.tail _ (.head _))) hne) ge1 ge2 hro
end
end Mine
end

noncomputable section
open PySem PySem.W PyProof.Rows PySem.Calls PySem.Spec
set_option maxRecDepth 100000
set_option maxHeartbeats 4000000
namespace Mine
theorem putE_keep {dup st x y z : Str} {av : Int} {q : List Row × Sc} (h : q.2.lookup y = some z) : (putE dup st x av q).2.lookup y = some z := by
  unfold putE
  split
  · exact h
  · show (q.2 ++ [(x, st)]).lookup y = some z
    rw [List.lookup_append, h]
    rfl
theorem runLabs_keep {y z : Str} : ∀ {ls : List (Str × Int)} {q : List Row × Sc}, q.2.lookup y = some z → (runLabs ls q).2.lookup y = some z
  | [], q, h => h
  | l :: ls, q, h => runLabs_keep (ls := ls) (putE_keep h)
theorem pot_one (w : Bool) (own : Sc) (tr : T) : pot w [] own [tr] = (runLabs (labs tr) ([], own)).1 ++ chk w tr [(runLabs (labs tr) ([], own)).2] := by
  unfold pot
  rw [labsL, labsL, List.append_nil, chks, chks, List.append_nil]
section
variable {C : Cx} {A : Around} {E : Value → Shared → Prop} {s : Shared} {I : Info} {G : Heap} {m : Str → Option Value} {env : Env} {fa : Nat → Addr} {led : List (Addr × Obj)} {k : Kl} {r e p t : Addr} {rows : List Row} {es : Sc} {fz tl : List (Addr × Obj)}
section
variable {rest : List Expr} {pos p0 : Pos} {Q : List Value → Shared → Prop} {kk : Nat}
theorem Ds.sS {x : Str} (g : Ds C I G m r rows e es fz tl s) (q : ∀ t s', Ds C I G m r rows e es fz tl s' → wpAny C.M A (spliced (backTo pos (starEach rest env))) (fun vs s₂ => Q (.str x t :: vs) s₂) E s') : wpAny C.M A (spliced (backTo pos (starEach (.Constant (.str x) kk p0 :: rest) env))) Q E s :=
  mC (g.ev (fun _ _ => .cS) fun v s1 e g => by obtain ⟨t, rfl⟩ := e; exact q t s1 g)
theorem Ds.sI {x : Int} (g : Ds C I G m r rows e es fz tl s) (q : ∀ t s', Ds C I G m r rows e es fz tl s' → wpAny C.M A (spliced (backTo pos (starEach rest env))) (fun vs s₂ => Q (.int x t :: vs) s₂) E s') : wpAny C.M A (spliced (backTo pos (starEach (.Constant (.int x) kk p0 :: rest) env))) Q E s :=
  mC (g.ev (fun _ _ => .cI) fun v s1 e g => by obtain ⟨t, rfl⟩ := e; exact q t s1 g)
theorem Ds.sB {x : Bool} (g : Ds C I G m r rows e es fz tl s) (q : ∀ s', Ds C I G m r rows e es fz tl s' → wpAny C.M A (spliced (backTo pos (starEach rest env))) (fun vs s₂ => Q (.bool x :: vs) s₂) E s') : wpAny C.M A (spliced (backTo pos (starEach (.Constant (.bool x) kk p0 :: rest) env))) Q E s :=
  mC (g.evV (fun _ _ => .cB) fun s1 g => by exact q s1 g)
theorem Ds.sL {y : Str} {v : Value} (g : Ds C I G m r rows e es fz tl s) (hv : m y = some v) (hE : EOk env (I.on G)) (hl : env.kindOf y = some .local) (hd : (y == ("__debug__" : Str)) = false)
    (q : ∀ s', Ds C I G m r rows e es fz tl s' → wpAny C.M A (spliced (backTo pos (starEach rest env))) (fun vs s₂ => Q (v :: vs) s₂) E s') : wpAny C.M A (spliced (backTo pos (starEach (.Name y p0 :: rest) env))) Q E s :=
  mN (g.evV (fun _ _ => .loc hv hE hl hd) fun s1 g => by exact q s1 g)
theorem Rs.sL {y : Str} {v : Value} (g : Rs C I G m r rows fz tl s) (hv : m y = some v) (hE : EOk env (I.on G)) (hl : env.kindOf y = some .local) (hd : (y == ("__debug__" : Str)) = false)
    (q : ∀ s', Rs C I G m r rows fz tl s' → wpAny C.M A (spliced (backTo pos (starEach rest env))) (fun vs s₂ => Q (v :: vs) s₂) E s') : wpAny C.M A (spliced (backTo pos (starEach (.Name y p0 :: rest) env))) Q E s :=
  mN (g.evV (fun _ => .loc hv hE hl hd) fun s1 g => by exact q s1 g)
end
theorem ent_put {x st : Str} {b : Addr} {tn : Str} {p1 p2 p3 : Pos} {kk : Nat} {Q : Unit → Shared → Prop} (g : Ds C I G m r rows e es fz tl s) (O : Okk C fa k) (SI : ∀ G, Stat C (I.on G).H) (ht : TabIn k fz t .none e) (hm : m tn = some (.ref t)) (hE : EOk env (I.on G)) (hl : env.kindOf tn = some .local) (hd : (tn == ("__debug__" : Str)) = false)
    (hx : (es.lookup x).isSome = false) (hz : es.length ≤ 900) (hv : Ent G (x, st) (x, .ref b))
    (hc : eval (.Attribute (.Name tn p1) "entries" p2) env = (do
      let o ← eval (.Name tn p1) env
      standAt p2.atName
      let r ← holding [o] (getAttr o "entries" true)
      letTemporaryGo (.Name tn p1) o r
      pure r))
    (q : ∀ s', Ds C I G m r rows e (es ++ [(x, st)]) fz tl s' → Q () s') :
    wpAny C.M A (eval (.Attribute (.Name tn p1) "entries" p2) env) (fun v1 s1 => wpAny C.M A (eval (.Constant (.str x) kk p3) env) (fun v2 s2 => wpAny C.M A (setItem v1 v2 (.ref b)) Q E s2) E s1) E s := by
  refine g.evV (w1 := .ref e) (fun ro eo => ht.ent O (SI _) (.loc hm hE hl hd) (fun q hq => .tail _ (.tail _ (List.mem_append_left _ hq))) hc) fun s1 g => ?_
  refine g.ev (fun _ _ => .cS) fun v2 s2 e2 g => ?_
  obtain ⟨t2, rfl⟩ := e2
  exact g.put hx hz hv q

theorem law_rest {n : Nat} {f : Addr} {cdv v : Value} {tr : T} {w : Bool} {Q : Flow → Shared → Prop} (O : Oka C fa k) (SI : ∀ G, Stat C (I.on G).H) (hA : Am A (n + 41)) (X : St (I.on G) m [] s) (hv : Tree G tr v) (hok : tr.ok 5) (hcn : tr.cnt ≤ 21) (k1 : m "top" = some v) (k2 : m "waits" = some (.bool w))
    (q : ∀ G m' led s', St (I.on G) m' led s' → Q (.ret (.bool true)) s') : wpAny C.M A (execs ((fnB (stAt 40)).drop 8) (lawEnv I.L f cdv)) Q E s := by
  have S0 : Stat C (I.on G).H := SI _
  refine wpAny_execs_cons ?_
  refine wpAny_Assign_Name ?_ ?_
  rotate_left
  · rfl
  refine ev_callK S0 O.K.nR O.K.R.keep X ?_
  intro s1 X
  refine mD ?_
  refine new_dict S0 X ?_
  intro nd ndo s2 _ _ _ X
  refine mC ?_
  refine Ev.use .cS X ?_
  intro v1 s3 e1 X
  obtain ⟨t1, rfl⟩ := e1
  refine spliced_none ⟨(X.stat S0).X, ?_⟩
  refine new_report (n := n) O.K S0 (hA.le (by lia)) X ?_
  intro s4 p pd r pes pdn ro X hr1 hr2 hro
  refine store X ?_
  intro s5 X
  refine wpAny_execs_cons ?_
  refine wpAny_Assign_Name ?_ ?_
  rotate_left
  · rfl
  refine ev_callK S0 O.K.nN O.K.N.keep X ?_
  intro s6 X
  refine mC ?_
  refine Ev.use .cN X ?_
  intro v2 s7 e2 X
  obtain rfl := e2
  refine spliced_none ⟨(X.stat S0).X, ?_⟩
  refine new_table (n := n) O.K S0 (hA.le (by lia)) X rfl ?_
  intro s8 t td e tes tdn eo X ht1 ht2 hsm heo
  refine store X ?_
  intro s9 X
  have g : Ds C I G _ r [] e [] [(t, instObj k.cN td), (td, dictOf tes tdn), (p, instObj k.cR pd), (pd, dictOf pes pdn)] [(nd, ndo)] s9 := ⟨eo, ⟨ro, X.up3, [], hro, .nil⟩, [], heo, .nil⟩
  have hp : RepIn k [(t, instObj k.cN td), (td, dictOf tes tdn), (p, instObj k.cR pd), (pd, dictOf pes pdn)] p r := ⟨pd, pes, pdn, .tail _ (.tail _ (.head _)), .tail _ (.tail _ (.tail _ (.head _))), hr1, hr2⟩
  have ht : TabIn k [(t, instObj k.cN td), (td, dictOf tes tdn), (p, instObj k.cR pd), (pd, dictOf pes pdn)] t .none e := ⟨td, tes, tdn, .head _, .tail _ (.head _), ht1, ht2, rfl, hsm⟩
  have nt : Nt [(t, instObj k.cN td), (td, dictOf tes tdn), (p, instObj k.cR pd), (pd, dictOf pes pdn)] := fun q hq => by
    simp only [List.mem_cons, List.not_mem_nil, or_false] at hq
    rcases hq with rfl | rfl | rfl | rfl
    · exact instN
    · exact dictN
    · exact instN
    · exact dictN
  clear X
  generalize [(t, instObj k.cN td), (td, dictOf tes tdn), (p, instObj k.cR pd), (pd, dictOf pes pdn)] = fz at g hp ht nt
  refine wpAny_execs_cons ?_
  refine wpAny_Assign_Subscript ?_ ?_
  rotate_left
  · rfl
  refine Tuple_ ?_
  refine g.sS ?_
  intro u1 s10 g
  refine g.sI ?_
  intro u2 s11 g
  refine mTup ?_
  refine spliced_none ?_
  refine g.newT (Nat.le_of_ble_eq_true rfl) ?_
  intro b1 s12 g hle1 hT1
  refine spliced_none ?_
  refine g.newT (Nat.le_of_ble_eq_true rfl) ?_
  intro b2 s13 g hle2 hT2
  refine ent_put (st := "task") g O.K SI ht (by rfl) ⟨rfl, rfl, rfl, rfl⟩ (by rfl) (by rfl) (by rfl) (by decide) ⟨rfl, b2, _, _, rfl, hT2, fun h => absurd h (by decide)⟩ (by with_unfolding_all rfl) ?_
  intro s14 g
  replace hv := Tree.le (hle1.trans hle2) _ _ hv
  refine wpAny_execs_cons ?_
  refine wpAny_Assign_Subscript ?_ ?_
  rotate_left
  · rfl
  refine Tuple_ ?_
  refine g.sS ?_
  intro u21 s21 g
  refine g.sI ?_
  intro u22 s22 g
  refine mU ?_
  refine g.ev (fun _ _ => .neg1 .cI) ?_
  intro v30 s30 e30 g
  obtain ⟨t30, rfl⟩ := e30
  refine spliced_none ?_
  refine g.newT (Nat.le_of_ble_eq_true rfl) ?_
  intro b3 s23 g hle_b3 hT_b3
  refine ent_put (st := "event") g O.K SI ht (by rfl) ⟨rfl, rfl, rfl, rfl⟩ (by rfl) (by rfl) (by rfl) (by decide) ⟨rfl, b3, _, _, rfl, hT_b3, fun h => absurd h (by decide)⟩ (by with_unfolding_all rfl) ?_
  intro s24 g
  replace hv := Tree.le hle_b3 _ _ hv
  refine wpAny_execs_cons ?_
  refine wpAny_Assign_Subscript ?_ ?_
  rotate_left
  · rfl
  refine Tuple_ ?_
  refine g.sS ?_
  intro u41 s41 g
  refine g.sI ?_
  intro u42 s42 g
  refine mTup ?_
  refine g.sS ?_
  intro u43 s43 g
  refine g.sB ?_
  intro s44 g
  refine g.sB ?_
  intro s45 g
  refine spliced_none ?_
  refine g.newT (Nat.le_of_ble_eq_true rfl) ?_
  intro b4 s46 g hle_b4 hT_b4
  refine spliced_none ?_
  refine g.newT (Nat.le_of_ble_eq_true rfl) ?_
  intro b5 s47 g hle_b5 hT_b5
  refine ent_put (st := "var") g O.K SI ht (by rfl) ⟨rfl, rfl, rfl, rfl⟩ (by rfl) (by rfl) (by rfl) (by decide) ⟨rfl, b5, _, _, rfl, hT_b5, fun _ => ⟨_, b4, _, _, rfl, hle_b5.tup hT_b4⟩⟩ (by with_unfolding_all rfl) ?_
  intro s48 g
  replace hv := Tree.le (hle_b4.trans hle_b5) _ _ hv
  refine wpAny_execs_cons ?_
  refine wpAny_Assign_Subscript ?_ ?_
  rotate_left
  · rfl
  refine Tuple_ ?_
  refine g.sS ?_
  intro u49 s49 g
  refine g.sI ?_
  intro u50 s50 g
  refine mTup ?_
  refine g.sS ?_
  intro u51 s51 g
  refine g.sB ?_
  intro s52 g
  refine g.sB ?_
  intro s53 g
  refine spliced_none ?_
  refine g.newT (Nat.le_of_ble_eq_true rfl) ?_
  intro b6 s54 g hle_b6 hT_b6
  refine spliced_none ?_
  refine g.newT (Nat.le_of_ble_eq_true rfl) ?_
  intro b7 s55 g hle_b7 hT_b7
  refine ent_put (st := "var") g O.K SI ht (by rfl) ⟨rfl, rfl, rfl, rfl⟩ (by rfl) (by rfl) (by rfl) (by decide) ⟨rfl, b7, _, _, rfl, hT_b7, fun _ => ⟨_, b6, _, _, rfl, hle_b7.tup hT_b6⟩⟩ (by with_unfolding_all rfl) ?_
  intro s56 g
  replace hv := Tree.le (hle_b6.trans hle_b7) _ _ hv
  have hlen := chk_len w tr 5 [(runLabs (labs tr) ([], firstSc)).2] hok
  have hrl := runLabs_len (labs tr) ([], firstSc)
  have h4 : firstSc.length = 4 := rfl
  simp only [List.length_nil] at hrl
  refine wpAny_execs_cons ?_
  refine wpAny_Expr_any ?_ (by rfl) (by rfl)
  refine g.callX SI (O.K.O.nm 20 (by decide)) (O.K.O.fn 20 (by decide)) ?_
  intro s70 g
  refine g.sL (by rfl) ⟨rfl, rfl, rfl, rfl⟩ (by rfl) (by rfl) ?_
  intro s71 g
  refine g.sL (by rfl) ⟨rfl, rfl, rfl, rfl⟩ (by rfl) (by rfl) ?_
  intro s72 g
  refine g.sL (by exact k1) ⟨rfl, rfl, rfl, rfl⟩ (by rfl) (by rfl) ?_
  intro s73 g
  refine spliced_none ⟨⟨_, _, _, _, _, _, _, g⟩, ?_⟩
  refine labels_spec (n := n) O.K 5 hok (hA.le (by lia)) (g.pre SI nt) hp ht (by show 0 + 4 + _ ≤ 900; lia) (Tree.le g.tup _ _ hv) ?_
  intro s74 P
  replace hv := Tree.le (g.post P).2 _ _ hv
  have g2 : Ds C I s74.heap _ r (runLabs (labs tr) ([], firstSc)).1 e (runLabs (labs tr) ([], firstSc)).2 fz _ s74 := (g.post P).1
  clear g P
  obtain ⟨eo2, g, hes⟩ := g2
  have hch : Chn C k s74.heap ((e, eo2) :: fz) (.ref t) [(runLabs (labs tr) ([], firstSc)).2] := .cons (ht.mono fun _ h => .tail _ h) (.head _) hes .nil
  have hfi : findS [(runLabs (labs tr) ([], firstSc)).2] "i" = some "var" := by
    have h : (runLabs (labs tr) ([], firstSc)).2.lookup ("i" : Str) = some "var" := runLabs_keep (q := ([], firstSc)) (show firstSc.lookup ("i" : Str) = some "var" by decide)
    rw [findS_cons, h]
    rfl
  refine wpAny_execs_cons ?_
  refine wpAny_Expr_any ?_ (by rfl) (by rfl)
  refine g.callX SI (O.K.O.nm 21 (by decide)) (O.K.O.fn 21 (by decide)) ?_
  intro s75 g
  refine g.sL (by rfl) ⟨rfl, rfl, rfl, rfl⟩ (by rfl) (by rfl) ?_
  intro s76 g
  refine g.sL (by rfl) ⟨rfl, rfl, rfl, rfl⟩ (by rfl) (by rfl) ?_
  intro s77 g
  refine g.sL (by exact k1) ⟨rfl, rfl, rfl, rfl⟩ (by rfl) (by rfl) ?_
  intro s78 g
  refine g.sL (by exact k2) ⟨rfl, rfl, rfl, rfl⟩ (by rfl) (by rfl) ?_
  intro s79 g
  refine spliced_none ⟨g.KIn, ?_⟩
  refine stmt_check (n := n) O 5 hok (hA.le (by lia)) (g.pre SI (Ds.nt2 hes nt)) (hp.mono fun _ h => .tail _ h) (hch.mono g.tup fun _ z => z) hfi (by lia) (by lia) rfl (Tree.le g.tup _ _ hv) ?_
  intro s80 P
  replace hv := Tree.le (g.post P).2 _ _ hv
  replace g := (g.post P).1
  rw [← pot_one] at g
  have hpl : (pot w [] firstSc [tr]).length < 64 := by rw [pot_one, List.length_append]; lia
  generalize hpr : pot w [] firstSc [tr] = prows at g hpl
  refine last ?_
  refine wpAny_Return_some ?_
  refine wpAny_Compare1 ?_ (by rfl)
  obtain ⟨ro2, X, hrw⟩ := g
  have hp2 : RepIn k ((r, ro2) :: ((e, eo2) :: fz ++ [(nd, ndo)])) p r := hp.mono fun _ h => .tail _ (.tail _ (List.mem_append_left _ h))
  have S1 : Stat C (I.on s80.heap).H := SI _
  refine ev_bf S1 (O.K.O.bi "sorted" (by decide)) boot_sorted X ?_ (by decide)
  intro s81 X
  refine mA ?_
  refine Ev.use (hp2.rows O.K S1 (.loc (by rfl)) fun _ h => h) X ?_
  intro v81 s82 e81 X
  obtain rfl := e81.symm
  refine spliced_none ?_
  refine sorted_rows X (.head _) hrw hpl ?_
  intro sa sao rows1 s83 hw1 hperm1 hsrt1 X
  replace hv := Tree.le X.tup _ _ hv
  clear S1
  have S1 : Stat C (I.on s83.heap).H := SI _
  replace X : St (I.on s83.heap) _ _ _ := X.rebase
  refine ev_bf S1 (O.K.O.bi "sorted" (by decide)) boot_sorted X ?_ (by decide)
  intro s84 X
  refine mK ?_
  refine ev_callX S1 (O.K.O.nm 39 (by decide)) (O.K.O.fn 39 (by decide)) X ?_
  intro s85 X
  refine mN ?_
  refine Ev.use (.loc (by exact k1)) X ?_
  intro v85 s86 e85 X
  obtain rfl := e85.symm
  refine mN ?_
  refine Ev.use (.loc (by exact k2)) X ?_
  intro v86 s87 e86 X
  obtain rfl := e86.symm
  refine spliced_none ⟨(X.stat S1).X, ?_⟩
  refine due_spec (n := n) O.K.O (hA.le (by lia)) (X.pre (l1 := []) S1 fun p hp => by cases hp) (Tree.le X.tup _ _ hv) ⟨5, hok⟩ (by lia) ?_
  intro da do_ drows s88 hwd hperm2 hget hnone P
  replace X := St.adopt X (St.post (l1 := []) (l1' := []) X P rfl fun p hp => by cases hp) rfl hget hnone
  rw [hpr] at hperm2
  replace hw1 := hw1.le X.tup
  clear S1
  have S1 : Stat C (I.on s88.heap).H := SI _
  replace X : St (I.on s88.heap) _ _ _ := X.rebase
  refine spliced_none ?_
  refine sorted_rows X (.head _) hwd (by rw [hperm2.length_eq]; exact hpl) ?_
  intro sb sbo rows2 s89 hw2 hperm3 hsrt2 X
  obtain rfl : rows1 = rows2 := hsrt1.unique hsrt2 (hperm1.trans (hperm3.trans hperm2).symm)
  have hu : A.units + 64 < cLine := by
    have := hA.hu
    have h2 : cLine ≥ 9000 := by decide
    lia
  exact eq_rows (X.get (.tail _ (.tail _ (.head _)))) (X.get (.head _)) (hw1.le X.tup) hw2 hu (q _ _ _ _ X)
end
end Mine
end

noncomputable section
open PySem PySem.W PyProof.Rows PySem.Calls PySem.Spec
set_option maxRecDepth 100000
set_option maxHeartbeats 8000000
namespace Mine
noncomputable def fas : List (Nat × Addr) := [(3, 70), (5, 84), (6, 91), (8, 105), (9, 112), (10, 119), (11, 126), (12, 133), (13, 140), (16, 161), (17, 169), (18, 177), (20, 184), (21, 191), (22, 198), (23, 205), (25, 219), (26, 226), (27, 233), (30, 245), (31, 252), (32, 259), (33, 266), (34, 271), (35, 278), (36, 285), (37, 292), (38, 299), (39, 306)]
noncomputable def fa0 (i : Nat) : Addr := (fas.lookup i).getD 0
noncomputable def kl0 : Kl := ⟨38, 28, 35, 59, 56⟩
theorem FnIn.mk2 {K : Frag} {qual : Str} {f : Addr} {st : Stmt} {nm : Str} {ar : Arguments} {bd : List Stmt} {dl : List Expr} {rt : Option Expr} {tp : List TypeParam} {sc : Scope} {ts : Option Scope} {bi : Str} {po : Pos}
    {dV kV doc : Value} {pm an} {cdv : Value} {ct od osl oc} (hk : keepIn K (.ref f) = true) (e : st = .FunctionDef nm ar bd dl rt tp sc ts bi po)
    (h : K.lookup f = some ⟨oc, od, .func (fnOf nm qual ar bd sc dV kV doc pm an cdv ct), osl⟩) (h2 : codeIn K cdv qual = true) (h3 : ar.defaults = [] → dV = .none) (h4 : kV = .none) : FnIn K qual f st :=
  ⟨hk, fun nm' ar' bd' dl' rt' tp' sc' ts' bi' po' e' => by
    rw [e] at e'
    cases e'
    exact ⟨dV, kV, doc, pm, an, cdv, ct, od, osl, oc, h, h2, h3, h4⟩⟩
theorem FnD.mk2 {K : Frag} {qual : Str} {f : Addr} {st : Stmt} {nm : Str} {ar : Arguments} {bd : List Stmt} {dl : List Expr} {rt : Option Expr} {tp : List TypeParam} {sc : Scope} {ts : Option Scope} {bi : Str} {po : Pos}
    {T : Addr} {doc : Value} {pm an} {cdv : Value} {ct od osl oc} {o : Obj} {n : Nat} (e : st = .FunctionDef nm ar bd dl rt tp sc ts bi po)
    (h : K.lookup f = some ⟨oc, od, .func (fnOf nm qual ar bd sc (.ref T) .none doc pm an cdv ct), osl⟩) (h2 : codeIn K cdv qual = true) (h3 : K.lookup T = some o) (h4 : o.data = .seq #[.bool false] n) : FnD K qual f st :=
  ⟨fun nm' ar' bd' dl' rt' tp' sc' ts' bi' po' e' => by
    rw [e] at e'
    cases e'
    exact ⟨T, doc, pm, an, cdv, ct, od, osl, oc, o, n, h, h2, h3, h4⟩⟩
structure Facts (K : Frag) : Prop where
  bi : ∀ y ∈ biNames, nsIn K mainGlobals y = some none
  nm : ∀ i ∈ fnIdx, nsIn K mainGlobals (nmAt i) = some (some (.ref (fa0 i)))
  fn : ∀ i ∈ fnIdx, FnIn K (nmAt i) (fa0 i) (stAt i)
  R : Klass K kl0.cR kl0.iR
  N : Klass K kl0.cN kl0.iN
  nR : nsIn K mainGlobals "Report" = some (some (.ref kl0.cR))
  nN : nsIn K mainGlobals "NameTable" = some (some (.ref kl0.cN))
  aNames : findIn K (.ref kl0.cR) "names" = some none
  aNet : findIn K (.ref kl0.cR) "nettype" = some none
  aRows : findIn K (.ref kl0.cR) "rows" = some none
  aAdd : findIn K (.ref kl0.cR) "add" = some (some (.ref kl0.aR))
  fnA : isFn K (.ref kl0.aR) = true
  aPar : findIn K (.ref kl0.cN) "parent" = some none
  aEnt : findIn K (.ref kl0.cN) "entries" = some none
  fR : FnIn K "Report.__init__" kl0.iR (mtAt 1 0)
  fA : FnIn K "Report.add" kl0.aR (mtAt 1 1)
  fN : FnIn K "NameTable.__init__" kl0.iN (mtAt 2 0)
  d17 : FnD K (nmAt 17) (fa0 17) (stAt 17)
  d18 : FnD K (nmAt 18) (fa0 18) (stAt 18)
theorem Facts.oka {C : Cx} (F : Facts C.K) (S : Stat C C.B) : Oka C fa0 kl0 :=
  ⟨⟨⟨S, F.bi, F.nm, F.fn⟩, F.R, F.N, F.nR, F.nN, F.aNames, F.aNet, F.aRows, F.aAdd, F.fnA, F.aPar, F.aEnt, F.fR, F.fA, F.fN⟩, F.d17, F.d18⟩
theorem facts_use {K : Frag} {h : Heap} {G : Prop} (_ : K.In h) (F : Facts K) (k : Facts K → G) : G := k F
theorem stat_of {prog : Program} {w : World} {K : Frag} {p : Program} {loose : List Str} {mg mb : Str → Option Value} {h : Heap} (X : K.In h) (T : TopRead p loose mg mb h) : Stat ⟨prog, w, K, p, loose, mg, mb, h⟩ h := ⟨X, T, fun _ _ e => e⟩
theorem law_all {C : Cx} {A : Around} {s : Shared} {I : Info} {m : Str → Option Value} {fa : Nat → Addr} {k : Kl} {l f : Addr} {cdv : Value} {vs : List Value} {ns : List Int} (O : Oka C fa k) (SI : ∀ G, Stat C (I.on G).H) (hA : Am A 41) (X : St I m [] s) (k1 : m "script" = some (.ref l)) (hl : C.B.IsList l vs.toArray) (hi : IntsAre vs ns) (hz : vs.length ≤ 1000) :
    wpAny C.M A (execs (fnB (stAt 40)) (lawEnv I.L f cdv)) (fun fl s' => fl = .ret (.bool true) ∧ (∀ b o, I.H.get? b = some o → s'.heap.get? b = some o) ∧ s'.gens = I.z.gens ∧ s'.os = I.z.os) (fun _ _ => False) s :=
  law_draw (n := 0) O.K.O SI hA X k1 hl hi hz fun G m' s' ts v w X hv hok hcn h1 h2 => law_rest (n := 0) O SI hA X hv hok hcn h1 h2 fun G m' led s' X => ⟨rfl, X.fr.keep, X.gens, X.os⟩
theorem St.start {s₁ : Shared} {h₁ : Heap} {L : Addr} {tk : Nat} {m : Str → Option Value} (F : Fr s₁.heap L h₁ m) : St ⟨s₁.heap, h₁, L, s₁⟩ m [] { s₁ with heap := h₁, toks := tk } := ⟨F, fun p hp => absurd hp List.not_mem_nil, List.nodup_nil, TupLe.refl _, rfl, rfl⟩
end Mine
namespace Mine.final
noncomputable def tw10855050123940413320 : Unit := ()
noncomputable def tw1543641582297286357 : Unit := ()
noncomputable def tw15080971510701918577 : Unit := ()
noncomputable def tw955534659494221573 : Unit := ()
noncomputable def tw11409176808490423547 : Unit := ()
noncomputable def tw2321079126958112427 : Unit := ()
noncomputable def tw2357004739631348700 : Unit := ()
noncomputable def tw305392142758549388 : Unit := ()
noncomputable def tw7421639907970033554 : Unit := ()
noncomputable def tw7847801984549298289 : Unit := ()
noncomputable def tw17518993140520580880 : Unit := ()
noncomputable def tw12900595733005133062 : Unit := ()
noncomputable def tw17808083240501529409 : Unit := ()
noncomputable def tw1023977753357071421 : Unit := ()
noncomputable def tw16160936537153262670 : Unit := ()
noncomputable def tw6408627558038916697 : Unit := ()
noncomputable def tw15827805275511034588 : Unit := ()
noncomputable def tw14078706251315611494 : Unit := ()
noncomputable def tw13198125711504249433 : Unit := ()
noncomputable def tw9323295915950350609 : Unit := ()
noncomputable def tw18263178374938755917 : Unit := ()
noncomputable def tw12400448686761273797 : Unit := ()
noncomputable def tw12904224180886492615 : Unit := ()
noncomputable def tw1036930978727434209 : Unit := ()
noncomputable def tw7418138010301858417 : Unit := ()
noncomputable def tw16682726815438651451 : Unit := ()
noncomputable def tw2167434960708656226 : Unit := ()
noncomputable def tw17729776740003046326 : Unit := ()
noncomputable def tw3602936578197981452 : Unit := ()
noncomputable def tw9735239625325958699 : Unit := ()
noncomputable def tw4144371117990100604 : Unit := ()
noncomputable def tw5867727669913414804 : Unit := ()
noncomputable def tw3268801115549755241 : Unit := ()
noncomputable def tw6197677828616337916 : Unit := ()
noncomputable def tw15076974432374580262 : Unit := ()
noncomputable def tw11659793539358505850 : Unit := ()
noncomputable def tw16224197975931463073 : Unit := ()
noncomputable def tw14005376287791743597 : Unit := ()
noncomputable def tw12234275800261845075 : Unit := ()
noncomputable def tw954828845405437352 : Unit := ()
noncomputable def tw7833768916911220442 : Unit := ()
noncomputable def tw8196545804004766000 : Unit := ()
noncomputable def tw8634380131411928257 : Unit := ()
noncomputable def tw10865263461131140414 : Unit := ()
noncomputable def tw8902228493115462823 : Unit := ()
noncomputable def tw8664426482510907556 : Unit := ()
noncomputable def tw15050375683283796140 : Unit := ()
noncomputable def tw11455286470832896224 : Unit := ()
noncomputable def tw5089064438980251878 : Unit := ()
noncomputable def tw15749131273807778147 : Unit := ()
noncomputable def tw15874777749913318607 : Unit := ()
noncomputable def tw15205743503277619710 : Unit := ()
noncomputable def tw10042153376342002085 : Unit := ()
noncomputable def tw7849055961647869931 : Unit := ()
noncomputable def tw8956541503333826556 : Unit := ()
noncomputable def tw14476525473978586552 : Unit := ()
noncomputable def tw11449768931154743443 : Unit := ()
noncomputable def tw4159726634035685250 : Unit := ()
noncomputable def tw8762036396747011047 : Unit := ()
noncomputable def tw17951112728021898439 : Unit := ()
noncomputable def tw9774023377897349885 : Unit := ()
noncomputable def tw16208415720716193051 : Unit := ()
noncomputable def tw14381790933468784648 : Unit := ()
noncomputable def tw10405456934154409483 : Unit := ()
noncomputable def tw4286641480978020330 : Unit := ()
noncomputable def tw10663953652200916614 : Unit := ()
noncomputable def tw17530486881934591621 : Unit := ()
noncomputable def tw16213496923453673951 : Unit := ()
noncomputable def tw9571212941379925581 : Unit := ()
noncomputable def tw8387401590369894660 : Unit := ()
noncomputable def tw17383074198191274772 : Unit := ()
noncomputable def tw7103071557968147758 : Unit := ()
noncomputable def tw18026312885207256928 : Unit := ()
end Mine.final
set_option Elab.async true in
theorem Mine.final : PySem.Challenge.rw_sj0051_01.Holds := by
  w_on; o_law; k_head; (case hw => w_witness2)
  k_go0
  rename_i w s₀ s₁ mg mb G Y fa o pm doc kV ho hg KX X V GL T B TE TW mb1 mb2 M a7 a6 hcd ns hs hlay0 hL1 hr1 hl2 w4 w3 l vs was hL ra w1 r0 hI hr hc1 hc2 K0 hD h₁ F N0
  clear hcd hD ho GL TE TW M X V G Y hs hlay0 hL1 hr1 hl2 ra w1 r0 hr hc2 K0 B
  refine Mine.facts_use KX ⟨?_, ?_, ?_, ⟨by kernel_rfl, by kernel_rfl, by kernel_rfl, by kernel_rfl, by kernel_rfl, by kernel_rfl, by kernel_rfl, by kernel_rfl⟩, ⟨by kernel_rfl, by kernel_rfl, by kernel_rfl, by kernel_rfl, by kernel_rfl, by kernel_rfl, by kernel_rfl, by kernel_rfl⟩, by kernel_rfl, by kernel_rfl, by kernel_rfl, by kernel_rfl, by kernel_rfl, by kernel_rfl, by kernel_rfl, by kernel_rfl, by kernel_rfl, .mk2 (by kernel_rfl) rfl rfl (by kernel_rfl) (fun _ => rfl) rfl, .mk2 (by kernel_rfl) rfl rfl (by kernel_rfl) (fun _ => rfl) rfl, .mk2 (by kernel_rfl) rfl rfl (by kernel_rfl) (fun _ => rfl) rfl, .mk2 rfl rfl (by kernel_rfl) rfl rfl, .mk2 rfl rfl (by kernel_rfl) rfl rfl⟩ fun hF => ?_
  · unfold Mine.biNames
    exact List.forall_mem_cons.mpr ⟨by kernel_rfl, List.forall_mem_cons.mpr ⟨by kernel_rfl, List.forall_mem_cons.mpr ⟨by kernel_rfl, List.forall_mem_cons.mpr ⟨by kernel_rfl, List.forall_mem_cons.mpr ⟨by kernel_rfl, List.forall_mem_cons.mpr ⟨by kernel_rfl, List.forall_mem_cons.mpr ⟨by kernel_rfl, List.forall_mem_cons.mpr ⟨by kernel_rfl, List.forall_mem_cons.mpr ⟨by kernel_rfl, List.forall_mem_cons.mpr ⟨by kernel_rfl, List.forall_mem_nil _⟩⟩⟩⟩⟩⟩⟩⟩⟩⟩
  · unfold Mine.fnIdx
    exact List.forall_mem_cons.mpr ⟨by kernel_rfl, List.forall_mem_cons.mpr ⟨by kernel_rfl, List.forall_mem_cons.mpr ⟨by kernel_rfl, List.forall_mem_cons.mpr ⟨by kernel_rfl, List.forall_mem_cons.mpr ⟨by kernel_rfl, List.forall_mem_cons.mpr ⟨by kernel_rfl, List.forall_mem_cons.mpr ⟨by kernel_rfl, List.forall_mem_cons.mpr ⟨by kernel_rfl, List.forall_mem_cons.mpr ⟨by kernel_rfl, List.forall_mem_cons.mpr ⟨by kernel_rfl, List.forall_mem_cons.mpr ⟨by kernel_rfl, List.forall_mem_cons.mpr ⟨by kernel_rfl, List.forall_mem_cons.mpr ⟨by kernel_rfl, List.forall_mem_cons.mpr ⟨by kernel_rfl, List.forall_mem_cons.mpr ⟨by kernel_rfl, List.forall_mem_cons.mpr ⟨by kernel_rfl, List.forall_mem_cons.mpr ⟨by kernel_rfl, List.forall_mem_cons.mpr ⟨by kernel_rfl, List.forall_mem_cons.mpr ⟨by kernel_rfl, List.forall_mem_cons.mpr ⟨by kernel_rfl, List.forall_mem_cons.mpr ⟨by kernel_rfl, List.forall_mem_cons.mpr ⟨by kernel_rfl, List.forall_mem_cons.mpr ⟨by kernel_rfl, List.forall_mem_cons.mpr ⟨by kernel_rfl, List.forall_mem_cons.mpr ⟨by kernel_rfl, List.forall_mem_cons.mpr ⟨by kernel_rfl, List.forall_mem_cons.mpr ⟨by kernel_rfl, List.forall_mem_cons.mpr ⟨by kernel_rfl, List.forall_mem_cons.mpr ⟨by kernel_rfl, List.forall_mem_nil _⟩⟩⟩⟩⟩⟩⟩⟩⟩⟩⟩⟩⟩⟩⟩⟩⟩⟩⟩⟩⟩⟩⟩⟩⟩⟩⟩⟩⟩
  · unfold Mine.fnIdx
    exact List.forall_mem_cons.mpr ⟨.mk2 (by kernel_rfl) rfl rfl (by kernel_rfl) (fun _ => rfl) rfl, List.forall_mem_cons.mpr ⟨.mk2 (by kernel_rfl) rfl rfl (by kernel_rfl) (fun _ => rfl) rfl, List.forall_mem_cons.mpr ⟨.mk2 (by kernel_rfl) rfl rfl (by kernel_rfl) (fun _ => rfl) rfl, List.forall_mem_cons.mpr ⟨.mk2 (by kernel_rfl) rfl rfl (by kernel_rfl) (fun _ => rfl) rfl, List.forall_mem_cons.mpr ⟨.mk2 (by kernel_rfl) rfl rfl (by kernel_rfl) (fun _ => rfl) rfl, List.forall_mem_cons.mpr ⟨.mk2 (by kernel_rfl) rfl rfl (by kernel_rfl) (fun _ => rfl) rfl, List.forall_mem_cons.mpr ⟨.mk2 (by kernel_rfl) rfl rfl (by kernel_rfl) (fun _ => rfl) rfl, List.forall_mem_cons.mpr ⟨.mk2 (by kernel_rfl) rfl rfl (by kernel_rfl) (fun _ => rfl) rfl, List.forall_mem_cons.mpr ⟨.mk2 (by kernel_rfl) rfl rfl (by kernel_rfl) (fun _ => rfl) rfl, List.forall_mem_cons.mpr ⟨.mk2 (by kernel_rfl) rfl rfl (by kernel_rfl) (fun _ => rfl) rfl, List.forall_mem_cons.mpr ⟨.mk2 (by kernel_rfl) rfl rfl (by kernel_rfl) (fun h => absurd h (List.cons_ne_nil _ _)) rfl, List.forall_mem_cons.mpr ⟨.mk2 (by kernel_rfl) rfl rfl (by kernel_rfl) (fun h => absurd h (List.cons_ne_nil _ _)) rfl, List.forall_mem_cons.mpr ⟨.mk2 (by kernel_rfl) rfl rfl (by kernel_rfl) (fun _ => rfl) rfl, List.forall_mem_cons.mpr ⟨.mk2 (by kernel_rfl) rfl rfl (by kernel_rfl) (fun _ => rfl) rfl, List.forall_mem_cons.mpr ⟨.mk2 (by kernel_rfl) rfl rfl (by kernel_rfl) (fun _ => rfl) rfl, List.forall_mem_cons.mpr ⟨.mk2 (by kernel_rfl) rfl rfl (by kernel_rfl) (fun _ => rfl) rfl, List.forall_mem_cons.mpr ⟨.mk2 (by kernel_rfl) rfl rfl (by kernel_rfl) (fun _ => rfl) rfl, List.forall_mem_cons.mpr ⟨.mk2 (by kernel_rfl) rfl rfl (by kernel_rfl) (fun _ => rfl) rfl, List.forall_mem_cons.mpr ⟨.mk2 (by kernel_rfl) rfl rfl (by kernel_rfl) (fun _ => rfl) rfl, List.forall_mem_cons.mpr ⟨.mk2 (by kernel_rfl) rfl rfl (by kernel_rfl) (fun _ => rfl) rfl, List.forall_mem_cons.mpr ⟨.mk2 (by kernel_rfl) rfl rfl (by kernel_rfl) (fun _ => rfl) rfl, List.forall_mem_cons.mpr ⟨.mk2 (by kernel_rfl) rfl rfl (by kernel_rfl) (fun _ => rfl) rfl, List.forall_mem_cons.mpr ⟨.mk2 (by kernel_rfl) rfl rfl (by kernel_rfl) (fun _ => rfl) rfl, List.forall_mem_cons.mpr ⟨.mk2 (by kernel_rfl) rfl rfl (by kernel_rfl) (fun _ => rfl) rfl, List.forall_mem_cons.mpr ⟨.mk2 (by kernel_rfl) rfl rfl (by kernel_rfl) (fun _ => rfl) rfl, List.forall_mem_cons.mpr ⟨.mk2 (by kernel_rfl) rfl rfl (by kernel_rfl) (fun _ => rfl) rfl, List.forall_mem_cons.mpr ⟨.mk2 (by kernel_rfl) rfl rfl (by kernel_rfl) (fun _ => rfl) rfl, List.forall_mem_cons.mpr ⟨.mk2 (by kernel_rfl) rfl rfl (by kernel_rfl) (fun _ => rfl) rfl, List.forall_mem_cons.mpr ⟨.mk2 (by kernel_rfl) rfl rfl (by kernel_rfl) (fun _ => rfl) rfl, List.forall_mem_nil _⟩⟩⟩⟩⟩⟩⟩⟩⟩⟩⟩⟩⟩⟩⟩⟩⟩⟩⟩⟩⟩⟩⟩⟩⟩⟩⟩⟩⟩
  have hS := Mine.stat_of (prog := PySem.Challenge.rw_sj0051_01.row.prog) (w := w) KX (topRead_of T)
  have hO := Mine.Facts.oka hF hS
  refine wpAny_mono (E := fun _ _ => False) (Q := fun fl s' => fl = .ret (.bool true) ∧ (∀ b o, s₁.heap.get? b = some o → s'.heap.get? b = some o) ∧ s'.gens = s₁.gens ∧ s'.os = s₁.os) ?_ (fun fl s' hq => ?_) (fun e s' hq => hq.elim)
  · refine Mine.law_all (I := ⟨s₁.heap, h₁, s₁.heap.objs.size, s₁⟩) hO (fun _ => hS) ⟨rfl, ?_, ?_⟩ (Mine.St.start F) rfl hL hI ?_
    · rw [depth_deeper]
      decide
    · rw [units_deeper]
      decide
    · have := hI.length
      omega
  · obtain ⟨rfl, k1, k2, k3⟩ := hq
    refine ⟨.inl ⟨.bool true, .bool true, [], rfl, fun _ => rfl, .bool true, ?_, fun _ => ⟨.nil, fun _ h => absurd h List.not_mem_nil⟩⟩, k1, k3, k2.trans hg⟩
    wrow_post
end

theorem PySem.Challenge.cw_sj0051_01_holds : PySem.Challenge.rw_sj0051_01.Holds :=
  Mine.final
