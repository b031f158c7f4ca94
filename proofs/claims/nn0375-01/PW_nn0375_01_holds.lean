import PyProof.Rows.All
import Wide.All
import OpenK.AllK
import Wide.FinOn
import Lean
import PySem.Challenge.RW_nn0375_01
set_option Elab.async false
set_option maxRecDepth 100000
set_option maxHeartbeats 4000000
set_option linter.unusedVariables false
set_option compiler.extract_closed false
open PySem PySem.W PyProof.Rows PySem.Calls
namespace Mine

/-! HeadK -/
section
local macro_rules | `(tactic| o_head $_) => `(tactic| skip)
noncomputable def Ask (_ : Nat) : Prop := True
theorem asked (_ : PySem.Challenge.rw_nn0375_01.Holds) : Ask 0 = True := rfl
/-! the top's objects, as a constant of their own: the head's own line is asked for no more than these -/
theorem hk : True ∧ Ask 0 := by
  simp (disch := (w_on; refine holds_law ?_ fun said => ?_; rotate_left; k_head)) only [asked, true_and]
  trivial
end

/-! M1 -/
/-- some addresses' objects -/
noncomputable abbrev PM := Addr → Option Obj
noncomputable def Le (S S' : PM) : Prop := ∀ a o, S a = some o → S' a = some o
theorem Le.refl (S : PM) : Le S S := fun _ _ h => h
theorem Le.trans {S S' S'' : PM} (x : Le S S') (y : Le S' S'') : Le S S'' := fun a o h => y a o (x a o h)
noncomputable def put (S : PM) (a : Addr) (o : Obj) : PM := fun b => if b = a then some o else S b
theorem put_self (S : PM) (a : Addr) (o : Obj) : put S a o a = some o := by unfold put; rw [if_pos rfl]
theorem put_ne {S : PM} {a b : Addr} {o : Obj} (h : b ≠ a) : put S a o b = S b := by unfold put; rw [if_neg h]
theorem le_put {S : PM} {a : Addr} {o : Obj} (h : S a = none) : Le S (put S a o) := fun b o' e => by
  rw [put_ne (by rintro rfl; rw [h] at e; cases e)]; exact e

/-- what a frame keeps; `W`: kept, and never among the facts (the iterators of the loops around) -/
structure Kp where
  m : PM
  W : Addr → Prop

/-- what is fixed for the whole walk: the written part, the heap behind the top -/
structure Cx where
  K : Frag
  G : Heap
  g : Array GenState
  o : OsState

structure Grd (K : Frag) (G : Heap) : Prop where
  X : K.In G
  g : ∃ mg, G.Ns mainGlobals mg
  b : ∃ mb, G.Ns builtinsNs mb ∧ ∀ x : Str, x ≠ "__name__" → mb x = bootBuiltins x
  nolimit : G.NoLimit

/-- the state within a function's frame: `B` is kept, `S` holds the facts (it grows), `M` is what may change, `L` the frame with names `ρ` -/
structure StC (c : Cx) (S₀ : PM) (n₀ : Nat) (B : Kp) (S : PM) (M : List (Addr × Obj)) (L : Addr) (ρ : Str → Option Value) (h : Heap) (g : Array GenState) (o : OsState) : Prop where
  ns : h.Ns L ρ
  kb : ∀ a o, B.m a = some o → h.get? a = some o
  ks : ∀ a o, S a = some o → h.get? a = some o
  bl : B.m L = none
  wo : ∀ a, B.W a → S a = none ∧ ∃ o, B.m a = some o
  sl : S L = none
  mem : ∀ q ∈ M, h.get? q.1 = some q.2 ∧ q.1 ≠ L ∧ B.m q.1 = none ∧ S q.1 = none
  nd : (M.map (·.1)).Nodup
  gd : Grd c.K c.G
  gs : ∀ a o, c.G.get? a = some o → S a = some o
  new : ∀ a o, S a = some o → S₀ a = some o ∨ n₀ ≤ a
  big : n₀ ≤ L
  eg : g = c.g
  eo : o = c.o
noncomputable abbrev St (c : Cx) (S₀ : PM) (n₀ : Nat) (B : Kp) (S : PM) (M : List (Addr × Obj)) (L : Addr) (ρ : Str → Option Value) (s : Shared) : Prop := StC c S₀ n₀ B S M L ρ s.heap s.gens s.os

structure PreC (c : Cx) (S : PM) (h : Heap) (g : Array GenState) (o : OsState) : Prop where
  gd : Grd c.K c.G
  gs : ∀ a o, c.G.get? a = some o → S a = some o
  ks : ∀ a o, S a = some o → h.get? a = some o
  eg : g = c.g
  eo : o = c.o
noncomputable abbrev Pre (c : Cx) (S : PM) (s : Shared) : Prop := PreC c S s.heap s.gens s.os

structure PostC (c : Cx) (D : List Addr) (S : PM) (h₀ : Heap) (S' : PM) (h : Heap) (g : Array GenState) (o : OsState) : Prop where
  le : Le S S'
  ks : ∀ a o, S' a = some o → h.get? a = some o
  keep : ∀ a o, a ∉ D → h₀.get? a = some o → h.get? a = some o
  new : ∀ a o, S' a = some o → S a = some o ∨ h₀.objs.size ≤ a
  big : h₀.objs.size ≤ h.objs.size
  eg : g = c.g
  eo : o = c.o
noncomputable abbrev Post (c : Cx) (D : List Addr) (S : PM) (s : Shared) (S' : PM) (s' : Shared) : Prop := PostC c D S s.heap S' s'.heap s'.gens s'.os

/-- room for `d` calls more -/
structure Rm (A : Around) (d : Nat) : Prop where
  hh : A.handled = none
  dp : A.depth + 2 * d ≤ 900
  un : A.units + 8 * d ≤ 900

section
variable {A : Around} {d d' : Nat}
theorem Rm.le (x : Rm A d) (h : d' ≤ d) : Rm A d' := ⟨x.hh, by have := x.dp; omega, by have := x.un; omega⟩
theorem Rm.deeper (x : Rm A (d + 1)) (env : Env) : Rm (A.deeper env) d :=
  ⟨x.hh, by have := x.dp; show A.depth + 1 + 2 * d ≤ 900; omega, by have := x.un; show A.units + 3 + 8 * d ≤ 900; omega⟩
theorem Rm.in1 (x : Rm A (d + 1)) : Rm A.in1 d :=
  ⟨x.hh, by have := x.dp; show A.depth + 2 * d ≤ 900; omega, by have := x.un; show A.units + 1 + 8 * d ≤ 900; omega⟩
theorem Rm.room (x : Rm A d) : A.depth < recursionLimit := by have := x.dp; show A.depth < 1000; omega
theorem Rm.units (x : Rm A d) : A.units < cLine := by
  have := x.un
  have e : (900 : Nat) < cLine := by decide
  omega
end

section
variable {c : Cx} {B : Kp} {S₀ S S' : PM} {n₀ : Nat} {M M' : List (Addr × Obj)} {L : Addr} {ρ ρ' : Str → Option Value} {h h' : Heap} {g : Array GenState} {o : OsState}

theorem St.pre (st : StC c S₀ n₀ B S M L ρ h g o) : PreC c S h g o := ⟨st.gd, st.gs, st.ks, st.eg, st.eo⟩
theorem PreC.K (P : PreC c S h g o) : c.K.In h := P.gd.X.keeps fun a o e => P.ks a o (P.gs a o e)
theorem PreC.nolimit (P : PreC c S h g o) : h.NoLimit := P.gd.nolimit.keeps fun a o e => P.ks a o (P.gs a o e)
theorem StC.K (st : StC c S₀ n₀ B S M L ρ h g o) : c.K.In h := (St.pre st).K

theorem StC.lt (st : StC c S₀ n₀ B S M L ρ h g o) : L < h.objs.size := st.ns.lt
theorem StC.bigger (st : StC c S₀ n₀ B S M L ρ h g o) : n₀ ≤ h.objs.size := Nat.le_of_lt (Nat.lt_of_le_of_lt st.big st.lt)
theorem StC.ltS (st : StC c S₀ n₀ B S M L ρ h g o) {a : Addr} {x : Obj} (e : S a = some x) : a < h.objs.size := Heap.lt_size (st.ks a x e)
theorem none_of {S : PM} {a : Addr} (h : ∀ o, S a ≠ some o) : S a = none := by
  cases q : S a with
  | none => rfl
  | some o => exact absurd q (h o)
theorem StC.fresh (st : StC c S₀ n₀ B S M L ρ h g o) : S h.objs.size = none := none_of fun _ e => Nat.lt_irrefl _ (st.ltS e)
theorem StC.freshB (st : StC c S₀ n₀ B S M L ρ h g o) : B.m h.objs.size = none := none_of fun _ e => Nat.lt_irrefl _ (Heap.lt_size (st.kb _ _ e))

/-- the names change -/
theorem StC.names (st : StC c S₀ n₀ B S M L ρ h g o) (hn : h'.Ns L ρ') (hs : Heap.SameBut L h h') : StC c S₀ n₀ B S M L ρ' h' g o where
  ns := hn
  kb := fun a x e => (hs.2 a (by rintro rfl; rw [st.bl] at e; cases e)).trans (st.kb a x e)
  ks := fun a x e => (hs.2 a (by rintro rfl; rw [st.sl] at e; cases e)).trans (st.ks a x e)
  bl := st.bl
  wo := st.wo
  sl := st.sl
  mem := fun q hq => let m := st.mem q hq; ⟨(hs.2 _ m.2.1).trans m.1, m.2⟩
  nd := st.nd
  gd := st.gd
  gs := st.gs
  new := st.new
  big := st.big
  eg := st.eg
  eo := st.eo

/-- a new object that will not change -/
theorem StC.push (st : StC c S₀ n₀ B S M L ρ h g o) (x : Obj) (hf : x.isFreed = false) : StC c S₀ n₀ B (put S h.objs.size x) M L ρ (h.push x) g o where
  ns := st.ns.push x
  kb := fun a y e => Heap.get?_push_of_some _ (st.kb a y e)
  ks := fun a y e => by
    by_cases q : a = h.objs.size
    · subst q; rw [put_self] at e; cases e; exact Heap.get?_push_size _ hf
    · rw [put_ne q] at e; exact Heap.get?_push_of_some _ (st.ks a y e)
  bl := st.bl
  wo := fun a ha => let ⟨e1, o, e2⟩ := st.wo a ha; ⟨by rw [put_ne (Nat.ne_of_lt (Heap.lt_size (st.kb _ _ e2)))]; exact e1, o, e2⟩
  sl := by rw [put_ne (Nat.ne_of_lt st.lt)]; exact st.sl
  mem := fun q hq => let m := st.mem q hq; ⟨Heap.get?_push_of_some _ m.1, m.2.1, m.2.2.1, by rw [put_ne (Nat.ne_of_lt (Heap.lt_size m.1))]; exact m.2.2.2⟩
  nd := st.nd
  gd := st.gd
  gs := fun a y e => le_put st.fresh a y (st.gs a y e)
  new := fun a y e => by
    by_cases q : a = h.objs.size
    · exact .inr (q ▸ st.bigger)
    · rw [put_ne q] at e; exact st.new a y e
  big := st.big
  eg := st.eg
  eo := st.eo

/-- a new object that may change -/
theorem StC.pushM (st : StC c S₀ n₀ B S M L ρ h g o) (x : Obj) (hf : x.isFreed = false) : StC c S₀ n₀ B S ((h.objs.size, x) :: M) L ρ (h.push x) g o where
  ns := st.ns.push x
  kb := fun a y e => Heap.get?_push_of_some _ (st.kb a y e)
  ks := fun a y e => Heap.get?_push_of_some _ (st.ks a y e)
  bl := st.bl
  wo := st.wo
  sl := st.sl
  mem := fun q hq => by
    rcases List.mem_cons.mp hq with rfl | hq
    · exact ⟨Heap.get?_push_size _ hf, Nat.ne_of_gt st.lt, st.freshB, st.fresh⟩
    · exact let m := st.mem q hq; ⟨Heap.get?_push_of_some _ m.1, m.2⟩
  nd := by
    show (h.objs.size :: M.map (·.1)).Nodup
    refine List.nodup_cons.mpr ⟨fun q => ?_, st.nd⟩
    obtain ⟨p, hp, e⟩ := List.mem_map.mp q
    exact Nat.lt_irrefl _ (e ▸ Heap.lt_size (st.mem p hp).1)
  gd := st.gd
  gs := st.gs
  new := st.new
  big := st.big
  eg := st.eg
  eo := st.eo

/-- one changeable object is turned -/
inductive UpM (a : Addr) (x x' : Obj) : List (Addr × Obj) → List (Addr × Obj) → Prop
  | head {r} : UpM a x x' ((a, x) :: r) ((a, x') :: r)
  | tail {p r r'} : UpM a x x' r r' → UpM a x x' (p :: r) (p :: r')
theorem UpM.keys {a : Addr} {x x' : Obj} : ∀ {M M' : List (Addr × Obj)}, UpM a x x' M M' → M'.map (·.1) = M.map (·.1)
  | _, _, .head => rfl
  | _, _, .tail (p := p) r => by show p.1 :: _ = p.1 :: _; rw [r.keys]
theorem UpM.mem {a : Addr} {x x' : Obj} : ∀ {M M' : List (Addr × Obj)}, UpM a x x' M M' → (a, x) ∈ M
  | _, _, .head => .head _
  | _, _, .tail r => .tail _ r.mem
theorem UpM.get {a : Addr} {x x' : Obj} : ∀ {M M' : List (Addr × Obj)}, UpM a x x' M M' → (M.map (·.1)).Nodup → ∀ q ∈ M', q = (a, x') ∨ (q ∈ M ∧ q.1 ≠ a)
  | _, _, .head (r := r), nd, q, hq => by
    rcases List.mem_cons.mp hq with rfl | hq
    · exact .inl rfl
    · refine .inr ⟨.tail _ hq, fun e => ?_⟩
      have h1 : a ∉ r.map (·.1) := (List.nodup_cons.mp nd).1
      have h2 : q.1 ∈ r.map (·.1) := List.mem_map_of_mem (f := (·.1)) hq
      rw [e] at h2
      exact h1 h2
  | _, _, .tail (p := p) r, nd, q, hq => by
    rcases List.mem_cons.mp hq with rfl | hq
    · refine .inr ⟨.head _, fun e => ?_⟩
      have h1 := (List.nodup_cons.mp nd).1
      have h2 := List.mem_map_of_mem (f := fun (p : Addr × Obj) => p.1) r.mem
      have h2 : a ∈ _ := h2
      rw [← e] at h2
      exact h1 h2
    · exact (r.get (List.nodup_cons.mp nd).2 q hq).imp id fun y => ⟨.tail _ y.1, y.2⟩

theorem StC.upd (st : StC c S₀ n₀ B S M L ρ h g o) {a : Addr} {x x' : Obj} (U : UpM a x x' M M') (hs : Heap.SameBut a h h') (hx : h'.get? a = some x') : StC c S₀ n₀ B S M' L ρ h' g o := by
  have ma := st.mem _ U.mem
  have nb : ∀ (P : PM), P a = none → ∀ b y, P b = some y → b ≠ a := fun P e b y q z => by rw [z, e] at q; cases q
  exact {
    ns := st.ns.sameBut hs (Ne.symm ma.2.1)
    kb := fun b y e => (hs.2 b (nb _ ma.2.2.1 b y e)).trans (st.kb b y e)
    ks := fun b y e => (hs.2 b (nb _ ma.2.2.2 b y e)).trans (st.ks b y e)
    bl := st.bl
    wo := st.wo
    sl := st.sl
    mem := fun q hq => by
      rcases U.get st.nd q hq with rfl | ⟨hq, hne⟩
      · exact ⟨hx, ma.2⟩
      · exact let m := st.mem q hq; ⟨(hs.2 _ hne).trans m.1, m.2⟩
    nd := by rw [U.keys]; exact st.nd
    gd := st.gd
    gs := st.gs
    new := st.new
    big := st.big
    eg := st.eg
    eo := st.eo }

/-- the first changeable object is made unchangeable (it was made in this call) -/
theorem StC.freeze {a : Addr} {x : Obj} (st : StC c S₀ n₀ B S ((a, x) :: M) L ρ h g o) (ha : n₀ ≤ a) : StC c S₀ n₀ B (put S a x) M L ρ h g o := by
  have ma := st.mem _ (.head _)
  have nd := List.nodup_cons.mp st.nd
  exact {
    ns := st.ns
    kb := st.kb
    ks := fun b y e => by
      by_cases q : b = a
      · subst q; rw [put_self] at e; cases e; exact ma.1
      · rw [put_ne q] at e; exact st.ks b y e
    bl := st.bl
    wo := fun b hb => let ⟨e1, y, e2⟩ := st.wo b hb; ⟨by rw [put_ne (fun q => by rw [q, ma.2.2.1] at e2; cases e2)]; exact e1, y, e2⟩
    sl := by rw [put_ne (Ne.symm ma.2.1)]; exact st.sl
    mem := fun q hq => let m := st.mem q (.tail _ hq); ⟨m.1, m.2.1, m.2.2.1, by
      have h2 : q.1 ∈ M.map (·.1) := List.mem_map_of_mem (f := (·.1)) hq
      have h1 : a ∉ M.map (·.1) := nd.1
      rw [put_ne (fun e => by rw [e] at h2; exact h1 h2)]; exact m.2.2.2⟩
    nd := nd.2
    gd := st.gd
    gs := fun b y e => le_put ma.2.2.2 b y (st.gs b y e)
    new := fun b y e => by
      by_cases q : b = a
      · exact .inr (q ▸ ha)
      · rw [put_ne q] at e; exact st.new b y e
    big := st.big
    eg := st.eg
    eo := st.eo }
theorem StC.frozen {a : Addr} {x : Obj} (st : StC c S₀ n₀ B S ((a, x) :: M) L ρ h g o) : Le S (put S a x) := le_put (st.mem _ (.head _)).2.2.2

/-- the changeable objects in another order, or fewer -/
theorem StC.perm (st : StC c S₀ n₀ B S M L ρ h g o) (hs : ∀ q ∈ M', q ∈ M) (nd : (M'.map (·.1)).Nodup) : StC c S₀ n₀ B S M' L ρ h g o :=
  { st with mem := fun q hq => st.mem q (hs q hq), nd := nd }
theorem StC.drop {q : Addr × Obj} (st : StC c S₀ n₀ B S (q :: M) L ρ h g o) : StC c S₀ n₀ B S M L ρ h g o :=
  st.perm (fun _ hq => .tail _ hq) (List.nodup_cons.mp st.nd).2
theorem StC.swap {p q : Addr × Obj} (st : StC c S₀ n₀ B S (p :: q :: M) L ρ h g o) : StC c S₀ n₀ B S (q :: p :: M) L ρ h g o :=
  st.perm (fun r hr => by
    rcases List.mem_cons.mp hr with rfl | hr
    · exact .tail _ (.head _)
    · rcases List.mem_cons.mp hr with rfl | hr
      · exact .head _
      · exact .tail _ (.tail _ hr)) (by
    have a := List.nodup_cons.mp st.nd
    have b := List.nodup_cons.mp a.2
    refine List.nodup_cons.mpr ⟨fun z => ?_, List.nodup_cons.mpr ⟨fun z => a.1 (.tail _ z), b.2⟩⟩
    rcases List.mem_cons.mp z with e | z
    · exact a.1 (e ▸ .head _)
    · exact b.1 z)

/-- behind a call that kept all -/
theorem StC.call {g' : Array GenState} {o' : OsState} (st : StC c S₀ n₀ B S M L ρ h g o) (P : PostC c [] S h S' h' g' o') : StC c S₀ n₀ B S' M L ρ h' g' o' where
  ns := st.ns.keeps fun a x e => P.keep a x (fun z => nomatch z) e
  kb := fun a x e => P.keep a x (fun z => nomatch z) (st.kb a x e)
  ks := P.ks
  bl := st.bl
  wo := fun b hb => let ⟨e1, y, e2⟩ := st.wo b hb; ⟨none_of fun x e => (P.new b x e).elim (fun q => by rw [e1] at q; cases q) fun q => Nat.lt_irrefl _ (Nat.lt_of_lt_of_le (Heap.lt_size (st.kb _ _ e2)) q), y, e2⟩
  sl := none_of fun x e => (P.new L x e).elim (fun q => by rw [st.sl] at q; cases q) fun q => Nat.lt_irrefl _ (Nat.lt_of_lt_of_le st.lt q)
  mem := fun q hq => let m := st.mem q hq; ⟨P.keep _ _ (fun z => nomatch z) m.1, m.2.1, m.2.2.1, none_of fun x e => (P.new _ x e).elim (fun z => by rw [m.2.2.2] at z; cases z) fun z => Nat.lt_irrefl _ (Nat.lt_of_lt_of_le (Heap.lt_size m.1) z)⟩
  nd := st.nd
  gd := st.gd
  gs := fun a x e => P.le a x (st.gs a x e)
  new := fun a x e => (P.new a x e).elim (st.new a x) fun q => .inr (Nat.le_trans st.bigger q)
  big := st.big
  eg := P.eg
  eo := P.eo

/-- the end of a call that kept all it found -/
theorem StC.post {h₀ : Heap} {W : Addr → Prop} (st : StC c S₀ h₀.objs.size ⟨fun a => h₀.get? a, W⟩ S M L ρ h g o) (le : Le S₀ S) : PostC c [] S₀ h₀ S h g o :=
  ⟨le, st.ks, fun a x _ e => st.kb a x e, st.new, st.bigger, st.eg, st.eo⟩
end

/-! R1 -/
section
variable {prog : Program} {w : World} {A : Around} {E : Value → Shared → Prop} {s : Shared} {c : Cx} {B : Kp} {S₀ S : PM} {n₀ : Nat} {M M' : List (Addr × Obj)} {L : Addr} {ρ : Str → Option Value}
  {cn : Str} {cs : Scope} {f : Addr} {cd : Value} {cl : List (Str × Addr)} {x : Str} {pos : Pos} {v : Value}

theorem ldL {Q : Value → Shared → Prop} (st : St c S₀ n₀ B S M L ρ s) (hx : (envX cn cs L f cd cl).kindOf x = some .local) (hv : ρ x = some v) (hk : cs.kind = .function) (hd : (x == ("__debug__" : Str)) = false) (h : Q v s) :
    wpAny (model prog w) A (eval (.Name x pos) (envX cn cs L f cd cl)) Q E s := wpAny_Name (wpAny_loadName_local hk hx st.ns hv h) hd

theorem ldG {Q : Value → Shared → Prop} (st : St c S₀ n₀ B S M L ρ s) (hx : (envX cn cs L f cd cl).kindOf x = some .globalImplicit) (e : nsIn c.K mainGlobals x = some (some v)) (hk : cs.kind = .function) (hd : (x == ("__debug__" : Str)) = false) (h : Q v s) :
    wpAny (model prog w) A (eval (.Name x pos) (envX cn cs L f cd cl)) Q E s := by
  obtain ⟨mg, g⟩ := st.gd.g
  exact Name_function_global hk hx (loadGlobal_global (env := envX cn cs L f cd cl) (g.keeps fun a o q => st.ks a o (st.gs a o q)) (mg_of st.gd.X g e) h) hd

theorem ldB {Q : Value → Shared → Prop} (st : St c S₀ n₀ B S M L ρ s) (hx : (envX cn cs L f cd cl).kindOf x = some .globalImplicit) (e : nsIn c.K mainGlobals x = some none) (hv : bootBuiltins x = some v) (hn : x ≠ "__name__") (hk : cs.kind = .function) (hd : (x == ("__debug__" : Str)) = false) (h : Q v s) :
    wpAny (model prog w) A (eval (.Name x pos) (envX cn cs L f cd cl)) Q E s := by
  obtain ⟨mg, g⟩ := st.gd.g
  obtain ⟨mb, b, hb⟩ := st.gd.b
  have k : ∀ a o, c.G.get? a = some o → s.heap.get? a = some o := fun a o q => st.ks a o (st.gs a o q)
  exact Name_function_global hk hx (loadGlobal_builtin (env := envX cn cs L f cd cl) (g.keeps k) (mg_none_of st.gd.X g e) (b.keeps k) ((hb x hn).trans hv) h) hd

noncomputable def up (ρ : Str → Option Value) (x : Str) (v : Value) : Str → Option Value := fun y => if y = x then some v else ρ y
theorem up_self (ρ : Str → Option Value) (x : Str) (v : Value) : up ρ x v x = some v := if_pos rfl
theorem up_ne {ρ : Str → Option Value} {x y : Str} {v : Value} (h : (y == x) = false) : up ρ x v y = ρ y := if_neg (by simpa using h)

theorem stL {Q : Unit → Shared → Prop} (st : St c S₀ n₀ B S M L ρ s) (hx : (envX cn cs L f cd cl).kindOf x = some .local) (hk : cs.kind = .function)
    (h : ∀ s', St c S₀ n₀ B S M L (up ρ x v) s' → Q () s') : wpAny (model prog w) A (storeName (envX cn cs L f cd cl) x v) Q E s :=
  wpAny_storeName_local hx st.ns (fun h' hn hs => h _ (st.names hn hs)) (by show (cs.kind == .class || (cs.kind == .module && L != mainGlobals)) = false; rw [hk]; rfl)

theorem ldC {Q : Value → Shared → Prop} {d : Addr} {o : Obj} (st : St c S₀ n₀ B S M L ρ s) (hx : (envX cn cs L f cd cl).kindOf x = some .cell) (hc : cl.lookup x = some d) (hm : (d, o) ∈ M) (ho : o.data = .cell (some v)) (hk : cs.kind = .function) (hd : (x == ("__debug__" : Str)) = false) (h : Q v s) :
    wpAny (model prog w) A (eval (.Name x pos) (envX cn cs L f cd cl)) Q E s := wpAny_Name (wpAny_loadName_cell hk hx hc ⟨o, (st.mem _ hm).1, ho⟩ h) hd

theorem stC {Q : Unit → Shared → Prop} {d : Addr} {o : Obj} {v₀ : Option Value} (st : St c S₀ n₀ B S M L ρ s) (hx : (envX cn cs L f cd cl).kindOf x = some .cell) (hc : cl.lookup x = some d) (U : UpM d o { o with data := .cell (some v) } M M') (ho : o.data = .cell v₀) (hk : cs.kind = .function)
    (h : ∀ s', St c S₀ n₀ B S M' L ρ s' → Q () s') : wpAny (model prog w) A (storeName (envX cn cs L f cd cl) x v) Q E s := by
  have hg := (st.mem _ U.mem).1
  unfold storeName
  simp only [hx, hk]
  refine wpAny_bind (wpAny_cellOf (env := envX cn cs L f cd cl) hc ?_)
  unfold cellSet
  refine wpAny_bind (wpAny_load hg ?_)
  dsimp only
  rw [ho]
  refine wpAny_update hg (h _ (st.upd U (Heap.SameBut.update ..) ?_))
  exact Heap.get?_update_self _ hg rfl

/-- into a function of the text: its frame, no cells -/
theorem enter {R : Result → Shared → Prop} {d : Nat} {name qual : Str} {params : Arguments} {body : List Stmt} {scope : Scope} {dV kV doc pm cdv ct oc : Value} {an od : Option Addr} {osl : Array (Option Value)} {a : Addr} {args : Args} {binds : List (Str × Value)}
    (P : Pre c S s) (hA : Rm A (d + 1))
    (ho : c.K.lookup a = some ⟨oc, od, .func (fnX name qual params body scope cl dV kV doc pm an cdv ct), osl⟩) (hcd : codeIn c.K cdv qual = true)
    (hbind : BindsTo s (fnX name qual params body scope cl dV kV doc pm an cdv ct) args binds) (hloc : ∀ y ∈ binds, scope.names.lookup y.1 = some .local)
    (hcell : ∀ x ∈ scope.names, x.2 ≠ .cell) (hco : scope.isCoroutine = false) (hgen : scope.isGenerator = false) (hk : scope.kind = .function)
    (h : ∀ A' L n₀ B s', Rm A' d → St c S n₀ B S [] L (fun y => binds.reverse.lookup y) s' → (∀ S' M' ρ' s'', St c S n₀ B S' M' L ρ' s'' → Le S S' → Post c [] S s S' s'') →
      wpAny (model prog w) A' (execs body (envX qual scope L a cdv cl)) (fun fl s' => R (.ok (.ret (match fl with | .ret v => v | _ => .none))) s') (fun _ _ => False) s') :
    codeAny (model prog w) A (.call (.ref a) args) R s := by
  have X := P.K
  refine codeAny_call_def hA.room (X _ _ ho) rfl P.nolimit (codeRec_of X hcd) rfl hbind hcell hloc (fun h₁ hns hk₁ => ?_) hco hgen hk
  refine wpAny_mono (h _ s.heap.objs.size s.heap.objs.size ⟨fun b => s.heap.get? b, fun _ => False⟩ _ (hA.deeper _) ?_ fun S' M' ρ' s'' st le => StC.post st le) (fun _ _ y => y) fun _ _ y => y.elim
  exact {
    ns := hns
    kb := hk₁
    ks := fun b o e => hk₁ b o (P.ks b o e)
    bl := none_of fun o e => Nat.lt_irrefl _ (Heap.lt_size e)
    wo := fun _ hb => hb.elim
    sl := none_of fun o e => Nat.lt_irrefl _ (Heap.lt_size (P.ks _ _ e))
    mem := fun _ hq => nomatch hq
    nd := .nil
    gd := P.gd
    gs := P.gs
    new := fun b o e => .inl e
    big := Nat.le_refl _
    eg := P.eg
    eo := P.eo }

/-- what a run hands back, of a function that comes back -/
theorem call_ret {fv : Value} {pos : List Value} {kw : List (Str × Value)} {Q : Value → Shared → Prop}
    (h : codeAny (model prog w) A (.call fv ⟨pos, kw⟩) (fun r s' => match r with | .ok (.ret v) => Q v s' | _ => False) s) : wpAny (model prog w) A (call fv pos kw) Q E s :=
  wpAny_call (codeAny_mono h fun r s' y => by rcases r with e | (v | _ | _ | _) <;> first | exact y | exact y.elim)
end

/-! R2 -/
section
variable {prog : Program} {w : World} {A : Around} {E : Value → Shared → Prop} {s : Shared} {c : Cx} {B : Kp} {S₀ S : PM} {n₀ : Nat} {M M' : List (Addr × Obj)} {L : Addr} {ρ : Str → Option Value} {env : Env}

noncomputable abbrev lst (vs : List Value) (n : Nat) : Obj := { cls := .type "list", data := .seq vs.toArray n }
noncomputable abbrev tup (vs : List Value) (n : Nat) : Obj := { cls := .type "tuple", data := .seq vs.toArray n }
noncomputable abbrev F0 : Value → Shared → Prop := fun _ _ => False

/-- a turn's end under a while -/
noncomputable def WEnd (I : Nat → Shared → Prop) (n : Nat) (f : Flow) (s : Shared) : Prop := (f = .next ∨ f = .cont) ∧ ∃ m, m < n ∧ I m s
theorem while_inv {test : Expr} {body : List Stmt} {pos : Pos} {Q : Flow → Shared → Prop} (I : Nat → Shared → Prop) (n : Nat) (h0 : I n s)
    (turn : ∀ n s, I n s → wpAny (model prog w) A (PySem.isTrue test env (eval test env)) (fun b s₂ =>
      if b = true then wpAny (model prog w) A (execs body env) (WEnd I n) F0 s₂ else Q .next s₂) F0 s) :
    wpAny (model prog w) A (exec (.While test body [] pos) env) Q E s := by
  refine wpAny_While ?_
  refine codeAny_whileLoop I (fun n s hI => ?_) n h0
  refine wpAny_mono (turn n s hI) (fun b s₂ h₂ => ?_) fun _ _ x => x.elim
  cases b with
  | true =>
    simp only [if_true] at h₂ ⊢
    refine wpAny_mono h₂ (fun f s₃ h₃ => ?_) fun _ _ x => x.elim
    obtain ⟨rfl | rfl, h₃⟩ := h₃ <;> exact h₃
  | false =>
    simp only [Bool.false_eq_true, if_false] at h₂ ⊢
    exact wpAny_execs_nil h₂

/-- a new list of values: it may change -/
theorem newListM {vs : List Value} {Q : Value → Shared → Prop} (st : St c S₀ n₀ B S M L ρ s) (hsz : vs.length ≤ sizeLine)
    (h : ∀ a s', n₀ ≤ a → St c S₀ n₀ B S ((a, lst vs 0) :: M) L ρ s' → Q (.ref a) s') : wpAny (model prog w) A (newList vs) Q E s :=
  wpAny_newObj_type (h _ _ st.bigger (st.pushM (lst vs 0) rfl)) (by show vs.toArray.size ≤ sizeLine; rw [List.size_toArray]; exact hsz)

theorem appendM {l : Addr} {vs : List Value} {n : Nat} {x : Value} {Q : Value → Shared → Prop} (st : St c S₀ n₀ B S M L ρ s) (U : UpM l (lst vs n) (lst (vs ++ [x]) (n + 1)) M M') (hsz : vs.length ≤ sizeLine)
    (h : ∀ s', St c S₀ n₀ B S M' L ρ s' → Q .none s') : wpAny (model prog w) A (call (.builtin "list.append") [.ref l, x]) Q E s := by
  have hg := (st.mem _ U.mem).1
  have hl : s.heap.IsList l vs.toArray := ⟨_, hg, rfl, n, rfl⟩
  refine wpAny_call_entry slot_list_append hl.typeIs entry_list_append ?_ (args_list_append _ _)
  show wpAny _ _ (updateSeq l (·.push x) >>= fun _ => ret .none) _ _ s
  refine wpAny_bind ?_
  refine wpAny_updateSeq hg rfl (wpAny_pure ⟨.none, rfl, h _ (st.upd U (Heap.SameBut.update ..) ?_)⟩) (by rw [List.size_toArray]; exact hsz)
  have e : Obj.mapSeq (·.push x) (lst vs n) = lst (vs ++ [x]) (n + 1) := by
    unfold lst Obj.mapSeq
    simp
  rw [← e]
  exact Heap.get?_update_self _ hg (by rw [e]; rfl)
end

/-! R3 -/
/-- the names of an object's dict -/
inductive EntsAre : List DictEntry → List (Str × Value) → Prop
  | nil : EntsAre [] []
  | cons {h : Int} {x : Str} {t : Tok} {v : Value} {es : List DictEntry} {xs : List (Str × Value)} : EntsAre es xs → EntsAre (⟨h, .str x t, v⟩ :: es) ((x, v) :: xs)
theorem EntsAre.len {es : List DictEntry} {xs : List (Str × Value)} (h : EntsAre es xs) : es.length = xs.length := by
  induction h with
  | nil => rfl
  | cons _ ih => simp [ih]
theorem EntsAre.norefs {es : List DictEntry} {xs : List (Str × Value)} (h : EntsAre es xs) : es.any (·.refKey) = false := by
  induction h with
  | nil => rfl
  | cons _ ih => simp only [List.any_cons, ih, Bool.or_false]; rfl
noncomputable def alook (x : Str) : List (Str × Value) → Option Value
  | [] => none
  | (y, v) :: r => if y = x then some v else alook x r
noncomputable def aput (x : Str) (v : Value) : List (Str × Value) → List (Str × Value)
  | [] => [(x, v)]
  | (y, u) :: r => if y = x then (y, v) :: r else (y, u) :: aput x v r
theorem isStr_is (x y : Str) (t : Tok) : (Value.str x t).isStr y = decide (x = y) := by
  unfold Value.isStr
  by_cases h : x = y
  · subst h; simp
  · simp [h]
theorem EntsAre.get {es : List DictEntry} {xs : List (Str × Value)} (h : EntsAre es xs) (x : Str) : getL x es = some (alook x xs) := by
  have hn := h.norefs
  unfold getL
  have e : ∀ {es xs}, EntsAre es xs → (es.find? fun en => en.key.isStr x).map (·.val) = alook x xs := by
    intro es xs h
    induction h with
    | nil => rfl
    | @cons hh y t v es xs _ ih =>
      simp only [List.find?_cons, alook, isStr_is]
      by_cases q : y = x
      · simp [q]
      · simp only [decide_eq_false q, if_neg q]; exact ih
  have e1 := e h
  cases hf : es.find? fun en => en.key.isStr x with
  | some en => rw [hf] at e1; simp only [Option.map_some] at e1; rw [← e1]
  | none => rw [hf] at e1; simp only [Option.map_none] at e1; rw [← e1, hn]; simp
theorem EntsAre.put {es : List DictEntry} {xs : List (Str × Value)} (h : EntsAre es xs) (x : Str) (hsh : Int) (t : Tok) (v : Value) : EntsAre (putL x hsh (.str x t) v es) (aput x v xs) := by
  induction h with
  | nil => exact .cons .nil
  | @cons hh y t' u es xs r ih =>
    simp only [putL, aput, isStr_is]
    by_cases q : y = x
    · rw [if_pos (by simpa using q), if_pos q]; exact .cons r
    · rw [if_neg (by simpa using q), if_neg q]; exact .cons ih
theorem aput_len (x : Str) (v : Value) : ∀ xs : List (Str × Value), (aput x v xs).length ≤ xs.length + 1
  | [] => Nat.le_refl _
  | (y, u) :: r => by
    unfold aput
    split
    · simp
    · simp only [List.length_cons]; exact Nat.succ_le_succ (aput_len x v r)

/-- an object of an own class, its names in its dict -/
inductive Inst (h : PM) (x C : Addr) (xs : List (Str × Value)) : Prop where
  | mk : ∀ dx es n, h x = some (instObj C dx) → h dx = some (dictOf es n) → EntsAre es xs → Inst h x C xs
theorem Inst.mono {h h' : PM} {x C : Addr} {xs : List (Str × Value)} (i : Inst h x C xs) (l : Le h h') : Inst h' x C xs :=
  let ⟨dx, es, n, a, b, e⟩ := i; ⟨dx, es, n, l _ _ a, l _ _ b, e⟩

section
variable {prog : Program} {w : World} {A : Around} {E : Value → Shared → Prop} {s : Shared} {c : Cx} {B : Kp} {S₀ S S' : PM} {n₀ : Nat} {M M' : List (Addr × Obj)} {L : Addr} {ρ ρ' : Str → Option Value} {env : Env}

theorem StC.M_at {a : Addr} {x : Obj} (st : St c S₀ n₀ B S M L ρ s) (hm : (a, x) ∈ M) : s.heap.get? a = some x := (st.mem _ hm).1
theorem StC.S_at {a : Addr} {x : Obj} (st : St c S₀ n₀ B S M L ρ s) (hm : S a = some x) : s.heap.get? a = some x := st.ks _ _ hm
theorem StC.inst {x C : Addr} {xs : List (Str × Value)} (st : St c S₀ n₀ B S M L ρ s) (i : Inst S x C xs) : Inst (fun a => s.heap.get? a) x C xs := i.mono st.ks
theorem StC.instM {x C dx : Addr} {es : List DictEntry} {n : Nat} {xs : List (Str × Value)} (st : St c S₀ n₀ B S M L ρ s) (hx : S x = some (instObj C dx)) (hm : (dx, dictOf es n) ∈ M) (e : EntsAre es xs) : Inst (fun a => s.heap.get? a) x C xs :=
  ⟨dx, es, n, st.ks _ _ hx, (st.mem _ hm).1, e⟩
theorem StC.notMod (st : St c S₀ n₀ B S M L ρ s) : (s.heap.objs.size == sysModules) = false :=
  beq_eq_false_iff_ne.mpr (Nat.ne_of_gt (modules_low (St.pre st).nolimit))

theorem listMeth {D : Addr} {vs : List Value} {n : Nat} {name : Str} {id : String} {pl : Sem Bool} {Q : Value × List Value → Shared → Prop} (hg : s.heap.get? D = some (lst vs n)) (slot : Slot "list" name id) (hty : typeOf (.builtin id) = pure (.type "method_descriptor"))
    (h : Q (.builtin id, [.ref D]) s) : wpAny (model prog w) A (getMethod (.ref D) name pl) Q E s :=
  getMethod_builtin ⟨_, hg, rfl⟩ PySem.F.plainAttrs_list slot hty (fun a e => by cases e; exact ⟨_, hg, rfl⟩) h

/-! dicts by ints -/
/-- a dict by ints -/
noncomputable def DI (prog : Program) (w : World) (o : Obj) (kvs : List (Int × Value)) : Prop := o.IsDictOf (intKind prog w) kvs
theorem DI.of {d : Addr} {o : Obj} {kvs : List (Int × Value)} (hg : s.heap.get? d = some o) (ho : DI prog w o kvs) : s.heap.DictOf (intKind prog w) d kvs := Heap.dictOf_iff.mpr ⟨o, hg, ho⟩
theorem dictMeth {D : Addr} {o : Obj} {kvs : List (Int × Value)} {name : Str} {id : String} {pl : Sem Bool} {Q : Value × List Value → Shared → Prop} (hg : s.heap.get? D = some o) (ho : DI prog w o kvs) (slot : Slot "dict" name id) (hty : typeOf (.builtin id) = pure (.type "method_descriptor"))
    (h : Q (.builtin id, [.ref D]) s) : wpAny (model prog w) A (getMethod (.ref D) name pl) Q E s :=
  getMethod_builtin (DI.of hg ho).mapOf.typeIs PySem.F.plainAttrs_dict slot hty (DI.of hg ho).mapOf.noDict h
theorem dictIn {d : Addr} {o : Obj} {kvs : List (Int × Value)} {k : Int} {t : Tok} {Q : Value → Shared → Prop} (hg : s.heap.get? d = some o) (ho : DI prog w o kvs) (hd : (d == sysModules) = false)
    (h : Q (.bool (valueAt kvs k).isSome) { s with toks := s.toks + 1 }) : wpAny (model prog w) A (compareOp .In (.int k t) (.ref d)) Q E s :=
  wpAny_in_of (intKind_is prog w k t) hd (DI.of hg ho).mapOf h
theorem dictNotIn {d : Addr} {o : Obj} {kvs : List (Int × Value)} {k : Int} {t : Tok} {Q : Value → Shared → Prop} (hg : s.heap.get? d = some o) (ho : DI prog w o kvs) (hd : (d == sysModules) = false)
    (h : Q (.bool (!(valueAt kvs k).isSome)) { s with toks := s.toks + 1 }) : wpAny (model prog w) A (compareOp .NotIn (.int k t) (.ref d)) Q E s :=
  wpAny_notIn_of (intKind_is prog w k t) hd (DI.of hg ho).mapOf h
theorem dictItem {d : Addr} {o : Obj} {kvs : List (Int × Value)} {k : Int} {t : Tok} {v : Value} {Q : Value → Shared → Prop} (hg : s.heap.get? d = some o) (ho : DI prog w o kvs) (hv : valueAt kvs k = some v)
    (h : Q v { s with toks := s.toks + 1 }) : wpAny (model prog w) A (getItem (.ref d) (.int k t)) Q E s :=
  wpAny_getItem_of (intKind_is prog w k t) (DI.of hg ho).mapOf hv h
theorem dictTail {d : Addr} {o : Obj} {kvs : List (Int × Value)} {k : Int} {t : Tok} {v : Value} {value slice : Expr} {Q : Value → Shared → Prop} (hg : s.heap.get? d = some o) (ho : DI prog w o kvs) (hv : valueAt kvs k = some v)
    (h : Q v { s with toks := s.toks + 1 }) (hs : subscripted slice false (.ref d) (.int k t) = operate [.ref d, .int k t] (getItem (.ref d) (.int k t)) := by with_unfolding_all rfl) :
    wpAny (model prog w) A (subscriptTail value slice (.ref d) (.int k t)) Q E s :=
  tail_any (DI.of hg ho).mapOf.typeIs slot_dict_getitem.lookup (dictItem hg ho hv h) hs
theorem dictGet1 {d : Addr} {o : Obj} {kvs : List (Int × Value)} {k : Int} {t : Tok} {Q : Value → Shared → Prop} (hg : s.heap.get? d = some o) (ho : DI prog w o kvs) (hd : (d == sysModules) = false)
    (h : Q ((valueAt kvs k).getD .none) { s with toks := s.toks + 1 }) : wpAny (model prog w) A (call (.builtin "dict.get") [.ref d, .int k t]) Q E s :=
  call_meetsIn PySem.F.slot_dict_get (DI.of hg ho).mapOf.typeIs PySem.F.entry_dict_get (PySem.F.args_dict_get_2 _ _) (meets_dict_get (intKind prog w) d (intKind_is prog w k t) hd) ⟨_, (DI.of hg ho).mapOf, h⟩
theorem dictGet2 {d : Addr} {o : Obj} {kvs : List (Int × Value)} {k : Int} {t : Tok} {v : Value} {Q : Value → Shared → Prop} (hg : s.heap.get? d = some o) (ho : DI prog w o kvs) (hd : (d == sysModules) = false)
    (h : Q ((valueAt kvs k).getD v) { s with toks := s.toks + 1 }) : wpAny (model prog w) A (call (.builtin "dict.get") [.ref d, .int k t, v]) Q E s :=
  call_meetsIn PySem.F.slot_dict_get (DI.of hg ho).mapOf.typeIs PySem.F.entry_dict_get (PySem.F.args_dict_get_3 _ _ _) (meets_dict_get_default (intKind prog w) d (intKind_is prog w k t) hd v) ⟨_, (DI.of hg ho).mapOf, h⟩
theorem toksSt {t : Nat} (st : St c S₀ n₀ B S M L ρ s) : St c S₀ n₀ B S M L ρ { s with toks := t } := st

theorem dictSet {d : Addr} {o : Obj} {Mf : Obj → List (Addr × Obj)} {kvs : List (Int × Value)} {k : Int} {t : Tok} {v : Value} {Q : Unit → Shared → Prop} (st : St c S₀ n₀ B S M L ρ s) (U : ∀ o', UpM d o o' M (Mf o')) (ho : DI prog w o kvs) (hsz : kvs.length ≤ sizeLine)
    (h : ∀ o' s', DI prog w o' (stored kvs k v) → St c S₀ n₀ B S (Mf o') L ρ s' → Q () s') : wpAny (model prog w) A (setItem (.ref d) (.int k t) v) Q E s := by
  have hg := st.M_at (U o).mem
  refine wpAny_setItem_pairs (hsz := hsz) (intKind_is prog w k t) (DI.of hg ho) fun h' hm hs => ?_
  obtain ⟨o', ho', hd'⟩ := Heap.dictOf_iff.mp hm
  exact h o' _ hd' (st.upd (U o') hs ho')
theorem dictPop {d : Addr} {o : Obj} {Mf : Obj → List (Addr × Obj)} {kvs : List (Int × Value)} {k : Int} {t : Tok} {v : Value} {Q : Value → Shared → Prop} (st : St c S₀ n₀ B S M L ρ s) (U : ∀ o', UpM d o o' M (Mf o')) (ho : DI prog w o kvs) (hsz : kvs.length ≤ sizeLine) (hv : valueAt kvs k = some v)
    (h : ∀ o' s', DI prog w o' (PySem.without kvs k) → St c S₀ n₀ B S (Mf o') L ρ s' → Q v s') : wpAny (model prog w) A (call (.builtin "dict.pop") [.ref d, .int k t]) Q E s := by
  have hg := st.M_at (U o).mem
  refine call_meetsIn PySem.F.slot_dict_pop (DI.of hg ho).mapOf.typeIs PySem.F.entry_dict_pop (PySem.F.args_dict_pop_2 _ _) (meets_dict_pop_there (intKind prog w) d (intKind_is prog w k t) [] (.inl rfl) rfl) ⟨kvs, v, DI.of hg ho, hsz, hv, fun h' hm hs => ?_⟩
  obtain ⟨o', ho', hd'⟩ := Heap.dictOf_iff.mp hm
  exact h o' _ hd' (st.upd (U o') hs ho')

theorem newDictM {pos : Pos} {Q : Value → Shared → Prop} (st : St c S₀ n₀ B S M L ρ s)
    (h : ∀ a o s', n₀ ≤ a → (a == sysModules) = false → DI prog w o [] → o.IsDictOf (intKind prog w) [] → St c S₀ n₀ B S ((a, o) :: M) L ρ s' → Q (.ref a) s') : wpAny (model prog w) A (eval (.Dict [] [] pos) env) Q E s := by
  rw [eval_Dict_empty]
  refine wpAny_bind (wpAny_standAt ?_)
  unfold newDict
  refine wpAny_newObj_type ?_ (by first | trivial | exact Nat.zero_le _ | (show sizeOk _; simp [sizeOk]))
  have hd : DI prog w ({ cls := .type "dict", data := .dict #[] } : Obj) [] := ⟨#[], 0, ⟨rfl, rfl, rfl⟩, rfl, fun _ he => by simp at he, .nil, .nil⟩
  exact h _ _ _ st.bigger st.notMod hd hd (st.pushM _ rfl)
end

/-! R4 -/
/-- a list object -/
structure LO (o : Obj) (vs : List Value) : Prop where
  cls : o.cls = .type "list"
  dat : ∃ n, o.data = .seq vs.toArray n
theorem LO.lst (vs : List Value) (n : Nat) : LO (lst vs n) vs := ⟨rfl, n, rfl⟩
structure TO (o : Obj) (vs : List Value) : Prop where
  cls : o.cls = .type "tuple"
  dat : ∃ n, o.data = .seq vs.toArray n
theorem TO.tup (vs : List Value) (n : Nat) : TO (tup vs n) vs := ⟨rfl, n, rfl⟩
theorem LO.is {h : Heap} {l : Addr} {o : Obj} {vs : List Value} (x : LO o vs) (hg : h.get? l = some o) : h.IsList l vs.toArray := ⟨o, hg, x.cls, x.dat⟩
theorem TO.is {h : Heap} {l : Addr} {o : Obj} {vs : List Value} (x : TO o vs) (hg : h.get? l = some o) : IsTup h l vs.toArray := ⟨o, hg, x.cls, x.dat⟩
theorem LO.free {o : Obj} {vs : List Value} (x : LO o vs) : o.isFreed = false := by
  obtain ⟨n, e⟩ := x.dat; obtain ⟨_, _, d, _⟩ := o; cases e; rfl

section
variable {prog : Program} {w : World} {A : Around} {E : Value → Shared → Prop} {s : Shared} {c : Cx} {B : Kp} {S₀ S S' : PM} {n₀ : Nat} {M M' : List (Addr × Obj)} {L : Addr} {ρ ρ' : Str → Option Value} {env : Env}
  {h : Heap} {g : Array GenState} {o : OsState}

/-- the state told by the library's words, over an empty base: and back -/
theorem StC.out (st : StC c S₀ n₀ B S M L ρ h g o) {dx : Addr} {od : Obj} (hm : (dx, od) ∈ M) :
    ∃ rest, Fr {} L h ρ ∧ News {} L h ((dx, od) :: rest) ∧ (∀ p ∈ rest, p.1 ≠ dx) ∧
      ∀ h' ρ' od' M', UpM dx od od' M M' → Fr {} L h' ρ' → News {} L h' ((dx, od') :: rest) → StC c S₀ n₀ B S M' L ρ' h' g o := by
  have none0 : ∀ a, ({} : Heap).get? a = none := fun a => by unfold Heap.get?; simp
  have md := st.mem _ hm
  refine ⟨(List.range h.objs.size).filterMap (fun a => if a = L ∨ a = dx then none else (h.get? a).map fun x => (a, x)), ⟨st.ns, (fun b x e => by rw [none0] at e; cases e), Nat.zero_le _⟩, ?_, ?_, ?_⟩
  · intro p hp
    rcases List.mem_cons.mp hp with rfl | hp
    · exact ⟨md.1, md.2.1, none0 _⟩
    · obtain ⟨a, _, e⟩ := List.mem_filterMap.mp hp
      split at e
      · cases e
      · rename_i hne
        obtain ⟨x, hx, rfl⟩ := Option.map_eq_some_iff.mp e
        exact ⟨hx, fun q => hne (.inl q), none0 _⟩
  · intro p hp
    obtain ⟨a, _, e⟩ := List.mem_filterMap.mp hp
    split at e
    · cases e
    · rename_i hne
      obtain ⟨x, hx, rfl⟩ := Option.map_eq_some_iff.mp e
      exact fun q => hne (.inr q)
  · intro h' ρ' od' M' U F N
    have all : ∀ a x, a ≠ L → a ≠ dx → h.get? a = some x → h'.get? a = some x := fun a x hL hd e => by
      refine (N (a, x) (List.mem_cons_of_mem _ (List.mem_filterMap.mpr ⟨a, List.mem_range.mpr (Heap.lt_size e), ?_⟩))).1
      rw [if_neg (by rintro (q | q); exact hL q; exact hd q), e]; rfl
    have nb : ∀ (P : PM), P L = none → P dx = none → ∀ b y, P b = some y → b ≠ L ∧ b ≠ dx := fun P e1 e2 b y q => ⟨(fun z => by rw [z, e1] at q; cases q), (fun z => by rw [z, e2] at q; cases q)⟩
    exact {
      ns := F.ns
      kb := fun b y e => let ⟨q1, q2⟩ := nb B.m st.bl md.2.2.1 b y e; all b y q1 q2 (st.kb b y e)
      ks := fun b y e => let ⟨q1, q2⟩ := nb S st.sl md.2.2.2 b y e; all b y q1 q2 (st.ks b y e)
      bl := st.bl
      wo := st.wo
      sl := st.sl
      mem := fun q hq => by
        rcases U.get st.nd q hq with rfl | ⟨hq, hne⟩
        · exact ⟨(N _ (.head _)).1, md.2⟩
        · exact let m := st.mem q hq; ⟨all _ _ m.2.1 hne m.1, m.2⟩
      nd := by rw [U.keys]; exact st.nd
      gd := st.gd
      gs := st.gs
      new := st.new
      big := st.big
      eg := st.eg
      eo := st.eo }

/-! names of objects -/
theorem attr {x C : Addr} {xs : List (Str × Value)} {name : Str} {v : Value} {a : Option Value} {expr : Bool} {Q : Value → Shared → Prop} (st : St c S₀ n₀ B S M L ρ s) (i : Inst (fun a => s.heap.get? a) x C xs) (hl : alook name xs = some v)
    (hg : plainGet c.K C name = true) (hh : hasDictIn c.K C = true) (ha : findIn c.K (.ref C) name = some a) (hn : noGet c.K a = true) (hv : handedIn v = true) (h : Q v { s with toks := s.toks + 1 }) :
    wpAny (model prog w) A (getAttr (.ref x) name expr) Q E s := by
  obtain ⟨dx, es, n, h1, h2, e⟩ := id i
  have I : InstAt s.heap x ⟨.ref C, some dx, .plain, #[]⟩ C (some (dictOf es n)) := ⟨h1, rfl, rfl, h2⟩
  exact get_value st.K I (plainGet_of hg).1 (findObj_own hh ha hn ((lookIn_dict name es n).trans (by rw [e.get, hl]))) hv h
theorem method {x C f : Addr} {xs : List (Str × Value)} {name : Str} {pl : Sem Bool} {Q : Value × List Value → Shared → Prop} (st : St c S₀ n₀ B S M L ρ s) (i : Inst (fun a => s.heap.get? a) x C xs) (hl : alook name xs = none)
    (hg : plainGet c.K C name = true) (hf : findIn c.K (.ref C) name = some (some (.ref f))) (ht : isFn c.K (.ref f) = true) (h : Q (.ref f, [.ref x]) s) : wpAny (model prog w) A (getMethod (.ref x) name pl) Q E s := by
  obtain ⟨dx, es, n, h1, h2, e⟩ := id i
  have I : InstAt s.heap x ⟨.ref C, some dx, .plain, #[]⟩ C (some (dictOf es n)) := ⟨h1, rfl, rfl, h2⟩
  exact method_fn st.K I (plainGet_of hg).1 (plainGet_of hg).2 hf (beq_iff_eq.mp ht) (by show (lookIn name (dictOf es n)).map _ = _; rw [lookIn_dict, e.get, hl]; rfl) h
theorem setA {x C dx : Addr} {es : List DictEntry} {n : Nat} {xs : List (Str × Value)} {name : Str} {v : Value} {Mf : List DictEntry → Nat → List (Addr × Obj)} {Q : Unit → Shared → Prop} (st : St c S₀ n₀ B S M L ρ s)
    (hx : S x = some (instObj C dx)) (U : ∀ es' n', UpM dx (dictOf es n) (dictOf es' n') M (Mf es' n')) (e : EntsAre es xs) (hz : xs.length ≤ 900)
    (hs : findIn c.K (.ref C) "__setattr__" = some (some (.builtin "object.__setattr__"))) (hp : plainOver c.K C = true) (ht : takerIn c.K C name = some none) (hh : hasDictIn c.K C = true)
    (h : ∀ es' n' s', EntsAre es' (aput name v xs) → St c S₀ n₀ B S (Mf es' n') L ρ s' → Q () s') : wpAny (model prog w) A (setAttr (.ref x) name v) Q E s := by
  have hm := (U es n).mem
  obtain ⟨rest, F, N, ne, back⟩ := StC.out st hm
  have I : InstAt s.heap x ⟨.ref C, some dx, .plain, #[]⟩ C (some (dictOf es n)) := ⟨st.ks _ _ hx, rfl, rfl, (st.mem _ hm).1⟩
  have e2 := e.put name (PyData.keyHash w.params name) (s.toks + 1) v
  refine set_plain (K := c.K) st.K I hs (osa_dict (pre := []) (s := { s with toks := s.toks + 1 }) F N st.K I rfl hp ht hh (by rw [lookIn_dict, e.get]; rfl) (fun _ hp => nomatch hp) ne (putName_dict _ _ _ _ _ _) rfl ?_ fun h' F' N' => ?_)
  · rw [e2.len]; have := aput_len name v xs; omega
  · exact h _ _ _ e2 (back h' ρ _ _ (U _ _) F' N')

/-! items -/
theorem listItem {l : Addr} {lo : Obj} {vs : List Value} {k : Int} {t : Tok} {v : Value} {Q : Value → Shared → Prop} (hg : s.heap.get? l = some lo) (hl : LO lo vs) (h0 : 0 ≤ k) (hfit : k < 2 ^ 63) (hx : vs[k.toNat]? = some v) (h : Q v s) :
    wpAny (model prog w) A (getItem (.ref l) (.int k t)) Q E s := wpAny_getItem_list (hl.is hg) h0 hfit (by simpa using hx) h
theorem listTail {l : Addr} {lo : Obj} {vs : List Value} {k : Int} {t : Tok} {v : Value} {value slice : Expr} {Q : Value → Shared → Prop} (hg : s.heap.get? l = some lo) (hl : LO lo vs) (h0 : 0 ≤ k) (hfit : k < 2 ^ 63) (hx : vs[k.toNat]? = some v) (h : Q v s)
    (hs : subscripted slice false (.ref l) (.int k t) = operate [.ref l, .int k t] (getItem (.ref l) (.int k t)) := by with_unfolding_all rfl) : wpAny (model prog w) A (subscriptTail value slice (.ref l) (.int k t)) Q E s :=
  tail_any (hl.is hg).typeIs slot_list_getitem.lookup (listItem hg hl h0 hfit hx h) hs
theorem tupTail {l : Addr} {lo : Obj} {vs : List Value} {k : Int} {t : Tok} {v : Value} {value slice : Expr} {Q : Value → Shared → Prop} (hg : s.heap.get? l = some lo) (hl : TO lo vs) (h0 : 0 ≤ k) (hfit : k < 2 ^ 63) (hx : vs[k.toNat]? = some v) (h : Q v s)
    (hs : subscripted slice false (.ref l) (.int k t) = operate [.ref l, .int k t] (getItem (.ref l) (.int k t)) := by with_unfolding_all rfl) : wpAny (model prog w) A (subscriptTail value slice (.ref l) (.int k t)) Q E s := by
  have hlt : k.toNat < vs.length := (List.getElem?_eq_some_iff.mp hx).1
  refine item_tupleT (hl.is hg) (by omega) hfit (j := k.toNat) ?_ hx h hs
  unfold seqIndex?
  have hk : ¬ k < 0 := by omega
  have h2 : k < (vs.length : Int) := by omega
  simp only [if_neg hk]
  rw [if_pos (by simp [h0, h2])]
theorem setItemM {l : Addr} {lo : Obj} {vs : List Value} {k : Int} {t : Tok} {v : Value} {Mf : Obj → List (Addr × Obj)} {Q : Unit → Shared → Prop} (st : St c S₀ n₀ B S M L ρ s) (U : ∀ o', UpM l lo o' M (Mf o')) (hl : LO lo vs) (h0 : 0 ≤ k) (hfit : k < 2 ^ 63) (hn : k < vs.length)
    (h : ∀ o' s', LO o' (vs.set k.toNat v) → St c S₀ n₀ B S (Mf o') L ρ s' → Q () s') : wpAny (model prog w) A (setItem (.ref l) (.int k t) v) Q E s := by
  refine wpAny_setItem_list (hl.is (st.M_at (U lo).mem)) h0 hfit (by simpa using hn) fun h' hl' hs => ?_
  obtain ⟨o', ho', hc, n', hd⟩ := hl'
  exact h o' _ ⟨hc, n', by rw [hd]; simp⟩ (st.upd (U o') hs ho')
end

/-! R5 -/
/-- what a loop keeps: its iterators too -/
noncomputable def Kp.with (B : Kp) (wr : List Addr) (h : Heap) : Kp := ⟨fun a => if a ∈ wr then h.get? a else B.m a, fun a => a ∈ wr ∨ B.W a⟩

section
variable {prog : Program} {w : World} {A : Around} {E : Value → Shared → Prop} {s : Shared} {c : Cx} {B : Kp} {S₀ S S' : PM} {n₀ : Nat} {M M' : List (Addr × Obj)} {L : Addr} {ρ ρ' : Str → Option Value} {env : Env}
  {h h' : Heap} {g : Array GenState} {o : OsState}

/-- the iterators turned -/
theorem StC.iter {wr : List Addr} (st : StC c S₀ n₀ B S M L ρ h g o) (hk : ∀ b x, b ∉ wr → h.get? b = some x → h'.get? b = some x) (hw : ∀ b ∈ wr, b ≠ L ∧ B.m b = none ∧ S b = none ∧ b ∉ M.map (·.1)) : StC c S₀ n₀ B S M L ρ h' g o := by
  have nb : ∀ (P : PM), (∀ b ∈ wr, P b = none) → ∀ b y, P b = some y → b ∉ wr := fun P e b y q z => by rw [e b z] at q; cases q
  exact {
    ns := st.ns.at' fun x e => hk L x (fun z => (hw L z).1 rfl) e
    kb := fun b y e => hk b y (nb B.m (fun b hb => (hw b hb).2.1) b y e) (st.kb b y e)
    ks := fun b y e => hk b y (nb S (fun b hb => (hw b hb).2.2.1) b y e) (st.ks b y e)
    bl := st.bl
    wo := st.wo
    sl := st.sl
    mem := fun q hq => let m := st.mem q hq; ⟨hk _ _ (fun z => (hw _ z).2.2.2 (List.mem_map_of_mem (f := (·.1)) hq)) m.1, m.2⟩
    nd := st.nd
    gd := st.gd
    gs := st.gs
    new := st.new
    big := st.big
    eg := st.eg
    eo := st.eo }
theorem StC.keepMore {wr : List Addr} (st : StC c S₀ n₀ B S M L ρ h g o) (hob : ∀ b ∈ wr, ∃ x, h.get? b = some x) (hw : ∀ b ∈ wr, b ≠ L ∧ B.m b = none ∧ S b = none ∧ b ∉ M.map (·.1)) : StC c S₀ n₀ (B.with wr h) S M L ρ h g o :=
  { st with
    kb := fun b y e => by
      by_cases q : b ∈ wr
      · simp only [Kp.with, if_pos q] at e; exact e
      · simp only [Kp.with, if_neg q] at e; exact st.kb b y e
    bl := by
      by_cases q : L ∈ wr
      · exact absurd rfl (hw L q).1
      · simp only [Kp.with, if_neg q]; exact st.bl
    wo := fun b hb => by
      by_cases q : b ∈ wr
      · refine ⟨(hw b q).2.2.1, ?_⟩
        simp only [Kp.with, if_pos q]; exact hob b q
      · rcases hb with hb | hb
        · exact absurd hb q
        · simp only [Kp.with, if_neg q]; exact st.wo b hb
    mem := fun p hp => by
      have m := st.mem p hp
      refine ⟨m.1, m.2.1, ?_, m.2.2.2⟩
      by_cases q : p.1 ∈ wr
      · exact absurd (List.mem_map_of_mem (f := (·.1)) hp) (hw _ q).2.2.2
      · simp only [Kp.with, if_neg q]; exact m.2.2.1 }
theorem StC.keepLess {wr : List Addr} {h₁ : Heap} (st : StC c S₀ n₀ (B.with wr h₁) S M L ρ h g o) (hob : ∀ b ∈ wr, ∃ x, h₁.get? b = some x) (hw : ∀ b ∈ wr, B.m b = none) (hwo : ∀ b, B.W b → ∃ x, B.m b = some x) :
    StC c S₀ n₀ B S M L ρ h g o ∧ (∀ b ∈ wr, b ≠ L ∧ B.m b = none ∧ S b = none ∧ b ∉ M.map (·.1)) ∧ ∀ b ∈ wr, ∀ x, h₁.get? b = some x → h.get? b = some x := by
  have up : ∀ b y, B.m b = some y → (B.with wr h₁).m b = some y := fun b y e => by
    have q : b ∉ wr := fun q => by rw [hw b q] at e; cases e
    simp only [Kp.with, if_neg q]; exact e
  have dn : ∀ b, (B.with wr h₁).m b = none → B.m b = none := fun b e => none_of fun y q => by rw [up b y q] at e; cases e
  refine ⟨{ st with
    kb := fun b y e => st.kb b y (up b y e)
    bl := dn _ st.bl
    wo := fun b hb => ⟨(st.wo b (.inr hb)).1, hwo b hb⟩
    mem := fun p hp => let m := st.mem p hp; ⟨m.1, m.2.1, dn _ m.2.2.1, m.2.2.2⟩ }, fun b hb => ?_, fun b hb x e => ?_⟩
  · obtain ⟨x, hx⟩ := hob b hb
    have e : (B.with wr h₁).m b = some x := by simp only [Kp.with, if_pos hb]; exact hx
    refine ⟨fun q => ?_, hw b hb, (st.wo b (.inl hb)).1, fun q => ?_⟩
    · rw [q, st.bl] at e; cases e
    · obtain ⟨p, hp, rfl⟩ := List.mem_map.mp q
      rw [(st.mem p hp).2.2.1] at e; cases e
  · exact st.kb b x (by simp only [Kp.with, if_pos hb]; exact e)

/-- a turn's end under a for -/
inductive LEnd (c : Cx) (S₀ : PM) (n₀ : Nat) (B : Kp) (L : Addr) (J : PM → List (Addr × Obj) → (Str → Option Value) → Prop) (S' : PM) (f : Flow) (s : Shared) : Prop where
  | mk : (f = .next ∨ f = .cont) → ∀ S'' M'' ρ'', Le S' S'' → J S'' M'' ρ'' → St c S₀ n₀ B S'' M'' L ρ'' s → LEnd c S₀ n₀ B L J S' f s
theorem for_in {x : Expr} {iter : Expr} {body : List Stmt} {pos : Pos} {Q : Flow → Shared → Prop}
    (h : wpAny (model prog w) A (eval iter env) (fun xv s₁ => wpAny (model prog w) A (pyIter xv) (fun it s₂ => codeAny (model prog w) A (.forLoop x it body [] env) (fun r s' => match r with | .ok f => Q f s' | .error _ => False) s₂) F0 s₁) F0 s)
    (hs : ∀ x, foldedSetIterable iter env x = pure x) : wpAny (model prog w) A (exec (.For x iter body [] pos) env) Q E s := by
  refine wpAny_For (wpAny_mono h (fun xv s₁ h₁ => wpAny_mono h₁ (fun it s₂ h₂ => codeAny_mono h₂ fun r s' q => ?_) fun _ _ x => x.elim) fun _ _ x => x.elim) hs
  cases r with
  | ok f => exact q
  | error e => exact q.elim

/-- a loop by an invariant over the facts, what may change and the names -/
theorem loopT {I : Addr} {fp wr : List Addr} {n : Nat} {P : Nat → Value → Prop} {T : Nat → Heap → Prop} {tg : Expr} {body : List Stmt} {R : Result → Shared → Prop} (J : Nat → PM → List (Addr × Obj) → (Str → Option Value) → Prop)
    (W : Walks prog w A I fp wr n P T) (hfp : ∀ b ∈ fp, b ∈ wr ∨ ∃ y, S b = some y) (hob : ∀ i h, T i h → ∀ b ∈ wr, ∃ y, h.get? b = some y) (hw : ∀ b ∈ wr, b ≠ L ∧ B.m b = none ∧ S b = none ∧ b ∉ M.map (·.1)) (h0 : T 0 s.heap)
    (st : St c S₀ n₀ B S M L ρ s) (j0 : J 0 S M ρ)
    (turn : ∀ i v B' S' M' ρ' s', i < n → P i v → Le S S' → J i S' M' ρ' → St c S₀ n₀ B' S' M' L ρ' s' →
      wpAny (model prog w) A (assign tg env v) (fun _ s₂ => wpAny (model prog w) A (execs body env) (LEnd c S₀ n₀ B' L (J (i + 1)) S') F0 s₂) F0 s')
    (done : ∀ S' M' ρ' s', Le S S' → J n S' M' ρ' → St c S₀ n₀ B S' M' L ρ' s' → R (.ok .next) s')
    (ht : ∀ v, letOwnedTupleGo tg (.ref I) v = pure () := by intro _; rfl) :
    codeAny (model prog w) A (.forLoop tg (.ref I) body [] env) R s := by
  have hwo : ∀ b, B.W b → ∃ y, B.m b = some y := fun b hb => (st.wo b hb).2
  refine codeAny_forLoop_any (fun k s' => ∀ GG : Prop, (∀ i S' M' ρ', Le S S' → J i S' M' ρ' → St c S₀ n₀ B S' M' L ρ' s' → T i s'.heap → (∀ b ∈ wr, b ≠ L ∧ B.m b = none ∧ S' b = none ∧ b ∉ M'.map (·.1)) → i ≤ n → k = n + 1 - i → GG) → GG) ?_ (n + 1) (fun _ kk => kk 0 S M ρ (Le.refl _) j0 st h0 hw (Nat.zero_le _) rfl)
  intro k s' hI
  refine hI _ ?_
  clear hI
  rintro i S' M' ρ' le hJ st' hT hw' hi rfl
  by_cases hlt : i < n
  · refine W.item i _ _ _ hlt hT fun v h₁ tk₁ hP hT₁ hk₁ => ?_
    have st₁ := st'.iter hk₁ hw'
    have ob : ∀ b ∈ wr, ∃ y, h₁.get? b = some y := fun b hb => hob _ _ hT₁ b hb
    have st₃ := st₁.keepMore ob hw'
    refine wpAny_of_eq (ht v) ?_
    refine wpAny_mono (turn i v _ S' M' ρ' { s' with heap := h₁, toks := tk₁ } hlt hP le hJ st₃) (fun _ s₂ h₂ => wpAny_mono h₂ (fun f s₃ h₃ => ?_) fun _ _ x => x.elim) fun _ _ x => x.elim
    obtain ⟨hf, S₂, M₂, ρ₂, le₂, hJ₂, st₄⟩ := h₃
    obtain ⟨st₅, hw₅, kw⟩ := st₄.keepLess ob (fun b hb => (hw' b hb).2.1) hwo
    have fin : T (i + 1) s₃.heap := by
      refine W.frame _ _ _ hT₁ fun b hb y e => ?_
      by_cases q : b ∈ wr
      · exact kw b q y e
      · rcases hfp b hb with q' | ⟨y', e'⟩
        · exact absurd q' q
        · have e1 := st₁.ks b y' (le _ _ e')
          have : y' = y := by
            have e2 : h₁.get? b = some y' := e1
            rw [e] at e2; exact (Option.some.inj e2).symm
          subst this
          exact st₅.ks b y' (le₂ _ _ (le _ _ e'))
    have lm : n + 1 - (i + 1) < n + 1 - i := Nat.sub_lt_sub_left (Nat.lt_succ_of_lt hlt) (Nat.lt_succ_self i)
    rcases hf with rfl | rfl <;> exact ⟨_, lm, fun _ kk => kk (i + 1) S₂ M₂ ρ₂ (le.trans le₂) hJ₂ st₅ fin hw₅ hlt rfl⟩
  · have hin : i = n := Nat.le_antisymm hi (Nat.le_of_not_lt hlt)
    subst hin
    refine W.done _ _ _ hT fun h₁ tk₁ hk₁ => wpAny_execs_nil ?_
    exact done S' M' ρ' _ le hJ (st'.iter hk₁ hw')
theorem loopW {I : Addr} {fp wr : List Addr} {n : Nat} {P : Nat → Value → Prop} {T : Nat → Heap → Prop} {x : Str} {px : Pos} {body : List Stmt} {R : Result → Shared → Prop} (J : Nat → PM → List (Addr × Obj) → (Str → Option Value) → Prop)
    (W : Walks prog w A I fp wr n P T) (hfp : ∀ b ∈ fp, b ∈ wr ∨ ∃ y, S b = some y) (hob : ∀ i h, T i h → ∀ b ∈ wr, ∃ y, h.get? b = some y) (hw : ∀ b ∈ wr, b ≠ L ∧ B.m b = none ∧ S b = none ∧ b ∉ M.map (·.1)) (h0 : T 0 s.heap)
    (st : St c S₀ n₀ B S M L ρ s) (hx : env.kindOf x = some .local) (hk : env.scope.kind = .function) (hL : env.locals = L) (j0 : J 0 S M ρ)
    (turn : ∀ i v B' S' M' ρ' s', i < n → P i v → Le S S' → J i S' M' ρ' → St c S₀ n₀ B' S' M' L (up ρ' x v) s' →
      wpAny (model prog w) A (execs body env) (LEnd c S₀ n₀ B' L (J (i + 1)) S') F0 s')
    (done : ∀ S' M' ρ' s', Le S S' → J n S' M' ρ' → St c S₀ n₀ B S' M' L ρ' s' → R (.ok .next) s') :
    codeAny (model prog w) A (.forLoop (.Name x px) (.ref I) body [] env) R s := by
  refine loopT J W hfp hob hw h0 st j0 (fun i v B' S' M' ρ' s' hlt hP le hJ st' => ?_) done
  refine wpAny_assign_Name (wpAny_storeName_local hx (by rw [hL]; exact st'.ns) (fun h₂ hn₂ hs₂ => ?_) (by rw [hk]; rfl))
  rw [hL] at hn₂ hs₂
  exact turn i v B' S' M' ρ' _ hlt hP le hJ (st'.names hn₂ hs₂)

theorem StC.freshM (st : StC c S₀ n₀ B S M L ρ h g o) : h.objs.size ≠ L ∧ B.m h.objs.size = none ∧ S h.objs.size = none ∧ h.objs.size ∉ M.map (·.1) :=
  ⟨Nat.ne_of_gt st.lt, st.freshB, st.fresh, fun q => by
    obtain ⟨p, hp, e⟩ := List.mem_map.mp q
    exact Nat.lt_irrefl _ (e ▸ Heap.lt_size (st.mem p hp).1)⟩
/-- an object beside the facts: an iterator -/
theorem StC.pushBy (st : StC c S₀ n₀ B S M L ρ h g o) (x : Obj) (hf : x.isFreed = false) : StC c S₀ n₀ B S M L ρ (h.push x) g o := (st.pushM x hf).drop

theorem loop_list {l : Addr} {lo : Obj} {vs : List Value} {x : Str} {px : Pos} {body : List Stmt} {R : Result → Shared → Prop} (J : Nat → PM → List (Addr × Obj) → (Str → Option Value) → Prop)
    (st : St c S₀ n₀ B S M L ρ s) (hh : A.handled = none) (hl : S l = some lo) (hlo : LO lo vs) (hx : env.kindOf x = some .local) (hk : env.scope.kind = .function) (hL : env.locals = L) (j0 : J 0 S M ρ)
    (turn : ∀ i v B' S' M' ρ' s', vs[i]? = some v → Le S S' → J i S' M' ρ' → St c S₀ n₀ B' S' M' L (up ρ' x v) s' →
      wpAny (model prog w) A (execs body env) (LEnd c S₀ n₀ B' L (J (i + 1)) S') F0 s')
    (done : ∀ S' M' ρ' s', Le S S' → J vs.length S' M' ρ' → St c S₀ n₀ B S' M' L ρ' s' → R (.ok .next) s') :
    wpAny (model prog w) A (pyIter (.ref l)) (fun it s₂ => codeAny (model prog w) A (.forLoop (.Name x px) it body [] env) R s₂) E s := by
  have hg := st.S_at hl
  have hls := hlo.is hg
  have hne : l ≠ s.heap.objs.size := Nat.ne_of_lt (Heap.lt_size hg)
  refine wpAny_pyIter_list hls ?_
  have W := Walks.list (prog := prog) (w := w) hh s.heap.objs.size l hne vs.toArray
  have hn : vs.toArray.size = vs.length := by simp
  rw [hn] at W
  refine loopW J W ?_ ?_ (fun b hb => by rw [List.mem_singleton.mp hb]; exact st.freshM) ⟨⟨_, Heap.get?_push_size _ rfl, rfl, rfl⟩, hls.at fun o e => Heap.get?_push_of_some _ e⟩ (st.pushBy _ rfl) hx hk hL j0 (fun i v B' S' M' ρ' s' _ hP => turn i v B' S' M' ρ' s' (by simpa using hP)) done
  · intro b hb
    rcases List.mem_cons.mp hb with e | hb
    · exact .inl (by rw [e]; exact List.mem_singleton.mpr rfl)
    · exact .inr ⟨lo, (List.mem_singleton.mp hb) ▸ hl⟩
  · rintro i h ⟨⟨o, ho, _⟩, _⟩ b hb
    rw [List.mem_singleton.mp hb]
    exact ⟨o, ho⟩

theorem loop_range {r : Addr} {b₀ : Int} {t₀ u₀ v₀ : Tok} {n : Nat} {x : Str} {px : Pos} {body : List Stmt} {R : Result → Shared → Prop} (J : Nat → PM → List (Addr × Obj) → (Str → Option Value) → Prop)
    (st : St c S₀ n₀ B S M L ρ s) (hh : A.handled = none) (hr : IsRange s.heap r 0 b₀ 1 t₀ u₀ v₀) (hsmall : Builtin.Range.small 0 b₀ 1 = true) (hn : Builtin.Range.rangeSize 0 b₀ 1 = (n : Int)) (hx : env.kindOf x = some .local) (hk : env.scope.kind = .function) (hL : env.locals = L) (j0 : J 0 S M ρ)
    (turn : ∀ (i : Nat) t B' S' M' ρ' s', i < n → Le S S' → J i S' M' ρ' → St c S₀ n₀ B' S' M' L (up ρ' x (.int i t)) s' →
      wpAny (model prog w) A (execs body env) (LEnd c S₀ n₀ B' L (J (i + 1)) S') F0 s')
    (done : ∀ S' M' ρ' s', Le S S' → J n S' M' ρ' → St c S₀ n₀ B S' M' L ρ' s' → R (.ok .next) s') :
    wpAny (model prog w) A (pyIter (.ref r)) (fun it s₂ => codeAny (model prog w) A (.forLoop (.Name x px) it body [] env) R s₂) E s := by
  refine wpAny_pyIter_range hr hsmall ?_
  have W : Walks prog w A s.heap.objs.size [s.heap.objs.size] [s.heap.objs.size] n (fun i v => ∃ t, v = .int ((0 : Int) + i * 1) t)
      (fun i h => IsRangeIter h s.heap.objs.size ((0 : Int) + (i : Nat) * 1) ((n : Int) - (i : Nat)) 1) := Walks.range hh _ 0 1 n
  refine loopW J W (fun b hb => .inl hb) ?_ (fun b hb => by rw [List.mem_singleton.mp hb]; exact st.freshM) (by show IsRangeIter _ _ _ _ _; rw [hn]; simpa using Heap.get?_push_size _ rfl) (st.pushBy _ rfl) hx hk hL j0 ?_ done
  · intro i h hi b hb
    rw [List.mem_singleton.mp hb]
    exact ⟨_, hi⟩
  · rintro i v B' S' M' ρ' s' hi ⟨t, rfl⟩ le hJ st'
    have e1 : (0 : Int) + (i : Int) * 1 = (i : Int) := by rw [Int.zero_add, Int.mul_one]
    rw [e1] at st'
    exact turn i t B' S' M' ρ' s' hi le hJ st'

theorem loop_dict {d : Addr} {lo : Obj} {kvs : List (Int × Value)} {x : Str} {px : Pos} {body : List Stmt} {R : Result → Shared → Prop} (J : Nat → PM → List (Addr × Obj) → (Str → Option Value) → Prop)
    (st : St c S₀ n₀ B S M L ρ s) (hh : A.handled = none) (hl : S d = some lo) (hlo : DI prog w lo kvs) (hd : (d == sysModules) = false) (hx : env.kindOf x = some .local) (hk : env.scope.kind = .function) (hL : env.locals = L) (j0 : J 0 S M ρ)
    (turn : ∀ i k t v B' S' M' ρ' s', kvs[i]? = some (k, v) → Le S S' → J i S' M' ρ' → St c S₀ n₀ B' S' M' L (up ρ' x (.int k t)) s' →
      wpAny (model prog w) A (execs body env) (LEnd c S₀ n₀ B' L (J (i + 1)) S') F0 s')
    (done : ∀ S' M' ρ' s', Le S S' → J kvs.length S' M' ρ' → St c S₀ n₀ B S' M' L ρ' s' → R (.ok .next) s') :
    wpAny (model prog w) A (pyIter (.ref d)) (fun it s₂ => codeAny (model prog w) A (.forLoop (.Name x px) it body [] env) R s₂) E s := by
  have hg := st.S_at hl
  obtain ⟨es, ep, hed, hdat, hko, hp, hn⟩ := id hlo
  have hat : s.heap.DictAt (intKind prog w) d kvs ep := ⟨lo, es, hg, hed, hdat, hko, hp, hn⟩
  have hne : d ≠ s.heap.objs.size := Nat.ne_of_lt (Heap.lt_size hg)
  refine wpAny_pyIter_dict hd hat ?_
  have W := Walks.dictKeys (prog := prog) (w := w) (knd := intKind prog w) hh s.heap.objs.size d hne kvs ep
  refine loopW J W ?_ ?_ (fun b hb => by rw [List.mem_singleton.mp hb]; exact st.freshM) ⟨⟨_, Heap.get?_push_size _ rfl, rfl, rfl⟩, hat.at' fun o e => Heap.get?_push_of_some _ e⟩ (st.pushBy _ rfl) hx hk hL j0 ?_ done
  · intro b hb
    rcases List.mem_cons.mp hb with e | hb
    · exact .inl (by rw [e]; exact List.mem_singleton.mpr rfl)
    · exact .inr ⟨lo, (List.mem_singleton.mp hb) ▸ hl⟩
  · rintro i h ⟨⟨o, ho, _⟩, _⟩ b hb
    rw [List.mem_singleton.mp hb]
    exact ⟨o, ho⟩
  · rintro i v B' S' M' ρ' s' hi ⟨k, y, hk', his⟩ le hJ st'
    obtain ⟨t, rfl⟩ : ∃ t, v = .int k t := by
      simp only [intKind] at his
      cases v <;> simp [Value.isInt] at his
      exact ⟨_, by rw [his]⟩
    exact turn i k t y B' S' M' ρ' s' hk' le hJ st'
end

/-! R6 -/
/-- a name that holds an int -/
noncomputable def IA (ρ : Str → Option Value) (x : Str) (i : Int) : Prop := ∃ t, ρ x = some (.int i t)
theorem Rm.make {A : Around} {d : Nat} (x : Rm A (d + 1)) (C : Addr) (vals : List Value) (kw : List (Str × Value)) : Rm (A.under (.builtin "type.__call__" ⟨.ref C :: vals, kw⟩)) d :=
  ⟨x.hh, by have := x.dp; show A.depth + 1 + 2 * d ≤ 900; omega, by have := x.un; show A.units + 1 + 8 * d ≤ 900; omega⟩

section
variable {prog : Program} {w : World} {A : Around} {E : Value → Shared → Prop} {s : Shared} {c : Cx} {B : Kp} {S₀ S S' : PM} {n₀ : Nat} {M M' : List (Addr × Obj)} {L : Addr} {ρ ρ' : Str → Option Value} {env : Env}

/-- a class of the text is called: its __init__ over a new object -/
theorem enterI0 {R : Result → Shared → Prop} {d : Nat} {C : Addr} {cl : List (Str × Addr)} {name qual : Str} {params : Arguments} {body : List Stmt} {scope : Scope} {dV kV doc pm cdv ct oc : Value} {an od : Option Addr} {osl : Array (Option Value)} {a : Addr} {args : List Value} {kw : List (Str × Value)} {binds : Addr → List (Str × Value)}
    (P : Pre c S s) (hA : Rm A (d + 2)) (hm : makesIn c.K C = true) (hi : findIn c.K (.ref C) "__init__" = some (some (.ref a))) (hf : isFn c.K (.ref a) = true)
    (ho : c.K.lookup a = some ⟨oc, od, .func (fnX name qual params body scope cl dV kV doc pm an cdv ct), osl⟩) (hcd : codeIn c.K cdv qual = true)
    (hbind : ∀ x (s' : Shared), c.K.In s'.heap → BindsTo s' (fnX name qual params body scope cl dV kV doc pm an cdv ct) ⟨.ref x :: args, kw⟩ (binds x)) (hloc : ∀ x, ∀ y ∈ binds x, scope.names.lookup y.1 = some .local)
    (hcell : ∀ x ∈ scope.names, x.2 ≠ .cell) (hco : scope.isCoroutine = false) (hgen : scope.isGenerator = false) (hk : scope.kind = .function)
    (h : ∀ A' L s' x dx, Rm A' d → S x = none → s.heap.objs.size ≤ x → s.heap.objs.size ≤ dx → St c S s.heap.objs.size ⟨fun b => s.heap.get? b, fun _ => False⟩ (put S x (instObj C dx)) [(dx, dictOf [] 0)] L (fun y => (binds x).reverse.lookup y) s' →
      wpAny (model prog w) A' (execs body (envX qual scope L a cdv cl)) (fun fl s' => InitBack x R (.ok (.ret (match fl with | .ret v => v | _ => .none))) s') (fun _ _ => False) s') :
    codeAny (model prog w) A (.call (.ref C) ⟨args, kw⟩) R s := by
  have X := P.K
  obtain ⟨hh, g, dd, t, os⟩ := s
  dsimp only at X P h ⊢
  refine make_core (makes_of X hm) (looks_findIn X hi) (fun self => bind_fn X self (beq_iff_eq.mp hf)) (.inl rfl) ?_
  have e0 : (hh.push emptyDict).get? hh.objs.size = some emptyDict := Heap.get?_push_size _ rfl
  have sz : (hh.push emptyDict).objs.size = hh.objs.size + 1 := Heap.size_push ..
  have e1 : ((hh.push emptyDict).push (instObj C hh.objs.size)).get? hh.objs.size = some emptyDict := Heap.get?_push_of_some _ e0
  have e2 : ((hh.push emptyDict).push (instObj C hh.objs.size)).get? (hh.objs.size + 1) = some (instObj C hh.objs.size) := by rw [← sz]; exact Heap.get?_push_size _ rfl
  have sz2 : ((hh.push emptyDict).push (instObj C hh.objs.size)).objs.size = hh.objs.size + 2 := by rw [Heap.size_push, sz]
  have k2 : ∀ b o, hh.get? b = some o → ((hh.push emptyDict).push (instObj C hh.objs.size)).get? b = some o := fun b o e => Heap.get?_push_of_some _ (Heap.get?_push_of_some _ e)
  generalize ((hh.push emptyDict).push (instObj C hh.objs.size)) = h2 at *
  have X2 : c.K.In h2 := X.keeps k2
  have Pks : ∀ b o, S b = some o → hh.get? b = some o := P.ks
  refine codeAny_call_def (hA.make C args kw).room (X2 _ _ ho) rfl (P.nolimit.keeps k2) (codeRec_of X2 hcd) rfl (hbind _ _ X2) hcell (hloc _) (fun h₁ hns hk₁ => ?_) hco hgen hk
  have sn : S (hh.objs.size + 1) = none := none_of fun o e => by have := ltN (Heap.lt_size (Pks _ _ e)); omega
  have sd : S hh.objs.size = none := none_of fun o e => by have := ltN (Heap.lt_size (Pks _ _ e)); omega
  refine wpAny_mono (h _ h2.objs.size _ (hh.objs.size + 1) hh.objs.size ((hA.make C args kw).deeper _) sn (Nat.le_succ _) (Nat.le_refl _) ?_) (fun _ _ y => y) fun _ _ y => y.elim
  exact {
    ns := hns
    kb := fun b o e => hk₁ b o (k2 b o e)
    ks := fun b o e => by
      by_cases q : b = hh.objs.size + 1
      · subst q; rw [put_self] at e; cases e; exact hk₁ _ _ e2
      · rw [put_ne q] at e; exact hk₁ b o (k2 b o (P.ks b o e))
    bl := none_of fun o e => by have := ltN (Heap.lt_size e); omega
    wo := fun _ hb => hb.elim
    sl := by rw [put_ne (neN (by omega))]; exact none_of fun o e => by have := ltN (Heap.lt_size (Pks _ _ e)); omega
    mem := fun q hq => by
      rw [List.mem_singleton.mp hq]
      refine ⟨hk₁ _ _ e1, by show hh.objs.size ≠ h2.objs.size; omega, none_of fun o e => by have := ltN (Heap.lt_size e); dsimp only at this; omega, ?_⟩
      rw [put_ne (by show hh.objs.size ≠ hh.objs.size + 1; omega)]; exact sd
    nd := by simp
    gd := P.gd
    gs := fun b o e => le_put sn b o (P.gs b o e)
    new := fun b o e => by
      by_cases q : b = hh.objs.size + 1
      · exact .inr (by rw [q]; exact Nat.le_succ _)
      · rw [put_ne q] at e; exact .inl e
    big := by omega
    eg := P.eg
    eo := P.eo }

theorem enterI {R : Result → Shared → Prop} {d : Nat} {C : Addr} {cl : List (Str × Addr)} {name qual : Str} {params : Arguments} {body : List Stmt} {scope : Scope} {dV kV doc pm cdv ct oc : Value} {an od : Option Addr} {osl : Array (Option Value)} {a : Addr} {args : List Value} {kw : List (Str × Value)} {binds : Addr → List (Str × Value)}
    (P : Pre c S s) (hA : Rm A (d + 2)) (hm : makesIn c.K C = true) (hi : findIn c.K (.ref C) "__init__" = some (some (.ref a))) (hf : isFn c.K (.ref a) = true)
    (ho : c.K.lookup a = some ⟨oc, od, .func (fnX name qual params body scope cl dV kV doc pm an cdv ct), osl⟩) (hcd : codeIn c.K cdv qual = true)
    (hbind : ∀ x (s' : Shared), c.K.In s'.heap → BindsTo s' (fnX name qual params body scope cl dV kV doc pm an cdv ct) ⟨.ref x :: args, kw⟩ (binds x)) (hloc : ∀ x, ∀ y ∈ binds x, scope.names.lookup y.1 = some .local)
    (hcell : ∀ x ∈ scope.names, x.2 ≠ .cell) (hco : scope.isCoroutine = false) (hgen : scope.isGenerator = false) (hk : scope.kind = .function)
    (h : ∀ A' L n₀ B s' x dx, Rm A' d → S x = none → s.heap.objs.size ≤ x → n₀ ≤ dx → St c S n₀ B (put S x (instObj C dx)) [(dx, dictOf [] 0)] L (fun y => (binds x).reverse.lookup y) s' → (∀ S' M' ρ' s'', St c S n₀ B S' M' L ρ' s'' → Le S S' → Post c [] S s S' s'') →
      wpAny (model prog w) A' (execs body (envX qual scope L a cdv cl)) (fun fl s' => InitBack x R (.ok (.ret (match fl with | .ret v => v | _ => .none))) s') (fun _ _ => False) s') :
    codeAny (model prog w) A (.call (.ref C) ⟨args, kw⟩) R s :=
  enterI0 P hA hm hi hf ho hcd hbind hloc hcell hco hgen hk fun A' L s' x dx h1 h2 h3 h4 st => h A' L _ _ s' x dx h1 h2 h3 h4 st fun S' M' ρ' s'' st le => StC.post st le

/-- behind a call that kept all and made what may change -/
theorem StC.callM {h h' : Heap} {g g' : Array GenState} {o o' : OsState} {W : Addr → Prop} {L' : Addr} {ρ' : Str → Option Value} (st : StC c S₀ n₀ B S M L ρ h g o) (st' : StC c S h.objs.size ⟨fun a => h.get? a, W⟩ S' M' L' ρ' h' g' o') (le : Le S S') (fr : ∀ q ∈ M', h.objs.size ≤ q.1) : StC c S₀ n₀ B S' (M' ++ M) L ρ h' g' o' := by
  have P := st'.post le
  have st2 := st.call P
  exact { st2 with
    mem := fun q hq => by
      rcases List.mem_append.mp hq with hq | hq
      · have m := st'.mem q hq
        have f := fr q hq
        exact ⟨m.1, fun e => Nat.lt_irrefl _ (Nat.lt_of_lt_of_le st.lt (e ▸ f)), none_of fun y e => Nat.lt_irrefl _ (Nat.lt_of_lt_of_le (Heap.lt_size (st.kb _ _ e)) f), m.2.2.2⟩
      · exact st2.mem q hq
    nd := by
      rw [List.map_append]
      refine List.nodup_append.mpr ⟨st'.nd, st2.nd, fun a ha b hb e => ?_⟩
      obtain ⟨p, hp, rfl⟩ := List.mem_map.mp ha
      obtain ⟨q, hq, rfl⟩ := List.mem_map.mp hb
      exact Nat.lt_irrefl _ (Nat.lt_of_lt_of_le (Heap.lt_size (st.mem q hq).1) (e ▸ fr p hp)) }
theorem enterIM {Mc : List (Addr × Obj)} {R : Result → Shared → Prop} {d : Nat} {C : Addr} {cl : List (Str × Addr)} {name qual : Str} {params : Arguments} {body : List Stmt} {scope : Scope} {dV kV doc pm cdv ct oc : Value} {an od : Option Addr} {osl : Array (Option Value)} {a : Addr} {args : List Value} {kw : List (Str × Value)} {binds : Addr → List (Str × Value)}
    (P : St c S₀ n₀ B S Mc L ρ s) (hA : Rm A (d + 2)) (hm : makesIn c.K C = true) (hi : findIn c.K (.ref C) "__init__" = some (some (.ref a))) (hf : isFn c.K (.ref a) = true)
    (ho : c.K.lookup a = some ⟨oc, od, .func (fnX name qual params body scope cl dV kV doc pm an cdv ct), osl⟩) (hcd : codeIn c.K cdv qual = true)
    (hbind : ∀ x (s' : Shared), c.K.In s'.heap → BindsTo s' (fnX name qual params body scope cl dV kV doc pm an cdv ct) ⟨.ref x :: args, kw⟩ (binds x)) (hloc : ∀ x, ∀ y ∈ binds x, scope.names.lookup y.1 = some .local)
    (hcell : ∀ x ∈ scope.names, x.2 ≠ .cell) (hco : scope.isCoroutine = false) (hgen : scope.isGenerator = false) (hk : scope.kind = .function)
    (h : ∀ A' L' n₁ B' s' x dx, Rm A' d → S x = none → n₀ ≤ n₁ → n₁ ≤ x → n₁ ≤ dx → St c S n₁ B' (put S x (instObj C dx)) [(dx, dictOf [] 0)] L' (fun y => (binds x).reverse.lookup y) s' → (∀ S' M' ρ' s'', St c S n₁ B' S' M' L' ρ' s'' → Le S S' → (∀ q ∈ M', n₁ ≤ q.1) → St c S₀ n₀ B S' (M' ++ Mc) L ρ s'') →
      wpAny (model prog w) A' (execs body (envX qual scope L' a cdv cl)) (fun fl s' => InitBack x R (.ok (.ret (match fl with | .ret v => v | _ => .none))) s') (fun _ _ => False) s') :
    codeAny (model prog w) A (.call (.ref C) ⟨args, kw⟩) R s :=
  enterI0 (St.pre P) hA hm hi hf ho hcd hbind hloc hcell hco hgen hk fun A' L' s' x dx h1 h2 h3 h4 st => h A' L' _ _ s' x dx h1 h2 P.bigger h3 h4 st fun S' M' ρ' s'' st le fr => StC.callM P st le fr

/-- a new tuple: it does not change -/
theorem newTupF {vs : List Value} {Q : Value → Shared → Prop} (st : St c S₀ n₀ B S M L ρ s) (hsz : vs.length ≤ sizeLine)
    (h : ∀ a S' s', Le S S' → S' a = some (tup vs 0) → St c S₀ n₀ B S' M L ρ s' → Q (.ref a) s') : wpAny (model prog w) A (newTuple vs) Q E s :=
  wpAny_newObj_type (h _ _ _ (le_put st.fresh) (put_self _ _ _) (st.push (tup vs 0) rfl)) (by show vs.toArray.size ≤ sizeLine; rw [List.size_toArray]; exact hsz)
theorem newListF {vs : List Value} {Q : Value → Shared → Prop} (st : St c S₀ n₀ B S M L ρ s) (hsz : vs.length ≤ sizeLine)
    (h : ∀ a S' s', Le S S' → S' a = some (lst vs 0) → St c S₀ n₀ B S' M L ρ s' → Q (.ref a) s') : wpAny (model prog w) A (newList vs) Q E s :=
  wpAny_newObj_type (h _ _ _ (le_put st.fresh) (put_self _ _ _) (st.push (lst vs 0) rfl)) (by show vs.toArray.size ≤ sizeLine; rw [List.size_toArray]; exact hsz)

/-- `P` told behind what is changed, then made unchangeable -/
inductive Frz (S : PM) (a : Addr) (x : Obj) (P : PM → Prop) : Prop where
  | mk : ∀ S', Le S S' → S' a = some x → P S' → Frz S a x P
theorem StC.freezeTo {h : Heap} {g : Array GenState} {o : OsState} {a : Addr} {x : Obj} (st : StC c S₀ n₀ B S ((a, x) :: M) L ρ h g o) (ha : n₀ ≤ a) : Frz S a x (fun S' => StC c S₀ n₀ B S' M L ρ h g o) :=
  ⟨_, st.frozen, put_self _ _ _, st.freeze ha⟩
end

/-! R7 -/
section
variable {prog : Program} {w : World} {A : Around} {E : Value → Shared → Prop} {s : Shared} {c : Cx} {B : Kp} {S₀ S S' : PM} {n₀ : Nat} {M M' : List (Addr × Obj)} {L : Addr} {ρ ρ' : Str → Option Value} {env : Env}
  {h h' : Heap} {g : Array GenState} {o : OsState}

/-- all that stood stands -/
theorem StC.kept (st : StC c S₀ n₀ B S M L ρ h g o) (hk : ∀ b x, h.get? b = some x → h'.get? b = some x) : StC c S₀ n₀ B S M L ρ h' g o where
  ns := st.ns.keeps hk
  kb := fun b x e => hk b x (st.kb b x e)
  ks := fun b x e => hk b x (st.ks b x e)
  bl := st.bl
  wo := st.wo
  sl := st.sl
  mem := fun q hq => let m := st.mem q hq; ⟨hk _ _ m.1, m.2⟩
  nd := st.nd
  gd := st.gd
  gs := st.gs
  new := st.new
  big := st.big
  eg := st.eg
  eo := st.eo
/-- all that stood stands, and a new object -/
theorem StC.keptNew {a : Addr} {x : Obj} (st : StC c S₀ n₀ B S M L ρ h g o) (hk : ∀ b x, h.get? b = some x → h'.get? b = some x) (hx : h'.get? a = some x) (ha : h.objs.size ≤ a) : Le S (put S a x) ∧ StC c S₀ n₀ B (put S a x) M L ρ h' g o := by
  have low : ∀ {b : Addr} {y : Obj}, h.get? b = some y → b ≠ a := fun e q => Nat.lt_irrefl _ (Nat.lt_of_lt_of_le (Heap.lt_size e) (q ▸ ha))
  have sn : S a = none := none_of fun y e => low (st.ks a y e) rfl
  exact ⟨le_put sn, {
    ns := st.ns.keeps hk
    kb := fun b y e => hk b y (st.kb b y e)
    ks := fun b y e => by
      by_cases q : b = a
      · subst q; rw [put_self] at e; cases e; exact hx
      · rw [put_ne q] at e; exact hk b y (st.ks b y e)
    bl := st.bl
    wo := fun b hb => let ⟨e1, y, e2⟩ := st.wo b hb; ⟨by rw [put_ne (low (st.kb b y e2))]; exact e1, y, e2⟩
    sl := by
      obtain ⟨oL, _, _, e, _⟩ := st.ns
      rw [put_ne (low e)]; exact st.sl
    mem := fun q hq => let m := st.mem q hq; ⟨hk _ _ m.1, m.2.1, m.2.2.1, by rw [put_ne (low m.1)]; exact m.2.2.2⟩
    nd := st.nd
    gd := st.gd
    gs := fun b y e => le_put sn b y (st.gs b y e)
    new := fun b y e => by
      by_cases q : b = a
      · exact .inr (by rw [q]; exact Nat.le_trans st.bigger ha)
      · rw [put_ne q] at e; exact st.new b y e
    big := st.big
    eg := st.eg
    eo := st.eo }⟩
theorem StC.keptNewM {a : Addr} {x : Obj} (st : StC c S₀ n₀ B S M L ρ h g o) (hk : ∀ b x, h.get? b = some x → h'.get? b = some x) (hx : h'.get? a = some x) (ha : h.objs.size ≤ a) : StC c S₀ n₀ B S ((a, x) :: M) L ρ h' g o := by
  have low : ∀ {b : Addr} {y : Obj}, h.get? b = some y → b ≠ a := fun e q => Nat.lt_irrefl _ (Nat.lt_of_lt_of_le (Heap.lt_size e) (q ▸ ha))
  have st' := st.kept hk
  exact { st' with
    mem := fun q hq => by
      rcases List.mem_cons.mp hq with rfl | hq
      · obtain ⟨oL, _, _, e, _⟩ := st.ns
        exact ⟨hx, fun q => low e q.symm, none_of fun y e => low (st.kb _ y e) rfl, none_of fun y e => low (st.ks _ y e) rfl⟩
      · exact st'.mem q hq
    nd := by
      refine List.nodup_cons.mpr ⟨fun q => ?_, st.nd⟩
      obtain ⟨p, hp, e⟩ := List.mem_map.mp q
      exact low (st.mem p hp).1 e }

theorem lenL {l : Addr} {lo : Obj} {vs : List Value} {Q : Value → Shared → Prop} (hg : s.heap.get? l = some lo) (hl : LO lo vs) (hfit : vs.length < 2 ^ 62) (h : ∀ t s', s' = { s with toks := s'.toks } → Q (.int vs.length t) s') : wpAny (model prog w) A (call (.builtin "len") [.ref l]) Q E s := by
  refine Calls.call_len_list (hl.is hg) (by simp; omega) ?_
  have e : ((vs.toArray.size : Nat) : Int) = (vs.length : Int) := by simp
  rw [e]
  exact h _ _ rfl
theorem sumL {l : Addr} {lo : Obj} {vs : List Value} {ns : List Int} {Q : Value → Shared → Prop} (st : St c S₀ n₀ B S M L ρ s) (hh : A.handled = none) (hg : s.heap.get? l = some lo) (hl : LO lo vs) (hi : IntsAre vs ns)
    (h : ∀ t s', St c S₀ n₀ B S M L ρ s' → Q (.int ns.sum t) s') : wpAny (model prog w) A (call (.builtin "sum") [.ref l]) Q E s := by
  obtain ⟨xs, hx⟩ := hi.allInts.items
  have hl' : s.heap.IsList l (intItems xs) := hx ▸ hl.is hg
  refine sum_intListG hh hl' fun h' tk t' hk => ?_
  have e1 : ns = xs.toList.map (·.1) := by
    rw [← nums_intItems, ← hx]
    exact (show numsOf vs.toArray.toList = ns from hi.numsOf).symm
  have e2 : preSum (numAt xs) xs.size = ns.sum := by
    rw [preSum_eq, List.take_of_length_le (by simp), e1]
  rw [e2]
  exact h t' _ (st.kept hk)
theorem sliceL {value slice : Expr} {l : Addr} {lo : Obj} {vs us : List Value} {vl vu : Value} {a b : Option Int} {Q : Value → Shared → Prop} (st : St c S₀ n₀ B S M L ρ s) (hg : s.heap.get? l = some lo) (hl : LO lo vs) (pl : IsPart vl a) (pu : IsPart vu b) (hz : vs.length ≤ sizeLine) (e : slicePick vs.toArray a b none = us.toArray)
    (h : ∀ r S' s', Le S S' → S' r = some (lst us 0) → St c S₀ n₀ B S' M L ρ s' → Q (.ref r) s')
    (hs : subscripted slice false (.ref l) (.ref s.heap.objs.size) = operate [.ref s.heap.objs.size, .ref l] (getItem (.ref l) (.ref s.heap.objs.size)) := by with_unfolding_all rfl)
    (ht : ∀ r, letTemporaryGo value (.ref l) r = pure () := by intro _; with_unfolding_all rfl) :
    wpAny (model prog w) A (subscriptTail value slice (.ref l) (.ref s.heap.objs.size)) Q E { s with heap := s.heap.push { cls := .type "slice", data := .fields #[vl, vu, .none] } } := by
  have st1 : St c S₀ n₀ B S M L ρ { s with heap := s.heap.push { cls := .type "slice", data := .fields #[vl, vu, .none] } } := StC.pushBy st _ rfl
  have hl1 : (s.heap.push { cls := .type "slice", data := .fields #[vl, vu, .none] }).IsList l vs.toArray := (hl.is hg).push _
  refine subscriptTail_ops (Heap.IsList.typeIs (s := { s with heap := s.heap.push { cls := .type "slice", data := .fields #[vl, vu, .none] } }) hl1) list_getitem_lookup
    (wpAny_getItem_list_slice hl1 (Heap.IsSliceOf.new ..) pl pu .none (by simp) ?_ (by simpa using hz)) hs ht
  rw [e]
  exact h _ _ _ (le_put st1.fresh) (put_self _ _ _) (st1.push (lst us 0) rfl)
theorem IntsAre.at {vs : List Value} {ns : List Int} (hi : IntsAre vs ns) {k : Nat} (h : k < ns.length) : ∃ t, vs[k]? = some (.int (ns.getD k 0) t) := by
  obtain ⟨t, e⟩ := hi.get k ns[k] (by simp [h])
  exact ⟨t, by rw [e]; simp [h]⟩
theorem listTailI {l : Addr} {lo : Obj} {vs : List Value} {ns : List Int} {k : Int} {t : Tok} {value slice : Expr} {Q : Value → Shared → Prop} (hg : s.heap.get? l = some lo) (hl : LO lo vs) (hi : IntsAre vs ns) (h0 : 0 ≤ k) (hk : k < (ns.length : Int)) (hfit : k < 2 ^ 63) (h : ∀ u, Q (.int (ns.getD k.toNat 0) u) s)
    (hs : subscripted slice false (.ref l) (.int k t) = operate [.ref l, .int k t] (getItem (.ref l) (.int k t)) := by with_unfolding_all rfl) : wpAny (model prog w) A (subscriptTail value slice (.ref l) (.int k t)) Q E s := by
  obtain ⟨u, e⟩ := IntsAre.at hi (k := k.toNat) (by omega)
  exact listTail hg hl h0 hfit e (h u) hs
theorem pick_upto {vs : List Value} {k : Int} (h : 0 ≤ k) : slicePick vs.toArray none (some k) none = (vs.take k.toNat).toArray := by
  obtain ⟨n, rfl⟩ := Int.eq_ofNat_of_zero_le h
  rw [slicePick_upto']; simp
theorem pick_from {vs : List Value} {k : Int} (h : 0 ≤ k) : slicePick vs.toArray (some k) none none = (vs.drop k.toNat).toArray := by
  obtain ⟨n, rfl⟩ := Int.eq_ofNat_of_zero_le h
  rw [slicePick_from']; simp
theorem IntsAre.taken {vs : List Value} {ns : List Int} (hi : IntsAre vs ns) (k : Nat) : IntsAre (vs.take k) (ns.take k) := by
  induction hi generalizing k with
  | nil => simpa using IntsAre.nil
  | cons n t _ ih =>
    cases k with
    | zero => exact .nil
    | succ k => exact .cons n t (ih k)
theorem IntsAre.dropped {vs : List Value} {ns : List Int} (hi : IntsAre vs ns) (k : Nat) : IntsAre (vs.drop k) (ns.drop k) := by
  induction hi generalizing k with
  | nil => simpa using IntsAre.nil
  | cons n t h ih =>
    cases k with
    | zero => exact .cons n t h
    | succ k => exact ih k
theorem dictGet1S {d : Addr} {o : Obj} {kvs : List (Int × Value)} {k : Int} {t : Tok} {v : Value} {Q : Value → Shared → Prop} (hg : s.heap.get? d = some o) (ho : DI prog w o kvs) (hd : (d == sysModules) = false) (hv : valueAt kvs k = some v)
    (h : Q v { s with toks := s.toks + 1 }) : wpAny (model prog w) A (call (.builtin "dict.get") [.ref d, .int k t]) Q E s := dictGet1 hg ho hd (by rw [hv]; exact h)
theorem dictGet1N {d : Addr} {o : Obj} {kvs : List (Int × Value)} {k : Int} {t : Tok} {Q : Value → Shared → Prop} (hg : s.heap.get? d = some o) (ho : DI prog w o kvs) (hd : (d == sysModules) = false) (hv : valueAt kvs k = none)
    (h : Q .none { s with toks := s.toks + 1 }) : wpAny (model prog w) A (call (.builtin "dict.get") [.ref d, .int k t]) Q E s := dictGet1 hg ho hd (by rw [hv]; exact h)
end

/-! R8 -/
theorem UpM.app {a : Addr} {x x' : Obj} {r r' : List (Addr × Obj)} (U : UpM a x x' r r') : ∀ pre : List (Addr × Obj), UpM a x x' (pre ++ r) (pre ++ r')
  | [] => U
  | _ :: p => .tail (U.app p)
section
variable {prog : Program} {w : World} {A : Around} {E : Value → Shared → Prop} {s : Shared} {c : Cx} {B : Kp} {S₀ S S' : PM} {n₀ : Nat} {M M' : List (Addr × Obj)} {L : Addr} {ρ ρ' : Str → Option Value} {env : Env}
  {h h' : Heap} {g : Array GenState} {o : OsState} {cl : List (Str × Addr)}

/-- what a callee keeps that may change `M` -/
noncomputable def Kp.but (B : Kp) (M : List (Addr × Obj)) (h : Heap) : Kp := ⟨fun a => if a ∈ M.map (·.1) then none else h.get? a, B.W⟩

/-- into a function of the text that may change what its caller may change -/
theorem enterM {R : Result → Shared → Prop} {d : Nat} {name qual : Str} {params : Arguments} {body : List Stmt} {scope : Scope} {dV kV doc pm cdv ct oc : Value} {an od : Option Addr} {osl : Array (Option Value)} {a : Addr} {args : Args} {binds : List (Str × Value)}
    (P : St c S₀ n₀ B S M L ρ s) (hA : Rm A (d + 1))
    (ho : c.K.lookup a = some ⟨oc, od, .func (fnX name qual params body scope cl dV kV doc pm an cdv ct), osl⟩) (hcd : codeIn c.K cdv qual = true)
    (hbind : BindsTo s (fnX name qual params body scope cl dV kV doc pm an cdv ct) args binds) (hloc : ∀ y ∈ binds, scope.names.lookup y.1 = some .local)
    (hcell : ∀ x ∈ scope.names, x.2 ≠ .cell) (hco : scope.isCoroutine = false) (hgen : scope.isGenerator = false) (hk : scope.kind = .function)
    (h : ∀ A' L' n₁ B' s', Rm A' d → St c S n₁ B' S M L' (fun y => binds.reverse.lookup y) s' → (∀ S' M' ρ' s'', St c S n₁ B' S' M' L' ρ' s'' → Le S S' → M'.map (·.1) = M.map (·.1) → St c S₀ n₀ B S' M' L ρ s'') →
      wpAny (model prog w) A' (execs body (envX qual scope L' a cdv cl)) (fun fl s' => R (.ok (.ret (match fl with | .ret v => v | _ => .none))) s') (fun _ _ => False) s') :
    codeAny (model prog w) A (.call (.ref a) args) R s := by
  have X := P.K
  refine codeAny_call_def hA.room (X _ _ ho) rfl (St.pre P).nolimit (codeRec_of X hcd) rfl hbind hcell hloc (fun h₁ hns hk₁ => ?_) hco hgen hk
  have nm : ∀ (Q : PM), (∀ q ∈ M, Q q.1 = none) → ∀ b y, Q b = some y → b ∉ M.map (·.1) := fun Q e b y q z => by
    obtain ⟨p, hp, rfl⟩ := List.mem_map.mp z
    rw [e p hp] at q; cases q
  obtain ⟨oL, esL, epL, hL, hLd, hLk, hLf⟩ := P.ns
  have nL : L ∉ M.map (·.1) := fun z => by
    obtain ⟨p, hp, e⟩ := List.mem_map.mp z
    exact (P.mem p hp).2.1 e
  refine wpAny_mono (h _ s.heap.objs.size s.heap.objs.size (B.but M s.heap) _ (hA.deeper _) ?_ fun S' M' ρ' s'' st le hM => ?_) (fun _ _ y => y) fun _ _ y => y.elim
  · exact {
      ns := hns
      kb := fun b y e => by
        by_cases q : b ∈ M.map (·.1)
        · simp only [Kp.but, if_pos q] at e; cases e
        · simp only [Kp.but, if_neg q] at e; exact hk₁ b y e
      ks := fun b o e => hk₁ b o (P.ks b o e)
      bl := none_of fun o e => by
        unfold Kp.but at e
        dsimp only at e
        split at e
        · cases e
        · exact Nat.lt_irrefl _ (Heap.lt_size e)
      wo := fun b hb => by
        obtain ⟨e1, y, e2⟩ := P.wo b hb
        refine ⟨e1, y, ?_⟩
        have q := nm B.m (fun p hp => (P.mem p hp).2.2.1) b y e2
        simp only [Kp.but, if_neg q]; exact P.kb b y e2
      sl := none_of fun o e => Nat.lt_irrefl _ (Heap.lt_size (P.ks _ _ e))
      mem := fun q hq => by
        have m := P.mem q hq
        refine ⟨hk₁ _ _ m.1, Nat.ne_of_lt (Heap.lt_size m.1), ?_, m.2.2.2⟩
        simp only [Kp.but, if_pos (List.mem_map_of_mem (f := (·.1)) hq)]
      nd := P.nd
      gd := P.gd
      gs := P.gs
      new := fun b o e => .inl e
      big := Nat.le_refl _
      eg := P.eg
      eo := P.eo }
  · have kp : ∀ b y, b ∉ M.map (·.1) → s.heap.get? b = some y → s''.heap.get? b = some y := fun b y q e => st.kb b y (by simp only [Kp.but, if_neg q]; exact e)
    exact {
      ns := ⟨oL, esL, epL, kp L oL nL hL, hLd, hLk, hLf⟩
      kb := fun b y e => kp b y (nm B.m (fun p hp => (P.mem p hp).2.2.1) b y e) (P.kb b y e)
      ks := st.ks
      bl := P.bl
      wo := fun b hb => ⟨(st.wo b hb).1, (P.wo b hb).2⟩
      sl := none_of fun y e => (st.new L y e).elim (fun q => by rw [P.sl] at q; cases q) fun q => Nat.lt_irrefl _ (Nat.lt_of_lt_of_le P.lt q)
      mem := fun q hq => by
        have m := st.mem q hq
        have k : q.1 ∈ M.map (·.1) := hM ▸ List.mem_map_of_mem (f := (·.1)) hq
        obtain ⟨p, hp, e⟩ := List.mem_map.mp k
        have mp := P.mem p hp
        rw [e] at mp
        exact ⟨m.1, mp.2.1, mp.2.2.1, m.2.2.2⟩
      nd := by rw [hM]; exact P.nd
      gd := P.gd
      gs := fun b y e => le b y (P.gs b y e)
      new := fun b y e => (st.new b y e).elim (P.new b y) fun q => .inr (Nat.le_trans P.bigger q)
      big := P.big
      eg := st.eg
      eo := st.eo }
end

/-! D1 -/
/-! dicts of ints by ints, told plainly -/
inductive KI : List (Int × Value) → List (Int × Int) → Prop
  | nil : KI [] []
  | cons {k v : Int} {t : Tok} {kvs : List (Int × Value)} {m : List (Int × Int)} : KI kvs m → KI ((k, .int v t) :: kvs) ((k, v) :: m)
noncomputable def atI (m : List (Int × Int)) (k : Int) : Option Int := (m.find? fun p => decide (p.1 = k)).map (·.2)
noncomputable def outI (m : List (Int × Int)) (k : Int) : List (Int × Int) := m.filter fun p => decide (p.1 ≠ k)
noncomputable def putI (m : List (Int × Int)) (k v : Int) : List (Int × Int) := if m.any (fun p => decide (p.1 = k)) then m.map (fun p => if p.1 = k then (p.1, v) else p) else m ++ [(k, v)]
theorem KI.len {kvs : List (Int × Value)} {m : List (Int × Int)} (h : KI kvs m) : kvs.length = m.length := by
  induction h with
  | nil => rfl
  | cons _ ih => simp [ih]
theorem KI.keys {kvs : List (Int × Value)} {m : List (Int × Int)} (h : KI kvs m) : kvs.map (·.1) = m.map (·.1) := by
  induction h with
  | nil => rfl
  | cons _ ih => simp [ih]
theorem KI.no {kvs : List (Int × Value)} {m : List (Int × Int)} (h : KI kvs m) {k : Int} (e : atI m k = none) : valueAt kvs k = none := by
  induction h with
  | nil => rfl
  | @cons k' v t kvs m _ ih =>
    unfold atI at e ih
    unfold valueAt at ih ⊢
    by_cases q : k' = k
    · simp [q] at e
    · simp only [List.find?_cons, decide_eq_false q] at e ⊢
      exact ih e
theorem KI.has {kvs : List (Int × Value)} {m : List (Int × Int)} (h : KI kvs m) {k v : Int} (e : atI m k = some v) : ∃ t, valueAt kvs k = some (.int v t) := by
  induction h with
  | nil => simp [atI] at e
  | @cons k' v' t kvs m _ ih =>
    unfold atI at e ih
    unfold valueAt at ih ⊢
    by_cases q : k' = k
    · simp [q] at e ⊢; exact e
    · simp only [List.find?_cons, decide_eq_false q] at e ⊢
      exact ih e
theorem KI.out {kvs : List (Int × Value)} {m : List (Int × Int)} (h : KI kvs m) (k : Int) : KI (PySem.without kvs k) (outI m k) := by
  induction h with
  | nil => exact .nil
  | @cons k' v t kvs m _ ih =>
    unfold PySem.without outI at ih ⊢
    by_cases q : k' = k
    · simpa [q] using ih
    · simpa [q] using KI.cons ih
theorem KI.app {kvs us : List (Int × Value)} {m n : List (Int × Int)} (h : KI kvs m) (g : KI us n) : KI (kvs ++ us) (m ++ n) := by
  induction h with
  | nil => exact g
  | cons _ ih => exact .cons ih
theorem KI.any {kvs : List (Int × Value)} {m : List (Int × Int)} (h : KI kvs m) (k : Int) : (kvs.any fun kv => decide (kv.1 = k)) = m.any fun p => decide (p.1 = k) := by
  induction h with
  | nil => rfl
  | cons _ ih => simp only [List.any_cons, ih]
theorem KI.set {kvs : List (Int × Value)} {m : List (Int × Int)} (h : KI kvs m) (k v : Int) (t : Tok) : KI (List.map (fun kv => if kv.1 = k then (kv.1, Value.int v t) else kv) kvs) (List.map (fun p => if p.1 = k then (p.1, v) else p) m) := by
  induction h with
  | nil => exact .nil
  | @cons k' v' t' kvs m h ih =>
    simp only [List.map_cons]
    split
    · exact .cons ih
    · exact .cons ih
theorem KI.put {kvs : List (Int × Value)} {m : List (Int × Int)} (h : KI kvs m) (k v : Int) (t : Tok) : KI (PySem.stored kvs k (.int v t)) (putI m k v) := by
  unfold PySem.stored putI
  rw [h.any]
  split
  · exact h.set k v t
  · exact h.app (.cons .nil)
theorem outI_len (m : List (Int × Int)) (k : Int) : (outI m k).length ≤ m.length := List.length_filter_le _ _
theorem putI_len (m : List (Int × Int)) (k v : Int) : (putI m k v).length ≤ m.length + 1 := by
  unfold putI; split <;> simp
theorem valueAt_isSome {kvs : List (Int × Value)} {m : List (Int × Int)} (h : KI kvs m) (k : Int) : (valueAt kvs k).isSome = (atI m k).isSome := by
  cases e : atI m k with
  | none => rw [h.no e]; rfl
  | some v => obtain ⟨t, q⟩ := h.has e; rw [q]; rfl

/-! conflicts -/
structure Cf where
  n : Int
  t : Int
  sr : Bool
  rs : List Int
  ch : Int
noncomputable abbrev srT (b : Bool) : Str := if b = true then "shift/reduce" else "reduce/reduce"
inductive CfAt (S : PM) (x : Addr) (c : Cf) : Prop where
  | mk : ∀ t1 t2 t3 t4 q vs e, Inst S x 202 [("state", .int c.n t1), ("terminal", .int c.t t2), ("way", .str (srT c.sr) t3), ("rules", .ref q), ("chosen", .int c.ch t4)] → S q = some (tup vs e) → IntsAre vs c.rs → CfAt S x c
theorem CfAt.of {S : PM} {x q : Addr} {c : Cf} {t1 t2 t3 t4 : Tok} {vs : List Value} {e : Nat} (i : Inst S x 202 [("state", .int c.n t1), ("terminal", .int c.t t2), ("way", .str (srT c.sr) t3), ("rules", .ref q), ("chosen", .int c.ch t4)]) (h : S q = some (tup vs e)) (hi : IntsAre vs c.rs) : CfAt S x c :=
  ⟨_, _, _, _, _, _, _, i, h, hi⟩
theorem CfAt.mono {S S' : PM} {x : Addr} {c : Cf} (h : CfAt S x c) (l : Le S S') : CfAt S' x c := by
  obtain ⟨t1, t2, t3, t4, q, vs, e, i, g, k⟩ := id h
  exact ⟨_, _, _, _, _, _, _, i.mono l, l _ _ g, k⟩
inductive CfsAt (S : PM) : List Value → List Cf → Prop
  | nil : CfsAt S [] []
  | cons {x : Addr} {c : Cf} {vs : List Value} {cs : List Cf} : CfAt S x c → CfsAt S vs cs → CfsAt S (.ref x :: vs) (c :: cs)
theorem CfsAt.mono {S S' : PM} {vs : List Value} {cs : List Cf} (h : CfsAt S vs cs) (l : Le S S') : CfsAt S' vs cs := by
  induction h with
  | nil => exact .nil
  | cons a _ ih => exact .cons (a.mono l) ih
theorem CfsAt.app {S : PM} {vs us : List Value} {cs ds : List Cf} (h : CfsAt S vs cs) (g : CfsAt S us ds) : CfsAt S (vs ++ us) (cs ++ ds) := by
  induction h with
  | nil => exact g
  | cons a _ ih => exact .cons a ih
theorem CfsAt.one {S : PM} {x : Addr} {c : Cf} (h : CfAt S x c) : CfsAt S [.ref x] [c] := .cons h .nil
theorem CfsAt.len {S : PM} {vs : List Value} {cs : List Cf} (h : CfsAt S vs cs) : vs.length = cs.length := by
  induction h with
  | nil => rfl
  | cons _ _ ih => simp [ih]
theorem CfsAt.get {S : PM} {vs : List Value} {cs : List Cf} (h : CfsAt S vs cs) {i : Nat} {c : Cf} (e : cs[i]? = some c) : ∃ x, vs[i]? = some (.ref x) ∧ CfAt S x c := by
  induction h generalizing i with
  | nil => simp at e
  | @cons x c' vs cs a _ ih =>
    cases i with
    | zero => simp at e; subst e; exact ⟨x, rfl, a⟩
    | succ i => exact ih (by simpa using e)

theorem pow8 : ∀ j : Nat, j < 8 → ((2 : Int) ^ j).natAbs < 1073741824 := by decide
theorem lt7 : ∀ j : Nat, j < 7 → j = 0 ∨ j = 1 ∨ j = 2 ∨ j = 3 ∨ j = 4 ∨ j = 5 ∨ j = 6 := by decide
/-! the looks: lists of a rule and a mask -/
inductive LkM : List Value → List (Addr × Obj) → List (Int × Int) → Prop
  | nil : LkM [] [] []
  | cons {a : Addr} {o : Obj} {r m : Int} {t1 t2 : Tok} {as : List Value} {M : List (Addr × Obj)} {ls : List (Int × Int)} : LO o [.int r t1, .int m t2] → LkM as M ls → LkM (.ref a :: as) ((a, o) :: M) ((r, m) :: ls)
theorem LkM.len {as : List Value} {M : List (Addr × Obj)} {ls : List (Int × Int)} (h : LkM as M ls) : as.length = ls.length := by
  induction h with
  | nil => rfl
  | cons _ _ ih => simp [ih]
inductive LkS (as : List Value) (M : List (Addr × Obj)) (ls : List (Int × Int)) (i : Nat) (v : Value) : Prop where
  | mk : ∀ a o r m t1 t2 pre post, v = .ref a → LO o [.int r t1, .int m t2] → ls[i]? = some (r, m) → M = pre ++ (a, o) :: post →
    (∀ o' m' u1 u2, LO o' [.int r u1, .int m' u2] → LkM as (pre ++ (a, o') :: post) (ls.set i (r, m'))) → LkS as M ls i v
inductive LkG (M : List (Addr × Obj)) (ls : List (Int × Int)) (i : Nat) (v : Value) : Prop where
  | mk : ∀ a o r m t1 t2, v = .ref a → (a, o) ∈ M → LO o [.int r t1, .int m t2] → ls[i]? = some (r, m) → LkG M ls i v
theorem LkM.split {as : List Value} {M : List (Addr × Obj)} {ls : List (Int × Int)} (h : LkM as M ls) {i : Nat} {v : Value} (e : as[i]? = some v) : LkS as M ls i v := by
  induction h generalizing i with
  | nil => simp at e
  | @cons a o r m t1 t2 as M ls lo rest ih =>
    cases i with
    | zero =>
      simp at e; subst e
      exact ⟨a, o, r, m, t1, t2, [], M, rfl, lo, rfl, rfl, fun o' m' u1 u2 lo' => .cons lo' rest⟩
    | succ i =>
      obtain ⟨a', o', r', m', u1, u2, pre, post, e1, e2, e3, e4, k⟩ := ih (by simpa using e)
      refine ⟨a', o', r', m', u1, u2, (a, o) :: pre, post, e1, e2, by simpa using e3, by rw [e4]; rfl, fun o'' m'' w1 w2 lo' => ?_⟩
      exact .cons lo (k o'' m'' w1 w2 lo')
theorem LkM.get {as : List Value} {M : List (Addr × Obj)} {ls : List (Int × Int)} (h : LkM as M ls) {i : Nat} {v : Value} (e : as[i]? = some v) : LkG M ls i v := by
  obtain ⟨a, o, r, m, t1, t2, pre, post, h1, h2, h3, h4, _⟩ := h.split e
  exact ⟨a, o, r, m, t1, t2, h1, by rw [h4]; exact List.mem_append_right _ (.head _), h2, h3⟩
theorem IntsAre.set {vs : List Value} {ns : List Int} (hi : IntsAre vs ns) (k : Nat) (v : Int) (t : Tok) : IntsAre (vs.set k (.int v t)) (ns.set k v) := by
  induction hi generalizing k with
  | nil => exact .nil
  | cons n u hr ih =>
    cases k with
    | zero => exact .cons _ _ hr
    | succ k => exact .cons _ _ (ih k)
inductive ItI (v : Value) (o : Option Int) : Prop where
  | mk : ∀ n t, v = .int n t → o = some n → ItI v o
theorem IntsAre.item {vs : List Value} {ns : List Int} (hi : IntsAre vs ns) {i : Nat} {v : Value} (e : vs[i]? = some v) : ItI v ns[i]? := by
  have hj : i < ns.length := by rw [← hi.length]; exact (List.getElem?_eq_some_iff.mp e).1
  obtain ⟨t, q⟩ := hi.get i ns[i] (by simp [hj])
  rw [e] at q
  exact ⟨_, t, Option.some.inj q, by simp [hj]⟩
theorem take_snoc {α : Type} {l : List α} {i : Nat} {x : α} (e : l[i]? = some x) : l.take (i + 1) = l.take i ++ [x] := by rw [List.take_add_one, e]; rfl
theorem KI.item {kvs : List (Int × Value)} {m : List (Int × Int)} (h : KI kvs m) {i : Nat} {k : Int} {v : Value} (e : kvs[i]? = some (k, v)) : ∃ n t, v = .int n t ∧ m[i]? = some (k, n) := by
  induction h generalizing i with
  | nil => simp at e
  | @cons k' v' t kvs m _ ih =>
    cases i with
    | zero => simp at e; obtain ⟨rfl, rfl⟩ := e; exact ⟨v', t, rfl, rfl⟩
    | succ i => exact ih (by simpa using e)

/-! D2 -/
/-! what is told of a conflict -/
inductive TdAt (S : PM) (x : Addr) (c : Cf) : Prop where
  | mk : ∀ t1 t2 t3 t4 q vs e e', S x = some (tup [.int c.n t1, .int c.t t2, .str (srT c.sr) t3, .ref q, .int c.ch t4] e') → S q = some (tup vs e) → IntsAre vs c.rs → TdAt S x c
theorem TdAt.of {S : PM} {x q : Addr} {c : Cf} {t1 t2 t3 t4 : Tok} {vs : List Value} {e e' : Nat} (i : S x = some (tup [.int c.n t1, .int c.t t2, .str (srT c.sr) t3, .ref q, .int c.ch t4] e')) (h : S q = some (tup vs e)) (hi : IntsAre vs c.rs) : TdAt S x c :=
  ⟨_, _, _, _, _, _, _, _, i, h, hi⟩
theorem TdAt.mono {S S' : PM} {x : Addr} {c : Cf} (h : TdAt S x c) (l : Le S S') : TdAt S' x c := by
  obtain ⟨t1, t2, t3, t4, q, vs, e, e', i, g, k⟩ := id h
  exact ⟨_, _, _, _, _, _, _, _, l _ _ i, l _ _ g, k⟩
inductive TdsAt (S : PM) : List Value → List Cf → Prop
  | nil : TdsAt S [] []
  | cons {x : Addr} {c : Cf} {vs : List Value} {cs : List Cf} : TdAt S x c → TdsAt S vs cs → TdsAt S (.ref x :: vs) (c :: cs)
theorem TdsAt.mono {S S' : PM} {vs : List Value} {cs : List Cf} (h : TdsAt S vs cs) (l : Le S S') : TdsAt S' vs cs := by
  induction h with
  | nil => exact .nil
  | cons a _ ih => exact .cons (a.mono l) ih
theorem TdsAt.app {S : PM} {vs us : List Value} {cs ds : List Cf} (h : TdsAt S vs cs) (g : TdsAt S us ds) : TdsAt S (vs ++ us) (cs ++ ds) := by
  induction h with
  | nil => exact g
  | cons a _ ih => exact .cons a ih
theorem TdsAt.one {S : PM} {x : Addr} {c : Cf} (h : TdAt S x c) : TdsAt S [.ref x] [c] := .cons h .nil
theorem TdsAt.len {S : PM} {vs : List Value} {cs : List Cf} (h : TdsAt S vs cs) : vs.length = cs.length := by
  induction h with
  | nil => rfl
  | cons _ _ ih => simp [ih]
theorem TdsAt.get {S : PM} {vs : List Value} {cs : List Cf} (h : TdsAt S vs cs) {i : Nat} {c : Cf} (e : cs[i]? = some c) : ∃ x, vs[i]? = some (.ref x) ∧ TdAt S x c := by
  induction h generalizing i with
  | nil => simp at e
  | @cons x c' vs cs a _ ih =>
    cases i with
    | zero => simp at e; subst e; exact ⟨x, rfl, a⟩
    | succ i => exact ih (by simpa using e)

/-! Facts -/
noncomputable abbrev cx (w : World) (G : Heap) (g : Array GenState) (o : OsState) : Cx := ⟨hk.heap_1 w.params, G, g, o⟩
theorem Le.get {S S' : PM} {a : Addr} {o : Obj} (e : S a = some o) (l : Le S S') : S' a = some o := l a o e
section
variable {prog : Program} {w : World} {A : Around} {E : Value → Shared → Prop} {s : Shared} {c : Cx} {B : Kp} {S₀ S S' : PM} {n₀ : Nat} {M M' : List (Addr × Obj)} {L : Addr} {ρ ρ' : Str → Option Value} {env : Env}
theorem callF {pos : Pos} {f : Value} {first : List Value} {Q : Value → Shared → Prop} {e : Expr} {rest : List Expr} (st : St c S₀ n₀ B S M L ρ s) (hk : keepIn c.K f = true)
    (h : wpAny (model prog w) A (spliced (backTo pos (starEach (e :: rest) env))) (fun vs s₁ => c.K.In s₁.heap ∧ wpAny (model prog w) A (call f (first ++ vs)) Q E s₁) E s)
    (he : starEach (e :: rest) env = (false, eval e env) :: starEach rest env := by rfl) (hplain : (backTo pos (starEach rest env)).any (·.1) = false := by rfl) :
    wpAny (model prog w) A (callWith pos f first (backTo pos (starEach (e :: rest) env)) []) Q E s := callWith_K (K := c.K) st.gd.X hk h he hplain
theorem callF0 {pos : Pos} {f : Value} {first : List Value} {Q : Value → Shared → Prop} (st : St c S₀ n₀ B S M L ρ s) (hk : keepIn c.K f = true) (h : wpAny (model prog w) A (call f (first ++ [])) Q E s) :
    wpAny (model prog w) A (callWith pos f first (backTo pos (starEach [] env)) []) Q E s := callWith_K0 st.K hk h
end
/-- what follows a statement, under a name -/
noncomputable def Hid (Q : Flow → Shared → Prop) (f : Flow) (s : Shared) : Prop := Q f s
structure HidK (Qk : Flow → Shared → Prop) (K : Shared → Prop) (Q : Flow → Shared → Prop) : Prop where
  nx : ∀ s, K s → Qk .next s
  ot : ∀ f s, f ≠ .next → Q f s → Qk f s
theorem execsH {prog : Program} {w : World} {A : Around} {E : Value → Shared → Prop} {s : Shared} {env : Env} {st : Stmt} {rest : List Stmt} {Q : Flow → Shared → Prop}
    (h : ∀ Qk, HidK Qk (wpAny (model prog w) A (execs rest env) Q E) Q → wpAny (model prog w) A (exec st env) (Hid Qk) E s) : wpAny (model prog w) A (execs (st :: rest) env) Q E s :=
  wpAny_execs_cons (h (fun f s' => match f with | .next => wpAny (model prog w) A (execs rest env) Q E s' | f => Q f s') ⟨fun _ h => h, fun f _ n h => by cases f <;> first | exact h | exact absurd rfl n⟩)
section
variable {Qk Q : Flow → Shared → Prop} {K : Shared → Prop} {s : Shared}
theorem HidK.next (h : HidK Qk K Q) (k : K s) : Hid Qk .next s := h.nx s k
theorem HidK.ret (h : HidK Qk K Q) {v : Value} (k : Q (.ret v) s) : Hid Qk (.ret v) s := h.ot _ s (fun e => by cases e) k
theorem HidK.brk (h : HidK Qk K Q) (k : Q .brk s) : Hid Qk .brk s := h.ot _ s (fun e => by cases e) k
theorem HidK.cnt (h : HidK Qk K Q) (k : Q .cont s) : Hid Qk .cont s := h.ot _ s (fun e => by cases e) k
end

/-! R9 -/
section
variable {prog : Program} {w : World} {A : Around} {E : Value → Shared → Prop} {s : Shared} {c : Cx} {B : Kp} {S₀ S S' : PM} {n₀ : Nat} {M M' : List (Addr × Obj)} {L : Addr} {ρ ρ' : Str → Option Value} {env : Env}
  {h h' : Heap} {g : Array GenState} {o : OsState} {x : Str} {pos : Pos} {v : Value}

/-! names, in any frame -/
theorem ldLg {Q : Value → Shared → Prop} (st : St c S₀ n₀ B S M L ρ s) (hL : env.locals = L) (hx : env.kindOf x = some .local) (hv : ρ x = some v) (hk : env.scope.kind = .function) (hd : (x == ("__debug__" : Str)) = false) (h : Q v s) :
    wpAny (model prog w) A (eval (.Name x pos) env) Q E s := wpAny_Name (wpAny_loadName_local hk hx (hL ▸ st.ns) hv h) hd
theorem ldGg {Q : Value → Shared → Prop} (st : St c S₀ n₀ B S M L ρ s) (hm : env.globals = mainGlobals) (hx : env.kindOf x = some .globalImplicit) (e : nsIn c.K mainGlobals x = some (some v)) (hk : env.scope.kind = .function) (hd : (x == ("__debug__" : Str)) = false) (h : Q v s) :
    wpAny (model prog w) A (eval (.Name x pos) env) Q E s := by
  obtain ⟨mg, g⟩ := st.gd.g
  exact Name_function_global hk hx (loadGlobal_global (env := env) (hm ▸ g.keeps fun a o q => st.ks a o (st.gs a o q)) (mg_of st.gd.X g e) h) hd
theorem ldBg {Q : Value → Shared → Prop} (st : St c S₀ n₀ B S M L ρ s) (hm : env.globals = mainGlobals) (hb : env.builtins = builtinsNs) (hx : env.kindOf x = some .globalImplicit) (e : nsIn c.K mainGlobals x = some none) (hv : bootBuiltins x = some v) (hn : x ≠ "__name__") (hk : env.scope.kind = .function) (hd : (x == ("__debug__" : Str)) = false) (h : Q v s) :
    wpAny (model prog w) A (eval (.Name x pos) env) Q E s := by
  obtain ⟨mg, g⟩ := st.gd.g
  obtain ⟨mb, b, hb'⟩ := st.gd.b
  have k : ∀ a o, c.G.get? a = some o → s.heap.get? a = some o := fun a o q => st.ks a o (st.gs a o q)
  exact Name_function_global hk hx (loadGlobal_builtin (env := env) (hm ▸ g.keeps k) (mg_none_of st.gd.X g e) (hb ▸ b.keeps k) ((hb' x hn).trans hv) h) hd
theorem ldCg {Q : Value → Shared → Prop} {d : Addr} {o : Obj} (st : St c S₀ n₀ B S M L ρ s) (hx : env.kindOf x = some .cell) (hc : env.cells.lookup x = some d) (hm : (d, o) ∈ M) (ho : o.data = .cell (some v)) (hk : env.scope.kind = .function) (hd : (x == ("__debug__" : Str)) = false) (h : Q v s) :
    wpAny (model prog w) A (eval (.Name x pos) env) Q E s := wpAny_Name (wpAny_loadName_cell hk hx hc ⟨o, (st.mem _ hm).1, ho⟩ h) hd
theorem ldCS {Q : Value → Shared → Prop} {d : Addr} {o : Obj} (st : St c S₀ n₀ B S M L ρ s) (hx : env.kindOf x = some .cell) (hc : env.cells.lookup x = some d) (hm : S d = some o) (ho : o.data = .cell (some v)) (hk : env.scope.kind = .function) (hd : (x == ("__debug__" : Str)) = false) (h : Q v s) :
    wpAny (model prog w) A (eval (.Name x pos) env) Q E s := wpAny_Name (wpAny_loadName_cell hk hx hc ⟨o, st.ks _ _ hm, ho⟩ h) hd
noncomputable abbrev cellO (v : Option Value) : Obj := { cls := .type "cell", data := .cell v }
theorem stCg {Q : Unit → Shared → Prop} {d : Addr} {v₀ : Option Value} (st : St c S₀ n₀ B S M L ρ s) (hx : env.kindOf x = some .cell) (hc : env.cells.lookup x = some d) (U : UpM d (cellO v₀) (cellO (some v)) M M') (hk : env.scope.kind = .function)
    (h : ∀ s', St c S₀ n₀ B S M' L ρ s' → Q () s') : wpAny (model prog w) A (storeName env x v) Q E s := by
  have hg := (st.mem _ U.mem).1
  unfold storeName
  simp only [hx, hk]
  refine wpAny_bind (wpAny_cellOf (env := env) hc ?_)
  unfold cellSet
  refine wpAny_bind (wpAny_load hg ?_)
  dsimp only
  refine wpAny_update hg (h _ (st.upd U (Heap.SameBut.update ..) ?_))
  exact Heap.get?_update_self _ hg rfl

theorem stCo {Q : Unit → Shared → Prop} {d : Addr} {o : Obj} {v₀ : Option Value} (st : St c S₀ n₀ B S M L ρ s) (hx : env.kindOf x = some .cell) (hc : env.cells.lookup x = some d) (U : UpM d o { o with data := .cell (some v) } M M') (ho : o.data = .cell v₀) (hk : env.scope.kind = .function)
    (h : ∀ s', St c S₀ n₀ B S M' L ρ s' → Q () s') : wpAny (model prog w) A (storeName env x v) Q E s := by
  have hg := (st.mem _ U.mem).1
  unfold storeName
  simp only [hx, hk]
  refine wpAny_bind (wpAny_cellOf (env := env) hc ?_)
  unfold cellSet
  refine wpAny_bind (wpAny_load hg ?_)
  dsimp only
  rw [ho]
  refine wpAny_update hg (h _ (st.upd U (Heap.SameBut.update ..) ?_))
  exact Heap.get?_update_self _ hg rfl

/-! a comprehension's frame within the frame -/
theorem StC.inner {wr : List Addr} {C : Addr} {ρC : Str → Option Value} (st : StC c S₀ n₀ B S M L ρ h g o) (hC : h.Ns C ρC) (hCL : C ≠ L) (hCB : B.m C = none) (hCS : S C = none) (hCM : C ∉ M.map (·.1)) (hn : n₀ ≤ C) (hob : ∀ b ∈ wr, ∃ x, h.get? b = some x)
    (hw : ∀ b ∈ wr, b ≠ L ∧ b ≠ C ∧ B.m b = none ∧ S b = none ∧ b ∉ M.map (·.1)) : StC c S₀ n₀ (B.with (L :: wr) h) S M C ρC h g o := by
  obtain ⟨oL, _, _, eL, _⟩ := id st.ns
  exact { st with
    ns := hC
    kb := fun b y e => by
      by_cases q : b ∈ L :: wr
      · simp only [Kp.with, if_pos q] at e; exact e
      · simp only [Kp.with, if_neg q] at e; exact st.kb b y e
    bl := by
      have q : C ∉ L :: wr := fun q => by
        rcases List.mem_cons.mp q with q | q
        · exact hCL q
        · exact (hw C q).2.1 rfl
      simp only [Kp.with, if_neg q]; exact hCB
    wo := fun b hb => by
      by_cases q : b ∈ L :: wr
      · simp only [Kp.with, if_pos q]
        rcases List.mem_cons.mp q with rfl | q
        · exact ⟨st.sl, oL, eL⟩
        · exact ⟨(hw b q).2.2.2.1, hob b q⟩
      · rcases hb with hb | hb
        · exact absurd hb q
        · simp only [Kp.with, if_neg q]; exact st.wo b hb
    sl := hCS
    mem := fun p hp => by
      have m := st.mem p hp
      refine ⟨m.1, fun e => hCM (e ▸ List.mem_map_of_mem (f := (·.1)) hp), ?_, m.2.2.2⟩
      have q : p.1 ∉ L :: wr := fun q => by
        rcases List.mem_cons.mp q with q | q
        · exact m.2.1 q
        · exact (hw _ q).2.2.2.2 (List.mem_map_of_mem (f := (·.1)) hp)
      simp only [Kp.with, if_neg q]; exact m.2.2.1
    big := hn }
theorem StC.outer {wr : List Addr} {C : Addr} {ρC : Str → Option Value} {h₁ : Heap} (st : StC c S₀ n₀ (B.with (L :: wr) h₁) S M C ρC h g o) (hL : h₁.Ns L ρ) (hB : B.m L = none) (hnL : n₀ ≤ L) (hob : ∀ b ∈ wr, ∃ x, h₁.get? b = some x)
    (hw : ∀ b ∈ wr, B.m b = none) (hwo : ∀ b, B.W b → ∃ x, B.m b = some x) :
    StC c S₀ n₀ B S M L ρ h g o ∧ (C ≠ L ∧ B.m C = none ∧ S C = none ∧ C ∉ M.map (·.1)) ∧ (∀ b ∈ wr, b ≠ C ∧ S b = none ∧ b ∉ M.map (·.1)) ∧ ∀ b ∈ L :: wr, ∀ x, h₁.get? b = some x → h.get? b = some x := by
  obtain ⟨oL, es, ep, eL, r⟩ := id hL
  have up : ∀ b y, B.m b = some y → (B.with (L :: wr) h₁).m b = some y := fun b y e => by
    have q : b ∉ L :: wr := fun q => by
      rcases List.mem_cons.mp q with rfl | q
      · rw [hB] at e; cases e
      · rw [hw b q] at e; cases e
    simp only [Kp.with, if_neg q]; exact e
  have dn : ∀ b, (B.with (L :: wr) h₁).m b = none → B.m b = none := fun b e => none_of fun y q => by rw [up b y q] at e; cases e
  have inn : ∀ b ∈ L :: wr, ∃ x, (B.with (L :: wr) h₁).m b = some x := fun b q => by
    simp only [Kp.with, if_pos q]
    rcases List.mem_cons.mp q with rfl | q
    · exact ⟨oL, eL⟩
    · exact hob b q
  have hk : ∀ b ∈ L :: wr, ∀ x, h₁.get? b = some x → h.get? b = some x := fun b q x e => st.kb b x (by simp only [Kp.with, if_pos q]; exact e)
  have off : ∀ b ∈ L :: wr, b ≠ C ∧ S b = none ∧ b ∉ M.map (·.1) := fun b q => by
    obtain ⟨y, e⟩ := inn b q
    refine ⟨(fun z => by rw [z, st.bl] at e; cases e), (st.wo b (.inl q)).1, fun z => ?_⟩
    obtain ⟨p, hp, rfl⟩ := List.mem_map.mp z
    rw [(st.mem p hp).2.2.1] at e; cases e
  refine ⟨{ st with
    ns := ⟨oL, es, ep, hk L (.head _) oL eL, r⟩
    kb := fun b y e => st.kb b y (up b y e)
    bl := hB
    wo := fun b hb => ⟨(st.wo b (.inr hb)).1, hwo b hb⟩
    sl := (off L (.head _)).2.1
    mem := fun p hp => let m := st.mem p hp; ⟨m.1, fun e => (off L (.head _)).2.2 (e ▸ List.mem_map_of_mem (f := (·.1)) hp), dn _ m.2.2.1, m.2.2.2⟩
    big := hnL }, ⟨Ne.symm (off L (.head _)).1, dn _ st.bl, st.sl, fun z => ?_⟩, fun b hb => off b (.tail _ hb), hk⟩
  obtain ⟨p, hp, e⟩ := List.mem_map.mp z
  exact (st.mem p hp).2.1 e

/-- a turn's end under a comprehension: with a value, or without -/
inductive CEnd (c : Cx) (S₀ : PM) (n₀ : Nat) (B : Kp) (C : Addr) (J : PM → List (Addr × Obj) → Prop) (S' : PM) (s : Shared) : Prop where
  | mk : ∀ S'' M'' ρ'', Le S' S'' → J S'' M'' → St c S₀ n₀ B S'' M'' C ρ'' s → CEnd c S₀ n₀ B C J S' s
theorem CEnd.of {C : Addr} {J : PM → List (Addr × Obj) → Prop} (st : St c S₀ n₀ B S M C ρ s) (le : Le S' S) (j : J S M) : CEnd c S₀ n₀ B C J S' s := ⟨_, _, _, le, j, st⟩
noncomputable abbrev tests (ifs : List Expr) (env : Env) : Sem Bool := forIn ifs true fun c r => if r = true then do let ok ← isTrue c env (eval c env); pure (ForInStep.yield ok) else pure (ForInStep.yield r)

theorem compLoopG {I C D : Addr} {fp wr : List Addr} {n : Nat} {P : Nat → Value → Prop} {T : Nat → Heap → Prop} {px : Pos} {elt iter : Expr} {ifs : List Expr} {scope : Scope} {cpos : Pos} {R : Result → Shared → Prop} {ρC : Str → Option Value} (J : Nat → List Value → PM → List (Addr × Obj) → Prop)
    (W : Walks prog w A I fp wr n P T) (hsz : n ≤ sizeLine) (hfp : ∀ b ∈ fp, b ∈ wr ∨ ∃ y, S b = some y) (hob : ∀ i h, T i h → ∀ b ∈ wr, ∃ y, h.get? b = some y) (hw : ∀ b ∈ wr, b ≠ L ∧ b ≠ C ∧ b ≠ D ∧ B.m b = none ∧ S b = none ∧ b ∉ M.map (·.1)) (h0 : T 0 s.heap)
    (hD : s.heap.get? D = some (lst [] 0)) (hDs : D ≠ L ∧ D ≠ C ∧ B.m D = none ∧ S D = none ∧ D ∉ M.map (·.1))
    (hC : s.heap.Ns C ρC) (hCs : C ≠ L ∧ B.m C = none ∧ S C = none ∧ C ∉ M.map (·.1)) (hn : n₀ ≤ C)
    (st : St c S₀ n₀ B S M L ρ s) (j0 : J 0 [] S M)
    (turn : ∀ i v ys B' S' M' ρ' s', i < n → P i v → Le S S' → J i ys S' M' → St c S₀ n₀ B' S' M' C ρ' s' →
      wpAny (model prog w) A (assign (.Name x px) env v) (fun _ s₀ => wpAny (model prog w) A (tests ifs env) (fun ok s₁ => if ok = true then wpAny (model prog w) A (eval elt env) (fun y s₂ => CEnd c S₀ n₀ B' C (J (i + 1) (ys ++ [y])) S' s₂) F0 s₁ else CEnd c S₀ n₀ B' C (J (i + 1) ys) S' s₁) F0 s₀) F0 s')
    (done : ∀ S' M' ys s', Le S S' → J n ys S' M' → St c S₀ n₀ B S' M' L ρ s' → (C ≠ L ∧ B.m C = none ∧ S' C = none ∧ C ∉ M'.map (·.1)) → C ≠ D → D ≠ L → B.m D = none → S' D = none → D ∉ M'.map (·.1) → s'.heap.get? D = some (lst ys ys.length) → (∃ m, s'.heap.Ns C m) → R (.ok .next) s') :
    codeAny (model prog w) A (.compLoop (.ListComp elt [⟨.Name x px, iter, ifs, 0⟩] scope cpos) 0 (.ref I) (.ref D) env) R s := by
  have hwo : ∀ b, B.W b → ∃ y, B.m b = some y := fun b hb => (st.wo b hb).2
  have hwB : ∀ b ∈ D :: wr, B.m b = none := fun b hb => by
    rcases List.mem_cons.mp hb with rfl | hb
    · exact hDs.2.2.1
    · exact (hw b hb).2.2.2.1
  have hwL : ∀ b ∈ D :: wr, b ≠ L := fun b hb => by
    rcases List.mem_cons.mp hb with rfl | hb
    · exact hDs.1
    · exact (hw b hb).1
  have hDw : D ∉ wr := fun q => (hw D q).2.2.1 rfl
  have hCw : C ∉ wr := fun q => (hw C q).2.1 rfl
  refine codeAny_compLoop_tests (fun k s' => ∀ GG : Prop, (∀ i S' M' ys ρC', Le S S' → J i ys S' M' → St c S₀ n₀ B S' M' L ρ s' → T i s'.heap → (∀ b ∈ D :: wr, b ≠ C ∧ S' b = none ∧ b ∉ M'.map (·.1)) → (C ≠ L ∧ B.m C = none ∧ S' C = none ∧ C ∉ M'.map (·.1)) → s'.heap.Ns C ρC' → s'.heap.get? D = some (lst ys ys.length) → ys.length ≤ i → i ≤ n → k = n + 1 - i → GG) → GG) ?_ (n + 1)
    (fun _ kk => kk 0 S M [] ρC (Le.refl _) j0 st h0 (fun b hb => by
      rcases List.mem_cons.mp hb with rfl | hb
      · exact ⟨hDs.2.1, hDs.2.2.2⟩
      · exact ⟨(hw b hb).2.1, (hw b hb).2.2.2.2⟩) hCs hC hD (Nat.le_refl _) (Nat.zero_le _) rfl)
  intro k s' hI
  refine hI _ ?_
  clear hI
  rintro i S' M' ys ρC' le hJ st' hT hw' hCs' hC' hD' hyl hi rfl
  have hwi : ∀ b ∈ wr, b ≠ L ∧ B.m b = none ∧ S' b = none ∧ b ∉ M'.map (·.1) := fun b hb => ⟨(hw b hb).1, (hw b hb).2.2.2.1, (hw' b (.tail _ hb)).2⟩
  by_cases hlt : i < n
  · have lm : n + 1 - (i + 1) < n + 1 - i := Nat.sub_lt_sub_left (Nat.lt_succ_of_lt hlt) (Nat.lt_succ_self i)
    refine W.item i _ _ _ hlt hT fun v h₁ tk₁ hP hT₁ hk₁ => ?_
    have st₁ := st'.iter hk₁ hwi
    have hC₁ : h₁.Ns C ρC' := hC'.at' fun y e => hk₁ C y hCw e
    have ob : ∀ b ∈ D :: wr, ∃ y, h₁.get? b = some y := fun b hb => by
      rcases List.mem_cons.mp hb with rfl | hb
      · exact ⟨_, hk₁ b _ hDw hD'⟩
      · obtain ⟨y, e⟩ := hob _ _ hT₁ b hb
        exact ⟨y, e⟩
    have st₃ := st₁.inner (wr := D :: wr) hC₁ hCs'.1 hCs'.2.1 hCs'.2.2.1 hCs'.2.2.2 hn ob (fun b hb => ⟨hwL b hb, (hw' b hb).1, hwB b hb, (hw' b hb).2⟩)
    have hD₂ : h₁.get? D = some (lst ys ys.length) := hk₁ D _ hDw hD'
    have back : ∀ {ys' : List Value} {s₃ : Shared}, CEnd c S₀ n₀ (B.with (L :: D :: wr) h₁) C (J (i + 1) ys') S' s₃ → ∀ GG : Prop, (s₃.heap.get? D = some (lst ys ys.length) → ∀ S'' M'' ρC'', Le S S'' → Le S' S'' → J (i + 1) ys' S'' M'' → St c S₀ n₀ B S'' M'' L ρ s₃ → T (i + 1) s₃.heap →
        (∀ b ∈ D :: wr, b ≠ C ∧ S'' b = none ∧ b ∉ M''.map (·.1)) → (C ≠ L ∧ B.m C = none ∧ S'' C = none ∧ C ∉ M''.map (·.1)) → s₃.heap.Ns C ρC'' → GG) → GG := by
      intro ys' s₃ hE _ kk
      obtain ⟨S₂, M₂, ρ₂, le₂, hJ₂, st₄⟩ := hE
      obtain ⟨st₅, cs, hw₅, kw⟩ := st₄.outer (wr := D :: wr) st₁.ns st.bl st.big ob hwB hwo
      refine kk (kw D (.tail _ (.head _)) _ hD₂) S₂ M₂ ρ₂ (le.trans le₂) le₂ hJ₂ st₅ ?_ hw₅ cs st₄.ns
      refine W.frame _ _ _ hT₁ fun b hb y e => ?_
      by_cases q : b ∈ wr
      · exact kw b (.tail _ (.tail _ q)) y e
      · rcases hfp b hb with q' | ⟨y', e'⟩
        · exact absurd q' q
        · have e1 := st₁.ks b y' (le _ _ e')
          have : y' = y := by
            have e2 : h₁.get? b = some y' := e1
            rw [e] at e2; exact (Option.some.inj e2).symm
          subst this
          exact st₅.ks b y' (le₂ _ _ (le _ _ e'))
    refine wpAny_mono (turn i v ys _ S' M' ρC' { s' with heap := h₁, toks := tk₁ } hlt hP le hJ st₃) (fun _ s₂ h₂ => wpAny_mono h₂ (fun ok s₃ h₃ => ?_) fun _ _ x => x.elim) fun _ _ x => x.elim
    cases ok with
    | false =>
      simp only [Bool.false_eq_true, if_false] at h₃ ⊢
      refine back h₃ _ ?_
      intro hD₃ S₂ M₂ ρ₂ le₂ _ hJ₂ st₅ hT₅ hw₅ cs hC₅
      exact ⟨n + 1 - (i + 1), lm, fun _ kk => kk (i + 1) S₂ M₂ ys ρ₂ le₂ hJ₂ st₅ hT₅ hw₅ cs hC₅ hD₃ (Nat.le_succ_of_le hyl) hlt rfl⟩
    | true =>
      simp only [if_true] at h₃ ⊢
      refine wpAny_mono h₃ (fun y s₄ h₄ => ?_) fun _ _ x => x.elim
      refine back h₄ _ ?_
      intro hD₃ S₂ M₂ ρ₂ le₂ _ hJ₂ st₅ hT₅ hw₅ cs hC₅
      refine append_at (hsz := by rw [List.size_toArray]; omega) hD₃ fun h₅ hs₅ hD₅ => ?_
      have hDx := hw₅ D (.head _)
      have st₆ : StC c S₀ n₀ B S₂ M₂ L ρ h₅ s₄.gens s₄.os := st₅.iter (wr := [D]) (fun b y hb e => (hs₅.2 b (by simpa using hb)).trans e) (fun b hb => by rw [List.mem_singleton.mp hb]; exact ⟨hDs.1, hDs.2.2.1, hDx.2⟩)
      refine ⟨n + 1 - (i + 1), lm, fun _ kk => kk (i + 1) S₂ M₂ (ys ++ [y]) ρ₂ le₂ hJ₂ st₆ ?_ hw₅ cs (hC₅.sameBut hs₅ (Ne.symm hDx.1)) ?_ (by rw [List.length_append]; exact Nat.succ_le_succ hyl) hlt rfl⟩
      · refine W.frame _ _ _ hT₅ fun b hb y e => (hs₅.2 b ?_).trans e
        rcases hfp b hb with q | ⟨y', e'⟩
        · exact (hw b q).2.2.1
        · rintro rfl
          have := le₂ _ _ e'
          rw [hDx.2.1] at this; cases this
      · rw [hD₅]
        have : (lst ys ys.length) = (lst ys ys.length) := rfl
        show some _ = some (lst (ys ++ [y]) (ys ++ [y]).length)
        unfold lst
        simp
  · have hin : i = n := Nat.le_antisymm hi (Nat.le_of_not_lt hlt)
    subst hin
    refine W.done _ _ _ hT fun h₁ tk₁ hk₁ => ?_
    exact done S' M' ys _ le hJ (st'.iter hk₁ hwi) hCs' (Ne.symm (hw' D (.head _)).1) hDs.1 hDs.2.2.1 (hw' D (.head _)).2.1 (hw' D (.head _)).2.2 (hk₁ D _ hDw hD') ⟨ρC', hC'.at' fun y e => hk₁ C y hCw e⟩
theorem compLoopW {I C D : Addr} {fp wr : List Addr} {n : Nat} {P : Nat → Value → Prop} {T : Nat → Heap → Prop} {px : Pos} {elt iter : Expr} {ifs : List Expr} {scope : Scope} {cpos : Pos} {R : Result → Shared → Prop} {ρC : Str → Option Value} (J : Nat → List Value → PM → List (Addr × Obj) → Prop)
    (W : Walks prog w A I fp wr n P T) (hsz : n ≤ sizeLine) (hfp : ∀ b ∈ fp, b ∈ wr ∨ ∃ y, S b = some y) (hob : ∀ i h, T i h → ∀ b ∈ wr, ∃ y, h.get? b = some y) (hw : ∀ b ∈ wr, b ≠ L ∧ b ≠ C ∧ b ≠ D ∧ B.m b = none ∧ S b = none ∧ b ∉ M.map (·.1)) (h0 : T 0 s.heap)
    (hD : s.heap.get? D = some (lst [] 0)) (hDs : D ≠ L ∧ D ≠ C ∧ B.m D = none ∧ S D = none ∧ D ∉ M.map (·.1))
    (hC : s.heap.Ns C ρC) (hCs : C ≠ L ∧ B.m C = none ∧ S C = none ∧ C ∉ M.map (·.1)) (hn : n₀ ≤ C)
    (st : St c S₀ n₀ B S M L ρ s) (hx : env.kindOf x = some .local) (hk : env.scope.kind = .function) (hL : env.locals = C) (j0 : J 0 [] S M)
    (turn : ∀ i v ys B' S' M' ρ' s', i < n → P i v → Le S S' → J i ys S' M' → St c S₀ n₀ B' S' M' C (up ρ' x v) s' →
      wpAny (model prog w) A (tests ifs env) (fun ok s₁ => if ok = true then wpAny (model prog w) A (eval elt env) (fun y s₂ => CEnd c S₀ n₀ B' C (J (i + 1) (ys ++ [y])) S' s₂) F0 s₁ else CEnd c S₀ n₀ B' C (J (i + 1) ys) S' s₁) F0 s')
    (done : ∀ S' M' ys s', Le S S' → J n ys S' M' → St c S₀ n₀ B S' M' L ρ s' → (C ≠ L ∧ B.m C = none ∧ S' C = none ∧ C ∉ M'.map (·.1)) → C ≠ D → D ≠ L → B.m D = none → S' D = none → D ∉ M'.map (·.1) → s'.heap.get? D = some (lst ys ys.length) → (∃ m, s'.heap.Ns C m) → R (.ok .next) s') :
    codeAny (model prog w) A (.compLoop (.ListComp elt [⟨.Name x px, iter, ifs, 0⟩] scope cpos) 0 (.ref I) (.ref D) env) R s := by
  refine compLoopG J W hsz hfp hob hw h0 hD hDs hC hCs hn st j0 (fun i v ys B' S' M' ρ' s' hlt hP le hJ st' => ?_) done
  refine wpAny_assign_Name (wpAny_storeName_local hx (by rw [hL]; exact st'.ns) (fun h₂ hn₂ hs₂ => ?_) (by rw [hk]; rfl))
  rw [hL] at hn₂ hs₂
  exact turn i v ys B' S' M' ρ' _ hlt hP le hJ (st'.names hn₂ hs₂)

theorem StC.addM {D : Addr} {x : Obj} (st : StC c S₀ n₀ B S M L ρ h g o) (hg : h.get? D = some x) (h1 : D ≠ L) (h2 : B.m D = none) (h3 : S D = none) (h4 : D ∉ M.map (·.1)) : StC c S₀ n₀ B S ((D, x) :: M) L ρ h g o :=
  { st with
    mem := fun q hq => by
      rcases List.mem_cons.mp hq with rfl | hq
      · exact ⟨hg, h1, h2, h3⟩
      · exact st.mem q hq
    nd := List.nodup_cons.mpr ⟨h4, st.nd⟩ }

/-- the block of a comprehension behind its iterator -/
noncomputable def CompR (prog : Program) (w : World) (A : Around) (env : Env) (scope : Scope) (cl : List (Str × Addr)) (e : Expr) (RR : Value → Addr → Result → Shared → Prop) (it : Value) (s₂ : Shared) : Prop :=
  wpAny (model prog w) A (newList []) (fun acc s₃ => wpAny (model prog w) A (newFunctionEnv scope env.globals cl [] env.qual none .none (some env)) (fun cenv s₄ =>
      codeAny (model prog w) A (.compStart e 0 it acc { cenv with scope := relabel scope env }) (RR acc cenv.locals) s₄) F0 s₃) F0 s₂

theorem compW {I : Addr} {fp wr : List Addr} {n : Nat} {P : Nat → Value → Prop} {T : Nat → Heap → Prop} {px : Pos} {elt iter : Expr} {ifs : List Expr} {scope : Scope} {cl : List (Str × Addr)} {cpos : Pos} {RR : Value → Addr → Result → Shared → Prop} (J : Nat → List Value → PM → List (Addr × Obj) → Prop)
    (W : Walks prog w A I fp wr n P T) (hsz : n ≤ sizeLine) (hfp : ∀ b ∈ fp, b ∈ wr ∨ ∃ y, S b = some y) (hob : ∀ i h, T i h → ∀ b ∈ wr, ∃ y, h.get? b = some y) (hw : ∀ b ∈ wr, b ≠ L ∧ B.m b = none ∧ S b = none ∧ b ∉ M.map (·.1)) (h0 : T 0 s.heap)
    (hcell : ∀ y ∈ scope.names, y.2 ≠ .cell) (hkind : scope.kind = .function) (hx : scope.names.lookup x = some .local)
    (st : St c S₀ n₀ B S M L ρ s) (j0 : J 0 [] S M)
    (turn : ∀ C i v ys B' S' M' ρ' s', i < n → P i v → Le S S' → J i ys S' M' → St c S₀ n₀ B' S' M' C (up ρ' x v) s' →
      wpAny (model prog w) A (tests ifs (compEnvC scope cl C env)) (fun ok s₁ => if ok = true then wpAny (model prog w) A (eval elt (compEnvC scope cl C env)) (fun y s₂ => CEnd c S₀ n₀ B' C (J (i + 1) (ys ++ [y])) S' s₂) F0 s₁ else CEnd c S₀ n₀ B' C (J (i + 1) ys) S' s₁) F0 s')
    (done : ∀ S' M' ys D C s', Le S S' → J n ys S' M' → n₀ ≤ D → St c S₀ n₀ B S' ((D, lst ys ys.length) :: M') L ρ s' → (C ≠ L ∧ B.m C = none ∧ S' C = none ∧ C ∉ ((D, lst ys ys.length) :: M').map (·.1)) → (∃ m, s'.heap.Ns C m) → RR (.ref D) C (.ok .next) s') :
    CompR prog w A env scope cl (.ListComp elt [⟨.Name x px, iter, ifs, 0⟩] scope cpos) RR (.ref I) s := by
  unfold CompR
  refine wpAny_newObj_type (wpAny_newFunctionEnv hcell (by intro y hy; simp at hy) (fun h₁ hns₁ hsb₁ => ?_) hkind)
  dsimp only at hns₁ hsb₁ ⊢
  generalize hH2 : s.heap.push { cls := .type "list", dict := none, data := .seq ([] : List Value).toArray } = H2 at hns₁ hsb₁ ⊢
  have hC : H2.objs.size = s.heap.objs.size + 1 := by rw [← hH2, Heap.size_push]
  have hDC : s.heap.objs.size ≠ H2.objs.size := by rw [hC]; exact Nat.ne_of_lt (Nat.lt_succ_self _)
  have below : ∀ b, b < s.heap.objs.size → b ≠ H2.objs.size ∧ b ≠ s.heap.objs.size := fun b hb => ⟨by rw [hC]; exact Nat.ne_of_lt (Nat.lt_succ_of_lt hb), Nat.ne_of_lt hb⟩
  have old : ∀ b o, s.heap.get? b = some o → h₁.get? b = some o := fun b o e => hsb₁.extBut b o (below b (Heap.lt_size e)).1 (Heap.get?_push_of_some _ (hH2 ▸ Heap.get?_push_of_some _ e))
  have hacc : h₁.get? s.heap.objs.size = some (lst [] 0) := hsb₁.extBut _ _ hDC (Heap.get?_push_of_some _ (hH2 ▸ Heap.get?_push_size _ rfl))
  have hst₁ : T 0 h₁ := W.frame _ _ _ h0 fun b _ o e => old b o e
  have low : ∀ b ∈ wr, b < s.heap.objs.size := fun b hb => let ⟨y, e⟩ := hob _ _ h0 b hb; Heap.lt_size e
  have fr : ∀ a, s.heap.objs.size ≤ a → a ≠ L ∧ B.m a = none ∧ S a = none ∧ a ∉ M.map (·.1) := fun a ha => ⟨fun q => Nat.lt_irrefl _ (Nat.lt_of_lt_of_le st.lt (q ▸ ha)), none_of fun y e => Nat.lt_irrefl _ (Nat.lt_of_lt_of_le (Heap.lt_size (st.kb _ _ e)) ha),
    none_of fun y e => Nat.lt_irrefl _ (Nat.lt_of_lt_of_le (Heap.lt_size (st.ks _ _ e)) ha), fun q => by
      obtain ⟨p, hp, e⟩ := List.mem_map.mp q
      exact Nat.lt_irrefl _ (Nat.lt_of_lt_of_le (Heap.lt_size (st.mem p hp).1) (e ▸ ha))⟩
  have hCle : s.heap.objs.size ≤ H2.objs.size := by rw [hC]; exact Nat.le_succ _
  have dD := fr _ (Nat.le_refl _)
  have dC := fr _ hCle
  have st₁ : StC c S₀ n₀ B S M L ρ h₁ s.gens s.os := st.kept old
  have loop : ∀ s₃ : Shared, s₃ = { s with heap := h₁, toks := s.toks + ([] : List (Str × Value)).length } →
      codeAny (model prog w) A (.compLoop (.ListComp elt [⟨.Name x px, iter, ifs, 0⟩] scope cpos) 0 (.ref I) (.ref s.heap.objs.size) (compEnvC scope cl H2.objs.size env)) (RR (.ref s.heap.objs.size) H2.objs.size) s₃ := by
    rintro s₃ rfl
    refine compLoopW (s := { s with heap := h₁, toks := s.toks + ([] : List (Str × Value)).length }) (env := compEnvC scope cl H2.objs.size env) J W hsz hfp hob (fun b hb => ⟨(hw b hb).1, (below b (low b hb)).1, (below b (low b hb)).2, (hw b hb).2⟩) hst₁ hacc ⟨dD.1, hDC, dD.2⟩ hns₁ dC (Nat.le_trans st.bigger hCle) st₁
      (lookup_relabel_local hx) (by simp [compEnvC, relabel, hkind]) rfl j0 (turn _) ?_
    intro S' M' ys s' le hJ st' cs cD d1 d2 d3 d4 hD hC'
    refine done S' M' ys _ _ s' le hJ st.bigger (st'.addM hD d1 d2 d3 d4) ⟨cs.1, cs.2.1, cs.2.2.1, ?_⟩ hC'
    intro q
    rcases List.mem_cons.mp q with q | q
    · exact cD q
    · exact cs.2.2.2 q
  exact codeAny_compStart_list (loop _ rfl) (W.self 0 _ _ _ hst₁ (loop _ rfl))

theorem comp_list {l : Addr} {lo : Obj} {vs : List Value} {px : Pos} {elt iter : Expr} {ifs : List Expr} {scope : Scope} {cl : List (Str × Addr)} {cpos : Pos} {RR : Value → Addr → Result → Shared → Prop} (J : Nat → List Value → PM → List (Addr × Obj) → Prop)
    (st : St c S₀ n₀ B S M L ρ s) (hh : A.handled = none) (hl : S l = some lo) (hlo : LO lo vs) (hsz : vs.length ≤ sizeLine) (hcell : ∀ y ∈ scope.names, y.2 ≠ .cell) (hkind : scope.kind = .function) (hx : scope.names.lookup x = some .local) (j0 : J 0 [] S M)
    (turn : ∀ C i v ys B' S' M' ρ' s', vs[i]? = some v → Le S S' → J i ys S' M' → St c S₀ n₀ B' S' M' C (up ρ' x v) s' →
      wpAny (model prog w) A (tests ifs (compEnvC scope cl C env)) (fun ok s₁ => if ok = true then wpAny (model prog w) A (eval elt (compEnvC scope cl C env)) (fun y s₂ => CEnd c S₀ n₀ B' C (J (i + 1) (ys ++ [y])) S' s₂) F0 s₁ else CEnd c S₀ n₀ B' C (J (i + 1) ys) S' s₁) F0 s')
    (done : ∀ S' M' ys D C s', Le S S' → J vs.length ys S' M' → n₀ ≤ D → St c S₀ n₀ B S' ((D, lst ys ys.length) :: M') L ρ s' → (C ≠ L ∧ B.m C = none ∧ S' C = none ∧ C ∉ ((D, lst ys ys.length) :: M').map (·.1)) → (∃ m, s'.heap.Ns C m) → RR (.ref D) C (.ok .next) s') :
    wpAny (model prog w) A (pyIter (.ref l)) (CompR prog w A env scope cl (.ListComp elt [⟨.Name x px, iter, ifs, 0⟩] scope cpos) RR) E s := by
  have hg := st.S_at hl
  have hls := hlo.is hg
  have hne : l ≠ s.heap.objs.size := Nat.ne_of_lt (Heap.lt_size hg)
  refine wpAny_pyIter_list hls ?_
  have W := Walks.list (prog := prog) (w := w) hh s.heap.objs.size l hne vs.toArray
  have hn : vs.toArray.size = vs.length := by simp
  rw [hn] at W
  refine compW J W hsz ?_ ?_ (fun b hb => by rw [List.mem_singleton.mp hb]; exact st.freshM) ⟨⟨_, Heap.get?_push_size _ rfl, rfl, rfl⟩, hls.at fun o e => Heap.get?_push_of_some _ e⟩ hcell hkind hx (st.pushBy _ rfl) j0 (fun C i v ys B' S' M' ρ' s' _ hP => turn C i v ys B' S' M' ρ' s' (by simpa using hP)) done
  · intro b hb
    rcases List.mem_cons.mp hb with e | hb
    · exact .inl (by rw [e]; exact List.mem_singleton.mpr rfl)
    · exact .inr ⟨lo, (List.mem_singleton.mp hb) ▸ hl⟩
  · rintro i h ⟨⟨o, ho, _⟩, _⟩ b hb
    rw [List.mem_singleton.mp hb]
    exact ⟨o, ho⟩
theorem comp_range {r : Addr} {b₀ : Int} {t₀ u₀ v₀ : Tok} {n : Nat} {px : Pos} {elt iter : Expr} {ifs : List Expr} {scope : Scope} {cl : List (Str × Addr)} {cpos : Pos} {RR : Value → Addr → Result → Shared → Prop} (J : Nat → List Value → PM → List (Addr × Obj) → Prop)
    (st : St c S₀ n₀ B S M L ρ s) (hh : A.handled = none) (hr : IsRange s.heap r 0 b₀ 1 t₀ u₀ v₀) (hsmall : Builtin.Range.small 0 b₀ 1 = true) (hn : Builtin.Range.rangeSize 0 b₀ 1 = (n : Int)) (hsz : n ≤ sizeLine) (hcell : ∀ y ∈ scope.names, y.2 ≠ .cell) (hkind : scope.kind = .function) (hx : scope.names.lookup x = some .local) (j0 : J 0 [] S M)
    (turn : ∀ C (i : Nat) t ys B' S' M' ρ' s', i < n → Le S S' → J i ys S' M' → St c S₀ n₀ B' S' M' C (up ρ' x (.int i t)) s' →
      wpAny (model prog w) A (tests ifs (compEnvC scope cl C env)) (fun ok s₁ => if ok = true then wpAny (model prog w) A (eval elt (compEnvC scope cl C env)) (fun y s₂ => CEnd c S₀ n₀ B' C (J (i + 1) (ys ++ [y])) S' s₂) F0 s₁ else CEnd c S₀ n₀ B' C (J (i + 1) ys) S' s₁) F0 s')
    (done : ∀ S' M' ys D C s', Le S S' → J n ys S' M' → n₀ ≤ D → St c S₀ n₀ B S' ((D, lst ys ys.length) :: M') L ρ s' → (C ≠ L ∧ B.m C = none ∧ S' C = none ∧ C ∉ ((D, lst ys ys.length) :: M').map (·.1)) → (∃ m, s'.heap.Ns C m) → RR (.ref D) C (.ok .next) s') :
    wpAny (model prog w) A (pyIter (.ref r)) (CompR prog w A env scope cl (.ListComp elt [⟨.Name x px, iter, ifs, 0⟩] scope cpos) RR) E s := by
  refine wpAny_pyIter_range hr hsmall ?_
  have W : Walks prog w A s.heap.objs.size [s.heap.objs.size] [s.heap.objs.size] n (fun i v => ∃ t, v = .int ((0 : Int) + i * 1) t)
      (fun i h => IsRangeIter h s.heap.objs.size ((0 : Int) + (i : Nat) * 1) ((n : Int) - (i : Nat)) 1) := Walks.range hh _ 0 1 n
  refine compW J W hsz (fun b hb => .inl hb) ?_ (fun b hb => by rw [List.mem_singleton.mp hb]; exact st.freshM) (by show IsRangeIter _ _ _ _ _; rw [hn]; simpa using Heap.get?_push_size _ rfl) hcell hkind hx (st.pushBy _ rfl) j0 ?_ done
  · intro i h hi b hb
    rw [List.mem_singleton.mp hb]
    exact ⟨_, hi⟩
  · rintro C i v ys B' S' M' ρ' s' hi ⟨t, rfl⟩ le hJ st'
    have e1 : (0 : Int) + (i : Int) * 1 = (i : Int) := by rw [Int.zero_add, Int.mul_one]
    rw [e1] at st'
    exact turn C i t ys B' S' M' ρ' s' hi le hJ st'

/-- the comprehension as a value -/
theorem comp_in {elt iter : Expr} {px : Pos} {ifs : List Expr} {scope : Scope} {cl : List (Str × Addr)} {cpos : Pos} {Q : Value → Shared → Prop}
    (hclos : closureFor scope env = pure cl) (hkind : scope.kind = .function) (hnames : ∀ y ∈ scope.names, y.2 = .local → scope.names.lookup y.1 = some .local)
    (h : wpAny (model prog w) A (eval iter env) (fun xv s₁ => wpAny (model prog w) A (pyIter xv) (CompR prog w A env scope cl (.ListComp elt [⟨.Name x px, iter, ifs, 0⟩] scope cpos) (fun acc C => compPost (model prog w) A E none Q acc C)) F0 s₁) F0 s)
    (hs : ∀ x, foldedSetIterable iter env x = pure x := by intro _; rfl) :
    wpAny (model prog w) A (eval (.ListComp elt [⟨.Name x px, iter, ifs, 0⟩] scope cpos) env) Q E s := by
  rw [eval_ListComp]
  refine wpAny_comprehension_free (use := none) rfl hs hclos hkind hnames (wpAny_mono h (fun xv s₁ h₁ => wpAny_mono h₁ (fun it s₂ h₂ => ?_) fun _ _ e => e.elim) fun _ _ e => e.elim)
  exact wpAny_mono h₂ (fun _ _ q => wpAny_mono q (fun _ _ q => q) fun _ _ e => e.elim) fun _ _ e => e.elim
theorem compE {ys : List Value} {D C : Addr} {Q : Value → Shared → Prop} (st : St c S₀ n₀ B S ((D, lst ys ys.length) :: M) L ρ s) (hC : C ≠ L ∧ B.m C = none ∧ S C = none ∧ C ∉ ((D, lst ys ys.length) :: M).map (·.1)) (hn : ∃ m, s.heap.Ns C m)
    (h : ∀ s', St c S₀ n₀ B S ((D, lst ys ys.length) :: M) L ρ s' → Q (.ref D) s') : compPost (model prog w) A E none Q (.ref D) C (.ok .next) s := by
  obtain ⟨m, hm⟩ := hn
  exact ⟨m, hm, fun h' hs => h _ (StC.iter (wr := [C]) st (fun b y hb e => (hs.2 b (by simpa using hb)).trans e) fun b hb => by rw [List.mem_singleton.mp hb]; exact hC)⟩
/-- the comprehension stored under a name -/
theorem comp_to {elt iter : Expr} {px : Pos} {y : Str} {py : Pos} {ifs : List Expr} {scope : Scope} {cl : List (Str × Addr)} {cpos spos : Pos} {Q : Flow → Shared → Prop}
    (hsw : swapsWith (.ListComp elt [⟨.Name x px, iter, ifs, 0⟩] scope cpos) (some (.Name y py)) spos.line env = pure true)
    (hclos : closureFor scope env = pure cl) (hkind : scope.kind = .function) (hnames : ∀ y ∈ scope.names, y.2 = .local → scope.names.lookup y.1 = some .local)
    (h : wpAny (model prog w) A (eval iter env) (fun xv s₁ => wpAny (model prog w) A (pyIter xv) (CompR prog w A env scope cl (.ListComp elt [⟨.Name x px, iter, ifs, 0⟩] scope cpos) (fun acc C => compPost (model prog w) A E (some (assign (.Name y py) env)) (fun _ s' => Q .next s') acc C)) F0 s₁) F0 s)
    (hs : ∀ x, foldedSetIterable iter env x = pure x := by intro _; rfl) :
    wpAny (model prog w) A (exec (.Assign [.Name y py] (.ListComp elt [⟨.Name x px, iter, ifs, 0⟩] scope cpos) spos) env) Q E s := by
  rw [exec_Assign_Name_used _ _ _ _ hsw]
  refine wpAny_bind (wpAny_standAt (wpAny_bind ?_))
  show wpAny _ A (do let _ ← comprehension (.ListComp elt [⟨.Name x px, iter, ifs, 0⟩] scope cpos) scope env _ (newList []) false (eval iter env) (some (assign (.Name y py) env))) _ _ s
  refine wpAny_bind (wpAny_mono (wpAny_comprehension_free (use := some (assign (.Name y py) env)) (Q := fun _ s' => Q .next s') rfl hs hclos hkind hnames
    (wpAny_mono h (fun xv s₁ h₁ => wpAny_mono h₁ (fun it s₂ h₂ => ?_) fun _ _ e => e.elim) fun _ _ e => e.elim)) (fun _ s' hq => wpAny_pure (wpAny_pure hq)) fun _ _ e => e)
  exact wpAny_mono h₂ (fun _ _ q => wpAny_mono q (fun _ _ q => q) fun _ _ e => e.elim) fun _ _ e => e.elim
theorem compA {ys : List Value} {D C : Addr} {y : Str} {py : Pos} {Q : Shared → Prop} (st : St c S₀ n₀ B S ((D, lst ys ys.length) :: M) L ρ s) (hC : C ≠ L ∧ B.m C = none ∧ S C = none ∧ C ∉ ((D, lst ys ys.length) :: M).map (·.1)) (hn : ∃ m, s.heap.Ns C m)
    (hy : env.kindOf y = some .local) (hk : env.scope.kind = .function) (hL : env.locals = L)
    (h : ∀ s', St c S₀ n₀ B S ((D, lst ys ys.length) :: M) L (up ρ y (.ref D)) s' → Q s') : compPost (model prog w) A E (some (assign (.Name y py) env)) (fun _ s' => Q s') (.ref D) C (.ok .next) s := by
  obtain ⟨m, hm⟩ := hn
  show wpAny (model prog w) A (assign (.Name y py) env (.ref D)) _ E s
  refine wpAny_assign_Name (wpAny_storeName_local hy (hL ▸ st.ns) (fun h₂ hn₂ hs₂ => ?_) (by rw [hk]; rfl))
  rw [hL] at hn₂ hs₂
  have st₂ := st.names hn₂ hs₂
  refine ⟨m, hm.sameBut hs₂ hC.1, fun h' hs => h _ ?_⟩
  exact StC.iter (wr := [C]) st₂ (fun b y hb e => (hs.2 b (by simpa using hb)).trans e) fun b hb => by rw [List.mem_singleton.mp hb]; exact hC
end

section
variable {prog : Program} {w : World} {A : Around} {s : Shared} {c : Cx} {S : PM}
/-- into a function of the text some of whose names are cells -/
theorem enterC {R : Result → Shared → Prop} {d : Nat} {name qual : Str} {params : Arguments} {body : List Stmt} {scope : Scope} {dV kV doc pm cdv ct oc : Value} {an od : Option Addr} {osl : Array (Option Value)} {a : Addr} {args : Args} {binds : List (Str × Value)} {cells : Addr → List (Str × Addr)}
    (P : Pre c S s) (hA : Rm A (d + 1))
    (ho : c.K.lookup a = some ⟨oc, od, .func (fnX name qual params body scope [] dV kV doc pm an cdv ct), osl⟩) (hcd : codeIn c.K cdv qual = true)
    (hbind : BindsTo s (fnX name qual params body scope [] dV kV doc pm an cdv ct) args binds) (hcs : ∀ n, cellsFrom (n + 1) scope.names [] = cells n)
    (hkind : ∀ n, ∀ x ∈ binds, scope.names.lookup x.1 = some .local ∨ (scope.names.lookup x.1 = some .cell ∧ ((cells n).lookup x.1).isSome = true)) (hnd : ((cells 0).map (·.1)).Nodup)
    (hco : scope.isCoroutine = false) (hgen : scope.isGenerator = false) (hk : scope.kind = .function)
    (h : ∀ A' L n₀ B s' cs, Rm A' d → CellsAre (bindC (fun x => scope.names.lookup x) binds fun _ => none) (cells L) cs → St c S n₀ B S cs L (bindL (fun x => scope.names.lookup x) binds fun _ => none) s' → (∀ S' M' ρ' s'', St c S n₀ B S' M' L ρ' s'' → Le S S' → Post c [] S s S' s'') →
      wpAny (model prog w) A' (execs body (envX qual scope L a cdv (cells L))) (fun fl s' => R (.ok (.ret (match fl with | .ret v => v | _ => .none))) s') (fun _ _ => False) s') :
    codeAny (model prog w) A (.call (.ref a) args) R s := by
  have X := P.K
  refine codeAny_call_function hA.room (X _ _ ho) rfl hco hgen rfl (codeRec_of X hcd) (hbind _ _ _ _ ?_)
  refine wpAny_newFunctionEnv_cells hk (by rw [hcs]; exact hkind _) fun env' he s' x => ?_
  subst he
  refine ⟨P.nolimit.keeps x.toInCall.keep, codeAny_func ?_⟩
  obtain ⟨h₁, tk, rfl, _⟩ := x.done
  have hk₁ := x.toInCall.keep
  have hnd' : ((cellsFrom (s.heap.objs.size + 1) scope.names []).map (·.1)).Nodup := by
    rw [cellsFrom_names scope.names (s.heap.objs.size + 1) (0 + 1) [] [] rfl, hcs]; exact hnd
  obtain ⟨cs, NC, Y⟩ := Cl.news (h₀ := s.heap) (Nat.le_refl _) fun n c hm => ⟨x.cell n c (lookup_of_mem_nodup hnd' hm), x.above n c hm⟩
  have hnodup : (cs.map (·.1)).Nodup := by
    have key : ∀ {l : List (Str × Addr)} {cs : List (Addr × Obj)} {cm : Str → Option Value}, CellsAre cm l cs → (l.Pairwise fun x y => x.2 ≠ y.2) → (cs.map (·.1)).Nodup ∧ ∀ q ∈ cs, ∃ p ∈ l, p.2 = q.1 := by
      intro l cs cm q
      induction q with
      | nil => intro _; exact ⟨.nil, fun _ hq => nomatch hq⟩
      | @cons n a o l cs _ r ih =>
        intro hp
        obtain ⟨h1, h2⟩ := List.pairwise_cons.mp hp
        obtain ⟨i1, i2⟩ := ih h2
        refine ⟨List.nodup_cons.mpr ⟨fun z => ?_, i1⟩, fun q hq => ?_⟩
        · obtain ⟨q, hq, e⟩ := List.mem_map.mp z
          obtain ⟨p, hp, e2⟩ := i2 q hq
          exact h1 p hp (e2.trans e).symm
        · rcases List.mem_cons.mp hq with rfl | hq
          · exact ⟨_, .head _, rfl⟩
          · obtain ⟨p, hp, e⟩ := i2 q hq
            exact ⟨p, .tail _ hp, e⟩
    exact (key Y x.apart).1
  have hY := Y
  have hns := x.toInCall.ns
  have hd := hA.deeper (envX qual scope s.heap.objs.size a cdv (cellsFrom (s.heap.objs.size + 1) scope.names []))
  simp only [hcs] at hY hns hd ⊢
  refine wpAny_mono (h _ s.heap.objs.size s.heap.objs.size ⟨fun b => s.heap.get? b, fun _ => False⟩ _ cs hd hY ?_ fun S' M' ρ' s'' st le => StC.post st le) (fun _ _ y => y) fun _ _ y => y.elim
  exact {
    ns := x.toInCall.ns
    kb := fun b y e => hk₁ b y e
    ks := fun b o e => hk₁ b o (P.ks b o e)
    bl := none_of fun o e => Nat.lt_irrefl _ (Heap.lt_size e)
    wo := fun _ hb => hb.elim
    sl := none_of fun o e => Nat.lt_irrefl _ (Heap.lt_size (P.ks _ _ e))
    mem := fun q hq => ⟨(NC q hq).1, (NC q hq).2.1, (NC q hq).2.2, none_of fun o e => by
      have := P.ks _ _ e
      rw [(NC q hq).2.2] at this; cases this⟩
    nd := hnodup
    gd := P.gd
    gs := P.gs
    new := fun b o e => .inl e
    big := Nat.le_refl _
    eg := P.eg
    eo := P.eo }
end
/-- names that are locals or cells -/
noncomputable def KindsC (scope : Scope) (cells : List (Str × Addr)) : List (Str × Value) → Prop
  | [] => True
  | x :: r => (scope.names.lookup x.1 = some .local ∨ (scope.names.lookup x.1 = some .cell ∧ (cells.lookup x.1).isSome = true)) ∧ KindsC scope cells r
theorem kindsC {scope : Scope} {cells : List (Str × Addr)} : ∀ {binds : List (Str × Value)}, KindsC scope cells binds → ∀ x ∈ binds, scope.names.lookup x.1 = some .local ∨ (scope.names.lookup x.1 = some .cell ∧ (cells.lookup x.1).isSome = true)
  | [], _, _, hx => nomatch hx
  | _ :: _, h, x, hx => by
    rcases List.mem_cons.mp hx with e | hx
    · rw [e]; exact h.1
    · exact kindsC h.2 x hx

/-! R10 -/
section
variable {prog : Program} {w : World} {A : Around} {E : Value → Shared → Prop} {s : Shared} {c : Cx} {B : Kp} {S₀ S S' : PM} {n₀ : Nat} {M M' : List (Addr × Obj)} {L : Addr} {ρ ρ' : Str → Option Value} {env : Env}
  {h h' : Heap} {g : Array GenState} {o : OsState} {x : Str} {pos : Pos} {v : Value}

theorem DI.at {o : Obj} {kvs : List (Int × Value)} (h : DI prog w o kvs) {i : Nat} {k : Int} {v : Value} (e : kvs[i]? = some (k, v)) : valueAt kvs k = some v := by
  obtain ⟨_, _, _, _, _, _, hn⟩ := h
  exact valueAt_of_get hn e
theorem none0 (a : Addr) : ({} : Heap).get? a = none := by unfold Heap.get?; simp
/-- the state told by the library's words: all its objects -/
theorem StC.all (st : StC c S₀ n₀ B S M L ρ h g o) : ∃ all, Fr {} L h ρ ∧ News {} L h all ∧ ∀ a x, a ≠ L → h.get? a = some x → (a, x) ∈ all := by
  refine ⟨(List.range h.objs.size).filterMap (fun a => if a = L then none else (h.get? a).map fun x => (a, x)), ⟨st.ns, (fun b x e => by rw [none0] at e; cases e), Nat.zero_le _⟩, ?_, ?_⟩
  · intro p hp
    obtain ⟨a, _, e⟩ := List.mem_filterMap.mp hp
    split at e
    · cases e
    · rename_i hne
      obtain ⟨x, hx, rfl⟩ := Option.map_eq_some_iff.mp e
      exact ⟨hx, hne, none0 _⟩
  · intro a x hne e
    refine List.mem_filterMap.mpr ⟨a, List.mem_range.mpr (Heap.lt_size e), ?_⟩
    rw [if_neg hne, e]; rfl
/-- all but the frame stood, the frame's names stand -/
theorem StC.keptL (st : StC c S₀ n₀ B S M L ρ h g o) (hn : h'.Ns L ρ') (hk : ∀ b x, b ≠ L → h.get? b = some x → h'.get? b = some x) : StC c S₀ n₀ B S M L ρ' h' g o where
  ns := hn
  kb := fun b x e => hk b x (by rintro rfl; rw [st.bl] at e; cases e) (st.kb b x e)
  ks := fun b x e => hk b x (by rintro rfl; rw [st.sl] at e; cases e) (st.ks b x e)
  bl := st.bl
  wo := st.wo
  sl := st.sl
  mem := fun q hq => let m := st.mem q hq; ⟨hk _ _ m.2.1 m.1, m.2⟩
  nd := st.nd
  gd := st.gd
  gs := st.gs
  new := st.new
  big := st.big
  eg := st.eg
  eo := st.eo
theorem StC.fromAll {all : List (Addr × Obj)} (st : StC c S₀ n₀ B S M L ρ h g o) (ha : ∀ a x, a ≠ L → h.get? a = some x → (a, x) ∈ all) (F : Fr {} L h' ρ') (N : News {} L h' all) : StC c S₀ n₀ B S M L ρ' h' g o :=
  st.keptL F.ns fun b x hb e => (N _ (ha b x hb e)).1
/-- what is fresh -/
theorem StC.off (st : StC c S₀ n₀ B S M L ρ h g o) {a : Addr} (ha : h.get? a = none) : B.m a = none ∧ S a = none ∧ a ∉ M.map (·.1) :=
  ⟨none_of (fun y e => by have := st.kb _ _ e; rw [ha] at this; cases this), none_of (fun y e => by have := st.ks _ _ e; rw [ha] at this; cases this), fun q => by
    obtain ⟨p, hp, e⟩ := List.mem_map.mp q
    have := (st.mem p hp).1
    rw [e, ha] at this; cases this⟩
theorem StC.fromNew {all : List (Addr × Obj)} {D : Addr} {x : Obj} (st : StC c S₀ n₀ B S M L ρ h g o) (ha : ∀ a x, a ≠ L → h.get? a = some x → (a, x) ∈ all) (F : Fr {} L h' ρ') (N : News {} L h' ((D, x) :: all)) (hD : h.get? D = none) :
    StC c S₀ n₀ B S ((D, x) :: M) L ρ' h' g o := by
  have st' := st.fromAll ha F fun p hp => N p (.tail _ hp)
  have z := N (D, x) (.head _)
  obtain ⟨h1, h2, h3⟩ := st.off hD
  exact st'.addM z.1 z.2.1 h1 h2 h3
theorem gone (h : Heap) : h.get? h.objs.size = none := none_of fun _ e => Nat.lt_irrefl _ (Heap.lt_size e)

/-! lists -/
theorem mulL {l : Addr} {vs : List Value} {k : Nat} {y : Int} {u : Tok} {Q : Value → Shared → Prop} (st : St c S₀ n₀ B S M L ρ s) (hl : s.heap.get? l = some (lst vs k)) (h0 : 0 ≤ y) (h1 : y < 1000) (hz : vs.length ≤ 10)
    (hv : ∀ a s', n₀ ≤ a → St c S₀ n₀ B S ((a, lst (List.replicate y.toNat vs).flatten 0) :: M) L ρ s' → Q (.ref a) s') : wpAny (model prog w) A (binaryOp .Mult (.ref l) (.int y u)) Q E s := by
  obtain ⟨all, F, N, ha⟩ := StC.all st
  have hsz : vs.toArray.size * y.toNat ≤ 2 ^ 24 := by
    rw [List.size_toArray]
    exact Nat.le_trans (Nat.mul_le_mul hz (show y.toNat ≤ 1000 by omega)) (by decide)
  refine mul_list F N hl (by omega) (by omega) hsz fun h' F' N' => ?_
  have e : (List.foldl (fun x1 x2 => x1 ++ x2) #[] (List.replicate (if vs.toArray.isEmpty = true then 0 else y.toNat) vs.toArray)) = (List.replicate y.toNat vs).flatten.toArray := by
    have key : ∀ (n : Nat) (acc : Array Value), List.foldl (fun x1 x2 => x1 ++ x2) acc (List.replicate n vs.toArray) = acc ++ (List.replicate n vs).flatten.toArray := by
      intro n
      induction n with
      | zero => intro acc; simp
      | succ n ih => intro acc; rw [List.replicate_succ, List.foldl_cons, ih, List.replicate_succ, List.flatten_cons]; simp
    rw [key]
    by_cases hv : vs = []
    · subst hv; simp
    · have : vs.toArray.isEmpty = false := by simpa using hv
      rw [if_neg (by rw [this]; decide)]; simp
  rw [e] at N'
  exact hv _ _ st.bigger (st.fromNew ha F' N' (gone _))
theorem extendM {l b : Addr} {vs us : List Value} {n k : Nat} {Mf : Nat → List (Addr × Obj)} {Q : Value → Shared → Prop} (st : St c S₀ n₀ B S M L ρ s) (U : ∀ n', UpM l (lst vs n) (lst (vs ++ us) n') M (Mf n')) (hb : s.heap.get? b = some (lst us k)) (hsz : vs.length + us.length ≤ sizeLine)
    (h : ∀ n' s', St c S₀ n₀ B S (Mf n') L ρ s' → Q .none s') : wpAny (model prog w) A (call (.builtin "list.extend") [.ref l, .ref b]) Q E s := by
  have hg := (st.mem _ (U 0).mem).1
  have hz : vs.toArray.size + us.toArray.size ≤ sizeLine := by simpa using hsz
  refine call_meets PySem.F.slot_list_extend ⟨_, hg, rfl⟩ PySem.F.entry_list_extend (PySem.F.args_list_extend_2 _ _) (AutoSeq1.list_extend_list_list_0 l vs.toArray n b us.toArray k (extend_door hz) (Nat.le_trans (Nat.le_add_right _ _) hz) (Nat.le_succ_of_le hz)) ⟨hg, hb, ?_⟩
  refine h (if (vs.toArray ++ us.toArray).size == vs.toArray.size then n else n + 1) _ (st.upd (U _) (Heap.SameBut.update ..) ?_)
  rw [Heap.get?_update_self _ hg (by rw [mapSeq_app]; rfl), mapSeq_app]
  have e : vs.toArray ++ us.toArray = (vs ++ us).toArray := by simp
  rw [e]
theorem addL {l b : Addr} {lo bo : Obj} {vs us : List Value} {Q : Value → Shared → Prop} (st : St c S₀ n₀ B S M L ρ s) (hl : s.heap.get? l = some lo) (hlo : LO lo vs) (hb : s.heap.get? b = some bo) (hbo : LO bo us) (hsz : vs.length + us.length ≤ sizeLine)
    (h : ∀ a s', n₀ ≤ a → St c S₀ n₀ B S ((a, lst (vs ++ us) 0) :: M) L ρ s' → Q (.ref a) s') : wpAny (model prog w) A (binaryOp .Add (.ref l) (.ref b)) Q E s := by
  obtain ⟨all, F, N, ha⟩ := StC.all st
  refine add_arrays F N (hlo.is hl) (hbo.is hb) (fun h' F' N' => ?_) (by simpa using hsz)
  exact h _ _ st.bigger (st.fromNew ha F' N' (gone _))
theorem tupOfL {l : Addr} {lo : Obj} {vs : List Value} {Q : Value → Shared → Prop} (st : St c S₀ n₀ B S M L ρ s) (hl : s.heap.get? l = some lo) (hlo : LO lo vs) (hsz : vs.length ≤ sizeLine)
    (h : ∀ a S' s', Le S S' → S' a = some (tup vs 0) → St c S₀ n₀ B S' M L ρ s' → Q (.ref a) s') : wpAny (model prog w) A (call (.type "tuple") [.ref l]) Q E s := by
  refine call_tuple_list (hlo.is hl) (fun h' hk => ?_) (by simpa using hsz)
  have st' := st.kept hk
  exact h _ _ _ (le_put st'.fresh) (put_self _ _ _) (st'.push (tup vs 0) rfl)
theorem listOfL {l : Addr} {lo : Obj} {vs : List Value} {Q : Value → Shared → Prop} (st : St c S₀ n₀ B S M L ρ s) (hl : s.heap.get? l = some lo) (hlo : LO lo vs) (hsz : vs.length ≤ sizeLine)
    (h : ∀ a n s', n₀ ≤ a → St c S₀ n₀ B S ((a, lst vs n) :: M) L ρ s' → Q (.ref a) s') : wpAny (model prog w) A (call (.type "list") [.ref l]) Q E s := by
  obtain ⟨n, hd⟩ := hlo.dat
  refine call_list_seq l (.inl rfl) hl hlo.cls hd (fun h' c' hk hD => ?_) (by simpa using hsz)
  exact h _ c' _ st.bigger (st.keptNewM hk hD (Nat.le_refl _))
theorem truthyL {l : Addr} {lo : Obj} {vs : List Value} {Q : Bool → Shared → Prop} (hl : s.heap.get? l = some lo) (hlo : LO lo vs) (hsz : vs.length < 2 ^ 62) (h : Q (!vs.isEmpty) { s with toks := s.toks + 1 + 1 }) : wpAny (model prog w) A (truthy (.ref l)) Q E s :=
  wpAny_truthy_list (hlo.is hl) (by simp; omega) (by simpa using h)
theorem countL {l : Addr} {lo : Obj} {vs : List Value} {ns : List Int} {k : Int} {t : Tok} {Q : Value → Shared → Prop} (hl : s.heap.get? l = some lo) (hlo : LO lo vs) (hi : IntsAre vs ns) (h : Q (.int (ns.count k : Nat) s.toks) { s with toks := s.toks + 1 }) :
    wpAny (model prog w) A (call (.builtin "list.count") [.ref l, .int k t]) Q E s := count_list_ints (hlo.is hl) hi h
theorem IntsAre.eqAt {vs : List Value} {ns : List Int} (hi : IntsAre vs ns) (k : Int) (t : Tok) : ∀ y ∈ vs, MeetsSeq.EqGives y (.int k t) (isInt k y) := by
  induction hi with
  | nil => intro y hy; cases hy
  | cons n u _ ih =>
    intro y hy
    rcases List.mem_cons.mp hy with rfl | hy
    · exact MeetsSeq.EqGives.int n k u t
    · exact ih y hy
theorem IntsAre.takeOut {vs : List Value} {ns : List Int} (hi : IntsAre vs ns) {k : Int} (hk : k ∈ ns) : ∃ j, ∃ hj : j < vs.length, isInt k vs[j] = true ∧ (∀ i (hi : i < vs.length), i < j → isInt k vs[i] = false) ∧ IntsAre (vs.eraseIdx j) (ns.erase k) := by
  induction hi with
  | nil => cases hk
  | cons n u hr ih =>
    by_cases q : n = k
    · subst q
      exact ⟨0, Nat.zero_lt_succ _, by simp [isInt], fun i _ hlt => absurd hlt (Nat.not_lt_zero _), by simpa using hr⟩
    · obtain ⟨j, hj, e1, e2, e3⟩ := ih ((List.mem_cons.mp hk).resolve_left fun e => q e.symm)
      refine ⟨j + 1, Nat.succ_lt_succ hj, by simpa using e1, fun i hi hlt => ?_, ?_⟩
      · cases i with
        | zero => simp [isInt, q]
        | succ i => simpa using e2 i (Nat.lt_of_succ_lt_succ hi) (Nat.lt_of_succ_lt_succ hlt)
      · rw [List.eraseIdx_cons_succ, List.erase_cons_tail (by simpa using q)]
        exact .cons _ _ e3
theorem removeM {l : Addr} {vs : List Value} {ns : List Int} {n : Nat} {k : Int} {t : Tok} {Mf : List Value → Nat → List (Addr × Obj)} {Q : Value → Shared → Prop} (st : St c S₀ n₀ B S M L ρ s) (U : ∀ vs' n', UpM l (lst vs n) (lst vs' n') M (Mf vs' n')) (hi : IntsAre vs ns) (hk : k ∈ ns) (hsz : vs.length ≤ sizeLine)
    (h : ∀ vs' n' s', IntsAre vs' (ns.erase k) → St c S₀ n₀ B S (Mf vs' n') L ρ s' → Q .none s') : wpAny (model prog w) A (call (.builtin "list.remove") [.ref l, .int k t]) Q E s := by
  have hg := (st.mem _ (U [] 0).mem).1
  obtain ⟨j, hj, e1, e2, e3⟩ := IntsAre.takeOut hi hk
  have hj' : j < vs.toArray.size := by simpa using hj
  refine call_meets PySem.F.slot_list_remove ⟨_, hg, rfl⟩ PySem.F.entry_list_remove (PySem.F.args_list_remove_2 _ _)
    (MeetsSeq.list_remove l vs.toArray n (.int k t) (isInt k) (fun y hy => IntsAre.eqAt hi k t y (by simpa using hy)) j hj' (by simpa using e1) (fun i hi hlt => by simpa using e2 i (by simpa using hi) hlt) (by simpa using hsz)) ⟨hg, ?_⟩
  have e : (vs.toArray.eraseIdxIfInBounds j) = (vs.eraseIdx j).toArray := by
    apply Array.toList_inj.mp
    simp [Array.toList_eraseIdxIfInBounds]
  have hob : ∃ n', (s.heap.update l (Obj.mapSeq fun xs => xs.eraseIdxIfInBounds j)).get? l = some (lst (vs.eraseIdx j) n') := by
    refine ⟨if (vs.toArray.eraseIdxIfInBounds j).size == vs.toArray.size then n else n + 1, ?_⟩
    rw [Heap.get?_update_self _ hg rfl]
    show some ({ cls := .type "list", data := .seq (vs.toArray.eraseIdxIfInBounds j) _ } : Obj) = _
    rw [e]
    show some (lst (vs.eraseIdx j) (if (((vs.toArray.eraseIdxIfInBounds j)).size == vs.toArray.size) = true then n else n + 1)) = _
    rw [e]
  obtain ⟨n', hn'⟩ := hob
  exact h _ n' _ e3 (st.upd (U _ _) (Heap.SameBut.update ..) hn')

/-! loops: reversed lists, tuples -/
theorem reversedL {l : Addr} {lo : Obj} {vs : List Value} {Q : Value → Shared → Prop} (st : St c S₀ n₀ B S M L ρ s) (hl : s.heap.get? l = some lo) (hlo : LO lo vs)
    (h : ∀ a s', St c S₀ n₀ B S M L ρ s' → s'.heap.IsRevIter a l ((vs.length : Int) - 1) → (a ≠ L ∧ B.m a = none ∧ S a = none ∧ a ∉ M.map (·.1)) → Q (.ref a) s') : wpAny (model prog w) A (call (.type "reversed") [.ref l]) Q E s := by
  refine call_reversed_list (hlo.is hl) ?_
  have e : ((vs.toArray.size : Nat) : Int) - 1 = (vs.length : Int) - 1 := by simp
  rw [e]
  exact h _ _ (StC.pushBy st _ rfl) ⟨_, Heap.get?_push_size _ rfl, rfl, rfl⟩ st.freshM
theorem loop_rev {I l : Addr} {lo : Obj} {vs : List Value} {x : Str} {px : Pos} {body : List Stmt} {R : Result → Shared → Prop} (J : Nat → PM → List (Addr × Obj) → (Str → Option Value) → Prop)
    (st : St c S₀ n₀ B S M L ρ s) (hit : s.heap.IsRevIter I l ((vs.length : Int) - 1)) (hI : I ≠ L ∧ B.m I = none ∧ S I = none ∧ I ∉ M.map (·.1)) (hh : A.handled = none) (hl : S l = some lo) (hlo : LO lo vs) (hx : env.kindOf x = some .local) (hk : env.scope.kind = .function) (hL : env.locals = L) (j0 : J 0 S M ρ)
    (turn : ∀ i v B' S' M' ρ' s', i < vs.length → vs[vs.length - 1 - i]? = some v → Le S S' → J i S' M' ρ' → St c S₀ n₀ B' S' M' L (up ρ' x v) s' →
      wpAny (model prog w) A (execs body env) (LEnd c S₀ n₀ B' L (J (i + 1)) S') F0 s')
    (done : ∀ S' M' ρ' s', Le S S' → J vs.length S' M' ρ' → St c S₀ n₀ B S' M' L ρ' s' → R (.ok .next) s') :
    wpAny (model prog w) A (pyIter (.ref I)) (fun it s₂ => codeAny (model prog w) A (.forLoop (.Name x px) it body [] env) R s₂) E s := by
  have hg := st.S_at hl
  have hls := hlo.is hg
  have hne : l ≠ I := by rintro rfl; rw [hI.2.2.1] at hl; cases hl
  refine wpAny_pyIter_revIter hit ?_
  have W := Walks.listRev (prog := prog) (w := w) hh I l hne vs.toArray
  have hn : vs.toArray.size = vs.length := by simp
  rw [hn] at W
  refine loopW J W ?_ ?_ (fun b hb => by rw [List.mem_singleton.mp hb]; exact hI) ⟨Nat.zero_le _, by simpa using hit, hls⟩ st hx hk hL j0 (fun i v B' S' M' ρ' s' hi hP => turn i v B' S' M' ρ' s' hi (by simpa using hP)) done
  · intro b hb
    rcases List.mem_cons.mp hb with e | hb
    · exact .inl (by rw [e]; exact List.mem_singleton.mpr rfl)
    · exact .inr ⟨lo, (List.mem_singleton.mp hb) ▸ hl⟩
  · rintro i h ⟨_, ⟨o, ho, _⟩, _⟩ b hb
    rw [List.mem_singleton.mp hb]
    exact ⟨o, ho⟩
theorem loop_tup {l : Addr} {lo : Obj} {vs : List Value} {x : Str} {px : Pos} {body : List Stmt} {R : Result → Shared → Prop} (J : Nat → PM → List (Addr × Obj) → (Str → Option Value) → Prop)
    (st : St c S₀ n₀ B S M L ρ s) (hh : A.handled = none) (hl : S l = some lo) (hlo : TO lo vs) (hx : env.kindOf x = some .local) (hk : env.scope.kind = .function) (hL : env.locals = L) (j0 : J 0 S M ρ)
    (turn : ∀ i v B' S' M' ρ' s', vs[i]? = some v → Le S S' → J i S' M' ρ' → St c S₀ n₀ B' S' M' L (up ρ' x v) s' →
      wpAny (model prog w) A (execs body env) (LEnd c S₀ n₀ B' L (J (i + 1)) S') F0 s')
    (done : ∀ S' M' ρ' s', Le S S' → J vs.length S' M' ρ' → St c S₀ n₀ B S' M' L ρ' s' → R (.ok .next) s') :
    wpAny (model prog w) A (pyIter (.ref l)) (fun it s₂ => codeAny (model prog w) A (.forLoop (.Name x px) it body [] env) R s₂) E s := by
  have hg := st.S_at hl
  have hls : s.heap.IsTuple l vs.toArray := ⟨lo, hg, hlo.cls, hlo.dat⟩
  have hne : l ≠ s.heap.objs.size := Nat.ne_of_lt (Heap.lt_size hg)
  refine wpAny_pyIter_tuple hls ?_
  have W := Walks.tuple (prog := prog) (w := w) hh s.heap.objs.size l hne vs.toArray
  have hn : vs.toArray.size = vs.length := by simp
  rw [hn] at W
  refine loopW J W ?_ ?_ (fun b hb => by rw [List.mem_singleton.mp hb]; exact st.freshM) ⟨⟨_, Heap.get?_push_size _ rfl, rfl, rfl⟩, hls.at fun o e => Heap.get?_push_of_some _ e⟩ (st.pushBy _ rfl) hx hk hL j0 (fun i v B' S' M' ρ' s' _ hP => turn i v B' S' M' ρ' s' (by simpa using hP)) done
  · intro b hb
    rcases List.mem_cons.mp hb with e | hb
    · exact .inl (by rw [e]; exact List.mem_singleton.mpr rfl)
    · exact .inr ⟨lo, (List.mem_singleton.mp hb) ▸ hl⟩
  · rintro i h ⟨⟨o, ho, _⟩, _⟩ b hb
    rw [List.mem_singleton.mp hb]
    exact ⟨o, ho⟩
theorem comp_tup {l : Addr} {lo : Obj} {vs : List Value} {px : Pos} {elt iter : Expr} {ifs : List Expr} {scope : Scope} {cl : List (Str × Addr)} {cpos : Pos} {RR : Value → Addr → Result → Shared → Prop} (J : Nat → List Value → PM → List (Addr × Obj) → Prop)
    (st : St c S₀ n₀ B S M L ρ s) (hh : A.handled = none) (hl : S l = some lo) (hlo : TO lo vs) (hsz : vs.length ≤ sizeLine) (hcell : ∀ y ∈ scope.names, y.2 ≠ .cell) (hkind : scope.kind = .function) (hx : scope.names.lookup x = some .local) (j0 : J 0 [] S M)
    (turn : ∀ C i v ys B' S' M' ρ' s', vs[i]? = some v → Le S S' → J i ys S' M' → St c S₀ n₀ B' S' M' C (up ρ' x v) s' →
      wpAny (model prog w) A (tests ifs (compEnvC scope cl C env)) (fun ok s₁ => if ok = true then wpAny (model prog w) A (eval elt (compEnvC scope cl C env)) (fun y s₂ => CEnd c S₀ n₀ B' C (J (i + 1) (ys ++ [y])) S' s₂) F0 s₁ else CEnd c S₀ n₀ B' C (J (i + 1) ys) S' s₁) F0 s')
    (done : ∀ S' M' ys D C s', Le S S' → J vs.length ys S' M' → n₀ ≤ D → St c S₀ n₀ B S' ((D, lst ys ys.length) :: M') L ρ s' → (C ≠ L ∧ B.m C = none ∧ S' C = none ∧ C ∉ ((D, lst ys ys.length) :: M').map (·.1)) → (∃ m, s'.heap.Ns C m) → RR (.ref D) C (.ok .next) s') :
    wpAny (model prog w) A (pyIter (.ref l)) (CompR prog w A env scope cl (.ListComp elt [⟨.Name x px, iter, ifs, 0⟩] scope cpos) RR) E s := by
  have hg := st.S_at hl
  have hls : s.heap.IsTuple l vs.toArray := ⟨lo, hg, hlo.cls, hlo.dat⟩
  have hne : l ≠ s.heap.objs.size := Nat.ne_of_lt (Heap.lt_size hg)
  refine wpAny_pyIter_tuple hls ?_
  have W := Walks.tuple (prog := prog) (w := w) hh s.heap.objs.size l hne vs.toArray
  have hn : vs.toArray.size = vs.length := by simp
  rw [hn] at W
  refine compW J W hsz ?_ ?_ (fun b hb => by rw [List.mem_singleton.mp hb]; exact st.freshM) ⟨⟨_, Heap.get?_push_size _ rfl, rfl, rfl⟩, hls.at fun o e => Heap.get?_push_of_some _ e⟩ hcell hkind hx (st.pushBy _ rfl) j0 (fun C i v ys B' S' M' ρ' s' _ hP => turn C i v ys B' S' M' ρ' s' (by simpa using hP)) done
  · intro b hb
    rcases List.mem_cons.mp hb with e | hb
    · exact .inl (by rw [e]; exact List.mem_singleton.mpr rfl)
    · exact .inr ⟨lo, (List.mem_singleton.mp hb) ▸ hl⟩
  · rintro i h ⟨⟨o, ho, _⟩, _⟩ b hb
    rw [List.mem_singleton.mp hb]
    exact ⟨o, ho⟩
theorem comp_dict {d : Addr} {lo : Obj} {kvs : List (Int × Value)} {px : Pos} {elt iter : Expr} {ifs : List Expr} {scope : Scope} {cl : List (Str × Addr)} {cpos : Pos} {RR : Value → Addr → Result → Shared → Prop} (J : Nat → List Value → PM → List (Addr × Obj) → Prop)
    (st : St c S₀ n₀ B S M L ρ s) (hh : A.handled = none) (hl : S d = some lo) (hlo : DI prog w lo kvs) (hd : (d == sysModules) = false) (hsz : kvs.length ≤ sizeLine) (hcell : ∀ y ∈ scope.names, y.2 ≠ .cell) (hkind : scope.kind = .function) (hx : scope.names.lookup x = some .local) (j0 : J 0 [] S M)
    (turn : ∀ C i k t v ys B' S' M' ρ' s', kvs[i]? = some (k, v) → Le S S' → J i ys S' M' → St c S₀ n₀ B' S' M' C (up ρ' x (.int k t)) s' →
      wpAny (model prog w) A (tests ifs (compEnvC scope cl C env)) (fun ok s₁ => if ok = true then wpAny (model prog w) A (eval elt (compEnvC scope cl C env)) (fun y s₂ => CEnd c S₀ n₀ B' C (J (i + 1) (ys ++ [y])) S' s₂) F0 s₁ else CEnd c S₀ n₀ B' C (J (i + 1) ys) S' s₁) F0 s')
    (done : ∀ S' M' ys D C s', Le S S' → J kvs.length ys S' M' → n₀ ≤ D → St c S₀ n₀ B S' ((D, lst ys ys.length) :: M') L ρ s' → (C ≠ L ∧ B.m C = none ∧ S' C = none ∧ C ∉ ((D, lst ys ys.length) :: M').map (·.1)) → (∃ m, s'.heap.Ns C m) → RR (.ref D) C (.ok .next) s') :
    wpAny (model prog w) A (pyIter (.ref d)) (CompR prog w A env scope cl (.ListComp elt [⟨.Name x px, iter, ifs, 0⟩] scope cpos) RR) E s := by
  have hg := st.S_at hl
  obtain ⟨es, ep, hed, hdat, hko, hp, hn⟩ := id hlo
  have hat : s.heap.DictAt (intKind prog w) d kvs ep := ⟨lo, es, hg, hed, hdat, hko, hp, hn⟩
  have hne : d ≠ s.heap.objs.size := Nat.ne_of_lt (Heap.lt_size hg)
  refine wpAny_pyIter_dict hd hat ?_
  have W := Walks.dictKeys (prog := prog) (w := w) (knd := intKind prog w) hh s.heap.objs.size d hne kvs ep
  refine compW J W hsz ?_ ?_ (fun b hb => by rw [List.mem_singleton.mp hb]; exact st.freshM) ⟨⟨_, Heap.get?_push_size _ rfl, rfl, rfl⟩, hat.at' fun o e => Heap.get?_push_of_some _ e⟩ hcell hkind hx (st.pushBy _ rfl) j0 ?_ done
  · intro b hb
    rcases List.mem_cons.mp hb with e | hb
    · exact .inl (by rw [e]; exact List.mem_singleton.mpr rfl)
    · exact .inr ⟨lo, (List.mem_singleton.mp hb) ▸ hl⟩
  · rintro i h ⟨⟨o, ho, _⟩, _⟩ b hb
    rw [List.mem_singleton.mp hb]
    exact ⟨o, ho⟩
  · rintro C i v ys B' S' M' ρ' s' hi ⟨k, y, hk', his⟩ le hJ st'
    obtain ⟨t, rfl⟩ : ∃ t, v = .int k t := by
      simp only [intKind] at his
      cases v <;> simp [Value.isInt] at his
      exact ⟨_, by rw [his]⟩
    exact turn C i k t y ys B' S' M' ρ' s' hk' le hJ st'
end

/-! R11 -/
section
variable {prog : Program} {w : World} {A : Around} {E : Value → Shared → Prop} {s : Shared} {c : Cx} {B : Kp} {S₀ S S' : PM} {n₀ : Nat} {M M' : List (Addr × Obj)} {L : Addr} {ρ ρ' : Str → Option Value} {env : Env}
  {h h' : Heap} {g : Array GenState} {o : OsState} {x : Str} {pos : Pos} {v : Value}

theorem loopT_range {r : Addr} {b₀ : Int} {t₀ u₀ v₀ : Tok} {n : Nat} {tg : Expr} {body : List Stmt} {R : Result → Shared → Prop} (J : Nat → PM → List (Addr × Obj) → (Str → Option Value) → Prop)
    (st : St c S₀ n₀ B S M L ρ s) (hh : A.handled = none) (hr : IsRange s.heap r 0 b₀ 1 t₀ u₀ v₀) (hsmall : Builtin.Range.small 0 b₀ 1 = true) (hn : Builtin.Range.rangeSize 0 b₀ 1 = (n : Int)) (j0 : J 0 S M ρ)
    (turn : ∀ (i : Nat) t B' S' M' ρ' s', i < n → Le S S' → J i S' M' ρ' → St c S₀ n₀ B' S' M' L ρ' s' →
      wpAny (model prog w) A (assign tg env (.int i t)) (fun _ s₂ => wpAny (model prog w) A (execs body env) (LEnd c S₀ n₀ B' L (J (i + 1)) S') F0 s₂) F0 s')
    (done : ∀ S' M' ρ' s', Le S S' → J n S' M' ρ' → St c S₀ n₀ B S' M' L ρ' s' → R (.ok .next) s')
    (ht : ∀ I v, letOwnedTupleGo tg (.ref I) v = pure () := by intro _ _; rfl) :
    wpAny (model prog w) A (pyIter (.ref r)) (fun it s₂ => codeAny (model prog w) A (.forLoop tg it body [] env) R s₂) E s := by
  refine wpAny_pyIter_range hr hsmall ?_
  have W : Walks prog w A s.heap.objs.size [s.heap.objs.size] [s.heap.objs.size] n (fun i v => ∃ t, v = .int ((0 : Int) + i * 1) t)
      (fun i h => IsRangeIter h s.heap.objs.size ((0 : Int) + (i : Nat) * 1) ((n : Int) - (i : Nat)) 1) := Walks.range hh _ 0 1 n
  refine loopT J W (fun b hb => .inl hb) ?_ (fun b hb => by rw [List.mem_singleton.mp hb]; exact st.freshM) (by show IsRangeIter _ _ _ _ _; rw [hn]; simpa using Heap.get?_push_size _ rfl) (st.pushBy _ rfl) j0 ?_ done (ht _)
  · intro i h hi b hb
    rw [List.mem_singleton.mp hb]
    exact ⟨_, hi⟩
  · rintro i v B' S' M' ρ' s' hi ⟨t, rfl⟩ le hJ st'
    have e1 : (0 : Int) + (i : Int) * 1 = (i : Int) := by rw [Int.zero_add, Int.mul_one]
    rw [e1]
    exact turn i t B' S' M' ρ' s' hi le hJ st'
theorem rangeL {n : Int} {t : Tok} {Q : Value → Shared → Prop} (st : St c S₀ n₀ B S M L ρ s) (hq : ∀ a t u v s', St c S₀ n₀ B S M L ρ s' → IsRange s'.heap a 0 n 1 t u v → Q (.ref a) s') : wpAny (model prog w) A (call (.type "range") [.int n t]) Q E s :=
  call_range_1 (hq _ _ _ _ _ (StC.pushBy st _ rfl) (Heap.get?_push_size _ rfl))
end

/-! R12 -/
theorem sortedHeap_at {h : Heap} {a : Addr} {vs : List Value} {n : Nat} (out : Array Value) (ha : h.get? a = some (lst vs n)) :
    (∀ b x, b ≠ a → h.get? b = some x → (sortedHeap h a vs out).get? b = some x) ∧ ∃ n', (sortedHeap h a vs out).get? a = some (lst out.toList n') := by
  have hlt : a < h.objs.size := Heap.lt_size ha
  have e1 : ∃ e1, (h.update a (Obj.mapSeq fun _ => (#[] : Array Value))).get? a = some (seqObj "list" #[] e1) := ⟨_, get?_update_seq ha fun _ => #[]⟩
  obtain ⟨e1, ho1⟩ := e1
  have ho2 : (((h.update a (Obj.mapSeq fun _ => (#[] : Array Value))).push (seqObj "tuple" vs.toArray 0)).push (seqObj "list" #[] 0)).get? a = some (seqObj "list" #[] e1) := Heap.get?_push_of_some _ (Heap.get?_push_of_some _ ho1)
  constructor
  · intro b x hb e
    unfold sortedHeap
    rw [Heap.get?_update_ne _ _ _ _ hb]
    refine Heap.get?_push_of_some _ (Heap.get?_push_of_some _ ?_)
    rw [Heap.get?_update_ne _ _ _ _ hb]; exact e
  · unfold sortedHeap
    have := get?_update_seq ho2 fun _ => out
    refine ⟨if (out.size == (#[] : Array Value).size) = true then e1 else e1 + 1, this.trans ?_⟩
    unfold seqObj lst
    rw [Array.toArray_toList]
section
variable {prog : Program} {w : World} {A : Around} {E : Value → Shared → Prop} {s : Shared} {c : Cx} {B : Kp} {S₀ S S' : PM} {n₀ : Nat} {M M' : List (Addr × Obj)} {L : Addr} {ρ ρ' : Str → Option Value} {env : Env}
theorem sortedD {d : Addr} {o : Obj} {kvs : List (Int × Value)} {Q : Value → Shared → Prop} (st : St c S₀ n₀ B S M L ρ s) (hh : A.handled = none) (hg : s.heap.get? d = some o) (ho : DI prog w o kvs) (hd : (d == sysModules) = false) (hz : kvs.length < 64)
    (h : ∀ a vs ks n s', n₀ ≤ a → St c S₀ n₀ B S ((a, lst vs n) :: M) L ρ s' → IntsAre vs ks → ks.Perm (kvs.map (·.1)) → ks.Pairwise (· ≤ ·) → Q (.ref a) s') : wpAny (model prog w) A (call (.builtin "sorted") [.ref d]) Q E s := by
  obtain ⟨es, ep, hed, hdat, hko, hp, hn⟩ := id ho
  have hat : s.heap.DictAt (intKind prog w) d kvs ep := ⟨o, es, hg, hed, hdat, hko, hp, hn⟩
  refine call_function_entry kind_sorted plain_sorted entry_sorted (args_sorted1 _) ?_
  unfold Builtin.«sorted»
  refine wpAny_bind (m := checkCount "sorted" 1 1 _) (wpAny_pure ?_)
  refine wpAny_bind (kdu_collect (A := A.in1) (kdl_dict hd) hh hat (by rw [sizeLine_eq]; omega) fun h' tk acc hk hacc => ?_)
  have hl : acc.toList.length = kvs.length := by rw [Array.length_toList]; exact hacc.1
  have hints : IntsAre acc.toList (kvs.map (·.1)) := by
    have key : ∀ (l : List Value) (m : List (Int × Value)), l.length = m.length → (∀ (j : Nat) (v : Value), l[j]? = some v → ∃ k x, m[j]? = some (k, x) ∧ (intKind prog w).is k v = true) → IntsAre l (m.map (·.1)) := by
      intro l
      induction l with
      | nil => intro m hm _; cases m with | nil => exact .nil | cons _ _ => cases hm
      | cons v l ih =>
        intro m hm hj
        cases m with
        | nil => cases hm
        | cons p m =>
          obtain ⟨k, x, e, his⟩ := hj 0 v rfl
          simp at e
          subst e
          obtain ⟨t, rfl⟩ : ∃ t, v = .int k t := by
            simp only [intKind] at his
            cases v <;> simp [Value.isInt] at his
            exact ⟨_, by rw [his]⟩
          exact .cons _ _ (ih m (by simpa using hm) fun j v hv => by simpa using hj (j + 1) v (by simpa using hv))
    exact key _ _ hl fun j v e => hacc.2 j v (by rw [← Array.getElem?_toList]; exact e)
  refine wpAny_bind (wpAny_newList ?_ (by rw [hl, sizeLine_eq]; omega))
  have hoL : (h'.push { cls := .type "list", data := .seq acc.toList.toArray }).get? h'.objs.size = some (lst acc.toList 0) := Heap.get?_push_size _ rfl
  refine wpAny_bind (wpAny_holding (wpAny_call_entry slot_list_sort ⟨_, hoL, rfl⟩ entry_list_sort (list_sort_tree hoL hints (by rw [hl]; exact hz) fun out ns' a1 a2 a3 => ⟨_, rfl, ?_⟩) (args_list_sort _)))
  refine wpAny_pure ⟨_, rfl, ?_⟩
  obtain ⟨k1, n', k2⟩ := sortedHeap_at out hoL
  have st' := StC.kept st hk
  refine h _ out.toList ns' n' _ st'.bigger ?_ a1 a2 a3
  exact st'.keptNewM (fun b x e => k1 b x (Nat.ne_of_lt (Heap.lt_size e)) (Heap.get?_push_of_some _ e)) k2 (Nat.le_refl _)
theorem dictGet2S {d : Addr} {o : Obj} {kvs : List (Int × Value)} {k : Int} {t : Tok} {v u : Value} {Q : Value → Shared → Prop} (hg : s.heap.get? d = some o) (ho : DI prog w o kvs) (hd : (d == sysModules) = false) (hv : valueAt kvs k = some v)
    (h : Q v { s with toks := s.toks + 1 }) : wpAny (model prog w) A (call (.builtin "dict.get") [.ref d, .int k t, u]) Q E s := dictGet2 hg ho hd (by rw [hv]; exact h)
theorem dictGet2N {d : Addr} {o : Obj} {kvs : List (Int × Value)} {k : Int} {t : Tok} {u : Value} {Q : Value → Shared → Prop} (hg : s.heap.get? d = some o) (ho : DI prog w o kvs) (hd : (d == sysModules) = false) (hv : valueAt kvs k = none)
    (h : Q u { s with toks := s.toks + 1 }) : wpAny (model prog w) A (call (.builtin "dict.get") [.ref d, .int k t, u]) Q E s := dictGet2 hg ho hd (by rw [hv]; exact h)
theorem atI_mem {m : List (Int × Int)} {k : Int} (h : k ∈ m.map (·.1)) : ∃ v, atI m k = some v := by
  obtain ⟨p, hp, rfl⟩ := List.mem_map.mp h
  unfold atI
  cases e : m.find? fun q => decide (q.1 = p.1) with
  | none =>
    have := List.find?_eq_none.mp e p hp
    simp at this
  | some q => exact ⟨q.2, rfl⟩
theorem atI_some {m : List (Int × Int)} {k v : Int} (h : atI m k = some v) : (k, v) ∈ m := by
  unfold atI at h
  obtain ⟨p, hp, rfl⟩ := Option.map_eq_some_iff.mp h
  have h1 := List.mem_of_find?_eq_some hp
  have h2 := List.find?_some hp
  simp at h2
  subst h2
  exact h1
end

/-! R13 -/
/-- a key of two ints -/
inductive TKey (S : PM) (a : Addr) (ks : List Int) : Prop where
  | mk : ∀ vs e, S a = some (tup vs e) → IntsAre vs ks → TKey S a ks
theorem TKey.mono {S S' : PM} {a : Addr} {ks : List Int} (h : TKey S a ks) (l : Le S S') : TKey S' a ks := by
  obtain ⟨vs, e, h1, h2⟩ := id h
  exact ⟨vs, e, l _ _ h1, h2⟩
noncomputable abbrev tk2 (prog : Program) (w : World) : HeapKind prog w (List Int) := tupleKind (intKind prog w)
theorem TKey.is {prog : Program} {w : World} {S : PM} {a : Addr} {ks : List Int} {h : Heap} (x : TKey S a ks) (hk : ∀ a o, S a = some o → h.get? a = some o) : (tk2 prog w).is h ks a := by
  obtain ⟨vs, e, h1, h2⟩ := id x
  refine ⟨_, vs.toArray, e, hk _ _ h1, rfl, rfl, ?_⟩
  have key : ∀ {vs : List Value} {ks : List Int}, IntsAre vs ks → ItemsAre (intKind prog w) ks vs := by
    intro vs ks i
    induction i with
    | nil => exact .nil
    | cons n t _ ih => exact .cons (by simp [intKind, Value.isInt]) ih
  exact key h2
/-- a dict by pairs of ints -/
noncomputable def DH (prog : Program) (w : World) (o : Obj) (xs : List (List Int × Addr × Value)) : Prop := ∃ es ep, o.ExactDict ∧ o.data = .dict es ep ∧ es.toList = xs.map (entryOfKey (tk2 prog w)) ∧ (xs.map (·.1)).Nodup
theorem DH.of {prog : Program} {w : World} {S : PM} {h : Heap} {d : Addr} {o : Obj} {xs : List (List Int × Addr × Value)} (hd : DH prog w o xs) (hg : h.get? d = some o) (hk : ∀ a o, S a = some o → h.get? a = some o) (hx : ∀ x ∈ xs, TKey S x.2.1 x.1) : h.DictOfH (tk2 prog w) d xs := by
  obtain ⟨es, ep, h1, h2, h3, h4⟩ := hd
  exact ⟨o, es, ep, hg, h1, h2, h3, fun x hx' => (hx x hx').is hk, h4⟩
theorem DH.back {prog : Program} {w : World} {h : Heap} {d : Addr} {xs : List (List Int × Addr × Value)} (x : h.DictOfH (tk2 prog w) d xs) : ∃ o, h.get? d = some o ∧ DH prog w o xs := by
  obtain ⟨o, es, ep, hg, h1, h2, h3, _, h4⟩ := x
  exact ⟨o, hg, es, ep, h1, h2, h3, h4⟩
/-- the masks by state and rule; none is nought -/
inductive MasksAt (prog : Program) (w : World) (S : PM) (d : Addr) (f : Int → Int → Int) : Prop where
  | mk : ∀ o xs, S d = some o → DH prog w o xs → (d == sysModules) = false → (∀ x ∈ xs, TKey S x.2.1 x.1) → (∀ n r, match atKey xs [n, r] with | none => f n r = 0 | some p => ∃ t, p.2 = .int (f n r) t) → MasksAt prog w S d f
theorem MasksAt.mono {prog : Program} {w : World} {S S' : PM} {d : Addr} {f : Int → Int → Int} (h : MasksAt prog w S d f) (l : Le S S') : MasksAt prog w S' d f := by
  obtain ⟨o, xs, h1, h2, h3, h4, h5⟩ := id h
  exact ⟨o, xs, l _ _ h1, h2, h3, fun x hx => (h4 x hx).mono l, h5⟩
section
variable {prog : Program} {w : World} {A : Around} {E : Value → Shared → Prop} {s : Shared} {c : Cx} {B : Kp} {S₀ S S' : PM} {n₀ : Nat} {M M' : List (Addr × Obj)} {L : Addr} {ρ ρ' : Str → Option Value} {env : Env}
theorem Rm.units1 {A : Around} {d : Nat} (x : Rm A d) : A.units + 1 < cLine := by
  have := x.un
  have e : (901 : Nat) < cLine := by decide
  omega
theorem maskGet {d a : Addr} {f : Int → Int → Int} {n r : Int} {u : Tok} {k : Nat} {Q : Value → Shared → Prop} (st : St c S₀ n₀ B S M L ρ s) (hA : Rm A k) (hm : MasksAt prog w S d f) (hk : TKey S a [n, r]) (h : ∀ t s', St c S₀ n₀ B S M L ρ s' → Q (.int (f n r) t) s') :
    wpAny (model prog w) A (call (.builtin "dict.get") [.ref d, .ref a, .int 0 u]) Q E s := by
  obtain ⟨o, xs, h1, h2, h3, h4, h5⟩ := id hm
  have hD := h2.of (st.ks _ _ h1) st.ks h4
  refine call_meetsIn PySem.F.slot_dict_get hD.typeIs PySem.F.entry_dict_get (PySem.F.args_dict_get_3 _ _ _) (meetsH_dict_get_default (tk2 prog w) d a h3 (.int 0 u)) ⟨Rm.units1 hA, [n, r], xs, hk.is st.ks, hD, ?_⟩
  have := h5 n r
  cases e : atKey xs [n, r] with
  | none =>
    rw [e] at this
    dsimp only at this
    show Q (.int 0 u) _
    rw [← this]
    exact h _ _ st
  | some p =>
    rw [e] at this
    obtain ⟨t, ht⟩ := this
    show Q p.2 _
    rw [ht]
    exact h _ _ st
theorem maskMeth {d : Addr} {f : Int → Int → Int} {pl : Sem Bool} {Q : Value × List Value → Shared → Prop} (st : St c S₀ n₀ B S M L ρ s) (hm : MasksAt prog w S d f) (h : Q (.builtin "dict.get", [.ref d]) s) : wpAny (model prog w) A (getMethod (.ref d) "get" pl) Q E s := by
  obtain ⟨o, xs, h1, ⟨es, ep, ho, h2⟩, h3, h4, h5⟩ := id hm
  exact getMethod_builtin ⟨o, st.ks _ _ h1, ho.1⟩ PySem.F.plainAttrs_dict PySem.F.slot_dict_get PySem.F.type_dict_get (fun a e => by cases e; exact ⟨o, st.ks _ _ h1, ho.2.1⟩) h
theorem maskSet {d a : Addr} {o : Obj} {Mf : Obj → List (Addr × Obj)} {xs : List (List Int × Addr × Value)} {ks : List Int} {v : Value} {k : Nat} {Q : Unit → Shared → Prop} (st : St c S₀ n₀ B S M L ρ s) (hA : Rm A k) (U : ∀ o', UpM d o o' M (Mf o')) (hd : DH prog w o xs) (hx : ∀ x ∈ xs, TKey S x.2.1 x.1) (hk : TKey S a ks) (hsz : xs.length ≤ sizeLine)
    (h : ∀ o' s', DH prog w o' (storedH xs ks a v) → St c S₀ n₀ B S (Mf o') L ρ s' → Q () s') : wpAny (model prog w) A (setItem (.ref d) (.ref a) v) Q E s := by
  have hD := hd.of (st.M_at (U o).mem) st.ks hx
  refine wpAny_setItem_heap (hsz := hsz) (knd := tk2 prog w) (Rm.units1 hA) (hk.is st.ks) hD fun h' hm hs => ?_
  obtain ⟨o', ho', hd'⟩ := DH.back hm
  exact h o' _ hd' (st.upd (U o') hs ho')
theorem DH.new {o : Obj} (h : o.IsDictOf (intKind prog w) []) : DH prog w o [] := by
  obtain ⟨es, ep, h1, h2, _, h4, _⟩ := h
  refine ⟨es, ep, h1, h2, ?_, .nil⟩
  cases q : es.toList with
  | nil => rfl
  | cons a b => rw [q] at h4; cases h4

theorem StC.permP {h : Heap} {g : Array GenState} {o : OsState} (st : StC c S₀ n₀ B S M L ρ h g o) (p : M'.Perm M) : StC c S₀ n₀ B S M' L ρ h g o :=
  st.perm (fun _ hq => p.mem_iff.mp hq) ((p.map (·.1)).nodup_iff.mpr st.nd)
theorem LkM.snoc {as : List Value} {N : List (Addr × Obj)} {ls : List (Int × Int)} {a : Addr} {x : Obj} {r m : Int} {t1 t2 : Tok} (h : LkM as N ls) (lo : LO x [.int r t1, .int m t2]) : LkM (as ++ [.ref a]) (N ++ [(a, x)]) (ls ++ [(r, m)]) := by
  induction h with
  | nil => exact .cons lo .nil
  | cons l _ ih => exact .cons l ih
theorem StC.freezeMid {h : Heap} {g : Array GenState} {o : OsState} {a : Addr} {x : Obj} (pre : List (Addr × Obj)) {post : List (Addr × Obj)} (st : StC c S₀ n₀ B S (pre ++ (a, x) :: post) L ρ h g o) (ha : n₀ ≤ a) : Frz S a x (fun S' => StC c S₀ n₀ B S' (pre ++ post) L ρ h g o) :=
  StC.freezeTo (st.permP List.perm_middle.symm) ha
inductive FrzA (S : PM) (N : List (Addr × Obj)) (P : PM → Prop) : Prop where
  | mk : ∀ S', Le S S' → (∀ q ∈ N, S' q.1 = some q.2) → P S' → FrzA S N P
/-- a block of what may change is made unchangeable -/
theorem StC.freezeAll {h : Heap} {g : Array GenState} {o : OsState} : ∀ (N : List (Addr × Obj)) {S : PM}, StC c S₀ n₀ B S (N ++ M) L ρ h g o → (∀ q ∈ N, n₀ ≤ q.1) → FrzA S N (fun S' => StC c S₀ n₀ B S' M L ρ h g o)
  | [], S, st, _ => ⟨S, Le.refl _, (fun _ hq => nomatch hq), st⟩
  | (a, x) :: N, S, st, ha => by
    obtain ⟨S1, le1, h1, st1⟩ := StC.freezeTo (a := a) (x := x) st (ha (a, x) (.head _))
    obtain ⟨S2, le2, h2, st2⟩ := StC.freezeAll N st1 fun q hq => ha q (.tail _ hq)
    refine ⟨S2, le1.trans le2, fun q hq => ?_, st2⟩
    rcases List.mem_cons.mp hq with rfl | hq
    · exact le2 _ _ h1
    · exact h2 q hq
end

/-! R14 -/
theorem EntsAre.same {es : List DictEntry} {xs ys : List (Str × Value)} (h : EntsAre es xs) (g : EntsAre es ys) : xs = ys := by
  induction h generalizing ys with
  | nil => cases g; rfl
  | cons _ ih => cases g with | cons g => rw [ih g]
theorem Inst.same {S : PM} {x C : Addr} {xs ys : List (Str × Value)} (h : Inst S x C xs) (g : Inst S x C ys) : xs = ys := by
  obtain ⟨d1, e1, n1, a1, b1, c1⟩ := id h
  obtain ⟨d2, e2, n2, a2, b2, c2⟩ := id g
  rw [a1] at a2
  cases a2
  rw [b1] at b2
  have := Option.some.inj b2
  unfold dictOf at this
  injection this with _ _ h3 _
  injection h3 with h4 _
  have h5 : e1 = e2 := by simpa using h4
  subst h5
  exact c1.same c2
section
variable {prog : Program} {w : World} {A : Around} {E : Value → Shared → Prop} {s : Shared} {c : Cx} {B : Kp} {S₀ S S' : PM} {n₀ : Nat} {M M' : List (Addr × Obj)} {L : Addr} {ρ ρ' : Str → Option Value} {env : Env}

/-- the same, for an __init__ that asks super() -/
theorem enterIT {R : Result → Shared → Prop} {d : Nat} {C : Addr} {cl : List (Str × Addr)} {name qual : Str} {params : Arguments} {body : List Stmt} {scope : Scope} {dV kV doc pm cdv ct oc : Value} {an od : Option Addr} {osl : Array (Option Value)} {a : Addr} {args : List Value} {kw : List (Str × Value)} {binds : Addr → List (Str × Value)}
    (P : Pre c S s) (hA : Rm A (d + 2)) (hm : makesIn c.K C = true) (hi : findIn c.K (.ref C) "__init__" = some (some (.ref a))) (hf : isFn c.K (.ref a) = true)
    (ho : c.K.lookup a = some ⟨oc, od, .func (fnX name qual params body scope cl dV kV doc pm an cdv ct), osl⟩) (hcd : codeIn c.K cdv qual = true)
    (hbind : ∀ x (s' : Shared), c.K.In s'.heap → BindsTo s' (fnX name qual params body scope cl dV kV doc pm an cdv ct) ⟨.ref x :: args, kw⟩ (binds x)) (hloc : ∀ x, ∀ y ∈ binds x, scope.names.lookup y.1 = some .local)
    (hcell : ∀ x ∈ scope.names, x.2 ≠ .cell) (hco : scope.isCoroutine = false) (hgen : scope.isGenerator = false) (hk : scope.kind = .function)
    (h : ∀ A' L s' x dx, Rm A' d → S x = none → s.heap.objs.size ≤ x → s.heap.objs.size ≤ dx → St c S s.heap.objs.size ⟨fun b => s.heap.get? b, fun _ => False⟩ (put S x (instObj C dx)) [(dx, dictOf [] 0)] L (fun y => (binds x).reverse.lookup y) s' →
      _root_.PySem.wpAt (model prog w) A' (.func body (envX qual scope L a cdv cl)) (execs body (envX qual scope L a cdv cl)) (fun fl s' => InitBack x R (.ok (.ret (match fl with | .ret v => v | _ => .none))) s') (fun _ _ => False) s') :
    codeAny (model prog w) A (.call (.ref C) ⟨args, kw⟩) R s := by
  have X := P.K
  obtain ⟨hh, g, dd, t, os⟩ := s
  dsimp only at X P h ⊢
  refine make_core (makes_of X hm) (looks_findIn X hi) (fun self => bind_fn X self (beq_iff_eq.mp hf)) (.inl rfl) ?_
  have e0 : (hh.push emptyDict).get? hh.objs.size = some emptyDict := Heap.get?_push_size _ rfl
  have sz : (hh.push emptyDict).objs.size = hh.objs.size + 1 := Heap.size_push ..
  have e1 : ((hh.push emptyDict).push (instObj C hh.objs.size)).get? hh.objs.size = some emptyDict := Heap.get?_push_of_some _ e0
  have e2 : ((hh.push emptyDict).push (instObj C hh.objs.size)).get? (hh.objs.size + 1) = some (instObj C hh.objs.size) := by rw [← sz]; exact Heap.get?_push_size _ rfl
  have sz2 : ((hh.push emptyDict).push (instObj C hh.objs.size)).objs.size = hh.objs.size + 2 := by rw [Heap.size_push, sz]
  have k2 : ∀ b o, hh.get? b = some o → ((hh.push emptyDict).push (instObj C hh.objs.size)).get? b = some o := fun b o e => Heap.get?_push_of_some _ (Heap.get?_push_of_some _ e)
  generalize ((hh.push emptyDict).push (instObj C hh.objs.size)) = h2 at *
  have X2 : c.K.In h2 := X.keeps k2
  have Pks : ∀ b o, S b = some o → hh.get? b = some o := P.ks
  refine ks_codeAny_call_defAt (hA.make C args kw).room (X2 _ _ ho) rfl (P.nolimit.keeps k2) (codeRec_of X2 hcd) rfl (hbind _ _ X2) hcell (hloc _) (fun h₁ hns hk₁ => ?_) hco hgen hk
  have sn : S (hh.objs.size + 1) = none := none_of fun o e => by have := ltN (Heap.lt_size (Pks _ _ e)); omega
  have sd : S hh.objs.size = none := none_of fun o e => by have := ltN (Heap.lt_size (Pks _ _ e)); omega
  refine ks_wpAt_mono (h _ h2.objs.size _ (hh.objs.size + 1) hh.objs.size ((hA.make C args kw).deeper _) sn (Nat.le_succ _) (Nat.le_refl _) ?_) (fun _ _ y => y) fun _ _ y => y.elim
  exact {
    ns := hns
    kb := fun b o e => hk₁ b o (k2 b o e)
    ks := fun b o e => by
      by_cases q : b = hh.objs.size + 1
      · subst q; rw [put_self] at e; cases e; exact hk₁ _ _ e2
      · rw [put_ne q] at e; exact hk₁ b o (k2 b o (P.ks b o e))
    bl := none_of fun o e => by have := ltN (Heap.lt_size e); omega
    wo := fun _ hb => hb.elim
    sl := by rw [put_ne (neN (by omega))]; exact none_of fun o e => by have := ltN (Heap.lt_size (Pks _ _ e)); omega
    mem := fun q hq => by
      rw [List.mem_singleton.mp hq]
      refine ⟨hk₁ _ _ e1, by show hh.objs.size ≠ h2.objs.size; omega, none_of fun o e => by have := ltN (Heap.lt_size e); dsimp only at this; omega, ?_⟩
      rw [put_ne (by show hh.objs.size ≠ hh.objs.size + 1; omega)]; exact sd
    nd := by simp
    gd := P.gd
    gs := fun b o e => le_put sn b o (P.gs b o e)
    new := fun b o e => by
      by_cases q : b = hh.objs.size + 1
      · exact .inr (by rw [q]; exact Nat.le_succ _)
      · rw [put_ne q] at e; exact .inl e
    big := by omega
    eg := P.eg
    eo := P.eo }


/-- super() in a method: the object that stands for it -/
theorem superBase {body : List Stmt} {q : Str} {scope : Scope} {p0 p1 : Pos} {attr : Str} {whole : Sem Value} {fd : FuncData} {ar : Arg} {vs : Array Value} {file : Str} {tf : Tok} {oc ccl cl : Value} {od cdd cld : Option Addr} {osl ccs csl : Array (Option Value)} {cdD : ClassData} {f cda cc x C D : Addr} {xs : List (Str × Value)} {Q : Value → Shared → Prop}
    (st : St c S₀ n₀ B S M L ρ s) (hf : c.K.lookup f = some ⟨oc, od, .func fd, osl⟩) (hp : (fd.params.posonlyargs ++ fd.params.args).head? = some ar) (hv : ρ ar.arg = some (.ref x)) (I : Inst (fun a => s.heap.get? a) x C xs)
    (hcode : c.K.lookup cda = some ⟨ccl, cdd, .fields vs, ccs⟩) (hvs : vs[2]? = some (.str file tf)) (hfile : ((prog.main.file : Str) == file) = true)
    (hcell : c.K.lookup cc = some ⟨cl, cld, .cell (some (.ref D)), csl⟩) (hD : clsIn c.K D = some cdD) (hsub : mroIn c.K C (.ref D) = some true) (hsuper : nsIn c.K mainGlobals "super" = some none)
    (hat : (attr == ("__class__" : Str)) = false) (hks : scope.names.lookup ("super" : Str) = some .globalImplicit) (hkc : scope.names.lookup ("__class__" : Str) = some .free) (hka : scope.names.lookup ar.arg = some .local) (hk : scope.kind = .function)
    (htop : (prog.main.scope.names.lookup ("super" : Str)).isSome = false) (hboot : bootBuiltins "super" = some (.type "super"))
    (h : ∀ so S' s', Le S S' → S' so = some (ks_superObj D x C) → St c S₀ n₀ B S' M L ρ s' → Q (.ref so) s') :
    _root_.PySem.wpAt (model prog w) A (.func body (ksEnv q scope L f (.ref cda) cc)) (attributeBase (.Call (.Name "super" p0) [] [] p1) attr (ksEnv q scope L f (.ref cda) cc) whole) Q E s := by
  have X : c.K.In s.heap := st.K
  have k : ∀ a o, c.G.get? a = some o → s.heap.get? a = some o := fun a o q => st.ks a o (st.gs a o q)
  obtain ⟨mg, hg⟩ := st.gd.g
  obtain ⟨mb, hb, hbb⟩ := st.gd.b
  obtain ⟨hh, g, d, t, os⟩ := s
  obtain ⟨oD, hD1, hD2⟩ : ∃ oD, hh.get? D = some oD ∧ oD.data = .cls cdD := by
    unfold clsIn at hD
    split at hD
    · rename_i c d cd' sl ho
      cases hD
      exact ⟨_, X _ _ ho, rfl⟩
    · cases hD
  obtain ⟨dx, es, n, i1, i2, i3⟩ := id I
  refine ks_wpAt_super_base (env := ksEnv q scope L f (.ref cda) cc) hks hkc hat rfl (X _ _ hf) rfl hp rfl (X _ _ hcode) rfl hvs hfile htop ?_
  refine ks_loadName_global hk hks (loadGlobal_builtin (env := ksEnv q scope L f (.ref cda) cc) (hg.keeps k) (mg_none_of st.gd.X hg hsuper) (hb.keeps k) ((hbb _ (by decide +kernel)).trans hboot) ⟨rfl, ?_⟩)
  refine wpAny_loadName_free hk hkc rfl ⟨_, X _ _ hcell, rfl⟩ ?_
  refine wpAny_loadName_local hk hka st.ns hv ?_
  refine ks_wpAny_isType_cls hD1 hD2 ⟨rfl, ?_⟩
  refine ks_wpAny_call_super hD1 hD2 i1 rfl (fun c e => by cases e) (looks_mroIn X hsub) (fun h' e k' => ?_)
  obtain ⟨le, st'⟩ := StC.keptNew (h' := h') st k' e (Nat.le_refl _)
  exact h _ _ _ le (put_self _ _ _) st'
theorem superMethod {so D x C f2 : Addr} {name : Str} {pl : Sem Bool} {xs : List (Str × Value)} {Q : Value × List Value → Shared → Prop} (st : St c S₀ n₀ B S M L ρ s) (hso : S so = some (ks_superObj D x C)) (I : Inst (fun a => s.heap.get? a) x C xs) (ho : nsIn c.K cStatics "thirdparty.any" = some none)
    (hm : ks_superIn c.K C D name = some (some (.ref f2))) (ht : typeIn c.K (.ref f2) = some (.type "function")) (hn : (name == ("__class__" : Str)) = false)
    (h : ∀ q S' s', Le S S' → S' q = some (methodObj (.ref f2) (.ref x)) → St c S₀ n₀ B S' M L ρ s' → Q (.ref q, []) s') : wpAny (model prog w) A (getMethod (.ref so) name pl) Q E s := by
  have X : c.K.In s.heap := st.K
  obtain ⟨dx, es, n, i1, i2, i3⟩ := id I
  obtain ⟨hh, g, d, t, os⟩ := s
  cases hc : clsIn c.K C with
  | none => unfold ks_superIn at hm; rw [hc] at hm; cases hm
  | some cd =>
    unfold ks_superIn at hm
    rw [hc] at hm
    obtain ⟨of, hof, hofc⟩ : ∃ of, hh.get? f2 = some of ∧ of.cls = .type "function" := by
      have ht' : (c.K.lookup f2).map (·.cls) = some (.type "function") := ht
      cases z : c.K.lookup f2 with
      | none => rw [z] at ht'; cases ht'
      | some of => rw [z] at ht'; exact ⟨of, X _ _ z, Option.some.inj ht'⟩
    have hxC : x ≠ C := by
      rintro rfl
      unfold clsIn at hc
      split at hc
      · rename_i c d cd' sl ho'
        have e := X _ _ ho'
        have i1' : hh.get? x = some _ := i1
        rw [i1'] at e
        cases e
      · cases hc
    refine ks_wpAny_getMethod_super (st.ks _ _ hso) (looks_opaque X ho) (l₀ := cd.mro) ?_ rfl X hm hof hofc hxC hn ?_
    · exact fun A Q E s k q => wpAny_bind ((looks_clsIn X hc) A _ E s k (wpAny_pure q))
    · obtain ⟨le, st'⟩ := StC.keptNew (x := methodObj (.ref f2) (.ref x)) st (fun b o e => Heap.get?_push_of_some _ e) (Heap.get?_push_size (hh) (o := methodObj (.ref f2) (.ref x)) rfl) (Nat.le_refl _)
      exact h _ _ _ le (put_self _ _ _) st'
theorem callBound {b f x : Addr} {args : List Value} {R : Result → Shared → Prop} (hb : s.heap.get? b = some (methodObj (.ref f) (.ref x))) (hq : codeAny (model prog w) A (.call (.ref f) ⟨.ref x :: args, []⟩) R s) : codeAny (model prog w) A (.call (.ref b) ⟨args, []⟩) R s :=
  ks_codeAny_call_bound hb hq
noncomputable def MethGo (prog : Program) (w : World) (A : Around) (K : Frag) (q g : Addr) (self : Value) (first vs : List Value) (Q : Value → Shared → Prop) (E : Value → Shared → Prop) (s₁ : Shared) : Prop := MethP K q g self s₁.heap ∧ wpAny (model prog w) A (call (.ref q) (first ++ vs)) Q E s₁
theorem callMeth {pos : Pos} {q g : Addr} {self : Value} {first : List Value} {Q : Value → Shared → Prop} {e : Expr} {rest : List Expr} (hf : fnIn c.K g = true)
    (h : wpAny (model prog w) A (spliced (backTo pos (starEach (e :: rest) env))) (fun vs s₁ => MethGo prog w A c.K q g self first vs Q E s₁) E s)
    (he : starEach (e :: rest) env = (false, eval e env) :: starEach rest env := by rfl) (hplain : (backTo pos (starEach rest env)).any (·.1) = false := by rfl) :
    wpAny (model prog w) A (callWith pos (.ref q) first (backTo pos (starEach (e :: rest) env)) []) Q E s := by
  rw [he] at h ⊢
  exact callWith_of (by show ((false || (backTo pos (starEach rest env)).any (·.1)) || false) = false; rw [hplain]; rfl) (keeps_M hf) (evalArgs_plain h)
theorem lenT {l : Addr} {lo : Obj} {vs : List Value} {Q : Value → Shared → Prop} (hg : s.heap.get? l = some lo) (hl : TO lo vs) (hfit : vs.length < 2 ^ 62) (h : ∀ t s', s' = { s with toks := s'.toks } → Q (.int vs.length t) s') : wpAny (model prog w) A (call (.builtin "len") [.ref l]) Q E s := by
  refine len_tuple (hl.is hg) (by simp; omega) ?_
  have e : ((vs.toArray.size : Nat) : Int) = (vs.length : Int) := by simp
  rw [e]
  exact h _ _ rfl
/-- a dict by texts -/
noncomputable def DS (prog : Program) (w : World) (o : Obj) (kvs : List (Str × Value)) : Prop := o.IsDictOf (PySem.strKind prog w) kvs
theorem DS.new {o : Obj} (h : o.IsDictOf (intKind prog w) []) : DS prog w o [] := by
  obtain ⟨es, ep, h1, h2, h3, h4, h5⟩ := h
  have e : es = #[] := by
    apply Array.toList_inj.mp
    cases q : es.toList with
    | nil => rfl
    | cons a b => rw [q] at h4; cases h4
  subst e
  exact ⟨#[], ep, h1, h2, fun _ he => by simp at he, .nil, .nil⟩
theorem dictSetS {d : Addr} {o : Obj} {Mf : Obj → List (Addr × Obj)} {kvs : List (Str × Value)} {k : Str} {t : Tok} {v : Value} {Q : Unit → Shared → Prop} (st : St c S₀ n₀ B S M L ρ s) (U : ∀ o', UpM d o o' M (Mf o')) (ho : DS prog w o kvs) (hsz : kvs.length ≤ sizeLine)
    (h : ∀ o' s', DS prog w o' (stored kvs k v) → St c S₀ n₀ B S (Mf o') L ρ s' → Q () s') : wpAny (model prog w) A (setItem (.ref d) (.str k t) v) Q E s := by
  have hg := st.M_at (U o).mem
  refine wpAny_setItem_pairs (hsz := hsz) (knd := PySem.strKind prog w) (k := k) (by simp [PySem.strKind, Value.isStrOf]) (Heap.dictOf_iff.mpr ⟨o, hg, ho⟩) fun h' hm hs => ?_
  obtain ⟨o', ho', hd'⟩ := Heap.dictOf_iff.mp hm
  exact h o' _ hd' (st.upd (U o') hs ho')
end

/-! R15 -/
section
variable {prog : Program} {w : World} {A : Around} {E : Value → Shared → Prop} {s : Shared} {c : Cx} {B : Kp} {S₀ S S' : PM} {n₀ : Nat} {M M' : List (Addr × Obj)} {L : Addr} {ρ ρ' : Str → Option Value} {env : Env}
theorem sliceApplied_upto {sl : Addr} {b n : Nat} {u : Tok} {Q : Int × Int × Nat → Shared → Prop} (hs : s.heap.IsSliceOf sl .none (.int b u) .none) (hb : b ≤ n) (h : Q (0, 1, b) s) :
    wpAny (model prog w) A (Builtin.Slice.sliceApplied (.ref sl) (pure (n : Int))) Q E s := by
  obtain ⟨os, hos, hcs, hds⟩ := id hs
  unfold Builtin.Slice.sliceApplied Builtin.Slice.sliceFields
  refine wpAny_bind (wpAny_bind (wpAny_field hos hds (x := .none) rfl (wpAny_bind (wpAny_field hos hds (x := .int b u) rfl (wpAny_bind (wpAny_field hos hds (x := .none) rfl (wpAny_pure ?_)))))))
  refine wpAny_bind (slicePart_none ?_)
  show wpAny _ _ (if ((1 : Int) == 0) = true then _ else _) _ _ s
  rw [if_neg (by decide)]
  refine wpAny_bind (slicePart_none (wpAny_bind (slicePart_int (wpAny_bind (wpAny_pure ?_)))))
  have e1 : Builtin.Slice.sliceAdjust none (some (b : Int)) 1 (n : Int) = (0, (b : Int)) := by
    unfold Builtin.Slice.sliceAdjust
    have h1 : ¬ ((1 : Int) < 0) := by decide
    have h2 : ¬ ((b : Int) < 0) := Int.not_lt.mpr (Int.natCast_nonneg b)
    simp only [h1, h2, if_false]
    congr 1
    omega
  have e2 : Builtin.Slice.slicePlaces 0 (b : Int) 1 = b := by
    unfold Builtin.Slice.slicePlaces
    have h1 : (1 : Int) > 0 := by decide
    simp only [h1, if_true, Int.ediv_one]
    split <;> omega
  show wpAny _ _ (match Builtin.Slice.sliceAdjust none (some (b : Int)) 1 (n : Int) with | (lo, hi) => pure (lo, (1 : Int), Builtin.Slice.slicePlaces lo hi 1)) _ _ s
  rw [e1]
  show wpAny _ _ (pure ((0 : Int), (1 : Int), Builtin.Slice.slicePlaces 0 (b : Int) 1)) _ _ s
  rw [e2]
  exact wpAny_pure h
theorem getItem_tuple_upto {t sl : Addr} {items : Array Value} {b : Nat} {u : Tok} {Q : Value → Shared → Prop} (ht : IsTup s.heap t items) (hs : s.heap.IsSliceOf sl .none (.int b u) .none) (hb : b ≤ items.size) (hsz : items.size ≤ sizeLine)
    (h1 : b = items.size → Q (.ref t) s) (h2 : Q (.ref s.heap.objs.size) { s with heap := s.heap.push { cls := .type "tuple", data := .seq (items.toList.take b).toArray } }) : wpAny (model prog w) A (getItem (.ref t) (.ref sl)) Q E s := by
  have hdrop : sizeOk (.seq (items.toList.take b).toArray) := by
    show (items.toList.take b).toArray.size ≤ sizeLine
    rw [List.size_toArray, List.length_take, Array.length_toList]
    omega
  obtain ⟨os, hos, hcs, hds⟩ := id hs
  have hTs : s.TypeIs (.ref sl) "slice" := ⟨os, hos, hcs⟩
  unfold getItem
  try with_reducible refine wpAny_holding ?_
  first | refine wpAny_bind (wpAny_pure ?_) | skip
  refine wpAny_bind (wpAny_sequenceKey ht.typeIs (by decide) ?_)
  refine wpAny_bind (wpAny_callSpecial?_slot (name := Str.ofString "__getitem__") ht.typeIs slot_tuple_getitem
    (wpAny_call_entry slot_tuple_getitem ht.typeIs entry_tuple_getitem ?_ (args_tuple_getitem _ _)))
  show wpAny _ _ (Builtin.Tuple.tupleItemsOf (.ref t) >>= _) _ _ s
  refine wpAny_bind (tupleItemsOf_ ht ?_)
  refine wpAny_bind (wpAny_typeOf hTs ?_)
  rw [if_pos (by decide)]
  refine wpAny_bind (sliceApplied_upto hs hb ?_)
  show wpAny _ _ (if ((0 : Int) == 0 && (1 : Int) == 1 && b == items.size) = true then _ else _) _ _ s
  by_cases hq : b = items.size
  · rw [if_pos (by simp [hq])]
    have hT : s.TypeIs (.ref t) "tuple" := ht.typeIs
    have hexact : ∀ {Q' : Bool → Shared → Prop} {A' : Around} {E' : Value → Shared → Prop}, Q' true s → wpAny (model prog w) A' (Builtin.Tuple.tupleIsExact (.ref t)) Q' E' s := by
      intro Q' A' E' hq'
      unfold Builtin.Tuple.tupleIsExact
      refine wpAny_bind (wpAny_typeOf hT ?_)
      exact wpAny_pure hq'
    refine wpAny_bind (hexact ?_)
    rw [if_pos rfl]
    refine wpAny_bind (wpAny_rule ?_)
    exact wpAny_pure ⟨_, rfl, wpAny_pure (h1 hq)⟩
  · rw [if_neg (by simp [hq])]
    have pk : ((List.range b).filterMap fun (k : Nat) => items[((0 : Int) + (k : Int) * 1).toNat]?).toArray = (items.toList.take b).toArray := by
      have e : (fun (k : Nat) => items[((0 : Int) + (k : Int) * 1).toNat]?) = fun k => items[k]? := by
        funext k
        have : ((0 : Int) + (k : Int) * 1).toNat = k := by rw [Int.zero_add, Int.mul_one]; rfl
        rw [this]
      rw [e]
      congr 1
      have key : ∀ (l : List Value) (b : Nat), (List.range b).filterMap (fun k => l[k]?) = l.take b := by
        intro l b
        induction b with
        | zero => simp
        | succ b ih =>
          rw [List.range_succ, List.filterMap_append, ih, List.take_add_one]
          cases h : l[b]? <;> simp [h]
      have := key items.toList b
      simpa using this
    rw [pk]
    first
      | exact wpAny_bind (m := Builtin.Tuple.tupleExact _) (wpAny_newObj_type (wpAny_pure ⟨_, rfl, wpAny_pure h2⟩) hdrop)
      | exact wpAny_bind (m := Builtin.Tuple.tupleExact _) (wpAny_newObj_type (wpAny_bind (wpAny_pure (wpAny_pure ⟨_, rfl, wpAny_pure h2⟩))) hdrop)
      | exact wpAny_bind (wpAny_bind (m := Builtin.Tuple.tupleExact _) (wpAny_newObj_type (wpAny_pure (wpAny_pure ⟨_, rfl, wpAny_pure h2⟩)) hdrop))
      | exact wpAny_bind (wpAny_bind (m := Builtin.Tuple.tupleExact _) (wpAny_newObj_type (wpAny_pure ⟨_, rfl, wpAny_pure h2⟩) hdrop))
theorem sliceTU {value slice : Expr} {l : Addr} {vs : List Value} {n : Nat} {b : Int} {u : Tok} {Q : Value → Shared → Prop} (st : St c S₀ n₀ B S M L ρ s) (hg : S l = some (tup vs n)) (hb0 : 0 ≤ b) (hb : b ≤ vs.length) (hz : vs.length ≤ sizeLine)
    (h : ∀ r e S' s', Le S S' → S' r = some (tup (vs.take b.toNat) e) → St c S₀ n₀ B S' M L ρ s' → Q (.ref r) s')
    (hs : subscripted slice false (.ref l) (.ref s.heap.objs.size) = operate [.ref s.heap.objs.size, .ref l] (getItem (.ref l) (.ref s.heap.objs.size)) := by with_unfolding_all rfl) :
    wpAny (model prog w) A (subscriptTail value slice (.ref l) (.ref s.heap.objs.size)) Q E { s with heap := s.heap.push { cls := .type "slice", data := .fields #[.none, .int b u, .none] } } := by
  have st1 : St c S₀ n₀ B S M L ρ { s with heap := s.heap.push { cls := .type "slice", data := .fields #[.none, .int b u, .none] } } := StC.pushBy st _ rfl
  have hl1 : IsTup (s.heap.push { cls := .type "slice", data := .fields #[.none, .int b u, .none] }) l vs.toArray := ⟨_, st1.ks _ _ hg, rfl, _, rfl⟩
  obtain ⟨k, rfl⟩ := Int.eq_ofNat_of_zero_le hb0
  refine tail_any (s := { s with heap := s.heap.push { cls := .type "slice", data := .fields #[.none, .int k u, .none] } }) hl1.typeIs slot_tuple_getitem.lookup
    (getItem_tuple_upto hl1 (Heap.IsSliceOf.new ..) (b := k) (by simp; omega) (by simpa using hz) (fun q => ?_) ?_) hs
  · refine h l n S _ (Le.refl _) ?_ st1
    have : k = vs.length := by simpa using q
    rw [Int.toNat_natCast, this, List.take_length]; exact hg
  · have e : (vs.toArray.toList.take k).toArray = (vs.take k).toArray := by simp
    rw [e]
    exact h _ 0 _ _ (le_put st1.fresh) (put_self _ _ _) (st1.push (tup (vs.take k) 0) rfl)
theorem tupTailI {l : Addr} {lo : Obj} {vs : List Value} {ns : List Int} {k : Int} {t : Tok} {value slice : Expr} {Q : Value → Shared → Prop} (hg : s.heap.get? l = some lo) (hl : TO lo vs) (hi : IntsAre vs ns) (h0 : 0 ≤ k) (hk : k < (ns.length : Int)) (hfit : k < 2 ^ 63) (h : ∀ u, Q (.int (ns.getD k.toNat 0) u) s)
    (hs : subscripted slice false (.ref l) (.int k t) = operate [.ref l, .int k t] (getItem (.ref l) (.int k t)) := by with_unfolding_all rfl) : wpAny (model prog w) A (subscriptTail value slice (.ref l) (.int k t)) Q E s := by
  obtain ⟨u, e⟩ := IntsAre.at hi (k := k.toNat) (by omega)
  exact tupTail hg hl h0 hfit e (h u) hs
end

/-! R16 -/
section
variable {prog : Program} {w : World} {A : Around} {E : Value → Shared → Prop} {s : Shared} {c : Cx} {B : Kp} {S₀ S S' : PM} {n₀ : Nat} {M M' : List (Addr × Obj)} {L : Addr} {ρ ρ' : Str → Option Value} {env : Env}
theorem unpItems {t : Addr} {o : Obj} {vs : List Value} {n : Nat} {Q : List Value → Shared → Prop} (st : St c S₀ n₀ B S M L ρ s) (hh : A.handled = none) (hg : s.heap.get? t = some o) (ho : TO o vs) (hn : n = vs.length) (h : ∀ s', St c S₀ n₀ B S M L ρ s' → Q vs s') :
    wpAny (model prog w) A (unpackItems (.ref t) n none) Q E s := by
  subst hn
  have hls : s.heap.IsTuple t vs.toArray := ⟨o, hg, ho.cls, ho.dat⟩
  refine wpAny_unpackItems_tuple (items := vs.toArray) hh hls fun h' he => ?_
  exact h _ (st.iter (wr := [s.heap.objs.size]) (fun b x hb e => he b x (by simpa using hb) e) fun b hb => by rw [List.mem_singleton.mp hb]; exact st.freshM)
theorem unpAssign {t : Addr} {o : Obj} {vs : List Value} {elts : List Expr} {k} {pos : Pos} {Q : Unit → Shared → Prop} (st : St c S₀ n₀ B S M L ρ s) (hh : A.handled = none) (hg : s.heap.get? t = some o) (ho : TO o vs) (hn : (assignEach elts env).length = vs.length) (hstar : (assignEach elts env).findIdx? (·.1) = none)
    (h : ∀ s', St c S₀ n₀ B S M L ρ s' → wpAny (model prog w) A (assignInOrder ((assignEach elts env).map (·.2)) vs) Q E s') :
    wpAny (model prog w) A (assign (.Tuple elts k pos) env (.ref t)) Q E s := by
  have hls : s.heap.IsTuple t vs.toArray := ⟨o, hg, ho.cls, ho.dat⟩
  rw [assign_Tuple]
  refine wpAny_bind (wpAny_standAt (wpAny_unpack_tuple (items := vs.toArray) hh hls (by simpa using hn) hstar fun h' he => ?_))
  exact h _ (st.iter (wr := [s.heap.objs.size]) (fun b x hb e => he b x (by simpa using hb) e) fun b hb => by rw [List.mem_singleton.mp hb]; exact st.freshM)
end

/-! R17 -/
section
variable {prog : Program} {w : World} {A : Around} {E : Value → Shared → Prop} {s : Shared} {c : Cx} {B : Kp} {S₀ S S' : PM} {n₀ : Nat} {M M' : List (Addr × Obj)} {L : Addr} {ρ ρ' : Str → Option Value} {env : Env}
theorem cnstInt {n : Int} {k : Nat} {pos : Pos} {Q : Value → Shared → Prop} (st : St c S₀ n₀ B S M L ρ s) (h : ∀ t s', St c S₀ n₀ B S M L ρ s' → Q (.int n t) s') : wpAny (model prog w) A (eval (.Constant (.int n) k pos) env) Q E s := fun _ _ _ => h s.toks { s with toks := s.toks + 1 } st
theorem cnstStr {x : Str} {k : Nat} {pos : Pos} {Q : Value → Shared → Prop} (st : St c S₀ n₀ B S M L ρ s) (h : ∀ t s', St c S₀ n₀ B S M L ρ s' → Q (.str x t) s') : wpAny (model prog w) A (eval (.Constant (.str x) k pos) env) Q E s := Constant_str (h s.toks { s with toks := s.toks + 1 } st)
theorem carry_nil : Carries (PySem.strKind prog w) [] [] := trivial
theorem carry_cons {k : Str} {t : Tok} {v : Value} {vs : List (Value × Value)} {kvs : List (Str × Value)} (h : Carries (PySem.strKind prog w) vs kvs) : Carries (PySem.strKind prog w) ((.str k t, v) :: vs) ((k, v) :: kvs) := ⟨by simp [PySem.strKind, Value.isStrOf], rfl, h⟩
theorem dictLit4 {k1 k2 k3 k4 v1 v2 v3 v4 : Str} {a1 a2 a3 a4 b1 b2 b3 b4 : Nat} {p1 p2 p3 p4 q1 q2 q3 q4 pos : Pos} {Q : Value → Shared → Prop} (st : St c S₀ n₀ B S M L ρ s)
    (h : ∀ a o t1 t2 t3 t4 s', n₀ ≤ a → DS prog w o (merged [] [(k1, .str v1 t1), (k2, .str v2 t2), (k3, .str v3 t3), (k4, .str v4 t4)]) → St c S₀ n₀ B S ((a, o) :: M) L ρ s' → Q (.ref a) s') :
    wpAny (model prog w) A (eval (.Dict [some (.Constant (.str k1) a1 p1), some (.Constant (.str k2) a2 p2), some (.Constant (.str k3) a3 p3), some (.Constant (.str k4) a4 p4)] [.Constant (.str v1) b1 q1, .Constant (.str v2) b2 q2, .Constant (.str v3) b3 q3, .Constant (.str v4) b4 q4] pos) env) Q E s := by
  have hd : DS prog w ({ cls := .type "dict", data := .dict #[] } : Obj) [] := ⟨#[], 0, ⟨rfl, rfl, rfl⟩, rfl, fun _ he => by simp at he, .nil, .nil⟩
  have hna := st.bigger
  have st1 := st.pushM { cls := .type "dict", data := .dict #[] } rfl
  refine wpAny_Dict_walk (knd := PySem.strKind prog w) rfl rfl (List.cons_ne_nil _ _) (Nat.le_of_ble_eq_true rfl) ?_
  generalize s.heap.objs.size = a at st1 hna ⊢
  refine pairTrees_cons_walk (cnstStr st1 fun t1 s1 st1 => cnstStr st1 fun u1 s1 st1 => ?_)
  refine pairTrees_cons_walk (cnstStr st1 fun t2 s1 st1 => cnstStr st1 fun u2 s1 st1 => ?_)
  refine pairTrees_cons_walk (cnstStr st1 fun t3 s1 st1 => cnstStr st1 fun u3 s1 st1 => ?_)
  refine pairTrees_cons_walk (cnstStr st1 fun t4 s1 st1 => cnstStr st1 fun u4 s1 st1 => ?_)
  refine pairTrees_nil_walk ?_
  refine ⟨_, carry_cons (carry_cons (carry_cons (carry_cons carry_nil))), Heap.dictOf_iff.mpr ⟨_, st1.M_at (.head _), hd⟩, fun h' hm hs => ?_⟩
  obtain ⟨o', ho', hd'⟩ := Heap.dictOf_iff.mp hm
  exact h a o' u1 u2 u3 u4 _ hna hd' (StC.upd st1 (.head) hs ho')
theorem dictTailS {d : Addr} {o : Obj} {kvs : List (Str × Value)} {k : Str} {t : Tok} {v : Value} {value slice : Expr} {Q : Value → Shared → Prop} (hg : s.heap.get? d = some o) (ho : DS prog w o kvs) (hv : valueAt kvs k = some v)
    (h : Q v { s with toks := s.toks + 1 }) (hs : subscripted slice false (.ref d) (.str k t) = operate [.ref d, .str k t] (getItem (.ref d) (.str k t)) := by with_unfolding_all rfl) :
    wpAny (model prog w) A (subscriptTail value slice (.ref d) (.str k t)) Q E s := by
  have hm : s.heap.DictOf (PySem.strKind prog w) d kvs := Heap.dictOf_iff.mpr ⟨o, hg, ho⟩
  exact tail_any hm.mapOf.typeIs slot_dict_getitem.lookup (wpAny_getItem_of (by simp [PySem.strKind, Value.isStrOf]) hm.mapOf hv h) hs
theorem dictTailH {d : Addr} {o : Obj} {kvs : List (Int × Value)} {k : Int} {t : Tok} {v : Value} {value slice : Expr} {Q : Value → Shared → Prop} (st : St c S₀ n₀ B S M L ρ s) (hg : s.heap.get? d = some o) (ho : DI prog w o kvs) (hv : valueAt kvs k = some v)
    (h : ∀ s', St c S₀ n₀ B S M L ρ s' → Q v s') (hs : subscripted slice false (.ref d) (.int k t) = operate [.ref d, .int k t] (getItem (.ref d) (.int k t)) := by with_unfolding_all rfl) :
    wpAny (model prog w) A (subscriptTail value slice (.ref d) (.int k t)) Q E s := dictTail hg ho hv (h { s with toks := s.toks + 1 } st) hs
end

/-! R18 -/
theorem le_of {c : Cx} {S₀ : PM} {n₀ : Nat} {B : Kp} {S S' : PM} {M : List (Addr × Obj)} {L : Addr} {ρ : Str → Option Value} {s : Shared} (_ : St c S₀ n₀ B S' M L ρ s) (h : Le S S') : Le S S' := h
/-- what holds behind a statement -/
inductive Mid (c : Cx) (S₀ : PM) (n₀ : Nat) (B : Kp) (L : Addr) (J : PM → List (Addr × Obj) → (Str → Option Value) → Prop) (S : PM) (f : Flow) (s : Shared) : Prop where
  | mk : f = .next → ∀ S' M ρ, Le S S' → J S' M ρ → St c S₀ n₀ B S' M L ρ s → Mid c S₀ n₀ B L J S f s
theorem Mid.of {c : Cx} {S₀ : PM} {n₀ : Nat} {B : Kp} {L : Addr} {J : PM → List (Addr × Obj) → (Str → Option Value) → Prop} {S S' : PM} {M : List (Addr × Obj)} {ρ : Str → Option Value} {s : Shared} (st : St c S₀ n₀ B S' M L ρ s) (le : Le S S') (j : J S' M ρ) : Mid c S₀ n₀ B L J S .next s := ⟨rfl, _, _, _, le, j, st⟩
section
variable {prog : Program} {w : World} {A : Around} {E : Value → Shared → Prop} {s : Shared} {c : Cx} {B : Kp} {S₀ S S' : PM} {n₀ : Nat} {M M' : List (Addr × Obj)} {L : Addr} {ρ ρ' : Str → Option Value} {env : Env}
theorem cut (c : Cx) (S₀ : PM) (n₀ : Nat) (B : Kp) (L : Addr) (S : PM) (J : PM → List (Addr × Obj) → (Str → Option Value) → Prop) {x : Sem Flow} {R : Flow → Shared → Prop} (h : wpAny (model prog w) A x (Mid c S₀ n₀ B L J S) E s)
    (k : ∀ S' M' ρ' s', Le S S' → J S' M' ρ' → St c S₀ n₀ B S' M' L ρ' s' → R .next s') : wpAny (model prog w) A x R E s :=
  wpAny_mono h (fun f s' m => by
    obtain ⟨rfl, S', M', ρ', le, j, st⟩ := m
    exact k S' M' ρ' s' le j st) fun _ _ e => e
end
/-- what holds behind an expression: its value, the same frame -/
inductive MidE (c : Cx) (S₀ : PM) (n₀ : Nat) (B : Kp) (M : List (Addr × Obj)) (L : Addr) (ρ : Str → Option Value) (J : Value → Prop) (S : PM) (v : Value) (s : Shared) : Prop where
  | mk : ∀ S', Le S S' → J v → St c S₀ n₀ B S' M L ρ s → MidE c S₀ n₀ B M L ρ J S v s
theorem MidE.of {c : Cx} {S₀ : PM} {n₀ : Nat} {B : Kp} {M : List (Addr × Obj)} {L : Addr} {ρ : Str → Option Value} {J : Value → Prop} {S S' : PM} {v : Value} {s : Shared} (st : St c S₀ n₀ B S' M L ρ s) (le : Le S S') (j : J v) : MidE c S₀ n₀ B M L ρ J S v s := ⟨_, le, j, st⟩
section
variable {prog : Program} {w : World} {A : Around} {E : Value → Shared → Prop} {s : Shared} {c : Cx} {B : Kp} {S₀ S : PM} {n₀ : Nat} {M : List (Addr × Obj)} {L : Addr} {ρ : Str → Option Value}
theorem cutE (J : Value → Prop) (st : St c S₀ n₀ B S M L ρ s) {x : Sem Value} {R : Value → Shared → Prop} (h : wpAny (model prog w) A x (MidE c S₀ n₀ B M L ρ J S) E s)
    (k : ∀ v S' s', Le S S' → J v → St c S₀ n₀ B S' M L ρ s' → R v s') : wpAny (model prog w) A x R E s :=
  wpAny_mono h (fun v s' m => by
    obtain ⟨S', le, j, st⟩ := m
    exact k v S' s' le j st) fun _ _ e => e
end

/-! R19 -/
section
variable {prog : Program} {w : World} {A : Around} {E : Value → Shared → Prop} {s : Shared} {c : Cx} {B : Kp} {S₀ S S' : PM} {n₀ : Nat} {M M' : List (Addr × Obj)} {L : Addr} {ρ ρ' : Str → Option Value} {env : Env}
theorem getKI {d : Addr} {o : Obj} {kvs : List (Int × Value)} {m : List (Int × Int)} {k : Int} {t u : Tok} {Q : Value → Shared → Prop} (st : St c S₀ n₀ B S M L ρ s) (hg : s.heap.get? d = some o) (ho : DI prog w o kvs) (hd : (d == sysModules) = false) (hki : KI kvs m)
    (h : ∀ tv s', St c S₀ n₀ B S M L ρ s' → Q (.int ((atI m k).getD 0) tv) s') : wpAny (model prog w) A (call (.builtin "dict.get") [.ref d, .int k t, .int 0 u]) Q E s := by
  cases e : atI m k with
  | none =>
    rw [e] at h
    exact dictGet2N hg ho hd (hki.no e) (h u { s with toks := s.toks + 1 } st)
  | some v =>
    rw [e] at h
    obtain ⟨tv, hv⟩ := hki.has e
    exact dictGet2S hg ho hd hv (h tv { s with toks := s.toks + 1 } st)
end

/-! T1 -/
/-! the sort's tree of questions, answered by a total order of the places -/
noncomputable def tWp {α : Type} (lt : Nat → Nat → Bool) (n : Nat) : KasT α → (α → Prop) → Prop
  | .ret a, Q => Q a
  | .ask i j k, Q => i < n ∧ j < n ∧ tWp lt n (k (lt i j)) Q
theorem tWp_bind {α β : Type} {lt : Nat → Nat → Bool} {n : Nat} {f : α → KasT β} {Q : β → Prop} : ∀ (t : KasT α), tWp lt n t (fun a => tWp lt n (f a) Q) → tWp lt n (t.bind f) Q
  | .ret _, h => h
  | .ask _ _ k, h => ⟨h.1, h.2.1, tWp_bind (k _) h.2.2⟩
theorem tWp_mono {α : Type} {lt : Nat → Nat → Bool} {n : Nat} {Q R : α → Prop} (q : ∀ a, Q a → R a) : ∀ (t : KasT α), tWp lt n t Q → tWp lt n t R
  | .ret _, h => q _ h
  | .ask _ _ k, h => ⟨h.1, h.2.1, tWp_mono q (k _) h.2.2⟩
theorem kas_by {α : Type} {lt : Nat → Nat → Bool} {n : Nat} {cmp : Nat → Nat → (Bool → Shared → Prop) → Shared → Prop} {I : Shared → Prop} {Q : α → Prop} {R : α → Shared → Prop}
    (hc : ∀ i j, i < n → j < n → ∀ (C : Bool → Shared → Prop) s, I s → (∀ s', I s' → C (lt i j) s') → cmp i j C s) (hr : ∀ a s', Q a → I s' → R a s') : ∀ (t : KasT α) (s : Shared), I s → tWp lt n t Q → t.kasWp cmp R s
  | .ret a, s, hI, h => hr a s h hI
  | .ask i j k, s, hI, h => hc i j h.1 h.2.1 _ s hI fun s' hI' => kas_by hc hr (k _) s' hI' h.2.2

structure TLt (lt : Nat → Nat → Bool) (n : Nat) : Prop where
  asymm : ∀ a b, lt a b = true → lt b a = false
  trans : ∀ a b c, lt a b = true → lt b c = true → lt a c = true
  total : ∀ a b, a < n → b < n → a ≠ b → lt a b = false → lt b a = true
structure PN (n : Nat) (p : Array Nat) : Prop where
  pm : p.toList.Perm (List.range n)
theorem PN.size {n : Nat} {p : Array Nat} (h : PN n p) : p.size = n := by
  have := h.pm.length_eq; simpa using this
theorem PN.at {n : Nat} {p : Array Nat} (h : PN n p) {i : Nat} (hi : i < n) : ∃ hi' : i < p.toList.length, p.getD i 0 = p.toList[i] := by
  have hs := h.size
  have hi' : i < p.size := Nat.lt_of_lt_of_eq hi hs.symm
  exact ⟨by simpa using hi', by simp [Array.getD, hi']⟩
theorem PN.lt {n : Nat} {p : Array Nat} (h : PN n p) {i : Nat} (hi : i < n) : p.getD i 0 < n := by
  obtain ⟨hi', e⟩ := h.at hi
  rw [e]
  exact List.mem_range.mp (h.pm.mem_iff.mp (List.getElem_mem hi'))
theorem PN.inj {n : Nat} {p : Array Nat} (h : PN n p) {i j : Nat} (hi : i < n) (hj : j < n) (hne : i ≠ j) : p.getD i 0 ≠ p.getD j 0 := by
  obtain ⟨hi', ei⟩ := h.at hi
  obtain ⟨hj', ej⟩ := h.at hj
  rw [ei, ej]
  have nd : p.toList.Nodup := h.pm.nodup_iff.mpr List.nodup_range
  intro q
  rcases Nat.lt_or_gt_of_ne hne with z | z
  · exact (List.pairwise_iff_getElem.mp nd i j hi' hj' z) q
  · exact (List.pairwise_iff_getElem.mp nd j i hj' hi' z) q.symm
theorem PN.of {n : Nat} {p p' : Array Nat} (h : PN n p) (q : p'.Perm p) : PN n p' := ⟨(Array.perm_iff_toList_perm.mp q).trans h.pm⟩
noncomputable def Srt (lt : Nat → Nat → Bool) (p : Array Nat) (k : Nat) : Prop := ∀ i j, i < j → j < k → lt (p.getD i 0) (p.getD j 0) = true
noncomputable def Dsc (lt : Nat → Nat → Bool) (p : Array Nat) (k : Nat) : Prop := ∀ i j, i < j → j < k → lt (p.getD j 0) (p.getD i 0) = true
theorem Srt.one {lt : Nat → Nat → Bool} {p : Array Nat} {k : Nat} (h : k ≤ 1) : Srt lt p k := fun i j hi hj => absurd (Nat.lt_of_lt_of_le hj h) (Nat.not_lt_of_le (Nat.zero_lt_of_lt hi))
theorem Dsc.one {lt : Nat → Nat → Bool} {p : Array Nat} {k : Nat} (h : k ≤ 1) : Dsc lt p k := fun i j hi hj => absurd (Nat.lt_of_lt_of_le hj h) (Nat.not_lt_of_le (Nat.zero_lt_of_lt hi))
section
variable {lt : Nat → Nat → Bool} {n : Nat} {p : Array Nat}
theorem Srt.snoc (T : TLt lt n) {k : Nat} (h : Srt lt p k) (hk : 1 ≤ k) (e : lt (p.getD (k - 1) 0) (p.getD k 0) = true) : Srt lt p (k + 1) := fun i j hi hj => by
  by_cases q : j = k
  · subst q
    by_cases q2 : i = j - 1
    · subst q2; exact e
    · exact T.trans _ _ _ (h i (j - 1) (Nat.lt_of_le_of_ne (Nat.le_sub_one_of_lt hi) q2) (Nat.sub_lt hk Nat.one_pos)) e
  · exact h i j hi (Nat.lt_of_le_of_ne (Nat.le_of_lt_succ hj) q)
theorem Dsc.snoc (T : TLt lt n) {k : Nat} (h : Dsc lt p k) (hk : 1 ≤ k) (e : lt (p.getD k 0) (p.getD (k - 1) 0) = true) : Dsc lt p (k + 1) := fun i j hi hj => by
  by_cases q : j = k
  · subst q
    by_cases q2 : i = j - 1
    · subst q2; exact e
    · exact T.trans _ _ _ e (h i (j - 1) (Nat.lt_of_le_of_ne (Nat.le_sub_one_of_lt hi) q2) (Nat.sub_lt hk Nat.one_pos))
  · exact h i j hi (Nat.lt_of_le_of_ne (Nat.le_of_lt_succ hj) q)
theorem asc_ (T : TLt lt n) (P : PN n p) : ∀ f m, 1 ≤ m → m + f ≤ n → Srt lt p m → tWp lt n (kas_asc p f m) (fun r => m ≤ r ∧ r ≤ m + f ∧ Srt lt p r ∧ (r < m + f → lt (p.getD r 0) (p.getD (r - 1) 0) = true))
  | 0, m, h1, h2, h => ⟨Nat.le_refl _, Nat.le_refl _, h, fun q => absurd q (Nat.lt_irrefl _)⟩
  | f + 1, m, h1, h2, h => by
    have hm : m < n := Nat.lt_of_lt_of_le (Nat.lt_add_of_pos_right (Nat.succ_pos f)) h2
    have hm1 : m - 1 < n := Nat.lt_of_le_of_lt (Nat.sub_le m 1) hm
    have hs : m + 1 + f = m + (f + 1) := Nat.add_right_comm m 1 f
    have h3 : m + 1 + f ≤ n := Nat.le_trans (Nat.le_of_eq hs) h2
    have hne : m ≠ m - 1 := Nat.ne_of_gt (Nat.sub_lt h1 Nat.one_pos)
    refine ⟨P.lt (by assumption), P.lt (by assumption), ?_⟩
    cases e : lt (p.getD m 0) (p.getD (m - 1) 0) with
    | true => exact ⟨Nat.le_refl _, Nat.le_add_right _ _, h, fun _ => e⟩
    | false =>
      have e' := T.total _ _ (P.lt hm) (P.lt hm1) (P.inj (i := m) (j := m - 1) hm hm1 hne) e
      have := asc_ T P f (m + 1) (Nat.le_add_left 1 m) h3 (h.snoc T h1 e')
      refine tWp_mono (fun r hr => ?_) _ this
      obtain ⟨a, b, c, d⟩ := hr
      exact ⟨Nat.le_of_succ_le a, Nat.le_trans b (Nat.le_of_eq hs), c, fun q => d (Nat.lt_of_lt_of_eq q hs.symm)⟩
theorem desc_ (T : TLt lt n) (P : PN n p) : ∀ f m, 1 ≤ m → m + f ≤ n → Dsc lt p m → tWp lt n (kas_desc f p m 0) (fun r => r.1 = p ∧ r.2.2 = 0 ∧ m ≤ r.2.1 ∧ r.2.1 ≤ m + f ∧ Dsc lt p r.2.1)
  | 0, m, h1, h2, h => ⟨rfl, rfl, Nat.le_refl _, Nat.le_refl _, h⟩
  | f + 1, m, h1, h2, h => by
    have hm : m < n := Nat.lt_of_lt_of_le (Nat.lt_add_of_pos_right (Nat.succ_pos f)) h2
    have hm1 : m - 1 < n := Nat.lt_of_le_of_lt (Nat.sub_le m 1) hm
    have hs : m + 1 + f = m + (f + 1) := Nat.add_right_comm m 1 f
    have h3 : m + 1 + f ≤ n := Nat.le_trans (Nat.le_of_eq hs) h2
    have hne : m ≠ m - 1 := Nat.ne_of_gt (Nat.sub_lt h1 Nat.one_pos)
    refine ⟨P.lt (by assumption), P.lt (by assumption), ?_⟩
    cases e : lt (p.getD m 0) (p.getD (m - 1) 0) with
    | true =>
      have := desc_ T P f (m + 1) (Nat.le_add_left 1 m) h3 (h.snoc T h1 e)
      refine tWp_mono (fun r hr => ?_) _ this
      obtain ⟨a, b, c, d, e⟩ := hr
      exact ⟨a, b, Nat.le_of_succ_le c, Nat.le_trans d (Nat.le_of_eq hs), e⟩
    | false =>
      have e' := T.total _ _ (P.lt hm) (P.lt hm1) (P.inj (i := m) (j := m - 1) hm hm1 hne) e
      refine ⟨P.lt (by assumption), P.lt (by assumption), ?_⟩
      rw [e']
      exact ⟨rfl, rfl, Nat.le_refl _, Nat.le_add_right _ _, h⟩
theorem count_ (T : TLt lt n) (P : PN n p) (h2 : 2 ≤ n) : tWp lt n (kas_count n p) (fun r => 1 ≤ r.1 ∧ r.1 ≤ n ∧ PN n r.2 ∧ Srt lt r.2 r.1) := by
  unfold kas_count
  have e1 : 1 + (n - 1) = n := Nat.add_sub_of_le (Nat.le_of_succ_le h2)
  refine tWp_bind _ (tWp_mono (fun m hm => ?_) _ (asc_ T P (n - 1) 1 (Nat.le_refl _) (Nat.le_of_eq e1) (Srt.one (Nat.le_refl _))))
  obtain ⟨a, b, c, d⟩ := hm
  have hmn : m ≤ n := Nat.le_trans b (Nat.le_of_eq e1)
  split
  · exact ⟨a, hmn, P, c⟩
  · rename_i hne
    have hne' : m ≠ n := by simpa using hne
    split
    · rename_i hgt
      have hm' : m - 1 < n := Nat.lt_of_le_of_lt (Nat.sub_le _ _) (Nat.lt_of_le_of_ne hmn hne')
      have h0' : 0 < n := Nat.zero_lt_of_lt hm'
      refine ⟨P.lt (by assumption), P.lt (by assumption), ?_⟩
      rw [c 0 (m - 1) (Nat.sub_pos_of_lt hgt) (Nat.sub_lt (Nat.zero_lt_of_lt hgt) Nat.one_pos)]
      exact ⟨a, hmn, P, c⟩
    · rename_i hgt
      have hm1 : m = 1 := Nat.le_antisymm (Nat.not_lt.mp hgt) a
      subst hm1
      have e := d (Nat.lt_of_lt_of_eq h2 e1.symm)
      unfold kas_descPart
      have h0 : Dsc lt p (1 + 1) := (Dsc.one (Nat.le_refl 1)).snoc T (Nat.le_refl _) e
      refine tWp_bind _ (tWp_mono (fun r hr => ?_) _ (desc_ T P (n - (1 + 1)) (1 + 1) (by decide) (Nat.le_of_eq (Nat.add_sub_of_le h2)) h0))
      obtain ⟨q, k, z⟩ := r
      obtain ⟨r1, r2, r3, r4, r5⟩ := hr
      dsimp only at r1 r2 r3 r4 r5 ⊢
      subst r1 r2
      have hkn : k ≤ n := Nat.le_trans r4 (Nat.le_of_eq (Nat.add_sub_of_le h2))
      rw [if_neg (by omega)]
      unfold kas_tail3
      have P' : PN n (kas_rev q 0 k) := P.of (mirror_perm _ _ _ _)
      have at' : ∀ i, i < k → (kas_rev q 0 k).getD i 0 = q.getD (k - 1 - i) 0 := fun i hi => by
        have := getElem?_mirror_all (xs := q) (i := 0) (j := k) (by rw [P.size]; exact hkn) i
        unfold kas_rev
        rw [Array.getD_eq_getD_getElem?, Array.getD_eq_getD_getElem?, this, if_pos ⟨Nat.zero_le _, hi⟩, Nat.zero_add]
      have S' : Srt lt (kas_rev q 0 k) k := fun i j hi hj => by
        rw [at' i (Nat.lt_trans hi hj), at' j hj]
        exact r5 _ _ (Nat.sub_lt_sub_left (Nat.lt_of_lt_of_le hi (Nat.le_sub_one_of_lt hj)) hi) (Nat.lt_of_le_of_lt (Nat.sub_le _ _) (Nat.sub_lt (Nat.zero_lt_of_lt hj) Nat.one_pos))
      refine tWp_bind _ (tWp_mono (fun m hm => ?_) _ (asc_ T P' (n - k) k (Nat.le_of_succ_le r3) (Nat.le_of_eq (Nat.add_sub_of_le hkn)) S'))
      obtain ⟨a, b, c, _⟩ := hm
      exact ⟨Nat.le_trans (Nat.le_of_succ_le r3) a, Nat.le_trans b (Nat.le_of_eq (Nat.add_sub_of_le hkn)), P', c⟩
theorem mid_ {l r : Nat} (h : l < r) : l ≤ (l + r) / 2 ∧ (l + r) / 2 < r := by omega
theorem place_ (T : TLt lt n) (P : PN n p) {k : Nat} (hk : k < n) (hs : Srt lt p k) : ∀ f l r, l ≤ r → r ≤ k → r - l ≤ f → (∀ i, i < l → lt (p.getD i 0) (p.getD k 0) = true) → (∀ i, r ≤ i → i < k → lt (p.getD k 0) (p.getD i 0) = true) →
    tWp lt n (kas_place p k f l r) (fun l => l ≤ k ∧ (∀ i, i < l → lt (p.getD i 0) (p.getD k 0) = true) ∧ (∀ i, l ≤ i → i < k → lt (p.getD k 0) (p.getD i 0) = true))
  | 0, l, r, h1, h2, h3, a, b => ⟨Nat.le_trans h1 h2, a, fun i hi hk => b i (Nat.le_trans (Nat.le_of_sub_eq_zero (Nat.le_zero.mp h3)) hi) hk⟩
  | f + 1, l, r, h1, h2, h3, a, b => by
    unfold kas_place
    split
    · rename_i hge
      exact ⟨Nat.le_trans h1 h2, a, fun i hi hk => b i (Nat.le_trans hge hi) hk⟩
    · rename_i hlt
      have hlr : l < r := Nat.not_le.mp hlt
      have hm := mid_ hlr
      have hmk : (l + r) / 2 < k := Nat.lt_of_lt_of_le hm.2 h2
      have hmn : (l + r) / 2 < n := Nat.lt_trans hmk hk
      refine ⟨P.lt hk, P.lt hmn, ?_⟩
      cases e : lt (p.getD k 0) (p.getD ((l + r) / 2) 0) with
      | true =>
        refine place_ T P hk hs f _ _ hm.1 (Nat.le_of_lt hmk) (Nat.le_of_lt_succ (Nat.lt_of_lt_of_le (Nat.sub_lt_sub_right hm.1 hm.2) h3)) a fun i hi hk' => ?_
        by_cases q : i = (l + r) / 2
        · rw [q]; exact e
        · exact T.trans _ _ _ e (hs _ _ (Nat.lt_of_le_of_ne hi (Ne.symm q)) hk')
      | false =>
        have e' := T.total _ _ (P.lt hk) (P.lt hmn) (P.inj (i := k) (j := (l + r) / 2) hk hmn (Nat.ne_of_gt hmk)) e
        refine place_ T P hk hs f _ _ hm.2 h2 (Nat.le_of_lt_succ (Nat.lt_of_lt_of_le (Nat.sub_lt_sub_left hlr (Nat.lt_succ_of_le hm.1)) h3)) (fun i hi => ?_) b
        by_cases q : i = (l + r) / 2
        · rw [q]; exact e'
        · exact T.trans _ _ _ (hs i ((l + r) / 2) (Nat.lt_of_le_of_ne (Nat.le_of_lt_succ hi) q) hmk) e'
theorem bin_ (T : TLt lt n) : ∀ (f : Nat) (p : Array Nat) (k : Nat), 1 ≤ k → k + f = n → PN n p → Srt lt p k → tWp lt n (kas_bin f p k) (fun q => PN n q ∧ Srt lt q n)
  | 0, p, k, h1, h2, P, h => by
    have e : k = n := h2
    subst e
    exact ⟨P, h⟩
  | f + 1, p, k, h1, h2, P, h => by
    unfold kas_bin
    have hkn : k < n := Nat.lt_of_lt_of_eq (Nat.lt_add_of_pos_right (Nat.succ_pos f)) h2
    refine tWp_bind _ (tWp_mono (fun l hl => ?_) _ (place_ T P (k := k) hkn h k 0 k (Nat.zero_le _) (Nat.le_refl _) (Nat.sub_le _ _) (fun i hi => absurd hi (Nat.not_lt_zero _)) (fun i hi hk => absurd hk (Nat.not_lt_of_le hi))))
    obtain ⟨hl, a, b⟩ := hl
    have at' : ∀ i, (bubble p k (k - l)).getD i 0 = if i = l then p.getD k 0 else if l < i ∧ i ≤ k then p.getD (i - 1) 0 else p.getD i 0 := fun i => by
      have := getElem?_bubble (xs := p) (src := k) (by rw [P.size]; exact hkn) (k - l) (Nat.sub_le _ _) i
      have e : k - (k - l) = l := Nat.sub_sub_self hl
      rw [e] at this
      rw [Array.getD_eq_getD_getElem?, this]
      split
      · rw [← Array.getD_eq_getD_getElem?]
      · split <;> rw [← Array.getD_eq_getD_getElem?]
    refine bin_ T f _ (k + 1) (Nat.le_add_left 1 k) ((Nat.add_right_comm k 1 f).trans h2) (P.of (bubble_perm _ _ _)) fun i j hi hj => ?_
    rw [at' i, at' j]
    have hj' : j ≤ k := Nat.le_of_lt_succ hj
    have hj1 : j - 1 < k := Nat.lt_of_lt_of_le (Nat.sub_lt (Nat.zero_lt_of_lt hi) Nat.one_pos) hj'
    by_cases q1 : i = l
    · have hlj : l < j := q1 ▸ hi
      rw [if_pos q1, if_neg (Nat.ne_of_gt hlj), if_pos ⟨hlj, hj'⟩]
      exact b _ (Nat.le_sub_one_of_lt hlj) hj1
    · rw [if_neg q1]
      by_cases q2 : l < i ∧ i ≤ k
      · have hlj : l < j := Nat.lt_trans q2.1 hi
        rw [if_pos q2, if_neg (Nat.ne_of_gt hlj), if_pos ⟨hlj, hj'⟩]
        exact h _ _ (Nat.sub_lt_sub_right (Nat.zero_lt_of_lt q2.1) hi) hj1
      · rw [if_neg q2]
        by_cases q3 : j = l
        · rw [if_pos q3]; exact a _ (q3 ▸ hi)
        · rw [if_neg q3]
          by_cases q4 : l < j ∧ j ≤ k
          · rw [if_pos q4]
            by_cases q5 : i = j - 1
            · exact absurd ⟨Nat.lt_of_le_of_ne (q5 ▸ Nat.le_sub_one_of_lt q4.1) (Ne.symm q1), Nat.le_of_lt (Nat.lt_of_lt_of_le hi hj')⟩ q2
            · exact h _ _ (Nat.lt_of_le_of_ne (Nat.le_sub_one_of_lt hi) q5) hj1
          · rw [if_neg q4]
            exact h _ _ hi (Nat.lt_of_lt_of_le (Nat.lt_of_le_of_ne (Nat.not_lt.mp fun z => q4 ⟨z, hj'⟩) q3) hl)
theorem sort_ (T : TLt lt n) (h2 : 2 ≤ n) : tWp lt n (kas_sort n) (fun q => PN n q ∧ Srt lt q n) := by
  unfold kas_sort
  have P : PN n (List.toArray (List.range n)) := ⟨by simp⟩
  refine tWp_bind _ (tWp_mono (fun r hr => ?_) _ (count_ T P h2))
  obtain ⟨m, q⟩ := r
  obtain ⟨a, b, c, d⟩ := hr
  dsimp only at a b c d ⊢
  split
  · have e : max m 1 = m := Nat.max_eq_left a
    rw [e]
    exact bin_ T _ _ _ a (Nat.add_sub_of_le b) c d
  · rename_i hge
    have e : m = n := Nat.le_antisymm b (Nat.not_lt.mp hge)
    subst e
    exact ⟨c, d⟩
end

/-! T2 -/
section
open PySem.SeqAt
theorem lt_intR {prog : Program} {w : World} {A : Around} {E : Value → Shared → Prop} {s : Shared} {a b : Int} {t u : Tok} {Q : Value → Shared → Prop} (h : Q (.bool (decide (a < b))) s) : wpAny (model prog w) A (richCompare .Lt (.int a t) (.int b u)) Q E s := wpAny_lt_int h
theorem tup_lt1 (l b : Addr) (x y : Int) (t u : Tok) (n n2 : Nat) (dd dd2 : Option Addr) (sl sl2 : Array (Option Value)) :
    Meets (Builtin.«tuple.__lt__» ⟨[.ref l, .ref b], []⟩)
      (fun A R s => s.heap.get? l = some { cls := .type "tuple", dict := dd, data := .seq [Value.int x t].toArray n, slots := sl } ∧ s.heap.get? b = some { cls := .type "tuple", dict := dd2, data := .seq [Value.int y u].toArray n2, slots := sl2 } ∧
        R (.ok (.ret (.bool (decide (x < y))))) s) :=
  .of_wp fun prog w A R s h => by
    obtain ⟨hp, g, d, tk, os⟩ := s; obtain ⟨hl, hb, h⟩ := h
    have f2 := AutoSeq1.sub_tuple_tuple
    wp_walk using wpAny_loadPart' hl, wpAny_loadPart' hb, wpAny_forIn_list _ (fun (rest : List (Value × Value)) (c : Option _ × Unit) s' => c.1 = none ∧ s' = ⟨hp, g, d, tk, os⟩ ∧ (rest = [(Value.int x t, Value.int y u)] ∨ (x = y ∧ rest = []))) _
    case turn =>
      rintro ⟨p, q⟩ rest c s' ⟨hc, rfl, hz⟩
      rcases hz with hz | ⟨_, hz⟩
      · injection hz with h1 h2
        injection h1 with h3 h4
        subst h2 h3 h4
        refine wpAny_bind (wpAny_eqBool_int ?_)
        by_cases q : x = y
        · subst q
          rw [if_neg (by simp)]
          exact wpAny_pure ⟨rfl, rfl, .inr ⟨rfl, rfl⟩⟩
        · rw [if_pos (by simpa using q)]
          dsimp only
          refine wpAny_bind (wpAny_rule (wpAny_bind (lt_intR ?_)))
          wp_walk
          exact ⟨_, rfl, h⟩
      · cases hz
    case fin =>
      rintro ⟨b1, b2⟩ s' ⟨hb', rfl, hz⟩
      simp only at hb'
      subst hb'
      rcases hz with hz | ⟨e, _⟩
      · cases hz
      subst e
      wp_walk
      exact ⟨_, rfl, by simpa [Builtin.Tuple.tupleCompareSizes] using h⟩
    case h => exact ⟨rfl, rfl, .inl rfl⟩
theorem lt_tup1 {prog : Program} {w : World} {A : Around} {E : Value → Shared → Prop} {s : Shared} {l b : Addr} {x y : Int} {t u : Tok} {n n2 : Nat} {Q : Value → Shared → Prop} (hl : s.heap.get? l = some { cls := .type "tuple", data := .seq [Value.int x t].toArray n }) (hb : s.heap.get? b = some { cls := .type "tuple", data := .seq [Value.int y u].toArray n2 }) (hu : A.units < cLine)
   (h : Q (.bool (decide (x < y))) s) : wpAny (model prog w) A (compareOp .Lt (.ref l) (.ref b)) Q E s :=
  richCompare_meets_room (op := .Lt) ⟨_, hl, rfl⟩ ⟨_, hb, rfl⟩ PySem.F.slot_tuple_lt PySem.F.entry_tuple_lt (PySem.F.args_tuple_lt_2 _ _) (tup_lt1 l b x y t u n n2 none none #[] #[])
    ⟨hl, hb, show Value.bool (decide (x < y)) ≠ Value.notImplemented ∧ Q (.bool (decide (x < y))) s from ⟨(fun x => nomatch x), h⟩⟩ hu

end

/-! T3 -/
/-! sorted over what is told of conflicts: shift/reduce ones over one rule -/
structure SrOne (c : Cf) : Prop where
  sr : c.sr = true
  rs : ∃ r, c.rs = [r]
noncomputable abbrev ltP (a b : Cf) : Prop := a.n < b.n ∨ (a.n = b.n ∧ (a.t < b.t ∨ (a.t = b.t ∧ (a.rs.getD 0 0 < b.rs.getD 0 0 ∨ (a.rs.getD 0 0 = b.rs.getD 0 0 ∧ a.ch < b.ch)))))
noncomputable def ltCf (a b : Cf) : Bool := decide (ltP a b)
section
variable {x y z : Int} {K K' K'' D : Prop}
theorem lx_trans (f : K → K' → K'') : x < y ∨ (x = y ∧ K) → y < z ∨ (y = z ∧ K') → x < z ∨ (x = z ∧ K'')
  | .inl a, .inl b => .inl (Int.lt_trans a b)
  | .inl a, .inr b => .inl (b.1 ▸ a)
  | .inr a, .inl b => .inl (a.1 ▸ b)
  | .inr a, .inr b => .inr ⟨a.1.trans b.1, f a.2 b.2⟩
theorem lx_asymm (f : K → K' → False) : x < y ∨ (x = y ∧ K) → y < x ∨ (y = x ∧ K') → False
  | .inl a, .inl b => Int.lt_asymm a b
  | .inl a, .inr b => Int.lt_irrefl _ (b.1 ▸ a)
  | .inr a, .inl b => Int.lt_irrefl _ (a.1 ▸ b)
  | .inr a, .inr b => f a.2 b.2
theorem lx_total (f : ¬ K → ¬ D → K') (h : ¬ (x < y ∨ (x = y ∧ K))) (q : ¬ (x = y ∧ D)) : y < x ∨ (y = x ∧ K') :=
  match Int.lt_trichotomy x y with
  | .inl l => absurd (.inl l) h
  | .inr (.inl e) => .inr ⟨e.symm, f (fun k => h (.inr ⟨e, k⟩)) fun d => q ⟨e, d⟩⟩
  | .inr (.inr g) => .inl g
theorem lx_eq (e : x = y) : (x < y ∨ (x = y ∧ K)) ↔ K := ⟨fun h => h.elim (fun l => absurd (e ▸ l : y < y) (Int.lt_irrefl _)) (·.2), fun k => .inr ⟨e, k⟩⟩
theorem lx_ne (e : ¬ x = y) : (x < y ∨ (x = y ∧ K)) ↔ x < y := ⟨fun h => h.elim id fun q => absurd q.1 e, .inl⟩
end
theorem ltP_asymm {a b : Cf} (h : ltP a b) : ¬ ltP b a := lx_asymm (lx_asymm (lx_asymm Int.lt_asymm)) h
theorem ltP_trans {a b c : Cf} (h : ltP a b) (g : ltP b c) : ltP a c := lx_trans (lx_trans (lx_trans Int.lt_trans)) h g
theorem ltP_total {a b : Cf} (ha : SrOne a) (hb : SrOne b) (hne : a ≠ b) (h : ¬ ltP a b) : ltP b a := by
  obtain ⟨r, er⟩ := ha.rs
  obtain ⟨r', er'⟩ := hb.rs
  have hsa := ha.sr
  have hsb := hb.sr
  obtain ⟨n, t, sr, rs, ch⟩ := a
  obtain ⟨n', t', sr', rs', ch'⟩ := b
  dsimp only at er er' hsa hsb
  subst er er' hsa hsb
  unfold ltP at *
  have q : ¬ (n = n' ∧ t = t' ∧ r = r' ∧ ch = ch') := by
    rintro ⟨rfl, rfl, rfl, rfl⟩; exact hne rfl
  exact lx_total (lx_total (lx_total fun h1 h2 => Int.lt_iff_le_and_ne.mpr ⟨Int.not_lt.mp h1, Ne.symm h2⟩)) h q
noncomputable def cf0 : Cf := ⟨0, 0, true, [0], 0⟩
theorem tlt_of {cs : List Cf} (h1 : ∀ c ∈ cs, SrOne c) (hnd : cs.Nodup) : TLt (fun i j => ltCf (cs.getD i cf0) (cs.getD j cf0)) cs.length where
  asymm := fun a b h => decide_eq_false (ltP_asymm (of_decide_eq_true h))
  trans := fun a b c h g => decide_eq_true (ltP_trans (of_decide_eq_true h) (of_decide_eq_true g))
  total := fun a b ha hb hne h => by
    have e : ∀ i (hi : i < cs.length), cs.getD i cf0 = cs[i] := fun i hi => by simp [hi]
    refine decide_eq_true (ltP_total ?_ ?_ ?_ (of_decide_eq_false h))
    · rw [e a ha]; exact h1 _ (List.getElem_mem _)
    · rw [e b hb]; exact h1 _ (List.getElem_mem _)
    · rw [e a ha, e b hb]
      intro q
      rcases Nat.lt_or_gt_of_ne hne with z | z
      · exact (List.pairwise_iff_getElem.mp hnd a b ha hb z) q
      · exact (List.pairwise_iff_getElem.mp hnd b a hb ha z) q.symm
section
variable {prog : Program} {w : World} {A : Around} {E : Value → Shared → Prop} {s : Shared} {c : Cx} {B : Kp} {S₀ S S' : PM} {n₀ : Nat} {M M' : List (Addr × Obj)} {L : Addr} {ρ ρ' : Str → Option Value} {env : Env}
theorem ask_cf {x y : Addr} {a b : Cf} {C : Bool → Shared → Prop} (hx : TdAt S x a) (hy : TdAt S y b) (hks : ∀ a o, S a = some o → s.heap.get? a = some o) (ha : SrOne a) (hb : SrOne b) (hu : A.units + 2 < cLine) (h : C (ltCf a b) s) :
    wpAny (model prog w) A (keyLt' (tuples' true) (.ref x) (.ref y)) C (fun _ _ => False) s := by
  obtain ⟨t1, t2, t3, t4, q, vs, e, e', hX, hq, hi⟩ := id hx
  obtain ⟨u1, u2, u3, u4, q', vs', k, k', hY, hq', hi'⟩ := id hy
  obtain ⟨r, er⟩ := ha.rs
  obtain ⟨r', er'⟩ := hb.rs
  rw [er] at hi
  rw [er'] at hi'
  obtain ⟨t5, ev⟩ : ∃ t5, vs = [Value.int r t5] := by
    cases hi with | cons n u hr => cases hr; exact ⟨_, rfl⟩
  obtain ⟨u5, ev'⟩ : ∃ t5, vs' = [Value.int r' t5] := by
    cases hi' with | cons n u hr => cases hr; exact ⟨_, rfl⟩
  subst ev ev'
  refine kat_lt (hks _ _ hX) rfl (hks _ _ hY) rfl ?_
  show KatLex prog w A true false C [(Value.int a.n t1, Value.int b.n u1), (Value.int a.t t2, Value.int b.t u2), (Value.str (srT a.sr) t3, Value.str (srT b.sr) u3), (Value.ref q, Value.ref q'), (Value.int a.ch t4, Value.int b.ch u4)] 0 s
  have L : a.rs.getD 0 0 = r := by rw [er]; rfl
  have L' : b.rs.getD 0 0 = r' := by rw [er']; rfl
  refine kat_cons (wpAny_eqBool_int ?_)
  by_cases q1 : a.n = b.n
  · rw [show (a.n == b.n) = true by simpa using q1]
    refine kat_yes (kat_cons (wpAny_eqBool_int ?_))
    by_cases q2 : a.t = b.t
    · rw [show (a.t == b.t) = true by simpa using q2]
      refine kat_yes (kat_cons (wpAny_eqBool_str ?_))
      rw [ha.sr, hb.sr, show decide (srT true = srT true) = true from decide_eq_true rfl]
      refine kat_yes (kat_cons ?_)
      refine SeqAt.eqBoolOverData prog w A _ s _ _ (.tuple [.int r]) (.tuple [.int r']) ([] ++ []) ([] ++ []) _ (.tuple (hks _ _ hq) rfl rfl (.cons (.int _ _) .nil)) (.tuple (hks _ _ hq') rfl rfl (.cons (.int _ _) .nil)) rfl rfl ?_ ?_
      · refine Nat.lt_of_le_of_lt (Nat.add_le_add_left (Nat.min_le_left _ _) _) ?_
        exact Nat.lt_of_le_of_lt (Nat.le_refl (A.units + 1)) (by omega)
      · have ed : PyData.eqv (.tuple [.int r]) (.tuple [.int r']) = decide (r = r') := by
          show (r == r' && true) = _
          by_cases q : r = r' <;> simp [q]
        rw [ed]
        by_cases q3 : r = r'
        · rw [decide_eq_true q3]
          refine kat_yes (kat_cons (wpAny_eqBool_int ?_))
          by_cases q4 : a.ch = b.ch
          · rw [show (a.ch == b.ch) = true by simpa using q4]
            refine kat_yes (kat_nil ?_)
            have e : ltCf a b = false := decide_eq_false (by unfold ltP; rw [L, L', lx_eq q1, lx_eq q2, lx_eq q3, q4]; exact Int.lt_irrefl _)
            rw [e] at h; exact h
          · rw [show (a.ch == b.ch) = false by simpa using q4]
            refine kat_no (kat_one _ _ (lt_int ?_))
            have e : ltCf a b = decide (a.ch < b.ch) := decide_eq_decide.mpr (by unfold ltP; rw [L, L', lx_eq q1, lx_eq q2, lx_eq q3])
            rw [e] at h; exact h
        · rw [decide_eq_false q3]
          refine kat_no (kat_one _ _ (lt_tup1 (hks _ _ hq) (hks _ _ hq') (by omega) ?_))
          have e : ltCf a b = decide (r < r') := decide_eq_decide.mpr (by unfold ltP; rw [L, L', lx_eq q1, lx_eq q2, lx_ne q3])
          rw [e] at h; exact h
    · rw [show (a.t == b.t) = false by simpa using q2]
      refine kat_no (kat_one _ _ (lt_int ?_))
      have e : ltCf a b = decide (a.t < b.t) := decide_eq_decide.mpr (by unfold ltP; rw [L, L', lx_eq q1, lx_ne q2])
      rw [e] at h; exact h
  · rw [show (a.n == b.n) = false by simpa using q1]
    refine kat_no ?_
    refine oneLt_int ?_
    have e : ltCf a b = decide (a.n < b.n) := decide_eq_decide.mpr (lx_ne q1)
    rw [e] at h; exact h

theorem TdsAt.tups {vs : List Value} {cs : List Cf} (h : TdsAt S vs cs) {hp : Heap} (hks : ∀ a o, S a = some o → hp.get? a = some o) : ∃ fs, KatTups hp vs fs ∧ fs.length = cs.length ∧ ∀ v ∈ fs, ∃ n t, v = Value.int n t := by
  induction h with
  | nil => exact ⟨[], .nil, rfl, fun _ hv => nomatch hv⟩
  | cons a _ ih =>
    obtain ⟨t1, t2, t3, t4, q, vs, e, e', hX, _, _⟩ := id a
    obtain ⟨fs, k1, k2, k3⟩ := ih
    refine ⟨Value.int _ t1 :: fs, .cons (hks _ _ hX) rfl rfl rfl k1, by simp [k2], fun v hv => ?_⟩
    rcases List.mem_cons.mp hv with rfl | hv
    · exact ⟨_, _, rfl⟩
    · exact k3 v hv
theorem short_sort {a : Addr} {vs : List Value} {n : Nat} {P : PySem.Fin → Shared → Prop} (ho : s.heap.get? a = some (lst vs n)) (h2 : vs.length < 2) (h : P (.done (.ret .none)) { s with heap := sortedHeap s.heap a vs vs.toArray }) :
    wpAny (model prog w) A (Builtin.«list.sort» ⟨[.ref a], []⟩) P E s := by
  have ha : a < s.heap.objs.size := Heap.lt_size ho
  have hz : vs.length ≤ sizeLine := by rw [sizeLine_eq]; omega
  obtain ⟨e1, ho1⟩ : ∃ e1, (s.heap.update a (Obj.mapSeq fun _ => (#[] : Array Value))).get? a = some (seqObj "list" #[] e1) := ⟨_, get?_update_seq ho fun _ => #[]⟩
  have ho2 : (((s.heap.update a (Obj.mapSeq fun _ => (#[] : Array Value))).push (seqObj "tuple" vs.toArray 0)).push (seqObj "list" #[] 0)).get? a = some (seqObj "list" #[] e1) := Heap.get?_push_of_some _ (Heap.get?_push_of_some _ ho1)
  have hv : vs.toArray.size < 2 := by simpa using h2
  rw [list_sort_plain]
  refine wpAny_bind (listItems_at ho rfl ?_)
  refine wpAny_bind (listUpdate_at ho rfl ?_ (by rw [List.size_toArray]; exact hz) (Nat.zero_le _))
  refine wpAny_bind (seqEpoch_at ho1 rfl ?_)
  refine wpAny_bind (wpAny_newTuple ?_ hz)
  refine wpAny_bind (wpAny_newList ?_ (Nat.zero_le _))
  refine wpAny_holding ?_
  show wpAny (model prog w) A _ P E { s with heap := ((s.heap.update a (Obj.mapSeq fun _ => (#[] : Array Value))).push (seqObj "tuple" vs.toArray 0)).push (seqObj "list" #[] 0) }
  dsimp only
  rw [if_pos hv, if_pos hv]
  refine wpAny_bind (wpAny_pure ?_)
  rw [StateT.run_pure]
  refine wpAny_bind (wpAny_pure ?_)
  dsimp only
  have em : (Array.map (fun x => x.2) (vs.toArray.zip vs.toArray)) = vs.toArray := by
    apply Array.toList_inj.mp
    have : ∀ l : List Value, List.map (fun x => x.2) (List.zip l l) = l := by
      intro l; induction l with
      | nil => rfl
      | cons a l ih => show a :: List.map (fun x => x.2) (List.zip l l) = a :: l; rw [ih]
    rw [Array.toList_map, Array.toList_zip]
    exact this vs
  refine wpAny_bind (seqEpoch_at ho2 rfl ?_)
  refine wpAny_bind (listUpdate_at ho2 rfl ?_ (Nat.zero_le _) (by rw [Array.size_map]; show (vs.toArray.zip vs.toArray).size ≤ _; simp; omega))
  simp only [bne_self_eq_false, Bool.false_eq_true, if_false]
  refine wpAny_pure ?_
  show P _ { s with heap := Heap.update _ a (Obj.mapSeq fun _ => Array.map (fun x => x.2) (vs.toArray.zip vs.toArray)) }
  rw [em]
  exact h
end

/-! T4 -/
theorem map_getD_range {α : Type} (d : α) (l : List α) : (List.range l.length).map (fun i => l.getD i d) = l := by
  refine List.ext_getElem (by simp) fun i h1 h2 => ?_
  simp [h2]
theorem TdsAt.item {S : PM} {vs : List Value} {cs : List Cf} (h : TdsAt S vs cs) {i : Nat} (hi : i < cs.length) : ∃ x, vs.getD i Value.none = .ref x ∧ TdAt S x (cs.getD i cf0) := by
  obtain ⟨x, h1, h2⟩ := h.get (i := i) (c := cs[i]) (by simp [hi])
  refine ⟨x, by simp [h1], ?_⟩
  have e : cs.getD i cf0 = cs[i] := by simp [hi]
  rw [e]; exact h2
theorem TdsAt.pick {S : PM} {vs : List Value} {cs : List Cf} (h : TdsAt S vs cs) : ∀ (p : List Nat), (∀ i ∈ p, i < cs.length) → TdsAt S (p.map fun i => vs.getD i Value.none) (p.map fun i => cs.getD i cf0)
  | [], _ => .nil
  | i :: p, hp => by
    obtain ⟨x, e, t⟩ := h.item (hp i (.head _))
    simp only [List.map_cons, e]
    exact .cons t (TdsAt.pick h p fun j hj => hp j (.tail _ hj))
section
variable {prog : Program} {w : World} {A : Around} {E : Value → Shared → Prop} {s : Shared} {c : Cx} {B : Kp} {S₀ S S' : PM} {n₀ : Nat} {M M' : List (Addr × Obj)} {L : Addr} {ρ ρ' : Str → Option Value} {env : Env}
theorem sortedT {l : Addr} {lo : Obj} {vs : List Value} {cs : List Cf} {Q : Value → Shared → Prop} (st : St c S₀ n₀ B S M L ρ s) (hu : A.units + 8 < cLine) (hg : s.heap.get? l = some lo) (hlL : l ≠ L) (hln : n₀ ≤ l) (hlo : LO lo vs) (ht : TdsAt S vs cs)
   (h1 : ∀ c ∈ cs, SrOne c) (hnd : cs.Nodup) (h64 : vs.length < 64)
   (h : ∀ a vs' cs' n s', n₀ ≤ a → St c S₀ n₀ B S ((a, lst vs' n) :: M) L ρ s' → TdsAt S vs' cs' → cs'.Perm cs → cs'.Pairwise ltP → Q (.ref a) s') : wpAny (model prog w) A (call (.builtin "sorted") [.ref l]) Q E s := by
  have hls := hlo.is hg
  have hlen := ht.len
  have hz : vs.length ≤ sizeLine := by rw [sizeLine_eq]; omega
  by_cases h2 : vs.length < 2
  · refine call_function_entry kind_sorted plain_sorted entry_sorted (args_sorted1 _) ?_
    unfold Builtin.«sorted»
    refine wpAny_bind (m := checkCount "sorted" 1 1 _) (wpAny_pure ?_)
    refine wpAny_bind (collect_list hls ?_ hz)
    refine wpAny_bind (wpAny_newList ?_ hz)
    have hsz : ((s.heap.push (seqObj "list" #[] 0)).update s.heap.objs.size (Obj.mapSeq (· ++ vs.toArray))).objs.size = s.heap.objs.size + 1 := by
      rw [Heap.size_update, size_push']
    have hoL : (((s.heap.push (seqObj "list" #[] 0)).update s.heap.objs.size (Obj.mapSeq (· ++ vs.toArray))).push (seqObj "list" vs.toArray 0)).get? (s.heap.objs.size + 1) = some (seqObj "list" vs.toArray 0) := by
      rw [← hsz]; exact Heap.get?_push_size _ rfl
    have keep : ∀ b o, s.heap.get? b = some o → (((s.heap.push (seqObj "list" #[] 0)).update s.heap.objs.size (Obj.mapSeq (· ++ vs.toArray))).push (seqObj "list" vs.toArray 0)).get? b = some o := fun b o q => by
      have hlt : b < s.heap.objs.size := Heap.lt_size q
      refine Heap.get?_push_of_some _ ?_
      rw [Heap.get?_update_ne _ _ _ _ (Nat.ne_of_lt hlt)]
      exact Heap.get?_push_of_some _ q
    show wpAny _ _ _ _ _ { s with heap := ((s.heap.push (seqObj "list" #[] 0)).update s.heap.objs.size (Obj.mapSeq (· ++ vs.toArray))).push (seqObj "list" vs.toArray 0) }
    rw [hsz]
    generalize hh' : ((s.heap.push (seqObj "list" #[] 0)).update s.heap.objs.size (Obj.mapSeq (· ++ vs.toArray))).push (seqObj "list" vs.toArray 0) = h' at hoL keep
    refine wpAny_bind (wpAny_holding (wpAny_call_entry slot_list_sort ⟨_, hoL, rfl⟩ entry_list_sort (short_sort (s := { s with heap := h' }) hoL h2 ⟨_, rfl, ?_⟩) (args_list_sort _)))
    refine wpAny_pure ⟨_, rfl, ?_⟩
    obtain ⟨k1, n', k2⟩ := Mine.sortedHeap_at vs.toArray hoL
    refine h (s.heap.objs.size + 1) vs cs n' _ (Nat.le_succ_of_le st.bigger) ?_ ht (.refl _) ?_
    · refine StC.keptNewM st (fun b x e => k1 b x (Nat.ne_of_lt (Nat.lt_succ_of_lt (Heap.lt_size e))) (keep b x e)) ?_ (Nat.le_succ _)
      simpa using k2
    · match cs, hlen with
      | [], _ => exact .nil
      | [_], _ => exact List.pairwise_singleton _ _
      | _ :: _ :: _, hlen => simp at hlen; omega
  · obtain ⟨all, F, N, ha⟩ := StC.all st
    refine kat_sorted F N hls (by omega) h64 fun D e1 h' F' N' hD => ?_
    have hall : ∀ b o, b ≠ L → s.heap.get? b = some o → h'.get? b = some o := fun b o hb e => (N' _ (.tail _ (ha b o hb e))).1
    have hks : ∀ b o, S b = some o → h'.get? b = some o := fun b o e => hall b o (fun q => by rw [q, st.sl] at e; cases e) (st.ks b o e)
    obtain ⟨fs, k1, k2, k3⟩ := ht.tups hks
    refine kat_kind (T := .type "int") (s := { s with heap := h' }) k1 (by omega) (fun v hv => ?_) rfl ?_
    · obtain ⟨n, t, rfl⟩ := k3 v hv
      exact .now
    · show (kas_sort vs.length).kasWp (kas_ask prog w A.in1.in1 (tuples' true) vs) _ _
      rw [hlen]
      refine kas_by (I := fun s' => s' = { s with heap := h' }) (Q := fun q => PN cs.length q ∧ Srt (fun i j => ltCf (cs.getD i cf0) (cs.getD j cf0)) q cs.length) (fun i j hi hj C s' hI hC => ?_) (fun p s' hp hI => ?_) _ _ rfl (sort_ (tlt_of h1 hnd) (by omega))
      · subst hI
        obtain ⟨x, ex, tx⟩ := ht.item hi
        obtain ⟨y, ey, ty⟩ := ht.item hj
        unfold kas_ask
        rw [ex, ey]
        have one : ∀ i, i < cs.length → SrOne (cs.getD i cf0) := fun i hi => by
          have e : cs.getD i cf0 = cs[i] := by simp [hi]
          rw [e]; exact h1 _ (List.getElem_mem _)
        exact ask_cf (s := { s with heap := h' }) tx ty hks (one i hi) (one j hj) (by show A.units + 1 + 1 + 2 < cLine; omega) (hC _ rfl)
      · subst hI
        obtain ⟨hp, hs⟩ := hp
        have hps := hp.size
        have hmem : ∀ i ∈ p.toList, i < cs.length := fun i hi => List.mem_range.mp (hp.pm.mem_iff.mp hi)
        have hne : ∀ q ∈ all, q.1 ≠ D := fun q hq => Nat.ne_of_lt (hD q hq)
        refine KasFin.intro (news := (D, seqObj "list" #[] e1) :: all) F' N' (.head hne) fun h2 c2 F2 N2 => ?_
        have hDn : s.heap.get? D = none := none_of fun o e => by
          by_cases q : D = L
          · exact (N' _ (.head _)).2.1 q
          · exact Nat.lt_irrefl _ (hD _ (ha D o q e))
        refine h D (p.toList.map fun i => vs.getD i Value.none) (p.toList.map fun i => cs.getD i cf0) c2 _ (Nat.le_of_lt (Nat.lt_of_le_of_lt hln (hD _ (ha l lo hlL hg)))) ?_ (ht.pick _ hmem) ?_ ?_
        · exact StC.fromNew st ha F2 N2 hDn
        · exact (hp.pm.map _).trans (List.Perm.of_eq (map_getD_range cf0 cs))
        · refine List.pairwise_iff_getElem.mpr fun i j hi hj hij => ?_
          have hi' : i < p.size := by simpa using hi
          have hj' : j < p.size := by simpa using hj
          have := hs i j hij (by omega)
          have e : ∀ k (hk : k < p.size), p.getD k 0 = p[k] := fun k hk => by simp [Array.getD, hk]
          rw [e i hi', e j hj'] at this
          have := of_decide_eq_true this
          simpa using this
end

/-! Lines -/

local macro_rules
  | `(tactic| walk_at $s:str) => if s.getString.length ≤ 5 && s.getString != "And" && s.getString != "Hid" then Lean.Macro.throwUnsupported else `(tactic| k_extra $s)
theorem words_Lines : True := by
  k_with "le" => first | exact Le.refl _ | assumption | (refine Le.trans (by assumption) ?_; walk_at "le")
  k_with "S" => first | assumption | exact put_self _ _ _ | (refine' Le.get ?f ?l; (case f => assumption); (case l => walk_at "le"))
  k_with "U" => first | exact UpM.head | exact UpM.tail UpM.head | exact UpM.tail (UpM.tail UpM.head) | exact UpM.tail (UpM.tail (UpM.tail UpM.head)) | exact UpM.tail (UpM.tail (UpM.tail (UpM.tail UpM.head))) | exact UpM.tail (UpM.tail (UpM.tail (UpM.tail (UpM.tail UpM.head)))) | exact UpM.tail (UpM.tail (UpM.tail (UpM.app UpM.head _)))
  k_with "UF" => first | exact fun _ => UpM.head | exact fun _ => UpM.tail UpM.head | exact fun _ => UpM.tail (UpM.tail (UpM.tail (UpM.app UpM.head _))) | exact fun _ => UpM.tail (UpM.tail UpM.head) | exact fun _ => UpM.tail (UpM.tail (UpM.tail UpM.head)) | exact fun _ => UpM.tail (UpM.tail (UpM.tail (UpM.tail UpM.head))) | exact fun _ => UpM.tail (UpM.tail (UpM.tail (UpM.tail (UpM.tail UpM.head))))
  k_with "UFF" => first | exact fun _ _ => UpM.head | exact fun _ _ => UpM.tail UpM.head | exact fun _ _ => UpM.tail (UpM.tail UpM.head) | exact fun _ _ => UpM.tail (UpM.tail (UpM.tail UpM.head)) | exact fun _ _ => UpM.tail (UpM.tail (UpM.tail (UpM.tail UpM.head))) | exact fun _ _ => UpM.tail (UpM.tail (UpM.tail (UpM.tail (UpM.tail UpM.head))))
  k_with "mem" => first | exact List.Mem.head _ | exact List.mem_append_right _ (List.Mem.head _) | (refine List.Mem.tail _ ?_; walk_at "mem")
  k_with "H" => first | exact StC.M_at (by assumption) (by walk_at "mem") | exact StC.S_at (by assumption) (by walk_at "S")
  k_with "is" => ((try dsimp only [cx]); k_is)
  k_with "inst" => first | exact StC.inst (by assumption) (by assumption) | exact StC.inst (by assumption) (Inst.mono (by assumption) (by walk_at "le")) | exact StC.instM (by assumption) (by walk_at "S") (by walk_at "mem") (by assumption)
  k_with "eval Name" => (k_dflt (first
  | (refine' ldL ?k1 ?k2 ?k3 ?k4 ?k5 ?_; (case k1 => assumption); (case k2 => rfl); (case k3 => first | rfl | assumption); (case k4 => rfl); (case k5 => decide))
  | (refine' ldG ?k1 ?k2 ?k3 ?k4 ?k5 ?_; (case k1 => assumption); (case k2 => rfl); (case k3 => walk_at "is"); (case k4 => rfl); (case k5 => decide))
  | (refine' ldB ?k1 ?k2 ?k3 ?k4 ?k5 ?k6 ?k7 ?_; (case k1 => assumption); (case k2 => rfl); (case k3 => walk_at "is"); (case k4 => boot_by_name); (case k5 => decide); (case k6 => rfl); (case k7 => decide))))
  k_with "storeName" => ((rename StC _ _ _ _ _ _ _ _ _ _ _ => stz); k_dflt (refine' stL stz ?k2 ?k3 ?_; (case k2 => rfl); (case k3 => rfl)); clear stz; intro _ _)
  k_with "newList" => ((rename StC _ _ _ _ _ _ _ _ _ _ _ => stz); k_dflt (refine' newListM stz ?k2 ?_; (case k2 => (first | exact Nat.le_of_ble_eq_true rfl | with_reducible assumption))); clear stz; intro _ _ _ _)
  k_with "newTuple" => ((rename StC _ _ _ _ _ _ _ _ _ _ _ => stz); k_dflt (refine' newTupF stz ?k2 ?_; (case k2 => (first | exact Nat.le_of_ble_eq_true rfl | with_reducible assumption))); clear stz; intro _ _ _ _ _ _)
  k_with "eval Dict nil nil" => ((rename StC _ _ _ _ _ _ _ _ _ _ _ => stz); k_dflt (refine' newDictM (prog := _) stz ?_); clear stz; intro _ _ _ _ _ _ _ st')
  k_with "getMethod ref" => (k_dflt (first
  | (refine' listMeth ?k1 PySem.F.slot_list_append PySem.F.type_list_append ?_; (case k1 => walk_at "H"))
  | (refine' listMeth ?k1 PySem.F.slot_list_extend PySem.F.type_list_extend ?_; (case k1 => walk_at "H"))
  | (refine' listMeth ?k1 PySem.F.slot_list_remove PySem.F.type_list_remove ?_; (case k1 => walk_at "H"))
  | (refine' listMeth ?k1 PySem.F.slot_list_count PySem.F.type_list_count ?_; (case k1 => walk_at "H"))
  | (refine' dictMeth ?k1 ?k2 PySem.F.slot_dict_get PySem.F.type_dict_get ?_; (case k1 => walk_at "H"); (case k2 => assumption))
  | (refine' dictMeth ?k1 ?k2 PySem.F.slot_dict_pop PySem.F.type_dict_pop ?_; (case k1 => walk_at "H"); (case k2 => assumption))
  | (refine' method ?k1 ?k2 ?k3 ?k4 ?k5 ?k6 ?_; (case k1 => assumption); (case k2 => walk_at "inst"); (case k3 => rfl); (case k4 => walk_at "is"); (case k5 => walk_at "is"); (case k6 => walk_at "is"))))
  k_with "call builtin:list.append" => ((rename StC _ _ _ _ _ _ _ _ _ _ _ => stz); k_dflt (refine' appendM stz ?k1 ?k2 ?_; (case k1 => walk_at "U"); (case k2 => first | with_reducible assumption | exact Nat.le_of_ble_eq_true rfl | (simp only [sizeLine_eq]; omega))); clear stz; intro _ _)
  k_with "getAttr ref" => (k_dflt (refine' attr ?k1 ?k2 ?k3 ?k4 ?k5 ?k6 ?k7 ?k8 ?_; (case k1 => assumption); (case k2 => walk_at "inst"); (case k3 => first | rfl | assumption); (case k4 => walk_at "is"); (case k5 => walk_at "is"); (case k6 => walk_at "is"); (case k7 => walk_at "is"); (case k8 => first | rfl | k_handed | assumption)))
  k_with "setAttr ref" => ((rename StC _ _ _ _ _ _ _ _ _ _ _ => stz); (rename EntsAre _ _ => ez); k_dflt (refine' setA stz ?k1 ?k2 ez ?k4 ?k5 ?k6 ?k7 ?k8 ?_; (case k1 => walk_at "S"); (case k2 => walk_at "UFF"); (case k4 => exact Nat.le_of_ble_eq_true rfl); (case k5 => walk_at "is"); (case k6 => walk_at "is"); (case k7 => walk_at "is"); (case k8 => walk_at "is")); clear stz; clear ez; intro _ _ _ _ _)
  k_with "exec Assign" => (with_reducible refine plainObj_wpAny_Assign_Attribute ?_ ?_; rotate_left; with_unfolding_all rfl)
  k_with "callWith ref" => (k_dflt (first
  | (refine' callF ?k1 ?k2 ?_; (case k1 => assumption); (case k2 => walk_at "is"))
  | (refine' callF0 ?k1 ?k2 ?_; (case k1 => assumption); (case k2 => walk_at "is"))))
  k_with "And" => ((with_reducible show Frag.In _ _ ∧ _); refine ⟨StC.K (by assumption), ?_⟩; try dsimp only [List.nil_append, List.cons_append])
  k_with "subscriptTail Name Slice ref ref" => ((rename StC _ _ _ _ _ _ _ _ _ _ _ => stz); k_dflt (first
  | (refine' sliceL stz ?k1 ?k2 .none (.int _ _) ?k3 (pick_upto ?k4) ?_; (case k1 => walk_at "H"); (case k2 => first | assumption | exact LO.lst _ _); (case k3 => first | with_reducible assumption | (simp only [sizeLine_eq]; omega)); (case k4 => decide))
  | (refine' sliceL stz ?k1 ?k2 (.int _ _) .none ?k3 (pick_from ?k4) ?_; (case k1 => walk_at "H"); (case k2 => first | assumption | exact LO.lst _ _); (case k3 => first | with_reducible assumption | (simp only [sizeLine_eq]; omega)); (case k4 => decide))); clear stz; intro _ _ _ _ _ _)
  k_with "subscriptTail" => (k_dflt (first
  | (refine' listTailI ?k1 ?k2 ?k3 ?k4 ?k5 ?k6 ?_; (case k1 => walk_at "H"); (case k2 => first | assumption | exact LO.lst _ _); (case k3 => assumption); (case k4 => first | with_reducible assumption | omega | decide); (case k5 => first | with_reducible assumption | omega | decide); (case k6 => first | with_reducible assumption | omega | decide); intro _)
  | (refine' listTail ?k1 ?k2 ?k3 ?k4 ?k5 ?_; (case k1 => walk_at "H"); (case k2 => first | assumption | exact LO.lst _ _); (case k3 => first | with_reducible assumption | omega | decide); (case k4 => first | with_reducible assumption | omega | decide); (case k5 => first | assumption | rfl))
  | (refine' tupTail ?k1 ?k2 ?k3 ?k4 ?k5 ?_; (case k1 => walk_at "H"); (case k2 => first | assumption | exact TO.tup _ _); (case k3 => first | with_reducible assumption | omega | decide); (case k4 => first | with_reducible assumption | omega | decide); (case k5 => first | assumption | rfl))
  | (refine' dictTail ?k1 ?k2 ?k3 ?_; (case k1 => walk_at "H"); (case k2 => assumption); (case k3 => assumption))))
  k_with "call builtin:len" => ((with_reducible show wpAny _ _ (call (Value.builtin "len") [Value.ref _]) _ _ _); k_dflt (refine' lenL ?k1 ?k2 ?k3 ?_; (case k1 => walk_at "H"); (case k2 => first | assumption | exact LO.lst _ _); (case k3 => first | with_reducible assumption | omega)); intro _ _ e'; (first | subst e' | (rw [e']; clear e')))
  k_with "call builtin:sum" => ((rename StC _ _ _ _ _ _ _ _ _ _ _ => stz); k_dflt (refine' sumL stz ?k0 ?k1 ?k2 ?k3 ?_; (case k0 => exact Rm.hh (by assumption)); (case k1 => walk_at "H"); (case k2 => first | assumption | exact LO.lst _ _); (case k3 => assumption)); clear stz; intro _ _ _)
  k_with "call builtin:dict.get" => (k_dflt (first
  | (refine' dictGet1S ?k1 ?k2 ?k3 ?k4 ?_; (case k1 => walk_at "H"); (case k2 => assumption); (case k3 => assumption); (case k4 => assumption))
  | (refine' dictGet1N ?k1 ?k2 ?k3 ?k4 ?_; (case k1 => walk_at "H"); (case k2 => assumption); (case k3 => assumption); (case k4 => assumption))
  | (refine' dictGet1 ?k1 ?k2 ?k3 ?_; (case k1 => walk_at "H"); (case k2 => assumption); (case k3 => assumption))
  | (refine' dictGet2 ?k1 ?k2 ?k3 ?_; (case k1 => walk_at "H"); (case k2 => assumption); (case k3 => assumption))))
  k_with "compareOp In int ref" => (k_dflt (refine' dictIn ?k1 ?k2 ?k3 ?_; (case k1 => walk_at "H"); (case k2 => assumption); (case k3 => assumption)))
  k_with "compareOp NotIn int ref" => (k_dflt (refine' dictNotIn ?k1 ?k2 ?k3 ?_; (case k1 => walk_at "H"); (case k2 => assumption); (case k3 => assumption)))
  k_with "setItem ref int" => ((rename StC _ _ _ _ _ _ _ _ _ _ _ => stz); k_dflt (first
  | (refine' setItemM stz ?k1 ?k2 ?k3 ?k4 ?k5 ?_; (case k1 => walk_at "UF"); (case k2 => first | assumption | exact LO.lst _ _); (case k3 => first | with_reducible assumption | omega | decide); (case k4 => first | with_reducible assumption | omega | decide); (case k5 => first | with_reducible assumption | omega | decide | (simp; done) | (simp; omega)))
  | (refine' dictSet stz ?k1 ?k2 ?k3 ?_; (case k1 => walk_at "UF"); (case k2 => assumption); (case k3 => first | with_reducible assumption | (simp only [sizeLine_eq]; omega)))); clear stz; intro _ _ _ _)
  k_with "call builtin:dict.pop" => ((rename StC _ _ _ _ _ _ _ _ _ _ _ => stz); k_dflt (refine' dictPop stz ?k1 ?k2 ?k3 ?k4 ?_; (case k1 => walk_at "UF"); (case k2 => assumption); (case k3 => first | with_reducible assumption | (simp only [sizeLine_eq]; omega)); (case k4 => assumption)); clear stz; intro _ _ _ _)
  k_with "execs cons" => ((with_reducible refine execsH ?_); first | ((fail_if_success clear hk1); intro qk1 hk1) | ((fail_if_success clear hk2); intro qk2 hk2) | ((fail_if_success clear hk3); intro qk3 hk3) | ((fail_if_success clear hk4); intro qk4 hk4) | ((fail_if_success clear hk5); intro qk5 hk5) | ((fail_if_success clear hk6); intro qk6 hk6) | ((fail_if_success clear hk7); intro qk7 hk7) | ((fail_if_success clear hk8); intro qk8 hk8) | ((fail_if_success clear hk9); intro qk9 hk9))
  k_with "Hid" => ((rename HidK _ _ _ => hk9); (rename (Flow → Shared → Prop) => qk9); (first | refine HidK.next hk9 ?_ | refine HidK.ret hk9 ?_ | refine HidK.brk hk9 ?_ | refine HidK.cnt hk9 ?_); clear hk9 qk9)
  k_with "eval Attribute Subscript" => (refine Attribute_any_ ?_)
  k_with "eval Attribute Call" => (refine Attribute_any_ ?_)
  trivial


/-! CAt -/
noncomputable def lawAt (ns : List Int) (k m : Int) : Int := if k < (ns.length : Int) then (ns.getD k.toNat 0).fmod m else ((k * (k + 1)).fdiv 2 + (ns.take 60).sum).fmod m
theorem lawAt_bound (ns : List Int) (k : Int) {m : Int} (hm : 0 < m) : 0 ≤ lawAt ns k m ∧ lawAt ns k m < m := by
  unfold lawAt
  have h : ∀ x : Int, 0 ≤ x.fmod m ∧ x.fmod m < m := fun x => ⟨Int.fmod_nonneg_of_pos _ hm, Int.fmod_lt_of_pos _ hm⟩
  split <;> exact h _
section
variable {prog : Program} {w : World} {G : Heap} {g : Array GenState} {o : OsState} {A : Around} {E : Value → Shared → Prop} {s : Shared} {S : PM}
theorem c_at {Q : Value → Shared → Prop} {l : Addr} {vs : List Value} {ns : List Int} {k m : Int} {t u : Tok} (P : Pre (cx w G g o) S s) (hA : Rm A 3) (hl : ∃ lo, S l = some lo ∧ LO lo vs) (hi : IntsAre vs ns) (hn : ns.length ≤ 63) (h0 : 0 ≤ k) (h1 : k < 100) (hm : 0 < m) (hm2 : m < 1000)
   (hQ : ∀ S' s' t, Post (cx w G g o) [] S s S' s' → Q (.int (lawAt ns k m) t) s') : wpAny (model prog w) A (call (.ref 537) [.ref l, .int k t, .int m u]) Q E s := by
  refine call_ret ?_
  refine' enter (binds := [("script", Value.ref l), ("k", Value.int k t), ("many", Value.int m u)]) P hA ?ho ?hcd ?hbind ?hloc ?hcell ?hco ?hgen ?hk ?_
  case ho => walk_at "is"
  case hcd => walk_at "is"
  case hbind => first | exact BindsTo.of_eq rfl | exact binds_K (K := hk.heap_1 w.params) (PreC.K (by first | exact P | exact St.pre P)) rfl (by walk_at "is") rfl rfl rfl
  case hloc => exact locs rfl
  case hcell => decide
  case hco => rfl
  case hgen => rfl
  case hk => rfl
  intro A' L n₀ B s' hA' st fin
  obtain ⟨lo, hl, hlo⟩ := hl
  have hlen := hi.length
  have hfit : vs.length < 2 ^ 62 := by omega
  have hfit2 : k < 2 ^ 63 := by omega
  have hm0 : m ≠ 0 := by omega
  have hi60 : IntsAre (vs.take (Int.toNat 60)) (ns.take 60) := IntsAre.taken hi 60
  dsimp only
  repeat' (first | walk1 | (dsimp only; walk1))
  · rename_i t1 s1 q1 _
    have e : lawAt ns k m = (ns.getD k.toNat 0).fmod m := by unfold lawAt; rw [if_pos (by omega)]
    rw [e] at hQ
    exact hQ _ _ _ (fin _ _ _ _ st (Le.refl _))
  · rename_i t1 s1 q1 r1 S1 s2 le1 _ t2 s3 st1
    have e : lawAt ns k m = ((k * (k + 1)).fdiv 2 + (ns.take 60).sum).fmod m := by unfold lawAt; rw [if_neg (by omega)]
    rw [e] at hQ
    exact hQ _ _ _ (fin _ _ _ _ st1 le1)
end

/-! CBits -/
noncomputable def tb (m : Int) (t : Nat) : Bool := m / 2 ^ t % 2 == 1
noncomputable def bitsTo (n : Nat) (m : Int) : List Int := ((List.range n).filter (tb m)).map fun (t : Nat) => (t : Int)
noncomputable def bitsOf (m : Int) : List Int := bitsTo 7 m
theorem bitsTo_succ (n : Nat) (m : Int) : bitsTo (n + 1) m = bitsTo n m ++ (if tb m n then [(n : Int)] else []) := by
  unfold bitsTo
  rw [List.range_succ, List.filter_append, List.map_append]
  congr 1
  cases h : tb m n <;> simp [h]
theorem half (m : Int) (i : Nat) : (m / 2 ^ i) / 2 = m / 2 ^ (i + 1) := by
  rw [Int.pow_succ, Int.ediv_ediv_of_nonneg (Int.le_of_lt (Int.pow_pos (by decide)))]
theorem bitsTo_end (m : Int) (n : Nat) (h : m / 2 ^ n = 0) (k : Nat) : bitsTo (n + k) m = bitsTo n m := by
  have hz : ∀ k : Nat, m / 2 ^ (n + k) = 0 := fun k => by
    induction k with
    | zero => exact h
    | succ k ih => rw [← Nat.add_assoc, ← half, ih]; rfl
  induction k with
  | zero => rfl
  | succ k ih =>
    have e : tb m (n + k) = false := by
      unfold tb
      rw [hz]; rfl
    rw [← Nat.add_assoc, bitsTo_succ, ih, e]
    simp
theorem bits_last (m : Int) (i : Nat) (hi : i ≤ 7) (h0 : 0 ≤ m) (h : ¬ m / 2 ^ i > 0) : bitsTo i m = bitsOf m := by
  have h1 : 0 ≤ m / 2 ^ i := Int.ediv_nonneg h0 (Int.le_of_lt (Int.pow_pos (by decide)))
  have e := bitsTo_end m i (by omega) (7 - i)
  rw [Nat.add_sub_cancel' hi] at e
  exact e.symm
theorem bits_lt (m : Int) (i : Nat) (h1 : m < 128) (hi : i ≤ 7) (h : 0 < m / 2 ^ i) : i < 7 := by
  rcases Nat.lt_or_ge i 7 with q | q
  · exact q
  · have : i = 7 := Nat.le_antisymm hi q
    subst this
    omega

section
variable {prog : Program} {w : World} {G : Heap} {g : Array GenState} {o : OsState} {A : Around} {E : Value → Shared → Prop} {s : Shared} {S : PM}
theorem c_bits {Q : Value → Shared → Prop} {m : Int} {t : Tok} (P : Pre (cx w G g o) S s) (hA : Rm A 3) (h0 : 0 ≤ m) (h1 : m < 128) 
   (hQ : ∀ a vs n S' s', Post (cx w G g o) [] S s S' s' → S' a = some (lst vs n) → IntsAre vs (bitsOf m) → Q (.ref a) s') : wpAny (model prog w) A (call (.ref 80) [.int m t]) Q E s := by
  refine call_ret ?_
  refine' enter (binds := [("mask", Value.int m t)]) P hA ?ho ?hcd ?hbind ?hloc ?hcell ?hco ?hgen ?hk ?_
  case ho => walk_at "is"
  case hcd => walk_at "is"
  case hbind => first | exact BindsTo.of_eq rfl | exact binds_K (K := hk.heap_1 w.params) (PreC.K (by first | exact P | exact St.pre P)) rfl (by walk_at "is") rfl rfl rfl
  case hloc => exact locs rfl
  case hcell => decide
  case hco => rfl
  case hgen => rfl
  case hk => rfl
  intro A' L n₀ B s' hA' st fin
  dsimp only
  repeat walk1
  rename_i a s1 ha s2 s3 s4 st
  refine while_inv (I := fun n s => ∃ (i : Nat) (vs : List Value) (k : Nat) (ρ : Str → Option Value), 
     St (cx w G g o) S n₀ B S [(a, lst vs k)] L ρ s ∧ IntsAre vs (bitsTo i m) ∧ ρ "found" = some (.ref a) ∧ IA ρ "at" i ∧ IA ρ "left" (m / 2 ^ i) ∧ (m / 2 ^ i).toNat = n ∧ i ≤ 7) m.toNat ?_ ?_
  · refine ⟨0, [], 0, _, st, .nil, rfl, ⟨_, rfl⟩, ⟨t, ?_⟩, ?_, by omega⟩
    · simp
      rfl
    · simp
  · rintro n s ⟨i, vs, k, ρ, st, hi, r1, ⟨t1, r2⟩, ⟨t2, r3⟩, r4, hi7⟩
    have hz : vs.length ≤ sizeLine := by
      rw [hi.length]
      unfold bitsTo
      rw [List.length_map]
      refine Nat.le_trans (List.length_filter_le _ _) ?_
      rw [List.length_range, sizeLine_eq]; exact Nat.le_trans hi7 (Nat.le_of_ble_eq_true rfl)
    have hpos : (0 : Int) < 2 ^ i := Int.pow_pos (by decide)
    have e2 : (m / 2 ^ i).fdiv (2 ^ Int.toNat 1) = m / 2 ^ (i + 1) := by
      rw [show (2 : Int) ^ Int.toNat 1 = 2 from rfl, Int.fdiv_eq_ediv_of_nonneg _ (by decide), half]
    have e3 : 0 < m / 2 ^ i → (m / 2 ^ (i + 1)).toNat < n := fun q => by
      rw [← half, ← r4]
      have h2 := Int.ediv_lt_self_of_pos_of_ne_one q (show (2 : Int) ≠ 1 by decide)
      exact (Int.toNat_lt_toNat q).mpr h2
    have bt : ∀ b : Bool, tb m i = b → bitsTo (i + 1) m = bitsTo i m ++ (if b then [(i : Int)] else []) := fun b e => by rw [bitsTo_succ, e]
    repeat' (first | walk1 | (dsimp only; walk1))
    · rename_i q1 q2 _ _ _ st
      have ht : tb m i = true := by
        unfold tb
        rw [bitAnd_m1] at q2
        simpa using q2
      refine ⟨.inl rfl, _, e3 q1, i + 1, _, _, _, st, ?_, r1, ⟨_, rfl⟩, ⟨_, by rw [← e2]; rfl⟩, rfl, bits_lt m i h1 hi7 q1⟩
      rw [bt true ht]; exact hi.append (.cons _ _ .nil)
    · rename_i q1 q2 _ _ st
      have ht : tb m i = false := by
        unfold tb
        rw [bitAnd_m1] at q2
        simpa using q2
      refine ⟨.inl rfl, _, e3 q1, i + 1, _, _, _, st, ?_, r1, ⟨_, rfl⟩, ⟨_, by rw [← e2]; rfl⟩, rfl, bits_lt m i h1 hi7 q1⟩
      rw [bt false ht]; simpa using hi
    · rename_i q1
      obtain ⟨S', le, hS, st⟩ := StC.freezeTo st ha
      exact hQ a vs k S' _ (fin _ _ _ _ st le) hS (by rw [← bits_last m i hi7 h0 q1]; exact hi)
end

/-! CConf -/
section
variable {prog : Program} {w : World} {G : Heap} {g : Array GenState} {o : OsState} {A : Around} {E : Value → Shared → Prop} {s : Shared} {S : PM}
theorem c_conflict {Q : Value → Shared → Prop} {v1 v2 v3 v4 v5 : Value} (P : Pre (cx w G g o) S s) (hA : Rm A 3)
   (hQ : ∀ x S' s', Post (cx w G g o) [] S s S' s' → Inst S' x 202 [("state", v1), ("terminal", v2), ("way", v3), ("rules", v4), ("chosen", v5)] → Q (.ref x) s') : wpAny (model prog w) A (call (.ref 202) [v1, v2, v3, v4, v5]) Q E s := by
  refine call_ret ?_
  refine' enterI (binds := fun self => [("self", Value.ref self), ("state", v1), ("terminal", v2), ("way", v3), ("rules", v4), ("chosen", v5)]) P hA ?hm ?hi ?hf ?ho ?hcd ?hbind ?hloc ?hcell ?hco ?hgen ?hk ?_
  case hm => walk_at "is"
  case hi => walk_at "is"
  case hf => walk_at "is"
  case ho => walk_at "is"
  case hcd => walk_at "is"
  case hbind => intro x s' X; first | exact BindsTo.of_eq rfl | exact binds_K (K := hk.heap_1 w.params) X rfl (by walk_at "is") rfl rfl rfl
  case hloc => intro x; exact locs rfl
  case hcell => decide
  case hco => rfl
  case hgen => rfl
  case hk => rfl
  intro A' L n₀ B s' x dx hA' hx hx2 hdx st fin
  have ez : EntsAre [] [] := .nil
  (try dsimp only)
  repeat' (first | walk1 | (dsimp only; walk1))
  rename_i es1 n1 s1 ez1 st1
  obtain ⟨S', le, hS, st2⟩ := StC.freezeTo st1 hdx
  exact ⟨rfl, hQ x S' _ (fin _ _ _ _ st2 ((le_put hx).trans le)) ⟨dx, es1, n1, le _ _ (put_self _ _ _), hS, ez1⟩⟩
end

/-! CSettle -/
inductive Way where | red | shf | bar
noncomputable abbrev Lev := Int → Option (Int × Str)
noncomputable def way (lev : Lev) (lr t : Int) : Option Way := match lev lr, lev t with
  | some (a, _), some (b, sd) => if a > b then some .red else if a < b then some .shf else if (sd == "left") = true then some .red else if (sd == "right") = true then some .shf else if (sd == "nonassoc") = true then some .bar else none
  | _, _ => none
noncomputable def wayV (t : Tok) : Option Way → Value
  | none => .none
  | some .red => .str "reduce" t
  | some .shf => .str "shift" t
  | some .bar => .str "bar" t

/-- a name of an object that holds an int -/
noncomputable def AI (xs : List (Str × Value)) (x : Str) (i : Int) : Prop := ∃ t, alook x xs = some (.int i t)
/-- a rule's object -/
inductive RuleAt (S : PM) (a : Addr) (lr : Int) : Prop where
  | mk : ∀ (xs : List (Str × Value)) (lf bf : Int) (rt : Addr) (rv : List Value) (n : Nat), Inst S a 352 xs → AI xs "left" lf → alook "right" xs = some (.ref rt) → S rt = some (tup rv n) → rv.length < 100 → AI xs "before" bf → AI xs "level_of" lr → RuleAt S a lr
/-- the levels' dict -/
inductive LevAt (prog : Program) (w : World) (S : PM) (d : Addr) (lev : Lev) : Prop where
  | mk : ∀ o kvs, S d = some o → DI prog w o kvs → (d == sysModules) = false → (∀ t, match lev t with | none => valueAt kvs t = none | some (n, sd) => ∃ a t1 t2 e, valueAt kvs t = some (.ref a) ∧ S a = some (tup [.int n t1, .str sd t2] e)) → LevAt prog w S d lev
/-- the grammar's object, as far as it is read -/
inductive GramAt (prog : Program) (w : World) (S : PM) (gx : Addr) (lev : Lev) (lof : Nat → Int) (ex : Option Int) : Prop where
  | mk : ∀ (xs : List (Str × Value)) (dl rl nl : Addr) (ev : Value) (rvs : List Value) (n : Nat), Inst S gx 434 xs → alook "levels" xs = some (.ref dl) → alook "rules" xs = some (.ref rl) → alook "names" xs = some (.ref nl) → AI xs "terminal_count" 7 → alook "expect" xs = some ev → (match ex with | none => ev = Value.none | some i => ∃ t, ev = Value.int i t) → LevAt prog w S dl lev → S rl = some (lst rvs n) → rvs.length = 5 → (∀ r, r < 5 → ∃ a, rvs[r]? = some (.ref a) ∧ RuleAt S a (lof r)) → GramAt prog w S gx lev lof ex

theorem RuleAt.mono {S S' : PM} {a : Addr} {lr : Int} (h : RuleAt S a lr) (l : Le S S') : RuleAt S' a lr := by
  obtain ⟨xs, lf, bf, rt, rv, n, i, h1, h2, h3, h4, h5, h6⟩ := id h
  exact ⟨xs, lf, bf, rt, rv, n, i.mono l, h1, h2, l _ _ h3, h4, h5, h6⟩
theorem LevAt.mono {prog : Program} {w : World} {S S' : PM} {d : Addr} {lev : Lev} (h : LevAt prog w S d lev) (l : Le S S') : LevAt prog w S' d lev := by
  obtain ⟨o, kvs, h1, h2, h3, h4⟩ := id h
  refine ⟨o, kvs, l _ _ h1, h2, h3, fun t => ?_⟩
  have := h4 t
  split at this
  · exact this
  · obtain ⟨a, t1, t2, e, q1, q2⟩ := this
    exact ⟨a, t1, t2, e, q1, l _ _ q2⟩
theorem GramAt.mono {prog : Program} {w : World} {S S' : PM} {gx : Addr} {lev : Lev} {lof : Nat → Int} {ex : Option Int} (h : GramAt prog w S gx lev lof ex) (l : Le S S') : GramAt prog w S' gx lev lof ex := by
  obtain ⟨xs, dl, rl, nl, ev, rvs, n, i, h1, h2, h3, h4, h5, h6, h7, h8, h9, h10⟩ := id h
  exact ⟨xs, dl, rl, nl, ev, rvs, n, i.mono l, h1, h2, h3, h4, h5, h6, h7.mono l, l _ _ h8, h9, fun r hr => let ⟨a, q1, q2⟩ := h10 r hr; ⟨a, q1, q2.mono l⟩⟩

section
variable {prog : Program} {w : World} {G : Heap} {g : Array GenState} {o : OsState} {A : Around} {E : Value → Shared → Prop} {s : Shared} {S : PM}
theorem c_settle {Q : Value → Shared → Prop} {gx : Addr} {lev : Lev} {lof : Nat → Int} {ex : Option Int} {r : Nat} {t : Int} {t1 t2 : Tok} (P : Pre (cx w G g o) S s) (hA : Rm A 3) (hg : GramAt prog w S gx lev lof ex) (hr : r < 5)
   (hQ : ∀ S' s' u, Post (cx w G g o) [] S s S' s' → Q (wayV u (way lev (lof r) t)) s') : wpAny (model prog w) A (call (.ref 253) [.ref gx, .int r t1, .int t t2]) Q E s := by
  refine call_ret ?_
  refine' enter (binds := [("grammar", Value.ref gx), ("rule", Value.int r t1), ("terminal", Value.int t t2)]) P hA ?ho ?hcd ?hbind ?hloc ?hcell ?hco ?hgen ?hk ?_
  case ho => walk_at "is"
  case hcd => walk_at "is"
  case hbind => first | exact BindsTo.of_eq rfl | exact binds_K (K := hk.heap_1 w.params) (PreC.K (by first | exact P | exact St.pre P)) rfl (by walk_at "is") rfl rfl rfl
  case hloc => exact locs rfl
  case hcell => decide
  case hco => rfl
  case hgen => rfl
  case hk => rfl
  intro A' L n₀ B s' hA' st fin
  obtain ⟨xs, dl, rl, nl, ev, rvs, n, i, h1, h2, h3, ⟨tk, h4⟩, h5, h6, h7, h8, h9, h10⟩ := id hg
  obtain ⟨a, q1, q2⟩ := h10 r hr
  obtain ⟨xr, lf, bf, rt, rv, nr, ir, _, _, _, _, _, tl, hl⟩ := id q2
  obtain ⟨ol, kvs, hol, hdi, hdm, hlev⟩ := id h7
  have hrn : rvs[(Int.ofNat r).toNat]? = some (.ref a) := q1
  have hr0 : (0 : Int) ≤ r := by omega
  have hr1 : (r : Int) < 2 ^ 63 := by omega
  have l1 := hlev (lof r)
  have l2 := hlev t
  clear hlev h6 h10
  cases e1 : lev (lof r) with
  | none =>
    rw [e1] at l1
    have e : way lev (lof r) t = none := by unfold way; rw [e1]
    rw [e] at hQ
    dsimp only at l1
    cases e2 : lev t with
    | none =>
      rw [e2] at l2
      dsimp only at l2 ⊢
      repeat' (first | walk1 | (dsimp only; walk1))
      exact hQ _ _ 0 (fin _ _ _ _ (by assumption) (Le.refl _))
    | some p =>
      obtain ⟨b, sd⟩ := p
      rw [e2] at l2
      obtain ⟨ab, u1, u2, e', q3, q4⟩ := l2
      dsimp only
      repeat' (first | walk1 | (dsimp only; walk1))
      exact hQ _ _ 0 (fin _ _ _ _ (by assumption) (Le.refl _))
  | some p =>
    obtain ⟨a1, sd1⟩ := p
    rw [e1] at l1
    obtain ⟨aa, u3, u4, e'', q5, q6⟩ := l1
    cases e2 : lev t with
    | none =>
      have e : way lev (lof r) t = none := by unfold way; rw [e1, e2]
      rw [e] at hQ
      rw [e2] at l2
      dsimp only at l2 ⊢
      repeat' (first | walk1 | (dsimp only; walk1))
      exact hQ _ _ 0 (fin _ _ _ _ (by assumption) (Le.refl _))
    | some p =>
      obtain ⟨b, sd⟩ := p
      rw [e2] at l2
      obtain ⟨ab, u1, u2, e', q3, q4⟩ := l2
      have e : way lev (lof r) t = if a1 > b then some .red else if a1 < b then some .shf else if (sd == "left") = true then some .red else if (sd == "right") = true then some .shf else if (sd == "nonassoc") = true then some .bar else none := by
        unfold way; rw [e1, e2]
      rw [e] at hQ
      clear e e1 e2 hg P q2 h7
      dsimp only
      repeat' (first | walk1 | (dsimp only; walk1))
      · rename_i st q1
        rw [if_pos q1] at hQ
        exact hQ _ _ _ (fin _ _ _ _ st (Le.refl _))
      · rename_i st q1 q2
        rw [if_neg q1, if_pos q2] at hQ
        exact hQ _ _ _ (fin _ _ _ _ st (Le.refl _))
      · rename_i st q1 q2 q3
        rw [if_neg q1, if_neg q2, if_pos q3] at hQ
        exact hQ _ _ _ (fin _ _ _ _ st (Le.refl _))
      · rename_i st q1 q2 q3 q4
        rw [if_neg q1, if_neg q2, if_neg (by rw [q3]; exact Bool.false_ne_true), if_pos q4] at hQ
        exact hQ _ _ _ (fin _ _ _ _ st (Le.refl _))
      · rename_i st q1 q2 q3 q4 q5
        rw [if_neg q1, if_neg q2, if_neg (by rw [q3]; exact Bool.false_ne_true), if_neg (by rw [q4]; exact Bool.false_ne_true), if_pos q5] at hQ
        exact hQ _ _ _ (fin _ _ _ _ st (Le.refl _))
      · rename_i st q1 q2 q3 q4 q5
        rw [if_neg q1, if_neg q2, if_neg (by rw [q3]; exact Bool.false_ne_true), if_neg (by rw [q4]; exact Bool.false_ne_true), if_neg (by rw [q5]; exact Bool.false_ne_true)] at hQ
        exact hQ _ _ 0 (fin _ _ _ _ st (Le.refl _))
end

/-! L2 -/

theorem words_L2 : True := by
  k_with "room" => exact Rm.le (by assumption) (Nat.le_of_ble_eq_true rfl)
  k_with "call ref" => ((show wpAny _ _ (call (Value.ref 202) _) _ _ _); (rename StC _ _ _ _ _ _ _ _ _ _ _ => stz); k_dflt (refine' c_conflict (St.pre stz) ?r ?_; (case r => walk_at "room")); intro _ _ _ P' _; have _ := StC.call stz P'; have _ := PostC.le P'; clear stz P')
  trivial


/-! COne -/
noncomputable def ACC : Int := 1048576
noncomputable def BAR : Int := -1048576
/-- the conflict that settle_one tells -/
noncomputable def ConfAt (S : PM) (x : Addr) (n t r ch : Int) : Prop := ∃ t1 t2 t3 t4 t5 q e, Inst S x 202 [("state", .int n t1), ("terminal", .int t t2), ("way", .str "shift/reduce" t3), ("rules", .ref q), ("chosen", .int ch t4)] ∧ S q = some (tup [.int r t5] e)
theorem ConfAt.of {S : PM} {x q : Addr} {n t r ch : Int} {t1 t2 t3 t4 t5 : Tok} {e : Nat} (i : Inst S x 202 [("state", .int n t1), ("terminal", .int t t2), ("way", .str "shift/reduce" t3), ("rules", .ref q), ("chosen", .int ch t4)]) (h : S q = some (tup [.int r t5] e)) : ConfAt S x n t r ch := ⟨_, _, _, _, _, _, _, i, h⟩
/-- a row maker's names -/
inductive MkAt (es : List DictEntry) (gx sh gt lk se : Addr) (n b : Int) : Prop where
  | mk : ∀ t1 t2, EntsAre es [("grammar", .ref gx), ("number", .int n t1), ("shifts", .ref sh), ("gotos", .ref gt), ("looks", .ref lk), ("barred", .int b t2), ("settled", .ref se)] → MkAt es gx sh gt lk se n b
noncomputable def oneShift (w : Way) (kvs : List (Int × Value)) (t : Int) : List (Int × Value) := match w with | .shf => kvs | _ => PySem.without kvs t
noncomputable def oneMask (w : Way) (m t : Int) : Int := match w with | .red => m | _ => Builtin.bitAnd m (Builtin.bitNot (1 * 2 ^ t.toNat))
noncomputable def oneBar (w : Way) (b t : Int) : Int := match w with | .bar => Builtin.bitOr b (1 * 2 ^ t.toNat) | _ => b
noncomputable def oneChosen (w : Way) (r c : Int) : Int := match w with | .red => -r | .bar => BAR | .shf => c
section
variable {prog : Program} {w : World} {G : Heap} {g : Array GenState} {o : OsState} {A : Around} {E : Value → Shared → Prop} {s : Shared} {B : Kp} {S₀ S : PM} {n₀ : Nat} {L : Addr} {ρ : Str → Option Value}
theorem c_one {Q : Value → Shared → Prop} {mx dx gx sh gt lk se l : Addr} {es : List DictEntry} {ne k : Nat} {osh ol : Obj} {kvs : List (Int × Value)} {cs : List Value} {pre post : List (Addr × Obj)} {n b r m t c : Int} {t1 t2 t3 t4 tw : Tok} {wy : Way}
   (P : St (cx w G g o) S₀ n₀ B S ((dx, dictOf es ne) :: (sh, osh) :: (se, lst cs k) :: (pre ++ (l, ol) :: post)) L ρ s) (hA : Rm A 6)
   (hx : S mx = some (instObj 296 dx)) (hm : MkAt es gx sh gt lk se n b) (hd : DI prog w osh kvs) (hkz : kvs.length ≤ 100) (hcz : cs.length ≤ 100) (hc : valueAt kvs t = some (.int c t4)) (hl : LO ol [.int r t1, .int m t2])
   (h0 : 0 ≤ t) (h1 : t < 7)
   (hQ : ∀ S' s' es' ne' osh' ol' ca, Le S S' → St (cx w G g o) S₀ n₀ B S' ((dx, dictOf es' ne') :: (sh, osh') :: (se, lst (cs ++ [.ref ca]) (k + 1)) :: (pre ++ (l, ol') :: post)) L ρ s' →
     MkAt es' gx sh gt lk se n (oneBar wy b t) → DI prog w osh' (oneShift wy kvs t) → (∃ t1 t2, LO ol' [.int r t1, .int (oneMask wy m t) t2]) → ConfAt S' ca n t r (oneChosen wy r c) → Q .none s') :
   wpAny (model prog w) A (call (.ref 281) [.ref mx, .ref l, .int t t3, wayV tw (some wy)]) Q E s := by
  refine call_ret ?_
  refine' enterM (binds := [("self", Value.ref mx), ("look", Value.ref l), ("terminal", Value.int t t3), ("way", wayV tw (some wy))]) P hA ?ho ?hcd ?hbind ?hloc ?hcell ?hco ?hgen ?hk ?_
  case ho => walk_at "is"
  case hcd => walk_at "is"
  case hbind => first | exact BindsTo.of_eq rfl | exact binds_K (K := hk.heap_1 w.params) (PreC.K (by first | exact P | exact St.pre P)) rfl (by walk_at "is") rfl rfl rfl
  case hloc => exact locs rfl
  case hcell => decide
  case hco => rfl
  case hgen => rfl
  case hk => rfl
  intro A' L' n₁ B' s' hA' st fin
  obtain ⟨u1, u2, ez⟩ := id hm
  clear hm P
  cases wy with
  | red =>
    dsimp only [wayV] at st
    (try dsimp only)
    repeat' (first | walk1 | (dsimp only; walk1))
    rename StC _ _ _ _ _ _ _ _ _ _ _ => stz
    refine' hQ _ _ _ _ _ _ _ ?_ (fin _ _ _ _ stz ?_ (by simp)) ⟨_, _, ez⟩ (by assumption) ⟨_, _, hl⟩ (ConfAt.of ?i ?h)
    case i => assumption
    case h => walk_at "S"
    all_goals walk_at "le"
  | shf =>
    dsimp only [wayV] at st
    (try dsimp only)
    repeat' (first | walk1 | (dsimp only; walk1))
    rename StC _ _ _ _ _ _ _ _ _ _ _ => stz
    refine' hQ _ _ _ _ _ _ _ ?_ (fin _ _ _ _ stz ?_ (by simp)) ⟨_, _, ez⟩ hd ⟨_, _, by assumption⟩ (ConfAt.of ?i ?h)
    case i => assumption
    case h => walk_at "S"
    all_goals walk_at "le"
  | bar =>
    dsimp only [wayV] at st
    (try dsimp only)
    repeat' (first | walk1 | (dsimp only; walk1))
    rename StC _ _ _ _ _ _ _ _ _ _ _ => stz
    refine' hQ _ _ _ _ _ _ _ ?_ (fin _ _ _ _ stz ?_ (by simp)) ⟨_, _, by assumption⟩ (by assumption) ⟨_, _, by assumption⟩ (ConfAt.of ?i ?h)
    case i => assumption
    case h => walk_at "S"
    all_goals walk_at "le"
end

/-! P1 -/
structure MkSt where
  sh : List (Int × Int)
  lk : List (Int × Int)
  bar : Int
  se : List Cf
noncomputable def oneShI (w : Way) (m : List (Int × Int)) (t : Int) : List (Int × Int) := match w with | .shf => m | _ => outI m t
noncomputable def step1 (lev : Lev) (lof : Nat → Int) (n : Int) (i : Nat) (st : MkSt) (t : Int) : MkSt :=
  match atI st.sh t, st.lk[i]? with
  | some c, some (r, m) => match way lev (lof r.toNat) t with
    | none => st
    | some w => ⟨oneShI w st.sh t, st.lk.set i (r, oneMask w m t), oneBar w st.bar t, st.se ++ [⟨n, t, true, [r], oneChosen w r c⟩]⟩
  | _, _ => st
noncomputable def stepL (lev : Lev) (lof : Nat → Int) (n : Int) (st : MkSt) (i : Nat) : MkSt := match st.lk[i]? with | some (_, m) => (bitsOf m).foldl (step1 lev lof n i) st | none => st
noncomputable def stepAll (lev : Lev) (lof : Nat → Int) (n : Int) (st : MkSt) : MkSt := (List.range st.lk.length).foldl (stepL lev lof n) st

theorem bit_facts : ∀ m : Fin 128, ∀ t : Fin 7, let a := Builtin.bitAnd ((m.val : Nat) : Int) (Builtin.bitNot (1 * 2 ^ t.val)); let b := Builtin.bitOr ((m.val : Nat) : Int) (1 * 2 ^ t.val);
    (decide (0 ≤ a ∧ a < 128 ∧ 0 ≤ b ∧ b < 128) && (List.range 7).all fun u => (tb a u == (tb ((m.val : Nat) : Int) u && (u != t.val))) && (tb b u == (tb ((m.val : Nat) : Int) u || (u == t.val)))) = true := by decide +kernel
theorem bit_of {m t : Int} (h0 : 0 ≤ m) (h1 : m < 128) (t0 : 0 ≤ t) (t1 : t < 7) : let a := Builtin.bitAnd m (Builtin.bitNot (1 * 2 ^ t.toNat)); let b := Builtin.bitOr m (1 * 2 ^ t.toNat);
    (0 ≤ a ∧ a < 128 ∧ 0 ≤ b ∧ b < 128) ∧ ∀ u, u < 7 → (tb a u = (tb m u && (u != t.toNat))) ∧ (tb b u = (tb m u || (u == t.toNat))) := by
  have h := bit_facts ⟨m.toNat, by omega⟩ ⟨t.toNat, by omega⟩
  dsimp only at h ⊢
  rw [Int.toNat_of_nonneg h0, Bool.and_eq_true, decide_eq_true_eq, List.all_eq_true] at h
  refine ⟨h.1, fun u hu => ?_⟩
  have q := h.2 u (List.mem_range.mpr hu)
  rw [Bool.and_eq_true, beq_iff_eq, beq_iff_eq] at q
  exact q

theorem bit_test : ∀ m : Fin 128, ∀ t : Fin 7, ((Builtin.bitAnd ((m.val : Nat) : Int) (1 * 2 ^ t.val) != 0) == tb ((m.val : Nat) : Int) t.val) = true := by decide +kernel
theorem bit_is {m t : Int} (h0 : 0 ≤ m) (h1 : m < 128) (t0 : 0 ≤ t) (t1 : t < 7) : (Builtin.bitAnd m (1 * 2 ^ t.toNat) != 0) = tb m t.toNat := by
  have h := bit_test ⟨m.toNat, by omega⟩ ⟨t.toNat, by omega⟩
  dsimp only at h
  rw [Int.toNat_of_nonneg h0, beq_iff_eq] at h
  exact h
/-- what stays: masks in seven bits, sizes -/
structure MkOk (st₀ : MkSt) (k : Nat) (st : MkSt) : Prop where
  len : st.lk.length = st₀.lk.length
  rul : ∀ i : Nat, (st.lk[i]?).map (·.1) = (st₀.lk[i]?).map (·.1)
  msk : ∀ p ∈ st.lk, 0 ≤ p.1 ∧ p.1 < 5 ∧ 0 ≤ p.2 ∧ p.2 < 128
  bar : 0 ≤ st.bar ∧ st.bar < 128
  sh : st.sh.length ≤ 100
  se : st.se.length ≤ k
theorem MkOk.le {st₀ st : MkSt} {k k' : Nat} (h : MkOk st₀ k st) (l : k ≤ k') : MkOk st₀ k' st := { h with se := Nat.le_trans h.se l }
theorem MkOk.step {st₀ st : MkSt} {k : Nat} {lev : Lev} {lof : Nat → Int} {n t : Int} {i : Nat} (h : MkOk st₀ k st) (t0 : 0 ≤ t) (t1 : t < 7) : MkOk st₀ (k + 1) (step1 lev lof n i st t) := by
  unfold step1
  split
  · rename_i c r m e1 e2
    split
    · exact h.le (Nat.le_succ _)
    · rename_i wy _
      obtain ⟨r0, r1, m0, m1⟩ := h.msk _ (List.mem_of_getElem? e2)
      have hi : i < st.lk.length := (List.getElem?_eq_some_iff.mp e2).1
      dsimp only at r0 r1 m0 m1
      have bm := (bit_of m0 m1 t0 t1).1
      have bb := (bit_of h.bar.1 h.bar.2 t0 t1).1
      refine ⟨by simp [h.len], fun j => ?_, fun p hp => ?_, ?_, ?_, ?_⟩
      · rw [List.getElem?_set]
        split
        · rename_i q
          subst q
          rw [← h.rul, e2]; rfl
        · exact h.rul j
      · rcases List.mem_or_eq_of_mem_set hp with hp | rfl
        · exact h.msk p hp
        · refine ⟨r0, r1, ?_⟩
          cases wy
          · exact ⟨m0, m1⟩
          · exact ⟨bm.1, bm.2.1⟩
          · exact ⟨bm.1, bm.2.1⟩
      · cases wy
        · exact h.bar
        · exact h.bar
        · exact bb.2.2
      · cases wy
        · exact Nat.le_trans (outI_len _ _) h.sh
        · exact h.sh
        · exact Nat.le_trans (outI_len _ _) h.sh
      · rw [List.length_append]; exact Nat.succ_le_succ h.se
  · exact h.le (Nat.le_succ _)
theorem bits_mem {m t : Int} (h : t ∈ bitsOf m) : 0 ≤ t ∧ t < 7 ∧ tb m t.toNat = true := by
  unfold bitsOf bitsTo at h
  obtain ⟨a, ha, rfl⟩ := List.mem_map.mp h
  rw [List.mem_filter, List.mem_range] at ha
  exact ⟨by omega, by omega, by simpa using ha.2⟩
theorem bits_count (m : Int) : (bitsOf m).length ≤ 7 := by
  unfold bitsOf bitsTo
  rw [List.length_map]
  exact Nat.le_trans (List.length_filter_le _ _) (by rw [List.length_range]; exact Nat.le_refl _)
theorem MkOk.steps {st₀ st : MkSt} {k : Nat} {lev : Lev} {lof : Nat → Int} {n : Int} {i : Nat} (l : List Int) (hl : ∀ t ∈ l, 0 ≤ t ∧ t < 7) (h : MkOk st₀ k st) : MkOk st₀ (k + l.length) (l.foldl (step1 lev lof n i) st) := by
  induction l generalizing k st with
  | nil => exact h
  | cons t l ih =>
    have q := ih (fun u hu => hl u (.tail _ hu)) (h.step (lev := lev) (lof := lof) (n := n) (i := i) (hl t (.head _)).1 (hl t (.head _)).2)
    rw [List.foldl_cons, List.length_cons]
    exact q.le (by omega)
theorem MkOk.stepL {st₀ st : MkSt} {k : Nat} {lev : Lev} {lof : Nat → Int} {n : Int} {i : Nat} (h : MkOk st₀ k st) : MkOk st₀ (k + 7) (stepL lev lof n st i) := by
  unfold Mine.stepL
  split
  · rename_i m _
    exact (h.steps (bitsOf m) fun t ht => ⟨(bits_mem ht).1, (bits_mem ht).2.1⟩).le (by have := bits_count m; omega)
  · exact h.le (by omega)

/-! L3 -/
section
variable {prog : Program} {w : World} {A : Around} {E : Value → Shared → Prop} {s : Shared} {c : Cx} {B : Kp} {S₀ S S' : PM} {n₀ : Nat} {M M' : List (Addr × Obj)} {L : Addr} {ρ ρ' : Str → Option Value} {env : Env}
theorem dictInS {d : Addr} {o : Obj} {kvs : List (Int × Value)} {k : Int} {t : Tok} {v : Value} {Q : Value → Shared → Prop} (hg : s.heap.get? d = some o) (ho : DI prog w o kvs) (hd : (d == sysModules) = false) (hv : valueAt kvs k = some v)
    (h : Q (.bool true) { s with toks := s.toks + 1 }) : wpAny (model prog w) A (compareOp .In (.int k t) (.ref d)) Q E s := dictIn hg ho hd (by rw [hv]; exact h)
theorem dictInN {d : Addr} {o : Obj} {kvs : List (Int × Value)} {k : Int} {t : Tok} {Q : Value → Shared → Prop} (hg : s.heap.get? d = some o) (ho : DI prog w o kvs) (hd : (d == sysModules) = false) (hv : valueAt kvs k = none)
    (h : Q (.bool false) { s with toks := s.toks + 1 }) : wpAny (model prog w) A (compareOp .In (.int k t) (.ref d)) Q E s := dictIn hg ho hd (by rw [hv]; exact h)
theorem dictNotInS {d : Addr} {o : Obj} {kvs : List (Int × Value)} {k : Int} {t : Tok} {v : Value} {Q : Value → Shared → Prop} (hg : s.heap.get? d = some o) (ho : DI prog w o kvs) (hd : (d == sysModules) = false) (hv : valueAt kvs k = some v)
    (h : Q (.bool false) { s with toks := s.toks + 1 }) : wpAny (model prog w) A (compareOp .NotIn (.int k t) (.ref d)) Q E s := dictNotIn hg ho hd (by rw [hv]; exact h)
theorem dictNotInN {d : Addr} {o : Obj} {kvs : List (Int × Value)} {k : Int} {t : Tok} {Q : Value → Shared → Prop} (hg : s.heap.get? d = some o) (ho : DI prog w o kvs) (hd : (d == sysModules) = false) (hv : valueAt kvs k = none)
    (h : Q (.bool true) { s with toks := s.toks + 1 }) : wpAny (model prog w) A (compareOp .NotIn (.int k t) (.ref d)) Q E s := dictNotIn hg ho hd (by rw [hv]; exact h)
end
section
variable {prog : Program} {w : World} {G : Heap} {g : Array GenState} {o : OsState} {A : Around} {E : Value → Shared → Prop} {s : Shared} {S : PM}
theorem c_settleN {Q : Value → Shared → Prop} {gx : Addr} {lev : Lev} {lof : Nat → Int} {ex : Option Int} {r : Nat} {t : Int} {t1 t2 : Tok} (P : Pre (cx w G g o) S s) (hA : Rm A 3) (hg : GramAt prog w S gx lev lof ex) (hr : r < 5) (hw : way lev (lof r) t = none)
   (hQ : ∀ S' s', Post (cx w G g o) [] S s S' s' → Q .none s') : wpAny (model prog w) A (call (.ref 253) [.ref gx, .int r t1, .int t t2]) Q E s :=
  c_settle P hA hg hr fun S' s' u P' => by rw [hw]; exact hQ S' s' P'
theorem c_settleS {Q : Value → Shared → Prop} {gx : Addr} {lev : Lev} {lof : Nat → Int} {ex : Option Int} {r : Nat} {t : Int} {t1 t2 : Tok} {wy : Way} (P : Pre (cx w G g o) S s) (hA : Rm A 3) (hg : GramAt prog w S gx lev lof ex) (hr : r < 5) (hw : way lev (lof r) t = some wy)
   (hQ : ∀ S' s' u, Post (cx w G g o) [] S s S' s' → Q (wayV u (some wy)) s') : wpAny (model prog w) A (call (.ref 253) [.ref gx, .int r t1, .int t t2]) Q E s :=
  c_settle P hA hg hr fun S' s' u P' => by rw [hw]; exact hQ S' s' u P'
theorem ConfAt.cf {S : PM} {x : Addr} {n t r ch : Int} (h : ConfAt S x n t r ch) : CfAt S x ⟨n, t, true, [r], ch⟩ := by
  obtain ⟨t1, t2, t3, t4, t5, q, e, i, g⟩ := h
  exact CfAt.of i g (.cons _ _ .nil)
theorem oneKI {kvs : List (Int × Value)} {m : List (Int × Int)} (h : KI kvs m) (w : Way) (t : Int) : KI (oneShift w kvs t) (oneShI w m t) := by
  cases w
  · exact h.out t
  · exact h
  · exact h.out t
theorem LEnd.next {c : Cx} {S₀ : PM} {n₀ : Nat} {B : Kp} {L : Addr} {J : PM → List (Addr × Obj) → (Str → Option Value) → Prop} {S' S'' : PM} {M'' : List (Addr × Obj)} {ρ'' : Str → Option Value} (st : St c S₀ n₀ B S'' M'' L ρ'' s) (le : Le S' S'') (j : J S'' M'' ρ'') : LEnd c S₀ n₀ B L J S' .next s := ⟨.inl rfl, _, _, _, le, j, st⟩
theorem LEnd.cont {c : Cx} {S₀ : PM} {n₀ : Nat} {B : Kp} {L : Addr} {J : PM → List (Addr × Obj) → (Str → Option Value) → Prop} {S' S'' : PM} {M'' : List (Addr × Obj)} {ρ'' : Str → Option Value} (st : St c S₀ n₀ B S'' M'' L ρ'' s) (le : Le S' S'') (j : J S'' M'' ρ'') : LEnd c S₀ n₀ B L J S' .cont s := ⟨.inr rfl, _, _, _, le, j, st⟩
end
theorem words_L3 : True := by
  k_with "call ref" => ((show wpAny _ _ (call (Value.ref 80) _) _ _ _); (rename StC _ _ _ _ _ _ _ _ _ _ _ => stz); k_dflt (refine' c_bits (St.pre stz) ?r ?b0 ?b1 ?_; (case r => walk_at "room"); (case b0 => assumption); (case b1 => assumption)); intro _ _ _ _ _ P' _ _; have _ := StC.call stz P'; have _ := PostC.le P'; clear stz P')
  k_with "gram" => first | assumption | exact GramAt.mono (by assumption) (by walk_at "le")
  k_with "call ref" => ((show wpAny _ _ (call (Value.ref 253) _) _ _ _); (rename StC _ _ _ _ _ _ _ _ _ _ _ => stz); (first
  | (k_dflt (refine' c_settleN (St.pre stz) ?r ?b0 ?b1 ?b2 ?_; (case r => walk_at "room"); (case b0 => walk_at "gram"); (case b1 => assumption); (case b2 => assumption)); intro S' s' P')
  | (k_dflt (refine' c_settleS (St.pre stz) ?r ?b0 ?b1 ?b2 ?_; (case r => walk_at "room"); (case b0 => walk_at "gram"); (case b1 => assumption); (case b2 => assumption)); intro _ _ _ P')); have _ := StC.call stz P'; have _ := PostC.le P'; clear stz P')
  k_with "compareOp In int ref" => (k_dflt (first
  | (refine' dictInS ?k1 ?k2 ?k3 ?k4 ?_; (case k1 => walk_at "H"); (case k2 => assumption); (case k3 => assumption); (case k4 => assumption))
  | (refine' dictInN ?k1 ?k2 ?k3 ?k4 ?_; (case k1 => walk_at "H"); (case k2 => assumption); (case k3 => assumption); (case k4 => assumption))
  | (refine' dictIn ?k1 ?k2 ?k3 ?_; (case k1 => walk_at "H"); (case k2 => assumption); (case k3 => assumption))))
  k_with "compareOp NotIn int ref" => (k_dflt (first
  | (refine' dictNotInS ?k1 ?k2 ?k3 ?k4 ?_; (case k1 => walk_at "H"); (case k2 => assumption); (case k3 => assumption); (case k4 => assumption))
  | (refine' dictNotInN ?k1 ?k2 ?k3 ?k4 ?_; (case k1 => walk_at "H"); (case k2 => assumption); (case k3 => assumption); (case k4 => assumption))
  | (refine' dictNotIn ?k1 ?k2 ?k3 ?_; (case k1 => walk_at "H"); (case k2 => assumption); (case k3 => assumption))))
  trivial


/-! CLev -/
section
variable {prog : Program} {w : World} {G : Heap} {g : Array GenState} {o : OsState} {A : Around} {E : Value → Shared → Prop} {s : Shared} {B : Kp} {S₀ S : PM} {n₀ : Nat} {L : Addr} {ρ : Str → Option Value}

/-- a row maker's changeable part -/
inductive MkM (prog : Program) (w : World) (S : PM) (gx dx sh gt lk se : Addr) (n : Int) (las : List Value) (rest M : List (Addr × Obj)) (st : MkSt) : Prop where
  | mk : ∀ es ne osh kvs cs k LM, M = (dx, dictOf es ne) :: (sh, osh) :: (se, lst cs k) :: (LM ++ rest) → MkAt es gx sh gt lk se n st.bar → DI prog w osh kvs → KI kvs st.sh → CfsAt S cs st.se → LkM las LM st.lk → MkM prog w S gx dx sh gt lk se n las rest M st
theorem MkM.mono {S S' : PM} {gx dx sh gt lk se : Addr} {n : Int} {las : List Value} {rest M : List (Addr × Obj)} {st : MkSt} (h : MkM prog w S gx dx sh gt lk se n las rest M st) (l : Le S S') : MkM prog w S' gx dx sh gt lk se n las rest M st := by
  obtain ⟨es, ne, osh, kvs, cs, k, LM, rfl, a, b, c, d, e⟩ := id h
  exact ⟨es, ne, osh, kvs, cs, k, LM, rfl, a, b, c, d.mono l, e⟩
theorem MkM.keys {S S' : PM} {gx dx sh gt lk se : Addr} {n : Int} {las : List Value} {rest M M' : List (Addr × Obj)} {st st' : MkSt} (h : MkM prog w S gx dx sh gt lk se n las rest M st) (h' : MkM prog w S' gx dx sh gt lk se n las rest M' st') : M'.map (·.1) = M.map (·.1) := by
  have key : ∀ {as : List Value} {M₁ M₂ : List (Addr × Obj)} {l₁ l₂ : List (Int × Int)}, LkM as M₁ l₁ → LkM as M₂ l₂ → M₂.map (·.1) = M₁.map (·.1) := by
    intro as M₁ M₂ l₁ l₂ a b
    induction a generalizing M₂ l₂ with
    | nil => cases b; rfl
    | cons _ _ ih => cases b with | cons _ q => simp [ih q]
  obtain ⟨_, _, _, _, _, _, LM, rfl, _, _, _, _, a⟩ := id h
  obtain ⟨_, _, _, _, _, _, LM', rfl, _, _, _, _, b⟩ := id h'
  simp [key a b]
theorem isNotWay {wy : Way} {u : Tok} {Q : Value → Shared → Prop} (h : Q (.bool true) s) : wpAny (model prog w) A (compareOp .IsNot (wayV u (some wy)) .none) Q E s := by
  cases wy <;> exact wpAny_pure h

theorem c_levels {Q : Value → Shared → Prop} {mx gx dx sh gt lk se : Addr} {n : Int} {las : List Value} {e : Nat} {rest M : List (Addr × Obj)} {st₀ : MkSt} {lev : Lev} {lof : Nat → Int} {ex : Option Int}
   (P : St (cx w G g o) S₀ n₀ B S M L ρ s) (hA : Rm A 8) (hg : GramAt prog w S gx lev lof ex) (hx : S mx = some (instObj 296 dx)) (hl : S lk = some (lst las e)) (hdm : (sh == sysModules) = false)
   (hM : MkM prog w S gx dx sh gt lk se n las rest M st₀) (hok : MkOk st₀ 0 st₀) (hl4 : st₀.lk.length ≤ 4)
   (hQ : ∀ S' s' M', Le S S' → St (cx w G g o) S₀ n₀ B S' M' L ρ s' → MkM prog w S' gx dx sh gt lk se n las rest M' (stepAll lev lof n st₀) → Q .none s') :
   wpAny (model prog w) A (call (.ref 274) [.ref mx]) Q E s := by
  refine call_ret ?_
  refine' enterM (binds := [("self", Value.ref mx)]) P hA ?ho ?hcd ?hbind ?hloc ?hcell ?hco ?hgen ?hk ?_
  case ho => walk_at "is"
  case hcd => walk_at "is"
  case hbind => first | exact BindsTo.of_eq rfl | exact binds_K (K := hk.heap_1 w.params) (PreC.K (by first | exact P | exact St.pre P)) rfl (by walk_at "is") rfl rfl rfl
  case hloc => exact locs rfl
  case hcell => decide
  case hco => rfl
  case hgen => rfl
  case hk => rfl
  intro A' L' n₁ B' s' hA' st fin
  have hkeys := fun S' M' st' => @MkM.keys prog w S S' gx dx sh gt lk se n las rest M M' st₀ st' hM
  clear P
  walk1
  refine for_in ?_ (fun _ => rfl)
  obtain ⟨es, ne, osh, kvs, cs, k, LM, eM, ⟨u1, u2, ez⟩, hd, hk, hcs, hLM⟩ := id hM
  subst eM
  repeat' (first | walk1 | (dsimp only; walk1))
  let J1 : Nat → PM → List (Addr × Obj) → (Str → Option Value) → Prop := fun i S M ρ => ∀ GG : Prop, (ρ "self" = some (.ref mx) → MkM prog w S gx dx sh gt lk se n las rest M ((List.range i).foldl (stepL lev lof n) st₀) → MkOk st₀ (7 * i) ((List.range i).foldl (stepL lev lof n) st₀) → GG) → GG
  refine loop_list (lo := lst las e) (vs := las) J1 st hA'.hh hl (LO.lst _ _) rfl rfl rfl (fun _ kk => kk rfl hM hok) ?_ ?_
  · clear ez hd hk hcs hLM
    intro i v B' S' M' ρ' s' hv le hJ st
    refine hJ _ ?_
    clear hJ
    rintro r1 hM' ok
    generalize hstI : (List.range i).foldl (stepL lev lof n) st₀ = stI at hM' ok
    obtain ⟨es, ne, osh, kvs, cs, k, LM, eM, ⟨u1, u2, ez⟩, hd, hk, hcs, hLM⟩ := id hM'
    subst eM
    obtain ⟨l, ol, r, m, t1, t2, pre, post, ev, lo, e2, eL, put⟩ := hLM.split hv
    subst ev
    subst eL
    obtain ⟨r0, r5, m0, m1⟩ := ok.msk _ (List.mem_of_getElem? e2)
    dsimp only at r0 r5 m0 m1
    rw [List.append_assoc] at st
    walk1
    refine for_in ?_ (fun _ => rfl)
    repeat' (first | walk1 | (dsimp only; walk1))
    rename_i av vs n' S1 s1 hl1 hi1 st le1
    let J2 : Nat → PM → List (Addr × Obj) → (Str → Option Value) → Prop := fun j S M ρ => ∀ GG : Prop, (ρ "self" = some (.ref mx) → ρ "look" = some (.ref l) → MkM prog w S gx dx sh gt lk se n las rest M (((bitsOf m).take j).foldl (step1 lev lof n i) stI) → MkOk st₀ (7 * i + j) (((bitsOf m).take j).foldl (step1 lev lof n i) stI) → GG) → GG
    refine loop_list (lo := lst vs n') (vs := vs) J2 st hA'.hh hl1 (LO.lst _ _) rfl rfl rfl (fun _ kk => kk r1 rfl ?_ ok) ?_ ?_
    · have q := hM'.mono le1
      rw [List.append_assoc] at q
      exact q
    · clear ez hd hk hcs hLM put
      intro j v B'' S2 M2 ρ2 s2 hv2 le2 hJ st
      refine hJ _ ?_
      clear hJ
      rintro ra rb hM2 ok2
      obtain ⟨t, tk, ev, ht⟩ : ∃ t tk, v = .int t tk ∧ (bitsOf m)[j]? = some t := by
        have hj : j < (bitsOf m).length := by rw [← hi1.length]; exact (List.getElem?_eq_some_iff.mp hv2).1
        obtain ⟨tk, q⟩ := hi1.get j (bitsOf m)[j] (by simp [hj])
        rw [hv2] at q
        exact ⟨_, tk, Option.some.inj q, by simp [hj]⟩
      subst ev
      obtain ⟨ht0, ht7, _⟩ := bits_mem (List.mem_of_getElem? ht)
      have hs : (bitsOf m).take (j + 1) = (bitsOf m).take j ++ [t] := by rw [List.take_add_one, ht]; rfl
      have hj7 : j < 7 := Nat.lt_of_lt_of_le (List.getElem?_eq_some_iff.mp ht).1 (bits_count m)
      have e0 : ((bitsOf m).take (j + 1)).foldl (step1 lev lof n i) stI = step1 lev lof n i (((bitsOf m).take j).foldl (step1 lev lof n i) stI) t := by rw [hs, List.foldl_append, List.foldl_cons, List.foldl_nil]
      generalize ((bitsOf m).take j).foldl (step1 lev lof n i) stI = stJ at hM2 ok2 e0
      have ok3 : MkOk st₀ (7 * i + (j + 1)) (step1 lev lof n i stJ t) := ok2.step ht0 ht7
      obtain ⟨es, ne, osh, kvs, cs, k, LM, eM, ⟨u1, u2, ez⟩, hd, hk, hcs, hLM⟩ := id hM2
      subst eM
      obtain ⟨l', ol, r', m', t1', t2', pre, post, ev, lo, e2', eL, put⟩ := hLM.split hv
      cases ev
      subst eL
      obtain ⟨r0', r5', m0', m1'⟩ := ok2.msk _ (List.mem_of_getElem? e2')
      dsimp only at r0' r5' m0' m1'
      obtain ⟨rn, ern⟩ : ∃ rn : Nat, r' = rn := ⟨r'.toNat, by omega⟩
      subst ern
      have hr5 : rn < 5 := by omega
      rw [List.append_assoc] at st hM2
      have hkz : kvs.length ≤ 100 := by rw [hk.len]; exact ok2.sh
      have hi4 : i < 4 := Nat.lt_of_lt_of_le (List.getElem?_eq_some_iff.mp e2').1 (by rw [ok2.len]; exact hl4)
      have hcz : cs.length ≤ 100 := by rw [hcs.len]; exact Nat.le_trans ok2.se (by omega)
      have hrn : (Int.toNat ((rn : Nat) : Int)) = rn := Int.toNat_natCast rn
      cases ec : atI stJ.sh t with
      | none =>
        have hv := hk.no ec
        have e9 : step1 lev lof n i stJ t = stJ := by unfold step1; rw [ec]
        rw [e9] at ok3 e0
        repeat' (first | walk1 | (dsimp only; walk1))
        rename_i st
        exact LEnd.next st (Le.refl _) (fun _ kk => kk ra rb (by rw [e0]; exact hM2) (by rw [e0]; exact ok3))
      | some c =>
        obtain ⟨tc, hv⟩ := hk.has ec
        cases ew : way lev (lof rn) t with
        | none =>
          have e9 : step1 lev lof n i stJ t = stJ := by unfold step1; rw [ec, e2']; dsimp only; rw [hrn, ew]
          rw [e9] at ok3 e0
          repeat' (first | walk1 | (dsimp only; walk1))
          rename_i le3 _ st
          exact LEnd.next st le3 (fun _ kk => kk ra rb (by rw [e0]; exact hM2.mono le3) (by rw [e0]; exact ok3))
        | some wy =>
          have e9 : step1 lev lof n i stJ t = ⟨oneShI wy stJ.sh t, stJ.lk.set i (rn, oneMask wy m' t), oneBar wy stJ.bar t, stJ.se ++ [⟨n, t, true, [(rn : Int)], oneChosen wy rn c⟩]⟩ := by
            unfold step1; rw [ec, e2']; dsimp only; rw [hrn, ew]
          rw [e9] at ok3 e0
          repeat' (first | walk1 | (dsimp only; walk1))
          refine isNotWay ?_
          repeat' (first | walk1 | (dsimp only; walk1))
          rename_i st
          refine c_one (n := n) (b := stJ.bar) (wy := wy) (m := m') (kvs := kvs) (pre := pre) (post := post ++ rest) st (Rm.le hA' (by decide)) (by walk_at "S") ⟨_, _, ez⟩ hd hkz hcz hv lo ht0 ht7 fun S3 s3 es3 ne3 osh3 ol3 ca le3 st3 hm3 hd3 hl3 hc3 => ?_
          obtain ⟨t8, t9, hl3⟩ := hl3
          repeat' (first | walk1 | (dsimp only; walk1))
          refine LEnd.next st3 (by walk_at "le") (fun _ kk => kk ra rb (by rw [e0]; exact ⟨es3, ne3, osh3, oneShift wy kvs t, cs ++ [.ref ca], k + 1, pre ++ (l, ol3) :: post, by simp, hm3, hd3, oneKI hk wy t, (CfsAt.mono hcs (by walk_at "le")).app (.one hc3.cf), put _ _ _ _ hl3⟩) (by rw [e0]; exact ok3))
    · intro S3 M3 ρ3 s3 le3 hJ st
      refine hJ _ ?_
      clear hJ
      rintro ra rb hM3 ok3
      have e9 : (List.range (i + 1)).foldl (stepL lev lof n) st₀ = (vs.length |> fun k => ((bitsOf m).take k).foldl (step1 lev lof n i) stI) := by
        rw [List.range_succ, List.foldl_append, hstI, List.foldl_cons, List.foldl_nil, hi1.length]
        unfold stepL
        rw [e2]
        dsimp only
        rw [List.take_length]
      have hb := bits_count m
      rw [← hi1.length] at hb
      repeat' (first | walk1 | (dsimp only; walk1))
      exact LEnd.next st (le1.trans le3) (fun _ kk => kk ra (by rw [e9]; exact hM3) (by rw [e9]; exact ok3.le (by omega)))
  · intro S' M' ρ' s' le hJ st
    refine hJ _ ?_
    clear hJ
    rintro r1 hM' ok
    repeat' (first | walk1 | (dsimp only; walk1))
    have hlen : las.length = st₀.lk.length := hLM.len
    refine hQ S' _ M' le (fin _ _ _ _ st le (hkeys _ _ _ hM')) ?_
    rw [hlen] at hM'
    exact hM'
end

/-! L4 -/

theorem words_L4 : True := by
  k_with "LO" => first | assumption | exact LO.lst _ _
  k_with "TO" => first | assumption | exact TO.tup _ _
  k_with "eval Name" => (k_dflt (first
  | (refine' ldLg ?k1 ?k6 ?k2 ?k3 ?k4 ?k5 ?_; (case k1 => assumption); (case k6 => rfl); (case k2 => rfl); (case k3 => first | rfl | assumption); (case k4 => rfl); (case k5 => decide))
  | (refine' ldCg ?k1 ?k2 ?k3 ?k6 ?k7 ?k4 ?k5 ?_; (case k1 => assumption); (case k2 => rfl); (case k3 => rfl); (case k6 => walk_at "mem"); (case k7 => first | assumption | rfl); (case k4 => rfl); (case k5 => decide))
  | (refine' ldGg ?k1 ?k6 ?k2 ?k3 ?k4 ?k5 ?_; (case k1 => assumption); (case k6 => rfl); (case k2 => rfl); (case k3 => walk_at "is"); (case k4 => rfl); (case k5 => decide))
  | (refine' ldBg ?k1 ?k8 ?k9 ?k2 ?k3 ?k4 ?k5 ?k6 ?k7 ?_; (case k1 => assumption); (case k8 => rfl); (case k9 => rfl); (case k2 => rfl); (case k3 => walk_at "is"); (case k4 => boot_by_name); (case k5 => decide); (case k6 => rfl); (case k7 => decide))))
  k_with "binaryOp Mult ref int" => ((rename StC _ _ _ _ _ _ _ _ _ _ _ => stz); k_dflt (refine' mulL stz ?k1 ?k2 ?k3 ?k4 ?_; (case k1 => walk_at "H"); (case k2 => first | with_reducible assumption | omega | decide); (case k3 => first | with_reducible assumption | omega | decide); (case k4 => exact Nat.le_of_ble_eq_true rfl)); clear stz; intro _ _ _ _)
  k_with "binaryOp Add ref ref" => ((rename StC _ _ _ _ _ _ _ _ _ _ _ => stz); k_dflt (refine' addL stz ?k1 ?k2 ?k3 ?k4 ?k5 ?_; (case k1 => walk_at "H"); (case k2 => walk_at "LO"); (case k3 => walk_at "H"); (case k4 => walk_at "LO"); (case k5 => first | with_reducible assumption | (simp only [sizeLine_eq]; omega))); clear stz; intro _ _ _ _)
  k_with "call type:tuple" => ((rename StC _ _ _ _ _ _ _ _ _ _ _ => stz); k_dflt (refine' tupOfL stz ?k1 ?k2 ?k3 ?_; (case k1 => walk_at "H"); (case k2 => walk_at "LO"); (case k3 => first | with_reducible assumption | (simp only [sizeLine_eq]; omega))); clear stz; intro _ _ _ _ _ _)
  k_with "call type:list" => ((rename StC _ _ _ _ _ _ _ _ _ _ _ => stz); k_dflt (refine' listOfL stz ?k1 ?k2 ?k3 ?_; (case k1 => walk_at "H"); (case k2 => walk_at "LO"); (case k3 => first | with_reducible assumption | (simp only [sizeLine_eq]; omega))); clear stz; intro _ _ _ _ _)
  k_with "truthy ref" => (k_dflt (refine' truthyL ?k1 ?k2 ?k3 ?_; (case k1 => walk_at "H"); (case k2 => walk_at "LO"); (case k3 => first | with_reducible assumption | omega)))
  k_with "call builtin:list.count" => (k_dflt (refine' countL ?k1 ?k2 ?k3 ?_; (case k1 => walk_at "H"); (case k2 => walk_at "LO"); (case k3 => assumption)))
  k_with "call builtin:list.extend" => ((rename StC _ _ _ _ _ _ _ _ _ _ _ => stz); k_dflt (refine' extendM stz ?k1 ?k2 ?k3 ?_; (case k1 => walk_at "UF"); (case k2 => walk_at "H"); (case k3 => first | with_reducible assumption | (simp only [sizeLine_eq]; omega))); clear stz; intro _ _ _)
  k_with "call type:reversed" => ((rename StC _ _ _ _ _ _ _ _ _ _ _ => stz); k_dflt (refine' reversedL stz ?k1 ?k2 ?_; (case k1 => walk_at "H"); (case k2 => walk_at "LO")); clear stz; intro _ _ _ _ _)
  k_with "call type:range" => ((with_reducible show wpAny _ _ (call (Value.type _) [Value.int _ _]) _ _ _); (rename StC _ _ _ _ _ _ _ _ _ _ _ => stz); k_dflt (refine' rangeL stz ?_); clear stz; intro _ _ _ _ _ _ _)
  k_with "storeName" => ((rename StC _ _ _ _ _ _ _ _ _ _ _ => stz); k_dflt (first
  | (refine' stL stz ?k2 ?k3 ?_; (case k2 => rfl); (case k3 => rfl))
  | (refine' stCo stz ?k2 ?k3 ?k4 ?k6 ?k5 ?_; (case k2 => rfl); (case k3 => rfl); (case k4 => walk_at "U"); (case k6 => first | assumption | rfl); (case k5 => rfl))); clear stz; intro _ _)
  k_with "call builtin:sorted" => ((with_reducible show wpAny _ _ (call (Value.builtin _) [Value.ref _]) _ _ _); (rename StC _ _ _ _ _ _ _ _ _ _ _ => stz); k_dflt (refine' sortedD stz ?k1 ?k2 ?k3 ?k4 ?k5 ?_; (case k1 => exact Rm.hh (by assumption)); (case k2 => walk_at "H"); (case k3 => assumption); (case k4 => assumption); (case k5 => first | with_reducible assumption | omega)); clear stz; intro _ _ _ _ _ _ _ _ _ _)
  k_with "call builtin:dict.get" => (k_dflt (first
  | (refine' dictGet2S ?k1 ?k2 ?k3 ?k4 ?_; (case k1 => walk_at "H"); (case k2 => assumption); (case k3 => assumption); (case k4 => assumption))
  | (refine' dictGet2N ?k1 ?k2 ?k3 ?k4 ?_; (case k1 => walk_at "H"); (case k2 => assumption); (case k3 => assumption); (case k4 => assumption))
  | (refine' dictGet1S ?k1 ?k2 ?k3 ?k4 ?_; (case k1 => walk_at "H"); (case k2 => assumption); (case k3 => assumption); (case k4 => assumption))
  | (refine' dictGet1N ?k1 ?k2 ?k3 ?k4 ?_; (case k1 => walk_at "H"); (case k2 => assumption); (case k3 => assumption); (case k4 => assumption))
  | (refine' dictGet1 ?k1 ?k2 ?k3 ?_; (case k1 => walk_at "H"); (case k2 => assumption); (case k3 => assumption))
  | (refine' dictGet2 ?k1 ?k2 ?k3 ?_; (case k1 => walk_at "H"); (case k2 => assumption); (case k3 => assumption))))
  k_with "tkey" => first | assumption | exact TKey.mono (by assumption) (by walk_at "le") | exact ⟨_, _, by walk_at "S", IntsAre.cons _ _ (IntsAre.cons _ _ IntsAre.nil)⟩
  k_with "masks" => first | assumption | exact MasksAt.mono (by assumption) (by walk_at "le")
  k_with "call builtin:dict.get" => ((with_reducible show wpAny _ _ (call (Value.builtin _) [Value.ref _, Value.ref _, Value.int _ _]) _ _ _); (rename StC _ _ _ _ _ _ _ _ _ _ _ => stz); k_dflt (refine' maskGet stz ?k1 ?k2 ?k3 ?_; (case k1 => assumption); (case k2 => walk_at "masks"); (case k3 => walk_at "tkey")); clear stz; intro _ _ _)
  k_with "getMethod ref" => ((with_reducible show wpAny _ _ (getMethod (Value.ref _) (PySem.Str.ofString "get") _) _ _ _); k_dflt (refine' maskMeth ?k1 ?k2 ?_; (case k1 => assumption); (case k2 => walk_at "masks")))
  k_with "call builtin:len" => ((with_reducible show wpAny _ _ (call (Value.builtin "len") [Value.ref _]) _ _ _); k_dflt (first
  | (refine' lenL ?k1 ?k2 ?k3 ?_; (case k1 => walk_at "H"); (case k2 => first | assumption | exact LO.lst _ _); (case k3 => first | with_reducible assumption | omega))
  | (refine' lenT ?k1 ?k2 ?k3 ?_; (case k1 => walk_at "H"); (case k2 => first | assumption | exact TO.tup _ _); (case k3 => first | with_reducible assumption | omega))); intro _ _ e'; (first | subst e' | (rw [e']; clear e')))
  k_with "setItem ref str" => ((rename StC _ _ _ _ _ _ _ _ _ _ _ => stz); k_dflt (refine' dictSetS stz ?k1 ?k2 ?k3 ?_; (case k1 => walk_at "UF"); (case k2 => assumption); (case k3 => first | with_reducible assumption | (simp only [sizeLine_eq]; omega))); clear stz; intro _ _ _ _)
  k_with "go" => repeat' ((fail_if_success (with_reducible show wpAny _ _ (eval (Expr.ListComp _ _ _ _) _) _ _ _)); first | walk1 | (dsimp only; walk1))
  trivial


/-! CDef -/
noncomputable def cntStep (m : List (Int × Int)) (x : Int) : List (Int × Int) := if BAR < x ∧ x < 0 then putI m (-x) ((atI m (-x)).getD 0 + 1) else m
noncomputable def cntOf (row : List Int) : List (Int × Int) := row.foldl cntStep []
noncomputable def bestStep (m : List (Int × Int)) (b r : Int) : Int := if b = 0 ∨ (atI m r).getD 0 > (atI m b).getD 0 then r else b
theorem cnt_len (row : List Int) (m : List (Int × Int)) : (row.foldl cntStep m).length ≤ m.length + row.length := by
  induction row generalizing m with
  | nil => exact Nat.le_refl _
  | cons x row ih =>
    rw [List.foldl_cons, List.length_cons]
    refine Nat.le_trans (ih _) ?_
    have : (cntStep m x).length ≤ m.length + 1 := by
      unfold cntStep; split
      · exact putI_len _ _ _
      · exact Nat.le_succ _
    omega
/-- what default_of gives back of a row -/
noncomputable def IsDef (row : List Int) (b : Int) : Prop := (row.getD 1 0 > 0 ∧ b = 0) ∨ (¬ row.getD 1 0 > 0 ∧ ∃ ks : List Int, ks.Perm ((cntOf row).map (·.1)) ∧ ks.Pairwise (· ≤ ·) ∧ b = ks.foldl (bestStep (cntOf row)) 0)
section
variable {prog : Program} {w : World} {G : Heap} {g : Array GenState} {o : OsState} {A : Around} {E : Value → Shared → Prop} {s : Shared} {S : PM}
theorem c_def {Q : Value → Shared → Prop} {rx : Addr} {rvs : List Value} {row : List Int} (P : Pre (cx w G g o) S s) (hA : Rm A 8) (hrow : ∃ ro, S rx = some ro ∧ LO ro rvs) (hri : IntsAre rvs row) (hlen : row.length = 7) (hb : ∀ x ∈ row, -2000000 < x ∧ x < 2000000)
   (hQ : ∀ b t S' s', Post (cx w G g o) [] S s S' s' → IsDef row b → Q (.int b t) s') : wpAny (model prog w) A (call (.ref 307) [.ref rx]) Q E s := by
  refine call_ret ?_
  refine' enter (binds := [("row", Value.ref rx)]) P hA ?ho ?hcd ?hbind ?hloc ?hcell ?hco ?hgen ?hk ?_
  case ho => walk_at "is"
  case hcd => walk_at "is"
  case hbind => first | exact BindsTo.of_eq rfl | exact binds_K (K := hk.heap_1 w.params) (PreC.K (by first | exact P | exact St.pre P)) rfl (by walk_at "is") rfl rfl rfl
  case hloc => exact locs rfl
  case hcell => decide
  case hco => rfl
  case hgen => rfl
  case hk => rfl
  intro A' L n₀ B s' hA' st' fin
  obtain ⟨ro, hro, hrl⟩ := hrow
  have h17 : (1 : Int) < row.length := by rw [hlen]; omega
  repeat' (first | walk1 | (dsimp only; walk1))
  · rename_i h
    exact hQ 0 _ _ _ (fin _ _ _ _ st' (Le.refl _)) (.inl ⟨h, rfl⟩)
  · rename_i hno ca oc _ hca hcm hdi _ _ st
    refine for_in ?_ (fun _ => rfl)
    repeat' (first | walk1 | (dsimp only; walk1))
    let J1 : Nat → PM → List (Addr × Obj) → (Str → Option Value) → Prop := fun i S' M ρ => ∀ GG : Prop, (Le S S' → ρ "counts" = some (.ref ca) → ∀ oc kvs, M = [(ca, oc)] → DI prog w oc kvs → KI kvs ((row.take i).foldl cntStep []) → GG) → GG
    refine loop_list (vs := rvs) J1 st hA'.hh hro hrl rfl rfl rfl (fun _ kk => kk (Le.refl _) rfl oc [] rfl hdi .nil) ?_ ?_
    · clear hdi
      intro i v B' S' M' ρ' s' hv le hJ st
      refine hJ _ ?_
      clear hJ
      rintro le' r1 oc kvs eM hdi hki
      subst eM
      obtain ⟨x, tx, ev, hx⟩ := IntsAre.item hri hv
      subst ev
      obtain ⟨b0, b1⟩ := hb _ (List.mem_of_getElem? hx)
      have hi7 : i < 7 := by rw [← hlen]; exact (List.getElem?_eq_some_iff.mp hx).1
      have e0 : (row.take (i + 1)).foldl cntStep [] = cntStep ((row.take i).foldl cntStep []) x := by rw [take_snoc hx, List.foldl_append, List.foldl_cons, List.foldl_nil]
      have hml := cnt_len (row.take i) []
      rw [List.length_take] at hml
      generalize (row.take i).foldl cntStep [] = m at hki hml e0
      have hkz : kvs.length ≤ 100 := by rw [hki.len]; simp at hml; omega
      cases ec : atI m (-x) with
      | none =>
        have hva := hki.no ec
        repeat' (first | walk1 | (dsimp only; walk1))
        · rename_i q1 q2 oc' _ hdi' st9
          refine LEnd.next st9 (Le.refl _) (fun _ kk => kk le' r1 oc' _ rfl hdi' ?_)
          rw [e0]
          unfold cntStep
          rw [if_pos ⟨q1, q2⟩, ec]
          exact hki.put _ _ _
        · rename_i q1 q2
          refine LEnd.next st (Le.refl _) (fun _ kk => kk le' r1 oc _ rfl hdi ?_)
          rw [e0]
          unfold cntStep
          rw [if_neg fun q => q2 q.2]
          exact hki
        · rename_i q1
          refine LEnd.next st (Le.refl _) (fun _ kk => kk le' r1 oc _ rfl hdi ?_)
          rw [e0]
          unfold cntStep
          rw [if_neg fun q => q1 q.1]
          exact hki
      | some cn =>
        obtain ⟨tc, hva⟩ := hki.has ec
        repeat' (first | walk1 | (dsimp only; walk1))
        · rename_i q1 q2 oc' _ hdi' st9
          refine LEnd.next st9 (Le.refl _) (fun _ kk => kk le' r1 oc' _ rfl hdi' ?_)
          rw [e0]
          unfold cntStep
          rw [if_pos ⟨q1, q2⟩, ec]
          exact hki.put _ _ _
        · rename_i q1 q2
          refine LEnd.next st (Le.refl _) (fun _ kk => kk le' r1 oc _ rfl hdi ?_)
          rw [e0]
          unfold cntStep
          rw [if_neg fun q => q2 q.2]
          exact hki
        · rename_i q1
          refine LEnd.next st (Le.refl _) (fun _ kk => kk le' r1 oc _ rfl hdi ?_)
          rw [e0]
          unfold cntStep
          rw [if_neg fun q => q1 q.1]
          exact hki
    · clear hdi
      intro S1 M1 ρ1 s1 le hJ st
      refine hJ _ ?_
      clear hJ
      rintro le' r1 oc kvs eM hdi hki
      subst eM
      rw [hri.length, List.take_length] at hki
      have hml := cnt_len row []
      have hkz : kvs.length < 64 := by rw [hki.len]; simp [hlen] at hml; unfold cntOf at *; omega
      repeat' (first | walk1 | (dsimp only; walk1))
      refine for_in ?_ (fun _ => rfl)
      repeat' (first | walk1 | (dsimp only; walk1))
      rename_i ka vs ks n _ hka st2 hi2 hp2 hs2
      obtain ⟨S2, le2, hS2, st3⟩ := StC.freezeTo st2 hka
      rw [hki.keys] at hp2
      have hmm : (row.foldl cntStep []) = cntOf row := rfl
      rw [hmm] at hki hp2
      generalize hm : cntOf row = m at hki hp2
      let J2 : Nat → PM → List (Addr × Obj) → (Str → Option Value) → Prop := fun k S' M ρ => ∀ GG : Prop, (Le S2 S' → ρ "counts" = some (.ref ca) → M = [(ca, oc)] → IA ρ "best" ((ks.take k).foldl (bestStep m) 0) → ((ks.take k).foldl (bestStep m) 0 = 0 ∨ (ks.take k).foldl (bestStep m) 0 ∈ m.map (·.1)) → GG) → GG
      refine loop_list (lo := lst vs n) (vs := vs) J2 st3 hA'.hh hS2 (LO.lst _ _) rfl rfl rfl (fun _ kk => kk (Le.refl _) r1 rfl ⟨_, rfl⟩ (.inl rfl)) ?_ ?_
      · intro k v B' S' M' ρ' s' hv le3 hJ st4
        refine hJ _ ?_
        clear hJ
        rintro le4 q1 eM ⟨tb', q2⟩ q3
        subst eM
        obtain ⟨r, tr, ev, hr⟩ := IntsAre.item hi2 hv
        subst ev
        have hrm : r ∈ m.map (·.1) := hp2.mem_iff.mp (List.mem_of_getElem? hr)
        obtain ⟨cr, er⟩ := atI_mem hrm
        obtain ⟨tcr, hvr⟩ := hki.has er
        have e0 : (ks.take (k + 1)).foldl (bestStep m) 0 = bestStep m ((ks.take k).foldl (bestStep m) 0) r := by rw [take_snoc hr, List.foldl_append, List.foldl_cons, List.foldl_nil]
        generalize (ks.take k).foldl (bestStep m) 0 = b at q2 q3 e0
        by_cases hb0 : b = 0
        · subst hb0
          clear q3
          repeat' (first | walk1 | (dsimp only; walk1))
          rename_i st5
          have e : bestStep m 0 r = r := by unfold bestStep; rw [if_pos (.inl rfl)]
          rw [e] at e0
          exact LEnd.next st5 (Le.refl _) (fun _ kk => kk le4 q1 rfl (by rw [e0]; exact ⟨_, rfl⟩) (by rw [e0]; exact (.inr hrm)))
        · obtain ⟨cb, eb⟩ := atI_mem (q3.resolve_left hb0)
          obtain ⟨tcb, hvb⟩ := hki.has eb
          repeat' (first | walk1 | (dsimp only; walk1))
          · rename_i hq _ _
            exact absurd hq hb0
          · rename_i _ hq _ st5
            have e : bestStep m b r = r := by unfold bestStep; rw [if_pos (.inr (by rw [er, eb]; exact hq))]
            rw [e] at e0
            exact LEnd.next st5 (Le.refl _) (fun _ kk => kk le4 q1 rfl (by rw [e0]; exact ⟨_, rfl⟩) (by rw [e0]; exact (.inr hrm)))
          · rename_i _ hq
            have e : bestStep m b r = b := by unfold bestStep; rw [if_neg (by rw [er, eb]; rintro (q | q); exact hb0 q; exact hq q)]
            rw [e] at e0
            exact LEnd.next st4 (Le.refl _) (fun _ kk => kk le4 q1 rfl (by rw [e0]; exact ⟨_, q2⟩) (by rw [e0]; exact q3))
      · intro S' M' ρ' s' le3 hJ st4
        refine hJ _ ?_
        clear hJ
        rintro le4 q1 eM ⟨tb', q2⟩ q3
        rw [hi2.length, List.take_length] at q2
        repeat' (first | walk1 | (dsimp only; walk1))
        refine hQ _ _ _ _ (fin _ _ _ _ st4 ((le'.trans le2).trans le3)) (.inr ⟨hno, ks, ?_, hs2, ?_⟩)
        · rw [hm]; exact hp2
        · rw [hm]
end

/-! CLaw1 -/
section
variable {prog : Program} {w : World} {G : Heap} {g : Array GenState} {o : OsState} {A : Around} {E : Value → Shared → Prop} {s : Shared} {S : PM}
/-- an LR state is made: what may change of it -/
theorem c_lr {B : Kp} {S₀ : PM} {n₀ : Nat} {L : Addr} {ρ : Str → Option Value} {M : List (Addr × Obj)} {Q : Value → Shared → Prop} {n : Int} {v1 v2 : Value} {tn : Tok} (P : St (cx w G g o) S₀ n₀ B S M L ρ s) (hA : Rm A 4)
   (hQ : ∀ sx S' s' es dx ne it md rd omd, Le S S' → St (cx w G g o) S₀ n₀ B S' ((rd, lst [] 0) :: (md, omd) :: (it, lst [] 0) :: (dx, dictOf es ne) :: M) L ρ s' → S' sx = some (instObj 469 dx) →
      EntsAre es [("number", .int n tn), ("kernel", v1), ("symbol", v2), ("items", .ref it), ("moves", .ref md), ("reductions", .ref rd)] → DI prog w omd [] → (md == sysModules) = false → n₀ ≤ rd → n₀ ≤ md → n₀ ≤ it → n₀ ≤ dx → Q (.ref sx) s') :
   wpAny (model prog w) A (call (.ref 469) [.int n tn, v1, v2]) Q E s := by
  refine call_ret ?_
  refine' enterIM (binds := fun self => [("self", Value.ref self), ("number", Value.int n tn), ("kernel", v1), ("symbol", v2)]) P hA ?hm ?hi ?hf ?ho ?hcd ?hbind ?hloc ?hcell ?hco ?hgen ?hk ?_
  case hm => walk_at "is"
  case hi => walk_at "is"
  case hf => walk_at "is"
  case ho => walk_at "is"
  case hcd => walk_at "is"
  case hbind => intro x s' X; first | exact BindsTo.of_eq rfl | exact binds_K (K := hk.heap_1 w.params) X rfl (by walk_at "is") rfl rfl rfl
  case hloc => intro x; exact locs rfl
  case hcell => decide
  case hco => rfl
  case hgen => rfl
  case hk => rfl
  intro A' L' n₁ B' s' x dx hA' hx hn1 hx2 hdx st fin
  have lex : Le S (put S x (instObj 469 dx)) := le_put hx
  have hxx : put S x (instObj 469 dx) x = some (instObj 469 dx) := put_self _ _ _
  generalize put S x (instObj 469 dx) = Sx at st lex hxx
  have ez : EntsAre [] [] := .nil
  (try dsimp only)
  repeat' (first | walk1 | (dsimp only; walk1))
  rename_i it _ hit es1 ne1 _ md omd _ hmd hmdm hmdd _ es2 ne2 _ rd _ hrd es3 ne3 _ ez3 st3
  refine ⟨rfl, hQ x Sx _ es3 dx ne3 it md rd omd lex (fin _ _ _ _ st3 lex ?_) hxx ez3 hmdd hmdm (by omega) (by omega) (by omega) (by omega)⟩
  intro q hq
  simp only [List.mem_cons, List.not_mem_nil, or_false] at hq
  rcases hq with rfl | rfl | rfl | rfl <;> assumption
theorem c_aut {Q : Value → Shared → Prop} {gx sl : Addr} (P : Pre (cx w G g o) S s) (hA : Rm A 4)
   (hQ : ∀ ax S' s', Post (cx w G g o) [] S s S' s' → Inst S' ax 525 [("grammar", .ref gx), ("states", .ref sl)] → Q (.ref ax) s') :
   wpAny (model prog w) A (call (.ref 525) [.ref gx, .ref sl]) Q E s := by
  refine call_ret ?_
  refine' enterI (binds := fun self => [("self", Value.ref self), ("grammar", Value.ref gx), ("states", Value.ref sl)]) P hA ?hm ?hi ?hf ?ho ?hcd ?hbind ?hloc ?hcell ?hco ?hgen ?hk ?_
  case hm => walk_at "is"
  case hi => walk_at "is"
  case hf => walk_at "is"
  case ho => walk_at "is"
  case hcd => walk_at "is"
  case hbind => intro x s' X; first | exact BindsTo.of_eq rfl | exact binds_K (K := hk.heap_1 w.params) X rfl (by walk_at "is") rfl rfl rfl
  case hloc => intro x; exact locs rfl
  case hcell => decide
  case hco => rfl
  case hgen => rfl
  case hk => rfl
  intro A' L n₀ B s' x dx hA' hx hx2 hdx st fin
  have ez : EntsAre [] [] := .nil
  (try dsimp only)
  repeat' (first | walk1 | (dsimp only; walk1))
  rename_i es1 n1 s1 ez1 st1
  obtain ⟨S', le, hS, st2⟩ := StC.freezeTo st1 hdx
  exact ⟨rfl, hQ x S' _ (fin _ _ _ _ st2 ((le_put hx).trans le)) ⟨dx, es1, n1, le _ _ (put_self _ _ _), hS, ez1⟩⟩
/-- a rule is made (its default arguments aside) -/
theorem c_rule {Q : Value → Shared → Prop} {n lf lv : Int} {rt : Addr} {rv : List Value} {e : Nat} {tn tl tv : Tok} (P : Pre (cx w G g o) S s) (hA : Rm A 4) (hr : S rt = some (tup rv e)) (hz : rv.length < 100)
   (hQ : ∀ x S' s', Post (cx w G g o) [] S s S' s' → (∃ xs, Inst S' x 352 xs ∧ AI xs "number" n ∧ AI xs "left" lf ∧ alook "right" xs = some (.ref rt) ∧ AI xs "before" 0 ∧ AI xs "level_of" lv) → Q (.ref x) s') :
   wpAny (model prog w) A (call (.ref 352) [.int n tn, .int lf tl, .ref rt, .int lv tv]) Q E s := by
  refine call_ret ?_
  refine' enterI (binds := fun self => [("self", Value.ref self), ("number", Value.int n tn), ("left", Value.int lf tl), ("right", Value.ref rt), ("level_of", Value.int lv tv), ("action", Value.none), ("line", Value.int 0 686), ("before", Value.int 0 687)]) P hA ?hm ?hi ?hf ?ho ?hcd ?hbind ?hloc ?hcell ?hco ?hgen ?hk ?_
  case hm => walk_at "is"
  case hi => walk_at "is"
  case hf => walk_at "is"
  case ho => walk_at "is"
  case hcd => walk_at "is"
  case hbind => intro x s' X; first | exact BindsTo.of_eq rfl | exact binds_K (K := hk.heap_1 w.params) X rfl (by walk_at "is") rfl rfl rfl
  case hloc => intro x; exact locs rfl
  case hcell => decide
  case hco => rfl
  case hgen => rfl
  case hk => rfl
  intro A' L n₀ B s' x dx hA' hx hx2 hdx st fin
  have ez : EntsAre [] [] := .nil
  (try dsimp only)
  repeat' (first | walk1 | (dsimp only; walk1))
  rename_i es1 n1 s1 ez1 st1
  obtain ⟨S', le, hS, st2⟩ := StC.freezeTo st1 hdx
  exact ⟨rfl, hQ x S' _ (fin _ _ _ _ st2 ((le_put hx).trans le)) ⟨_, ⟨dx, es1, n1, le _ _ (put_self _ _ _), hS, ez1⟩, ⟨_, rfl⟩, ⟨_, rfl⟩, rfl, ⟨_, rfl⟩, ⟨_, rfl⟩⟩⟩
theorem c_rule3 {Q : Value → Shared → Prop} {n lf : Int} {rt : Addr} {rv : List Value} {e : Nat} {tn tl : Tok} (P : Pre (cx w G g o) S s) (hA : Rm A 4) (hr : S rt = some (tup rv e)) (hz : rv.length < 100)
   (hQ : ∀ x S' s', Post (cx w G g o) [] S s S' s' → (∃ xs, Inst S' x 352 xs ∧ AI xs "number" n ∧ AI xs "left" lf ∧ alook "right" xs = some (.ref rt) ∧ AI xs "before" 0 ∧ AI xs "level_of" (-1)) → Q (.ref x) s') :
   wpAny (model prog w) A (call (.ref 352) [.int n tn, .int lf tl, .ref rt]) Q E s := by
  refine call_ret ?_
  refine' enterI (binds := fun self => [("self", Value.ref self), ("number", Value.int n tn), ("left", Value.int lf tl), ("right", Value.ref rt), ("level_of", Value.int (-1) 685), ("action", Value.none), ("line", Value.int 0 686), ("before", Value.int 0 687)]) P hA ?hm ?hi ?hf ?ho ?hcd ?hbind ?hloc ?hcell ?hco ?hgen ?hk ?_
  case hm => walk_at "is"
  case hi => walk_at "is"
  case hf => walk_at "is"
  case ho => walk_at "is"
  case hcd => walk_at "is"
  case hbind => intro x s' X; first | exact BindsTo.of_eq rfl | exact binds_K (K := hk.heap_1 w.params) X rfl (by walk_at "is") rfl rfl rfl
  case hloc => intro x; exact locs rfl
  case hcell => decide
  case hco => rfl
  case hgen => rfl
  case hk => rfl
  intro A' L n₀ B s' x dx hA' hx hx2 hdx st fin
  have ez : EntsAre [] [] := .nil
  (try dsimp only)
  repeat' (first | walk1 | (dsimp only; walk1))
  rename_i es1 n1 s1 ez1 st1
  obtain ⟨S', le, hS, st2⟩ := StC.freezeTo st1 hdx
  exact ⟨rfl, hQ x S' _ (fin _ _ _ _ st2 ((le_put hx).trans le)) ⟨_, ⟨dx, es1, n1, le _ _ (put_self _ _ _), hS, ez1⟩, ⟨_, rfl⟩, ⟨_, rfl⟩, rfl, ⟨_, rfl⟩, ⟨_, rfl⟩⟩⟩
end

/-! CGram -/
/-- lists that may change, of at most k items -/
inductive BlM (k : Nat) (n₁ : Nat) : List Value → List (Addr × Obj) → Prop
  | nil : BlM k n₁ [] []
  | cons {a : Addr} {vs : List Value} {n : Nat} {as : List Value} {M : List (Addr × Obj)} : vs.length ≤ k → BlM k n₁ as M → BlM k n₁ (.ref a :: as) ((a, lst vs n) :: M)
theorem BlM.le {k k' n₁ : Nat} {as : List Value} {M : List (Addr × Obj)} (h : BlM k n₁ as M) (l : k ≤ k') : BlM k' n₁ as M := by
  induction h with
  | nil => exact .nil
  | cons a _ ih => exact .cons (Nat.le_trans a l) ih
theorem BlM.snoc {k n₁ : Nat} {as : List Value} {M : List (Addr × Obj)} {a : Addr} (h : BlM k n₁ as M) : BlM k n₁ (as ++ [.ref a]) (M ++ [(a, lst [] 0)]) := by
  induction h with
  | nil => exact .cons (Nat.zero_le _) .nil
  | cons a _ ih => exact .cons a ih
theorem BlM.len {k n₁ : Nat} {as : List Value} {M : List (Addr × Obj)} (h : BlM k n₁ as M) : as.length = M.length := by
  induction h with
  | nil => rfl
  | cons _ _ ih => simp [ih]
theorem BlM.split {k n₁ : Nat} {as : List Value} {M : List (Addr × Obj)} (h : BlM k n₁ as M) {i : Nat} (hi : i < as.length) : ∃ a vs n pre post, as[i]? = some (.ref a) ∧ vs.length ≤ k ∧ M = pre ++ (a, lst vs n) :: post ∧ ∀ vs' n', vs'.length ≤ k + 1 → BlM (k + 1) n₁ as (pre ++ (a, lst vs' n') :: post) := by
  induction h generalizing i with
  | nil => cases hi
  | @cons a vs n as M hl rest ih =>
    cases i with
    | zero => exact ⟨a, vs, n, [], M, rfl, hl, rfl, fun vs' n' h' => .cons h' (rest.le (Nat.le_succ _))⟩
    | succ i =>
      obtain ⟨a', vs', n', pre, post, e1, e2, e3, e4⟩ := ih (Nat.lt_of_succ_lt_succ hi)
      exact ⟨a', vs', n', (a, lst vs n) :: pre, post, by simpa using e1, e2, by rw [e3]; rfl, fun v m h' => .cons (Nat.le_succ_of_le hl) (e4 v m h')⟩
/-- a rule's object, told whole -/
inductive RuleIn (S : PM) (a : Addr) (n lf lv : Int) : Prop where
  | mk : ∀ xs rt rv e, Inst S a 352 xs → AI xs "number" n → AI xs "left" lf → 0 ≤ lf → lf < 10 → alook "right" xs = some (.ref rt) → S rt = some (tup rv e) → rv.length < 10 → AI xs "before" 0 → AI xs "level_of" lv → RuleIn S a n lf lv
theorem RuleIn.mono {S S' : PM} {a : Addr} {n lf lv : Int} (h : RuleIn S a n lf lv) (l : Le S S') : RuleIn S' a n lf lv := by
  obtain ⟨xs, rt, rv, e, h1, h2, h3, h4, h5, h6, h7, h8, h9, h10⟩ := id h
  exact ⟨xs, rt, rv, e, h1.mono l, h2, h3, h4, h5, h6, l _ _ h7, h8, h9, h10⟩
theorem RuleIn.at {S : PM} {a : Addr} {n lf lv : Int} (h : RuleIn S a n lf lv) : RuleAt S a lv := by
  obtain ⟨xs, rt, rv, e, h1, h2, h3, h4, h5, h6, h7, h8, h9, h10⟩ := id h
  exact ⟨xs, lf, 0, rt, rv, e, h1, h3, h6, h7, by omega, h9, h10⟩
section
variable {prog : Program} {w : World} {G : Heap} {g : Array GenState} {o : OsState} {A : Around} {E : Value → Shared → Prop} {s : Shared} {S : PM}
theorem c_grammar {Q : Value → Shared → Prop} {nl rl dl : Addr} {nvs rvs : List Value} {e1 e2 : Nat} {ev : Value} {t7 t8 : Tok} (P : Pre (cx w G g o) S s) (hA : Rm A 4) (hnl : S nl = some (lst nvs e1)) (hn10 : nvs.length = 10) (hrl : S rl = some (lst rvs e2)) (hr5 : rvs.length = 5)
   (hrs : ∀ i : Nat, i < 5 → ∃ a n lf lv, rvs[i]? = some (.ref a) ∧ RuleIn S a n lf lv)
   (hQ : ∀ x S' s', Post (cx w G g o) [] S s S' s' → (∃ xs, Inst S' x 434 xs ∧ alook "names" xs = some (.ref nl) ∧ alook "terminal_count" xs = some (.int 7 t7) ∧ alook "rules" xs = some (.ref rl) ∧ alook "levels" xs = some (.ref dl) ∧ alook "expect" xs = some ev) → Q (.ref x) s') :
   wpAny (model prog w) A (call (.ref 434) [.ref nl, .int 7 t7, .ref rl, .ref dl, ev, .int 8 t8]) Q E s := by
  refine call_ret ?_
  refine' enterI (binds := fun self => [("self", Value.ref self), ("names", Value.ref nl), ("terminal_count", Value.int 7 t7), ("rules", Value.ref rl), ("levels", Value.ref dl), ("expect", ev), ("start", Value.int 8 t8)]) P hA ?hm ?hi ?hf ?ho ?hcd ?hbind ?hloc ?hcell ?hco ?hgen ?hk ?_
  case hm => walk_at "is"
  case hi => walk_at "is"
  case hf => walk_at "is"
  case ho => walk_at "is"
  case hcd => walk_at "is"
  case hbind => intro x s' X; first | exact BindsTo.of_eq rfl | exact binds_K (K := hk.heap_1 w.params) X rfl (by walk_at "is") rfl rfl rfl
  case hloc => intro x; exact locs rfl
  case hcell => decide
  case hco => rfl
  case hgen => rfl
  case hk => rfl
  intro A' L n₀ B s' x dx hA' hx hx2 hdx st fin
  have lex : Le S (put S x (instObj 434 dx)) := le_put hx
  have hxx : put S x (instObj 434 dx) x = some (instObj 434 dx) := put_self _ _ _
  generalize put S x (instObj 434 dx) = Sx at st lex hxx
  have ez : EntsAre [] [] := .nil
  (try dsimp only)
  walk_at "go"
  refine comp_in (cl := []) ?clos ?kd ?nm ?_
  case clos => with_unfolding_all rfl
  case kd => rfl
  case nm => decide
  walk_at "go"
  rename_i es1 ne1 _ ez1 st1
  let J1 : Nat → List Value → PM → List (Addr × Obj) → Prop := fun j ys S' M' => ∀ GG : Prop, (Le Sx S' → ∀ N, M' = N ++ [(dx, dictOf es1 ne1)] → BlM 0 n₀ ys N → ys.length = j → GG) → GG
  refine comp_list (vs := nvs) J1 st1 hA'.hh (lex _ _ hnl) (LO.lst _ _) (by rw [hn10, sizeLine_eq]; omega) (by decide) rfl rfl (fun _ kk => kk (Le.refl _) [] rfl .nil rfl) ?_ ?_
  · intro C j v ys B2 S2 M2 ρ2 s2 hv le2 hJ st3
    refine hJ _ ?_
    clear hJ
    rintro le3 N eM hN hyl
    subst eM
    refine wpAny_tests_nil ?_
    simp only [if_true]
    walk_at "go"
    rename_i a _ ha st4
    refine CEnd.of (st4.permP (M' := (N ++ [(a, lst [] 0)]) ++ [(dx, dictOf es1 ne1)]) ?_) (Le.refl _) (fun _ kk => kk le3 (N ++ [(a, lst [] 0)]) rfl hN.snoc (by rw [List.length_append, hyl]; rfl))
    rw [List.append_assoc]
    exact List.perm_middle
  · intro S2 M2 ys D C s2 le2 hJ hD st3 hC hm
    refine hJ _ ?_
    clear hJ
    rintro le3 N eM hN hyl
    subst eM
    refine compE st3 hC hm fun s3 st4 => ?_
    obtain ⟨S3, le4, hbl, st5⟩ := StC.freezeTo st4 hD
    have st6 := st5.permP (M' := (dx, dictOf es1 ne1) :: N) (List.perm_append_singleton _ _).symm
    have leA : Le Sx S3 := le3.trans le4
    have hxx3 := leA _ _ hxx
    clear st3 hC hm st4 st5
    walk_at "go"
    rename_i of _ hof _ _ _ ow _ how es2 ne2 _ ez2 st7
    refine for_in ?_ (fun _ => rfl)
    walk_at "go"
    have hNl : N.length = 10 := by rw [← hN.len, hyl, hn10]
    let J2 : Nat → PM → List (Addr × Obj) → (Str → Option Value) → Prop := fun i S' M ρ => ∀ GG : Prop, (Le S3 S' → ρ "self" = some (.ref x) → ∀ ows ofs n1 n2 N, M = (ow, lst ows n1) :: (of, lst ofs n2) :: (dx, dictOf es2 ne2) :: N → BlM i n₀ ys N → ows.length ≤ 20 * i → ofs.length ≤ i → GG) → GG
    refine loop_list (vs := rvs) J2 st7 hA'.hh (leA _ _ (lex _ _ hrl)) (LO.lst _ _) rfl rfl rfl (fun _ kk => kk (Le.refl _) rfl [] [] 0 0 N rfl hN (Nat.le_refl _) (Nat.le_refl _)) ?_ ?_
    · intro i v B2 S4 M4 ρ4 s4 hv le5 hJ st8
      refine hJ _ ?_
      clear hJ
      rintro le6 r1 ows ofs n1 n2 N eM hN hz1 hz2
      subst eM
      have hi5 : i < 5 := by rw [← hr5]; exact (List.getElem?_eq_some_iff.mp hv).1
      obtain ⟨a, rn, lf, lv, hra, hri⟩ := hrs i hi5
      rw [hv] at hra
      cases hra
      obtain ⟨rxs, rt, rv, re, ri, ⟨u1, q1⟩, ⟨u2, q2⟩, q3, q4, q5, q6, q7, ⟨u3, q8⟩, ⟨u4, q9⟩⟩ := (hri.mono (lex.trans (leA.trans le6)))
      obtain ⟨ba, bvs, bn, pre, post, hb1, hb2, hb3, hb4⟩ := hN.split (i := lf.toNat) (by rw [hyl, hn10]; exact (Int.toNat_lt q3).mpr q4)
      subst hb3
      have hbl4 : S4 D = some (lst ys ys.length) := le6 _ _ hbl
      have hi100 : i ≤ 100 := Nat.le_trans (Nat.le_of_lt hi5) (Nat.le_of_ble_eq_true rfl)
      have hz3 : bvs.length ≤ 100 := Nat.le_trans hb2 hi100
      have hz4 : ofs.length ≤ 100 := Nat.le_trans hz2 hi100
      have hz7 : ows.length ≤ 100 := Nat.le_trans hz1 (Nat.mul_le_mul_left 20 (Nat.le_of_lt hi5))
      have hz5 : rv.length < 2 ^ 62 := by omega
      have hz6 : ows.length < 2 ^ 62 := Nat.lt_of_le_of_lt hz7 (Nat.le_of_ble_eq_true rfl)
      have hext : ows.length + (List.replicate (Int.toNat ((rv.length : Int) + 1)) [Value.int rn u1]).flatten.length ≤ sizeLine := by
        rw [sizeLine_eq]
        have : (List.replicate (Int.toNat ((rv.length : Int) + 1)) [Value.int rn u1]).flatten.length = Int.toNat ((rv.length : Int) + 1) := by simp
        rw [this]; exact Nat.le_trans (Nat.add_le_add hz7 (Nat.succ_le_of_lt q7)) (Nat.le_of_ble_eq_true rfl)
      walk_at "go"
      rename_i st9
      refine LEnd.next (StC.drop (StC.drop st9)) (Le.refl _) (fun _ kk => kk le6 r1 _ _ _ _ _ rfl (hb4 _ _ (by rw [List.length_append]; exact Nat.succ_le_succ hb2)) ?_ (by rw [List.length_append]; exact Nat.succ_le_succ hz2))
      have : (List.replicate (Int.toNat ((rv.length : Int) + 1)) [Value.int rn u1]).flatten.length = Int.toNat ((rv.length : Int) + 1) := by simp
      rw [List.length_append, this, Nat.mul_succ]; exact Nat.add_le_add hz1 (Nat.le_trans (Nat.succ_le_of_lt q7) (Nat.le_of_ble_eq_true rfl))
    · intro S4 M4 ρ4 s4 le5 hJ st8
      refine hJ _ ?_
      clear hJ
      rintro le6 r1 ows ofs n1 n2 N eM hN hz1 hz2
      subst eM
      have hz6 : ows.length < 2 ^ 62 := Nat.lt_of_le_of_lt hz1 (by rw [hr5]; exact (Nat.le_of_ble_eq_true rfl))
      walk_at "go"
      rename_i es3 ne3 _ ez3 st9
      obtain ⟨S5, le7, hS5, st10⟩ := StC.freezeMid [(ow, lst ows n1), (of, lst ofs n2)] st9 hdx
      have leB : Le Sx S5 := leA.trans (le6.trans le7)
      exact ⟨rfl, hQ x S5 _ (fin _ _ _ _ st10 (lex.trans leB)) ⟨_, ⟨dx, es3, ne3, leB _ _ hxx, hS5, ez3⟩, rfl, rfl, rfl, rfl, rfl⟩⟩
end

/-! CMk -/
/-- an LR state's object, as far as it is read -/
inductive StaAt (prog : Program) (w : World) (S : PM) (sx : Addr) (n : Int) (mv : List (Int × Int)) (held : List Int) : Prop where
  | mk : ∀ xs md omd kvs rd ro rvs, Inst S sx 469 xs → AI xs "number" n → alook "moves" xs = some (.ref md) → S md = some omd → DI prog w omd kvs → KI kvs mv → (md == sysModules) = false → alook "reductions" xs = some (.ref rd) → S rd = some ro → LO ro rvs → IntsAre rvs held → StaAt prog w S sx n mv held
theorem StaAt.mono {prog : Program} {w : World} {S S' : PM} {sx : Addr} {n : Int} {mv : List (Int × Int)} {held : List Int} (h : StaAt prog w S sx n mv held) (l : Le S S') : StaAt prog w S' sx n mv held := by
  obtain ⟨xs, md, omd, kvs, rd, ro, rvs, h1, h2, h3, h4, h5, h6, h7, h8, h9, h10, h11⟩ := id h
  exact ⟨xs, md, omd, kvs, rd, ro, rvs, h1.mono l, h2, h3, l _ _ h4, h5, h6, h7, h8, l _ _ h9, h10, h11⟩
noncomputable def shStep (m : List (Int × Int)) (p : Int × Int) : List (Int × Int) := if p.1 = 0 then putI m p.1 ACC else if p.1 < 7 then putI m p.1 p.2 else m
noncomputable def gtStep (m : List (Int × Int)) (p : Int × Int) : List (Int × Int) := if p.1 = 0 then m else if p.1 < 7 then m else putI m p.1 p.2
/-- the maker's state at first -/
noncomputable def mkSt (mv : List (Int × Int)) (held : List Int) (f : Int → Int) : MkSt := ⟨mv.foldl shStep [], held.map fun r => (r, f r), 0, []⟩
section
variable {prog : Program} {w : World} {G : Heap} {g : Array GenState} {o : OsState} {A : Around} {E : Value → Shared → Prop} {s : Shared} {B : Kp} {S₀ S : PM} {n₀ : Nat} {L : Addr} {ρ : Str → Option Value}
theorem c_maker {Q : Value → Shared → Prop} {gx sx md : Addr} {n : Int} {mv : List (Int × Int)} {held : List Int} {f : Int → Int → Int} {M : List (Addr × Obj)} {lev : Lev} {lof : Nat → Int} {ex : Option Int}
   (P : St (cx w G g o) S₀ n₀ B S M L ρ s) (hA : Rm A 8) (hg : GramAt prog w S gx lev lof ex) (hs : StaAt prog w S sx n mv held) (hm : MasksAt prog w S md f) (hmv : mv.length ≤ 20) (hhl : held.length ≤ 4) (hk0 : ∀ p ∈ mv, 0 ≤ p.1)
   (hQ : ∀ mx dx sh gt lk se las e S' s' N, Le S S' → St (cx w G g o) S₀ n₀ B S' (N ++ M) L ρ s' → S' mx = some (instObj 296 dx) → S' lk = some (lst las e) → (sh == sysModules) = false →
      (∃ ogt gvs, S' gt = some ogt ∧ DI prog w ogt gvs ∧ KI gvs (mv.foldl gtStep []) ∧ (gt == sysModules) = false) → MkM prog w S' gx dx sh gt lk se n las [] N (mkSt mv held (f n)) → (∀ q ∈ N, n₀ ≤ q.1) → Q (.ref mx) s') :
   wpAny (model prog w) A (call (.ref 296) [.ref gx, .ref sx, .ref md]) Q E s := by
  refine call_ret ?_
  refine' enterIM (binds := fun self => [("self", Value.ref self), ("grammar", Value.ref gx), ("state", Value.ref sx), ("masks", Value.ref md)]) P hA ?hm ?hi ?hf ?ho ?hcd ?hbind ?hloc ?hcell ?hco ?hgen ?hk ?_
  case hm => walk_at "is"
  case hi => walk_at "is"
  case hf => walk_at "is"
  case ho => walk_at "is"
  case hcd => walk_at "is"
  case hbind => intro x s' X; first | exact BindsTo.of_eq rfl | exact binds_K (K := hk.heap_1 w.params) X rfl (by walk_at "is") rfl rfl rfl
  case hloc => intro x; exact locs rfl
  case hcell => decide
  case hco => rfl
  case hgen => rfl
  case hk => rfl
  intro A' L' n₁ B' s' x dx hA' hx hn1 hx2 hdx st fin
  have lex : Le S (put S x (instObj 296 dx)) := le_put hx
  have hxx : put S x (instObj 296 dx) x = some (instObj 296 dx) := put_self _ _ _
  generalize put S x (instObj 296 dx) = Sx at st lex hxx
  obtain ⟨xs, mvd, omd, kvs, rd, ro, rvs, h1, ⟨tn, h2⟩, h3, h4, h5, h6, h7, h8, h9, h10, h11⟩ := (hs.mono lex)
  obtain ⟨gxs, dl, rl, nl, ev, rvs', gn, gi, g1, g2, g3, ⟨tk, g4⟩, g5, g6, g7, g8, g9, g10⟩ := (hg.mono lex)
  have hm' := hm.mono lex
  clear hm hg hs g6 g10 P
  have ez : EntsAre [] [] := .nil
  (try dsimp only)
  repeat' (first | walk1 | (dsimp only; walk1))
  rename_i sh osh _ hsh hshm hshd _ _ _ _ gt ogt _ hgt hgtm hgtd _ es ne _ ez1 st1
  refine for_in ?_ (fun _ => rfl)
  repeat' (first | walk1 | (dsimp only; walk1))
  let J1 : Nat → PM → List (Addr × Obj) → (Str → Option Value) → Prop := fun i S' M ρ => ∀ GG : Prop, (Le Sx S' → ρ "self" = some (.ref x) → ρ "grammar" = some (.ref gx) → ρ "state" = some (.ref sx) → ρ "masks" = some (.ref md) → ∀ ogt osh gk sk, M = [(gt, ogt), (sh, osh), (dx, dictOf es ne)] → DI prog w ogt gk → KI gk ((mv.take i).foldl gtStep []) → gk.length ≤ i → DI prog w osh sk → KI sk ((mv.take i).foldl shStep []) → sk.length ≤ i → GG) → GG
  refine loop_dict (kvs := kvs) J1 st1 hA'.hh h4 h5 h7 rfl rfl rfl
    (fun _ kk => kk (Le.refl _) rfl rfl rfl rfl ogt osh [] [] rfl hgtd .nil (Nat.le_refl _) hshd .nil (Nat.le_refl _)) ?_ ?_
  · clear hshd hgtd
    intro i kk tk' v B2 S2 M2 ρ2 s2 hv le2 hJ st2
    refine hJ _ ?_
    clear hJ
    rintro le3 r1 r2 r3 r4 ogt osh gk sk eM hgd hgk hgl hsd hsk hsl
    subst eM
    obtain ⟨nv, tv, ev, ht⟩ := h6.item hv
    subst ev
    have hva := DI.at h5 hv
    have hk0' := hk0 _ (List.mem_of_getElem? ht)
    dsimp only at hk0'
    have hi20 : i < 20 := Nat.lt_of_lt_of_le (List.getElem?_eq_some_iff.mp ht).1 hmv
    have hz1 : gk.length ≤ 100 := by omega
    have hz2 : sk.length ≤ 100 := by omega
    have e0g : (mv.take (i + 1)).foldl gtStep [] = gtStep ((mv.take i).foldl gtStep []) (kk, nv) := by rw [take_snoc ht, List.foldl_append, List.foldl_cons, List.foldl_nil]
    have e0s : (mv.take (i + 1)).foldl shStep [] = shStep ((mv.take i).foldl shStep []) (kk, nv) := by rw [take_snoc ht, List.foldl_append, List.foldl_cons, List.foldl_nil]
    generalize (mv.take i).foldl gtStep [] = gm at hgk e0g
    generalize (mv.take i).foldl shStep [] = sm at hsk e0s
    repeat' (first | walk1 | (dsimp only; walk1))
    · rename_i q os' _ hd' st9
      have e1 : gtStep gm (kk, nv) = gm := by unfold gtStep; rw [if_pos q]
      have e2 : shStep sm (kk, nv) = putI sm kk ACC := by unfold shStep; rw [if_pos q]
      rw [e1] at e0g
      rw [e2] at e0s
      exact LEnd.next st9 (Le.refl _) (fun _ kk => kk le3 r1 r2 r3 r4 ogt os' gk _ rfl hgd (by rw [e0g]; exact hgk) (by omega) hd' (by rw [e0s]; exact hsk.put _ _ _) (Nat.le_trans (stored_length_le _ _ _) (by omega)))
    · rename_i q q2 os' _ hd' st9
      have e1 : gtStep gm (kk, nv) = gm := by unfold gtStep; rw [if_neg q, if_pos q2]
      have e2 : shStep sm (kk, nv) = putI sm kk nv := by unfold shStep; rw [if_neg q, if_pos q2]
      rw [e1] at e0g
      rw [e2] at e0s
      exact LEnd.next st9 (Le.refl _) (fun _ kk => kk le3 r1 r2 r3 r4 ogt os' gk _ rfl hgd (by rw [e0g]; exact hgk) (by omega) hd' (by rw [e0s]; exact hsk.put _ _ _) (Nat.le_trans (stored_length_le _ _ _) (by omega)))
    · rename_i q q2 os' _ hd' st9
      have e1 : gtStep gm (kk, nv) = putI gm kk nv := by unfold gtStep; rw [if_neg q, if_neg q2]
      have e2 : shStep sm (kk, nv) = sm := by unfold shStep; rw [if_neg q, if_neg q2]
      rw [e1] at e0g
      rw [e2] at e0s
      exact LEnd.next st9 (Le.refl _) (fun _ kk => kk le3 r1 r2 r3 r4 os' osh _ sk rfl hd' (by rw [e0g]; exact hgk.put _ _ _) (Nat.le_trans (stored_length_le _ _ _) (by omega)) hsd (by rw [e0s]; exact hsk) (by omega))
  · clear hshd hgtd
    intro S2 M2 ρ2 s2 le2 hJ st2
    refine hJ _ ?_
    clear hJ
    rintro le3 r1 r2 r3 r4 ogt osh gk sk eM hgd hgk hgl hsd hsk hsl
    subst eM
    repeat' (first | walk1 | (dsimp only; walk1))
    refine for_in ?_ (fun _ => rfl)
    repeat' (first | walk1 | (dsimp only; walk1))
    rename_i la _ hla es2 ne2 _ ez2 st3
    rw [h6.len, List.take_length] at hgk hsk
    have st4 := StC.permP (M' := (dx, dictOf es2 ne2) :: (sh, osh) :: (gt, ogt) :: (la, lst [] 0) :: []) st3 (List.reverse_perm [(la, lst [] 0), (gt, ogt), (sh, osh), (dx, dictOf es2 ne2)])
    clear st3
    let J2 : Nat → PM → List (Addr × Obj) → (Str → Option Value) → Prop := fun i S' M ρ => ∀ GG : Prop, (Le S2 S' → ρ "self" = some (.ref x) → ρ "state" = some (.ref sx) → ρ "masks" = some (.ref md) → ∀ las k N, M = (dx, dictOf es2 ne2) :: (sh, osh) :: (gt, ogt) :: (la, lst las k) :: N → LkM las N ((held.take i).map fun r => (r, f n r)) → (∀ q ∈ N, n₁ ≤ q.1) → las.length ≤ i → GG) → GG
    refine loop_list (vs := rvs) J2 st4 hA'.hh (le3 _ _ h9) h10 rfl rfl rfl
      (fun _ kk => kk (Le.refl _) r1 r3 r4 [] 0 [] rfl .nil (fun _ hq => nomatch hq) (Nat.le_refl _)) ?_ ?_
    · intro i v B3 S3 M3 ρ3 s3 hv le4 hJ st4
      refine hJ _ ?_
      clear hJ
      rintro le5 q1 q3 q4 las k N eM hN hNf hll
      subst eM
      obtain ⟨r, tr, ev, hr⟩ := IntsAre.item h11 hv
      subst ev
      have hi4 : i < 4 := Nat.lt_of_lt_of_le (List.getElem?_eq_some_iff.mp hr).1 hhl
      have hlz : las.length ≤ 100 := by omega
      repeat' (first | walk1 | (dsimp only; walk1))
      rename_i S9 _ le9 _ t9 _ a9 _ ha9 _ st9
      have st8 := StC.permP (M' := (dx, dictOf es2 ne2) :: (sh, osh) :: (gt, ogt) :: (la, lst (las ++ [Value.ref a9]) (k + 1)) :: (N ++ [(a9, lst [.int r tr, .int (f n r) t9] 0)])) st9 (List.perm_append_singleton (a9, lst [.int r tr, .int (f n r) t9] 0) ((dx, dictOf es2 ne2) :: (sh, osh) :: (gt, ogt) :: (la, lst (las ++ [Value.ref a9]) (k + 1)) :: N))
      refine LEnd.next st8 le9 (fun _ kk => kk (le5.trans le9) q1 q3 q4 _ _ _ rfl (by rw [take_snoc hr, List.map_append, List.map_cons, List.map_nil]; exact hN.snoc (LO.lst _ _)) (fun q hq => ?_) (by rw [List.length_append]; exact Nat.succ_le_succ hll))
      rcases List.mem_append.mp hq with hq | hq
      · exact hNf q hq
      · rw [List.mem_singleton.mp hq]; exact ha9
    · intro S3 M3 ρ3 s3 le4 hJ st4
      refine hJ _ ?_
      clear hJ
      rintro le5 q1 q3 q4 las k N eM hN hNf hll
      subst eM
      rw [h11.length, List.take_length] at hN
      repeat' (first | walk1 | (dsimp only; walk1))
      rename_i se _ hse es3 ne3 _ ez3 st5
      obtain ⟨S5, le6, hS5, st6⟩ := StC.freezeMid [(se, lst [] 0), (dx, dictOf es3 ne3), (sh, osh)] st5 (by omega : n₁ ≤ gt)
      obtain ⟨S6, le7, hS6, st7⟩ := StC.freezeMid [(se, lst [] 0), (dx, dictOf es3 ne3), (sh, osh)] st6 (by omega : n₁ ≤ la)
      have st8 := StC.permP (M' := (dx, dictOf es3 ne3) :: (sh, osh) :: (se, lst [] 0) :: (N ++ [])) st7 (by rw [List.append_nil]; exact List.perm_middle (l₁ := [(dx, dictOf es3 ne3), (sh, osh)]))
      have leA : Le Sx S6 := ((le3.trans le4).trans le6).trans le7
      have fr : ∀ q ∈ (dx, dictOf es3 ne3) :: (sh, osh) :: (se, lst [] 0) :: (N ++ []), n₁ ≤ q.1 := fun q hq => by
        rw [List.append_nil] at hq
        rcases List.mem_cons.mp hq with rfl | hq
        · exact hdx
        · rcases List.mem_cons.mp hq with rfl | hq
          · exact hsh
          · rcases List.mem_cons.mp hq with rfl | hq
            · exact hse
            · exact hNf q hq
      refine ⟨rfl, hQ x dx sh gt la se las k S6 _ _ (lex.trans leA) (fin _ _ _ _ st8 (lex.trans leA) fr) (leA _ _ hxx) hS6 hshm ⟨ogt, gk, le7 _ _ hS5, hgd, hgk, hgtm⟩ ⟨es3, ne3, osh, sk, [], 0, N, rfl, ⟨_, _, ez3⟩, hsd, hsk, .nil, hN⟩ fun q hq => Nat.le_trans hn1 (fr q hq)⟩
end

/-! CRow -/
/-- a row maker, made and settled: all its parts stand -/
inductive MkF (prog : Program) (w : World) (S : PM) (mx gx : Addr) (n : Int) (st : MkSt) (gts : List (Int × Int)) : Prop where
  | mk : ∀ es dx ne sh gt lk se t1 t2 osh kvs ogt gvs cs k las e ols, S mx = some (instObj 296 dx) → S dx = some (dictOf es ne) → EntsAre es [("grammar", .ref gx), ("number", .int n t1), ("shifts", .ref sh), ("gotos", .ref gt), ("looks", .ref lk), ("barred", .int st.bar t2), ("settled", .ref se)] → S sh = some osh → DI prog w osh kvs → KI kvs st.sh → (sh == sysModules) = false → S gt = some ogt → DI prog w ogt gvs → KI gvs gts → (gt == sysModules) = false → S se = some (lst cs k) → CfsAt S cs st.se → S lk = some (lst las e) → LkM las ols st.lk → (∀ p ∈ ols, S p.1 = some p.2) → MkF prog w S mx gx n st gts
theorem MkF.mono {prog : Program} {w : World} {S S' : PM} {mx gx : Addr} {n : Int} {st : MkSt} {gts : List (Int × Int)} (h : MkF prog w S mx gx n st gts) (l : Le S S') : MkF prog w S' mx gx n st gts := by
  obtain ⟨es, dx, ne, sh, gt, lk, se, t1, t2, osh, kvs, ogt, gvs, cs, k, las, e, ols, h1, h2, h3, h4, h5, h6, h7, h8, h9, h10, h11, h12, h13, h14, h15, h16⟩ := id h
  exact ⟨es, dx, ne, sh, gt, lk, se, t1, t2, osh, kvs, ogt, gvs, cs, k, las, e, ols, l _ _ h1, l _ _ h2, h3, l _ _ h4, h5, h6, h7, l _ _ h8, h9, h10, h11, l _ _ h12, h13.mono l, l _ _ h14, h15, fun p hp => l _ _ (h16 p hp)⟩
noncomputable def setRow (row : List Int) (t v : Int) : List Int := row.set t.toNat v
noncomputable def rowLooks (lk : List (Int × Int)) (row : List Int) : List Int := lk.reverse.foldl (fun row p => (bitsOf p.2).foldl (fun row t => setRow row t (-p.1)) row) row
noncomputable def rowOf (st : MkSt) : List Int := (bitsOf st.bar).foldl (fun row t => setRow row t BAR) (st.sh.foldl (fun row p => setRow row p.1 p.2) (rowLooks st.lk (List.replicate 7 0)))
theorem foldl_len (f : List Int → Int → List Int) (hf : ∀ r t, (f r t).length = r.length) (l : List Int) (r : List Int) : (l.foldl f r).length = r.length := by
  induction l generalizing r with
  | nil => rfl
  | cons t l ih => rw [List.foldl_cons, ih, hf]
section
variable {prog : Program} {w : World} {G : Heap} {g : Array GenState} {o : OsState} {A : Around} {E : Value → Shared → Prop} {s : Shared} {S : PM}
theorem c_row {Q : Value → Shared → Prop} {mx gx : Addr} {n : Int} {st : MkSt} {gts : List (Int × Int)} {lev : Lev} {lof : Nat → Int} {ex : Option Int} {k₀ : Nat} {st₀ : MkSt} (P : Pre (cx w G g o) S s) (hA : Rm A 8) (hm : MkF prog w S mx gx n st gts) (hg : GramAt prog w S gx lev lof ex) (ok : MkOk st₀ k₀ st)
   (hsh : ∀ p ∈ st.sh, 0 ≤ p.1 ∧ p.1 < 7)
   (hQ : ∀ a vs S' s', Post (cx w G g o) [] S s S' s' → (∃ ro, S' a = some ro ∧ LO ro vs) → IntsAre vs (rowOf st) → Q (.ref a) s') : wpAny (model prog w) A (call (.ref 288) [.ref mx]) Q E s := by
  refine call_ret ?_
  refine' enter (binds := [("self", Value.ref mx)]) P hA ?ho ?hcd ?hbind ?hloc ?hcell ?hco ?hgen ?hk ?_
  case ho => walk_at "is"
  case hcd => walk_at "is"
  case hbind => first | exact BindsTo.of_eq rfl | exact binds_K (K := hk.heap_1 w.params) (PreC.K (by first | exact P | exact St.pre P)) rfl (by walk_at "is") rfl rfl rfl
  case hloc => exact locs rfl
  case hcell => decide
  case hco => rfl
  case hgen => rfl
  case hk => rfl
  intro A' L n₀ B s' hA' st' fin
  obtain ⟨es, dx, ne, sh, gt, lk, se, t1, t2, osh, kvs, ogt, gvs, cs, k, las, e, ols, h1, h2, h3, h4, h5, h6, h7, h8, h9, h10, h11, h12, h13, h14, h15, h16⟩ := id hm
  obtain ⟨gxs, dl, rl, nl, ev, rvs, gn, gi, g1, g2, g3, ⟨tk, g4⟩, g5, g6, g7, g8, g9, g10⟩ := id hg
  have mi : Inst S mx 296 _ := ⟨dx, es, ne, h1, h2, h3⟩
  clear hm hg g6 g10
  repeat' (first | walk1 | (dsimp only; walk1))
  rename_i ra _ ha0 _ st
  replace st := (StC.swap st).drop
  refine for_in ?_ (fun _ => rfl)
  repeat' (first | walk1 | (dsimp only; walk1))
  rename_i s1 st2 hrev hoff
  have hll : las.length = st.lk.length := h15.len
  let J1 : Nat → PM → List (Addr × Obj) → (Str → Option Value) → Prop := fun i S' M ρ => ∀ GG : Prop, (Le S S' → ρ "self" = some (.ref mx) → ρ "row" = some (.ref ra) → ∀ ro vs row, M = [(ra, ro)] → LO ro vs → IntsAre vs row → row.length = 7 → row = (st.lk.reverse.take i).foldl (fun row p => (bitsOf p.2).foldl (fun row t => setRow row t (-p.1)) row) (List.replicate 7 0) → GG) → GG
  refine loop_rev (vs := las) J1 st2 hrev hoff hA'.hh h14 (LO.lst _ _) rfl rfl rfl (fun _ kk => kk (Le.refl _) rfl rfl _ _ (List.replicate 7 0) rfl (LO.lst _ _) ?_ rfl rfl) ?_ ?_
  · exact .cons _ _ (.cons _ _ (.cons _ _ (.cons _ _ (.cons _ _ (.cons _ _ (.cons _ _ .nil))))))
  · intro i v B' S' M' ρ' s' hi hv le hJ st3
    refine hJ _ ?_
    clear hJ
    rintro le' r1 r2 ro vs row eM hlo hin hlen hrow
    subst eM
    obtain ⟨l, ol, r, m, t1, t2, ev, hmem, lo, e2⟩ := h15.get hv
    subst ev
    have hl := le' _ _ (h16 _ hmem)
    dsimp only at hl
    obtain ⟨r0, r5, m0, m1⟩ := ok.msk _ (List.mem_of_getElem? e2)
    dsimp only at r0 r5 m0 m1
    have e3 : st.lk.reverse[i]? = some (r, m) := by rw [List.getElem?_reverse (by omega), ← hll]; exact e2
    walk1
    refine for_in ?_ (fun _ => rfl)
    repeat' (first | walk1 | (dsimp only; walk1))
    rename_i av bs n' S1 s1 hl1 hi1 st4 le1
    have hf : ∀ (row : List Int) (t : Int), (setRow row t (-r)).length = row.length := fun row t => by unfold setRow; rw [List.length_set]
    have hS1 : Le S S1 := le'.trans le1
    have hl2 : S1 l = some ol := le1 _ _ hl
    clear hv hl
    let J2 : Nat → PM → List (Addr × Obj) → (Str → Option Value) → Prop := fun j S' M ρ => ∀ GG : Prop, (Le S1 S' → ρ "self" = some (.ref mx) → ρ "row" = some (.ref ra) → ρ "look" = some (.ref l) → ∀ ro vs row', M = [(ra, ro)] → LO ro vs → IntsAre vs row' → row'.length = 7 → row' = ((bitsOf m).take j).foldl (fun row t => setRow row t (-r)) row → GG) → GG
    refine loop_list (lo := lst bs n') (vs := bs) J2 st4 hA'.hh hl1 (LO.lst _ _) rfl rfl rfl (fun _ kk => kk (Le.refl _) r1 r2 rfl ro vs row rfl hlo hin hlen rfl) ?_ ?_
    · clear hlo hin hlen
      intro j v B'' S2 M2 ρ2 s2 hv2 le2 hJ st
      refine hJ _ ?_
      clear hJ
      rintro le3 q1 q2 q3 ro vs row' eM hlo hin hlen hrow'
      subst eM
      obtain ⟨t, tk, ev, ht⟩ := IntsAre.item hi1 hv2
      subst ev
      obtain ⟨ht0, ht7, _⟩ := bits_mem (List.mem_of_getElem? ht)
      have hvl : vs.length = 7 := by rw [hin.length]; exact hlen
      have htv : t < vs.length := by omega
      repeat' (first | walk1 | (dsimp only; walk1))
      rename_i ro' _ hlo' st5
      exact LEnd.next st5 (Le.refl _) (fun _ kk => kk le3 q1 q2 q3 ro' _ _ rfl hlo' (IntsAre.set hin _ _ _) (by rw [List.length_set]; exact hlen) (by rw [take_snoc ht, List.foldl_append, List.foldl_cons, List.foldl_nil, ← hrow']; rfl))
    · clear hlo hin hlen
      intro S3 M3 ρ3 s3 le3 hJ st
      refine hJ _ ?_
      clear hJ
      rintro le4 q1 q2 q3 ro vs row' eM hlo hin hlen hrow'
      subst eM
      repeat' (first | walk1 | (dsimp only; walk1))
      have e4 : bs.length = (bitsOf m).length := hi1.length
      rw [e4, List.take_length, hrow] at hrow'
      refine LEnd.next st (le1.trans le3) (fun _ kk => kk (hS1.trans le4) q1 q2 ro vs row' rfl hlo hin hlen ?_)
      rw [hrow', take_snoc e3, List.foldl_append, List.foldl_cons, List.foldl_nil]
  · intro S3 M3 ρ3 s3 le3 hJ st3
    refine hJ _ ?_
    clear hJ
    rintro _ q1 q2 ro vs row eM hlo hin hlen hrow
    subst eM
    walk1
    walk1
    refine for_in ?_ (fun _ => rfl)
    repeat' (first | walk1 | (dsimp only; walk1))
    have hS3 : Le S S3 := le3
    have e5 : row = rowLooks st.lk (List.replicate 7 0) := by
      rw [hrow, hll, ← List.length_reverse, List.take_length]; rfl
    clear hrow
    have hsh' : S3 sh = some osh := hS3 _ _ h4
    let J3 : Nat → PM → List (Addr × Obj) → (Str → Option Value) → Prop := fun j S' M ρ => ∀ GG : Prop, (Le S3 S' → ρ "self" = some (.ref mx) → ρ "row" = some (.ref ra) → ∀ ro vs row', M = [(ra, ro)] → LO ro vs → IntsAre vs row' → row'.length = 7 → row' = (st.sh.take j).foldl (fun row p => setRow row p.1 p.2) row → GG) → GG
    refine loop_dict (kvs := kvs) J3 st3 hA'.hh hsh' h5 h7 rfl rfl rfl (fun _ kk => kk (Le.refl _) q1 q2 ro vs row rfl hlo hin hlen rfl) ?_ ?_
    · clear hlo hin hlen e5
      intro j kk tk v B'' S2 M2 ρ2 s2 hv2 le2 hJ st4
      refine hJ _ ?_
      clear hJ
      rintro le3 q1 q2 ro vs row' eM hlo hin hlen hrow'
      subst eM
      obtain ⟨nv, tv, ev, ht⟩ := h6.item hv2
      subst ev
      have hva := DI.at h5 hv2
      obtain ⟨ht0, ht7⟩ := hsh _ (List.mem_of_getElem? ht)
      dsimp only at ht0 ht7
      have hvl : vs.length = 7 := by rw [hin.length]; exact hlen
      have htv : kk < vs.length := by omega
      repeat' (first | walk1 | (dsimp only; walk1))
      rename_i ro' _ hlo' st5
      exact LEnd.next st5 (Le.refl _) (fun _ kk => kk le3 q1 q2 ro' _ _ rfl hlo' (IntsAre.set hin _ _ _) (by rw [List.length_set]; exact hlen) (by rw [take_snoc ht, List.foldl_append, List.foldl_cons, List.foldl_nil, ← hrow']; rfl))
    · clear hlo hin hlen
      intro S4 M4 ρ4 s4 le4 hJ st4
      refine hJ _ ?_
      clear hJ
      rintro _ q1 q2 ro vs row' eM hlo hin hlen hrow'
      subst eM
      walk1
      walk1
      refine for_in ?_ (fun _ => rfl)
      rw [h6.len, List.take_length, e5] at hrow'
      obtain ⟨b0, b1⟩ := ok.bar
      repeat' (first | walk1 | (dsimp only; walk1))
      rename_i av bs n' S1 s1 hl1 hi1 st5 le1
      let J4 : Nat → PM → List (Addr × Obj) → (Str → Option Value) → Prop := fun j S' M ρ => ∀ GG : Prop, (Le S1 S' → ρ "row" = some (.ref ra) → ∀ ro vs row, M = [(ra, ro)] → LO ro vs → IntsAre vs row → row.length = 7 → row = ((bitsOf st.bar).take j).foldl (fun row t => setRow row t BAR) row' → GG) → GG
      refine loop_list (lo := lst bs n') (vs := bs) J4 st5 hA'.hh hl1 (LO.lst _ _) rfl rfl rfl (fun _ kk => kk (Le.refl _) q2 ro vs row' rfl hlo hin hlen rfl) ?_ ?_
      · clear hlo hin hlen hrow'
        intro j v B'' S2 M2 ρ2 s2 hv2 le2 hJ st
        refine hJ _ ?_
        clear hJ
        rintro le3 q2 ro vs row3 eM hlo hin hlen hrow3
        subst eM
        obtain ⟨t, tk, ev, ht⟩ := IntsAre.item hi1 hv2
        subst ev
        obtain ⟨ht0, ht7, _⟩ := bits_mem (List.mem_of_getElem? ht)
        have hvl : vs.length = 7 := by rw [hin.length]; exact hlen
        have htv : t < vs.length := by omega
        repeat' (first | walk1 | (dsimp only; walk1))
        rename_i ro' _ hlo' st5
        exact LEnd.next st5 (Le.refl _) (fun _ kk => kk le3 q2 ro' _ _ rfl hlo' (IntsAre.set hin _ _ _) (by rw [List.length_set]; exact hlen) (by rw [take_snoc ht, List.foldl_append, List.foldl_cons, List.foldl_nil, ← hrow3]; rfl))
      · clear hlo hin hlen
        intro S5 M5 ρ5 s5 le5 hJ st6
        refine hJ _ ?_
        clear hJ
        rintro _ q2 ro vs row3 eM hlo hin hlen hrow3
        subst eM
        rw [IntsAre.length hi1, List.take_length, hrow'] at hrow3
        repeat' (first | walk1 | (dsimp only; walk1))
        obtain ⟨S9, le9, hS9, st9⟩ := StC.freezeTo st6 ha0
        refine hQ ra vs S9 _ (fin _ _ _ _ st9 ?_) ⟨ro, hS9, hlo⟩ (by rw [hrow3] at hin; exact hin)
        exact ((hS3.trans le4).trans le1).trans (le5.trans le9)
end

/-! CCfl -/
/-- the rules that look ahead at a terminal -/
noncomputable def rulesAt (lk : List (Int × Int)) (t : Nat) : List Int := (lk.filter fun p => tb p.2 t).map (·.1)
noncomputable def cfl1 (st : MkSt) (n : Int) (row : List Int) (t : Nat) (rs : List Int) : List Cf := if (!rs.isEmpty && (atI st.sh t).isSome) = true then [⟨n, t, true, rs, row.getD t 0⟩] else []
noncomputable def cfl2 (n : Int) (row : List Int) (t : Nat) (rs : List Int) (r : Int) : Cf := ⟨n, t, false, [rs.getD 0 0, r], row.getD t 0⟩
noncomputable def cflAt (st : MkSt) (n : Int) (row : List Int) (t : Nat) : List Cf := cfl1 st n row t (rulesAt st.lk t) ++ ((rulesAt st.lk t).drop 1).map (cfl2 n row t (rulesAt st.lk t))
noncomputable def cflOf (st : MkSt) (n : Int) (row : List Int) : List Cf := (List.range 7).flatMap (cflAt st n row)
section
variable {prog : Program} {w : World} {G : Heap} {g : Array GenState} {o : OsState} {A : Around} {E : Value → Shared → Prop} {s : Shared} {S : PM}
theorem c_cfl {Q : Value → Shared → Prop} {mx gx rx : Addr} {rvs : List Value} {row : List Int} {n : Int} {st : MkSt} {gts : List (Int × Int)} {lev : Lev} {lof : Nat → Int} {ex : Option Int} {k₀ : Nat} {st₀ : MkSt} (P : Pre (cx w G g o) S s) (hA : Rm A 8) (hm : MkF prog w S mx gx n st gts) (hg : GramAt prog w S gx lev lof ex) (ok : MkOk st₀ k₀ st) (hl4 : st₀.lk.length ≤ 4)
   (hrow : ∃ ro, S rx = some ro ∧ LO ro rvs) (hri : IntsAre rvs row) (hlen : row.length = 7)
   (hQ : ∀ a vs n' S' s', Post (cx w G g o) [] S s S' s' → S' a = some (lst vs n') → CfsAt S' vs (cflOf st n row) → Q (.ref a) s') : wpAny (model prog w) A (call (.ref 293) [.ref mx, .ref rx]) Q E s := by
  refine call_ret ?_
  refine' enterC (binds := [("self", Value.ref mx), ("row", Value.ref rx)]) (cells := fun L => [("terminal", L + 1)]) P hA ?ho ?hcd ?hbind ?hcs ?hkind ?hnd ?hco ?hgen ?hk ?_
  case ho => walk_at "is"
  case hcd => walk_at "is"
  case hbind => first | exact BindsTo.of_eq rfl | exact binds_K (K := hk.heap_1 w.params) (PreC.K (by first | exact P | exact St.pre P)) rfl (by walk_at "is") rfl rfl rfl
  case hcs => intro n; rfl
  case hkind => intro n x hx; exact kindsC (by repeat' (first | exact trivial | refine And.intro (by first | exact .inl rfl | exact .inr ⟨rfl, rfl⟩) ?_)) x hx
  case hnd => decide
  case hco => rfl
  case hgen => rfl
  case hk => rfl
  intro A' L n₀ B s' cs hA' hcs st' fin
  obtain ⟨oc, rfl, hoc⟩ := hcs.one
  obtain ⟨es, dx, ne, sh, gt, lk, se, t1, t2, osh, kvs, ogt, gvs, cs, k, las, e, ols, h1, h2, h3, h4, h5, h6, h7, h8, h9, h10, h11, h12, h13, h14, h15, h16⟩ := id hm
  obtain ⟨gxs, dl, rl, nl, ev, rvs', gn, gi, g1, g2, g3, ⟨tk, g4⟩, g5, g6, g7, g8, g9, g10⟩ := id hg
  have mi : Inst S mx 296 _ := ⟨dx, es, ne, h1, h2, h3⟩
  clear hm hg g6 g10
  repeat' (first | walk1 | (dsimp only; walk1))
  rename_i fa _ hfa _ st1
  refine for_in ?_ (fun _ => rfl)
  repeat' (first | walk1 | (dsimp only; walk1))
  rename_i hr
  let J1 : Nat → PM → List (Addr × Obj) → (Str → Option Value) → Prop := fun i S' M ρ => ∀ GG : Prop, (Le S S' → ρ "self" = some (.ref mx) → ρ "row" = some (.ref rx) → ρ "found" = some (.ref fa) → ∀ oc v0 fvs fn, M = [(fa, lst fvs fn), (L + 1, oc)] → oc.data = .cell v0 → CfsAt S' fvs ((List.range i).flatMap (cflAt st n row)) → fvs.length ≤ 8 * i → GG) → GG
  refine loopT_range (n := 7) J1 (by assumption) hA'.hh hr rfl rfl (fun _ kk => kk (Le.refl _) rfl rfl rfl oc _ [] 0 rfl hoc .nil (Nat.zero_le _)) ?_ ?_
  · intro i tk0 B' S' M' ρ' s' hi0 le hJ st2
    refine hJ _ ?_
    clear hJ
    rintro le' r1 r2 r3 oc v0 fvs fn eM hoc hcf hfl
    subst eM
    repeat' (first | walk1 | (dsimp only; walk1))
    refine comp_to (cl := [("terminal", L + 1)]) ?sw ?clos ?kd ?nm ?_
    case sw => with_unfolding_all rfl
    case clos => with_unfolding_all rfl
    case kd => rfl
    case nm => decide
    repeat' (first | walk1 | (dsimp only; walk1))
    let J2 : Nat → List Value → PM → List (Addr × Obj) → Prop := fun j ys S' M => ∀ GG : Prop, (Le S S' → M = [(fa, lst fvs fn), (L + 1, { oc with data := .cell (some (.int i tk0)) })] → IntsAre ys (rulesAt (st.lk.take j) i) → GG) → GG
    refine comp_list (lo := lst las e) (vs := las) J2 (by assumption) hA'.hh (le' _ _ h14) (LO.lst _ _) (by rw [h15.len, ok.len, sizeLine_eq]; omega) (by decide) rfl rfl (fun _ kk => kk le' rfl .nil) ?_ ?_
    · intro C j v ys B2 S2 M2 ρ2 s2 hv le2 hJ st3
      refine hJ _ ?_
      clear hJ
      rintro le3 eM hi
      subst eM
      obtain ⟨l, ol, r, m, u1, u2, ev, hmem, lo, e2⟩ := h15.get hv
      subst ev
      have hl := le3 _ _ (h16 _ hmem)
      dsimp only at hl
      obtain ⟨r0, r5, m0, m1⟩ := ok.msk _ (List.mem_of_getElem? e2)
      dsimp only at r0 r5 m0 m1
      refine wpAny_tests_one ?_
      repeat' (first | walk1 | (dsimp only; walk1))
      · rename_i hb
        have e9 : tb m i = true := by
          have := bit_is (t := i) m0 m1 (by omega) (by omega)
          rw [Int.toNat_natCast] at this hb
          rw [← this]; simpa using hb
        refine CEnd.of st3 (Le.refl _) (fun _ kk => kk le3 rfl ?_)
        have e8 : rulesAt (st.lk.take (j + 1)) i = rulesAt (st.lk.take j) i ++ [r] := by
          unfold rulesAt
          rw [take_snoc e2, List.filter_append, List.map_append]
          simp [e9]
        rw [e8]
        exact hi.append (.cons _ _ .nil)
      · rename_i hb
        have e9 : tb m i = false := by
          have := bit_is (t := i) m0 m1 (by omega) (by omega)
          rw [Int.toNat_natCast] at this hb
          rw [← this]; simpa using hb
        refine CEnd.of st3 (Le.refl _) (fun _ kk => kk le3 rfl ?_)
        have e8 : rulesAt (st.lk.take (j + 1)) i = rulesAt (st.lk.take j) i := by
          unfold rulesAt
          rw [take_snoc e2, List.filter_append, List.map_append]
          simp [e9]
        rw [e8]
        exact hi
    · intro S2 M2 ys D C s2 le2 hJ hD st3 hC hm
      refine hJ _ ?_
      clear hJ
      rintro le3 eM hi
      subst eM
      rw [h15.len, List.take_length] at hi
      generalize hrs : rulesAt st.lk i = rs at hi
      have hrl : rs.length ≤ 4 := by
        rw [← hrs]; unfold rulesAt
        rw [List.length_map]
        exact Nat.le_trans (List.length_filter_le _ _) (by rw [ok.len]; exact hl4)
      have hyl : ys.length ≤ 4 := by rw [hi.length]; exact hrl
      have hyz : ys.length < 2 ^ 62 := Nat.lt_of_le_of_lt hyl (Nat.le_of_ble_eq_true rfl)
      have hi7 : i < 7 := hi0
      have hyk : ys.length ≤ 100 := Nat.le_trans hyl (Nat.le_of_ble_eq_true rfl)
      have hsome := valueAt_isSome h6 (i : Int)
      have hri' : (i : Int) < row.length := by rw [hlen]; exact Int.ofNat_lt.mpr hi0
      obtain ⟨ro, hro, hrl'⟩ := hrow
      refine' compA st3 hC hm ?hy ?hk ?hL ?_
      case hy => rfl
      case hk => rfl
      case hL => rfl
      intro s3 st4
      repeat' ((fail_if_success (with_reducible show wpAny _ _ (exec (Stmt.If _ _ _ _) _) _ _ _)); first | walk1 | (dsimp only; walk1))
      let JM : PM → List (Addr × Obj) → (Str → Option Value) → Prop := fun S' M ρ => ∀ GG : Prop, (∀ fvs fn, M = [(D, lst ys ys.length), (fa, lst fvs fn), (L + 1, { oc with data := .cell (some (.int i tk0)) })] → CfsAt S' fvs ((List.range i).flatMap (cflAt st n row) ++ cfl1 st n row i rs) → fvs.length ≤ 8 * i + 1 → ρ "self" = some (.ref mx) → ρ "row" = some (.ref rx) → ρ "found" = some (.ref fa) → ρ "rules" = some (.ref D) → GG) → GG
      refine cut (cx w G g o) S n₀ B' L S2 JM ?_ ?_
      · repeat' (first | walk1 | (dsimp only; walk1))
        · rename_i hb
          have hF : cfl1 st n row i rs = [] := by
            unfold cfl1
            rw [if_neg]
            have : rs.length = 0 := by rw [← hi.length]; simpa using hb
            have : rs = [] := List.eq_nil_of_length_eq_zero this
            subst this; simp
          have hx : CfsAt S2 fvs ((List.range i).flatMap (cflAt st n row) ++ cfl1 st n row i rs) := by rw [hF]; simpa using hcf.mono le2
          (rename StC _ _ _ _ _ _ _ _ _ _ _ => st9)
          exact Mid.of st9 (Le.refl _) (fun _ kk => kk fvs fn rfl hx (Nat.le_succ_of_le hfl) r1 r2 r3 rfl)
        · rename_i hb hc _ S8 _ le8 hq _ x S9 _ hin le9 _ st9
          have hF : cfl1 st n row i rs = [⟨n, i, true, rs, row.getD i 0⟩] := by
            unfold cfl1
            rw [if_pos]
            have : rs.length ≠ 0 := by rw [← hi.length]; simpa using hb
            have : rs ≠ [] := fun q => this (by rw [q]; rfl)
            rw [hsome] at hc
            simp [this, hc]
          have hx : CfsAt S9 (fvs ++ [.ref x]) ((List.range i).flatMap (cflAt st n row) ++ cfl1 st n row i rs) := by
            rw [hF]
            exact (hcf.mono ((le2.trans le8).trans le9)).app (.one (CfAt.of hin (le9 _ _ hq) hi))
          exact Mid.of st9 (le8.trans le9) (fun _ kk => kk _ _ rfl hx (by rw [List.length_append]; exact Nat.succ_le_succ hfl) r1 r2 r3 rfl)
        · rename_i hb hc
          have hF : cfl1 st n row i rs = [] := by
            unfold cfl1
            rw [if_neg]
            rw [hsome] at hc
            simp [hc]
          have hx : CfsAt S2 fvs ((List.range i).flatMap (cflAt st n row) ++ cfl1 st n row i rs) := by rw [hF]; simpa using hcf.mono le2
          (rename StC _ _ _ _ _ _ _ _ _ _ _ => st9)
          exact Mid.of st9 (Le.refl _) (fun _ kk => kk fvs fn rfl hx (Nat.le_succ_of_le hfl) r1 r2 r3 rfl)
      · intro S10 _ ρ10 s10 leS0 hJ st10
        have leS := le2.trans leS0
        refine hJ _ ?_
        clear hJ
        rintro fvs fn rfl hx hl8 u1 u2 u3 u4
        try dsimp only
        repeat' (first | walk1 | (dsimp only; walk1))
        refine for_in ?_ (fun _ => rfl)
        repeat' (first | walk1 | (dsimp only; walk1))
        rename_i r9 S9 s9 le9 hr9 st9
        have hx9 := CfsAt.mono hx le9
        let J3 : Nat → PM → List (Addr × Obj) → (Str → Option Value) → Prop := fun k S' M ρ => ∀ GG : Prop, (Le S S' → ρ "self" = some (.ref mx) → ρ "row" = some (.ref rx) → ρ "found" = some (.ref fa) → ρ "rules" = some (.ref D) → ∀ fvs fn, M = [(D, lst ys ys.length), (fa, lst fvs fn), (L + 1, { oc with data := .cell (some (.int i tk0)) })] → CfsAt S' fvs ((List.range i).flatMap (cflAt st n row) ++ cfl1 st n row i rs ++ ((rs.drop 1).take k).map (cfl2 n row i rs)) → fvs.length ≤ 8 * i + 1 + k → GG) → GG
        refine loop_list (lo := lst (ys.drop (Int.toNat 1)) 0) (vs := ys.drop (Int.toNat 1)) J3 st9 hA'.hh hr9 (LO.lst _ _) rfl rfl rfl (fun _ kk => kk ((le'.trans leS).trans le9) u1 u2 u3 u4 _ _ rfl (by simpa using hx9) hl8) ?_ ?_
        · clear hx hl8 hx9
          intro k v B3 S3 M3 ρ3 s3 hv le3 hJ st3
          refine hJ _ ?_
          clear hJ
          rintro le4 q1 q2 q3 q4 fvs fn eM hcf hfl
          subst eM
          obtain ⟨r, tr, ev, hr⟩ := IntsAre.item (IntsAre.dropped hi (Int.toNat 1)) hv
          subst ev
          have hk : 1 + k < rs.length := by
            have := (List.getElem?_eq_some_iff.mp hr).1
            rw [List.length_drop] at this
            rw [Nat.add_comm]; exact Nat.add_lt_of_lt_sub this
          have hr0 : (0 : Int) < (rs.length : Int) := Int.ofNat_lt.mpr (Nat.lt_of_le_of_lt (Nat.zero_le _) hk)
          have hfz : fvs.length ≤ 100 := Nat.le_trans hfl (Nat.le_trans (Nat.add_le_add (Nat.succ_le_succ (Nat.mul_le_mul_left 8 (Nat.le_of_lt hi7))) (Nat.le_trans (Nat.le_add_left k 1) (Nat.le_trans (Nat.le_of_lt hk) hrl))) (Nat.le_of_ble_eq_true rfl))
          repeat' (first | walk1 | (dsimp only; walk1))
          rename_i S8 _ le8 hq _ _ x S9 _ hin le9 _ st9
          refine LEnd.next st9 (le8.trans le9) (fun _ kk => kk ((le4.trans le8).trans le9) q1 q2 q3 q4 _ _ rfl ?_ (by rw [List.length_append]; exact Nat.succ_le_succ hfl))
          rw [take_snoc (show (rs.drop 1)[k]? = some r from hr), List.map_append, List.map_cons, List.map_nil, ← List.append_assoc]
          exact (hcf.mono (le8.trans le9)).app (.one (CfAt.of hin (le9 _ _ hq) (.cons _ _ (.cons _ _ .nil))))
        · clear hx hl8 hx9
          intro S3 M3 ρ3 s3 le3 hJ st3
          refine hJ _ ?_
          clear hJ
          rintro le4 q1 q2 q3 q4 fvs fn eM hcf hfl
          subst eM
          repeat' (first | walk1 | (dsimp only; walk1))
          have e7 : (ys.drop (Int.toNat 1)).length = (rs.drop 1).length := by rw [List.length_drop, List.length_drop, hi.length]; rfl
          have e8 : (rs.drop 1).length ≤ 3 := by rw [List.length_drop]; exact Nat.sub_le_of_le_add hrl
          rw [e7] at hcf hfl
          rw [List.take_length] at hcf
          refine LEnd.next (StC.drop st3) ((leS.trans le9).trans le3) (fun _ kk => kk le4 q1 q2 q3 _ _ fvs fn rfl rfl ?_ (Nat.le_trans hfl (Nat.le_trans (Nat.add_le_add_left e8 _) (by rw [Nat.mul_succ, Nat.add_assoc]; exact Nat.add_le_add_left (Nat.le_of_ble_eq_true rfl) _))))
          rw [List.range_succ, List.flatMap_append, List.flatMap_cons, List.flatMap_nil, List.append_nil]
          unfold cflAt at hcf ⊢
          rw [hrs]
          rw [List.append_assoc] at hcf
          exact hcf
  · intro S2 M2 ρ2 s2 le2 hJ st2
    refine hJ _ ?_
    clear hJ
    rintro le3 r1 r2 r3 oc v0 fvs fn eM hoc hcf hfl
    subst eM
    repeat' (first | walk1 | (dsimp only; walk1))
    obtain ⟨S9, le9, hS9, st9⟩ := StC.freezeTo st2 hfa
    exact hQ fa fvs fn S9 _ (fin _ _ _ _ st9 (le3.trans le9)) hS9 (hcf.mono le9)
end

/-! CTab -/
section
variable {prog : Program} {w : World} {G : Heap} {g : Array GenState} {o : OsState} {A : Around} {E : Value → Shared → Prop} {s : Shared} {B : Kp} {S₀ S : PM} {n₀ : Nat} {L : Addr} {ρ : Str → Option Value}
theorem c_tabinit {R : Result → Shared → Prop} {x dx nl lf lg bf : Addr} {ne e : Nat} {nvs : List Value} {M : List (Addr × Obj)} {t7 : Tok}
   (P : St (cx w G g o) S₀ n₀ B S ((dx, dictOf [] ne) :: M) L ρ s) (hA : Rm A 4) (hx : S x = some (instObj 244 dx)) (hnl : S nl = some (lst nvs e)) (hns : ∀ i : Nat, i < 7 → ∃ x t, nvs[i]? = some (.str x t))
   (hQ : ∀ S' s' es' ne' a1 a2, Le S S' → St (cx w G g o) S₀ n₀ B S' ((dx, dictOf es' ne') :: M) L ρ s' →
      EntsAre es' [("names", .ref nl), ("terminal_count", .int 7 t7), ("lefts", .ref lf), ("lengths", .ref lg), ("befores", .ref bf), ("defaults", .ref a1), ("numbers", .ref a2)] → R (.ok (.ret .none)) s') :
   codeAny (model prog w) A (.call (.ref 94) ⟨[.ref x, .ref nl, .int 7 t7, .ref lf, .ref lg, .ref bf], []⟩) R s := by
  refine' enterM (binds := [("self", Value.ref x), ("names", Value.ref nl), ("terminal_count", Value.int 7 t7), ("lefts", Value.ref lf), ("lengths", Value.ref lg), ("befores", Value.ref bf)]) P hA ?ho ?hcd ?hbind ?hloc ?hcell ?hco ?hgen ?hk ?_
  case ho => walk_at "is"
  case hcd => walk_at "is"
  case hbind => first | exact BindsTo.of_eq rfl | exact binds_K (K := hk.heap_1 w.params) (PreC.K (by first | exact P | exact St.pre P)) rfl (by walk_at "is") rfl rfl rfl
  case hloc => exact locs rfl
  case hcell => decide
  case hco => rfl
  case hgen => rfl
  case hk => rfl
  intro A' L' n₁ B' s' hA' st fin
  clear P
  have ez : EntsAre [] [] := .nil
  repeat' (first | walk1 | (dsimp only; walk1))
  rename_i df _ hdf es1 ne1 _ nd ond _ hnd hndm hndd _ es2 ne2 _ ez2 st1
  refine for_in ?_ (fun _ => rfl)
  repeat' (first | walk1 | (dsimp only; walk1))
  rename_i hr
  let J1 : Nat → PM → List (Addr × Obj) → (Str → Option Value) → Prop := fun i S' M' ρ => ∀ GG : Prop, (Le S S' → ρ "self" = some (.ref x) → ρ "names" = some (.ref nl) → ∀ ond kvs, M' = (nd, ond) :: (df, lst [] 0) :: (dx, dictOf es2 ne2) :: M → DS prog w ond kvs → kvs.length ≤ i → GG) → GG
  refine loop_range (n := 7) J1 (by assumption) hA'.hh hr rfl rfl rfl rfl rfl (fun _ kk => kk (Le.refl _) rfl rfl ond [] rfl (DS.new hndd) (Nat.le_refl _)) ?_ ?_
  · intro i ti B2 S2 M2 ρ2 s2 hi le2 hJ st2
    refine hJ _ ?_
    clear hJ
    rintro le3 r1 r2 ond kvs eM hod hkl
    subst eM
    obtain ⟨nm, tn, hnm⟩ := hns i hi
    have hnm' : nvs[(Int.ofNat i).toNat]? = some (.str nm tn) := hnm
    have hkz : kvs.length ≤ 100 := by omega
    repeat' (first | walk1 | (dsimp only; walk1))
    rename_i ond' _ hod' st5
    exact LEnd.next st5 (Le.refl _) (fun _ kk => kk le3 r1 r2 ond' _ rfl hod' (Nat.le_trans (stored_length_le _ _ _) (by omega)))
  · intro S2 M2 ρ2 s2 le2 hJ st2
    refine hJ _ ?_
    clear hJ
    rintro le3 r1 r2 ond kvs eM hod hkl
    subst eM
    repeat' (first | walk1 | (dsimp only; walk1))
    exact hQ S2 _ es2 ne2 df nd le3 (fin _ _ _ _ (StC.drop (StC.drop st2)) le3 rfl) ez2
/-- the grammar's names, as far as they are read -/
inductive NamesAt (S : PM) (gx : Addr) : Prop where
  | mk : ∀ xs nl nvs e, Inst S gx 434 xs → alook "names" xs = some (.ref nl) → S nl = some (lst nvs e) → (∀ i : Nat, i < 7 → ∃ x t, nvs[i]? = some (.str x t)) → NamesAt S gx
theorem NamesAt.mono {S S' : PM} {gx : Addr} (h : NamesAt S gx) (l : Le S S') : NamesAt S' gx := by
  obtain ⟨xs, nl, nvs, e, h1, h2, h3, h4⟩ := id h
  exact ⟨xs, nl, nvs, e, h1.mono l, h2, l _ _ h3, h4⟩
/-- the tables' object -/
inductive TabAt' (S : PM) (tx gx rw gt df cf se : Addr) : Prop where
  | mk : ∀ xs t, Inst S tx 244 xs → alook "grammar" xs = some (.ref gx) → alook "rows" xs = some (.ref rw) → alook "gotos" xs = some (.ref gt) → alook "defaults" xs = some (.ref df) → alook "conflicts" xs = some (.ref cf) → alook "settled" xs = some (.ref se) → alook "mode" xs = some (.str "lalr" t) → alook "state_count" xs = none → TabAt' S tx gx rw gt df cf se
end
section
variable {w : World} {G : Heap} {g : Array GenState} {o : OsState} {A : Around} {E : Value → Shared → Prop} {s : Shared} {S : PM}
theorem c_tables {Q : Value → Shared → Prop} {gx rw gt df cf se : Addr} {tm : Tok} {lev : Lev} {lof : Nat → Int} {ex : Option Int}
   (P : Pre (cx w G g o) S s) (hA : Rm A 8) (hg : GramAt PySem.Challenge.rw_nn0375_01.row.prog w S gx lev lof ex) (hn : NamesAt S gx)
   (hQ : ∀ x S' s', Post (cx w G g o) [] S s S' s' → TabAt' S' x gx rw gt df cf se → Q (.ref x) s') :
   wpAny (model PySem.Challenge.rw_nn0375_01.row.prog w) A (call (.ref 244) [.ref gx, .ref rw, .ref gt, .ref df, .ref cf, .ref se, .str "lalr" tm]) Q E s := by
  refine call_ret ?_
  refine' enterIT (binds := fun self => [("self", Value.ref self), ("grammar", Value.ref gx), ("rows", Value.ref rw), ("gotos", Value.ref gt), ("defaults", Value.ref df), ("conflicts", Value.ref cf), ("settled", Value.ref se), ("mode", Value.str "lalr" tm)]) P hA ?hm ?hi ?hf ?ho ?hcd ?hbind ?hloc ?hcell ?hco ?hgen ?hk ?_
  case hm => walk_at "is"
  case hi => walk_at "is"
  case hf => walk_at "is"
  case ho => walk_at "is"
  case hcd => walk_at "is"
  case hbind => intro x s' X; first | exact BindsTo.of_eq rfl | exact binds_K (K := hk.heap_1 w.params) X rfl (by walk_at "is") rfl rfl rfl
  case hloc => intro x; exact locs rfl
  case hcell => decide
  case hco => rfl
  case hgen => rfl
  case hk => rfl
  intro A' L s' x dx hA' hx hx2 hdx st
  have lex : Le S (put S x (instObj 244 dx)) := le_put hx
  have hxx : put S x (instObj 244 dx) x = some (instObj 244 dx) := put_self _ _ _
  generalize put S x (instObj 244 dx) = Sx at st lex hxx
  have ez : EntsAre [] [] := .nil
  (try dsimp only)
  obtain ⟨gxs, dl, rl, nl0, ev, rvs, gn, gi, g1, g2, g3, ⟨tk, g4⟩, g5, g6, g7, g8, g9, g10⟩ := (hg.mono lex)
  clear g6 g7
  obtain ⟨nxs, nl, nvs, ne0, ni, n1, hnl, hns⟩ := (hn.mono lex)
  have exs := Inst.same gi ni
  subst exs
  have enl : nl0 = nl := by
    rw [n1] at g3; cases g3; rfl
  subst enl
  clear ni n1
  refine ks_wpAt_execs_cons (wpAt_of_wpAny ?_)
  refine comp_to (cl := []) ?sw ?clos ?kd ?nm ?_
  case sw => with_unfolding_all rfl
  case clos => with_unfolding_all rfl
  case kd => rfl
  case nm => decide
  repeat' (first | walk1 | (dsimp only; walk1))
  let J2 : Nat → List Value → PM → List (Addr × Obj) → Prop := fun j ys S' M' => ∀ GG : Prop, (Le Sx S' → M' = [(dx, dictOf [] 0)] → GG) → GG
  refine comp_list (vs := rvs) J2 (by assumption) hA'.hh ((Le.refl _) _ _ g8) (LO.lst _ _) (by rw [g9, sizeLine_eq]; omega) (by decide) rfl rfl (fun _ kk => kk (Le.refl _) rfl) ?_ ?_
  · intro C j v ys B2 S2 M2 ρ2 s2 hv le2 hJ st3
    refine hJ _ ?_
    clear hJ
    rintro le3 eM
    subst eM
    obtain ⟨a, ha, hra⟩ := g10 j (by rw [← g9]; exact (List.getElem?_eq_some_iff.mp hv).1)
    rw [hv] at ha
    cases ha
    obtain ⟨rxs, lf, bf, rt, rv, rn, ri, ⟨u1, q1⟩, q2, q3, q4, ⟨u2, q5⟩, q6⟩ := (hra.mono le3)
    have hrv : rv.length < 2 ^ 62 := by omega
    refine wpAny_tests_nil ?_
    simp only [if_true]
    repeat' (first | walk1 | (dsimp only; walk1))
    exact CEnd.of (by assumption) (Le.refl _) (fun _ kk => kk le3 rfl)
  intro SA1 M2 ys1 D1 C s2 le2 hJ hD1 st3 hC hm
  refine hJ _ ?_
  clear hJ
  rintro leA1 eM
  subst eM
  refine' compA st3 hC hm ?hy ?hk ?hL ?_
  case hy => rfl
  case hk => rfl
  case hL => rfl
  clear st3 hC hm le2
  intro s2 st3
  refine ks_wpAt_execs_cons (wpAt_of_wpAny ?_)
  refine comp_to (cl := []) ?sw ?clos ?kd ?nm ?_
  case sw => with_unfolding_all rfl
  case clos => with_unfolding_all rfl
  case kd => rfl
  case nm => decide
  repeat' (first | walk1 | (dsimp only; walk1))
  let J3 : Nat → List Value → PM → List (Addr × Obj) → Prop := fun j ys S' M' => ∀ GG : Prop, (Le Sx S' → M' = (D1, lst ys1 ys1.length) :: [(dx, dictOf [] 0)] → GG) → GG
  refine comp_list (vs := rvs) J3 (by assumption) hA'.hh (leA1 _ _ g8) (LO.lst _ _) (by rw [g9, sizeLine_eq]; omega) (by decide) rfl rfl (fun _ kk => kk leA1 rfl) ?_ ?_
  · intro C j v ys B2 S2 M2 ρ2 s2 hv le2 hJ st3
    refine hJ _ ?_
    clear hJ
    rintro le3 eM
    subst eM
    obtain ⟨a, ha, hra⟩ := g10 j (by rw [← g9]; exact (List.getElem?_eq_some_iff.mp hv).1)
    rw [hv] at ha
    cases ha
    obtain ⟨rxs, lf, bf, rt, rv, rn, ri, ⟨u1, q1⟩, q2, q3, q4, ⟨u2, q5⟩, q6⟩ := (hra.mono le3)
    have hrv : rv.length < 2 ^ 62 := by omega
    refine wpAny_tests_nil ?_
    simp only [if_true]
    repeat' (first | walk1 | (dsimp only; walk1))
    exact CEnd.of (by assumption) (Le.refl _) (fun _ kk => kk le3 rfl)
  intro SA2 M2 ys2 D2 C s2 le2 hJ hD2 st3 hC hm
  refine hJ _ ?_
  clear hJ
  rintro leA2 eM
  subst eM
  refine' compA st3 hC hm ?hy ?hk ?hL ?_
  case hy => rfl
  case hk => rfl
  case hL => rfl
  clear st3 hC hm le2
  intro s2 st3
  refine ks_wpAt_execs_cons (wpAt_of_wpAny ?_)
  refine comp_to (cl := []) ?sw ?clos ?kd ?nm ?_
  case sw => with_unfolding_all rfl
  case clos => with_unfolding_all rfl
  case kd => rfl
  case nm => decide
  repeat' (first | walk1 | (dsimp only; walk1))
  let J4 : Nat → List Value → PM → List (Addr × Obj) → Prop := fun j ys S' M' => ∀ GG : Prop, (Le Sx S' → M' = (D2, lst ys2 ys2.length) :: (D1, lst ys1 ys1.length) :: [(dx, dictOf [] 0)] → GG) → GG
  refine comp_list (vs := rvs) J4 (by assumption) hA'.hh (leA2 _ _ g8) (LO.lst _ _) (by rw [g9, sizeLine_eq]; omega) (by decide) rfl rfl (fun _ kk => kk leA2 rfl) ?_ ?_
  · intro C j v ys B2 S2 M2 ρ2 s2 hv le2 hJ st3
    refine hJ _ ?_
    clear hJ
    rintro le3 eM
    subst eM
    obtain ⟨a, ha, hra⟩ := g10 j (by rw [← g9]; exact (List.getElem?_eq_some_iff.mp hv).1)
    rw [hv] at ha
    cases ha
    obtain ⟨rxs, lf, bf, rt, rv, rn, ri, ⟨u1, q1⟩, q2, q3, q4, ⟨u2, q5⟩, q6⟩ := (hra.mono le3)
    have hrv : rv.length < 2 ^ 62 := by omega
    refine wpAny_tests_nil ?_
    simp only [if_true]
    repeat' (first | walk1 | (dsimp only; walk1))
    exact CEnd.of (by assumption) (Le.refl _) (fun _ kk => kk le3 rfl)
  intro SA3 M2 ys3 D3 C s2 le2 hJ hD3 st3 hC hm
  refine hJ _ ?_
  clear hJ
  rintro leA3 eM
  subst eM
  refine' compA st3 hC hm ?hy ?hk ?hL ?_
  case hy => rfl
  case hk => rfl
  case hL => rfl
  clear st3 hC hm le2
  intro s2 st3
  refine ks_wpAt_execs_cons ?_
  refine ks_wpAt_Expr_any ?_
  refine ks_wpAt_MethodCall ?_
  refine' superBase (D := 244) (C := 244) (x := x) st3 ?hf ?hp ?hv ?I ?hcode ?hvs ?hfile ?hcell ?hD ?hsub ?hsuper ?hat ?hks ?hkc ?hka ?hk ?htop ?hboot ?_
  case hf => walk_at "is"
  case hp => rfl
  case hv => rfl
  case I => exact StC.instM st3 (leA3 _ _ hxx) (by walk_at "mem") ez
  case hcode => walk_at "is"
  case hvs => rfl
  case hfile => first | rfl | decide +kernel
  case hcell => walk_at "is"
  case hD => walk_at "is"
  case hsub => walk_at "is"
  case hsuper => walk_at "is"
  case hat => decide
  case hks => rfl
  case hkc => rfl
  case hka => rfl
  case hk => rfl
  case htop => decide +kernel
  case hboot => boot_by_name
  clear st3
  intro so SB s4 leB hso st4
  have leC : Le Sx SB := leA3.trans leB
  refine' superMethod (D := 244) (C := 244) (x := x) st4 hso ?I ?ho ?hm ?ht ?hn ?_
  case I => exact StC.instM st4 (leC _ _ hxx) (by walk_at "mem") ez
  case ho => walk_at "is"
  case hm => (try dsimp only [cx]); ks_is
  case ht => walk_at "is"
  case hn => decide
  clear st4
  intro qm SD s5 leD hqm st5
  have leE : Le Sx SD := leC.trans leD
  refine' callMeth (c := cx w G g o) (g := 94) (self := .ref x) ?hf ?_
  case hf => walk_at "is"
  repeat' (first | walk1 | (dsimp only; walk1))
  refine ⟨⟨st5.ks _ _ hqm, st5.K⟩, ?_⟩
  refine call_ret (callBound (st5.ks _ _ hqm) ?_)
  refine c_tabinit (ne := 0) (nvs := nvs) (M := [(D3, lst ys3 ys3.length), (D2, lst ys2 ys2.length), (D1, lst ys1 ys1.length)]) (st5.permP ?_) (Rm.le hA' (by decide)) (leE _ _ hxx) (leE _ _ hnl) hns fun SF s6 es6 ne6 a1 a2 leF st6 ez6 => ?_
  · exact (List.perm_middle (l₁ := [(D3, lst ys3 ys3.length), (D2, lst ys2 ys2.length), (D1, lst ys1 ys1.length)]) (l₂ := [])).symm
  clear st5
  have leG : Le Sx SF := leE.trans leF
  refine wpAt_of_wpAny ?_
  repeat' (first | walk1 | (dsimp only; walk1))
  rename_i es9 n9 _ ez9 st9
  obtain ⟨SH, leH, hSH, st10⟩ := StC.freezeTo st9 hdx
  have leI : Le Sx SH := leG.trans leH
  refine ⟨rfl, hQ x SH _ (StC.post st10 (lex.trans leI)) ⟨_, tm, ⟨dx, es9, n9, leI _ _ hxx, hSH, ez9⟩, rfl, rfl, rfl, rfl, rfl, rfl, rfl, rfl⟩⟩
end

/-! CWith -/
noncomputable def outRow (row : List Int) (r : Int) : List Int := row.map fun x => if x = -r then 0 else x
section
variable {prog : Program} {w : World} {G : Heap} {g : Array GenState} {o : OsState} {A : Around} {E : Value → Shared → Prop} {s : Shared} {S : PM}
theorem c_without {Q : Value → Shared → Prop} {rx : Addr} {rvs : List Value} {row : List Int} {r : Int} {t : Tok} (P : Pre (cx w G g o) S s) (hA : Rm A 8) (hrow : ∃ ro, S rx = some ro ∧ LO ro rvs) (hri : IntsAre rvs row) (hlen : row.length = 7)
   (hQ : ∀ a vs n S' s', Post (cx w G g o) [] S s S' s' → S' a = some (lst vs n) → IntsAre vs (outRow row r) → Q (.ref a) s') : wpAny (model prog w) A (call (.ref 312) [.ref rx, .int r t]) Q E s := by
  refine call_ret ?_
  refine' enterC (binds := [("row", Value.ref rx), ("rule", Value.int r t)]) (cells := fun L => [("rule", L + 1)]) P hA ?ho ?hcd ?hbind ?hcs ?hkind ?hnd ?hco ?hgen ?hk ?_
  case ho => walk_at "is"
  case hcd => walk_at "is"
  case hbind => first | exact BindsTo.of_eq rfl | exact binds_K (K := hk.heap_1 w.params) (PreC.K (by first | exact P | exact St.pre P)) rfl (by walk_at "is") rfl rfl rfl
  case hcs => intro n; rfl
  case hkind => intro n x hx; exact kindsC (by repeat' (first | exact trivial | refine And.intro (by first | exact .inl rfl | exact .inr ⟨rfl, rfl⟩) ?_)) x hx
  case hnd => decide
  case hco => rfl
  case hgen => rfl
  case hk => rfl
  intro A' L n₀ B s' cs hA' hcs st' fin
  obtain ⟨oc, rfl, hoc⟩ := hcs.one
  obtain ⟨ro, hro, hrl⟩ := hrow
  have hoc' : oc.data = .cell (some (.int r t)) := hoc
  repeat' (first | walk1 | (dsimp only; walk1))
  refine comp_in (cl := [("rule", L + 1)]) ?clos ?kd ?nm ?_
  case clos => with_unfolding_all rfl
  case kd => rfl
  case nm => decide
  repeat' (first | walk1 | (dsimp only; walk1))
  let J1 : Nat → List Value → PM → List (Addr × Obj) → Prop := fun j ys S' M => ∀ GG : Prop, (Le S S' → M = [(L + 1, oc)] → IntsAre ys (outRow (row.take j) r) → GG) → GG
  refine comp_list (vs := rvs) J1 st' hA'.hh hro hrl (by rw [hri.length, hlen, sizeLine_eq]; omega) (by decide) rfl rfl (fun _ kk => kk (Le.refl _) rfl .nil) ?_ ?_
  · intro C j v ys B2 S2 M2 ρ2 s2 hv le2 hJ st3
    refine hJ _ ?_
    clear hJ
    rintro le3 eM hi
    subst eM
    obtain ⟨x, tx, ev, hx⟩ := IntsAre.item hri hv
    subst ev
    refine wpAny_tests_nil ?_
    simp only [if_true]
    repeat' (first | walk1 | (dsimp only; walk1))
    · rename_i hq
      refine CEnd.of st3 (Le.refl _) (fun _ kk => kk le3 rfl ?_)
      unfold outRow at hi ⊢
      rw [take_snoc hx, List.map_append, List.map_cons, List.map_nil, if_pos hq]
      exact hi.append (.cons _ _ .nil)
    · rename_i hq
      refine CEnd.of st3 (Le.refl _) (fun _ kk => kk le3 rfl ?_)
      unfold outRow at hi ⊢
      rw [take_snoc hx, List.map_append, List.map_cons, List.map_nil, if_neg hq]
      exact hi.append (.cons _ _ .nil)
  · intro S2 M2 ys D C s2 le2 hJ hD st3 hC hm
    refine hJ _ ?_
    clear hJ
    rintro le3 eM hi
    refine compE st3 hC hm fun s3 st4 => ?_
    obtain ⟨S9, le9, hS9, st9⟩ := StC.freezeTo st4 hD
    rw [hri.length, List.take_length] at hi
    walk1
    exact hQ D ys _ S9 _ (fin _ _ _ _ st9 (le3.trans le9)) hS9 hi
end

/-! P2 -/
/-- a state of the plan: its moves and the rules that it holds -/
structure PS where
  mv : List (Int × Int)
  held : List Int
structure PSOk (f : Int → Int → Int) (n : Int) (p : PS) : Prop where
  len : p.mv.length ≤ 20
  mv : ∀ q ∈ p.mv, 0 ≤ q.1 ∧ 0 < q.2 ∧ q.2 < 100
  hl : p.held.length ≤ 4
  held : ∀ r ∈ p.held, 0 ≤ r ∧ r < 5 ∧ 0 ≤ f n r ∧ f n r < 128
noncomputable def finOf (lev : Lev) (lof : Nat → Int) (f : Int → Int → Int) (n : Int) (p : PS) : MkSt := stepAll lev lof n (mkSt p.mv p.held (f n))
noncomputable def row0 (lev : Lev) (lof : Nat → Int) (f : Int → Int → Int) (n : Int) (p : PS) : List Int := rowOf (finOf lev lof f n p)
noncomputable def DefOk (wants : Bool) (row : List Int) (b : Int) : Prop := if wants = true then IsDef row b else b = 0
inductive FillR (lev : Lev) (lof : Nat → Int) (f : Int → Int → Int) (wants : Bool) (plan : List PS) : Nat → List (List Int) → List (List (Int × Int)) → List Int → List Cf → List Cf → Prop
  | nil : FillR lev lof f wants plan 0 [] [] [] [] []
  | snoc {k : Nat} {p : PS} {b : Int} {rs gs ds cs ss} : FillR lev lof f wants plan k rs gs ds cs ss → plan[k]? = some p → DefOk wants (row0 lev lof f k p) b →
      FillR lev lof f wants plan (k + 1) (rs ++ [outRow (row0 lev lof f k p) b]) (gs ++ [p.mv.foldl gtStep []]) (ds ++ [b]) (cs ++ cflOf (finOf lev lof f k p) k (row0 lev lof f k p)) (ss ++ (finOf lev lof f k p).se)

theorem putI_mem {m : List (Int × Int)} {k v : Int} {q : Int × Int} (h : q ∈ putI m k v) : q ∈ m ∨ q = (k, v) := by
  unfold putI at h
  split at h
  · obtain ⟨p, hp, e⟩ := List.mem_map.mp h
    split at e
    · rename_i hk
      right; rw [← e, ← hk]
    · left; rw [← e]; exact hp
  · rcases List.mem_append.mp h with h | h
    · exact .inl h
    · exact .inr (List.mem_singleton.mp h)
/-- an entry of a row's shifts -/
noncomputable def ShOk (q : Int × Int) : Prop := 0 ≤ q.1 ∧ q.1 < 7 ∧ -2000000 < q.2 ∧ q.2 < 2000000
theorem sh_start (mv : List (Int × Int)) (h : ∀ q ∈ mv, 0 ≤ q.1 ∧ 0 < q.2 ∧ q.2 < 100) (m : List (Int × Int)) (hm : ∀ q ∈ m, ShOk q) : (∀ q ∈ mv.foldl shStep m, ShOk q) ∧ (mv.foldl shStep m).length ≤ m.length + mv.length := by
  induction mv generalizing m with
  | nil => exact ⟨hm, Nat.le_refl _⟩
  | cons q mv ih =>
    have hq := h q (.head _)
    have h1 : ∀ x ∈ shStep m q, ShOk x := fun x hx => by
      unfold shStep at hx
      split at hx
      · rename_i e
        rcases putI_mem hx with hx | rfl
        · exact hm x hx
        · refine ⟨hq.1, by show q.1 < 7; omega, by show -2000000 < ACC; decide, by show ACC < 2000000; decide⟩
      · split at hx
        · rcases putI_mem hx with hx | rfl
          · exact hm x hx
          · exact ⟨hq.1, by assumption, by show -2000000 < q.2; omega, by show q.2 < 2000000; omega⟩
        · exact hm x hx
    have h2 : (shStep m q).length ≤ m.length + 1 := by
      unfold shStep
      split
      · exact putI_len _ _ _
      · split
        · exact putI_len _ _ _
        · exact Nat.le_succ _
    obtain ⟨a, b⟩ := ih (fun x hx => h x (.tail _ hx)) _ h1
    exact ⟨a, by rw [List.foldl_cons, List.length_cons]; omega⟩
theorem step1_sh {lev : Lev} {lof : Nat → Int} {n t : Int} {i : Nat} {st : MkSt} {q : Int × Int} (h : q ∈ (step1 lev lof n i st t).sh) : q ∈ st.sh := by
  unfold step1 at h
  split at h
  · split at h
    · exact h
    · rename_i w _
      cases w
      · exact (List.mem_filter.mp h).1
      · exact h
      · exact (List.mem_filter.mp h).1
  · exact h
theorem steps_sh {lev : Lev} {lof : Nat → Int} {n : Int} {i : Nat} {q : Int × Int} : ∀ {l : List Int} {st : MkSt}, q ∈ (l.foldl (step1 lev lof n i) st).sh → q ∈ st.sh
  | [], _, h => h
  | t :: l, st, h => step1_sh (steps_sh (l := l) h)
theorem stepL_sh {lev : Lev} {lof : Nat → Int} {n : Int} {i : Nat} {st : MkSt} {q : Int × Int} (h : q ∈ (stepL lev lof n st i).sh) : q ∈ st.sh := by
  unfold stepL at h
  split at h
  · exact steps_sh h
  · exact h
theorem stepAll_sh {lev : Lev} {lof : Nat → Int} {n : Int} {st : MkSt} {q : Int × Int} (h : q ∈ (stepAll lev lof n st).sh) : q ∈ st.sh := by
  unfold stepAll at h
  have key : ∀ (l : List Nat) (st : MkSt), q ∈ (l.foldl (stepL lev lof n) st).sh → q ∈ st.sh := by
    intro l
    induction l with
    | nil => intro st h; exact h
    | cons i l ih => intro st h; exact stepL_sh (ih _ h)
  exact key _ _ h
theorem MkOk.all {st₀ st : MkSt} {k : Nat} {lev : Lev} {lof : Nat → Int} {n : Int} (l : List Nat) (h : MkOk st₀ k st) : MkOk st₀ (k + 7 * l.length) (l.foldl (Mine.stepL lev lof n) st) := by
  induction l generalizing k st with
  | nil => exact h
  | cons i l ih =>
    rw [List.foldl_cons, List.length_cons]
    exact (ih (h.stepL (lev := lev) (lof := lof) (n := n) (i := i))).le (by omega)
section
variable {lev : Lev} {lof : Nat → Int} {f : Int → Int → Int} {n : Int} {p : PS}
theorem PSOk.start (h : PSOk f n p) : MkOk (mkSt p.mv p.held (f n)) 0 (mkSt p.mv p.held (f n)) := by
  obtain ⟨h1, h2⟩ := sh_start p.mv h.mv [] fun _ hq => nomatch hq
  refine ⟨rfl, fun _ => rfl, fun q hq => ?_, ⟨Int.le_refl _, by show (0 : Int) < 128; decide⟩, ?_, Nat.le_refl _⟩
  · obtain ⟨r, hr, rfl⟩ := List.mem_map.mp hq
    exact h.held r hr
  · have := h.len
    show (p.mv.foldl shStep []).length ≤ 100
    simp at h2; omega
theorem PSOk.fin (h : PSOk f n p) : MkOk (mkSt p.mv p.held (f n)) 28 (finOf lev lof f n p) := by
  have q := (h.start).all (lev := lev) (lof := lof) (n := n) (List.range (mkSt p.mv p.held (f n)).lk.length)
  refine q.le ?_
  rw [List.length_range]
  show 0 + 7 * (p.held.map fun r => (r, f n r)).length ≤ 28
  rw [List.length_map]
  have := h.hl
  omega
theorem PSOk.sh (h : PSOk f n p) : ∀ q ∈ (finOf lev lof f n p).sh, ShOk q := fun q hq =>
  (sh_start p.mv h.mv [] fun _ hq => nomatch hq).1 q (stepAll_sh hq)
/-- a row: seven numbers, bounded -/
noncomputable def RowOk (row : List Int) : Prop := row.length = 7 ∧ ∀ x ∈ row, -2000000 < x ∧ x < 2000000
theorem RowOk.put {row : List Int} (h : RowOk row) (t : Int) {v : Int} (hv : -2000000 < v ∧ v < 2000000) : RowOk (setRow row t v) := by
  refine ⟨by unfold setRow; rw [List.length_set]; exact h.1, fun x hx => ?_⟩
  rcases List.mem_or_eq_of_mem_set hx with hx | rfl
  · exact h.2 x hx
  · exact hv
theorem RowOk.fold {α : Type} {row : List Int} (h : RowOk row) (g : List Int → α → List Int) : ∀ (l : List α), (∀ a ∈ l, ∀ r, RowOk r → RowOk (g r a)) → RowOk (l.foldl g row) := by
  intro l
  induction l generalizing row with
  | nil => intro _; exact h
  | cons a l ih => intro hg; exact ih (hg a (.head _) _ h) fun b hb => hg b (.tail _ hb)
theorem PSOk.row (h : PSOk f n p) : RowOk (row0 lev lof f n p) := by
  unfold row0 rowOf
  have ok := h.fin (lev := lev) (lof := lof)
  have hs := h.sh (lev := lev) (lof := lof)
  generalize finOf lev lof f n p = st at ok hs ⊢
  refine RowOk.fold (RowOk.fold ?_ _ _ fun q hq r hr => hr.put _ ⟨(hs q hq).2.2.1, (hs q hq).2.2.2⟩) _ _ fun t _ r hr => hr.put _ (by unfold BAR; omega)
  unfold rowLooks
  refine RowOk.fold ⟨rfl, fun x hx => by rw [List.mem_replicate] at hx; omega⟩ _ _ fun q hq r hr => RowOk.fold hr _ _ fun t _ r' hr' => hr'.put _ ?_
  have := ok.msk q (List.mem_reverse.mp hq)
  omega
theorem PSOk.defLen (h : PSOk f n p) (b : Int) : (outRow (row0 lev lof f n p) b).length = 7 := by unfold outRow; rw [List.length_map]; exact (h.row).1
end
theorem outRow_zero (row : List Int) : outRow row 0 = row := by
  unfold outRow
  conv => rhs; rw [← List.map_id row]
  refine List.map_congr_left fun x _ => ?_
  split
  · rename_i h; simpa using h.symm
  · rfl
theorem FillR.len {lev : Lev} {lof : Nat → Int} {f : Int → Int → Int} {wants : Bool} {plan : List PS} {k : Nat} {rs gs ds cs ss} (h : FillR lev lof f wants plan k rs gs ds cs ss) : rs.length = k ∧ gs.length = k ∧ ds.length = k := by
  induction h with
  | nil => exact ⟨rfl, rfl, rfl⟩
  | snoc _ _ _ ih => simp [ih]

/-! CFill -/
inductive RowsAt (S : PM) : List Value → List (List Int) → Prop
  | nil : RowsAt S [] []
  | cons {a : Addr} {o : Obj} {ws vs : List Value} {r : List Int} {rs : List (List Int)} : S a = some o → LO o ws → IntsAre ws r → RowsAt S vs rs → RowsAt S (.ref a :: vs) (r :: rs)
theorem RowsAt.mono {S S' : PM} {vs : List Value} {rs : List (List Int)} (h : RowsAt S vs rs) (l : Le S S') : RowsAt S' vs rs := by
  induction h with
  | nil => exact .nil
  | cons a b c _ ih => exact .cons (l _ _ a) b c ih
theorem RowsAt.snoc {S : PM} {vs ws : List Value} {rs : List (List Int)} {a : Addr} {o : Obj} {r : List Int} (h : RowsAt S vs rs) (h1 : S a = some o) (h2 : LO o ws) (h3 : IntsAre ws r) : RowsAt S (vs ++ [.ref a]) (rs ++ [r]) := by
  induction h with
  | nil => exact .cons h1 h2 h3 .nil
  | cons a b c _ ih => exact .cons a b c ih
theorem RowsAt.len {S : PM} {vs : List Value} {rs : List (List Int)} (h : RowsAt S vs rs) : vs.length = rs.length := by
  induction h with
  | nil => rfl
  | cons _ _ _ _ ih => simp [ih]
inductive DictsAt (prog : Program) (w : World) (S : PM) : List Value → List (List (Int × Int)) → Prop
  | nil : DictsAt prog w S [] []
  | cons {a : Addr} {o : Obj} {kvs : List (Int × Value)} {vs : List Value} {m : List (Int × Int)} {ms : List (List (Int × Int))} : S a = some o → DI prog w o kvs → KI kvs m → (a == sysModules) = false → DictsAt prog w S vs ms → DictsAt prog w S (.ref a :: vs) (m :: ms)
theorem DictsAt.mono {prog : Program} {w : World} {S S' : PM} {vs : List Value} {ms : List (List (Int × Int))} (h : DictsAt prog w S vs ms) (l : Le S S') : DictsAt prog w S' vs ms := by
  induction h with
  | nil => exact .nil
  | cons a b c d _ ih => exact .cons (l _ _ a) b c d ih
theorem DictsAt.snoc {prog : Program} {w : World} {S : PM} {vs : List Value} {ms : List (List (Int × Int))} {a : Addr} {o : Obj} {kvs : List (Int × Value)} {m : List (Int × Int)} (h : DictsAt prog w S vs ms) (h1 : S a = some o) (h2 : DI prog w o kvs) (h3 : KI kvs m) (h4 : (a == sysModules) = false) : DictsAt prog w S (vs ++ [.ref a]) (ms ++ [m]) := by
  induction h with
  | nil => exact .cons h1 h2 h3 h4 .nil
  | cons a b c d _ ih => exact .cons a b c d ih
theorem DictsAt.len {prog : Program} {w : World} {S : PM} {vs : List Value} {ms : List (List (Int × Int))} (h : DictsAt prog w S vs ms) : vs.length = ms.length := by
  induction h with
  | nil => rfl
  | cons _ _ _ _ _ ih => simp [ih]
/-- the automaton's object -/
inductive AutAt (prog : Program) (w : World) (S : PM) (ax gx : Addr) (plan : List PS) : Prop where
  | mk : ∀ sl so stvs, Inst S ax 525 [("grammar", .ref gx), ("states", .ref sl)] → S sl = some so → LO so stvs → stvs.length = plan.length → (∀ (k : Nat) p, plan[k]? = some p → ∃ sx, stvs[k]? = some (.ref sx) ∧ StaAt prog w S sx k p.mv p.held) → AutAt prog w S ax gx plan
theorem AutAt.mono {prog : Program} {w : World} {S S' : PM} {ax gx : Addr} {plan : List PS} (h : AutAt prog w S ax gx plan) (l : Le S S') : AutAt prog w S' ax gx plan := by
  obtain ⟨sl, so, stvs, h1, h2, h3, h4, h5⟩ := id h
  exact ⟨sl, so, stvs, h1.mono l, l _ _ h2, h3, h4, fun k p e => let ⟨sx, q1, q2⟩ := h5 k p e; ⟨sx, q1, q2.mono l⟩⟩
/-- what fill has made -/
inductive OutAt (prog : Program) (w : World) (S : PM) (tx gx : Addr) (rs : List (List Int)) (gs : List (List (Int × Int))) (ds : List Int) (cs ss : List Cf) : Prop where
  | mk : ∀ rw gt df cf se rvs gvs dvs cvs svs n1 n2 n3 n4 n5, TabAt' S tx gx rw gt df cf se → S rw = some (lst rvs n1) → RowsAt S rvs rs → S gt = some (lst gvs n2) → DictsAt prog w S gvs gs → S df = some (lst dvs n3) → IntsAre dvs ds → S cf = some (lst cvs n4) → CfsAt S cvs cs → S se = some (lst svs n5) → CfsAt S svs ss → OutAt prog w S tx gx rs gs ds cs ss
theorem cfl_few {st : MkSt} {n : Int} {row : List Int} (hl : st.lk.length ≤ 4) : (cflOf st n row).length ≤ 35 := by
  unfold cflOf
  have one : ∀ t, (cflAt st n row t).length ≤ 5 := fun t => by
    have hr : (rulesAt st.lk t).length ≤ 4 := by
      unfold rulesAt
      rw [List.length_map]
      exact Nat.le_trans (List.length_filter_le _ _) hl
    unfold cflAt
    rw [List.length_append, List.length_map, List.length_drop]
    have : (cfl1 st n row t (rulesAt st.lk t)).length ≤ 1 := by
      unfold cfl1; split <;> simp
    omega
  have key : ∀ (l : List Nat), (l.flatMap (cflAt st n row)).length ≤ 5 * l.length := by
    intro l
    induction l with
    | nil => exact Nat.le_refl _
    | cons t l ih => rw [List.flatMap_cons, List.length_append, List.length_cons, Nat.mul_succ, Nat.add_comm]; exact Nat.add_le_add ih (one t)
  exact Nat.le_trans (key _) (by rw [List.length_range]; decide)
theorem PSOk.lk4 {lev : Lev} {lof : Nat → Int} {f : Int → Int → Int} {n : Int} {p : PS} (h : PSOk f n p) : (finOf lev lof f n p).lk.length ≤ 4 := by
  rw [h.fin.len]
  show (p.held.map _).length ≤ 4
  rw [List.length_map]; exact h.hl
theorem FillR.few {lev : Lev} {lof : Nat → Int} {f : Int → Int → Int} {wants : Bool} {plan : List PS} {k : Nat} {rs gs ds cs ss} (h : FillR lev lof f wants plan k rs gs ds cs ss) (hok : ∀ (k : Nat) p, plan[k]? = some p → PSOk f k p) : cs.length ≤ 100 * k ∧ ss.length ≤ 100 * k := by
  induction h with
  | nil => exact ⟨Nat.le_refl _, Nat.le_refl _⟩
  | @snoc k p b rs gs ds cs ss _ hp _ ih =>
    have h1 : (finOf lev lof f k p).se.length ≤ 28 := ((hok k p hp).fin).se
    have h2 := cfl_few (n := k) (row := row0 lev lof f k p) ((hok k p hp).lk4 (lev := lev) (lof := lof))
    rw [List.length_append, List.length_append, Nat.mul_succ]
    exact ⟨Nat.add_le_add ih.1 (Nat.le_trans h2 (Nat.le_of_ble_eq_true rfl)), Nat.add_le_add ih.2 (Nat.le_trans h1 (Nat.le_of_ble_eq_true rfl))⟩
section
variable {w : World} {G : Heap} {g : Array GenState} {o : OsState} {A : Around} {E : Value → Shared → Prop} {s : Shared} {S : PM}
noncomputable abbrev pg : Program := PySem.Challenge.rw_nn0375_01.row.prog
theorem c_fill {Q : Value → Shared → Prop} {ax gx md : Addr} {wants : Bool} {tm : Tok} {lev : Lev} {lof : Nat → Int} {ex : Option Int} {f : Int → Int → Int} {plan : List PS}
   (P : Pre (cx w G g o) S s) (hA : Rm A 10) (ha : AutAt pg w S ax gx plan) (hg : GramAt pg w S gx lev lof ex) (hn : NamesAt S gx) (hm : MasksAt pg w S md f) (hok : ∀ (k : Nat) p, plan[k]? = some p → PSOk f k p) (hpl : plan.length ≤ 3)
   (hQ : ∀ tx S' s' rs gs ds cs ss, Post (cx w G g o) [] S s S' s' → FillR lev lof f wants plan plan.length rs gs ds cs ss → OutAt pg w S' tx gx rs gs ds cs ss → Q (.ref tx) s') :
   wpAny (model pg w) A (call (.ref 320) [.ref ax, .ref md, .bool wants]) Q E s := by
  refine call_ret ?_
  refine' enter (binds := [("automaton", Value.ref ax), ("masks", Value.ref md), ("with_defaults", Value.bool wants), ("mode", Value.str "lalr" 631)]) P hA ?ho ?hcd ?hbind ?hloc ?hcell ?hco ?hgen ?hk ?_
  case ho => walk_at "is"
  case hcd => walk_at "is"
  case hbind => first | exact BindsTo.of_eq rfl | exact binds_K (K := hk.heap_1 w.params) (PreC.K (by first | exact P | exact St.pre P)) rfl (by walk_at "is") rfl rfl rfl
  case hloc => exact locs rfl
  case hcell => decide
  case hco => rfl
  case hgen => rfl
  case hk => rfl
  intro A' L n₀ B s' hA' st fin
  obtain ⟨sl, so, stvs, ai, hsl, hso, hstl, hsts⟩ := id ha
  repeat' (first | walk1 | (dsimp only; walk1))
  rename_i rw _ hrw _ gt _ hgt _ df _ hdf _ cf _ hcf _ se _ hse _ st1
  refine for_in ?_ (fun _ => rfl)
  repeat' (first | walk1 | (dsimp only; walk1))
  let J1 : Nat → PM → List (Addr × Obj) → (Str → Option Value) → Prop := fun i S' M ρ => ∀ GG : Prop, (Le S S' → ρ "automaton" = some (.ref ax) → ρ "masks" = some (.ref md) → ρ "with_defaults" = some (.bool wants) → ρ "mode" = some (.str "lalr" 631) → ρ "rows" = some (.ref rw) → ρ "gotos" = some (.ref gt) → ρ "defaults" = some (.ref df) → ρ "conflicts" = some (.ref cf) → ρ "settled" = some (.ref se) → ∀ rvs gvs dvs cvs svs n1 n2 n3 n4 n5 rs gs ds cs ss, M = [(se, lst svs n5), (cf, lst cvs n4), (df, lst dvs n3), (gt, lst gvs n2), (rw, lst rvs n1)] → FillR lev lof f wants plan i rs gs ds cs ss → RowsAt S' rvs rs → DictsAt pg w S' gvs gs → IntsAre dvs ds → CfsAt S' cvs cs → CfsAt S' svs ss → GG) → GG
  refine loop_list (vs := stvs) J1 st1 hA'.hh hsl hso rfl rfl rfl
    (fun _ kk => kk (Le.refl _) rfl rfl rfl rfl rfl rfl rfl rfl rfl [] [] [] [] [] 0 0 0 0 0 [] [] [] [] [] rfl .nil .nil .nil .nil .nil .nil) ?_ ?_
  · intro i v B' S' M' ρ' s2 hv le hJ st2
    refine hJ _ ?_
    clear hJ
    rintro le' e1 e2 e3 e4 e5 e6 e7 e8 e9 rvs gvs dvs cvs svs n1 n2 n3 n4 n5 rs gs ds cs ss eM hF hR hG hD hC hS
    subst eM
    have hi : i < plan.length := by rw [← hstl]; exact (List.getElem?_eq_some_iff.mp hv).1
    obtain ⟨p, hp⟩ : ∃ p, plan[i]? = some p := ⟨plan[i], by simp [hi]⟩
    obtain ⟨sx, hsx, hsta⟩ := hsts i p hp
    rw [hv] at hsx
    cases hsx
    have pok := hok i p hp
    have hga := hg.mono le'
    have hma := hm.mono le'
    have hsta' := hsta.mono le'
    repeat' (first | walk1 | (dsimp only; walk1))
    refine c_maker (n := i) (f := f) (by assumption) (Rm.le hA' (by decide)) hga hsta' hma pok.len pok.hl (fun q hq => (pok.mv q hq).1) fun mx dx sh gt2 lk se2 las e0 S3 s3 N le3 st3 hmx hlk hshm hgt2 hMk hNf => ?_
    clear st2
    obtain ⟨es3, ne3, osh3, kvs3, cs3, k3, LM3, eN, ⟨u1, u2, ez3⟩, hd3, hk3, hc3, hL3⟩ := id hMk
    subst eN
    have hM3 : MkM pg w S3 gx dx sh gt2 lk se2 i las [(se, lst svs n5), (cf, lst cvs n4), (df, lst dvs n3), (gt, lst gvs n2), (rw, lst rvs n1)] ((dx, dictOf es3 ne3) :: (sh, osh3) :: (se2, lst cs3 k3) :: (LM3 ++ [(se, lst svs n5), (cf, lst cvs n4), (df, lst dvs n3), (gt, lst gvs n2), (rw, lst rvs n1)])) (mkSt p.mv p.held (f i)) :=
      ⟨es3, ne3, osh3, kvs3, cs3, k3, LM3, rfl, ⟨u1, u2, ez3⟩, hd3, hk3, hc3, hL3⟩
    have st3' : St (cx w G g o) S n₀ B' S3 ((dx, dictOf es3 ne3) :: (sh, osh3) :: (se2, lst cs3 k3) :: (LM3 ++ [(se, lst svs n5), (cf, lst cvs n4), (df, lst dvs n3), (gt, lst gvs n2), (rw, lst rvs n1)])) L (up ρ' "state" (.ref sx)) s3 := by
      have := st3
      simpa using this
    clear st3
    repeat' (first | walk1 | (dsimp only; walk1))
    refine c_levels (n := i) (by assumption) (Rm.le hA' (by decide)) (hga.mono le3) hmx hlk hshm hM3 pok.start (by show (p.held.map _).length ≤ 4; rw [List.length_map]; exact pok.hl) fun S4 s4 M4 le4 st4 hM4 => ?_
    clear ez3 hd3 hk3 hc3
    obtain ⟨es4, ne4, osh4, kvs4, cs4, k4, LM4, eM4, ⟨u3, u4, ez4⟩, hd4, hk4, hc4, hL4⟩ := id hM4
    subst eM4
    have hfr : ∀ q ∈ (dx, dictOf es4 ne4) :: (sh, osh4) :: (se2, lst cs4 k4) :: LM4, n₀ ≤ q.1 := by
      have hk := MkM.keys hMk (S' := S4) (st' := stepAll lev lof i (mkSt p.mv p.held (f i))) (M' := (dx, dictOf es4 ne4) :: (sh, osh4) :: (se2, lst cs4 k4) :: (LM4 ++ [])) ⟨es4, ne4, osh4, kvs4, cs4, k4, LM4, rfl, ⟨u3, u4, ez4⟩, hd4, hk4, hc4, hL4⟩
      intro q hq
      rw [List.append_nil] at hk
      have h1 : q.1 ∈ ((dx, dictOf es4 ne4) :: (sh, osh4) :: (se2, lst cs4 k4) :: LM4).map (·.1) := List.mem_map_of_mem (f := (·.1)) hq
      rw [hk] at h1
      obtain ⟨q', hq', e⟩ := List.mem_map.mp h1
      rw [← e]; exact hNf q' hq'
    obtain ⟨S5, le5, hfz, st5⟩ := StC.freezeAll ((dx, dictOf es4 ne4) :: (sh, osh4) :: (se2, lst cs4 k4) :: LM4) (M := [(se, lst svs n5), (cf, lst cvs n4), (df, lst dvs n3), (gt, lst gvs n2), (rw, lst rvs n1)]) st4 hfr
    obtain ⟨ogt, ggv, g1, g2, g3, g4⟩ := hgt2
    have le35 : Le S3 S5 := le4.trans le5
    have hF5 : MkF pg w S5 mx gx i (finOf lev lof f i p) (p.mv.foldl gtStep []) :=
      ⟨es4, dx, ne4, sh, gt2, lk, se2, u3, u4, osh4, kvs4, ogt, ggv, cs4, k4, las, e0, LM4, le35 _ _ hmx, hfz _ (.head _), ez4, hfz _ (.tail _ (.head _)), hd4, hk4, hshm, le35 _ _ g1, g2, g3, g4, hfz _ (.tail _ (.tail _ (.head _))), hc4.mono le5, le35 _ _ hlk, hL4, fun q hq => hfz q (.tail _ (.tail _ (.tail _ hq)))⟩
    have mi : Inst S5 mx 296 _ := ⟨dx, es4, ne4, le35 _ _ hmx, hfz _ (.head _), ez4⟩
    have hse5 : S5 se2 = some (lst cs4 k4) := hfz _ (.tail _ (.tail _ (.head _)))
    have leA : Le S' S5 := le3.trans le35
    have hg5 := hga.mono leA
    clear ez4 hd4 hM3 hM4 hMk hk4 hL4 st4
    repeat' (first | walk1 | (dsimp only; walk1))
    have few := hF.few hok
    have hlens := hF.len
    have fin5 := pok.fin (lev := lev) (lof := lof)
    have rok := pok.row (lev := lev) (lof := lof)
    have hlk4 : (mkSt p.mv p.held (f i)).lk.length ≤ 4 := by show (p.held.map _).length ≤ 4; rw [List.length_map]; exact pok.hl
    refine c_row (n := i) (St.pre st5) (Rm.le hA' (by decide)) hF5 hg5 fin5 (fun q hq => ⟨(pok.sh q hq).1, (pok.sh q hq).2.1⟩) fun ra rvs0 S6 s6 P6 hra hri => ?_
    have st7 := StC.call st5 P6
    have le6 := P6.le
    clear st5 P6
    have hF6 := hF5.mono le6
    have mi6 := mi.mono le6
    repeat' (first | walk1 | (dsimp only; walk1))
    rename_i st8
    refine c_cfl (n := i) (St.pre st8) (Rm.le hA' (by decide)) hF6 (hg5.mono le6) fin5 hlk4 hra hri rok.1 fun ca cvs0 cn S7 s7 P7 hca hcc => ?_
    have st9 := StC.call st8 P7
    have le7 := P7.le
    clear st8 P7
    have mi7 := mi6.mono le7
    have hse7 : S7 se2 = some (lst cs4 k4) := le7 _ _ (le6 _ _ hse5)
    have hi3 : i ≤ 3 := Nat.le_trans (Nat.le_of_lt hi) hpl
    have hi100 : i ≤ 100 := Nat.le_trans hi3 (Nat.le_of_ble_eq_true rfl)
    have hz1 : cvs.length + cvs0.length ≤ sizeLine := by
      have a1 := hC.len
      have a2 := hcc.len
      have a3 := cfl_few (n := i) (row := row0 lev lof f i p) (pok.lk4 (lev := lev) (lof := lof))
      have a4 : cvs0.length ≤ 35 := by rw [a2]; exact a3
      rw [sizeLine_eq, a1]; exact Nat.le_trans (Nat.add_le_add (Nat.le_trans few.1 (Nat.mul_le_mul_left 100 hi3)) a4) (Nat.le_of_ble_eq_true rfl)
    have hz2 : svs.length + cs4.length ≤ sizeLine := by
      have a1 := hS.len
      have a2 : cs4.length ≤ 28 := by rw [hc4.len]; exact fin5.se
      rw [sizeLine_eq, a1]; exact Nat.le_trans (Nat.add_le_add (Nat.le_trans few.2 (Nat.mul_le_mul_left 100 hi3)) a2) (Nat.le_of_ble_eq_true rfl)
    have hz3 : rvs.length ≤ 100 := by rw [hR.len, hlens.1]; exact hi100
    have hz4 : gvs.length ≤ 100 := by rw [hG.len, hlens.2.1]; exact hi100
    have hz5 : dvs.length ≤ 100 := by rw [hD.length, hlens.2.2]; exact hi100
    obtain ⟨ro, hro, hrl⟩ := hra
    have hro7 : S7 ra = some ro := le7 _ _ hro
    have leB : Le S5 S7 := le6.trans le7
    have leC : Le S' S7 := leA.trans leB
    have hgt7 : S7 gt2 = some ogt := leB _ _ (le35 _ _ g1)
    repeat' (first | walk1 | (dsimp only; walk1))
    · rename_i st10 hw
      refine c_def (row := row0 lev lof f i p) (St.pre st10) (Rm.le hA' (by decide)) ⟨ro, hro7, hrl⟩ hri rok.1 rok.2 fun b tb S8 s8 P8 hb => ?_
      have st11 := StC.call st10 P8
      have le8 := P8.le
      clear st10 P8
      have mi8 := mi7.mono le8
      have hdef : DefOk wants (row0 lev lof f i p) b := by unfold DefOk; rw [if_pos hw]; exact hb
      have hro8 : S8 ra = some ro := le8 _ _ hro7
      repeat' (first | walk1 | (dsimp only; walk1))
      · rename_i st12 hb0
        refine c_without (row := row0 lev lof f i p) (St.pre st12) (Rm.le hA' (by decide)) ⟨ro, hro8, hrl⟩ hri rok.1 fun wa wvs wn S9 s9 P9 hwa hwi => ?_
        have st13 := StC.call st12 P9
        have le9 := P9.le
        clear st12 P9
        have mi9 := mi8.mono le9
        repeat' (first | walk1 | (dsimp only; walk1))
        rename_i st14
        have leD : Le S7 S9 := le8.trans le9
        exact LEnd.next st14 (leC.trans leD) (fun _ kk => kk (le'.trans (leC.trans leD)) e1 e2 e3 e4 e5 e6 e7 e8 e9 _ _ _ _ _ _ _ _ _ _ _ _ _ _ _ rfl (hF.snoc hp hdef) ((hR.mono (leC.trans leD)).snoc hwa (LO.lst _ _) hwi) ((hG.mono (leC.trans leD)).snoc (leD _ _ hgt7) g2 g3 g4) (hD.append (.cons _ _ .nil)) (((hC.mono leC).app hcc).mono leD) (((hS.mono leC).app (hc4.mono (le5.trans leB))).mono leD))
      · rename_i hb0 _ _ _ st14
        subst hb0
        exact LEnd.next st14 (leC.trans le8) (fun _ kk => kk (le'.trans (leC.trans le8)) e1 e2 e3 e4 e5 e6 e7 e8 e9 _ _ _ _ _ _ _ _ _ _ _ _ _ _ _ rfl (hF.snoc hp hdef) ((hR.mono (leC.trans le8)).snoc hro8 hrl (by rw [outRow_zero]; exact hri)) ((hG.mono (leC.trans le8)).snoc (le8 _ _ hgt7) g2 g3 g4) (hD.append (.cons _ _ .nil)) (((hC.mono leC).app hcc).mono le8) (((hS.mono leC).app (hc4.mono (le5.trans leB))).mono le8))
    · rename_i hw _ _ _ st14
      have hdef : DefOk wants (row0 lev lof f i p) 0 := by unfold DefOk; rw [if_neg (by rw [hw]; decide)]
      exact LEnd.next st14 leC (fun _ kk => kk (le'.trans leC) e1 e2 e3 e4 e5 e6 e7 e8 e9 _ _ _ _ _ _ _ _ _ _ _ _ _ _ _ rfl (hF.snoc hp hdef) ((hR.mono leC).snoc hro7 hrl (by rw [outRow_zero]; exact hri)) ((hG.mono leC).snoc hgt7 g2 g3 g4) (hD.append (.cons _ _ .nil)) ((hC.mono leC).app hcc) ((hS.mono leC).app (hc4.mono (le5.trans leB))))
  · intro S2 M2 ρ2 s2 le2 hJ st2
    refine hJ _ ?_
    clear hJ
    rintro le3 e1 e2 e3 e4 e5 e6 e7 e8 e9 rvs gvs dvs cvs svs n1 n2 n3 n4 n5 rs gs ds cs ss eM hF hR hG hD hC hS
    subst eM
    rw [hstl] at hF
    obtain ⟨S3, le4, hfz, st3⟩ := StC.freezeAll [(se, lst svs n5), (cf, lst cvs n4), (df, lst dvs n3), (gt, lst gvs n2), (rw, lst rvs n1)] (M := []) st2 (by
      intro q hq
      simp only [List.mem_cons, List.not_mem_nil, or_false] at hq
      rcases hq with rfl | rfl | rfl | rfl | rfl <;> assumption)
    have ai3 := ai.mono (le3.trans le4)
    clear st2
    repeat' (first | walk1 | (dsimp only; walk1))
    refine c_tables (St.pre st3) (Rm.le hA' (by decide)) (hg.mono (le3.trans le4)) (hn.mono (le3.trans le4)) fun tx S4 s4 P4 hT => ?_
    have st5 := StC.call st3 P4
    have le5 := P4.le
    have le6 : Le S2 S4 := le4.trans le5
    have q5 : S3 se = some (lst svs n5) := hfz (se, lst svs n5) (.head _)
    have q4 : S3 cf = some (lst cvs n4) := hfz (cf, lst cvs n4) (.tail _ (.head _))
    have q3 : S3 df = some (lst dvs n3) := hfz (df, lst dvs n3) (.tail _ (.tail _ (.head _)))
    have q2 : S3 gt = some (lst gvs n2) := hfz (gt, lst gvs n2) (.tail _ (.tail _ (.tail _ (.head _))))
    have q1 : S3 rw = some (lst rvs n1) := hfz (rw, lst rvs n1) (.tail _ (.tail _ (.tail _ (.tail _ (.head _)))))
    walk1
    refine hQ tx S4 s4 rs gs ds cs ss (fin _ _ _ _ st5 (le3.trans le6)) hF ⟨rw, gt, df, cf, se, rvs, gvs, dvs, cvs, svs, n1, n2, n3, n4, n5, hT, le5 _ _ q1, hR.mono le6, le5 _ _ q2, hG.mono le6, le5 _ _ q3, hD, le5 _ _ q4, hC.mono le6, le5 _ _ q5, hS.mono le6⟩
end

/-! L6 -/

theorem words_L6 : True := by
  k_with "call ref" => ((show wpAny _ _ (call (Value.ref 537) _) _ _ _); (rename StC _ _ _ _ _ _ _ _ _ _ _ => stz); k_dflt (refine' c_at (St.pre stz) ?r ?k1 ?k2 ?k3 ?k4 ?k5 ?k6 ?k7 ?_; (case r => walk_at "room"); (case k1 => exact ⟨_, by walk_at "S", by assumption⟩); (case k2 => assumption); (case k3 => assumption); (case k4 => first | with_reducible assumption | omega | decide); (case k5 => first | with_reducible assumption | omega | decide); (case k6 => decide); (case k7 => decide)); intro _ _ _ P'; have _ := StC.call stz P'; have _ := PostC.le P'; clear stz P')
  k_with "subscriptTail" => (k_dflt (first
  | (refine' listTailI ?k1 ?k2 ?k3 ?k4 ?k5 ?k6 ?_; (case k1 => walk_at "H"); (case k2 => first | assumption | exact LO.lst _ _); (case k3 => assumption); (case k4 => first | with_reducible assumption | omega | decide); (case k5 => first | with_reducible assumption | omega | decide); (case k6 => first | with_reducible assumption | omega | decide); intro u')
  | (refine' listTail ?k1 ?k2 ?k3 ?k4 ?k5 ?_; (case k1 => walk_at "H"); (case k2 => first | assumption | exact LO.lst _ _); (case k3 => first | with_reducible assumption | omega | decide); (case k4 => first | with_reducible assumption | omega | decide); (case k5 => first | assumption | rfl))
  | (refine' tupTail ?k1 ?k2 ?k3 ?k4 ?k5 ?_; (case k1 => walk_at "H"); (case k2 => first | assumption | exact TO.tup _ _); (case k3 => first | with_reducible assumption | omega | decide); (case k4 => first | with_reducible assumption | omega | decide); (case k5 => first | assumption | rfl))
  | (refine' tupTailI ?k1 ?k2 ?k3 ?k4 ?k5 ?k6 ?_; (case k1 => walk_at "H"); (case k2 => first | assumption | exact TO.tup _ _); (case k3 => first | assumption | repeat (first | exact IntsAre.nil | refine IntsAre.cons _ _ ?_)); (case k4 => first | with_reducible assumption | omega | decide); (case k5 => first | with_reducible assumption | omega | decide | (simp; omega)); (case k6 => first | with_reducible assumption | omega | decide); intro _)
  | (refine' dictTail ?k1 ?k2 ?k3 ?_; (case k1 => walk_at "H"); (case k2 => assumption); (case k3 => assumption))))
  k_with "binaryOp FloorDiv int int" => (refine' floordiv_int ?k1 ?_ (Or.inl (PyProof.noPylong_small ?k2)); (case k1 => with_reducible assumption); (case k2 => with_reducible assumption))
  k_with "tkeys" => first | assumption | exact fun x hx => TKey.mono ((by assumption : ∀ x ∈ _, TKey _ x.2.1 x.1) x hx) (by walk_at "le")
  k_with "setItem ref ref" => ((rename StC _ _ _ _ _ _ _ _ _ _ _ => stz); k_dflt (refine' maskSet stz ?k0 ?k1 ?k2 ?k3 ?k4 ?k5 ?_; (case k0 => assumption); (case k1 => walk_at "UF"); (case k2 => assumption); (case k3 => walk_at "tkeys"); (case k4 => walk_at "tkey"); (case k5 => first | with_reducible assumption | (simp only [sizeLine_eq]; omega))); clear stz; intro _ _ _ _)
  trivial


/-! CLg -/
noncomputable def sideOf (j : Int) : Str := if j = 0 then "left" else if j = 1 then "right" else if j = 2 then "nonassoc" else "precedence"
/-- a terminal's level, by its place among the four -/
noncomputable def levAt (ns : List Int) (i : Int) : Option (Int × Str) := if lawAt ns i 3 > 0 then some (lawAt ns i 3, sideOf (lawAt ns (3 + lawAt ns i 3) 4)) else none
noncomputable def levTo (ns : List Int) (i : Nat) (t : Int) : Option (Int × Str) := if 3 ≤ t ∧ t < 3 + (i : Int) then levAt ns (t - 3) else none
noncomputable def levOf (ns : List Int) : Lev := levTo ns 4
noncomputable def lofOf (ns : List Int) (r : Nat) : Int := if r = 0 then -1 else if lawAt ns (6 + ((r : Int) - 1)) 5 < 4 then 6 - lawAt ns (6 + ((r : Int) - 1)) 5 else -1
noncomputable def exOf (ns : List Int) : Option Int := if lawAt ns 10 6 > 2 then none else some (lawAt ns 10 6)
theorem valueAt_stored (kvs : List (Int × Value)) (k t : Int) (v : Value) : valueAt (stored kvs k v) t = if t = k then some v else valueAt kvs t := by
  unfold stored
  split
  · rename_i h
    induction kvs with
    | nil => simp at h
    | cons p kvs ih =>
      unfold valueAt at ih ⊢
      simp only [List.map_cons, List.find?_cons]
      by_cases e : p.1 = k
      · simp only [if_pos e]
        by_cases e2 : t = k
        · simp [e, e2]
        · have e3 : ¬ p.1 = t := fun q => e2 (q.symm.trans e)
          simp only [decide_eq_false e3, if_neg e2]
          by_cases h' : (kvs.any fun kv => decide (kv.1 = k)) = true
          · rw [ih h', if_neg e2]
          · have : kvs.map (fun kv => if kv.1 = k then (kv.1, v) else kv) = kvs := by
              conv => rhs; rw [← List.map_id kvs]
              refine List.map_congr_left fun q hq => ?_
              rw [if_neg fun e => h' (List.any_eq_true.mpr ⟨q, hq, by simpa using e⟩)]; rfl
            rw [this]
      · simp only [if_neg e]
        have h' : (kvs.any fun kv => decide (kv.1 = k)) = true := by simpa [e] using h
        by_cases e3 : p.1 = t
        · have e2 : ¬ t = k := fun q => e (e3.trans q)
          simp [e3, e2]
        · simp only [decide_eq_false e3]
          exact ih h'
  · rename_i h
    unfold valueAt
    rw [List.find?_append]
    by_cases e2 : t = k
    · subst e2
      have : (kvs.find? fun kv => decide (kv.1 = t)) = none := List.find?_eq_none.mpr fun q hq e => h (List.any_eq_true.mpr ⟨q, hq, e⟩)
      simp [this]
    · have e3 : ¬ k = t := fun q => e2 q.symm
      simp [e2, e3]
theorem lt4 {j : Int} (h0 : 0 ≤ j) (h1 : j < 4) : j = 0 ∨ j = 1 ∨ j = 2 ∨ j = 3 := by
  obtain ⟨n, rfl⟩ := Int.eq_ofNat_of_zero_le h0
  exact (by decide : ∀ n : Fin 4, (n.val : Int) = 0 ∨ (n.val : Int) = 1 ∨ (n.val : Int) = 2 ∨ (n.val : Int) = 3) ⟨n, Int.ofNat_lt.mp h1⟩
section
variable {prog : Program} {w : World} {G : Heap} {g : Array GenState} {o : OsState} {A : Around} {E : Value → Shared → Prop} {s : Shared} {S : PM}
theorem c_lgram {Q : Value → Shared → Prop} {l : Addr} {vs : List Value} {ns : List Int} (P : Pre (cx w G g o) S s) (hA : Rm A 8) (hl : ∃ lo, S l = some lo ∧ LO lo vs) (hi : IntsAre vs ns) (hn : ns.length ≤ 63)
   (hQ : ∀ gx S' s', Post (cx w G g o) [] S s S' s' → GramAt prog w S' gx (levOf ns) (lofOf ns) (exOf ns) → NamesAt S' gx → Q (.ref gx) s') : wpAny (model prog w) A (call (.ref 544) [.ref l]) Q E s := by
  refine call_ret ?_
  refine' enter (binds := [("script", Value.ref l)]) P hA ?ho ?hcd ?hbind ?hloc ?hcell ?hco ?hgen ?hk ?_
  case ho => walk_at "is"
  case hcd => walk_at "is"
  case hbind => first | exact BindsTo.of_eq rfl | exact binds_K (K := hk.heap_1 w.params) (PreC.K (by first | exact P | exact St.pre P)) rfl (by walk_at "is") rfl rfl rfl
  case hloc => exact locs rfl
  case hcell => decide
  case hco => rfl
  case hgen => rfl
  case hk => rfl
  intro A' L n₀ B s' hA' st fin
  obtain ⟨lo, hl, hlo⟩ := hl
  obtain ⟨so, hso, hsT⟩ : ∃ so, S 530 = some so ∧ TO so [Value.str "left" 957, .str "right" 958, .str "nonassoc" 959, .str "precedence" 960] := by
    have q : (hk.heap_1 w.params).lookup 530 = some { cls := .type "tuple", data := .seq #[Value.str "left" 957, .str "right" 958, .str "nonassoc" 959, .str "precedence" 960] 0 } := by walk_at "is"
    exact ⟨_, P.gs _ _ (P.gd.X _ _ q), rfl, _, rfl⟩
  walk_at "go"
  rename_i ld od _ hld hldm hldd _ _ st1
  refine for_in ?_ (fun _ => rfl)
  walk_at "go"
  rename_i hr
  let J1 : Nat → PM → List (Addr × Obj) → (Str → Option Value) → Prop := fun i S' M ρ => ∀ GG : Prop, (Le S S' → ρ "script" = some (.ref l) → ρ "levels" = some (.ref ld) → ∀ od kvs, M = [(ld, od)] → DI prog w od kvs → kvs.length ≤ i → (∀ t, match levTo ns i t with | none => valueAt kvs t = none | some (n, sd) => ∃ a t1 t2 e, valueAt kvs t = some (.ref a) ∧ S' a = some (tup [.int n t1, .str sd t2] e)) → GG) → GG
  refine loop_range (n := 4) J1 (by assumption) hA'.hh hr rfl rfl rfl rfl rfl (fun _ kk => kk (Le.refl _) rfl rfl od [] rfl hldd (Nat.le_refl _) (fun t => ?_)) ?_ ?_
  · have : levTo ns 0 t = none := by unfold levTo; rw [if_neg]; omega
    rw [this]; rfl
  · clear hldd
    intro i tk B2 S2 M2 ρ2 s2 hi4 le2 hJ st2
    refine hJ _ ?_
    clear hJ
    rintro le3 r1 r2 od kvs eM hod hkl hlv
    subst eM
    have hkz : kvs.length ≤ 100 := by omega
    have b1 := lawAt_bound ns (i : Int) (m := 3) (by decide)
    have b2 := lawAt_bound ns (3 + lawAt ns i 3) (m := 4) (by decide)
    have hso' : S2 530 = some so := le3 _ _ hso
    have hside : [Value.str "left" 957, .str "right" 958, .str "nonassoc" 959, .str "precedence" 960][(lawAt ns (3 + lawAt ns i 3) 4).toNat]? = some (.str (sideOf (lawAt ns (3 + lawAt ns i 3) 4)) (957 + (lawAt ns (3 + lawAt ns i 3) 4).toNat)) := by
      generalize lawAt ns (3 + lawAt ns i 3) 4 = j at b2
      obtain rfl | rfl | rfl | rfl : j = 0 ∨ j = 1 ∨ j = 2 ∨ j = 3 := lt4 b2.1 b2.2
      all_goals rfl
    walk_at "go"
    · rename_i S3 _ t3 le3' _ hpos S4 _ t4 le4 ta S6 _ le6 hta od' _ hod' st6
      refine LEnd.next st6 (by walk_at "le") (fun _ kk => kk (by walk_at "le") r1 r2 od' _ rfl hod' (Nat.le_trans (stored_length_le _ _ _) (by omega)) (fun t => ?_))
      rw [valueAt_stored]
      by_cases q : t = 3 + (i : Int)
      · rw [if_pos q]
        have e9 : levTo ns (i + 1) t = some (lawAt ns i 3, sideOf (lawAt ns (3 + lawAt ns i 3) 4)) := by
          unfold levTo
          rw [if_pos (by omega)]
          unfold levAt
          rw [show t - 3 = (i : Int) by omega, if_pos hpos]
        rw [e9]
        exact ⟨_, _, _, _, rfl, hta⟩
      · rw [if_neg q]
        have e9 : levTo ns (i + 1) t = levTo ns i t := by
          unfold levTo
          by_cases q2 : 3 ≤ t ∧ t < 3 + (i : Int)
          · rw [if_pos (by omega), if_pos q2]
          · rw [if_neg (by omega), if_neg q2]
        have hlt := hlv t
        rw [e9]
        split at hlt
        · exact hlt
        · obtain ⟨a, t1, t2, e, q1, q2⟩ := hlt
          exact ⟨a, t1, t2, e, q1, by walk_at "S"⟩
    · rename_i S3 _ t3 le4 _ st4 hpos
      refine LEnd.next st4 le4 (fun _ kk => kk (le3.trans le4) r1 r2 od kvs rfl hod (by omega) (fun t => ?_))
      have hlt := hlv t
      have e9 : levTo ns (i + 1) t = levTo ns i t := by
        unfold levTo
        by_cases q : t = 3 + (i : Int)
        · rw [if_pos (by omega), if_neg (by omega)]
          unfold levAt
          rw [if_neg]
          rw [show t - 3 = (i : Int) by omega]; exact hpos
        · by_cases q2 : 3 ≤ t ∧ t < 3 + (i : Int)
          · rw [if_pos (by omega), if_pos q2]
          · rw [if_neg (by omega), if_neg q2]
      rw [e9]
      split at hlt
      · exact hlt
      · obtain ⟨a, t1, t2, e, q1, q2⟩ := hlt
        exact ⟨a, t1, t2, e, q1, le4 _ _ q2⟩
  · intro S2 M2 ρ2 s2 le2 hJ st2
    refine hJ _ ?_
    clear hJ
    rintro le3 r1 r2 od kvs eM hod hkl hlv
    subst eM
    walk_at "go"
    rename_i ta S3 _ le4 hta st3
    refine c_rule3 (St.pre st3) (Rm.le hA' (by decide)) hta (by show (2 : Nat) < 100; decide) fun r0 S4 s4 P4 hr0 => ?_
    have st4 := StC.call st3 P4
    have le5 := P4.le
    clear st3 P4
    obtain ⟨xs0, i0, i1, i2, i3, i4, i5⟩ := hr0
    have hR0 : RuleIn S4 r0 0 7 (-1) := ⟨xs0, ta, _, _, i0, i1, i2, by decide, by decide, i3, le5 _ _ hta, by show (2 : Nat) < 10; decide, i4, i5⟩
    walk_at "go"
    rename_i rl _ hrl _ st5
    refine for_in ?_ (fun _ => rfl)
    walk_at "go"
    rename_i st9 hr2
    have leA : Le S S4 := le3.trans (le4.trans le5)
    let J2 : Nat → PM → List (Addr × Obj) → (Str → Option Value) → Prop := fun i S' M ρ => ∀ GG : Prop, (Le S4 S' → ρ "script" = some (.ref l) → ρ "levels" = some (.ref ld) → ρ "rules" = some (.ref rl) → ∀ rvs n, M = [(rl, lst rvs n), (ld, od)] → rvs.length = i + 1 → (∀ r : Nat, r ≤ i → ∃ a n lf, rvs[r]? = some (.ref a) ∧ RuleIn S' a n lf (lofOf ns r)) → GG) → GG
    refine loop_range (n := 4) J2 st9 hA'.hh hr2 rfl rfl rfl rfl rfl (fun _ kk => kk (Le.refl _) r1 r2 rfl ([.ref r0]) 0 rfl rfl (fun r hr => ?_)) ?_ ?_
    · have : r = 0 := by omega
      subst this
      exact ⟨r0, 0, 7, rfl, hR0⟩
    · intro i tk B2 S5 M5 ρ5 s5 hi4 le6 hJ st6
      refine hJ _ ?_
      clear hJ
      rintro le7 q1 q2 q3 rvs n eM hrl' hrs
      subst eM
      have hkz : rvs.length ≤ 100 := by omega
      have hl5 : S5 l = some lo := le7 _ _ (leA _ _ hl)
      walk_at "go"
      rename_i ta S6 _ le8 hta st7
      have f0 : 0 ≤ (i : Int).fmod 3 ∧ (i : Int).fmod 3 < 3 := ⟨Int.fmod_nonneg_of_pos _ (by decide), Int.fmod_lt_of_pos _ (by decide)⟩
      have f1 : 0 ≤ (i : Int).fmod 2 ∧ (i : Int).fmod 2 < 2 := ⟨Int.fmod_nonneg_of_pos _ (by decide), Int.fmod_lt_of_pos _ (by decide)⟩
      refine sliceTU st7 hta f0.1 (Int.lt_add_one_iff.mp f0.2) (by show 2 ≤ _; rw [sizeLine_eq]; omega) fun rt re S7 s7 le9 hrt st8 => ?_
      clear st7
      have hl7 : S7 l = some lo := le9 _ _ (le8 _ _ hl5)
      have le57 : Le S5 S7 := le8.trans le9
      clear hl5 hl
      repeat' ((fail_if_success (with_reducible show wpAny _ _ (eval (Expr.IfExp _ _ _ _) _) _ _ _)); first | walk1 | (dsimp only; walk1))
      have e0 : lofOf ns (i + 1) = if lawAt ns (6 + (i : Int)) 5 < 4 then 6 - lawAt ns (6 + (i : Int)) 5 else -1 := by
        unfold lofOf
        rw [if_neg (Nat.succ_ne_zero i)]
        have : (6 + (((i + 1 : Nat) : Int) - 1)) = 6 + (i : Int) := by omega
        rw [this]
      refine cutE (fun v => ∃ t, v = .int (lofOf ns (i + 1)) t) st8 ?_ ?_
      · walk_at "go"
        · rename lawAt _ _ _ < 4 => hlv
          (rename StC _ _ _ _ _ _ _ _ _ _ _ => st9)
          exact MidE.of st9 (by walk_at "le") (by rw [e0, if_pos hlv]; exact ⟨_, rfl⟩)
        · rename ¬ lawAt _ _ _ < 4 => hlv
          (rename StC _ _ _ _ _ _ _ _ _ _ _ => st9)
          exact MidE.of st9 (by walk_at "le") (by rw [e0, if_neg hlv]; exact ⟨_, rfl⟩)
      · rintro _ S8 s8 le10 ⟨t8, rfl⟩ st9
        clear st8
        try dsimp only
        walk_at "go"
        have hrt9 := le10 _ _ hrt
        refine c_rule (St.pre st9) (Rm.le hA' (by decide)) hrt9 (by rw [List.length_take]; exact Nat.lt_of_le_of_lt (Nat.min_le_right _ _) (Nat.le_of_ble_eq_true rfl)) fun ra S9 s9 P9 hra => ?_
        have st10 := StC.call st9 P9
        have le12 := P9.le
        clear st9 P9
        obtain ⟨xs1, i0, i1, i2, i3, i4, i5⟩ := hra
        have le59 : Le S5 S9 := (le57.trans le10).trans le12
        have hR1 : RuleIn S9 ra ((i : Int) + 1) (8 + (i : Int).fmod 2) (lofOf ns (i + 1)) :=
          ⟨xs1, rt, _, _, i0, i1, i2, Int.add_nonneg (by decide) f1.1, Int.lt_of_lt_of_le (Int.add_lt_add_left f1.2 8) (by decide), i3, le12 _ _ hrt9, by rw [List.length_take]; exact Nat.lt_of_le_of_lt (Nat.min_le_right _ _) (Nat.le_of_ble_eq_true rfl), i4, i5⟩
        walk_at "go"
        rename_i st11
        refine LEnd.next st11 le59 (fun _ kk => kk (le7.trans le59) q1 q2 q3 _ _ rfl (by rw [List.length_append, hrl']; rfl) (fun r hr => ?_))
        by_cases hq : r ≤ i
        · obtain ⟨a, n, lf, h1, h2⟩ := hrs r hq
          exact ⟨a, n, lf, by rw [List.getElem?_append_left (hrl' ▸ Nat.lt_succ_of_le hq)]; exact h1, h2.mono le59⟩
        · have : r = i + 1 := Nat.le_antisymm hr (Nat.succ_le_of_lt (Nat.lt_of_not_le hq))
          subst this
          exact ⟨ra, _, _, by rw [List.getElem?_append_right (Nat.le_of_eq hrl'), hrl']; simp, hR1⟩
    · intro S5 M5 ρ5 s5 le6 hJ st6
      refine hJ _ ?_
      clear hJ
      rintro le7 q1 q2 q3 rvs n eM hrl' hrs
      subst eM
      have hl5 : S5 l = some lo := le7 _ _ (leA _ _ hl)
      clear hl
      repeat' ((fail_if_success (with_reducible show wpAny _ _ (eval (Expr.IfExp _ _ _ _) _) _ _ _)); first | walk1 | (dsimp only; walk1))
      (rename StC _ _ _ _ _ _ _ _ _ _ _ => st6)
      rename_i nl _ hnl _ S6 _ tw le8 _
      refine' cutE (fun v => match exOf ns with | none => v = Value.none | some i => ∃ t, v = Value.int i t) ?cst ?ch ?ck
      case cst => exact st6
      case ch =>
        walk_at "go"
        · rename lawAt _ _ _ > 2 => hw
          (rename StC _ _ _ _ _ _ _ _ _ _ _ => st7)
          refine MidE.of st7 (by walk_at "le") ?_
          unfold exOf; rw [if_pos hw]
        · rename ¬ lawAt _ _ _ > 2 => hw
          (rename StC _ _ _ _ _ _ _ _ _ _ _ => st7)
          refine MidE.of st7 (by walk_at "le") ?_
          unfold exOf; rw [if_neg hw]; exact ⟨_, rfl⟩
      case ck =>
        intro ev S6' s6 le8' hev st7
        clear st6
        try dsimp only
        walk_at "go"
        obtain ⟨nvs, hnvs⟩ : ∃ nvs, nvs = [Value.str "$end" s5.toks, .str "error" (s5.toks + 1), .str "$undefined" (s5.toks + 1 + 1), .str "a" (s5.toks + 1 + 1 + 1), .str "b" (s5.toks + 1 + 1 + 1 + 1), .str "c" (s5.toks + 1 + 1 + 1 + 1 + 1), .str "d" (s5.toks + 1 + 1 + 1 + 1 + 1 + 1), .str "$accept" (s5.toks + 1 + 1 + 1 + 1 + 1 + 1 + 1), .str "S" (s5.toks + 1 + 1 + 1 + 1 + 1 + 1 + 1 + 1), .str "A" (s5.toks + 1 + 1 + 1 + 1 + 1 + 1 + 1 + 1 + 1)] := ⟨_, rfl⟩
        rw [← hnvs] at st7
        obtain ⟨S8, le9, hfz, st8⟩ := StC.freezeAll [(nl, lst nvs 0), (rl, lst rvs n), (ld, od)] (M := []) st7 (by
          intro q hq
          simp only [List.mem_cons, List.not_mem_nil, or_false] at hq
          rcases hq with rfl | rfl | rfl <;> assumption)
        have f1 : S8 nl = some (lst nvs 0) := hfz (nl, lst nvs 0) (.head _)
        have f2 : S8 rl = some (lst rvs n) := hfz (rl, lst rvs n) (.tail _ (.head _))
        have f3 : S8 ld = some od := hfz (ld, od) (.tail _ (.tail _ (.head _)))
        have le58 : Le S5 S8 := (le8.trans le8').trans le9
        have leS : Le S S8 := leA.trans (le7.trans le58)
        refine c_grammar (St.pre st8) (Rm.le hA' (by decide)) f1 (by rw [hnvs]; rfl) f2 (by rw [hrl']) (fun r hr => let ⟨a, n, lf, h1, h2⟩ := hrs r (by omega); ⟨a, n, lf, _, h1, h2.mono le58⟩) fun gx S9 s9 P9 hgx => ?_
        have st9 := StC.call st8 P9
        have le10 := P9.le
        obtain ⟨gxs, k0, k1, k2, k3, k4, k5⟩ := hgx
        walk1
        refine hQ gx S9 s9 (fin _ _ _ _ st9 (leS.trans le10)) ⟨gxs, ld, rl, nl, _, rvs, n, k0, k4, k3, k1, ⟨_, k2⟩, k5, ?_, ⟨od, kvs, le10 _ _ f3, hod, hldm, fun t => ?_⟩, le10 _ _ f2, by rw [hrl'], fun r hr => ?_⟩ ⟨gxs, nl, nvs, 0, k0, k1, le10 _ _ f1, fun j hj => ?_⟩
        · exact hev
        · have hlt := hlv t
          have e9 : levOf ns t = levTo ns 4 t := rfl
          rw [e9]
          cases e8 : levTo ns 4 t with
          | none => rw [e8] at hlt; exact hlt
          | some p =>
            obtain ⟨n', sd⟩ := p
            rw [e8] at hlt
            obtain ⟨a, t1, t2, e, q1, q2⟩ := hlt
            exact ⟨a, t1, t2, e, q1, (((le4.trans le5).trans le7).trans (le58.trans le10)) _ _ q2⟩
        · obtain ⟨a, n, lf, h1, h2⟩ := hrs r (by omega)
          exact ⟨a, h1, (h2.mono (le58.trans le10)).at⟩
        · rw [hnvs]
          obtain rfl | rfl | rfl | rfl | rfl | rfl | rfl : j = 0 ∨ j = 1 ∨ j = 2 ∨ j = 3 ∨ j = 4 ∨ j = 5 ∨ j = 6 := lt7 j (by assumption)
          all_goals exact ⟨_, _, rfl⟩
end

/-! CMv -/
noncomputable def symOf (s : Nat) : Int := [0, 1, 3, 4, 5, 6, 8, 9].getD s 0
noncomputable def mvTo (b : Int) (k : Nat) : List (Int × Int) := (List.range k).foldl (fun m s => if tb b s then putI m (symOf s) ((s : Int) + 1) else m) []
noncomputable def movesOf (b : Int) : List (Int × Int) := mvTo b 8
noncomputable def looksOf (ns : List Int) (k : Int) : List Int := (List.range 4).map fun (s : Nat) => lawAt ns (k + (s : Int)) 128
section
variable {prog : Program} {w : World} {G : Heap} {g : Array GenState} {o : OsState} {A : Around} {E : Value → Shared → Prop} {s : Shared} {S : PM}
theorem c_moves {Q : Value → Shared → Prop} {l : Addr} {vs : List Value} {ns : List Int} {k : Int} {tk : Tok} (P : Pre (cx w G g o) S s) (hA : Rm A 8) (hl : ∃ lo, S l = some lo ∧ LO lo vs) (hi : IntsAre vs ns) (hn : ns.length ≤ 63) (h0 : 0 ≤ k) (h1 : k < 100)
   (hQ : ∀ a od kvs S' s', Post (cx w G g o) [] S s S' s' → S' a = some od → DI prog w od kvs → KI kvs (movesOf (lawAt ns k 256)) → (a == sysModules) = false → Q (.ref a) s') : wpAny (model prog w) A (call (.ref 551) [.ref l, .int k tk]) Q E s := by
  refine call_ret ?_
  refine' enter (binds := [("script", Value.ref l), ("k", Value.int k tk)]) P hA ?ho ?hcd ?hbind ?hloc ?hcell ?hco ?hgen ?hk ?_
  case ho => walk_at "is"
  case hcd => walk_at "is"
  case hbind => first | exact BindsTo.of_eq rfl | exact binds_K (K := hk.heap_1 w.params) (PreC.K (by first | exact P | exact St.pre P)) rfl (by walk_at "is") rfl rfl rfl
  case hloc => exact locs rfl
  case hcell => decide
  case hco => rfl
  case hgen => rfl
  case hk => rfl
  intro A' L n₀ B s' hA' st fin
  obtain ⟨lo, hl, hlo⟩ := hl
  walk_at "go"
  rename_i S1 _ tb1 le1 _ fd od _ hfd hfdm hfdd _ _ st1
  have bb := lawAt_bound ns k (m := 256) (by decide)
  generalize lawAt ns k 256 = b at bb hQ st1
  refine for_in ?_ (fun _ => rfl)
  walk_at "go"
  rename_i st2 hr
  let J1 : Nat → PM → List (Addr × Obj) → (Str → Option Value) → Prop := fun i S' M ρ => ∀ GG : Prop, (Le S1 S' → ρ "bits_of" = some (.int b tb1) → ρ "found" = some (.ref fd) → ∀ od kvs, M = [(fd, od)] → DI prog w od kvs → KI kvs (mvTo b i) → kvs.length ≤ i → GG) → GG
  refine loop_range (n := 8) J1 st2 hA'.hh hr rfl rfl rfl rfl rfl (fun _ kk => kk (Le.refl _) rfl rfl od [] rfl hfdd .nil (Nat.le_refl _)) ?_ ?_
  · clear hfdd
    intro i tk B2 S2 M2 ρ2 s2 hi8 le2 hJ st3
    refine hJ _ ?_
    clear hJ
    rintro le3 r1 r2 od kvs eM hod hki hkl
    subst eM
    have hkz : kvs.length ≤ 100 := by omega
    have htb : tb b i = decide ((b.fdiv (2 ^ Int.toNat (i : Int))).fmod 2 = 1) := by
      unfold tb
      rw [Int.toNat_natCast, Int.fdiv_eq_ediv_of_nonneg _ (Int.le_of_lt (Int.pow_pos (by decide))), Int.fmod_eq_emod_of_nonneg _ (by decide)]
      by_cases q : b / 2 ^ i % 2 = 1 <;> simp [q]
    have hmv : mvTo b (i + 1) = if tb b i then putI (mvTo b i) (symOf i) ((i : Int) + 1) else mvTo b i := by
      unfold mvTo
      rw [List.range_succ, List.foldl_append]; rfl
    have hp1 : (2 : Int) ^ Int.toNat (i : Int) ≠ 0 := Int.ne_of_gt (Int.pow_pos (by decide))
    have hp2 : ((2 : Int) ^ Int.toNat (i : Int)).natAbs < 1073741824 := by
      rw [Int.toNat_natCast]
      exact pow8 i hi8
    walk_at "go"
    · rename_i hq ta S3 _ le4 hta st4
      refine tupTailI (ns := [0, 1, 3, 4, 5, 6, 8, 9]) (StC.S_at st4 hta) (TO.tup _ _) (by repeat (first | exact IntsAre.nil | refine IntsAre.cons _ _ ?_)) (by omega) (by show (i : Int) < 8; omega) (by omega) fun u => ?_
      walk_at "go"
      rename_i od' _ hod' st5
      refine LEnd.next st5 le4 (fun _ kk => kk (le3.trans le4) r1 r2 od' _ rfl hod' ?_ (Nat.le_trans (stored_length_le _ _ _) (by omega)))
      rw [hmv, if_pos (by rw [htb]; exact decide_eq_true hq)]
      exact hki.put _ _ _
    · rename_i hq
      refine LEnd.next st3 (Le.refl _) (fun _ kk => kk le3 r1 r2 od kvs rfl hod ?_ (by omega))
      rw [hmv, if_neg (by rw [htb]; simpa using hq)]
      exact hki
  · intro S2 M2 ρ2 s2 le2 hJ st3
    refine hJ _ ?_
    clear hJ
    rintro le3 r1 r2 od kvs eM hod hki hkl
    subst eM
    walk_at "go"
    obtain ⟨S9, le9, hS9, st9⟩ := StC.freezeTo st3 hfd
    exact hQ fd od kvs S9 _ (fin _ _ _ _ st9 ((le1.trans le3).trans le9)) hS9 hod hki hfdm
theorem c_looks {Q : Value → Shared → Prop} {l : Addr} {vs : List Value} {ns : List Int} {k : Int} {tk : Tok} (P : Pre (cx w G g o) S s) (hA : Rm A 8) (hl : ∃ lo, S l = some lo ∧ LO lo vs) (hi : IntsAre vs ns) (hn : ns.length ≤ 63) (h0 : 0 ≤ k) (h1 : k < 90)
   (hQ : ∀ a us n S' s', Post (cx w G g o) [] S s S' s' → S' a = some (lst us n) → IntsAre us (looksOf ns k) → Q (.ref a) s') : wpAny (model prog w) A (call (.ref 556) [.ref l, .int k tk]) Q E s := by
  refine call_ret ?_
  refine' enterC (binds := [("script", Value.ref l), ("k", Value.int k tk)]) (cells := fun L => [("k", L + 2), ("script", L + 1)]) P hA ?ho ?hcd ?hbind ?hcs ?hkind ?hnd ?hco ?hgen ?hk ?_
  case ho => walk_at "is"
  case hcd => walk_at "is"
  case hbind => first | exact BindsTo.of_eq rfl | exact binds_K (K := hk.heap_1 w.params) (PreC.K (by first | exact P | exact St.pre P)) rfl (by walk_at "is") rfl rfl rfl
  case hcs => intro n; rfl
  case hkind => intro n x hx; exact kindsC (by repeat' (first | exact trivial | refine And.intro (by first | exact .inl rfl | exact .inr ⟨rfl, rfl⟩) ?_)) x hx
  case hnd => decide
  case hco => rfl
  case hgen => rfl
  case hk => rfl
  intro A' L n₀ B s' cs hA' hcs st' fin
  obtain ⟨ok, os, rfl, hok, hos⟩ := hcs.two
  have hok' : ok.data = .cell (some (.int k tk)) := hok
  have hos' : os.data = .cell (some (.ref l)) := hos
  obtain ⟨lo, hl, hlo⟩ := hl
  walk_at "go"
  refine comp_in (cl := [("script", L + 1), ("k", L + 2)]) ?clos ?kd ?nm ?_
  case clos => with_unfolding_all rfl
  case kd => rfl
  case nm => decide
  walk_at "go"
  rename_i st1 hr
  let J2 : Nat → List Value → PM → List (Addr × Obj) → Prop := fun j ys S' M => ∀ GG : Prop, (Le S S' → M = [(L + 2, ok), (L + 1, os)] → IntsAre ys ((List.range j).map fun (s : Nat) => lawAt ns (k + (s : Int)) 128) → GG) → GG
  refine comp_range (n := 4) J2 st1 hA'.hh hr rfl rfl (by rw [sizeLine_eq]; omega) (by decide) rfl rfl (fun _ kk => kk (Le.refl _) rfl .nil) ?_ ?_
  · intro C j t ys B2 S2 M2 ρ2 s2 hj le2 hJ st3
    refine hJ _ ?_
    clear hJ
    rintro le3 eM hys
    subst eM
    refine wpAny_tests_nil ?_
    simp only [if_true]
    walk_at "go"
    rename_i S4 _ tv st4 le4
    refine CEnd.of st4 le4 (fun _ kk => kk (le3.trans le4) rfl ?_)
    rw [List.range_succ, List.map_append]
    exact hys.append (.cons _ _ .nil)
  · intro S2 M2 ys D C s2 le2 hJ hD st3 hC hm
    refine hJ _ ?_
    clear hJ
    rintro le3 eM hys
    refine compE st3 hC hm fun s3 st4 => ?_
    obtain ⟨S9, le9, hS9, st9⟩ := StC.freezeTo st4 hD
    walk1
    exact hQ D ys _ S9 _ (fin _ _ _ _ st9 (le3.trans le9)) hS9 hys
end

/-! L7 -/

theorem words_L7 : True := by
  k_with "unpackItems ref" => ((rename StC _ _ _ _ _ _ _ _ _ _ _ => stz); k_dflt (refine' unpItems stz ?k0 ?k1 ?k2 ?k3 ?_; (case k0 => exact Rm.hh (by assumption)); (case k1 => walk_at "H"); (case k2 => walk_at "TO"); (case k3 => rfl)); clear stz; intro _ _)
  k_with "assign Tuple" => ((rename StC _ _ _ _ _ _ _ _ _ _ _ => stz); k_dflt (refine' unpAssign stz ?k0 ?k1 ?k2 ?k3 ?k4 ?_; (case k0 => exact Rm.hh (by assumption)); (case k1 => walk_at "H"); (case k2 => walk_at "TO"); (case k3 => rfl); (case k4 => rfl)); clear stz; intro _ _)
  trivial


/-! CSts -/
/-- a state of the plan, as the law draws it -/
structure PL where
  mv : List (Int × Int)
  held : List Int
  lks : List Int
inductive PItem (prog : Program) (w : World) (S : PM) (a : Addr) (p : PL) : Prop where
  | mk : ∀ mo hl lk e md kvs hvs n1 ls n2, S a = some (tup [.ref mo, .ref hl, .ref lk] e) → S mo = some md → DI prog w md kvs → KI kvs p.mv → (mo == sysModules) = false → S hl = some (lst hvs n1) → IntsAre hvs p.held → S lk = some (lst ls n2) → IntsAre ls p.lks → PItem prog w S a p
theorem PItem.mono {prog : Program} {w : World} {S S' : PM} {a : Addr} {p : PL} (h : PItem prog w S a p) (l : Le S S') : PItem prog w S' a p := by
  obtain ⟨mo, hl, lk, e, md, kvs, hvs, n1, ls, n2, h1, h2, h3, h4, h5, h6, h7, h8, h9⟩ := id h
  exact ⟨mo, hl, lk, e, md, kvs, hvs, n1, ls, n2, l _ _ h1, l _ _ h2, h3, h4, h5, l _ _ h6, h7, l _ _ h8, h9⟩
inductive PlanAt (prog : Program) (w : World) (S : PM) (pa : Addr) (plan : List PL) : Prop where
  | mk : ∀ pvs n, S pa = some (lst pvs n) → pvs.length = plan.length → (∀ (k : Nat) p, plan[k]? = some p → ∃ a, pvs[k]? = some (.ref a) ∧ PItem prog w S a p) → PlanAt prog w S pa plan
theorem PlanAt.mono {prog : Program} {w : World} {S S' : PM} {pa : Addr} {plan : List PL} (h : PlanAt prog w S pa plan) (l : Le S S') : PlanAt prog w S' pa plan := by
  obtain ⟨pvs, n, h1, h2, h3⟩ := id h
  exact ⟨pvs, n, l _ _ h1, h2, fun k p e => let ⟨a, q1, q2⟩ := h3 k p e; ⟨a, q1, q2.mono l⟩⟩
structure PLOk (p : PL) : Prop where
  mv : p.mv.length ≤ 20
  hl : p.held.length ≤ 4
  held : ∀ r ∈ p.held, 1 ≤ r ∧ r ≤ 4
  len : p.lks.length = 4
  lks : ∀ x ∈ p.lks, 0 ≤ x ∧ x < 128
noncomputable def fAt (plan : List PL) (n r : Int) : Int := match plan[n.toNat]? with | some p => if 0 ≤ n ∧ r ∈ p.held then p.lks.getD (r - 1).toNat 0 else 0 | none => 0
/-- the same, as far as the loops have come -/
noncomputable def fPre (plan : List PL) (i : Nat) (hs : List Int) (n r : Int) : Int := if n < (i : Int) then fAt plan n r else if n = (i : Int) ∧ r ∈ hs then fAt plan n r else 0
noncomputable def copyOf (mv : List (Int × Int)) : List (Int × Int) := mv.foldl (fun m p => putI m p.1 p.2) []
noncomputable def MkR (o : Option (Addr × Value)) (x : Int) : Prop := match o with | none => x = 0 | some p => ∃ t, p.2 = .int x t
theorem mkR_step {xs : List (List Int × Addr × Value)} {f : Int → Int → Int} {n0 r0 v : Int} {a : Addr} {t : Tok} (h : ∀ n r, MkR (atKey xs [n, r]) (f n r)) (n r : Int) : MkR (atKey (storedH xs [n0, r0] a (.int v t)) [n, r]) (if n = n0 ∧ r = r0 then v else f n r) := by
  by_cases hq : n = n0 ∧ r = r0
  · obtain ⟨rfl, rfl⟩ := hq
    rw [if_pos ⟨rfl, rfl⟩]
    unfold storedH
    split
    · rename_i hs
      obtain ⟨p, hp⟩ := Option.isSome_iff_exists.mp hs
      clear hs h
      induction xs with
      | nil => simp [atKey] at hp
      | cons x xs ih =>
        unfold atKey at hp ih ⊢
        simp only [List.map_cons, List.find?_cons]
        by_cases e : x.1 = [n, r]
        · have : (putAt [n, r] (Value.int v t) x).1 = [n, r] := by unfold putAt; rw [if_pos e]; exact e
          simp only [decide_eq_true this]
          unfold putAt; rw [if_pos e]
          exact ⟨t, rfl⟩
        · have e2 : putAt [n, r] (Value.int v t) x = x := by unfold putAt; rw [if_neg e]
          rw [e2]
          simp only [decide_eq_false e]
          refine ih ?_
          simpa [List.find?_cons, e] using hp
    · rename_i hs
      have hn : atKey xs [n, r] = none := by simpa using hs
      unfold atKey at hn ⊢
      rw [List.find?_append]
      have : (xs.find? fun x => decide (x.1 = [n, r])) = none := by simpa using hn
      rw [this]
      simp [MkR]
  · rw [if_neg hq]
    have e : atKey (storedH xs [n0, r0] a (.int v t)) [n, r] = atKey xs [n, r] := by
      have hne : ¬ [n0, r0] = [n, r] := fun q => by
        injection q with q1 q2
        injection q2 with q2 _
        exact hq ⟨q1.symm, q2.symm⟩
      unfold storedH
      split
      · clear h
        induction xs with
        | nil => rfl
        | cons x xs ih =>
          rename_i hs
          unfold atKey at ih ⊢
          simp only [List.map_cons, List.find?_cons]
          by_cases e : x.1 = [n, r]
          · have e2 : putAt [n0, r0] (Value.int v t) x = x := by unfold putAt; rw [if_neg fun q => hne (q.symm.trans e)]
            rw [e2]
            simp [e]
          · have e3 : (putAt [n0, r0] (Value.int v t) x).1 = x.1 := by unfold putAt; split <;> rfl
            rw [e3]
            simp only [decide_eq_false e]
            have key : ∀ l : List (List Int × Addr × Value), Option.map (fun x => x.2) (l.map (putAt [n0, r0] (Value.int v t)) |>.find? fun x => decide (x.1 = [n, r])) = Option.map (fun x => x.2) (l.find? fun x => decide (x.1 = [n, r])) := by
              intro l
              induction l with
              | nil => rfl
              | cons y l ih =>
                simp only [List.map_cons, List.find?_cons]
                have e4 : (putAt [n0, r0] (Value.int v t) y).1 = y.1 := by unfold putAt; split <;> rfl
                rw [e4]
                by_cases e5 : y.1 = [n, r]
                · simp only [decide_eq_true e5]
                  have e2 : putAt [n0, r0] (Value.int v t) y = y := by unfold putAt; rw [if_neg fun q => hne (q.symm.trans e5)]
                  rw [e2]
                · simp only [decide_eq_false e5]
                  exact ih
            exact key xs
      · unfold atKey
        rw [List.find?_append]
        simp [hne]
    rw [e]; exact h n r
theorem storedH_keys {xs : List (List Int × Addr × Value)} {ks : List Int} {a : Addr} {v : Value} {S : PM} (h : ∀ x ∈ xs, TKey S x.2.1 x.1) (hk : TKey S a ks) : ∀ x ∈ storedH xs ks a v, TKey S x.2.1 x.1 := by
  intro x hx
  unfold storedH at hx
  split at hx
  · obtain ⟨y, hy, rfl⟩ := List.mem_map.mp hx
    unfold putAt
    split
    · exact h y hy
    · exact h y hy
  · rcases List.mem_append.mp hx with hx | hx
    · exact h x hx
    · rw [List.mem_singleton.mp hx]; exact hk
theorem storedH_len {xs : List (List Int × Addr × Value)} {ks : List Int} {a : Addr} {v : Value} : (storedH xs ks a v).length ≤ xs.length + 1 := by
  unfold storedH; split <;> simp
theorem range_fits {n : Nat} (h : n ≤ 3) : Builtin.Range.small 0 (n : Int) 1 = true ∧ Builtin.Range.rangeSize 0 (n : Int) 1 = (n : Int) := by
  exact (by decide : ∀ n : Nat, n < 4 → Builtin.Range.small 0 (n : Int) 1 = true ∧ Builtin.Range.rangeSize 0 (n : Int) 1 = (n : Int)) n (Nat.lt_succ_of_le h)
theorem fAt_in {plan : List PL} {i : Nat} {p : PL} {r : Int} (hp : plan[i]? = some p) (hr : r ∈ p.held) : fAt plan (i : Int) r = p.lks.getD (r - 1).toNat 0 := by
  unfold fAt
  rw [Int.toNat_natCast, hp]
  dsimp only
  rw [if_pos ⟨by omega, hr⟩]
theorem fPre_step {plan : List PL} {i : Nat} {p : PL} {r : Int} {hs : List Int} (hp : plan[i]? = some p) (hr : r ∈ p.held) (n r' : Int) :
    fPre plan i (hs ++ [r]) n r' = if n = (i : Int) ∧ r' = r then p.lks.getD (r - 1).toNat 0 else fPre plan i hs n r' := by
  unfold fPre
  by_cases h : n = (i : Int) ∧ r' = r
  · rw [if_pos h]
    obtain ⟨rfl, rfl⟩ := h
    rw [if_neg (by omega), if_pos ⟨rfl, by simp⟩, fAt_in hp hr]
  · rw [if_neg h]
    by_cases h1 : n < (i : Int)
    · rw [if_pos h1, if_pos h1]
    · rw [if_neg h1, if_neg h1]
      by_cases h2 : n = (i : Int) ∧ r' ∈ hs
      · rw [if_pos h2, if_pos ⟨h2.1, by simp [h2.2]⟩]
      · rw [if_neg h2, if_neg]
        rintro ⟨q1, q2⟩
        simp only [List.mem_append, List.mem_singleton] at q2
        rcases q2 with q2 | q2
        · exact h2 ⟨q1, q2⟩
        · exact h ⟨q1, q2⟩
theorem fPre_zero {plan : List PL} {i : Nat} {p : PL} {r : Int} {hs : List Int} (hp : plan[i]? = some p) (hr : r ∈ p.held) (hz : p.lks.getD (r - 1).toNat 0 = 0) (n r' : Int) :
    fPre plan i (hs ++ [r]) n r' = fPre plan i hs n r' := by
  rw [fPre_step hp hr, hz]
  split
  · rename_i h
    obtain ⟨rfl, rfl⟩ := h
    unfold fPre
    rw [if_neg (by omega)]
    split
    · rw [fAt_in hp hr, hz]
    · rfl
  · rfl
theorem fPre_next {plan : List PL} {i : Nat} {p : PL} (hp : plan[i]? = some p) (n r : Int) : fPre plan i p.held n r = fPre plan (i + 1) [] n r := by
  unfold fPre
  by_cases h1 : n < (i : Int)
  · rw [if_pos h1, if_pos (by omega)]
  · rw [if_neg h1]
    by_cases h2 : n = (i : Int)
    · subst h2
      rw [if_pos (by omega : (i : Int) < ((i + 1 : Nat) : Int))]
      by_cases h3 : r ∈ p.held
      · rw [if_pos ⟨rfl, h3⟩]
      · rw [if_neg fun q => h3 q.2]
        unfold fAt
        rw [Int.toNat_natCast, hp]
        dsimp only
        rw [if_neg fun q => h3 q.2]
    · rw [if_neg fun q => h2 q.1, if_neg (by omega), if_neg (by simp)]
theorem fPre_end {plan : List PL} (n r : Int) : fPre plan plan.length [] n r = fAt plan n r := by
  unfold fPre
  split
  · rfl
  · rename_i h
    rw [if_neg (by simp)]
    unfold fAt
    rw [List.getElem?_eq_none (by omega)]
theorem fPre_start {plan : List PL} (n r : Int) : fPre plan 0 [] n r = 0 := by
  unfold fPre
  split
  · rename_i h
    unfold fAt
    split
    · rw [if_neg]
      intro q
      have := q.1
      simp at h
      omega
    · rfl
  · rw [if_neg (by simp)]
section
variable {prog : Program} {w : World} {G : Heap} {g : Array GenState} {o : OsState} {A : Around} {E : Value → Shared → Prop} {s : Shared} {S : PM}
theorem c_states {Q : Value → Shared → Prop} {l pa : Addr} {plan : List PL} (P : Pre (cx w G g o) S s) (hA : Rm A 8) (hp : PlanAt prog w S pa plan) (hok : ∀ p ∈ plan, PLOk p) (hpl : plan.length ≤ 3)
   (hQ : ∀ ra e sa svs n md S' s', Post (cx w G g o) [] S s S' s' → S' ra = some (tup [.ref sa, .ref md] e) → S' sa = some (lst svs n) → svs.length = plan.length → (∀ (k : Nat) p, plan[k]? = some p → ∃ sx, svs[k]? = some (.ref sx) ∧ StaAt prog w S' sx k (copyOf p.mv) p.held) → MasksAt prog w S' md (fAt plan) → Q (.ref ra) s') :
   wpAny (model prog w) A (call (.ref 563) [.ref l, .ref pa]) Q E s := by
  refine call_ret ?_
  refine' enter (binds := [("script", Value.ref l), ("plan", Value.ref pa)]) P hA ?ho ?hcd ?hbind ?hloc ?hcell ?hco ?hgen ?hk ?_
  case ho => walk_at "is"
  case hcd => walk_at "is"
  case hbind => first | exact BindsTo.of_eq rfl | exact binds_K (K := hk.heap_1 w.params) (PreC.K (by first | exact P | exact St.pre P)) rfl (by walk_at "is") rfl rfl rfl
  case hloc => exact locs rfl
  case hcell => decide
  case hco => rfl
  case hgen => rfl
  case hk => rfl
  intro A' L n₀ B s' hA' st fin
  obtain ⟨pvs, pn, hpa, hpvl, hpi⟩ := id hp
  have hz0 : pvs.length < 2 ^ 62 := by omega
  walk_at "go"
  rename_i sa _ hsa _ ma od _ hma hmam hmad _ _ st1
  refine for_in ?_ (fun _ => rfl)
  walk_at "go"
  rename_i st2 hr2
  have hrf := range_fits (n := pvs.length) (by omega)
  let J1 : Nat → PM → List (Addr × Obj) → (Str → Option Value) → Prop := fun i S' M ρ => ∀ GG : Prop, (Le S S' → ρ "script" = some (.ref l) → ρ "plan" = some (.ref pa) → ρ "states" = some (.ref sa) → ρ "masks" = some (.ref ma) → ∀ xs od svs sn, M = [(ma, od), (sa, lst svs sn)] → DH prog w od xs → (∀ x ∈ xs, TKey S' x.2.1 x.1) → xs.length ≤ 4 * i → svs.length = i → (∀ (k : Nat) p, k < i → plan[k]? = some p → ∃ sx, svs[k]? = some (.ref sx) ∧ StaAt prog w S' sx k (copyOf p.mv) p.held) → (∀ n r, MkR (atKey xs [n, r]) (fPre plan i [] n r)) → GG) → GG
  refine loop_range (n := pvs.length) J1 st2 hA'.hh hr2 hrf.1 hrf.2 rfl rfl rfl
    (fun _ kk => kk (Le.refl _) rfl rfl rfl rfl [] od [] 0 rfl (DH.new hmad) (fun _ hx => nomatch hx) (Nat.le_refl _) rfl (fun k p hk => absurd hk (Nat.not_lt_zero _)) (fun n r => by rw [fPre_start]; rfl)) ?_ ?_
  · clear hmad
    intro i tk B2 S2 M2 ρ2 s2 hi le2 hJ st3
    refine hJ _ ?_
    clear hJ
    rintro le3 r1 r2 r3 r4 xs od svs sn eM hod hxk hxl hsl hsv hmk
    subst eM
    have hip : i < plan.length := hpvl ▸ hi
    have hi3 : i < 3 := Nat.lt_of_lt_of_le hip hpl
    obtain ⟨p, hp⟩ : ∃ p, plan[i]? = some p := ⟨_, List.getElem?_eq_getElem hip⟩
    have hpo := hok p (List.mem_of_getElem? hp)
    obtain ⟨ia, hia, hit⟩ := hpi i p hp
    obtain ⟨mo, hl, lk, ie, imd, kvs, hvs, n1, ls, n2, h1, h2, h3, h4, h5, h6, h7, h8, h9⟩ := (hit.mono le3)
    have hia' : pvs[((i : Int)).toNat]? = some (.ref ia) := by rw [Int.toNat_natCast]; exact hia
    have hpa2 := le3 _ _ hpa
    walk_at "go"
    rename_i a1 S3 s3 le4 _ st4
    refine c_lr st4 (Rm.le hA' (by decide)) fun sx S4 s4 es dx ne it md rd omd le5 st5 hsx hes homd hmds hrd hmd hit hdx => ?_
    clear st4
    obtain ⟨S5, le6, _, st6⟩ := StC.freezeMid [(rd, lst [] 0), (md, omd)] st5 hit
    obtain ⟨S6, le7, hdx6, st7⟩ := StC.freezeMid [(rd, lst [] 0), (md, omd)] st6 hdx
    simp only [List.cons_append, List.nil_append] at st7
    clear st5 st6
    have le26 : Le S2 S6 := le4.trans (le5.trans (le6.trans le7))
    have hI : Inst S6 sx 469 _ := ⟨dx, es, ne, le7 _ _ (le6 _ _ hsx), hdx6, hes⟩
    clear hes
    have hmo6 := le26 _ _ h2
    have hhl6 := le26 _ _ h6
    have hlk6 := le26 _ _ h8
    have hmv := hpo.mv
    have hkl : kvs.length ≤ 20 := by rw [h4.len]; exact hmv
    walk_at "go"
    refine for_in ?_ (fun _ => rfl)
    walk_at "go"
    rename_i s7 st7
    let J2 : Nat → PM → List (Addr × Obj) → (Str → Option Value) → Prop := fun j S' M ρ => ∀ GG : Prop, (Le S6 S' → ρ "script" = some (.ref l) → ρ "plan" = some (.ref pa) → ρ "states" = some (.ref sa) → ρ "masks" = some (.ref ma) → ρ "number" = some (.int i tk) → ρ "moves" = some (.ref mo) → ρ "held" = some (.ref hl) → ρ "looks" = some (.ref lk) → ρ "state" = some (.ref sx) → ∀ om gk, M = [(rd, lst [] 0), (md, om), (ma, od), (sa, lst svs sn)] → DI prog w om gk → KI gk (copyOf (p.mv.take j)) → gk.length ≤ j → GG) → GG
    refine loop_dict (kvs := kvs) J2 st7 hA'.hh hmo6 h3 h5 rfl rfl rfl
      (fun _ kk => kk (Le.refl _) r1 r2 r3 r4 rfl rfl rfl rfl rfl omd [] rfl homd .nil (Nat.le_refl _)) ?_ ?_
    · clear homd st7
      intro j kk tk' v B3 S7 M3 ρ3 s8 hv le8 hJ st8
      refine hJ _ ?_
      clear hJ
      rintro le9 q1 q2 q3 q4 q5 q6 q7 q8 q9 om gk eM hom hgk hgl
      subst eM
      obtain ⟨nv, tv, ev, ht⟩ := h4.item hv
      subst ev
      have hva := DI.at h3 hv
      have hj20 : j < 20 := Nat.lt_of_lt_of_le (List.getElem?_eq_some_iff.mp ht).1 hmv
      have hz1 : gk.length ≤ 100 := by omega
      have hmo7 := le9 _ _ hmo6
      have hI7 := hI.mono le9
      clear hI
      walk_at "go"
      rename_i om' _ hom' st9
      refine LEnd.next st9 (Le.refl _) (fun _ kk => kk le9 q1 q2 q3 q4 q5 q6 q7 q8 q9 om' _ rfl hom' ?_ (Nat.le_trans (stored_length_le _ _ _) (by omega)))
      rw [take_snoc ht]
      unfold copyOf
      rw [List.foldl_append]
      exact hgk.put _ _ _
    · clear homd st7
      intro S7 M3 ρ3 s8 le8 hJ st8
      refine hJ _ ?_
      clear hJ
      rintro le9 q1 q2 q3 q4 q5 q6 q7 q8 q9 om gk eM hom hgk hgl
      subst eM
      rw [h4.len, List.take_length] at hgk
      have hhl7 := le9 _ _ hhl6
      have hlk7 := le9 _ _ hlk6
      have hI7 := hI.mono le9
      clear hI
      have hhz : hvs.length ≤ 100 := by have := hpo.hl; rw [h7.length]; omega
      have hhz2 : ([] : List Value).length + hvs.length ≤ sizeLine := by rw [sizeLine_eq, List.length_nil]; omega
      walk_at "go"
      refine for_in ?_ (fun _ => rfl)
      walk_at "go"
      rename_i rn s9 st9
      let J3 : Nat → PM → List (Addr × Obj) → (Str → Option Value) → Prop := fun j S' M ρ => ∀ GG : Prop, (Le S7 S' → ρ "script" = some (.ref l) → ρ "plan" = some (.ref pa) → ρ "states" = some (.ref sa) → ρ "masks" = some (.ref ma) → ρ "number" = some (.int i tk) → ρ "moves" = some (.ref mo) → ρ "held" = some (.ref hl) → ρ "looks" = some (.ref lk) → ρ "state" = some (.ref sx) → ∀ xs od, M = [(rd, lst ([] ++ hvs) rn), (md, om), (ma, od), (sa, lst svs sn)] → DH prog w od xs → (∀ x ∈ xs, TKey S' x.2.1 x.1) → xs.length ≤ 4 * i + j → (∀ n r, MkR (atKey xs [n, r]) (fPre plan i (p.held.take j) n r)) → GG) → GG
      refine loop_list (vs := hvs) J3 st9 hA'.hh hhl7 (LO.lst _ _) rfl rfl rfl
        (fun _ kk => kk (Le.refl _) q1 q2 q3 q4 q5 q6 q7 q8 q9 xs od rfl hod (fun x hx => (hxk x hx).mono (le26.trans le9)) hxl hmk) ?_ ?_
      · clear st9 hod hxk hxl hmk
        intro j v B4 S8 M4 ρ4 s10 hv le10 hJ st10
        refine hJ _ ?_
        clear hJ
        rintro le11 u1 u2 u3 u4 u5 u6 u7 u8 u9 xs od eM hod hxk hxl hmk
        subst eM
        obtain ⟨r, tr, ev, hr⟩ := IntsAre.item h7 hv
        subst ev
        have hj4 : j < 4 := Nat.lt_of_lt_of_le (List.getElem?_eq_some_iff.mp hr).1 hpo.hl
        have hrm := List.mem_of_getElem? hr
        have hrb := hpo.held r hrm
        have hlk8 := le11 _ _ hlk7
        have hb0 : 0 ≤ r - 1 := Int.sub_nonneg_of_le hrb.1
        have hb4 : r - 1 < 4 := Int.lt_of_le_of_lt (Int.sub_le_sub_right hrb.2 1) (by decide)
        have hb1 : r - 1 < (ls.length : Int) := by rw [h9.length, hpo.len]; exact hb4
        have hb2 : r - 1 < (p.lks.length : Int) := by rw [hpo.len]; exact hb4
        have hb3 : r - 1 < 2 ^ 63 := Int.lt_trans hb4 (by decide)
        have hxz : xs.length ≤ 100 := Nat.le_trans hxl (Nat.le_trans (Nat.add_le_add (Nat.mul_le_mul_left 4 (Nat.le_of_lt hi3)) (Nat.le_of_lt hj4)) (Nat.le_of_ble_eq_true rfl))
        have hv0 : 0 ≤ p.lks.getD (r - 1).toNat 0 := by
          have : (r - 1).toNat < p.lks.length := by rw [hpo.len]; exact (Int.toNat_lt hb0).mpr hb4
          rw [List.getD_eq_getElem?_getD, List.getElem?_eq_getElem this]
          exact (hpo.lks _ (List.getElem_mem this)).1
        walk_at "go"
        · rename_i tv _ hpos a2 S9 s11 le12 ha2 od' _ hod' st11
          refine LEnd.next st11 le12 (fun _ kk => kk (le11.trans le12) u1 u2 u3 u4 u5 u6 u7 u8 u9 _ od' rfl hod' (storedH_keys (fun x hx => (hxk x hx).mono le12) ⟨_, _, ha2, .cons _ _ (.cons _ _ .nil)⟩) (Nat.le_trans storedH_len (Nat.succ_le_succ hxl)) (fun n r' => ?_))
          rw [take_snoc hr, fPre_step hp hrm]
          exact mkR_step hmk n r'
        · rename_i tv hpos
          refine LEnd.next st10 (Le.refl _) (fun _ kk => kk le11 u1 u2 u3 u4 u5 u6 u7 u8 u9 xs od rfl hod hxk (Nat.le_succ_of_le hxl) (fun n r' => ?_))
          rw [take_snoc hr, fPre_zero hp hrm (by omega)]
          exact hmk n r'
      · clear st9 hod hxk hxl hmk
        intro S8 M4 ρ4 s10 le10 hJ st10
        refine hJ _ ?_
        clear hJ
        rintro le11 u1 u2 u3 u4 u5 u6 u7 u8 u9 xs od eM hod hxk hxl hmk
        subst eM
        rw [h7.length, List.take_length] at hmk
        rw [h7.length] at hxl
        have hsz : svs.length ≤ 100 := hsl ▸ Nat.le_trans (Nat.le_of_lt hi3) (Nat.le_of_ble_eq_true rfl)
        walk_at "go"
        rename_i st11
        obtain ⟨S9, le12, hrd9, st12⟩ := StC.freezeTo st11 hrd
        obtain ⟨S10, le13, hmd10, st13⟩ := StC.freezeTo st12 hmd
        have leI : Le S7 S10 := le11.trans (le12.trans le13)
        have leA : Le S2 S10 := le26.trans (le9.trans leI)
        refine LEnd.next st13 leA (fun _ kk => kk (le3.trans leA) u1 u2 u3 u4 xs od _ _ rfl hod (fun x hx => (hxk x hx).mono (le12.trans le13)) (by rw [Nat.mul_succ]; exact Nat.le_trans hxl (Nat.add_le_add_left hpo.hl _)) (by rw [List.length_append, hsl]; rfl) (fun k p' hk hp' => ?_) (fun n r => by rw [← fPre_next hp]; exact hmk n r))
        by_cases hq : k < i
        · obtain ⟨a, x1, x2⟩ := hsv k p' hq hp'
          exact ⟨a, by rw [List.getElem?_append_left (hsl ▸ hq)]; exact x1, x2.mono leA⟩
        · have : k = i := Nat.le_antisymm (Nat.le_of_lt_succ hk) (Nat.le_of_not_lt hq)
          subst this
          obtain rfl : p = p' := Option.some.inj (hp.symm.trans hp')
          exact ⟨sx, by rw [List.getElem?_append_right (Nat.le_of_eq hsl), hsl]; simp, ⟨_, md, om, gk, rd, _, _, hI7.mono leI, ⟨_, rfl⟩, rfl, hmd10, hom, hgk, hmds, rfl, le13 _ _ hrd9, LO.lst _ _, h7⟩⟩
  · intro S2 M2 ρ2 s2 le2 hJ st3
    refine hJ _ ?_
    clear hJ
    rintro le3 r1 r2 r3 r4 xs od svs sn eM hod hxk hxl hsl hsv hmk
    subst eM
    walk_at "go"
    rename_i ra S3 s3 le4 hra st4
    obtain ⟨S4, le5, hma4, st5⟩ := StC.freezeTo st4 hma
    obtain ⟨S5, le6, hsa5, st6⟩ := StC.freezeTo st5 hsa
    have leA := le4.trans (le5.trans le6)
    refine hQ ra 0 sa svs sn ma S5 s3 (fin _ _ _ _ st6 (le3.trans leA)) (le6 _ _ (le5 _ _ hra)) hsa5 (hsl.trans hpvl) (fun k p hp => ?_) ⟨od, xs, le6 _ _ hma4, hod, hmam, fun x hx => (hxk x hx).mono leA, fun n r => ?_⟩
    · have hk := (List.getElem?_eq_some_iff.mp hp).1
      obtain ⟨a, x1, x2⟩ := hsv k p (hpvl ▸ hk) hp
      exact ⟨a, x1, x2.mono leA⟩
    · have := hmk n r
      rw [hpvl, fPre_end] at this
      exact this
end

/-! L8 -/

theorem words_L8 : True := by
  k_with "eval Constant int" => ((with_reducible show wpAny _ _ (eval (Expr.Constant (Const.int _) _ _) _) _ _ _); (rename StC _ _ _ _ _ _ _ _ _ _ _ => stz); k_dflt (refine' cnstInt stz ?_); clear stz; intro _ _ _)
  k_with "eval Constant str" => ((with_reducible show wpAny _ _ (eval (Expr.Constant (Const.str _) _ _) _) _ _ _); (rename StC _ _ _ _ _ _ _ _ _ _ _ => stz); k_dflt (refine' cnstStr stz ?_); clear stz; intro _ _ _)
  k_with "eval Dict" => ((rename StC _ _ _ _ _ _ _ _ _ _ _ => stz); (with_reducible refine' dictLit4 stz ?_); clear stz; intro _ _ _ _ _ _ _ _ _ _)
  k_with "subscriptTail" => ((with_reducible show wpAny _ _ (subscriptTail _ _ (Value.ref _) (Value.str _ _)) _ _ _); k_dflt (refine' dictTailS ?k1 ?k2 ?k3 ?_; (case k1 => walk_at "H"); (case k2 => with_reducible assumption); (case k3 => with_reducible assumption)))
  k_with "subscriptTail" => ((with_reducible show wpAny _ _ (subscriptTail _ _ (Value.ref _) (Value.int _ _)) _ _ _); (rename StC _ _ _ _ _ _ _ _ _ _ _ => stz); k_dflt (refine' dictTailH stz ?k1 ?k2 ?k3 ?_; (case k1 => walk_at "H"); (case k2 => with_reducible assumption); (case k3 => with_reducible assumption)); clear stz; intro _ _)
  trivial


/-! CWay -/
noncomputable def wayL (t : Tok) : Option Way → Value
  | none => .str "both" t
  | some .red => .str "rule" t
  | some .shf => .str "shift" t
  | some .bar => .str "none" t
noncomputable def LevOk (lev : Lev) : Prop := ∀ t n sd, lev t = some (n, sd) → (sd = "left" ∨ sd = "right" ∨ sd = "nonassoc" ∨ sd = "precedence") ∧ 0 ≤ n ∧ n < 10
theorem sides_at {sd : Str} {t1 t2 t3 t4 : Tok} (h : sd = "left" ∨ sd = "right" ∨ sd = "nonassoc" ∨ sd = "precedence") :
    ∃ t, valueAt (merged [] [(("left" : Str), Value.str "rule" t1), ("right", .str "shift" t2), ("nonassoc", .str "none" t3), ("precedence", .str "both" t4)]) sd = some (wayL t (if (sd == "left") = true then some .red else if (sd == "right") = true then some .shf else if (sd == "nonassoc") = true then some .bar else none)) := by
  rcases h with rfl | rfl | rfl | rfl
  · exact ⟨t1, rfl⟩
  · exact ⟨t2, rfl⟩
  · exact ⟨t3, rfl⟩
  · exact ⟨t4, rfl⟩
section
variable {prog : Program} {w : World} {G : Heap} {g : Array GenState} {o : OsState} {A : Around} {E : Value → Shared → Prop} {s : Shared} {S : PM}
theorem c_way {Q : Value → Shared → Prop} {gx : Addr} {lev : Lev} {lof : Nat → Int} {ex : Option Int} {r : Nat} {t : Int} {t1 t2 : Tok} (P : Pre (cx w G g o) S s) (hA : Rm A 3) (hg : GramAt prog w S gx lev lof ex) (hlo : LevOk lev) (hr : r < 5)
   (hQ : ∀ S' s' u, Post (cx w G g o) [] S s S' s' → Q (wayL u (way lev (lof r) t)) s') : wpAny (model prog w) A (call (.ref 570) [.ref gx, .int r t1, .int t t2]) Q E s := by
  refine call_ret ?_
  refine' enter (binds := [("grammar", Value.ref gx), ("rule", Value.int r t1), ("terminal", Value.int t t2)]) P hA ?ho ?hcd ?hbind ?hloc ?hcell ?hco ?hgen ?hk ?_
  case ho => walk_at "is"
  case hcd => walk_at "is"
  case hbind => first | exact BindsTo.of_eq rfl | exact binds_K (K := hk.heap_1 w.params) (PreC.K (by first | exact P | exact St.pre P)) rfl (by walk_at "is") rfl rfl rfl
  case hloc => exact locs rfl
  case hcell => decide
  case hco => rfl
  case hgen => rfl
  case hk => rfl
  intro A' L n₀ B s' hA' st fin
  obtain ⟨xs, dl, rl, nl, ev, rvs, n, i, h1, h2, h3, ⟨tk, h4⟩, h5, h6, h7, h8, h9, h10⟩ := id hg
  obtain ⟨a, q1, q2⟩ := h10 r hr
  obtain ⟨xr, lf, bf, rt, rv, nr, ir, _, _, _, _, _, tl, hl⟩ := id q2
  obtain ⟨ol, kvs, hol, hdi, hdm, hlev⟩ := id h7
  have hrn : rvs[(Int.ofNat r).toNat]? = some (.ref a) := q1
  have hr0 : (0 : Int) ≤ r := by omega
  have hr1 : (r : Int) < 2 ^ 63 := by omega
  have l1 := hlev (lof r)
  have l2 := hlev t
  clear hlev h6 h10
  cases e1 : lev (lof r) with
  | none =>
    rw [e1] at l1
    have e : way lev (lof r) t = none := by unfold way; rw [e1]
    rw [e] at hQ
    dsimp only at l1
    cases e2 : lev t with
    | none =>
      rw [e2] at l2
      dsimp only at l2 ⊢
      walk_at "go"
      rename_i st
      exact hQ _ _ _ (fin _ _ _ _ st (Le.refl _))
    | some p =>
      obtain ⟨b, sd⟩ := p
      rw [e2] at l2
      obtain ⟨ab, u1, u2, e', q3, q4⟩ := l2
      dsimp only
      walk_at "go"
      rename_i st
      exact hQ _ _ _ (fin _ _ _ _ st (Le.refl _))
  | some p =>
    obtain ⟨a1, sd1⟩ := p
    rw [e1] at l1
    obtain ⟨aa, u3, u4, e'', q5, q6⟩ := l1
    cases e2 : lev t with
    | none =>
      have e : way lev (lof r) t = none := by unfold way; rw [e1, e2]
      rw [e] at hQ
      rw [e2] at l2
      dsimp only at l2 ⊢
      walk_at "go"
      rename_i st
      exact hQ _ _ _ (fin _ _ _ _ st (Le.refl _))
    | some p =>
      obtain ⟨b, sd⟩ := p
      rw [e2] at l2
      obtain ⟨ab, u1, u2, e', q3, q4⟩ := l2
      have e : way lev (lof r) t = if a1 > b then some .red else if a1 < b then some .shf else if (sd == "left") = true then some .red else if (sd == "right") = true then some .shf else if (sd == "nonassoc") = true then some .bar else none := by
        unfold way; rw [e1, e2]
      rw [e] at hQ
      have hsd := (hlo _ _ _ e2).1
      clear e e1 e2 hg P q2 h7
      dsimp only
      repeat' ((fail_if_success (with_reducible show wpAny _ _ (subscriptTail _ _ (Value.ref _) (Value.str _ _)) _ _ _)); first | walk1 | (dsimp only; walk1))
      · rename_i q1 q2 _ _ st
        dsimp only
        rw [if_pos (by omega)] at hQ
        exact hQ _ _ _ (fin _ _ _ _ st (Le.refl _))
      · rename_i q1 q2 _ _ st
        dsimp only
        rw [if_neg (by omega), if_pos (by omega)] at hQ
        exact hQ _ _ _ (fin _ _ _ _ st (Le.refl _))
      · rename_i q0 a2 o2 v1 v2 v3 v4 s4 ha2 ho2 s5 v5 s6 st
        obtain ⟨tv, hv⟩ := sides_at (t1 := v1) (t2 := v2) (t3 := v3) (t4 := v4) hsd
        refine dictTailS (st.M_at (.head _)) ho2 hv ?_
        rw [if_neg (by omega), if_neg (by omega)] at hQ
        walk1
        exact hQ _ _ tv (fin _ _ _ _ st (Le.refl _))
end

/-! L9 -/
section
variable {prog : Program} {w : World} {G : Heap} {g : Array GenState} {o : OsState} {A : Around} {E : Value → Shared → Prop} {s : Shared} {S : PM}
theorem c_wayE {Q : Value → Shared → Prop} {gx : Addr} {lev : Lev} {lof : Nat → Int} {ex : Option Int} {r : Nat} {t : Int} {t1 t2 : Tok} {wy : Option Way} (P : Pre (cx w G g o) S s) (hA : Rm A 3) (hg : GramAt prog w S gx lev lof ex) (hlo : LevOk lev) (hr : r < 5) (hw : way lev (lof r) t = wy)
   (hQ : ∀ S' s' u, Post (cx w G g o) [] S s S' s' → Q (wayL u wy) s') : wpAny (model prog w) A (call (.ref 570) [.ref gx, .int r t1, .int t t2]) Q E s :=
  c_way P hA hg hlo hr fun S' s' u P' => by rw [hw]; exact hQ S' s' u P'
end
theorem words_L9 : True := by
  k_with "call ref" => ((show wpAny _ _ (call (Value.ref 570) _) _ _ _); (rename StC _ _ _ _ _ _ _ _ _ _ _ => stz); (k_dflt (refine' c_wayE (St.pre stz) ?r ?b0 ?b3 ?b1 ?b2 ?_; (case r => walk_at "room"); (case b0 => walk_at "gram"); (case b3 => with_reducible assumption); (case b1 => with_reducible assumption); (case b2 => with_reducible assumption))); intro _ _ _ P'; have _ := StC.call stz P'; have _ := PostC.le P'; clear stz P'; (try dsimp only [wayL]))
  k_with "call builtin:list.remove" => ((rename StC _ _ _ _ _ _ _ _ _ _ _ => stz); k_dflt (refine' removeM stz ?k1 ?k2 ?k3 ?k4 ?_; (case k1 => walk_at "UFF"); (case k2 => with_reducible assumption); (case k3 => with_reducible assumption); (case k4 => first | with_reducible assumption | (simp only [sizeLine_eq]; omega))); clear stz; intro _ _ _ _ _)
  trivial


/-! CMet -/
structure MetSt where
  goal : Int
  kept : List Int
  byl : List Cf
  bar : Bool
noncomputable def metStep (lev : Lev) (lof : Nat → Int) (n t : Int) (m : MetSt) (r : Int) : MetSt :=
  if m.goal = 0 then m else match way lev (lof r.toNat) t with
  | none => m
  | some .red => ⟨0, m.kept, m.byl ++ [⟨n, t, true, [r], -r⟩], m.bar⟩
  | some .shf => ⟨m.goal, m.kept.erase r, m.byl ++ [⟨n, t, true, [r], m.goal⟩], m.bar⟩
  | some .bar => ⟨0, m.kept.erase r, m.byl ++ [⟨n, t, true, [r], BAR⟩], true⟩
noncomputable def metOf (lev : Lev) (lof : Nat → Int) (n t goal : Int) (rules : List Int) : MetSt := rules.foldl (metStep lev lof n t) ⟨goal, rules, [], false⟩
noncomputable def deedOf (m : MetSt) : Int := if m.bar = true then BAR else if m.goal = 0 ∧ m.kept ≠ [] then -(m.kept.getD 0 0) else m.goal
noncomputable def leftOf (n t : Int) (m : MetSt) : List Cf := (if m.goal ≠ 0 ∧ m.kept ≠ [] then [⟨n, t, true, m.kept, deedOf m⟩] else []) ++ (m.kept.drop 1).map fun r => ⟨n, t, false, [m.kept.getD 0 0, r], deedOf m⟩
theorem metStep_0 {lev : Lev} {lof : Nat → Int} {n t r : Int} {m : MetSt} (q : m.goal = 0) : metStep lev lof n t m r = m := by unfold metStep; rw [if_pos q]
theorem metStep_N {lev : Lev} {lof : Nat → Int} {n t : Int} {k : Nat} {m : MetSt} (hw : way lev (lof k) t = none) : metStep lev lof n t m (k : Int) = m := by unfold metStep; rw [Int.toNat_natCast, hw]; split <;> rfl
theorem metStep_R {lev : Lev} {lof : Nat → Int} {n t : Int} {k : Nat} {m : MetSt} (q : m.goal ≠ 0) (hw : way lev (lof k) t = some .red) : metStep lev lof n t m (k : Int) = ⟨0, m.kept, m.byl ++ [⟨n, t, true, [(k : Int)], -(k : Int)⟩], m.bar⟩ := by unfold metStep; rw [if_neg q, Int.toNat_natCast, hw]
theorem metStep_S {lev : Lev} {lof : Nat → Int} {n t : Int} {k : Nat} {m : MetSt} (q : m.goal ≠ 0) (hw : way lev (lof k) t = some .shf) : metStep lev lof n t m (k : Int) = ⟨m.goal, m.kept.erase k, m.byl ++ [⟨n, t, true, [(k : Int)], m.goal⟩], m.bar⟩ := by unfold metStep; rw [if_neg q, Int.toNat_natCast, hw]
theorem metStep_B {lev : Lev} {lof : Nat → Int} {n t : Int} {k : Nat} {m : MetSt} (q : m.goal ≠ 0) (hw : way lev (lof k) t = some .bar) : metStep lev lof n t m (k : Int) = ⟨0, m.kept.erase k, m.byl ++ [⟨n, t, true, [(k : Int)], BAR⟩], true⟩ := by unfold metStep; rw [if_neg q, Int.toNat_natCast, hw]
section
variable {prog : Program} {w : World} {G : Heap} {g : Array GenState} {o : OsState} {A : Around} {E : Value → Shared → Prop} {s : Shared} {S : PM}
theorem c_met {Q : Value → Shared → Prop} {gx ra : Addr} {lev : Lev} {lof : Nat → Int} {ex : Option Int} {n t goal : Int} {t1 t2 t3 : Tok} {ro : Obj} {rvs : List Value} {rules : List Int} (P : Pre (cx w G g o) S s) (hA : Rm A 5) (hg : GramAt prog w S gx lev lof ex) (hlo : LevOk lev)
   (hra : S ra = some ro) (hro : LO ro rvs) (hri : IntsAre rvs rules) (hrr : ∀ r ∈ rules, 1 ≤ r ∧ r ≤ 4) (hnd : rules.Nodup) (hlen : rules.length ≤ 4)
   (hQ : ∀ xa ba la bvs lvs e n1 n2 td S' s', Post (cx w G g o) [] S s S' s' → S' xa = some (tup [.int (deedOf (metOf lev lof n t goal rules)) td, .ref ba, .ref la] e) → S' ba = some (lst bvs n1) → TdsAt S' bvs (metOf lev lof n t goal rules).byl → S' la = some (lst lvs n2) → TdsAt S' lvs (leftOf n t (metOf lev lof n t goal rules)) → Q (.ref xa) s') :
   wpAny (model prog w) A (call (.ref 577) [.ref gx, .int n t1, .int t t2, .int goal t3, .ref ra]) Q E s := by
  refine call_ret ?_
  refine' enter (binds := [("grammar", Value.ref gx), ("state", Value.int n t1), ("terminal", Value.int t t2), ("goal", Value.int goal t3), ("rules", Value.ref ra)]) P hA ?ho ?hcd ?hbind ?hloc ?hcell ?hco ?hgen ?hk ?_
  case ho => walk_at "is"
  case hcd => walk_at "is"
  case hbind => first | exact BindsTo.of_eq rfl | exact binds_K (K := hk.heap_1 w.params) (PreC.K (by first | exact P | exact St.pre P)) rfl (by walk_at "is") rfl rfl rfl
  case hloc => exact locs rfl
  case hcell => decide
  case hco => rfl
  case hgen => rfl
  case hk => rfl
  intro A' L n₀ B s' hA' st fin
  have hrz : rvs.length ≤ 100 := by rw [hri.length]; omega
  walk_at "go"
  refine for_in ?_ (fun _ => rfl)
  walk_at "go"
  rename_i ka kn s1 hka s2 ba s3 hba s4 s5 st1
  let J1 : Nat → PM → List (Addr × Obj) → (Str → Option Value) → Prop := fun i S' M ρ => ∀ GG : Prop, (Le S S' → ρ "grammar" = some (.ref gx) → ρ "state" = some (.int n t1) → ρ "terminal" = some (.int t t2) → ρ "rules" = some (.ref ra) → ρ "kept" = some (.ref ka) → ρ "by_levels" = some (.ref ba) → ∀ m tg kvs kn bvs bn, m = (rules.take i).foldl (metStep lev lof n t) ⟨goal, rules, [], false⟩ → ρ "goal" = some (.int m.goal tg) → ρ "is_barred" = some (.bool m.bar) → M = [(ba, lst bvs bn), (ka, lst kvs kn)] → IntsAre kvs m.kept → kvs.length ≤ 4 → TdsAt S' bvs m.byl → bvs.length ≤ i → (∀ j, i ≤ j → ∀ r, rules[j]? = some r → r ∈ m.kept) → GG) → GG
  refine loop_list (vs := rvs) J1 st1 hA'.hh hra hro rfl rfl rfl
    (fun _ kk => kk (Le.refl _) rfl rfl rfl rfl rfl rfl _ _ _ _ _ _ rfl rfl rfl rfl hri (by rw [hri.length]; exact hlen) .nil (Nat.le_refl _) (fun j _ r hr => List.mem_of_getElem? hr)) ?_ ?_
  · intro i v B2 S2 M2 ρ2 s6 hv le2 hJ st2
    refine hJ _ ?_
    clear hJ
    rintro le3 r1 r2 r3 r4 r5 r6 m tg kvs kn bvs bn em r7 r8 eM hki hkl hbt hbl hin
    subst eM
    obtain ⟨r, tr, ev, hr⟩ := IntsAre.item hri hv
    subst ev
    have hrb := hrr r (List.mem_of_getElem? hr)
    have hi4 : i < 4 := Nat.lt_of_lt_of_le (List.getElem?_eq_some_iff.mp hr).1 hlen
    have hkm := hin i (Nat.le_refl _) r hr
    obtain ⟨k, rfl⟩ := Int.eq_ofNat_of_zero_le (Int.le_trans (by decide) hrb.1)
    have hk5 : k < 5 := Nat.lt_succ_of_le (Int.ofNat_le.mp hrb.2)
    have hkz : kvs.length ≤ 100 := Nat.le_trans hkl (Nat.le_of_ble_eq_true rfl)
    have hbz : bvs.length ≤ 100 := Nat.le_trans hbl (Nat.le_trans (Nat.le_of_lt hi4) (Nat.le_of_ble_eq_true rfl))
    have hbs : bvs.length ≤ i + 1 := Nat.le_succ_of_le hbl
    have hstep : (rules.take (i + 1)).foldl (metStep lev lof n t) ⟨goal, rules, [], false⟩ = metStep lev lof n t m k := by rw [take_snoc hr, List.foldl_append, ← em]; rfl
    have herase : ∀ j, i + 1 ≤ j → ∀ r, rules[j]? = some r → r ∈ m.kept.erase (k : Int) := fun j hj r' hr' => by
      refine (List.mem_erase_of_ne fun q => ?_).mpr (hin j (Nat.le_of_succ_le hj) r' hr')
      subst q
      obtain ⟨h1, h2⟩ := List.getElem?_eq_some_iff.mp hr
      obtain ⟨h3, h4⟩ := List.getElem?_eq_some_iff.mp hr'
      exact (List.pairwise_iff_getElem.mp hnd i j h1 h3 hj) (h2.trans h4.symm)
    have hin' : ∀ j, i + 1 ≤ j → ∀ r, rules[j]? = some r → r ∈ m.kept := fun j hj => hin j (Nat.le_of_succ_le hj)
    cases hw : way lev (lof k) t with
    | none =>
      walk_at "go"
      · (rename StC _ _ _ _ _ _ _ _ _ _ _ => st9)
        rename m.goal = 0 => q
        exact LEnd.next st9 (Le.refl _) (fun _ kk => kk le3 r1 r2 r3 r4 r5 r6 m tg kvs kn bvs bn ((hstep.trans (metStep_0 q)).symm) r7 r8 rfl hki hkl hbt hbs hin')
      · (rename StC _ _ _ _ _ _ _ _ _ _ _ => st9)
        rename Le S2 _ => le9
        exact LEnd.next st9 le9 (fun _ kk => kk (le3.trans le9) r1 r2 r3 r4 r5 r6 m tg kvs kn bvs bn ((hstep.trans (metStep_N hw)).symm) r7 r8 rfl hki hkl (hbt.mono le9) hbs hin')
    | some wy =>
      cases wy with
      | red =>
        walk_at "go"
        · (rename StC _ _ _ _ _ _ _ _ _ _ _ => st9)
          rename m.goal = 0 => q
          exact LEnd.next st9 (Le.refl _) (fun _ kk => kk le3 r1 r2 r3 r4 r5 r6 m tg kvs kn bvs bn ((hstep.trans (metStep_0 q)).symm) r7 r8 rfl hki hkl hbt hbs hin')
        · (rename StC _ _ _ _ _ _ _ _ _ _ _ => st9)
          rename m.goal ≠ 0 => q
          have le9 := le_of st9 (S := S2) (by walk_at "le")
          refine' LEnd.next st9 le9 (fun _ kk => kk (le3.trans le9) r1 r2 r3 r4 r5 r6 _ _ _ _ _ _ ((hstep.trans (metStep_R q hw)).symm) rfl r8 rfl hki hkl ((hbt.mono le9).app (.one (TdAt.of ?_ ?_ (.cons _ _ .nil)))) ?_ hin')
          · assumption
          · walk_at "S"
          · rw [List.length_append]; exact Nat.succ_le_succ hbl
      | shf =>
        walk_at "go"
        · (rename StC _ _ _ _ _ _ _ _ _ _ _ => st9)
          rename m.goal = 0 => q
          exact LEnd.next st9 (Le.refl _) (fun _ kk => kk le3 r1 r2 r3 r4 r5 r6 m tg kvs kn bvs bn ((hstep.trans (metStep_0 q)).symm) r7 r8 rfl hki hkl hbt hbs hin')
        · (rename StC _ _ _ _ _ _ _ _ _ _ _ => st9)
          rename m.goal ≠ 0 => q
          rename IntsAre _ (m.kept.erase _) => hi9
          have le9 := le_of st9 (S := S2) (by walk_at "le")
          refine' LEnd.next st9 le9 (fun _ kk => kk (le3.trans le9) r1 r2 r3 r4 r5 r6 _ _ _ _ _ _ ((hstep.trans (metStep_S q hw)).symm) r7 r8 rfl hi9 (by rw [hi9.length]; exact Nat.le_trans (List.length_erase_le ..) (by rw [← hki.length]; exact hkl)) ((hbt.mono le9).app (.one (TdAt.of ?_ ?_ (.cons _ _ .nil)))) ?_ herase)
          · assumption
          · walk_at "S"
          · rw [List.length_append]; exact Nat.succ_le_succ hbl
      | bar =>
        walk_at "go"
        · (rename StC _ _ _ _ _ _ _ _ _ _ _ => st9)
          rename m.goal = 0 => q
          exact LEnd.next st9 (Le.refl _) (fun _ kk => kk le3 r1 r2 r3 r4 r5 r6 m tg kvs kn bvs bn ((hstep.trans (metStep_0 q)).symm) r7 r8 rfl hki hkl hbt hbs hin')
        · (rename StC _ _ _ _ _ _ _ _ _ _ _ => st9)
          rename m.goal ≠ 0 => q
          rename IntsAre _ (m.kept.erase _) => hi9
          have le9 := le_of st9 (S := S2) (by walk_at "le")
          refine' LEnd.next st9 le9 (fun _ kk => kk (le3.trans le9) r1 r2 r3 r4 r5 r6 _ _ _ _ _ _ ((hstep.trans (metStep_B q hw)).symm) rfl rfl rfl hi9 (by rw [hi9.length]; exact Nat.le_trans (List.length_erase_le ..) (by rw [← hki.length]; exact hkl)) ((hbt.mono le9).app (.one (TdAt.of ?_ ?_ (.cons _ _ .nil)))) ?_ herase)
          · assumption
          · walk_at "S"
          · rw [List.length_append]; exact Nat.succ_le_succ hbl
  · intro S2 M2 ρ2 s6 le2 hJ st2
    refine hJ _ ?_
    clear hJ
    rintro le3 r1 r2 r3 r4 r5 r6 m tg kvs kn bvs bn em r7 r8 eM hki hkl hbt hbl hin
    subst eM
    rw [hri.length, List.take_length] at em
    obtain rfl : m = metOf lev lof n t goal rules := em
    generalize metOf lev lof n t goal rules = m at *
    have hkz : kvs.length ≤ 100 := Nat.le_trans hkl (Nat.le_of_ble_eq_true rfl)
    have hnf : ∀ {α : Type} (l : List α), l.isEmpty = false → 0 < l.length := fun l e => by cases l <;> simp_all
    have hne : m.kept ≠ [] ↔ kvs.isEmpty = false := by
      have := hki.length
      cases hq : m.kept with
      | nil => rw [hq] at this; cases kvs with | nil => simp | cons => simp at this
      | cons => rw [hq] at this; cases kvs with | nil => simp at this | cons => simp
    repeat' ((fail_if_success (with_reducible show wpAny _ _ (exec (Stmt.If _ _ _ _) _) _ _ _)); first | walk1 | (dsimp only; walk1))
    have hpos : kvs.isEmpty = false → (0 : Int) < (m.kept.length : Int) := fun e => by have := hnf _ e; rw [hki.length] at this; omega
    let J2 : PM → List (Addr × Obj) → (Str → Option Value) → Prop := fun S' M ρ => ∀ GG : Prop, (M = [(ba, lst bvs bn), (ka, lst kvs kn)] → ρ "state" = some (.int n t1) → ρ "terminal" = some (.int t t2) → ρ "kept" = some (.ref ka) → ρ "by_levels" = some (.ref ba) → ρ "goal" = some (.int m.goal tg) → ∀ td, ρ "deed" = some (.int (deedOf m) td) → GG) → GG
    refine cut (cx w G g o) S n₀ B L S2 J2 ?_ ?_
    · walk_at "go"
      · rename m.bar = true => q1
        (rename StC _ _ _ _ _ _ _ _ _ _ _ => st9)
        have e : deedOf m = BAR := by unfold deedOf; rw [if_pos q1]
        exact Mid.of st9 (Le.refl _) (fun _ kk => kk rfl r2 r3 r5 r6 r7 _ (by rw [e]; rfl))
      · rename m.bar = false => q1
        rename kvs.isEmpty = true => q2
        (rename StC _ _ _ _ _ _ _ _ _ _ _ => st9)
        have e : deedOf m = m.goal := by
          unfold deedOf
          rw [if_neg (by rw [q1]; decide), if_neg]
          rintro ⟨_, q⟩
          rw [hne, q2] at q
          cases q
        exact Mid.of st9 (Le.refl _) (fun _ kk => kk rfl r2 r3 r5 r6 r7 _ (by rw [e]; rfl))
      · rename m.bar = false => q1
        rename m.goal = 0 => q0
        rename kvs.isEmpty = false => q2
        (rename StC _ _ _ _ _ _ _ _ _ _ _ => st9)
        refine listTailI (st9.M_at (.tail _ (.head _))) (LO.lst _ _) hki (by decide) (hpos q2) (by decide) fun u => ?_
        walk_at "go"
        (rename StC _ _ _ _ _ _ _ _ _ _ _ => st9)
        have e : deedOf m = -(m.kept.getD (Int.toNat 0) 0) := by
          unfold deedOf
          rw [if_neg (by rw [q1]; decide), if_pos ⟨q0, hne.mpr q2⟩]; rfl
        exact Mid.of st9 (Le.refl _) (fun _ kk => kk rfl r2 r3 r5 r6 r7 _ (by rw [e]; rfl))
      · rename m.bar = false => q1
        rename m.goal ≠ 0 => q0
        (rename StC _ _ _ _ _ _ _ _ _ _ _ => st9)
        have e : deedOf m = m.goal := by
          unfold deedOf
          rw [if_neg (by rw [q1]; decide), if_neg fun q => q0 q.1]
        exact Mid.of st9 (Le.refl _) (fun _ kk => kk rfl r2 r3 r5 r6 r7 _ (by rw [e]; rfl))
    · intro S3 _ ρ' s9 le9 hJ st9
      refine hJ _ ?_
      clear hJ
      rintro rfl u1 u2 u3 u4 u5 td u6
      try dsimp only
      repeat' ((fail_if_success (with_reducible show wpAny _ _ (exec (Stmt.If _ _ _ _) _) _ _ _)); first | walk1 | (dsimp only; walk1))
      rename_i la s10 hla s11 st10
      let J3 : PM → List (Addr × Obj) → (Str → Option Value) → Prop := fun S' M ρ => ∀ GG : Prop, (∀ lvs ln, M = [(la, lst lvs ln), (ba, lst bvs bn), (ka, lst kvs kn)] → TdsAt S' lvs (if m.goal ≠ 0 ∧ m.kept ≠ [] then [⟨n, t, true, m.kept, deedOf m⟩] else []) → lvs.length ≤ 1 → ρ "state" = some (.int n t1) → ρ "terminal" = some (.int t t2) → ρ "kept" = some (.ref ka) → ρ "by_levels" = some (.ref ba) → ρ "deed" = some (.int (deedOf m) td) → ρ "left" = some (.ref la) → GG) → GG
      refine cut (cx w G g o) S n₀ B L S3 J3 ?_ ?_
      · walk_at "go"
        · rename kvs.isEmpty = true => q2
          (rename StC _ _ _ _ _ _ _ _ _ _ _ => st9)
          refine Mid.of st9 (Le.refl _) (fun _ kk => kk _ _ rfl ?_ (Nat.zero_le _) u1 u2 u3 u4 u6 rfl)
          rw [if_neg]
          · exact .nil
          · rintro ⟨_, q⟩
            rw [hne, q2] at q
            cases q
        · rename kvs.isEmpty = false => q2
          rename m.goal ≠ 0 => q0
          (rename StC _ _ _ _ _ _ _ _ _ _ _ => st9)
          have le9 := le_of st9 (S := S3) (by walk_at "le")
          refine' Mid.of st9 le9 (fun _ kk => kk _ _ rfl ?_ (Nat.le_refl _) u1 u2 u3 u4 u6 rfl)
          rw [if_pos ⟨q0, hne.mpr q2⟩]
          refine' TdsAt.one (TdAt.of ?i ?h hki)
          case i => assumption
          case h => walk_at "S"
        · rename m.goal = 0 => q0
          (rename StC _ _ _ _ _ _ _ _ _ _ _ => st9)
          refine Mid.of st9 (Le.refl _) (fun _ kk => kk _ _ rfl ?_ (Nat.zero_le _) u1 u2 u3 u4 u6 rfl)
          rw [if_neg fun q => q.1 q0]
          exact .nil
      · intro S4 _ ρ3 s12 le10 hJ st12
        refine hJ _ ?_
        clear hJ
        rintro lvs ln rfl htl hll u1 u2 u3 u4 u6 u7
        have leA : Le S S4 := le3.trans (le9.trans le10)
        have hbt4 := hbt.mono (le9.trans le10)
        try dsimp only
        walk_at "go"
        refine for_in ?_ (fun _ => rfl)
        walk_at "go"
        rename_i r9 S9 s9 le9 hr9 st9
        have htl9 := TdsAt.mono htl le9
        clear htl
        generalize hF : (if m.goal ≠ 0 ∧ m.kept ≠ [] then [(⟨n, t, true, m.kept, deedOf m⟩ : Cf)] else []) = F at *
        let J4 : Nat → PM → List (Addr × Obj) → (Str → Option Value) → Prop := fun k S' M ρ => ∀ GG : Prop, (Le S9 S' → ∀ lvs ln, M = [(la, lst lvs ln), (ba, lst bvs bn), (ka, lst kvs kn)] → TdsAt S' lvs (F ++ ((m.kept.drop 1).take k).map fun r => ⟨n, t, false, [m.kept.getD 0 0, r], deedOf m⟩) → lvs.length ≤ 1 + k → ρ "state" = some (.int n t1) → ρ "terminal" = some (.int t t2) → ρ "kept" = some (.ref ka) → ρ "by_levels" = some (.ref ba) → ρ "deed" = some (.int (deedOf m) td) → ρ "left" = some (.ref la) → GG) → GG
        refine loop_list (lo := lst (kvs.drop (Int.toNat 1)) 0) (vs := kvs.drop (Int.toNat 1)) J4 st9 hA'.hh hr9 (LO.lst _ _) rfl rfl rfl
          (fun _ kk => kk (Le.refl _) lvs ln rfl (by simpa using htl9) hll u1 u2 u3 u4 u6 u7) ?_ ?_
        · clear htl9
          intro k v B3 S5 M5 ρ5 s5 hv le5 hJ st5
          refine hJ _ ?_
          clear hJ
          rintro le6 lvs ln eM htl hll u1 u2 u3 u4 u6 u7
          subst eM
          obtain ⟨r, tr, ev, hr⟩ := IntsAre.item (IntsAre.dropped hki (Int.toNat 1)) hv
          subst ev
          have hk : 1 + k < m.kept.length := by
            have := (List.getElem?_eq_some_iff.mp hr).1
            rw [List.length_drop] at this
            rw [Nat.add_comm]; exact Nat.add_lt_of_lt_sub this
          have hr0 : (0 : Int) < (m.kept.length : Int) := Int.ofNat_lt.mpr (Nat.lt_of_le_of_lt (Nat.zero_le _) hk)
          have hlz : lvs.length ≤ 100 := Nat.le_trans hll (Nat.le_trans (Nat.le_of_lt hk) (hki.length ▸ hkz))
          walk_at "go"
          (rename StC _ _ _ _ _ _ _ _ _ _ _ => st9)
          have le9 := le_of st9 (S := S5) (by walk_at "le")
          refine' LEnd.next st9 le9 (fun _ kk => kk (le6.trans le9) _ _ rfl ?_ (by rw [List.length_append]; exact Nat.succ_le_succ hll) u1 u2 u3 u4 u6 u7)
          rw [take_snoc (show (m.kept.drop 1)[k]? = some r from hr), List.map_append, List.map_cons, List.map_nil, ← List.append_assoc]
          refine' (htl.mono le9).app (.one (TdAt.of ?i ?h (.cons _ _ (.cons _ _ .nil))))
          case i => assumption
          case h => walk_at "S"
        · clear htl9
          intro S5 M5 ρ5 s5 le5 hJ st5
          refine hJ _ ?_
          clear hJ
          rintro le6 lvs ln eM htl hll u1 u2 u3 u4 u6 u7
          subst eM
          walk_at "go"
          rename_i xa S6 s6 le7 hxa st6
          obtain ⟨S7, le8, hla7, st7⟩ := StC.freezeTo st6 hla
          obtain ⟨S8, le10, hba8, st8⟩ := StC.freezeTo st7 hba
          have leT := le9.trans (le6.trans (le7.trans (le8.trans le10)))
          have e7 : (kvs.drop (Int.toNat 1)).length = (m.kept.drop 1).length := by rw [List.length_drop, List.length_drop, hki.length]; rfl
          rw [e7, List.take_length] at htl
          refine hQ xa ba la bvs lvs 0 bn ln td S8 _ (fin _ _ _ _ st8 (leA.trans leT)) (le10 _ _ (le8 _ _ hxa)) hba8 (hbt4.mono leT) (le10 _ _ hla7) ?_
          unfold leftOf
          rw [hF]
          exact htl.mono (le7.trans (le8.trans le10))
end

/-! L10 -/

theorem words_L10 : True := by
  k_with "U" => first | exact UpM.tail (UpM.tail (UpM.tail (UpM.tail (UpM.tail (UpM.tail UpM.head))))) | exact UpM.tail (UpM.tail (UpM.tail (UpM.tail (UpM.tail (UpM.tail (UpM.tail UpM.head)))))) | exact UpM.tail (UpM.tail (UpM.tail (UpM.tail (UpM.tail (UpM.tail (UpM.tail (UpM.tail UpM.head))))))) | exact UpM.tail (UpM.tail (UpM.tail (UpM.tail (UpM.tail (UpM.tail (UpM.tail (UpM.tail (UpM.tail UpM.head))))))))
  k_with "UF" => first | exact fun _ => UpM.tail (UpM.tail (UpM.tail (UpM.tail (UpM.tail (UpM.tail UpM.head))))) | exact fun _ => UpM.tail (UpM.tail (UpM.tail (UpM.tail (UpM.tail (UpM.tail (UpM.tail UpM.head)))))) | exact fun _ => UpM.tail (UpM.tail (UpM.tail (UpM.tail (UpM.tail (UpM.tail (UpM.tail (UpM.tail UpM.head))))))) | exact fun _ => UpM.tail (UpM.tail (UpM.tail (UpM.tail (UpM.tail (UpM.tail (UpM.tail (UpM.tail (UpM.tail UpM.head))))))))
  k_with "UFF" => first | exact fun _ _ => UpM.tail (UpM.tail (UpM.tail (UpM.tail (UpM.tail (UpM.tail UpM.head))))) | exact fun _ _ => UpM.tail (UpM.tail (UpM.tail (UpM.tail (UpM.tail (UpM.tail (UpM.tail UpM.head)))))) | exact fun _ _ => UpM.tail (UpM.tail (UpM.tail (UpM.tail (UpM.tail (UpM.tail (UpM.tail (UpM.tail UpM.head))))))) | exact fun _ _ => UpM.tail (UpM.tail (UpM.tail (UpM.tail (UpM.tail (UpM.tail (UpM.tail (UpM.tail (UpM.tail UpM.head))))))))
  trivial


/-! CDue -/
noncomputable def goalOf (mv : List (Int × Int)) (t : Nat) : Int := if t = 0 ∧ (atI mv t).getD 0 ≠ 0 then ACC else (atI mv t).getD 0
noncomputable def rulesFor (held lks : List Int) (t : Nat) : List Int := held.filter fun r => tb (lks.getD (r - 1).toNat 0) t
noncomputable def cellOf (lev : Lev) (lof : Nat → Int) (p : PL) (n : Int) (t : Nat) : MetSt := metOf lev lof n t (goalOf p.mv t) (rulesFor p.held p.lks t)
noncomputable def dueRow (lev : Lev) (lof : Nat → Int) (p : PL) (n : Int) (k : Nat) : List Int := (List.range k).map fun t => deedOf (cellOf lev lof p n t)
noncomputable def dueBy (lev : Lev) (lof : Nat → Int) (p : PL) (n : Int) (k : Nat) : List Cf := (List.range k).flatMap fun t => (cellOf lev lof p n t).byl
noncomputable def dueLeft (lev : Lev) (lof : Nat → Int) (p : PL) (n : Int) (k : Nat) : List Cf := (List.range k).flatMap fun (t : Nat) => leftOf n (t : Int) (cellOf lev lof p n t)
noncomputable def bestL (row : List Int) (b r : Int) : Int := if 0 < row.count (-r) ∧ (b = 0 ∨ row.count (-b) ≤ row.count (-r)) then r else b
noncomputable def bestOf (wants : Bool) (row : List Int) : Int := if wants = false ∨ row.getD 1 0 > 0 then 0 else [4, 3, 2, 1].foldl (bestL row) 0
noncomputable def dueAt (plan : List PL) (k : Nat) : PL := plan.getD k ⟨[], [], []⟩
noncomputable def dueRows (lev : Lev) (lof : Nat → Int) (wants : Bool) (plan : List PL) (i : Nat) : List (List Int) := (List.range i).map fun (k : Nat) => outRow (dueRow lev lof (dueAt plan k) k 7) (bestOf wants (dueRow lev lof (dueAt plan k) k 7))
noncomputable def dueDefs (lev : Lev) (lof : Nat → Int) (wants : Bool) (plan : List PL) (i : Nat) : List Int := (List.range i).map fun (k : Nat) => bestOf wants (dueRow lev lof (dueAt plan k) k 7)
noncomputable def dueBys (lev : Lev) (lof : Nat → Int) (plan : List PL) (i : Nat) : List Cf := (List.range i).flatMap fun (k : Nat) => dueBy lev lof (dueAt plan k) k 7
noncomputable def dueLefts (lev : Lev) (lof : Nat → Int) (plan : List PL) (i : Nat) : List Cf := (List.range i).flatMap fun (k : Nat) => dueLeft lev lof (dueAt plan k) k 7
theorem metStep_len {lev : Lev} {lof : Nat → Int} {n t r : Int} {m : MetSt} : (metStep lev lof n t m r).byl.length ≤ m.byl.length + 1 ∧ (metStep lev lof n t m r).kept.length ≤ m.kept.length := by
  unfold metStep
  split
  · exact ⟨Nat.le_succ _, Nat.le_refl _⟩
  · split
    · exact ⟨Nat.le_succ _, Nat.le_refl _⟩
    · exact ⟨by simp, Nat.le_refl _⟩
    · exact ⟨by simp, List.length_erase_le ..⟩
    · exact ⟨by simp, List.length_erase_le ..⟩
theorem met_fold {lev : Lev} {lof : Nat → Int} {n t : Int} : ∀ (rules : List Int) (m : MetSt), (rules.foldl (metStep lev lof n t) m).byl.length ≤ m.byl.length + rules.length ∧ (rules.foldl (metStep lev lof n t) m).kept.length ≤ m.kept.length
  | [], m => ⟨Nat.le_refl _, Nat.le_refl _⟩
  | r :: rs, m => by
    have h1 := metStep_len (lev := lev) (lof := lof) (n := n) (t := t) (r := r) (m := m)
    have h2 := met_fold (lev := lev) (lof := lof) (n := n) (t := t) rs (metStep lev lof n t m r)
    simp only [List.foldl_cons, List.length_cons]
    exact ⟨Nat.le_trans h2.1 (by rw [Nat.add_comm rs.length, ← Nat.add_assoc]; exact Nat.add_le_add_right h1.1 _), Nat.le_trans h2.2 h1.2⟩
theorem metOf_len {lev : Lev} {lof : Nat → Int} {n t goal : Int} {rules : List Int} : (metOf lev lof n t goal rules).byl.length ≤ rules.length ∧ (metOf lev lof n t goal rules).kept.length ≤ rules.length := by
  have := met_fold (lev := lev) (lof := lof) (n := n) (t := t) rules ⟨goal, rules, [], false⟩
  simpa [metOf] using this
theorem leftOf_len {n t : Int} {m : MetSt} : (leftOf n t m).length ≤ m.kept.length := by
  unfold leftOf
  rw [List.length_append, List.length_map, List.length_drop]
  split
  · rename_i h
    have : m.kept.length ≠ 0 := fun q => h.2 (List.eq_nil_of_length_eq_zero q)
    rw [List.length_singleton, Nat.add_comm, Nat.sub_add_cancel (Nat.pos_of_ne_zero this)]; exact Nat.le_refl _
  · simp
theorem way_dom {lev : Lev} (hd : ∀ t, t < 3 → lev t = none) {lr t : Int} (ht : t < 3) : way lev lr t = none := by
  unfold way
  rw [hd t ht]
  split <;> simp_all
theorem met_byl {lev : Lev} {lof : Nat → Int} {n t : Int} : ∀ (rules : List Int) (m : MetSt), ∃ rs : List Int, rs.Sublist rules ∧ (rules.foldl (metStep lev lof n t) m).byl.map (·.rs) = m.byl.map (·.rs) ++ rs.map (fun r => [r]) ∧
    ∀ c ∈ (rules.foldl (metStep lev lof n t) m).byl, c ∈ m.byl ∨ (c.n = n ∧ c.t = t ∧ c.sr = true)
  | [], m => ⟨[], .slnil, by simp, fun c hc => .inl hc⟩
  | r :: rules, m => by
    obtain ⟨rs, h1, h2, h3⟩ := met_byl (lev := lev) (lof := lof) (n := n) (t := t) rules (metStep lev lof n t m r)
    rw [List.foldl_cons]
    have key : (metStep lev lof n t m r).byl = m.byl ∨ ∃ ch, (metStep lev lof n t m r).byl = m.byl ++ [⟨n, t, true, [r], ch⟩] := by
      unfold metStep
      split
      · exact .inl rfl
      · split
        · exact .inl rfl
        · exact .inr ⟨_, rfl⟩
        · exact .inr ⟨_, rfl⟩
        · exact .inr ⟨_, rfl⟩
    rcases key with e | ⟨ch, e⟩
    · rw [e] at h2 h3
      exact ⟨rs, h1.cons _, h2, h3⟩
    · rw [e] at h2 h3
      refine ⟨r :: rs, h1.cons_cons _, by rw [h2]; simp, fun c hc => ?_⟩
      rcases h3 c hc with q | q
      · rcases List.mem_append.mp q with q | q
        · exact .inl q
        · rw [List.mem_singleton.mp q]; exact .inr ⟨rfl, rfl, rfl⟩
      · exact .inr q
theorem metOf_byl {lev : Lev} {lof : Nat → Int} {n t goal : Int} {rules : List Int} (hnd : rules.Nodup) : (metOf lev lof n t goal rules).byl.Nodup ∧ ∀ c ∈ (metOf lev lof n t goal rules).byl, c.n = n ∧ c.t = t ∧ SrOne c ∧ ∃ r ∈ rules, c.rs = [r] := by
  obtain ⟨rs, h1, h2, h3⟩ := met_byl (lev := lev) (lof := lof) (n := n) (t := t) rules ⟨goal, rules, [], false⟩
  unfold metOf
  generalize (rules.foldl (metStep lev lof n t) ⟨goal, rules, [], false⟩).byl = byl at h2 h3
  simp only [List.map_nil, List.nil_append] at h2
  have hrs : (rs.map (fun r => [r])).Nodup := by
    refine List.Pairwise.map _ (fun a b hab q => hab (by injection q)) (h1.nodup hnd)
  refine ⟨?_, fun c hc => ?_⟩
  · rw [← h2] at hrs
    exact List.Pairwise.of_map _ (fun a b hab q => hab (by rw [q])) hrs
  · have hc2 : c.rs ∈ byl.map (·.rs) := List.mem_map_of_mem hc
    rw [h2] at hc2
    obtain ⟨r, hr, e⟩ := List.mem_map.mp hc2
    rcases h3 c hc with q | ⟨q1, q2, q3⟩
    · cases q
    · exact ⟨q1, q2, ⟨q3, r, e.symm⟩, r, h1.subset hr, e.symm⟩
theorem met_dom {lev : Lev} (hd : ∀ t, t < 3 → lev t = none) {lof : Nat → Int} {n t : Int} (ht : t < 3) : ∀ (rules : List Int) (m : MetSt), (rules.foldl (metStep lev lof n t) m) = m
  | [], m => rfl
  | r :: rules, m => by
    rw [List.foldl_cons]
    have e : metStep lev lof n t m r = m := by
      unfold metStep
      rw [way_dom hd ht]
      split <;> rfl
    rw [e]
    exact met_dom hd ht rules m
/-- what is told of settled conflicts: no two alike, shift/reduce ones over one rule, fewer than 64 -/
structure BysOk (l : List Cf) (k : Nat) : Prop where
  nd : l.Nodup
  one : ∀ c ∈ l, SrOne c
  few : l.length ≤ k
theorem dueBy_ok {lev : Lev} (hd : ∀ t, t < 3 → lev t = none) {lof : Nat → Int} {p : PL} {n : Int} (hok : PLOk p) (hnd : p.held.Nodup) : BysOk (dueBy lev lof p n 7) 16 ∧ ∀ c ∈ dueBy lev lof p n 7, c.n = n := by
  have cell : ∀ t : Nat, (cellOf lev lof p n t).byl.Nodup ∧ ∀ c ∈ (cellOf lev lof p n t).byl, c.n = n ∧ c.t = t ∧ SrOne c ∧ ∃ r ∈ rulesFor p.held p.lks t, c.rs = [r] := fun t => metOf_byl (hnd.filter _)
  have len : ∀ t : Nat, (cellOf lev lof p n t).byl.length ≤ 4 := fun t => Nat.le_trans (metOf_len).1 (Nat.le_trans (List.length_filter_le _ _) hok.hl)
  have low : ∀ t : Nat, t < 3 → (cellOf lev lof p n t).byl = [] := fun t ht => by
    unfold cellOf metOf
    rw [met_dom hd (by omega)]
  refine ⟨⟨?_, fun c hc => ?_, ?_⟩, fun c hc => ?_⟩
  · refine List.pairwise_flatMap.mpr ⟨fun t _ => (cell t).1, ?_⟩
    refine (List.nodup_range (n := 7)).imp fun {a b} hab x hx y hy q => hab ?_
    have h1 := ((cell a).2 x hx).2.1
    have h2 := ((cell b).2 y hy).2.1
    rw [q] at h1
    exact Int.ofNat.inj (h1.symm.trans h2)
  · obtain ⟨t, _, h⟩ := List.mem_flatMap.mp hc
    exact ((cell t).2 c h).2.2.1
  · have e : dueBy lev lof p n 7 = (cellOf lev lof p n 0).byl ++ ((cellOf lev lof p n 1).byl ++ ((cellOf lev lof p n 2).byl ++ ((cellOf lev lof p n 3).byl ++ ((cellOf lev lof p n 4).byl ++ ((cellOf lev lof p n 5).byl ++ ((cellOf lev lof p n 6).byl ++ [])))))) := rfl
    rw [e, low 0 (by decide), low 1 (by decide), low 2 (by decide)]
    simp only [List.length_append, List.length_nil]
    exact Nat.le_trans (Nat.add_le_add (Nat.le_refl 0) (Nat.add_le_add (Nat.le_refl 0) (Nat.add_le_add (Nat.le_refl 0) (Nat.add_le_add (len 3) (Nat.add_le_add (len 4) (Nat.add_le_add (len 5) (Nat.add_le_add (len 6) (Nat.le_refl 0)))))))) (Nat.le_refl 16)
  · obtain ⟨t, _, h⟩ := List.mem_flatMap.mp hc
    exact ((cell t).2 c h).1
theorem dueAt_mem {plan : List PL} {k : Nat} (h : k < plan.length) : dueAt plan k ∈ plan := by
  unfold dueAt
  have e : plan.getD k ⟨[], [], []⟩ = plan[k] := by simp [h]
  rw [e]; exact List.getElem_mem _
theorem dueBys_ok {lev : Lev} (hd : ∀ t, t < 3 → lev t = none) {lof : Nat → Int} {plan : List PL} (hok : ∀ p ∈ plan, PLOk p) (hnd : ∀ p ∈ plan, p.held.Nodup) : ∀ i, i ≤ plan.length → BysOk (dueBys lev lof plan i) (16 * i) := fun i hi => by
  have one : ∀ k, k < i → BysOk (dueBy lev lof (dueAt plan k) k 7) 16 ∧ ∀ c ∈ dueBy lev lof (dueAt plan k) k 7, c.n = k := fun k hk => dueBy_ok hd (hok _ (dueAt_mem (Nat.lt_of_lt_of_le hk hi))) (hnd _ (dueAt_mem (Nat.lt_of_lt_of_le hk hi)))
  refine ⟨?_, fun c hc => ?_, ?_⟩
  · refine List.pairwise_flatMap.mpr ⟨fun k hk => (one k (List.mem_range.mp hk)).1.nd, ?_⟩
    refine List.Pairwise.imp_of_mem ?_ (List.nodup_range (n := i))
    intro a b ha hb hab x hx y hy q
    have h1 := (one a (List.mem_range.mp ha)).2 x hx
    have h2 := (one b (List.mem_range.mp hb)).2 y hy
    rw [q] at h1
    exact hab (Int.ofNat.inj (h1.symm.trans h2))
  · obtain ⟨k, hk, h⟩ := List.mem_flatMap.mp hc
    exact (one k (List.mem_range.mp hk)).1.one c h
  · have key : ∀ (l : List Nat), (∀ k ∈ l, k < i) → (l.flatMap fun (k : Nat) => dueBy lev lof (dueAt plan k) k 7).length ≤ 16 * l.length := by
      intro l
      induction l with
      | nil => intro _; exact Nat.zero_le _
      | cons k l ih =>
        intro h
        rw [List.flatMap_cons, List.length_append, List.length_cons]
        have h1 := (one k (h k (.head _))).1.few
        have h2 := ih fun j hj => h j (.tail _ hj)
        rw [Nat.mul_succ, Nat.add_comm]; exact Nat.add_le_add h2 h1
    have := key (List.range i) fun k hk => List.mem_range.mp hk
    rw [List.length_range] at this
    exact this
section
variable {prog : Program} {w : World} {G : Heap} {g : Array GenState} {o : OsState} {A : Around} {E : Value → Shared → Prop} {s : Shared} {S : PM}
theorem c_due {Q : Value → Shared → Prop} {gx pa : Addr} {lev : Lev} {lof : Nat → Int} {ex : Option Int} {plan : List PL} {wants : Bool} (P : Pre (cx w G g o) S s) (hA : Rm A 8) (hg : GramAt prog w S gx lev lof ex) (hlo : LevOk lev) (hp : PlanAt prog w S pa plan) (hok : ∀ p ∈ plan, PLOk p) (hpl : plan.length ≤ 3) (hnd : ∀ p ∈ plan, p.held.Nodup) (hdom : ∀ t, t < 3 → lev t = none)
   (hQ : ∀ xa ra da ba la rvs dvs bvs lvs e n1 n2 n3 n4 cs S' s', Post (cx w G g o) [] S s S' s' → S' xa = some (tup [.ref ra, .ref da, .ref ba, .ref la] e) → S' ra = some (lst rvs n1) → RowsAt S' rvs (dueRows lev lof wants plan plan.length) →
      S' da = some (lst dvs n2) → IntsAre dvs (dueDefs lev lof wants plan plan.length) → S' ba = some (lst bvs n3) → TdsAt S' bvs cs → cs.Perm (dueBys lev lof plan plan.length) → cs.Pairwise ltP → S' la = some (lst lvs n4) → TdsAt S' lvs (dueLefts lev lof plan plan.length) → Q (.ref xa) s') :
   wpAny (model prog w) A (call (.ref 582) [.ref gx, .ref pa, .bool wants]) Q E s := by
  refine call_ret ?_
  refine' enterC (binds := [("grammar", Value.ref gx), ("plan", Value.ref pa), ("wants", Value.bool wants)]) (cells := fun L => [("best", L + 3), ("t", L + 2), ("looks", L + 1)]) P hA ?ho ?hcd ?hbind ?hcs ?hkind ?hnd ?hco ?hgen ?hk ?_
  case ho => walk_at "is"
  case hcd => walk_at "is"
  case hbind => first | exact BindsTo.of_eq rfl | exact binds_K (K := hk.heap_1 w.params) (PreC.K (by first | exact P | exact St.pre P)) rfl (by walk_at "is") rfl rfl rfl
  case hcs => intro n; rfl
  case hkind => intro n x hx; exact kindsC (by repeat' (first | exact trivial | refine And.intro (by first | exact .inl rfl | exact .inr ⟨rfl, rfl⟩) ?_)) x hx
  case hnd => decide
  case hco => rfl
  case hgen => rfl
  case hk => rfl
  intro A' L n₀ B s' cs hA' hcs st' fin
  obtain ⟨ob, ot, ol, rfl, hob, hot, hol⟩ := hcs.three
  obtain ⟨pvs, pn, hpa, hpvl, hpi⟩ := id hp
  have hz0 : pvs.length < 2 ^ 62 := by omega
  walk_at "go"
  rename_i ra _ hra da _ hda ba _ hba la _ hla _ S1 _ le1 _ _ _ _ _ s1 st1
  refine for_in ?_ (fun _ => rfl)
  walk_at "go"
  rename_i s2 st2 hr2
  have hrf := range_fits (n := pvs.length) (by omega)
  let J1 : Nat → PM → List (Addr × Obj) → (Str → Option Value) → Prop := fun i S' M ρ => ∀ GG : Prop, (Le S1 S' → ρ "grammar" = some (.ref gx) → ρ "plan" = some (.ref pa) → ρ "wants" = some (.bool wants) → ρ "rows" = some (.ref ra) → ρ "defaults" = some (.ref da) → ∀ ba la bvs bn lvs ln rvs rn dvs dn ob ot ol vb vt vl, ρ "by_levels" = some (.ref ba) → ρ "left" = some (.ref la) → n₀ ≤ ba → n₀ ≤ la → M = [(la, lst lvs ln), (ba, lst bvs bn), (da, lst dvs dn), (ra, lst rvs rn), (L + 3, ob), (L + 2, ot), (L + 1, ol)] → ob.data = .cell vb → ot.data = .cell vt → ol.data = .cell vl → TdsAt S' bvs (dueBys lev lof plan i) → bvs.length ≤ 28 * i → TdsAt S' lvs (dueLefts lev lof plan i) → lvs.length ≤ 28 * i → RowsAt S' rvs (dueRows lev lof wants plan i) → rvs.length ≤ i → IntsAre dvs (dueDefs lev lof wants plan i) → dvs.length ≤ i → GG) → GG
  refine loop_range (n := pvs.length) J1 st2 hA'.hh hr2 hrf.1 hrf.2 rfl rfl rfl
    (fun _ kk => kk (Le.refl _) rfl rfl rfl rfl rfl ba la [] 0 [] 0 [] 0 [] 0 ob ot ol _ _ _ rfl rfl hba hla rfl hob hot hol .nil (Nat.le_refl _) .nil (Nat.le_refl _) .nil (Nat.le_refl _) .nil (Nat.le_refl _)) ?_ ?_
  · clear st2
    intro i tk B2 S2 M2 ρ2 s2 hi le2 hJ st3
    refine hJ _ ?_
    clear hJ
    rintro le3 r1 r2 r3 r4 r5 ba la bvs bn lvs ln rvs rn dvs dn ob ot ol vb vt vl r6 r7 hba hla eM hob hot hol hbt hbl hlt hll hrt hrl hdt hdl
    subst eM
    have hip : i < plan.length := hpvl ▸ hi
    have hi3 : i < 3 := Nat.lt_of_lt_of_le hip hpl
    obtain ⟨p, hp⟩ : ∃ p, plan[i]? = some p := ⟨_, List.getElem?_eq_getElem hip⟩
    have hpm := List.mem_of_getElem? hp
    have hpo := hok p hpm
    have hpn := hnd p hpm
    obtain ⟨ia, hia, hit⟩ := hpi i p hp
    obtain ⟨mo, hl, lk, ie, imd, kvs, hvs, n1, ls, n2, h1, h2, h3, h4, h5, h6, h7, h8, h9⟩ := (hit.mono (le1.trans le3))
    have hia' : pvs[((i : Int)).toNat]? = some (.ref ia) := by rw [Int.toNat_natCast]; exact hia
    have hpa2 := (le1.trans le3) _ _ hpa
    walk_at "go"
    refine for_in ?_ (fun _ => rfl)
    walk_at "go"
    rename_i wa _ hwa _ _ _ _ _ _ _ s4 st4 hr4
    have hol4 : ({ cls := ol.cls, dict := ol.dict, data := Data.cell (some (Value.ref lk)), slots := ol.slots } : Obj).data = .cell (some (.ref lk)) := rfl
    generalize ({ cls := ol.cls, dict := ol.dict, data := Data.cell (some (Value.ref lk)), slots := ol.slots } : Obj) = ol4 at st4 hol4
    let J2 : Nat → PM → List (Addr × Obj) → (Str → Option Value) → Prop := fun j S' M ρ => ∀ GG : Prop, (Le S2 S' → ρ "grammar" = some (.ref gx) → ρ "plan" = some (.ref pa) → ρ "wants" = some (.bool wants) → ρ "rows" = some (.ref ra) → ρ "defaults" = some (.ref da) → ρ "number" = some (.int i tk) → ρ "moves" = some (.ref mo) → ρ "held" = some (.ref hl) → ρ "row" = some (.ref wa) → ∀ ba la bvs bn lvs ln wvs wn ot vt, ρ "by_levels" = some (.ref ba) → ρ "left" = some (.ref la) → n₀ ≤ ba → n₀ ≤ la → M = [(wa, lst wvs wn), (la, lst lvs ln), (ba, lst bvs bn), (da, lst dvs dn), (ra, lst rvs rn), (L + 3, ob), (L + 2, ot), (L + 1, ol4)] → ot.data = .cell vt → IntsAre wvs (dueRow lev lof p i j) → wvs.length ≤ j → TdsAt S' bvs (dueBys lev lof plan i ++ dueBy lev lof p i j) → bvs.length ≤ 28 * i + 4 * j → TdsAt S' lvs (dueLefts lev lof plan i ++ dueLeft lev lof p i j) → lvs.length ≤ 28 * i + 4 * j → GG) → GG
    refine loopT_range (n := 7) J2 st4 hA'.hh hr4 rfl rfl
      (fun _ kk => kk (Le.refl _) r1 r2 r3 r4 r5 rfl rfl rfl rfl ba la bvs bn lvs ln [] 0 ot vt r6 r7 hba hla rfl hot .nil (Nat.le_refl _) (by simpa [dueBy] using hbt) hbl (by simpa [dueLeft] using hlt) hll) ?_ ?_
    · clear st4 hbt hlt
      intro j t0 B3 S3 M3 ρ3 s5 hj le5 hJ st5
      refine hJ _ ?_
      clear hJ
      rintro le6 q1 q2 q3 q4 q5 q6 q7 q8 q9 ba la bvs bn lvs ln wvs wn ot vt q10 q11 hba hla eM hot hwi hwl hbt hbl hlt hll
      subst eM
      repeat' ((fail_if_success (with_reducible show wpAny _ _ (call (Value.builtin "dict.get") _) _ _ _)); first | walk1 | (dsimp only; walk1))
      rename_i s6 t6 s7 st6
      have hot6 : ({ cls := ot.cls, dict := ot.dict, data := Data.cell (some (Value.int (↑j) t0)), slots := ot.slots } : Obj).data = .cell (some (.int j t0)) := rfl
      generalize ({ cls := ot.cls, dict := ot.dict, data := Data.cell (some (Value.int (↑j) t0)), slots := ot.slots } : Obj) = ot6 at st6 hot6
      refine getKI st6 (StC.S_at st6 (le6 _ _ h2)) h3 h5 h4 fun tg s8 st8 => ?_
      clear st6
      repeat' ((fail_if_success (with_reducible show wpAny _ _ (exec (Stmt.If _ _ _ _) _) _ _ _)); first | walk1 | (dsimp only; walk1))
      let J3 : PM → List (Addr × Obj) → (Str → Option Value) → Prop := fun S' M ρ => ∀ GG : Prop, (ρ "grammar" = some (.ref gx) → ρ "plan" = some (.ref pa) → ρ "wants" = some (.bool wants) → ρ "rows" = some (.ref ra) → ρ "defaults" = some (.ref da) → ρ "number" = some (.int i tk) → ρ "moves" = some (.ref mo) → ρ "held" = some (.ref hl) → ρ "row" = some (.ref wa) → ρ "by_levels" = some (.ref ba) → ρ "left" = some (.ref la) → (∃ tg, ρ "goal" = some (.int (goalOf p.mv j) tg)) → M = [(wa, lst wvs wn), (la, lst lvs ln), (ba, lst bvs bn), (da, lst dvs dn), (ra, lst rvs rn), (L + 3, ob), (L + 2, ot6), (L + 1, ol4)] → GG) → GG
      refine cut (cx w G g o) S n₀ B3 L S3 J3 ?_ ?_
      · walk_at "go"
        · rename (j : Int) = 0 => z1
          rename (atI p.mv (j : Int)).getD 0 ≠ 0 => z2
          (rename StC _ _ _ _ _ _ _ _ _ _ _ => st9)
          have e : goalOf p.mv j = ACC := by unfold goalOf; rw [if_pos ⟨by omega, z2⟩]
          exact Mid.of st9 (Le.refl _) (fun _ kk => kk q1 q2 q3 q4 q5 q6 q7 q8 q9 q10 q11 ⟨_, by rw [e]; rfl⟩ rfl)
        · rename (atI p.mv (j : Int)).getD 0 = 0 => z2
          (rename StC _ _ _ _ _ _ _ _ _ _ _ => st9)
          have e : goalOf p.mv j = (atI p.mv (j : Int)).getD 0 := by unfold goalOf; rw [if_neg fun q => q.2 z2]
          exact Mid.of st9 (Le.refl _) (fun _ kk => kk q1 q2 q3 q4 q5 q6 q7 q8 q9 q10 q11 ⟨_, by rw [e]; rfl⟩ rfl)
        · rename (j : Int) ≠ 0 => z1
          (rename StC _ _ _ _ _ _ _ _ _ _ _ => st9)
          have e : goalOf p.mv j = (atI p.mv (j : Int)).getD 0 := by unfold goalOf; rw [if_neg fun q => z1 (by omega)]
          exact Mid.of st9 (Le.refl _) (fun _ kk => kk q1 q2 q3 q4 q5 q6 q7 q8 q9 q10 q11 ⟨_, by rw [e]; rfl⟩ rfl)
      · intro S4 M4 ρ4 s9 le7 hJ st9
        refine hJ _ ?_
        clear hJ
        rintro q1 q2 q3 q4 q5 q6 q7 q8 q9 q10 q11 ⟨tg, q12⟩ eM
        subst eM
        try dsimp only
        walk_at "go"
        have leB : Le S2 S4 := le6.trans le7
        refine comp_to (cl := [("t", L + 2), ("looks", L + 1)]) ?sw ?clos ?kd ?nm ?_
        case sw => with_unfolding_all rfl
        case clos => with_unfolding_all rfl
        case kd => rfl
        case nm => decide
        walk_at "go"
        let J4 : Nat → List Value → PM → List (Addr × Obj) → Prop := fun k ys S' M => ∀ GG : Prop, (Le S4 S' → M = [(wa, lst wvs wn), (la, lst lvs ln), (ba, lst bvs bn), (da, lst dvs dn), (ra, lst rvs rn), (L + 3, ob), (L + 2, ot6), (L + 1, ol4)] → IntsAre ys (rulesFor (p.held.take k) p.lks j) → GG) → GG
        refine comp_list (lo := lst hvs n1) (vs := hvs) J4 (by assumption) hA'.hh (leB _ _ h6) (LO.lst _ _) (by rw [h7.length, sizeLine_eq]; have := hpo.hl; omega) (by decide) rfl rfl (fun _ kk => kk (Le.refl _) rfl .nil) ?_ ?_
        · intro C k v ys B5 S5 M5 ρ5 s10 hv le8 hJ st10
          refine hJ _ ?_
          clear hJ
          rintro le9 eM hys
          subst eM
          refine wpAny_tests_one ?_
          obtain ⟨r, tr, ev, hr⟩ := IntsAre.item h7 hv
          subst ev
          have hrb := hpo.held r (List.mem_of_getElem? hr)
          have hlk5 := le9 _ _ (leB _ _ h8)
          have hb0 : 0 ≤ r - 1 := by omega
          have hb1 : r - 1 < (ls.length : Int) := by rw [h9.length, hpo.len]; omega
          have hb2 : r - 1 < (p.lks.length : Int) := by rw [hpo.len]; omega
          have hb3 : r - 1 < 2 ^ 63 := by omega
          have hp1 : (2 : Int) ^ Int.toNat (j : Int) ≠ 0 := Int.ne_of_gt (Int.pow_pos (by decide))
          have hp2 : ((2 : Int) ^ Int.toNat (j : Int)).natAbs < 1073741824 := by
            rw [Int.toNat_natCast]
            exact pow8 j (Nat.lt_succ_of_lt hj)
          have htb : tb (p.lks.getD (r - 1).toNat 0) j = decide (((p.lks.getD (r - 1).toNat 0).fdiv (2 ^ Int.toNat (j : Int))).fmod 2 = 1) := by
            unfold tb
            rw [Int.toNat_natCast, Int.fdiv_eq_ediv_of_nonneg _ (Int.le_of_lt (Int.pow_pos (by decide))), Int.fmod_eq_emod_of_nonneg _ (by decide)]
            generalize p.lks.getD (r - 1).toNat 0 / 2 ^ j % 2 = v
            by_cases q : v = 1 <;> simp [q]
          have hsn : rulesFor (p.held.take (k + 1)) p.lks j = rulesFor (p.held.take k) p.lks j ++ (if tb (p.lks.getD (r - 1).toNat 0) j = true then [r] else []) := by
            unfold rulesFor
            rw [take_snoc hr, List.filter_append]
            congr 1
            simp [List.filter_cons]
          walk_at "go"
          · rename Int.fmod _ 2 = 1 => z
            (rename StC _ _ _ _ _ _ _ _ _ _ _ => st12)
            refine CEnd.of st12 (Le.refl _) (fun _ kk => kk le9 rfl ?_)
            rw [hsn, if_pos (by rw [htb]; exact decide_eq_true z)]
            exact hys.append (.cons _ _ .nil)
          · rename Int.fmod _ 2 ≠ 1 => z
            (rename StC _ _ _ _ _ _ _ _ _ _ _ => st12)
            refine CEnd.of st12 (Le.refl _) (fun _ kk => kk le9 rfl ?_)
            rw [hsn, if_neg (by rw [htb]; simpa using z), List.append_nil]
            exact hys
        · intro S5 M5 ys D C s10 le8 hJ hD st10 hC hm
          refine hJ _ ?_
          clear hJ
          rintro le9 eM hys
          subst eM
          rw [h7.length, List.take_length] at hys
          refine' compA st10 hC hm ?hy ?hk ?hL ?_
          case hy => rfl
          case hk => rfl
          case hL => rfl
          intro s11 st11
          obtain ⟨S6, le10, hD6, st12⟩ := StC.freezeTo st11 hD
          clear st11 st10
          try dsimp only
          repeat' ((fail_if_success (with_reducible show wpAny _ _ (call (Value.ref _) _) _ _ _)); first | walk1 | (dsimp only; walk1))
          have hrm : ∀ r ∈ rulesFor p.held p.lks j, 1 ≤ r ∧ r ≤ 4 := fun r hr => hpo.held r (List.mem_filter.mp hr).1
          have hrl : (rulesFor p.held p.lks j).length ≤ 4 := Nat.le_trans (List.length_filter_le _ _) hpo.hl
          refine c_met (St.pre st12) (Rm.le hA' (by decide)) (hg.mono ((le1.trans (le3.trans leB)).trans (le9.trans le10))) hlo hD6 (LO.lst _ _) hys hrm (hpn.filter _) hrl fun xa oa ta ovs tvs e n3 n4 td S7 s12 P7 hxa hoa hot' hta htt => ?_
          have st13 := StC.call st12 P7
          have le11 := P7.le
          clear st12 P7
          have hdl2 : deedOf (metOf lev lof i j (goalOf p.mv j) (rulesFor p.held p.lks j)) = deedOf (cellOf lev lof p i j) := rfl
          have hwz : wvs.length ≤ 100 := by omega
          have hm4 := metOf_len (lev := lev) (lof := lof) (n := i) (t := j) (goal := goalOf p.mv j) (rules := rulesFor p.held p.lks j)
          have hl4 := leftOf_len (n := i) (t := j) (m := metOf lev lof i j (goalOf p.mv j) (rulesFor p.held p.lks j))
          have hoz : bvs.length + ovs.length ≤ sizeLine := by rw [sizeLine_eq, hot'.len]; omega
          have htz : lvs.length + tvs.length ≤ sizeLine := by rw [sizeLine_eq, htt.len]; omega
          walk_at "go"
          rename_i _ _ _ _ _ ba2 _ hba2 _ la2 _ hla2 s13 st14
          obtain ⟨S8, le12, _, st15⟩ := StC.freezeMid [(la2, lst (lvs ++ tvs) 0), (ba2, lst (bvs ++ ovs) 0), (wa, _)] st14 hla
          obtain ⟨S9, le13, _, st16⟩ := StC.freezeMid [(la2, lst (lvs ++ tvs) 0), (ba2, lst (bvs ++ ovs) 0), (wa, _)] st15 hba
          have st17 := StC.permP st16 (List.perm_middle (l₁ := [(la2, lst (lvs ++ tvs) 0), (ba2, lst (bvs ++ ovs) 0)])).symm
          clear st14 st15 st16
          have leE := le12.trans le13
          have leT : Le S3 S9 := (le7.trans (le9.trans le10)).trans (le11.trans leE)
          refine LEnd.next st17 leT (fun _ kk => kk (le6.trans leT) q1 q2 q3 q4 q5 q6 q7 q8 q9 ba2 la2 _ 0 _ 0 _ _ ot6 _ rfl rfl hba2 hla2 rfl hot6 ?_ (by rw [List.length_append]; exact Nat.succ_le_succ hwl) ?_ ?_ ?_ ?_)
          · unfold dueRow
            rw [List.range_succ, List.map_append]
            exact hwi.append (.cons _ _ .nil)
          · unfold dueBy
            rw [List.range_succ, List.flatMap_append, List.flatMap_cons, List.flatMap_nil, List.append_nil, ← List.append_assoc]
            exact (hbt.mono leT).app (hot'.mono leE)
          · rw [List.length_append, hot'.len]; omega
          · unfold dueLeft
            rw [List.range_succ, List.flatMap_append, List.flatMap_cons, List.flatMap_nil, List.append_nil, ← List.append_assoc]
            exact (hlt.mono leT).app (htt.mono leE)
          · rw [List.length_append, htt.len]; omega
    · clear st4 hbt hlt
      intro S3 M3 ρ3 s5 le5 hJ st5
      refine hJ _ ?_
      clear hJ
      rintro le6 q1 q2 q3 q4 q5 q6 q7 q8 q9 ba la bvs bn lvs ln wvs wn ot vt q10 q11 hba hla eM hot hwi hwl hbt hbl hlt hll
      subst eM
      generalize hrow : dueRow lev lof p i 7 = row at hwi
      walk_at "go"
      refine for_in ?_ (fun _ => rfl)
      walk_at "go"
      rename_i tb0 _ _ u1 _ u2 _ u3 _ u4 _ va S4 s6 le7 hva st6
      have hob6 : ({ cls := ob.cls, dict := ob.dict, data := Data.cell (some (Value.int 0 tb0)), slots := ob.slots } : Obj).data = .cell (some (.int 0 tb0)) := rfl
      generalize ({ cls := ob.cls, dict := ob.dict, data := Data.cell (some (Value.int 0 tb0)), slots := ob.slots } : Obj) = ob6 at st6 hob6
      have hvi : IntsAre [Value.int 4 u1, Value.int 3 u2, Value.int 2 u3, Value.int 1 u4] [4, 3, 2, 1] := .cons _ _ (.cons _ _ (.cons _ _ (.cons _ _ .nil)))
      generalize [Value.int 4 u1, Value.int 3 u2, Value.int 2 u3, Value.int 1 u4] = vvs at hva hvi
      let J5 : Nat → PM → List (Addr × Obj) → (Str → Option Value) → Prop := fun k S' M ρ => ∀ GG : Prop, (Le S4 S' → ρ "grammar" = some (.ref gx) → ρ "plan" = some (.ref pa) → ρ "wants" = some (.bool wants) → ρ "rows" = some (.ref ra) → ρ "defaults" = some (.ref da) → ρ "row" = some (.ref wa) → ρ "by_levels" = some (.ref ba) → ρ "left" = some (.ref la) → ∀ ob tb, M = [(wa, lst wvs wn), (la, lst lvs ln), (ba, lst bvs bn), (da, lst dvs dn), (ra, lst rvs rn), (L + 3, ob), (L + 2, ot), (L + 1, ol4)] → ob.data = .cell (some (.int ((([4, 3, 2, 1] : List Int).take k).foldl (bestL row) 0) tb)) → GG) → GG
      refine loop_tup (vs := vvs) J5 st6 hA'.hh hva (TO.tup _ _) rfl rfl rfl
        (fun _ kk => kk (Le.refl _) q1 q2 q3 q4 q5 q9 q10 q11 ob6 tb0 rfl hob6) ?_ ?_
      · intro k v B3 S5 M5 ρ5 s7 hv le8 hJ st7
        refine hJ _ ?_
        clear hJ
        rintro le9 q1 q2 q3 q4 q5 q9 q10 q11 ob tb eM hob
        subst eM
        obtain ⟨r, tr, ev, hr⟩ := IntsAre.item hvi hv
        subst ev
        have e0 : (([4, 3, 2, 1] : List Int).take (k + 1)).foldl (bestL row) 0 = bestL row ((([4, 3, 2, 1] : List Int).take k).foldl (bestL row) 0) r := by rw [take_snoc hr, List.foldl_append, List.foldl_cons, List.foldl_nil]
        generalize (([4, 3, 2, 1] : List Int).take k).foldl (bestL row) 0 = b at hob e0
        walk_at "go"
        · rename (0 : Int) < _ => z1
          rename b = 0 => z2
          (rename StC _ _ _ _ _ _ _ _ _ _ _ => st9)
          have e : bestL row b r = r := by unfold bestL; rw [if_pos ⟨by omega, .inl z2⟩]
          rw [e] at e0
          exact LEnd.next st9 (Le.refl _) (fun _ kk => kk le9 q1 q2 q3 q4 q5 q9 q10 q11 _ _ rfl (by rw [e0]))
        · rename (0 : Int) < _ => z1
          rename b ≠ 0 => z2
          rename ((List.count (-b) row : Nat) : Int) ≤ _ => z3
          (rename StC _ _ _ _ _ _ _ _ _ _ _ => st9)
          have e : bestL row b r = r := by unfold bestL; rw [if_pos ⟨by omega, .inr (by omega)⟩]
          rw [e] at e0
          exact LEnd.next st9 (Le.refl _) (fun _ kk => kk le9 q1 q2 q3 q4 q5 q9 q10 q11 _ _ rfl (by rw [e0]))
        · rename b ≠ 0 => z2
          rename ¬ (((List.count (-b) row : Nat) : Int) ≤ _) => z3
          (rename StC _ _ _ _ _ _ _ _ _ _ _ => st9)
          have e : bestL row b r = b := by
            unfold bestL; rw [if_neg]
            rintro ⟨_, q⟩
            rcases q with q | q
            · exact z2 q
            · omega
          rw [e] at e0
          exact LEnd.next st9 (Le.refl _) (fun _ kk => kk le9 q1 q2 q3 q4 q5 q9 q10 q11 _ _ rfl (by rw [e0]; exact hob))
        · rename ¬ ((0 : Int) < _) => z1
          (rename StC _ _ _ _ _ _ _ _ _ _ _ => st9)
          have e : bestL row b r = b := by unfold bestL; rw [if_neg fun q => z1 (by have := q.1; omega)]
          rw [e] at e0
          exact LEnd.next st9 (Le.refl _) (fun _ kk => kk le9 q1 q2 q3 q4 q5 q9 q10 q11 _ _ rfl (by rw [e0]; exact hob))
      · intro S5 M5 ρ5 s7 le8 hJ st7
        refine hJ _ ?_
        clear hJ
        rintro le9 q1 q2 q3 q4 q5 q9 q10 q11 ob tb9 eM hob
        subst eM
        rw [hvi.length, List.take_length] at hob
        obtain ⟨S6, le10, hwa6, st8⟩ := StC.freezeTo st7 hwa
        clear st7 st6
        have hr1 : (1 : Int) < (row.length : Int) := by rw [← hrow]; unfold dueRow; rw [List.length_map, List.length_range]; decide
        repeat' ((fail_if_success (with_reducible show wpAny _ _ (exec (Stmt.If _ _ _ _) _) _ _ _)); first | walk1 | (dsimp only; walk1))
        let J6 : PM → List (Addr × Obj) → (Str → Option Value) → Prop := fun S' M ρ => ∀ GG : Prop, (ρ "grammar" = some (.ref gx) → ρ "plan" = some (.ref pa) → ρ "wants" = some (.bool wants) → ρ "rows" = some (.ref ra) → ρ "defaults" = some (.ref da) → ρ "row" = some (.ref wa) → ρ "by_levels" = some (.ref ba) → ρ "left" = some (.ref la) → ∀ ob tb, M = [(la, lst lvs ln), (ba, lst bvs bn), (da, lst dvs dn), (ra, lst rvs rn), (L + 3, ob), (L + 2, ot), (L + 1, ol4)] → ob.data = .cell (some (.int (bestOf wants row) tb)) → GG) → GG
        refine cut (cx w G g o) S n₀ B2 L S6 J6 ?_ ?_
        · walk_at "go"
          · rename wants = true => z1
            rename (0 : Int) < row.getD _ 0 => z2
            (rename StC _ _ _ _ _ _ _ _ _ _ _ => st9)
            have e : bestOf wants row = 0 := by unfold bestOf; rw [if_pos (.inr z2)]
            exact Mid.of st9 (Le.refl _) (fun _ kk => kk q1 q2 q3 q4 q5 q9 q10 q11 _ _ rfl (by rw [e]))
          · rename wants = true => z1
            rename ¬ ((0 : Int) < row.getD _ 0) => z2
            (rename StC _ _ _ _ _ _ _ _ _ _ _ => st9)
            have e : bestOf wants row = ([4, 3, 2, 1] : List Int).foldl (bestL row) 0 := by
              unfold bestOf
              rw [if_neg]
              rintro (q | q)
              · rw [z1] at q; cases q
              · exact z2 q
            exact Mid.of st9 (Le.refl _) (fun _ kk => kk q1 q2 q3 q4 q5 q9 q10 q11 _ _ rfl (by rw [e]; exact hob))
          · rename wants = false => z1
            (rename StC _ _ _ _ _ _ _ _ _ _ _ => st9)
            have e : bestOf wants row = 0 := by unfold bestOf; rw [if_pos (.inl z1)]
            exact Mid.of st9 (Le.refl _) (fun _ kk => kk q1 q2 q3 q4 q5 q9 q10 q11 _ _ rfl (by rw [e]))
        · clear hob
          intro S7 M7 ρ7 s9 le11 hJ st9
          refine hJ _ ?_
          clear hJ
          rintro q1 q2 q3 q4 q5 q9 q10 q11 ob tb eM hob
          subst eM
          have hwa7 := le11 _ _ hwa6
          generalize hbest : bestOf wants row = b at hob
          walk_at "go"
          refine comp_in (cl := [("best", L + 3)]) ?clos ?kd ?nm ?_
          case clos => with_unfolding_all rfl
          case kd => rfl
          case nm => decide
          walk_at "go"
          have hwi7 : wvs.length = row.length := hwi.length
          let J7 : Nat → List Value → PM → List (Addr × Obj) → Prop := fun j ys S' M => ∀ GG : Prop, (Le S7 S' → M = [(la, lst lvs ln), (ba, lst bvs bn), (da, lst dvs dn), (ra, lst rvs rn), (L + 3, ob), (L + 2, ot), (L + 1, ol4)] → IntsAre ys (outRow (row.take j) b) → GG) → GG
          refine comp_list (vs := wvs) J7 (by assumption) hA'.hh hwa7 (LO.lst _ _) (by rw [sizeLine_eq]; omega) (by decide) rfl rfl (fun _ kk => kk (Le.refl _) rfl .nil) ?_ ?_
          · intro C j v ys B2 S2 M2 ρ2 s2 hv le2 hJ st3
            refine hJ _ ?_
            clear hJ
            rintro le3 eM hi
            subst eM
            obtain ⟨x, tx, ev, hx⟩ := IntsAre.item hwi hv
            subst ev
            refine wpAny_tests_nil ?_
            simp only [if_true]
            walk_at "go"
            · rename x = -b => hq
              (rename StC _ _ _ _ _ _ _ _ _ _ _ => st3)
              refine CEnd.of st3 (Le.refl _) (fun _ kk => kk le3 rfl ?_)
              unfold outRow at hi ⊢
              rw [take_snoc hx, List.map_append, List.map_cons, List.map_nil, if_pos hq]
              exact hi.append (.cons _ _ .nil)
            · rename x ≠ -b => hq
              (rename StC _ _ _ _ _ _ _ _ _ _ _ => st3)
              refine CEnd.of st3 (Le.refl _) (fun _ kk => kk le3 rfl ?_)
              unfold outRow at hi ⊢
              rw [take_snoc hx, List.map_append, List.map_cons, List.map_nil, if_neg hq]
              exact hi.append (.cons _ _ .nil)
          · intro S8 M8 ys D C s10 le12 hJ hD st10 hC hm
            refine hJ _ ?_
            clear hJ
            rintro le13 eM hi
            subst eM
            refine compE st10 hC hm fun s11 st11 => ?_
            clear st10 st9
            obtain ⟨S9, le14, hD9, st12⟩ := StC.freezeTo st11 hD
            clear st11
            rw [hwi7, List.take_length] at hi
            walk_at "go"
            (rename StC _ _ _ _ _ _ _ _ _ _ _ => st13)
            have leT : Le S2 S9 := ((le6.trans le7).trans (le9.trans le10)).trans (le11.trans (le13.trans le14))
            have hda : dueAt plan i = p := by unfold dueAt; rw [List.getD_eq_getElem?_getD, hp]; rfl
            refine LEnd.next st13 leT (fun _ kk => kk (le3.trans leT) q1 q2 q3 q4 q5 ba la bvs bn lvs ln _ _ _ _ ob ot ol4 _ _ _ q10 q11 hba hla rfl hob hot hol4 ?_ (by omega) ?_ (by omega) ?_ ?_ ?_ ?_)
            · unfold dueBys
              rw [List.range_succ, List.flatMap_append, List.flatMap_cons, List.flatMap_nil, List.append_nil, hda]
              exact hbt.mono ((le7.trans (le9.trans le10)).trans (le11.trans (le13.trans le14)))
            · unfold dueLefts
              rw [List.range_succ, List.flatMap_append, List.flatMap_cons, List.flatMap_nil, List.append_nil, hda]
              exact hlt.mono ((le7.trans (le9.trans le10)).trans (le11.trans (le13.trans le14)))
            · unfold dueRows
              rw [List.range_succ, List.map_append, List.map_cons, List.map_nil, hda, hrow, hbest]
              exact (hrt.mono leT).snoc hD9 (LO.lst _ _) hi
            · rw [List.length_append]; exact Nat.succ_le_succ hrl
            · unfold dueDefs
              rw [List.range_succ, List.map_append, List.map_cons, List.map_nil, hda, hrow, hbest]
              exact hdt.append (.cons _ _ .nil)
            · rw [List.length_append]; exact Nat.succ_le_succ hdl
  · clear st2
    intro S2 M2 ρ2 s2 le2 hJ st3
    refine hJ _ ?_
    clear hJ
    rintro le3 r1 r2 r3 r4 r5 ba la bvs bn lvs ln rvs rn dvs dn ob ot ol vb vt vl r6 r7 hba hla eM hob hot hol hbt hbl hlt hll hrt hrl hdt hdl
    subst eM
    rw [hpvl] at hbt hlt hrt hdt
    have bok := dueBys_ok (lev := lev) hdom (lof := lof) hok hnd plan.length (Nat.le_refl _)
    repeat' ((fail_if_success (with_reducible show wpAny _ _ (call (Value.builtin "sorted") _) _ _ _)); first | walk1 | (dsimp only; walk1))
    (rename StC _ _ _ _ _ _ _ _ _ _ _ => st4)
    have hbaL : ba ≠ L := (st4.mem _ (.tail _ (.head _))).2.1
    refine sortedT st4 (by have := hA'.un; have e : (900 : Nat) < cLine := by decide
                           omega) (StC.M_at st4 (.tail _ (.head _))) hbaL hba (LO.lst _ _) hbt bok.one bok.nd (by rw [hbt.len]; have := bok.few; omega) fun a bvs2 cs2 n2 s5 ha st5 ht5 hp5 hs5 => ?_
    clear st4
    walk_at "go"
    rename_i xa S3 s6 le4 hxa st6
    obtain ⟨S4, l4, ha4, st7⟩ := StC.freezeTo st6 ha
    obtain ⟨S5, l5, hla5, st8⟩ := StC.freezeTo st7 hla
    obtain ⟨S6, l6, hda6, st9⟩ := StC.freezeTo (StC.drop st8) hda
    obtain ⟨S7, l7, hra7, st10⟩ := StC.freezeTo st9 hra
    clear st6 st7 st8 st9
    have lx := l4.trans (l5.trans (l6.trans l7))
    have lm := le4.trans lx
    exact hQ xa ra da a la rvs dvs bvs2 lvs 0 rn dn n2 ln cs2 S7 s6 (fin _ _ _ _ st10 ((le1.trans le3).trans lm)) (lx _ _ hxa) hra7 (hrt.mono lm) (l7 _ _ hda6) hdt (l5.trans (l6.trans l7) _ _ ha4) (ht5.mono lm) hp5 hs5 ((l6.trans l7) _ _ hla5) (hlt.mono lm)
end

/-! P4 -/
/-! what fill does, cell by cell -/
section
variable {lev : Lev} {lof : Nat → Int} {n : Int}
theorem step1_lk {i j : Nat} {st : MkSt} {t : Int} (h : j ≠ i) : (step1 lev lof n i st t).lk[j]? = st.lk[j]? := by
  unfold step1
  split
  · split
    · rfl
    · exact List.getElem?_set_ne (Ne.symm h)
  · rfl
theorem steps_lk {i j : Nat} (h : j ≠ i) : ∀ (l : List Int) (st : MkSt), (l.foldl (step1 lev lof n i) st).lk[j]? = st.lk[j]?
  | [], _ => rfl
  | t :: l, st => by rw [List.foldl_cons, steps_lk h l, step1_lk h]
noncomputable def stepP (lev : Lev) (lof : Nat → Int) (n : Int) (st : MkSt) (q : Nat × Int) : MkSt := step1 lev lof n q.1 st q.2
noncomputable def pairsAt (lk : List (Int × Int)) (i : Nat) : List (Nat × Int) := (bitsOf (lk.getD i (0, 0)).2).map fun t => (i, t)
noncomputable def pairsL (lk : List (Int × Int)) : List (Nat × Int) := (List.range lk.length).flatMap (pairsAt lk)
theorem step_flat {lk : List (Int × Int)} : ∀ (is : List Nat) (st : MkSt), is.Nodup → (∀ i ∈ is, st.lk[i]? = lk[i]? ∧ i < lk.length) → is.foldl (stepL lev lof n) st = (is.flatMap (pairsAt lk)).foldl (stepP lev lof n) st
  | [], _, _, _ => rfl
  | i :: is, st, nd, h => by
    obtain ⟨h1, h2⟩ := List.nodup_cons.mp nd
    obtain ⟨e, hlt⟩ := h i (.head _)
    rw [List.foldl_cons, List.flatMap_cons, List.foldl_append]
    have e2 : lk[i]? = some lk[i] := by simp [hlt]
    have e1 : stepL lev lof n st i = (pairsAt lk i).foldl (stepP lev lof n) st := by
      unfold stepL pairsAt
      rw [e, e2]
      have e3 : lk.getD i (0, 0) = lk[i] := by simp [hlt]
      rw [e3, List.foldl_map]
      rfl
    rw [← e1]
    refine step_flat is _ h2 fun j hj => ⟨?_, (h j (.tail _ hj)).2⟩
    have hne : j ≠ i := fun q => h1 (q ▸ hj)
    rw [← (h j (.tail _ hj)).1]
    unfold stepL
    rw [e, e2]
    exact steps_lk hne _ _
theorem all_flat (st : MkSt) : stepAll lev lof n st = (pairsL st.lk).foldl (stepP lev lof n) st :=
  step_flat _ _ List.nodup_range fun i hi => ⟨rfl, List.mem_range.mp hi⟩
theorem atI_out {m : List (Int × Int)} {k t : Int} (h : k ≠ t) : atI (outI m k) t = atI m t := by
  unfold atI outI
  congr 1
  induction m with
  | nil => rfl
  | cons p m ih =>
    by_cases q : p.1 = k
    · rw [List.filter_cons, if_neg (by simpa using q), List.find?_cons, ih]
      have : decide (p.1 = t) = false := decide_eq_false (by rw [q]; exact h)
      rw [this]
    · rw [List.filter_cons, if_pos (by simpa using q), List.find?_cons, List.find?_cons, ih]
theorem atI_out_self {m : List (Int × Int)} {t : Int} : atI (outI m t) t = none := by
  unfold atI outI
  rw [Option.map_eq_none_iff, List.find?_eq_none]
  intro p hp
  have := (List.mem_filter.mp hp).2
  simpa using this

/-- the cell of a terminal: what the maker holds of it, and the law's words for it -/
structure CellR (t : Nat) (st : MkSt) (m : MetSt) : Prop where
  sh : atI st.sh t = if m.goal = 0 then none else some m.goal
  kept : rulesAt st.lk t = m.kept
  bar : tb st.bar t = m.bar
  byl : st.se.filter (fun c => decide (c.t = (t : Int))) = m.byl
theorem rulesAt_set {lk : List (Int × Int)} {i t : Nat} {r m m' : Int} (h : lk[i]? = some (r, m)) (hb : tb m' t = tb m t) : rulesAt (lk.set i (r, m')) t = rulesAt lk t := by
  unfold rulesAt
  induction lk generalizing i with
  | nil => simp at h
  | cons p lk ih =>
    cases i with
    | zero =>
      simp at h
      subst h
      rw [List.set_cons_zero, List.filter_cons, List.filter_cons]
      dsimp only
      rw [hb]
      split <;> rfl
    | succ i =>
      rw [List.set_cons_succ, List.filter_cons, List.filter_cons]
      split
      · rw [List.map_cons, List.map_cons, ih (by simpa using h)]
      · exact ih (by simpa using h)
theorem rulesAt_clear {lk : List (Int × Int)} {i t : Nat} {r m m' : Int} (h : lk[i]? = some (r, m)) (hnd : (lk.map (·.1)).Nodup) (hs : tb m t = true) (hc : tb m' t = false) : rulesAt (lk.set i (r, m')) t = (rulesAt lk t).erase r := by
  unfold rulesAt
  induction lk generalizing i with
  | nil => simp at h
  | cons p lk ih =>
    rw [List.map_cons, List.nodup_cons] at hnd
    cases i with
    | zero =>
      simp at h
      subst h
      rw [List.set_cons_zero, List.filter_cons, List.filter_cons]
      dsimp only
      rw [hc, hs, if_neg (by simp), if_pos rfl, List.map_cons, List.erase_cons_head]
    | succ i =>
      have h' : lk[i]? = some (r, m) := by simpa using h
      have hpr : p.1 ≠ r := fun q => hnd.1 (by rw [q]; exact List.mem_map.mpr ⟨_, List.mem_of_getElem? h', rfl⟩)
      rw [List.set_cons_succ, List.filter_cons, List.filter_cons]
      split
      · rw [List.map_cons, List.map_cons, ih h' hnd.2, List.erase_cons_tail (by simpa using hpr)]
      · exact ih h' hnd.2
theorem rulesAt_has {lk : List (Int × Int)} {i t : Nat} {r m : Int} (h : lk[i]? = some (r, m)) (hnd : (lk.map (·.1)).Nodup) (hr : r ∈ rulesAt lk t) : tb m t = true := by
  unfold rulesAt at hr
  obtain ⟨p, hp, e⟩ := List.mem_map.mp hr
  obtain ⟨hp1, hp2⟩ := List.mem_filter.mp hp
  obtain ⟨j, hj, ej⟩ := List.getElem_of_mem hp1
  obtain ⟨hi, ei⟩ := List.getElem?_eq_some_iff.mp h
  have hij : i = j := by
    rcases Nat.lt_trichotomy i j with z | z | z
    · exact absurd (by rw [List.getElem_map, List.getElem_map, ei, ej, e]) ((List.pairwise_iff_getElem.mp hnd i j (by simpa using hi) (by simpa using hj) z))
    · exact z
    · exact absurd (by rw [List.getElem_map, List.getElem_map, ei, ej, e]) ((List.pairwise_iff_getElem.mp hnd j i (by simpa using hj) (by simpa using hi) z))
  subst hij
  rw [ej] at ei
  rw [ei] at hp2
  exact hp2
theorem CellR.other {t : Nat} {st : MkSt} {m : MetSt} {st₀ : MkSt} {k : Nat} (h : CellR t st m) (ok : MkOk st₀ k st) {t' : Int} (ht : t < 7) (h0 : 0 ≤ t') (h1 : t' < 7) (hne : t' ≠ t) (i : Nat) : CellR t (step1 lev lof n i st t') m := by
  unfold step1
  split
  · rename_i c r mk e1 e2
    split
    · exact h
    · rename_i wy _
      obtain ⟨r0, r1, m0, m1⟩ := ok.msk _ (List.mem_of_getElem? e2)
      dsimp only at r0 r1 m0 m1
      have bm := (bit_of m0 m1 h0 h1).2 t ht
      have bb := (bit_of ok.bar.1 ok.bar.2 h0 h1).2 t ht
      have hne' : (t == t'.toNat) = false := by simp; omega
      refine ⟨?_, ?_, ?_, ?_⟩
      · rw [← h.sh]
        cases wy
        · exact atI_out hne
        · rfl
        · exact atI_out hne
      · rw [← h.kept]
        refine rulesAt_set e2 ?_
        cases wy
        · rfl
        · exact bm.1.trans (by simp [bne, hne'])
        · exact bm.1.trans (by simp [bne, hne'])
      · rw [← h.bar]
        cases wy
        · rfl
        · rfl
        · exact bb.2.trans (by rw [hne']; simp)
      · rw [← h.byl, List.filter_append]
        have : List.filter (fun c => decide (c.t = (t : Int))) [(⟨n, t', true, [r], oneChosen wy r c⟩ : Cf)] = [] := by simp [hne]
        rw [this, List.append_nil]
  · exact h
theorem CellR.same {t : Nat} {st : MkSt} {m : MetSt} {st₀ : MkSt} {k : Nat} (h : CellR t st m) (ok : MkOk st₀ k st) (ht : t < 7) {i : Nat} {r mk : Int} (e2 : st.lk[i]? = some (r, mk)) (hnd : (st.lk.map (·.1)).Nodup) (hr : r ∈ m.kept) : CellR t (step1 lev lof n i st t) (metStep lev lof n t m r) := by
  have hs := rulesAt_has e2 hnd (by rw [h.kept]; exact hr)
  obtain ⟨r0, r1, m0, m1⟩ := ok.msk _ (List.mem_of_getElem? e2)
  dsimp only at r0 r1 m0 m1
  have bm := (bit_of m0 m1 (show (0 : Int) ≤ (t : Int) by omega) (by omega)).2 t ht
  have bb := (bit_of ok.bar.1 ok.bar.2 (show (0 : Int) ≤ (t : Int) by omega) (by omega)).2 t ht
  have hcl : tb (Builtin.bitAnd mk (Builtin.bitNot (1 * 2 ^ (t : Int).toNat))) t = false := by rw [bm.1]; simp
  unfold step1 metStep
  by_cases q : m.goal = 0
  · rw [if_pos q]
    have e := h.sh
    rw [if_pos q] at e
    rw [e]
    exact h
  · rw [if_neg q]
    have e := h.sh
    rw [if_neg q] at e
    rw [e, e2]
    dsimp only
    cases hw : way lev (lof r.toNat) t with
    | none => exact h
    | some wy =>
      have one : ∀ ch, List.filter (fun c => decide (c.t = (t : Int))) (st.se ++ [(⟨n, t, true, [r], ch⟩ : Cf)]) = m.byl ++ [⟨n, t, true, [r], ch⟩] := fun ch => by
        rw [List.filter_append, h.byl]
        simp
      cases wy with
      | red => exact ⟨by rw [if_pos rfl]; exact atI_out_self, (rulesAt_set e2 rfl).trans h.kept, h.bar, one _⟩
      | shf => exact ⟨by dsimp only; rw [if_neg q]; exact e, by
          rw [← h.kept]; exact rulesAt_clear e2 hnd hs hcl, h.bar, one _⟩
      | bar => exact ⟨by rw [if_pos rfl]; exact atI_out_self, by
          rw [← h.kept]; exact rulesAt_clear e2 hnd hs hcl, by
          exact bb.2.trans (by simp), one _⟩
theorem map_fst_of {lk lk₀ : List (Int × Int)} (hl : lk.length = lk₀.length) (h : ∀ i : Nat, (lk[i]?).map (·.1) = (lk₀[i]?).map (·.1)) : lk.map (·.1) = lk₀.map (·.1) := by
  refine List.ext_getElem? fun i => ?_
  rw [List.getElem?_map, List.getElem?_map]
  exact h i
theorem cell_fold {t : Nat} (ht : t < 7) {st₀ : MkSt} (hnd : (st₀.lk.map (·.1)).Nodup) : ∀ (l : List (Nat × Int)) (st : MkSt) (m : MetSt) (k : Nat), MkOk st₀ k st → CellR t st m → (∀ q ∈ l, 0 ≤ q.2 ∧ q.2 < 7 ∧ q.1 < st₀.lk.length) →
    ((l.filter fun q => decide (q.2 = (t : Int))).map fun q => (st₀.lk.getD q.1 (0, 0)).1).Nodup → (∀ r ∈ (l.filter fun q => decide (q.2 = (t : Int))).map fun q => (st₀.lk.getD q.1 (0, 0)).1, r ∈ m.kept) →
    CellR t (l.foldl (stepP lev lof n) st) (((l.filter fun q => decide (q.2 = (t : Int))).map fun q => (st₀.lk.getD q.1 (0, 0)).1).foldl (metStep lev lof n t) m)
  | [], st, m, k, ok, h, _, _, _ => h
  | (i, t') :: l, st, m, k, ok, h, hb, nd, hk => by
    obtain ⟨b0, b1, bi⟩ := hb _ (.head _)
    dsimp only at b0 b1 bi
    have ok' := ok.step (lev := lev) (lof := lof) (n := n) (i := i) b0 b1
    have hb' : ∀ q ∈ l, 0 ≤ q.2 ∧ q.2 < 7 ∧ q.1 < st₀.lk.length := fun q hq => hb q (.tail _ hq)
    rw [List.foldl_cons]
    by_cases q : t' = (t : Int)
    · subst q
      rw [List.filter_cons, if_pos (by simp)] at nd hk ⊢
      rw [List.map_cons] at nd hk ⊢
      rw [List.foldl_cons]
      obtain ⟨h1, h2⟩ := List.nodup_cons.mp nd
      have e1 : st₀.lk.getD i (0, 0) = st₀.lk[i] := by simp [bi]
      have hf := ok.rul i
      have e3 : st₀.lk[i]? = some st₀.lk[i] := by simp [bi]
      rw [e3, Option.map_some, Option.map_eq_some_iff] at hf
      obtain ⟨⟨r, mk⟩, e2, er⟩ := hf
      dsimp only at er
      have hr : r ∈ m.kept := by
        have := hk _ (.head _)
        rw [e1, ← er] at this
        exact this
      rw [e1, ← er] at h1
      dsimp only
      rw [e1, ← er]
      refine cell_fold ht hnd l _ _ _ ok' (h.same ok ht e2 (by rw [map_fst_of ok.len ok.rul]; exact hnd) hr) hb' h2 fun x hx => ?_
      have hxk := hk x (.tail _ hx)
      have hne : x ≠ r := fun z => h1 (z ▸ hx)
      unfold metStep
      split
      · exact hxk
      · split
        · exact hxk
        · exact hxk
        · exact (List.mem_erase_of_ne hne).mpr hxk
        · exact (List.mem_erase_of_ne hne).mpr hxk
    · rw [List.filter_cons, if_neg (by simpa using q)] at nd hk ⊢
      exact cell_fold ht hnd l _ _ _ ok' (h.other ok ht b0 b1 q i) hb' nd hk
theorem nat_filter {p : Nat → Bool} {t : Nat} (ht : t < 7) : ((List.range 7).filter p).filter (· == t) = if p t = true then [t] else [] := by
  rw [List.filter_beq]
  by_cases h : p t = true
  · rw [List.count_filter h, if_pos h]
    have : List.count t (List.range 7) = 1 := (by decide : ∀ t : Nat, t < 7 → List.count t (List.range 7) = 1) t ht
    rw [this]; rfl
  · rw [if_neg h, List.count_eq_zero.mpr fun q => h (List.mem_filter.mp q).2]; rfl
theorem bits_filter {m : Int} {t : Nat} (ht : t < 7) : (bitsOf m).filter (fun x => decide (x = (t : Int))) = if tb m t = true then [(t : Int)] else [] := by
  unfold bitsOf bitsTo
  rw [List.filter_map]
  have e : List.filter ((fun x => decide (x = (t : Int))) ∘ fun (t : Nat) => (t : Int)) (List.filter (tb m) (List.range 7)) = List.filter (· == t) (List.filter (tb m) (List.range 7)) := by
    refine List.filter_congr fun x _ => ?_
    by_cases q : x = t
    · simp [q]
    · have : ¬ (x : Int) = t := by omega
      simp [q, this]
  rw [e, nat_filter ht]
  split <;> rfl
theorem range_flat {α β : Type} (d : α) (g : α → List β) (l : List α) : (List.range l.length).flatMap (fun i => g (l.getD i d)) = l.flatMap g := by
  have := map_getD_range d l
  conv => rhs; rw [← this]
  rw [List.flatMap_map]
theorem flat_rules {lk : List (Int × Int)} {t : Nat} (ht : t < 7) : ((pairsL lk).filter fun q => decide (q.2 = (t : Int))).map (fun q => (lk.getD q.1 (0, 0)).1) = rulesAt lk t := by
  unfold pairsL
  rw [List.filter_flatMap, List.map_flatMap]
  have one : ∀ i, List.map (fun q : Nat × Int => (lk.getD q.1 (0, 0)).1) (List.filter (fun q => decide (q.2 = (t : Int))) (pairsAt lk i)) = (fun p : Int × Int => if tb p.2 t = true then [p.1] else []) (lk.getD i (0, 0)) := fun i => by
    unfold pairsAt
    rw [List.filter_map]
    have e : (fun q : Nat × Int => decide (q.2 = (t : Int))) ∘ (fun t => (i, t)) = fun x => decide (x = (t : Int)) := rfl
    rw [e, bits_filter ht]
    dsimp only
    split <;> rfl
  have e2 : (fun i => List.map (fun q : Nat × Int => (lk.getD q.1 (0, 0)).1) (List.filter (fun q => decide (q.2 = (t : Int))) (pairsAt lk i))) = fun i => (fun p : Int × Int => if tb p.2 t = true then [p.1] else []) (lk.getD i (0, 0)) := funext one
  rw [e2, range_flat (0, 0) (fun p : Int × Int => if tb p.2 t = true then [p.1] else []) lk]
  clear one e2
  unfold rulesAt
  induction lk with
  | nil => rfl
  | cons p lk ih =>
    rw [List.flatMap_cons, List.filter_cons]
    split
    · rw [List.map_cons, ← ih]; rfl
    · rw [← ih]; rfl
theorem pairs_in {lk : List (Int × Int)} {q : Nat × Int} (h : q ∈ pairsL lk) : 0 ≤ q.2 ∧ q.2 < 7 ∧ q.1 < lk.length := by
  obtain ⟨i, hi, h⟩ := List.mem_flatMap.mp h
  obtain ⟨t, ht, rfl⟩ := List.mem_map.mp h
  exact ⟨(bits_mem ht).1, (bits_mem ht).2.1, List.mem_range.mp hi⟩
/-- a cell behind all looks -/
theorem cell_all {t : Nat} (ht : t < 7) {st : MkSt} {goal : Int} (hnd : (st.lk.map (·.1)).Nodup) (ok : MkOk st 0 st) (h : CellR t st ⟨goal, rulesAt st.lk t, [], false⟩) : CellR t (stepAll lev lof n st) (metOf lev lof n t goal (rulesAt st.lk t)) := by
  rw [all_flat]
  have hsub : (rulesAt st.lk t).Nodup := by
    unfold rulesAt
    exact (List.Sublist.map _ (List.filter_sublist)).nodup hnd
  have := cell_fold (lev := lev) (lof := lof) (n := n) ht hnd (pairsL st.lk) st ⟨goal, rulesAt st.lk t, [], false⟩ 0 ok h (fun q hq => pairs_in hq) (by rw [flat_rules ht]; exact hsub) (by rw [flat_rules ht]; exact fun r hr => hr)
  rw [flat_rules ht] at this
  exact this
end

/-! P5 -/
/-! a row, cell by cell -/
theorem setRow_at {row : List Int} {t v : Int} {u : Nat} (hr : row.length = 7) (h0 : 0 ≤ t) (h1 : t < 7) : (setRow row t v).getD u 0 = if (u : Int) = t then v else row.getD u 0 := by
  unfold setRow
  rw [List.getD_eq_getElem?_getD, List.getD_eq_getElem?_getD, List.getElem?_set]
  by_cases q : t.toNat = u
  · rw [if_pos q, if_pos (by omega), if_pos (by omega)]; rfl
  · rw [if_neg q, if_neg (by omega)]
theorem bits_row {v : Int} : ∀ (l : List Int) (hl : ∀ t ∈ l, 0 ≤ t ∧ t < 7) (row : List Int) (hr : row.length = 7), (l.foldl (fun row t => setRow row t v) row).length = 7 ∧ ∀ u : Nat, (l.foldl (fun row t => setRow row t v) row).getD u 0 = if (u : Int) ∈ l then v else row.getD u 0
  | [], _, row, hr => ⟨hr, fun u => by simp⟩
  | t :: l, hl, row, hr => by
    obtain ⟨h1, h2⟩ := bits_row (v := v) l (fun x hx => hl x (.tail _ hx)) (setRow row t v) (by unfold setRow; rw [List.length_set]; exact hr)
    refine ⟨h1, fun u => ?_⟩
    rw [List.foldl_cons, h2 u, setRow_at hr (hl t (.head _)).1 (hl t (.head _)).2]
    by_cases q : (u : Int) ∈ l
    · rw [if_pos q, if_pos (.tail _ q)]
    · rw [if_neg q]
      by_cases q2 : (u : Int) = t
      · rw [if_pos q2, if_pos (by rw [q2]; exact .head _)]
      · rw [if_neg q2, if_neg]
        intro z
        rcases List.mem_cons.mp z with z | z
        · exact q2 z
        · exact q z
theorem mem_bits {m : Int} {u : Nat} (hu : u < 7) : (u : Int) ∈ bitsOf m ↔ tb m u = true := by
  refine ⟨fun h => by simpa using (bits_mem h).2.2, fun h => ?_⟩
  unfold bitsOf bitsTo
  exact List.mem_map.mpr ⟨u, List.mem_filter.mpr ⟨List.mem_range.mpr hu, h⟩, rfl⟩
theorem bits_in {m : Int} : ∀ t ∈ bitsOf m, 0 ≤ t ∧ t < 7 := fun t h => ⟨(bits_mem h).1, (bits_mem h).2.1⟩
theorem looks_row {row : List Int} (hr : row.length = 7) : ∀ lk : List (Int × Int), (rowLooks lk row).length = 7 ∧ ∀ u : Nat, u < 7 → (rowLooks lk row).getD u 0 = if rulesAt lk u = [] then row.getD u 0 else -((rulesAt lk u).getD 0 0)
  | [] => ⟨hr, fun u _ => by unfold rowLooks rulesAt; simp⟩
  | p :: lk => by
    obtain ⟨h1, h2⟩ := looks_row hr lk
    have e : rowLooks (p :: lk) row = (bitsOf p.2).foldl (fun row t => setRow row t (-p.1)) (rowLooks lk row) := by
      unfold rowLooks
      rw [List.foldl_reverse, List.foldl_reverse, List.foldr_cons]
    obtain ⟨h3, h4⟩ := bits_row (v := -p.1) (bitsOf p.2) bits_in (rowLooks lk row) h1
    rw [e]
    refine ⟨h3, fun u hu => ?_⟩
    rw [h4 u, h2 u hu]
    unfold rulesAt
    by_cases q : tb p.2 u = true
    · rw [if_pos ((mem_bits hu).mpr q), List.filter_cons, if_pos q, List.map_cons, if_neg (by simp)]; rfl
    · rw [if_neg (fun z => q ((mem_bits hu).mp z)), List.filter_cons, if_neg q]
theorem atI_cons {k v u : Int} {m : List (Int × Int)} : atI ((k, v) :: m) u = if k = u then some v else atI m u := by
  unfold atI
  rw [List.find?_cons]
  by_cases q : k = u
  · simp [q]
  · simp [q]
theorem atI_notin {m : List (Int × Int)} {k : Int} (h : k ∉ m.map (·.1)) : atI m k = none := by
  unfold atI
  rw [Option.map_eq_none_iff, List.find?_eq_none]
  intro p hp q
  exact h (List.mem_map.mpr ⟨p, hp, of_decide_eq_true q⟩)
theorem sh_row : ∀ (sh : List (Int × Int)) (nd : (sh.map (·.1)).Nodup) (hk : ∀ q ∈ sh, 0 ≤ q.1 ∧ q.1 < 7) (row : List Int) (hr : row.length = 7), (sh.foldl (fun row p => setRow row p.1 p.2) row).length = 7 ∧ ∀ u : Nat, u < 7 → (sh.foldl (fun row p => setRow row p.1 p.2) row).getD u 0 = (atI sh u).getD (row.getD u 0)
  | [], _, _, row, hr => ⟨hr, fun u _ => rfl⟩
  | (k, v) :: sh, nd, hk, row, hr => by
    rw [List.map_cons, List.nodup_cons] at nd
    have hk0 := hk _ (.head _)
    dsimp only at hk0
    obtain ⟨h1, h2⟩ := sh_row sh nd.2 (fun x hx => hk x (.tail _ hx)) (setRow row k v) (by unfold setRow; rw [List.length_set]; exact hr)
    refine ⟨h1, fun u hu => ?_⟩
    rw [List.foldl_cons]
    dsimp only
    rw [h2 u hu, setRow_at hr hk0.1 hk0.2, atI_cons]
    by_cases q : k = (u : Int)
    · rw [if_pos q, if_pos q.symm, atI_notin (by rw [← q]; exact nd.1)]; rfl
    · rw [if_neg q, if_neg (fun z => q z.symm)]
theorem row_cell {st st₀ : MkSt} {m : MetSt} {t k : Nat} (ht : t < 7) (c : CellR t st m) (ok : MkOk st₀ k st) (hk : ∀ q ∈ st.sh, ShOk q) (nd : (st.sh.map (·.1)).Nodup) : (rowOf st).getD t 0 = deedOf m := by
  obtain ⟨a1, a2⟩ := looks_row (row := List.replicate 7 0) rfl st.lk
  obtain ⟨b1, b2⟩ := sh_row st.sh nd (fun q hq => ⟨(hk q hq).1, (hk q hq).2.1⟩) _ a1
  obtain ⟨c1, c2⟩ := bits_row (v := BAR) (bitsOf st.bar) bits_in _ b1
  unfold rowOf
  rw [c2 t, b2 t ht, a2 t ht, c.sh, c.kept]
  have hz : (List.replicate 7 (0 : Int)).getD t 0 = 0 := by
    rw [List.getD_eq_getElem?_getD, List.getElem?_replicate, if_pos ht]; rfl
  rw [hz]
  unfold deedOf
  by_cases q : m.bar = true
  · rw [if_pos q, if_pos ((mem_bits ht).mpr (by rw [c.bar]; exact q))]
  · rw [if_neg q, if_neg (fun z => q (by rw [← c.bar]; exact (mem_bits ht).mp z))]
    by_cases q1 : m.goal = 0
    · rw [if_pos q1]
      by_cases q2 : m.kept = []
      · rw [if_pos q2, if_neg (fun z => z.2 q2)]
        exact q1.symm
      · rw [if_neg q2, if_pos ⟨q1, q2⟩]; rfl
    · rw [if_neg q1, if_neg (show ¬ (m.goal = 0 ∧ m.kept ≠ []) from fun z => q1 z.1)]; rfl
theorem cfl_cell {st : MkSt} {m : MetSt} {t : Nat} {n : Int} {row : List Int} (c : CellR t st m) (h : row.getD t 0 = deedOf m) : cflAt st n row t = leftOf n t m := by
  unfold cflAt leftOf cfl1 cfl2
  rw [c.kept, c.sh, h]
  congr 1
  by_cases q1 : m.goal = 0
  · rw [if_pos q1, if_neg (by simp), if_neg (fun z => z.1 q1)]
  · by_cases q2 : m.kept = []
    · rw [if_neg q1, q2, if_neg (by simp), if_neg (fun z => z.2 rfl)]
    · rw [if_neg q1, if_pos (by simpa using q2), if_pos ⟨q1, q2⟩]
section
variable {lev : Lev} {lof : Nat → Int} {n : Int}
theorem step1_sub {i : Nat} {t : Int} {st : MkSt} : (step1 lev lof n i st t).sh.Sublist st.sh := by
  unfold step1
  split
  · split
    · exact .refl _
    · rename_i w _
      cases w
      · exact List.filter_sublist
      · exact .refl _
      · exact List.filter_sublist
  · exact .refl _
theorem step1_se {i : Nat} {t : Int} {st : MkSt} {c : Cf} (h : c ∈ (step1 lev lof n i st t).se) : c ∈ st.se ∨ c.t = t := by
  unfold step1 at h
  split at h
  · split at h
    · exact .inl h
    · rcases List.mem_append.mp h with h | h
      · exact .inl h
      · rw [List.mem_singleton.mp h]; exact .inr rfl
  · exact .inl h
theorem pairs_sub : ∀ (l : List (Nat × Int)) (st : MkSt), (l.foldl (stepP lev lof n) st).sh.Sublist st.sh
  | [], st => .refl _
  | q :: l, st => (pairs_sub l _).trans step1_sub
theorem pairs_se {c : Cf} : ∀ (l : List (Nat × Int)) (st : MkSt), c ∈ (l.foldl (stepP lev lof n) st).se → c ∈ st.se ∨ ∃ q ∈ l, c.t = q.2
  | [], st, h => .inl h
  | q :: l, st, h => by
    rcases pairs_se l _ h with h | ⟨p, hp, e⟩
    · rcases step1_se h with h | h
      · exact .inl h
      · exact .inr ⟨q, .head _, h⟩
    · exact .inr ⟨p, .tail _ hp, e⟩
end
theorem perm_cells {l : List Cf} : ∀ k : Nat, (∀ c ∈ l, 0 ≤ c.t) → (l.filter fun c => decide (c.t < (k : Int))).Perm ((List.range k).flatMap fun (t : Nat) => l.filter fun c => decide (c.t = (t : Int)))
  | 0, h => by
    rw [List.filter_eq_nil_iff.mpr fun c hc => by have := h c hc; simp; omega]
    exact .nil
  | k + 1, h => by
    rw [List.range_succ, List.flatMap_append, List.flatMap_cons, List.flatMap_nil, List.append_nil]
    have h1 := perm_cells k h
    have h2 := List.filter_append_perm (fun c : Cf => decide (c.t < (k : Int))) (l.filter fun c => decide (c.t < ((k + 1 : Nat) : Int)))
    rw [List.filter_filter, List.filter_filter] at h2
    have e1 : (l.filter fun c => decide (c.t < (k : Int)) && decide (c.t < ((k + 1 : Nat) : Int))) = l.filter fun c => decide (c.t < (k : Int)) := List.filter_congr fun c _ => by
      by_cases q : c.t < (k : Int)
      · have : c.t < ((k + 1 : Nat) : Int) := by omega
        simp only [decide_eq_true q, decide_eq_true this]; rfl
      · simp only [decide_eq_false q]; rfl
    have e2 : (l.filter fun c => !decide (c.t < (k : Int)) && decide (c.t < ((k + 1 : Nat) : Int))) = l.filter fun c => decide (c.t = (k : Int)) := List.filter_congr fun c _ => by
      by_cases q : c.t = (k : Int)
      · have h3 : ¬ c.t < (k : Int) := by omega
        have h4 : c.t < ((k + 1 : Nat) : Int) := by omega
        simp only [decide_eq_true q, decide_eq_false h3, decide_eq_true h4]; rfl
      · by_cases h3 : c.t < (k : Int)
        · simp only [decide_eq_false q, decide_eq_true h3]; rfl
        · have h4 : ¬ c.t < ((k + 1 : Nat) : Int) := by omega
          simp only [decide_eq_false q, decide_eq_false h3, decide_eq_false h4]; rfl
    rw [e1, e2] at h2
    exact h2.symm.trans (h1.append_right _)
/-! moves -/
theorem mv_len : ∀ b : Fin 256, (movesOf ((b.val : Nat) : Int)).length ≤ 20 := by decide +kernel
theorem mv_in : ∀ b : Fin 256, ∀ q ∈ movesOf ((b.val : Nat) : Int), 0 ≤ q.1 ∧ 0 < q.2 ∧ q.2 < 100 := by decide +kernel
theorem mv_copy : ∀ b : Fin 256, copyOf (movesOf ((b.val : Nat) : Int)) = movesOf ((b.val : Nat) : Int) := by decide +kernel
theorem mv_goto : ∀ b : Fin 256, (movesOf ((b.val : Nat) : Int)).foldl gtStep [] = (movesOf ((b.val : Nat) : Int)).filter fun q => decide (6 < q.1) := by decide +kernel
theorem mv_nd : ∀ b : Fin 256, (((movesOf ((b.val : Nat) : Int)).foldl shStep []).map (·.1)).Nodup := by decide +kernel
theorem mv_sh : ∀ b : Fin 256, ∀ t : Fin 7, atI ((movesOf ((b.val : Nat) : Int)).foldl shStep []) ((t.val : Nat) : Int) = if goalOf (movesOf ((b.val : Nat) : Int)) t.val = 0 then none else some (goalOf (movesOf ((b.val : Nat) : Int)) t.val) := by decide +kernel

/-! P6 -/
/-! the default: the rule that most cells have, the lowest of several -/
noncomputable def Best (c : Int → Nat) (lo hi b : Int) : Prop := (b = 0 ∧ ∀ r, lo ≤ r → r ≤ hi → c r = 0) ∨ (lo ≤ b ∧ b ≤ hi ∧ 0 < c b ∧ ∀ r, lo ≤ r → r ≤ hi → c r ≤ c b ∧ (r < b → c r < c b))
theorem Best.up {c : Int → Nat} {lo hi b : Int} (h : Best c lo hi b) (h1 : 1 ≤ lo) (h2 : lo ≤ hi + 1) : Best c lo (hi + 1) (if 0 < c (hi + 1) then (if b = 0 ∨ c b < c (hi + 1) then hi + 1 else b) else b) := by
  rcases h with ⟨h3, h4⟩ | ⟨h3, h4, h5, h6⟩
  · subst h3
    by_cases q : 0 < c (hi + 1)
    · rw [if_pos q, if_pos (.inl rfl)]
      refine .inr ⟨h2, Int.le_refl _, q, fun r r1 r2 => ?_⟩
      by_cases e : r = hi + 1
      · subst e; exact ⟨Nat.le_refl _, fun z => absurd z (Int.lt_irrefl _)⟩
      · have := h4 r r1 (by omega); omega
    · rw [if_neg q]
      refine .inl ⟨rfl, fun r r1 r2 => ?_⟩
      by_cases e : r = hi + 1
      · subst e; omega
      · exact h4 r r1 (by omega)
  · by_cases q : 0 < c (hi + 1)
    · rw [if_pos q]
      by_cases q2 : c b < c (hi + 1)
      · rw [if_pos (.inr q2)]
        refine .inr ⟨h2, Int.le_refl _, q, fun r r1 r2 => ?_⟩
        by_cases e : r = hi + 1
        · subst e; exact ⟨Nat.le_refl _, fun z => absurd z (Int.lt_irrefl _)⟩
        · have := h6 r r1 (by omega); omega
      · rw [if_neg (by intro z; rcases z with z | z <;> omega)]
        refine .inr ⟨h3, by omega, h5, fun r r1 r2 => ?_⟩
        by_cases e : r = hi + 1
        · subst e; exact ⟨by omega, fun z => by omega⟩
        · exact h6 r r1 (by omega)
    · rw [if_neg q]
      refine .inr ⟨h3, by omega, h5, fun r r1 r2 => ?_⟩
      by_cases e : r = hi + 1
      · subst e; exact ⟨by omega, fun z => by omega⟩
      · exact h6 r r1 (by omega)
theorem Best.down {c : Int → Nat} {lo hi b r0 : Int} (h : Best c lo hi b) (e0 : r0 = lo - 1) (h1 : 1 ≤ r0) (h2 : lo ≤ hi + 1) : Best c r0 hi (if 0 < c r0 ∧ (b = 0 ∨ c b ≤ c r0) then r0 else b) := by
  rcases h with ⟨h3, h4⟩ | ⟨h3, h4, h5, h6⟩
  · subst h3
    by_cases q : 0 < c r0
    · rw [if_pos ⟨q, .inl rfl⟩]
      refine .inr ⟨Int.le_refl _, by omega, q, fun r r1 r2 => ?_⟩
      by_cases e : r = r0
      · subst e; exact ⟨Nat.le_refl _, fun z => absurd z (Int.lt_irrefl _)⟩
      · have := h4 r (by omega) r2; omega
    · rw [if_neg (fun z => q z.1)]
      refine .inl ⟨rfl, fun r r1 r2 => ?_⟩
      by_cases e : r = r0
      · subst e; omega
      · exact h4 r (by omega) r2
  · by_cases q : 0 < c r0 ∧ c b ≤ c r0
    · rw [if_pos ⟨q.1, .inr q.2⟩]
      refine .inr ⟨Int.le_refl _, by omega, q.1, fun r r1 r2 => ?_⟩
      by_cases e : r = r0
      · subst e; exact ⟨Nat.le_refl _, fun z => absurd z (Int.lt_irrefl _)⟩
      · have := h6 r (by omega) r2
        exact ⟨by omega, fun z => by omega⟩
    · rw [if_neg (by intro z; rcases z with ⟨z1, z2 | z2⟩ <;> omega)]
      refine .inr ⟨by omega, h4, h5, fun r r1 r2 => ?_⟩
      by_cases e : r = r0
      · subst e; exact ⟨by omega, fun z => by omega⟩
      · exact h6 r (by omega) r2
theorem Best.uniq {c : Int → Nat} {lo hi b b' : Int} (h : Best c lo hi b) (h' : Best c lo hi b') : b = b' := by
  rcases h with ⟨h3, h4⟩ | ⟨h3, h4, h5, h6⟩
  · rcases h' with ⟨g3, g4⟩ | ⟨g3, g4, g5, g6⟩
    · rw [h3, g3]
    · have := h4 b' g3 g4; omega
  · rcases h' with ⟨g3, g4⟩ | ⟨g3, g4, g5, g6⟩
    · have := g4 b h3 h4; omega
    · have a1 := h6 b' g3 g4
      have a2 := g6 b h3 h4
      rcases Int.lt_trichotomy b b' with z | z | z
      · have := a2.2 z; omega
      · exact z
      · have := a1.2 z; omega
theorem putI_keys {m : List (Int × Int)} {k v : Int} : (putI m k v).map (·.1) = if k ∈ m.map (·.1) then m.map (·.1) else m.map (·.1) ++ [k] := by
  unfold putI
  by_cases q : k ∈ m.map (·.1)
  · rw [if_pos q, if_pos, List.map_map]
    · refine List.map_congr_left fun p _ => ?_
      show (if p.1 = k then (p.1, v) else p).1 = p.1
      split <;> rfl
    · obtain ⟨p, hp, e⟩ := List.mem_map.mp q
      exact List.any_eq_true.mpr ⟨p, hp, decide_eq_true e⟩
  · rw [if_neg q, if_neg, List.map_append]
    · rfl
    · intro z
      obtain ⟨p, hp, e⟩ := List.any_eq_true.mp z
      exact q (List.mem_map.mpr ⟨p, hp, of_decide_eq_true e⟩)
theorem putI_nd {m : List (Int × Int)} {k v : Int} (h : (m.map (·.1)).Nodup) : ((putI m k v).map (·.1)).Nodup := by
  rw [putI_keys]
  split
  · exact h
  · rename_i q
    exact List.nodup_append.mpr ⟨h, List.pairwise_singleton _ _, fun a ha b hb e => q (by rw [← List.mem_singleton.mp hb, ← e]; exact ha)⟩
theorem putI_mems {m : List (Int × Int)} {k v r : Int} : r ∈ (putI m k v).map (·.1) ↔ r ∈ m.map (·.1) ∨ r = k := by
  rw [putI_keys]
  split
  · rename_i q
    exact ⟨.inl, fun z => z.elim id fun e => e ▸ q⟩
  · rw [List.mem_append, List.mem_singleton]
theorem atI_set {k v u : Int} : ∀ m : List (Int × Int), atI (m.map fun p => if p.1 = k then (p.1, v) else p) u = if u = k then (if m.any (fun p => decide (p.1 = k)) then some v else none) else atI m u
  | [] => by simp [atI]
  | (a, b) :: m => by
    rw [List.map_cons, List.any_cons]
    dsimp only
    by_cases q : a = k
    · rw [if_pos q, atI_cons, atI_cons, atI_set m]
      by_cases q2 : u = k
      · subst q; subst q2; simp
      · rw [if_neg q2, if_neg q2, if_neg (fun z => q2 (z.symm.trans q)), if_neg (fun z => q2 (z.symm.trans q))]
    · rw [if_neg q, atI_cons, atI_cons, atI_set m, decide_eq_false q, Bool.false_or]
      by_cases q2 : u = k
      · rw [if_pos q2, if_pos q2, if_neg (fun z => q (z.trans q2))]
      · rw [if_neg q2, if_neg q2]
theorem atI_put {m : List (Int × Int)} {k v u : Int} : atI (putI m k v) u = if u = k then some v else atI m u := by
  unfold putI
  by_cases h : (m.any fun p => decide (p.1 = k)) = true
  · rw [if_pos h, atI_set, h]
    by_cases q : u = k
    · rw [if_pos q, if_pos q, if_pos rfl]
    · rw [if_neg q, if_neg q]
  · rw [if_neg h]
    have hk : k ∉ m.map (·.1) := fun z => by
      obtain ⟨p, hp, e⟩ := List.mem_map.mp z
      exact h (List.any_eq_true.mpr ⟨p, hp, decide_eq_true e⟩)
    have key : ∀ m : List (Int × Int), k ∉ m.map (·.1) → atI (m ++ [(k, v)]) u = if u = k then some v else atI m u := by
      intro m
      induction m with
      | nil =>
        intro _
        show atI ((k, v) :: []) u = _
        rw [atI_cons]
        by_cases q : u = k
        · rw [if_pos q, if_pos q.symm]
        · rw [if_neg q, if_neg (fun z => q z.symm)]
      | cons p m ih =>
        obtain ⟨a, b⟩ := p
        intro hk
        rw [List.map_cons, List.mem_cons, not_or] at hk
        show atI ((a, b) :: (m ++ [(k, v)])) u = _
        rw [atI_cons, atI_cons, ih hk.2]
        by_cases q : u = k
        · rw [if_pos q, if_pos q, if_neg (fun z => hk.1 (q.symm.trans z.symm))]
        · rw [if_neg q, if_neg q]
    exact key m hk
theorem cnt_at {r : Int} (h0 : 0 < r) (h1 : r < 1048576) : ∀ (row : List Int) (m : List (Int × Int)), (atI (row.foldl cntStep m) r).getD 0 = (atI m r).getD 0 + (row.count (-r) : Int)
  | [], m => by simp
  | x :: row, m => by
    rw [List.foldl_cons, cnt_at h0 h1 row, List.count_cons]
    unfold cntStep
    by_cases q : x = -r
    · subst q
      rw [if_pos (by unfold BAR; omega), atI_put, if_pos (by omega), Int.neg_neg, if_pos (by simp), Option.getD_some]
      omega
    · rw [if_neg (show ¬ (x == -r) = true by simpa using q)]
      split
      · rw [atI_put, if_neg (show ¬ r = -x by omega)]; omega
      · omega
theorem cnt_keys {r : Int} : ∀ (row : List Int) (m : List (Int × Int)), r ∈ (row.foldl cntStep m).map (·.1) ↔ r ∈ m.map (·.1) ∨ (0 < r ∧ r < 1048576 ∧ -r ∈ row)
  | [], m => by simp
  | x :: row, m => by
    rw [List.foldl_cons, cnt_keys row, List.mem_cons]
    unfold cntStep BAR
    split
    · rename_i h
      rw [putI_mems]
      constructor
      · rintro ((z | z) | z)
        · exact .inl z
        · exact .inr ⟨by omega, by omega, .inl (by omega)⟩
        · exact .inr ⟨z.1, z.2.1, .inr z.2.2⟩
      · rintro (z | ⟨z1, z2, z | z⟩)
        · exact .inl (.inl z)
        · exact .inl (.inr (by omega))
        · exact .inr ⟨z1, z2, z⟩
    · rename_i h
      constructor
      · rintro (z | z)
        · exact .inl z
        · exact .inr ⟨z.1, z.2.1, .inr z.2.2⟩
      · rintro (z | ⟨z1, z2, z | z⟩)
        · exact .inl z
        · exact absurd ⟨by omega, by omega⟩ h
        · exact .inr ⟨z1, z2, z⟩
theorem cnt_nd : ∀ (row : List Int) (m : List (Int × Int)), (m.map (·.1)).Nodup → ((row.foldl cntStep m).map (·.1)).Nodup
  | [], m, h => h
  | x :: row, m, h => by
    rw [List.foldl_cons]
    refine cnt_nd row _ ?_
    unfold cntStep
    split
    · exact putI_nd h
    · exact h
theorem in4 {r : Int} (h : 0 < r) (h' : r ≤ 4) : r = 1 ∨ r = 2 ∨ r = 3 ∨ r = 4 := by omega
theorem def_best {row : List Int} {b : Int} {wants : Bool} (hrow : ∀ x ∈ row, BAR < x → x < 0 → -4 ≤ x) (h : DefOk wants row b) : b = bestOf wants row := by
  unfold DefOk at h
  unfold bestOf
  cases wants with
  | false => rw [if_pos (.inl rfl)]; rwa [if_neg (by decide)] at h
  | true =>
    rw [if_pos rfl] at h
    rcases h with ⟨h1, h2⟩ | ⟨h1, ks, k1, k2, k3⟩
    · rw [if_pos (.inr h1)]; exact h2
    · rw [if_neg (by rintro (z | z); cases z; exact h1 z)]
      have hc : ∀ r : Int, 1 ≤ r → r ≤ 4 → (atI (cntOf row) r).getD 0 = (row.count (-r) : Int) := fun r r1 r2 => by
        have := cnt_at (r := r) (by omega) (by omega) row []
        unfold cntOf
        rw [this]; simp [atI]
      have hks : ks = ([1, 2, 3, 4] : List Int).filter fun r => decide (0 < row.count (-r)) := by
        refine List.Perm.eq_of_pairwise (le := fun a b => a ≤ b) (fun a b _ _ x y => Int.le_antisymm x y) k2 (List.Pairwise.filter _ (by decide)) (k1.trans ?_)
        refine (List.perm_ext_iff_of_nodup (cnt_nd row [] .nil) (List.Pairwise.filter _ (by decide))).mpr fun r => ?_
        have := cnt_keys (r := r) row []
        rw [this, List.mem_filter]
        constructor
        · rintro (z | ⟨z1, z2, z3⟩)
          · cases z
          · have := hrow _ z3 (by unfold BAR; omega) (by omega)
            refine ⟨?_, decide_eq_true (List.count_pos_iff.mpr z3)⟩
            have : r = 1 ∨ r = 2 ∨ r = 3 ∨ r = 4 := in4 z1 (Int.neg_le_neg_iff.mp this)
            rcases this with rfl | rfl | rfl | rfl <;> decide
        · rintro ⟨z1, z2⟩
          have : 1 ≤ r ∧ r ≤ 4 := by
            exact (by decide : ∀ r ∈ ([1, 2, 3, 4] : List Int), 1 ≤ r ∧ r ≤ 4) r z1
          exact .inr ⟨by omega, by omega, List.count_pos_iff.mp (of_decide_eq_true z2)⟩
      rw [k3, hks, List.foldl_filter]
      have up : ∀ (hi b : Int), 0 ≤ hi → hi ≤ 3 → Best (fun r => row.count (-r)) 1 hi b → Best (fun r => row.count (-r)) 1 (hi + 1) (if decide (0 < row.count (-(hi + 1))) = true then bestStep (cntOf row) b (hi + 1) else b) := fun hi b h0 h3 hb => by
        have := hb.up (Int.le_refl _) (by omega)
        have hb0 : b = 0 ∨ (1 ≤ b ∧ b ≤ hi) := by
          rcases hb with z | z
          · exact .inl z.1
          · exact .inr ⟨z.1, z.2.1⟩
        have e : (if decide (0 < row.count (-(hi + 1))) = true then bestStep (cntOf row) b (hi + 1) else b) = (if 0 < row.count (-(hi + 1)) then (if b = 0 ∨ row.count (-b) < row.count (-(hi + 1)) then hi + 1 else b) else b) := by
          by_cases q : 0 < row.count (-(hi + 1))
          · rw [if_pos q, if_pos (decide_eq_true q)]
            unfold bestStep
            rw [hc (hi + 1) (by omega) (by omega)]
            rcases hb0 with z | ⟨z1, z2⟩
            · rw [if_pos (.inl z), if_pos (.inl z)]
            · rw [hc b z1 (by omega)]
              by_cases q2 : row.count (-b) < row.count (-(hi + 1))
              · rw [if_pos (show b = 0 ∨ (row.count (-(hi + 1)) : Int) > (row.count (-b) : Int) from .inr (by omega)), if_pos (show b = 0 ∨ row.count (-b) < row.count (-(hi + 1)) from .inr q2)]
              · rw [if_neg (show ¬ (b = 0 ∨ (row.count (-(hi + 1)) : Int) > (row.count (-b) : Int)) by rintro (z | z) <;> omega), if_neg (show ¬ (b = 0 ∨ row.count (-b) < row.count (-(hi + 1))) by rintro (z | z) <;> omega)]
          · rw [if_neg q, if_neg (by simpa using q)]
        rw [e]; exact this
      have z0 : Best (fun r => row.count (-r)) 1 0 0 := .inl ⟨rfl, fun r r1 r2 => by omega⟩
      have z1 := up 0 _ (by decide) (by decide) z0
      have z2 := up 1 _ (by decide) (by decide) z1
      have z3 := up 2 _ (by decide) (by decide) z2
      have z4 := up 3 _ (by decide) (by decide) z3
      have y0 : Best (fun r => row.count (-r)) 5 4 0 := .inl ⟨rfl, fun r r1 r2 => by omega⟩
      have y1 := y0.down (r0 := 4) (by decide) (by decide) (by decide)
      have y2 := y1.down (r0 := 3) (by decide) (by decide) (by decide)
      have y3 := y2.down (r0 := 2) (by decide) (by decide) (by decide)
      have y4 := y3.down (r0 := 1) (by decide) (by decide) (by decide)
      exact z4.uniq y4

/-! P7 -/
/-! what fill gives is what the law asks -/
structure PLk (p : PL) : Prop where
  mv : ∃ b : Int, 0 ≤ b ∧ b < 256 ∧ p.mv = movesOf b
  nd : p.held.Nodup
  ok : PLOk p
noncomputable def psOf (p : PL) : PS := ⟨copyOf p.mv, p.held⟩
theorem byFin {P : Int → Prop} (h : ∀ b : Fin 256, P ((b.val : Nat) : Int)) {b : Int} (h0 : 0 ≤ b) (h1 : b < 256) : P b := by
  have := h ⟨b.toNat, by omega⟩
  dsimp only at this
  rwa [Int.toNat_of_nonneg h0] at this
theorem PLk.copy {p : PL} (h : PLk p) : copyOf p.mv = p.mv := by
  obtain ⟨b, h0, h1, e⟩ := h.mv
  rw [e]; exact byFin (P := fun b => copyOf (movesOf b) = movesOf b) mv_copy h0 h1
theorem PLk.ps {p : PL} (h : PLk p) : psOf p = ⟨p.mv, p.held⟩ := by unfold psOf; rw [h.copy]
theorem goal_pos : ∀ b : Fin 256, ∀ t : Fin 7, 0 ≤ goalOf (movesOf ((b.val : Nat) : Int)) t.val := by decide +kernel
theorem PLk.goal {p : PL} (h : PLk p) {t : Nat} (ht : t < 7) : 0 ≤ goalOf p.mv t := by
  obtain ⟨b, h0, h1, e⟩ := h.mv
  rw [e]; exact byFin (P := fun b => 0 ≤ goalOf (movesOf b) t) (fun b => goal_pos b ⟨t, ht⟩) h0 h1
theorem PLk.sh {p : PL} (h : PLk p) {t : Nat} (ht : t < 7) : atI (p.mv.foldl shStep []) t = if goalOf p.mv t = 0 then none else some (goalOf p.mv t) := by
  obtain ⟨b, h0, h1, e⟩ := h.mv
  rw [e]; exact byFin (P := fun b => atI ((movesOf b).foldl shStep []) t = if goalOf (movesOf b) t = 0 then none else some (goalOf (movesOf b) t)) (fun b => mv_sh b ⟨t, ht⟩) h0 h1
theorem PLk.shnd {p : PL} (h : PLk p) : ((p.mv.foldl shStep []).map (·.1)).Nodup := by
  obtain ⟨b, h0, h1, e⟩ := h.mv
  rw [e]; exact byFin (P := fun b => (((movesOf b).foldl shStep []).map (·.1)).Nodup) mv_nd h0 h1
theorem PLk.gts {p : PL} (h : PLk p) : p.mv.foldl gtStep [] = p.mv.filter fun q => decide (6 < q.1) := by
  obtain ⟨b, h0, h1, e⟩ := h.mv
  rw [e]; exact byFin (P := fun b => (movesOf b).foldl gtStep [] = (movesOf b).filter fun q => decide (6 < q.1)) mv_goto h0 h1
theorem fAt_held {plan : List PL} {k : Nat} {p : PL} (hp : plan[k]? = some p) {r : Int} (hr : r ∈ p.held) : fAt plan k r = p.lks.getD (r - 1).toNat 0 := by
  unfold fAt
  rw [Int.toNat_natCast, hp]
  dsimp only
  rw [if_pos ⟨by omega, hr⟩]
theorem PLk.psok {plan : List PL} {k : Nat} {p : PL} (h : PLk p) (hp : plan[k]? = some p) : PSOk (fAt plan) k (psOf p) := by
  rw [h.ps]
  obtain ⟨b, h0, h1, e⟩ := h.mv
  refine ⟨h.ok.mv, fun q hq => ?_, h.ok.hl, fun r hr => ?_⟩
  · exact byFin (P := fun b => ∀ q ∈ movesOf b, 0 ≤ q.1 ∧ 0 < q.2 ∧ q.2 < 100) mv_in h0 h1 q (by rw [← e]; exact hq)
  · have hr : r ∈ p.held := hr
    have h2 := h.ok.held r hr
    rw [fAt_held hp hr]
    have hl : (r - 1).toNat < p.lks.length := by rw [h.ok.len]; omega
    have e2 : p.lks.getD (r - 1).toNat 0 = p.lks[(r - 1).toNat] := by rw [List.getD_eq_getElem?_getD, List.getElem?_eq_getElem hl]; rfl
    rw [e2]
    exact ⟨by omega, by omega, h.ok.lks _ (List.getElem_mem _)⟩
section
variable {lev : Lev} {lof : Nat → Int} {wants : Bool}
theorem rules_start {held : List Int} {f : Int → Int} {t : Nat} : rulesAt (held.map fun r => (r, f r)) t = held.filter fun r => tb (f r) t := by
  unfold rulesAt
  rw [List.filter_map, List.map_map]
  exact (List.map_congr_left fun _ _ => rfl).trans (List.map_id _)
theorem cell_fin {plan : List PL} {k : Nat} {p : PL} (h : PLk p) (hp : plan[k]? = some p) {t : Nat} (ht : t < 7) : CellR t (finOf lev lof (fAt plan) k (psOf p)) (cellOf lev lof p k t) := by
  have hok := h.psok hp
  rw [h.ps] at hok ⊢
  have er : rulesAt (mkSt p.mv p.held (fAt plan k)).lk t = rulesFor p.held p.lks t := by
    unfold mkSt rulesFor
    rw [rules_start]
    refine List.filter_congr fun r hr => ?_
    rw [fAt_held hp hr]
  have := cell_all (lev := lev) (lof := lof) (n := k) ht (st := mkSt p.mv p.held (fAt plan k)) (goal := goalOf p.mv t) ?_ hok.start ?_
  · rw [er] at this
    exact this
  · show ((p.held.map fun r => (r, fAt plan k r)).map (·.1)).Nodup
    rw [List.map_map]
    have : List.map ((fun x : Int × Int => x.1) ∘ fun r => (r, fAt plan k r)) p.held = p.held := (List.map_congr_left fun _ _ => rfl).trans (List.map_id _)
    rw [this]; exact h.nd
  · refine ⟨h.sh ht, rfl, ?_, rfl⟩
    show tb 0 t = false
    unfold tb
    rw [Int.zero_ediv]; rfl
theorem met_sub {n t : Int} : ∀ (rules : List Int) (m : MetSt), (rules.foldl (metStep lev lof n t) m).kept.Sublist m.kept ∧ ((rules.foldl (metStep lev lof n t) m).goal = m.goal ∨ (rules.foldl (metStep lev lof n t) m).goal = 0)
  | [], m => ⟨.refl _, .inl rfl⟩
  | r :: rules, m => by
    obtain ⟨h1, h2⟩ := met_sub rules (metStep lev lof n t m r)
    have key : (metStep lev lof n t m r).kept.Sublist m.kept ∧ ((metStep lev lof n t m r).goal = m.goal ∨ (metStep lev lof n t m r).goal = 0) := by
      unfold metStep
      split
      · exact ⟨.refl _, .inl rfl⟩
      · split
        · exact ⟨.refl _, .inl rfl⟩
        · exact ⟨.refl _, .inr rfl⟩
        · exact ⟨List.erase_sublist, .inl rfl⟩
        · exact ⟨List.erase_sublist, .inr rfl⟩
    rw [List.foldl_cons]
    refine ⟨h1.trans key.1, ?_⟩
    rcases h2 with z | z
    · rcases key.2 with y | y
      · exact .inl (z.trans y)
      · exact .inr (z.trans y)
    · exact .inr z
theorem deed_few {p : PL} (h : PLk p) {k : Int} {t : Nat} (ht : t < 7) (h1 : BAR < deedOf (cellOf lev lof p k t)) (h2 : deedOf (cellOf lev lof p k t) < 0) : -4 ≤ deedOf (cellOf lev lof p k t) := by
  obtain ⟨k1, k2⟩ := met_sub (lev := lev) (lof := lof) (n := k) (t := t) (rulesFor p.held p.lks t) ⟨goalOf p.mv t, rulesFor p.held p.lks t, [], false⟩
  have hg := h.goal ht
  unfold cellOf metOf at h1 h2 ⊢
  generalize (rulesFor p.held p.lks t).foldl (metStep lev lof k t) ⟨goalOf p.mv t, rulesFor p.held p.lks t, [], false⟩ = m at h1 h2 k1 k2 ⊢
  dsimp only at k1 k2
  unfold deedOf at h1 h2 ⊢
  split at h1
  · exact absurd h1 (Int.lt_irrefl _)
  · rename_i hb
    rw [if_neg hb] at h2 ⊢
    split at h2
    · rename_i hg
      rw [if_pos hg]
      have hl : 0 < m.kept.length := List.length_pos_iff.mpr hg.2
      have e : m.kept.getD 0 0 = m.kept[0] := by simp [hl]
      rw [e]
      have hm : m.kept[0] ∈ p.held := (List.mem_filter.mp (k1.subset (List.getElem_mem hl))).1
      exact Int.neg_le_neg (h.ok.held _ hm).2
    · exact absurd h2 (Int.not_lt.mpr (k2.elim (fun e => e ▸ hg) fun e => Int.le_of_eq e.symm))
theorem row_due {plan : List PL} {k : Nat} {p : PL} (h : PLk p) (hp : plan[k]? = some p) : row0 lev lof (fAt plan) k (psOf p) = dueRow lev lof p k 7 := by
  have hok := h.psok hp
  have hlen := (hok.row (lev := lev) (lof := lof)).1
  have hsub : ((finOf lev lof (fAt plan) k (psOf p)).sh.map (·.1)).Nodup := by
    have : (finOf lev lof (fAt plan) k (psOf p)).sh.Sublist (mkSt (psOf p).mv (psOf p).held (fAt plan k)).sh := by
      unfold finOf
      rw [all_flat]
      exact pairs_sub _ _
    refine (this.map _).nodup ?_
    rw [h.ps]
    exact h.shnd
  have := map_getD_range 0 (row0 lev lof (fAt plan) k (psOf p))
  rw [hlen] at this
  rw [← this]
  unfold dueRow
  refine List.map_congr_left fun t ht => ?_
  have ht := List.mem_range.mp ht
  exact row_cell ht (cell_fin h hp ht) (hok.fin) (hok.sh) hsub
theorem due_at {plan : List PL} {k : Nat} {p : PL} (hp : plan[k]? = some p) : dueAt plan k = p := by
  unfold dueAt
  rw [List.getD_eq_getElem?_getD, hp]; rfl
theorem left_due {plan : List PL} {k : Nat} {p : PL} (h : PLk p) (hp : plan[k]? = some p) : cflOf (finOf lev lof (fAt plan) k (psOf p)) k (row0 lev lof (fAt plan) k (psOf p)) = dueLeft lev lof p k 7 := by
  rw [row_due h hp]
  unfold cflOf dueLeft
  rw [List.flatMap_def, List.flatMap_def]
  congr 1
  refine List.map_congr_left fun t ht => ?_
  have ht := List.mem_range.mp ht
  refine cfl_cell (cell_fin h hp ht) ?_
  unfold dueRow
  rw [List.getD_eq_getElem?_getD, List.getElem?_map, List.getElem?_range ht]; rfl
theorem se_due {plan : List PL} {k : Nat} {p : PL} (h : PLk p) (hp : plan[k]? = some p) : (finOf lev lof (fAt plan) k (psOf p)).se.Perm (dueBy lev lof p k 7) := by
  have hin : ∀ c ∈ (finOf lev lof (fAt plan) k (psOf p)).se, 0 ≤ c.t ∧ c.t < 7 := fun c hc => by
    unfold finOf at hc
    rw [all_flat] at hc
    rcases pairs_se _ _ hc with z | ⟨q, hq, e⟩
    · cases z
    · have := pairs_in hq
      omega
  have h1 := perm_cells (l := (finOf lev lof (fAt plan) k (psOf p)).se) 7 (fun c hc => (hin c hc).1)
  have e7 : ((finOf lev lof (fAt plan) k (psOf p)).se.filter fun c => decide (c.t < ((7 : Nat) : Int))) = (finOf lev lof (fAt plan) k (psOf p)).se := List.filter_eq_self.mpr fun c hc => decide_eq_true (hin c hc).2
  rw [e7] at h1
  refine h1.trans (List.Perm.of_eq ?_)
  unfold dueBy
  rw [List.flatMap_def, List.flatMap_def]
  congr 1
  refine List.map_congr_left fun t ht => ?_
  exact (cell_fin h hp (List.mem_range.mp ht)).byl
noncomputable def dueGts (plan : List PL) (k : Nat) : List (List (Int × Int)) := (List.range k).map fun i => (dueAt plan i).mv.filter fun q => decide (6 < q.1)
structure FillIs (lev : Lev) (lof : Nat → Int) (wants : Bool) (plan : List PL) (k : Nat) (rs : List (List Int)) (gs : List (List (Int × Int))) (ds : List Int) (cs ss : List Cf) : Prop where
  rs : rs = dueRows lev lof wants plan k
  gs : gs = dueGts plan k
  ds : ds = dueDefs lev lof wants plan k
  cs : cs = dueLefts lev lof plan k
  ss : ss.Perm (dueBys lev lof plan k)
theorem FillR.law {plan : List PL} (hk : ∀ p ∈ plan, PLk p) {k : Nat} {rs gs ds cs ss} (h : FillR lev lof (fAt plan) wants (plan.map psOf) k rs gs ds cs ss) : FillIs lev lof wants plan k rs gs ds cs ss := by
  induction h with
  | nil => exact ⟨rfl, rfl, rfl, rfl, .nil⟩
  | @snoc k p' b rs gs ds cs ss _ hp hd ih =>
    rw [List.getElem?_map, Option.map_eq_some_iff] at hp
    obtain ⟨p, hp, rfl⟩ := hp
    have h := hk p (List.mem_of_getElem? hp)
    have er := row_due (lev := lev) (lof := lof) h hp
    have hb : b = bestOf wants (dueRow lev lof p k 7) := by
      rw [er] at hd
      refine def_best (fun x hx h1 h2 => ?_) hd
      obtain ⟨t, ht, rfl⟩ := List.mem_map.mp hx
      exact deed_few h (List.mem_range.mp ht) h1 h2
    obtain ⟨i1, i2, i3, i4, i5⟩ := ih
    refine ⟨?_, ?_, ?_, ?_, ?_⟩
    · unfold dueRows at i1 ⊢
      rw [List.range_succ, List.map_append, ← i1, List.map_cons, List.map_nil, due_at hp, er, hb]
    · unfold dueGts at i2 ⊢
      rw [List.range_succ, List.map_append, ← i2, List.map_cons, List.map_nil, due_at hp, ← h.gts, h.ps]
    · unfold dueDefs at i3 ⊢
      rw [List.range_succ, List.map_append, ← i3, List.map_cons, List.map_nil, due_at hp, hb]
    · unfold dueLefts at i4 ⊢
      rw [List.range_succ, List.flatMap_append, ← i4, List.flatMap_cons, List.flatMap_nil, List.append_nil, due_at hp, left_due h hp]
    · unfold dueBys at i5 ⊢
      rw [List.range_succ, List.flatMap_append, List.flatMap_cons, List.flatMap_nil, List.append_nil, due_at hp]
      exact i5.append (se_due h hp)
end

/-! L11 -/
section
variable {prog : Program} {w : World} {A : Around} {E : Value → Shared → Prop} {s : Shared} {c : Cx} {B : Kp} {S₀ S : PM} {n₀ : Nat} {M M' : List (Addr × Obj)} {L : Addr} {ρ : Str → Option Value}
  {cn : Str} {cs : Scope} {f : Addr} {cd : Value} {cl : List (Str × Addr)} {x : Str} {v : Value}
theorem ldN {Q : Value → Shared → Prop} (st : St c S₀ n₀ B S M L ρ s) (hx : (envX cn cs L f cd cl).kindOf x = some .local) (hv : ρ x = some v) (hk : cs.kind = .function) (h : Q v s) :
    wpAny (model prog w) A (loadName (envX cn cs L f cd cl) x) Q E s := wpAny_loadName_local hk hx st.ns hv h
end
theorem words_L11 : True := by
  k_with "loadName" => (k_dflt (refine' ldN ?k1 ?k2 ?k3 ?k4 ?_; (case k1 => assumption); (case k2 => rfl); (case k3 => first | rfl | assumption); (case k4 => rfl)))
  trivial


/-! CSm -/
section
variable {prog : Program} {w : World} {G : Heap} {g : Array GenState} {o : OsState} {A : Around} {E : Value → Shared → Prop} {s : Shared} {S : PM}
theorem c_told {Q : Value → Shared → Prop} {x : Addr} {c : Cf} (P : Pre (cx w G g o) S s) (hA : Rm A 3) (hc : CfAt S x c)
   (hQ : ∀ a S' s', Post (cx w G g o) [] S s S' s' → TdAt S' a c → Q (.ref a) s') :
   wpAny (model prog w) A (call (.ref 199) [.ref x]) Q E s := by
  refine call_ret ?_
  refine' enter (binds := [("self", Value.ref x)]) P hA ?ho ?hcd ?hbind ?hloc ?hcell ?hco ?hgen ?hk ?_
  case ho => walk_at "is"
  case hcd => walk_at "is"
  case hbind => first | exact BindsTo.of_eq rfl | exact binds_K (K := hk.heap_1 w.params) (PreC.K (by first | exact P | exact St.pre P)) rfl (by walk_at "is") rfl rfl rfl
  case hloc => exact locs rfl
  case hcell => decide
  case hco => rfl
  case hgen => rfl
  case hk => rfl
  intro A' L n₀ B s' hA' st fin
  obtain ⟨t1, t2, t3, t4, q, vs, e, i, hq, hi⟩ := id hc
  walk_at "go"
  rename_i a S' s2 le ha st2
  exact hQ a S' s2 (fin _ _ _ _ st2 le) (TdAt.of ha (le _ _ hq) hi)
theorem c_scount {Q : Value → Shared → Prop} {tx gx rw gt df cf se : Addr} {rvs : List Value} {n : Nat} (P : Pre (cx w G g o) S s) (hA : Rm A 3) (ht : TabAt' S tx gx rw gt df cf se) (hr : S rw = some (lst rvs n)) (hz : rvs.length < 2 ^ 62)
   (hQ : ∀ S' s' t, Post (cx w G g o) [] S s S' s' → Q (.int rvs.length t) s') :
   wpAny (model prog w) A (call (.ref 227) [.ref tx]) Q E s := by
  refine call_ret ?_
  refine' enter (binds := [("self", Value.ref tx)]) P hA ?ho ?hcd ?hbind ?hloc ?hcell ?hco ?hgen ?hk ?_
  case ho => walk_at "is"
  case hcd => walk_at "is"
  case hbind => first | exact BindsTo.of_eq rfl | exact binds_K (K := hk.heap_1 w.params) (PreC.K (by first | exact P | exact St.pre P)) rfl (by walk_at "is") rfl rfl rfl
  case hloc => exact locs rfl
  case hcell => decide
  case hco => rfl
  case hgen => rfl
  case hk => rfl
  intro A' L n₀ B s' hA' st fin
  obtain ⟨xs, t, i, x1, x2, x3, x4, x5, x6, x7⟩ := id ht
  walk_at "go"
  (rename StC _ _ _ _ _ _ _ _ _ _ _ => st2)
  exact hQ S _ _ (fin _ _ _ _ st2 (Le.refl _))
noncomputable def srCount (cs : List Cf) : Nat := (cs.filter fun c => c.sr).length
theorem c_counts {Q : Value → Shared → Prop} {tx gx rw gt df cf se : Addr} {cvs : List Value} {cs : List Cf} {n : Nat} (P : Pre (cx w G g o) S s) (hA : Rm A 3) (ht : TabAt' S tx gx rw gt df cf se) (hc : S cf = some (lst cvs n)) (hcs : CfsAt S cvs cs) (hz : cvs.length < 1000)
   (hQ : ∀ a t1 t2 e S' s', Post (cx w G g o) [] S s S' s' → S' a = some (tup [.int (srCount cs) t1, .int ((cs.length : Int) - srCount cs) t2] e) → Q (.ref a) s') :
   wpAny (model prog w) A (call (.ref 327) [.ref tx]) Q E s := by
  refine call_ret ?_
  refine' enter (binds := [("tables", Value.ref tx)]) P hA ?ho ?hcd ?hbind ?hloc ?hcell ?hco ?hgen ?hk ?_
  case ho => walk_at "is"
  case hcd => walk_at "is"
  case hbind => first | exact BindsTo.of_eq rfl | exact binds_K (K := hk.heap_1 w.params) (PreC.K (by first | exact P | exact St.pre P)) rfl (by walk_at "is") rfl rfl rfl
  case hloc => exact locs rfl
  case hcell => decide
  case hco => rfl
  case hgen => rfl
  case hk => rfl
  intro A' L n₀ B s' hA' st fin
  obtain ⟨xs, t, i, x1, x2, x3, x4, x5, x6, x7⟩ := id ht
  have hz2 : cvs.length < 2 ^ 62 := by omega
  walk_at "go"
  refine for_in ?_ (fun _ => rfl)
  walk_at "go"
  rename_i t0 s1 s2 st1
  let J1 : Nat → PM → List (Addr × Obj) → (Str → Option Value) → Prop := fun i S' M ρ => ∀ GG : Prop, (Le S S' → ρ "tables" = some (.ref tx) → ∀ tk, ρ "shifts" = some (.int (srCount (cs.take i)) tk) → M = [] → GG) → GG
  refine loop_list (vs := cvs) J1 st1 hA'.hh hc (LO.lst _ _) rfl rfl rfl (fun _ kk => kk (Le.refl _) rfl t0 rfl rfl) ?_ ?_
  · intro i v B2 S2 M2 ρ2 s3 hv le2 hJ st2
    refine hJ _ ?_
    clear hJ
    rintro le3 r1 tk r2 eM
    subst eM
    have hi : i < cs.length := by rw [← hcs.len]; exact (List.getElem?_eq_some_iff.mp hv).1
    obtain ⟨x, hx, ca⟩ := hcs.get (i := i) (c := cs[i]) (by simp [hi])
    rw [hv] at hx
    cases hx
    obtain ⟨u1, u2, u3, u4, q, vs, e, ii, hq, hqi⟩ := (ca.mono le3)
    have htk : cs.take (i + 1) = cs.take i ++ [cs[i]] := take_snoc (by simp [hi])
    generalize cs[i] = c at *
    have hn : srCount (cs.take (i + 1)) = srCount (cs.take i) + (if c.sr = true then 1 else 0) := by
      unfold srCount
      rw [htk, List.filter_append, List.length_append]
      by_cases q : c.sr = true <;> simp [List.filter_cons, q]
    walk_at "go"
    · (rename StC _ _ _ _ _ _ _ _ _ _ _ => st4)
      (rename (srT c.sr == _) = true => z)
      have zc : c.sr = true := by
        cases q : c.sr with
        | true => rfl
        | false => rw [q] at z; exact absurd z (by decide)
      have e : (srCount (cs.take (i + 1)) : Int) = (srCount (cs.take i) : Int) + 1 := by rw [hn, if_pos zc]; rfl
      exact LEnd.next st4 (Le.refl _) (fun _ kk => kk le3 r1 _ (by rw [e]; rfl) rfl)
    · (rename StC _ _ _ _ _ _ _ _ _ _ _ => st4)
      (rename (srT c.sr == _) = false => z)
      have zc : ¬ c.sr = true := by
        intro q
        rw [q] at z; exact absurd z (by decide)
      have e : srCount (cs.take (i + 1)) = srCount (cs.take i) := by rw [hn, if_neg zc]; rfl
      exact LEnd.next st4 (Le.refl _) (fun _ kk => kk le3 r1 _ (by rw [e]; exact r2) rfl)
  · intro S2 M2 ρ2 s3 le2 hJ st2
    refine hJ _ ?_
    clear hJ
    rintro le3 r1 tk r2 eM
    subst eM
    have i2 := i.mono le3
    have hc2 := le3 _ _ hc
    rw [hcs.len, List.take_length] at r2
    walk_at "go"
    rename_i a S9 s9 le9 ha9 st9
    rw [hcs.len] at ha9
    exact hQ a _ _ _ S9 s9 (fin _ _ _ _ st9 (le3.trans le9)) ha9
end

/-! X3 -/
section
variable {prog : Program} {w : World} {A : Around} {E : Value → Shared → Prop} {h : Heap} {g : Array GenState} {d : Drawn} {t : Nat} {os : OsState}
variable {nm q : Str} {C N : Addr} {bs bm bmB : List Value} {hdct : Bool} {sn : List Str} {sub : List Value} {ab : Bool} {col : Option Bool} {dd : Option Addr} {k0 k1 k2 k3 k5 : Option Value} {B newId initId : String}
/-- an exception of an own class is made: what its class's __init__ does is left open -/
theorem exNew {R : Result → Shared → Prop} (F : ExcBaseFacts B newId initId bmB) (cB : bm.contains (.type B) = true) (cA : bm.contains (.type "AttributeError") = false) (cN : bm.contains (.type "NameError") = false) {rest : List Value}
    (hC : h.get? C = some (excClassObj nm q C N bs bm hdct sn sub ab col dd k0 k1 k2 k3 k5 newId)) (hrest : rest.length ≤ sizeLine)
    (hq : R (.ok (.ret (.ref (h.objs.size + 1)))) ⟨(h.push { cls := .type "tuple", data := .seq rest.toArray }).push { cls := .ref C, data := .fields #[.ref h.objs.size, .none, .none, .none, .bool false, .none] }, g, d, t, os⟩) :
    codeAny (model prog w) A (.builtin newId ⟨.ref C :: rest, []⟩) R ⟨h, g, d, t, os⟩ := by
  have he := F.ends
  have h1 : (Value.ref C :: bm).contains (.type B) = true := by rw [List.contains_cons, cB, Bool.or_true]
  have h2 : (Value.ref C :: bm).contains (.type "AttributeError") = false := by rw [List.contains_cons, cA]; rfl
  have h3 : (Value.ref C :: bm).contains (.type "NameError") = false := by rw [List.contains_cons, cN]; rfl
  refine codeAny_builtinAt F.entry ?_
  unfold Builtin.«BaseException.__new__»
  refine PySem.wpAt_bind ?_
  show PySem.wpAt _ _ _ (stack >>= _) _ _ _
  refine PySem.wpAt_bind (PySem.wpAt_stack fun p below => PySem.wpAt_of_wpAny ?_)
  wp_walk
  refine PySem.wpAt_of_wpAny ?_
  rw [F.owner]
  repeat (first | with_reducible refine wpAny_madeHere_exc F.canon hC ?_ | with_reducible refine wpAny_loadPart_at hC ?_ | (with_reducible refine wpAny_isSubtype_exc hC ?_; first | rw [h1] | rw [h2] | rw [h3]) | wp_step)
  show R _ _
  rw [Heap.size_push]
  exact hq
theorem exCheck {M : Model} (F : ExcBaseFacts B newId initId bmB) (cB : bm.contains (.type B) = true) {rest : List Value} {Q : Unit → Shared → Prop} (hC : h.get? C = some (excClassObj nm q C N bs bm hdct sn sub ab col dd k0 k1 k2 k3 k5 newId))
    (hq : Q () ⟨h, g, d, t, os⟩) : wpAny M A (checkBuiltinCall newId ⟨.ref C :: rest, []⟩) Q E ⟨h, g, d, t, os⟩ := by
  have h1 : (Value.ref C :: bm).contains (.type B) = true := by rw [List.contains_cons, cB, Bool.or_true]
  have hs := F.noStar
  simp only [checkBuiltinCall, F.newKind, F.newSplit, F.newRow]
  repeat (first | refine wpAny_loadPart_at hC ?_ | (refine wpAny_isSubtype_exc hC ?_; rw [h1]) | refine wpAny_staticBase_exc hC ?_ | refine wpAny_madeBy_exc hC ?_ | simp only [bne_self_eq_false, Bool.false_eq_true, if_false] | wp_step)
  exact hq
theorem exType {K : Frag} (F : ExcBaseFacts B newId initId bmB) (cB : bm.contains (.type B) = true) (cA : bm.contains (.type "AttributeError") = false) (cN : bm.contains (.type "NameError") = false) {fI : Addr} {rest : List Value} {Q : Fin → Shared → Prop}
    (hC : h.get? C = some (excClassObj nm q C N bs bm hdct sn sub ab col dd k0 k1 k2 k3 k5 newId)) (X : K.In h) (hi : findIn K (.ref C) "__init__" = some (some (.ref fI))) (hf : isFn K (.ref fI) = true) (hrest : rest.length ≤ sizeLine)
    (hq : ∀ h' e, Heap.MadeExcOf h h' e (.ref C) rest →
      wpAny (model prog w) A (call (.ref fI) (.ref e :: rest)) (fun r s' => r = .none ∧ Q (.done (.ret (.ref e))) s') E ⟨h', g, d, t, os⟩) :
    wpAny (model prog w) A (Builtin.«type.__call__» ⟨.ref C :: rest, []⟩) Q E ⟨h, g, d, t, os⟩ := by
  repeat (first | with_reducible refine wpAny_loadPart_at hC ?_ | with_reducible refine wpAny_madeBy_exc hC ?_ | wp_step)
  refine codeAny_call_builtin_code (Code.quiet_builtin _ F.quiet) (exCheck F cB hC ?_)
  refine exNew F cB cA cN hC hrest ?_
  show wpAny _ _ _ _ _ _
  have kp : ∀ b o, h.get? b = some o → ((h.push { cls := .type "tuple", data := .seq rest.toArray }).push { cls := .ref C, data := .fields #[.ref h.objs.size, .none, .none, .none, .bool false, .none] }).get? b = some o :=
    fun b o e => Heap.get?_push_of_some _ (Heap.get?_push_of_some _ e)
  have hC₁ := kp _ _ hC
  have X₁ := X.keeps kp
  have hget : ((h.push { cls := .type "tuple", data := .seq rest.toArray }).push
      { cls := .ref C, data := .fields #[.ref h.objs.size, .none, .none, .none, .bool false, .none] }).get? (h.objs.size + 1) = some
      { cls := .ref C, data := .fields #[.ref h.objs.size, .none, .none, .none, .bool false, .none] } := by heap_get
  have hcC : (Value.ref C :: bm).contains (.ref C) = true := by simp
  unfold isInstance
  repeat (first | with_reducible refine wpAny_loadPart_at hget ?_ | (with_reducible refine wpAny_isSubtype_exc hC₁ ?_; rw [hcC]) | wp_step)
  show wpAny _ _ (typeLookup (.ref C) _) _ _ _
  refine (looks_findIn X₁ hi).here ?_
  refine wpAny_holding (wpAny_bind ((bind_fn X₁ _ (beq_iff_eq.mp hf)).here ?_))
  refine wpAny_bind (wpAny_mono (hq _ (h.objs.size + 1) ⟨kp, Heap.get?_none_of_le (Nat.le_succ _), h.objs.size, hget, Heap.get?_none_of_le (Nat.le_refl _), ?_⟩) (fun r s' hr => ?_) fun _ _ x => x)
  · exact Heap.get?_push_of_some _ (Heap.get?_push_at rfl rfl)
  · obtain ⟨rfl, hQ⟩ := hr
    wp_walk
    exact hQ
theorem exCall {K : Frag} (F : ExcBaseFacts B newId initId bmB) (cB : bm.contains (.type B) = true) (cA : bm.contains (.type "AttributeError") = false) (cN : bm.contains (.type "NameError") = false) {fI : Addr} {rest : List Value} {Q : Value → Shared → Prop}
    (hC : h.get? C = some (excClassObj nm q C N bs bm hdct sn sub ab col dd k0 k1 k2 k3 k5 newId)) (X : K.In h) (hi : findIn K (.ref C) "__init__" = some (some (.ref fI))) (hf : isFn K (.ref fI) = true) (hrest : rest.length ≤ sizeLine)
    (hq : ∀ h' e, Heap.MadeExcOf h h' e (.ref C) rest →
      wpAny (model prog w) (A.under (.builtin "type.__call__" ⟨.ref C :: rest, []⟩)) (call (.ref fI) (.ref e :: rest)) (fun r s' => r = .none ∧ Q (.ref e) s') E ⟨h', g, d, t, os⟩) :
    wpAny (model prog w) A (call (.ref C) rest) Q E ⟨h, g, d, t, os⟩ := by
  have f1 := tc_lookup
  have f2 := tc_bind (.ref C)
  have hT : (⟨h, g, d, t, os⟩ : Shared).TypeIs (.ref C) "type" := ⟨_, hC, rfl⟩
  refine wpAny_call (codeAny_of_tree ?_)
  show wpAny _ _ (callAny (.ref C) _) _ _ _
  repeat (any_goals (first | assumption | with_reducible refine wpAny_loadPart_at hC ?_ | wp_step))
  refine ⟨rfl, ?_⟩
  refine codeAny_call_builtin_at (Code.quiet_builtin _ (by decide +kernel)) entry_typeCall (wpAny_check_type_call_sub hC (exType F cB cA cN hC X hi hf hrest fun h' e hm => hq h' e hm))
end

/-! X4 -/
/-- an exception's object: its class, its dict, its first field -/
noncomputable abbrev excO (C : Addr) (d : Option Addr) (t : Addr) : Obj := { cls := .ref C, dict := d, data := .fields #[.ref t, .none, .none, .none, .bool false, .none] }
section
variable {prog : Program} {w : World} {A : Around} {E : Value → Shared → Prop} {s : Shared} {c : Cx} {B : Kp} {S₀ S S' : PM} {n₀ : Nat} {M M' : List (Addr × Obj)} {L : Addr} {ρ ρ' : Str → Option Value} {env : Env}
theorem storeD {R : Fin → Shared → Prop} {dx : Addr} {es : List DictEntry} {n : Nat} {xs : List (Str × Value)} {name : Str} {tk : Tok} {v : Value} (D : s.heap.get? dx = some (dictOf es n)) (e : EntsAre es xs) (hz : xs.length ≤ 900)
    (h : ∀ es' n' s', s'.gens = s.gens → s'.os = s.os → Heap.SameBut dx s.heap s'.heap → s'.heap.get? dx = some (dictOf es' n') → EntsAre es' (aput name v xs) → R (.done (.ret .none)) s') :
    wpAny (model prog w) A (Builtin.ObjectAttr.storeInDict dx (.str name tk) name v) R E s := by
  have e2 := e.put name (PyData.keyHash w.params name) s.toks v
  have hpn := putName_dict name (PyData.keyHash w.params name) (.str name s.toks) v es n
  refine wpAny_bind (wpAny_pure (wpAny_bind ?_))
  unfold nsSet
  refine wpAny_bind (wpAny_bind (wpAny_askSetting (wpAny_pure (wpAny_bind (wpAny_mkText (wpAny_bind (wpAny_loadPart D ?_)))))))
  dsimp only
  have hc : (!es.toArray.any (·.key.isStr name) && es.toArray.any (·.refKey)) = false := by
    rw [List.any_toArray, List.any_toArray, e.norefs, Bool.and_false]
  rw [aRefKeyMayBeTheName_at, hc]
  refine wpAny_updatePart D ?_
  have D' : (s.heap.update dx (Obj.putName name (PyData.keyHash w.params name) (.str name s.toks) v)).get? dx = some (dictOf (putL name (PyData.keyHash w.params name) (.str name s.toks) v es) (putN name es n)) := by
    rw [← hpn]
    exact Heap.get?_update_self _ D (by rw [hpn]; rfl)
  refine wpAny_bind (wpAny_lookBehind D' (pastItsLine_dict (by rw [List.size_toArray, sizeLine_eq, e2.len]; have := aput_len name v xs; omega)) ?_)
  exact wpAny_pure (h _ _ _ rfl rfl (Heap.SameBut.update ..) D' e2)
theorem osaE {K : Frag} {x C : Addr} {cd : ClassData} {ox : Obj} {od : Option Obj} {name : Str} {tk : Tok} {v : Value} {R : Result → Shared → Prop} (X : K.In s.heap) (I : InstAt s.heap x ox C od) (hc : clsIn K C = some cd) (hne : cd.mro.isEmpty = false)
    (hp : ∀ self, refuseLoop self "__setattr__" cd.mro = pure ()) (hobj : cd.mro.contains (.type "object") = true) (ht : takerIn K C name = some none)
    (h : ∀ b, wpAny (model prog w) A.in1 (Builtin.ObjectAttr.storeInOwnDict (.ref x) (.ref C) (.str name tk) name v b)
      (fun fin s' => match fin with | .done f => R (.ok f) s' | .again c' => c'.quiet = true ∧ codeAny (model prog w) A c' R s') (fun e s' => R (.error e) s') s) :
    codeAny (model prog w) A (.call (.builtin "object.__setattr__") ⟨[.ref x, .str name tk, v], []⟩) R s := by
  have SF := PySem.F.store_object
  have sub : Looks (model prog w) s.heap (isInstance (.ref x) (.type "object")) true := I.type.andThen (looks_mroIn X (by unfold mroIn; rw [hc, Option.bind_some, if_neg (by rw [hne]; decide), hobj]))
  refine codeAny_call_builtin SF.slot.plain SF.entry (@check_slot (model prog w) _ _ s "object.__setattr__" "object" "__setattr__" (.ref x) [.str name tk, v] [] _ SF.kind SF.split sub (SF.args (.ref x) (.str name tk) v) ?_)
  obtain ⟨attr, ha, hr⟩ := Option.bind_eq_some_iff.mp ht
  have hm : Looks (model prog w) s.heap (mroOf (.ref C)) cd.mro := (looks_clsIn X hc).andThen .now
  have L3 : Looks (model prog w) s.heap (Builtin.ObjectAttr.storeTaker? attr) none := by
    cases attr with
    | none => exact .now
    | some a =>
      obtain ⟨b, hb, e⟩ := Option.map_eq_some_iff.mp hr
      refine (looks_takesIn X hb).andThen ?_
      cases b with
      | true => cases e
      | false => exact .now
  rw [osa_eq, refuse_eq]
  refine wpAny_bind (wpAny_bind (I.type.here (wpAny_bind (hm.here ?_))))
  rw [hp]
  refine wpAny_pure (wpAny_bind (I.type.here (wpAny_bind ((looks_findIn X ha).here (wpAny_bind (L3.here ?_))))))
  exact h _
/-- what a class of own exceptions must be for its objects' names to be stored plainly -/
structure PlainX (K : Frag) (C : Addr) (cd : ClassData) : Prop where
  hs : findIn K (.ref C) "__setattr__" = some (some (.builtin "object.__setattr__"))
  hc : clsIn K C = some cd
  ne : cd.mro.isEmpty = false
  hp : ∀ self, refuseLoop self "__setattr__" cd.mro = pure ()
  obj : cd.mro.contains (.type "object") = true
  hd : cd.hasDict = true
theorem exStore2 {x C dx : Addr} {cd : ClassData} {ox : Obj} {es : List DictEntry} {n : Nat} {xs : List (Str × Value)} {name : Str} {tk : Tok} {v : Value} {Mf : List DictEntry → Nat → List (Addr × Obj)} {R : Result → Shared → Prop} (st : St c S₀ n₀ B S M L ρ s)
    (hx : s.heap.get? x = some ox) (hcl : ox.cls = .ref C) (hno : notCls ox = true) (hdx : ox.dict = some dx) (U : ∀ es' n', UpM dx (dictOf es n) (dictOf es' n') M (Mf es' n')) (e : EntsAre es xs) (hz : xs.length ≤ 900) (PX : PlainX c.K C cd) (ht : takerIn c.K C name = some none)
    (h : ∀ es' n' s', EntsAre es' (aput name v xs) → St c S₀ n₀ B S (Mf es' n') L ρ s' → R (.ok (.ret .none)) s') : codeAny (model prog w) A (.call (.builtin "object.__setattr__") ⟨[.ref x, .str name tk, v], []⟩) R s := by
  have D := (st.mem _ (U es n).mem).1
  have X := st.K
  have I : InstAt s.heap x ox C (some (dictOf es n)) := ⟨hx, hcl, hno, by rw [hdx]; exact D⟩
  refine osaE X I PX.hc PX.ne PX.hp PX.obj ht fun b => ?_
  obtain ⟨oc, odi, oda, osl⟩ := ox
  dsimp only at hcl hdx
  subst hcl hdx
  refine wpAny_bind (wpAny_pure (wpAny_bind (wpAny_bind (wpAny_loadPart hx (wpAny_bind ((looks_clsIn X PX.hc).here ?_))))))
  rw [PX.hd]
  refine wpAny_pure (a := some dx) ?_
  refine storeD D e hz fun es' n' s' eg eo hsb D' e' => ?_
  refine h es' n' s' e' ?_
  have := st.upd (U es' n') hsb D'
  rw [← eg, ← eo] at this
  exact this
/-- the first attribute: the dict is made -/
theorem exStore1 {x C : Addr} {cd : ClassData} {ox : Obj} {name : Str} {tk : Tok} {v : Value} {Mf : Obj → List (Addr × Obj)} {R : Result → Shared → Prop} (st : St c S₀ n₀ B S M L ρ s)
    {vs : Array Value} (hcl : ox.cls = .ref C) (hdat : ox.data = .fields vs) (hdx : ox.dict = none) (U : ∀ o', UpM x ox o' M (Mf o')) (PX : PlainX c.K C cd) (ht : takerIn c.K C name = some none)
    (h : ∀ dx es n s', n₀ ≤ dx → EntsAre es [(name, v)] → St c S₀ n₀ B S ((dx, dictOf es n) :: Mf { ox with dict := some dx }) L ρ s' → R (.ok (.ret .none)) s') : codeAny (model prog w) A (.call (.builtin "object.__setattr__") ⟨[.ref x, .str name tk, v], []⟩) R s := by
  have hx := (st.mem _ (U ox).mem).1
  have X := st.K
  have I : InstAt s.heap x ox C none := ⟨hx, hcl, by unfold notCls; rw [hdat], by rw [hdx]; trivial⟩
  refine osaE X I PX.hc PX.ne PX.hp PX.obj ht fun b => ?_
  obtain ⟨oc, odi, oda, osl⟩ := ox
  dsimp only at hcl hdx hdat
  subst hcl hdx hdat
  refine wpAny_bind (wpAny_pure (wpAny_bind (wpAny_bind (wpAny_loadPart hx (wpAny_bind ((looks_clsIn X PX.hc).here ?_))))))
  rw [PX.hd]
  have st1 := st.pushM emptyDict rfl
  have hx1 : (s.heap.push emptyDict).get? x = some ⟨.ref C, none, .fields vs, osl⟩ := Heap.get?_push_of_some _ hx
  have st2 := st1.upd (h' := (s.heap.push emptyDict).update x fun o => { cls := o.cls, dict := some s.heap.objs.size, data := o.data, slots := o.slots }) (.tail (U ⟨.ref C, some s.heap.objs.size, .fields vs, osl⟩)) (Heap.SameBut.update ..) (Heap.get?_update_self _ hx1 rfl)
  have D := (st2.mem _ (.head _)).1
  · refine wpAny_bind (wpAny_alloc (wpAny_bind (wpAny_update hx1 (wpAny_pure ?_))))
    refine storeD (s := { s with heap := (s.heap.push emptyDict).update x fun o => { cls := o.cls, dict := some s.heap.objs.size, data := o.data, slots := o.slots } }) (es := []) (n := 0) D .nil (Nat.zero_le _) fun es' n' s' eg eo hsb D' e' => ?_
    refine h s.heap.objs.size es' n' s' st.bigger e' ?_
    have := st2.upd (.head) hsb D'
    rw [← eg, ← eo] at this
    exact this
theorem exSet {x C : Addr} {cd : ClassData} {name : Str} {v : Value} {Q : Unit → Shared → Prop} {ox : Obj} {od : Option Obj} (st : St c S₀ n₀ B S M L ρ s) (I : InstAt s.heap x ox C od) (PX : PlainX c.K C cd)
    (h : ∀ tk s', St c S₀ n₀ B S M L ρ s' → s'.heap = s.heap → codeAny (model prog w) A (.call (.builtin "object.__setattr__") ⟨[.ref x, .str name tk, v], []⟩) (fun r s' => match r with | .ok (.ret _) => Q () s' | .ok _ => False | .error e => E e s') s') :
    wpAny (model prog w) A (setAttr (.ref x) name v) Q E s := set_plain st.K I PX.hs (h _ _ st rfl)
end

/-! X5 -/
section
variable {prog : Program} {w : World} {A : Around} {E : Value → Shared → Prop} {s : Shared} {c : Cx} {B : Kp} {S₀ S S' : PM} {n₀ : Nat} {M M' : List (Addr × Obj)} {L : Addr} {ρ ρ' : Str → Option Value} {env : Env}
theorem exMeth {pl : Sem Bool} {Q : Value × List Value → Shared → Prop} (st : St c S₀ n₀ B S M L ρ s) (h : Q (.builtin "Exception.__init__", []) { s with toks := s.toks + 1 }) :
    wpAny (model prog w) A (getMethod (.type "Exception") "__init__" pl) Q E s := by
  obtain ⟨all, F, N, ha⟩ := StC.all st
  exact method_type (K := []) F (fun _ _ h => nomatch h) (by kernel_rfl) (by decide +kernel) (by kernel_rfl) rfl h
end
section
variable {prog : Program} {w : World} {A : Around} {E : Value → Shared → Prop} {h : Heap} {g : Array GenState} {d : Drawn} {t : Nat} {os : OsState}
variable {nm q : Str} {C N : Addr} {bs bm bmB : List Value} {hdct : Bool} {sn : List Str} {sub : List Value} {ab : Bool} {col : Option Bool} {dd : Option Addr} {k0 k1 k2 k3 k5 : Option Value} {B newId initId : String}
theorem exCheckI (F : ExcBaseFacts B newId initId bmB) (cB : bm.contains (.type B) = true) {M : Model} {e : Addr} {oe : Obj} {rest : List Value} {Q : Unit → Shared → Prop}
    (hC : h.get? C = some (excClassObj nm q C N bs bm hdct sn sub ab col dd k0 k1 k2 k3 k5 newId)) (he : h.get? e = some oe) (hcls : oe.cls = .ref C) (hq : Q () ⟨h, g, d, t, os⟩) :
    wpAny M A (checkBuiltinCall initId ⟨.ref e :: rest, []⟩) Q E ⟨h, g, d, t, os⟩ := by
  have h1 : (Value.ref C :: bm).contains (.type B) = true := by rw [List.contains_cons, cB, Bool.or_true]
  have hs := F.noStar
  simp only [checkBuiltinCall, F.initKind, F.initSplit, F.initRow]
  repeat (first | (with_reducible refine wpAny_loadPart_at he ?_; rw [hcls]) | with_reducible refine wpAny_loadPart_at hC ?_ | (with_reducible refine wpAny_isSubtype_exc hC ?_; rw [h1]) | wp_step)
  refine wpAny_onRaise ?_
  rw [show ∀ (a b : String) (n : Nat), Bind.check ⟨.positional, "*", B, .self, [⟨"args", .varPos, false⟩]⟩ a b n (List.map (fun x => x.fst) ({ pos := Value.ref e :: rest } : Args).kw) = pure () from fun a b n => check_star_args _ _ _ _ _ _]
  exact wpAny_pure hq
theorem exInit0 (F : ExcBaseFacts B newId initId bmB) (cB : bm.contains (.type B) = true) {e t0 : Addr} {v : Value} {Q : Value → Shared → Prop}
    (hC : h.get? C = some (excClassObj nm q C N bs bm hdct sn sub ab col dd k0 k1 k2 k3 k5 newId)) (he : h.get? e = some (excO C none t0))
    (hq : Q .none ⟨(h.push { cls := .type "tuple", data := .seq [v].toArray }).update e (Obj.mapFields (·.setIfInBounds 0 (Value.ref h.objs.size))), g, d, t, os⟩) :
    wpAny (model prog w) A (call (.builtin initId) [.ref e, v]) Q E ⟨h, g, d, t, os⟩ := by
  have he1 : (h.push { cls := .type "tuple", data := .seq [v].toArray }).get? e = some (excO C none t0) := Heap.get?_push_of_some _ he
  refine wpAny_call (codeAny_call_builtin F.init.plain F.initEntry (exCheckI F cB hC he rfl ?_))
  repeat (first | with_reducible refine wpAny_loadPart_at he1 ?_ | wp_step)
  exact hq
theorem obj_map (C : Addr) (d : Option Addr) (t t' : Addr) : Obj.mapFields (·.setIfInBounds 0 (Value.ref t')) (excO C d t) = excO C d t' := rfl
end
section
variable {prog : Program} {w : World} {A : Around} {E : Value → Shared → Prop} {s : Shared} {c : Cx} {B : Kp} {S₀ S S' : PM} {n₀ : Nat} {M M' : List (Addr × Obj)} {L : Addr} {ρ ρ' : Str → Option Value} {env : Env}
variable {nm q : Str} {C N : Addr} {bs bm bmB : List Value} {hdct : Bool} {sn : List Str} {sub : List Value} {ab : Bool} {col : Option Bool} {dd : Option Addr} {k0 k1 k2 k3 k5 : Option Value} {bid newId initId : String}
theorem exInit (F : ExcBaseFacts bid newId initId bmB) (cB : bm.contains (.type bid) = true) {e t0 : Addr} {v : Value} {Mf : Obj → List (Addr × Obj)} {Q : Value → Shared → Prop} (st : St c S₀ n₀ B S M L ρ s)
    (hC : S C = some (excClassObj nm q C N bs bm hdct sn sub ab col dd k0 k1 k2 k3 k5 newId)) (U : ∀ o', UpM e (excO C none t0) o' M (Mf o'))
    (h : ∀ t' s', St c S₀ n₀ B S (Mf (excO C none t')) L ρ s' → Q .none s') : wpAny (model prog w) A (call (.builtin initId) [.ref e, v]) Q E s := by
  have he := (st.mem _ (U (excO C none t0)).mem).1
  have hC' := st.ks _ _ hC
  have st1 := st.kept (h' := s.heap.push { cls := .type "tuple", data := .seq [v].toArray }) fun b o q => Heap.get?_push_of_some _ q
  have he1 := (st1.mem _ (U (excO C none t0)).mem).1
  have st2 := st1.upd (h' := (s.heap.push { cls := .type "tuple", data := .seq [v].toArray }).update e (Obj.mapFields (·.setIfInBounds 0 (Value.ref s.heap.objs.size)))) (U (excO C none s.heap.objs.size)) (Heap.SameBut.update ..) (Heap.get?_update_self _ he1 rfl)
  obtain ⟨hp, g, d, t, os⟩ := s
  exact exInit0 F cB hC' he (h hp.objs.size _ st2)
end

/-! CX -/
theorem mro59 (P : Params) : clsIn (hk.heap_1 P) 59 = some { name := "GrammarError", bases := [.ref 46], mro := [.ref 59, .ref 46, .type "Exception", .type "BaseException", .type "object"], ns := 58, qualname := "GrammarError" } := by rfl
theorem plain59 (P : Params) : PlainX (hk.heap_1 P) 59 { name := "GrammarError", bases := [.ref 46], mro := [.ref 59, .ref 46, .type "Exception", .type "BaseException", .type "object"], ns := 58, qualname := "GrammarError" } where
  hs := by walk_at "is"
  hc := mro59 P
  ne := rfl
  hp := fun self => by
    show refuseLoop self "__setattr__" [.ref 59, .ref 46, .type "Exception", .type "BaseException", .type "object"] = pure ()
    rw [refuseLoop_ref, refuseLoop_ref]; exact PySem.F.store_Exception.passes self
  obj := by decide +kernel
  hd := rfl
theorem obj59 (P : Params) : (hk.heap_1 P).lookup 59 = some (excClassObj "GrammarError" "GrammarError" 59 58 [.ref 46] [.ref 46, .type "Exception", .type "BaseException", .type "object"] true [] [] false none none (some (.ref 50)) none (some (.str "GrammarError" 234)) (some (.str "GrammarError" 242)) (some (.bool true)) "Exception.__new__") := by rfl
theorem has59 : ([.ref 46, .type "Exception", .type "BaseException", .type "object"] : List Value).contains (.type "Exception") = true := by decide +kernel
section
variable {prog : Program} {w : World} {G : Heap} {g : Array GenState} {o : OsState} {A : Around} {E : Value → Shared → Prop} {s : Shared} {S S₀ : PM} {n₀ : Nat} {B : Kp} {L : Addr} {ρ : Str → Option Value}
theorem S_K (st : St (cx w G g o) S₀ n₀ B S M L ρ s) {a : Addr} {x : Obj} (h : (hk.heap_1 w.params).lookup a = some x) : S a = some x := st.gs _ _ (st.gd.X _ _ h)
theorem c_tinit {Q : Value → Shared → Prop} {M : List (Addr × Obj)} {e t : Addr} {v : Value} (P : St (cx w G g o) S₀ n₀ B S ((e, excO 59 none t) :: M) L ρ s) (hA : Rm A 3)
   (hQ : ∀ dx es n t' S' s', Le S S' → St (cx w G g o) S₀ n₀ B S' ((e, excO 59 (some dx) t') :: M) L ρ s' → S' dx = some (dictOf es n) → EntsAre es [("what", v), ("at", .none)] → Q .none s') :
   wpAny (model prog w) A (call (.ref 36) [.ref e, v]) Q E s := by
  refine call_ret ?_
  refine' enterM (binds := [("self", Value.ref e), ("what", v), ("at", Value.none)]) P hA ?ho ?hcd ?hbind ?hloc ?hcell ?hco ?hgen ?hk ?_
  case ho => walk_at "is"
  case hcd => walk_at "is"
  case hbind => first | exact BindsTo.of_eq rfl | exact binds_K (K := hk.heap_1 w.params) (PreC.K (by first | exact P | exact St.pre P)) rfl (by walk_at "is") rfl rfl rfl
  case hloc => exact locs rfl
  case hcell => decide
  case hco => rfl
  case hgen => rfl
  case hk => rfl
  intro A' L' n₁ B' s' hA' st fin
  repeat' ((fail_if_success (with_reducible show wpAny _ _ (getMethod (Value.type _) _ _) _ _ _)); first | walk1 | (dsimp only; walk1))
  refine exMeth st ?_
  repeat' ((fail_if_success (with_reducible show wpAny _ _ (call (Value.builtin "Exception.__init__") _) _ _ _)); first | walk1 | (dsimp only; walk1))
  refine exInit PySem.F.excBase_Exception has59 st (S_K st (obj59 _)) (fun _ => .head) fun t1 s1 st1 => ?_
  clear st
  repeat' ((fail_if_success (with_reducible show wpAny _ _ (setAttr _ _ _) _ _ _)); first | walk1 | (dsimp only; walk1))
  refine exSet (ox := excO 59 none t1) (od := none) st1 ⟨(st1.mem _ (.head _)).1, rfl, rfl, trivial⟩ (plain59 _) fun tk s2 st2 _ => exStore1 st2 rfl rfl rfl (fun _ => .head) (plain59 _) (by walk_at "is") fun dx es n s3 hdx e1 st3 => ?_
  clear st1 st2
  repeat' ((fail_if_success (with_reducible show wpAny _ _ (setAttr _ _ _) _ _ _)); first | walk1 | (dsimp only; walk1))
  have hx3 := (st3.mem _ (.tail _ (.head _))).1
  have hd3 := (st3.mem _ (.head _)).1
  refine exSet (ox := excO 59 (some dx) t1) (od := some (dictOf es n)) st3 ⟨hx3, rfl, rfl, hd3⟩ (plain59 _) fun tk s4 st4 eh => exStore2 st4 (by rw [eh]; exact hx3) rfl rfl rfl (fun _ _ => .head) e1 (Nat.le_of_ble_eq_true rfl) (plain59 _) (by walk_at "is") fun es2 n2 s5 e2 st5 => ?_
  clear st3 st4
  repeat' (first | walk1 | (dsimp only; walk1))
  obtain ⟨S6, le6, hS6, st6⟩ := StC.freezeTo st5 hdx
  exact hQ dx es2 n2 t1 S6 s5 le6 (fin _ _ _ _ st6 le6 rfl) hS6 e2
theorem StC.madeM {c : Cx} {h h' : Heap} {M : List (Addr × Obj)} {g : Array GenState} {o : OsState} {a : Addr} {x : Obj} (st : StC c S₀ n₀ B S M L ρ h g o) (hk : ∀ b x, h.get? b = some x → h'.get? b = some x) (ha : h.get? a = none) (hx : h'.get? a = some x) : StC c S₀ n₀ B S ((a, x) :: M) L ρ h' g o := by
  have st' := st.kept hk
  obtain ⟨h1, h2, h3⟩ := st.off ha
  obtain ⟨oL, _, _, e, _⟩ := id st.ns
  exact { st' with
    mem := fun q hq => by
      rcases List.mem_cons.mp hq with rfl | hq
      · exact ⟨hx, (fun q => by have q : a = L := q
                                rw [q, e] at ha; cases ha), h1, h2⟩
      · exact st'.mem q hq
    nd := List.nodup_cons.mpr ⟨h3, st.nd⟩ }
theorem mk59 {Q : Value → Shared → Prop} {M : List (Addr × Obj)} {v : Value} (st : St (cx w G g o) S₀ n₀ B S M L ρ s) (hA : Rm A 4)
   (hQ : ∀ e dx es n t S' s', Le S S' → St (cx w G g o) S₀ n₀ B S' ((e, excO 59 (some dx) t) :: M) L ρ s' → S' dx = some (dictOf es n) → EntsAre es [("what", v), ("at", .none)] → Q (.ref e) s') :
   wpAny (model prog w) A (call (.ref 59) [v]) Q E s := by
  have hC := st.ks _ _ (S_K st (obj59 _))
  have X := st.K
  obtain ⟨hp, gg, dd, tk, os⟩ := s
  refine exCall (K := hk.heap_1 w.params) PySem.F.excBase_Exception has59 (by decide +kernel) (by decide +kernel) (fI := 36) hC X (by walk_at "is") (by walk_at "is") (Nat.le_of_ble_eq_true rfl) fun h' e hm => ?_
  obtain ⟨t, h1, h2, h3⟩ := hm.there
  have st1 : St (cx w G g o) S₀ n₀ B S ((e, excO 59 none t) :: M) L ρ ⟨h', gg, dd, tk, os⟩ := StC.madeM st hm.keeps hm.new h1
  exact c_tinit st1 (Rm.make hA 59 [v] []) fun dx es n t' S' s' le st2 hdx he => ⟨rfl, hQ e dx es n t' S' s' le st2 hdx he⟩
end

/-! X6 -/
section
variable {M : Model} {A : Around} {E : Value → Shared → Prop} {env : Env}
variable {nm q : Str} {C N : Addr} {bs bm : List Value} {hdct : Bool} {sn : List Str} {sub : List Value} {ab : Bool} {col : Option Bool} {dd : Option Addr} {k0 k1 k2 k3 k5 : Option Value} {newId : String}
theorem exRaise {s : Shared} {x : Sem Value} {Q : Flow → Shared → Prop} (hbase : bm.contains (.type "BaseException") = true) (hh : A.handled = none)
    (h : wpAny M A x (fun v s₁ => ∃ e d t, v = .ref e ∧ s₁.heap.get? C = some (excClassObj nm q C N bs bm hdct sn sub ab col dd k0 k1 k2 k3 k5 newId) ∧ s₁.heap.get? e = some (excO C d t) ∧ E (.ref e) s₁) E s) :
    wpAny M A (raiseStmt env (some x) none) Q E s := by
  have hB : (Value.ref C :: bm).contains (.type "BaseException") = true := by rw [List.contains_cons, hbase, Bool.or_true]
  unfold raiseStmt
  refine wpAny_bind (wpAny_mono h (fun v s₁ h₁ => ?_) fun _ _ x => x)
  obtain ⟨e, d, t, rfl, hC, he, hE⟩ := h₁
  obtain ⟨hp, g, dr, tk, os⟩ := s₁
  repeat (first | with_reducible refine wpAny_loadPart_at he ?_ | with_reducible refine wpAny_loadPart_at hC ?_ | (with_reducible refine wpAny_isSubtype_exc hC ?_; rw [hB]) | wp_step)
  exact wpAny_raiseNew_none hh hE
theorem exRaiseS {s : Shared} {x : PySem.Expr} {pos : Pos} {Q : Flow → Shared → Prop} (hbase : bm.contains (.type "BaseException") = true) (hh : A.handled = none)
    (h : wpAny M A (eval x env) (fun v s₁ => ∃ e d t, v = .ref e ∧ s₁.heap.get? C = some (excClassObj nm q C N bs bm hdct sn sub ab col dd k0 k1 k2 k3 k5 newId) ∧ s₁.heap.get? e = some (excO C d t) ∧ E (.ref e) s₁) E s) :
    wpAny M A (exec (.Raise (some x) none pos) env) Q E s := by
  rw [arm_exec_Raise]
  refine wpAny_bind (wpAny_standAt ?_)
  exact exRaise hbase hh (wpAny_bind (wpAny_mono h (fun v s₁ h₁ => wpAny_bind (wpAny_standAt (wpAny_pure h₁))) fun _ _ x => x))
end

/-! an exception in flight, its dict told -/
structure Fly (base : Heap) (l : List Env) (e : Addr) (C : Value) (dx : Option Addr) (fl : Value) (h : Heap) : Prop where
  stay : base.StaysIn h
  new : base.get? e = none
  fr : h.FunFrames base l
  tr : ∃ oe vs T oT ts, h.get? e = some oe ∧ oe.cls = C ∧ oe.dict = dx ∧ oe.data = .fields vs ∧ vs[1]? = some (.ref T) ∧ base.get? T = none ∧ T ≠ e ∧ h.get? T = some oT ∧ oT.data = .fields ts ∧ ts[3]? = some fl
section
variable {M : Model} {A : Around} {E : Value → Shared → Prop} {s : Shared} {base : Heap} {env : Env} {outer : List Env} {L e : Addr} {C : Value} {dx : Option Addr}
theorem Fly.frec {l : List Env} {fl : Value} (F : Fly base l e C dx fl s.heap) {b : Addr} {o : Obj} (hb : s.heap.get? b = some o) (hn : ∀ vs, o.data ≠ .fields vs) : b ≠ e := fun q => by
  obtain ⟨oe, vs, _, _, _, he, _, _, hd, _⟩ := F.tr
  rw [q, he] at hb; cases hb; exact hn vs hd
/-- a new entry of the traceback, behind what stood at its head -/
theorem newEntry {oe : Obj} {vs : Array Value} {head : Value} {hadNext : Bool} {Q : Unit → Shared → Prop} (hfr : A.frames = some (env :: outer)) (hl : s.heap.FunFrames base (env :: outer)) (hf : env.frame = some L)
    (he : s.heap.get? e = some oe) (hc : oe.cls = C) (hdx : oe.dict = dx) (hkb : base.StaysIn s.heap) (hen : base.get? e = none) (hd : oe.data = .fields vs) (hsz : 1 < vs.size)
    (h : ∀ h', Fly base (env :: outer) e C dx (rawInt L) h' → s.heap.UpToSlots h' → Q () { s with heap := h' }) :
    wpAny M A (do let a ← frameOf env; let pl ← entryPlaceOf L hadNext; let b ← EntryCells.newEntry head a .none (rawInt L) .none pl; setField (.ref e) 1 b) Q E s := by
  have hene : e ∉ (env :: outer).filterMap (·.frame) := fun hm => by
    obtain ⟨_, o, ho, hnf⟩ := hl.mem hm
    rw [he] at ho; cases ho; exact hnf vs hd
  refine wpAny_bind (wpAny_frameOf_fun hfr hl hf fun h₁ hs₁ => ?_)
  refine wpAny_bind (wpAny_entryPlaceOf fun pl hpl => ?_)
  unfold EntryCells.newEntry newFields
  refine wpAny_bind (wpAny_newObj_type ?_ (hpl.sizeOk5 _ _ _ _ _))
  have he₁ : h₁.get? e = some oe := (hs₁.2.1 e hene).trans he
  have kb₁ : base.StaysIn h₁ := fun b o hbo => (hs₁.2.1 b fun hm => by rw [(hl.mem hm).1] at hbo; cases hbo).trans (hkb b o hbo)
  generalize hTo : ({ cls := .type "traceback", dict := none, data := .fields ([head, .ref L, .none, rawInt L, .none] ++ (if pl.isEmpty then List.replicate 6 Value.none else pl)).toArray } : Obj) = oT
  have hTf : oT.isFreed = false := by rw [← hTo]; rfl
  have hTd : oT.data = .fields ([head, .ref L, .none, rawInt L, .none] ++ (if pl.isEmpty then List.replicate 6 Value.none else pl)).toArray := by rw [← hTo]
  have he₂ := Heap.get?_push_of_some (h := h₁) oT he₁
  have hTe : h₁.objs.size ≠ e := Nat.ne_of_gt (Heap.lt_size he₁)
  have hd₃ := Obj.data_mapFields hd (·.setIfInBounds 1 (Value.ref h₁.objs.size))
  refine wpAny_setField he₂ hd hsz (h _ ?_ ?_)
  · refine ⟨fun b o hbo => ?_, hen, hl.of_keeps fun b o hb hnf => ?_, ?_⟩
    · have q := kb₁ b o hbo
      rw [Heap.get?_update_other _ _ (fun z => by rw [z, hbo] at hen; cases hen)]
      exact Heap.get?_push_of_some _ q
    · obtain ⟨sl, hs⟩ := hs₁.2.2 b o hb
      refine ⟨{ o with slots := sl }, ?_, rfl⟩
      have hbe : e ≠ b := fun z => by rw [← z, he] at hb; cases hb; exact hnf vs hd
      rw [Heap.get?_update_other _ _ hbe]
      exact Heap.get?_push_of_some _ hs
    · refine ⟨_, _, h₁.objs.size, oT, _, Heap.get?_update_self _ he₂ (Obj.isFreed_of_fields hd₃), (Obj.cls_mapFields _ _).trans hc, ?_, hd₃, by simp [hsz], kb₁.fresh, hTe, ?_, hTd, ?_⟩
      · rw [← hdx]
        obtain ⟨_, _, dd, _⟩ := oe
        cases dd <;> rfl
      · rw [Heap.get?_update_other _ _ (Ne.symm hTe)]
        exact Heap.get?_push_size _ hTf
      · first | (simp; done) | (rcases hpl with rfl | ⟨_, _, _, _, _, _, _, rfl⟩ <;> simp)
  · intro b o hb hnf
    obtain ⟨sl, hs⟩ := hs₁.2.2 b o hb
    refine ⟨sl, ?_⟩
    have hbe : e ≠ b := fun z => by rw [← z, he] at hb; cases hb; exact hnf vs hd
    rw [Heap.get?_update_other _ _ hbe]
    exact Heap.get?_push_of_some _ hs
theorem note_first {oe : Obj} {vs : Array Value} {Q : Unit → Shared → Prop} (hfr : A.frames = some (env :: outer)) (hl : s.heap.FunFrames base (env :: outer)) (hf : env.frame = some L)
    (he : s.heap.get? e = some oe) (hc : oe.cls = C) (hdx : oe.dict = dx) (hkb : base.StaysIn s.heap) (hen : base.get? e = none) (hd : oe.data = .fields vs) (h1 : vs[1]? = some .none)
    (h : ∀ h', Fly base (env :: outer) e C dx (rawInt L) h' → s.heap.UpToSlots h' → Q () { s with heap := h' }) : wpAny M A (noteFrame (.ref e) env) Q E s := by
  unfold noteFrame
  simp only [hf]
  refine wpAny_bind (wpAny_field he hd h1 ?_)
  rw [if_neg (by decide)]
  exact newEntry hfr hl hf he hc hdx hkb hen hd (Array.getElem?_eq_some_iff.mp h1).1 h
theorem fly_set {Q : Unit → Shared → Prop} {l : List Env} {fl : Value} {f : Option Addr} (F : Fly base l e C dx fl s.heap)
    (h : ∀ h', Fly base l e C dx (f.elim Value.none fun f => rawInt f) h' → s.heap.UpToSlots h' → Q () { s with heap := h' }) : wpAny M A (setFlight (.ref e) f) Q E s := by
  obtain ⟨oe, vs, T, oT, ts, he, hc, hdx, hd, h1, hnT, hTe, hT, hdT, h3⟩ := F.tr
  have hz : 3 < ts.size := (Array.getElem?_eq_some_iff.mp h3).1
  have other : ∀ b, b ≠ T → ∀ g, (s.heap.update T g).get? b = s.heap.get? b := fun b hb g => Heap.get?_update_other _ _ (Ne.symm hb)
  have noRec : ∀ b o, s.heap.get? b = some o → (∀ vs, o.data ≠ .fields vs) → b ≠ T := fun b o hb hnf q => by
    rw [q, hT] at hb; cases hb; exact hnf ts hdT
  unfold setFlight
  refine wpAny_bind (wpAny_field he hd h1 ?_)
  rw [if_pos (show (Value.ref T != Value.none) = true from by simp)]
  refine wpAny_setField hT hdT hz (h _ ⟨fun b o hbo => (other b (fun q => by rw [q, hnT] at hbo; cases hbo) _).trans (F.stay b o hbo), F.new, F.fr.of_keeps fun b o hb hnf => ⟨o, (other b (noRec b o hb hnf) _).trans hb, rfl⟩, ?_⟩
    fun b o hb hnf => ⟨o.slots, (other b (noRec b o hb hnf) _).trans hb⟩)
  exact ⟨oe, vs, T, _, _, (other e (Ne.symm hTe) _).trans he, hc, hdx, hd, h1, hnT, hTe, Heap.get?_update_self _ hT (Obj.isFreed_of_fields (Obj.data_mapFields hdT _)), Obj.data_mapFields hdT _, by simp [hz]⟩
theorem note_on {Q : Unit → Shared → Prop} (hfr : A.frames = some (env :: outer)) (hf : env.frame = some L) (F : Fly base (env :: outer) e C dx .none s.heap)
    (h : ∀ h', Fly base (env :: outer) e C dx (rawInt L) h' → s.heap.UpToSlots h' → Q () { s with heap := h' }) : wpAny M A (noteFrame (.ref e) env) Q E s := by
  obtain ⟨oe, vs, T, oT, ts, he, hc, hdx, hd, h1, hnT, hTe, hT, hdT, h3⟩ := F.tr
  have other : ∀ b, b ≠ T → ∀ g, (s.heap.update T g).get? b = s.heap.get? b := fun b hb g => Heap.get?_update_other _ _ (Ne.symm hb)
  have noRec : ∀ b o, s.heap.get? b = some o → (∀ vs, o.data ≠ .fields vs) → b ≠ T := fun b o hb hnf q => by
    rw [q, hT] at hb; cases hb; exact hnf ts hdT
  unfold noteFrame
  simp only [hf]
  refine wpAny_bind (wpAny_field he hd h1 ?_)
  rw [if_pos (show (Value.ref T != Value.none) = true from by simp)]
  refine wpAny_bind (wpAny_field hT hdT h3 ?_)
  rw [if_neg (show ¬ ((Value.none == rawInt L) = true) from by simp [rawInt])]
  refine wpAny_bind (wpAny_setField hT hdT (Array.getElem?_eq_some_iff.mp h3).1 ?_)
  refine newEntry (s := { s with heap := s.heap.update T _ }) hfr (F.fr.of_keeps fun b o hb hnf => ⟨o, (other b (noRec b o hb hnf) _).trans hb, rfl⟩) hf ((other e (Ne.symm hTe) _).trans he) hc hdx
    (fun b o hbo => (other b (fun q => by rw [q, hnT] at hbo; cases hbo) _).trans (F.stay b o hbo)) F.new hd (Array.getElem?_eq_some_iff.mp h1).1 fun h' F' u => h h' F' fun b o hb hnf => u b o ((other b (noRec b o hb hnf) _).trans hb) hnf
theorem note_again {Q : Unit → Shared → Prop} {l : List Env} (hf : env.frame = some L) (F : Fly base l e C dx (rawInt L) s.heap) (h : Q () s) : wpAny M A (noteFrame (.ref e) env) Q E s := by
  obtain ⟨oe, vs, T, oT, ts, he, hc, hdx, hd, h1, hnT, hTe, hT, hdT, h3⟩ := F.tr
  unfold noteFrame
  simp only [hf]
  refine wpAny_bind (wpAny_field he hd h1 ?_)
  rw [if_pos (show (Value.ref T != Value.none) = true from by simp)]
  refine wpAny_bind (wpAny_field hT hdT h3 ?_)
  rw [if_pos (show (rawInt L == rawInt L) = true from by simp)]
  exact wpAny_pure h
theorem Fly.out {fl : Value} (F : Fly base (env :: outer) e C dx fl s.heap) : Fly base outer e C dx fl s.heap := ⟨F.stay, F.new, F.fr.2.2, F.tr⟩
/-- the frame is left the first time -/
theorem leave_first {oe : Obj} {vs : Array Value} {Q : Unit → Shared → Prop} (hfr : A.frames = some (env :: outer)) (hl : s.heap.FunFrames base (env :: outer)) (hf : env.frame = some L)
    (he : s.heap.get? e = some oe) (hc : oe.cls = C) (hdx : oe.dict = dx) (hkb : base.StaysIn s.heap) (hen : base.get? e = none) (hd : oe.data = .fields vs) (h1 : vs[1]? = some .none)
    (h : ∀ h', Fly base outer e C dx .none h' → s.heap.UpToSlots h' → Q () { s with heap := h' }) : wpAny M A (leaving env (.ref e)) Q E s := by
  unfold leaving
  refine wpAny_bind (note_first hfr hl hf he hc hdx hkb hen hd h1 fun h' F u => ?_)
  exact fly_set (f := none) (s := { s with heap := h' }) F fun h2 F2 u2 => h h2 ⟨F2.stay, F2.new, F2.fr.2.2, F2.tr⟩ (u.trans u2)
end

/-! X7 -/
/-- an own exception has left the callee of the frame `L` -/
inductive Rsd (c : Cx) (S : PM) (envL : Env) (L C : Addr) (xs : List (Str × Value)) (s : Shared) (e : Addr) (s' : Shared) : Prop where
  | mk : ∀ base S' dx es n, Fly base [envL] e (.ref C) (some dx) .none s'.heap → Le S S' → (∀ a o, S' a = some o → base.get? a = some o) → (∀ a o, s.heap.get? a = some o → a ≠ L → base.get? a = some o) → s.heap.UpToSlots s'.heap → S' dx = some (dictOf es n) → EntsAre es xs → (∀ a o, S' a = some o → S a = some o ∨ s.heap.objs.size ≤ a) → s'.gens = c.g → s'.os = c.o → Rsd c S envL L C xs s e s'
section
variable {c : Cx} {B B₀ : Kp} {S S' S₀ : PM} {n₀ n₁ : Nat} {M M₀ : List (Addr × Obj)} {L₀ L₁ e t dx C : Addr} {ρ ρ₀ : Str → Option Value} {s₀ s₁ : Shared} {xs : List (Str × Value)}
theorem leaveTo {Mo : Model} {A : Around} {E : Value → Shared → Prop} {envC envL : Env} {es : List DictEntry} {n : Nat} {Q : Unit → Shared → Prop} (st₀ : St c S₀ n₀ B₀ S M₀ L₀ ρ₀ s₀) (st : St c S n₁ B S' ((e, excO C (some dx) t) :: M) L₁ ρ s₁)
    (hn : n₁ = s₀.heap.objs.size) (hB : ∀ b o, s₀.heap.get? b = some o → B.m b = some o) (hfr : A.frames = some [envC, envL]) (hf : envC.frame = some L₁) (hfL : envL.frame = some L₀) (hk : envC.scope.kind ≠ .module) (hkL : envL.scope.kind ≠ .module)
    (le : Le S S') (hd : S' dx = some (dictOf es n)) (he : EntsAre es xs) (h : ∀ s', Rsd c S envL L₀ C xs s₀ e s' → Q () s') : wpAny Mo A (leaving envC (.ref e)) Q E s₁ := by
  have me := st.mem _ (.head _)
  have stay : (hideAll s₁.heap [e, L₁, L₀]).StaysIn s₁.heap := fun b o q => of_hideAll _ q
  have none' : ∀ b ∈ [e, L₁, L₀], (hideAll s₁.heap [e, L₁, L₀]).get? b = none := fun b hb => hideAll_none _ hb
  have get' : ∀ b o, s₁.heap.get? b = some o → b ≠ e → b ≠ L₁ → b ≠ L₀ → (hideAll s₁.heap [e, L₁, L₀]).get? b = some o := fun b o q h1 h2 h3 => hideAll_get _ q (by simp [h1, h2, h3])
  obtain ⟨o1, es1, ep1, g1, d1, _⟩ := id st.ns
  obtain ⟨o0, es0, ep0, g0, d0, _⟩ := id st₀.ns
  have g0' := st.kb _ _ (hB _ _ g0)
  have hSL0 : S' L₀ = none := none_of fun y q => (st.new _ y q).elim (fun z => by rw [st₀.sl] at z; cases z) fun z => Nat.lt_irrefl _ (Nat.lt_of_lt_of_le (Heap.lt_size g0) (hn ▸ z))
  refine leave_first (base := hideAll s₁.heap [e, L₁, L₀]) (oe := excO C (some dx) t) hfr ⟨hk, ⟨L₁, o1, hf, none' _ (.tail _ (.head _)), g1, fun vs q => by rw [d1] at q; cases q⟩, hkL, ⟨L₀, o0, hfL, none' _ (.tail _ (.tail _ (.head _))), g0', fun vs q => by rw [d0] at q; cases q⟩, trivial⟩ hf me.1 rfl rfl stay (none' _ (.head _)) rfl rfl fun h' F u => ?_
  refine h { s₁ with heap := h' } ⟨_, S', dx, es, n, F, le, fun a o q => get' a o (st.ks _ _ q) ?_ ?_ ?_, fun a o q hne => get' a o (st.kb _ _ (hB _ _ q)) ?_ ?_ hne, ?_, hd, he, fun a o q => (st.new a o q).imp id fun z => hn ▸ z, st.eg, st.eo⟩
  · rintro rfl; rw [me.2.2.2] at q; cases q
  · rintro rfl; rw [st.sl] at q; cases q
  · rintro rfl; rw [hSL0] at q; cases q
  · rintro rfl; have := hB _ _ q; rw [me.2.2.1] at this; cases this
  · rintro rfl; have := hB _ _ q; rw [st.bl] at this; cases this
  · exact (Heap.UpToSlots.of_keeps fun b o q => st.kb _ _ (hB _ _ q)).trans u
/-- the frame's state behind an exception that has come back into it -/
theorem StC.raised {base h : Heap} {envL : Env} {C' : Value} {d : Option Addr} {fl : Value} {h₀ : Heap} {g : Array GenState} {o : OsState} {g₀ : Array GenState} {o₀ : OsState} (st : StC c S₀ n₀ B₀ S M₀ L₀ ρ₀ h₀ g₀ o₀) (F : Fly base [envL] e C' d fl h) (le : Le S S') (hS : ∀ a x, S' a = some x → base.get? a = some x) (hk : ∀ a x, h₀.get? a = some x → a ≠ L₀ → base.get? a = some x)
    (hu : h₀.UpToSlots h) (hnew : ∀ a x, S' a = some x → S a = some x ∨ h₀.objs.size ≤ a) (eg : g = c.g) (eo : o = c.o) : StC c S₀ n₀ B₀ S' M₀ L₀ ρ₀ h g o := by
  have off : ∀ a, (∃ x, h₀.get? a = some x) → S a = none → S' a = none := fun a ⟨x, hx⟩ hs => none_of fun y q => (hnew a y q).elim (fun z => by rw [hs] at z; cases z) fun z => Nat.lt_irrefl _ (Nat.lt_of_lt_of_le (Heap.lt_size hx) z)
  obtain ⟨oL, _, _, gL, _⟩ := id st.ns
  exact {
    ns := hu.ns st.ns
    kb := fun a x q => F.stay _ _ (hk a x (st.kb a x q) (by rintro rfl; rw [st.bl] at q; cases q))
    ks := fun a x q => F.stay _ _ (hS a x q)
    bl := st.bl
    wo := fun a ha => let ⟨e1, x, e2⟩ := st.wo a ha; ⟨off a ⟨x, st.kb a x e2⟩ e1, x, e2⟩
    sl := off _ ⟨oL, gL⟩ st.sl
    mem := fun q hq => let m := st.mem q hq; ⟨F.stay _ _ (hk _ _ m.1 m.2.1), m.2.1, m.2.2.1, off _ ⟨_, m.1⟩ m.2.2.2⟩
    nd := st.nd
    gd := st.gd
    gs := fun a x q => le a x (st.gs a x q)
    new := fun a x q => (hnew a x q).elim (st.new a x) fun z => .inr (Nat.le_trans st.bigger z)
    big := st.big
    eg := eg
    eo := eo }
end
section
variable {prog : Program} {w : World} {A : Around} {s : Shared} {c : Cx} {S : PM}
/-- into a function of the text that may raise -/
theorem enterX {R : Result → Shared → Prop} {d : Nat} {name qual : Str} {params : Arguments} {body : List Stmt} {scope : Scope} {dV kV doc pm cdv ct oc : Value} {an od : Option Addr} {osl : Array (Option Value)} {a : Addr} {args : Args} {cl : List (Str × Addr)} {binds : List (Str × Value)}
    (P : Pre c S s) (hA : Rm A (d + 1))
    (ho : c.K.lookup a = some ⟨oc, od, .func (fnX name qual params body scope cl dV kV doc pm an cdv ct), osl⟩) (hcd : codeIn c.K cdv qual = true)
    (hbind : BindsTo s (fnX name qual params body scope cl dV kV doc pm an cdv ct) args binds) (hloc : ∀ y ∈ binds, scope.names.lookup y.1 = some .local)
    (hcell : ∀ x ∈ scope.names, x.2 ≠ .cell) (hco : scope.isCoroutine = false) (hgen : scope.isGenerator = false) (hk : scope.kind = .function)
    (h : ∀ A' L n₀ B s', Rm A' d → A'.frames = A.frames.map (envX qual scope L a cdv cl :: ·) → n₀ = s.heap.objs.size → (∀ b o, s.heap.get? b = some o → B.m b = some o) → St c S n₀ B S [] L (fun y => binds.reverse.lookup y) s' → (∀ S' M' ρ' s'', St c S n₀ B S' M' L ρ' s'' → Le S S' → Post c [] S s S' s'') →
      wpAny (model prog w) A' (execs body (envX qual scope L a cdv cl)) (fun fl s' => R (.ok (.ret (match fl with | .ret v => v | _ => .none))) s')
        (fun e s' => wpAny (model prog w) A' (leaving (envX qual scope L a cdv cl) e) (fun _ s'' => R (.error e) s'') (fun e' s'' => R (.error e') s'') s') s') :
    codeAny (model prog w) A (.call (.ref a) args) R s := by
  have X := P.K
  refine codeAny_call_def hA.room (X _ _ ho) rfl P.nolimit (codeRec_of X hcd) rfl hbind hcell hloc (fun h₁ hns hk₁ => ?_) hco hgen hk
  refine h _ s.heap.objs.size s.heap.objs.size ⟨fun b => s.heap.get? b, fun _ => False⟩ _ (hA.deeper _) rfl rfl (fun b o q => q) ?_ fun S' M' ρ' s'' st le => StC.post st le
  exact {
    ns := hns
    kb := hk₁
    ks := fun b o e => hk₁ b o (P.ks b o e)
    bl := none_of fun o e => Nat.lt_irrefl _ (Heap.lt_size e)
    wo := fun _ hb => hb.elim
    sl := none_of fun o e => Nat.lt_irrefl _ (Heap.lt_size (P.ks _ _ e))
    mem := fun _ hq => nomatch hq
    nd := .nil
    gd := P.gd
    gs := P.gs
    new := fun b o e => .inl e
    big := Nat.le_refl _
    eg := P.eg
    eo := P.eo }
end

/-! CChk -/
noncomputable abbrev tx (i : Int) : Str := Str.ofString (toString i)
noncomputable def msgOf (wanted : Int) (cs : List Cf) : Str := if (cs.length : Int) - srCount cs > 0 then tx ((cs.length : Int) - srCount cs) ++ (" reduce/reduce conflicts, none expected" : Str) else tx (srCount cs) ++ (" shift/reduce conflicts, " : Str) ++ tx wanted ++ (" expected" : Str)
noncomputable def IsDue (ex : Option Int) (cs : List Cf) : Prop := match ex with | none => True | some wd => ¬ ((cs.length : Int) - srCount cs > 0) ∧ (srCount cs : Int) = wd
theorem tx_len : ∀ n : Fin 400, (tx (n.val : Int)).length ≤ 3 := by decide +kernel
theorem tx_few {i : Int} (h0 : 0 ≤ i) (h1 : i < 400) : (tx i).length ≤ 3 := by
  have := tx_len ⟨i.toNat, by omega⟩
  simpa [Int.toNat_of_nonneg h0] using this
theorem sr_le (cs : List Cf) : srCount cs ≤ cs.length := List.length_filter_le _ _
section
variable {prog : Program} {w : World} {A : Around} {E : Value → Shared → Prop} {s : Shared} {c : Cx} {B : Kp} {S₀ S : PM} {n₀ : Nat} {M : List (Addr × Obj)} {L : Addr} {ρ : Str → Option Value}
theorem strInt {i : Int} {t : Tok} {Q : Value → Shared → Prop} (st : St c S₀ n₀ B S M L ρ s) (h0 : 0 ≤ i) (h1 : i < 400) (h : ∀ t' s', St c S₀ n₀ B S M L ρ s' → Q (.str (tx i) t') s') : wpAny (model prog w) A (call (.type "str") [.int i t]) Q E s :=
  PySem.P.str_of_int (by
    have h2 : i.natAbs < 2 ^ 9 := by omega
    by_cases q : i.natAbs = 0
    · rw [q]; decide
    · exact Nat.lt_trans ((Nat.log2_lt q).mpr h2) (by decide)) (h s.toks { s with toks := s.toks + 1 } st)
theorem addStr {x y : Str} {t u : Tok} {Q : Value → Shared → Prop} (st : St c S₀ n₀ B S M L ρ s) (hz : x.length + y.length ≤ sizeLine) (h : ∀ t' s', St c S₀ n₀ B S M L ρ s' → Q (.str (x ++ y) t') s') : wpAny (model prog w) A (binaryOp .Add (.str x t) (.str y u)) Q E s :=
  PySem.SB.add (fun t' k => h t' { s with toks := k } st) hz
theorem cat_len (x y : Str) : (x ++ y).length = x.length + y.length := by exact Str.length_append x y
end
section
variable {prog : Program} {w : World} {G : Heap} {g : Array GenState} {o : OsState} {A : Around} {E : Value → Shared → Prop} {s : Shared} {S S₀ : PM} {n₀ : Nat} {B : Kp} {L : Addr} {ρ : Str → Option Value} {M : List (Addr × Obj)}
theorem c_checked {Q : Value → Shared → Prop} {tx0 gx rw gt df cf se : Addr} {lev : Lev} {lof : Nat → Int} {ex : Option Int} {cvs : List Value} {cs : List Cf} {n : Nat} {envL : Env} (st₀ : St (cx w G g o) S₀ n₀ B S M L ρ s) (hA : Rm A 6) (hfr : A.frames = some [envL]) (hfL : envL.frame = some L) (hkL : envL.scope.kind ≠ .module)
   (ht : TabAt' S tx0 gx rw gt df cf se) (hg : GramAt prog w S gx lev lof ex) (hex : ∀ i, ex = some i → 0 ≤ i ∧ i < 10) (hc : S cf = some (lst cvs n)) (hcs : CfsAt S cvs cs) (hz : cvs.length < 300)
   (hQ : IsDue ex cs → ∀ S' s', Post (cx w G g o) [] S s S' s' → Q (.ref tx0) s')
   (hE : ¬ IsDue ex cs → ∀ wd tk e s', ex = some wd → Rsd (cx w G g o) S envL L 59 [("what", .str (msgOf wd cs) tk), ("at", .none)] s e s' → E (.ref e) s') :
   wpAny (model prog w) A (call (.ref 334) [.ref tx0]) Q E s := by
  have P := St.pre st₀
  refine wpAny_call ?_
  refine' enterX (binds := [("tables", Value.ref tx0)]) P hA ?ho ?hcd ?hbind ?hloc ?hcell ?hco ?hgen ?hk ?_
  case ho => walk_at "is"
  case hcd => walk_at "is"
  case hbind => exact BindsTo.of_eq rfl
  case hloc => exact locs rfl
  case hcell => decide
  case hco => rfl
  case hgen => rfl
  case hk => rfl
  intro A' L' n₁ B' s' hA' hfr' hn hB st fin
  rw [hfr] at hfr'
  obtain ⟨xs, t, ii, x1, x2, x3, x4, x5, x6, x7⟩ := id ht
  obtain ⟨gxs, dl, rl, nl0, ev, rvs, gn, gi, g1, g2, g3, g4, g5, g6, g7, g8, g9, g10⟩ := id hg
  cases ex with
  | none =>
    have g6 : ev = Value.none := g6
    subst g6
    walk_at "go"
    (rename StC _ _ _ _ _ _ _ _ _ _ _ => st9)
    exact hQ trivial S _ (fin _ _ _ _ st9 (Le.refl _))
  | some wd =>
    obtain ⟨tw, g6⟩ : ∃ t, ev = Value.int wd t := g6
    subst g6
    walk_at "go"
    (rename StC _ _ _ _ _ _ _ _ _ _ _ => st1)
    refine c_counts (St.pre st1) (Rm.le hA' (by decide)) ht hc hcs (by omega) fun a t1 t2 e0 S2 s2 P2 ha2 => ?_
    have st2 := StC.call st1 P2
    have le2 := P2.le
    clear st1 P2
    have hsr := sr_le cs
    have hcl : cs.length < 300 := by rw [← hcs.len]; exact hz
    have hwd := hex wd rfl
    walk_at "go"
    · (rename (0 : Int) < _ => z1)
      (rename StC _ _ _ _ _ _ _ _ _ _ _ => st3)
      refine exRaiseS (C := 59) (nm := "GrammarError") (q := "GrammarError") (N := 58) (bs := [.ref 46]) (bm := [.ref 46, .type "Exception", .type "BaseException", .type "object"]) (hdct := true) (sn := []) (sub := []) (ab := false) (col := none) (dd := none) (k0 := some (.ref 50)) (k1 := none) (k2 := some (.str "GrammarError" 234)) (k3 := some (.str "GrammarError" 242)) (k5 := some (.bool true)) (newId := "Exception.__new__") (by decide +kernel) hA'.hh ?_
      walk_at "go"
      (rename StC _ _ _ _ _ _ _ _ _ _ _ => st4)
      refine' mk59 ?sa ?sb ?_
      case sa => exact st4
      case sb => exact Rm.le hA' (by decide)
      intro e dx es n0 t0 S5 s5 le5 st5 hdx he
      refine ⟨e, some dx, t0, rfl, st5.ks _ _ (S_K st5 (obj59 _)), (st5.mem _ (.head _)).1, ?_⟩
      refine leaveTo st₀ st5 hn hB hfr' rfl hfL (fun q => nomatch q) hkL (le2.trans le5) hdx he fun s'' hr => ?_
      have em : msgOf wd cs = tx ((cs.length : Int) - srCount cs) ++ (" reduce/reduce conflicts, none expected" : Str) := if_pos z1
      exact hE (fun q => q.1 z1) wd _ e s'' rfl (by rw [em]; exact hr)
    · (rename ¬ ((0 : Int) < _) => z1)
      (rename (srCount cs : Int) ≠ wd => z2)
      (rename StC _ _ _ _ _ _ _ _ _ _ _ => st3)
      refine exRaiseS (C := 59) (nm := "GrammarError") (q := "GrammarError") (N := 58) (bs := [.ref 46]) (bm := [.ref 46, .type "Exception", .type "BaseException", .type "object"]) (hdct := true) (sn := []) (sub := []) (ab := false) (col := none) (dd := none) (k0 := some (.ref 50)) (k1 := none) (k2 := some (.str "GrammarError" 234)) (k3 := some (.str "GrammarError" 242)) (k5 := some (.bool true)) (newId := "Exception.__new__") (by decide +kernel) hA'.hh ?_
      walk_at "go"
      (rename StC _ _ _ _ _ _ _ _ _ _ _ => st4)
      refine' mk59 ?sa ?sb ?_
      case sa => exact st4
      case sb => exact Rm.le hA' (by decide)
      intro e dx es n0 t0 S5 s5 le5 st5 hdx he
      refine ⟨e, some dx, t0, rfl, st5.ks _ _ (S_K st5 (obj59 _)), (st5.mem _ (.head _)).1, ?_⟩
      refine leaveTo st₀ st5 hn hB hfr' rfl hfL (fun q => nomatch q) hkL (le2.trans le5) hdx he fun s'' hr => ?_
      have em : msgOf wd cs = tx (srCount cs) ++ (" shift/reduce conflicts, " : Str) ++ tx wd ++ (" expected" : Str) := if_neg z1
      exact hE (fun q => z2 q.2) wd _ e s'' rfl (by rw [em]; exact hr)
    · (rename ¬ ((0 : Int) < _) => z1)
      (rename (srCount cs : Int) = wd => z2)
      (rename StC _ _ _ _ _ _ _ _ _ _ _ => st9)
      exact hQ ⟨z1, z2⟩ S2 _ (fin _ _ _ _ st9 le2)
end

/-! X8 -/
section
variable {prog : Program} {w : World} {A : Around} {s : Shared} {c : Cx} {S : PM}
/-- into a function of the text some of whose names are cells -/
theorem enterCF {R : Result → Shared → Prop} {d : Nat} {name qual : Str} {params : Arguments} {body : List Stmt} {scope : Scope} {dV kV doc pm cdv ct oc : Value} {an od : Option Addr} {osl : Array (Option Value)} {a : Addr} {args : Args} {binds : List (Str × Value)} {cells : Addr → List (Str × Addr)}
    (P : Pre c S s) (hA : Rm A (d + 1))
    (ho : c.K.lookup a = some ⟨oc, od, .func (fnX name qual params body scope [] dV kV doc pm an cdv ct), osl⟩) (hcd : codeIn c.K cdv qual = true)
    (hbind : BindsTo s (fnX name qual params body scope [] dV kV doc pm an cdv ct) args binds) (hcs : ∀ n, cellsFrom (n + 1) scope.names [] = cells n)
    (hkind : ∀ n, ∀ x ∈ binds, scope.names.lookup x.1 = some .local ∨ (scope.names.lookup x.1 = some .cell ∧ ((cells n).lookup x.1).isSome = true)) (hnd : ((cells 0).map (·.1)).Nodup)
    (hco : scope.isCoroutine = false) (hgen : scope.isGenerator = false) (hk : scope.kind = .function)
    (h : ∀ A' L n₀ B s' cs, Rm A' d → A'.frames = A.frames.map (envX qual scope L a cdv (cells L) :: ·) → CellsAre (bindC (fun x => scope.names.lookup x) binds fun _ => none) (cells L) cs → St c S n₀ B S cs L (bindL (fun x => scope.names.lookup x) binds fun _ => none) s' → (∀ S' M' ρ' s'', St c S n₀ B S' M' L ρ' s'' → Le S S' → Post c [] S s S' s'') →
      wpAny (model prog w) A' (execs body (envX qual scope L a cdv (cells L))) (fun fl s' => R (.ok (.ret (match fl with | .ret v => v | _ => .none))) s') (fun _ _ => False) s') :
    codeAny (model prog w) A (.call (.ref a) args) R s := by
  have X := P.K
  refine codeAny_call_function hA.room (X _ _ ho) rfl hco hgen rfl (codeRec_of X hcd) (hbind _ _ _ _ ?_)
  refine wpAny_newFunctionEnv_cells hk (by rw [hcs]; exact hkind _) fun env' he s' x => ?_
  subst he
  refine ⟨P.nolimit.keeps x.toInCall.keep, codeAny_func ?_⟩
  obtain ⟨h₁, tk, rfl, _⟩ := x.done
  have hk₁ := x.toInCall.keep
  have hnd' : ((cellsFrom (s.heap.objs.size + 1) scope.names []).map (·.1)).Nodup := by
    rw [cellsFrom_names scope.names (s.heap.objs.size + 1) (0 + 1) [] [] rfl, hcs]; exact hnd
  obtain ⟨cs, NC, Y⟩ := Cl.news (h₀ := s.heap) (Nat.le_refl _) fun n c hm => ⟨x.cell n c (lookup_of_mem_nodup hnd' hm), x.above n c hm⟩
  have hnodup : (cs.map (·.1)).Nodup := by
    have key : ∀ {l : List (Str × Addr)} {cs : List (Addr × Obj)} {cm : Str → Option Value}, CellsAre cm l cs → (l.Pairwise fun x y => x.2 ≠ y.2) → (cs.map (·.1)).Nodup ∧ ∀ q ∈ cs, ∃ p ∈ l, p.2 = q.1 := by
      intro l cs cm q
      induction q with
      | nil => intro _; exact ⟨.nil, fun _ hq => nomatch hq⟩
      | @cons n a o l cs _ r ih =>
        intro hp
        obtain ⟨h1, h2⟩ := List.pairwise_cons.mp hp
        obtain ⟨i1, i2⟩ := ih h2
        refine ⟨List.nodup_cons.mpr ⟨fun z => ?_, i1⟩, fun q hq => ?_⟩
        · obtain ⟨q, hq, e⟩ := List.mem_map.mp z
          obtain ⟨p, hp, e2⟩ := i2 q hq
          exact h1 p hp (e2.trans e).symm
        · rcases List.mem_cons.mp hq with rfl | hq
          · exact ⟨_, .head _, rfl⟩
          · obtain ⟨p, hp, e⟩ := i2 q hq
            exact ⟨p, .tail _ hp, e⟩
    exact (key Y x.apart).1
  have hY := Y
  have hns := x.toInCall.ns
  have hd := hA.deeper (envX qual scope s.heap.objs.size a cdv (cellsFrom (s.heap.objs.size + 1) scope.names []))
  have hfr : (A.deeper (envX qual scope s.heap.objs.size a cdv (cellsFrom (s.heap.objs.size + 1) scope.names []))).frames = A.frames.map (envX qual scope s.heap.objs.size a cdv (cellsFrom (s.heap.objs.size + 1) scope.names []) :: ·) := rfl
  simp only [hcs] at hY hns hd hfr ⊢
  refine wpAny_mono (h _ s.heap.objs.size s.heap.objs.size ⟨fun b => s.heap.get? b, fun _ => False⟩ _ cs hd hfr hY ?_ fun S' M' ρ' s'' st le => StC.post st le) (fun _ _ y => y) fun _ _ y => y.elim
  exact {
    ns := x.toInCall.ns
    kb := fun b y e => hk₁ b y e
    ks := fun b o e => hk₁ b o (P.ks b o e)
    bl := none_of fun o e => Nat.lt_irrefl _ (Heap.lt_size e)
    wo := fun _ hb => hb.elim
    sl := none_of fun o e => Nat.lt_irrefl _ (Heap.lt_size (P.ks _ _ e))
    mem := fun q hq => ⟨(NC q hq).1, (NC q hq).2.1, (NC q hq).2.2, none_of fun o e => by
      have := P.ks _ _ e
      rw [(NC q hq).2.2] at this; cases this⟩
    nd := hnodup
    gd := P.gd
    gs := P.gs
    new := fun b o e => .inl e
    big := Nat.le_refl _
    eg := P.eg
    eo := P.eo }
end

/-! E1 -/
section
open PySem.SeqAt
/-! lists that are compared: what they read as -/
noncomputable def dInts (ns : List Int) : PyData := .list (ns.map .int)
theorem ReadsAll.ints {h : Heap} {vs : List Value} {ns : List Int} (hi : IntsAre vs ns) : ReadsAll h vs (ns.map .int) [] := by
  induction hi with
  | nil => exact .nil
  | cons n t _ ih => exact ReadsAll.cons (as := []) (bs := []) (.int n t) ih
theorem lay_ints : ∀ ns : List Int, PyData.canLayAll0 (ns.map .int) = true
  | [] => rfl
  | _ :: ns => by show (true && PyData.canLayAll0 (ns.map .int)) = true; rw [lay_ints ns]; rfl
theorem dep_ints : ∀ ns : List Int, PyData.depthAll (ns.map .int) = 0
  | [] => rfl
  | _ :: ns => by show max 0 (PyData.depthAll (ns.map .int)) = 0; rw [dep_ints ns]; rfl
/-- what is read, told with bounds -/
structure Rd (h : Heap) (v : Value) (d : PyData) (k : Nat) : Prop where
  rd : ∃ as, Reads h v d as
  lay : d.canLay0 = true
  dep : d.depth ≤ k
structure RdAll (h : Heap) (vs : List Value) (ds : List PyData) (k : Nat) : Prop where
  rd : ∃ as, ReadsAll h vs ds as
  lay : PyData.canLayAll0 ds = true
  dep : PyData.depthAll ds ≤ k
theorem RdAll.nil {h : Heap} {k : Nat} : RdAll h [] [] k := ⟨⟨_, .nil⟩, rfl, Nat.zero_le _⟩
theorem RdAll.cons {h : Heap} {v : Value} {d : PyData} {vs : List Value} {ds : List PyData} {k : Nat} (a : Rd h v d k) (b : RdAll h vs ds k) : RdAll h (v :: vs) (d :: ds) k := by
  obtain ⟨as, ra⟩ := a.rd
  obtain ⟨bs, rb⟩ := b.rd
  refine ⟨⟨_, .cons ra rb⟩, ?_, ?_⟩
  · show (d.canLay0 && PyData.canLayAll0 ds) = true; rw [a.lay, b.lay]; rfl
  · show max d.depth (PyData.depthAll ds) ≤ k; exact Nat.max_le.mpr ⟨a.dep, b.dep⟩
theorem Rd.int {h : Heap} (i : Int) (t : Tok) (k : Nat) : Rd h (.int i t) (.int i) k := ⟨⟨_, .int i t⟩, rfl, Nat.zero_le _⟩
theorem Rd.str {h : Heap} {x : Str} (hx : (PyData.str x).canLay0 = true) (t : Tok) (k : Nat) : Rd h (.str x t) (.str x) k := ⟨⟨_, .str x t⟩, hx, Nat.zero_le _⟩
theorem srT_lay (b : Bool) : (PyData.str (srT b)).canLay0 = true := by cases b <;> decide +kernel
theorem Rd.lst {h : Heap} {a : Addr} {o : Obj} {vs : List Value} {ds : List PyData} {k : Nat} (hg : h.get? a = some o) (lo : LO o vs) (r : RdAll h vs ds k) : Rd h (.ref a) (.list ds) (k + 1) := by
  obtain ⟨as, ra⟩ := r.rd
  obtain ⟨n, hd⟩ := lo.dat
  exact ⟨⟨_, .list hg lo.cls hd (by simpa using ra)⟩, r.lay, Nat.succ_le_succ r.dep⟩
theorem Rd.tup {h : Heap} {a : Addr} {o : Obj} {vs : List Value} {ds : List PyData} {k : Nat} (hg : h.get? a = some o) (lo : TO o vs) (r : RdAll h vs ds k) : Rd h (.ref a) (.tuple ds) (k + 1) := by
  obtain ⟨as, ra⟩ := r.rd
  obtain ⟨n, hd⟩ := lo.dat
  exact ⟨⟨_, .tuple hg lo.cls hd (by simpa using ra)⟩, r.lay, Nat.succ_le_succ r.dep⟩
theorem RdAll.ints {h : Heap} {vs : List Value} {ns : List Int} (hi : IntsAre vs ns) (k : Nat) : RdAll h vs (ns.map .int) k := by
  induction hi with
  | nil => exact .nil
  | cons n t _ ih => exact .cons (.int n t k) ih
theorem RowsAt.rd {S : PM} {h : Heap} {vs : List Value} {rs : List (List Int)} (r : RowsAt S vs rs) (hks : ∀ a o, S a = some o → h.get? a = some o) : RdAll h vs (rs.map dInts) 1 := by
  induction r with
  | nil => exact .nil
  | cons a b c _ ih => exact .cons (.lst (hks _ _ a) b (.ints c 0)) ih
noncomputable def dCf (c : Cf) : PyData := .tuple [.int c.n, .int c.t, .str (srT c.sr), .tuple (c.rs.map .int), .int c.ch]
theorem TdAt.rd {S : PM} {h : Heap} {x : Addr} {c : Cf} (t : TdAt S x c) (hks : ∀ a o, S a = some o → h.get? a = some o) : Rd h (.ref x) (dCf c) 2 := by
  obtain ⟨t1, t2, t3, t4, q, vs, e, e', h1, h2, h3⟩ := id t
  exact .tup (hks _ _ h1) (TO.tup _ _) (.cons (.int _ _ _) (.cons (.int _ _ _) (.cons (.str (srT_lay _) _ _) (.cons (.tup (hks _ _ h2) (TO.tup _ _) (.ints h3 0)) (.cons (.int _ _ _) .nil)))))
theorem TdsAt.rd {S : PM} {h : Heap} {vs : List Value} {cs : List Cf} (t : TdsAt S vs cs) (hks : ∀ a o, S a = some o → h.get? a = some o) : RdAll h vs (cs.map dCf) 2 := by
  induction t with
  | nil => exact .nil
  | cons a _ ih => exact .cons (a.rd hks) ih
section
variable {prog : Program} {w : World} {A : Around} {E : Value → Shared → Prop} {s : Shared} {Q : Value → Shared → Prop}
theorem Rd.ne {a b : Value} {d : PyData} {k j : Nat} (ra : Rd s.heap a d k) (rb : Rd s.heap b d j) (hu : A.units + k < cLine) (h : Q (.bool false) s) : wpAny (model prog w) A (compareOp .NotEq a b) Q E s := by
  obtain ⟨as, r1⟩ := ra.rd
  obtain ⟨bs, r2⟩ := rb.rd
  refine neOverData prog w A E s a b d d as bs Q r1 r2 ra.lay ra.lay (by rw [Nat.min_self]; have := ra.dep; omega) ?_
  rw [eqv_refl d ra.lay]
  exact h
end

end

/-! X9 -/
section
variable {prog : Program} {w : World} {A : Around} {E : Value → Shared → Prop} {s : Shared} {c : Cx} {B : Kp} {S₀ S S' : PM} {n₀ : Nat} {M M' : List (Addr × Obj)} {L : Addr} {ρ ρ' : Str → Option Value} {env : Env}
  {h h' : Heap} {g : Array GenState} {o : OsState} {x : Str} {pos : Pos} {v : Value}
/-! comprehensions whose name is a cell of their own -/
theorem compWC {I : Addr} {fp wr : List Addr} {n : Nat} {P : Nat → Value → Prop} {T : Nat → Heap → Prop} {px : Pos} {elt iter : Expr} {ifs : List Expr} {scope : Scope} {cl : List (Str × Addr)} {cpos : Pos} {RR : Value → Addr → Result → Shared → Prop} (J : Addr → Nat → List Value → PM → List (Addr × Obj) → Prop)
    (W : Walks prog w A I fp wr n P T) (hsz : n ≤ sizeLine) (hfp : ∀ b ∈ fp, b ∈ wr ∨ ∃ y, S b = some y) (hob : ∀ i h, T i h → ∀ b ∈ wr, ∃ y, h.get? b = some y) (hw : ∀ b ∈ wr, b ≠ L ∧ B.m b = none ∧ S b = none ∧ b ∉ M.map (·.1)) (h0 : T 0 s.heap)
    (hpc : ∀ h, pushCells h scope.names = h.push (cellO none)) (hcf : ∀ n, cellsFrom n scope.names cl = (x, n) :: cl) (hkind : scope.kind = .function)
    (st : St c S₀ n₀ B S M L ρ s) (j0 : ∀ X, J X 0 [] S ((X, cellO none) :: M))
    (turn : ∀ C X i v ys B' S' M' ρ' s', i < n → P i v → Le S S' → J X i ys S' M' → St c S₀ n₀ B' S' M' C ρ' s' →
      wpAny (model prog w) A (assign (.Name x px) (compEnvC scope ((x, X) :: cl) C env) v) (fun _ s₀ => wpAny (model prog w) A (tests ifs (compEnvC scope ((x, X) :: cl) C env)) (fun ok s₁ => if ok = true then wpAny (model prog w) A (eval elt (compEnvC scope ((x, X) :: cl) C env)) (fun y s₂ => CEnd c S₀ n₀ B' C (J X (i + 1) (ys ++ [y])) S' s₂) F0 s₁ else CEnd c S₀ n₀ B' C (J X (i + 1) ys) S' s₁) F0 s₀) F0 s')
    (done : ∀ X S' M' ys D C s', Le S S' → J X n ys S' M' → n₀ ≤ D → St c S₀ n₀ B S' ((D, lst ys ys.length) :: M') L ρ s' → (C ≠ L ∧ B.m C = none ∧ S' C = none ∧ C ∉ ((D, lst ys ys.length) :: M').map (·.1)) → (∃ m, s'.heap.Ns C m) → RR (.ref D) C (.ok .next) s') :
    CompR prog w A env scope cl (.ListComp elt [⟨.Name x px, iter, ifs, 0⟩] scope cpos) RR (.ref I) s := by
  unfold CompR
  refine wpAny_newObj_type ?_
  simp only [newFunctionEnv, Option.isSome_some, if_true]
  refine wpAny_bind (wpAny_alloc ?_)
  refine wpAny_bind (wpAny_layCells _ (fun name kind cells => by cases hkc : kind == NameKind.cell <;> simp [hkc]) _ _ _ _ ?_)
  dsimp only
  generalize hH2 : s.heap.push { cls := .type "list", dict := none, data := .seq ([] : List Value).toArray } = H2
  have hC : H2.objs.size = s.heap.objs.size + 1 := by rw [← hH2, Heap.size_push]
  have hX : (H2.push ({ cls := .type "dict", data := .dict #[] } : Obj)).objs.size = H2.objs.size + 1 := Heap.size_push ..
  rw [hpc, hX, hcf]
  refine wpAny_bind (wpAny_pure (wpAny_pure ?_))
  have kp : ∀ b o, H2.get? b = some o → ((H2.push ({ cls := .type "dict", data := .dict #[] } : Obj)).push (cellO none)).get? b = some o := fun b o e => Heap.get?_push_of_some _ (Heap.get?_push_of_some _ e)
  have old : ∀ b o, s.heap.get? b = some o → ((H2.push ({ cls := .type "dict", data := .dict #[] } : Obj)).push (cellO none)).get? b = some o := fun b o e => kp b o (hH2 ▸ Heap.get?_push_of_some _ e)
  have hacc : ((H2.push ({ cls := .type "dict", data := .dict #[] } : Obj)).push (cellO none)).get? s.heap.objs.size = some (lst [] 0) := kp _ _ (hH2 ▸ Heap.get?_push_size _ rfl)
  have hns₁ : ((H2.push ({ cls := .type "dict", data := .dict #[] } : Obj)).push (cellO none)).Ns H2.objs.size (fun _ => none) := (Heap.Ns.new H2 (.type "dict")).keeps fun b o e => Heap.get?_push_of_some _ e
  have hcl : ((H2.push ({ cls := .type "dict", data := .dict #[] } : Obj)).push (cellO none)).get? (H2.objs.size + 1) = some (cellO none) := by rw [← hX]; exact Heap.get?_push_size _ rfl
  generalize (H2.push ({ cls := .type "dict", data := .dict #[] } : Obj)).push (cellO none) = h₁ at kp old hacc hns₁ hcl ⊢
  clear kp
  have hDC : s.heap.objs.size ≠ H2.objs.size := by rw [hC]; exact Nat.ne_of_lt (Nat.lt_succ_self _)
  have below : ∀ b, b < s.heap.objs.size → b ≠ H2.objs.size ∧ b ≠ s.heap.objs.size := fun b hb => ⟨by rw [hC]; exact Nat.ne_of_lt (Nat.lt_succ_of_lt hb), Nat.ne_of_lt hb⟩
  have hst₁ : T 0 h₁ := W.frame _ _ _ h0 fun b _ o e => old b o e
  have low : ∀ b ∈ wr, b < s.heap.objs.size := fun b hb => let ⟨y, e⟩ := hob _ _ h0 b hb; Heap.lt_size e
  have fr : ∀ a, s.heap.objs.size ≤ a → a ≠ L ∧ B.m a = none ∧ S a = none ∧ a ∉ M.map (·.1) := fun a ha => ⟨fun q => Nat.lt_irrefl _ (Nat.lt_of_lt_of_le st.lt (q ▸ ha)), none_of fun y e => Nat.lt_irrefl _ (Nat.lt_of_lt_of_le (Heap.lt_size (st.kb _ _ e)) ha),
    none_of fun y e => Nat.lt_irrefl _ (Nat.lt_of_lt_of_le (Heap.lt_size (st.ks _ _ e)) ha), fun q => by
      obtain ⟨p, hp, e⟩ := List.mem_map.mp q
      exact Nat.lt_irrefl _ (Nat.lt_of_lt_of_le (Heap.lt_size (st.mem p hp).1) (e ▸ ha))⟩
  have hCle : s.heap.objs.size ≤ H2.objs.size := by rw [hC]; exact Nat.le_succ _
  have hXle : s.heap.objs.size ≤ H2.objs.size + 1 := Nat.le_trans hCle (Nat.le_succ _)
  have dD := fr _ (Nat.le_refl _)
  have dC := fr _ hCle
  have dX := fr _ hXle
  have st₁ : StC c S₀ n₀ B S ((H2.objs.size + 1, cellO none) :: M) L ρ h₁ s.gens s.os := (st.kept old).addM hcl dX.1 dX.2.1 dX.2.2.1 dX.2.2.2
  have off : ∀ a, a ≠ H2.objs.size + 1 → a ∉ M.map (·.1) → a ∉ (((H2.objs.size + 1, cellO none) : Addr × Obj) :: M).map (·.1) := fun a h1 h2 q => by
    rcases List.mem_cons.mp q with q | q
    · exact h1 q
    · exact h2 q
  have loop : ∀ s₃ : Shared, s₃ = { s with heap := h₁ } →
      codeAny (model prog w) A (.compLoop (.ListComp elt [⟨.Name x px, iter, ifs, 0⟩] scope cpos) 0 (.ref I) (.ref s.heap.objs.size) (compEnvC scope ((x, H2.objs.size + 1) :: cl) H2.objs.size env)) (RR (.ref s.heap.objs.size) H2.objs.size) s₃ := by
    rintro s₃ rfl
    refine compLoopG (s := { s with heap := h₁ }) (env := compEnvC scope ((x, H2.objs.size + 1) :: cl) H2.objs.size env) (J (H2.objs.size + 1)) W hsz hfp hob (fun b hb => ⟨(hw b hb).1, (below b (low b hb)).1, (below b (low b hb)).2, (hw b hb).2.1, (hw b hb).2.2.1, off b (Nat.ne_of_lt (Nat.lt_of_lt_of_le (low b hb) hXle)) (hw b hb).2.2.2⟩) hst₁ hacc ⟨dD.1, hDC, dD.2.1, dD.2.2.1, off _ (by omega) dD.2.2.2⟩ hns₁ ⟨dC.1, dC.2.1, dC.2.2.1, off _ (by omega) dC.2.2.2⟩ (Nat.le_trans st.bigger hCle) st₁
      (j0 _) (turn _ _) ?_
    intro S' M' ys s' le hJ st' cs cD d1 d2 d3 d4 hD hC'
    refine done _ S' M' ys _ _ s' le hJ st.bigger (st'.addM hD d1 d2 d3 d4) ⟨cs.1, cs.2.1, cs.2.2.1, ?_⟩ hC'
    intro q
    rcases List.mem_cons.mp q with q | q
    · exact cD q
    · exact cs.2.2.2 q
  exact codeAny_compStart_list (loop _ rfl) (W.self 0 _ _ _ hst₁ (loop _ rfl))
theorem comp_listC {l : Addr} {lo : Obj} {vs : List Value} {px : Pos} {elt iter : Expr} {ifs : List Expr} {scope : Scope} {cl : List (Str × Addr)} {cpos : Pos} {RR : Value → Addr → Result → Shared → Prop} (J : Addr → Nat → List Value → PM → List (Addr × Obj) → Prop)
    (st : St c S₀ n₀ B S M L ρ s) (hh : A.handled = none) (hl : S l = some lo) (hlo : LO lo vs) (hsz : vs.length ≤ sizeLine) (hpc : ∀ h, pushCells h scope.names = h.push (cellO none)) (hcf : ∀ n, cellsFrom n scope.names cl = (x, n) :: cl) (hkind : scope.kind = .function) (j0 : ∀ X, J X 0 [] S ((X, cellO none) :: M))
    (turn : ∀ C X i v ys B' S' M' ρ' s', vs[i]? = some v → Le S S' → J X i ys S' M' → St c S₀ n₀ B' S' M' C ρ' s' →
      wpAny (model prog w) A (assign (.Name x px) (compEnvC scope ((x, X) :: cl) C env) v) (fun _ s₀ => wpAny (model prog w) A (tests ifs (compEnvC scope ((x, X) :: cl) C env)) (fun ok s₁ => if ok = true then wpAny (model prog w) A (eval elt (compEnvC scope ((x, X) :: cl) C env)) (fun y s₂ => CEnd c S₀ n₀ B' C (J X (i + 1) (ys ++ [y])) S' s₂) F0 s₁ else CEnd c S₀ n₀ B' C (J X (i + 1) ys) S' s₁) F0 s₀) F0 s')
    (done : ∀ X S' M' ys D C s', Le S S' → J X vs.length ys S' M' → n₀ ≤ D → St c S₀ n₀ B S' ((D, lst ys ys.length) :: M') L ρ s' → (C ≠ L ∧ B.m C = none ∧ S' C = none ∧ C ∉ ((D, lst ys ys.length) :: M').map (·.1)) → (∃ m, s'.heap.Ns C m) → RR (.ref D) C (.ok .next) s') :
    wpAny (model prog w) A (pyIter (.ref l)) (CompR prog w A env scope cl (.ListComp elt [⟨.Name x px, iter, ifs, 0⟩] scope cpos) RR) E s := by
  have hg := st.S_at hl
  have hls := hlo.is hg
  have hne : l ≠ s.heap.objs.size := Nat.ne_of_lt (Heap.lt_size hg)
  refine wpAny_pyIter_list hls ?_
  have W := Walks.list (prog := prog) (w := w) hh s.heap.objs.size l hne vs.toArray
  have hn : vs.toArray.size = vs.length := by simp
  rw [hn] at W
  refine compWC J W hsz ?_ ?_ (fun b hb => by rw [List.mem_singleton.mp hb]; exact st.freshM) ⟨⟨_, Heap.get?_push_size _ rfl, rfl, rfl⟩, hls.at fun o e => Heap.get?_push_of_some _ e⟩ hpc hcf hkind (st.pushBy _ rfl) j0 (fun C X i v ys B' S' M' ρ' s' _ hP => turn C X i v ys B' S' M' ρ' s' (by simpa using hP)) done
  · intro b hb
    rcases List.mem_cons.mp hb with e | hb
    · exact .inl (by rw [e]; exact List.mem_singleton.mpr rfl)
    · exact .inr ⟨lo, (List.mem_singleton.mp hb) ▸ hl⟩
  · rintro i h ⟨⟨o, ho, _⟩, _⟩ b hb
    rw [List.mem_singleton.mp hb]
    exact ⟨o, ho⟩
end

/-! X10 -/
theorem lk_list_keys : typeLookup (.type "list") "keys" = pure none := by rw [typeLookup_type, builtinLookup_eq_fast]; kernel_rfl
theorem lk_list_getattr : typeLookup (.type "list") "__getattr__" = pure none := by rw [typeLookup_type, builtinLookup_eq_fast]; kernel_rfl
theorem sub_attrerr : isSubtype (.type "AttributeError") (.type "AttributeError") = pure true := by rw [isSubtype_type]; kernel_rfl
section
variable {prog : Program} {w : World} {A : Around} {E : Value → Shared → Prop} {h : Heap} {g : Array GenState} {d : Drawn} {t : Nat} {os : OsState} {a : Addr} {vs : List Value} {n : Nat}
noncomputable abbrev attrO (t : Value) (x y : Value) : Obj := { cls := .type "AttributeError", data := .fields #[t, .none, .none, .none, .bool false, .none, x, y] }
theorem first_attr : ((Manifest.find? "AttributeError").elim false fun t => t.mro.contains "StopIteration" || t.mro.contains "SystemExit") = false := by decide +kernel
theorem new_attr {s : Shared} {v : Value} {Q : Value → Shared → Prop} (hq : ∀ h' e t, (∀ b o, s.heap.get? b = some o → h'.get? b = some o) → s.heap.get? e = none → h'.get? e = some (attrO t unsetMember unsetMember) → Q (.ref e) { s with heap := h' }) :
    wpAny (model prog w) A (newExc (.type "AttributeError") [v]) Q E s := by
  unfold newExc newTuple
  refine wpAny_bind (wpAny_newObj_type ?_ (by size_fits))
  refine wpAny_bind (m := firstArgMember _ _) (wpAny_of_eq (a := Value.none) (by simp only [firstArgMember, first_attr]; rfl) ?_)
  refine wpAny_newObj_type (hq _ _ (.ref s.heap.objs.size) (fun b o hb => Heap.get?_push_of_some _ (Heap.get?_push_of_some _ hb)) (Heap.get?_none_of_le (by simp)) ?_) (by size_fits)
  exact Heap.get?_push_size _ rfl
theorem keys_raise {Q : Fin → Shared → Prop} {msg : Str} (hm : msg.length ≤ sizeLine) (hx : h.get? a = some (lst vs n)) (hh : A.handled = none) (hq : ∀ h' tk e oe, (∀ b o, h.get? b = some o → h'.get? b = some o) → h'.get? e = some oe → oe.cls = .type "AttributeError" → E (.ref e) ⟨h', g, d, tk, os⟩) :
    wpAny (model prog w) A (raiseAttrError (.ref a) "keys" msg : Sem Fin) Q E ⟨h, g, d, t, os⟩ := by
  unfold raiseAttrError
  refine wpAny_bind (wpAny_mkStr ?_ hm)
  refine wpAny_bind (new_attr fun h' e t' hk hn he => ?_)
  refine wpAny_bind (wpAny_mkText ?_)
  unfold noteAttr lacksNameAndObj
  refine wpAny_bind ?_
  dsimp only
  refine wpAny_bind (wpAny_bind (wpAny_isInstance (T := "AttributeError") ⟨_, he, rfl⟩ sub_attrerr ?_))
  simp only [Bool.not_true, Bool.false_eq_true, if_false]
  refine wpAny_bind (wpAny_load he ?_)
  dsimp only
  refine wpAny_pure ?_
  refine wpAny_ite_split (fun _ => ?_) (fun q => absurd rfl q)
  refine wpAny_bind (wpAny_rule ?_)
  refine wpAny_bind (wpAny_typeOf (T := "AttributeError") ⟨_, he, rfl⟩ ?_)
  dsimp only
  unfold layMembers
  refine wpAny_bind (wpAny_load he ?_)
  dsimp only
  refine wpAny_update he ?_
  refine wpAny_raiseNew_none hh (hq _ _ e (attrO t' (.str "keys" _) (.ref a)) (fun b o e' => ?_) (Heap.get?_update_self _ he rfl) rfl)
  rw [Heap.get?_update_other _ _ (fun q => by rw [← q, hn] at e'; cases e')]
  exact hk b o e'
theorem keys_entry {tk : Tok} {Q : Fin → Shared → Prop} (hx : h.get? a = some (lst vs n)) (hh : A.handled = none) (hq : ∀ h' tk e oe, (∀ b o, h.get? b = some o → h'.get? b = some o) → h'.get? e = some oe → oe.cls = .type "AttributeError" → E (.ref e) ⟨h', g, d, tk, os⟩) :
    wpAny (model prog w) A (Builtin.«object.__getattribute__» ⟨[.ref a, .str "keys" tk], []⟩) Q E ⟨h, g, d, t, os⟩ := by
  have hT : (⟨h, g, d, t, os⟩ : Shared).TypeIs (.ref a) "list" := ⟨_, hx, rfl⟩
  have f4 := lk_list_keys
  repeat (any_goals (first | assumption | with_reducible refine keys_raise (by size_fits) hx hh hq | with_reducible refine wpAny_loadPart_at hx ?_ | wp_step))
theorem keys_call {tk : Tok} {R : Result → Shared → Prop} (hx : h.get? a = some (lst vs n)) (hh : A.handled = none) (hq : ∀ h' tk e oe, (∀ b o, h.get? b = some o → h'.get? b = some o) → h'.get? e = some oe → oe.cls = .type "AttributeError" → R (.error (.ref e)) ⟨h', g, d, tk, os⟩) :
    codeAny (model prog w) A (.call (.builtin "list.__getattribute__") ⟨[.ref a, .str "keys" tk], []⟩) R ⟨h, g, d, t, os⟩ :=
  codeAny_call_builtin PySem.F.slot_list_getattribute.plain PySem.F.entry_list_ga (PySem.F.slot_list_getattribute.check _ _ _ _ _ _ _ _ (show (⟨h, g, d, t, os⟩ : Shared).TypeIs (.ref a) "list" from ⟨_, hx, rfl⟩) (PySem.F.args_list_getattribute_2 _ _) (keys_entry hx hh hq))
theorem keys_none {Q : Option Value → Shared → Prop} (hx : h.get? a = some (lst vs n)) (hh : A.handled = none) (hq : ∀ h' tk, (∀ b o, h.get? b = some o → h'.get? b = some o) → Q none ⟨h', g, d, tk, os⟩) : wpAny (model prog w) A (getAttr? (.ref a) "keys") Q E ⟨h, g, d, t, os⟩ := by
  have hT : (⟨h, g, d, t, os⟩ : Shared).TypeIs (.ref a) "list" := ⟨_, hx, rfl⟩
  have f2 := PySem.F.slot_list_getattribute.lookup
  have f3 := PySem.F.slot_list_getattribute.bind (.ref a)
  have f4 := lk_list_getattr
  have f5 := sub_attrerr
  unfold getAttr? getAttrBy? getAttrBy getAttrByItsOwn
  repeat (any_goals (first | assumption | wp_step))
  refine keys_call hx hh fun h' tk e oe hk he hc => ?_
  have hT2 : (⟨h', g, d, tk, os⟩ : Shared).TypeIs (.ref e) "AttributeError" := ⟨_, he, hc⟩
  repeat (any_goals (first | assumption | wp_step))
  exact hq _ _ hk
end

/-! X11 -/
theorem entry_update_loop : entryFor table "dict.update.loop" = some Builtin.«dict.update.loop» := entryFor_of_tree (by kernel_rfl)
theorem plain_update_loop : plainId "dict.update.loop" = true := by decide +kernel
/-- a list of pairs, as a heap holds it -/
inductive PrsAt (h : Heap) : List Value → List (Int × Value) → Prop
  | nil : PrsAt h [] []
  | cons {p : Addr} {k : Int} {t : Tok} {x : Value} {e : Nat} {vs : List Value} {ps : List (Int × Value)} : h.get? p = some (tup [.int k t, x] e) → PrsAt h vs ps → PrsAt h (.ref p :: vs) ((k, x) :: ps)
theorem PrsAt.at {h : Heap} {vs : List Value} {ps : List (Int × Value)} (r : PrsAt h vs ps) : ∀ {i : Nat} {v : Value}, vs[i]? = some v → ∃ p k t x e, v = .ref p ∧ h.get? p = some (tup [.int k t, x] e) ∧ ps[i]? = some (k, x) := by
  induction r with
  | nil => intro i v e; simp at e
  | @cons p k t x e vs ps a _ ih =>
    intro i v q
    cases i with
    | zero => simp at q; exact ⟨p, k, t, x, e, q.symm, a, rfl⟩
    | succ i => exact ih (by simpa using q)
theorem PrsAt.len {h : Heap} {vs : List Value} {ps : List (Int × Value)} (r : PrsAt h vs ps) : vs.length = ps.length := by
  induction r with
  | nil => rfl
  | cons _ _ ih => simp [ih]
section
variable {prog : Program} {w : World} {A : Around} {E : Value → Shared → Prop} {g : Array GenState} {d : Drawn} {os : OsState} {l D I : Addr} {vs : List Value} {ps : List (Int × Value)} {n : Nat} {h₀ : Heap}
noncomputable abbrev puts (kvs ps : List (Int × Value)) : List (Int × Value) := ps.foldl (fun m p => stored m p.1 p.2) kvs
theorem update_loop {R : Result → Shared → Prop} (hh : A.handled = none) (hl : h₀.get? l = some (lst vs n)) (hps : PrsAt h₀ vs ps) (hlt : ∀ b o, h₀.get? b = some o → b ≠ D ∧ b ≠ I) (hDI : D ≠ I) (hz : vs.length ≤ 100)
    (hR : ∀ h' tk, (∀ b o, b ≠ D → b ≠ I → h₀.get? b = some o → h'.get? b = some o) → (∃ od, h'.get? D = some od ∧ DI prog w od (puts [] ps)) → R (.ok (.ret .none)) ⟨h', g, d, tk, os⟩) :
    ∀ (k i : Nat) (h : Heap) (t : Nat) (ti : Tok) (kvs : List (Int × Value)), vs.length - i = k → i ≤ vs.length → h.IsListIter I l i → (∀ b o, b ≠ D → b ≠ I → h₀.get? b = some o → h.get? b = some o) → h.DictOf (intKind prog w) D kvs → kvs.length ≤ i → puts kvs (ps.drop i) = puts [] ps →
      codeAny (model prog w) A (.builtin "dict.update.loop" ⟨[.ref D, .ref I, .int i ti, .none], []⟩) R ⟨h, g, d, t, os⟩ := by
  intro k
  induction k with
  | zero =>
    intro i h t ti kvs hk hi hit hb hd hkl hp
    have hin : i = vs.length := Nat.le_antisymm hi (Nat.le_of_sub_eq_zero hk)
    obtain ⟨hlD, hlI⟩ := hlt _ _ hl
    refine codeAny_builtin entry_update_loop ?_
    rw [Around.under_plainId plain_update_loop _]
    show wpAny _ A.in1 (pyNext (.ref I) >>= _) _ _ _
    refine wpAny_bind (wpAny_pyNext_list_end hh hit ⟨_, hb _ _ hlD hlI hl, rfl, _, rfl⟩ (by simp [hin]) fun h' hs => ?_)
    dsimp only
    repeat (any_goals (first | assumption | wp_step))
    refine hR h' t (fun b o h1 h2 e => hs b o h2 (hb b o h1 h2 e)) ?_
    obtain ⟨od, h1, h2⟩ := Heap.dictOf_iff.mp hd
    refine ⟨od, hs _ _ hDI h1, ?_⟩
    rw [← hp, List.drop_of_length_le (by rw [← hps.len, hin]; exact Nat.le_refl _)]
    exact h2
  | succ k ih =>
    intro i h t ti kvs hk hi hit hb hd hkl hp
    have hil : i < vs.length := Nat.lt_of_sub_pos (hk ▸ Nat.succ_pos _)
    obtain ⟨hlD, hlI⟩ := hlt _ _ hl
    obtain ⟨p, ky, tk, x, e, ev, hpa, hpi⟩ := hps.at (List.getElem?_eq_getElem hil)
    obtain ⟨hpD, hpI⟩ := hlt _ _ hpa
    refine codeAny_builtin entry_update_loop ?_
    rw [Around.under_plainId plain_update_loop _]
    show wpAny _ A.in1 (pyNext (.ref I) >>= _) _ _ _
    refine wpAny_bind (wpAny_pyNext_list_item hit ⟨_, hb _ _ hlD hlI hl, rfl, _, rfl⟩ (x := .ref p) (by simp [hil]; exact ev) fun h' hit' hs => ?_)
    dsimp only
    have hp' : h'.get? p = some (tup [.int ky tk, x] e) := (hs.2 p hpI).trans (hb _ _ hpD hpI hpa)
    have hT : (⟨h', g, d, t, os⟩ : Shared).TypeIs (.ref p) "tuple" := ⟨_, hp', rfl⟩
    refine wpAny_bind (wpAny_holding ?_)
    refine wpAny_bind (wpAny_tryCatch ?_)
    unfold Builtin.Dict.pairItems
    refine wpAny_bind (wpAny_typeOf hT ?_)
    refine wpAny_ite_split (fun _ => ?_) (fun q => absurd rfl q)
    refine wpAny_bind (wpAny_seqItems hp' rfl (wpAny_pure ?_))
    obtain ⟨od, h1, h2⟩ := Heap.dictOf_iff.mp hd
    have hd' : h'.DictOf (intKind prog w) D kvs := Heap.dictOf_iff.mpr ⟨od, (hs.2 D hDI).trans h1, h2⟩
    show wpAny _ _ (holding [Value.int ky tk, x] (PySem.dictSet D (Value.int ky tk) x)) _ _ _
    refine wpAny_holding (wpAny_dictSet_pairs (intKind_is prog w ky tk) hd' (fun h2 hd2 hs2 => ?_) (by rw [sizeLine_eq]; omega))
    refine wpAny_pure ⟨plainId_quiet plain_update_loop _, ?_⟩
    have e1 : (i : Int) + 1 = ((i + 1 : Nat) : Int) := rfl
    show codeAny _ A (.builtin "dict.update.loop" ⟨[.ref D, .ref I, rawInt ((i : Int) + 1), .none], []⟩) _ _
    rw [e1]
    refine ih (i + 1) h2 _ _ (stored kvs ky x) (by rw [Nat.sub_succ, hk]; rfl) hil ?_ (fun b o h1 h3 e => (hs2.2 b h1).trans ((hs.2 b h3).trans (hb b o h1 h3 e))) hd2 ?_ ?_
    · obtain ⟨oi, q1, q2, q3⟩ := hit'
      exact ⟨oi, (hs2.2 I (Ne.symm hDI)).trans q1, q2, q3⟩
    · exact Nat.le_trans (stored_length_le _ _ _) (Nat.succ_le_succ hkl)
    · rw [← hp, List.drop_eq_getElem_cons (show i < ps.length by rw [← hps.len]; exact hil)]
      have e2 : ps[i]'(by rw [← hps.len]; exact hil) = (ky, x) := (List.getElem?_eq_some_iff.mp hpi).2
      rw [e2]; rfl
end
section
variable {prog : Program} {w : World} {A : Around} {E : Value → Shared → Prop} {s : Shared} {c : Cx} {B : Kp} {S₀ S S' : PM} {n₀ : Nat} {M M' : List (Addr × Obj)} {L : Addr} {ρ ρ' : Str → Option Value} {env : Env}
theorem dictOfPairs {l : Addr} {vs : List Value} {ps : List (Int × Value)} {n : Nat} {Q : Value → Shared → Prop} (st : St c S₀ n₀ B S M L ρ s) (hh : A.handled = none) (hl : s.heap.get? l = some (lst vs n)) (hps : PrsAt s.heap vs ps) (hz : vs.length ≤ 100)
    (h : ∀ a o s', n₀ ≤ a → (a == sysModules) = false → DI prog w o (puts [] ps) → St c S₀ n₀ B S ((a, o) :: M) L ρ s' → Q (.ref a) s') : wpAny (model prog w) A (call (.type "dict") [.ref l]) Q E s := by
  refine callType_codes (Q₁ := fun obj s₁ => obj = .ref s.heap.objs.size ∧ s₁ = { s with heap := s.heap.push { cls := .type "dict", data := .dict #[] } }) PySem.F.kt_called_dict (PySem.F.kt_typeCall_dict_1 _) PySem.F.entry_dict_init (kt_code_dict_new _ ⟨rfl, rfl⟩) ?_
  rintro obj s₁ ⟨rfl, rfl⟩
  have hnew : (s.heap.push { cls := .type "dict", data := .dict #[] }).DictOf (intKind prog w) s.heap.objs.size [] := Heap.DictOf.new s.heap
  have hl1 : (s.heap.push { cls := .type "dict", data := .dict #[] }).get? l = some (lst vs n) := Heap.get?_push_of_some _ hl
  refine ⟨hnew.typeIs, PySem.F.args_dict_init_2 _ _, ?_⟩
  unfold Builtin.«dict.__init__»
  refine wpAny_bind ?_
  unfold Builtin.Dict.selfAndRest
  refine wpAny_bind (wpAny_notOrdered_dict hnew.typeIs ?_)
  show wpAny _ _ (pure (s.heap.objs.size, [Value.ref l])) _ _ _
  refine wpAny_pure ?_
  show wpAny _ _ (Builtin.Dict.updateFrom "dict.__init__" s.heap.objs.size (.ref l) [] .none) _ _ _
  unfold Builtin.Dict.updateFrom
  refine wpAny_bind (wpAny_typeOf (T := "list") ⟨_, hl1, rfl⟩ ?_)
  refine wpAny_ite_split (fun _ => ?_) (fun q => absurd rfl q)
  obtain ⟨hp, gs, dr, tk, os⟩ := s
  refine wpAny_bind (keys_none hl1 hh fun h2 tk2 hk2 => ?_)
  refine wpAny_ite_split (fun _ => ?_) (fun q => absurd rfl q)
  refine wpAny_bind (wpAny_rule ?_)
  have hl2 := hk2 _ _ hl1
  refine wpAny_bind (wpAny_pyIter_list ⟨_, hl2, rfl, _, rfl⟩ ?_)
  refine wpAny_pure ⟨plainId_quiet plain_update_loop _, ?_⟩
  dsimp only at hl hl1 hnew hk2 hl2 hps ⊢
  have kp : ∀ b o, hp.get? b = some o → h2.get? b = some o := fun b o e => hk2 b o (Heap.get?_push_of_some _ e)
  obtain ⟨oD, hoD, hD⟩ := Heap.dictOf_iff.mp hnew
  have hD2 := hk2 _ _ hoD
  have hDI : hp.objs.size ≠ h2.objs.size := Nat.ne_of_lt (Heap.lt_size hD2)
  show codeAny _ _ (.builtin "dict.update.loop" ⟨[.ref hp.objs.size, .ref h2.objs.size, .int ((0 : Nat) : Int) 0, .none], []⟩) _ ⟨h2.push _, gs, dr, tk2, os⟩
  refine update_loop (A := A.in1) (h₀ := hp) (D := hp.objs.size) (I := h2.objs.size) hh hl hps (fun b o e => ⟨Nat.ne_of_lt (Heap.lt_size e), Nat.ne_of_lt (Heap.lt_size (kp b o e))⟩) hDI hz (fun h' tk hb hd => ?_) vs.length 0 _ tk2 _ [] (by simp) (Nat.zero_le _) ⟨{ cls := .type "list_iterator", data := .fields #[.ref l, .int 0 0] }, Heap.get?_push_size _ rfl, rfl, rfl⟩ (fun b o _ _ e => Heap.get?_push_of_some _ (kp b o e)) (Heap.dictOf_iff.mpr ⟨oD, Heap.get?_push_of_some _ hD2, hD⟩) (Nat.zero_le _) rfl
  obtain ⟨od, h1, h3⟩ := hd
  exact ⟨rfl, h _ od _ st.bigger st.notMod h3 (StC.keptNewM st (fun b x e => hb b x (Nat.ne_of_lt (Heap.lt_size e)) (Nat.ne_of_lt (Heap.lt_size (kp b x e))) e) h1 (Nat.le_refl _))⟩
end

/-! E2 -/
section
open PySem.SeqAt
/-! lists of dicts that are compared -/
theorem pairs_any {prog prog' : Program} {w w' : World} {es : List DictEntry} {kvs : List (Int × Value)} (p : Pairs (intKind prog w) es kvs) : Pairs (intKind prog' w') es kvs := by
  induction p with
  | nil => exact .nil
  | cons a b _ ih => exact .cons a b ih
theorem DI.any {prog prog' : Program} {w w' : World} {o : Obj} {kvs : List (Int × Value)} (d : DI prog w o kvs) : DI prog' w' o kvs := by
  obtain ⟨es, ep, h1, h2, h3, h4, h5⟩ := d
  exact ⟨es, ep, h1, h2, h3, pairs_any h4, h5⟩
theorem hits_of {A : Around} {s : Shared} {kb : List (Int × Value)} {mm : List (Int × Int)} (hb : KI kb mm) {ka : List (Int × Value)} {m : List (Int × Int)} (ha : KI ka m) (h : ∀ p ∈ m, atI mm p.1 = some p.2) : KeqHits A s kb ka true := by
  induction ha with
  | nil => exact .nil
  | @cons k v t kvs m _ ih =>
    obtain ⟨u, hu⟩ := hb.has (h _ (.head _))
    have e : EqAt A s (.int v t) (.int v u) true := by
      have := EqAt.int_int (A := A) (s := s) v t v u
      rwa [show (v == v) = true from beq_self_eq_true v] at this
    exact KeqHits.hit (e := true) (b := true) hu e (ih fun p hp => h p (.tail _ hp))
theorem atI_nd : ∀ {m : List (Int × Int)}, (m.map (·.1)).Nodup → ∀ p ∈ m, atI m p.1 = some p.2
  | [], _, p, hp => nomatch hp
  | (k, v) :: m, nd, p, hp => by
    rw [List.map_cons, List.nodup_cons] at nd
    rw [atI_cons]
    rcases List.mem_cons.mp hp with rfl | hp
    · rw [if_pos rfl]
    · rw [if_neg (fun q => nd.1 (by rw [q]; exact List.mem_map_of_mem (f := (·.1)) hp))]
      exact atI_nd nd.2 p hp
theorem dicts_at {A : Around} {s : Shared} {prog : Program} {w : World} {a b : Addr} {oa ob : Obj} {ka kb : List (Int × Value)} {m : List (Int × Int)} (ga : s.heap.get? a = some oa) (gb : s.heap.get? b = some ob) (da : DI prog w oa ka) (db : DI prog w ob kb) (ia : KI ka m) (ib : KI kb m)
    (ha : (a == sysModules) = false) (hb : (b == sysModules) = false) (hu : A.units < cLine) : EqAt A s (.ref a) (.ref b) true := by
  by_cases q : a = b
  · subst q; exact EqAt.same _
  · refine EqAt.of_refs q fun prog' w' E Q hq => ?_
    have nd : (m.map (·.1)).Nodup := by
      obtain ⟨_, _, _, _, _, _, h5⟩ := id da
      rw [← ia.keys]; exact h5
    refine keq_eq (prog := prog') (w := w') (knd := intKind prog' w') (r := true) ha hb (Heap.dictOf_iff.mpr ⟨oa, ga, da.any⟩) (Heap.dictOf_iff.mpr ⟨ob, gb, db.any⟩) hu (fun _ => hits_of ib ia (atI_nd nd)) ?_
    rw [ia.len, ib.len, beq_self_eq_true]
    exact hq
section
variable {prog : Program} {w : World} {A : Around} {E : Value → Shared → Prop} {s : Shared} {Q : Value → Shared → Prop}
theorem DictsAt.item {S : PM} {vs : List Value} {ms : List (List (Int × Int))} (r : DictsAt prog w S vs ms) : ∀ {i : Nat} (h : i < vs.length), ∃ a o kvs m, vs[i] = .ref a ∧ S a = some o ∧ DI prog w o kvs ∧ KI kvs m ∧ (a == sysModules) = false ∧ ms[i]? = some m := by
  induction r with
  | nil => intro i h; simp at h
  | @cons a o kvs vs m ms h1 h2 h3 h4 _ ih =>
    intro i h
    cases i with
    | zero => exact ⟨a, o, kvs, m, rfl, h1, h2, h3, h4, rfl⟩
    | succ i =>
      obtain ⟨a', o', kvs', m', q1, q2, q3, q4, q5, q6⟩ := ih (i := i) (by simpa using h)
      exact ⟨a', o', kvs', m', by simpa using q1, q2, q3, q4, q5, by simpa using q6⟩
theorem neDicts {S : PM} {l b : Addr} {vs us : List Value} {n1 n2 : Nat} {ms : List (List (Int × Int))} (gl : s.heap.get? l = some (lst vs n1)) (gb : s.heap.get? b = some (lst us n2)) (ra : DictsAt prog w S vs ms) (rb : DictsAt prog w S us ms) (hks : ∀ a o, S a = some o → s.heap.get? a = some o) (hu : A.units + 1 < cLine)
    (h : Q (.bool false) s) : wpAny (model prog w) A (compareOp .NotEq (.ref l) (.ref b)) Q E s := by
  have hsz : vs.toArray.size = us.toArray.size := by simp [ra.len, rb.len]
  refine RcNeAt.lists (e := fun _ => true) ⟨_, gl, rfl, _, rfl⟩ ⟨_, gb, rfl, _, rfl⟩ hsz (by omega) (fun j h1 h2 => ?_) prog w E Q ?_
  · obtain ⟨a, oa, ka, m, q1, q2, q3, q4, q5, q6⟩ := ra.item (i := j) (by simpa using h1)
    obtain ⟨c, oc, kc, m', p1, p2, p3, p4, p5, p6⟩ := rb.item (i := j) (by simpa using h2)
    rw [q6] at p6
    injection p6 with p6
    subst p6
    have e1 : vs.toArray[j] = .ref a := by simpa using q1
    have e2 : us.toArray[j] = .ref c := by simpa using p1
    rw [e1, e2]
    exact dicts_at (hks _ _ q2) (hks _ _ p2) q3 p3 q4 p4 q5 p5 hu
  · have : (!(List.range vs.toArray.size).all fun _ => true) = false := by simp
    rw [this]; exact h
end
theorem KI.puts {ps : List (Int × Value)} {m : List (Int × Int)} (h : KI ps m) : ∀ {kvs : List (Int × Value)} {mm : List (Int × Int)}, KI kvs mm → KI (puts kvs ps) (m.foldl (fun m p => putI m p.1 p.2) mm) := by
  induction h with
  | nil => intro kvs mm h; exact h
  | @cons k v t kvs' m _ ih =>
    intro kvs mm h
    exact ih (h.put k v t)
theorem mv_copyF : ∀ b : Fin 256, copyOf ((movesOf ((b.val : Nat) : Int)).filter fun q => decide (6 < q.1)) = (movesOf ((b.val : Nat) : Int)).filter fun q => decide (6 < q.1) := by decide +kernel
theorem mv_ndk : ∀ b : Fin 256, ((movesOf ((b.val : Nat) : Int)).map (·.1)).Nodup := by decide +kernel
theorem PLk.copyF {p : PL} (h : PLk p) : copyOf (p.mv.filter fun q => decide (6 < q.1)) = p.mv.filter fun q => decide (6 < q.1) := by
  obtain ⟨b, h0, h1, e⟩ := h.mv
  rw [e]; exact byFin (P := fun b => copyOf ((movesOf b).filter fun q => decide (6 < q.1)) = (movesOf b).filter fun q => decide (6 < q.1)) mv_copyF h0 h1
theorem PLk.ndk {p : PL} (h : PLk p) : (p.mv.map (·.1)).Nodup := by
  obtain ⟨b, h0, h1, e⟩ := h.mv
  rw [e]; exact byFin (P := fun b => ((movesOf b).map (·.1)).Nodup) mv_ndk h0 h1
/-- a list of pairs, told by facts -/
inductive PrsS (S : PM) : List Value → List (Int × Value) → Prop
  | nil : PrsS S [] []
  | cons {p : Addr} {k : Int} {t : Tok} {x : Value} {e : Nat} {vs : List Value} {ps : List (Int × Value)} : S p = some (tup [.int k t, x] e) → PrsS S vs ps → PrsS S (.ref p :: vs) ((k, x) :: ps)
theorem PrsS.mono {S S' : PM} {vs : List Value} {ps : List (Int × Value)} (h : PrsS S vs ps) (l : Le S S') : PrsS S' vs ps := by
  induction h with
  | nil => exact .nil
  | cons a _ ih => exact .cons (l _ _ a) ih
theorem PrsS.snoc {S : PM} {vs : List Value} {ps : List (Int × Value)} {p : Addr} {k : Int} {t : Tok} {x : Value} {e : Nat} (h : PrsS S vs ps) (a : S p = some (tup [.int k t, x] e)) : PrsS S (vs ++ [.ref p]) (ps ++ [(k, x)]) := by
  induction h with
  | nil => exact .cons a .nil
  | cons b _ ih => exact .cons b ih
theorem PrsS.heap {S : PM} {h : Heap} {vs : List Value} {ps : List (Int × Value)} (r : PrsS S vs ps) (hks : ∀ a o, S a = some o → h.get? a = some o) : PrsAt h vs ps := by
  induction r with
  | nil => exact .nil
  | cons a _ ih => exact .cons (hks _ _ a) ih
theorem PrsS.len {S : PM} {vs : List Value} {ps : List (Int × Value)} (r : PrsS S vs ps) : vs.length = ps.length := by
  induction r with
  | nil => rfl
  | cons _ _ ih => simp [ih]
theorem KI.filt {kvs : List (Int × Value)} {m : List (Int × Int)} (h : KI kvs m) : KI (kvs.filter fun q => decide (6 < q.1)) (m.filter fun q => decide (6 < q.1)) := by
  induction h with
  | nil => exact .nil
  | @cons k v t kvs m _ ih =>
    rw [List.filter_cons, List.filter_cons]
    dsimp only
    split
    · exact .cons ih
    · exact ih

end

/-! X12 -/
section
variable {prog : Program} {w : World} {A : Around} {E : Value → Shared → Prop} {s : Shared} {env : Env}
variable {nm q : Str} {C N : Addr} {bs bm : List Value} {hdct : Bool} {sn : List Str} {sub : List Value} {ab : Bool} {col : Option Bool} {dd : Option Addr} {k0 k1 k2 k3 k5 : Option Value} {newId : String}
/-- a clause that names an own class, and a name -/
theorem handleAs {e : Addr} {t : PySem.Expr} {n : Str} {b₀ : Stmt} {suite : List Stmt} {pos : Pos} {rest : List ExceptHandler} {Q : Flow → Shared → Prop} (hbase : bm.contains (.type "BaseException") = true)
    (h : wpAny (model prog w) (A.mark (some (.ref e))) (eval t env) (fun c s₁ => c = .ref C ∧ s₁.heap.get? C = some (excClassObj nm q C N bs bm hdct sn sub ab col dd k0 k1 k2 k3 k5 newId) ∧ (∃ oe, s₁.heap.get? e = some oe ∧ oe.cls = .ref C) ∧
      wpAny (model prog w) (A.mark (some (.ref e))) (setFlight (.ref e) none) (fun _ s₂ =>
          wpAny (model prog w) (A.mark (some (.ref e))) (storeName env n (.ref e)) (fun _ s₃ =>
            wpAny (model prog w) (A.mark (some (.ref e))) (execs (b₀ :: suite) env)
              (fun f s₄ => wpAny (model prog w) A (do bindName env n .none; unbindBehindTheSuite env n pos) (fun _ s₅ => Q f s₅) E s₄)
              (AsSuiteRaised (model prog w) (A.mark (some (.ref e))) env n pos (notedBy (model prog w) (A.mark (some (.ref e))) env (cameBackBy (model prog w) A env E))) s₃) (notedBy (model prog w) (A.mark (some (.ref e))) env (cameBackBy (model prog w) A env E)) s₂) (notedBy (model prog w) (A.mark (some (.ref e))) env (cameBackBy (model prog w) A env E)) s₁) (notedBy (model prog w) (A.mark (some (.ref e))) env (cameBackBy (model prog w) A env E)) s) :
    wpAny (model prog w) A (handleBy (.ref e) env (.ExceptHandler (some t) (some n) (b₀ :: suite) pos :: rest)) Q E s := by
  refine wpAny_handleBy_cons (codeAny_handlers_test (wpAny_mono h (fun c s₁ h₁ => ?_) fun _ _ y => y)) (by intro q; cases q)
  obtain ⟨rfl, hC, ⟨oe, he, hcls⟩, hk⟩ := h₁
  obtain ⟨hh, g, d, tk, os⟩ := s₁
  exact wpAny_excMatches_sub_self hC he hcls hbase (codeAny_handlers_suite_as hk)
end
section
variable {prog : Program} {w : World} {A : Around} {E : Value → Shared → Prop} {s : Shared} {c : Cx} {B : Kp} {S₀ S : PM} {n₀ : Nat} {M : List (Addr × Obj)} {L : Addr} {ρ : Str → Option Value} {env : Env}
theorem exAttr {e C dx N : Addr} {nm q : Str} {bs bm : List Value} {hdct : Bool} {sn : List Str} {sub : List Value} {ab : Bool} {col : Option Bool} {dd : Option Addr} {k0 k1 k2 k3 k5 : Option Value} {newId : String} {oe : Obj} {vs : Array Value} {es : List DictEntry} {n : Nat} {xs : List (Str × Value)} {name : Str} {v : Value} {a : Option Value} {expr : Bool} {Q : Value → Shared → Prop} (st : St c S₀ n₀ B S M L ρ s) (he : s.heap.get? e = some oe) (hc : oe.cls = .ref C) (hd : oe.data = .fields vs) (hdx : oe.dict = some dx) (h2 : S dx = some (dictOf es n)) (en : EntsAre es xs) (hl : alook name xs = some v)
    (hC : S C = some (excClassObj nm q C N bs bm hdct sn sub ab col dd k0 k1 k2 k3 k5 newId)) (hB : bm.contains (.type "BaseException") = true) (hga : findIn c.K (.ref C) "__getattribute__" = some (some (.builtin "BaseException.__getattribute__"))) (hgn : findIn c.K (.ref C) "__getattr__" = some none)
    (hh : hasDictIn c.K C = true) (ha : findIn c.K (.ref C) name = some a) (hn : noGet c.K a = true) (hv : handedIn v = true) (h : Q v { s with toks := s.toks + 1 }) :
    wpAny (model prog w) A (getAttr (.ref e) name expr) Q E s := by
  have I : InstAt s.heap e oe C (some (dictOf es n)) := ⟨he, hc, by unfold notCls; rw [hd], by rw [hdx]; exact st.ks _ _ h2⟩
  have X := st.K
  have hf := findObj_own hh ha hn ((lookIn_dict name es n).trans (by rw [en.get, hl]))
  have hC' := st.ks _ _ hC
  have hcB : (Value.ref C :: bm).contains (.type "BaseException") = true := by rw [List.contains_cons, hB, Bool.or_true]
  have hk : builtinKind "BaseException.__getattribute__" = some .slot := by decide +kernel
  have hsplit : splitId "BaseException.__getattribute__" = some ("BaseException", "__getattribute__") := by decide +kernel
  have hx0 : (expr && onTheHeap (Value.builtin "BaseException.__getattribute__")) = false := by cases expr <;> rfl
  have hx2 : (Value.builtin "BaseException.__getattribute__" == Value.builtin "object.__getattribute__") = false := by decide +kernel
  have hx1 : (onTheHeap (Value.ref C) && Value.builtin "BaseException.__getattribute__" == Value.builtin "object.__getattribute__") = false := by rw [hx2]; rfl
  have f3 := PySem.F.attrBase_Exception.ga.bind (.ref e)
  obtain ⟨hp, g, d, t, os⟩ := s
  have L0 := I.type (M := model prog w)
  have L1 := looks_findIn (M := model prog w) X hga
  have L2 := looks_findIn (M := model prog w) X hgn
  have L3 := looks_find (M := model prog w) X I hf
  unfold getAttr getAttrBy
  refine wpAny_bind (wpAny_mkText (wpAny_holding (wpAny_bind (L0.at (wpAny_bind (L1.at ?_))))))
  dsimp only
  rw [hx1]
  simp only [Bool.false_eq_true, if_false]
  unfold getAttrByItsOwn hookBefore
  refine wpAny_bind ?_
  show wpAny _ _ (typeLookup (.ref C) "__getattr__") _ _ _
  refine L2.at ?_
  refine wpAny_bind (wpAny_attempt (wpAny_holding ?_))
  unfold callGetattribute
  rw [hx0]
  simp only [Bool.false_eq_true, if_false]
  unfold boundAndCalled
  rw [f3]
  refine wpAny_bind (wpAny_pure ?_)
  have ha2 := PySem.F.args_bexc_ga (.ref e) (.str name t)
  refine wpAny_call (codeAny_call_builtin PySem.F.attrBase_Exception.ga.plain PySem.F.entry_bexc_ga ?_)
  show wpAny _ _ (checkBuiltinCall "BaseException.__getattribute__" ⟨[.ref e, .str name t], []⟩) _ _ _
  simp only [checkBuiltinCall, hk, hsplit]
  refine wpAny_bind ?_
  unfold isInstance
  repeat (first | with_reducible refine L3.at ?_ | (with_reducible refine wpAny_loadPart_at he ?_; rw [hc]) | (with_reducible refine wpAny_isSubtype_exc hC' ?_; rw [hcB]) | wp_step)
  show wpAny _ _ (handedOut v) _ _ _
  rw [handedOut_of hv]
  exact wpAny_pure h
/-- the name of a clause goes -/
theorem nameGoes {n : Str} {pos : Pos} {Q : Unit → Shared → Prop} (st : St c S₀ n₀ B S M L ρ s) (hL : env.locals = L) (hl : env.kindOf n = some .local) (hk : env.scope.kind = .function) (h : ∀ v s', St c S₀ n₀ B S M L (fun y => if y = n then v else ρ y) s' → Q () s') :
    wpAny (model prog w) A (do bindName env n .none; unbindBehindTheSuite env n pos) Q E s := by
  refine wpAny_nameGoes_keeps hl (hL ▸ st.ns) (by rw [hk]; rfl) fun h' v hn hs => h v _ ?_
  rw [hL] at hn hs
  exact st.names hn hs
end

/-! L12 -/

theorem words_L12 : True := by
  k_with "getMethod ref" => (k_dflt (refine' method ?k1 ?k2 ?k3 ?k4 ?k5 ?k6 ?_; (case k1 => assumption); (case k2 => walk_at "inst"); (case k3 => with_reducible assumption); (case k4 => walk_at "is"); (case k5 => walk_at "is"); (case k6 => walk_at "is")))
  trivial


/-! CLaw -/
noncomputable def heldOf (ns : List Int) (k : Int) : List Int := ([1, 2, 3, 4] : List Int).filter fun r => tb (lawAt ns k 16) (r - 1).toNat
noncomputable def planAt (ns : List Int) (i : Nat) : PL := ⟨movesOf (lawAt ns (14 + 6 * i + 5) 256), heldOf ns (14 + 6 * i), looksOf ns (14 + 6 * i + 1)⟩
noncomputable def nOf (ns : List Int) : Nat := (1 + lawAt ns 12 3).toNat
noncomputable def planOf (ns : List Int) : List PL := (List.range (nOf ns)).map (planAt ns)
noncomputable def wantsOf (ns : List Int) : Bool := lawAt ns 13 2 == 0
noncomputable def planTo (ns : List Int) (i : Nat) : List PL := (List.range i).map (planAt ns)
theorem held_in {ns : List Int} {k r : Int} (h : r ∈ heldOf ns k) : 1 ≤ r ∧ r ≤ 4 := by
  have := (List.mem_filter.mp h).1
  exact (by decide : ∀ r ∈ ([1, 2, 3, 4] : List Int), 1 ≤ r ∧ r ≤ 4) r this
theorem plan_ok {ns : List Int} {i : Nat} : PLk (planAt ns i) := by
  have hb := lawAt_bound ns (14 + 6 * i + 5) (m := 256) (by decide)
  refine ⟨⟨_, hb.1, hb.2, rfl⟩, List.Pairwise.filter _ (by decide), ?_, ?_, fun r hr => held_in hr, rfl, fun x hx => ?_⟩
  · exact byFin (P := fun b => (movesOf b).length ≤ 20) mv_len hb.1 hb.2
  · exact List.length_filter_le _ _
  · obtain ⟨s, _, rfl⟩ := List.mem_map.mp hx
    have := lawAt_bound ns (14 + 6 * i + 1 + (s : Int)) (m := 128) (by decide)
    exact ⟨this.1, this.2⟩
theorem plan_all {ns : List Int} : ∀ p ∈ planTo ns (nOf ns), PLk p := fun p hp => by
  obtain ⟨i, _, rfl⟩ := List.mem_map.mp hp
  exact plan_ok
theorem lev_ok {ns : List Int} : LevOk (levOf ns) := fun t n sd h => by
  unfold levOf levTo levAt at h
  split at h
  · split at h
    · have hb := lawAt_bound ns (t - 3) (m := 3) (by decide)
      injection h with h
      injection h with h1 h2
      subst h1 h2
      refine ⟨?_, by omega, by omega⟩
      unfold sideOf
      split
      · exact .inl rfl
      · split
        · exact .inr (.inl rfl)
        · split
          · exact .inr (.inr (.inl rfl))
          · exact .inr (.inr (.inr rfl))
    · cases h
  · cases h
theorem lev_dom {ns : List Int} : ∀ t, t < 3 → levOf ns t = none := fun t ht => by
  unfold levOf levTo
  rw [if_neg (by omega)]
theorem left_few {lev : Lev} {lof : Nat → Int} {plan : List PL} (hok : ∀ p ∈ plan, PLOk p) (hpl : plan.length ≤ 3) : (dueLefts lev lof plan plan.length).length ≤ 84 := by
  have one : ∀ k, k < plan.length → (dueLeft lev lof (dueAt plan k) k 7).length ≤ 28 := fun k hk => by
    have cell : ∀ t : Nat, (leftOf (k : Int) (t : Int) (cellOf lev lof (dueAt plan k) k t)).length ≤ 4 := fun t =>
      Nat.le_trans leftOf_len (Nat.le_trans metOf_len.2 (Nat.le_trans (List.length_filter_le _ _) (hok _ (dueAt_mem hk)).hl))
    have key : ∀ l : List Nat, (l.flatMap fun (t : Nat) => leftOf (k : Int) (t : Int) (cellOf lev lof (dueAt plan k) k t)).length ≤ 4 * l.length := by
      intro l
      induction l with
      | nil => exact Nat.le_refl _
      | cons t l ih => rw [List.flatMap_cons, List.length_append, List.length_cons, Nat.mul_succ, Nat.add_comm]; exact Nat.add_le_add ih (cell t)
    exact key _
  have key : ∀ n, n ≤ plan.length → (dueLefts lev lof plan n).length ≤ 28 * n := by
    intro n
    induction n with
    | zero => intro _; exact Nat.le_refl _
    | succ n ih =>
      intro hn
      unfold dueLefts at ih ⊢
      rw [List.range_succ, List.flatMap_append, List.length_append, List.flatMap_cons, List.flatMap_nil, List.append_nil]
      rw [Nat.mul_succ]
      exact Nat.add_le_add (ih (Nat.le_of_succ_le hn)) (one n hn)
  exact Nat.le_trans (key _ (Nat.le_refl _)) (Nat.mul_le_mul_left 28 hpl)
noncomputable def dueB (ex : Option Int) (cs : List Cf) : Bool := match ex with | none => true | some wd => decide ((cs.length : Int) = srCount cs) && decide ((srCount cs : Int) = wd)
theorem dueB_iff {ex : Option Int} {cs : List Cf} : dueB ex cs = true ↔ IsDue ex cs := by
  have := sr_le cs
  unfold dueB IsDue
  cases ex with
  | none => simp
  | some wd =>
    try dsimp only
    rw [Bool.and_eq_true, decide_eq_true_eq, decide_eq_true_eq]
    have h2 : ((srCount cs : Nat) : Int) ≤ cs.length := Int.ofNat_le.mpr this
    exact and_congr_left fun _ => ⟨fun e => by rw [e, Int.sub_self]; exact Int.lt_irrefl 0, fun e => Int.le_antisymm (Int.le_of_sub_nonpos (Int.not_lt.mp e)) h2⟩
noncomputable def heardOf (ex : Option Int) (cs : List Cf) : Str := match ex with | none => "let" | some wd => if dueB (some wd) cs = true then "let" else msgOf wd cs
theorem heard_let {ex : Option Int} {cs : List Cf} (h : dueB ex cs = true) : heardOf ex cs = "let" := by
  unfold heardOf
  cases ex with
  | none => rfl
  | some wd => exact if_pos h
theorem heard_not {wd : Int} {cs : List Cf} (h : ¬ IsDue (some wd) cs) : heardOf (some wd) cs = msgOf wd cs := if_neg fun q => h (dueB_iff.mp q)
theorem ex_few {ns : List Int} : ∀ i, exOf ns = some i → 0 ≤ i ∧ i < 10 := fun i h => by
  have hb := lawAt_bound ns 10 (m := 6) (by decide)
  unfold exOf at h
  split at h
  · cases h
  · injection h with h
    omega
theorem plan_len {ns : List Int} {n : Nat} : (planTo ns n).length = n := by unfold planTo; simp
section
variable {w : World} {G : Heap} {g : Array GenState} {o : OsState} {A : Around} {E : Value → Shared → Prop} {s : Shared} {S : PM}
theorem c_law {Q : Value → Shared → Prop} {l : Addr} {vs : List Value} {ns : List Int} (P : Pre (cx w G g o) S s) (hA : Rm A 12) (hfr : A.frames = some []) (hl : ∃ lo, S l = some lo ∧ LO lo vs) (hi : IntsAre vs ns) (hn : ns.length ≤ 63)
   (hQ : ∀ S' s', Post (cx w G g o) [] S s S' s' → Q (.bool true) s') : wpAny (model pg w) A (call (.ref 587) [.ref l]) Q E s := by
  refine call_ret ?_
  refine' enterCF (binds := [("script", Value.ref l)]) (cells := fun L => [("k", L + 2), ("script", L + 1)]) P hA ?ho ?hcd ?hbind ?hcs ?hkind ?hnd ?hco ?hgen ?hk ?_
  case ho => walk_at "is"
  case hcd => walk_at "is"
  case hbind => exact BindsTo.of_eq rfl
  case hcs => intro n; rfl
  case hkind => intro n x hx; exact kindsC (by repeat' (first | exact trivial | refine And.intro (by first | exact .inl rfl | exact .inr ⟨rfl, rfl⟩) ?_)) x hx
  case hnd => decide
  case hco => rfl
  case hgen => rfl
  case hk => rfl
  intro A' L n₀ B s' cs hA' hfr' hcs st' fin
  rw [hfr] at hfr'
  obtain ⟨ok, os, rfl, hok, hos⟩ := hcs.two
  have hok' : ok.data = .cell none := hok
  have hos' : os.data = .cell (some (.ref l)) := hos
  clear hok hos hcs
  obtain ⟨lo, hl, hlo⟩ := hl
  walk_at "go"
  (rename StC _ _ _ _ _ _ _ _ _ _ _ => st1)
  refine c_lgram (St.pre st1) (Rm.le hA' (by decide)) ⟨_, hl, hlo⟩ hi hn fun gx S2 s2 P2 hg hnm => ?_
  have st2 := StC.call st1 P2
  have le2 := P2.le
  clear st1 P2
  walk_at "go"
  refine for_in ?_ (fun _ => rfl)
  walk_at "go"
  (rename StC _ _ _ _ _ _ _ _ _ _ _ => st4)
  rename_i S3 _ _ le3 _ _ _ pa _ hpa _ _ _ _ _ _ _ S4 _ _ le4 ra _ _ _ s4 hr4
  have hb12 := lawAt_bound ns 12 (m := 3) (by decide)
  have hn3 : nOf ns ≤ 3 := by unfold nOf; omega
  have en : 1 + lawAt ns 12 3 = (nOf ns : Int) := by unfold nOf; omega
  rw [en] at hr4
  have hrf := range_fits hn3
  have le04 : Le S S4 := le2.trans (le3.trans le4)
  have hl4 := le04 _ _ hl
  let J1 : Nat → PM → List (Addr × Obj) → (Str → Option Value) → Prop := fun i S' M ρ => ∀ GG : Prop, (Le S4 S' → ρ "grammar" = some (.ref gx) → ρ "wants" = some (.bool (wantsOf ns)) → ρ "plan" = some (.ref pa) → ∀ pvs pn ok vk, M = [(pa, lst pvs pn), (L + 2, ok), (L + 1, os)] → ok.data = .cell vk → pvs.length = i → (∀ (k : Nat) p, (planTo ns i)[k]? = some p → ∃ a, pvs[k]? = some (.ref a) ∧ PItem pg w S' a p) → GG) → GG
  refine loop_range (n := nOf ns) J1 st4 hA'.hh hr4 hrf.1 hrf.2 rfl rfl rfl
    (fun _ kk => kk (Le.refl _) rfl rfl rfl [] 0 ok none rfl hok' rfl (fun k p q => by simp [planTo] at q)) ?_ ?_
  · clear st4 hok' hb12 en hrf
    intro i t0 B2 S5 M5 ρ5 s5 hi5 le5 hJ st5
    refine hJ _ ?_
    clear hJ
    rintro le6 r1 r2 r3 pvs pn ok vk eM hok hpl hpi
    subst eM
    have hl5 := le6 _ _ hl4
    walk_at "go"
    (rename StC _ _ _ _ _ _ _ _ _ _ _ => st6)
    obtain ⟨ok6, tk6, hok6, st7⟩ : ∃ (ok6 : Obj) (tk6 : Tok), ok6.data = .cell (some (.int (14 + 6 * (i : Int)) tk6)) ∧ St (cx w G g o) S n₀ B2 S5 [(pa, lst pvs pn), (L + 2, ok6), (L + 1, os)] L (up ρ5 "number" (.int i t0)) _ := ⟨_, _, rfl, st6⟩
    clear st6
    refine comp_to (cl := [("script", L + 1), ("k", L + 2)]) ?sw ?clos ?kd ?nm ?_
    case sw => with_unfolding_all rfl
    case clos => with_unfolding_all rfl
    case kd => rfl
    case nm => decide
    walk_at "go"
    rename_i u1 _ u2 _ u3 _ u4 _ ta S6 s7 le7 hta st8
    have hvi : IntsAre [Value.int 1 u1, Value.int 2 u2, Value.int 3 u3, Value.int 4 u4] [1, 2, 3, 4] := .cons _ _ (.cons _ _ (.cons _ _ (.cons _ _ .nil)))
    generalize [Value.int 1 u1, Value.int 2 u2, Value.int 3 u3, Value.int 4 u4] = vvs at hta hvi
    have hl6 := le7 _ _ hl5
    let J2 : Nat → List Value → PM → List (Addr × Obj) → Prop := fun k ys S' M => ∀ GG : Prop, (Le S6 S' → M = [(pa, lst pvs pn), (L + 2, ok6), (L + 1, os)] → IntsAre ys ((([1, 2, 3, 4] : List Int).take k).filter fun r => tb (lawAt ns (14 + 6 * i) 16) (r - 1).toNat) → GG) → GG
    refine comp_tup (lo := tup vvs 0) (vs := vvs) J2 st8 hA'.hh hta (TO.tup _ _) (by rw [hvi.length, sizeLine_eq]; decide) (by decide) rfl rfl (fun _ kk => kk (Le.refl _) rfl .nil) ?_ ?_
    · intro C k v ys B7 S7 M7 ρ7 s8 hv le8 hJ st9
      refine hJ _ ?_
      clear hJ
      rintro le9 eM hys
      subst eM
      refine wpAny_tests_one ?_
      obtain ⟨r, tr, ev, hr⟩ := IntsAre.item hvi hv
      subst ev
      have hl7 := le9 _ _ hl6
      have hrb : 1 ≤ r ∧ r ≤ 4 := (by decide : ∀ r ∈ ([1, 2, 3, 4] : List Int), 1 ≤ r ∧ r ≤ 4) r (List.mem_of_getElem? hr)
      have hb0 : 0 ≤ r - 1 := Int.sub_nonneg_of_le hrb.1
      have hb1 : r - 1 < 4 := Int.lt_of_le_of_lt (Int.sub_le_sub_right hrb.2 1) (by decide)
      have hp1 : (2 : Int) ^ Int.toNat (r - 1) ≠ 0 := Int.ne_of_gt (Int.pow_pos (by decide))
      have hp2 : ((2 : Int) ^ Int.toNat (r - 1)).natAbs < 1073741824 := by
        exact pow8 _ (Nat.lt_trans ((Int.toNat_lt hb0).mpr hb1) (by decide : 4 < 8))
      have htb : tb (lawAt ns (14 + 6 * i) 16) (r - 1).toNat = decide (((lawAt ns (14 + 6 * i) 16).fdiv (2 ^ Int.toNat (r - 1))).fmod 2 = 1) := by
        unfold tb
        rw [Int.fdiv_eq_ediv_of_nonneg _ (Int.le_of_lt (Int.pow_pos (by decide))), Int.fmod_eq_emod_of_nonneg _ (by decide)]
        generalize lawAt ns (14 + 6 * i) 16 / 2 ^ (r - 1).toNat % 2 = v
        by_cases q : v = 1 <;> simp [q]
      walk_at "go"
      · rename Int.fmod _ 2 = 1 => z
        (rename StC _ _ _ _ _ _ _ _ _ _ _ => st12)
        rename Le S7 _ => le12
        refine CEnd.of st12 le12 (fun _ kk => kk (le9.trans le12) rfl ?_)
        rw [take_snoc hr, List.filter_append, List.filter_cons, if_pos (by rw [htb]; exact decide_eq_true z)]
        exact hys.append (.cons _ _ .nil)
      · rename Int.fmod _ 2 ≠ 1 => z
        (rename StC _ _ _ _ _ _ _ _ _ _ _ => st12)
        rename Le S7 _ => le12
        refine CEnd.of st12 le12 (fun _ kk => kk (le9.trans le12) rfl ?_)
        rw [take_snoc hr, List.filter_append, List.filter_cons, if_neg (by rw [htb]; simpa using z)]
        simpa using hys
    · intro S7 M7 ys D C s8 le8 hJ hD st9 hC hm
      refine hJ _ ?_
      clear hJ
      rintro le9 eM hys
      subst eM
      rw [hvi.length, List.take_of_length_le (by decide)] at hys
      refine' compA st9 hC hm ?hy ?hk ?hL ?_
      case hy => rfl
      case hk => rfl
      case hL => rfl
      intro s9 st10
      obtain ⟨S8, le10, hD8, st11⟩ := StC.freezeTo st10 hD
      clear st9 st10 st8
      walk_at "go"
      (rename StC _ _ _ _ _ _ _ _ _ _ _ => st12)
      have hl8 := (le9.trans le10) _ _ hl6
      refine c_moves (St.pre st12) (Rm.le hA' (by decide)) ⟨_, hl8, hlo⟩ hi hn (by omega) (by omega) fun ma od kvs S9 s10 P10 hma hod hkv hms => ?_
      have st13 := StC.call st12 P10
      have le11 := P10.le
      clear st12 P10
      walk_at "go"
      (rename StC _ _ _ _ _ _ _ _ _ _ _ => st14)
      refine c_looks (St.pre st14) (Rm.le hA' (by decide)) ⟨_, le11 _ _ hl8, hlo⟩ hi hn (by omega) (by omega) fun la us n2 S10 s11 P11 hla hus => ?_
      have st15 := StC.call st14 P11
      have le12 := P11.le
      clear st14 P11
      have hpz : pvs.length ≤ 100 := hpl ▸ Nat.le_trans (Nat.le_of_lt hi5) (Nat.le_trans hn3 (Nat.le_of_ble_eq_true rfl))
      walk_at "go"
      rename_i xa S11 _ le13 hxa s12 st16
      have leT : Le S5 S11 := (le7.trans (le9.trans le10)).trans (le11.trans (le12.trans le13))
      refine LEnd.next st16 leT (fun _ kk => kk (le6.trans leT) r1 r2 r3 _ _ ok6 _ rfl hok6 (by rw [List.length_append, hpl]; rfl) (fun k p q => ?_))
      unfold planTo at q
      rw [List.range_succ, List.map_append, List.map_cons, List.map_nil] at q
      have hlen : ((List.range i).map (planAt ns)).length = i := by simp
      by_cases hk : k < i
      · rw [List.getElem?_append_left (by rw [hlen]; exact hk)] at q
        obtain ⟨a, h1, h2⟩ := hpi k p q
        exact ⟨a, by rw [List.getElem?_append_left (by rw [hpl]; exact hk)]; exact h1, h2.mono leT⟩
      · rw [List.getElem?_append_right (by rw [hlen]; exact Nat.le_of_not_lt hk), hlen] at q
        have hki : k = i := by
          have := (List.getElem?_eq_some_iff.mp q).1
          simp at this
          exact Nat.le_antisymm (Nat.le_of_sub_eq_zero this) (Nat.le_of_not_lt hk)
        subst hki
        rw [Nat.sub_self] at q
        have ep : planAt ns k = p := by simpa using q
        subst ep
        refine ⟨xa, by rw [List.getElem?_append_right (Nat.le_of_eq hpl), hpl, Nat.sub_self]; rfl, ?_⟩
        have l1 := le12.trans le13
        exact ⟨ma, D, la, 0, od, kvs, ys, ys.length, us, n2, hxa, (l1 _ _ hma), hod, hkv, hms, (le11.trans l1) _ _ hD8, hys, le13 _ _ hla, hus⟩
  · clear st4 hb12 en hrf
    intro S5 M5 ρ5 s5 le5 hJ st5
    refine hJ _ ?_
    clear hJ
    rintro le6 r1 r2 r3 pvs pn ok vk eM hok hpl hpi
    subst eM
    walk_at "go"
    (rename StC _ _ _ _ _ _ _ _ _ _ _ => st6)
    obtain ⟨S6, le7, hpa6, st7⟩ := StC.freezeTo st6 hpa
    have hpi6 : ∀ (k : Nat) p, (planTo ns (nOf ns))[k]? = some p → ∃ a, pvs[k]? = some (.ref a) ∧ PItem pg w S6 a p := fun k p e => let ⟨a, q1, q2⟩ := hpi k p e; ⟨a, q1, q2.mono le7⟩
    have hplan : PlanAt pg w S6 pa (planTo ns (nOf ns)) := ⟨_, _, hpa6, by rw [hpl, plan_len], fun k p e => let ⟨a, q1, q2⟩ := hpi k p e; ⟨a, q1, q2.mono le7⟩⟩
    have hok : ∀ p ∈ planTo ns (nOf ns), PLk p := plan_all
    have hlen : (planTo ns (nOf ns)).length ≤ 3 := by rw [plan_len]; exact hn3
    have hlen2 : (planTo ns (nOf ns)).length = nOf ns := plan_len
    generalize planTo ns (nOf ns) = plan at hplan hok hlen hlen2 hpi6
    clear st6 hpi
    refine c_states (St.pre st7) (Rm.le hA' (by decide)) hplan (fun p hp => (hok p hp).ok) hlen fun xa e sa svs sn md S7 s7 P7 hxa hsa hsl hst hmk => ?_
    have st8 := StC.call st7 P7
    have le8 := P7.le
    clear st7 P7
    walk_at "go"
    (rename StC _ _ _ _ _ _ _ _ _ _ _ => st9)
    have hg7 : GramAt pg w S7 gx (levOf ns) (lofOf ns) (exOf ns) := hg.mono (le3.trans (le4.trans (le6.trans (le7.trans le8))))
    refine c_aut (St.pre st9) (Rm.le hA' (by decide)) fun ax S8 s8 P8 hax => ?_
    have st10 := StC.call st9 P8
    have le9 := P8.le
    clear st9 P8
    have haut : AutAt pg w S8 ax gx (plan.map psOf) := ⟨_, _, _, hax, le9 _ _ hsa, LO.lst _ _, by rw [hsl, List.length_map], fun k p e => by
      rw [List.getElem?_map, Option.map_eq_some_iff] at e
      obtain ⟨q, e, rfl⟩ := e
      obtain ⟨sx, q1, q2⟩ := hst k q e
      exact ⟨sx, q1, q2.mono le9⟩⟩
    walk_at "go"
    (rename StC _ _ _ _ _ _ _ _ _ _ _ => st11)
    have lex := le3.trans (le4.trans (le6.trans (le7.trans (le8.trans le9))))
    refine c_fill (tm := 0) (St.pre st11) (Rm.le hA' (by decide)) haut (hg7.mono le9) (hnm.mono lex) (hmk.mono le9) (fun k p e => ?_) (by rw [List.length_map]; exact hlen) fun tx S9 s9 rs gs ds cs ss P9 hfill hout => ?_
    · rw [List.getElem?_map, Option.map_eq_some_iff] at e
      obtain ⟨q, e, rfl⟩ := e
      exact (hok q (List.mem_of_getElem? e)).psok e
    rw [List.length_map] at hfill
    obtain ⟨rfl, rfl, rfl, rfl, hss⟩ := hfill.law hok
    have st12 := StC.call st11 P9
    have le10 := P9.le
    clear st11 P9 hfill
    walk_at "go"
    (rename StC _ _ _ _ _ _ _ _ _ _ _ => st13)
    have lex2 := le7.trans (le8.trans (le9.trans le10))
    refine c_due (St.pre st13) (Rm.le hA' (by decide)) (hg7.mono (le9.trans le10)) lev_ok (hplan.mono (le8.trans (le9.trans le10))) (fun p hp => (hok p hp).ok) hlen (fun p hp => (hok p hp).nd) lev_dom fun ya da2 dd db dl rvs dvs bvs lvs e2 m1 m2 m3 m4 bs S10 s10 P10 hya hra hrr hda hdi hba hbt hbp hbs hla hlt => ?_
    have st14 := StC.call st13 P10
    have le11 := P10.le
    clear st13 P10
    obtain ⟨rw0, gt, df, cf, se, xrs, xgs, xds, xcs, xss, n1, n2, n3, n4, n5, htab, o1, o2, o3, o4, o5, o6, o7, o8, o9, o10⟩ := id hout
    obtain ⟨txs, tmd, tin, tg1, tg2, tg3, tg4, tg5, tg6, tg7, tg8⟩ := id htab
    walk_at "go"
    (rename StC _ _ _ _ _ _ _ _ _ _ _ => st15)
    have hun := hA'.un
    have hcl : cLine = 9900 := by decide +kernel
    refine Rd.ne (.lst (st15.ks _ _ (le11 _ _ o1)) (LO.lst _ _) (RowsAt.rd (o2.mono le11) st15.ks)) (.lst (st15.ks _ _ hra) (LO.lst _ _) (RowsAt.rd hrr st15.ks)) (by omega) ?_
    walk_at "go"
    (rename StC _ _ _ _ _ _ _ _ _ _ _ => st16)
    refine Rd.ne (.lst (st16.ks _ _ (le11 _ _ o5)) (LO.lst _ _) (RdAll.ints o6 0)) (.lst (st16.ks _ _ hda) (LO.lst _ _) (RdAll.ints hdi 0)) (by omega) ?_
    walk_at "go"
    (rename StC _ _ _ _ _ _ _ _ _ _ _ => st17)
    refine c_scount (St.pre st17) (Rm.le hA' (by decide)) ⟨_, _, tin.mono le11, tg1, tg2, tg3, tg4, tg5, tg6, tg7, tg8⟩ (le11 _ _ o1) (by rw [o2.len]; unfold dueRows; rw [List.length_map, List.length_range]; omega) fun S11 s11 u11 P11 => ?_
    have st18 := StC.call st17 P11
    have le12 := P11.le
    clear st17 P11
    have hxl : xrs.length = pvs.length := by rw [o2.len]; unfold dueRows; rw [List.length_map, List.length_range, hlen2, hpl]
    rw [hxl]
    walk_at "go"
    · exact absurd rfl (by assumption)
    (rename StC _ _ _ _ _ _ _ _ _ _ _ => st20)
    have lex3 : Le S6 S11 := le8.trans (le9.trans (le10.trans (le11.trans le12)))
    have hpa11 := lex3 _ _ hpa6
    refine comp_in (cl := []) ?clos ?kd ?nm ?_
    case clos => with_unfolding_all rfl
    case kd => rfl
    case nm => decide
    walk_at "go"
    (rename StC _ _ _ _ _ _ _ _ _ _ _ => st21)
    let J3 : Addr → Nat → List Value → PM → List (Addr × Obj) → Prop := fun X k ys S' M => ∀ GG : Prop, (Le S11 S' → (∃ ox vx, M = [(X, ox), (L + 2, ok), (L + 1, os)] ∧ ox.data = .cell vx) → DictsAt pg w S' ys (dueGts plan k) → GG) → GG
    refine comp_listC (lo := lst pvs pn) (vs := pvs) J3 st21 hA'.hh hpa11 (LO.lst _ _) (by rw [sizeLine_eq]; omega) (fun h => rfl) (fun n => rfl) rfl (fun X _ kk => kk (Le.refl _) ⟨_, _, rfl, rfl⟩ .nil) ?_ ?_
    · intro C X k v ys B7 S12 M7 ρ7 s12 hv le14 hJ st22
      refine hJ _ ?_
      clear hJ
      rintro le15 ⟨ox, vx, eM, hox⟩ hds
      subst eM
      have hkl : k < plan.length := by rw [hlen2, ← hpl]; exact (List.getElem?_eq_some_iff.mp hv).1
      obtain ⟨p, hp⟩ : ∃ p, plan[k]? = some p := ⟨_, List.getElem?_eq_getElem hkl⟩
      obtain ⟨ia, hia, hit⟩ := hpi6 k p hp
      rw [hia] at hv
      injection hv with hv
      subst hv
      have hpk := hok p (List.mem_of_getElem? hp)
      obtain ⟨mo, hl0, lk, ie, imd, kvs, hvs, j1, ls, j2, h1, h2, h3, h4, h5, h6, h7, h8, h9⟩ := (hit.mono (lex3.trans le15))
      walk_at "go"
      (rename StC _ _ _ _ _ _ _ _ _ _ _ => st23)
      have hox6 : ({ cls := ox.cls, dict := ox.dict, data := Data.cell (some (Value.ref ia)), slots := ox.slots } : Obj).data = .cell (some (.ref ia)) := rfl
      generalize ({ cls := ox.cls, dict := ox.dict, data := Data.cell (some (Value.ref ia)), slots := ox.slots } : Obj) = ox6 at st23 hox6
      have hkvl : kvs.length ≤ 20 := by rw [h4.len]; exact hpk.ok.mv
      refine comp_in (cl := [("one", X)]) ?clos ?kd ?nm ?_
      case clos => with_unfolding_all rfl
      case kd => rfl
      case nm => decide
      walk_at "go"
      (rename StC _ _ _ _ _ _ _ _ _ _ _ => st24)
      let J4 : Nat → List Value → PM → List (Addr × Obj) → Prop := fun j ys S' M => ∀ GG : Prop, (Le S12 S' → M = [(X, ox6), (L + 2, ok), (L + 1, os)] → PrsS S' ys ((kvs.take j).filter fun q => decide (6 < q.1)) → ys.length ≤ j → GG) → GG
      refine comp_dict (lo := imd) (kvs := kvs) J4 st24 hA'.hh h2 h3 h5 (by rw [sizeLine_eq]; omega) (by decide) rfl rfl (fun _ kk => kk (Le.refl _) rfl .nil (Nat.le_refl _)) ?_ ?_
      · intro C2 j k2 t2 v2 ys2 B8 S13 M8 ρ8 s13 hj le16 hJ st25
        refine hJ _ ?_
        clear hJ
        rintro le17 eM hys hyl
        subst eM
        refine wpAny_tests_one ?_
        obtain ⟨n3, t3, ev, hmj⟩ := h4.item hj
        subst ev
        have hv0 := h3.at hj
        have h1' := le17 _ _ h1
        have h2' := le17 _ _ h2
        walk_at "go"
        · (rename (6 : Int) < _ => z)
          (rename StC _ _ _ _ _ _ _ _ _ _ _ => st26)
          rename_i ta S14 _ le18 hta
          refine CEnd.of st26 le18 (fun _ kk => kk (le17.trans le18) rfl ?_ (by rw [List.length_append]; exact Nat.succ_le_succ hyl))
          rw [take_snoc hj, List.filter_append, List.filter_cons, if_pos (decide_eq_true z)]
          exact (hys.mono le18).snoc hta
        · (rename ¬ ((6 : Int) < _) => z)
          (rename StC _ _ _ _ _ _ _ _ _ _ _ => st26)
          refine CEnd.of st26 (Le.refl _) (fun _ kk => kk le17 rfl ?_ (Nat.le_succ_of_le hyl))
          rw [take_snoc hj, List.filter_append, List.filter_cons, if_neg (by simpa using z)]
          simpa using hys
      · intro S13 M8 ys2 D2 C2 s13 le16 hJ hD2 st25 hC2 hm2
        refine hJ _ ?_
        clear hJ
        rintro le17 eM hys hyl
        subst eM
        rw [List.take_length] at hys
        refine compE st25 hC2 hm2 fun s14 st26 => ?_
        walk_at "go"
        (rename StC _ _ _ _ _ _ _ _ _ _ _ => st27)
        refine dictOfPairs st27 hA'.hh (st27.mem _ (.head _)).1 (hys.heap st27.ks) (by omega) fun na no s15 hna hnm hno st28 => ?_
        walk_at "go"
        (rename StC _ _ _ _ _ _ _ _ _ _ _ => st29)
        obtain ⟨S14, le18, hS14, st30⟩ := StC.freezeTo st29 hna
        have hki := KI.puts h4.filt .nil
        have hcp := hpk.copyF
        unfold copyOf at hcp
        rw [hcp] at hki
        have le19 := (le17.trans le18)
        refine CEnd.of (StC.drop st30) le19 (fun _ kk => kk (le15.trans le19) ⟨_, _, rfl, hox6⟩ ?_)
        unfold dueGts
        rw [List.range_succ, List.map_append, List.map_cons, List.map_nil, due_at hp]
        exact (hds.mono le19).snoc hS14 hno hki hnm
    · intro X S12 M7 ys D C s12 le14 hJ hD st22 hC hm
      refine hJ _ ?_
      clear hJ
      rintro le15 ⟨ox, vx, eM, hox⟩ hds
      subst eM
      rw [hpl, ← hlen2] at hds
      refine compE st22 hC hm fun s13 st23 => ?_
      obtain ⟨S13, le16, hD13, st24⟩ := StC.freezeTo st23 hD
      have st25 := StC.drop st24
      clear st22 st23 st24
      refine neDicts (st25.ks _ _ ((le11.trans (le12.trans (le15.trans le16))) _ _ o3)) (st25.ks _ _ hD13) (o4.mono (le11.trans (le12.trans (le15.trans le16)))) (hds.mono le16) st25.ks (by omega) ?_
      walk_at "go"
      (rename StC _ _ _ _ _ _ _ _ _ _ _ => st26)
      have leB : Le S9 S13 := le11.trans (le12.trans (le15.trans le16))
      have hse13 := leB _ _ o9
      have o10' := o10.mono leB
      have bok := dueBys_ok (lev := levOf ns) lev_dom (lof := lofOf ns) (fun p hp => (hok p hp).ok) (fun p hp => (hok p hp).nd) plan.length (Nat.le_refl _)
      have hssl : ss.length ≤ 48 := by rw [hss.length_eq]; exact Nat.le_trans bok.few (Nat.mul_le_mul_left 16 hlen)
      refine comp_in (cl := []) ?clos ?kd ?nm ?_
      case clos => with_unfolding_all rfl
      case kd => rfl
      case nm => decide
      walk_at "go"
      (rename StC _ _ _ _ _ _ _ _ _ _ _ => st27)
      let J5 : Nat → List Value → PM → List (Addr × Obj) → Prop := fun k ys S' M => ∀ GG : Prop, (Le S13 S' → M = [(L + 2, ok), (L + 1, os)] → TdsAt S' ys (ss.take k) → GG) → GG
      refine comp_list (lo := lst xss n5) (vs := xss) J5 st27 hA'.hh hse13 (LO.lst _ _) (by rw [o10.len, sizeLine_eq]; omega) (by decide) rfl rfl (fun _ kk => kk (Le.refl _) rfl .nil) ?_ ?_
      · intro C2 k v ys2 B8 S14 M8 ρ8 s14 hv le17 hJ st28
        refine hJ _ ?_
        clear hJ
        rintro le18 eM hys
        subst eM
        have hkl : k < ss.length := by rw [← o10.len]; exact (List.getElem?_eq_some_iff.mp hv).1
        obtain ⟨cf1, hcf1⟩ : ∃ c, ss[k]? = some c := ⟨_, List.getElem?_eq_getElem hkl⟩
        obtain ⟨x1, hx1, hc1⟩ := o10'.get hcf1
        rw [hx1] at hv
        injection hv with hv
        subst hv
        have hc2 := hc1.mono le18
        obtain ⟨t1, t2, t3, t4, q1, vs1, e3, i1, hq1, hi1⟩ := id hc2
        walk_at "go"
        (rename StC _ _ _ _ _ _ _ _ _ _ _ => st29)
        refine c_told (St.pre st29) (Rm.le hA' (by decide)) hc2 fun a1 S15 s15 P15 htd => ?_
        have st30 := StC.call st29 P15
        have le19 := P15.le
        clear st29 P15
        walk_at "go"
        refine CEnd.of st30 le19 (fun _ kk => kk (le18.trans le19) rfl ?_)
        rw [take_snoc hcf1]
        exact (hys.mono le19).app (.one htd)
      · intro S14 M8 ys2 D2 C2 s14 le17 hJ hD2 st28 hC2 hm2
        refine hJ _ ?_
        clear hJ
        rintro le18 eM hys
        subst eM
        rw [o10.len, List.take_length] at hys
        refine compE st28 hC2 hm2 fun s15 st29 => ?_
        walk_at "go"
        have hD2L := (st29.mem _ (.head _)).2.1
        refine sortedT st29 (by omega) (st29.mem _ (.head _)).1 hD2L hD2 (LO.lst _ _) hys (fun c hc => bok.one c (hss.subset hc)) (hss.nodup_iff.mpr bok.nd) (by rw [hys.len]; omega) fun a2 vs2 cs2 z2 s16 ha2 st30 ht2 hp2 hs2 => ?_
        have ecs : cs2 = bs := List.Perm.eq_of_pairwise (fun a b _ _ x y => absurd y (ltP_asymm x)) hs2 hbs (hp2.trans (hss.trans hbp.symm))
        subst ecs
        obtain ⟨S15, le19, hS15, st31⟩ := StC.freezeTo st30 ha2
        have st32 := StC.drop st31
        clear st28 st29 st30 st31
        walk_at "go"
        (rename StC _ _ _ _ _ _ _ _ _ _ _ => st33)
        have leC : Le S10 S15 := le12.trans (le15.trans (le16.trans (le18.trans le19)))
        refine Rd.ne (.lst (st33.ks _ _ hS15) (LO.lst _ _) (TdsAt.rd (ht2.mono le19) st33.ks)) (.lst (st33.ks _ _ (leC _ _ hba)) (LO.lst _ _) (TdsAt.rd (hbt.mono leC) st33.ks)) (by omega) ?_
        walk_at "go"
        (rename StC _ _ _ _ _ _ _ _ _ _ _ => st34)
        have leD : Le S9 S15 := le11.trans leC
        have hcf15 := leD _ _ o7
        have o8' := o8.mono leD
        have hcsl : (dueLefts (levOf ns) (lofOf ns) plan plan.length).length ≤ 84 := left_few (fun p hp => (hok p hp).ok) hlen
        generalize hlefts : dueLefts (levOf ns) (lofOf ns) plan plan.length = cs at o8 o8' hcsl hlt
        refine comp_in (cl := []) ?clos ?kd ?nm ?_
        case clos => with_unfolding_all rfl
        case kd => rfl
        case nm => decide
        walk_at "go"
        (rename StC _ _ _ _ _ _ _ _ _ _ _ => st35)
        let J6 : Nat → List Value → PM → List (Addr × Obj) → Prop := fun k ys S' M => ∀ GG : Prop, (Le S15 S' → M = [(L + 2, ok), (L + 1, os)] → TdsAt S' ys (cs.take k) → GG) → GG
        refine comp_list (lo := lst xcs n4) (vs := xcs) J6 st35 hA'.hh hcf15 (LO.lst _ _) (by rw [o8.len, sizeLine_eq]; omega) (by decide) rfl rfl (fun _ kk => kk (Le.refl _) rfl .nil) ?_ ?_
        · intro C3 k v ys3 B9 S16 M9 ρ9 s16 hv le20 hJ st36
          refine hJ _ ?_
          clear hJ
          rintro le21 eM hys3
          subst eM
          have hkl : k < cs.length := by rw [← o8.len]; exact (List.getElem?_eq_some_iff.mp hv).1
          obtain ⟨cf1, hcf1⟩ : ∃ c, cs[k]? = some c := ⟨_, List.getElem?_eq_getElem hkl⟩
          obtain ⟨x1, hx1, hc1⟩ := o8'.get hcf1
          rw [hx1] at hv
          injection hv with hv
          subst hv
          have hc2 := hc1.mono le21
          obtain ⟨t1, t2, t3, t4, q1, vs1, e3, i1, hq1, hi1⟩ := id hc2
          walk_at "go"
          (rename StC _ _ _ _ _ _ _ _ _ _ _ => st37)
          refine c_told (St.pre st37) (Rm.le hA' (by decide)) hc2 fun a1 S17 s17 P17 htd => ?_
          have st38 := StC.call st37 P17
          have le22 := P17.le
          clear st37 P17
          walk_at "go"
          refine CEnd.of st38 le22 (fun _ kk => kk (le21.trans le22) rfl ?_)
          rw [take_snoc hcf1]
          exact (hys3.mono le22).app (.one htd)
        · intro S16 M9 ys3 D3 C3 s16 le20 hJ hD3 st36 hC3 hm3
          refine hJ _ ?_
          clear hJ
          rintro le21 eM hys3
          subst eM
          rw [o8.len, List.take_length] at hys3
          refine compE st36 hC3 hm3 fun s17 st37 => ?_
          obtain ⟨S17, le22, hS17, st38⟩ := StC.freezeTo st37 hD3
          clear st35 st36 st37
          walk_at "go"
          (rename StC _ _ _ _ _ _ _ _ _ _ _ => st39)
          have leE : Le S10 S17 := leC.trans (le21.trans le22)
          refine Rd.ne (.lst (st39.ks _ _ hS17) (LO.lst _ _) (TdsAt.rd (hys3.mono le22) st39.ks)) (.lst (st39.ks _ _ (leE _ _ hla)) (LO.lst _ _) (TdsAt.rd (hlt.mono leE) st39.ks)) (by omega) ?_
          walk_at "go"
          (rename StC _ _ _ _ _ _ _ _ _ _ _ => st40)
          have hla17 := leE _ _ hla
          refine comp_in (cl := []) ?clos ?kd ?nm ?_
          case clos => with_unfolding_all rfl
          case kd => rfl
          case nm => decide
          walk_at "go"
          (rename StC _ _ _ _ _ _ _ _ _ _ _ => st41)
          let J7 : Nat → List Value → PM → List (Addr × Obj) → Prop := fun k ys S' M => ∀ GG : Prop, (Le S17 S' → M = [(L + 2, ok), (L + 1, os)] → ys.length = srCount (cs.take k) → GG) → GG
          refine comp_list (lo := lst lvs m4) (vs := lvs) J7 st41 hA'.hh hla17 (LO.lst _ _) (by rw [hlt.len, sizeLine_eq]; omega) (by decide) rfl rfl (fun _ kk => kk (Le.refl _) rfl rfl) ?_ ?_
          · intro C4 k v ys4 B10 S18 M10 ρ10 s18 hv le23 hJ st42
            refine hJ _ ?_
            clear hJ
            rintro le24 eM hys4
            subst eM
            refine wpAny_tests_one ?_
            have hkl : k < cs.length := by rw [← hlt.len]; exact (List.getElem?_eq_some_iff.mp hv).1
            obtain ⟨c1, hcf1⟩ : ∃ c, cs[k]? = some c := ⟨_, List.getElem?_eq_getElem hkl⟩
            obtain ⟨x1, hx1, hc1⟩ := hlt.get hcf1
            rw [hx1] at hv
            injection hv with hv
            subst hv
            obtain ⟨t1, t2, t3, t4, q1, vs1, e3, e4, i1, hq1, hi1⟩ := (hc1.mono (leE.trans le24))
            have hn : srCount (cs.take (k + 1)) = srCount (cs.take k) + (if c1.sr = true then 1 else 0) := by
              unfold srCount
              rw [take_snoc hcf1, List.filter_append, List.length_append]
              by_cases q : c1.sr = true <;> simp [List.filter_cons, q]
            walk_at "go"
            · (rename (srT c1.sr == _) = true => z)
              (rename StC _ _ _ _ _ _ _ _ _ _ _ => st43)
              have zc : c1.sr = true := by
                cases q : c1.sr with
                | true => rfl
                | false => rw [q] at z; exact absurd z (by decide)
              exact CEnd.of st43 (Le.refl _) (fun _ kk => kk le24 rfl (by rw [hn, if_pos zc, List.length_append, hys4]; rfl))
            · (rename (srT c1.sr == _) = false => z)
              (rename StC _ _ _ _ _ _ _ _ _ _ _ => st43)
              have zc : ¬ c1.sr = true := by
                intro q
                rw [q] at z; exact absurd z (by decide)
              exact CEnd.of st43 (Le.refl _) (fun _ kk => kk le24 rfl (by rw [hn, if_neg zc, hys4]; rfl))
          · intro S18 M10 ys4 D4 C4 s18 le23 hJ hD4 st42 hC4 hm4
            refine hJ _ ?_
            clear hJ
            rintro le24 eM hys4
            subst eM
            have hsrl := sr_le cs
            rw [hlt.len, List.take_length] at hys4
            refine compE st42 hC4 hm4 fun s19 st43 => ?_
            have hz4 : ys4.length < 2 ^ 62 := by omega
            have leF : Le S10 S18 := leE.trans le24
            have leG : Le S9 S18 := leD.trans (le21.trans (le22.trans le24))
            walk_at "go"
            (rename StC _ _ _ _ _ _ _ _ _ _ _ => st44)
            rw [hys4] at st44
            refine c_counts (St.pre st44) (Rm.le hA' (by decide)) ⟨_, _, tin.mono leG, tg1, tg2, tg3, tg4, tg5, tg6, tg7, tg8⟩ (leG _ _ o7) (o8.mono leG) (by rw [o8.len]; omega) fun ca v1 v2 e5 S19 s20 P20 hca => ?_
            have st45 := StC.call (StC.drop st44) P20
            have le25 := P20.le
            (try clear st40); (try clear st41); (try clear st42); (try clear st43); (try clear st44); clear P20
            have hla19 := (leF.trans le25) _ _ hla
            have hlz : lvs.length < 2 ^ 62 := by rw [hlt.len]; omega
            walk_at "go"
            (rename StC _ _ _ _ _ _ _ _ _ _ _ => st46)
            rename_i tk4 _ _ _ _ cb S20 s21 le26 hcb
            rw [hlt.len] at hcb
            refine Rd.ne (.tup (st46.ks _ _ (le26 _ _ hca)) (TO.tup _ _) (.cons (.int _ _ 0) (.cons (.int _ _ 0) .nil))) (.tup (st46.ks _ _ hcb) (TO.tup _ _) (.cons (.int _ _ 0) (.cons (.int _ _ 0) .nil))) (by omega) ?_
            repeat' ((fail_if_success (with_reducible show wpAny _ _ (exec (Stmt.Assign _ (Expr.BoolOp _ _ _) _) _) _ _ _)); first | walk1 | (dsimp only; walk1))
            (rename StC _ _ _ _ _ _ _ _ _ _ _ => st47)
            have leH : Le S7 S20 := le9.trans (le10.trans (le11.trans (leF.trans (le25.trans le26))))
            have leI : Le S10 S20 := leF.trans (le25.trans le26)
            let J8 : PM → List (Addr × Obj) → (Str → Option Value) → Prop := fun S' M ρ => ∀ GG : Prop, (Le S20 S' → M = [(L + 2, ok), (L + 1, os)] → ρ "grammar" = some (.ref gx) → ρ "tables" = some (.ref tx) → ρ "left" = some (.ref dl) → (∃ t, ρ "shifts" = some (.int (srCount cs) t)) → ρ "is_due" = some (.bool (dueB (exOf ns) cs)) → GG) → GG
            refine cut (cx w G g o) S n₀ B L S20 J8 ?_ ?_
            · obtain ⟨gxs, dl0, rl, nl0, ev, rvs0, gn, gi, g1, g2, g3, g4, g5, g6, g7, g8, g9, g10⟩ := (hg7.mono leH)
              have hla20 := leI _ _ hla
              cases hex : exOf ns with
              | none =>
                rw [hex] at g6
                have g6 : ev = Value.none := g6
                subst g6
                walk_at "go"
                (rename StC _ _ _ _ _ _ _ _ _ _ _ => st48)
                exact Mid.of st48 (Le.refl _) (fun _ kk => kk (Le.refl _) rfl r1 rfl rfl ⟨_, rfl⟩ (by rw [hex]; rfl))
              | some wd =>
                rw [hex] at g6
                obtain ⟨tw, g6⟩ : ∃ t, ev = Value.int wd t := g6
                subst g6
                have hll := hlt.len
                walk_at "go"
                · (rename (lvs.length : Int) = _ => z)
                  (rename StC _ _ _ _ _ _ _ _ _ _ _ => st48)
                  refine Mid.of st48 (Le.refl _) (fun _ kk => kk (Le.refl _) rfl r1 rfl rfl ⟨_, rfl⟩ ?_)
                  have e : dueB (some wd) cs = ((srCount cs : Int) == wd) := by
                    unfold dueB
                    try dsimp only
                    rw [decide_eq_true (by rw [← hll]; exact z), Bool.true_and]; rfl
                  rw [hex, e]; rfl
                · (rename (lvs.length : Int) ≠ _ => z)
                  (rename StC _ _ _ _ _ _ _ _ _ _ _ => st48)
                  refine Mid.of st48 (Le.refl _) (fun _ kk => kk (Le.refl _) rfl r1 rfl rfl ⟨_, rfl⟩ ?_)
                  have e : dueB (some wd) cs = ((lvs.length : Int) == (srCount cs : Int)) := by
                    unfold dueB
                    try dsimp only
                    rw [hll] at z
                    rw [hll, decide_eq_false z, Bool.false_and]
                    exact (beq_eq_false_iff_ne.mpr z).symm
                  rw [hex, e]; rfl
            · (try clear st46); (try clear st47)
              intro S21 M21 ρ21 s21 le27 hJ st48
              refine hJ _ ?_
              clear hJ
              rintro le28 eM q1 q2 q3 ⟨tk5, q4⟩ q5
              subst eM
              try dsimp only
              walk_at "go"
              (rename StC _ _ _ _ _ _ _ _ _ _ _ => st49)
              have leJ : Le S9 S21 := leG.trans (le25.trans (le26.trans le28))
              have leK : Le S7 S21 := leH.trans le28
              let J9 : PM → List (Addr × Obj) → (Str → Option Value) → Prop := fun S' M ρ => ∀ GG : Prop, (Le S21 S' → M = [(L + 2, ok), (L + 1, os)] → ρ "grammar" = some (.ref gx) → ρ "left" = some (.ref dl) → (∃ t, ρ "shifts" = some (.int (srCount cs) t)) → ρ "is_due" = some (.bool (dueB (exOf ns) cs)) → ∀ t, ρ "heard" = some (.str (heardOf (exOf ns) cs) t) → GG) → GG
              refine cut (cx w G g o) S n₀ B L S21 J9 ?_ ?_
              · refine wpAny_Try_except ?_
                walk_at "go"
                (rename StC _ _ _ _ _ _ _ _ _ _ _ => st50)
                refine c_checked st50 (Rm.le hA' (by decide)) hfr' rfl (by intro q; cases q) ⟨_, _, tin.mono leJ, tg1, tg2, tg3, tg4, tg5, tg6, tg7, tg8⟩ (hg7.mono leK) ex_few (leJ _ _ o7) (o8.mono leJ) (by rw [o8.len]; omega) ?_ ?_
                · intro hdue S22 s22 P22
                  have st51 := StC.call st50 P22
                  have le29 := P22.le
                  (try clear st49); clear st50 P22
                  have leJ2 := leJ.trans le29
                  walk_at "go"
                  (rename StC _ _ _ _ _ _ _ _ _ _ _ => st52)
                  show wpAny _ _ (call (.ref 227) [.ref tx]) _ _ _
                  refine c_scount (St.pre st52) (Rm.le hA' (by decide)) ⟨_, _, tin.mono leJ2, tg1, tg2, tg3, tg4, tg5, tg6, tg7, tg8⟩ (leJ2 _ _ o1) (by rw [hxl, hpl]; omega) fun S23 s23 u23 P23 => ?_
                  have st53 := StC.call st52 P23
                  have le30 := P23.le
                  clear st52 P23
                  walk_at "go"
                  (rename StC _ _ _ _ _ _ _ _ _ _ _ => st54)
                  exact Mid.of st54 (le29.trans le30) (fun _ kk => kk (le29.trans le30) rfl q1 q3 ⟨_, q4⟩ q5 _ (by rw [heard_let (dueB_iff.mpr hdue)]; rfl))
                · intro hnd wd tk e s22 hexq hr
                  obtain ⟨base, S22, dx, es, en, F0, le29, hSb, hkb, hu, hdx, hes, hnew, eg, eo⟩ := id hr
                  refine note_on (outer := []) hfr' rfl F0 fun h1 F1 u1 => ?_
                  refine fly_set (f := none) F1 fun h2 F2 u2 => ?_
                  have st51 := StC.raised (g := s22.gens) (o := s22.os) st50 F2 le29 hSb hkb ((hu.trans u1).trans u2) hnew eg eo
                  obtain ⟨oe2, he2, hcl2⟩ : ∃ oe, h2.get? e = some oe ∧ oe.cls = .ref 59 := by
                    obtain ⟨oe, _, _, _, _, q1, q2, _⟩ := F2.tr
                    exact ⟨oe, q1, q2⟩
                  refine handleAs (C := 59) (nm := "GrammarError") (q := "GrammarError") (N := 58) (bs := [.ref 46]) (bm := [.ref 46, .type "Exception", .type "BaseException", .type "object"]) (hdct := true) (sn := []) (sub := []) (ab := false) (col := none) (dd := none) (k0 := some (.ref 50)) (k1 := none) (k2 := some (.str "GrammarError" 234)) (k3 := some (.str "GrammarError" 242)) (k5 := some (.bool true)) (newId := "Exception.__new__") (by decide +kernel) ?_
                  walk1
                  refine ⟨rfl, st51.ks _ _ (S_K (s := { s22 with heap := h2 }) st51 (obj59 _)), ⟨oe2, he2, hcl2⟩, ?_⟩
                  refine fly_set (f := none) F2 fun h3 F3 u3 => ?_
                  have st52 := StC.raised (g := s22.gens) (o := s22.os) st50 F3 le29 hSb hkb (((hu.trans u1).trans u2).trans u3) hnew eg eo
                  obtain ⟨oe, vs1, T, oT, ts, he, hcl, hdxe, hdat, hv1, hT0, hTe, hT, hdT, hz3⟩ := id F3.tr
                  have heL : e ≠ L := by
                    obtain ⟨oL, esL, epL, gL, dL, _⟩ := id st52.ns
                    exact Ne.symm (Fly.frec (s := { s22 with heap := h3 }) F3 gL fun vs q => by rw [dL] at q; cases q)
                  have heB : B.m e = none := none_of fun y q => by
                    have := hkb e y (st50.kb e y q) heL
                    rw [F3.new] at this; cases this
                  have heS : S22 e = none := none_of fun y q => by
                    have := hSb e y q
                    rw [F3.new] at this; cases this
                  have heM : e ∉ ([(L + 2, ok), (L + 1, os)] : List (Addr × Obj)).map (·.1) := fun q => by
                    obtain ⟨x, hx, q⟩ := List.mem_map.mp q
                    have m := st50.mem x hx
                    have := hkb _ _ m.1 m.2.1
                    rw [q, F3.new] at this; cases this
                  have st53 := st52.addM he heL heB heS heM
                  clear st51 st52
                  walk_at "go"
                  (rename StC _ _ _ _ _ _ _ _ _ _ _ => st54)
                  refine' exAttr st54 (st54.mem _ (.head _)).1 hcl hdat hdxe hdx hes ?k3 (S_K st54 (obj59 _)) ?kb ?kg ?kn ?k5 ?k6 ?k7 ?k8 ?_
                  case k3 => rfl
                  case kb => decide +kernel
                  case kg => walk_at "is"
                  case kn => walk_at "is"
                  case k5 => walk_at "is"
                  case k6 => walk_at "is"
                  case k7 => walk_at "is"
                  case k8 => rfl
                  walk_at "go"
                  (rename StC _ _ _ _ _ _ _ _ _ _ _ => st55)
                  refine nameGoes st55 rfl rfl rfl fun v s23 st56 => ?_
                  refine Mid.of (StC.drop st56) le29 (fun _ kk => kk le29 rfl q1 q3 ⟨_, q4⟩ q5 tk ?_)
                  rw [hexq] at hnd ⊢
                  rw [heard_not hnd]
                  rfl
              · (try clear st49)
                intro S22 M22 ρ22 s22 le29 hJ st50
                refine hJ _ ?_
                clear hJ
                rintro le30 eM q6 q7 ⟨tk6, q8⟩ q9 tk7 q10
                subst eM
                try dsimp only
                have leQ : Le S S22 := le04.trans (le6.trans (le7.trans (le8.trans (le9.trans (le10.trans (leJ.trans le30))))))
                have hll := hlt.len
                by_cases hdue : dueB (exOf ns) cs = true
                · rw [hdue] at q9
                  rw [heard_let hdue] at q10
                  walk_at "go"
                  (rename StC _ _ _ _ _ _ _ _ _ _ _ => st51)
                  show Q (Value.bool ((Str.ofString "let") == (Str.ofString "let"))) _
                  rw [beq_self_eq_true]
                  exact hQ S22 _ (fin _ _ _ _ st51 leQ)
                · have hfalse : dueB (exOf ns) cs = false := by simpa using hdue
                  rw [hfalse] at q9
                  obtain ⟨wd, hex⟩ : ∃ wd, exOf ns = some wd := by
                    cases hex : exOf ns with
                    | none => rw [hex] at hdue; exact absurd rfl hdue
                    | some wd => exact ⟨wd, rfl⟩
                  rw [hex] at hdue q10
                  rw [heard_not (fun q => hdue (dueB_iff.mpr q))] at q10
                  have hwd := ex_few wd hex
                  have hla22 := (leI.trans (le28.trans le30)) _ _ hla
                  obtain ⟨gxs, dl0, rl, nl0, ev, rvs0, gn, gi, g1, g2, g3, g4, g5, g6, g7, g8, g9, g10⟩ := (hg7.mono (leH.trans (le28.trans le30)))
                  rw [hex] at g6
                  obtain ⟨tw, g6⟩ : ∃ t, ev = Value.int wd t := g6
                  subst g6
                  walk_at "go"
                  · (rename (srCount cs : Int) < _ => z)
                    (rename StC _ _ _ _ _ _ _ _ _ _ _ => st51)
                    have em : msgOf wd cs = Mine.tx ((lvs.length : Int) - srCount cs) ++ (" reduce/reduce conflicts, none expected" : Str) := by
                      rw [hll] at z ⊢
                      exact if_pos (by omega)
                    rw [em, beq_self_eq_true]
                    exact hQ S22 _ (fin _ _ _ _ st51 leQ)
                  · (rename ¬ ((srCount cs : Int) < _) => z)
                    (rename StC _ _ _ _ _ _ _ _ _ _ _ => st51)
                    have em : msgOf wd cs = Mine.tx (srCount cs) ++ (" shift/reduce conflicts, " : Str) ++ Mine.tx wd ++ (" expected" : Str) := by
                      rw [hll] at z
                      exact if_neg (by omega)
                    rw [em, beq_self_eq_true]
                    exact hQ S22 _ (fin _ _ _ _ st51 leQ)
end

/-! CEnd -/
/-! the kit's head makes a twin of each of the top's objects (and of lists of all of them), a twin's proof growing with the square of the list:
    where the twin's name is taken already the kit goes on without it. So these names are taken here. -/
theorem the_end.tw17699125900338286826 : True := trivial
theorem the_end.tw10132624999054637693 : True := trivial
theorem the_end.tw10166312619198501644 : True := trivial
theorem the_end.tw10203701448743984896 : True := trivial
theorem the_end.tw10217618744713257629 : True := trivial
theorem the_end.tw10271561213864356456 : True := trivial
theorem the_end.tw10333961630642700265 : True := trivial
theorem the_end.tw10433258453398787034 : True := trivial
theorem the_end.tw10468418548448344427 : True := trivial
theorem the_end.tw10473150905349516636 : True := trivial
theorem the_end.tw10481205061599906895 : True := trivial
theorem the_end.tw10572887303428285834 : True := trivial
theorem the_end.tw10604449655036763194 : True := trivial
theorem the_end.tw10618289911757585705 : True := trivial
theorem the_end.tw10717725774741734582 : True := trivial
theorem the_end.tw10726307613083168947 : True := trivial
theorem the_end.tw1074899055849095903 : True := trivial
theorem the_end.tw10772715990869720683 : True := trivial
theorem the_end.tw10791420227039486579 : True := trivial
theorem the_end.tw10827678640661632647 : True := trivial
theorem the_end.tw10828479899383616644 : True := trivial
theorem the_end.tw10900888164999593630 : True := trivial
theorem the_end.tw10902832231588873251 : True := trivial
theorem the_end.tw10971295342646302565 : True := trivial
theorem the_end.tw11021812977604276438 : True := trivial
theorem the_end.tw11025668962737701477 : True := trivial
theorem the_end.tw11046512686597638731 : True := trivial
theorem the_end.tw11070696629968469194 : True := trivial
theorem the_end.tw11075120675310629265 : True := trivial
theorem the_end.tw1115315882101161737 : True := trivial
theorem the_end.tw11216224876259775356 : True := trivial
theorem the_end.tw11262670543641826659 : True := trivial
theorem the_end.tw11264385393558584332 : True := trivial
theorem the_end.tw11306812884288015318 : True := trivial
theorem the_end.tw11309496865659901692 : True := trivial
theorem the_end.tw11358468556847573832 : True := trivial
theorem the_end.tw11460320826636268491 : True := trivial
theorem the_end.tw11461988298231779090 : True := trivial
theorem the_end.tw11555930683099695579 : True := trivial
theorem the_end.tw11557357759218364003 : True := trivial
theorem the_end.tw11624220531880744966 : True := trivial
theorem the_end.tw11627068423890181013 : True := trivial
theorem the_end.tw11691676792764933643 : True := trivial
theorem the_end.tw11704842394149872832 : True := trivial
theorem the_end.tw11747169349566776192 : True := trivial
theorem the_end.tw11748829070691571668 : True := trivial
theorem the_end.tw11835428414672631729 : True := trivial
theorem the_end.tw11847432286900032858 : True := trivial
theorem the_end.tw11878971390144118740 : True := trivial
theorem the_end.tw11967900646075986702 : True := trivial
theorem the_end.tw12002394193558876261 : True := trivial
theorem the_end.tw12020022084613897681 : True := trivial
theorem the_end.tw12042441247529768578 : True := trivial
theorem the_end.tw12045662987538384772 : True := trivial
theorem the_end.tw12068920756334501856 : True := trivial
theorem the_end.tw12095024753783559441 : True := trivial
theorem the_end.tw12110684951037161743 : True := trivial
theorem the_end.tw12127606539347318737 : True := trivial
theorem the_end.tw12127790365168621001 : True := trivial
theorem the_end.tw12131181744460161075 : True := trivial
theorem the_end.tw1217312773885078182 : True := trivial
theorem the_end.tw12182132927878947997 : True := trivial
theorem the_end.tw12225723099198472611 : True := trivial
theorem the_end.tw12239356191223175088 : True := trivial
theorem the_end.tw1228970765769050099 : True := trivial
theorem the_end.tw12291362558612798232 : True := trivial
theorem the_end.tw12336348959819859553 : True := trivial
theorem the_end.tw12357156055001819717 : True := trivial
theorem the_end.tw12441903496671625675 : True := trivial
theorem the_end.tw12460640038811686659 : True := trivial
theorem the_end.tw12461441650233378563 : True := trivial
theorem the_end.tw1252651566645475145 : True := trivial
theorem the_end.tw12538553793619718289 : True := trivial
theorem the_end.tw12567343308811000481 : True := trivial
theorem the_end.tw12581223846220944899 : True := trivial
theorem the_end.tw12643768444357600158 : True := trivial
theorem the_end.tw1265374839344740027 : True := trivial
theorem the_end.tw12672971966254462908 : True := trivial
theorem the_end.tw1270023126557524529 : True := trivial
theorem the_end.tw12706641213396359007 : True := trivial
theorem the_end.tw12729270841517442406 : True := trivial
theorem the_end.tw12745864357506378610 : True := trivial
theorem the_end.tw12793661161856252631 : True := trivial
theorem the_end.tw12830969664806202134 : True := trivial
theorem the_end.tw1286954223641527858 : True := trivial
theorem the_end.tw12891517850124966697 : True := trivial
theorem the_end.tw12934634369851964571 : True := trivial
theorem the_end.tw12945171775788473175 : True := trivial
theorem the_end.tw12972683325721724719 : True := trivial
theorem the_end.tw13014263455384302540 : True := trivial
theorem the_end.tw13060789600169457271 : True := trivial
theorem the_end.tw13096679825037269543 : True := trivial
theorem the_end.tw13097188815929259138 : True := trivial
theorem the_end.tw13124138737817446249 : True := trivial
theorem the_end.tw13128391852466403023 : True := trivial
theorem the_end.tw13177561112491950881 : True := trivial
theorem the_end.tw13181807533443434779 : True := trivial
theorem the_end.tw13237830832061587482 : True := trivial
theorem the_end.tw13249256181247369164 : True := trivial
theorem the_end.tw13267553427877571520 : True := trivial
theorem the_end.tw13303091147450390530 : True := trivial
theorem the_end.tw13313139731379622534 : True := trivial
theorem the_end.tw13366788500445460585 : True := trivial
theorem the_end.tw13369682394929131898 : True := trivial
theorem the_end.tw13405567311767241507 : True := trivial
theorem the_end.tw13441182699248319663 : True := trivial
theorem the_end.tw13444733584444061040 : True := trivial
theorem the_end.tw13466576858424370722 : True := trivial
theorem the_end.tw13550199461516982591 : True := trivial
theorem the_end.tw13570365674185975260 : True := trivial
theorem the_end.tw13580240062821575544 : True := trivial
theorem the_end.tw13593306770642862337 : True := trivial
theorem the_end.tw13597343108295798552 : True := trivial
theorem the_end.tw13621508482440329493 : True := trivial
theorem the_end.tw13715320601034652335 : True := trivial
theorem the_end.tw13730791185928524679 : True := trivial
theorem the_end.tw1374625707046136614 : True := trivial
theorem the_end.tw1375161847400270972 : True := trivial
theorem the_end.tw13796425884631820827 : True := trivial
theorem the_end.tw13902320972547680673 : True := trivial
theorem the_end.tw13918162113343007255 : True := trivial
theorem the_end.tw13938710463515443604 : True := trivial
theorem the_end.tw13944972650200936283 : True := trivial
theorem the_end.tw13970638448008873702 : True := trivial
theorem the_end.tw13978091198637652985 : True := trivial
theorem the_end.tw13985947894868565120 : True := trivial
theorem the_end.tw13992481422883704609 : True := trivial
theorem the_end.tw14007265026531852193 : True := trivial
theorem the_end.tw1401084249200784375 : True := trivial
theorem the_end.tw14039064790951128365 : True := trivial
theorem the_end.tw14088015760485186392 : True := trivial
theorem the_end.tw1410710752946868938 : True := trivial
theorem the_end.tw14110210650993513642 : True := trivial
theorem the_end.tw14187553082758939981 : True := trivial
theorem the_end.tw14203721592839552244 : True := trivial
theorem the_end.tw1424827097499954856 : True := trivial
theorem the_end.tw14268789155248676530 : True := trivial
theorem the_end.tw14307657431855116599 : True := trivial
theorem the_end.tw14336512024870568558 : True := trivial
theorem the_end.tw14370798664118091301 : True := trivial
theorem the_end.tw14409790552565327868 : True := trivial
theorem the_end.tw14421740197890923576 : True := trivial
theorem the_end.tw14423398694213893497 : True := trivial
theorem the_end.tw14466632277252921477 : True := trivial
theorem the_end.tw14489888816582186839 : True := trivial
theorem the_end.tw14524510818139967560 : True := trivial
theorem the_end.tw14535522315115708526 : True := trivial
theorem the_end.tw14610317034398107407 : True := trivial
theorem the_end.tw14616355355843790417 : True := trivial
theorem the_end.tw14623780312327350588 : True := trivial
theorem the_end.tw14649291950865073870 : True := trivial
theorem the_end.tw14699657417853449321 : True := trivial
theorem the_end.tw14702069412123547524 : True := trivial
theorem the_end.tw1474508513349168353 : True := trivial
theorem the_end.tw14794809414616719416 : True := trivial
theorem the_end.tw14821648701340720283 : True := trivial
theorem the_end.tw148513144045258606 : True := trivial
theorem the_end.tw14861110831811562862 : True := trivial
theorem the_end.tw14949629139553424960 : True := trivial
theorem the_end.tw14984866201289640722 : True := trivial
theorem the_end.tw14985141511762205027 : True := trivial
theorem the_end.tw15031389920934500706 : True := trivial
theorem the_end.tw15100041805663829697 : True := trivial
theorem the_end.tw15114118818381323521 : True := trivial
theorem the_end.tw15173428452692068002 : True := trivial
theorem the_end.tw15177292136343130824 : True := trivial
theorem the_end.tw15208333887399767611 : True := trivial
theorem the_end.tw15223319929730884044 : True := trivial
theorem the_end.tw15251261923718634494 : True := trivial
theorem the_end.tw15378335104930721156 : True := trivial
theorem the_end.tw15378868712586306376 : True := trivial
theorem the_end.tw15417823220401021018 : True := trivial
theorem the_end.tw15491154815538344955 : True := trivial
theorem the_end.tw15496914220103397132 : True := trivial
theorem the_end.tw15510801276712726790 : True := trivial
theorem the_end.tw15533095640733450164 : True := trivial
theorem the_end.tw15550759260734674929 : True := trivial
theorem the_end.tw15632640968059674532 : True := trivial
theorem the_end.tw15638656292303910612 : True := trivial
theorem the_end.tw15640655857784856384 : True := trivial
theorem the_end.tw15657579846010381734 : True := trivial
theorem the_end.tw15671228922472968409 : True := trivial
theorem the_end.tw15693408597011621570 : True := trivial
theorem the_end.tw15716344942769282958 : True := trivial
theorem the_end.tw15716859152426764812 : True := trivial
theorem the_end.tw15742973864035852315 : True := trivial
theorem the_end.tw15752675872604995743 : True := trivial
theorem the_end.tw15756109832693842461 : True := trivial
theorem the_end.tw15758428192819032070 : True := trivial
theorem the_end.tw15768165390924239166 : True := trivial
theorem the_end.tw15803845730964064251 : True := trivial
theorem the_end.tw15830387398846307572 : True := trivial
theorem the_end.tw15852175420836416496 : True := trivial
theorem the_end.tw15857361915025232313 : True := trivial
theorem the_end.tw15898621788778821977 : True := trivial
theorem the_end.tw15932005161415161251 : True := trivial
theorem the_end.tw15941097790003536256 : True := trivial
theorem the_end.tw15975200568552206348 : True := trivial
theorem the_end.tw1597611901251333506 : True := trivial
theorem the_end.tw15980104513861838108 : True := trivial
theorem the_end.tw16001869104353210261 : True := trivial
theorem the_end.tw16049057118664907206 : True := trivial
theorem the_end.tw16082863431704167219 : True := trivial
theorem the_end.tw1613382830526159199 : True := trivial
theorem the_end.tw16139366947667658521 : True := trivial
theorem the_end.tw16157104883004618527 : True := trivial
theorem the_end.tw1619031947063206834 : True := trivial
theorem the_end.tw16218516149292127960 : True := trivial
theorem the_end.tw16294292211955863668 : True := trivial
theorem the_end.tw16304618132048920905 : True := trivial
theorem the_end.tw16309303065558552815 : True := trivial
theorem the_end.tw16310805451913948367 : True := trivial
theorem the_end.tw16357262198928585281 : True := trivial
theorem the_end.tw16386368244937763073 : True := trivial
theorem the_end.tw16460188484558148278 : True := trivial
theorem the_end.tw16461800040566656730 : True := trivial
theorem the_end.tw16486804147490194085 : True := trivial
theorem the_end.tw16498399838307383134 : True := trivial
theorem the_end.tw16515682829797574130 : True := trivial
theorem the_end.tw16521427291117744230 : True := trivial
theorem the_end.tw16588795196846623798 : True := trivial
theorem the_end.tw16602654577311188795 : True := trivial
theorem the_end.tw16606189843374136278 : True := trivial
theorem the_end.tw16608631278911093276 : True := trivial
theorem the_end.tw1661590253195647808 : True := trivial
theorem the_end.tw16658989405725295658 : True := trivial
theorem the_end.tw16674997965807746773 : True := trivial
theorem the_end.tw16697870524036098983 : True := trivial
theorem the_end.tw16711119312721594923 : True := trivial
theorem the_end.tw16755066303033868939 : True := trivial
theorem the_end.tw16795407871977159736 : True := trivial
theorem the_end.tw16811659528634848351 : True := trivial
theorem the_end.tw16849308962826411201 : True := trivial
theorem the_end.tw16863191020069002168 : True := trivial
theorem the_end.tw1686849862614174730 : True := trivial
theorem the_end.tw16874660786043780170 : True := trivial
theorem the_end.tw16892434451825179344 : True := trivial
theorem the_end.tw16925630322039619889 : True := trivial
theorem the_end.tw16935108863350990675 : True := trivial
theorem the_end.tw16943263864308310294 : True := trivial
theorem the_end.tw16998705168124527530 : True := trivial
theorem the_end.tw17015375847167481689 : True := trivial
theorem the_end.tw1706513821850085008 : True := trivial
theorem the_end.tw17071848164200032533 : True := trivial
theorem the_end.tw17118529090647022656 : True := trivial
theorem the_end.tw17133513759047874601 : True := trivial
theorem the_end.tw17161442757863479418 : True := trivial
theorem the_end.tw17252140125561211665 : True := trivial
theorem the_end.tw17271713081068233435 : True := trivial
theorem the_end.tw17301912096309268073 : True := trivial
theorem the_end.tw17303917686354220803 : True := trivial
theorem the_end.tw17355469585637771726 : True := trivial
theorem the_end.tw17410855349262169222 : True := trivial
theorem the_end.tw17424329627881367508 : True := trivial
theorem the_end.tw17600314016066171569 : True := trivial
theorem the_end.tw17600341340146227500 : True := trivial
theorem the_end.tw17605289260821141939 : True := trivial
theorem the_end.tw17637244660089018225 : True := trivial
theorem the_end.tw17653758326742466002 : True := trivial
theorem the_end.tw17669787584379044310 : True := trivial
theorem the_end.tw17696773430357046419 : True := trivial
theorem the_end.tw17699399733105779810 : True := trivial
theorem the_end.tw17721984679882982274 : True := trivial
theorem the_end.tw17738466746020195345 : True := trivial
theorem the_end.tw17786087758147506628 : True := trivial
theorem the_end.tw17820008692946616439 : True := trivial
theorem the_end.tw17844754190311521834 : True := trivial
theorem the_end.tw17850088517483894876 : True := trivial
theorem the_end.tw17868883965060450218 : True := trivial
theorem the_end.tw1788148172893751056 : True := trivial
theorem the_end.tw18049173388794597615 : True := trivial
theorem the_end.tw18073561090784693018 : True := trivial
theorem the_end.tw18077236862727930743 : True := trivial
theorem the_end.tw18086132560489791922 : True := trivial
theorem the_end.tw18122356761121999478 : True := trivial
theorem the_end.tw18161873854508976836 : True := trivial
theorem the_end.tw18173593057098202766 : True := trivial
theorem the_end.tw18197373358739503406 : True := trivial
theorem the_end.tw18203161076345527090 : True := trivial
theorem the_end.tw1822177773680438615 : True := trivial
theorem the_end.tw18241081547690523993 : True := trivial
theorem the_end.tw18326350615516715528 : True := trivial
theorem the_end.tw18372169962779849441 : True := trivial
theorem the_end.tw1840996227379401083 : True := trivial
theorem the_end.tw18444105036895638957 : True := trivial
theorem the_end.tw1862061319170049368 : True := trivial
theorem the_end.tw1879990422018261096 : True := trivial
theorem the_end.tw1949053226068445091 : True := trivial
theorem the_end.tw1993071274966193102 : True := trivial
theorem the_end.tw1993545076712984745 : True := trivial
theorem the_end.tw2012658249497214881 : True := trivial
theorem the_end.tw2102789914100765688 : True := trivial
theorem the_end.tw210721993499661887 : True := trivial
theorem the_end.tw2168735512108707557 : True := trivial
theorem the_end.tw2178272321153174210 : True := trivial
theorem the_end.tw2217044146071320418 : True := trivial
theorem the_end.tw2249080531693419482 : True := trivial
theorem the_end.tw2265451770496182987 : True := trivial
theorem the_end.tw2287081884256858221 : True := trivial
theorem the_end.tw2519483271668435472 : True := trivial
theorem the_end.tw2528676224494591926 : True := trivial
theorem the_end.tw2571637565753374063 : True := trivial
theorem the_end.tw2594221676742245222 : True := trivial
theorem the_end.tw269564102476705477 : True := trivial
theorem the_end.tw2765673979931295629 : True := trivial
theorem the_end.tw2777816704693626821 : True := trivial
theorem the_end.tw2831158871890563116 : True := trivial
theorem the_end.tw2985648443680543067 : True := trivial
theorem the_end.tw3004354964156872647 : True := trivial
theorem the_end.tw3010651026701213308 : True := trivial
theorem the_end.tw3028528042107548993 : True := trivial
theorem the_end.tw3029398037687855012 : True := trivial
theorem the_end.tw3033262195809375212 : True := trivial
theorem the_end.tw3059866294348390833 : True := trivial
theorem the_end.tw3114939571566078971 : True := trivial
theorem the_end.tw3152537994461844718 : True := trivial
theorem the_end.tw3163250646022508593 : True := trivial
theorem the_end.tw3184799556160420568 : True := trivial
theorem the_end.tw3185291523445326896 : True := trivial
theorem the_end.tw3203210340894183106 : True := trivial
theorem the_end.tw3207154741037661048 : True := trivial
theorem the_end.tw3233365986440293169 : True := trivial
theorem the_end.tw3237947045812985784 : True := trivial
theorem the_end.tw324406684165458708 : True := trivial
theorem the_end.tw3259739070243995009 : True := trivial
theorem the_end.tw3285837103044991436 : True := trivial
theorem the_end.tw3303362333765138876 : True := trivial
theorem the_end.tw3374657553730890382 : True := trivial
theorem the_end.tw3396967362977309208 : True := trivial
theorem the_end.tw3401416271493988801 : True := trivial
theorem the_end.tw3464339581874606901 : True := trivial
theorem the_end.tw348700279588115455 : True := trivial
theorem the_end.tw3517762638570392690 : True := trivial
theorem the_end.tw3527616499546721635 : True := trivial
theorem the_end.tw3544309535037286631 : True := trivial
theorem the_end.tw3596589447236949450 : True := trivial
theorem the_end.tw3597563678717710285 : True := trivial
theorem the_end.tw360159901356559275 : True := trivial
theorem the_end.tw3662436198591955886 : True := trivial
theorem the_end.tw3696735928912718622 : True := trivial
theorem the_end.tw3697484449162239978 : True := trivial
theorem the_end.tw3699661084564929363 : True := trivial
theorem the_end.tw3701850710843131198 : True := trivial
theorem the_end.tw3773882117106635293 : True := trivial
theorem the_end.tw3802121761006023299 : True := trivial
theorem the_end.tw3822322581473631975 : True := trivial
theorem the_end.tw3849475314835913405 : True := trivial
theorem the_end.tw3850762414060487102 : True := trivial
theorem the_end.tw3884275196716556139 : True := trivial
theorem the_end.tw3924168501523474399 : True := trivial
theorem the_end.tw3926342062916015250 : True := trivial
theorem the_end.tw3927673372005284975 : True := trivial
theorem the_end.tw3966327885029139284 : True := trivial
theorem the_end.tw4103854242566775429 : True := trivial
theorem the_end.tw4125506631606007750 : True := trivial
theorem the_end.tw4127253466179099964 : True := trivial
theorem the_end.tw4142545481698127599 : True := trivial
theorem the_end.tw416127161956640246 : True := trivial
theorem the_end.tw4172681664949118086 : True := trivial
theorem the_end.tw4225262934606779005 : True := trivial
theorem the_end.tw4235859178755072925 : True := trivial
theorem the_end.tw4289953463440521630 : True := trivial
theorem the_end.tw436381862882843609 : True := trivial
theorem the_end.tw4372861262209200187 : True := trivial
theorem the_end.tw438366275029662523 : True := trivial
theorem the_end.tw4438524977628009992 : True := trivial
theorem the_end.tw4458120407690848354 : True := trivial
theorem the_end.tw4461419264658571371 : True := trivial
theorem the_end.tw4472649228092070944 : True := trivial
theorem the_end.tw4494620031554926852 : True := trivial
theorem the_end.tw4494736440430678295 : True := trivial
theorem the_end.tw4610825259370310557 : True := trivial
theorem the_end.tw4625268634246294003 : True := trivial
theorem the_end.tw4638896460642973009 : True := trivial
theorem the_end.tw4654701064647703760 : True := trivial
theorem the_end.tw4660787481342411020 : True := trivial
theorem the_end.tw4662303353319581051 : True := trivial
theorem the_end.tw4673029591649428543 : True := trivial
theorem the_end.tw4737890208610836782 : True := trivial
theorem the_end.tw4775499466428891220 : True := trivial
theorem the_end.tw4778778603137982443 : True := trivial
theorem the_end.tw4782345645845173492 : True := trivial
theorem the_end.tw4785457217170623161 : True := trivial
theorem the_end.tw486098492728554635 : True := trivial
theorem the_end.tw4874388222169535777 : True := trivial
theorem the_end.tw4901751699474869627 : True := trivial
theorem the_end.tw4916355428793273331 : True := trivial
theorem the_end.tw4949121809363387459 : True := trivial
theorem the_end.tw4949995624490639841 : True := trivial
theorem the_end.tw4961811824776554444 : True := trivial
theorem the_end.tw4993317808348876330 : True := trivial
theorem the_end.tw4994955872902059918 : True := trivial
theorem the_end.tw5038989716181251506 : True := trivial
theorem the_end.tw5060728916455616869 : True := trivial
theorem the_end.tw5105253696181138300 : True := trivial
theorem the_end.tw5106230240529834455 : True := trivial
theorem the_end.tw5179934590134322812 : True := trivial
theorem the_end.tw5180702498930077290 : True := trivial
theorem the_end.tw5192169797941128228 : True := trivial
theorem the_end.tw5242443222982818402 : True := trivial
theorem the_end.tw5302625394644859784 : True := trivial
theorem the_end.tw532884187208669865 : True := trivial
theorem the_end.tw5333751389827524912 : True := trivial
theorem the_end.tw5388671653454495560 : True := trivial
theorem the_end.tw5401954052342638842 : True := trivial
theorem the_end.tw5436170292431803508 : True := trivial
theorem the_end.tw5456903976679281840 : True := trivial
theorem the_end.tw5473675967275956105 : True := trivial
theorem the_end.tw5551698674328717022 : True := trivial
theorem the_end.tw5574920008307186826 : True := trivial
theorem the_end.tw5586204355465172220 : True := trivial
theorem the_end.tw5606357826205431591 : True := trivial
theorem the_end.tw5613879061437593078 : True := trivial
theorem the_end.tw5633161822381616356 : True := trivial
theorem the_end.tw565956019850160600 : True := trivial
theorem the_end.tw5673485244227356080 : True := trivial
theorem the_end.tw5690023039967032220 : True := trivial
theorem the_end.tw577970172132504918 : True := trivial
theorem the_end.tw5817640361773268497 : True := trivial
theorem the_end.tw5825262317927301561 : True := trivial
theorem the_end.tw5871092765153546237 : True := trivial
theorem the_end.tw5921788486947381082 : True := trivial
theorem the_end.tw5943906278086036368 : True := trivial
theorem the_end.tw5975595033865567709 : True := trivial
theorem the_end.tw6015585772405722741 : True := trivial
theorem the_end.tw602232626281383143 : True := trivial
theorem the_end.tw6058818914159782743 : True := trivial
theorem the_end.tw6072458699428183913 : True := trivial
theorem the_end.tw6073197423286547533 : True := trivial
theorem the_end.tw6094127866189114478 : True := trivial
theorem the_end.tw6122442342661941844 : True := trivial
theorem the_end.tw6245430027333450452 : True := trivial
theorem the_end.tw6294881352161832700 : True := trivial
theorem the_end.tw6315417075388046963 : True := trivial
theorem the_end.tw6400068094299014049 : True := trivial
theorem the_end.tw640697025373681889 : True := trivial
theorem the_end.tw6417130390871209737 : True := trivial
theorem the_end.tw653294606010876631 : True := trivial
theorem the_end.tw6585206195993856903 : True := trivial
theorem the_end.tw6770741541898788349 : True := trivial
theorem the_end.tw6789122713678411465 : True := trivial
theorem the_end.tw6822799968816977271 : True := trivial
theorem the_end.tw6842465611556145640 : True := trivial
theorem the_end.tw6849135133977216741 : True := trivial
theorem the_end.tw6865553063397347944 : True := trivial
theorem the_end.tw6891804212687686590 : True := trivial
theorem the_end.tw6921133361166340060 : True := trivial
theorem the_end.tw6938813030056294497 : True := trivial
theorem the_end.tw6950168751678894922 : True := trivial
theorem the_end.tw6981178383079492760 : True := trivial
theorem the_end.tw6985171678482780021 : True := trivial
theorem the_end.tw6997825311868534072 : True := trivial
theorem the_end.tw7016907353967962207 : True := trivial
theorem the_end.tw7026499343691513026 : True := trivial
theorem the_end.tw7031573975969778790 : True := trivial
theorem the_end.tw7043530211729482548 : True := trivial
theorem the_end.tw7054045744277320945 : True := trivial
theorem the_end.tw7133780519637163082 : True := trivial
theorem the_end.tw7172706969650567305 : True := trivial
theorem the_end.tw7193736563434086410 : True := trivial
theorem the_end.tw7227701128260103964 : True := trivial
theorem the_end.tw7259359584917806601 : True := trivial
theorem the_end.tw7271724441144322845 : True := trivial
theorem the_end.tw7285731233926402602 : True := trivial
theorem the_end.tw7295006151720362982 : True := trivial
theorem the_end.tw7313233422305047104 : True := trivial
theorem the_end.tw7326886738331290586 : True := trivial
theorem the_end.tw7331917094957018334 : True := trivial
theorem the_end.tw7340907050187690952 : True := trivial
theorem the_end.tw738415986217972444 : True := trivial
theorem the_end.tw7433954764786310394 : True := trivial
theorem the_end.tw7454732936179600784 : True := trivial
theorem the_end.tw7545341759191819870 : True := trivial
theorem the_end.tw75584350054895597 : True := trivial
theorem the_end.tw760607589569483582 : True := trivial
theorem the_end.tw7638171825265707000 : True := trivial
theorem the_end.tw7720019406707323326 : True := trivial
theorem the_end.tw7742326985252727551 : True := trivial
theorem the_end.tw777585914077751629 : True := trivial
theorem the_end.tw7849997675016677049 : True := trivial
theorem the_end.tw7893371573773355808 : True := trivial
theorem the_end.tw7940742540316404274 : True := trivial
theorem the_end.tw7957962783046725904 : True := trivial
theorem the_end.tw7976599423870502201 : True := trivial
theorem the_end.tw8031637544665045538 : True := trivial
theorem the_end.tw8127385847014645117 : True := trivial
theorem the_end.tw8192798506388363629 : True := trivial
theorem the_end.tw8255158925537978208 : True := trivial
theorem the_end.tw8295728530132921968 : True := trivial
theorem the_end.tw8315587909175281039 : True := trivial
theorem the_end.tw831700029181764710 : True := trivial
theorem the_end.tw8320509600409504124 : True := trivial
theorem the_end.tw8324250119868699369 : True := trivial
theorem the_end.tw8336465630567628550 : True := trivial
theorem the_end.tw8415938069088773312 : True := trivial
theorem the_end.tw8438238982234873720 : True := trivial
theorem the_end.tw8442569869427055626 : True := trivial
theorem the_end.tw8449170590360642857 : True := trivial
theorem the_end.tw8450379495357122682 : True := trivial
theorem the_end.tw8477458192972392014 : True := trivial
theorem the_end.tw856305481524294316 : True := trivial
theorem the_end.tw8564431718836306518 : True := trivial
theorem the_end.tw8581262431289148431 : True := trivial
theorem the_end.tw8617348251033545501 : True := trivial
theorem the_end.tw8628569073567389209 : True := trivial
theorem the_end.tw8648633096617158856 : True := trivial
theorem the_end.tw8655053305730032323 : True := trivial
theorem the_end.tw8682502364132808653 : True := trivial
theorem the_end.tw8695155142046614823 : True := trivial
theorem the_end.tw8701151436846978632 : True := trivial
theorem the_end.tw8704107259870732854 : True := trivial
theorem the_end.tw8705369603210953811 : True := trivial
theorem the_end.tw8792479202369528477 : True := trivial
theorem the_end.tw8855976715972869485 : True := trivial
theorem the_end.tw8890656218694907124 : True := trivial
theorem the_end.tw8937803590894338655 : True := trivial
theorem the_end.tw895890785769787742 : True := trivial
theorem the_end.tw8994233810693395943 : True := trivial
theorem the_end.tw9099267517559748580 : True := trivial
theorem the_end.tw9185223913471834798 : True := trivial
theorem the_end.tw9191849800298482356 : True := trivial
theorem the_end.tw9207704668273072356 : True := trivial
theorem the_end.tw9292876935833149006 : True := trivial
theorem the_end.tw931198451941056514 : True := trivial
theorem the_end.tw933858088307348603 : True := trivial
theorem the_end.tw9339377145022868589 : True := trivial
theorem the_end.tw9366637088426740918 : True := trivial
theorem the_end.tw9391645095604200498 : True := trivial
theorem the_end.tw9407449041552048661 : True := trivial
theorem the_end.tw9419606630165449616 : True := trivial
theorem the_end.tw9430877818790243874 : True := trivial
theorem the_end.tw945182474796962347 : True := trivial
theorem the_end.tw9462019362505820815 : True := trivial
theorem the_end.tw9464262882133677662 : True := trivial
theorem the_end.tw9473721111460070506 : True := trivial
theorem the_end.tw9547630411497689365 : True := trivial
theorem the_end.tw9559125430717187345 : True := trivial
theorem the_end.tw9604486657074353750 : True := trivial
theorem the_end.tw9628831003410840814 : True := trivial
theorem the_end.tw9657160994204742597 : True := trivial
theorem the_end.tw9688100530000892380 : True := trivial
theorem the_end.tw9753524208294920453 : True := trivial
theorem the_end.tw9805933473009512581 : True := trivial
theorem the_end.tw9810877469666658702 : True := trivial
theorem the_end.tw9830806878369631921 : True := trivial
theorem the_end.tw9868100926268024317 : True := trivial
theorem the_end.tw9869679636535558824 : True := trivial
theorem the_end.tw9902047532311984342 : True := trivial
theorem the_end.tw9919232980699995368 : True := trivial
theorem the_end.tw9926632188035212284 : True := trivial
theorem the_end.tw9971829490555165671 : True := trivial
set_option Elab.async true in
theorem the_end : PySem.Challenge.rw_nn0375_01.Holds := by
  w_on
  o_law
  o_head (kHook hk.heap_1 [nat_lit 2, nat_lit 3, nat_lit 15, nat_lit 17, nat_lit 18, nat_lit 20, nat_lit 21, nat_lit 22, nat_lit 29, nat_lit 30, nat_lit 32, nat_lit 33, nat_lit 35, nat_lit 36, nat_lit 37, nat_lit 39, nat_lit 40, nat_lit 42, nat_lit 43, nat_lit 44, nat_lit 45, nat_lit 46, nat_lit 47, nat_lit 50, nat_lit 57, nat_lit 58, nat_lit 59, nat_lit 62, nat_lit 69, nat_lit 70, nat_lit 71, nat_lit 74, nat_lit 76, nat_lit 77, nat_lit 79, nat_lit 80, nat_lit 88, nat_lit 90, nat_lit 91, nat_lit 93, nat_lit 94, nat_lit 95, nat_lit 97, nat_lit 98, nat_lit 100, nat_lit 101, nat_lit 102, nat_lit 104, nat_lit 105, nat_lit 107, nat_lit 108, nat_lit 109, nat_lit 111, nat_lit 112, nat_lit 114, nat_lit 115, nat_lit 116, nat_lit 118, nat_lit 119, nat_lit 121, nat_lit 122, nat_lit 123, nat_lit 125, nat_lit 126, nat_lit 128, nat_lit 129, nat_lit 130, nat_lit 132, nat_lit 133, nat_lit 135, nat_lit 136, nat_lit 137, nat_lit 139, nat_lit 140, nat_lit 142, nat_lit 143, nat_lit 144, nat_lit 146, nat_lit 147, nat_lit 149, nat_lit 150, nat_lit 151, nat_lit 153, nat_lit 154, nat_lit 156, nat_lit 157, nat_lit 158, nat_lit 160, nat_lit 161, nat_lit 163, nat_lit 164, nat_lit 165, nat_lit 167, nat_lit 168, nat_lit 170, nat_lit 171, nat_lit 172, nat_lit 173, nat_lit 174, nat_lit 175, nat_lit 176, nat_lit 186, nat_lit 188, nat_lit 189, nat_lit 191, nat_lit 192, nat_lit 193, nat_lit 195, nat_lit 196, nat_lit 198, nat_lit 199, nat_lit 200, nat_lit 201, nat_lit 202, nat_lit 203, nat_lit 204, nat_lit 207, nat_lit 210, nat_lit 215, nat_lit 216, nat_lit 219, nat_lit 220, nat_lit 221, nat_lit 223, nat_lit 224, nat_lit 226, nat_lit 227, nat_lit 228, nat_lit 230, nat_lit 231, nat_lit 233, nat_lit 234, nat_lit 235, nat_lit 237, nat_lit 238, nat_lit 240, nat_lit 241, nat_lit 242, nat_lit 243, nat_lit 244, nat_lit 247, nat_lit 249, nat_lit 250, nat_lit 252, nat_lit 253, nat_lit 261, nat_lit 263, nat_lit 264, nat_lit 266, nat_lit 267, nat_lit 268, nat_lit 270, nat_lit 271, nat_lit 273, nat_lit 274, nat_lit 275, nat_lit 277, nat_lit 278, nat_lit 280, nat_lit 281, nat_lit 282, nat_lit 284, nat_lit 285, nat_lit 287, nat_lit 288, nat_lit 289, nat_lit 292, nat_lit 293, nat_lit 294, nat_lit 295, nat_lit 296, nat_lit 297, nat_lit 298, nat_lit 301, nat_lit 303, nat_lit 304, nat_lit 306, nat_lit 307, nat_lit 308, nat_lit 311, nat_lit 312, nat_lit 313, nat_lit 314, nat_lit 316, nat_lit 317, nat_lit 319, nat_lit 320, nat_lit 321, nat_lit 323, nat_lit 324, nat_lit 326, nat_lit 327, nat_lit 328, nat_lit 330, nat_lit 331, nat_lit 333, nat_lit 334, nat_lit 342, nat_lit 343, nat_lit 345, nat_lit 346, nat_lit 348, nat_lit 349, nat_lit 350, nat_lit 351, nat_lit 352, nat_lit 353, nat_lit 354, nat_lit 364, nat_lit 367, nat_lit 368, nat_lit 369, nat_lit 371, nat_lit 372, nat_lit 374, nat_lit 375, nat_lit 376, nat_lit 378, nat_lit 379, nat_lit 381, nat_lit 382, nat_lit 383, nat_lit 385, nat_lit 386, nat_lit 388, nat_lit 389, nat_lit 390, nat_lit 392, nat_lit 393, nat_lit 395, nat_lit 396, nat_lit 397, nat_lit 399, nat_lit 400, nat_lit 402, nat_lit 403, nat_lit 404, nat_lit 406, nat_lit 407, nat_lit 409, nat_lit 410, nat_lit 411, nat_lit 413, nat_lit 414, nat_lit 416, nat_lit 417, nat_lit 418, nat_lit 420, nat_lit 421, nat_lit 423, nat_lit 424, nat_lit 425, nat_lit 427, nat_lit 428, nat_lit 430, nat_lit 431, nat_lit 432, nat_lit 433, nat_lit 434, nat_lit 435, nat_lit 436, nat_lit 446, nat_lit 448, nat_lit 449, nat_lit 451, nat_lit 452, nat_lit 453, nat_lit 455, nat_lit 456, nat_lit 458, nat_lit 459, nat_lit 460, nat_lit 462, nat_lit 463, nat_lit 465, nat_lit 466, nat_lit 467, nat_lit 468, nat_lit 469, nat_lit 470, nat_lit 471, nat_lit 481, nat_lit 483, nat_lit 484, nat_lit 486, nat_lit 487, nat_lit 488, nat_lit 490, nat_lit 491, nat_lit 493, nat_lit 494, nat_lit 495, nat_lit 497, nat_lit 498, nat_lit 500, nat_lit 501, nat_lit 502, nat_lit 504, nat_lit 505, nat_lit 507, nat_lit 508, nat_lit 509, nat_lit 511, nat_lit 512, nat_lit 514, nat_lit 515, nat_lit 516, nat_lit 518, nat_lit 519, nat_lit 521, nat_lit 522, nat_lit 523, nat_lit 524, nat_lit 525, nat_lit 526, nat_lit 527, nat_lit 530, nat_lit 531, nat_lit 533, nat_lit 534, nat_lit 536, nat_lit 537, nat_lit 538, nat_lit 540, nat_lit 541, nat_lit 543, nat_lit 544, nat_lit 545, nat_lit 547, nat_lit 548, nat_lit 550, nat_lit 551, nat_lit 552, nat_lit 555, nat_lit 556, nat_lit 557, nat_lit 559, nat_lit 560, nat_lit 562, nat_lit 563, nat_lit 564, nat_lit 566, nat_lit 567, nat_lit 569, nat_lit 570, nat_lit 571, nat_lit 573, nat_lit 574, nat_lit 576, nat_lit 577, nat_lit 578, nat_lit 581, nat_lit 582, nat_lit 583, nat_lit 586, nat_lit 587] (fun _ => by kernel_rfl))
  (case hw => w_witness2)
  k_fill
  intro w s₀ s₁ mg mb G Y fa o pm cd doc dV kV ho hd' hcd hD hmg hg args vals as hpre hlay hrd hwl hlo
  clear hcd hD hd'
  have KX := kIn_of Y
  refine Ground.open G ?_
  intro T B D TE TW
  have hfa : fa = 587 := by
    have e := mg_of KX T.g (n := "law") (v := .ref 587) (by walk_at "is")
    have hmg' : mg "law" = some (.ref fa) := hmg
    rw [e] at hmg'; injection hmg' with q; injection q with q; exact q.symm
  subst hfa
  clear hmg ho
  wrow_args hpre hlay hrd hwl hlo
  rename IntsAre _ _ => hI
  rename Heap.IsList _ _ _ => hL
  rename ¬ (((63 : Nat) : Int) < _) => hc
  show wpAny _ _ (call (.ref 587) [.ref _]) _ _ _
  obtain ⟨lo, hlo, hlc, n, hld⟩ := hL
  refine c_law (G := s₁.heap) (g := s₁.gens) (o := s₁.os) (S := fun a => s₁.heap.get? a) ⟨⟨KX, ⟨_, T.g⟩, ⟨_, T.b, T.builtins⟩, T.nolimit⟩, fun _ _ e => e, fun _ _ e => e, rfl, rfl⟩ ⟨rfl, by decide +kernel, by decide +kernel⟩ rfl ⟨lo, hlo, hlc, n, hld⟩ hI (by omega) fun S' s' P => ?_
  refine GoodW.toG ⟨.inl ⟨.bool true, .bool true, [], rfl, fun _ => rfl, ?_, ?_, fun _ => ⟨.nil, fun _ h => nomatch h⟩⟩, fun b o e => P.keep b o (fun q => nomatch q) e, P.eo, P.eg.trans hg⟩
  · exact .bool true
  · refine postW_of (X := true) ?_ ?_ rfl
    · with_unfolding_all rfl
    · show (WTm.eq .res (.lit (.bool true))).value _ _ = _
      unfold WTm.value
      first | rfl | with_unfolding_all rfl | (simp [WTm.value]; done)

end Mine
theorem PySem.Challenge.cw_nn0375_01_holds : PySem.Challenge.rw_nn0375_01.Holds :=
  Mine.the_end
