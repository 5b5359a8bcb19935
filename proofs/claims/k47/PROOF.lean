import PyProof.Rows.All
import Wide.All
import OpenK.AllK
import Wide.FinOn
import HandS.ForMost
import HandS.GenList
import HandS.NestedK
import HandS.EndTab
import HandS.Codes
import HandS.IsInst
import HandS.Wide
import HandS.WideMore
import HandS.WideBits
import HandS.SortInts
import HandS.Flow
import HandS.Style
import HandS.Conv
import HandS.TupAny
import HandS.ListEq
import HandS.NoneIn
import HandS.Dict
import HandS.Comp
import PySem.Challenge.RW_floorward_k47_whole_steps_for_all_number
set_option Elab.async false
set_option linter.all false
set_option maxRecDepth 100000
set_option maxHeartbeats 4000000
/-! Own rules, part one: a heap cut at an address, a context whose entry is moved to a later state. -/
namespace G47
open PySem PySem.Spec PyProof.Rows L2 GenW

/-- the heap below n -/
def cutH (h : Heap) (n : Nat) : Heap := { h with objs := h.objs.extract 0 n }
theorem cut_objs {h : Heap} {n b : Nat} : (cutH h n).objs[b]? = if b < n then h.objs[b]? else none := by
  unfold cutH
  simp only [Array.getElem?_extract]
  by_cases hb : b < n
  · rw [if_pos hb]
    by_cases hs : b < h.objs.size
    · rw [if_pos (by omega)]; simp
    · rw [if_neg (by omega)]
      exact (Array.getElem?_eq_none (by omega)).symm
  · rw [if_neg hb, if_neg (by omega)]
theorem cut_get {h : Heap} {n b : Nat} (hb : b < n) : (cutH h n).get? b = h.get? b := by
  unfold Heap.get?
  rw [cut_objs, if_pos hb]
theorem cut_none {h : Heap} {n b : Nat} (hb : n ≤ b) : (cutH h n).get? b = none := by
  unfold Heap.get?
  rw [cut_objs, if_neg (by omega)]
theorem cut_some {h : Heap} {n b : Nat} {o : Obj} (e : (cutH h n).get? b = some o) : b < n ∧ h.get? b = some o := by
  by_cases hb : b < n
  · rw [cut_get hb] at e
    exact ⟨hb, e⟩
  · rw [cut_none (by omega)] at e
    cases e
theorem cut_size {h : Heap} {n : Nat} : (cutH h n).objs.size ≤ n := by
  unfold cutH
  simp only [Array.size_extract]
  omega

theorem cut_sizeE {h : Heap} {n : Nat} (hn : n ≤ h.objs.size) : (cutH h n).objs.size = n := by
  unfold cutH
  simp only [Array.size_extract]
  omega

/-- the context X entered at s, its heap cut at n, the abstract heap H -/
def cxAt (X : Cx) (n : Nat) (s : Shared) (H : Hp) : Cx := { X with s_0 := { s with heap := cutH s.heap n }, H_0 := H }

/-- what a generator's context has at all times; n0: the heap's size when its def was called -/
structure GX (X : Cx) (n0 : Nat) : Prop where
  mod : Mod X.K X.mg X.base
  kind : X.env.scope.kind = .function
  glob : X.env.globals = mainGlobals
  blt : X.env.builtins = builtinsNs
  above : n0 ≤ X.env.locals
  cells : ∀ x c, X.env.cells.lookup x ≠ some c
  nocell : ∀ x, ¬ (X.env.kindOf x = some .cell ∨ X.env.kindOf x = some .free)
  calm : X.calm = true
  hd : X.A.handled = none
  frames : X.A.frames = some X.stack
  stk : X.stack = X.env :: X.outer
  frame : X.env.frame = some X.env.locals
  ex : X.ex = []
  pn : X.pn = []
  bsz : X.base.objs.size ≤ n0
  low : ∀ b ∈ X.fs, b < n0
  out : X.A.frames ≠ none

/-- the frames below n stand in the cut heap too -/
theorem funs_cut {h base : Heap} {n : Nat} : ∀ {l : List Env}, (∀ b ∈ frs l, b < n) → h.FunFrames base l → (cutH h n).FunFrames base l
  | [], _, _ => trivial
  | env :: r, hl, hf => by
    obtain ⟨hk, ⟨L, o, e1, e2, e3, e4⟩, hr⟩ := hf
    have hL : L < n := hl L (by unfold frs; rw [List.filterMap_cons, e1]; exact List.mem_cons_self)
    refine ⟨hk, ⟨L, o, e1, e2, (cut_get hL).trans e3, e4⟩, funs_cut (fun b hb => hl b ?_) hr⟩
    unfold frs at hb ⊢
    rw [List.filterMap_cons, e1]
    exact List.mem_cons_of_mem _ hb

/-- what must hold of a state for a frame above the frames outer to run on from it -/
structure Ground (prog : Program) (w : World) (base : Heap) (outer : List Env) (s : Shared) (H : Hp) : Prop where
  bs : ∀ b o, base.get? b = some o → s.heap.get? b = some o ∧ H b = none
  funs : s.heap.FunFrames base outer
  frf : ∀ b ∈ frs outer, H b = none
  hok : HOk prog w H s.heap
  bare : AllBare s.gens
  ge : base.objs.size ≤ s.heap.objs.size
abbrev GroundX (X : Cx) (s : Shared) (H : Hp) : Prop := Ground X.prog X.w X.base X.outer s H

theorem ok_at {X : Cx} {n0 : Nat} {s : Shared} {H : Hp} (G : GX X n0) (g : GroundX X s H) : (cxAt X n0 s H).Ok where
  mod := G.mod
  kind := G.kind
  glob := G.glob
  blt := G.blt
  above := Nat.le_trans cut_size G.above
  inj := fun x y c e _ => absurd e (G.cells x c)
  has := fun x hx => absurd hx (G.nocell x)
  cab := fun x c _ e => absurd e (G.cells x c)
  hd := fun _ => G.hd
  frames := G.frames
  stk := .inr ⟨G.stk, G.frame⟩
  exf := fun b hb => by
    have hb : b ∈ X.ex := hb
    rw [G.ex] at hb
    cases hb
  bs := fun b o e => ⟨(cut_get (Nat.lt_of_lt_of_le (Heap.lt_size e) G.bsz)).trans (g.bs b o e).1, (g.bs b o e).2⟩
  bsz := by
    show X.base.objs.size ≤ (cutH s.heap n0).objs.size
    unfold cutH
    simp only [Array.size_extract]
    have h1 := G.bsz
    have h2 := g.ge
    omega
  noex := fun b o _ hb => by
    have hb : b ∈ X.ex := hb
    rw [G.ex] at hb
    cases hb
  exfs := fun b hb => by
    have hb : b ∈ X.ex := hb
    rw [G.ex] at hb
    cases hb
  funs := funs_cut G.low g.funs
  frf := g.frf

/-- the frame's names, as they stand -/
def LocAt (X : Cx) (σ : L2.St) (s : Shared) : Prop :=
  ∃ m, s.heap.Ns X.env.locals m ∧ ∀ (i : Nat) (x : Str) (v : V), X.N[i]? = some x → σ[i]? = some (some v) → Vis X.env.scope x → ∃ u, RelV v u ∧ Look X.env s.heap m x u
/-- records that are pinned, as they stand -/
def PinsAt (X : Cx) (ip : List (Addr × Obj)) (s : Shared) (H : Hp) : Prop :=
  ∀ p ∈ ip, s.heap.get? p.1 = some p.2 ∧ H p.1 = none ∧ p.1 ≠ X.env.locals ∧ p.1 ∉ X.fs ∧ ∀ v, p.2.data ≠ .cell v

/-- THE MOVE: the generator's frame at a state that it did not make -/
theorem inv_at {X : Cx} {n0 : Nat} {s : Shared} {H : Hp} {ip : List (Addr × Obj)} {σ : L2.St} (G : GX X n0) (g : GroundX X s H) (hl : LocAt X σ s) (hf : H X.env.locals = none) (hp : PinsAt X ip s H) (hn : σ.length = X.N.length) :
    Inv (cxAt X n0 s H) ip σ H s := by
  refine ⟨ok_at G g, rfl, g.bare, ⟨fun b o e _ _ _ => (cut_some e).2, fun b o e _ _ _ => ⟨o.slots, (cut_some e).2⟩, fun _ _ _ z _ => z, fun b o e _ => ⟨o, (cut_some e).2⟩, fun _ _ z => z, fun _ _ _ z => z, fun b ps z => ⟨#[], by
      have z : H b = some (.tbl ps) := z
      rw [z]
      simp⟩⟩,
    hl, fun x c e => absurd e (G.cells x c), hf, fun x c e => absurd e (G.cells x c), fun p h => ?_, g.hok, hn⟩
  have h : p ∈ X.pn ++ ip := h
  rw [G.pn] at h
  exact hp p h

section
variable {X : Cx} {n0 : Nat} {s₀ s : Shared} {Hr H : Hp} {ip : List (Addr × Obj)} {σ : L2.St}
theorem at_ground (G : GX X n0) (I : Inv (cxAt X n0 s₀ Hr) ip σ H s) : GroundX X s H where
  bs := I.bs
  funs := I.funs
  frf := fun b hb => I.stkFree b (by
    show b ∈ frs X.stack
    rw [G.stk]
    unfold frs
    rw [List.filterMap_cons, G.frame]
    exact List.mem_cons_of_mem _ hb)
  hok := I.hok
  bare := I.bare
  ge := Nat.le_trans I.ok.bsz I.sz
theorem at_pins (I : Inv (cxAt X n0 s₀ Hr) ip σ H s) : PinsAt X ip s H := fun p hp => I.pin p (List.mem_append_right _ hp)
/-- what the frame's own record is -/
theorem at_loc (I : Inv (cxAt X n0 s₀ Hr) ip σ H s) : ∃ o, s.heap.get? X.env.locals = some o ∧ (∀ v, o.data ≠ .cell v) ∧ ∀ s' : Shared, s'.heap.get? X.env.locals = some o → (∀ x c, X.env.cells.lookup x ≠ some c) → LocAt X σ s' := by
  obtain ⟨m, ⟨o, es, ep, ho, hd, r⟩, hl⟩ := I.loc
  refine ⟨o, ho, fun v z => ?_, fun s' e hc => ⟨m, ⟨o, es, ep, e, hd, r⟩, fun i x v e1 e2 e3 => ?_⟩⟩
  · rw [hd] at z
    cases z
  · obtain ⟨u, ru, l⟩ := hl i x v e1 e2 e3
    refine ⟨u, ru, ?_⟩
    rcases l with l | ⟨_, c, z, _⟩
    · exact .inl l
    · exact absurd z (hc x c)
end
end G47

/-! Own rules, part two: the statements of a generator's body whose consumer is a for loop. -/
namespace G47
open PySem PySem.Spec PyProof.Rows L2 GenW

/-- what a generator hands out. Item k Hr x H: of the item number k, asked for at Hr, handed out at H; End k Hr H: of its end behind k items; Keep H: what it leans on whenever it is woken; top: more than all that is ever handed out -/
structure GSpec where
  top : Nat
  Item : Nat → Hp → V → Hp → Prop
  End : Nat → Hp → Hp → Prop
  Keep : Hp → Prop
/-- what is agreed with the consumer. n0: the heap's size at the def's call; CI k H s: how the consumer stands when it asks for the item number k; self: the generator's own object -/
structure Pro extends GSpec where
  n0 : Nat
  CI : Nat → Hp → Shared → Prop
  self : Addr × Obj
def CiOk (prog : Program) (w : World) (base : Heap) (outer : List Env) (P : Pro) : Prop := ∀ k H s, P.CI k H s → Ground prog w base outer s H ∧ P.Keep H ∧ P.n0 ≤ s.heap.objs.size
structure ProOk (X : Cx) (P : Pro) : Prop where
  gx : GX X P.n0
  noexc : ∀ e s, ¬ X.xe e s
  ci : CiOk X.prog X.w X.base X.outer P

/-- how the state s with H lies to the state s₀ with Hr at which the generator was woken -/
structure Since (prog : Program) (w : World) (outer : List Env) (n0 : Nat) (s₀ : Shared) (Hr : Hp) (s : Shared) (H : Hp) : Prop where
  os : s.os = s₀.os
  bare : AllBare s.gens
  hok : HOk prog w H s.heap
  un : Un (frs outer) [] Hr H (cutH s₀.heap n0) s.heap
/-- records of the generator's own -/
def Own (n0 : Nat) (gp : List (Addr × Obj)) (s : Shared) (H : Hp) : Prop := ∀ p ∈ gp, s.heap.get? p.1 = some p.2 ∧ H p.1 = none ∧ n0 ≤ p.1 ∧ ∀ v, p.2.data ≠ .cell v
def GYP (prog : Program) (w : World) (outer : List Env) (P : Pro) : Protocol := fun n s₀ v s kap =>
  ∃ k Hr H x gp, n + 1 + k = P.top ∧ P.CI k Hr s₀ ∧ P.Item k Hr x H ∧ RelV x v ∧ Since prog w outer P.n0 s₀ Hr s H ∧ P.self ∈ gp ∧ Own P.n0 gp s H ∧
    ∀ s' H', P.CI (k + 1) H' s' → (∀ p ∈ gp, s'.heap.get? p.1 = some p.2 ∧ H' p.1 = none) → kap (.send .none) s'
def GRP (prog : Program) (w : World) (outer : List Env) (P : Pro) : GenEnd := fun n s₀ r s =>
  ((r = .ok (.ret .none) ∨ r = .ok .next) ∧ ∃ k Hr H, n + k = P.top ∧ P.CI k Hr s₀ ∧ P.End k Hr H ∧ Since prog w outer P.n0 s₀ Hr s H) ∨ ∃ e, r = .error e ∧ False

/-- what holds at a point: the abstract heap at the last waking, how many items are out, the names, the heap -/
abbrev GD := Hp → Nat → L2.St → Hp → Prop
abbrev TGd := GD → GD
/-- where the generator's code stands -/
structure GAt (X : Cx) (A : Around) (c : Code) (fs : List Frame) (gd : Bool → Bool) : Prop where
  over : A.over c fs = X.A
  split : splitAtGen fs = none
  guard : fs.any Frame.guarded = false
  gd : gd false = false
def IpOk (P : Pro) (ip : List (Addr × Obj)) : Prop := P.self ∈ ip ∧ ∀ p ∈ ip, P.n0 ≤ p.1
/-- what is ahead, from wherever D holds -/
def Ahead (X : Cx) (P : Pro) (A : Around) (c : Code) (fs : List Frame) (t : Sem PySem.Fin) (ip : List (Addr × Obj)) (D : GD) : Prop :=
  ∀ n k s₀ Hr s σ H, n + k = P.top → P.CI k Hr s₀ → Inv (cxAt X P.n0 s₀ Hr) ip σ H s → IpOk P ip → D Hr k σ H → Seg (model X.prog X.w) A (GRP X.prog X.w X.outer P) (GYP X.prog X.w X.outer P) n s₀ c t fs s
structure GSt (X : Cx) (P : Pro) (st : Stmt) (t : TGd) : Prop where
  run : ∀ A c fs K J gd lv ip D, GAt X A c fs gd → Ahead X P A c fs (K .next) ip D → Ahead X P A c fs ((exec st X.env).wrap K J gd lv) ip (t D)
structure GSts (X : Cx) (P : Pro) (st : List Stmt) (t : TGd) : Prop where
  run : ∀ A c fs K J gd lv ip D, GAt X A c fs gd → Ahead X P A c fs (K .next) ip D → Ahead X P A c fs ((execs st X.env).wrap K J gd lv) ip (t D)

section
variable {X : Cx} {P : Pro} {st : Stmt} {rest : List Stmt}
def gPlain (t : TS) : TGd := fun D Hr k σ H => t { nx := D Hr k, rt := fun _ _ => False } σ H
theorem gst_plain {t : TS} (ok : ProOk X P) (h : ∀ s₀ Hr, PS (cxAt X P.n0 s₀ Hr) st t) : GSt X P st (gPlain t) := by
  refine ⟨fun A c fs K J gd lv ip D g fin n k s₀ Hr s σ H hn hc I hip hd => ?_⟩
  refine seg_wrap ?_
  rw [g.over]
  refine wpAny_mono ((h s₀ Hr).run ip s σ H _ I hd) (fun f s' hs => ?_) fun e s' hx => absurd hx (ok.noexc e s')
  cases f with
  | next =>
    obtain ⟨σ', H', I', q⟩ := hs
    exact fin n k s₀ Hr s' σ' H' hn hc I' hip q
  | brk => obtain ⟨_, _, _, q⟩ := hs; exact q.elim
  | cont => obtain ⟨_, _, _, q⟩ := hs; exact q.elim
  | ret u => obtain ⟨_, _, _, _, _, q⟩ := hs; exact q.elim
theorem gsts_nil : GSts X P [] (fun D => D) :=
  ⟨fun A c fs K J gd lv ip D g fin n k s₀ Hr s σ H hn hc I hip hd => seg_execs_nil (fin n k s₀ Hr s σ H hn hc I hip hd)⟩
theorem gsts_cons {t u : TGd} (a : GSt X P st t) (b : GSts X P rest u) : GSts X P (st :: rest) (fun D => t (u D)) := by
  refine ⟨fun A c fs K J gd lv ip D g fin n k s₀ Hr s σ H hn hc I hip hd => ?_⟩
  refine seg_execs_cons ?_
  exact a.run A c fs _ J gd lv ip (u D) g (fun n' k' s₀' Hr' s' σ' H' hn' hc' I' hip' hd' => b.run A c fs K J gd lv ip D g fin n' k' s₀' Hr' s' σ' H' hn' hc' I' hip' hd') n k s₀ Hr s σ H hn hc I hip hd

/-! ### yield -/
theorem since_of {s₀ s : Shared} {Hr H : Hp} {ip : List (Addr × Obj)} {σ : L2.St} (I : Inv (cxAt X P.n0 s₀ Hr) ip σ H s) (hex : X.ex = []) : Since X.prog X.w X.outer P.n0 s₀ Hr s H := by
  refine ⟨I.os, I.bare, I.hok, ?_⟩
  have u := I.base
  have e : (cxAt X P.n0 s₀ Hr).ex = [] := hex
  rw [e] at u
  exact u
def gYield (P : Pro) (te : TE) : TGd := fun D Hr k σ H => k < P.top ∧ te σ H fun x H1 => P.Item k Hr x H1 ∧ ∀ H', P.Keep H' → D H' (k + 1) σ H'
theorem gst_yield {e : Expr} {yp pos : Pos} {te : TE} (ok : ProOk X P) (he : ∀ s₀ Hr, PE (cxAt X P.n0 s₀ Hr) e te) (hco : X.env.scope.isCoroutine = false := by rfl) (hi : interactive X.env = false := by rfl) :
    GSt X P (.Expr (.Yield (some e) yp) pos) (gYield P te) := by
  refine ⟨fun A c fs K J gd lv ip D g fin n k s₀ Hr s σ H hn hc I hip hd => ?_⟩
  obtain ⟨hlt, hd⟩ := hd
  obtain ⟨n, rfl⟩ : ∃ m, n = m + 1 := ⟨n - 1, by omega⟩
  refine seg_Expr_Yield g.split g.gd g.guard ?_ hco hi
  rw [g.over]
  refine wpAny_mono ((he s₀ Hr).run ip s σ H _ I hd) (fun v s' hv => ?_) fun e s' hx => absurd hx (ok.noexc e s')
  obtain ⟨x, H1, I1, rv, hx, hq⟩ := hv
  obtain ⟨oL, hL, nL, again⟩ := at_loc I1
  intro kap hk
  refine ⟨k, Hr, H1, x, (X.env.locals, oL) :: ip, by omega, hc, hx, rv, since_of I1 ok.gx.ex, List.mem_cons_of_mem _ hip.1, fun p hp => ?_, fun s2 H2 hc2 h2 => hk .none s2 ?_⟩
  · rcases List.mem_cons.mp hp with z | z
    · rw [z]
      exact ⟨hL, I1.free, ok.gx.above, nL⟩
    · obtain ⟨z1, z2, _, _, z5⟩ := at_pins I1 p z
      exact ⟨z1, z2, hip.2 p z, z5⟩
  · obtain ⟨gr, kp, _⟩ := ok.ci _ _ _ hc2
    have hl2 := h2 (X.env.locals, oL) List.mem_cons_self
    have I2 : Inv (cxAt X P.n0 s2 H2) ip σ H2 s2 := inv_at ok.gx gr (again s2 hl2.1 ok.gx.cells) hl2.2 (fun p hp => by
      obtain ⟨_, _, z3, z4, z5⟩ := at_pins I1 p hp
      obtain ⟨y1, y2⟩ := h2 p (List.mem_cons_of_mem _ hp)
      exact ⟨y1, y2, z3, z4, z5⟩) I1.len
    exact fin n (k + 1) s2 H2 s2 σ H2 (by omega) hc2 I2 hip (hq H2 kp)

/-! ### loops -/
theorem gat_loop {A : Around} {c c' : Code} {fs : List Frame} {gd : Bool → Bool} {kk : Result → Sem PySem.Fin} {l kp : List Value} {p : Pos} (g : GAt X A c fs gd) (hw : c'.weight = 0) (hu : c'.cUnits = 0) : GAt X A c' (.ret kk none (gd false) l c p kp :: fs) id where
  over := (over_loop hw hu).trans g.over
  split := by
    show Option.map _ (splitAtGen fs) = none
    rw [g.split]
    rfl
  guard := by
    show (gd false || fs.any Frame.guarded) = false
    rw [g.gd, g.guard]
    rfl
  gd := rfl
def gWhile (c : TT) (tb : TGd) : TGd := fun D Hr k σ H => ∃ W : Nat → GD, (∃ m, W m Hr k σ H) ∧ ∀ m Hr k σ H, W m Hr k σ H → c σ H fun b H1 => if b = true then tb (fun Hr' k' σ' H' => ∃ m', m' < m ∧ W m' Hr' k' σ' H') Hr k σ H1 else D Hr k σ H1
theorem gst_while {test : Expr} {body : List Stmt} {pos : Pos} {tc : TT} {tb : TGd} (ok : ProOk X P) (hc : ∀ s₀ Hr, PT (cxAt X P.n0 s₀ Hr) test tc) (hb : GSts X P body tb) : GSt X P (.While test body [] pos) (gWhile tc tb) := by
  refine ⟨fun A c fs K J gd lv ip D g fin n k s₀ Hr s σ H hn hci I hip hd => ?_⟩
  obtain ⟨W, ⟨m0, w0⟩, turn⟩ := hd
  refine seg_While fun p => ?_
  have gl := fun (kk : Result → Sem PySem.Fin) => gat_loop (kk := kk) (c' := .whileLoop test body [] X.env) (l := lv []) (kp := []) (p := p) g rfl rfl
  suffices loop : ∀ m, Ahead X P A (.whileLoop test body [] X.env) _ ((model X.prog X.w).den (.whileLoop test body [] X.env)) ip (W m) from loop m0 n k s₀ Hr s σ H hn hci I hip w0
  intro m
  induction m using Nat.strongRecOn with
  | ind m ih =>
    intro n k s₀ Hr s σ H hn hci I hip w
    refine seg_whileLoop ?_
    rw [(gl _).over]
    refine wpAny_mono ((hc s₀ Hr).run ip s σ H _ I (turn m Hr k σ H w)) (fun b s' hq => ?_) fun e s' hx => absurd hx (ok.noexc e s')
    obtain ⟨H2, I2, q2⟩ := hq
    cases b with
    | true =>
      rw [if_pos rfl]
      refine hb.run A _ _ _ _ id id ip _ (gl _) (fun n' k' s₀' Hr' s3 σ3 H3 hn' hc' I3 hip' w3 => ?_) n k s₀ Hr s' σ H2 hn hci I2 hip q2
      obtain ⟨m', hm, w3⟩ := w3
      exact seg_again rfl (ih m' hm n' k' s₀' Hr' s3 σ3 H3 hn' hc' I3 hip' w3)
    | false =>
      rw [if_neg Bool.false_ne_true]
      refine seg_execs_nil ?_
      exact seg_leaf (.ok .next) (fin n k s₀ Hr s' σ H2 hn hci I2 hip q2)
end
end G47

/-! Own rules, part three: a for loop within a generator's body. -/
namespace G47
open PySem PySem.Spec PyProof.Rows L2 GenW
open Sem (wp)

section
variable {prog : Program} {w : World} {A : Around} {R : GenEnd} {Y : Protocol} {n : Nat} {s₀ : Shared} {c : Code} {fs : List Frame} {s : Shared} {env : Env}
  {K : Flow → Sem PySem.Fin} {J : Value → Sem PySem.Fin} {gd : Bool → Bool} {lv : List Value → List Value}
abbrev backK (env : Env) (K : Flow → Sem PySem.Fin) (J : Value → Sem PySem.Fin) (gd : Bool → Bool) (lv : List Value → List Value) : Result → Sem PySem.Fin := fun r =>
  ((match r with | .ok f => (.pure f : Sem Flow) | .error e => .raise e).onRaise (cameBack env)).wrap K J gd lv
/-- a for statement whose parts raise nothing -/
theorem seg_ForN {tg iter : Expr} {body orelse : List Stmt} {pos : Pos} (hs : ∀ x, foldedSetIterable iter env x = pure x)
    (h : wpAny (model prog w) (A.over c fs) (eval iter env) (fun v s1 => wpAny (model prog w) (A.over c fs) (pyIter v) (fun it s2 =>
      ∀ p, Seg (model prog w) A R Y n s₀ (.forLoop tg it body orelse env) ((model prog w).den (.forLoop tg it body orelse env)) (.ret (backK env K J gd lv) none (gd false) (lv []) c p [] :: fs) s2) (fun _ _ => False) s1) (fun _ _ => False) s) :
    Seg (model prog w) A R Y n s₀ c ((exec (.For tg iter body orelse pos) env).wrap K J gd lv) fs s := by
  rw [exec_For]
  refine seg_bind_wrap (wpAny_standAt ?_)
  refine seg_bind_wrap (wpAny_mono h (fun v s1 h1 => ?_) fun _ _ z => z.elim)
  refine seg_bind_wrap (wpAny_of_eq (hs v) ?_)
  refine seg_bind_wrap (wpAny_standAt ?_)
  refine seg_bind_wrap (wpAny_holding (wpAny_mono h1 (fun it s2 h2 => ?_) fun _ _ z => z.elim))
  exact seg_call h2
/-- the continuation behind a for's body -/
abbrev turnK (tg : Expr) (it : Value) (body orelse : List Stmt) (env : Env) : Flow → Sem PySem.Fin := fun f => match f with
  | .next | .cont => .pure (.again (.forLoop tg it body orelse env))
  | .brk => .pure (.done .next)
  | .ret v => .pure (.done (.ret v))
abbrev noteK (env : Env) : Value → Sem PySem.Fin := fun e => (do noteFrame e env; theTreesLotGoes e : Sem Unit).wrap (fun _ => .raise e) .raise id id
theorem seg_forLoopN {tg : Expr} {it : Value} {body orelse : List Stmt}
    (h : wpAny (model prog w) (A.over (.forLoop tg it body orelse env) fs) (pyNext it) (fun r s1 => match r with
      | none => Seg (model prog w) A R Y n s₀ (.forLoop tg it body orelse env) (.pure (.again (.block orelse env))) fs s1
      | some v => wpAny (model prog w) (A.over (.forLoop tg it body orelse env) fs) (letOwnedTupleGo tg it v) (fun _ s2 =>
          wpAny (model prog w) (A.over (.forLoop tg it body orelse env) fs) (assign tg env v) (fun _ s3 =>
            Seg (model prog w) A R Y n s₀ (.forLoop tg it body orelse env) ((execs body env).wrap (turnK tg it body orelse env) (noteK env) id id) fs s3) (fun _ _ => False) s2) (fun _ _ => False) s1) (fun _ _ => False) s) :
    Seg (model prog w) A R Y n s₀ (.forLoop tg it body orelse env) ((model prog w).den (.forLoop tg it body orelse env)) fs s := by
  show Seg _ A R Y n s₀ _ ((forTurn tg it body orelse env).onRaise (fun x => do noteFrame x env; theTreesLotGoes x)) fs s
  unfold forTurn
  rw [Sem.onRaise_eq_wrap]
  refine seg_bind_wrap (wpAny_standAt ?_)
  refine seg_bind_wrap (wpAny_onRaise (wpAny_mono h (fun r s1 h1 => ?_) fun _ _ z => z.elim))
  cases r with
  | none => exact h1
  | some v =>
    refine seg_bind_wrap (wpAny_mono h1 (fun _ s2 h2 => ?_) fun _ _ z => z.elim)
    refine seg_bind_wrap (wpAny_mono h2 (fun _ s3 h3 => ?_) fun _ _ z => z.elim)
    rw [Sem.bind_eq_wrap', Sem.wrap_wrap]
    rw [Sem.wrap_congr (execs body env) _ _ (K' := turnK tg it body orelse env) (H' := noteK env) (fun f => by cases f <;> rfl)
      (fun e => by first | exact Sem.bind_eq_wrap _ _ | (show (do noteFrame e env; theTreesLotGoes e : Sem Unit).bind (fun _ => .raise e) = _; rw [Sem.bind_eq_wrap]))]
    exact h3
theorem seg_blockEnd {c' : Code} (h : Seg (model prog w) A R Y n s₀ (.block [] env) (.pure (.done .next)) fs s) : Seg (model prog w) A R Y n s₀ c' (.pure (.again (.block [] env))) fs s := by
  refine seg_again rfl ?_
  show Seg _ A R Y n s₀ _ ((execs [] env).onRaise (fun x => do noteFrame x env; theTreesLotGoes x) >>= fun f => pure (PySem.Fin.done f)) fs s
  exact h
end

section
variable {X : Cx} {P : Pro}
def gFor (wi : TI) (g : TG) (tb : TGd) : TGd := fun D Hr k σ H => wi σ H fun It H1 => ∃ W : Nat → Nat → GD, (∃ m, W 0 m Hr k σ H1) ∧ ∀ i m Hr k σ H, W i m Hr k σ H →
  (It.stop i H ∧ D Hr k σ H) ∨ (It.go i H ∧ ∀ x H', It.yld i H x H' → g x σ H' fun σ2 H2 => tb (fun Hr' k' σ' H' => ∃ m', m' < m ∧ W (i + 1) m' Hr' k' σ' H') Hr k σ2 H2)
theorem gst_for {tg iter : Expr} {body : List Stmt} {pos : Pos} {wi : TI} {gg : TG} {tb : TGd} (ok : ProOk X P) (hi : ∀ s₀ Hr, PI (cxAt X P.n0 s₀ Hr) tg iter wi) (hg : ∀ s₀ Hr, PG (cxAt X P.n0 s₀ Hr) tg gg) (hb : GSts X P body tb)
    (hs : ∀ x, foldedSetIterable iter X.env x = pure x := by intro _; rfl) : GSt X P (.For tg iter body [] pos) (gFor wi gg tb) := by
  refine ⟨fun A c fs K J gd lv ip D g fin n k s₀ Hr s σ H hn hci I hip hd => ?_⟩
  have nox : ∀ {e s}, X.xe e s → False := fun {e s} z => ok.noexc e s z
  refine seg_ForN hs ?_
  rw [g.over]
  refine wpAny_mono ((hi s₀ Hr).run ip s σ H _ I hd) (fun v s1 h1 => wpAny_mono h1 (fun itv s2 h2 => ?_) fun _ _ z => nox z) fun _ _ z => nox z
  intro p
  obtain ⟨it, fp, tn, It, H2, e, I2, T, st2, f2, W, ⟨m0, w0⟩, turn⟩ := h2
  subst e
  have gl := gat_loop (kk := backK X.env K J gd lv) (c' := .forLoop tg (.ref it) body [] X.env) (l := lv []) (kp := []) (p := p) g rfl rfl
  -- the iterator's records are old enough to be the generator's own
  have low : ∀ b ∈ fp, b ≠ X.env.locals ∧ b ∉ X.fs ∧ P.n0 ≤ b ∧ ∀ q ∈ ip, q.1 ≠ b := fun b hb => by
    obtain ⟨_, f1, f3, f4, _, f6⟩ := f2 b hb
    refine ⟨f1, f3, ?_, fun q hq => f6 q (List.mem_append_right _ hq)⟩
    rcases f4 with z | z
    · have z : b ∈ X.ex := z
      rw [ok.gx.ex] at z
      cases z
    · have z : (cutH s₀.heap P.n0).objs.size ≤ b := z
      rw [cut_sizeE (ok.ci _ _ _ hci).2.2] at z
      exact z
  have stat : ∀ {s₀ : Shared} {Hr H' : Hp}, (∀ b ∈ fp, H' b = none) → ∀ b ∈ fp, FpOk (cxAt X P.n0 s₀ Hr) ip H' b := fun {s₀ Hr H'} hz b hb => by
    obtain ⟨l1, l2, l3, l4⟩ := low b hb
    refine ⟨hz b hb, l1, l2, .inr (Nat.le_trans cut_size l3), fun x c e => absurd e (ok.gx.cells x c), fun q hq => ?_⟩
    have hq : q ∈ X.pn ++ ip := hq
    rw [ok.gx.pn] at hq
    exact l4 q hq
  suffices loop : ∀ (m i n k : Nat) (s₀ : Shared) (Hr : Hp) (s : Shared) (σ : L2.St) (H : Hp), n + k = P.top → P.CI k Hr s₀ → Inv (cxAt X P.n0 s₀ Hr) ip σ H s → tn i s.heap → (∀ b ∈ fp, H b = none) → W i m Hr k σ H →
      Seg (model X.prog X.w) A (GRP X.prog X.w X.outer P) (GYP X.prog X.w X.outer P) n s₀ (.forLoop tg (.ref it) body [] X.env) ((model X.prog X.w).den (.forLoop tg (.ref it) body [] X.env)) (.ret (backK X.env K J gd lv) none (gd false) (lv []) c p [] :: fs) s from
    loop m0 0 n k s₀ Hr s2 σ H2 hn hci I2 st2 (fun b hb => (f2 b hb).1) w0
  intro m
  induction m using Nat.strongRecOn with
  | ind m ih =>
    intro i n k s₀ Hr s σ H hn hci I st fr w
    refine seg_forLoopN ?_
    rw [gl.over]
    rcases turn i m Hr k σ H w with ⟨stop, qd⟩ | ⟨go, step⟩
    · refine wpAny_mono (T.done (cxAt X P.n0 s₀ Hr) rfl rfl rfl ok.gx.calm i ip s σ H (fun _ _ => False) I (stat fr) st stop) (fun r s1 hr => ?_) fun _ _ z => z
      obtain ⟨rfl, I1⟩ := hr
      refine seg_blockEnd ?_
      exact seg_leaf (.ok .next) (fin n k s₀ Hr s1 σ H hn hci I1 hip qd)
    · refine wpAny_mono (T.item (cxAt X P.n0 s₀ Hr) rfl rfl rfl ok.gx.calm i ip s σ H (fun _ _ => False) I (stat fr) st go) (fun r s1 hr => ?_) fun _ _ z => z
      obtain ⟨u, rfl, h1⟩ := hr
      refine wpAny_mono h1 (fun _ s2 hq => ?_) fun _ _ z => z
      obtain ⟨x, H5, I5, r5, y5, st5, fr5⟩ := hq
      have I6 := I5.pinned (stat fr5) (T.obj _ _ st5)
      refine wpAny_mono ((hg s₀ Hr).run _ s2 σ H5 x u _ I6 r5 (step x H5 y5)) (fun _ s3 hq => ?_) fun _ _ z => nox z
      obtain ⟨σ6, H6, I6', q6⟩ := hq
      refine hb.run A _ _ _ _ id id (ip ++ pinsAt fp s2.heap) _ gl (fun n' k' s₀' Hr' s7 σ7 H7 hn' hc' I7 hip' w7 => ?_) n k s₀ Hr s3 σ6 H6 hn hci I6' ⟨List.mem_append_left _ hip.1, fun q hq => ?_⟩ q6
      · obtain ⟨m', hm, w7⟩ := w7
        have pin : ∀ b ∈ fp, ∀ o, s2.heap.get? b = some o → s7.heap.get? b = some o ∧ H7 b = none := fun b hb o e => by
          have z := I7.pin (b, o) (List.mem_append_right _ (List.mem_append_right _ (mem_pinsAt hb e)))
          exact ⟨z.1, z.2.1⟩
        refine seg_again rfl (ih m' hm (i + 1) n' k' s₀' Hr' s7 σ7 H7 hn' hc' I7.unpinned (T.keep _ _ _ st5 fun b hb o e => (pin b hb o e).1) (fun b hb => ?_) w7)
        obtain ⟨o, e, _⟩ := T.obj _ _ st5 b hb
        exact (pin b hb o e).2
      · rcases List.mem_append.mp hq with z | z
        · exact hip.2 q z
        · exact (low q.1 (of_pinsAt z).1).2.2.1
end
end G47

/-! Own rules, part four: the call of a generator def, what it makes. -/
namespace G47
open PySem PySem.Spec PyProof.Rows L2 GenW
open Sem (wp)

/-- the context of a generator def's body (no cells), whoever wakes it -/
def gCx (P : Program) (w : World) (K : PySem.W.Frag) (mg : Str → Option Value) (base : Heap) (N : List Str) (qual : Str) (scope : Scope) (f : Addr) (cd : Value) (A : Around) (outer : List Env) (s : Shared) : Cx where
  prog := P
  w := w
  K := K
  mg := mg
  base := base
  A := A.deeper (envOfC qual scope s.heap.objs.size f cd)
  N := N
  s_0 := s
  H_0 := fun _ => none
  env := envOfC qual scope s.heap.objs.size f cd
  outer := outer
  stack := envOfC qual scope s.heap.objs.size f cd :: outer
  ex := []
  fn := fun _ => false
  calm := true
  pn := []
  xe := fun _ _ => False

/-- a generator that has not begun: made by a call at the state sc -/
def Made (P : Program) (w : World) (base : Heap) (k : Nat) (outer : List Env) (S : GSpec) (sc : Shared) (u : Value) (s1 : Shared) : Prop :=
  ∃ (a g L : Nat) (go oL : Obj) (nm qn : Value) (c : Code), u = .ref a ∧ sc.heap.objs.size ≤ a ∧ sc.heap.objs.size ≤ L ∧ s1.heap.get? a = some go ∧ go.cls = .type "generator" ∧ go.data = .fields #[.int g 0, nm, qn] ∧ go.slots = #[] ∧
    s1.heap.get? L = some oL ∧ (∀ v, oL.data ≠ .cell v) ∧ s1.gens[g]? = some (.fresh c) ∧ s1.os = sc.os ∧ AllBare s1.gens ∧ sc.heap.objs.size ≤ s1.heap.objs.size ∧ (∀ b o, sc.heap.get? b = some o → s1.heap.get? b = some o) ∧
    ∀ (A : Around) (CI : Nat → Hp → Shared → Prop), Room k A → A.frames = some outer → CiOk P w base outer ⟨S, sc.heap.objs.size, CI, (a, go)⟩ →
      ∀ (s₀ : Shared) (Hr : Hp), CI 0 Hr s₀ → s₀.heap.get? a = some go → Hr a = none → s₀.heap.get? L = some oL → Hr L = none →
        Seg (model P w) A (GRP P w outer ⟨S, sc.heap.objs.size, CI, (a, go)⟩) (GYP P w outer ⟨S, sc.heap.objs.size, CI, (a, go)⟩) S.top s₀ c ((model P w).den c) [] s₀

theorem made_of {P : Program} {w : World} {K : PySem.W.Frag} {mg : Str → Option Value} {base : Heap} {k : Nat} {f : Addr} {name qual : Str} {params : Arguments} {body : List Stmt} {scope : Scope} {dV kV doc pm cdv ct oc : Value} {an od : Option Addr}
    {osl : Array (Option Value)} {N ps : List Str} (lk : K.lookup f = some ⟨oc, od, .func (PySem.W.fnOf name qual params body scope dV kV doc pm an cdv ct), osl⟩) (hcd : PySem.W.codeIn K cdv qual = true) (S : GScope N ps scope)
    (hcells : ∀ n, cellsFrom n scope.names [] = []) (hnc : ∀ y ∈ scope.names, y.2 ≠ .cell)
    {A : Around} {outer : List Env} {s : Shared} {H : Hp} {args : Args} {us : List Value} {vs : List V} {sp : GSpec} (hr : Room (k + 1) A) (e0 : Env0 P w K mg base A outer s H)
    (hb : BindsTo s (PySem.W.fnOf name qual params body scope dV kV doc pm an cdv ct) args (ps.zip us)) (r : Vals vs us) (hl : vs.length = ps.length)
    (hbody : ∀ (A : Around) (Q : Pro), Room k (A.deeper (envOfC qual scope s.heap.objs.size f cdv)) → Q.toGSpec = sp → ProOk (gCx P w K mg base N qual scope f cdv A outer s) Q →
      ∃ t, GSts (gCx P w K mg base N qual scope f cdv A outer s) Q body t ∧ ∀ Hr, sp.Keep Hr → t (fun Hr' k' _ H' => sp.End k' Hr' H') Hr 0 (start N vs) Hr) :
    codeAny (model P w) A (.call (.ref f) args) (fun r s' => ∃ u, r = .ok (.ret u) ∧ Made P w base (k + 1) outer sp s u s') s := by
  have KX : K.In s.heap := e0.mod.kin.keeps fun b o e => (e0.bs b o e).1
  have lim : s.heap.NoLimit := e0.mod.nolimit.keeps fun b o e => (e0.bs b o e).1
  have hkind : ∀ y ∈ ps.zip us, scope.names.lookup y.1 = some .local ∨ (scope.names.lookup y.1 = some .cell ∧ ((cellsFrom (s.heap.objs.size + 1) scope.names []).lookup y.1).isSome = true) := fun ⟨n, v⟩ hy => by
    rcases S.par n (List.of_mem_zip hy).1 with q | q
    · exact .inl q
    · exact absurd rfl (hnc _ (PySem.mem_of_lookup q))
  refine codeAny_call_generator hr.depth (KX _ _ lk) rfl S.co S.gen rfl (PySem.W.codeRec_of KX hcd) (hb _ _ _ _ ?_)
  refine wpAny_newFunctionEnv_cells S.kind hkind fun env he s1 x => ?_
  subst he
  obtain ⟨h1, tk, es1, hk1⟩ := x.done
  refine ⟨lim.keeps x.toInCall.keep, ?_⟩
  have os1 : s1.os = s.os := by rw [es1]
  have gen1 : s1.gens = s.gens := by rw [es1]
  have lt1 : s.heap.objs.size < s1.heap.objs.size := x.toInCall.ns.lt
  have kp1 : ∀ b o, s.heap.get? b = some o → s1.heap.get? b = some o := x.toInCall.keep
  obtain ⟨oL, es, ep, hoL, hdL, hsk, hfind⟩ := id x.toInCall.ns
  have low : ∀ b ∈ frs outer, b < s.heap.objs.size := fun b hb => by
    obtain ⟨_, o, ho, _⟩ := e0.funs.mem hb
    exact Heap.lt_size ho
  have nocell : ∀ y c, (cellsFrom (s.heap.objs.size + 1) scope.names []).lookup y ≠ some c := fun y c e => by
    rw [hcells] at e
    cases e
  have gx : ∀ A' : Around, A'.handled = none → A'.frames = some outer → GX (gCx P w K mg base N qual scope f cdv A' outer s) s.heap.objs.size := fun A' h1 h2 =>
    { mod := e0.mod, kind := S.kind, glob := rfl, blt := rfl, above := Nat.le_refl _, cells := nocell, calm := rfl, hd := h1, frames := Around.frames_deeper h2, stk := rfl, frame := rfl, ex := rfl, pn := rfl, bsz := e0.bsz, low := low
      nocell := fun y hy => by
        rcases hy with hy | hy
        · exact hnc _ (PySem.mem_of_lookup hy) rfl
        · exact S.nofree _ (PySem.mem_of_lookup hy) rfl
      out := by
        have z : (gCx P w K mg base N qual scope f cdv A' outer s).A.frames = some _ := Around.frames_deeper h2
        rw [z]
        exact fun q => nomatch q }
  have hpl : ps.length ≤ N.length := by
    have q := congrArg List.length S.pre
    rw [List.length_take] at q
    omega
  have lenS : (start N vs).length = N.length := by
    unfold L2.start
    rw [List.length_append, List.length_map, List.length_replicate]
    omega
  have loc : ∀ (A' : Around) (s' : Shared), s'.heap.get? s.heap.objs.size = some oL → LocAt (gCx P w K mg base N qual scope f cdv A' outer s) (start N vs) s' := fun A' s' e => by
    refine ⟨_, ⟨oL, es, ep, e, hdL, hsk, hfind⟩, fun i y v e1 e2 e3 => ?_⟩
    have e1 : N[i]? = some y := e1
    have hi : i < vs.length := by
      unfold L2.start at e2
      by_cases hi : i < vs.length
      · exact hi
      · rw [List.getElem?_append_right (by simpa using hi), List.getElem?_replicate] at e2
        split at e2 <;> cases e2
    have ha : vs[i]? = some v := by
      unfold L2.start at e2
      rw [List.getElem?_append_left (by simpa using hi), List.getElem?_map] at e2
      cases q : vs[i]? with
      | none => rw [q] at e2; cases e2
      | some z => rw [q] at e2; cases e2; rfl
    obtain ⟨u, hu, rv⟩ := r.get ha
    have hp : ps[i]? = some y := by
      rw [← S.pre, List.getElem?_take_of_lt (by omega)]
      exact e1
    have ndP : ps.Nodup := by
      rw [← S.pre]
      exact S.nd.sublist (List.take_sublist _ _)
    refine ⟨u, rv, ?_⟩
    rcases S.par y (List.mem_of_getElem? hp) with q | q
    · exact .inl ⟨q, bindL_get ndP hp hu q⟩
    · exact absurd rfl (hnc _ (PySem.mem_of_lookup q))
  have main : ∀ (go : Obj) (nm qn : Value) (tk2 : Nat), go.cls = .type "generator" → go.data = .fields #[.int s1.gens.size 0, nm, qn] → go.slots = #[] → (∀ h : Heap, (h.push go).get? h.objs.size = some go) →
      Made P w base (k + 1) outer sp s (.ref s1.heap.objs.size) { s1 with gens := s1.gens.push (.fresh (.func body (envOfC qual scope s.heap.objs.size f cdv))), toks := tk2, heap := s1.heap.push go } := by
    intro go nm qn tk2 hgc hgd hgs hgp
    have ngo : ∀ v, go.data ≠ .cell v := fun v z => by
      rw [hgd] at z
      cases z
    refine ⟨s1.heap.objs.size, s1.gens.size, s.heap.objs.size, go, oL, nm, qn, _, rfl, Nat.le_of_lt lt1, Nat.le_refl _, hgp _, hgc, hgd, hgs, Heap.get?_push_of_some _ hoL, fun v z => ?_, Array.getElem?_push_size .., os1, AllBare.push (by rw [gen1]; exact e0.bare) rfl, ?_,
      fun b o e => Heap.get?_push_of_some _ (kp1 b o e), ?_⟩
    · rw [hdL] at z
      cases z
    · show _ ≤ (s1.heap.push _).objs.size
      rw [Heap.size_push]
      omega
    · intro Aw CI hrw hfr ci s₀ Hr hc ea na eL nL
      have G := gx Aw hrw.hd hfr
      have ok : ProOk (gCx P w K mg base N qual scope f cdv Aw outer s) ⟨sp, s.heap.objs.size, CI, (s1.heap.objs.size, go)⟩ := ⟨G, fun _ _ z => z, ci⟩
      obtain ⟨t, ht, hq⟩ := hbody Aw ⟨sp, s.heap.objs.size, CI, (s1.heap.objs.size, go)⟩ (hrw.deeper _) rfl ok
      obtain ⟨gr, kp, _⟩ := ci _ _ _ hc
      have I0 : Inv (cxAt (gCx P w K mg base N qual scope f cdv Aw outer s) s.heap.objs.size s₀ Hr) [(s1.heap.objs.size, go)] (start N vs) Hr s₀ := by
        refine inv_at G gr (loc Aw s₀ eL) nL (fun p hp => ?_) lenS
        rw [List.mem_singleton.mp hp]
        refine ⟨ea, na, Nat.ne_of_gt lt1, fun z => ?_, ngo⟩
        have q := low _ z
        exact absurd (Nat.lt_trans q lt1) (Nat.lt_irrefl _)
      refine seg_func ?_
      refine ht.run Aw _ [] _ _ id id [(s1.heap.objs.size, go)] _ ⟨over_func, rfl, rfl, rfl⟩ (fun n' k' s₀' Hr' s' σ' H' hn' hc' I' hip' hD => ?_) sp.top 0 s₀ Hr s₀ _ Hr (Nat.add_zero _) hc I0
        ⟨List.mem_singleton.mpr rfl, fun p hp => by rw [List.mem_singleton.mp hp]; exact Nat.le_of_lt lt1⟩ (hq Hr kp)
      exact seg_end (.ok (.ret .none)) (.inl ⟨.inl rfl, k', Hr', H', hn', hc', hD, since_of I' rfl⟩)
  exact ⟨_, rfl, main _ _ _ _ rfl rfl rfl fun h => Heap.get?_push_size _ rfl⟩
end G47

/-! Own rules, part five: a for loop over a generator. -/
namespace G47
open PySem PySem.Spec PyProof.Rows L2 GenW
open Sem (wp)

theorem inv_gens {X : Cx} {pins : List (Addr × Obj)} {σ : L2.St} {H : Hp} {s : Shared} {G : Array GenState} (I : Inv X pins σ H s) (h : AllBare G) : Inv X pins σ H { s with gens := G } :=
  ⟨I.ok, I.os, h, I.base, I.loc, I.cell, I.free, I.freeC, I.pin, I.hok, I.len⟩

/-- a target that leaves the generators alone -/
structure PGg (X : Cx) (tg : Expr) (t : TG) : Prop where
  run : ∀ (pins : List (Addr × Obj)) (s : Shared) (σ : L2.St) (H : Hp) (v : V) (u : Value) (Q : L2.St → Hp → Prop), Inv X pins σ H s → RelV v u → t v σ H Q →
    wpAny (model X.prog X.w) X.A (assign tg X.env u) (fun _ s' => (∃ σ' H', Inv X pins σ' H' s' ∧ Q σ' H') ∧ s'.gens = s.gens) X.xe s
/-- a block that leaves the generators alone where it runs through -/
structure PSg (X : Cx) (st : List Stmt) (t : TS) : Prop where
  run : ∀ (pins : List (Addr × Obj)) (s : Shared) (σ : L2.St) (H : Hp) (D : Ends), Inv X pins σ H s → t D σ H →
    wpAny (model X.prog X.w) X.A (execs st X.env) (fun f s' => SP X pins D f s' ∧ ((f = .next ∨ f = .cont) → s'.gens = s.gens)) X.xe s
/-- an expression whose value is a generator not begun -/
structure PGn (X : Cx) (k : Nat) (e : Expr) (tg : L2.St → Hp → (GSpec → Hp → Prop) → Prop) : Prop where
  run : ∀ (pins : List (Addr × Obj)) (s : Shared) (σ : L2.St) (H : Hp) (R : GSpec → Hp → Prop), Inv X pins σ H s → tg σ H R →
    wpAny (model X.prog X.w) X.A (eval e X.env) (fun u s1 => ∃ H1 sc S, Inv X pins σ H1 sc ∧ R S H1 ∧ Made X.prog X.w X.base k X.stack S sc u s1) X.xe s

section
variable {X : Cx} {pins : List (Addr × Obj)} {σ : L2.St} {H Hr : Hp} {s s₀ : Shared} {n0 : Nat}
/-- all that the consumer has of its own lies below n0 -/
structure Low (X : Cx) (pins : List (Addr × Obj)) (n0 : Nat) : Prop where
  loc : X.env.locals < n0
  cell : ∀ x c, X.env.cells.lookup x = some c → c < n0
  pin : ∀ p ∈ X.pn ++ pins, p.1 < n0
  fs : ∀ b ∈ X.fs, b < n0
  old : X.s_0.heap.objs.size ≤ n0
theorem low_of (I : Inv X pins σ H s) : Low X pins s.heap.objs.size where
  loc := I.lt
  cell := fun x c e => by
    obtain ⟨v, z⟩ := I.cell x c e
    exact z.lt
  pin := fun p hp => Heap.lt_size (I.pin p hp).1
  fs := fun b hb => by
    obtain ⟨_, o, ho, _⟩ := I.funs.mem hb
    exact Heap.lt_size ho
  old := I.sz
/-- the consumer behind the generator's run -/
theorem inv_since (L : Low X pins n0) (I : Inv X pins σ Hr s₀) (z : Since X.prog X.w X.stack n0 s₀ Hr s H) : Inv X pins σ H s := by
  have cut : ∀ b o, s₀.heap.get? b = some o → b ∉ (List.range s₀.heap.objs.size).filter (fun b => decide (n0 ≤ b)) → (cutH s₀.heap n0).get? b = some o := fun b o e hx => by
    have hb : b < n0 := by
      refine Nat.lt_of_not_le fun h => hx ?_
      exact List.mem_filter.mpr ⟨List.mem_range.mpr (Heap.lt_size e), decide_eq_true h⟩
    rw [cut_get hb]
    exact e
  have no : ∀ b : Addr, b ∉ ([] : List Addr) := fun b h => by cases h
  refine I.call' (ch := (List.range s₀.heap.objs.size).filter fun b => decide (n0 ≤ b)) z.os ⟨fun b o e n hb hx => z.un.keep b o (cut b o e hx) n hb (no b), fun b o e n hb hx => z.un.slot b o (cut b o e hx) n hb (no b), fun b o e n hx => z.un.free b o (cut b o e hx) n (no b),
    fun b o e hx => z.un.there b o (cut b o e hx) (no b), z.un.tups, z.un.frzs, z.un.tbls⟩ z.hok z.bare fun b hb => ?_
  have hb : n0 ≤ b := of_decide_eq_true (List.mem_filter.mp hb).2
  have ne : ∀ c : Nat, c < n0 → c ≠ b := fun c hc => Nat.ne_of_lt (Nat.lt_of_lt_of_le hc hb)
  exact ⟨.inr (Nat.le_trans L.old hb), (ne _ L.loc).symm, fun x c e => ne c (L.cell x c e), fun p hp => ne _ (L.pin p hp)⟩
theorem inv_own {gp : List (Addr × Obj)} (L : Low X pins n0) (I : Inv X pins σ H s) (o : Own n0 gp s H) : Inv X (pins ++ gp) σ H s := by
  refine I.pins_of fun p hp => ?_
  rcases List.mem_append.mp hp with z | z
  · exact I.pin p (List.mem_append_right _ z)
  · obtain ⟨h1, h2, h3, h4⟩ := o p z
    exact ⟨h1, h2, fun q => absurd (Nat.lt_of_lt_of_le L.loc (q ▸ h3)) (Nat.lt_irrefl _), fun q => absurd (Nat.lt_of_lt_of_le (L.fs _ q) h3) (Nat.lt_irrefl _), h4⟩
end

def tForG (tgen : L2.St → Hp → (GSpec → Hp → Prop) → Prop) (g : TG) (tb : TS) : TS := fun D σ H => tgen σ H fun S H1 => ∃ W : Nat → L2.St → Hp → Prop, W 0 σ H1 ∧ (∀ k σ H, W k σ H → S.Keep H) ∧
  (∀ k σ Hr H x, k < S.top → W k σ Hr → S.Item k Hr x H → g x σ H fun σ2 H2 => tb { D with nx := W (k + 1), ct := W (k + 1), bk := D.nx } σ2 H2) ∧ ∀ k σ Hr H, W k σ Hr → S.End k Hr H → D.nx σ H
section
variable {X : Cx} {k : Nat} {tg iter : Expr} {body : List Stmt} {pos : Pos} {tgen : L2.St → Hp → (GSpec → Hp → Prop) → Prop} {g : TG} {tb : TS}
theorem ps_forG (hp : PassesOwn (model X.prog X.w) X.A X.env X.xe) (hc : X.calm = true) (hr : Room (k + 1) X.A) (hi : PGn X k iter tgen) (hg : PGg X tg g) (hb : PSg X body tb)
    (hs : ∀ x, foldedSetIterable iter X.env x = pure x := by intro _; rfl) : PS X (.For tg iter body [] pos) (tForG tgen g tb) := by
  refine ⟨fun pins s σ H D I h => ?_⟩
  refine wpAny_For (thn (hi.run pins s σ H _ I h) fun u s1 hu => ?_) hs
  obtain ⟨H1, sc, S, I1, ⟨W, w0, wk, wi, we⟩, a, gn, L, go, oL, nm, qn, c, rfl, ha, hL, ea, gcls, gdat, gslt, eL, nL, egen, os1, bare1, sz1, kp1, wake⟩ := hu
  have ngo : ∀ v, go.data ≠ .cell v := fun v z => by
    rw [gdat] at z
    cases z
  have isg : ∀ {s' : Shared}, s'.heap.get? a = some go → s'.heap.IsGen a gn := fun {s'} e => ⟨go, nm, qn, e, gcls, gdat, gslt⟩
  have low := low_of I1
  refine wpAny_pyIter_gen (isg ea) ?_
  -- the consumer at s1
  have I2 : Inv X pins σ H1 s1 := I1.call' (ch := []) os1 (Un.kept kp1) (I1.hok.kept kp1) bare1 fun b hb => by cases hb
  have gone : ∀ b, sc.heap.objs.size ≤ b → H1 b = none := fun b hb => I1.hok.fresh hb
  have I3 : Inv X (pins ++ [(a, go), (L, oL)]) σ H1 s1 := inv_own low I2 fun p hp => by
    rcases List.mem_cons.mp hp with z | z
    · rw [z]; exact ⟨ea, gone a ha, ha, ngo⟩
    · rw [List.mem_singleton.mp z]; exact ⟨eL, gone L hL, hL, nL⟩
  let CI : Nat → Hp → Shared → Prop := fun k H s => ∃ σ, Inv X pins σ H s ∧ W k σ H ∧ sc.heap.objs.size ≤ s.heap.objs.size
  let P : Pro := ⟨S, sc.heap.objs.size, CI, (a, go)⟩
  have ci : CiOk X.prog X.w X.base X.stack P := fun k H s hq => by
    obtain ⟨σ', J, w', z⟩ := hq
    exact ⟨⟨J.bs, J.stack, J.stkFree, J.hok, J.bare, Nat.le_trans J.ok.bsz J.sz⟩, wk _ _ _ w', z⟩
  have hr1 : Room k X.A.in1 := hr.in1
  have hfr : X.A.in1.frames = some X.stack := I1.ok.frames
  let GG : Nat → GenState → Shared → Prop := fun m gs s => gs.Goes (model X.prog X.w) X.A.in1 (GRP X.prog X.w X.stack P) (GYP X.prog X.w X.stack P) m (.send .none) (s.setGen gn .running)
  let Inn : Nat → Shared → Prop := fun m s => ∃ gp gs σ H k, Inv X (pins ++ gp) σ H s ∧ W k σ H ∧ (a, go) ∈ gp ∧ s.gens[gn]? = some gs ∧ GG m gs s
  have drun : ∀ {s : Shared} {x : GenState}, AllBare s.gens → x.bare = true → AllBare (s.setGen gn x).gens := fun hb hx => allBare_setGen hb hx
  refine codeAny_forLoop_any Inn ?_ S.top ⟨[(a, go), (L, oL)], _, σ, H1, 0, I3, w0, List.mem_cons_self, egen, rfl, ?_⟩
  · rintro m s3 ⟨gp, gs, σ3, H3, k3, I4, w3, hgp, eg, goes⟩
    have ego : s3.heap.get? a = some go := (I4.pin (a, go) (List.mem_append_right _ (List.mem_append_right _ hgp))).1
    have glt : gn < s3.gens.size := (Array.getElem?_eq_some_iff.mp eg).1
    refine wpAny_gsz (n := gn + 1) glt ?_
    refine next_genG (A := X.A) (Er := fun _ _ => False) (F := fun n s₀ s => ∃ k Hr H, n + k = P.top ∧ P.CI k Hr s₀ ∧ P.End k Hr H ∧ Since X.prog X.w X.stack P.n0 s₀ Hr s H) (I4.ok.hd hc) I4.nolimit hr.depth (isg ego) eg goes (fun v s4 gs' hbare hv => ?_) (fun s4 he h' hk => ?_) fun _ _ z => z.elim
    · intro hsz
      obtain ⟨k', Hr, H4, x, gp', hn, ⟨σr, Jr, wr, szr⟩, hit, rx, sn, _, own, kap⟩ := hv
      have J4 : Inv X pins σr H4 s4 := inv_since low Jr sn
      have J5 : Inv X pins σr H4 (s4.setGen gn gs') := inv_gens J4 (drun sn.bare hbare)
      have J6 : Inv X (pins ++ gp') σr H4 (s4.setGen gn gs') := inv_own low J5 own
      have hse : (a, go) ∈ gp' := by assumption
      have ea4 : (s4.setGen gn gs').heap.get? a = some go := (own (a, go) hse).1
      have g4 : gn < s4.gens.size := by
        have q : (s4.setGen gn gs').gens.size = s4.gens.size := setGen_size _ _ _
        have hsz' : gn + 1 ≤ (s4.setGen gn gs').gens.size := hsz
        omega
      refine wpAny_passesOwn hp (go_of (n := "generator") ea4 gcls gdat (by decide) ?_)
      refine wpAny_passesOwn hp (thn (hg.run (pins ++ gp') _ σr H4 x v _ J6 rx (wi k' σr Hr H4 x (by show k' < P.top; omega) wr hit)) fun _ s5 h5 => ?_)
      obtain ⟨⟨σ5, H5, J7, q5⟩, e5⟩ := h5
      refine wpAny_passesOwn hp (thn (hb.run (pins ++ gp') s5 σ5 H5 _ J7 q5) fun f s6 h6 => ?_)
      obtain ⟨sp6, e6⟩ := h6
      have again : ∀ {σ7 : L2.St} {H7 : Hp}, Inv X (pins ++ gp') σ7 H7 s6 → W (k' + 1) σ7 H7 → s6.gens = s5.gens → ∃ m', m' < m ∧ Inn m' s6 := fun {σ7 H7} J8 w7 e7 => by
        have eg6 : s6.gens[gn]? = some gs' := by
          rw [e7, e5]
          exact setGen_at g4
        have run6 : Inv X (pins ++ gp') σ7 H7 (s6.setGen gn .running) := inv_gens J8 (drun J8.bare rfl)
        have kk := kap (s6.setGen gn .running) H7 ⟨σ7, run6.pins_of fun p hp => run6.pin p (List.mem_append_right _ (List.mem_append_left _ hp)), w7, ?_⟩ fun p hp => ?_
        · cases m with
          | zero => exact False.elim kk
          | succ m => exact ⟨m, Nat.lt_succ_self _, gp', gs', σ7, H7, k' + 1, J8, w7, hse, eg6, kk⟩
        · have q := Heap.lt_size (J8.pin (a, go) (List.mem_append_right _ (List.mem_append_right _ hse))).1
          have q2 : sc.heap.objs.size ≤ a := ha
          exact Nat.le_trans q2 (Nat.le_of_lt q)
        · have z := J8.pin p (List.mem_append_right _ (List.mem_append_right _ hp))
          exact ⟨z.1, z.2.1⟩
      have unp : ∀ {σ7 : L2.St} {H7 : Hp}, Inv X (pins ++ gp') σ7 H7 s6 → Inv X pins σ7 H7 s6 := fun J => J.unpinned
      cases f with
      | next => obtain ⟨σ7, H7, J8, w7⟩ := sp6; exact again J8 w7 (e6 (.inl rfl))
      | cont => obtain ⟨σ7, H7, J8, w7⟩ := sp6; exact again J8 w7 (e6 (.inr rfl))
      | brk => obtain ⟨σ7, H7, J8, q7⟩ := sp6; exact ⟨σ7, H7, unp J8, q7⟩
      | ret v => obtain ⟨x7, σ7, H7, J8, r7, q7⟩ := sp6; exact ⟨x7, σ7, H7, unp J8, r7, q7⟩
    · intro _
      obtain ⟨k', Hr, H4, hn, ⟨σr, Jr, wr, szr⟩, hend, sn⟩ := he
      have J4 : Inv X pins σr H4 s4 := inv_since low Jr sn
      have J5 : Inv X pins σr H4 { s4.setGen gn .finished with heap := h' } := by
        have z := (J4.kept (h' := h') (t' := s4.toks) hk)
        exact inv_gens z (drun sn.bare rfl)
      exact wpAny_execs_nil ⟨σr, H4, J5, we k' σr Hr H4 wr hend⟩
  · have z := I3.pin (a, go) (List.mem_append_right _ (List.mem_append_right _ List.mem_cons_self))
    have z2 := I3.pin (L, oL) (List.mem_append_right _ (List.mem_append_right _ (List.mem_cons_of_mem _ List.mem_cons_self)))
    exact wake X.A.in1 CI hr1 hfr ci (s1.setGen gn .running) H1 ⟨σ, inv_gens I2 (drun bare1 rfl), w0, sz1⟩ z.1 z.2.1 z2.1 z2.2.1
end
end G47

/-! Own rules, part six: small pieces that leave the generators alone. -/
namespace G47
open PySem PySem.Spec PyProof.Rows L2 GenW
open Sem (wp)

structure PEg (X : Cx) (e : Expr) (t : TE) : Prop where
  run : ∀ (pins : List (Addr × Obj)) (s : Shared) (σ : L2.St) (H : Hp) (Q : VK), Inv X pins σ H s → t σ H Q → wpAny (model X.prog X.w) X.A (eval e X.env) (fun u s' => EP X pins σ Q u s' ∧ s'.gens = s.gens) X.xe s
structure PTg (X : Cx) (e : Expr) (t : TT) : Prop where
  run : ∀ (pins : List (Addr × Obj)) (s : Shared) (σ : L2.St) (H : Hp) (Q : Bool → Hp → Prop), Inv X pins σ H s → t σ H Q → wpAny (model X.prog X.w) X.A (isTrue e X.env (eval e X.env)) (fun b s' => TP X pins σ Q b s' ∧ s'.gens = s.gens) X.xe s
structure PStg (X : Cx) (st : Stmt) (t : TS) : Prop where
  run : ∀ (pins : List (Addr × Obj)) (s : Shared) (σ : L2.St) (H : Hp) (D : Ends), Inv X pins σ H s → t D σ H →
    wpAny (model X.prog X.w) X.A (exec st X.env) (fun f s' => SP X pins D f s' ∧ ((f = .next ∨ f = .cont) → s'.gens = s.gens)) X.xe s

section
variable {X : Cx} {a b e : Expr} {ta tb : TE} {pos : Pos}
theorem peg_var {i : Nat} {x : Str} (hN : X.N[i]? = some x) (hv : X.env.scope.names.lookup x = some .local) (hd : (x == ("__debug__" : Str)) = false := by decide) : PEg X (.Name x pos) (tVar i) := by
  refine ⟨fun pins s σ H Q I h => ?_⟩
  obtain ⟨v, e, h⟩ := h
  obtain ⟨m, hn, hl⟩ := I.loc
  obtain ⟨u, r, l⟩ := hl i x v hN e (.inl hv)
  rcases l with ⟨hk, hm⟩ | ⟨hk, _⟩
  · exact wpAny_Name (wpAny_loadName_local I.ok.kind hk hn hm ⟨⟨v, H, I, r, h⟩, rfl⟩) hd
  · have hk : X.env.scope.names.lookup x = some .cell ∨ X.env.scope.names.lookup x = some .free := hk
    rcases hk with z | z
    · rw [hv] at z
      cases z
    · rw [hv] at z
      cases z
theorem peg_fld {f : Str} (he : PEg X e ta) (hb : attributeBase e f X.env (eval e X.env) = eval e X.env) : PEg X (.Attribute e f pos) (tFld X.K ta f) := by
  refine ⟨fun pins s σ H Q I h => ?_⟩
  refine attr_of hb (thn (he.run pins s σ H _ I h) fun u s1 hu => ?_)
  obtain ⟨⟨x, H1, I1, rx, a, C, dx, fs, v, ex, ea, c, n, l, q⟩, g1⟩ := hu
  subst ex
  obtain rfl : u = Value.ref a := rx
  obtain ⟨mA, O, r, _, _, _⟩ := ins_get I1.hok ea
  obtain ⟨u', hu, ru⟩ := RelO.some_of (v := v) (o := mA f) (by rw [← l]; exact r f)
  exact get_map I1.kIn O (c.get f) c.hd n hu (handed_of ru) ⟨⟨v, H1, I1.tok _, ru, q⟩, g1⟩
theorem peg_sub (ha : PEg X a ta) (hb : PEg X b tb) : PEg X (.BinOp a .Sub b pos) (tOp (rI0 fun i j => .int (i - j)) ta tb) := by
  refine ⟨fun pins s σ H Q I h => ?_⟩
  refine wpAny_BinOp (thn (ha.run pins s σ H _ I h) fun v s1 h1 => ?_)
  obtain ⟨⟨x, H1, I1, r1, q1⟩, g1⟩ := h1
  refine thn (hb.run pins s1 σ H1 _ I1 q1) fun u s2 h2 => ?_
  obtain ⟨⟨y, H2, I2, r2, i, j, rfl, rfl, q⟩, g2⟩ := h2
  obtain ⟨t, rfl⟩ := r1
  obtain ⟨t', rfl⟩ := r2
  exact sub_int ⟨⟨.int (i - j), H2, I2.tok _, ⟨_, rfl⟩, q⟩, g2.trans g1⟩
theorem ptg_notIn (ha : PEg X a ta) (hb : PEg X b tb) (hm : behindInMarks .NotIn b = false) : PTg X (.Compare a [.NotIn] [b] pos) (tTest (tOp (rIn X.K true) ta tb)) := by
  refine ⟨fun pins s σ H Q I h => ?_⟩
  refine wpAny_isTrue_Compare1 (thn (ha.run pins s σ H _ I h) fun v s1 h1 => ?_) hm
  obtain ⟨⟨x, H1, I1, r1, q1⟩, g1⟩ := h1
  refine thn (hb.run pins s1 σ H1 _ I1 q1) fun u s2 h2 => ?_
  obtain ⟨⟨y, H2, I2, r2, p, xs, rfl, hq, fx, fs, kk, ek, q⟩, g2⟩ := h2
  cases r2
  have fin : ∀ {bb : Bool}, (if true = true then !inV x xs else inV x xs) = bb → wpAny (model X.prog X.w) X.A (truthy (.bool bb)) (fun b s' => TP X pins σ Q b s' ∧ s'.gens = s.gens) X.xe s2 := fun {bb} e => by
    have e2 := ek.symm.trans (congrArg V.bl e)
    cases e2
    exact wpAny_truthy_bool ⟨⟨H2, I2, q⟩, g2.trans g1⟩
  rcases hq with hq | hq
  · obtain ⟨its, r, pl, hz⟩ := I2.list hq
    refine SeqAt.notIn_listAt (eqU x) pl.isList (fun w hw => mem_eqAt r1 fx r fs w (by simpa using hw)) (fin ?_)
    rw [show its.toArray.any (eqU x) = its.any (eqU x) by simp, any_eqU r fs]
    rfl
  · obtain ⟨its, r, pl, hz⟩ := I2.tuple hq
    refine SeqAt.notIn_tupleAt (eqU x) pl (fun w hw => mem_eqAt r1 fx r fs w (by simpa using hw)) (fin ?_)
    rw [show its.toArray.any (eqU x) = its.any (eqU x) by simp, any_eqU r fs]
    rfl
theorem ptg_neI (ha : PEg X a ta) (hb : PEg X b tb) : PTg X (.Compare a [.NotEq] [b] pos) (tTest (tOp (rI0 fun i j => .bl (i != j)) ta tb)) := by
  refine ⟨fun pins s σ H Q I h => ?_⟩
  refine wpAny_isTrue_Compare1 (thn (ha.run pins s σ H _ I h) fun v s1 h1 => ?_) (nomark _)
  obtain ⟨⟨x, H1, I1, r1, q1⟩, g1⟩ := h1
  refine thn (hb.run pins s1 σ H1 _ I1 q1) fun u s2 h2 => ?_
  obtain ⟨⟨y, H2, I2, r2, i, j, rfl, rfl, kk, ek, q⟩, g2⟩ := h2
  obtain ⟨t, rfl⟩ := r1
  obtain ⟨t', rfl⟩ := r2
  cases ek
  exact ne_int (wpAny_truthy_bool ⟨⟨H2, I2, q⟩, g2.trans g1⟩)
/-- xs.append(e) as a statement -/
theorem pstg_append {o : Expr} {to te : TE} {apos cpos p : Pos} (ho : PEg X o to) (he : PEg X e te)
    (hbase : attributeBase o "append" X.env (eval o X.env) = eval o X.env := by rfl)
    (hfew : ((backTo cpos (starEach [e] X.env)).all (fun x => !x.1) && (backToKw cpos (keywordEach [] X.env)).all (fun x => x.1.isSome)
      && decide (([e] : List Expr).length + ([] : List Keyword).length + (if ([] : List Keyword).isEmpty then 0 else 1) < 30)) = true := by rfl)
    (hline : (apos.endLine == cpos.line) = true := by rfl) (hs : starEach [e] X.env = (false, eval e X.env) :: starEach [] X.env := by rfl)
    (hsw : swapsWith (.Call (.Attribute o "append" apos) [e] [] cpos) none p.line X.env = pure false := by rfl) :
    PStg X (.Expr (.Call (.Attribute o "append" apos) [e] [] cpos) p) (fun D σ H => to σ H fun x H1 => (∃ l ys, x = .ref l ∧ H1 l = some (.lst ys)) ∧ te σ H1 fun y H2 => ∃ l xs, x = .ref l ∧ H2 l = some (.lst xs) ∧ xs.length < sizeLine ∧ D.nx σ (upd H2 l (.lst (xs ++ [y])))) := by
  refine ⟨fun pins s σ H D I h => ?_⟩
  refine wpAny_Expr_any ?_ I.quiet hsw
  refine wpAny_Call_method_late hbase hfew hline rfl (thn (ho.run pins s σ H _ I h) fun v s1 h1 => ?_)
  obtain ⟨⟨x, H1, I1, r1, ⟨l0, ys, rfl, hl0⟩, q1⟩, g1⟩ := h1
  obtain ⟨z1, z2⟩ := tyV_is (T := "list") I1 r1 (.inl ⟨rfl, ys, SqL.of hl0⟩)
  refine ⟨"list", "list.append", PySem.F.plainAttrs_list, PySem.F.slot_list_append, PySem.F.type_list_append, z1, z2, ?_⟩
  rw [hs]
  refine Calls.callWith_builtin rfl (Calls.evalArgs_plain ?_)
  show wpAny _ _ (spliced ((false, eval e X.env) :: backTo cpos (starEach [] X.env))) _ _ s1
  refine Calls.spliced_cons (thn (he.run pins s1 σ H1 _ I1 q1) fun u s2 h2 => ?_)
  obtain ⟨⟨y, H2, I2, r2, l, xs, el, hH, hz, q⟩, g2⟩ := h2
  cases el
  cases r1
  refine Calls.spliced_nil ?_
  obtain ⟨z, its, n, r, hl, ee⟩ := I2.lstM hH
  refine call_meets F.slot_list_append ⟨_, ee, rfl⟩ F.entry_list_append (F.args_list_append_2 _ _) (PySem.list_append l0 its.toArray n u (by rw [List.size_toArray]; omega)) ⟨ee, ?_⟩
  refine ⟨⟨σ, _, I2.lset (its' := its ++ [u]) hH ee (by simp) (r.append (.cons r2 .nil)) ?_, q⟩, fun _ => g2.trans g1⟩
  rw [List.length_append, List.length_singleton]
  omega
/-- a block that never runs through -/
theorem psg_out {st : List Stmt} {t : TS} (h : PSs X st t) : PSg X st (fun D σ H => t { D with nx := fun _ _ => False, ct := fun _ _ => False } σ H) := by
  refine ⟨fun pins s σ H D I hd => ?_⟩
  refine thn (h.run pins s σ H _ I hd) fun f s' hs => ?_
  cases f with
  | next => obtain ⟨_, _, _, q⟩ := hs; exact q.elim
  | cont => obtain ⟨_, _, _, q⟩ := hs; exact q.elim
  | brk => exact ⟨hs, fun z => by rcases z with z | z <;> cases z⟩
  | ret u => exact ⟨hs, fun z => by rcases z with z | z <;> cases z⟩
theorem psg_nil : PSg X [] tNext := ⟨fun _ _ σ H _ I h => wpAny_execs_nil ⟨⟨σ, H, I, h⟩, fun _ => rfl⟩⟩
theorem psg_one {st : Stmt} {t : TS} (h : PStg X st t) : PSg X [st] t := by
  refine ⟨fun pins s σ H D I hd => ?_⟩
  refine wpAny_execs_cons (thn (h.run pins s σ H D I hd) fun f s1 q => ?_)
  cases f with
  | next => exact wpAny_execs_nil q
  | ret v => exact q
  | brk => exact q
  | cont => exact q
theorem pstg_if {c : Expr} {x y : List Stmt} {tc : TT} {t u : TS} (hc : PTg X c tc) (ha : PSg X x t) (hb : PSg X y u) : PStg X (.If c x y pos) (tIfS tc t u) := by
  refine ⟨fun pins s σ H D I h => ?_⟩
  refine wpAny_If (thn (hc.run pins s σ H _ I h) fun d s1 h1 => ?_)
  obtain ⟨⟨H1, I1, q1⟩, g1⟩ := h1
  cases d with
  | true => exact thn (ha.run pins s1 σ H1 D I1 q1) fun f s2 q => ⟨q.1, fun z => (q.2 z).trans g1⟩
  | false => exact thn (hb.run pins s1 σ H1 D I1 q1) fun f s2 q => ⟨q.1, fun z => (q.2 z).trans g1⟩

/-! ### targets -/
/-- only the frame's own record is another one -/
theorem inv_relocal {pins : List (Addr × Obj)} {s : Shared} {σ σ' : L2.St} {H : Hp} {h' : Heap} {t' : Nat} (I : Inv X pins σ H s) (hs : Heap.SameBut X.env.locals s.heap h') (hl : LocAt X σ' { s with heap := h', toks := t' }) (hn : σ'.length = σ.length) : Inv X pins σ' H { s with heap := h', toks := t' } := by
  have keep : ∀ {q : Addr} {ob : Obj}, q ≠ X.env.locals → s.heap.get? q = some ob → h'.get? q = some ob := fun {q ob} nq eq => by
    rw [hs.2 q nq]
    exact eq
  have old : ∀ {q : Addr} {ob : Obj}, X.s_0.heap.get? q = some ob → q ≠ X.env.locals := fun {q ob} eq z => by
    have l1 := Heap.lt_size eq
    have l2 := I.ok.above
    rw [z] at l1
    exact Nat.lt_irrefl _ (Nat.lt_of_lt_of_le l1 l2)
  obtain ⟨m, ⟨oL, _, _, hoL, _⟩, _⟩ := id I.loc
  constructor
  · exact I.ok
  · exact I.os
  · exact I.bare
  · constructor
    · intro q ob e1 e2 e3 e4
      exact keep (old e1) (I.base.keep q ob e1 e2 e3 e4)
    · intro q ob e1 e2 e3 e4
      obtain ⟨sl, z⟩ := I.base.slot q ob e1 e2 e3 e4
      exact ⟨sl, keep (old e1) z⟩
    · exact I.base.free
    · intro q ob e1 e2
      obtain ⟨o2, z⟩ := I.base.there q ob e1 e2
      exact ⟨o2, keep (old e1) z⟩
    · exact I.base.tups
    · exact I.base.frzs
    · exact I.base.tbls
  · exact hl
  · intro y c e
    obtain ⟨v, ob, e1, e2⟩ := I.cell y c e
    exact ⟨v, ob, keep (I.cne y c e) e1, e2⟩
  · exact I.free
  · exact I.freeC
  · intro p hp
    obtain ⟨z1, z2, z3, z4⟩ := I.pin p hp
    exact ⟨keep z3 z1, z2, z3, z4⟩
  · intro q u e
    have nq : ∀ {c : Addr} {o : HO}, H c = some o → c ≠ X.env.locals := fun {c o} e1 z => by
      rw [z, I.free] at e1
      cases e1
    exact (I.hok q u e).stay (fun c v hc z => keep (hc.elim (fun y => by rw [y]; exact nq e) fun y => nq y) z) (fun _ z => z) fun _ _ z => z
  · exact hn.trans I.len
theorem store_g {M : Model} {A : Around} {E : Value → Shared → Prop} {pins : List (Addr × Obj)} {s : Shared} {σ : L2.St} {H : Hp} {i : Nat} {x : Str} {v : V} {u : Value} {Q : Unit → Shared → Prop} (I : Inv X pins σ H s) (hN : X.N.Nodup) (hi : X.N[i]? = some x) (hx : X.env.scope.names.lookup x = some .local) (r : RelV v u)
    (h : ∀ s', Inv X pins (σ.set i (some v)) H s' → s'.gens = s.gens → Q () s') : wpAny M A (storeName X.env x u) Q E s := by
  obtain ⟨m, hn, hl⟩ := id I.loc
  have hcls : (X.env.scope.kind == .class || (X.env.scope.kind == .module && X.env.locals != X.env.globals)) = false := by rw [I.ok.kind]; rfl
  have hiσ : i < σ.length := by
    rw [I.len]
    exact (List.getElem?_eq_some_iff.mp hi).1
  refine wpAny_storeName_local hx hn (fun h' hn' hs => h { s with heap := h', toks := s.toks + 1 } (inv_relocal I hs ⟨_, hn', fun j y w e1 e2 e3 => ?_⟩ (by simp)) rfl) hcls
  by_cases hj : j = i
  · rw [hj] at e1 e2
    rw [hi] at e1
    cases e1
    rw [List.getElem?_set_self hiσ] at e2
    cases e2
    exact ⟨u, r, .inl ⟨hx, by simp⟩⟩
  · rw [List.getElem?_set_ne (fun z => hj z.symm)] at e2
    obtain ⟨u', r', q⟩ := hl j y w e1 e2 e3
    refine ⟨u', r', ?_⟩
    rcases q with ⟨k1, k2⟩ | ⟨k, c, e, oc, ho, hd⟩
    · have ny : y ≠ x := fun z => hj (nodup_ix hN e1 (z ▸ hi))
      exact .inl ⟨k1, by simp [ny, k2]⟩
    · exact .inr ⟨k, c, e, oc, by rw [hs.2 c (I.cne y c e)]; exact ho, hd⟩
structure PGsg (X : Cx) (ts : List Expr) (t : TGs) : Prop where
  run : ∀ (pins : List (Addr × Obj)) (s : Shared) (σ : L2.St) (H : Hp) (vs : List V) (us : List Value) (Q : L2.St → Hp → Prop), Inv X pins σ H s → Vals vs us → t vs σ H Q →
    wpAny (model X.prog X.w) X.A (assignInOrder ((assignEach ts X.env).map (·.2)) us) (fun _ s' => (∃ σ' H', Inv X pins σ' H' s' ∧ Q σ' H') ∧ s'.gens = s.gens) X.xe s
theorem pgg_name {i : Nat} {x : Str} (hN : X.N.Nodup) (hi : X.N[i]? = some x) (hx : X.env.scope.names.lookup x = some .local) : PGg X (.Name x pos) (gName i) :=
  ⟨fun _ _ _ H _ _ _ I r h => wpAny_assign_Name (store_g I hN hi hx r fun _ J g => ⟨⟨_, H, J, h⟩, g⟩)⟩
theorem pgsg_nil : PGsg X [] gNil := by
  refine ⟨fun pins s σ H vs us Q I r h => ?_⟩
  obtain ⟨e, h⟩ := h
  subst e
  cases r
  exact assignInOrder_nil ⟨⟨σ, H, I, h⟩, rfl⟩
theorem pgsg_cons {e : Expr} {es : List Expr} {t : TG} {u : TGs} (h1 : PGg X e t) (h2 : PGsg X es u)
    (hs : (assignEach (e :: es) X.env).map (·.2) = assign e X.env :: (assignEach es X.env).map (·.2) := by rfl) : PGsg X (e :: es) (gCons t u) := by
  refine ⟨fun pins s σ H vs us Q I r h => ?_⟩
  obtain ⟨v, vr, e1, h⟩ := h
  subst e1
  cases r with
  | cons r rr =>
    rw [hs]
    refine assignInOrder_cons (thn (h1.run pins s σ H _ _ _ I r h) fun _ s1 z => ?_)
    obtain ⟨⟨σ1, H1, I1, q1⟩, g1⟩ := z
    exact thn (h2.run pins s1 σ1 H1 _ _ Q I1 rr q1) fun _ s2 z => ⟨z.1, z.2.trans g1⟩
theorem pgg_tup {es : List Expr} {k : Nat} {t : TGs} {n : Nat} (hc : X.calm = true) (h : PGsg X es t)
    (hn : (assignEach es X.env).length = n := by rfl) (hst : (assignEach es X.env).findIdx? (·.1) = none := by rfl) : PGg X (.Tuple es k pos) (gTup X.K n t) := by
  refine ⟨fun pins s σ H v u Q I r hw => ?_⟩
  obtain ⟨a, xs, e1, hq, hl, hw⟩ := hw
  subst e1
  cases r
  obtain ⟨its, rv, ht, hz⟩ := I.tuple hq
  refine assign_Tuple_tuple (I.ok.hd hc) ht (by simp [hn, ← hl, rv.length]) hst fun h' hx => ?_
  have I1 : Inv X pins σ H { s with heap := h' } := I.kept (t' := s.toks) fun b o e => hx b o (Nat.ne_of_lt (Heap.lt_size e)) e
  exact h.run pins _ σ H xs _ Q I1 (by simpa using rv) hw
end
end G47

/-! Own rules, part seven: a loop over a tuple written in its head; the tuple is not told, it goes with the iterator. -/
namespace G47
open PySem PySem.Spec PyProof.Rows L2

/-- the turns over these items -/
def Itw (xs : List V) : It := ⟨fun i _ => i < xs.length, fun i H x H' => H' = H ∧ xs[i]? = some x, fun i _ => xs.length ≤ i⟩
theorem turn_tupW {P : Program} {w : World} {K : PySem.W.Frag} {tg : Expr} {a it : Addr} {xs : List V} {us : List Value} (rv : Vals xs us) (ne : a ≠ it) :
    Turn P w K tg (Itw xs) [it, a] it (fun i h => h.IsTupleIter it a i ∧ h.IsTuple a us.toArray) where
  mem := List.mem_cons_self
  obj := fun i h st b hb => by
    rcases List.mem_cons.mp hb with z | z
    · obtain ⟨o, e, c, d⟩ := st.1
      rw [z]
      exact ⟨o, e, fun v y => by rw [d] at y; cases y⟩
    · obtain ⟨o, e, c, n, d⟩ := st.2
      rw [List.mem_singleton.mp z]
      exact ⟨o, e, fun v y => by rw [d] at y; cases y⟩
  keep := fun i h h' st k => ⟨st.1.at fun o e => k it List.mem_cons_self o e, st.2.at fun o e => k a (List.mem_cons_of_mem _ List.mem_cons_self) o e⟩
  item := by
    intro X hP hw hK hc i pins s σ H E I hf st hg
    subst hP hw hK
    obtain ⟨x, hx⟩ : ∃ x, xs[i]? = some x := ⟨xs[i]'hg, List.getElem?_eq_getElem hg⟩
    obtain ⟨u, hu, ru⟩ := rv.get hx
    obtain ⟨f0, f1, f2, f3, f4, f5⟩ := hf it List.mem_cons_self
    refine wpAny_pyNext_tuple_item st.1 st.2 (x := u) (by simpa using hu) fun h' st' sb => ?_
    have I1 : Inv X pins σ H { s with heap := h' } := I.turned (t' := s.toks) (fun b o hb e => (sb.2 b hb).trans e) f0 f1 f3 f4 f5
    obtain ⟨o, e, c, d⟩ := id st'
    exact ⟨u, rfl, go_of (s := { s with heap := h' }) e c d (by decide) ⟨x, H, I1, ru, ⟨rfl, hx⟩, ⟨st', st.2.at fun o e => (sb.2 a ne).trans e⟩, fun b hb => (hf b hb).1⟩⟩
  done := by
    intro X hP hw hK hc i pins s σ H E I hf st hg
    subst hP hw hK
    have hl := rv.length
    have hg : xs.length ≤ i := hg
    obtain ⟨f0, f1, f2, f3, f4, f5⟩ := hf it List.mem_cons_self
    exact wpAny_pyNext_tuple_end (I.ok.hd hc) st.1 st.2 (by simp; omega) fun h' eb => ⟨rfl, I.turned (t' := s.toks) (fun b o hb e => eb b o hb e) f0 f1 f3 f4 f5⟩
  self := fun _ _ _ _ _ st h => wpAny_pyIter_tupleiter st.1 h

def iTupW (t : TA) : TI := fun σ H R => t σ H fun xs H1 => xs.length ≤ sizeLine ∧ R (Itw xs) H1
theorem pi_tupW {X : Cx} {tg : Expr} {es : List Expr} {x1} {pos : Pos} {t : TA} (h : PA X es t) : PI X tg (.Tuple es x1 pos) (iTupW t) := by
  refine ⟨fun pins s σ H R I hq => ?_⟩
  refine wpAny_Tuple_spliced (thn (h.run pos pins s σ H _ I hq) fun us s1 hu => ?_)
  obtain ⟨xs, H1, I1, r, z, q⟩ := hu
  refine ⟨by rw [← r.length]; exact z, ?_⟩
  have I2 : Inv X pins σ H1 { s1 with heap := s1.heap.push { cls := .type "tuple", data := .seq us.toArray } } := I1.kept (t' := s1.toks) fun b o e => Heap.get?_push_of_some _ e
  have ht : (s1.heap.push { cls := .type "tuple", data := .seq us.toArray }).IsTuple s1.heap.objs.size us.toArray := ⟨_, Heap.get?_push_size _ rfl, rfl, _, rfl⟩
  refine wpAny_pyIter_tuple (s := { s1 with heap := s1.heap.push { cls := .type "tuple", data := .seq us.toArray } }) ht ?_
  have sz : (s1.heap.push { cls := .type "tuple", data := .seq us.toArray }).objs.size = s1.heap.objs.size + 1 := Heap.size_push ..
  have ne : s1.heap.objs.size ≠ (s1.heap.push { cls := .type "tuple", data := .seq us.toArray }).objs.size := by rw [sz]; omega
  refine ⟨(s1.heap.push { cls := .type "tuple", data := .seq us.toArray }).objs.size, [(s1.heap.push { cls := .type "tuple", data := .seq us.toArray }).objs.size, s1.heap.objs.size], _, _, H1, rfl,
    I2.kept (t' := s1.toks) fun b o e => Heap.get?_push_of_some _ e, turn_tupW r ne, ⟨⟨_, Heap.get?_push_size _ rfl, rfl, rfl⟩, ht.at fun o e => Heap.get?_push_of_some _ e⟩, fun b hb => ?_, q⟩
  have no : ∀ c, s1.heap.objs.size ≤ c → H1 c = none := fun c hc => I1.hok.fresh hc
  rcases List.mem_cons.mp hb with e | e
  · rw [e]
    exact I2.fpOk (Nat.le_refl _) (no _ (by rw [sz]; omega))
  · rw [List.mem_singleton.mp e]
    exact I1.fpOk (Nat.le_refl _) (no _ (Nat.le_refl _))
end G47

/-! The text by places; a def of the module, a method, under their names. -/
namespace T47
open PySem PySem.Spec PyProof.Rows L2

def top (i : Nat) : Stmt := PySem.Challenge.pw_floorward_k47_whole_steps_for_all_number.main.body.getD i (.Pass ⟨0, 0, 0, 0⟩)
def within (s : Stmt) (j : Nat) : Stmt := (C8.clsBody s).getD j (.Pass ⟨0, 0, 0, 0⟩)

/-- a def of the module under its name x, with the parameters ps -/
def Dfn (K : PySem.W.Frag) (mg : Str → Option Value) (x : Str) (st : Stmt) (ps : List Str) : Prop := ∃ f fd, C8.Def K mg x st f fd ∧ Binds K fd ps []
/-- a method m of the class at C -/
def Mfn (K : PySem.W.Frag) (C : Addr) (m qual : Str) (st : Stmt) (ps : List Str) : Prop := ∃ f fd, Cls K C ∧ Meth K C m f ∧ C8.Fun K m qual st f fd ∧ Binds K fd ps []
/-- a class C under its name x, its __init__ -/
def Ifn (K : PySem.W.Frag) (mg : Str → Option Value) (x qual : Str) (C : Addr) (st : Stmt) (ps : List Str) : Prop := ∃ f fd, Cls K C ∧ Mk K C f ∧ mg x = some (.ref C) ∧ C8.Fun K "__init__" qual st f fd ∧ Binds K fd ps []

section
variable {P : Program} {w : World} {K : PySem.W.Frag} {mg : Str → Option Value} {base : Heap}
theorem cal_of {x : Str} {st : Stmt} {N ps : List Str} {k : Nat} {sp : Sp} (D : Dfn K mg x st ps) (S : FnScope N ps (C8.fnScope st)) (len : ∀ vs H Q E, sp vs H Q E → vs.length = ps.length)
    (hbody : ∀ (f : Addr) (cdv : Value) (A : Around) (outer : List Env) (s : Shared) (H : Hp) (vs : List V) (Q : VK) (E : XK), Room k (A.deeper (envOfC x (C8.fnScope st) s.heap.objs.size f cdv)) → sp vs H Q E →
      ∃ t, PSs (cxOf C8.CX0 P w K mg base N x (C8.fnScope st) f cdv A outer s H E).nox (C8.fnBody st) t ∧ t { nx := fun _ H' => Q .non H', rt := Q } (L2.start N vs) H) : C8.Cal P w K mg base (k + 1) x sp [] := by
  obtain ⟨f, fd, F, b⟩ := D
  exact C8.cal0 F b .nil S len (hbody f)
theorem met_of {C : Addr} {m qual : Str} {st : Stmt} {N ps : List Str} {k : Nat} {sp : Sp} (D : Mfn K C m qual st ps) (S : FnScope N ps (C8.fnScope st)) (len : ∀ vs H Q E, sp vs H Q E → vs.length = ps.length)
    (hbody : ∀ (f : Addr) (cdv : Value) (A : Around) (outer : List Env) (s : Shared) (H : Hp) (vs : List V) (Q : VK) (E : XK), Room k (A.deeper (envOfC qual (C8.fnScope st) s.heap.objs.size f cdv)) → sp vs H Q E →
      ∃ t, PSs (cxOf C8.CX0 P w K mg base N qual (C8.fnScope st) f cdv A outer s H E).nox (C8.fnBody st) t ∧ t { nx := fun _ H' => Q .non H', rt := Q } (L2.start N vs) H) : C8.Met P w K mg base (k + 1) C m sp [] := by
  obtain ⟨f, fd, c, me, F, b⟩ := D
  exact C8.met0 c me F b S len (hbody f)
theorem mak_of {x qual : Str} {C : Addr} {st : Stmt} {N ps : List Str} {k : Nat} {sp : Sp} (D : Ifn K mg x qual C st ps) (S : FnScope N ps (C8.fnScope st)) (len : ∀ vs H Q E, sp vs H Q E → vs.length = ps.length)
    (hbody : ∀ (f : Addr) (cdv : Value) (A : Around) (outer : List Env) (s : Shared) (H : Hp) (vs : List V) (Q : VK) (E : XK), Room k (A.deeper (envOfC qual (C8.fnScope st) s.heap.objs.size f cdv)) → sp vs H Q E →
      ∃ t, PSs (cxOf C8.CX0 P w K mg base N qual (C8.fnScope st) f cdv A outer s H E).nox (C8.fnBody st) t ∧ t { nx := fun _ H' => Q .non H', rt := Q } (L2.start N vs) H) : C8.Mak P w K mg base (k + 1) x C sp [] := by
  obtain ⟨f, fd, c, M, hm, F, b⟩ := D
  exact C8.mak0 M hm F b .nil S len (hbody f)
end
end T47

/-! Small defs of the program. -/
namespace T47
open PySem PySem.Spec PyProof.Rows L2

/-- the built-in names that are still so -/
structure Blt (mg : Str → Option Value) : Prop where
  isinstance : mg "isinstance" = none
  int : mg "int" = none
  bool : mg "bool" = none
  str : mg "str" = none
  range : mg "range" = none
  len : mg "len" = none
  abs : mg "abs" = none
  max : mg "max" = none
  min : mg "min" = none
  sorted : mg "sorted" = none
  tuple : mg "tuple" = none

theorem b_isinstance : bootBuiltins "isinstance" = some (.builtin "isinstance") := by decide +kernel
theorem b_int : bootBuiltins "int" = some (.type "int") := by decide +kernel
theorem b_bool : bootBuiltins "bool" = some (.type "bool") := by decide +kernel
theorem b_str : bootBuiltins "str" = some (.type "str") := by decide +kernel
theorem b_tuple : bootBuiltins "tuple" = some (.type "tuple") := by decide +kernel
theorem b_abs : bootBuiltins "abs" = some (.builtin "abs") := by decide +kernel
theorem b_max : bootBuiltins "max" = some (.builtin "max") := by decide +kernel
theorem b_min : bootBuiltins "min" = some (.builtin "min") := by decide +kernel
theorem b_sorted : bootBuiltins "sorted" = some (.builtin "sorted") := by decide +kernel


theorem k_int_int : kitB "int" "int" = some true := by decide +kernel
theorem k_int_bool : kitB "int" "bool" = some false := by decide +kernel
theorem k_bool_bool : kitB "bool" "bool" = some true := by decide +kernel
theorem k_str_str : kitB "str" "str" = some true := by decide +kernel
theorem k_tup_tup : kitB "tuple" "tuple" = some true := by decide +kernel

section
variable {P : Program} {w : World} {K : PySem.W.Frag} {mg : Str → Option Value} {base : Heap}

/-! is_whole -/
abbrev sIsWhole : Stmt := top 7
theorem sc_isWhole : FnScope ["thing"] ["thing"] (C8.fnScope sIsWhole) := C8.fnScope_by (by decide +kernel)
def spIsWhole : Sp := fun vs H Q _ => ∃ i : Int, vs = [.int i] ∧ Q (.bl true) H
theorem isWhole_ok (D : Dfn K mg "is_whole" sIsWhole ["thing"]) (B : Blt mg) : C8.Cal P w K mg base 1 "is_whole" spIsWhole [] := by
  refine cal_of D sc_isWhole (fun vs H Q E h => ?_) (fun f cdv A outer s H vs Q E hr h => ?_)
  · obtain ⟨i, rfl, _⟩ := h
    rfl
  · obtain ⟨i, rfl, q⟩ := h
    refine ⟨_, pss_one (ps_ret (pe_and (pe_callB call_isi rfl B.isinstance b_isinstance (pa_cons (pv 0) (pa_cons (pe_bltn (v := .ty "int") rfl B.int b_int rfl) pa_nil)))
      (pe_one (pe_not (pe_callB call_isi rfl B.isinstance b_isinstance (pa_cons (pv 0) (pa_cons (pe_bltn (v := .ty "bool") rfl B.bool b_bool rfl) pa_nil))))))), ?_⟩
    refine ⟨_, rfl, _, _, _, _, true, rfl, .ty _, .base (.int i), kit_ty k_int_int, true, rfl, iteT ?_⟩
    exact ⟨_, rfl, _, _, _, _, false, rfl, .ty _, .base (.int i), kit_ty k_int_bool, false, rfl, q⟩

/-! is_whole_from -/
abbrev sIsWholeFrom : Stmt := top 8
theorem sc_isWholeFrom : FnScope ["thing", "least"] ["thing", "least"] (C8.fnScope sIsWholeFrom) := C8.fnScope_by (by decide +kernel)
def spIsWholeFrom : Sp := fun vs H Q _ => ∃ i j : Int, vs = [.int i, .int j] ∧ Q (.bl (decide (j ≤ i))) H
theorem isWholeFrom_ok (D : Dfn K mg "is_whole_from" sIsWholeFrom ["thing", "least"]) (c1 : C8.Cal P w K mg base 1 "is_whole" spIsWhole []) : C8.Cal P w K mg base 2 "is_whole_from" spIsWholeFrom [] := by
  refine cal_of D sc_isWholeFrom (fun vs H Q E h => ?_) (fun f cdv A outer s H vs Q E hr h => ?_)
  · obtain ⟨i, j, rfl, _⟩ := h
    rfl
  · obtain ⟨i, j, rfl, q⟩ := h
    refine ⟨_, pss_one (ps_ret (pe_and (C8.pe_c c1 hr (by decide) rfl (pa_cons (pv 0) pa_nil)) (pe_one (pe_cmpR op_ge (pv 0) (pv 1) (nomark _))))), ?_⟩
    exact ⟨_, rfl, i, rfl, true, rfl, iteT ⟨_, rfl, _, rfl, _, _, rfl, rfl, q⟩⟩

/-! power -/
theorem iop_mulW {X : Cx} : OpR X (inplaceOp .Mult) (rI CMulW fun i j => .int (i * j)) := opI fun _ _ _ _ _ _ _ hc q => imul_int q hc.ok
theorem pow_lt {x : Int} {a : Nat} (h : x.natAbs < 2 ^ a) : ∀ j : Nat, (x ^ j).natAbs < 2 ^ (a * j + 1)
  | 0 => by simp
  | j + 1 => by
    have ih := pow_lt h j
    have z := wide_lt ih h
    rw [Int.pow_succ]
    have e : a * (j + 1) + 1 = a * j + 1 + a := by rw [Nat.mul_succ]; omega
    rw [e]
    exact z
abbrev sPower : Stmt := top 9
theorem sc_power : FnScope ["x", "k", "found", "turn"] ["x", "k"] (C8.fnScope sPower) := C8.fnScope_by (by decide +kernel)
def spPower : Sp := fun vs H Q _ => ∃ (x : Int) (k a : Nat), vs = [.int x, .int k] ∧ x.natAbs < 2 ^ a ∧ 0 < a ∧ a * (k + 1) + 2 ≤ 1000000 ∧ Q (.int (x ^ k)) H
theorem pow_size {a k : Nat} (h0 : 0 < a) (h : a * (k + 1) + 2 ≤ 1000000) : k ≤ 1000000 := by
  have : 1 * (k + 1) ≤ a * (k + 1) := Nat.mul_le_mul_right _ h0
  omega
theorem power_ok (D : Dfn K mg "power" sPower ["x", "k"]) (B : Blt mg) : C8.Cal P w K mg base 1 "power" spPower [] := by
  refine cal_of D sc_power (fun vs H Q E h => ?_) (fun f cdv A outer s H vs Q E hr h => ?_)
  · obtain ⟨x, k, a, rfl, _⟩ := h
    rfl
  · obtain ⟨x, k, a, rfl, hx, ha, hz, q⟩ := h
    have hk := pow_size ha hz
    refine ⟨_, pss_cons (ps_set (i := 2) sc_power.nd rfl (Or.inl rfl) pe_int) (pss_cons (ps_for PassesOwn.never rfl (pi_range1 rfl B.range (pa_cons (pv 1) pa_nil)) (pg_name (i := 3) sc_power.nd rfl (Or.inl rfl))
      (pss_one (ps_aug (i := 2) sc_power.nd rfl (Or.inl rfl) (pv 0) iop_mulW))) (pss_one (ps_ret (pv 2)))), ?_⟩
    refine ⟨_, rfl, k, rfl, by omega, by omega, for_range (n := (k : Int).toNat) (fun i σ H' => H' = H ∧ ∃ v, σ = [some (.int x), some (.int k), some (.int (x ^ i)), v]) ⟨rfl, none, by rw [Int.pow_zero]; rfl⟩ ?_ ?_⟩
    · rintro i σ H' hi ⟨rfl, v, rfl⟩
      have hi : i < k := hi
      refine ⟨_, rfl, _, rfl, _, _, rfl, rfl, ?_, rfl, some (.int (0 + (i : Int))), ?_⟩
      · refine wide_mul (pow_lt hx i) hx (by omega) ha ?_
        have : a * i + a ≤ a * (k + 1) := by rw [← Nat.mul_succ]; exact Nat.mul_le_mul_left _ (by omega)
        omega
      · rw [Int.pow_succ]
        rfl
    · rintro σ H' ⟨rfl, v, rfl⟩
      exact ⟨_, rfl, q⟩

/-! sign -/
abbrev sSign : Stmt := top 12
theorem sc_sign : FnScope ["number"] ["number"] (C8.fnScope sSign) := C8.fnScope_by (by decide +kernel)
def sgn (i : Int) : Int := (if decide (0 < i) then 1 else 0) - (if decide (i < 0) then 1 else 0)
def spSign : Sp := fun vs H Q _ => ∃ i : Int, vs = [.int i] ∧ Q (.int (sgn i)) H
theorem sign_ok (D : Dfn K mg "sign" sSign ["number"]) (B : Blt mg) : C8.Cal P w K mg base 1 "sign" spSign [] := by
  refine cal_of D sc_sign (fun vs H Q E h => ?_) (fun f cdv A outer s H vs Q E hr h => ?_)
  · obtain ⟨i, rfl, _⟩ := h
    rfl
  · obtain ⟨i, rfl, q⟩ := h
    refine ⟨_, pss_one (ps_ret (pe_op op_sub (pe_callTy call_int1 rfl B.int b_int (pa_cons (pe_cmpR op_gt (pv 0) pe_int (nomark _)) pa_nil)) (pe_callTy call_int1 rfl B.int b_int (pa_cons (pe_cmpR op_lt (pv 0) pe_int (nomark _)) pa_nil)))), ?_⟩
    exact ⟨_, rfl, _, _, rfl, rfl, .inr ⟨_, rfl, _, rfl, _, _, rfl, rfl, .inr ⟨_, rfl, _, _, rfl, rfl, q⟩⟩⟩

/-! is_word_of, is_number_of -/
abbrev sIsWordOf : Stmt := top 14
theorem sc_isWordOf : FnScope ["thing", "words"] ["thing", "words"] (C8.fnScope sIsWordOf) := C8.fnScope_by (by decide +kernel)
def spIsWordOf (K : PySem.W.Frag) : Sp := fun vs H Q _ => ∃ (x : Str) (t : Addr) (xs : List V), vs = [.str x, .ref t] ∧ SqT K H t xs ∧ xs.all flatV = true ∧ Q (.bl (inV (.str x) xs)) H
theorem isWordOf_ok (D : Dfn K mg "is_word_of" sIsWordOf ["thing", "words"]) (B : Blt mg) : C8.Cal P w K mg base 1 "is_word_of" (spIsWordOf K) [] := by
  refine cal_of D sc_isWordOf (fun vs H Q E h => ?_) (fun f cdv A outer s H vs Q E hr h => ?_)
  · obtain ⟨x, t, xs, rfl, _⟩ := h
    rfl
  · obtain ⟨x, t, xs, rfl, hT, hf, q⟩ := h
    refine ⟨_, pss_one (ps_ret (pe_and (pe_callB call_isi rfl B.isinstance b_isinstance (pa_cons (pv 0) (pa_cons (pe_bltn (v := .ty "str") rfl B.str b_str rfl) pa_nil)))
      (pe_one (pe_cmpR op_in_seq (pv 0) (pv 1) rfl)))), ?_⟩
    exact ⟨_, rfl, _, _, _, _, true, rfl, .ty _, .base (.str x), kit_ty k_str_str, true, rfl, iteT ⟨_, rfl, _, rfl, t, xs, rfl, .inr hT, rfl, hf, q⟩⟩
abbrev sIsNumberOf : Stmt := top 18
theorem sc_isNumberOf : FnScope ["thing", "numbers"] ["thing", "numbers"] (C8.fnScope sIsNumberOf) := C8.fnScope_by (by decide +kernel)
def spIsNumberOf (K : PySem.W.Frag) : Sp := fun vs H Q _ => ∃ (x : Int) (t : Addr) (xs : List V), vs = [.int x, .ref t] ∧ SqT K H t xs ∧ xs.all flatV = true ∧ Q (.bl (inV (.int x) xs)) H
theorem isNumberOf_ok (D : Dfn K mg "is_number_of" sIsNumberOf ["thing", "numbers"]) (c1 : C8.Cal P w K mg base 1 "is_whole" spIsWhole []) : C8.Cal P w K mg base 2 "is_number_of" (spIsNumberOf K) [] := by
  refine cal_of D sc_isNumberOf (fun vs H Q E h => ?_) (fun f cdv A outer s H vs Q E hr h => ?_)
  · obtain ⟨x, t, xs, rfl, _⟩ := h
    rfl
  · obtain ⟨x, t, xs, rfl, hT, hf, q⟩ := h
    refine ⟨_, pss_one (ps_ret (pe_and (C8.pe_c c1 hr (by decide) rfl (pa_cons (pv 0) pa_nil)) (pe_one (pe_cmpR op_in_seq (pv 0) (pv 1) rfl)))), ?_⟩
    exact ⟨_, rfl, x, rfl, true, rfl, iteT ⟨_, rfl, _, rfl, t, xs, rfl, .inr hT, rfl, hf, q⟩⟩

/-! check_start -/
abbrev sCheckStart : Stmt := top 15
theorem sc_checkStart : FnScope ["x"] ["x"] (C8.fnScope sCheckStart) := C8.fnScope_by (by decide +kernel)
def spCheckStart : Sp := fun vs H Q _ => ∃ i : Int, vs = [.int i] ∧ 1 ≤ i ∧ Q .non H
theorem checkStart_ok (D : Dfn K mg "check_start" sCheckStart ["x"]) (c1 : C8.Cal P w K mg base 2 "is_whole_from" spIsWholeFrom []) : C8.Cal P w K mg base 3 "check_start" spCheckStart [] := by
  refine cal_of D sc_checkStart (fun vs H Q E h => ?_) (fun f cdv A outer s H vs Q E hr h => ?_)
  · obtain ⟨i, rfl, _⟩ := h
    rfl
  · obtain ⟨i, rfl, hi, q⟩ := h
    refine ⟨_, pss_one (ps_if (pt_not (pt_val (C8.pe_c c1 hr (by decide) rfl (pa_cons (pv 0) (pa_cons pe_int pa_nil))))) pss_never pss_nil), ?_⟩
    refine ⟨_, rfl, i, 1, rfl, _, rfl, ?_⟩
    rw [decide_eq_true hi]
    exact iteF q
end
end T47

/-! Closures: cells told as locked records, a contract of a function value. -/
namespace G47
open PySem PySem.Spec PyProof.Rows L2 NdefX LamX

/-- a record that is known to the object -/
def Rec (o : Obj) : HO := .frz o (.own 0)
theorem rec_inj {o o' : Obj} (h : Rec o = Rec o') : o = o' := by
  unfold Rec at h
  injection h
/-- the records at L are not told -/
def thaw (L : List Addr) (H : Hp) : Hp := fun b => if b ∈ L then none else H b
/-- those at L as in H, all else as in H' -/
def freeze (L : List Addr) (H H' : Hp) : Hp := fun b => if b ∈ L then H b else H' b
theorem thaw_in {L : List Addr} {H : Hp} {b : Addr} (h : b ∈ L) : thaw L H b = none := if_pos h
theorem thaw_out {L : List Addr} {H : Hp} {b : Addr} (h : b ∉ L) : thaw L H b = H b := if_neg h
theorem freeze_in {L : List Addr} {H H' : Hp} {b : Addr} (h : b ∈ L) : freeze L H H' b = H b := if_pos h
theorem freeze_out {L : List Addr} {H H' : Hp} {b : Addr} (h : b ∉ L) : freeze L H H' b = H' b := if_neg h

section
variable {P : Program} {w : World} {K : PySem.W.Frag} {mg : Str → Option Value} {base : Heap} {A : Around} {outer : List Env} {s s' : Shared} {H H' : Hp} {L : List Addr}
/-- at L only locked records are told -/
def AllRec (L : List Addr) (H : Hp) : Prop := ∀ b ∈ L, ∃ o, H b = some (Rec o)
theorem thaw_env (e0 : Env0 P w K mg base A outer s H) (hL : AllRec L H) : Env0 P w K mg base A outer s (thaw L H) where
  frames := e0.frames
  mod := e0.mod
  bs := fun b o e => ⟨(e0.bs b o e).1, by
    by_cases hb : b ∈ L
    · exact thaw_in hb
    · rw [thaw_out hb]; exact (e0.bs b o e).2⟩
  bsz := e0.bsz
  funs := e0.funs
  frf := fun b hb => by
    by_cases h : b ∈ L
    · exact thaw_in h
    · rw [thaw_out h]; exact e0.frf b hb
  hok := fun b u e => by
    by_cases hb : b ∈ L
    · rw [thaw_in hb] at e
      cases e
    · rw [thaw_out hb] at e
      have nl : ∀ {c : Addr} {o : HO}, H c = some o → (∀ q, o ≠ Rec q) → c ∉ L := fun {c o} e1 n z => by
        obtain ⟨q, hq⟩ := hL c z
        rw [e1] at hq
        exact n q (Option.some.inj hq)
      exact (e0.hok b u e).stay (fun _ _ _ z => z) (fun c z => by rw [thaw_out (nl z fun q y => by cases y)]; exact z) fun c xs z => by rw [thaw_out (nl z fun q y => by cases y)]; exact z
  bare := e0.bare
theorem freeze_back (e0 : Env0 P w K mg base A outer s H) (hL : AllRec L H) (u : Un (frs outer) [] (thaw L H) H' s.heap s'.heap) (hok : HOk P w H' s'.heap) :
    Un (frs outer) [] H (freeze L H H') s.heap s'.heap ∧ HOk P w (freeze L H H') s'.heap := by
  have nl : ∀ {c : Addr}, H c = none → c ∉ L := fun {c} e1 z => by
    obtain ⟨q, hq⟩ := hL c z
    rw [e1] at hq
    cases hq
  have nl2 : ∀ {c : Addr} {o : HO}, H c = some o → (∀ q, o ≠ Rec q) → c ∉ L := fun {c o} e1 n z => by
    obtain ⟨q, hq⟩ := hL c z
    rw [e1] at hq
    exact n q (Option.some.inj hq)
  have no : ∀ b : Addr, b ∉ ([] : List Addr) := fun b h => by cases h
  have there : ∀ {c : Addr} {o : Obj}, c ∈ L → H c = some (Rec o) → s.heap.get? c = some o := fun {c o} hc e => (e0.hok c _ e).1
  have nfr : ∀ {c : Addr}, c ∈ L → c ∉ frs outer := fun {c} hc z => nl (e0.frf c z) hc
  have stay : ∀ {c : Addr} {o : Obj}, c ∈ L → H c = some (Rec o) → s'.heap.get? c = some o := fun {c o} hc e => u.keep c o (there hc e) (thaw_in hc) (nfr hc) (no c)
  have off : ∀ {c : Addr}, c ∈ L → H' c = none := fun {c} hc => by
    obtain ⟨o, e⟩ := hL c hc
    exact u.free c o (there hc e) (thaw_in hc) (no c)
  refine ⟨⟨fun b o e n hb hx => u.keep b o e (by rw [thaw_out (nl n)]; exact n) hb hx, fun b o e n hb hx => u.slot b o e (by rw [thaw_out (nl n)]; exact n) hb hx, fun b o e n hx => ?_, u.there, fun b xs e => ?_, fun b o v e => ?_, fun b ps e => ?_⟩, fun b v e => ?_⟩
  · rw [freeze_out (nl n)]
    exact u.free b o e (by rw [thaw_out (nl n)]; exact n) hx
  · have q := nl2 e fun q y => by cases y
    rw [freeze_out q]
    exact u.tups b xs (by rw [thaw_out q]; exact e)
  · by_cases hb : b ∈ L
    · rw [freeze_in hb]; exact e
    · rw [freeze_out hb]
      exact u.frzs b o v (by rw [thaw_out hb]; exact e)
  · have q := nl2 e fun q y => by cases y
    rw [freeze_out q]
    exact u.tbls b ps (by rw [thaw_out q]; exact e)
  · by_cases hb : b ∈ L
    · obtain ⟨o, eo⟩ := hL b hb
      rw [freeze_in hb, eo] at e
      cases e
      exact ⟨stay hb eo, o, stay hb eo⟩
    · rw [freeze_out hb] at e
      have q : ∀ {c : Addr} {o : HO}, H' c = some o → c ∉ L := fun {c o} e1 z => by
        rw [off z] at e1
        cases e1
      exact (hok b v e).stay (fun _ _ _ z => z) (fun c z => by rw [freeze_out (q z)]; exact z) fun c xs z => by rw [freeze_out (q z)]; exact z
/-- records that were not told are told from now on -/
theorem told_ok {c : Addr} {o : Obj} {h : Heap} (hok : HOk P w H h) (n : H c = none) (e : h.get? c = some o) : HOk P w (upd H c (Rec o)) h := fun b v z => by
  by_cases hb : b = c
  · rw [hb, upd_same] at z
    cases z
    rw [hb]
    exact ⟨e, o, e⟩
  · rw [upd_ne hb] at z
    exact (hok b v z).stay (fun _ _ _ y => y) (fun d y => by rw [upd_ne (ne_of_none y n)]; exact y) fun d xs y => by rw [upd_ne (ne_of_none y n)]; exact y
theorem told_un {c : Addr} {o : Obj} {fs : List Addr} {h h' : Heap} (u : Un fs [] H H' h h') (n : H' c = none) (hc : h.objs.size ≤ c) : Un fs [] H (upd H' c (Rec o)) h h' where
  keep := u.keep
  slot := u.slot
  free := fun b ob e z hx => by
    rw [upd_ne (Nat.ne_of_lt (Nat.lt_of_lt_of_le (Heap.lt_size e) hc))]
    exact u.free b ob e z hx
  there := u.there
  tups := fun b xs e => by
    have q := u.tups b xs e
    rw [upd_ne (ne_of_none q n)]; exact q
  frzs := fun b ob v e => by
    have q := u.frzs b ob v e
    rw [upd_ne (ne_of_none q n)]; exact q
  tbls := fun b ps e => by
    obtain ⟨m, q⟩ := u.tbls b ps e
    exact ⟨m, by rw [upd_ne (ne_of_none q n)]; exact q⟩
end

/-- all this is told -/
def Holds (cs : List (Addr × HO)) (H : Hp) : Prop := ∀ p ∈ cs, H p.1 = some p.2
theorem Holds.same {cs : List (Addr × HO)} {H H' : Hp} (h : Holds cs H) (e : Same H H') : Holds cs H' := fun p hp => e _ _ (h p hp)
/-- a function value that maps an int of dom to an int, as long as what it leans on is told -/
structure CmpOk (P : Program) (w : World) (K : PySem.W.Frag) (mg : Str → Option Value) (base : Heap) (k : Nat) (f : Addr) (cs : List (Addr × HO)) (dom : Int → Prop) (side : Int → Int) : Prop where
  fn : ∀ H h, HOk P w H h → Holds cs H → PySem.W.FnAt f h
  nl : ∀ p ∈ cs, ∀ xs, p.2 ≠ .lst xs
  nt : ∀ p ∈ cs, ∀ ps, p.2 ≠ .tbl ps
  run : ∀ (A : Around) (outer : List Env) (s : Shared) (H : Hp) (i : Int) (t : Tok), Room k A → Env0 P w K mg base A outer s H → Holds cs H → dom i →
    codeAny (model P w) A (.call (.ref f) ⟨[.int i t], []⟩) (CR L2.CX0 outer P w H s (fun v H' => v = .int (side i) ∧ Same H H') L2.E0) s

/-- f(e), f a name that holds such a function -/
def tCmp (P : Program) (w : World) (K : PySem.W.Frag) (mg : Str → Option Value) (base : Heap) (k i : Nat) (t : TA) : TE := fun σ H Q => ∃ f cs dom side, CmpOk P w K mg base k f cs dom side ∧ σ[i]? = some (some (.ref f)) ∧ Holds cs H ∧
  t σ H fun vs H1 => ∃ j, vs = [.int j] ∧ dom j ∧ Holds cs H1 ∧ ∀ H', Same H1 H' → Q (.int (side j)) H'
section
variable {X : Cx} {k i : Nat} {x : Str} {e : Expr} {t : TA} {p pos : Pos}
theorem pe_cmpf (hr : Room k X.A) (hN : X.N[i]? = some x) (hv : Vis X.env.scope x) (ha : PA X [e] t) (hd : (x == ("__debug__" : Str)) = false := by decide) (hcd : (x == ("__classdict__" : Str)) = false := by decide)
    (he : starEach [e] X.env = (false, eval e X.env) :: starEach [] X.env := by rfl) (hpl : (backTo pos (starEach [] X.env)).any (·.1) = false := by rfl) :
    PE X (.Call (.Name x p) [e] [] pos) (tCmp X.prog X.w X.K X.mg X.base k i t) := by
  refine ⟨fun pins s σ H Q I h => ?_⟩
  obtain ⟨f, cs, dom, side, c, hs, hc, ht⟩ := h
  refine wpAny_Call_Name_kw (thn ((pe_var (pos := p) hN hv hd hcd).run pins s σ H (fun v H1 => v = .ref f ∧ H1 = H) I ⟨.ref f, hs, rfl, rfl⟩) fun u s1 hu => ?_)
  obtain ⟨v, H1, I1, r1, ev, eH⟩ := hu
  subst ev
  rw [eH] at I1
  obtain rfl : u = Value.ref f := r1
  refine PySem.W.callWith_F (first := []) (c.fn H s1.heap I1.hok hc) (thn (ha.run pos pins s1 σ H _ I1 ht) fun us s2 h2 => ?_) he hpl
  obtain ⟨vs, H2, I2, r, h3⟩ := h2
  obtain ⟨j, ej, hj, hc2, q⟩ := h3
  subst ej
  cases r with
  | cons r rr =>
    cases rr
    obtain ⟨t, rfl⟩ := r
    refine ⟨c.fn H2 s2.heap I2.hok hc2, ?_⟩
    show wpAny _ _ (call (.ref f) [.int j t]) _ _ _
    refine wpAny_call (codeAny_mono (c.run X.A X.stack s2 H2 j t hr I2.env0 hc2 hj) fun r s' hq => ?_)
    cases r with
    | error e => exact hq.elim
    | ok fl =>
      cases fl with
      | ret u =>
        obtain ⟨v, H', I', rv, ev, sm⟩ := I2.after hq
        subst ev
        exact ⟨.int (side j), H', I', rv, q H' sm⟩
      | next => exact False.elim hq
      | brk => exact False.elim hq
      | cont => exact False.elim hq
end
end G47

/-! comparing and the function that it hands back. -/
namespace T47
open PySem PySem.Spec PyProof.Rows L2 NdefX LamX G47

abbrev sComparing : Stmt := top 19
def sSideOf : Stmt := (C8.fnBody (top 19)).getD 0 (.Pass ⟨0, 0, 0, 0⟩)
/-- how x compares with a, which is hit or not -/
def cmpSide (a : Int) (hit : Bool) (x : Int) : Int := if a < x then 1 else if x = a ∧ hit = true then 0 else -1
abbrev sideNF (q : Str) (cl : List (Str × Addr)) (c' : Addr) : NF := NF.of sSideOf "side_of" q cl c'
theorem sc_side : NScope ["x", "answer", "hit"] ["x"] ["answer", "hit"] (C8.fnScope sSideOf) := nscope_by (by decide +kernel)
def spSide : List (Option V) → Sp := fun ws vs H Q _ => ∃ (x a : Int) (hit : Bool), vs = [.int x] ∧ ws = [some (.int a), some (.bl hit)] ∧ Q (.int (cmpSide a hit x)) H

section
variable {P : Program} {w : World} {K : PySem.W.Frag} {mg : Str → Option Value} {base : Heap}
theorem side_nok {q : Str} {cl : List (Str × Addr)} {c' f : Addr} : NOk P w K mg base L2.CX0 1 f (sideNF q cl c') ["x"] ["answer", "hit"] spSide := by
  refine nok_of (N := ["x", "answer", "hit"]) sc_side (fun _ _ _ us hl => match us, hl with | [_], _ => rfl) (fun ws vs H Q E h => ?_) (fun A outer s H vs ws Q E hr _ _ _ h => ?_)
  · obtain ⟨x, a, hit, rfl, _⟩ := h
    rfl
  · obtain ⟨x, a, hit, rfl, rfl, q⟩ := h
    refine ⟨_, PSs.nox (pss_cons (ps_if (pt_cmpR op_gt (pv 0) (pv 1) (nomark _)) (pss_one (ps_ret pe_int)) pss_nil)
      (pss_cons (ps_if (PW.pt (pw_and (pt_cmpR op_eq (pv 0) (pv 1) (nomark _)) (pw_and1 (pt_truth (pv 2) fun _ => rfl)))) (pss_one (ps_ret pe_int)) pss_nil) (pss_one (ps_ret (pe_un un_neg pe_int))))), ?_⟩
    refine ⟨_, rfl, _, rfl, _, _, rfl, rfl, _, rfl, ite2 (fun h1 => ?_) (fun h1 => ?_)⟩
    · have h1 : a < x := of_decide_eq_true h1
      unfold cmpSide at q
      rw [if_pos h1] at q
      exact q
    · have h1 : ¬ a < x := fun z => h1 (decide_eq_true z)
      unfold cmpSide at q
      rw [if_neg h1] at q
      refine ⟨_, rfl, _, rfl, rfl, _, rfl, ite2 (fun h2 => ?_) (fun h2 => ?_)⟩
      · have h2 : x = a := by
          have z := of_decide_eq_true h2
          injection z
        refine ⟨_, rfl, hit, rfl, ?_⟩
        cases hit with
        | true =>
          rw [if_pos ⟨h2, rfl⟩] at q
          exact iteT q
        | false =>
          rw [if_neg (fun z => by cases z.2)] at q
          exact iteF ⟨_, rfl, q⟩
      · have h2 : ¬ x = a := fun z => h2 (decide_eq_true (by rw [z]))
        rw [if_neg (fun z => h2 z.1)] at q
        exact iteF ⟨_, rfl, q⟩
theorem side_cmp {q : Str} {cl : List (Str × Addr)} {c' f cA cH : Addr} {oA oH : Obj} {uA uH : Value} {a : Int} {hit : Bool} (h1 : cl.lookup ("answer" : Str) = some cA) (h2 : cl.lookup ("hit" : Str) = some cH) (inj : ∀ x y c, cl.lookup x = some c → cl.lookup y = some c → x = y)
    (only : ∀ y c, cl.lookup y = some c → c = cA ∨ c = cH) (dA : oA.data = .cell (some uA)) (rA : RelV (.int a) uA) (dH : oH.data = .cell (some uH)) (rH : RelV (.bl hit) uH) :
    CmpOk P w K mg base 1 f [(f, FnO f (sideNF q cl c')), (c', CodeO c' q), (cA, Rec oA), (cH, Rec oH)] (fun _ => True) (cmpSide a hit) := by
  have at_ : ∀ {H : Hp}, Holds [(f, FnO f (sideNF q cl c')), (c', CodeO c' q), (cA, Rec oA), (cH, Rec oH)] H → H f = some (FnO f (sideNF q cl c')) ∧ H c' = some (CodeO c' q) ∧ H cA = some (Rec oA) ∧ H cH = some (Rec oH) := fun {H} h =>
    ⟨h (f, FnO f (sideNF q cl c')) (by simp), h (c', CodeO c' q) (by simp), h (cA, Rec oA) (by simp), h (cH, Rec oH) (by simp)⟩
  refine ⟨fun H h hok hc => ?_, fun p hp xs => ?_, fun p hp xs => ?_, fun A outer s H i t hr e0 hc _ => ?_⟩
  · obtain ⟨z, _⟩ := at_ hc
    obtain ⟨od, sl, doc, pm, ctv, ho⟩ := fnO_at hok z
    exact ⟨_, od, _, sl, ho⟩
  · simp only [List.mem_cons, List.not_mem_nil, or_false] at hp
    rcases hp with rfl | rfl | rfl | rfl <;> exact fun z => by cases z
  · simp only [List.mem_cons, List.not_mem_nil, or_false] at hp
    rcases hp with rfl | rfl | rfl | rfl <;> exact fun z => by cases z
  · obtain ⟨z1, z2, z3, z4⟩ := at_ hc
    have hL : AllRec [cA, cH] H := fun b hb => by
      rcases List.mem_cons.mp hb with e | e
      · exact ⟨oA, by rw [e]; exact z3⟩
      · exact ⟨oH, by rw [List.mem_singleton.mp e]; exact z4⟩
    have nl : ∀ {c : Addr} {o : HO}, H c = some o → (∀ q, o ≠ Rec q) → c ∉ [cA, cH] := fun {c o} e1 n z => by
      obtain ⟨q, hq⟩ := hL c z
      rw [e1] at hq
      exact n q (Option.some.inj hq)
    have nf := nl z1 fun q y => by cases y
    have nc := nl z2 fun q y => by cases y
    have gA : s.heap.get? cA = some oA := (e0.hok cA _ z3).1
    have gH : s.heap.get? cH = some oH := (e0.hok cH _ z4).1
    have C : CellsAt cl ["answer", "hit"] [some (.int a), some (.bl hit)] s.heap (thaw [cA, cH] H) := by
      refine ⟨rfl, fun y c e => ?_, inj, fun i y e => ?_⟩
      · rcases only y c e with rfl | rfl
        · exact ⟨thaw_in (by simp), _, oA, gA, dA⟩
        · exact ⟨thaw_in (by simp), _, oH, gH, dH⟩
      · match i, e with
        | 0, e =>
          cases e
          exact ⟨cA, h1, fun v ev => by cases ev; exact ⟨uA, rA, oA, gA, dA⟩⟩
        | 1, e =>
          cases e
          exact ⟨cH, h2, fun v ev => by cases ev; exact ⟨uH, rH, oH, gH, dH⟩⟩
        | n + 2, e => cases e
    have run := (side_nok (P := P) (w := w) (K := K) (mg := mg) (base := base) (q := q) (cl := cl) (c' := c') (f := f)).run A outer s (thaw [cA, cH] H) [.int i t] [.int i] [some (.int a), some (.bl hit)] (fun v H' => v = .int (cmpSide a hit i) ∧ H' = thaw [cA, cH] H) L2.E0 hr (thaw_env e0 hL)
      ((thaw_out nf).trans z1) ((thaw_out nc).trans z2) C (.cons ⟨t, rfl⟩ .nil) ⟨i, a, hit, rfl, rfl, rfl, rfl⟩
    refine codeAny_mono run fun r s' hq => ?_
    cases r with
    | error e => exact hq.elim
    | ok fl =>
      cases fl with
      | ret u =>
        obtain ⟨v, H', os, bare, un, hok, rv, ev, eH⟩ := hq
        obtain ⟨u1, u2⟩ := freeze_back e0 hL un hok
        refine ⟨v, _, os, bare, u1, u2, rv, ev, fun b o e => ?_⟩
        by_cases hb : b ∈ [cA, cH]
        · rw [freeze_in hb]; exact e
        · rw [freeze_out hb, eH, thaw_out hb]; exact e
      | next => exact False.elim hq
      | brk => exact False.elim hq
      | cont => exact False.elim hq

/-! comparing -/
theorem sc_comparing : FnScope ["answer", "hit", "side_of"] ["answer", "hit"] (C8.fnScope sComparing) := C8.fnScope_by (by decide +kernel)
def qSide : Str := "comparing.<locals>.side_of"
/-- the tables of code objects: T's first is comparing's -/
def spComparing (P : Program) (w : World) (K : PySem.W.Frag) (mg : Str → Option Value) (base : Heap) (T : List NTab) : Sp := fun vs H Q _ => ∃ (a : Int) (hit : Bool), vs = [.int a, .bl hit] ∧ TabsN T H ∧
  ∀ (f : Addr) (cs : List (Addr × HO)) (H' : Hp), ExtN H H' → TabsN T H' → CmpOk P w K mg base 1 f cs (fun _ => True) (cmpSide a hit) → Holds cs H' → Q (.ref f) H'
theorem comparing_fn {T : List NTab} {c Pt f : Addr} {oc : Value} {od an : Option Addr} {osl : Array (Option Value)} {kV doc pm ct : Value}
    (lk : K.lookup f = some ⟨oc, od, .func (PySem.W.fnOf "comparing" "comparing" (C8.fnArgs sComparing) (C8.fnBody sComparing) (C8.fnScope sComparing) .none kV doc pm an (.ref c) ct), osl⟩) (hcd : PySem.W.codeIn K (.ref c) "comparing" = true)
    (TB : TabB base mg c Pt) (hm : (Pt, fun _ _ => qSide) ∈ T) (hu : ∀ p ∈ T, p.1 = Pt → p.2 = fun _ _ => qSide) :
    FnOk P w K mg base L2.CX0 2 f (PySem.W.fnOf "comparing" "comparing" (C8.fnArgs sComparing) (C8.fnBody sComparing) (C8.fnScope sComparing) .none kV doc pm an (.ref c) ct) ["answer", "hit"] (spComparing P w K mg base T) := by
  refine ⟨fun vs H Q E h => ?_, fun A outer s H args us vs Q E hr e0 hb r hsp => ?_⟩
  · obtain ⟨a, hit, rfl, _⟩ := h
    rfl
  obtain ⟨a, hit, rfl, hT, q⟩ := hsp
  have S := sc_comparing
  have KX : K.In s.heap := e0.mod.kin.keeps fun b o e => (e0.bs b o e).1
  have lim : s.heap.NoLimit := e0.mod.nolimit.keeps fun b o e => (e0.bs b o e).1
  have hkind : ∀ y ∈ (["answer", "hit"] : List Str).zip us, (C8.fnScope sComparing).names.lookup y.1 = some .local ∨ ((C8.fnScope sComparing).names.lookup y.1 = some .cell ∧ ((cellsFrom (s.heap.objs.size + 1) (C8.fnScope sComparing).names []).lookup y.1).isSome = true) := fun ⟨n, v⟩ hy => by
    rcases S.par n (List.of_mem_zip hy).1 with z | z
    · exact .inl z
    · exact .inr ⟨z, PySem.W.cellsFrom_some _ _ _ (.inl z)⟩
  refine codeAny_call_function hr.depth (KX _ _ lk) rfl S.co S.gen rfl (PySem.W.codeRec_of KX hcd) (hb _ _ _ _ ?_)
  refine wpAny_newFunctionEnv_cells S.kind hkind fun env he s1 x => ?_
  subst he
  refine ⟨lim.keeps x.toInCall.keep, codeAny_func ?_⟩
  have I : L2.Inv (cxOf L2.CX0 P w K mg base ["answer", "hit", "side_of"] "comparing" (C8.fnScope sComparing) f (.ref c) A outer s H E) [] (L2.start ["answer", "hit", "side_of"] [.int a, .bl hit]) H s1 := inv_start S hr.hd e0 rfl r x
  have hnd : ndefB (C8.fnScope sComparing) (C8.fnScope sSideOf) ["answer", "hit"] = true := by decide +kernel
  have st1 := ps_ndefMS (X := cxOf L2.CX0 P w K mg base ["answer", "hit", "side_of"] "comparing" (C8.fnScope sComparing) f (.ref c) A outer s H E) (st := sSideOf) (T := T) (i := 2) rfl TB rfl hm rfl hu (ndef_free hnd) rfl rfl rfl S.nd rfl (.inl rfl) (.inl rfl)
  show wpAny _ _ (execs [sSideOf, _] _) _ _ _
  refine wpAny_execs_cons (wpAny_mono (st1.run [] s1 _ H { nx := fun σ' H' => ∃ (f' c' : Addr), σ' = [some (.int a), some (.bl hit), some (.ref f')] ∧ ExtN H H' ∧ TabsN T H' ∧ H' f' = some (FnO f' (sideNF qSide (cloFrom (cellsFrom (s.heap.objs.size + 1) (C8.fnScope sComparing).names []) (C8.fnScope sSideOf).names []) c')) ∧ H' c' = some (CodeO c' qSide), rt := fun _ _ => False } I ⟨hT, fun f' c' H1 e1 _ t1 _ h1 h2 => ⟨f', c', rfl, e1, t1, h1, h2⟩⟩) (fun fl s2 hs => ?_) fun e s' hs => hs)
  cases fl with
  | brk => obtain ⟨_, _, _, z⟩ := hs; exact z.elim
  | cont => obtain ⟨_, _, _, z⟩ := hs; exact z.elim
  | ret u => obtain ⟨_, _, _, _, _, z⟩ := hs; exact z.elim
  | next =>
    obtain ⟨σ2, H2, I2, f', c', eσ, eN, tN, hf', hc'⟩ := hs
    subst eσ
    refine wpAny_execs_cons (wpAny_Return_some (wpAny_mono ((pv 2 (x := "side_of")).run [] s2 _ H2 (fun v H' => v = .ref f' ∧ H' = H2) I2 ⟨.ref f', rfl, rfl, rfl⟩) (fun u s3 hu => ?_) fun e s' hs => hs))
    obtain ⟨v, H3, I3, rv, ev, eH⟩ := hu
    subst ev eH
    obtain rfl : u = Value.ref f' := rv
    have val : ∀ (i : Nat) (y : Str) (v : V), (["answer", "hit", "side_of"] : List Str)[i]? = some y → ([some (.int a), some (.bl hit), some (.ref f')] : List (Option V))[i]? = some (some v) → (C8.fnScope sComparing).names.lookup y = some .cell →
        ∃ c o u, (cellsFrom (s.heap.objs.size + 1) (C8.fnScope sComparing).names []).lookup y = some c ∧ s3.heap.get? c = some o ∧ o.data = .cell (some u) ∧ RelV v u := fun i y v e1 e2 e3 => by
      obtain ⟨m, hn, hl⟩ := I3.loc
      obtain ⟨u, ru, l⟩ := hl i y v e1 e2 (.inr (.inl e3))
      rcases l with ⟨k, _⟩ | ⟨_, c, hc, o, ho, hd⟩
      · have k : (C8.fnScope sComparing).names.lookup y = some .local := k
        rw [e3] at k
        cases k
      · exact ⟨c, o, u, hc, ho, hd, ru⟩
    obtain ⟨cA, oA, uA, lA, gA, dA, rA⟩ := val 0 "answer" (.int a) rfl rfl (by decide +kernel)
    obtain ⟨cH, oH, uH, lH, gH, dH, rH⟩ := val 1 "hit" (.bl hit) rfl rfl (by decide +kernel)
    have nA : H3 cA = none := I3.freeC _ cA lA
    have nH : H3 cH = none := I3.freeC _ cH lH
    have ne : cA ≠ cH := fun z => by
      have z2 := I3.ok.inj "answer" "hit" cA lA (by rw [z]; exact lH)
      exact absurd z2 (by decide +kernel)
    have sA : s.heap.objs.size ≤ cA := I3.ok.cab _ cA rfl lA
    have sH : s.heap.objs.size ≤ cH := I3.ok.cab _ cH rfl lH
    have nH' : upd H3 cA (Rec oA) cH = none := (upd_ne ne.symm).trans nH
    have un : Un (frs outer) [] H (upd (upd H3 cA (Rec oA)) cH (Rec oH)) s.heap s3.heap := told_un (told_un I3.base nA sA) nH' sH
    have hok : HOk P w (upd (upd H3 cA (Rec oA)) cH (Rec oH)) s3.heap := told_ok (told_ok I3.hok nA gA) nH' gH
    have same : Same H3 (upd (upd H3 cA (Rec oA)) cH (Rec oH)) := fun b o e => by
      rw [upd_ne (ne_of_none e nH), upd_ne (ne_of_none e nA)]
      exact e
    have hfree : ∀ y ∈ (C8.fnScope sSideOf).names, y.2 = .free → ∃ c, (cellsFrom (s.heap.objs.size + 1) (C8.fnScope sComparing).names []).lookup y.1 = some c := fun y hy e => I3.ok.has _ (ndef_free hnd y hy e)
    have frk : ∀ y ∈ (["answer", "hit"] : List Str), (y, NameKind.free) ∈ (C8.fnScope sSideOf).names := ndef_fr hnd
    have only : ∀ y c, (cloFrom (cellsFrom (s.heap.objs.size + 1) (C8.fnScope sComparing).names []) (C8.fnScope sSideOf).names []).lookup y = some c → c = cA ∨ c = cH := fun y c e => by
      have e2 := clo_cm hfree e
      have hy : y ∈ (["answer", "hit"] : List Str) := by
        rcases cloFrom_mem (PySem.mem_of_lookup e) with z | ⟨z, _⟩
        · cases z
        · exact sc_side.free _ z rfl
      rcases List.mem_cons.mp hy with z | z
      · rw [z, lA] at e2
        exact .inl (Option.some.inj e2).symm
      · rw [List.mem_singleton.mp z, lH] at e2
        exact .inr (Option.some.inj e2).symm
    have cmp := side_cmp (P := P) (w := w) (K := K) (mg := mg) (base := base) (q := qSide) (c' := c') (f := f') (a := a) (hit := hit) (clo_has hfree (frk _ (by simp)) lA) (clo_has hfree (frk _ (by simp)) lH)
      (fun y z c e1 e2 => I3.ok.inj y z c (clo_cm hfree e1) (clo_cm hfree e2)) only dA rA dH rH
    refine ⟨.ref f', _, I3.os, I3.bare, un, hok, rfl, q f' _ _ (fun b o e n => same _ _ (eN b o e n)) (tN.ext same) cmp fun p hp => ?_⟩
    simp only [List.mem_cons, List.not_mem_nil, or_false] at hp
    rcases hp with rfl | rfl | rfl | rfl
    · exact same _ _ hf'
    · exact same _ _ hc'
    · exact (upd_ne ne).trans upd_same
    · exact upd_same
end
end T47

/-! The class Steps: its making, widths. -/
namespace T47
open PySem PySem.Spec PyProof.Rows L2 G47

/-! attributes by name -/
theorem look_hd (f : Str) (v : V) (r : List (Str × V)) : ((f, v) :: r).lookup f = some v := by
  rw [List.lookup_cons, beq_self_eq_true]
theorem look_tl {f g : Str} (v : V) (r : List (Str × V)) (h : ¬ g = f) : ((f, v) :: r).lookup g = r.lookup g := by
  rw [List.lookup_cons, beq_eq_false_iff_ne.mpr h]
theorem look_nil (g : Str) : ([] : List (Str × V)).lookup g = none := rfl
theorem put_nil (f : Str) (v : V) : putF f v [] = [(f, v)] := rfl
theorem put_tl {f g : Str} (v u : V) (r : List (Str × V)) (h : ¬ g = f) : putF f v ((g, u) :: r) = (g, u) :: putF f v r := by
  show (if g = f then (g, v) :: r else (g, u) :: putF f v r) = _
  rw [if_neg h]

theorem same_new {H : Hp} {p : Addr} {o : HO} (n : H p = none) : Same H (upd H p o) := fun b u e => by
  rw [upd_ne (ne_of_none e n)]
  exact e

/-- a loop with steps -/
structure Lp where
  test : Str
  after : Str
  last : Int
  plus : Int
  deriving DecidableEq
structure LpOk (L : Lp) : Prop where
  test : L.test = "upto" ∨ L.test = "below"
  after : L.after = "half" ∨ L.after = "same" ∨ L.after = "double"
  last : L.last = 1 ∨ L.last = 2
  plus : L.plus = -1 ∨ L.plus = 0 ∨ L.plus = 1
def Lp.vs (L : Lp) : List V := [.str L.test, .str L.after, .int L.last, .int L.plus]
def stF (L : Lp) : List (Str × V) := [("test", .str L.test), ("after", .str L.after), ("last", .int L.last), ("plus", .int L.plus)]
theorem st_test (L : Lp) : (stF L).lookup ("test" : Str) = some (.str L.test) := look_hd _ _ _
theorem st_after (L : Lp) : (stF L).lookup ("after" : Str) = some (.str L.after) := by
  unfold stF
  rw [look_tl _ _ (by decide +kernel), look_hd]
theorem st_last (L : Lp) : (stF L).lookup ("last" : Str) = some (.int L.last) := by
  unfold stF
  rw [look_tl _ _ (by decide +kernel), look_tl _ _ (by decide +kernel), look_hd]
theorem st_plus (L : Lp) : (stF L).lookup ("plus" : Str) = some (.int L.plus) := by
  unfold stF
  rw [look_tl _ _ (by decide +kernel), look_tl _ _ (by decide +kernel), look_tl _ _ (by decide +kernel), look_hd]
theorem st_no (L : Lp) {m : Str} (h1 : ¬ m = "test") (h2 : ¬ m = "after") (h3 : ¬ m = "last") (h4 : ¬ m = "plus") : (stF L).lookup m = none := by
  unfold stF
  rw [look_tl _ _ h1, look_tl _ _ h2, look_tl _ _ h3, look_tl _ _ h4, look_nil]

/-- what of the classes must be so: CS Steps, CR StepsRun -/
structure ClsS (K : PySem.W.Frag) (CS CR : Addr) : Prop where
  cS : Cls K CS
  cR : Cls K CR
  nTest : NoAttr K CS "test"
  nAfter : NoAttr K CS "after"
  nLast : NoAttr K CS "last"
  nPlus : NoAttr K CS "plus"
  nPlaces : NoAttr K CR "places"
  nTold : NoAttr K CR "told"

section
variable {P : Program} {w : World} {K : PySem.W.Frag} {mg : Str → Option Value} {base : Heap}

/-! check_steps -/
abbrev sCheckSteps : Stmt := top 22
theorem sc_checkSteps : FnScope ["test", "after", "last", "plus", "rows", "word", "good"] ["test", "after", "last", "plus"] (C8.fnScope sCheckSteps) := C8.fnScope_by (by decide +kernel)
def spCheckSteps : Sp := fun vs H Q _ => ∃ L : Lp, vs = L.vs ∧ LpOk L ∧ ∀ H', Same H H' → Q .non H'
theorem checkSteps_ok {tT : Addr} (D : Dfn K mg "check_steps" sCheckSteps ["test", "after", "last", "plus"]) (mT : mg "TESTS" = some (.ref tT)) (hT : ∀ H, SqT K H tT [.str "upto", .str "below"])
    (c1 : C8.Cal P w K mg base 1 "is_word_of" (spIsWordOf K) []) (c2 : C8.Cal P w K mg base 2 "is_number_of" (spIsNumberOf K) []) : C8.Cal P w K mg base 3 "check_steps" spCheckSteps [] := by
  refine cal_of D sc_checkSteps (fun vs H Q E h => ?_) (fun f cdv A outer s H vs Q E hr h => ?_)
  · obtain ⟨L, rfl, _⟩ := h
    rfl
  · obtain ⟨L, rfl, ok, q⟩ := h
    have in1 : inV (.str L.test) [.str "upto", .str "below"] = true := by
      rcases ok.test with e | e <;> rw [e] <;> decide +kernel
    have in2 : inV (.str L.after) [.str "half", .str "same", .str "double"] = true := by
      rcases ok.after with e | e | e <;> rw [e] <;> decide +kernel
    have in3 : inV (.int L.last) [.int 1, .int 2] = true := by
      rcases ok.last with e | e <;> rw [e] <;> decide +kernel
    have in4 : inV (.int L.plus) [.int (-1), .int 0, .int 1] = true := by
      rcases ok.plus with e | e | e <;> rw [e] <;> decide +kernel
    refine ⟨_, pss_cons (ps_set (i := 4) sc_checkSteps.nd rfl (Or.inl rfl) (pe_lst (pa_cons (pe_tup (pa_cons pe_str (pa_cons (C8.pe_c c1 hr (by decide) rfl (pa_cons (pv 0) (pa_cons (pe_glob (v := .ref tT) rfl mT rfl) pa_nil))) pa_nil)))
        (pa_cons (pe_tup (pa_cons pe_str (pa_cons (C8.pe_c c1 hr (by decide) rfl (pa_cons (pv 1) (pa_cons (pe_tup (pa_cons pe_str (pa_cons pe_str (pa_cons pe_str pa_nil)))) pa_nil))) pa_nil)))
        (pa_cons (pe_tup (pa_cons pe_str (pa_cons (C8.pe_c c2 hr (by decide) rfl (pa_cons (pv 2) (pa_cons (pe_tup (pa_cons pe_int (pa_cons pe_int pa_nil))) pa_nil))) pa_nil)))
        (pa_cons (pe_tup (pa_cons pe_str (pa_cons (C8.pe_c c2 hr (by decide) rfl (pa_cons (pv 3) (pa_cons (pe_tup (pa_cons (pe_un un_neg pe_int) (pa_cons pe_int (pa_cons pe_int pa_nil)))) pa_nil))) pa_nil))) pa_nil))))))
      (pss_one (ps_for PassesOwn.never rfl (pi_list (pv 4)) (pg_tup rfl (pgs_cons (pg_name (i := 5) sc_checkSteps.nd rfl (Or.inl rfl)) (pgs_cons (pg_name (i := 6) sc_checkSteps.nd rfl (Or.inl rfl)) pgs_nil)))
        (pss_one (ps_if (pt_not (pt_truth (pv 6) fun _ => rfl)) pss_never pss_nil)))), ?_⟩
    refine ⟨_, rfl, _, tT, _, rfl, hT _, rfl, by show 2 ≤ sizeLine; decide, fun t1 n1 => ?_⟩
    refine ⟨_, rfl, by show 3 ≤ sizeLine; decide, fun u2 m2 => ⟨_, u2, _, rfl, SqT.of upd_same, rfl, by show 2 ≤ sizeLine; decide, fun t2 n2 => ?_⟩⟩
    refine ⟨_, rfl, by show 2 ≤ sizeLine; decide, fun u3 m3 => ⟨_, u3, _, rfl, SqT.of upd_same, rfl, by show 2 ≤ sizeLine; decide, fun t3 n3 => ?_⟩⟩
    refine ⟨_, rfl, 1, rfl, by show 3 ≤ sizeLine; decide, fun u4 m4 => ⟨_, u4, _, rfl, SqT.of upd_same, rfl, by show 2 ≤ sizeLine; decide, fun t4 n4 => ?_⟩⟩
    refine ⟨by show 4 ≤ sizeLine; decide, fun l hl => ?_⟩
    rw [in1] at *
    rw [in2] at *
    rw [in3] at *
    rw [in4] at *
    have s8 := same_new (o := .lst [.ref t1, .ref t2, .ref t3, .ref t4]) hl
    have s7 := (same_new (o := .tup [.str "plus", .bl true]) n4).trans s8
    have s6 := (same_new (o := .tup [.int (-1), .int 0, .int 1]) m4).trans s7
    have s5 := (same_new (o := .tup [.str "last", .bl true]) n3).trans s6
    have s4 := (same_new (o := .tup [.int 1, .int 2]) m3).trans s5
    have s3 := (same_new (o := .tup [.str "after", .bl true]) n2).trans s4
    have s2 := (same_new (o := .tup [.str "half", .str "same", .str "double"]) m2).trans s3
    have s1 := (same_new (o := .tup [.str "test", .bl true]) n1).trans s2
    have e1 := s2 t1 _ upd_same
    have e2 := s4 t2 _ upd_same
    have e3 := s6 t3 _ upd_same
    have e4 := s8 t4 _ upd_same
    generalize hH : upd (upd (upd (upd (upd (upd (upd (upd H t1 _) u2 _) t2 _) u3 _) t3 _) u4 _) t4 _) l _ = H9 at *
    refine ⟨_, rfl, l, rfl, ⟨_, SqL.of (by rw [← hH]; exact upd_same)⟩, for_list (K := K) (a := l) (xs := [.ref t1, .ref t2, .ref t3, .ref t4]) (fun i σ H' => H' = H9 ∧ ∃ a b, σ = L.vs.map some ++ [some (.ref l), a, b])
      ⟨rfl, none, none, rfl⟩ (fun i σ H' _ ⟨e, _⟩ => SqL.of (by rw [e, ← hH]; exact upd_same)) ?_ ?_⟩
    · rintro i x σ H' hi ⟨rfl, a, b, rfl⟩
      have hx : ∃ t w, x = .ref t ∧ H' t = some (.tup [.str w, .bl true]) := by
        have hm := List.mem_of_getElem? hi
        simp only [List.mem_cons, List.not_mem_nil, or_false] at hm
        rcases hm with rfl | rfl | rfl | rfl
        · exact ⟨t1, _, rfl, e1⟩
        · exact ⟨t2, _, rfl, e2⟩
        · exact ⟨t3, _, rfl, e3⟩
        · exact ⟨t4, _, rfl, e4⟩
      obtain ⟨t, w', rfl, ht⟩ := hx
      exact ⟨t, _, rfl, SqT.of ht, rfl, _, _, rfl, _, _, rfl, rfl, _, rfl, true, rfl, iteF ⟨rfl, _, _, rfl⟩⟩
    · rintro σ H' ⟨rfl, a, b, rfl⟩
      exact q _ s1
end
end T47

/-! The mathematics of a run with steps, no program in sight. -/
namespace M47

/-- the step behind one that was taken; h: half, s: same, else double -/
def wAfter (h s : Bool) (p : Int) : Int := if h then p / 2 else if s then p else 2 * p
/-- a run from x with the step p ends at t -/
inductive Climb (go : Int → Bool) (h s : Bool) (last : Int) : Int → Int → Int → Prop where
  | stop {x p} (e : ¬ last ≤ p) : Climb go h s last x p x
  | up {x p t} (e : last ≤ p) (g : go (x + p) = true) (r : Climb go h s last (x + p) (wAfter h s p) t) : Climb go h s last x p t
  | down {x p t} (e : last ≤ p) (g : go (x + p) = false) (r : Climb go h s last x (p / 2) t) : Climb go h s last x p t

theorem climb_det {go : Int → Bool} {h s : Bool} {last x p t : Int} (a : Climb go h s last x p t) : ∀ {u : Int}, Climb go h s last x p u → t = u := by
  induction a with
  | stop e =>
    intro u b
    cases b with
    | stop _ => rfl
    | up e2 _ _ => exact absurd e2 e
    | down e2 _ _ => exact absurd e2 e
  | up e g _ ih =>
    intro u b
    cases b with
    | stop e2 => exact absurd e e2
    | up _ _ r => exact ih r
    | down _ g2 _ =>
      rw [g] at g2
      cases g2
  | down e g _ ih =>
    intro u b
    cases b with
    | stop e2 => exact absurd e e2
    | up _ g2 _ =>
      rw [g] at g2
      cases g2
    | down _ _ r => exact ih r
/-- the same shifted -/
theorem climb_shift {go : Int → Bool} {h s : Bool} {last x p t : Int} (a : Climb go h s last x p t) (d : Int) (go' : Int → Bool) (e : ∀ y, go' (y + d) = go y) : Climb go' h s last (x + d) p (t + d) := by
  induction a with
  | stop e1 => exact .stop e1
  | @up x p t e1 g _ ih =>
    refine .up e1 (by rw [show x + d + p = x + p + d by omega, e]; exact g) ?_
    rw [show x + d + p = x + p + d by omega]
    exact ih
  | @down x p t e1 g _ ih =>
    refine .down e1 (by rw [show x + d + p = x + p + d by omega, e]; exact g) ih

/-- by fuel -/
def climb (go : Int → Bool) (h s : Bool) (last : Int) : Nat → Int → Int → Int
  | 0, x, _ => x
  | n + 1, x, p => if last ≤ p then (if go (x + p) then climb go h s last n (x + p) (wAfter h s p) else climb go h s last n x (p / 2)) else x
theorem wAfter_le {h s : Bool} {p : Int} (hp : 0 ≤ p) : 0 ≤ wAfter h s p ∧ wAfter h s p ≤ 2 * p := by
  unfold wAfter
  split
  · omega
  · split <;> omega
/-- a number that falls at each round -/
def size (A x p : Int) : Nat := (4 * (A - x) + p).toNat
theorem climb_ok {go : Int → Bool} {h s : Bool} {last A : Int} (hl : 1 ≤ last) (hA : ∀ y, go y = true → y ≤ A) : ∀ (n : Nat) (x p : Int), x ≤ A → 0 ≤ p → size A x p < n → Climb go h s last x p (climb go h s last n x p)
  | 0, x, p, _, _, h => absurd h (Nat.not_lt_zero _)
  | n + 1, x, p, hx, hp, hn => by
    unfold climb
    by_cases e : last ≤ p
    · rw [if_pos e]
      unfold size at hn
      cases g : go (x + p) with
      | true =>
        have z := hA _ g
        have w := wAfter_le (h := h) (s := s) hp
        rw [if_pos rfl]
        exact .up e g (climb_ok hl hA n _ _ (by omega) w.1 (by unfold size; omega))
      | false =>
        rw [if_neg Bool.false_ne_true]
        exact .down e g (climb_ok hl hA n _ _ hx (by omega) (by unfold size; omega))
    · rw [if_neg e]
      exact .stop e

/-- nought or a power of two -/
def Pow0 (p : Int) : Prop := p = 0 ∨ ∃ j : Nat, p = 2 ^ j
theorem pow0_half {p : Int} (h : Pow0 p) : Pow0 (p / 2) := by
  rcases h with rfl | ⟨j, rfl⟩
  · exact .inl rfl
  · cases j with
    | zero => exact .inl (by decide)
    | succ j => exact .inr ⟨j, by rw [Int.pow_succ]; omega⟩
theorem pow0_dbl {p : Int} (h : Pow0 p) : Pow0 (2 * p) := by
  rcases h with rfl | ⟨j, rfl⟩
  · exact .inl rfl
  · exact .inr ⟨j + 1, by rw [Int.pow_succ]; omega⟩
theorem pow0_after {h s : Bool} {p : Int} (hp : Pow0 p) : Pow0 (wAfter h s p) := by
  unfold wAfter
  split
  · exact pow0_half hp
  · split
    · exact hp
    · exact pow0_dbl hp
theorem pow0_even {p : Int} (h : Pow0 p) : 0 ≤ p ∧ (p ≤ 1 ∨ 2 * (p / 2) = p) := by
  rcases h with rfl | ⟨j, rfl⟩
  · exact ⟨by omega, .inl (by omega)⟩
  · cases j with
    | zero => exact ⟨by decide, .inl (by decide)⟩
    | succ j =>
      have : (0 : Int) < 2 ^ j := Int.pow_pos (by decide)
      rw [Int.pow_succ]
      exact ⟨by omega, .inr (by omega)⟩
/-- where a run ends that goes up to b and no further: at b, or below by less than the last step; or it never goes -/
theorem climb_end {go : Int → Bool} {h s : Bool} {last b x p t : Int} (hl : last = 1 ∨ last = 2) (hg : ∀ y, go y = true ↔ y ≤ b) (a : Climb go h s last x p t) :
    Pow0 p → b < x + 2 * p ∨ b < x + 1 → (b < x → t = x) ∧ (x ≤ b → t ≤ b ∧ b < t + last) := by
  induction a with
  | @stop x p e =>
    intro hp hb
    have := pow0_even hp
    refine ⟨fun _ => rfl, fun hx => ⟨hx, ?_⟩⟩
    rcases hl with rfl | rfl <;> omega
  | @up x p t e g _ ih =>
    intro hp hb
    have g := (hg _).mp g
    have p0 := pow0_even hp
    have w := pow0_after (h := h) (s := s) hp
    have hx : ¬ b < x := by omega
    refine ⟨fun z => absurd z hx, fun _ => ?_⟩
    refine (ih w ?_).2 (by omega)
    unfold wAfter
    split
    · omega
    · split <;> omega
  | @down x p t e g _ ih =>
    intro hp hb
    have g : ¬ x + p ≤ b := fun z => by
      rw [(hg _).mpr z] at g
      cases g
    have p0 := pow0_even hp
    refine ih (pow0_half hp) ?_
    omega
end M47

/-! Steps and StepsRun made, width_after, walk. -/
namespace T47
open PySem PySem.Spec PyProof.Rows L2 G47 M47

def rnF (t : Addr) (n : Int) : List (Str × V) := [("places", .ref t), ("told", .int n)]
theorem rn_told (t : Addr) (n : Int) : (rnF t n).lookup ("told" : Str) = some (.int n) := by
  unfold rnF
  rw [look_tl _ _ (by decide +kernel), look_hd]

section
variable {P : Program} {w : World} {K : PySem.W.Frag} {mg : Str → Option Value} {base : Heap} {CS CR : Addr}

/-! StepsRun.__init__ -/
abbrev sRunInit : Stmt := within (top 23) 0
theorem sc_runInit : FnScope ["self", "places", "told"] ["self", "places", "told"] (C8.fnScope sRunInit) := C8.fnScope_by (by decide +kernel)
def spRunInit (CR : Addr) : Sp := fun vs H Q _ => ∃ (p dx t : Addr) (n : Int), vs = [.ref p, .ref t, .int n] ∧ H p = some (.ins CR dx []) ∧ ∀ H', (∀ b o, H b = some o → b ≠ p → H' b = some o) → H' p = some (.ins CR dx (rnF t n)) → Q .non H'
theorem runInit_ok (D : Ifn K mg "StepsRun" "StepsRun.__init__" CR sRunInit ["self", "places", "told"]) (T : ClsS K CS CR) : C8.Mak P w K mg base 1 "StepsRun" CR (spRunInit CR) [] := by
  refine mak_of D sc_runInit (fun vs H Q E h => ?_) (fun f cdv A outer s H vs Q E hr h => ?_)
  · obtain ⟨p, dx, t, n, rfl, _⟩ := h
    rfl
  · obtain ⟨p, dx, t, n, rfl, hp, q⟩ := h
    refine ⟨_, pss_cons (ps_fld (pv 0) (pv 1) rfl) (pss_one (ps_fld (pv 0) (pv 2) rfl)), ?_⟩
    refine ⟨_, rfl, _, rfl, p, CR, dx, _, rfl, hp, T.cR, T.nPlaces, by show 0 < 1000; decide, _, rfl, _, rfl, p, CR, dx, _, rfl, upd_same, T.cR, T.nTold, by show 1 < 1000; decide, ?_⟩
    rw [put_nil, put_tl _ _ _ (by decide +kernel), put_nil]
    refine q _ (fun b o e ne => ?_) upd_same
    rw [upd_ne ne, upd_ne ne]
    exact e

/-! Steps.__init__ -/
abbrev sStepsInit : Stmt := within (top 24) 0
theorem sc_stepsInit : FnScope ["self", "test", "after", "last", "plus"] ["self", "test", "after", "last", "plus"] (C8.fnScope sStepsInit) := C8.fnScope_by (by decide +kernel)
def spStepsInit (CS : Addr) : Sp := fun vs H Q _ => ∃ (p dx : Addr) (L : Lp), vs = .ref p :: L.vs ∧ LpOk L ∧ H p = some (.ins CS dx []) ∧ ∀ H', (∀ b o, H b = some o → b ≠ p → H' b = some o) → H' p = some (.ins CS dx (stF L)) → Q .non H'
theorem stepsInit_ok (D : Ifn K mg "Steps" "Steps.__init__" CS sStepsInit ["self", "test", "after", "last", "plus"]) (T : ClsS K CS CR) (c : C8.Cal P w K mg base 3 "check_steps" spCheckSteps []) : C8.Mak P w K mg base 4 "Steps" CS (spStepsInit CS) [] := by
  refine mak_of D sc_stepsInit (fun vs H Q E h => ?_) (fun f cdv A outer s H vs Q E hr h => ?_)
  · obtain ⟨p, dx, L, rfl, _⟩ := h
    rfl
  · obtain ⟨p, dx, L, rfl, ok, hp, q⟩ := h
    refine ⟨_, pss_cons (ps_expr (C8.pe_c c hr (by decide) rfl (pa_cons (pv 1) (pa_cons (pv 2) (pa_cons (pv 3) (pa_cons (pv 4) pa_nil))))))
      (pss_cons (ps_fld (pv 0) (pv 1) rfl) (pss_cons (ps_fld (pv 0) (pv 2) rfl) (pss_cons (ps_fld (pv 0) (pv 3) rfl) (pss_one (ps_fld (pv 0) (pv 4) rfl))))), ?_⟩
    refine ⟨_, rfl, _, rfl, _, rfl, _, rfl, L, rfl, ok, fun H1 s1 => ?_⟩
    refine ⟨_, rfl, _, rfl, p, CS, dx, _, rfl, s1 _ _ hp, T.cS, T.nTest, by show 0 < 1000; decide, _, rfl, _, rfl, p, CS, dx, _, rfl, upd_same, T.cS, T.nAfter, by show 1 < 1000; decide,
      _, rfl, _, rfl, p, CS, dx, _, rfl, upd_same, T.cS, T.nLast, by show 2 < 1000; decide, _, rfl, _, rfl, p, CS, dx, _, rfl, upd_same, T.cS, T.nPlus, by show 3 < 1000; decide, ?_⟩
    rw [put_nil, put_tl _ _ _ (by decide +kernel), put_nil, put_tl _ _ _ (by decide +kernel), put_tl _ _ _ (by decide +kernel), put_nil, put_tl _ _ _ (by decide +kernel), put_tl _ _ _ (by decide +kernel), put_tl _ _ _ (by decide +kernel), put_nil]
    refine q _ (fun b o e ne => ?_) upd_same
    rw [upd_ne ne, upd_ne ne, upd_ne ne, upd_ne ne]
    exact s1 _ _ e

/-! width_after -/
abbrev sWidth : Stmt := within (top 24) 4
theorem sc_width : FnScope ["self", "p"] ["self", "p"] (C8.fnScope sWidth) := C8.fnScope_by (by decide +kernel)
def Lp.half (L : Lp) : Bool := decide (L.after = "half")
def Lp.same (L : Lp) : Bool := decide (L.after = "same")
def spWidth (CS : Addr) : Sp := fun vs H Q _ => ∃ (s dx : Addr) (L : Lp) (p : Int), vs = [.ref s, .int p] ∧ H s = some (.ins CS dx (stF L)) ∧ Q (.int (wAfter L.half L.same p)) H
theorem dec_vstr (a b : Str) : decide (V.str a = V.str b) = decide (a = b) := by
  by_cases h : a = b
  · rw [h]; simp
  · rw [decide_eq_false h, decide_eq_false fun z => h (by injection z)]
theorem width_ok (D : Mfn K CS "width_after" "Steps.width_after" sWidth ["self", "p"]) (T : ClsS K CS CR) : C8.Met P w K mg base 1 CS "width_after" (spWidth CS) [] := by
  refine met_of D sc_width (fun vs H Q E h => ?_) (fun f cdv A outer s H vs Q E hr h => ?_)
  · obtain ⟨s, dx, L, p, rfl, _⟩ := h
    rfl
  · obtain ⟨s, dx, L, p, rfl, hs, q⟩ := h
    refine ⟨_, pss_cons (ps_if (pt_cmpR op_eq (pe_fld (pv 0) rfl) pe_str (nomark _)) (pss_one (ps_ret (pe_op op_fdiv (pv 1) pe_int))) pss_nil)
      (pss_cons (ps_if (pt_cmpR op_eq (pe_fld (pv 0) rfl) pe_str (nomark _)) (pss_one (ps_ret (pv 1))) pss_nil) (pss_one (ps_ret (pe_op op_mul pe_int (pv 1))))), ?_⟩
    refine ⟨_, rfl, s, CS, dx, _, _, rfl, hs, T.cS, T.nAfter, st_after L, rfl, _, rfl, ?_⟩
    unfold wAfter at q
    unfold Lp.half Lp.same at q
    rw [dec_vstr]
    cases h1 : decide (L.after = "half") with
    | true =>
      rw [h1, if_pos rfl] at q
      exact iteT ⟨_, rfl, _, _, rfl, rfl, ⟨by decide, by decide⟩, q⟩
    | false =>
      rw [h1, if_neg Bool.false_ne_true] at q
      refine iteF ⟨_, rfl, s, CS, dx, _, _, rfl, hs, T.cS, T.nAfter, st_after L, rfl, _, rfl, ?_⟩
      rw [dec_vstr]
      cases h2 : decide (L.after = "same") with
      | true =>
        rw [h2, if_pos rfl] at q
        exact iteT ⟨_, rfl, q⟩
      | false =>
        rw [h2, if_neg Bool.false_ne_true] at q
        exact iteF ⟨_, rfl, _, _, rfl, rfl, .inl ⟨by decide, by decide⟩, q⟩

/-! walk -/
abbrev sWalk : Stmt := within (top 24) 6
theorem sc_walk : FnScope ["self", "x", "p", "side_of", "places", "side"] ["self", "x", "p", "side_of"] (C8.fnScope sWalk) := C8.fnScope_by (by decide +kernel)
/-- whether the step is taken at this place -/
def Lp.go (L : Lp) (side : Int → Int) (y : Int) : Bool := decide (side y < 0) || (decide (side y = 0) && decide (L.test = "upto"))
abbrev Lp.climb (L : Lp) (go : Int → Bool) : Int → Int → Int → Prop := Climb go L.half L.same L.last
def spWalk (P : Program) (w : World) (K : PySem.W.Frag) (mg : Str → Option Value) (base : Heap) (CS CR : Addr) (k : Nat) : Sp := fun vs H Q _ =>
  ∃ (s dx f : Addr) (L : Lp) (x p A : Int) (cs : List (Addr × HO)) (dom : Int → Prop) (side : Int → Int), vs = [.ref s, .int x, .int p, .ref f] ∧ H s = some (.ins CS dx (stF L)) ∧ 1 ≤ L.last ∧ CmpOk P w K mg base k f cs dom side ∧ Holds cs H ∧
    x ≤ A ∧ 0 ≤ p ∧ (∀ y, L.go side y = true → y ≤ A) ∧ (∀ y, x ≤ y → y ≤ A + (2 * (A - x) + p) → dom y) ∧ 4 * (A - x) + p ≤ 1000000 ∧
    ∀ (t : Int) (H' : Hp) (r dr tp : Addr), L.climb (L.go side) x p t → Same H H' → H' r = some (.ins CR dr (rnF tp (t + L.plus))) → Q (.ref r) H'
theorem walk_ok {k : Nat} (D : Mfn K CS "walk" "Steps.walk" sWalk ["self", "x", "p", "side_of"]) (T : ClsS K CS CR) (B : Blt mg) (cW : C8.Met P w K mg base 1 CS "width_after" (spWidth CS) []) (cR : C8.Mak P w K mg base 1 "StepsRun" CR (spRunInit CR) []) (hk : 2 ≤ k) :
    C8.Met P w K mg base (k + 1) CS "walk" (spWalk P w K mg base CS CR k) [] := by
  refine met_of D sc_walk (fun vs H Q E h => ?_) (fun f cdv A outer s H vs Q E hr h => ?_)
  · obtain ⟨s, dx, f, L, x, p, A, cs, dom, side, rfl, _⟩ := h
    rfl
  · obtain ⟨s, dx, g, L, x, p, A', cs, dom, side, rfl, hs, hl, cOk, hc, hx, hp, hA, hdom, hsz, q⟩ := h
    refine ⟨_, pss_cons (ps_set (i := 4) sc_walk.nd rfl (Or.inl rfl) (pe_lst pa_nil)) (pss_cons (ps_while PassesOwn.never (pt_cmpR op_ge (pv 2) (pe_fld (pv 0) rfl) (nomark _))
      (pss_cons (ps_expr (pe_bm PySem.F.plainAttrs_list PySem.F.slot_list_append PySem.F.type_list_append mt_append (pv 4) (pa_cons (pe_tup (pa_cons (pv 1) (pa_cons (pv 2) pa_nil))) pa_nil)))
      (pss_cons (ps_set (i := 5) sc_walk.nd rfl (Or.inl rfl) (pe_cmpf (k := k) (i := 3) hr rfl (Or.inl rfl) (pa_cons (pe_op op_add (pv 1) (pv 2)) pa_nil)))
      (pss_one (ps_if (PW.pt (pw_or (pt_cmpR op_lt (pv 5) pe_int (nomark _)) (pw_or1 (PW.pt (pw_and (pt_cmpR op_eq (pv 5) pe_int (nomark _)) (pw_and1 (pt_cmpR op_eq (pe_fld (pv 0) rfl) pe_str (nomark _))))))))
        (pss_cons (ps_set (i := 1) sc_walk.nd rfl (Or.inl rfl) (pe_op op_add (pv 1) (pv 2))) (pss_one (ps_set (i := 2) sc_walk.nd rfl (Or.inl rfl) (C8.pe_mt cW hr (by omega) (pv 0) (pa_cons (pv 2) pa_nil)))))
        (pss_one (ps_set (i := 2) sc_walk.nd rfl (Or.inl rfl) (pe_op op_fdiv (pv 2) pe_int))))))))
      (pss_one (ps_ret (C8.pe_mk cR hr (by omega) rfl (pa_cons (pe_callTy call_tuple_of rfl B.tuple b_tuple (pa_cons (pv 4) pa_nil)) (pa_cons (pe_op op_add (pv 1) (pe_fld (pv 0) rfl)) pa_nil)))))), ?_⟩
    refine ⟨Nat.zero_le _, fun l hl0 => ?_⟩
    have hsl : s ≠ l := ne_of_none hs hl0
    have nol : ∀ {H' : Hp} {ps : List V} {p : Addr × HO}, p ∈ cs → H' p.1 = some p.2 → H' l = some (.lst ps) → p.1 ≠ l := fun {H' ps p} hp e1 e2 z => by
      rw [z, e2] at e1
      exact cOk.nl p hp ps (Option.some.inj e1).symm
    refine ⟨fun m σ H' => ∃ (x' p' : Int) (ps : List V) (sd : Option V), σ = [some (.ref s), some (.int x'), some (.int p'), some (.ref g), some (.ref l), sd] ∧ H' l = some (.lst ps) ∧ Same H H' ∧ x' ≤ A' ∧ x ≤ x' ∧ 0 ≤ p' ∧ p' ≤ 2 * (A' - x) + p ∧ m = size A' x' p' ∧ ps.length + m ≤ size A' x p ∧
      ∀ t, L.climb (L.go side) x' p' t → L.climb (L.go side) x p t, ⟨_, x, p, [], none, rfl, upd_same, same_new hl0, hx, Int.le_refl _, hp, by omega, rfl, by show 0 + _ ≤ _; omega, fun t z => z⟩, ?_⟩
    rintro m σ H1 ⟨x', p', ps, sd, rfl, hl1, s1, hx1, hx2, hp1, hp2, hm, hlen, hcl⟩
    have hs1 := s1 _ _ hs
    have hlen2 : ps.length < sizeLine := by
      have : size A' x p ≤ 1000000 := by unfold size; omega
      rw [sizeLine_eq]
      omega
    refine ⟨_, rfl, _, rfl, s, CS, dx, _, _, rfl, hs1, T.cS, T.nLast, st_last L, _, _, rfl, rfl, _, rfl, ite2 (fun hge => ?_) (fun hge => ?_)⟩
    · have hge : L.last ≤ p' := of_decide_eq_true hge
      refine ⟨_, fun σ' H' z => z, ?_⟩
      refine ⟨_, rfl, .inl ⟨rfl, _, SqL.of hl1⟩, _, rfl, _, rfl, by show 2 ≤ sizeLine; decide, fun tq ntq => ?_⟩
      have hl2 : upd H1 tq (.tup [.int x', .int p']) l = some (.lst ps) := same_new ntq _ _ hl1
      refine ⟨l, ps, _, rfl, rfl, hl2, hlen2, ?_⟩
      have up2 : ∀ b o, H1 b = some o → b ≠ l → upd (upd H1 tq (.tup [.int x', .int p'])) l (.lst (ps ++ [.ref tq])) b = some o := fun b o e ne => by
        rw [upd_ne ne]
        exact same_new ntq _ _ e
      have hc2 : Holds cs (upd (upd H1 tq (.tup [.int x', .int p'])) l (.lst (ps ++ [.ref tq]))) := fun p hp => up2 _ _ (s1 _ _ (hc p hp)) (nol hp (s1 _ _ (hc p hp)) hl1)
      refine ⟨g, cs, dom, side, cOk, rfl, hc2, _, rfl, _, rfl, _, _, rfl, rfl, x' + p', rfl, hdom _ (by omega) (by omega), hc2, fun H5 s5 => ?_⟩
      have hs5 : H5 s = some (.ins CS dx (stF L)) := s5 _ _ (up2 _ _ hs1 hsl)
      have hl5 : H5 l = some (.lst (ps ++ [.ref tq])) := s5 _ _ upd_same
      have sm5 : Same H H5 := fun b o e => s5 _ _ (up2 _ _ (s1 _ _ e) (ne_of_none e hl0))
      have len5 : (ps ++ [V.ref tq]).length = ps.length + 1 := by rw [List.length_append]; rfl
      have upw := wAfter_le (h := L.half) (s := L.same) hp1
      refine ⟨_, rfl, _, _, rfl, rfl, _, rfl, ite2 (fun h1 => iteT ?_) (fun h1 => ⟨_, rfl, rfl, _, rfl, ite2 (fun h2 => ⟨_, rfl, s, CS, dx, _, _, rfl, hs5, T.cS, T.nTest, st_test L, rfl, _, rfl, ite2 (fun h3 => ?_) (fun h3 => ?_)⟩) (fun h2 => iteF ?_)⟩)⟩
      · have hgo : L.go side (x' + p') = true := by
          unfold Lp.go
          rw [h1]
          rfl
        have z := hA _ hgo
        refine ⟨_, rfl, _, rfl, _, _, rfl, rfl, _, rfl, s, dx, _, rfl, hs5, st_no L (by decide +kernel) (by decide +kernel) (by decide +kernel) (by decide +kernel), _, rfl, s, dx, L, _, rfl, hs5, ?_⟩
        refine ⟨size A' (x' + p') (wAfter L.half L.same p'), ?_, x' + p', wAfter L.half L.same p', _, _, rfl, hl5, sm5, z, by omega, upw.1, by omega, rfl, ?_, fun t r => hcl t (.up hge hgo r)⟩
        · rw [hm]; unfold size; omega
        · rw [len5]
          unfold size at hm hlen ⊢
          omega
      · have hgo : L.go side (x' + p') = true := by
          rw [dec_vstr] at h3
          have h2' : side (x' + p') = 0 := by
            have q := of_decide_eq_true h2
            injection q
          unfold Lp.go
          rw [h2', h3]
          rfl
        have z := hA _ hgo
        refine ⟨_, rfl, _, rfl, _, _, rfl, rfl, _, rfl, s, dx, _, rfl, hs5, st_no L (by decide +kernel) (by decide +kernel) (by decide +kernel) (by decide +kernel), _, rfl, s, dx, L, _, rfl, hs5, ?_⟩
        refine ⟨size A' (x' + p') (wAfter L.half L.same p'), ?_, x' + p', wAfter L.half L.same p', _, _, rfl, hl5, sm5, z, by omega, upw.1, by omega, rfl, ?_, fun t r => hcl t (.up hge hgo r)⟩
        · rw [hm]; unfold size; omega
        · rw [len5]
          unfold size at hm hlen ⊢
          omega
      · have hgo : L.go side (x' + p') = false := by
          rw [dec_vstr] at h3
          unfold Lp.go
          rw [Bool.eq_false_iff.mpr h1, Bool.eq_false_iff.mpr h3, Bool.and_false]
          rfl
        refine ⟨_, rfl, _, _, rfl, rfl, ⟨by decide, by decide⟩, size A' x' (p' / 2), ?_, x', p' / 2, _, _, rfl, hl5, sm5, hx1, hx2, by omega, by omega, rfl, ?_, fun t r => hcl t (.down hge hgo r)⟩
        · rw [hm]; unfold size; omega
        · rw [len5]
          unfold size at hm hlen ⊢
          omega
      · have hgo : L.go side (x' + p') = false := by
          have h2' : ¬ side (x' + p') = 0 := fun q => h2 (decide_eq_true (by rw [q]))
          unfold Lp.go
          rw [Bool.eq_false_iff.mpr h1, decide_eq_false h2']
          rfl
        refine ⟨_, rfl, _, _, rfl, rfl, ⟨by decide, by decide⟩, size A' x' (p' / 2), ?_, x', p' / 2, _, _, rfl, hl5, sm5, hx1, hx2, by omega, by omega, rfl, ?_, fun t r => hcl t (.down hge hgo r)⟩
        · rw [hm]; unfold size; omega
        · rw [len5]
          unfold size at hm hlen ⊢
          omega
    · have hge : ¬ L.last ≤ p' := fun z => hge (decide_eq_true z)
      refine ⟨_, rfl, l, ps, rfl, .inl ⟨SqL.of hl1, fun tq ntq => ?_⟩⟩
      have s2 := same_new (o := .tup ps) ntq
      refine ⟨_, rfl, _, rfl, s, CS, dx, _, _, rfl, s2 _ _ hs1, T.cS, T.nPlus, st_plus L, _, _, rfl, rfl, fun r dr nr ndr ne => ?_⟩
      refine ⟨r, dr, tq, _, rfl, upd_same, fun H6 k6 e6 => ⟨rfl, q x' H6 r dr tq (hcl _ (.stop hge)) (fun b o e => ?_) e6⟩⟩
      have e2 := s2 _ _ (s1 _ _ e)
      refine k6 b o ?_ (ne_of_none e2 nr)
      rw [upd_ne (ne_of_none e2 nr), upd_ne (ne_of_none e2 ndr)]
      exact e2
end
end T47

/-! The class Sought. -/
namespace T47
open PySem PySem.Spec PyProof.Rows L2 G47 M47

/-- a thing that is sought -/
structure Sg where
  kind : Str
  by_ : Nat
  n : Int
structure SgOk (S : Sg) : Prop where
  kind : S.kind = "root" ∨ S.kind = "share" ∨ S.kind = "log"
  by1 : 1 ≤ S.by_
  by64 : S.by_ ≤ 64
  n0 : 0 ≤ S.n
  log : S.kind = "log" → 2 ≤ S.by_ ∧ 1 ≤ S.n
def sgF (S : Sg) : List (Str × V) := [("kind", .str S.kind), ("by", .int S.by_), ("n", .int S.n)]
theorem sg_kind (S : Sg) : (sgF S).lookup ("kind" : Str) = some (.str S.kind) := look_hd _ _ _
theorem sg_by (S : Sg) : (sgF S).lookup ("by" : Str) = some (.int S.by_) := by
  unfold sgF
  rw [look_tl _ _ (by decide +kernel), look_hd]
theorem sg_n (S : Sg) : (sgF S).lookup ("n" : Str) = some (.int S.n) := by
  unfold sgF
  rw [look_tl _ _ (by decide +kernel), look_tl _ _ (by decide +kernel), look_hd]
theorem sg_no (S : Sg) {m : Str} (h1 : ¬ m = "kind") (h2 : ¬ m = "by") (h3 : ¬ m = "n") : (sgF S).lookup m = none := by
  unfold sgF
  rw [look_tl _ _ h1, look_tl _ _ h2, look_tl _ _ h3, look_nil]
structure ClsT (K : PySem.W.Frag) (CT : Addr) : Prop where
  cT : Cls K CT
  nKind : NoAttr K CT "kind"
  nBy : NoAttr K CT "by"
  nN : NoAttr K CT "n"

section
variable {P : Program} {w : World} {K : PySem.W.Frag} {mg : Str → Option Value} {base : Heap} {CT : Addr}

/-! check_sought -/
abbrev sCheckSought : Stmt := top 30
theorem sc_checkSought : FnScope ["kind", "by", "n", "least"] ["kind", "by", "n"] (C8.fnScope sCheckSought) := C8.fnScope_by (by decide +kernel)
def spCheckSought : Sp := fun vs H Q _ => ∃ S : Sg, vs = [.str S.kind, .int S.by_, .int S.n] ∧ SgOk S ∧ Q .non H
theorem checkSought_ok {tK : Addr} (D : Dfn K mg "check_sought" sCheckSought ["kind", "by", "n"]) (B : Blt mg) (mK : mg "KINDS" = some (.ref tK)) (hK : ∀ H, SqT K H tK [.str "root", .str "share", .str "log"])
    (c1 : C8.Cal P w K mg base 1 "is_whole" spIsWhole []) (c2 : C8.Cal P w K mg base 2 "is_whole_from" spIsWholeFrom []) : C8.Cal P w K mg base 3 "check_sought" spCheckSought [] := by
  refine cal_of D sc_checkSought (fun vs H Q E h => ?_) (fun f cdv A outer s H vs Q E hr h => ?_)
  · obtain ⟨S, rfl, _⟩ := h
    rfl
  · obtain ⟨S, rfl, ok, q⟩ := h
    have in1 : inV (.str S.kind) [.str "root", .str "share", .str "log"] = true := by
      rcases ok.kind with e | e | e <;> rw [e] <;> decide +kernel
    refine ⟨_, pss_cons (ps_if (PW.pt (pw_or (pt_not (pt_val (pe_callB call_isi rfl B.isinstance b_isinstance (pa_cons (pv 0) (pa_cons (pe_bltn (v := .ty "str") rfl B.str b_str rfl) pa_nil)))))
        (pw_or1 (pt_cmpR op_notIn_seq (pv 0) (pe_glob (v := .ref tK) rfl mK rfl) rfl)))) pss_never pss_nil)
      (pss_cons (ps_set (i := 3) sc_checkSought.nd rfl (Or.inl rfl) (pe_ifExp (pt_cmpR op_eq (pv 0) pe_str (nomark _)) pe_int pe_int))
      (pss_cons (ps_if (PW.pt (pw_or (pt_not (pt_val (C8.pe_c c1 hr (by decide) rfl (pa_cons (pv 1) pa_nil)))) (pw_or1 (pt_not (pt_chain op_le op_le (pv 3) (pv 1) pe_int))))) pss_never pss_nil)
      (pss_one (ps_if (pt_not (pt_val (C8.pe_c c2 hr (by decide) rfl (pa_cons (pv 2) (pa_cons (pe_op op_sub (pv 3) pe_int) pa_nil))))) pss_never pss_nil)))), ?_⟩
    refine ⟨_, rfl, _, _, _, _, true, rfl, .ty _, .base (.str _), kit_ty k_str_str, true, rfl, iteF ?_⟩
    refine ⟨_, rfl, tK, _, rfl, .inr (hK _), rfl, rfl, !inV (.str S.kind) [.str "root", .str "share", .str "log"], rfl, ?_⟩
    rw [in1]
    refine iteF ?_
    have rest : ∀ z : Int, (z : Int) ≤ S.by_ → z - 1 ≤ S.n → (tSeq (tIfS (tOr (tNot (tB (tCall spIsWhole [] C8.E0 (tCons (tVar 1) tNil)))) (tNot (tTest (tChain (rI0 fun i j => .bl (decide (i ≤ j))) (rI0 fun i j => .bl (decide (i ≤ j))) (tVar 3) (tVar 1) (tC (.int 64)))))) tNever tNext)
        (tIfS (tNot (tB (tCall spIsWholeFrom [] C8.E0 (tCons (tVar 2) (tCons (tOp (rI0 fun i j => .int (i - j)) (tVar 3) (tC (.int 1))) tNil))))) tNever tNext)) { nx := fun _ H' => Q .non H', rt := Q } [some (.str S.kind), some (.int S.by_), some (.int S.n), some (.int z)] H := fun z h1 h2 => by
      refine ⟨_, rfl, _, rfl, true, rfl, iteF ⟨_, rfl, _, rfl, _, _, rfl, rfl, _, rfl, ?_⟩⟩
      rw [decide_eq_true h1]
      refine iteT ⟨_, _, rfl, rfl, _, rfl, ?_⟩
      rw [decide_eq_true (show (S.by_ : Int) ≤ 64 by have := ok.by64; omega)]
      refine iteF ⟨_, rfl, _, rfl, _, _, rfl, rfl, _, _, rfl, _, rfl, ?_⟩
      rw [decide_eq_true h2]
      exact iteF q
    have by1 := ok.by1
    have n0 := ok.n0
    refine ⟨_, rfl, rfl, _, rfl, ite2 (fun h => ?_) (fun h => ?_)⟩
    · rw [dec_vstr] at h
      obtain ⟨y1, y2⟩ := ok.log (of_decide_eq_true h)
      exact rest 2 (by omega) (by omega)
    · exact rest 1 (by omega) (by omega)

/-! Sought.__init__ -/
abbrev sSoughtInit : Stmt := within (top 31) 0
theorem sc_soughtInit : FnScope ["self", "kind", "by", "n"] ["self", "kind", "by", "n"] (C8.fnScope sSoughtInit) := C8.fnScope_by (by decide +kernel)
def spSoughtInit (CT : Addr) : Sp := fun vs H Q _ => ∃ (p dx : Addr) (S : Sg), vs = [.ref p, .str S.kind, .int S.by_, .int S.n] ∧ SgOk S ∧ H p = some (.ins CT dx []) ∧ ∀ H', (∀ b o, H b = some o → b ≠ p → H' b = some o) → H' p = some (.ins CT dx (sgF S)) → Q .non H'
theorem soughtInit_ok (D : Ifn K mg "Sought" "Sought.__init__" CT sSoughtInit ["self", "kind", "by", "n"]) (T : ClsT K CT) (c : C8.Cal P w K mg base 3 "check_sought" spCheckSought []) : C8.Mak P w K mg base 4 "Sought" CT (spSoughtInit CT) [] := by
  refine mak_of D sc_soughtInit (fun vs H Q E h => ?_) (fun f cdv A outer s H vs Q E hr h => ?_)
  · obtain ⟨p, dx, S, rfl, _⟩ := h
    rfl
  · obtain ⟨p, dx, S, rfl, ok, hp, q⟩ := h
    refine ⟨_, pss_cons (ps_expr (C8.pe_c c hr (by decide) rfl (pa_cons (pv 1) (pa_cons (pv 2) (pa_cons (pv 3) pa_nil)))))
      (pss_cons (ps_fld (pv 0) (pv 1) rfl) (pss_cons (ps_fld (pv 0) (pv 2) rfl) (pss_one (ps_fld (pv 0) (pv 3) rfl)))), ?_⟩
    refine ⟨_, rfl, _, rfl, _, rfl, S, rfl, ok, ?_⟩
    refine ⟨_, rfl, _, rfl, p, CT, dx, _, rfl, hp, T.cT, T.nKind, by show 0 < 1000; decide, _, rfl, _, rfl, p, CT, dx, _, rfl, upd_same, T.cT, T.nBy, by show 1 < 1000; decide,
      _, rfl, _, rfl, p, CT, dx, _, rfl, upd_same, T.cT, T.nN, by show 2 < 1000; decide, ?_⟩
    rw [put_nil, put_tl _ _ _ (by decide +kernel), put_nil, put_tl _ _ _ (by decide +kernel), put_tl _ _ _ (by decide +kernel), put_nil]
    refine q _ (fun b o e ne => ?_) upd_same
    rw [upd_ne ne, upd_ne ne, upd_ne ne]
    exact e

/-! measure, compare -/
def mea (S : Sg) (x : Nat) : Int := if S.kind = "root" then (x : Int) ^ S.by_ else if S.kind = "share" then (S.by_ : Int) * x else (S.by_ : Int) ^ x
structure MeaOk (S : Sg) (x : Nat) : Prop where
  big : x < 2 ^ 150
  log : S.kind = "log" → x ≤ 100000
abbrev sMeasure : Stmt := within (top 31) 1
theorem sc_measure : FnScope ["self", "x"] ["self", "x"] (C8.fnScope sMeasure) := C8.fnScope_by (by decide +kernel)
def spMeasure (CT : Addr) : Sp := fun vs H Q _ => ∃ (s dx : Addr) (S : Sg) (x : Nat), vs = [.ref s, .int x] ∧ H s = some (.ins CT dx (sgF S)) ∧ SgOk S ∧ MeaOk S x ∧ Q (.int (mea S x)) H
theorem measure_ok (D : Mfn K CT "measure" "Sought.measure" sMeasure ["self", "x"]) (T : ClsT K CT) (c : C8.Cal P w K mg base 1 "power" spPower []) : C8.Met P w K mg base 2 CT "measure" (spMeasure CT) [] := by
  refine met_of D sc_measure (fun vs H Q E h => ?_) (fun f cdv A outer s H vs Q E hr h => ?_)
  · obtain ⟨s, dx, S, x, rfl, _⟩ := h
    rfl
  · obtain ⟨s, dx, S, x, rfl, hs, ok, mo, q⟩ := h
    refine ⟨_, pss_cons (ps_if (pt_cmpR op_eq (pe_fld (pv 0) rfl) pe_str (nomark _)) (pss_one (ps_ret (C8.pe_c c hr (by decide) rfl (pa_cons (pv 1) (pa_cons (pe_fld (pv 0) rfl) pa_nil))))) pss_nil)
      (pss_cons (ps_if (pt_cmpR op_eq (pe_fld (pv 0) rfl) pe_str (nomark _)) (pss_one (ps_ret (pe_op op_mul (pe_fld (pv 0) rfl) (pv 1)))) pss_nil)
      (pss_one (ps_ret (C8.pe_c c hr (by decide) rfl (pa_cons (pe_fld (pv 0) rfl) (pa_cons (pv 1) pa_nil)))))), ?_⟩
    have b64 := ok.by64
    unfold mea at q
    refine ⟨_, rfl, s, CT, dx, _, _, rfl, hs, T.cT, T.nKind, sg_kind S, rfl, _, rfl, ite2 (fun h1 => ?_) (fun h1 => ?_)⟩
    · rw [dec_vstr] at h1
      rw [if_pos (of_decide_eq_true h1)] at q
      refine ⟨_, rfl, _, rfl, s, CT, dx, _, _, rfl, hs, T.cT, T.nBy, sg_by S, x, S.by_, 150, rfl, mo.big, by decide, by omega, q⟩
    · rw [dec_vstr] at h1
      have h1 : ¬ S.kind = "root" := fun z => h1 (decide_eq_true z)
      rw [if_neg h1] at q
      refine ⟨_, rfl, s, CT, dx, _, _, rfl, hs, T.cT, T.nKind, sg_kind S, rfl, _, rfl, ite2 (fun h2 => ?_) (fun h2 => ?_)⟩
      · rw [dec_vstr] at h2
        rw [if_pos (of_decide_eq_true h2)] at q
        exact ⟨_, rfl, s, CT, dx, _, _, rfl, hs, T.cT, T.nBy, sg_by S, _, rfl, _, _, rfl, rfl, .inl ⟨by omega, by omega⟩, q⟩
      · rw [dec_vstr] at h2
        have h2 : ¬ S.kind = "share" := fun z => h2 (decide_eq_true z)
        rw [if_neg h2] at q
        have hl : S.kind = "log" := by
          rcases ok.kind with e | e | e
          · exact absurd e h1
          · exact absurd e h2
          · exact e
        have hx := mo.log hl
        refine ⟨_, rfl, s, CT, dx, _, _, rfl, hs, T.cT, T.nBy, sg_by S, _, rfl, S.by_, x, 7, rfl, ?_, by decide, by omega, q⟩
        show S.by_ < 2 ^ 7
        omega
abbrev sCompare : Stmt := within (top 31) 2
theorem sc_compare : FnScope ["self", "x"] ["self", "x"] (C8.fnScope sCompare) := C8.fnScope_by (by decide +kernel)
def spCompare (CT : Addr) : Sp := fun vs H Q _ => ∃ (s dx : Addr) (S : Sg) (x : Nat), vs = [.ref s, .int x] ∧ H s = some (.ins CT dx (sgF S)) ∧ SgOk S ∧ MeaOk S x ∧ Q (.int (sgn (mea S x - S.n))) H
theorem compare_ok (D : Mfn K CT "compare" "Sought.compare" sCompare ["self", "x"]) (T : ClsT K CT) (c : C8.Met P w K mg base 2 CT "measure" (spMeasure CT) []) (c2 : C8.Cal P w K mg base 1 "sign" spSign []) : C8.Met P w K mg base 3 CT "compare" (spCompare CT) [] := by
  refine met_of D sc_compare (fun vs H Q E h => ?_) (fun f cdv A outer s H vs Q E hr h => ?_)
  · obtain ⟨s, dx, S, x, rfl, _⟩ := h
    rfl
  · obtain ⟨s, dx, S, x, rfl, hs, ok, mo, q⟩ := h
    refine ⟨_, pss_one (ps_ret (C8.pe_c c2 hr (by decide) rfl (pa_cons (pe_op op_sub (C8.pe_mt c hr (by decide) (pv 0) (pa_cons (pv 1) pa_nil)) (pe_fld (pv 0) rfl)) pa_nil))), ?_⟩
    exact ⟨_, rfl, s, dx, _, rfl, hs, sg_no S (by decide +kernel) (by decide +kernel) (by decide +kernel), _, rfl, s, dx, S, x, rfl, hs, ok, mo, _, rfl, s, CT, dx, _, _, rfl, hs, T.cT, T.nN, sg_n S, _, _, rfl, rfl, _, rfl, q⟩
end
end T47

/-! A lambda with a parameter and a captured name; Steps.run. -/
namespace G47
open PySem PySem.Spec PyProof.Rows L2 NdefX LamX
theorem same_new' {H : Hp} {p : Addr} {o : HO} (n : H p = none) : Same H (upd H p o) := T47.same_new n

section
variable {X : Cx} {p pos : Pos}
/-- the lambda's object, exactly -/
abbrev lamObj (q : Str) (params : Arguments) (body : Expr) (scope : Scope) (cl : List (Str × Addr)) (pm : Value) (c' : Addr) (ctv : Value) : HO := Rec (PySem.W.kla_obj "<lambda>" q params body scope cl pm c' ctv)
theorem rec_laid {pins : List (Addr × Obj)} {σ : L2.St} {H : Hp} {s : Shared} {o : Obj} {t' : Nat} (I : Inv X pins σ H s) (ho : o.isFreed = false) : Inv X pins σ (upd H s.heap.objs.size (Rec o)) { s with heap := s.heap.push o, toks := t' } := by
  have e := Heap.get?_push_size s.heap ho
  exact I.laid (fun b u z => Heap.get?_push_of_some _ z) (Nat.le_refl _) ⟨e, o, e⟩
def tLamE (T : List (Addr × Str)) (mk : Value → Addr → Value → HO) (q : Str) : TE := fun σ H Q => Tabs T H ∧ ∀ (f c' : Addr) (pm ctv : Value) (H1 : Hp), ExtN H H1 → Tabs T H1 → H1 f = some (mk pm c' ctv) → H1 c' = some (CodeO c' q) → Q (.ref f) H1
theorem pe_lam {T : List (Addr × Str)} {c Pt : Addr} {params : Arguments} {body : Expr} {scope : Scope} (TB : TabB X.base X.mg c Pt) (hcode : X.env.code = .ref c) (hm : (Pt, X.env.qual ++ "<lambda>") ∈ T) (hu : ∀ p ∈ T, p.1 = Pt → p.2 = X.env.qual ++ "<lambda>")
    (hdef : defaultsOf params X.env = ([], [])) (hfree : ∀ y ∈ scope.names, y.2 = .free → X.env.scope.names.lookup y.1 = some .cell ∨ X.env.scope.names.lookup y.1 = some .free) :
    PE X (.Lambda params body scope pos) (tLamE T (fun pm c' ctv => lamObj (X.env.qual ++ "<lambda>") params body scope (cloFrom X.env.cells scope.names []) pm c' ctv) (X.env.qual ++ "<lambda>")) := by
  constructor
  intro pins s σ H Q I h
  obtain ⟨hT, h⟩ := h
  have has : ∀ y ∈ scope.names, y.2 = .free → ∃ d, X.env.cells.lookup y.1 = some d := fun y hy e => by
    rcases hfree y hy e with z | z
    · exact I.ok.has _ (.inl z)
    · exact I.ok.has _ (.inr z)
  obtain ⟨ps, hP, triples, among⟩ := hT _ hm
  have tabAt : s.heap.get? Pt = some { cls := .none, data := .fields ps } := I.hok Pt _ hP
  have glb := I.mod.glob.keeps I.bk
  have hd := TB.code.keeps I.bk
  have bat := TB.bm.keeps I.bk
  apply PySem.W.kla_eval hdef
  cases hc : codeAmong pos ps.toList with
  | some cv =>
    obtain ⟨c', rfl, hco⟩ := among pos cv hc
    refine PySem.W.kla_makeFunctionHit (mg := X.mg) (c := c) (P := Pt) (ps := ps) (closure_ok has) I.ok.glob glb hcode hd tabAt triples hc bat ?_
    intro ctv h' tk hx hsz
    have J : Inv X pins σ H { s with heap := h', toks := tk } := I.kept hx
    have new : H h'.objs.size = none := J.hok.fresh (Nat.le_refl _)
    refine ⟨.ref h'.objs.size, _, rec_laid (t' := tk) J rfl, rfl, h _ c' _ ctv _ (fun b o e _ => same_new' new b o e) (hT.ext fun b o e => same_new' new b o e) upd_same (same_new' new _ _ hco)⟩
  | none =>
    refine PySem.W.kla_makeFunction (mg := X.mg) (c := c) (P := Pt) (ps := ps) (closure_ok has) I.ok.glob glb hcode hd tabAt triples hc TB.gP bat ?_
    intro c' ctv h' tk hx hge hlt hrec htb
    obtain ⟨c2, oc, vs, t, e2, hoc, hdat, hnm⟩ := hrec
    cases e2
    have nC : H c' = none := I.hok.fresh hge
    have J := inv_table (t' := tk) (q := X.env.qual ++ "<lambda>") (more := #[rawInt pos.line, rawInt pos.col, .ref c']) (h' := h') I hP (fun b o hb e => hx b o hb e) htb hge ⟨oc, vs, t, hoc, hdat, hnm⟩
    have new := J.hok.fresh (a := h'.objs.size) (Nat.le_refl _)
    have ext : ExtN H (upd (upd H Pt (.tbl (ps ++ #[rawInt pos.line, rawInt pos.col, .ref c']))) c' (CodeO c' (X.env.qual ++ "<lambda>"))) := by
      intro b o e n
      have nb : b ≠ Pt := fun z => n ps (by
        rw [z, hP] at e
        exact (Option.some.inj e).symm)
      rw [upd_ne (ne_of_none e nC), upd_ne nb]
      exact e
    have lst : (ps ++ #[rawInt pos.line, rawInt pos.col, Value.ref c']).toList = ps.toList ++ [rawInt pos.line, rawInt pos.col, .ref c'] := by simp
    have tabs : Tabs T (upd (upd H Pt (.tbl (ps ++ #[rawInt pos.line, rawInt pos.col, .ref c']))) c' (CodeO c' (X.env.qual ++ "<lambda>"))) := by
      intro p hp
      by_cases hb : p.1 = Pt
      · rw [hu p hp hb, hb]
        refine ⟨_, (upd_ne (ne_of_none hP nC)).trans upd_same, ?_, fun p' cv hcv => ?_⟩
        · rw [lst]
          exact PySem.TriplesOk_snoc _ _ _ _ triples
        · rw [lst] at hcv
          rcases among_app _ triples hcv with z | z
          · obtain ⟨c0, e1, e2⟩ := among p' cv z
            exact ⟨c0, e1, ext _ _ e2 codeO_ne⟩
          · exact ⟨c', z, upd_same⟩
      · obtain ⟨ps', a1, a2, a3⟩ := hT p hp
        refine ⟨ps', (upd_ne (ne_of_none a1 nC)).trans ((upd_ne hb).trans a1), a2, fun p' cv hcv => ?_⟩
        obtain ⟨c0, e1, e2⟩ := a3 p' cv hcv
        exact ⟨c0, e1, ext _ _ e2 codeO_ne⟩
    exact ⟨.ref h'.objs.size, _, rec_laid (t' := tk) J rfl, rfl, h _ c' _ ctv _ (fun b o e n => same_new' new b o (ext b o e n)) (tabs.ext fun b o e => same_new' new b o e) upd_same (same_new' new _ _ upd_same)⟩
end

section
variable {P : Program} {w : World} {fs : List Addr} {H H' : Hp} {h h' : Heap} {c : Addr} {o : Obj}
/-- a record that was told for a call is not told behind it -/
theorem untold (u : Un fs [] (upd H c (Rec o)) H' h h') (hok : HOk P w H' h') (n : H c = none) (e : h.get? c = some o) : H' c = some (Rec o) ∧ Un fs [] H (thaw [c] H') h h' ∧ HOk P w (thaw [c] H') h' := by
  have hc : H' c = some (Rec o) := u.frzs c o _ upd_same
  have out : ∀ {b : Addr}, b ≠ c → thaw [c] H' b = H' b := fun {b} nb => thaw_out fun z => nb (List.mem_singleton.mp z)
  have no : ∀ b : Addr, b ∉ ([] : List Addr) := fun b z => by cases z
  have ne : ∀ {b : Addr} {q : HO}, H b = some q → b ≠ c := fun e1 => ne_of_none e1 n
  have at_ : h'.get? c = some o := (hok c _ hc).1
  refine ⟨hc, ⟨fun b ob e1 e2 e3 e4 => ?_, fun b ob e1 e2 e3 e4 => ?_, fun b ob e1 e2 e4 => ?_, u.there, fun b xs e1 => ?_, fun b ob v e1 => ?_, fun b ps e1 => ?_⟩, fun b v e1 => ?_⟩
  · by_cases hb : b = c
    · rw [hb, e] at e1
      cases e1
      rw [hb]
      exact at_
    · exact u.keep b ob e1 ((upd_ne hb).trans e2) e3 e4
  · by_cases hb : b = c
    · rw [hb, e] at e1
      cases e1
      rw [hb]
      exact ⟨o.slots, at_⟩
    · exact u.slot b ob e1 ((upd_ne hb).trans e2) e3 e4
  · by_cases hb : b = c
    · rw [hb]
      exact thaw_in (List.mem_singleton.mpr rfl)
    · exact (out hb).trans (u.free b ob e1 ((upd_ne hb).trans e2) e4)
  · exact (out (ne e1)).trans (u.tups b xs ((upd_ne (ne e1)).trans e1))
  · exact (out (ne e1)).trans (u.frzs b ob v ((upd_ne (ne e1)).trans e1))
  · obtain ⟨m, z⟩ := u.tbls b ps ((upd_ne (ne e1)).trans e1)
    exact ⟨m, (out (ne e1)).trans z⟩
  · by_cases hb : b = c
    · rw [hb, thaw_in (List.mem_singleton.mpr rfl)] at e1
      cases e1
    · rw [out hb] at e1
      have q : ∀ {d : Addr} {y : HO}, H' d = some y → y ≠ Rec o → d ≠ c := fun {d y} e2 ny z => by
        rw [z, hc] at e2
        exact ny (Option.some.inj e2).symm
      exact (hok b v e1).stay (fun _ _ _ z => z) (fun d z => (out (q z fun y => by cases y)).trans z) fun d xs z => (out (q z fun y => by cases y)).trans z
end

/-- o.m(e, ..), the captured name y (slot j) told during the call -/
def tMethC (cells : List (Str × Addr)) (y : Str) (j : Nat) (C : Addr) (m : Str) (sp : Sp) (ta : TE) (t : TA) : TE := fun σ H Q => ta σ H fun x H1 => ∃ a dx fs, x = .ref a ∧ H1 a = some (.ins C dx fs) ∧ fs.lookup m = none ∧
  t σ H1 fun vs H2 => ∃ v, σ[j]? = some (some v) ∧ ∀ (c : Addr) (o : Obj) (u : Value), cells.lookup y = some c → H2 c = none → o.data = .cell (some u) → RelV v u → sp (x :: vs) (upd H2 c (Rec o)) (fun v H4 => H4 c = some (Rec o) → Q v (thaw [c] H4)) L2.E0
section
variable {X : Cx} {k j : Nat} {f C : Addr} {fd : FuncData} {ps : List Str} {sp : Sp} {y m : Str} {pos apos : Pos} {e o : Expr} {es : List Expr} {ta : TE} {t : TA}
theorem pe_methC {pl : Sem Bool} (he : PE X o ta) (c : Cls X.K C) (hm : Meth X.K C m f) (F : FnOk X.prog X.w X.K X.mg X.base L2.CX0 k f fd ps sp) (hr : Room k X.A) (hb : Binds X.K fd ps []) (ha : PA X (e :: es) t)
    (hN : X.N[j]? = some y) (hy : X.env.scope.names.lookup y = some .cell) (hfn : X.fn y = true)
    (hst : starEach (e :: es) X.env = (false, eval e X.env) :: starEach es X.env := by rfl) (hpl : (backTo pos (starEach es X.env)).any (·.1) = false := by rfl)
    (ht : eval (.Call (.Attribute o m apos) (e :: es) [] pos) X.env = (do
      let ov ← eval o X.env
      standAt apos.atName
      let (f, first) ← holding [ov] (getMethod ov m pl)
      callWith pos f first (backTo pos (starEach (e :: es) X.env)) (backToKw pos (keywordEach [] X.env))) := by rfl) :
    PE X (.Call (.Attribute o m apos) (e :: es) [] pos) (tMethC X.env.cells y j C m sp ta t) := by
  constructor
  intro pins s σ H Q I h
  refine PySem.W.methodCall_KW (pl := pl) (thn (he.run pins s σ H _ I h) fun u s1 hu => ?_) ht
  obtain ⟨x, H1, I1, rx, a, dx, fs, ex, ea, l, q⟩ := hu
  subst ex
  obtain rfl : u = Value.ref a := rx
  refine getmeth_ok I1 ea c hm l ?_
  refine PySem.W.callWith_K (first := [.ref a]) (h₀ := X.base) I.ok.mod.kin hm.kp (thn (ha.run pos pins s1 σ H1 _ I1 q) fun us s2 h2 => ?_) hst hpl
  obtain ⟨vs, H2, I2, r, v, ev, q2⟩ := h2
  refine ⟨I2.kIn, ?_⟩
  obtain ⟨mm, hn, hl⟩ := I2.loc
  obtain ⟨uu, ru, lk⟩ := hl j y v hN ev (.inr (.inl hy))
  rcases lk with ⟨z, _⟩ | ⟨_, cc, hcc, oc, hoc, hdc⟩
  · have z : X.env.scope.names.lookup y = some .local := z
    rw [hy] at z
    cases z
  · have nc := I2.freeC y cc hcc
    have hsp := q2 cc oc uu hcc nc hdc ru
    have old : X.s_0.heap.objs.size ≤ cc := I2.ok.cab y cc hfn hcc
    have e0 := I2.env0
    have e1 : Env0 X.prog X.w X.K X.mg X.base X.A X.stack s2 (upd H2 cc (Rec oc)) :=
      { frames := e0.frames, mod := e0.mod, bsz := e0.bsz, funs := e0.funs, bare := e0.bare, hok := told_ok e0.hok nc hoc
        bs := fun b ob z => by
          refine ⟨(e0.bs b ob z).1, ?_⟩
          have nb : b ≠ cc := fun q => absurd (Nat.lt_of_lt_of_le (Heap.lt_size z) (Nat.le_trans I2.ok.bsz (q ▸ old))) (Nat.lt_irrefl _)
          rw [upd_ne nb]
          exact (e0.bs b ob z).2
        frf := fun b hb => by
          have nb : b ≠ cc := fun q => by
            rcases List.mem_cons.mp (I2.stkSub b hb) with z | z
            · exact I2.cne y cc hcc (q ▸ z)
            · obtain ⟨_, ob, ho, _⟩ := I2.ok.funs.mem z
              exact absurd (Nat.lt_of_lt_of_le (Heap.lt_size ho) (q ▸ old)) (Nat.lt_irrefl _)
          rw [upd_ne nb]
          exact e0.frf b hb }
    have r2 : Vals (V.ref a :: vs) (Value.ref a :: us) := .cons rfl r
    have hl2 : (Value.ref a :: us).length = ps.length := by
      rw [← r2.length]
      exact F.len _ _ _ _ hsp
    have bt := hb s2 (Value.ref a :: us) I2.kIn (by rw [List.append_nil]; exact hl2)
    rw [List.append_nil] at bt
    refine wpAny_call (codeAny_mono (F.run X.A X.stack s2 _ ⟨Value.ref a :: us, []⟩ (Value.ref a :: us) _ _ L2.E0 hr e1 bt r2 hsp) fun r s' hq => ?_)
    cases r with
    | error e => exact hq.elim
    | ok fl =>
      cases fl with
      | ret u =>
        obtain ⟨v', H', os, bare, un, hok, rv, qv⟩ := hq
        obtain ⟨hcc', un2, hok2⟩ := untold un hok nc hoc
        exact I2.after ⟨v', _, os, bare, un2, hok2, rv, qv hcc'⟩
      | next => exact False.elim hq
      | brk => exact False.elim hq
      | cont => exact False.elim hq
end
end G47

/-! Steps.run. -/
namespace T47
open PySem PySem.Spec PyProof.Rows L2 NdefX LamX G47 M47

abbrev sRun : Stmt := within (top 24) 5
def lamOf : Stmt → Arguments × Expr × Scope
  | .Return (some (.Call _ [_, _, .Lambda a b sc _] _ _)) _ => (a, b, sc)
  | _ => (⟨[], [], none, [], [], none, []⟩, .Constant .none 0 ⟨0, 0, 0, 0⟩, ⟨.function, [], false, false, []⟩)
def lamP : Arguments := (lamOf ((C8.fnBody sRun).getD 2 (.Pass ⟨0, 0, 0, 0⟩))).1
def lamB : Expr := (lamOf ((C8.fnBody sRun).getD 2 (.Pass ⟨0, 0, 0, 0⟩))).2.1
def lamSc : Scope := (lamOf ((C8.fnBody sRun).getD 2 (.Pass ⟨0, 0, 0, 0⟩))).2.2
theorem sc_lam : NScope ["place", "sought"] ["place"] ["sought"] lamSc := nscope_by (by decide +kernel)
def qLam : Str := "Steps.run.<locals>.<lambda>"

section
variable {P : Program} {w : World} {K : PySem.W.Frag} {mg : Str → Option Value} {base : Heap} {CS CR CT : Addr}
/-- what a sought thing says of an int -/
def sgSide (S : Sg) (y : Int) : Int := sgn (mea S y.toNat - S.n)
def sgDom (S : Sg) (y : Int) : Prop := 0 ≤ y ∧ MeaOk S y.toNat
theorem lam_cmp {cl : List (Str × Addr)} {c' f cS sa dx : Addr} {oS : Obj} {uS pm ctv : Value} {S : Sg} (cC : C8.Met P w K mg base 3 CT "compare" (spCompare CT) []) (ok : SgOk S) (h1 : cl.lookup ("sought" : Str) = some cS) (only : ∀ y c, cl.lookup y = some c → y = "sought" ∧ c = cS)
    (dS : oS.data = .cell (some uS)) (rS : RelV (.ref sa) uS) :
    CmpOk P w K mg base 4 f [(f, lamObj qLam lamP lamB lamSc cl pm c' ctv), (c', CodeO c' qLam), (cS, Rec oS), (sa, .ins CT dx (sgF S))] (sgDom S) (sgSide S) := by
  have at_ : ∀ {H : Hp}, Holds [(f, lamObj qLam lamP lamB lamSc cl pm c' ctv), (c', CodeO c' qLam), (cS, Rec oS), (sa, .ins CT dx (sgF S))] H →
      H f = some (lamObj qLam lamP lamB lamSc cl pm c' ctv) ∧ H c' = some (CodeO c' qLam) ∧ H cS = some (Rec oS) ∧ H sa = some (.ins CT dx (sgF S)) := fun {H} h =>
    ⟨h (f, lamObj qLam lamP lamB lamSc cl pm c' ctv) (by simp), h (c', CodeO c' qLam) (by simp), h (cS, Rec oS) (by simp), h (sa, .ins CT dx (sgF S)) (by simp)⟩
  refine ⟨fun H h hok hc => ?_, fun p hp xs => ?_, fun p hp xs => ?_, fun A outer s H i t hr e0 hc hd => ?_⟩
  · obtain ⟨z, _⟩ := at_ hc
    exact ⟨_, none, _, #[], (hok f _ z).1⟩
  · simp only [List.mem_cons, List.not_mem_nil, or_false] at hp
    rcases hp with rfl | rfl | rfl | rfl <;> exact fun z => by cases z
  · simp only [List.mem_cons, List.not_mem_nil, or_false] at hp
    rcases hp with rfl | rfl | rfl | rfl <;> exact fun z => by cases z
  · obtain ⟨z1, z2, z3, z4⟩ := at_ hc
    have hL : AllRec [cS] H := fun b hb => ⟨oS, by rw [List.mem_singleton.mp hb]; exact z3⟩
    have nl : ∀ {c : Addr} {o : HO}, H c = some o → o ≠ Rec oS → c ∉ [cS] := fun {c o} e1 n z => by
      rw [List.mem_singleton.mp z, z3] at e1
      exact n (Option.some.inj e1).symm
    have ns := nl z4 fun y => by cases y
    have gf : s.heap.get? f = some (PySem.W.kla_obj "<lambda>" qLam lamP lamB lamSc cl pm c' ctv) := (e0.hok f _ z1).1
    have gS : s.heap.get? cS = some oS := (e0.hok cS _ z3).1
    have e1 := thaw_env e0 hL
    have lim : s.heap.NoLimit := e0.mod.nolimit.keeps fun b o e => (e0.bs b o e).1
    have C : CellsAt cl ["sought"] [some (.ref sa)] s.heap (thaw [cS] H) := by
      refine ⟨rfl, fun y c e => ?_, fun x y c e1 e2 => (only x c e1).1.trans (only y c e2).1.symm, fun i y e => ?_⟩
      · obtain ⟨_, rfl⟩ := only y c e
        exact ⟨thaw_in (by simp), _, oS, gS, dS⟩
      · match i, e with
        | 0, e =>
          cases e
          exact ⟨cS, h1, fun v ev => by cases ev; exact ⟨uS, rS, oS, gS, dS⟩⟩
        | n + 1, e => cases e
    obtain ⟨⟨oc, vs, tq, hoc, hdc, hvc⟩, _, _⟩ := e0.hok c' _ z2
    have main : codeAny (model P w) A (.call (.ref f) ⟨[.int i t], []⟩) (CR L2.CX0 outer P w (thaw [cS] H) s (fun v H' => v = .int (sgSide S i) ∧ H' = thaw [cS] H) L2.E0) s := by
      refine PySem.W.kla_callFunE hr.depth gf rfl sc_lam.co sc_lam.gen rfl ⟨c', oc, vs, tq, rfl, hoc, hdc, hvc⟩ ?_
      refine wpAny_of_eq (a := (["place"] : List Str).zip [Value.int i t]) rfl ?_
      refine wpAny_newFunctionEnv sc_lam.nocell (fun ⟨n, _⟩ hy => sc_lam.par n (List.of_mem_zip hy).1) (fun h₁ hns hsb => ⟨lim.fresh _ hsb, ?_⟩) sc_lam.kind
      show codeAny _ _ (.expr lamB (envF ⟨"<lambda>", qLam, lamP, [], lamSc, cl, c'⟩ f s.heap.objs.size)) _ _
      have kp : ∀ b o, s.heap.get? b = some o → h₁.get? b = some o := fun b o e => hsb.extBut b o (Nat.ne_of_lt (Heap.lt_size e)) (Heap.get?_push_of_some _ e)
      have I := inv_startN (CX := L2.CX0) (F := ⟨"<lambda>", qLam, lamP, [], lamSc, cl, c'⟩) (f := f) (E := L2.E0) (us := [Value.int i t]) (vs := [V.int i]) (tk := s.toks + ((["place"] : List Str).zip [Value.int i t]).length) sc_lam hr.hd e1 rfl (.cons ⟨t, rfl⟩ .nil) C hns kp
      have body : PE (ncx L2.CX0 P w K mg base ["place", "sought"] ⟨"<lambda>", qLam, lamP, [], lamSc, cl, c'⟩ f A outer s (thaw [cS] H) L2.E0) lamB _ := PE.nox (C8.pe_mt cC (hr.deeper _) (by decide) (pv 1) (pa_cons (pv 0) pa_nil))
      refine PySem.W.kla_codeExpr (wpAny_mono (body.run [] _ _ _ (fun v H' => v = .int (sgSide S i) ∧ H' = thaw [cS] H) I ⟨_, rfl, sa, dx, _, rfl, (thaw_out ns).trans z4, sg_no S (by decide +kernel) (by decide +kernel) (by decide +kernel), _, rfl, sa, dx, S, i.toNat, ?_, (thaw_out ns).trans z4, ok, hd.2, rfl, rfl⟩) (fun v s' hq => ?_) fun e s' hq => hq)
      · have hi := hd.1
        show [V.ref sa, V.int i] = [V.ref sa, V.int (i.toNat : Nat)]
        rw [Int.toNat_of_nonneg hi]
      · obtain ⟨v', H', J, rv, q⟩ := hq
        exact ⟨v', H', J.os, J.bare, J.base, J.hok, rv, q⟩
    refine codeAny_mono main fun r s' hq => ?_
    cases r with
    | error e => exact hq.elim
    | ok fl =>
      cases fl with
      | ret u =>
        obtain ⟨v, H', os, bare, un, hok, rv, ev, eH⟩ := hq
        obtain ⟨u1, u2⟩ := freeze_back e0 hL un hok
        refine ⟨v, _, os, bare, u1, u2, rv, ev, fun b o e => ?_⟩
        by_cases hb : b ∈ [cS]
        · rw [freeze_in hb]; exact e
        · rw [freeze_out hb, eH, thaw_out hb]; exact e
      | next => exact False.elim hq
      | brk => exact False.elim hq
      | cont => exact False.elim hq

/-! tables -/
abbrev NT (T : List (Addr × Str)) : List NTab := T.map fun p => (p.1, fun _ _ => p.2)
theorem tabs_n {T : List (Addr × Str)} {H : Hp} (h : Tabs T H) : TabsN (NT T) H := fun p hp => by
  obtain ⟨q, hq, rfl⟩ := List.mem_map.mp hp
  exact TabN.of (h q hq)
theorem n_tabs {T : List (Addr × Str)} {H : Hp} (h : TabsN (NT T) H) : Tabs T H := fun p hp => TabN.to (h (p.1, fun _ _ => p.2) (List.mem_map.mpr ⟨p, hp, rfl⟩))

theorem pe_mtC {X : Cx} {k j i : Nat} {C : Addr} {sp : Sp} {y m : Str} {pos apos : Pos} {e o : Expr} {es : List Expr} {ta : TE} {t : TA} {pl : Sem Bool} (c : C8.Met X.prog X.w X.K X.mg X.base k C m sp []) (hr : Room j X.A) (hk : k ≤ j) (he : PE X o ta) (ha : PA X (e :: es) t)
    (hN : X.N[i]? = some y) (hy : X.env.scope.names.lookup y = some .cell) (hfn : X.fn y = true)
    (hst : starEach (e :: es) X.env = (false, eval e X.env) :: starEach es X.env := by rfl) (hpl : (backTo pos (starEach es X.env)).any (·.1) = false := by rfl)
    (ht : eval (.Call (.Attribute o m apos) (e :: es) [] pos) X.env = (do
      let ov ← eval o X.env
      standAt apos.atName
      let (f, first) ← holding [ov] (getMethod ov m pl)
      callWith pos f first (backTo pos (starEach (e :: es) X.env)) (backToKw pos (keywordEach [] X.env))) := by rfl) :
    PE X (.Call (.Attribute o m apos) (e :: es) [] pos) (tMethC X.env.cells y i C m sp ta t) := by
  obtain ⟨f, fd, ps, ds, hc, hm, F, b, d⟩ := c.ex
  cases d
  exact pe_methC (pl := pl) he hc hm F (hr.mono hk) b ha hN hy hfn hst hpl ht

theorem sc_run : FnScope ["self", "sought", "x", "p"] ["self", "sought", "x", "p"] (C8.fnScope sRun) := C8.fnScope_by (by decide +kernel)
theorem run_cells (n : Nat) : cellsFrom n (C8.fnScope sRun).names [] = [(("sought" : Str), n)] := rfl
theorem run_clo (n : Nat) : cloFrom [(("sought" : Str), n)] lamSc.names [] = [(("sought" : Str), n)] := rfl
theorem lam_hit {n : Nat} {c : Addr} (h : (cellsFrom n (C8.fnScope sRun).names []).lookup ("sought" : Str) = some c) : (cloFrom (cellsFrom n (C8.fnScope sRun).names []) lamSc.names []).lookup ("sought" : Str) = some c := by
  rw [run_cells] at h ⊢
  rw [run_clo]
  exact h
theorem lam_only {n : Nat} {c : Addr} (h : (cellsFrom n (C8.fnScope sRun).names []).lookup ("sought" : Str) = some c) (y : Str) (c' : Addr) (e : (cloFrom (cellsFrom n (C8.fnScope sRun).names []) lamSc.names []).lookup y = some c') : y = "sought" ∧ c' = c := by
  rw [run_cells] at h e
  rw [run_clo] at e
  rw [List.lookup_cons] at e h
  rw [beq_self_eq_true] at h
  split at e
  · rename_i hy
    exact ⟨eq_of_beq hy, (Option.some.inj e).symm.trans (Option.some.inj h)⟩
  · cases e
theorem lam_free : ∀ y ∈ lamSc.names, y.2 = NameKind.free → (C8.fnScope sRun).names.lookup y.1 = some .cell ∨ (C8.fnScope sRun).names.lookup y.1 = some .free := by decide +kernel
def spRun (CS CR CT : Addr) (T : List (Addr × Str)) : Sp := fun vs H Q _ =>
  ∃ (s dx sa dxs : Addr) (L : Lp) (S : Sg) (x p A : Int), vs = [.ref s, .ref sa, .int x, .int p] ∧ H s = some (.ins CS dx (stF L)) ∧ 1 ≤ L.last ∧ H sa = some (.ins CT dxs (sgF S)) ∧ SgOk S ∧ Tabs T H ∧ 0 ≤ x ∧ 1 ≤ p ∧
    x ≤ A ∧ (∀ y, L.go (sgSide S) y = true → y ≤ A) ∧ (∀ y, x ≤ y → y ≤ A + (2 * (A - x) + p) → sgDom S y) ∧ 4 * (A - x) + p ≤ 1000000 ∧
    ∀ (t : Int) (H' : Hp) (r dr tp : Addr), L.climb (L.go (sgSide S)) x p t → ExtN H H' → Tabs T H' → H' r = some (.ins CR dr (rnF tp (t + L.plus))) → Q (.ref r) H'
theorem thaw_at {c b : Addr} {H : Hp} {u : HO} {o : Obj} (hc : H c = some (Rec o)) (e : H b = some u) (n : u ≠ Rec o) : thaw [c] H b = some u := by
  refine (thaw_out fun z => ?_).trans e
  rw [List.mem_singleton.mp z, hc] at e
  exact n (Option.some.inj e).symm
theorem run_fn {T : List (Addr × Str)} {c Pt f : Addr} {oc : Value} {od an : Option Addr} {osl : Array (Option Value)} {kV doc pm ct : Value}
    (lk : K.lookup f = some ⟨oc, od, .func (PySem.W.fnOf "run" "Steps.run" (C8.fnArgs sRun) (C8.fnBody sRun) (C8.fnScope sRun) .none kV doc pm an (.ref c) ct), osl⟩) (hcd : PySem.W.codeIn K (.ref c) "Steps.run" = true)
    (TB : TabB base mg c Pt) (hm : (Pt, qLam) ∈ T) (hu : ∀ p ∈ T, p.1 = Pt → p.2 = qLam) (cC : C8.Met P w K mg base 3 CT "compare" (spCompare CT) []) (cW : C8.Met P w K mg base 5 CS "walk" (spWalk P w K mg base CS CR 4) [])
    (c1 : C8.Cal P w K mg base 2 "is_whole_from" spIsWholeFrom []) (c2 : C8.Cal P w K mg base 3 "check_start" spCheckStart []) :
    FnOk P w K mg base C8.CX0 6 f (PySem.W.fnOf "run" "Steps.run" (C8.fnArgs sRun) (C8.fnBody sRun) (C8.fnScope sRun) .none kV doc pm an (.ref c) ct) ["self", "sought", "x", "p"] (spRun CS CR CT T) := by
  refine fn_of lk hcd sc_run (fun vs H Q E h => ?_) fun A outer s H vs Q E hr h => ?_
  · obtain ⟨s, dx, sa, dxs, L, S, x, p, A, rfl, _⟩ := h
    rfl
  · obtain ⟨s, dx, sa, dxs, L, S, x, p, A', rfl, hs, hl, hsa, ok, hT, hx0, hp1, hx, hA, hdom, hsz, q⟩ := h
    refine ⟨_, PSs.nox (pss_cons (ps_if (pt_not (pt_val (C8.pe_c c1 hr (by decide) rfl (pa_cons (pv 2) (pa_cons pe_int pa_nil))))) pss_never pss_nil)
      (pss_cons (ps_expr (C8.pe_c c2 hr (by decide) rfl (pa_cons (pv 3) pa_nil)))
      (pss_one (ps_ret (pe_mtC (i := 1) cW hr (by decide) (pv 0) (pa_cons (pv 2) (pa_cons (pv 3) (pa_cons (pe_lam (T := T) TB rfl hm hu rfl lam_free) pa_nil))) rfl rfl rfl))))), ?_⟩
    refine ⟨_, rfl, x, 0, rfl, _, rfl, ?_⟩
    rw [decide_eq_true hx0]
    refine iteF ⟨_, rfl, p, rfl, hp1, ?_⟩
    refine ⟨_, rfl, s, dx, _, rfl, hs, st_no L (by decide +kernel) (by decide +kernel) (by decide +kernel) (by decide +kernel), _, rfl, _, rfl, hT, fun f' c' pm' ctv' H1 eN T1 hf hc => ⟨.ref sa, rfl, fun cS oS uS hcell nS dS rS => ?_⟩⟩
    have eN' : ∀ {b : Addr} {C d : Addr} {fs : List (Str × V)}, H b = some (.ins C d fs) → H1 b = some (.ins C d fs) := fun e => eN _ _ e fun ps z => by cases z
    have s3 := same_new (o := Rec oS) nS
    refine ⟨s, dx, f', L, x, p, A', _, _, _, rfl, s3 _ _ (eN' hs), hl, lam_cmp (dx := dxs) (c' := c') (pm := pm') (ctv := ctv') cC ok (lam_hit hcell) (lam_only hcell) dS rS, fun z hz => ?_, hx, by omega, hA, hdom, hsz, fun t H4 r dr tp hcl sm hr4 hc4 => ?_⟩
    · simp only [List.mem_cons, List.not_mem_nil, or_false] at hz
      rcases hz with rfl | rfl | rfl | rfl
      · exact s3 _ _ hf
      · exact s3 _ _ hc
      · exact upd_same
      · exact s3 _ _ (eN' hsa)
    · refine q t _ r dr tp hcl (fun b o e n => ?_) (fun z hz => ?_) (thaw_at hc4 hr4 fun z => by cases z)
      · have e1 := eN b o e n
        refine (thaw_out fun z => ?_).trans (sm _ _ (s3 _ _ e1))
        rw [List.mem_singleton.mp z, nS] at e1
        cases e1
      · have ext : ∀ b o, H1 b = some o → thaw [cS] H4 b = some o := fun b o e1 => by
          refine (thaw_out fun z => ?_).trans (sm _ _ (s3 _ _ e1))
          rw [List.mem_singleton.mp z, nS] at e1
          cases e1
        exact (T1 z hz).ext ext
end
end T47

/-! small_walks. -/
namespace T47
open PySem PySem.Spec PyProof.Rows L2 NdefX LamX G47 M47

/-- the rows of small_walks, of the powers up to 2^(m-1) -/
def rowsOf (l : List Nat) : List (Int × Int × Bool) := l.flatMap fun (p : Nat) => (List.range (2 * p)).flatMap fun (a : Nat) => [((p : Int), (a : Int), false), ((p : Int), (a : Int), true)]
abbrev pw6 : List Nat := [1, 2, 4, 8, 16, 32]
abbrev rows6 : List (Int × Int × Bool) := rowsOf pw6
theorem row_at : ∀ p ∈ pw6, ∀ a ∈ List.range (2 * p), ∀ h ∈ [false, true], rows6[4 * (p - 1) + 2 * a + (if h then 1 else 0)]? = some ((p : Int), (a : Int), h) := by decide +kernel
theorem row_len : rows6.length = 252 := by decide +kernel
theorem pw_next : ∀ p ∈ pw6, p = 32 ∨ 2 * p ∈ pw6 := by decide
theorem pw_le : ∀ p ∈ pw6, 1 ≤ p ∧ p ≤ 32 := by decide

theorem cmp_mono {P : Program} {w : World} {K : PySem.W.Frag} {mg : Str → Option Value} {base : Heap} {j k : Nat} {f : Addr} {cs : List (Addr × HO)} {dom : Int → Prop} {side : Int → Int} (c : CmpOk P w K mg base k f cs dom side) (h : k ≤ j) : CmpOk P w K mg base j f cs dom side :=
  ⟨c.fn, c.nl, c.nt, fun A outer s H i t hr => c.run A outer s H i t (hr.mono h)⟩

theorem go_cmp {L : Lp} {a y : Int} {hit : Bool} (h : L.go (cmpSide a hit) y = true) : y ≤ a := by
  unfold Lp.go cmpSide at h
  by_cases z : y ≤ a
  · exact z
  · rw [if_pos (by omega)] at h
    simp at h
abbrev sSmall : Stmt := top 25
theorem sc_small : L2.GScope ["steps", "p", "answer", "hit"] ["steps"] (C8.fnScope sSmall) := ⟨rfl, rfl, rfl, by decide +kernel, by decide +kernel, by decide +kernel, by decide +kernel⟩
theorem small_cells (n : Nat) : cellsFrom n (C8.fnScope sSmall).names [] = [] := rfl
theorem small_nc : ∀ y ∈ (C8.fnScope sSmall).names, y.2 ≠ .cell := by decide +kernel

/-- what small_walks hands out -/
def swSpec (CS CR sp dx : Addr) (L : Lp) (T : List (Addr × Str)) : GSpec where
  top := 253
  Item := fun k Hr x H => ∃ (p a t : Int) (hit : Bool) (q r dr tp : Addr), rows6[k]? = some (p, a, hit) ∧ x = .ref q ∧ H q = some (.tup [.int p, .int a, .bl hit, .ref r]) ∧ H r = some (.ins CR dr (rnF tp (t + L.plus))) ∧ L.climb (L.go (cmpSide a hit)) 0 p t ∧ ExtN Hr H ∧ Tabs T H
  End := fun k Hr H => k = 252 ∧ ExtN Hr H ∧ Tabs T H
  Keep := fun H => H sp = some (.ins CS dx (stF L)) ∧ Tabs T H

section
variable {P : Program} {w : World} {K : PySem.W.Frag} {mg : Str → Option Value} {base : Heap} {CS CR CT : Addr}
theorem small_body {T : List (Addr × Str)} {sp dx : Addr} {L : Lp} (hl : 1 ≤ L.last) (B : Blt mg) {tL : Tok} (mL : mg "LARGEST" = some (.int 32 tL)) (cW : C8.Met P w K mg base 5 CS "walk" (spWalk P w K mg base CS CR 4) []) (cC : C8.Cal P w K mg base 2 "comparing" (spComparing P w K mg base (NT T)) [])
    {f : Addr} {cdv : Value} {A : Around} {outer : List Env} {s : Shared} (Q : Pro) (hr : Room 5 (A.deeper (envOfC "small_walks" (C8.fnScope sSmall) s.heap.objs.size f cdv))) (hq : Q.toGSpec = swSpec CS CR sp dx L T) (ok : ProOk (gCx P w K mg base ["steps", "p", "answer", "hit"] "small_walks" (C8.fnScope sSmall) f cdv A outer s) Q) :
    ∃ t, GSts (gCx P w K mg base ["steps", "p", "answer", "hit"] "small_walks" (C8.fnScope sSmall) f cdv A outer s) Q (C8.fnBody sSmall) t ∧ ∀ Hr, (swSpec CS CR sp dx L T).Keep Hr → t (fun Hr' k' _ H' => (swSpec CS CR sp dx L T).End k' Hr' H') Hr 0 (L2.start ["steps", "p", "answer", "hit"] [.ref sp]) Hr := by
  have S := sc_small
  refine ⟨_, gsts_cons (gst_plain ok fun _ _ => ps_set (i := 1) S.nd rfl (Or.inl rfl) pe_int)
    (gsts_cons (gst_while ok (fun _ _ => pt_cmpR op_le (pv 1) (pe_glob (v := .int 32) rfl mL ⟨_, rfl⟩) (nomark _))
      (gsts_cons (gst_for ok (fun _ _ => pi_range1 rfl B.range (pa_cons (pe_op op_mul pe_int (pv 1)) pa_nil)) (fun _ _ => pg_name (i := 2) S.nd rfl (Or.inl rfl))
        (gsts_cons (gst_for ok (fun _ _ => pi_tupW (pa_cons pe_bl (pa_cons pe_bl pa_nil))) (fun _ _ => pg_name (i := 3) S.nd rfl (Or.inl rfl))
          (gsts_cons (gst_yield ok (fun _ _ => pe_tup (pa_cons (pv 1) (pa_cons (pv 2) (pa_cons (pv 3) (pa_cons (C8.pe_mt cW hr (by decide) (pv 0) (pa_cons pe_int (pa_cons (pv 1) (pa_cons (C8.pe_c cC hr (by decide) rfl (pa_cons (pv 2) (pa_cons (pv 3) pa_nil))) pa_nil)))) pa_nil)))))) gsts_nil)) gsts_nil))
      (gsts_cons (gst_plain ok fun _ _ => ps_set (i := 1) S.nd rfl (Or.inl rfl) (pe_op op_mul pe_int (pv 1))) gsts_nil))) gsts_nil), ?_⟩
  rintro Hr ⟨hs, hT⟩
  -- the powers
  refine ⟨fun m Hr' k σ H => ∃ (p : Nat) (sa sh : Option V), σ = [some (.ref sp), some (.int p), sa, sh] ∧ (p ∈ pw6 ∧ k = 4 * (p - 1) ∨ p = 64 ∧ k = 252) ∧ m = 64 - p ∧ ExtN Hr' H ∧ Tabs T H ∧ H sp = some (.ins CS dx (stF L)),
    ⟨_, 1, none, none, rfl, .inl ⟨by decide, rfl⟩, rfl, ExtN.refl _, hT, hs⟩, ?_⟩
  rintro m Hr1 k σ H1 ⟨p, sa, sh, rfl, hp, rfl, ex, T1, s1⟩
  refine ⟨_, rfl, _, _, rfl, rfl, _, rfl, ite2 (fun h => ?_) (fun h => ?_)⟩
  · obtain ⟨hp', rfl⟩ : p ∈ pw6 ∧ k = 4 * (p - 1) := hp.resolve_right fun z => by
      have h := of_decide_eq_true h
      omega
    have hb := pw_le p hp'
    refine ⟨_, rfl, _, _, rfl, rfl, .inl ⟨by decide, by decide⟩, _, rfl, by omega, by omega, ?_⟩
    -- the answers
    refine ⟨fun i m Hr' k σ H => ∃ (sa sh : Option V), σ = [some (.ref sp), some (.int p), sa, sh] ∧ i ≤ 2 * p ∧ k = 4 * (p - 1) + 2 * i ∧ m = 2 * p - i ∧ ExtN Hr' H ∧ Tabs T H ∧ H sp = some (.ins CS dx (stF L)),
      ⟨_, sa, sh, rfl, by omega, rfl, rfl, ex, T1, s1⟩, ?_⟩
    rintro i m Hr2 k σ H2 ⟨sa, sh, rfl, hi, rfl, rfl, ex, T2, s2⟩
    by_cases hlt : i < 2 * p
    · refine .inr ⟨by show i < (2 * (p : Int)).toNat; omega, fun x H3 hy => ?_⟩
      obtain ⟨rfl, rfl⟩ := hy
      refine ⟨by show 2 ≤ sizeLine; decide, ?_⟩
      -- the hits
      refine ⟨fun j m Hr' k σ H => ∃ (sh : Option V), σ = [some (.ref sp), some (.int p), some (.int (0 + (i : Int))), sh] ∧ j ≤ 2 ∧ k = 4 * (p - 1) + 2 * i + j ∧ m = 2 - j ∧ ExtN Hr' H ∧ Tabs T H ∧ H sp = some (.ins CS dx (stF L)),
        ⟨_, sh, rfl, by omega, rfl, rfl, ex, T2, s2⟩, ?_⟩
      rintro j m Hr3 k σ H4 ⟨sh, rfl, hj, rfl, rfl, ex, T3, s3⟩
      by_cases hj2 : j < 2
      · refine .inr ⟨hj2, fun x H5 hy => ?_⟩
        obtain ⟨rfl, hx⟩ := hy
        have hx : ∃ hit : Bool, x = .bl hit ∧ j = (if hit then 1 else 0) := by
          match j, hj2, hx with
          | 0, _, hx => cases hx; exact ⟨false, rfl, rfl⟩
          | 1, _, hx => cases hx; exact ⟨true, rfl, rfl⟩
        obtain ⟨hit, rfl, ej⟩ := hx
        have hrow := row_at p hp' i (List.mem_range.mpr hlt) hit (by cases hit <;> simp)
        have top : Q.top = 253 := by rw [hq]; rfl
        refine ⟨by rw [top]; omega, ?_⟩
        refine ⟨_, rfl, _, rfl, _, rfl, _, rfl, sp, dx, _, rfl, s3, st_no L (by decide +kernel) (by decide +kernel) (by decide +kernel) (by decide +kernel), _, rfl, _, rfl, _, rfl, 0 + (i : Int), hit, rfl, tabs_n T3, fun g cs H6 e6 t6 cok c6 => ?_⟩
        have eN : ∀ {b : Addr} {C d : Addr} {fs : List (Str × V)} {H H' : Hp}, ExtN H H' → H b = some (.ins C d fs) → H' b = some (.ins C d fs) := fun x e => x _ _ e fun ps z => by cases z
        refine ⟨sp, dx, g, L, 0, p, 0 + (i : Int), cs, _, _, rfl, eN e6 s3, hl, cmp_mono cok (by decide), c6, by omega, by omega, fun y hy => go_cmp hy, fun _ _ _ => trivial, by omega, fun t H7 r dr tp hcl sm hr7 => ?_⟩
        refine ⟨by show 4 ≤ sizeLine; decide, fun q nq => ?_⟩
        have s8 := same_new (o := .tup [.int p, .int (0 + (i : Int)), .bl hit, .ref r]) nq
        have T8 : Tabs T (upd H7 q (.tup [.int p, .int (0 + (i : Int)), .bl hit, .ref r])) := fun z hz => ((n_tabs t6) z hz).ext fun b o e => s8 _ _ (sm _ _ e)
        refine ⟨?_, fun H' kp => ?_⟩
        · rw [hq]
          refine ⟨p, 0 + (i : Int), t, hit, q, r, dr, tp, ?_, rfl, upd_same, s8 _ _ hr7, hcl, (ex.trans e6).trans (.of fun b o e => s8 _ _ (sm _ _ e)), T8⟩
          rw [ej, hrow, Int.zero_add]
        · rw [hq] at kp
          exact ⟨2 - (j + 1), by omega, some (.bl hit), rfl, by omega, by omega, rfl, ExtN.refl _, kp.2, kp.1⟩
      · refine .inl ⟨by show 2 ≤ j; omega, ?_⟩
        exact ⟨2 * p - (i + 1), by omega, _, sh, rfl, by omega, by omega, rfl, ex, T3, s3⟩
    · refine .inl ⟨by show (2 * (p : Int)).toNat ≤ i; omega, ?_⟩
      refine ⟨_, rfl, _, _, rfl, rfl, .inl ⟨by decide, by decide⟩, ?_⟩
      refine ⟨64 - 2 * p, by omega, 2 * p, sa, sh, rfl, ?_, rfl, ex, T2, s2⟩
      rcases pw_next p hp' with z | z
      · exact .inr ⟨by omega, by omega⟩
      · exact .inl ⟨z, by omega⟩
  · have h : ¬ (p : Int) ≤ 32 := fun z => h (decide_eq_true z)
    have hk : k = 252 := by
      rcases hp with z | z
      · have q := pw_le p z.1
        omega
      · exact z.2
    exact ⟨hk, ex, T1⟩
end
end T47

/-! steps_tells, steps_fault. -/
namespace T47
open PySem PySem.Spec PyProof.Rows L2 NdefX LamX G47 M47

theorem inV_int (v : Int) (ps : List Int) : inV (.int v) (ps.map V.int) = decide (v ∈ ps) := by
  unfold inV
  rw [Bool.eq_iff_iff, List.any_eq_true, decide_eq_true_eq]
  constructor
  · rintro ⟨y, hy, e⟩
    obtain ⟨z, hz, rfl⟩ := List.mem_map.mp hy
    have e : (z == v) = true := e
    rw [← eq_of_beq e]
    exact hz
  · intro h
    exact ⟨.int v, List.mem_map.mpr ⟨v, h, rfl⟩, by show (v == v) = true; exact beq_self_eq_true v⟩
theorem flat_ints (ps : List Int) : (ps.map V.int).all flatV = true := by
  rw [List.all_eq_true]
  intro y hy
  obtain ⟨z, hz, rfl⟩ := List.mem_map.mp hy
  rfl

theorem tabs_lst {T : List (Addr × Str)} {H H' : Hp} (t : Tabs T H) (e : ∀ b o, H b = some o → (∀ ps, o ≠ .lst ps) → H' b = some o) : Tabs T H' := fun p hp => by
  obtain ⟨ps, h1, h2, h3⟩ := t p hp
  refine ⟨ps, e _ _ h1 (fun _ z => by cases z), h2, fun pos cv hc => ?_⟩
  obtain ⟨c, e1, e2⟩ := h3 pos cv hc
  exact ⟨c, e1, e _ _ e2 fun _ z => by cases z⟩
/-- what a row of small_walks tells beyond its answer -/
def ToldBy (L : Lp) (r : Int × Int × Bool) (v : Int) : Prop := ∃ t, L.climb (L.go (cmpSide r.2.1 r.2.2)) 0 r.1 t ∧ v = t + L.plus - r.2.1
theorem toldBy_one {L : Lp} {r : Int × Int × Bool} {v u : Int} (a : ToldBy L r v) (b : ToldBy L r u) : v = u := by
  obtain ⟨t, h1, rfl⟩ := a
  obtain ⟨t', h2, rfl⟩ := b
  rw [climb_det h1 h2]

section
variable {X : Cx} {CS CR : Addr} {T : List (Addr × Str)}
def tSmall (CS CR : Addr) (T : List (Addr × Str)) (t : TA) : L2.St → Hp → (GSpec → Hp → Prop) → Prop := fun σ H R => t σ H fun vs H1 => ∃ (sp dx : Addr) (L : Lp), vs = [.ref sp] ∧ 1 ≤ L.last ∧ R (swSpec CS CR sp dx L T) H1
theorem pgn_small {e : Expr} {t : TA} {p pos : Pos} {tL : Tok} (D : Dfn X.K X.mg "small_walks" sSmall ["steps"]) (B : Blt X.mg) (mL : X.mg "LARGEST" = some (.int 32 tL)) (cW : C8.Met X.prog X.w X.K X.mg X.base 5 CS "walk" (spWalk X.prog X.w X.K X.mg X.base CS CR 4) [])
    (cC : C8.Cal X.prog X.w X.K X.mg X.base 2 "comparing" (spComparing X.prog X.w X.K X.mg X.base (NT T)) []) (hr : Room 6 X.A) (hg : Gl X "small_walks") (ha : PA X [e] t)
    (he : starEach [e] X.env = (false, eval e X.env) :: starEach [] X.env := by rfl) (hpl : (backTo pos (starEach [] X.env)).any (·.1) = false := by rfl) :
    PGn X 6 (.Call (.Name "small_walks" p) [e] [] pos) (tSmall CS CR T t) := by
  refine ⟨fun pins s σ H R I h => ?_⟩
  obtain ⟨f, fd, F, b⟩ := D
  refine wpAny_Call_Name_kw (ld_glob I hg F.mgf ?_ (by decide))
  refine PySem.W.callWith_K (h₀ := X.base) I.ok.mod.kin F.kp (thn (ha.run pos pins s σ H _ I h) fun us s1 hu => ?_) he hpl
  obtain ⟨vs, H1, I1, r, sp, dx, L, rfl, hl, q⟩ := hu
  refine ⟨I1.kIn, ?_⟩
  have hlen : (us ++ []).length = (["steps"] : List Str).length := by rw [List.append_nil, ← r.length]; rfl
  have hb := b s1 us I1.kIn hlen
  rw [List.append_nil] at hb
  obtain ⟨oc, od, dV, kV, doc, pm, an, cdv, ct, osl, rfl, lk, hcd⟩ := F.fn.ex
  refine wpAny_call (codeAny_mono (made_of (k := 5) (sp := swSpec CS CR sp dx L T) lk hcd sc_small small_cells small_nc hr I1.env0 hb r rfl fun A Q hr hq ok => small_body hl B mL cW cC Q hr hq ok) fun r s' hq => ?_)
  obtain ⟨u, rfl, m⟩ := hq
  exact ⟨H1, s1, _, I1, q, m⟩
end

section
variable {P : Program} {w : World} {K : PySem.W.Frag} {mg : Str → Option Value} {base : Heap} {CS CR CT : Addr} {T : List (Addr × Str)}
abbrev sTells : Stmt := top 26
theorem sc_tells : FnScope ["steps", "found", "p", "answer", "hit", "run"] ["steps"] (C8.fnScope sTells) := C8.fnScope_by (by decide +kernel)
def spTells (CS : Addr) (T : List (Addr × Str)) : Sp := fun vs H Q _ => ∃ (sp dx : Addr) (L : Lp), vs = [.ref sp] ∧ H sp = some (.ins CS dx (stF L)) ∧ 1 ≤ L.last ∧ Tabs T H ∧
  ∀ (xs : List Int) (H' : Hp) (q : Addr), xs.Pairwise (· ≤ ·) → xs.Nodup → (∀ v, v ∈ xs ↔ ∃ r ∈ rows6, ToldBy L r v) → ExtN H H' → Tabs T H' → H' q = some (.tup (xs.map V.int)) → Q (.ref q) H'
theorem tells_ok (D : Dfn K mg "steps_tells" sTells ["steps"]) (DS : Dfn K mg "small_walks" sSmall ["steps"]) (S : ClsS K CS CR) (B : Blt mg) {tL : Tok} (mL : mg "LARGEST" = some (.int 32 tL)) (cW : C8.Met P w K mg base 5 CS "walk" (spWalk P w K mg base CS CR 4) [])
    (cC : C8.Cal P w K mg base 2 "comparing" (spComparing P w K mg base (NT T)) []) : C8.Cal P w K mg base 8 "steps_tells" (spTells CS T) [] := by
  refine cal_of D sc_tells (fun vs H Q E h => ?_) (fun f cdv A outer s H vs Q E hr h => ?_)
  · obtain ⟨sp, dx, L, rfl, _⟩ := h
    rfl
  · obtain ⟨sp, dx, L, rfl, hs, hl, hT, q⟩ := h
    have nd := sc_tells.nd
    refine ⟨_, pss_cons (ps_set (i := 1) nd rfl (Or.inl rfl) (pe_lst pa_nil)) (pss_cons (ps_forG PassesOwn.never rfl hr (pgn_small DS B mL cW cC (hr.mono (by decide)) rfl (pa_cons (pv 0) pa_nil))
        (pgg_tup rfl (pgsg_cons (pgg_name (i := 2) nd rfl rfl) (pgsg_cons (pgg_name (i := 3) nd rfl rfl) (pgsg_cons (pgg_name (i := 4) nd rfl rfl) (pgsg_cons (pgg_name (i := 5) nd rfl rfl) pgsg_nil)))))
        (psg_one (pstg_if (ptg_notIn (peg_sub (peg_fld (peg_var (i := 5) rfl rfl) rfl) (peg_var (i := 3) rfl rfl)) (peg_var (i := 1) rfl rfl) rfl)
          (psg_one (pstg_append (peg_var (i := 1) rfl rfl) (peg_sub (peg_fld (peg_var (i := 5) rfl rfl) rfl) (peg_var (i := 3) rfl rfl)))) psg_nil)))
      (pss_one (ps_ret (pe_callTy call_tuple_of rfl B.tuple b_tuple (pa_cons (pe_callB cr_sortedI rfl B.sorted b_sorted (pa_cons (pv 1) pa_nil)) pa_nil))))), ?_⟩
    refine ⟨Nat.zero_le _, fun l hl0 => ?_⟩
    refine ⟨_, rfl, sp, dx, L, rfl, hl, ?_⟩
    have hsl : sp ≠ l := ne_of_none hs hl0
    refine ⟨fun k σ H' => ∃ (ps : List Int) (s2 s3 s4 s5 : Option V), σ = [some (.ref sp), some (.ref l), s2, s3, s4, s5] ∧ k ≤ 252 ∧ H' l = some (.lst (ps.map V.int)) ∧ ps.Nodup ∧ ps.length ≤ k ∧ (∀ v, v ∈ ps ↔ ∃ j, j < k ∧ ∃ r, rows6[j]? = some r ∧ ToldBy L r v) ∧ ExtN H H' ∧ Tabs T H' ∧ H' sp = some (.ins CS dx (stF L)),
      ⟨[], none, none, none, none, rfl, by decide, upd_same, List.nodup_nil, Nat.le_refl _, fun v => ⟨fun z => (nomatch z), fun ⟨j, hj, _⟩ => absurd hj (Nat.not_lt_zero _)⟩, .of fun b o e => same_new hl0 _ _ e, fun z hz => (hT z hz).ext fun b o e => same_new hl0 _ _ e, same_new hl0 _ _ hs⟩, fun k σ H' z => ?_, fun k σ Hr H5 x hk z hi => ?_, fun k σ Hr H5 z he => ?_⟩
    · obtain ⟨ps, s2, s3, s4, s5, _, _, _, _, _, _, _, T1, h1⟩ := z
      exact ⟨h1, T1⟩
    · obtain ⟨ps, s2, s3, s4, s5, rfl, hk2, hps, hnd, hlen, hmem, ex, T1, h1⟩ := z
      obtain ⟨p, a, t, hit, tq, r, dr, tp, hrow, rfl, htq, hr5, hcl, ex5, T5⟩ := hi
      have hk3 : k < 252 := by
        have z := (List.getElem?_eq_some_iff.mp hrow).1
        rw [row_len] at z
        exact z
      have hl5 : H5 l = some (.lst (ps.map V.int)) := ex5 _ _ hps fun _ y => by cases y
      have hs5 : H5 sp = some (.ins CS dx (stF L)) := ex5 _ _ h1 fun _ y => by cases y
      have tb : ToldBy L (p, a, hit) (t + L.plus - a) := ⟨t, hcl, rfl⟩
      have z1 : ∀ j r v, rows6[j]? = some r → ToldBy L r v → j < k + 1 → j < k ∨ v = t + L.plus - a := fun j r v e1 e2 hj => by
        rcases Nat.lt_succ_iff_lt_or_eq.mp hj with y | y
        · exact .inl y
        · rw [y, hrow] at e1
          cases e1
          exact .inr (toldBy_one e2 tb)
      refine ⟨tq, _, rfl, SqT.of htq, rfl, _, _, rfl, _, _, rfl, _, _, rfl, _, _, rfl, rfl, ?_⟩
      refine ⟨_, rfl, r, CR, dr, _, _, rfl, hr5, S.cR, S.nTold, rn_told _ _, _, rfl, _, _, rfl, rfl, _, rfl, l, _, rfl, .inl (SqL.of hl5), rfl, flat_ints ps, _, rfl, ?_⟩
      rw [if_pos rfl, inV_int]
      by_cases hin : t + L.plus - a ∈ ps
      · rw [decide_eq_true hin]
        refine iteF ?_
        refine ⟨ps, _, _, _, _, rfl, by omega, hl5, hnd, by omega, fun v => ?_, ex.trans ex5, T5, hs5⟩
        rw [hmem v]
        constructor
        · rintro ⟨j, hj, q⟩
          exact ⟨j, by omega, q⟩
        · rintro ⟨j, hj, r', e1, e2⟩
          rcases z1 j r' v e1 e2 hj with y | y
          · exact ⟨j, y, r', e1, e2⟩
          · exact (hmem v).mp (y ▸ hin)
      · rw [decide_eq_false hin]
        refine iteT ?_
        refine ⟨_, rfl, ⟨l, _, rfl, hl5⟩, _, rfl, r, CR, dr, _, _, rfl, hr5, S.cR, S.nTold, rn_told _ _, _, rfl, _, _, rfl, rfl, l, _, rfl, hl5, by rw [List.length_map, sizeLine_eq]; omega, ?_⟩
        have n1 : sp ≠ l := hsl
        have ex6 : ∀ b o, H5 b = some o → b ≠ l → upd H5 l (.lst (ps.map V.int ++ [.int (t + L.plus - a)])) b = some o := fun b o e ne => by rw [upd_ne ne]; exact e
        refine ⟨ps ++ [t + L.plus - a], _, _, _, _, rfl, by omega, ?_, ?_, by rw [List.length_append]; show ps.length + 1 ≤ _; omega, fun v => ?_, fun b o e n => ?_, fun z hz => ?_, ex6 _ _ hs5 n1⟩
        · rw [List.map_append]
          exact upd_same
        · rw [List.nodup_append]
          refine ⟨hnd, List.nodup_cons.mpr ⟨by simp, List.nodup_nil⟩, fun b hb c hc e => ?_⟩
          rw [List.mem_singleton.mp hc] at e
          rw [e] at hb
          exact hin hb
        · rw [List.mem_append, hmem v, List.mem_singleton]
          constructor
          · rintro (⟨j, hj, q⟩ | rfl)
            · exact ⟨j, by omega, q⟩
            · exact ⟨k, by omega, _, hrow, tb⟩
          · rintro ⟨j, hj, r', e1, e2⟩
            rcases z1 j r' v e1 e2 hj with y | y
            · exact .inl ⟨j, y, r', e1, e2⟩
            · exact .inr y
        · exact ex6 _ _ (ex.trans ex5 _ _ e n) (ne_of_none e hl0)
        · exact tabs_lst T5 (fun b o e n => ex6 b o e fun y => n _ (Option.some.inj (e.symm.trans (y ▸ hl5)))) z hz
    · obtain ⟨ps, s2, s3, s4, s5, rfl, hk2, hps, hnd, hlen, hmem, ex, T1, h1⟩ := z
      obtain ⟨rfl, ex5, T5⟩ := he
      have hl5 : H5 l = some (.lst (ps.map V.int)) := ex5 _ _ hps fun _ y => by cases y
      refine ⟨_, rfl, l, ps, rfl, SqL.of hl5, fun ns p hp1 hp2 np => ?_⟩
      refine ⟨p, _, rfl, .inl ⟨SqL.of upd_same, fun q2 nq => ?_⟩⟩
      have ext : ∀ b o, H5 b = some o → upd (upd H5 p (.lst (ns.map V.int))) q2 (.tup (ns.map V.int)) b = some o := fun b o e => same_new nq _ _ (same_new np _ _ e)
      refine q ns _ q2 hp2 (hp1.nodup_iff.mpr hnd) (fun v => ?_) ((ex.trans ex5).trans (.of ext)) (fun z hz => (T5 z hz).ext ext) upd_same
      rw [hp1.mem_iff, hmem v]
      constructor
      · rintro ⟨j, hj, r, e1, e2⟩
        exact ⟨r, List.mem_of_getElem? e1, e2⟩
      · rintro ⟨r, hr, e2⟩
        obtain ⟨j, hj, e1⟩ := List.getElem_of_mem hr
        rw [row_len] at hj
        exact ⟨j, hj, r, by rw [← e1]; exact List.getElem?_eq_getElem _, e2⟩
/-! steps_fault -/
abbrev sFault : Stmt := top 27
theorem sc_fault : FnScope ["steps", "p", "answer", "hit", "run"] ["steps"] (C8.fnScope sFault) := C8.fnScope_by (by decide +kernel)
def spFault (CS : Addr) (T : List (Addr × Str)) : Sp := fun vs H Q _ => ∃ (sp dx : Addr) (L : Lp), vs = [.ref sp] ∧ H sp = some (.ins CS dx (stF L)) ∧ 1 ≤ L.last ∧ Tabs T H ∧
  (∀ H', (∀ r ∈ rows6, ToldBy L r 0) → ExtN H H' → Tabs T H' → Q .non H') ∧
  ∀ (H' : Hp) (q : Addr) (j : Nat) (r : Int × Int × Bool) (v : Int), (∀ i, i < j → ∀ r', rows6[i]? = some r' → ToldBy L r' 0) → rows6[j]? = some r → ToldBy L r v → v ≠ 0 → ExtN H H' → Tabs T H' → H' q = some (.tup [.int r.1, .int r.2.1, .bl r.2.2]) → Q (.ref q) H'
theorem fault_ok (D : Dfn K mg "steps_fault" sFault ["steps"]) (DS : Dfn K mg "small_walks" sSmall ["steps"]) (S : ClsS K CS CR) (B : Blt mg) {tL : Tok} (mL : mg "LARGEST" = some (.int 32 tL)) (cW : C8.Met P w K mg base 5 CS "walk" (spWalk P w K mg base CS CR 4) [])
    (cC : C8.Cal P w K mg base 2 "comparing" (spComparing P w K mg base (NT T)) []) : C8.Cal P w K mg base 8 "steps_fault" (spFault CS T) [] := by
  refine cal_of D sc_fault (fun vs H Q E h => ?_) (fun f cdv A outer s H vs Q E hr h => ?_)
  · obtain ⟨sp, dx, L, rfl, _⟩ := h
    rfl
  · obtain ⟨sp, dx, L, rfl, hs, hl, hT, q0, q⟩ := h
    have nd := sc_fault.nd
    refine ⟨_, pss_cons (ps_forG PassesOwn.never rfl hr (pgn_small DS B mL cW cC (hr.mono (by decide)) rfl (pa_cons (pv 0) pa_nil))
        (pgg_tup rfl (pgsg_cons (pgg_name (i := 1) nd rfl rfl) (pgsg_cons (pgg_name (i := 2) nd rfl rfl) (pgsg_cons (pgg_name (i := 3) nd rfl rfl) (pgsg_cons (pgg_name (i := 4) nd rfl rfl) pgsg_nil)))))
        (psg_one (pstg_if (ptg_neI (peg_fld (peg_var (i := 4) rfl rfl) rfl) (peg_var (i := 2) rfl rfl))
          (psg_out (pss_one (ps_ret (pe_tup (pa_cons (pv 1) (pa_cons (pv 2) (pa_cons (pv 3) pa_nil))))))) psg_nil)))
      (pss_one (ps_ret pe_non)), ?_⟩
    refine ⟨_, rfl, sp, dx, L, rfl, hl, ?_⟩
    refine ⟨fun k σ H' => ∃ (s1 s2 s3 s4 : Option V), σ = [some (.ref sp), s1, s2, s3, s4] ∧ (∀ j r, j < k → rows6[j]? = some r → ToldBy L r 0) ∧ ExtN H H' ∧ Tabs T H' ∧ H' sp = some (.ins CS dx (stF L)),
      ⟨none, none, none, none, rfl, fun j r hj => absurd hj (Nat.not_lt_zero _), .refl _, hT, hs⟩, fun k σ H' z => ?_, fun k σ Hr H5 x hk z hi => ?_, fun k σ Hr H5 z he => ?_⟩
    · obtain ⟨s1, s2, s3, s4, _, _, _, T1, h1⟩ := z
      exact ⟨h1, T1⟩
    · obtain ⟨s1, s2, s3, s4, rfl, hall, ex, T1, h1⟩ := z
      obtain ⟨p, a, t, hit, tq, r, dr, tp, hrow, rfl, htq, hr5, hcl, ex5, T5⟩ := hi
      have hs5 : H5 sp = some (.ins CS dx (stF L)) := ex5 _ _ h1 fun _ y => by cases y
      have tb : ToldBy L (p, a, hit) (t + L.plus - a) := ⟨t, hcl, rfl⟩
      refine ⟨tq, _, rfl, SqT.of htq, rfl, _, _, rfl, _, _, rfl, _, _, rfl, _, _, rfl, rfl, ?_⟩
      refine ⟨_, rfl, r, CR, dr, _, _, rfl, hr5, S.cR, S.nTold, rn_told _ _, _, rfl, _, _, rfl, rfl, _, rfl, ite2 (fun h => ?_) (fun h => ?_)⟩
      · refine ⟨_, rfl, _, rfl, _, rfl, by show 3 ≤ sizeLine; decide, fun q2 nq => ?_⟩
        have hne : t + L.plus ≠ a := fun z => by rw [z] at h; simp at h
        have ext : ∀ b o, H5 b = some o → upd H5 q2 (.tup [.int p, .int a, .bl hit]) b = some o := fun b o e => same_new nq _ _ e
        exact q _ q2 k (p, a, hit) _ (fun i hi r' e => hall i r' hi e) hrow tb (by omega) ((ex.trans ex5).trans (.of ext)) (fun z hz => (T5 z hz).ext ext) upd_same
      · have he : t + L.plus = a := by
          by_cases z : t + L.plus = a
          · exact z
          · exact absurd (bne_iff_ne.mpr z) h
        refine ⟨_, _, _, _, rfl, fun j r' hj e => ?_, ex.trans ex5, T5, hs5⟩
        rcases Nat.lt_succ_iff_lt_or_eq.mp hj with y | y
        · exact hall j r' y e
        · rw [y, hrow] at e
          cases e
          have z : t + L.plus - a = 0 := by omega
          exact z ▸ tb
    · obtain ⟨s1, s2, s3, s4, rfl, hall, ex, T1, h1⟩ := z
      obtain ⟨rfl, ex5, T5⟩ := he
      refine q0 H5 (fun r hr => ?_) (ex.trans ex5) T5
      obtain ⟨j, hj, e1⟩ := List.getElem_of_mem hr
      have hj' := hj
      rw [row_len] at hj'
      exact hall j r hj' (by rw [← e1]; exact List.getElem?_eq_getElem _)
end
end T47

/-! The law's small functions: cells, rows, powers. -/
namespace T47
open PySem PySem.Spec PyProof.Rows L2 G47

section
variable {P : Program} {w : World} {K : PySem.W.Frag} {mg : Str → Option Value} {base : Heap}
theorem b_len : bootBuiltins "len" = some (.builtin "len") := by decide +kernel

/-! _law_cell_at -/
abbrev sCellAt : Stmt := top 33
theorem sc_cellAt : FnScope ["_law_script", "_law_k"] ["_law_script", "_law_k"] (C8.fnScope sCellAt) := C8.fnScope_by (by decide +kernel)
def spCellAt (K : PySem.W.Frag) : Sp := fun vs H Q _ => ∃ (a : Addr) (ns : List Int) (k : Nat), vs = [.ref a, .int k] ∧ SqL K H a (ns.map V.int) ∧ ∀ c : Int, Q (.int c) H
theorem cellAt_ok (D : Dfn K mg "_law_cell_at" sCellAt ["_law_script", "_law_k"]) (B : Blt mg) : C8.Cal P w K mg base 1 "_law_cell_at" (spCellAt K) [] := by
  refine cal_of D sc_cellAt (fun vs H Q E h => ?_) (fun f cdv A outer s H vs Q E hr h => ?_)
  · obtain ⟨a, ns, k, rfl, _⟩ := h
    rfl
  · obtain ⟨a, ns, k, rfl, hs, q⟩ := h
    refine ⟨_, pss_cons (ps_if (pt_cmpR op_lt (pv 1) (pe_callB call_len_seq rfl B.len b_len (pa_cons (pv 0) pa_nil)) (nomark _)) (pss_one (ps_ret (pe_ix ix_list (pv 0) (pv 1) (fun _ _ => rfl)))) pss_nil) (pss_one (ps_ret pe_int)), ?_⟩
    refine ⟨_, rfl, _, rfl, a, _, rfl, .inl hs, _, _, rfl, rfl, _, rfl, ite2 (fun h => ?_) (fun h => q 0)⟩
    have h := of_decide_eq_true h
    rw [List.length_map] at h
    have hk : k < ns.length := by omega
    refine ⟨_, rfl, _, rfl, a, _, _, .int ns[k], rfl, rfl, hs, atI_nat ?_, q _⟩
    rw [List.getElem?_map, List.getElem?_eq_getElem hk]
    rfl

/-! _law_mixed -/
theorem pA : (0 : Int) < 2147483647 := by decide
theorem pB : (0 : Int) < 2147483629 := by decide
theorem pK : (0 : Int) < 1000 := by decide
/-- an expression whose int is not looked at -/
theorem any_int {te : TE} {σ : L2.St} {H : Hp} {Q : VK} (h : ∀ Q' : VK, (∀ i : Int, Q' (.int i) H) → te σ H Q') (q : ∀ i : Int, Q (.int i) H) : te σ H Q := h Q q
abbrev sMixed : Stmt := top 34
theorem sc_mixed : FnScope ["_law_cell", "_law_k", "_law_spread"] ["_law_cell", "_law_k"] (C8.fnScope sMixed) := C8.fnScope_by (by decide +kernel)
def spMixed : Sp := fun vs H Q _ => ∃ (c : Int) (k : Nat), vs = [.int c, .int k] ∧ k < 1000 ∧ ∀ m : Int, 0 ≤ m → Q (.int m) H
theorem mixed_ok (D : Dfn K mg "_law_mixed" sMixed ["_law_cell", "_law_k"]) (B : Blt mg) : C8.Cal P w K mg base 1 "_law_mixed" spMixed [] := by
  refine cal_of D sc_mixed (fun vs H Q E h => ?_) (fun f cdv A outer s H vs Q E hr h => ?_)
  · obtain ⟨c, k, rfl, _⟩ := h
    rfl
  · obtain ⟨c, k, rfl, hk, q⟩ := h
    refine ⟨_, pss_cons (ps_set (i := 2) sc_mixed.nd rfl (Or.inl rfl) (pe_op op_mod (pe_callTy call_int1 rfl B.int b_int (pa_cons (pe_op op_pow
        (pe_op op_add (pe_op op_add (pe_op op_mod (pe_callTy call_int1 rfl B.int b_int (pa_cons (pv 0) pa_nil)) pe_int) (pe_op op_mul pe_int (pv 1))) pe_int) pe_int) pa_nil)) pe_int))
      (pss_one (ps_ret (pe_op op_mod (pe_callTy call_int1 rfl B.int b_int (pa_cons (pe_op op_mul (pe_op op_add (pv 2) (pv 1)) pe_int) pa_nil)) pe_int))), ?_⟩
    have h1 := Int.emod_nonneg c (show (2147483647 : Int) ≠ 0 by decide)
    have h2 := Int.emod_lt_of_pos c (show (0 : Int) < 2147483647 by decide)
    refine ⟨_, rfl, .inl ⟨_, rfl, _, _, rfl, rfl, pA, _, rfl, _, _, rfl, rfl, .inl ⟨by decide, by decide⟩, _, _, rfl, rfl, _, _, rfl, rfl, _, _, rfl, rfl, ⟨by decide, by decide, by omega⟩, .inl ⟨_, rfl, _, _, rfl, rfl, pA, ?_⟩⟩⟩
    refine ⟨_, rfl, _, rfl, _, _, rfl, rfl, _, _, rfl, rfl, .inr ⟨by decide, by decide⟩, .inl ⟨_, rfl, _, _, rfl, rfl, pB, q _ (Int.emod_nonneg _ (by decide))⟩⟩
theorem any_bd {te : TE} {σ : L2.St} {H : Hp} {Q : VK} (h : ∀ Q' : VK, (∀ i : Int, 0 ≤ i → i < 1000 → Q' (.int i) H) → te σ H Q') (q : ∀ i : Int, 0 ≤ i → i < 1000 → Q (.int i) H) : te σ H Q := h Q q

/-! _law_row -/
abbrev sRow : Stmt := top 35
theorem sc_row : FnScope ["_law_cell", "_law_many", "_law_left", "_law_row_here", "_law_k"] ["_law_cell", "_law_many"] (C8.fnScope sRow) := C8.fnScope_by (by decide +kernel)
/-- a row: 60 numbers below 1000 -/
structure RowOk (R : List Int) : Prop where
  len : R.length = 60
  bd : ∀ v ∈ R, 0 ≤ v ∧ v < 1000
def spRow : Sp := fun vs H Q _ => ∃ c : Int, vs = [.int c, .int 60] ∧ ∀ (R : List Int) (H' : Hp) (l : Addr), RowOk R → Same H H' → H' l = some (.lst (R.map V.int)) → Q (.ref l) H'
theorem row_ok (D : Dfn K mg "_law_row" sRow ["_law_cell", "_law_many"]) (B : Blt mg) (c1 : C8.Cal P w K mg base 1 "_law_mixed" spMixed []) : C8.Cal P w K mg base 2 "_law_row" spRow [] := by
  refine cal_of D sc_row (fun vs H Q E h => ?_) (fun f cdv A outer s H vs Q E hr h => ?_)
  · obtain ⟨c, rfl, _⟩ := h
    rfl
  · obtain ⟨c, rfl, q⟩ := h
    refine ⟨_, pss_cons (ps_set (i := 2) sc_row.nd rfl (Or.inl rfl) (pe_ifExp (pt_cmpR op_ge (pe_callB call_abs rfl B.abs b_abs (pa_cons (pv 0) pa_nil)) (pe_op op_pow pe_int pe_int) (nomark _)) (pe_callB call_abs rfl B.abs b_abs (pa_cons (pv 0) pa_nil)) pe_int))
      (pss_cons (ps_set (i := 3) sc_row.nd rfl (Or.inl rfl) (pe_lst pa_nil))
      (pss_cons (ps_for PassesOwn.never rfl (pi_range1 rfl B.range (pa_cons (pv 1) pa_nil)) (pg_name (i := 4) sc_row.nd rfl (Or.inl rfl))
        (pss_cons (ps_expr (pe_bm PySem.F.plainAttrs_list PySem.F.slot_list_append PySem.F.type_list_append mt_append (pv 3) (pa_cons (pe_op op_mod (pe_callTy call_int1 rfl B.int b_int (pa_cons (pe_ifExp (pt_cmpR op_gt (pv 2) pe_int (nomark _)) (pv 2)
            (C8.pe_c c1 hr (by decide) rfl (pa_cons (pv 0) (pa_cons (pv 4) pa_nil)))) pa_nil)) pe_int) pa_nil)))
        (pss_one (ps_set (i := 2) sc_row.nd rfl (Or.inl rfl) (pe_op op_fdiv (pv 2) pe_int)))))
      (pss_one (ps_ret (pv 3))))), ?_⟩
    show tIf _ _ _ _ _ _
    refine any_int (fun Q' q' => ?_) (fun left => ?_)
    · exact ⟨_, rfl, _, rfl, _, _, rfl, rfl, ⟨by decide, by decide, by decide⟩, _, _, rfl, rfl, _, rfl, ite2 (fun _ => ⟨_, rfl, _, rfl, q' _⟩) (fun _ => q' _)⟩
    · refine ⟨Nat.zero_le _, fun l hl0 => ?_⟩
      refine ⟨_, rfl, 60, rfl, by decide, by decide, for_range (fun i σ H' => ∃ (left : Int) (R : List Int) (sk : Option V), σ = [some (.int c), some (.int 60), some (.int left), some (.ref l), sk] ∧ R.length = i ∧ (∀ v ∈ R, 0 ≤ v ∧ v < 1000) ∧ H' l = some (.lst (R.map V.int)) ∧ Same H H')
        ⟨left, [], none, rfl, rfl, fun v hv => (nomatch hv), upd_same, same_new hl0⟩ ?_ ?_⟩
      · rintro i σ H' hi ⟨left, R, sk, rfl, hlen, hbd, hl, sm⟩
        refine ⟨_, rfl, .inl ⟨rfl, _, SqL.of hl⟩, ?_⟩
        show tOp _ _ _ _ _ _
        refine any_bd (fun Q' q' => ?_) (fun v hv0 hv1 => ?_)
        · have fin : ∀ x : Int, Q' (.int (x % 1000)) H' := fun x => q' _ (Int.emod_nonneg _ (by decide)) (Int.emod_lt_of_pos _ pK)
          refine ⟨_, rfl, _, _, rfl, rfl, _, rfl, ite2 (fun _ => ⟨_, rfl, .inl ⟨_, rfl, _, _, rfl, rfl, pK, fin _⟩⟩) (fun _ => ⟨_, rfl, _, rfl, c, i, ?_, by omega, fun m _ => .inl ⟨_, rfl, _, _, rfl, rfl, pK, fin _⟩⟩)⟩
          rw [Int.zero_add]
          rfl
        · refine ⟨l, _, _, rfl, rfl, hl, by rw [List.length_map, sizeLine_eq]; omega, ?_⟩
          refine ⟨_, rfl, _, _, rfl, rfl, ⟨by decide, by decide⟩, left / 1000, R ++ [v], _, rfl, by rw [List.length_append, hlen]; rfl, fun u hu => ?_, ?_, fun b o e => ?_⟩
          · rcases List.mem_append.mp hu with z | z
            · exact hbd u z
            · rw [List.mem_singleton.mp z]
              exact ⟨hv0, hv1⟩
          · rw [List.map_append]
            exact upd_same
          · rw [upd_ne (ne_of_none e hl0)]
            exact sm _ _ e
      · rintro σ H' ⟨left, R, sk, rfl, hlen, hbd, hl, sm⟩
        exact ⟨_, rfl, q R H' l ⟨hlen, hbd⟩ sm hl⟩
end
end T47

/-! The law's numbers: apart, power, side, great. -/
namespace T47
open PySem PySem.Spec PyProof.Rows L2 G47

section
variable {P : Program} {w : World} {K : PySem.W.Frag} {mg : Str → Option Value} {base : Heap}

/-! _law_apart -/
abbrev sApart : Stmt := top 36
theorem sc_apart : FnScope ["_law_cell", "_law_k"] ["_law_cell", "_law_k"] (C8.fnScope sApart) := C8.fnScope_by (by decide +kernel)
def spApart : Sp := fun vs H Q _ => ∃ c k : Int, vs = [.int c, .int k] ∧ ∀ r : Int, Q (.int r) H
theorem apart_ok (D : Dfn K mg "_law_apart" sApart ["_law_cell", "_law_k"]) (B : Blt mg) : C8.Cal P w K mg base 1 "_law_apart" spApart [] := by
  refine cal_of D sc_apart (fun vs H Q E h => ?_) (fun f cdv A outer s H vs Q E hr h => ?_)
  · obtain ⟨c, k, rfl, _⟩ := h
    rfl
  · obtain ⟨c, k, rfl, q⟩ := h
    refine ⟨_, pss_cons (ps_if (pt_cmpR op_ge (pe_callB call_abs rfl B.abs b_abs (pa_cons (pv 0) pa_nil)) (pe_op op_pow pe_int pe_int) (nomark _)) (pss_one (ps_ret (pv 0))) pss_nil)
      (pss_one (ps_ret (pe_op op_add (pv 0) (pe_op op_mul pe_int (pv 1))))), ?_⟩
    exact ⟨_, rfl, _, rfl, _, _, rfl, rfl, ⟨by decide, by decide, by decide⟩, _, _, rfl, rfl, _, rfl, ite2 (fun _ => ⟨_, rfl, q _⟩) (fun _ => ⟨_, rfl, _, rfl, _, _, rfl, rfl, .inl ⟨by decide, by decide⟩, _, _, rfl, rfl, q _⟩)⟩

/-! _law_power -/
abbrev sLPower : Stmt := top 37
theorem sc_lpower : FnScope ["_law_x", "_law_k", "_law_found", "_law_turn"] ["_law_x", "_law_k"] (C8.fnScope sLPower) := C8.fnScope_by (by decide +kernel)
theorem lpower_ok (D : Dfn K mg "_law_power" sLPower ["_law_x", "_law_k"]) (B : Blt mg) : C8.Cal P w K mg base 1 "_law_power" spPower [] := by
  refine cal_of D sc_lpower (fun vs H Q E h => ?_) (fun f cdv A outer s H vs Q E hr h => ?_)
  · obtain ⟨x, k, a, rfl, _⟩ := h
    rfl
  · obtain ⟨x, k, a, rfl, hx, ha, hz, q⟩ := h
    have hk := pow_size ha hz
    refine ⟨_, pss_cons (ps_set (i := 2) sc_lpower.nd rfl (Or.inl rfl) pe_int) (pss_cons (ps_for PassesOwn.never rfl (pi_range1 rfl B.range (pa_cons (pv 1) pa_nil)) (pg_name (i := 3) sc_lpower.nd rfl (Or.inl rfl))
      (pss_one (ps_set (i := 2) sc_lpower.nd rfl (Or.inl rfl) (pe_op op_mulW (pv 2) (pv 0))))) (pss_one (ps_ret (pv 2)))), ?_⟩
    refine ⟨_, rfl, k, rfl, by omega, by omega, for_range (n := (k : Int).toNat) (fun i σ H' => H' = H ∧ ∃ v, σ = [some (.int x), some (.int k), some (.int (x ^ i)), v]) ⟨rfl, none, by rw [Int.pow_zero]; rfl⟩ ?_ ?_⟩
    · rintro i σ H' hi ⟨rfl, v, rfl⟩
      have hi : i < k := hi
      refine ⟨_, rfl, _, rfl, _, _, rfl, rfl, ?_, rfl, some (.int (0 + (i : Int))), ?_⟩
      · refine wide_mul (pow_lt hx i) hx (by omega) ha ?_
        have : a * i + a ≤ a * (k + 1) := by rw [← Nat.mul_succ]; exact Nat.mul_le_mul_left _ (by omega)
        omega
      · rw [Int.pow_succ]
        rfl
    · rintro σ H' ⟨rfl, v, rfl⟩
      exact ⟨_, rfl, q⟩

/-! _law_side -/
abbrev sSide : Stmt := top 38
theorem sc_lside : FnScope ["_law_sought_here", "_law_x", "_law_kind", "_law_by", "_law_n", "_law_measure"] ["_law_sought_here", "_law_x"] (C8.fnScope sSide) := C8.fnScope_by (by decide +kernel)
def sgV (S : Sg) : List V := [.str S.kind, .int S.by_, .int S.n]
def spLSide : Sp := fun vs H Q _ => ∃ (a : Addr) (S : Sg) (x : Nat), vs = [.ref a, .int x] ∧ H a = some (.tup (sgV S)) ∧ SgOk S ∧ MeaOk S x ∧ Q (.int (sgn (mea S x - S.n))) H
theorem sgn_two (m n : Int) : (if decide (n < m) = true then (1 : Int) else 0) - (if decide (m < n) = true then 1 else 0) = sgn (m - n) := by
  unfold sgn
  have e1 : decide (0 < m - n) = decide (n < m) := by rw [Bool.eq_iff_iff, decide_eq_true_eq, decide_eq_true_eq]; omega
  have e2 : decide (m - n < 0) = decide (m < n) := by rw [Bool.eq_iff_iff, decide_eq_true_eq, decide_eq_true_eq]; omega
  rw [e1, e2]
def rInt1 : List V → Hp → VK → Prop := fun xs H Q => (∃ i, xs = [V.int i] ∧ Q (V.int i) H) ∨ ∃ k, xs = [V.bl k] ∧ Q (V.int (if k then 1 else 0)) H
def tSideFin : TS := tRet (tOp (rI0 fun i j => .int (i - j)) (tCB rInt1 (tCons (tOp (rI0 fun i j => V.bl (decide (j < i))) (tVar 5) (tVar 4)) tNil)) (tCB rInt1 (tCons (tOp (rI0 fun i j => V.bl (decide (i < j))) (tVar 5) (tVar 4)) tNil)))
theorem lside_ok (D : Dfn K mg "_law_side" sSide ["_law_sought_here", "_law_x"]) (B : Blt mg) (c : C8.Cal P w K mg base 1 "_law_power" spPower []) : C8.Cal P w K mg base 2 "_law_side" spLSide [] := by
  refine cal_of D sc_lside (fun vs H Q E h => ?_) (fun f cdv A outer s H vs Q E hr h => ?_)
  · obtain ⟨a, S, x, rfl, _⟩ := h
    rfl
  · obtain ⟨a, S, x, rfl, ha, ok, mo, q⟩ := h
    have nd := sc_lside.nd
    refine ⟨_, pss_cons (ps_asg (pv 0) (pg_tup rfl (pgs_cons (pg_name (i := 2) nd rfl (Or.inl rfl)) (pgs_cons (pg_name (i := 3) nd rfl (Or.inl rfl)) (pgs_cons (pg_name (i := 4) nd rfl (Or.inl rfl)) pgs_nil)))))
      (pss_cons (ps_set (i := 5) nd rfl (Or.inl rfl) (C8.pe_c c hr (by decide) rfl (pa_cons (pv 1) (pa_cons (pv 3) pa_nil))))
      (pss_cons (ps_if (pt_cmpR op_eq (pv 2) pe_str (nomark _)) (pss_one (ps_set (i := 5) nd rfl (Or.inl rfl) (pe_op op_mul (pv 3) (pv 1)))) pss_nil)
      (pss_cons (ps_if (pt_cmpR op_eq (pv 2) pe_str (nomark _)) (pss_one (ps_set (i := 5) nd rfl (Or.inl rfl) (C8.pe_c c hr (by decide) rfl (pa_cons (pv 3) (pa_cons (pv 1) pa_nil))))) pss_nil)
      (pss_one (ps_ret (pe_op op_sub (pe_callTy call_int1 rfl B.int b_int (pa_cons (pe_cmpR op_gt (pv 5) (pv 4) (nomark _)) pa_nil)) (pe_callTy call_int1 rfl B.int b_int (pa_cons (pe_cmpR op_lt (pv 5) (pv 4) (nomark _)) pa_nil)))))))), ?_⟩
    have b1 := ok.by1
    have b2 := ok.by64
    have hx := mo.big
    refine ⟨_, rfl, a, _, rfl, SqT.of ha, rfl, _, _, rfl, _, _, rfl, _, _, rfl, rfl, ?_⟩
    refine ⟨_, rfl, _, rfl, x, S.by_, 150, rfl, by rw [Int.natAbs_natCast]; exact hx, by decide, by omega, ?_⟩
    have last : ∀ (m : Int), m = mea S x → tSideFin { nx := fun _ H' => Q .non H', rt := Q } [some (.ref a), some (.int x), some (.str S.kind), some (.int S.by_), some (.int S.n), some (.int m)] H := fun m hm => by
      refine ⟨_, rfl, _, rfl, _, _, rfl, rfl, .inr ⟨_, rfl, _, rfl, _, rfl, _, _, rfl, rfl, .inr ⟨_, rfl, _, _, rfl, rfl, ?_⟩⟩⟩
      show Q (.int ((if decide (S.n < m) = true then (1 : Int) else 0) - (if decide (m < S.n) = true then 1 else 0))) H
      rw [sgn_two, hm]
      exact q
    refine ⟨_, rfl, rfl, _, rfl, ?_⟩
    rw [dec_vstr]
    have two : ∀ (m : Int), (S.kind ≠ "log" → m = mea S x) → tIfS (tTest (tOp rEq (tVar 2) (tC (.str "log")))) (tAsg (tCall spPower [] C8.E0 (tCons (tVar 3) (tCons (tVar 1) tNil))) (gName 5)) tNext
        { nx := tSideFin { nx := fun _ H' => Q .non H', rt := Q }, rt := Q } [some (.ref a), some (.int x), some (.str S.kind), some (.int S.by_), some (.int S.n), some (.int m)] H := fun m hm => by
      refine ⟨_, rfl, rfl, _, rfl, ?_⟩
      rw [dec_vstr]
      by_cases hlog : S.kind = "log"
      · rw [decide_eq_true hlog]
        have hx2 := mo.log hlog
        refine iteT ⟨_, rfl, _, rfl, S.by_, x, 7, rfl, by rw [Int.natAbs_natCast]; omega, by decide, by omega, last _ ?_⟩
        unfold mea
        rw [if_neg (by rw [hlog]; decide +kernel), if_neg (by rw [hlog]; decide +kernel)]
      · rw [decide_eq_false hlog]
        exact iteF (last _ (hm hlog))
    by_cases hsh : S.kind = "share"
    · rw [decide_eq_true hsh]
      refine iteT ⟨_, rfl, _, rfl, _, _, rfl, rfl, .inl ⟨by omega, by omega⟩, two _ fun _ => ?_⟩
      unfold mea
      rw [if_neg (by rw [hsh]; decide +kernel), if_pos hsh]
    · rw [decide_eq_false hsh]
      refine iteF (two _ fun hl => ?_)
      unfold mea
      rw [if_pos ((ok.kind.resolve_right fun z => z.elim hsh hl))]

/-! _law_great -/
abbrev sGreat : Stmt := top 40
theorem sc_great : FnScope ["_law_row_here", "_law_at", "_law_many", "_law_found", "_law_k"] ["_law_row_here", "_law_at", "_law_many"] (C8.fnScope sGreat) := C8.fnScope_by (by decide +kernel)
def spGreat : Sp := fun vs H Q _ => ∃ (l : Addr) (R : List Int) (at_ many : Nat), vs = [.ref l, .int at_, .int many] ∧ H l = some (.lst (R.map V.int)) ∧ RowOk R ∧ at_ + many ≤ 60 ∧ ∀ n : Int, 0 ≤ n → n < 1000 ^ many → Q (.int n) H
theorem row_get {R : List Int} (ok : RowOk R) {i : Nat} (h : i < 60) : ∃ v : Int, (R.map V.int)[i]? = some (.int v) ∧ 0 ≤ v ∧ v < 1000 := by
  have hi : i < R.length := by rw [ok.len]; exact h
  refine ⟨R[i], ?_, ok.bd _ (List.getElem_mem hi)⟩
  rw [List.getElem?_map, List.getElem?_eq_getElem hi]
  rfl
theorem great_ok (D : Dfn K mg "_law_great" sGreat ["_law_row_here", "_law_at", "_law_many"]) (B : Blt mg) : C8.Cal P w K mg base 1 "_law_great" spGreat [] := by
  refine cal_of D sc_great (fun vs H Q E h => ?_) (fun f cdv A outer s H vs Q E hr h => ?_)
  · obtain ⟨l, R, at_, many, rfl, _⟩ := h
    rfl
  · obtain ⟨l, R, at_, many, rfl, hl, ok, hz, q⟩ := h
    have nd := sc_great.nd
    refine ⟨_, pss_cons (ps_set (i := 3) nd rfl (Or.inl rfl) pe_int) (pss_cons (ps_for PassesOwn.never rfl (pi_range1 rfl B.range (pa_cons (pv 2) pa_nil)) (pg_name (i := 4) nd rfl (Or.inl rfl))
      (pss_one (ps_set (i := 3) nd rfl (Or.inl rfl) (pe_op op_add (pe_op op_mul pe_int (pv 3)) (pe_callTy call_int1 rfl B.int b_int (pa_cons (pe_ix ix_list (pv 0) (pe_op op_add (pv 1) (pv 4)) (fun _ _ => rfl)) pa_nil)))))) (pss_one (ps_ret (pv 3)))), ?_⟩
    refine ⟨_, rfl, many, rfl, by omega, by omega, for_range (n := (many : Int).toNat) (fun i σ H' => H' = H ∧ ∃ (n : Int) (v : Option V), σ = [some (.ref l), some (.int at_), some (.int many), some (.int n), v] ∧ 0 ≤ n ∧ n < 1000 ^ i) ⟨rfl, 0, none, rfl, by decide, by decide⟩ ?_ ?_⟩
    · rintro i σ H' hi ⟨rfl, n, v, rfl, h0, h1⟩
      have hi : i < many := hi
      obtain ⟨r, er, r0, r1⟩ := row_get ok (i := at_ + i) (by omega)
      refine ⟨_, rfl, _, _, rfl, rfl, .inl ⟨by decide, by decide⟩, _, rfl, _, rfl, _, rfl, _, _, rfl, rfl, l, _, _, .int r, rfl, rfl, SqL.of hl, ?_, .inl ⟨r, rfl, _, _, rfl, rfl, rfl, 1000 * n + r, _, rfl, by omega, ?_⟩⟩
      · rw [show (at_ : Int) + (0 + (i : Int)) = ((at_ + i : Nat) : Int) by omega]
        exact atI_nat er
      · rw [Int.pow_succ]
        omega
    · rintro σ H' ⟨rfl, n, v, rfl, h0, h1⟩
      exact ⟨_, rfl, q n h0 h1⟩
end
end T47

/-! _law_answer. -/
namespace T47
open PySem PySem.Spec PyProof.Rows L2 G47

theorem sgn_le (i : Int) : sgn i ≤ 0 ↔ i ≤ 0 := by
  unfold sgn
  by_cases h : 0 < i
  · rw [decide_eq_true h, decide_eq_false (show ¬ i < 0 by omega)]
    simp
    exact h
  · rw [decide_eq_false h]
    constructor
    · intro _; omega
    · intro _
      by_cases h2 : i < 0
      · rw [decide_eq_true h2]; decide
      · rw [decide_eq_false h2]; decide
theorem cond_any {tc : TT} {σ : L2.St} {H : Hp} {Q : Bool → Hp → Prop} (C : Prop) (h : ∀ Q' : Bool → Hp → Prop, (C → Q' true H) → (¬ C → Q' false H) → tc σ H Q') (y : C → Q true H) (n : ¬ C → Q false H) : tc σ H Q := h Q y n
/-- the bounds of what is drawn -/
structure SgBd (S : Sg) : Prop where
  ok : SgOk S
  low : S.kind ≠ "log" → S.n < 2 ^ 140
  log : S.kind = "log" → S.n < 2 ^ 600
structure IsAns (S : Sg) (A : Nat) : Prop where
  le : mea S A ≤ S.n
  gt : S.n < mea S (A + 1)
  big : A < 2 ^ 140
  log : S.kind = "log" → A < 600
def inR (S : Sg) (y : Nat) : Prop := (S.kind = "log" → y ≤ 1000) ∧ mea S y ≤ S.n
theorem mea_log {S : Sg} (h : S.kind = "log") (x : Nat) : mea S x = ((S.by_ ^ x : Nat) : Int) := by
  unfold mea
  rw [if_neg (by rw [h]; decide +kernel), if_neg (by rw [h]; decide +kernel), Int.natCast_pow]
theorem mea_share {S : Sg} (h : S.kind = "share") (x : Nat) : mea S x = ((S.by_ * x : Nat) : Int) := by
  unfold mea
  rw [if_neg (by rw [h]; decide +kernel), if_pos h, Int.natCast_mul]
theorem mea_root {S : Sg} (h : S.kind = "root") (x : Nat) : mea S x = ((x ^ S.by_ : Nat) : Int) := by
  unfold mea
  rw [if_pos h, Int.natCast_pow]
theorem mea_lt {S : Sg} (ok : SgOk S) {x y : Nat} (h : x < y) : mea S x < mea S y := by
  have b1 := ok.by1
  rcases ok.kind with k | k | k
  · rw [mea_root k, mea_root k]
    exact Int.ofNat_lt.mpr (Nat.pow_lt_pow_left h (by omega))
  · rw [mea_share k, mea_share k]
    exact Int.ofNat_lt.mpr (Nat.mul_lt_mul_of_pos_left h (by omega))
  · rw [mea_log k, mea_log k]
    exact Int.ofNat_lt.mpr (Nat.pow_lt_pow_right (by have := (ok.log k).1; omega) h)
theorem mea_le {S : Sg} (ok : SgOk S) {x y : Nat} (h : x ≤ y) : mea S x ≤ mea S y := by
  rcases Nat.lt_or_eq_of_le h with z | z
  · exact Int.le_of_lt (mea_lt ok z)
  · rw [z]; exact Int.le_refl _
theorem inR_0 {S : Sg} (ok : SgOk S) : inR S 0 := by
  refine ⟨fun _ => by omega, ?_⟩
  have b1 := ok.by1
  have n0 := ok.n0
  rcases ok.kind with k | k | k
  · rw [mea_root k, Nat.zero_pow (by omega)]
    exact n0
  · rw [mea_share k, Nat.mul_zero]
    exact n0
  · rw [mea_log k, Nat.pow_zero]
    exact (ok.log k).2
theorem inR_top {S : Sg} (bd : SgBd S) : ¬ inR S (2 ^ 140) := by
  have ok := bd.ok
  have b1 := ok.by1
  rintro ⟨h1, h2⟩
  by_cases hl : S.kind = "log"
  · exact absurd (h1 hl) (by decide)
  · have h3 := bd.low hl
    rcases ok.kind with k | k | k
    · rw [mea_root k] at h2
      have : 2 ^ 140 ≤ (2 ^ 140) ^ S.by_ := Nat.le_self_pow (by omega) _
      omega
    · rw [mea_share k] at h2
      have : 2 ^ 140 ≤ S.by_ * 2 ^ 140 := Nat.le_mul_of_pos_left _ (by omega)
      omega
    · exact hl k
theorem ans_of {S : Sg} (bd : SgBd S) {A : Nat} (h1 : inR S A) (h2 : ¬ inR S (A + 1)) (h3 : A < 2 ^ 140) : IsAns S A := by
  have lg : S.kind = "log" → A < 600 := fun k => by
    have z := h1.2
    have z2 := bd.log k
    have b2 := (bd.ok.log k).1
    rw [mea_log k] at z
    have y : S.by_ ^ A < 2 ^ 600 := by omega
    have x : 2 ^ A ≤ S.by_ ^ A := Nat.pow_le_pow_left b2 A
    exact (Nat.pow_lt_pow_iff_right (by decide : 1 < 2)).mp (Nat.lt_of_le_of_lt x y)
  refine ⟨h1.2, ?_, h3, lg⟩
  refine Int.lt_of_not_ge fun z => h2 ⟨fun k => by have := lg k; omega, z⟩

section
variable {P : Program} {w : World} {K : PySem.W.Frag} {mg : Str → Option Value} {base : Heap}
abbrev sAnswer : Stmt := top 39
theorem sc_answer : FnScope ["_law_sought_here", "_law_found", "_law_more"] ["_law_sought_here"] (C8.fnScope sAnswer) := C8.fnScope_by (by decide +kernel)
def spAnswer : Sp := fun vs H Q _ => ∃ (a : Addr) (S : Sg), vs = [.ref a] ∧ H a = some (.tup (sgV S)) ∧ SgBd S ∧ ∀ A : Nat, IsAns S A → Q (.int A) H
theorem answer_ok (D : Dfn K mg "_law_answer" sAnswer ["_law_sought_here"]) (B : Blt mg) (c : C8.Cal P w K mg base 1 "_law_power" spPower []) (c2 : C8.Cal P w K mg base 2 "_law_side" spLSide []) : C8.Cal P w K mg base 3 "_law_answer" spAnswer [] := by
  refine cal_of D sc_answer (fun vs H Q E h => ?_) (fun f cdv A outer s H vs Q E hr h => ?_)
  · obtain ⟨a, S, rfl, _⟩ := h
    rfl
  · obtain ⟨a, S, rfl, ha, bd, q⟩ := h
    have nd := sc_answer.nd
    have ok := bd.ok
    refine ⟨_, pss_cons (ps_par (i := 1) (j := 2) rfl nd rfl rfl (by decide) rfl rfl (pa_cons pe_int (pa_cons (C8.pe_c c hr (by decide) rfl (pa_cons pe_int (pa_cons pe_int pa_nil))) pa_nil)) rfl)
      (pss_cons (ps_while PassesOwn.never (pt_cmpR op_gt (pv 2) pe_int (nomark _))
        (pss_cons (ps_if (PW.pt (pw_or (pt_cmpR op_ne (pe_ix ix_tup (pv 0) pe_int (fun _ _ => rfl)) pe_str (nomark _)) (pw_or1 (pt_cmpR op_le (pe_op op_add (pv 1) (pv 2)) pe_int (nomark _)))))
          (pss_one (ps_if (pt_cmpR op_le (C8.pe_c c2 hr (by decide) rfl (pa_cons (pv 0) (pa_cons (pe_op op_add (pv 1) (pv 2)) pa_nil))) pe_int (nomark _)) (pss_one (ps_set (i := 1) nd rfl (Or.inl rfl) (pe_op op_add (pv 1) (pv 2)))) pss_nil)) pss_nil)
        (pss_one (ps_set (i := 2) nd rfl (Or.inl rfl) (pe_op op_fdiv (pv 2) pe_int)))))
      (pss_one (ps_ret (pv 1)))), ?_⟩
    refine ⟨2, 139, 2, rfl, by decide, by decide, by decide, _, _, rfl, ?_⟩
    refine ⟨fun m σ H' => H' = H ∧ ∃ (fo mo : Nat), σ = [some (.ref a), some (.int fo), some (.int mo)] ∧ m = mo ∧ inR S fo ∧ ((∃ j, mo = 2 ^ j ∧ fo + 2 * mo ≤ 2 ^ 140 ∧ ¬ inR S (fo + 2 * mo)) ∨ (mo = 0 ∧ fo < 2 ^ 140 ∧ ¬ inR S (fo + 1))),
      ⟨_, rfl, 0, 2 ^ 139, by rw [Int.natCast_pow]; rfl, rfl, inR_0 ok, .inl ⟨139, rfl, by decide, inR_top bd⟩⟩, ?_⟩
    rintro m σ H' ⟨rfl, fo, mo, rfl, rfl, h1, h2⟩
    refine ⟨_, rfl, _, _, rfl, rfl, _, rfl, ite2 (fun hg => ?_) (fun hg => ?_)⟩
    · have hg := of_decide_eq_true hg
      obtain ⟨j, rfl, h3, h4⟩ := h2.resolve_right fun z => by omega
      refine ⟨_, fun σ' H' z => z, ?_⟩
      -- what is left behind the test
      have dn : ∀ fo' : Nat, inR S fo' → fo' + 2 ^ j ≤ 2 ^ 140 → ¬ inR S (fo' + 2 ^ j) → ∃ m', m' < 2 ^ j ∧ H' = H' ∧ ∃ (fo mo : Nat), [some (V.ref a), some (.int fo'), some (.int (((2 ^ j : Nat) : Int) / 2))] = [some (.ref a), some (.int fo), some (.int mo)] ∧ m' = mo ∧ inR S fo ∧ ((∃ j, mo = 2 ^ j ∧ fo + 2 * mo ≤ 2 ^ 140 ∧ ¬ inR S (fo + 2 * mo)) ∨ (mo = 0 ∧ fo < 2 ^ 140 ∧ ¬ inR S (fo + 1))) := fun fo' z1 z2 z3 => by
        refine ⟨2 ^ j / 2, by omega, rfl, fo', 2 ^ j / 2, by rw [Int.natCast_ediv]; rfl, rfl, z1, ?_⟩
        cases j with
        | zero => exact .inr ⟨rfl, by omega, z3⟩
        | succ j =>
          have e : 2 ^ (j + 1) / 2 = 2 ^ j := by rw [Nat.pow_succ]; omega
          have e2 : 2 * 2 ^ j = 2 ^ (j + 1) := by rw [Nat.pow_succ]; omega
          rw [e]
          exact .inl ⟨j, rfl, by rw [e2]; exact z2, by rw [e2]; exact z3⟩
      show tOr _ _ _ _ _
      refine cond_any (S.kind = "log" → fo + 2 ^ j ≤ 1000) (fun Q' y n => ?_) (fun hC => iteT ?_) (fun hC => iteF ?_)
      · refine ⟨_, rfl, a, _, 0, _, rfl, rfl, SqT.of ha, rfl, rfl, _, rfl, ite2 (fun h => ?_) (fun h => ⟨_, rfl, _, rfl, _, _, rfl, rfl, _, _, rfl, rfl, _, rfl, ?_⟩)⟩
        · rw [dec_vstr] at h
          refine y fun k => ?_
          rw [k] at h
          simp at h
        · have hk : S.kind = "log" := by
            rw [dec_vstr] at h
            by_cases k : S.kind = "log"
            · exact k
            · rw [decide_eq_false k] at h
              exact absurd rfl h
          by_cases h6 : fo + 2 ^ j ≤ 1000
          · rw [decide_eq_true (by omega)]
            exact y fun _ => h6
          · rw [decide_eq_false (by omega)]
            exact n fun z => h6 (z hk)
      · refine ⟨_, rfl, _, rfl, _, rfl, _, _, rfl, rfl, a, S, fo + 2 ^ j, rfl, ha, ok, ⟨by omega, fun k => by have := hC k; omega⟩, _, _, rfl, rfl, _, rfl, ite2 (fun h => ?_) (fun h => ?_)⟩
        · have h := (sgn_le _).mp (of_decide_eq_true h)
          refine ⟨_, rfl, _, rfl, _, _, rfl, rfl, _, rfl, _, _, rfl, rfl, ⟨by decide, by decide⟩, ?_⟩
          refine dn (fo + 2 ^ j) ⟨hC, by omega⟩ (by omega) ?_
          rw [show fo + 2 ^ j + 2 ^ j = fo + 2 * 2 ^ j by omega]
          exact h4
        · refine ⟨_, rfl, _, _, rfl, rfl, ⟨by decide, by decide⟩, ?_⟩
          refine dn fo h1 (by omega) fun z => h (decide_eq_true ((sgn_le _).mpr (by have := z.2; omega)))
      · refine ⟨_, rfl, _, _, rfl, rfl, ⟨by decide, by decide⟩, ?_⟩
        exact dn fo h1 (by omega) fun z => hC z.1
    · have h5 : m = 0 := by
        have : ¬ (0 : Int) < m := fun z => hg (decide_eq_true z)
        omega
      obtain ⟨_, h3, h4⟩ := h2.resolve_left fun ⟨j, e, _⟩ => by
        have := Nat.pow_pos (n := j) (show 0 < 2 by decide)
        omega
      exact ⟨_, rfl, q fo (ans_of bd h1 h4 h3)⟩
end
end T47

/-! _law_drawn_sought, _law_sought. -/
namespace T47
open PySem PySem.Spec PyProof.Rows L2 G47

/-- a statement that only goes on -/
theorem st_any {ts : TS} {D : Ends} {σ : L2.St} {H : Hp} (Pv : L2.St → Hp → Prop) (h : ∀ D' : Ends, (∀ σ' H', Pv σ' H' → D'.nx σ' H') → ts D' σ H) (q : ∀ σ' H', Pv σ' H' → D.nx σ' H') : ts D σ H := h D q
theorem seq_any {ts u : TS} {D : Ends} {σ : L2.St} {H : Hp} (Pv : L2.St → Hp → Prop) (h : ∀ D' : Ends, (∀ σ' H', Pv σ' H' → D'.nx σ' H') → ts D' σ H) (q : ∀ σ' H', Pv σ' H' → u D σ' H') : tSeq ts u D σ H := h { D with nx := u D } q
theorem pick {xs : List V} {j : Int} (h0 : 0 ≤ j) (h1 : j < xs.length) : ∃ v, v ∈ xs ∧ atI xs j = some v := by
  have hj : j.toNat < xs.length := by omega
  refine ⟨xs[j.toNat], List.getElem_mem hj, ?_⟩
  have z := atI_nat (List.getElem?_eq_getElem hj)
  rwa [Int.toNat_of_nonneg h0] at z
theorem at_row {R : List Int} (ok : RowOk R) (i : Int) (h0 : 0 ≤ i) (h1 : i < 60) : ∃ r : Int, atI (R.map V.int) i = some (.int r) := by
  obtain ⟨v, hv, e⟩ := pick (xs := R.map V.int) h0 (by rw [List.length_map, ok.len]; exact h1)
  obtain ⟨r, _, rfl⟩ := List.mem_map.mp hv
  exact ⟨r, e⟩
theorem em_lt (r : Int) {m : Int} (h : 0 < m) : 0 ≤ r % m ∧ r % m < m := ⟨Int.emod_nonneg _ (by omega), Int.emod_lt_of_pos _ h⟩

section
variable {P : Program} {w : World} {K : PySem.W.Frag} {mg : Str → Option Value} {base : Heap}
abbrev sDrawn : Stmt := top 41
theorem sc_drawn : FnScope ["_law_row_here", "_law_at", "_law_kind", "_law_by", "_law_n", "_law_x"] ["_law_row_here", "_law_at"] (C8.fnScope sDrawn) := C8.fnScope_by (by decide +kernel)
def spDrawn : Sp := fun vs H Q _ => ∃ (l : Addr) (R : List Int), vs = [.ref l, .int 0] ∧ H l = some (.lst (R.map V.int)) ∧ RowOk R ∧ ∀ (S : Sg) (H' : Hp) (a : Addr), SgBd S → Same H H' → H' a = some (.tup (sgV S)) → Q (.ref a) H'
theorem drawn_ok (D : Dfn K mg "_law_drawn_sought" sDrawn ["_law_row_here", "_law_at"]) (B : Blt mg) (c : C8.Cal P w K mg base 1 "_law_power" spPower []) (c2 : C8.Cal P w K mg base 1 "_law_great" spGreat []) : C8.Cal P w K mg base 2 "_law_drawn_sought" spDrawn [] := by
  refine cal_of D sc_drawn (fun vs H Q E h => ?_) (fun f cdv A outer s H vs Q E hr h => ?_)
  · obtain ⟨l, R, rfl, _⟩ := h
    rfl
  · obtain ⟨l, R, rfl, hl, ok, q⟩ := h
    have nd := sc_drawn.nd
    refine ⟨_, pss_cons (ps_set (i := 2) nd rfl (Or.inl rfl) (pe_ix ix_list (pe_lst (pa_cons pe_str (pa_cons pe_str (pa_cons pe_str pa_nil)))) (pe_op op_mod (pe_callTy call_int1 rfl B.int b_int (pa_cons (pe_ix ix_list (pv 0) (pv 1) (fun _ _ => rfl)) pa_nil)) pe_int) (fun _ _ => rfl)))
      (pss_cons (ps_set (i := 3) nd rfl (Or.inl rfl) (pe_ix ix_list (pe_lst (pa_cons pe_int (pa_cons pe_int (pa_cons pe_int (pa_cons pe_int (pa_cons pe_int (pa_cons pe_int (pa_cons pe_int (pa_cons pe_int pa_nil))))))))) (pe_op op_mod (pe_callTy call_int1 rfl B.int b_int (pa_cons (pe_ix ix_list (pv 0) (pe_op op_add (pv 1) pe_int) (fun _ _ => rfl)) pa_nil)) pe_int) (fun _ _ => rfl)))
      (pss_cons (ps_if (pt_cmpR op_gt (pe_op op_mod (pe_callTy call_int1 rfl B.int b_int (pa_cons (pe_ix ix_list (pv 0) (pe_op op_add (pv 1) pe_int) (fun _ _ => rfl)) pa_nil)) pe_int) pe_int (nomark _))
        (pss_one (ps_set (i := 3) nd rfl (Or.inl rfl) (pe_op op_add pe_int (pe_op op_mod (pe_callTy call_int1 rfl B.int b_int (pa_cons (pe_ix ix_list (pv 0) (pe_op op_add (pv 1) pe_int) (fun _ _ => rfl)) pa_nil)) pe_int)))) pss_nil)
      (pss_cons (ps_set (i := 3) nd rfl (Or.inl rfl) (pe_callB (cr_max rfl) rfl B.max b_max (pa_cons (pe_lst (pa_cons (pv 3) (pa_cons (pe_op op_add pe_int (pe_callTy call_int1 rfl B.int b_int (pa_cons (pe_cmpR op_eq (pv 2) pe_str (nomark _)) pa_nil))) pa_nil))) pa_nil)))
      (pss_cons (ps_set (i := 4) nd rfl (Or.inl rfl) (C8.pe_c c2 hr (by decide) rfl (pa_cons (pv 0) (pa_cons (pe_op op_add (pv 1) pe_int) (pa_cons (pe_ix ix_list (pe_lst (pa_cons pe_int (pa_cons pe_int (pa_cons pe_int (pa_cons pe_int (pa_cons pe_int (pa_cons pe_int (pa_cons pe_int (pa_cons pe_int pa_nil)))))))))
          (pe_op op_mod (pe_callTy call_int1 rfl B.int b_int (pa_cons (pe_ix ix_list (pv 0) (pe_op op_add (pv 1) pe_int) (fun _ _ => rfl)) pa_nil)) pe_int) (fun _ _ => rfl)) pa_nil)))))
      (pss_cons (ps_if (pt_cmpR op_eq (pe_op op_mod (pe_callTy call_int1 rfl B.int b_int (pa_cons (pe_ix ix_list (pv 0) (pe_op op_add (pv 1) pe_int) (fun _ _ => rfl)) pa_nil)) pe_int) pe_int (nomark _))
        (pss_cons (ps_set (i := 3) nd rfl (Or.inl rfl) (pe_ifExp (pt_cmpR op_eq (pv 2) pe_str (nomark _)) (pe_callB (cr_min rfl) rfl B.min b_min (pa_cons (pe_lst (pa_cons (pv 3) (pa_cons pe_int pa_nil))) pa_nil)) (pv 3)))
        (pss_cons (ps_set (i := 5) nd rfl (Or.inl rfl) (pe_op op_mod (pe_callTy call_int1 rfl B.int b_int (pa_cons (pe_ix ix_list (pv 0) (pe_op op_add (pv 1) pe_int) (fun _ _ => rfl)) pa_nil))
            (pe_ix ix_list (pe_lst (pa_cons pe_int (pa_cons pe_int (pa_cons pe_int (pa_cons pe_int (pa_cons pe_int pa_nil)))))) (pe_op op_mod (pe_callTy call_int1 rfl B.int b_int (pa_cons (pe_ix ix_list (pv 0) (pe_op op_add (pv 1) pe_int) (fun _ _ => rfl)) pa_nil)) pe_int) (fun _ _ => rfl))))
        (pss_cons (ps_set (i := 4) nd rfl (Or.inl rfl) (pe_op op_mul (pv 3) (pv 5)))
        (pss_cons (ps_if (pt_cmpR op_ne (pv 2) pe_str (nomark _)) (pss_one (ps_set (i := 4) nd rfl (Or.inl rfl) (pe_ifExp (pt_cmpR op_eq (pv 2) pe_str (nomark _)) (C8.pe_c c hr (by decide) rfl (pa_cons (pv 5) (pa_cons (pv 3) pa_nil))) (C8.pe_c c hr (by decide) rfl (pa_cons (pv 3) (pa_cons (pv 5) pa_nil)))))) pss_nil)
        (pss_one (ps_set (i := 4) nd rfl (Or.inl rfl) (pe_op op_add (pv 4) (pe_ix ix_list (pe_lst (pa_cons (pe_un un_neg pe_int) (pa_cons pe_int (pa_cons pe_int (pa_cons pe_int pa_nil))))) (pe_op op_mod (pe_op op_fdiv (pe_callTy call_int1 rfl B.int b_int (pa_cons (pe_ix ix_list (pv 0) (pe_op op_add (pv 1) pe_int) (fun _ _ => rfl)) pa_nil)) pe_int) pe_int) (fun _ _ => rfl)))))))))
        pss_nil)
      (pss_one (ps_ret (pe_tup (pa_cons (pv 2) (pa_cons (pv 3) (pa_cons (pe_callB (cr_max rfl) rfl B.max b_max (pa_cons (pe_lst (pa_cons (pv 4) (pa_cons (pe_callTy call_int1 rfl B.int b_int (pa_cons (pe_cmpR op_eq (pv 2) pe_str (nomark _)) pa_nil)) pa_nil))) pa_nil)) pa_nil))))))))))), ?_⟩
    have ds : ∀ {k k' : Str}, decide (V.str k = V.str k') = decide (k = k') := fun {k k'} => dec_vstr k k'
    -- kind
    refine seq_any (fun σ' H' => ∃ k : Str, σ' = [some (.ref l), some (.int 0), some (.str k), none, none, none] ∧ (k = "root" ∨ k = "share" ∨ k = "log") ∧ Same H H') (fun D' d => ?_) ?_
    · obtain ⟨r, er⟩ := at_row ok 0 (by decide) (by decide)
      obtain ⟨v, hv, ev⟩ := pick (xs := [V.str "root", .str "share", .str "log"]) (em_lt r (m := 3) (by decide)).1 (em_lt r (m := 3) (by decide)).2
      obtain ⟨k, rfl, hk⟩ : ∃ k : Str, v = .str k ∧ (k = "root" ∨ k = "share" ∨ k = "log") := by
        simp only [List.mem_cons, List.not_mem_nil, or_false] at hv
        rcases hv with rfl | rfl | rfl
        · exact ⟨_, rfl, .inl rfl⟩
        · exact ⟨_, rfl, .inr (.inl rfl)⟩
        · exact ⟨_, rfl, .inr (.inr rfl)⟩
      exact ⟨by show 3 ≤ sizeLine; decide, fun p hp => ⟨_, rfl, _, rfl, l, _, _, _, rfl, rfl, SqL.of (same_new hp _ _ hl), er, .inl ⟨r, rfl, _, _, rfl, rfl, by show (0 : Int) < 3; decide, p, _, _, _, rfl, rfl, SqL.of upd_same, ev, d _ _ ⟨k, rfl, hk, same_new hp⟩⟩⟩⟩
    rintro _ H1 ⟨k, rfl, hk, s1⟩
    have hl1 := s1 _ _ hl
    -- by
    refine seq_any (fun σ' H' => ∃ b : Nat, σ' = [some (.ref l), some (.int 0), some (.str k), some (.int b), none, none] ∧ (1 ≤ b ∧ b ≤ 64) ∧ Same H1 H') (fun D' d => ?_) ?_
    · obtain ⟨r, er⟩ := at_row ok (0 + 1) (by decide) (by decide)
      obtain ⟨v, hv, ev⟩ := pick (xs := [V.int 1, .int 2, .int 3, .int 4, .int 5, .int 7, .int 10, .int 64]) (em_lt r (m := 8) (by decide)).1 (em_lt r (m := 8) (by decide)).2
      obtain ⟨b, rfl, hb⟩ : ∃ b : Nat, v = .int b ∧ 1 ≤ b ∧ b ≤ 64 := by
        simp only [List.mem_cons, List.not_mem_nil, or_false] at hv
        rcases hv with rfl | rfl | rfl | rfl | rfl | rfl | rfl | rfl
        · exact ⟨1, rfl, by decide, by decide⟩
        · exact ⟨2, rfl, by decide, by decide⟩
        · exact ⟨3, rfl, by decide, by decide⟩
        · exact ⟨4, rfl, by decide, by decide⟩
        · exact ⟨5, rfl, by decide, by decide⟩
        · exact ⟨7, rfl, by decide, by decide⟩
        · exact ⟨10, rfl, by decide, by decide⟩
        · exact ⟨64, rfl, by decide, by decide⟩
      exact ⟨by show 8 ≤ sizeLine; decide, fun p hp => ⟨_, rfl, _, rfl, _, _, rfl, rfl, l, _, _, _, rfl, rfl, SqL.of (same_new hp _ _ hl1), er, .inl ⟨r, rfl, _, _, rfl, rfl, by show (0 : Int) < 8; decide, p, _, _, _, rfl, rfl, SqL.of upd_same, ev, d _ _ ⟨b, rfl, hb, same_new hp⟩⟩⟩⟩
    rintro _ H2 ⟨b, rfl, hb, s2⟩
    have hl2 := s2 _ _ hl1
    refine seq_any (fun σ' H' => ∃ b : Nat, σ' = [some (.ref l), some (.int 0), some (.str k), some (.int b), none, none] ∧ (1 ≤ b ∧ b ≤ 64) ∧ Same H2 H') (fun D' d => ?_) ?_
    · obtain ⟨r, er⟩ := at_row ok (0 + 1) (by decide) (by decide)
      refine ⟨_, rfl, _, rfl, _, _, rfl, rfl, l, _, _, _, rfl, rfl, SqL.of hl2, er, .inl ⟨r, rfl, _, _, rfl, rfl, by show (0 : Int) < 16; decide, _, _, rfl, rfl, _, rfl, ite2 (fun _ => ?_) (fun _ => d _ _ ⟨b, rfl, hb, fun _ _ e => e⟩)⟩⟩
      obtain ⟨r2, er2⟩ := at_row ok (0 + 2) (by decide) (by decide)
      have z := em_lt r2 (m := 64) (by decide)
      refine ⟨_, rfl, _, rfl, _, _, rfl, rfl, l, _, _, _, rfl, rfl, SqL.of hl2, er2, .inl ⟨r2, rfl, _, _, rfl, rfl, by show (0 : Int) < 64; decide, _, _, rfl, rfl, d _ _ ⟨(1 + r2 % 64).toNat, ?_, by omega, fun _ _ e => e⟩⟩⟩
      rw [Int.toNat_of_nonneg (by omega)]
      rfl
    rintro _ H3 ⟨b, rfl, hb, s3⟩
    have hl3 := s3 _ _ hl2
    refine seq_any (fun σ' H' => ∃ b : Nat, σ' = [some (.ref l), some (.int 0), some (.str k), some (.int b), none, none] ∧ (1 ≤ b ∧ b ≤ 64) ∧ (k = "log" → 2 ≤ b) ∧ Same H3 H') (fun D' d => ?_) ?_
    · refine ⟨_, rfl, _, rfl, rfl, .inr ⟨_, rfl, _, _, rfl, rfl, by show 2 ≤ sizeLine; decide, fun p hp => ⟨p, [(b : Int), 1 + (if decide (V.str k = V.str "log") then 1 else 0)], rfl, SqL.of upd_same, by show 0 < 2; decide, fun m m1 m2 => ?_⟩⟩⟩
      rw [ds] at m1 m2
      have m3 := m2 b (by simp)
      have m4 := m2 (1 + (if decide (k = "log") then 1 else 0)) (by simp)
      have m5 : m = b ∨ m = 1 + (if decide (k = "log") then 1 else 0) := by simpa using m1
      have m6 : (if decide (k = "log") = true then (1 : Int) else 0) ≤ 1 := by split <;> decide
      refine d _ _ ⟨m.toNat, ?_, by omega, fun z => ?_, same_new hp⟩
      · rw [Int.toNat_of_nonneg (by omega)]
        rfl
      · rw [decide_eq_true z, if_pos rfl] at m4
        omega
    rintro _ H4 ⟨b, rfl, hb, hb2, s4⟩
    have hl4 := s4 _ _ hl3
    -- n
    refine seq_any (fun σ' H' => ∃ n : Int, σ' = [some (.ref l), some (.int 0), some (.str k), some (.int b), some (.int n), none] ∧ (0 ≤ n ∧ n < 1000 ^ 13) ∧ Same H4 H') (fun D' d => ?_) ?_
    · obtain ⟨r, er⟩ := at_row ok (0 + 4) (by decide) (by decide)
      obtain ⟨v, hv, ev⟩ := pick (xs := [V.int 1, .int 1, .int 2, .int 3, .int 4, .int 6, .int 9, .int 13]) (em_lt r (m := 8) (by decide)).1 (em_lt r (m := 8) (by decide)).2
      obtain ⟨mn, rfl, hmn, hmp⟩ : ∃ m : Nat, v = .int m ∧ 8 + m ≤ 60 ∧ (1000 : Int) ^ m ≤ 1000 ^ 13 := by
        simp only [List.mem_cons, List.not_mem_nil, or_false] at hv
        rcases hv with rfl | rfl | rfl | rfl | rfl | rfl | rfl | rfl
        · exact ⟨1, rfl, by decide, by decide⟩
        · exact ⟨1, rfl, by decide, by decide⟩
        · exact ⟨2, rfl, by decide, by decide⟩
        · exact ⟨3, rfl, by decide, by decide⟩
        · exact ⟨4, rfl, by decide, by decide⟩
        · exact ⟨6, rfl, by decide, by decide⟩
        · exact ⟨9, rfl, by decide, by decide⟩
        · exact ⟨13, rfl, by decide, by decide⟩
      exact ⟨_, rfl, _, rfl, _, _, rfl, rfl, by show 8 ≤ sizeLine; decide, fun p hp => ⟨_, rfl, _, rfl, _, _, rfl, rfl, l, _, _, _, rfl, rfl, SqL.of (same_new hp _ _ hl4), er, .inl ⟨r, rfl, _, _, rfl, rfl, by show (0 : Int) < 8; decide, p, _, _, _, rfl, rfl, SqL.of upd_same, ev,
        l, R, 8, mn, rfl, same_new hp _ _ hl4, ok, hmn, fun n h0 h1 => d _ _ ⟨n, rfl, ⟨h0, Int.lt_of_lt_of_le h1 hmp⟩, same_new hp⟩⟩⟩⟩
    rintro _ H5 ⟨n, rfl, hn, s5⟩
    have hl5 := s5 _ _ hl4
    refine seq_any (fun σ' H' => ∃ (b : Nat) (n : Int) (xs : Option V), σ' = [some (.ref l), some (.int 0), some (.str k), some (.int b), some (.int n), xs] ∧ (1 ≤ b ∧ b ≤ 64) ∧ (k = "log" → 2 ≤ b) ∧ (-1 ≤ n ∧ (k ≠ "log" → n < 2 ^ 140) ∧ (k = "log" → n < 2 ^ 600)) ∧ Same H5 H') (fun D' d => ?_) ?_
    · obtain ⟨r5, er5⟩ := at_row ok (0 + 5) (by decide) (by decide)
      obtain ⟨r6, er6⟩ := at_row ok (0 + 6) (by decide) (by decide)
      obtain ⟨r7, er7⟩ := at_row ok (0 + 7) (by decide) (by decide)
      refine ⟨_, rfl, _, rfl, _, _, rfl, rfl, l, _, _, _, rfl, rfl, SqL.of hl5, er5, .inl ⟨r5, rfl, _, _, rfl, rfl, by show (0 : Int) < 2; decide, rfl, _, rfl, ite2 (fun _ => ?_) (fun _ => d _ _ ⟨b, n, none, rfl, hb, hb2, ⟨by omega, fun _ => by omega, fun _ => by omega⟩, fun _ _ e => e⟩)⟩⟩
      -- by
      refine seq_any (fun σ' H' => ∃ b : Nat, σ' = [some (.ref l), some (.int 0), some (.str k), some (.int b), some (.int n), none] ∧ (1 ≤ b ∧ b ≤ 64) ∧ (k = "log" → 2 ≤ b) ∧ (k = "root" → b ≤ 9) ∧ Same H5 H') (fun D' d => ?_) ?_
      · refine ⟨_, rfl, rfl, _, rfl, ?_⟩
        rw [ds]
        by_cases hr' : k = "root"
        · rw [decide_eq_true hr']
          refine iteT ⟨_, rfl, by show 2 ≤ sizeLine; decide, fun p hp => ⟨p, [(b : Int), 9], rfl, SqL.of upd_same, by show 0 < 2; decide, fun m m1 m2 => ?_⟩⟩
          have m3 := m2 b (by simp)
          have m4 := m2 9 (by simp)
          have m5 : m = b ∨ m = 9 := by simpa using m1
          refine d _ _ ⟨m.toNat, ?_, by omega, fun z => ?_, fun _ => by omega, same_new hp⟩
          · rw [Int.toNat_of_nonneg (by omega)]
            rfl
          · rw [hr'] at z
            exact absurd z (by decide +kernel)
        · rw [decide_eq_false hr']
          exact iteF ⟨_, rfl, d _ _ ⟨b, rfl, hb, hb2, fun z => absurd z hr', fun _ _ e => e⟩⟩
      rintro _ H6 ⟨b, rfl, hb, hb2, hb9, s6⟩
      have hl6 := s6 _ _ hl5
      -- x
      refine seq_any (fun σ' H' => ∃ x : Nat, σ' = [some (.ref l), some (.int 0), some (.str k), some (.int b), some (.int n), some (.int x)] ∧ x < 100 ∧ Same H6 H') (fun D' d => ?_) ?_
      · obtain ⟨v, hv, ev⟩ := pick (xs := [V.int 2, .int 4, .int 9, .int 30, .int 100]) (em_lt r7 (m := 5) (by decide)).1 (em_lt r7 (m := 5) (by decide)).2
        obtain ⟨m, rfl, m0, m1⟩ : ∃ m : Int, v = .int m ∧ 0 < m ∧ m ≤ 100 := by
          simp only [List.mem_cons, List.not_mem_nil, or_false] at hv
          rcases hv with rfl | rfl | rfl | rfl | rfl
          · exact ⟨2, rfl, by decide, by decide⟩
          · exact ⟨4, rfl, by decide, by decide⟩
          · exact ⟨9, rfl, by decide, by decide⟩
          · exact ⟨30, rfl, by decide, by decide⟩
          · exact ⟨100, rfl, by decide, by decide⟩
        have z := em_lt r6 m0
        refine ⟨_, rfl, _, rfl, _, _, rfl, rfl, l, _, _, _, rfl, rfl, SqL.of hl6, er6, .inl ⟨r6, rfl, by show 5 ≤ sizeLine; decide, fun p hp => ⟨_, rfl, _, rfl, _, _, rfl, rfl, l, _, _, _, rfl, rfl, SqL.of (same_new hp _ _ hl6), er7, .inl ⟨r7, rfl, _, _, rfl, rfl, by show (0 : Int) < 5; decide, p, _, _, _, rfl, rfl, SqL.of upd_same, ev, _, _, rfl, rfl, m0, d _ _ ⟨(r6 % m).toNat, ?_, by omega, same_new hp⟩⟩⟩⟩⟩
        rw [Int.toNat_of_nonneg z.1]
        rfl
      rintro _ H7 ⟨x, rfl, hx, s7⟩
      have hl7 := s7 _ _ hl6
      have bx : b * x ≤ 64 * 100 := Nat.mul_le_mul hb.2 (by omega)
      -- n
      refine seq_any (fun σ' H' => ∃ n : Nat, σ' = [some (.ref l), some (.int 0), some (.str k), some (.int b), some (.int n), some (.int x)] ∧ n < 10000 ∧ Same H7 H') (fun D' d => ?_) ?_
      · refine ⟨_, rfl, _, rfl, _, _, rfl, rfl, .inl ⟨by omega, by omega⟩, d _ _ ⟨b * x, ?_, by omega, fun _ _ e => e⟩⟩
        rw [Int.natCast_mul]
        rfl
      rintro _ H8 ⟨n, rfl, hn, s8⟩
      have hl8 := s8 _ _ hl7
      refine seq_any (fun σ' H' => ∃ n : Nat, σ' = [some (.ref l), some (.int 0), some (.str k), some (.int b), some (.int n), some (.int x)] ∧ (k ≠ "log" → n < 2 ^ 139) ∧ n < 2 ^ 599 ∧ Same H8 H') (fun D' d => ?_) ?_
      · refine ⟨_, rfl, rfl, _, rfl, ite2 (fun hsh => ⟨_, rfl, rfl, _, rfl, ?_⟩) (fun _ => d _ _ ⟨n, rfl, fun _ => by omega, by omega, fun _ _ e => e⟩)⟩
        rw [ds]
        by_cases hr' : k = "root"
        · rw [decide_eq_true hr']
          refine iteT ⟨_, rfl, _, rfl, x, b, 7, rfl, by rw [Int.natAbs_natCast]; omega, by decide, by omega, ?_⟩
          have y1 : x ^ b ≤ 100 ^ b := Nat.pow_le_pow_left (by omega) b
          have y2 : 100 ^ b ≤ 100 ^ 9 := Nat.pow_le_pow_right (by decide) (hb9 hr')
          have y3 : 100 ^ 9 < 2 ^ 139 := by decide
          have y4 : 100 ^ 9 < 2 ^ 599 := by decide
          refine d _ _ ⟨x ^ b, ?_, fun _ => by omega, by omega, fun _ _ e => e⟩
          rw [Int.natCast_pow]
          rfl
        · rw [decide_eq_false hr']
          refine iteF ⟨_, rfl, _, rfl, b, x, 7, rfl, by rw [Int.natAbs_natCast]; omega, by decide, by omega, ?_⟩
          have y1 : b ^ x ≤ 64 ^ x := Nat.pow_le_pow_left hb.2 x
          have y2 : 64 ^ x ≤ 64 ^ 99 := Nat.pow_le_pow_right (by decide) (by omega)
          have y4 : 64 ^ 99 < 2 ^ 599 := by decide
          have hlog : k = "log" := by
            rcases hk with z | z | z
            · exact absurd z hr'
            · rw [ds, z] at hsh
              simp at hsh
            · exact z
          refine d _ _ ⟨b ^ x, ?_, fun z => absurd hlog z, Nat.lt_of_le_of_lt (Nat.le_trans y1 y2) y4, fun _ _ e => e⟩
          rw [Int.natCast_pow]
          rfl
      rintro _ H9 ⟨n, rfl, hn1, hn2, s9⟩
      have hl9 := s9 _ _ hl8
      obtain ⟨v, hv, ev⟩ := pick (xs := [V.int (-1), .int 0, .int 0, .int 1]) (em_lt (r5 / 2) (m := 4) (by decide)).1 (em_lt (r5 / 2) (m := 4) (by decide)).2
      obtain ⟨m, rfl, m0, m1⟩ : ∃ m : Int, v = .int m ∧ -1 ≤ m ∧ m ≤ 1 := by
        simp only [List.mem_cons, List.not_mem_nil, or_false] at hv
        rcases hv with rfl | rfl | rfl | rfl
        · exact ⟨-1, rfl, by decide, by decide⟩
        · exact ⟨0, rfl, by decide, by decide⟩
        · exact ⟨0, rfl, by decide, by decide⟩
        · exact ⟨1, rfl, by decide, by decide⟩
      refine ⟨_, rfl, 1, rfl, by show 4 ≤ sizeLine; decide, fun p hp => ⟨_, rfl, _, rfl, _, _, rfl, rfl, l, _, _, _, rfl, rfl, SqL.of (same_new hp _ _ hl9), er5, .inl ⟨r5, rfl, _, _, rfl, rfl, ⟨by decide, by decide⟩, _, _, rfl, rfl, by show (0 : Int) < 4; decide, p, _, _, _, rfl, rfl, SqL.of upd_same, ev, _, _, rfl, rfl,
        d _ _ ⟨b, (n : Int) + m, some (.int x), rfl, hb, hb2, ⟨by omega, fun z => by have := hn1 z; omega, fun _ => by omega⟩, (((s6.trans s7).trans s8).trans s9).trans (same_new hp)⟩⟩⟩⟩
    rintro _ H6 ⟨b, n, xs, rfl, hb, hb2, hn, s6⟩
    refine ⟨_, rfl, _, rfl, _, rfl, _, rfl, rfl, .inr ⟨_, rfl, by show 2 ≤ sizeLine; decide, fun p hp => ⟨p, [n, (if decide (V.str k = V.str "log") then 1 else 0)], rfl, SqL.of upd_same, by show 0 < 2; decide, fun m m1 m2 => ⟨by show 3 ≤ sizeLine; decide, fun t ht => ?_⟩⟩⟩⟩
    rw [ds] at m1 m2
    have m3 := m2 n (by simp)
    have m4 := m2 (if decide (k = "log") then 1 else 0) (by simp)
    have m5 : m = n ∨ m = (if decide (k = "log") then 1 else 0) := by simpa using m1
    have m6 : (if decide (k = "log") = true then (1 : Int) else 0) ≤ 1 ∧ 0 ≤ (if decide (k = "log") = true then (1 : Int) else 0) := by split <;> decide
    refine q ⟨k, b, m⟩ _ t ⟨⟨hk, hb.1, hb.2, by show 0 ≤ m; omega, fun z => ⟨hb2 z, ?_⟩⟩, fun z => ?_, fun z => ?_⟩ (((((((s1.trans s2).trans s3).trans s4).trans s5).trans s6).trans (same_new hp)).trans (same_new ht)) upd_same
    · rw [decide_eq_true z, if_pos rfl] at m4
      exact m4
    · show m < 2 ^ 140
      have := hn.2.1 z
      omega
    · show m < 2 ^ 600
      have := hn.2.2 z
      omega

/-! _law_sought -/
abbrev sLSought : Stmt := top 42
theorem sc_lsought : FnScope ["_law_sought_here"] ["_law_sought_here"] (C8.fnScope sLSought) := C8.fnScope_by (by decide +kernel)
def spLSought (CT : Addr) : Sp := fun vs H Q _ => ∃ (a : Addr) (S : Sg), vs = [.ref a] ∧ H a = some (.tup (sgV S)) ∧ SgOk S ∧ ∀ (H' : Hp) (s dx : Addr), Same H H' → H' s = some (.ins CT dx (sgF S)) → Q (.ref s) H'
theorem lsought_ok {CT : Addr} (D : Dfn K mg "_law_sought" sLSought ["_law_sought_here"]) (c : C8.Mak P w K mg base 4 "Sought" CT (spSoughtInit CT) []) : C8.Cal P w K mg base 6 "_law_sought" (spLSought CT) [] := by
  refine cal_of D sc_lsought (fun vs H Q E h => ?_) (fun f cdv A outer s H vs Q E hr h => ?_)
  · obtain ⟨a, S, rfl, _⟩ := h
    rfl
  · obtain ⟨a, S, rfl, ha, ok, q⟩ := h
    refine ⟨_, pss_one (ps_ret (C8.pe_mk c hr (by decide) rfl (pa_cons (pe_ix ix_tup (pv 0) pe_int (fun _ _ => rfl)) (pa_cons (pe_ix ix_tup (pv 0) pe_int (fun _ _ => rfl)) (pa_cons (pe_ix ix_tup (pv 0) pe_int (fun _ _ => rfl)) pa_nil))))), ?_⟩
    refine ⟨_, rfl, a, _, _, _, rfl, rfl, SqT.of ha, rfl, _, rfl, a, _, _, _, rfl, rfl, SqT.of ha, rfl, _, rfl, a, _, _, _, rfl, rfl, SqT.of ha, rfl, fun s dx ns nd ne => ?_⟩
    refine ⟨s, dx, S, rfl, ok, upd_same, fun H6 k6 e6 => ⟨rfl, q H6 s dx (fun b o e => ?_) e6⟩⟩
    refine k6 b o ?_ (ne_of_none e ns)
    rw [upd_ne (ne_of_none e ns), upd_ne (ne_of_none e nd)]
    exact e

/-! _law_drawn_steps -/
abbrev sDSteps : Stmt := top 44
theorem sc_dsteps : FnScope ["_law_row_here", "_law_at", "_law_test", "_law_parts"] ["_law_row_here", "_law_at"] (C8.fnScope sDSteps) := C8.fnScope_by (by decide +kernel)
/-- the steps are of the loops that are drawn -/
def spDSteps : Sp := fun vs H Q _ => ∃ (l : Addr) (R : List Int), vs = [.ref l, .int 52] ∧ H l = some (.lst (R.map V.int)) ∧ RowOk R ∧ ∀ (L : Lp) (H' : Hp) (a : Addr), LpOk L → Same H H' → H' a = some (.lst L.vs) → Q (.ref a) H'
theorem dsteps_ok (D : Dfn K mg "_law_drawn_steps" sDSteps ["_law_row_here", "_law_at"]) (B : Blt mg) : C8.Cal P w K mg base 1 "_law_drawn_steps" spDSteps [] := by
  refine cal_of D sc_dsteps (fun vs H Q E h => ?_) (fun f cdv A outer s H vs Q E hr h => ?_)
  · obtain ⟨l, R, rfl, _⟩ := h
    rfl
  · obtain ⟨l, R, rfl, hl, ok, q⟩ := h
    have nd := sc_dsteps.nd
    refine ⟨_, pss_cons (ps_set (i := 2) nd rfl (Or.inl rfl) (pe_ix ix_list (pe_lst (pa_cons pe_str (pa_cons pe_str (pa_cons pe_str pa_nil)))) (pe_op op_mod (pe_callTy call_int1 rfl B.int b_int (pa_cons (pe_ix ix_list (pv 0) (pv 1) (fun _ _ => rfl)) pa_nil)) pe_int) (fun _ _ => rfl)))
      (pss_cons (ps_set (i := 3) nd rfl (Or.inl rfl) (pe_lst (pa_cons (pv 2) (pa_cons (pe_ix ix_list (pe_lst (pa_cons pe_str (pa_cons pe_str (pa_cons pe_str pa_nil)))) (pe_op op_mod (pe_callTy call_int1 rfl B.int b_int (pa_cons (pe_ix ix_list (pv 0) (pe_op op_add (pv 1) pe_int) (fun _ _ => rfl)) pa_nil)) pe_int) (fun _ _ => rfl))
        (pa_cons (pe_op op_add pe_int (pe_callTy call_int1 rfl B.int b_int (pa_cons (pe_cmpR op_eq (pe_op op_mod (pe_callTy call_int1 rfl B.int b_int (pa_cons (pe_ix ix_list (pv 0) (pe_op op_add (pv 1) pe_int) (fun _ _ => rfl)) pa_nil)) pe_int) pe_int (nomark _)) pa_nil))) pa_nil)))))
      (pss_one (ps_ret (pe_op op_cat (pv 3) (pe_lst (pa_cons (pe_ix ix_list (pe_lst (pa_cons pe_int (pa_cons pe_int (pa_cons pe_int (pa_cons (pe_un un_neg pe_int) pa_nil))))) (pe_op op_mod (pe_callTy call_int1 rfl B.int b_int (pa_cons (pe_ix ix_list (pv 0) (pe_op op_add (pv 1) pe_int) (fun _ _ => rfl)) pa_nil)) pe_int) (fun _ _ => rfl)) pa_nil)))))), ?_⟩
    -- test
    refine seq_any (fun σ' H' => ∃ t : Str, σ' = [some (.ref l), some (.int 52), some (.str t), none] ∧ (t = "upto" ∨ t = "below") ∧ Same H H') (fun D' d => ?_) ?_
    · obtain ⟨r, er⟩ := at_row ok 52 (by decide) (by decide)
      obtain ⟨v, hv, ev⟩ := pick (xs := [V.str "upto", .str "upto", .str "below"]) (em_lt r (m := 3) (by decide)).1 (em_lt r (m := 3) (by decide)).2
      obtain ⟨k, rfl, hk⟩ : ∃ k : Str, v = .str k ∧ (k = "upto" ∨ k = "below") := by
        simp only [List.mem_cons, List.not_mem_nil, or_false] at hv
        rcases hv with rfl | rfl | rfl
        · exact ⟨_, rfl, .inl rfl⟩
        · exact ⟨_, rfl, .inl rfl⟩
        · exact ⟨_, rfl, .inr rfl⟩
      exact ⟨by show 3 ≤ sizeLine; decide, fun p hp => ⟨_, rfl, _, rfl, l, _, _, _, rfl, rfl, SqL.of (same_new hp _ _ hl), er, .inl ⟨r, rfl, _, _, rfl, rfl, by show (0 : Int) < 3; decide, p, _, _, _, rfl, rfl, SqL.of upd_same, ev, d _ _ ⟨k, rfl, hk, same_new hp⟩⟩⟩⟩
    rintro _ H1 ⟨t, rfl, ht, s1⟩
    have hl1 := s1 _ _ hl
    -- parts
    refine seq_any (fun σ' H' => ∃ (af : Str) (la : Int) (p : Addr), σ' = [some (.ref l), some (.int 52), some (.str t), some (.ref p)] ∧ H' p = some (.lst [.str t, .str af, .int la]) ∧ (af = "half" ∨ af = "same" ∨ af = "double") ∧ (la = 1 ∨ la = 2) ∧ Same H1 H') (fun D' d => ?_) ?_
    · obtain ⟨r, er⟩ := at_row ok (52 + 1) (by decide) (by decide)
      obtain ⟨r2, er2⟩ := at_row ok (52 + 2) (by decide) (by decide)
      obtain ⟨v, hv, ev⟩ := pick (xs := [V.str "half", .str "same", .str "double"]) (em_lt r (m := 3) (by decide)).1 (em_lt r (m := 3) (by decide)).2
      obtain ⟨k, rfl, hk⟩ : ∃ k : Str, v = .str k ∧ (k = "half" ∨ k = "same" ∨ k = "double") := by
        simp only [List.mem_cons, List.not_mem_nil, or_false] at hv
        rcases hv with rfl | rfl | rfl
        · exact ⟨_, rfl, .inl rfl⟩
        · exact ⟨_, rfl, .inr (.inl rfl)⟩
        · exact ⟨_, rfl, .inr (.inr rfl)⟩
      refine ⟨_, rfl, by show 3 ≤ sizeLine; decide, fun p hp => ⟨_, rfl, _, rfl, _, _, rfl, rfl, l, _, _, _, rfl, rfl, SqL.of (same_new hp _ _ hl1), er, .inl ⟨r, rfl, _, _, rfl, rfl, by show (0 : Int) < 3; decide, p, _, _, _, rfl, rfl, SqL.of upd_same, ev,
        _, rfl, _, rfl, _, _, rfl, rfl, l, _, _, _, rfl, rfl, SqL.of (same_new hp _ _ hl1), er2, .inl ⟨r2, rfl, _, _, rfl, rfl, by show (0 : Int) < 3; decide, rfl, .inr ⟨_, rfl, _, _, rfl, rfl, by show 3 ≤ sizeLine; decide, fun p2 hp2 => d _ _ ⟨k, _, p2, rfl, upd_same, hk, ?_, (same_new hp).trans (same_new hp2)⟩⟩⟩⟩⟩⟩
      split
      · exact .inr rfl
      · exact .inl rfl
    rintro _ H2 ⟨af, la, p, rfl, hp, haf, hla, s2⟩
    have hl2 := s2 _ _ hl1
    obtain ⟨r, er⟩ := at_row ok (52 + 3) (by decide) (by decide)
    obtain ⟨v, hv, ev⟩ := pick (xs := [V.int 0, .int 0, .int 1, .int (-1)]) (em_lt r (m := 4) (by decide)).1 (em_lt r (m := 4) (by decide)).2
    obtain ⟨pl, rfl, hpl⟩ : ∃ m : Int, v = .int m ∧ (m = -1 ∨ m = 0 ∨ m = 1) := by
      simp only [List.mem_cons, List.not_mem_nil, or_false] at hv
      rcases hv with rfl | rfl | rfl | rfl
      · exact ⟨_, rfl, .inr (.inl rfl)⟩
      · exact ⟨_, rfl, .inr (.inl rfl)⟩
      · exact ⟨_, rfl, .inr (.inr rfl)⟩
      · exact ⟨_, rfl, .inl rfl⟩
    refine ⟨_, rfl, 1, rfl, by show 4 ≤ sizeLine; decide, fun p2 hp2 => ⟨_, rfl, _, rfl, _, _, rfl, rfl, l, _, _, _, rfl, rfl, SqL.of (same_new hp2 _ _ hl2), er, .inl ⟨r, rfl, _, _, rfl, rfl, by show (0 : Int) < 4; decide, p2, _, _, _, rfl, rfl, SqL.of upd_same, ev,
      by show 1 ≤ sizeLine; decide, fun p3 hp3 => ⟨p, p3, _, _, rfl, rfl, same_new hp3 _ _ (same_new hp2 _ _ hp), upd_same, by show 3 + 1 ≤ sizeLine; decide, fun p4 hp4 => ?_⟩⟩⟩⟩
    exact q ⟨t, af, la, pl⟩ _ p4 ⟨ht, haf, hla, hpl⟩ ((((s1.trans s2).trans (same_new hp2)).trans (same_new hp3)).trans (same_new hp4)) upd_same

/-! _law_steps -/
abbrev sLSteps : Stmt := top 45
theorem sc_lsteps : FnScope ["_law_parts"] ["_law_parts"] (C8.fnScope sLSteps) := C8.fnScope_by (by decide +kernel)
def spLSteps (CS : Addr) : Sp := fun vs H Q _ => ∃ (a : Addr) (L : Lp), vs = [.ref a] ∧ H a = some (.lst L.vs) ∧ LpOk L ∧ ∀ (H' : Hp) (s dx : Addr), Same H H' → H' s = some (.ins CS dx (stF L)) → Q (.ref s) H'
theorem lsteps_ok {CS : Addr} (D : Dfn K mg "_law_steps" sLSteps ["_law_parts"]) (c : C8.Mak P w K mg base 4 "Steps" CS (spStepsInit CS) []) : C8.Cal P w K mg base 6 "_law_steps" (spLSteps CS) [] := by
  refine cal_of D sc_lsteps (fun vs H Q E h => ?_) (fun f cdv A outer s H vs Q E hr h => ?_)
  · obtain ⟨a, S, rfl, _⟩ := h
    rfl
  · obtain ⟨a, L, rfl, ha, ok, q⟩ := h
    refine ⟨_, pss_one (ps_ret (C8.pe_mk c hr (by decide) rfl (pa_cons (pe_ix ix_list (pv 0) pe_int (fun _ _ => rfl)) (pa_cons (pe_ix ix_list (pv 0) pe_int (fun _ _ => rfl)) (pa_cons (pe_ix ix_list (pv 0) pe_int (fun _ _ => rfl)) (pa_cons (pe_ix ix_list (pv 0) pe_int (fun _ _ => rfl)) pa_nil)))))), ?_⟩
    refine ⟨_, rfl, a, _, _, _, rfl, rfl, SqL.of ha, rfl, _, rfl, a, _, _, _, rfl, rfl, SqL.of ha, rfl, _, rfl, a, _, _, _, rfl, rfl, SqL.of ha, rfl, _, rfl, a, _, _, _, rfl, rfl, SqL.of ha, rfl, fun s dx ns nd ne => ?_⟩
    refine ⟨s, dx, L, rfl, ok, upd_same, fun H6 k6 e6 => ⟨rfl, q H6 s dx (fun b o e => ?_) e6⟩⟩
    refine k6 b o ?_ (ne_of_none e ns)
    rw [upd_ne (ne_of_none e ns), upd_ne (ne_of_none e nd)]
    exact e
end
end T47

/-! _law_climb. -/
namespace T47
open PySem PySem.Spec PyProof.Rows L2 G47 M47

theorem go_iff {L : Lp} {a y : Int} {hit : Bool} : L.go (cmpSide a hit) y = true ↔ (y < a ∨ (y = a ∧ (L.test = "upto" ∨ hit = false))) := by
  unfold Lp.go cmpSide
  by_cases h1 : a < y
  · rw [if_pos h1]
    constructor
    · intro h; simp at h
    · rintro (h | ⟨h, _⟩) <;> omega
  · rw [if_neg h1]
    by_cases h2 : y = a
    · cases hit with
      | true =>
        rw [if_pos ⟨h2, rfl⟩]
        simp
        constructor
        · intro h; exact .inr ⟨h2, h⟩
        · rintro (h | ⟨_, h⟩)
          · omega
          · exact h
      | false =>
        rw [if_neg (fun z => by simp at z)]
        simp
        exact .inr h2
    · rw [if_neg (fun z => h2 z.1)]
      simp
      exact .inl (by omega)
theorem disp3 (k : Str) (hk : k = "half" ∨ k = "same" ∨ k = "double") (a b c : V) : valV (mergeK [] [((.inr "half" : Key), a), (.inr "same", b), (.inr "double", c)]) (.inr k) = some (if decide (k = "half") then a else if decide (k = "same") then b else c) := by
  have e : mergeK [] [((.inr "half" : Key), a), (.inr "same", b), (.inr "double", c)] = [((.inr "half" : Key), a), (.inr "same", b), (.inr "double", c)] := by
    have e1 : decide ((.inr "half" : Key) = .inr "same") = false := by decide +kernel
    have e2 : decide ((.inr "half" : Key) = .inr "double") = false := by decide +kernel
    have e3 : decide ((.inr "same" : Key) = .inr "double") = false := by decide +kernel
    unfold mergeK
    simp only [List.foldl_cons, List.foldl_nil]
    unfold putK
    simp only [List.any_nil, List.nil_append, List.any_cons, e1, e2, e3, Bool.or_false, Bool.false_eq_true, if_false, List.cons_append]
  rw [e]
  rcases hk with rfl | rfl | rfl
  · rw [valV_pos rfl, decide_eq_true rfl, if_pos rfl]
  · rw [valV_neg (show ¬ (Sum.inr "half" : Key) = .inr "same" from by decide +kernel), valV_pos rfl, if_neg (by decide +kernel), decide_eq_true rfl, if_pos rfl]
  · rw [valV_neg (show ¬ (Sum.inr "half" : Key) = .inr "double" from by decide +kernel), valV_neg (show ¬ (Sum.inr "same" : Key) = .inr "double" from by decide +kernel), valV_pos rfl, if_neg (by decide +kernel), if_neg (by decide +kernel)]

section
variable {P : Program} {w : World} {K : PySem.W.Frag} {mg : Str → Option Value} {base : Heap}
abbrev sClimb : Stmt := top 46
theorem sc_climb : FnScope ["_law_parts", "_law_x", "_law_p", "_law_answer_here", "_law_hit", "_law_test", "_law_after", "_law_last", "_law_more", "_law_places"] ["_law_parts", "_law_x", "_law_p", "_law_answer_here", "_law_hit"] (C8.fnScope sClimb) := C8.fnScope_by (by decide +kernel)
def spClimb : Sp := fun vs H Q _ => ∃ (a : Addr) (L : Lp) (x p an : Int) (hit : Bool), vs = [.ref a, .int x, .int p, .int an, .bl hit] ∧ H a = some (.lst L.vs) ∧ LpOk L ∧ x ≤ an ∧ 0 ≤ p ∧ 4 * (an - x) + p ≤ 1000000 ∧
  ∀ (t : Int) (H' : Hp) (r tp : Addr), L.climb (L.go (cmpSide an hit)) x p t → Same H H' → H' r = some (.tup [.ref tp, .int (t + L.plus)]) → Q (.ref r) H'
theorem climb_okL (D : Dfn K mg "_law_climb" sClimb ["_law_parts", "_law_x", "_law_p", "_law_answer_here", "_law_hit"]) (B : Blt mg) : C8.Cal P w K mg base 1 "_law_climb" spClimb [] := by
  refine cal_of D sc_climb (fun vs H Q E h => ?_) (fun f cdv A outer s H vs Q E hr h => ?_)
  · obtain ⟨a, L, x, p, an, hit, rfl, _⟩ := h
    rfl
  · obtain ⟨a, L, x, p, an, hit, rfl, ha, ok, hx, hp, hsz, q⟩ := h
    have nd := sc_climb.nd
    refine ⟨_, pss_cons (ps_asg (pv 0) (pg_unl rfl (pgs_cons (pg_name (i := 5) nd rfl (Or.inl rfl)) (pgs_cons (pg_name (i := 6) nd rfl (Or.inl rfl)) (pgs_cons (pg_name (i := 7) nd rfl (Or.inl rfl)) (pgs_cons (pg_name (i := 8) nd rfl (Or.inl rfl)) pgs_nil))))))
      (pss_cons (ps_set (i := 9) nd rfl (Or.inl rfl) (pe_lst pa_nil))
      (pss_cons (ps_while PassesOwn.never (pt_cmpR op_ge (pv 2) (pv 7) (nomark _))
        (pss_cons (ps_expr (pe_bm PySem.F.plainAttrs_list PySem.F.slot_list_append PySem.F.type_list_append mt_append (pv 9) (pa_cons (pe_tup (pa_cons (pv 1) (pa_cons (pv 2) pa_nil))) pa_nil)))
        (pss_one (ps_if (PW.pt (pw_or (pt_cmpR op_lt (pe_op op_add (pv 1) (pv 2)) (pv 3) (nomark _)) (pw_or1 (PW.pt (pw_and (pt_cmpR op_eq (pe_op op_add (pv 1) (pv 2)) (pv 3) (nomark _))
            (pw_and1 (PW.pt (pw_or (pt_cmpR op_eq (pv 5) pe_str (nomark _)) (pw_or1 (pt_not (pt_truth (pv 4) fun _ => rfl)))))))))))
          (pss_cons (ps_set (i := 1) nd rfl (Or.inl rfl) (pe_op op_add (pv 1) (pv 2)))
          (pss_one (ps_set (i := 2) nd rfl (Or.inl rfl) (pe_dget (Nat.lt_of_le_of_lt (Nat.add_le_add_left (show 1 ≤ 64 by decide) _) hr.units) (pe_disp (pps_cons pe_str (pe_op op_fdiv (pv 2) pe_int) (pps_cons pe_str (pv 2) (pps_cons pe_str (pe_op op_mul pe_int (pv 2)) pps_nil))) rfl rfl (by simp) (by decide)) (pv 6) (fun _ _ => rfl)))))
          (pss_one (ps_set (i := 2) nd rfl (Or.inl rfl) (pe_op op_fdiv (pv 2) pe_int)))))))
      (pss_one (ps_ret (pe_tup (pa_cons (pe_callTy call_tuple_of rfl B.tuple b_tuple (pa_cons (pv 9) pa_nil)) (pa_cons (pe_op op_add (pv 1) (pv 8)) pa_nil))))))), ?_⟩
    refine ⟨_, rfl, a, _, rfl, SqL.of ha, rfl, _, _, rfl, _, _, rfl, _, _, rfl, _, _, rfl, rfl, ?_⟩
    refine ⟨Nat.zero_le _, fun l hl0 => ?_⟩
    have hl : 1 ≤ L.last := by rcases ok.last with e | e <;> omega
    refine ⟨fun m σ H' => ∃ (x' p' : Int) (ps : List V), σ = [some (.ref a), some (.int x'), some (.int p'), some (.int an), some (.bl hit), some (.str L.test), some (.str L.after), some (.int L.last), some (.int L.plus), some (.ref l)] ∧ H' l = some (.lst ps) ∧ Same H H' ∧ x' ≤ an ∧ x ≤ x' ∧ 0 ≤ p' ∧ p' ≤ 2 * (an - x) + p ∧ m = size an x' p' ∧ ps.length + m ≤ size an x p ∧
      ∀ t, L.climb (L.go (cmpSide an hit)) x' p' t → L.climb (L.go (cmpSide an hit)) x p t, ⟨_, x, p, [], rfl, upd_same, same_new hl0, hx, Int.le_refl _, hp, by omega, rfl, by show 0 + _ ≤ _; omega, fun t z => z⟩, ?_⟩
    rintro m σ H1 ⟨x', p', ps, rfl, hl1, s1, hx1, hx2, hp1, hp2, hm, hlen, hcl⟩
    have hlen2 : ps.length < sizeLine := by
      have : size an x p ≤ 1000000 := by unfold size; omega
      rw [sizeLine_eq]
      omega
    refine ⟨_, rfl, _, rfl, _, _, rfl, rfl, _, rfl, ite2 (fun hge => ?_) (fun hge => ?_)⟩
    · have hge : L.last ≤ p' := of_decide_eq_true hge
      refine ⟨_, fun σ' H' z => z, ?_⟩
      refine ⟨_, rfl, .inl ⟨rfl, _, SqL.of hl1⟩, _, rfl, _, rfl, by show 2 ≤ sizeLine; decide, fun tq ntq => ?_⟩
      have hl2 : upd H1 tq (.tup [.int x', .int p']) l = some (.lst ps) := same_new ntq _ _ hl1
      refine ⟨l, ps, _, rfl, rfl, hl2, hlen2, ?_⟩
      have len5 : (ps ++ [V.ref tq]).length = ps.length + 1 := by rw [List.length_append]; rfl
      have upw := wAfter_le (h := L.half) (s := L.same) hp1
      have up2 : ∀ b o, H1 b = some o → b ≠ l → upd (upd H1 tq (.tup [.int x', .int p'])) l (.lst (ps ++ [.ref tq])) b = some o := fun b o e ne => by
        rw [upd_ne ne]
        exact same_new ntq _ _ e
      generalize hH5 : upd (upd H1 tq (.tup [.int x', .int p'])) l (.lst (ps ++ [.ref tq])) = H5 at up2 ⊢
      have hl5 : H5 l = some (.lst (ps ++ [.ref tq])) := by rw [← hH5]; exact upd_same
      have sm5 : Same H H5 := fun b o e => up2 _ _ (s1 _ _ e) (ne_of_none e hl0)
      dsimp only
      show tIfS _ _ _ _ _ _
      show tOr _ _ _ _ _
      refine cond_any (L.go (cmpSide an hit) (x' + p') = true) (fun Q' y n => ?_) (fun hgo => iteT ?_) (fun hgo => iteF ?_)
      · rw [go_iff] at y n
        refine ⟨_, rfl, _, rfl, _, _, rfl, rfl, _, rfl, _, _, rfl, rfl, _, rfl, ite2 (fun h => y (.inl (of_decide_eq_true h))) (fun h => ?_)⟩
        have h1 : ¬ x' + p' < an := fun z => h (decide_eq_true z)
        refine ⟨_, rfl, _, rfl, _, _, rfl, rfl, _, rfl, rfl, _, rfl, ite2 (fun h2 => ?_) (fun h2 => n fun z => ?_)⟩
        · have h3 : x' + p' = an := by
            have z := of_decide_eq_true h2
            injection z
          refine ⟨_, rfl, rfl, _, rfl, ite2 (fun h4 => y (.inr ⟨h3, .inl ?_⟩)) (fun h4 => ⟨_, rfl, hit, rfl, ?_⟩)⟩
          · rw [dec_vstr] at h4
            exact of_decide_eq_true h4
          · have h5 : ¬ L.test = "upto" := fun z => h4 (by rw [dec_vstr]; exact decide_eq_true z)
            cases hh : hit with
            | true =>
              refine n fun z => ?_
              rcases z with z | z
              · exact h1 z
              · rcases z.2 with z | z
                · exact h5 z
                · rw [hh] at z
                  cases z
            | false => exact y (.inr ⟨h3, .inr hh⟩)
        · rcases z with z | ⟨z, _⟩
          · exact h1 z
          · exact h2 (decide_eq_true (congrArg V.int z))
      · have z : x' + p' ≤ an := go_cmp hgo
        refine ⟨_, rfl, _, rfl, _, _, rfl, rfl, ?_⟩
        refine fun d nd' => ⟨_, rfl, _, _, rfl, rfl, ⟨by decide, by decide⟩, _, rfl, _, rfl, _, _, rfl, rfl, .inl ⟨by decide, by decide⟩, upd_same, [(.inr "half", .int (p' / 2)), (.inr "same", .int p'), (.inr "double", .int (2 * p'))], rfl, by show 3 ≤ 15; decide, _, rfl, d, .int (wAfter L.half L.same p'), rfl, ?_, ?_⟩
        · have e := disp3 L.after ok.after (.int (p' / 2)) (.int p') (.int (2 * p'))
          have e2 : (if decide (L.after = "half") = true then V.int (p' / 2) else if decide (L.after = "same") = true then .int p' else .int (2 * p')) = .int (wAfter L.half L.same p') := by
            unfold wAfter Lp.half Lp.same
            split
            · rfl
            · split <;> rfl
          rw [e2] at e
          have g := DGet.k (a := d) (k := (.inr L.after : Key)) (upd_same (H := upd H5 d (.dK [])) (a := d) (o := HO.dK (mergeK [] [((.inr "half" : Key), V.int (p' / 2)), (.inr "same", .int p'), (.inr "double", .int (2 * p'))])))
          rw [e] at g
          exact g
        · have nl : l ≠ d := ne_of_none hl5 nd'
          have up6 : ∀ b o, H5 b = some o → upd (upd H5 d (.dK [])) d (.dK (mergeK [] [((.inr "half" : Key), V.int (p' / 2)), (.inr "same", .int p'), (.inr "double", .int (2 * p'))])) b = some o := fun b o e => by
            rw [upd_ne (ne_of_none e nd'), upd_ne (ne_of_none e nd')]
            exact e
          refine ⟨size an (x' + p') (wAfter L.half L.same p'), ?_, x' + p', wAfter L.half L.same p', _, rfl, up6 _ _ hl5, fun b o e => up6 _ _ (sm5 _ _ e), z, by omega, upw.1, by omega, rfl, ?_, fun t r => hcl t (.up hge hgo r)⟩
          · rw [hm]; unfold size; omega
          · rw [len5]
            unfold size at hm hlen ⊢
            omega
      · refine ⟨_, rfl, _, _, rfl, rfl, ⟨by decide, by decide⟩, size an x' (p' / 2), ?_, x', p' / 2, _, rfl, hl5, sm5, hx1, hx2, by omega, by omega, rfl, ?_, fun t r => hcl t (.down hge (Bool.eq_false_iff.mpr hgo) r)⟩
        · rw [hm]; unfold size; omega
        · rw [len5]
          unfold size at hm hlen ⊢
          omega
    · have hge : ¬ L.last ≤ p' := fun z => hge (decide_eq_true z)
      refine ⟨_, rfl, l, ps, rfl, .inl ⟨SqL.of hl1, fun tq ntq => ?_⟩⟩
      refine ⟨_, rfl, _, rfl, _, _, rfl, rfl, by show 2 ≤ sizeLine; decide, fun r nr => ?_⟩
      exact q x' _ r tq (hcl _ (.stop hge)) ((s1.trans (same_new ntq)).trans (same_new nr)) upd_same
end
end T47

/-! _law_climbs. -/
namespace T47
open PySem PySem.Spec PyProof.Rows L2 G47 M47

abbrev Row := Int × Int × Bool
abbrev pw5 : List Nat := [1, 2, 4, 8, 16]
abbrev rows5 : List Row := rowsOf pw5
theorem rows5_take : rows6.take 124 = rows5 := by decide +kernel
theorem pow_pw : ∀ i < 5, 2 ^ i ∈ pw6 ∧ 2 ^ i ≤ 16 := by decide
/-- a row that is told: where its tuple stands, the row, what it tells -/
abbrev Ent := Addr × Row × Int
def entV (e : Ent) : List V := [.int e.2.1.1, .int e.2.1.2.1, .bl e.2.1.2.2, .int e.2.2]
structure EntsOk (L : Lp) (H : Hp) (es : List Ent) : Prop where
  at_ : ∀ e ∈ es, H e.1 = some (.tup (entV e))
  told : ∀ e ∈ es, ToldBy L e.2.1 e.2.2
theorem EntsOk.same {L : Lp} {H H' : Hp} {es : List Ent} (h : EntsOk L H es) (s : Same H H') : EntsOk L H' es := ⟨fun e he => s _ _ (h.at_ e he), h.told⟩
theorem EntsOk.lst {L : Lp} {H : Hp} {es : List Ent} {l : Addr} {xs ys : List V} (h : EntsOk L H es) (hl : H l = some (.lst xs)) : EntsOk L (upd H l (.lst ys)) es := ⟨fun e he => by
  have z := h.at_ e he
  rw [upd_ne fun q => by rw [q, hl] at z; cases z]
  exact z, h.told⟩
theorem EntsOk.snoc {L : Lp} {H : Hp} {es : List Ent} {e : Ent} (h : EntsOk L H es) (h1 : H e.1 = some (.tup (entV e))) (h2 : ToldBy L e.2.1 e.2.2) : EntsOk L H (es ++ [e]) :=
  ⟨fun x hx => (List.mem_append.mp hx).elim (h.at_ x) fun q => by rw [List.mem_singleton.mp q]; exact h1, fun x hx => (List.mem_append.mp hx).elim (h.told x) fun q => by rw [List.mem_singleton.mp q]; exact h2⟩
theorem take_next {α : Type} {l : List α} {n : Nat} {r : α} (h : l[n]? = some r) : l.take (n + 1) = l.take n ++ [r] := by
  rw [List.take_succ, h]
  rfl

section
variable {P : Program} {w : World} {K : PySem.W.Frag} {mg : Str → Option Value} {base : Heap}
abbrev sClimbs : Stmt := top 47
theorem sc_climbs : FnScope ["_law_parts", "_law_most", "_law_found", "_law_k", "_law_p", "_law_answer_here", "_law_hit"] ["_law_parts", "_law_most"] (C8.fnScope sClimbs) := C8.fnScope_by (by decide +kernel)
def spClimbs : Sp := fun vs H Q _ => ∃ (a : Addr) (L : Lp), vs = [.ref a, .int 5] ∧ H a = some (.lst L.vs) ∧ LpOk L ∧
  ∀ (es : List Ent) (H' : Hp) (l : Addr), es.map (·.2.1) = rows5 → EntsOk L H' es → Same H H' → H' l = some (.lst (es.map fun e => .ref e.1)) → Q (.ref l) H'
theorem climbs_ok (D : Dfn K mg "_law_climbs" sClimbs ["_law_parts", "_law_most"]) (B : Blt mg) (c : C8.Cal P w K mg base 1 "_law_power" spPower []) (c2 : C8.Cal P w K mg base 1 "_law_climb" spClimb []) : C8.Cal P w K mg base 2 "_law_climbs" spClimbs [] := by
  refine cal_of D sc_climbs (fun vs H Q E h => ?_) (fun f cdv A outer s H vs Q E hr h => ?_)
  · obtain ⟨a, L, rfl, _⟩ := h
    rfl
  · obtain ⟨a, L, rfl, ha, ok, q⟩ := h
    have nd := sc_climbs.nd
    refine ⟨_, pss_cons (ps_set (i := 2) nd rfl (Or.inl rfl) (pe_lst pa_nil))
      (pss_cons (ps_for PassesOwn.never rfl (pi_range1 rfl B.range (pa_cons (pv 1) pa_nil)) (pg_name (i := 3) nd rfl (Or.inl rfl))
        (pss_cons (ps_set (i := 4) nd rfl (Or.inl rfl) (C8.pe_c c hr (by decide) rfl (pa_cons pe_int (pa_cons (pv 3) pa_nil))))
        (pss_one (ps_for PassesOwn.never rfl (pi_range1 rfl B.range (pa_cons (pe_op op_mul pe_int (pv 4)) pa_nil)) (pg_name (i := 5) nd rfl (Or.inl rfl))
          (pss_one (ps_for PassesOwn.never rfl (pi_list (pe_lst (pa_cons pe_bl (pa_cons pe_bl pa_nil)))) (pg_name (i := 6) nd rfl (Or.inl rfl))
            (pss_one (ps_expr (pe_bm PySem.F.plainAttrs_list PySem.F.slot_list_append PySem.F.type_list_append mt_append (pv 2) (pa_cons (pe_tup (pa_cons (pv 4) (pa_cons (pv 5) (pa_cons (pv 6)
              (pa_cons (pe_op op_sub (pe_ix ix_tup (C8.pe_c c2 hr (by decide) rfl (pa_cons (pv 0) (pa_cons pe_int (pa_cons (pv 4) (pa_cons (pv 5) (pa_cons (pv 6) pa_nil)))))) pe_int (fun _ _ => rfl)) (pv 5)) pa_nil))))) pa_nil))))))))))
      (pss_one (ps_ret (pv 2)))), ?_⟩
    refine ⟨Nat.zero_le _, fun l hl0 => ?_⟩
    let I : Nat → Hp → Prop := fun n H' => ∃ es : List Ent, es.map (·.2.1) = rows6.take n ∧ EntsOk L H' es ∧ Same H H' ∧ H' l = some (.lst (es.map fun e => .ref e.1))
    refine ⟨_, rfl, 5, rfl, by decide, by decide, for_range (n := 5) (fun i σ H' => ∃ s3 s4 s5 s6, σ = [some (.ref a), some (.int 5), some (.ref l), s3, s4, s5, s6] ∧ I (4 * (2 ^ i - 1)) H')
      ⟨none, none, none, none, rfl, [], rfl, ⟨fun _ z => (nomatch z), fun _ z => (nomatch z)⟩, same_new hl0, upd_same⟩ ?_ ?_⟩
    · rintro i σ H1 hi ⟨s3, s4, s5, s6, rfl, I1⟩
      refine ⟨_, rfl, 2, i, 2, by rw [Int.zero_add]; rfl, by decide, by decide, by omega, ?_⟩
      have ep : (2 : Int) ^ i = ((2 ^ i : Nat) : Int) := by rw [Int.natCast_pow]; rfl
      rw [ep]
      obtain ⟨hp, hp16⟩ := pow_pw i hi
      have hp1 := (pw_le _ hp).1
      have enext : 4 * (2 ^ (i + 1) - 1) = 4 * (2 ^ i - 1) + 2 * (2 * 2 ^ i) := by rw [Nat.pow_succ]; omega
      rw [enext]
      generalize hpp : 2 ^ i = p at *
      refine ⟨_, rfl, _, _, rfl, rfl, .inl ⟨by decide, by decide⟩, _, rfl, by omega, by omega, for_range (n := (2 * (p : Int)).toNat) (fun j σ H' => ∃ s5 s6, σ = [some (.ref a), some (.int 5), some (.ref l), some (.int (0 + (i : Int))), some (.int p), s5, s6] ∧ I (4 * (p - 1) + 2 * j) H')
        ⟨s5, s6, rfl, I1⟩ ?_ ?_⟩
      · rintro j σ H2 hj ⟨s5, s6, rfl, I2⟩
        have hj : j < 2 * p := by omega
        refine ⟨by show 2 ≤ sizeLine; decide, fun ll hll => ⟨ll, rfl, ⟨_, SqL.of upd_same⟩, for_list (K := K) (a := ll) (xs := [.bl false, .bl true]) (fun h σ H' => ∃ s6, σ = [some (.ref a), some (.int 5), some (.ref l), some (.int (0 + (i : Int))), some (.int p), some (.int (0 + (j : Int))), s6] ∧ I (4 * (p - 1) + 2 * j + h) H' ∧ H' ll = some (.lst [.bl false, .bl true]))
          ⟨s6, rfl, ?_, upd_same⟩ (fun h σ H' _ ⟨_, _, _, z⟩ => SqL.of z) ?_ ?_⟩⟩
        · obtain ⟨es, h1, h2, h3, h4⟩ := I2
          exact ⟨es, h1, h2.same (same_new hll), h3.trans (same_new hll), same_new hll _ _ h4⟩
        · have hne : l ≠ ll := by
            obtain ⟨_, _, _, _, z⟩ := I2
            exact ne_of_none z hll
          rintro h x σ H3 hx ⟨s6, rfl, ⟨es, h1, h2, h3, h4⟩, hll3⟩
          obtain ⟨hit, rfl, eh⟩ : ∃ hit : Bool, x = .bl hit ∧ h = (if hit then 1 else 0) := by
            match h, hx with
            | 0, hx => cases hx; exact ⟨false, rfl, rfl⟩
            | 1, hx => cases hx; exact ⟨true, rfl, rfl⟩
          have hrow := row_at p hp j (List.mem_range.mpr hj) hit (by cases hit <;> simp)
          rw [← eh] at hrow
          have hlen : es.length ≤ 252 := by
            have z := congrArg List.length h1
            rw [List.length_map, List.length_take] at z
            have := row_len
            omega
          refine ⟨_, rfl, .inl ⟨rfl, _, SqL.of h4⟩, _, rfl, _, rfl, _, rfl, _, rfl, _, rfl, _, rfl, _, rfl, a, L, 0, p, 0 + (j : Int), hit, rfl, h3 _ _ ha, ok, by omega, by omega, by omega, fun t H4 r tp hcl sm hr4 => ?_⟩
          refine ⟨r, _, 1, _, rfl, rfl, SqT.of hr4, rfl, _, rfl, _, _, rfl, rfl, by show 4 ≤ sizeLine; decide, fun tq ntq => ?_⟩
          have s4 : Same H3 (upd H4 tq (.tup [.int p, .int (0 + (j : Int)), .bl hit, .int (t + L.plus - (0 + (j : Int)))])) := sm.trans (same_new ntq)
          refine ⟨l, _, _, rfl, rfl, s4 _ _ h4, by rw [List.length_map, sizeLine_eq]; omega, ?_⟩
          refine ⟨some (.bl hit), rfl, ⟨es ++ [(tq, ((p : Int), 0 + (j : Int), hit), t + L.plus - (0 + (j : Int)))], ?_, ?_, fun b o e => ?_, ?_⟩, ?_⟩
          · rw [List.map_append, h1, Int.zero_add]
            exact (take_next hrow).symm
          · refine ((h2.same s4).lst (s4 _ _ h4)).snoc ?_ ⟨t, hcl, rfl⟩
            rw [upd_ne fun z => by rw [← z] at h4; exact absurd (sm _ _ h4) (by rw [ntq]; exact fun q => nomatch q)]
            exact upd_same
          · rw [upd_ne (ne_of_none e hl0)]
            exact s4 _ _ (h3 _ _ e)
          · rw [List.map_append]
            exact upd_same
          · rw [upd_ne fun z => hne z.symm]
            exact s4 _ _ hll3
        · rintro σ H3 ⟨s6, rfl, I3, _⟩
          exact ⟨_, s6, rfl, I3⟩
      · rintro σ H2 ⟨s5, s6, rfl, I2⟩
        refine ⟨_, _, s5, s6, rfl, ?_⟩
        have e : (2 * (p : Int)).toNat = 2 * p := by omega
        rw [e] at I2
        exact I2
    · rintro σ H1 ⟨s3, s4, s5, s6, rfl, es, h1, h2, h3, h4⟩
      exact ⟨_, rfl, q es H1 l (h1.trans rows5_take) h2 h3 h4⟩
end
end T47

/-! _law_all_told. -/
namespace T47
open PySem PySem.Spec PyProof.Rows L2 G47 M47

section
variable {P : Program} {w : World} {K : PySem.W.Frag} {mg : Str → Option Value} {base : Heap}
abbrev sAllTold : Stmt := top 43
theorem sc_allTold : FnScope ["_law_rows", "_law_numbers", "_law_row_here"] ["_law_rows"] (C8.fnScope sAllTold) := C8.fnScope_by (by decide +kernel)
def spAllTold : Sp := fun vs H Q _ => ∃ (l : Addr) (L : Lp) (es : List Ent), vs = [.ref l] ∧ H l = some (.lst (es.map fun e => .ref e.1)) ∧ EntsOk L H es ∧ es.length ≤ 1000 ∧
  ∀ (xs : List Int) (H' : Hp) (q : Addr), xs.Pairwise (· ≤ ·) → xs.Nodup → (∀ v, v ∈ xs ↔ ∃ e ∈ es, e.2.2 = v) → Same H H' → H' q = some (.tup (xs.map V.int)) → Q (.ref q) H'
def lcSc : Scope := { kind := .function, names := [(".0", .local), ("_law_row_here", .local)], isGenerator := false, isCoroutine := false }
theorem blk_told : BlkOk ["_law_rows", "_law_numbers", "_law_row_here"] (C8.fnScope sAllTold) lcSc [("_law_row_here", 2)] := blkOk_by (by decide +kernel)
theorem yes_any {σ : L2.St} {H : Hp} {Q : Bool → Hp → Prop} (h : Q true H) : tYes σ H Q := h
theorem ent_last (e : Ent) : atI (entV e) (-1) = some (.int e.2.2) := atI_last [V.int e.2.1.1, .int e.2.1.2.1, .bl e.2.1.2.2] (.int e.2.2)
theorem flat_str (ps : List Int) : inV (.str "swings") (ps.map V.int) = false := by
  unfold inV
  rw [List.any_eq_false]
  intro y hy
  obtain ⟨z, _, rfl⟩ := List.mem_map.mp hy
  exact fun z => by cases z
theorem allTold_ok (D : Dfn K mg "_law_all_told" sAllTold ["_law_rows"]) (B : Blt mg) : C8.Cal P w K mg base 1 "_law_all_told" spAllTold [] := by
  refine cal_of D sc_allTold (fun vs H Q E h => ?_) (fun f cdv A outer s H vs Q E hr h => ?_)
  · obtain ⟨l, L, es, rfl, _⟩ := h
    rfl
  · obtain ⟨l, L, es, rfl, hl, ok, hlen, q⟩ := h
    have nd := sc_allTold.nd
    refine ⟨_, pss_cons (ps_set (i := 1) nd rfl (Or.inl rfl) (pe_lst pa_nil))
      (pss_cons (ps_for PassesOwn.never rfl (pi_list (pv 0)) (pg_name (i := 2) nd rfl (Or.inl rfl))
        (pss_one (ps_if (PW.pt (pw_and (pt_cmpR op_ne (pe_ix ix_tup (pv 2) (pe_un un_neg pe_int) (fun _ _ => rfl)) pe_str (nomark _)) (pw_and1 (pt_cmpR op_notIn_seq (pe_ix ix_tup (pv 2) (pe_un un_neg pe_int) (fun _ _ => rfl)) (pv 1) rfl))))
          (pss_one (ps_expr (pe_bm PySem.F.plainAttrs_list PySem.F.slot_list_append PySem.F.type_list_append mt_append (pv 1) (pa_cons (pe_ix ix_tup (pv 2) (pe_un un_neg pe_int) (fun _ _ => rfl)) pa_nil)))) pss_nil)))
      (pss_one (ps_ret (pe_callTy call_tuple_of rfl B.tuple b_tuple (pa_cons (pe_op op_cat (pe_callB cr_sortedI rfl B.sorted b_sorted (pa_cons (pv 1) pa_nil))
        (pe_op op_rep (pe_lst (pa_cons pe_str pa_nil)) (pe_callTy call_int1 rfl B.int b_int (pa_cons (pe_cmpR op_in_seq pe_str
          (pe_lc (te := tOp (rIxT K) (tVar 2) (tUn (rU fun i => .int (-i)) (tC (.int 1)))) rfl nd (pi_list (pv 0)) blk_told (fun _ _ _ _ _ => pg_name (i := 2) nd rfl (Or.inl rfl)) (fun _ _ _ _ _ => pts_nil)
            (fun _ _ _ _ _ => pe_ix ix_tup (pv 2) (pe_un un_neg pe_int) (fun _ _ => rfl))) rfl) pa_nil)))) pa_nil))))), ?_⟩
    refine ⟨Nat.zero_le _, fun n hn0 => ?_⟩
    have get : ∀ {i : Nat} {x : V}, (es.map fun e => V.ref e.1)[i]? = some x → ∃ e, es[i]? = some e ∧ x = .ref e.1 := fun {i x} h => by
      rw [List.getElem?_map] at h
      obtain ⟨e, h1, h2⟩ := Option.map_eq_some_iff.mp h
      exact ⟨e, h1, h2.symm⟩
    refine ⟨_, rfl, l, rfl, ⟨_, SqL.of (same_new hn0 _ _ hl)⟩, for_list (K := K) (a := l) (xs := es.map fun e => V.ref e.1) (fun i σ H' => ∃ (ps : List Int) (s2 : Option V), σ = [some (.ref l), some (.ref n), s2] ∧ H' n = some (.lst (ps.map V.int)) ∧ ps.Nodup ∧ ps.length ≤ i ∧ i ≤ es.length ∧ (∀ v, v ∈ ps ↔ ∃ e ∈ es.take i, e.2.2 = v) ∧ Same H H')
      ⟨[], none, rfl, upd_same, List.nodup_nil, Nat.le_refl _, Nat.zero_le _, fun v => ⟨fun z => (nomatch z), fun ⟨e, he, _⟩ => (nomatch he)⟩, same_new hn0⟩ (fun i σ H' _ ⟨_, _, _, _, _, _, _, _, s⟩ => SqL.of (s _ _ hl)) ?_ ?_⟩
    · rintro i x σ H1 hx ⟨ps, s2, rfl, hn, hnd, hlp, hil, hmem, s1⟩
      obtain ⟨e, he, rfl⟩ := get hx
      have hie : i < es.length := (List.getElem?_eq_some_iff.mp he).1
      have het := s1 _ _ (ok.at_ e (List.mem_of_getElem? he))
      have tk := take_next he
      refine ⟨_, rfl, 1, rfl, e.1, _, _, _, rfl, rfl, SqT.of het, ent_last e, rfl, _, rfl, iteT ?_⟩
      refine ⟨_, rfl, 1, rfl, e.1, _, _, _, rfl, rfl, SqT.of het, ent_last e, _, rfl, n, _, rfl, .inl (SqL.of hn), rfl, flat_ints ps, _, rfl, ?_⟩
      rw [if_pos rfl, inV_int]
      by_cases hin : e.2.2 ∈ ps
      · rw [decide_eq_true hin]
        refine iteF ⟨ps, _, rfl, hn, hnd, by omega, hie, fun v => ?_, s1⟩
        rw [tk, hmem v]
        constructor
        · rintro ⟨x, hx, ex⟩
          exact ⟨x, List.mem_append_left _ hx, ex⟩
        · rintro ⟨x, hx, ex⟩
          rcases List.mem_append.mp hx with y | y
          · exact ⟨x, y, ex⟩
          · rw [List.mem_singleton.mp y] at ex
            rw [← ex]
            exact (hmem _).mp hin
      · rw [decide_eq_false hin]
        refine iteT ⟨_, rfl, .inl ⟨rfl, _, SqL.of hn⟩, _, rfl, 1, rfl, e.1, _, _, _, rfl, rfl, SqT.of het, ent_last e, n, _, _, rfl, rfl, hn, by rw [List.length_map, sizeLine_eq]; omega, ?_⟩
        refine ⟨ps ++ [e.2.2], _, rfl, ?_, ?_, by rw [List.length_append]; show ps.length + 1 ≤ _; omega, hie, fun v => ?_, fun b o eb => ?_⟩
        · rw [List.map_append]
          exact upd_same
        · rw [List.nodup_append]
          refine ⟨hnd, List.nodup_cons.mpr ⟨by simp, List.nodup_nil⟩, fun b hb c hc e' => ?_⟩
          rw [List.mem_singleton.mp hc] at e'
          rw [e'] at hb
          exact hin hb
        · rw [tk, List.mem_append, hmem v, List.mem_singleton]
          constructor
          · rintro (⟨x, hx, ex⟩ | rfl)
            · exact ⟨x, List.mem_append_left _ hx, ex⟩
            · exact ⟨e, List.mem_append_right _ (List.mem_singleton.mpr rfl), rfl⟩
          · rintro ⟨x, hx, ex⟩
            rcases List.mem_append.mp hx with y | y
            · exact .inl ⟨x, y, ex⟩
            · rw [List.mem_singleton.mp y] at ex
              exact .inr ex.symm
        · rw [upd_ne (ne_of_none eb hn0)]
          exact s1 _ _ eb
    · rintro σ H1 ⟨ps, s2, rfl, hn, hnd, hlp, hil, hmem, s1⟩
      rw [List.length_map] at hmem hlp hil
      rw [List.take_length] at hmem
      have hl1 := s1 _ _ hl
      refine ⟨_, rfl, n, ps, rfl, SqL.of hn, fun ns a p1 p2 na => ?_⟩
      refine ⟨by show 1 ≤ sizeLine; decide, fun b nb => ?_⟩
      have s2' : Same H1 (upd (upd H1 a (.lst (ns.map V.int))) b (.lst [.str "swings"])) := (same_new na).trans (same_new nb)
      generalize hH2 : upd (upd H1 a (.lst (ns.map V.int))) b (.lst [.str "swings"]) = H2 at s2'
      have ha2 : H2 a = some (.lst (ns.map V.int)) := by rw [← hH2]; exact same_new nb _ _ upd_same
      have hb2 : H2 b = some (.lst [.str "swings"]) := by rw [← hH2]; exact upd_same
      refine ⟨_, rfl, l, rfl, ⟨_, SqL.of (s2' _ _ hl1)⟩, fun d nd' => ?_⟩
      refine lc_list (K := K) (a := l) (xs := es.map fun e => V.ref e.1) (fun i H' => Same H2 H' ∧ ∃ vs : List Int, H' d = some (.lst (vs.map V.int)) ∧ vs.length = i) ⟨same_new nd', [], upd_same, rfl⟩ (fun i H' _ z => SqL.of (z.1 _ _ (s2' _ _ hl1))) ?_ ?_
      · rintro i x H3 hx ⟨s3, vs, hd, hv⟩
        obtain ⟨e, he, rfl⟩ := get hx
        have hie : i < es.length := (List.getElem?_eq_some_iff.mp he).1
        have het := s3 _ _ (s2' _ _ (s1 _ _ (ok.at_ e (List.mem_of_getElem? he))))
        refine ⟨rfl, yes_any (iteT ?_)⟩
        refine ⟨_, rfl, 1, rfl, e.1, _, _, _, rfl, rfl, SqT.of het, ent_last e, _, hd, by rw [List.length_map, sizeLine_eq]; omega, fun b' o' eb' => ?_, vs ++ [e.2.2], ?_, by rw [List.length_append, hv]; rfl⟩
        · rw [upd_ne (ne_of_none eb' nd')]
          exact s3 _ _ eb'
        · rw [List.map_append]
          exact upd_same
      · rintro H3 ⟨s3, vs, hd, hv⟩
        refine ⟨d, _, rfl, .inl (SqL.of hd), rfl, flat_ints vs, .inr ⟨_, rfl, ?_⟩⟩
        rw [flat_str]
        have e : ns.map V.int ++ (List.replicate (Int.toNat 0) [V.str "swings"]).flatten = ns.map V.int := by simp
        refine ⟨b, 0, _, rfl, rfl, s3 _ _ hb2, by decide, by decide, Nat.zero_le _, fun c nc => ⟨a, c, _, _, rfl, rfl, same_new nc _ _ (s3 _ _ ha2), upd_same, ?_, fun p np => ⟨p, _, rfl, .inl ⟨SqL.of upd_same, fun t nt => ?_⟩⟩⟩⟩
        · have := p1.length_eq
          show (ns.map V.int).length + 0 ≤ _
          rw [List.length_map, sizeLine_eq]
          omega
        · refine q ns _ t p2 (p1.nodup_iff.mpr hnd) (fun v => by rw [p1.mem_iff, hmem v]) (((((s1.trans s2').trans s3).trans (same_new nc)).trans (same_new np)).trans (same_new nt)) (upd_same.trans (congrArg (fun z => some (HO.tup z)) e))
end
end T47

/-! What a loop tells, in plain Lean. -/
namespace T47
open PySem PySem.Spec PyProof.Rows L2 G47 M47

/-- how far a test stands below the answer -/
def Lp.low (L : Lp) : Int := if L.test = "upto" then 0 else 1
def InD (L : Lp) (v : Int) : Prop := 1 - L.last - L.low ≤ v - L.plus ∧ v - L.plus ≤ 0
def eOf (L : Lp) (hit : Bool) : Int := if L.test = "upto" then 0 else if hit = true then 1 else 0
theorem eOf_bd (L : Lp) (hit : Bool) : 0 ≤ eOf L hit ∧ eOf L hit ≤ L.low := by
  unfold eOf Lp.low
  split
  · decide
  · split <;> decide
theorem go_b {L : Lp} {a : Int} {hit : Bool} (y : Int) : L.go (cmpSide a hit) y = true ↔ y ≤ a - eOf L hit := by
  rw [go_iff]
  unfold eOf
  by_cases h : L.test = "upto"
  · rw [if_pos h]
    constructor
    · rintro (z | ⟨z, _⟩) <;> omega
    · intro z
      by_cases y2 : y < a
      · exact .inl y2
      · exact .inr ⟨by omega, .inl h⟩
  · rw [if_neg h]
    cases hit with
    | true =>
      rw [if_pos rfl]
      constructor
      · rintro (z | ⟨_, z | z⟩)
        · omega
        · exact absurd z h
        · cases z
      · intro z; exact .inl (by omega)
    | false =>
      rw [if_neg Bool.false_ne_true]
      constructor
      · rintro (z | ⟨z, _⟩) <;> omega
      · intro z
        by_cases y2 : y < a
        · exact .inl y2
        · exact .inr ⟨by omega, .inr rfl⟩
/-- the end of a run that goes up to b = a - e -/
theorem end_in {L : Lp} (ok : LpOk L) {go : Int → Bool} {a e x p t : Int} (he : 0 ≤ e ∧ e ≤ L.low) (hg : ∀ y, go y = true ↔ y ≤ a - e) (hp : Pow0 p) (hx : x ≤ a) (ha : a < x + 2 * p) (c : L.climb go x p t) : InD L (t + L.plus - a) := by
  have z := climb_end ok.last hg c hp (by omega)
  have l1 := ok.last
  unfold InD
  by_cases h : a - e < x
  · have := z.1 h
    rcases l1 with l | l <;> (rw [l]; omega)
  · have := z.2 (by omega)
    rcases l1 with l | l <;> (rw [l] at this ⊢; omega)
theorem pw_pow0 : ∀ p ∈ pw6, Pow0 (p : Int) := by
  intro p hp
  simp only [List.mem_cons, List.not_mem_nil, or_false] at hp
  rcases hp with rfl | rfl | rfl | rfl | rfl | rfl
  · exact .inr ⟨0, rfl⟩
  · exact .inr ⟨1, rfl⟩
  · exact .inr ⟨2, rfl⟩
  · exact .inr ⟨3, rfl⟩
  · exact .inr ⟨4, rfl⟩
  · exact .inr ⟨5, rfl⟩
theorem mem_rows {l : List Nat} {r : Row} : r ∈ rowsOf l ↔ ∃ p ∈ l, ∃ a, a < 2 * p ∧ ∃ hit : Bool, r = ((p : Int), (a : Int), hit) := by
  unfold rowsOf
  simp only [List.mem_flatMap, List.mem_range, List.mem_cons, List.not_mem_nil, or_false]
  constructor
  · rintro ⟨p, hp, a, ha, h | h⟩
    · exact ⟨p, hp, a, ha, false, h⟩
    · exact ⟨p, hp, a, ha, true, h⟩
  · rintro ⟨p, hp, a, ha, hit, h⟩
    refine ⟨p, hp, a, ha, ?_⟩
    cases hit
    · exact .inl h
    · exact .inr h
theorem row_in {L : Lp} (ok : LpOk L) {l : List Nat} (hl : ∀ p ∈ l, Pow0 (p : Int)) {r : Row} {v : Int} (hr : r ∈ rowsOf l) (h : ToldBy L r v) : InD L v := by
  obtain ⟨p, hp, a, ha, hit, rfl⟩ := mem_rows.mp hr
  obtain ⟨t, c, rfl⟩ := h
  exact end_in ok (eOf_bd L hit) go_b (hl p hp) (by show (0 : Int) ≤ a; omega) (by show (a : Int) < 0 + 2 * p; omega) c
theorem climb_has {L : Lp} (ok : LpOk L) {a p : Int} {hit : Bool} (h0 : 0 ≤ a) (hp : 0 ≤ p) : ∃ t, L.climb (L.go (cmpSide a hit)) 0 p t :=
  ⟨_, climb_ok (by rcases ok.last with e | e <;> omega) (fun y hy => go_cmp hy) _ 0 p h0 hp (Nat.lt_succ_self _)⟩
theorem in_row {L : Lp} (ok : LpOk L) {l : List Nat} (h1 : 1 ∈ l) (h2 : 2 ∈ l) {v : Int} (h : InD L v) : ∃ r ∈ rowsOf l, ToldBy L r v := by
  unfold InD at h
  have lw : L.low = 0 ∨ (L.low = 1 ∧ ¬ L.test = "upto") := by
    unfold Lp.low
    by_cases z : L.test = "upto"
    · rw [if_pos z]; exact .inl rfl
    · rw [if_neg z]; exact .inr ⟨rfl, z⟩
  have m : ∀ (p a : Nat) (hit : Bool), p ∈ l → a < 2 * p → ((p : Int), (a : Int), hit) ∈ rowsOf l := fun p a hit hp ha => mem_rows.mpr ⟨p, hp, a, ha, hit, rfl⟩
  rcases ok.last with e | e
  · -- the last step 1
    rw [e] at h
    by_cases hv : v = L.plus
    · obtain ⟨t, c⟩ := climb_has ok (a := 0) (p := 1) (hit := false) (by decide) (by decide)
      refine ⟨_, m 1 0 false h1 (by decide), t, c, ?_⟩
      have z := end_in ok (eOf_bd L false) go_b (.inr ⟨0, rfl⟩) (by decide) (by decide) c
      have z2 := (climb_end ok.last go_b c (.inr ⟨0, rfl⟩) (by have := eOf_bd L false; omega)).2 (by unfold eOf; split <;> decide)
      rw [e] at z2
      have z3 : eOf L false = 0 := by unfold eOf; split <;> rfl
      show v = t + L.plus - 0
      omega
    · obtain ⟨lw, nu⟩ := lw.resolve_left fun z => by omega
      obtain ⟨t, c⟩ := climb_has ok (a := 1) (p := 1) (hit := true) (by decide) (by decide)
      refine ⟨_, m 1 1 true h1 (by decide), t, c, ?_⟩
      have z3 : eOf L true = 1 := by unfold eOf; rw [if_neg nu, if_pos rfl]
      have z2 := (climb_end ok.last go_b c (.inr ⟨0, rfl⟩) (by omega)).2 (by omega)
      rw [e] at z2
      show v = t + L.plus - 1
      omega
  · rw [e] at h
    have st : ∀ go : Int → Bool, L.climb go 0 1 0 := fun go => .stop (by omega)
    by_cases hv : v = L.plus
    · exact ⟨_, m 1 0 false h1 (by decide), 0, st _, by show v = 0 + L.plus - 0; omega⟩
    · by_cases hv2 : v = L.plus - 1
      · exact ⟨_, m 1 1 false h1 (by decide), 0, st _, by show v = 0 + L.plus - 1; omega⟩
      · obtain ⟨lw, nu⟩ := lw.resolve_left fun z => by omega
        have z3 : eOf L true = 1 := by unfold eOf; rw [if_neg nu, if_pos rfl]
        refine ⟨_, m 2 2 true h2 (by decide), 0, .down (by show L.last ≤ 2; omega) ?_ (st _), by show v = 0 + L.plus - 2; omega⟩
        refine Bool.eq_false_iff.mpr fun g => ?_
        have q : (0 : Int) + 2 ≤ 2 - eOf L true := (go_b _).mp g
        rw [z3] at q
        omega
theorem rows_set {L : Lp} (ok : LpOk L) {v : Int} : (∃ r ∈ rows6, ToldBy L r v) ↔ ∃ r ∈ rows5, ToldBy L r v :=
  ⟨fun ⟨r, hr, h⟩ => in_row ok (by decide) (by decide) (row_in ok pw_pow0 hr h), fun ⟨r, hr, h⟩ => in_row ok (by decide) (by decide) (row_in ok (fun p hp => pw_pow0 p (by
    simp only [List.mem_cons, List.not_mem_nil, or_false] at hp ⊢
    rcases hp with z | z | z | z | z <;> simp [z])) hr h)⟩

/-! ### what is drawn -/
theorem climb_congr {go go' : Int → Bool} {h s : Bool} {last x p t : Int} (hl : 1 ≤ last) (a : Climb go h s last x p t) : 0 ≤ x → (∀ y, 0 ≤ y → go y = go' y) → Climb go' h s last x p t := by
  induction a with
  | stop e => exact fun _ _ => .stop e
  | up e g _ ih => exact fun hx hy => .up e (by rw [← hy _ (by omega)]; exact g) (ih (by omega) hy)
  | down e g _ ih => exact fun hx hy => .down e (by rw [← hy _ (by omega)]; exact g) (ih hx hy)
theorem sgn_lt (i : Int) : sgn i < 0 ↔ i < 0 := by
  unfold sgn
  by_cases h : 0 < i
  · rw [decide_eq_true h, decide_eq_false (show ¬ i < 0 by omega)]
    simp
    omega
  · rw [decide_eq_false h]
    by_cases h2 : i < 0
    · rw [decide_eq_true h2]
      simp [h2]
    · rw [decide_eq_false h2]
      simp
      omega
theorem sgn_eq (i : Int) : sgn i = 0 ↔ i = 0 := by
  unfold sgn
  by_cases h : 0 < i
  · rw [decide_eq_true h, decide_eq_false (show ¬ i < 0 by omega)]
    simp
    omega
  · rw [decide_eq_false h]
    by_cases h2 : i < 0
    · rw [decide_eq_true h2]
      simp
      omega
    · rw [decide_eq_false h2]
      simp
      omega
/-- whether the answer hits -/
def hitOf (S : Sg) (A : Nat) : Bool := decide (mea S A = S.n)
theorem go_drawn {L : Lp} {S : Sg} {A : Nat} (ok : SgOk S) (an : IsAns S A) (y : Int) (hy : 0 ≤ y) : L.go (sgSide S) y = true ↔ y ≤ (A : Int) - eOf L (hitOf S A) := by
  unfold Lp.go sgSide
  rw [Bool.or_eq_true, Bool.and_eq_true, decide_eq_true_eq, decide_eq_true_eq, decide_eq_true_eq, sgn_lt, sgn_eq]
  have e : ((y.toNat : Nat) : Int) = y := Int.toNat_of_nonneg hy
  have gt : ∀ z : Nat, A < z → S.n < mea S z := fun z hz => Int.lt_of_lt_of_le an.gt (mea_le ok hz)
  have le : ∀ z : Nat, z ≤ A → mea S z ≤ S.n := fun z hz => Int.le_trans (mea_le ok hz) an.le
  have lt : ∀ z : Nat, z < A → mea S z < S.n := fun z hz => Int.lt_of_lt_of_le (mea_lt ok hz) an.le
  rcases Nat.lt_trichotomy y.toNat A with h | h | h
  · have := lt _ h
    have := eOf_bd L (hitOf S A)
    have z : L.low ≤ 1 := by unfold Lp.low; split <;> decide
    constructor
    · intro _; omega
    · intro _; exact .inl (by omega)
  · have := an.le
    rw [h]
    unfold eOf hitOf
    by_cases u : L.test = "upto"
    · rw [if_pos u]
      constructor
      · intro _; omega
      · intro _
        by_cases q : mea S A = S.n
        · exact .inr ⟨by omega, u⟩
        · exact .inl (by omega)
    · rw [if_neg u]
      by_cases q : mea S A = S.n
      · rw [decide_eq_true q, if_pos rfl]
        constructor
        · rintro (z | ⟨_, z⟩)
          · omega
          · exact absurd z u
        · intro z; omega
      · rw [decide_eq_false q, if_neg Bool.false_ne_true]
        constructor
        · intro _; omega
        · intro _; exact .inl (by omega)
  · have := gt _ h
    have := eOf_bd L (hitOf S A)
    constructor
    · rintro (z | ⟨z, _⟩) <;> omega
    · intro z; omega
theorem go_neg {L : Lp} {S : Sg} {A : Nat} (ok : SgOk S) (an : IsAns S A) (y : Int) (h : L.go (sgSide S) y = true) : y ≤ A := by
  by_cases hy : 0 ≤ y
  · have := (go_drawn ok an y hy).mp h
    have := eOf_bd L (hitOf S A)
    omega
  · omega
theorem drawn_in {L : Lp} (ok : LpOk L) {S : Sg} {A : Nat} (so : SgOk S) (an : IsAns S A) {x p t : Int} (hp : Pow0 p) (hx0 : 0 ≤ x) (hx : x ≤ A) (ha : (A : Int) < x + 2 * p) (c : L.climb (L.go (sgSide S)) x p t) : InD L (t + L.plus - A) := by
  have c2 : L.climb (fun y => decide (y ≤ (A : Int) - eOf L (hitOf S A))) x p t := climb_congr (by rcases ok.last with e | e <;> omega) c hx0 fun y hy => by
    rw [Bool.eq_iff_iff, decide_eq_true_eq]
    exact go_drawn so an y hy
  exact end_in ok (eOf_bd L (hitOf S A)) (fun y => decide_eq_true_iff) hp hx ha c2
theorem in_due {L : Lp} (ok : LpOk L) {v : Int} (h : InD L v) : ∃ r ∈ rows5, ToldBy L r v := in_row ok (by decide) (by decide) h
end T47

/-! _law_is_told. -/
namespace T47
open PySem PySem.Spec PyProof.Rows L2 G47 M47 LamX

theorem rot_row {R : List Int} (ok : RowOk R) (i : Nat) (hi : i < 6) : ∃ R', RowOk R' ∧ cutV (R.map V.int) (some (0 + (i : Int))) none ++ cutV (R.map V.int) none (some (0 + (i : Int))) = R'.map V.int := by
  have a1 : HT.sIx 60 0 (some (0 + (i : Int))) = i := by
    rw [Int.zero_add, HT.sIx_nat]
    omega
  have a2 : HT.sIx 60 60 none = 60 := rfl
  have a3 : HT.sIx 60 0 none = 0 := rfl
  have a4 : HT.sIx 60 60 (some (0 + (i : Int))) = i := by
    rw [Int.zero_add, HT.sIx_nat]
    omega
  refine ⟨(R.drop i).take (60 - i) ++ (R.drop 0).take (i - 0), ⟨?_, fun v hv => ?_⟩, ?_⟩
  · rw [List.length_append, List.length_take, List.length_take, List.length_drop, List.length_drop, ok.len]
    omega
  · rcases List.mem_append.mp hv with z | z
    · exact ok.bd v (List.mem_of_mem_drop (List.mem_of_mem_take z))
    · exact ok.bd v (List.mem_of_mem_drop (List.mem_of_mem_take z))
  · unfold cutV
    rw [List.length_map, ok.len, a1, a2, a3, a4, List.map_append, List.map_take, List.map_take, List.map_drop, List.map_drop]

section
variable {P : Program} {w : World} {K : PySem.W.Frag} {mg : Str → Option Value} {base : Heap} {CS CR CT : Addr} {T : List (Addr × Str)}
abbrev sIsTold : Stmt := top 48
theorem sc_isTold : FnScope ["_law_row_here", "_law_parts", "_law_due", "_law_k", "_law_own", "_law_answer_here", "_law_p", "_law_x", "_law_run"] ["_law_row_here", "_law_parts", "_law_due"] (C8.fnScope sIsTold) := C8.fnScope_by (by decide +kernel)
def spIsTold (T : List (Addr × Str)) : Sp := fun vs H Q _ => ∃ (l a d : Addr) (R : List Int) (L : Lp) (xs : List Int), vs = [.ref l, .ref a, .ref d] ∧ H l = some (.lst (R.map V.int)) ∧ RowOk R ∧ H a = some (.lst L.vs) ∧ LpOk L ∧ H d = some (.tup (xs.map V.int)) ∧ (∀ v, InD L v → v ∈ xs) ∧ Tabs T H ∧
  ∀ H', ExtN H H' → Tabs T H' → Q (.bl true) H'
theorem isTold_ok (D : Dfn K mg "_law_is_told" sIsTold ["_law_row_here", "_law_parts", "_law_due"]) (B : Blt mg) (S : ClsS K CS CR) (c1 : C8.Cal P w K mg base 2 "_law_drawn_sought" spDrawn []) (c2 : C8.Cal P w K mg base 3 "_law_answer" spAnswer []) (c3 : C8.Cal P w K mg base 1 "_law_power" spPower [])
    (c4 : C8.Cal P w K mg base 6 "_law_steps" (spLSteps CS) []) (c5 : C8.Cal P w K mg base 6 "_law_sought" (spLSought CT) []) (c6 : C8.Met P w K mg base 6 CS "run" (spRun CS CR CT T) []) : C8.Cal P w K mg base 8 "_law_is_told" (spIsTold T) [] := by
  refine cal_of D sc_isTold (fun vs H Q E h => ?_) (fun f cdv A outer s H vs Q E hr h => ?_)
  · obtain ⟨l, a, d, R, L, xs, rfl, _⟩ := h
    rfl
  · obtain ⟨l, a, d, R, L, xs, rfl, hl, ok, ha, lok, hd, hxs, hT, q⟩ := h
    have nd := sc_isTold.nd
    refine ⟨_, pss_cons (ps_for PassesOwn.never rfl (pi_range1 rfl B.range (pa_cons pe_int pa_nil)) (pg_name (i := 3) nd rfl (Or.inl rfl))
        (pss_cons (ps_set (i := 4) nd rfl (Or.inl rfl) (C8.pe_c c1 hr (by decide) rfl (pa_cons (pe_op op_cat (pe_slice sl_list (pv 0) (po_some (pv 3)) po_none) (pe_slice sl_list (pv 0) po_none (po_some (pv 3)))) (pa_cons pe_int pa_nil))))
        (pss_cons (ps_set (i := 5) nd rfl (Or.inl rfl) (C8.pe_c c2 hr (by decide) rfl (pa_cons (pv 4) pa_nil)))
        (pss_cons (ps_set (i := 6) nd rfl (Or.inl rfl) (C8.pe_c c3 hr (by decide) rfl (pa_cons pe_int (pa_cons (pe_op op_mod (pe_callTy call_int1 rfl B.int b_int (pa_cons (pe_ix ix_list (pv 0) (pe_op op_add pe_int (pv 3)) (fun _ _ => rfl)) pa_nil)) pe_int) pa_nil))))
        (pss_cons (ps_set (i := 7) nd rfl (Or.inl rfl) (pe_callB (cr_max rfl) rfl B.max b_max (pa_cons (pe_lst (pa_cons pe_int (pa_cons (pe_op op_sub (pv 5) (pe_op op_mod (pe_callTy call_int1 rfl B.int b_int (pa_cons (pe_ix ix_list (pv 0) (pe_op op_add pe_int (pv 3)) (fun _ _ => rfl)) pa_nil)) (pe_op op_mul pe_int (pv 6)))) pa_nil))) pa_nil)))
        (pss_one (ps_if (pt_cmpR op_lt (pv 5) (pe_op op_add (pv 7) (pe_op op_mul pe_int (pv 6))) (nomark _))
          (pss_cons (ps_set (i := 8) nd rfl (Or.inl rfl) (C8.pe_mt c6 hr (by decide) (C8.pe_c c4 hr (by decide) rfl (pa_cons (pv 1) pa_nil)) (pa_cons (C8.pe_c c5 hr (by decide) rfl (pa_cons (pv 4) pa_nil)) (pa_cons (pv 7) (pa_cons (pv 6) pa_nil)))))
          (pss_one (ps_if (pt_cmpR op_notIn_seq (pe_op op_sub (pe_fld (pv 8) rfl) (pv 5)) (pv 2) rfl) (pss_one (ps_ret pe_bl)) pss_nil))) pss_nil)))))))
      (pss_one (ps_ret pe_bl)), ?_⟩
    have up : ∀ {H1 H2 : Hp} {b : Addr} {o : HO}, ExtN H1 H2 → H1 b = some o → (∀ ps, o ≠ .tbl ps) → H2 b = some o := fun x e n => x _ _ e n
    refine ⟨6, rfl, by decide, by decide, for_range (n := 6) (fun i σ H' => ∃ s4 s5 s6 s7 s8 s9, σ = [some (.ref l), some (.ref a), some (.ref d), s4, s5, s6, s7, s8, s9] ∧ ExtN H H' ∧ Tabs T H') ⟨none, none, none, none, none, none, rfl, .refl _, hT⟩ ?_ fun σ H' ⟨_, _, _, _, _, _, _, ex, t⟩ => q H' ex t⟩
    rintro i σ H1 hi ⟨s4, s5, s6, s7, s8, s9, rfl, ex1, T1⟩
    have hl1 : H1 l = some (.lst (R.map V.int)) := up ex1 hl fun _ z => by cases z
    obtain ⟨R', ok', er⟩ := rot_row ok i hi
    -- own
    refine seq_any (fun σ' H' => ∃ (Sg' : Sg) (o : Addr), σ' = [some (.ref l), some (.ref a), some (.ref d), some (.int (0 + (i : Int))), some (.ref o), s6, s7, s8, s9] ∧ SgBd Sg' ∧ H' o = some (.tup (sgV Sg')) ∧ Same H1 H') (fun D' dd => ?_) ?_
    · refine ⟨_, rfl, _, rfl, _, rfl, l, _, rfl, SqL.of hl1, fun p1 n1 => ⟨_, rfl, _, rfl, _, rfl, l, _, rfl, SqL.of (same_new n1 _ _ hl1), fun p2 n2 => ⟨p1, p2, _, _, rfl, rfl, same_new n2 _ _ upd_same, upd_same, ?_, fun p3 n3 => ⟨p3, R', rfl, ?_, ok', fun S' H' o bd sm ho => ?_⟩⟩⟩⟩
      · rw [← List.length_append, er, List.length_map, ok'.len, sizeLine_eq]
        decide
      · rw [er]
        exact upd_same
      · exact dd _ _ ⟨S', o, rfl, bd, ho, (((same_new n1).trans (same_new n2)).trans (same_new n3)).trans sm⟩
    rintro _ H2 ⟨Sg', o, rfl, bd, ho, s2⟩
    have hl2 := s2 _ _ hl1
    -- the answer
    refine seq_any (fun σ' H' => ∃ A : Nat, σ' = [some (.ref l), some (.ref a), some (.ref d), some (.int (0 + (i : Int))), some (.ref o), some (.int A), s7, s8, s9] ∧ IsAns Sg' A ∧ Same H2 H') (fun D' dd => ⟨_, rfl, o, Sg', rfl, ho, bd, fun A an => dd _ _ ⟨A, rfl, an, fun _ _ e => e⟩⟩) ?_
    rintro _ H3 ⟨A', rfl, an, s3⟩
    have hl3 := s3 _ _ hl2
    -- p
    refine seq_any (fun σ' H' => ∃ j : Nat, σ' = [some (.ref l), some (.ref a), some (.ref d), some (.int (0 + (i : Int))), some (.ref o), some (.int A'), some (.int (2 ^ j)), s8, s9] ∧ j < 9 ∧ Same H3 H') (fun D' dd => ?_) ?_
    · obtain ⟨r, er⟩ := at_row ok (40 + (0 + (i : Int))) (by omega) (by omega)
      have z := em_lt r (m := 9) (by decide)
      refine ⟨_, rfl, _, rfl, _, _, rfl, rfl, l, _, _, _, rfl, rfl, SqL.of hl3, er, .inl ⟨r, rfl, _, _, rfl, rfl, by show (0 : Int) < 9; decide, 2, (r % 9).toNat, 2, ?_, by decide, by decide, by omega, dd _ _ ⟨_, rfl, by omega, fun _ _ e => e⟩⟩⟩
      rw [Int.toNat_of_nonneg z.1]
      rfl
    rintro _ H4 ⟨j, rfl, hj, s4'⟩
    have hl4 := s4' _ _ hl3
    have hP : ∀ j < 9, (1 : Int) ≤ 2 ^ j ∧ (2 : Int) ^ j ≤ 256 := by decide
    obtain ⟨hP1, hP2⟩ := hP j hj
    have pw0 : Pow0 ((2 : Int) ^ j) := .inr ⟨j, rfl⟩
    generalize hPe : (2 : Int) ^ j = p at hP1 hP2 pw0 ⊢
    -- x
    refine seq_any (fun σ' H' => ∃ x : Int, σ' = [some (.ref l), some (.ref a), some (.ref d), some (.int (0 + (i : Int))), some (.ref o), some (.int A'), some (.int p), some (.int x), s9] ∧ (0 ≤ x ∧ x ≤ A' ∧ (A' : Int) < x + 2 * p) ∧ Same H4 H') (fun D' dd => ?_) ?_
    · obtain ⟨r, er⟩ := at_row ok (46 + (0 + (i : Int))) (by omega) (by omega)
      have hm : (0 : Int) < 2 * p := by omega
      have z := em_lt r hm
      refine ⟨_, rfl, _, rfl, _, rfl, _, _, rfl, rfl, l, _, _, _, rfl, rfl, SqL.of hl4, er, .inl ⟨r, rfl, _, rfl, _, _, rfl, rfl, .inl ⟨by decide, by decide⟩, _, _, rfl, rfl, hm, _, _, rfl, rfl, by show 2 ≤ sizeLine; decide, fun p1 n1 => ⟨p1, [0, A' - r % (2 * p)], rfl, SqL.of upd_same, by show 0 < 2; decide, fun m m1 m2 => ?_⟩⟩⟩
      have m3 := m2 0 (by simp)
      have m4 := m2 (A' - r % (2 * p)) (by simp)
      have m5 : m = 0 ∨ m = A' - r % (2 * p) := by simpa using m1
      exact dd _ _ ⟨m, rfl, by omega, same_new n1⟩
    rintro _ H5 ⟨x, rfl, ⟨x0, x1, x2⟩, s5'⟩
    have sm : Same H1 H5 := ((s2.trans s3).trans s4').trans s5'
    have ex5 : ExtN H H5 := ex1.trans (.of sm)
    have T5 : Tabs T H5 := T1.ext sm
    refine ⟨_, rfl, _, rfl, _, rfl, _, _, rfl, rfl, .inl ⟨by decide, by decide⟩, _, _, rfl, rfl, _, _, rfl, rfl, _, rfl, ite2 (fun _ => ?_) (fun _ => ⟨_, _, _, _, _, _, rfl, ex5, T5⟩)⟩
    have so := bd.ok
    refine ⟨_, rfl, a, L, rfl, up ex5 ha (fun _ z => by cases z), lok, fun H6 st dx s6' hst => ?_⟩
    refine ⟨st, dx, _, rfl, hst, st_no L (by decide +kernel) (by decide +kernel) (by decide +kernel) (by decide +kernel), _, rfl, o, Sg', rfl, s6' _ _ (((s3.trans s4').trans s5') _ _ ho), so, fun H7 sg dg s7' hsg => ⟨_, rfl, _, rfl, ?_⟩⟩
    have big := an.big
    refine ⟨st, dx, sg, dg, L, Sg', x, p, A', rfl, s7' _ _ hst, by rcases lok.last with e | e <;> omega, hsg, so, T5.ext (s6'.trans s7'), x0, hP1, x1, fun y hy => go_neg so an y hy, fun y y1 y2 => ⟨by omega, ⟨?_, fun k => ?_⟩⟩, by omega, fun t H8 rn dr tp hcl ex8 T8 hrn => ?_⟩
    · have e : (2 : Nat) ^ 140 + 2000 < 2 ^ 150 := by decide
      omega
    · have := an.log k
      omega
    · have ex8' : ExtN H H8 := (ex5.trans (.of (s6'.trans s7'))).trans ex8
      have hd8 : H8 d = some (.tup (xs.map V.int)) := up ex8' hd fun _ z => by cases z
      have hin : t + L.plus - A' ∈ xs := hxs _ (drawn_in lok so an pw0 x0 x1 x2 hcl)
      refine ⟨_, rfl, rn, CR, dr, _, _, rfl, hrn, S.cR, S.nTold, rn_told _ _, _, rfl, _, _, rfl, rfl, _, rfl, d, _, rfl, .inr (SqT.of hd8), rfl, flat_ints xs, _, rfl, ?_⟩
      rw [if_pos rfl, inV_int, decide_eq_true hin]
      exact iteF ⟨_, _, _, _, _, _, rfl, ex8', T8⟩
end
end T47

/-! law. -/
namespace T47
open PySem PySem.Spec PyProof.Rows L2 G47 M47 LamX

theorem sqL_ext {K : PySem.W.Frag} {H H' : Hp} {a : Addr} {xs : List V} (h : SqL K H a xs) (e : ExtN H H') : SqL K H' a xs := by
  rcases h with h | h
  · rcases h with h | ⟨o, h⟩
    · exact .inl (.inl (e _ _ h fun _ z => by cases z))
    · exact .inl (.inr ⟨o, e _ _ h fun _ z => by cases z⟩)
  · exact .inr h
/-! data -/
theorem dp_ints {K : PySem.W.Frag} {H : Hp} : ∀ xs : List Int, DpAll K H (xs.map V.int) (xs.map PyData.int)
  | [] => .nil
  | x :: xs => .cons (.int x) (dp_ints xs)
theorem lay_ints : ∀ xs : List Int, PyData.canLayAll0 (xs.map PyData.int) = true
  | [] => by simp [PyData.canLayAll0]
  | x :: xs => by
    have := lay_ints xs
    simp [PyData.canLayAll0, PyData.canLay0, this]
theorem dep_ints : ∀ xs : List Int, PyData.depthAll (xs.map PyData.int) = 0
  | [] => by simp [PyData.depthAll]
  | x :: xs => by
    have := dep_ints xs
    simp [PyData.depthAll, PyData.depth, this]
theorem eqv_ints : ∀ xs : List Int, PyData.eqvAll (xs.map PyData.int) (xs.map PyData.int) = true
  | [] => by simp [PyData.eqvAll]
  | x :: xs => by
    have := eqv_ints xs
    simp [PyData.eqvAll, PyData.eqv, this]
theorem sh_ints (xs : List Int) : SeqAt.shaped (.tuple (xs.map PyData.int)) = true := by
  unfold SeqAt.shaped
  simp [PyData.canLay0, PyData.depth, lay_ints, dep_ints]
def rowV (r : Row) : List V := [.int r.1, .int r.2.1, .bl r.2.2]
def rowD (r : Row) : PyData := .tuple [.int r.1, .int r.2.1, .bool r.2.2]
theorem dp_row {K : PySem.W.Frag} {H : Hp} {a : Addr} {r : Row} (h : H a = some (.tup (rowV r))) : Dp K H (.ref a) (rowD r) := .tup (SqT.of h) (.cons (.int _) (.cons (.int _) (.cons (.bl _) .nil)))
theorem sh_row (r : Row) : SeqAt.shaped (rowD r) = true := by
  unfold SeqAt.shaped rowD
  simp [PyData.canLay0, PyData.canLayAll0, PyData.depth, PyData.depthAll]
theorem eqv_row (r : Row) : PyData.eqv (rowD r) (rowD r) = true := by
  unfold rowD
  simp [PyData.eqv, PyData.eqvAll]
theorem dp_rows {K : PySem.W.Frag} {H : Hp} : ∀ bs : List (Addr × Row), (∀ b ∈ bs, H b.1 = some (.tup (rowV b.2))) → DpAll K H (bs.map fun b => V.ref b.1) (bs.map fun b => rowD b.2)
  | [], _ => .nil
  | b :: bs, h => .cons (dp_row (h b List.mem_cons_self)) (dp_rows bs fun x hx => h x (List.mem_cons_of_mem _ hx))
theorem sh_rows (bs : List (Addr × Row)) : SeqAt.shaped (.list (bs.map fun b => rowD b.2)) = true := by
  have h1 : ∀ bs : List (Addr × Row), PyData.canLayAll0 (bs.map fun b => rowD b.2) = true := fun bs => by
    induction bs with
    | nil => simp [PyData.canLayAll0]
    | cons b bs ih =>
      have z := sh_row b.2
      unfold SeqAt.shaped at z
      rw [Bool.and_eq_true] at z
      simp [PyData.canLayAll0, ih, z.1]
  have h2 : ∀ bs : List (Addr × Row), PyData.depthAll (bs.map fun b => rowD b.2) ≤ 1 := fun bs => by
    induction bs with
    | nil => simp [PyData.depthAll]
    | cons b bs ih =>
      have z : PyData.depth (rowD b.2) = 1 := by
        unfold rowD
        simp [PyData.depth, PyData.depthAll]
      rw [List.map_cons]
      simp only [PyData.depthAll, z]
      omega
  have z := h2 bs
  unfold SeqAt.shaped
  simp [PyData.canLay0, PyData.depth, h1]
  omega
theorem sh_nil : SeqAt.shaped (.list []) = true := by
  unfold SeqAt.shaped
  simp [PyData.canLay0, PyData.canLayAll0, PyData.depth, PyData.depthAll]
theorem sh_none : SeqAt.shaped .none = true := by
  unfold SeqAt.shaped
  simp [PyData.canLay0, PyData.depth]
theorem eqv_none : PyData.eqv .none .none = true := by simp [PyData.eqv]
theorem eqv_nil : PyData.eqv (.list []) (.list []) = true := by simp [PyData.eqv, PyData.eqvAll]
theorem eqv_cons (d : PyData) (ds : List PyData) : PyData.eqv (.list (d :: ds)) (.list []) = false := by simp [PyData.eqv, PyData.eqvAll]
/-- the first row that is off -/
theorem first_bad {L : Lp} {H : Hp} (ok : LpOk L) {es : List Ent} (hr : es.map (·.2.1) = rows5) (he : EntsOk L H es) {j : Nat} {r : Row} {v : Int} (h0 : ∀ i, i < j → ∀ r', rows6[i]? = some r' → ToldBy L r' 0) (hj : rows6[j]? = some r) (ht : ToldBy L r v) (hv : v ≠ 0) :
    ∃ e rest, es.filter (fun e => decide (e.2.2 ≠ 0)) = e :: rest ∧ e.2.1 = r := by
  have at_ : ∀ {i : Nat} {e : Ent}, es[i]? = some e → rows6[i]? = some e.2.1 ∧ i < 124 := fun {i e} hi => by
    have z : (es.map (·.2.1))[i]? = some e.2.1 := by rw [List.getElem?_map, hi]; rfl
    rw [hr, ← rows5_take] at z
    have z2 := (List.getElem?_eq_some_iff.mp z).1
    rw [List.length_take] at z2
    have hi2 : i < 124 := by omega
    rw [List.getElem?_take_of_lt hi2] at z
    exact ⟨z, hi2⟩
  obtain ⟨r', hr', ht'⟩ := (rows_set ok (v := v)).mp ⟨r, List.mem_of_getElem? hj, ht⟩
  obtain ⟨e', he', ee'⟩ := List.mem_map.mp (hr ▸ hr' : r' ∈ es.map (·.2.1))
  have hne : e'.2.2 ≠ 0 := by
    have := toldBy_one (he.told e' he') (by rw [ee']; exact ht')
    rw [this]
    exact hv
  have hs : (es.find? fun e => decide (e.2.2 ≠ 0)).isSome := by
    rw [List.find?_isSome]
    exact ⟨e', he', decide_eq_true hne⟩
  obtain ⟨e, hf⟩ := Option.isSome_iff_exists.mp hs
  obtain ⟨pe, as, bs, eas, hp⟩ := List.find?_eq_some_iff_append.mp hf
  have pe := of_decide_eq_true pe
  have hfil : as.filter (fun e => decide (e.2.2 ≠ 0)) = [] := by
    rw [List.filter_eq_nil_iff]
    intro x hx
    have := hp x hx
    simpa using this
  refine ⟨e, bs.filter fun e => decide (e.2.2 ≠ 0), ?_, ?_⟩
  · rw [eas, List.filter_append, hfil, List.nil_append, List.filter_cons_of_pos (by simpa using pe)]
  · have hei : es[as.length]? = some e := by
      rw [eas, List.getElem?_append_right (Nat.le_refl _), Nat.sub_self]
      rfl
    obtain ⟨q1, q2⟩ := at_ hei
    have tb := he.told e (List.mem_of_getElem? hei)
    rcases Nat.lt_trichotomy as.length j with z | z | z
    · exact absurd (toldBy_one tb (h0 _ z _ q1)) pe
    · rw [z, hj] at q1
      exact (Option.some.inj q1).symm
    · have hjl : j < es.length := by rw [eas, List.length_append]; omega
      have hej : es[j]? = some es[j] := List.getElem?_eq_getElem hjl
      have q3 := (at_ hej).1
      rw [hj] at q3
      have hin : es[j] ∈ as := by
        have : es[j]? = as[j]? := by rw [eas, List.getElem?_append_left z]
        rw [hej] at this
        exact List.mem_of_getElem? this.symm
      have z0 : es[j].2.2 = 0 := by
        have := hp _ hin
        simpa using this
      have tb2 := he.told _ (List.mem_of_getElem? hej)
      rw [z0, ← Option.some.inj q3] at tb2
      exact absurd (toldBy_one ht tb2) hv
theorem none_bad {L : Lp} {H : Hp} {es : List Ent} (hr : es.map (·.2.1) = rows5) (he : EntsOk L H es) (h : ∀ r ∈ rows6, ToldBy L r 0) : es.filter (fun e => decide (e.2.2 ≠ 0)) = [] := by
  rw [List.filter_eq_nil_iff]
  intro e hm
  have z : e.2.1 ∈ rows5 := hr ▸ List.mem_map.mpr ⟨e, hm, rfl⟩
  rw [← rows5_take] at z
  have := toldBy_one (he.told e hm) (h _ (List.mem_of_mem_take z))
  simp [this]
end T47

/-! law, walked. -/
namespace T47
open PySem PySem.Spec PyProof.Rows L2 G47 M47 LamX

theorem inc_unique : ∀ {xs ys : List Int}, xs.Pairwise (· < ·) → ys.Pairwise (· < ·) → (∀ v, v ∈ xs ↔ v ∈ ys) → xs = ys
  | [], [], _, _, _ => rfl
  | [], y :: ys, _, _, h => absurd ((h y).mpr List.mem_cons_self) (by simp)
  | x :: xs, [], _, _, h => absurd ((h x).mp List.mem_cons_self) (by simp)
  | x :: xs, y :: ys, hx, hy, h => by
    rw [List.pairwise_cons] at hx hy
    have e : x = y := by
      rcases List.mem_cons.mp ((h x).mp List.mem_cons_self) with z | z
      · exact z
      · rcases List.mem_cons.mp ((h y).mpr List.mem_cons_self) with z2 | z2
        · exact z2.symm
        · have := hx.1 _ z2
          have := hy.1 _ z
          omega
    subst e
    rw [inc_unique hx.2 hy.2 fun v => ?_]
    constructor
    · intro hv
      rcases List.mem_cons.mp ((h v).mp (List.mem_cons_of_mem _ hv)) with z | z
      · have := hx.1 _ hv
        omega
      · exact z
    · intro hv
      rcases List.mem_cons.mp ((h v).mpr (List.mem_cons_of_mem _ hv)) with z | z
      · have := hy.1 _ hv
        omega
      · exact z
theorem strict {xs : List Int} (h : xs.Pairwise (· ≤ ·)) (n : xs.Nodup) : xs.Pairwise (· < ·) := (List.pairwise_and_iff.mpr ⟨h, n⟩).imp fun ⟨a, b⟩ => by omega
theorem eqv_tup (xs : List Int) : PyData.eqv (.tuple (xs.map PyData.int)) (.tuple (xs.map PyData.int)) = true := by
  simp [PyData.eqv, eqv_ints]
theorem rows5_len : rows5.length = 124 := by decide +kernel
theorem ents_due {L : Lp} {H : Hp} {es : List Ent} (hr : es.map (·.2.1) = rows5) (he : EntsOk L H es) (v : Int) : (∃ e ∈ es, e.2.2 = v) ↔ ∃ r ∈ rows5, ToldBy L r v := by
  constructor
  · rintro ⟨e, hm, rfl⟩
    exact ⟨e.2.1, hr ▸ List.mem_map.mpr ⟨e, hm, rfl⟩, he.told e hm⟩
  · rintro ⟨r, hm, ht⟩
    obtain ⟨e, he', ee⟩ := List.mem_map.mp (hr ▸ hm : r ∈ es.map (·.2.1))
    exact ⟨e, he', toldBy_one (he.told e he') (by rw [ee]; exact ht)⟩

section
variable {P : Program} {w : World} {K : PySem.W.Frag} {mg : Str → Option Value} {base : Heap} {CS CR CT : Addr} {T : List (Addr × Str)}
abbrev sLaw : Stmt := top 49
abbrev nLaw : List Str := ["_law_script", "_law_k", "_law_row_here", "_law_parts", "_law_rows", "_law_due", "_law_told", "_law_found", "_law_bad", "_law_one"]
theorem sc_law : FnScope nLaw ["_law_script"] (C8.fnScope sLaw) := C8.fnScope_by (by decide +kernel)
def lcSc2 : Scope := { kind := .function, names := [(".0", .local), ("_law_one", .local)], isGenerator := false, isCoroutine := false }
theorem blk_law : BlkOk nLaw (C8.fnScope sLaw) lcSc2 [("_law_one", 9)] := blkOk_by (by decide +kernel)
def spLaw (K : PySem.W.Frag) (T : List (Addr × Str)) : Sp := fun vs H Q _ => ∃ (a : Addr) (ns : List Int), vs = [.ref a] ∧ SqL K H a (ns.map V.int) ∧ Tabs T H ∧ ∀ H', Q (.bl true) H'
theorem law_fn {f : Addr} {fd : FuncData} (D : C8.Fun K "law" "law" sLaw f fd) (B : Blt mg) (c1 : C8.Cal P w K mg base 1 "_law_cell_at" (spCellAt K) []) (c2 : C8.Cal P w K mg base 1 "_law_apart" spApart []) (c3 : C8.Cal P w K mg base 2 "_law_row" spRow [])
    (c4 : C8.Cal P w K mg base 1 "_law_drawn_steps" spDSteps []) (c5 : C8.Cal P w K mg base 2 "_law_climbs" spClimbs []) (c6 : C8.Cal P w K mg base 1 "_law_all_told" spAllTold []) (c7 : C8.Cal P w K mg base 6 "_law_steps" (spLSteps CS) [])
    (c8 : C8.Cal P w K mg base 8 "steps_tells" (spTells CS T) []) (c9 : C8.Cal P w K mg base 8 "steps_fault" (spFault CS T) []) (c10 : C8.Cal P w K mg base 8 "_law_is_told" (spIsTold T) []) : FnOk P w K mg base C8.CX0 9 f fd ["_law_script"] (spLaw K T) := by
  refine C8.fn0 D sc_law (fun vs H Q E h => ?_) (fun cdv A outer s H vs Q E hr h => ?_)
  · obtain ⟨a, ns, rfl, _⟩ := h
    rfl
  · obtain ⟨a, ns, rfl, ha, hT, q⟩ := h
    have nd := sc_law.nd
    have hu := hr.units
    refine ⟨_, pss_cons (ps_for PassesOwn.never rfl (pi_range1 rfl B.range (pa_cons pe_int pa_nil)) (pg_name (i := 1) nd rfl (Or.inl rfl))
        (pss_cons (ps_set (i := 2) nd rfl (Or.inl rfl) (C8.pe_c c3 hr (by decide) rfl (pa_cons (C8.pe_c c2 hr (by decide) rfl (pa_cons (C8.pe_c c1 hr (by decide) rfl (pa_cons (pv 0) (pa_cons (pv 1) pa_nil))) (pa_cons (pv 1) pa_nil))) (pa_cons pe_int pa_nil))))
        (pss_cons (ps_set (i := 3) nd rfl (Or.inl rfl) (C8.pe_c c4 hr (by decide) rfl (pa_cons (pv 2) (pa_cons pe_int pa_nil))))
        (pss_cons (ps_set (i := 4) nd rfl (Or.inl rfl) (C8.pe_c c5 hr (by decide) rfl (pa_cons (pv 3) (pa_cons pe_int pa_nil))))
        (pss_cons (ps_set (i := 5) nd rfl (Or.inl rfl) (C8.pe_c c6 hr (by decide) rfl (pa_cons (pv 4) pa_nil)))
        (pss_cons (ps_par (i := 6) (j := 7) rfl nd rfl rfl (by decide) rfl rfl (pa_cons (C8.pe_c c8 hr (by decide) rfl (pa_cons (C8.pe_c c7 hr (by decide) rfl (pa_cons (pv 3) pa_nil)) pa_nil)) (pa_cons (C8.pe_c c9 hr (by decide) rfl (pa_cons (C8.pe_c c7 hr (by decide) rfl (pa_cons (pv 3) pa_nil)) pa_nil)) pa_nil)) rfl)
        (pss_cons (ps_if (PW.pt (pw_or (pt_cmpR (op_neD hu) (pv 6) (pv 5) (nomark _)) (pw_or (pt_not (pt_val (pe_callB call_isi rfl B.isinstance b_isinstance (pa_cons (pv 6) (pa_cons (pe_bltn (v := .ty "tuple") rfl B.tuple b_tuple rfl) pa_nil)))))
            (pw_or1 (pt_not (pt_val (C8.pe_c c10 hr (by decide) rfl (pa_cons (pv 2) (pa_cons (pv 3) (pa_cons (pv 5) pa_nil)))))))))) (pss_one (ps_ret pe_bl)) pss_nil)
        (pss_cons (ps_setLc (i := 8) (tt := tTest (tOp rNe (tOp (rIxT K) (tVar 9) (tC (.int 3))) (tC (.int 0)))) (te := tSl (rSlT K) (tVar 9) tNoPart (tPart (tC (.int 3)))) rfl nd rfl rfl rfl (pi_list (pv 4)) blk_law (fun _ _ _ _ _ => pg_name (i := 9) nd rfl (Or.inl rfl))
            (fun _ _ _ _ _ => pts_one (pt_cmpR op_ne (pe_ix ix_tup (pv 9) pe_int (fun _ _ => rfl)) pe_int (nomark _))) (fun _ _ _ _ _ => pe_slice sl_tup (pv 9) po_none (po_some pe_int)))
        (pss_cons (ps_if (pt_cmpR (op_neD hu) (pv 7) (pe_ifExp (pt_cmpR (op_neD hu) (pv 8) (pe_lst pa_nil) (nomark _)) (pe_ix ix_list (pv 8) pe_int (fun _ _ => rfl)) pe_non) (nomark _)) (pss_one (ps_ret pe_bl)) pss_nil)
        (pss_one (ps_if (PW.pt (pw_and (pt_cmpR op_notN (pv 7) pe_non (nomark _)) (pw_and1 (pt_not (pt_val (pe_callB call_isi rfl B.isinstance b_isinstance (pa_cons (pe_ix ix_tup (pv 7) pe_int (fun _ _ => rfl)) (pa_cons (pe_bltn (v := .ty "bool") rfl B.bool b_bool rfl) pa_nil))))))))
          (pss_one (ps_ret pe_bl)) pss_nil)))))))))))
      (pss_one (ps_ret pe_bl)), ?_⟩
    refine ⟨6, rfl, by decide, by decide, for_range (n := 6) (fun i σ H' => ∃ s1 s2 s3 s4 s5 s6 s7 s8 s9, σ = [some (.ref a), s1, s2, s3, s4, s5, s6, s7, s8, s9] ∧ ExtN H H' ∧ Tabs T H') ⟨none, none, none, none, none, none, none, none, none, rfl, .refl _, hT⟩ ?_ fun σ H' ⟨_, _, _, _, _, _, _, _, _, _, _, _⟩ => q H'⟩
    rintro i σ H1 hi ⟨s1, s2, s3, s4, s5, s6, s7, s8, s9, rfl, ex1, T1⟩
    -- the row
    refine seq_any (fun σ' H' => ∃ (R : List Int) (l : Addr), σ' = [some (.ref a), some (.int (0 + (i : Int))), some (.ref l), s3, s4, s5, s6, s7, s8, s9] ∧ RowOk R ∧ Same H1 H' ∧ H' l = some (.lst (R.map V.int))) (fun D' dd => ⟨_, rfl, _, rfl, a, ns, i, by rw [Int.zero_add]; rfl, sqL_ext ha ex1, fun c => ⟨_, rfl, c, _, rfl, fun r => ⟨r, rfl, fun R H' l ok sm hl => dd _ _ ⟨R, l, rfl, ok, sm, hl⟩⟩⟩⟩) ?_
    rintro _ H2 ⟨R, l, rfl, ok, sm2, hl2⟩
    -- the loop
    refine seq_any (fun σ' H' => ∃ (L : Lp) (p : Addr), σ' = [some (.ref a), some (.int (0 + (i : Int))), some (.ref l), some (.ref p), s4, s5, s6, s7, s8, s9] ∧ LpOk L ∧ Same H2 H' ∧ H' p = some (.lst L.vs)) (fun D' dd => ⟨_, rfl, l, R, rfl, hl2, ok, fun L H' p lok sm hp => dd _ _ ⟨L, p, rfl, lok, sm, hp⟩⟩) ?_
    rintro _ H3 ⟨L, p, rfl, lok, sm3, hp3⟩
    -- the rows
    refine seq_any (fun σ' H' => ∃ (es : List Ent) (t : Addr), σ' = [some (.ref a), some (.int (0 + (i : Int))), some (.ref l), some (.ref p), some (.ref t), s5, s6, s7, s8, s9] ∧ es.map (·.2.1) = rows5 ∧ EntsOk L H' es ∧ Same H3 H' ∧ H' t = some (.lst (es.map fun e => .ref e.1))) (fun D' dd => ⟨_, rfl, p, L, rfl, hp3, lok, fun es H' t h1 h2 h3 h4 => dd _ _ ⟨es, t, rfl, h1, h2, h3, h4⟩⟩) ?_
    rintro _ H4 ⟨es, t, rfl, hes, eok, sm4, ht4⟩
    have elen : es.length ≤ 1000 := by
      have z := congrArg List.length hes
      rw [List.length_map, rows5_len] at z
      omega
    -- the due numbers
    refine seq_any (fun σ' H' => ∃ (xs : List Int) (d : Addr), σ' = [some (.ref a), some (.int (0 + (i : Int))), some (.ref l), some (.ref p), some (.ref t), some (.ref d), s6, s7, s8, s9] ∧ xs.Pairwise (· ≤ ·) ∧ xs.Nodup ∧ (∀ v, v ∈ xs ↔ ∃ e ∈ es, e.2.2 = v) ∧ Same H4 H' ∧ H' d = some (.tup (xs.map V.int))) (fun D' dd => ⟨_, rfl, t, L, es, rfl, ht4, eok, elen, fun xs H' d h1 h2 h3 h4 h5 => dd _ _ ⟨xs, d, rfl, h1, h2, h3, h4, h5⟩⟩) ?_
    rintro _ H5 ⟨xs, d, rfl, pw1, nd1, mem1, sm5, hd5⟩
    have T5 : Tabs T H5 := T1.ext (((sm2.trans sm3).trans sm4).trans sm5)
    have ex5 : ExtN H H5 := ex1.trans (.of (((sm2.trans sm3).trans sm4).trans sm5))
    have hp5 := (sm4.trans sm5) _ _ hp3
    have hl1 : 1 ≤ L.last := by rcases lok.last with e | e <;> omega
    have due : ∀ v, v ∈ xs ↔ ∃ r ∈ rows5, ToldBy L r v := fun v => (mem1 v).trans (ents_due hes eok v)
    have ul : ∀ {H6 H7 : Hp} {b : Addr} {xs : List V}, ExtN H6 H7 → H6 b = some (.lst xs) → H7 b = some (.lst xs) := fun x e => x _ _ e fun _ z => by cases z
    have ut : ∀ {H6 H7 : Hp} {b : Addr} {xs : List V}, ExtN H6 H7 → H6 b = some (.tup xs) → H7 b = some (.tup xs) := fun x e => x _ _ e fun _ z => by cases z
    -- told, found
    refine seq_any (fun σ' H' => ∃ (tq : Addr) (fv : V), σ' = [some (.ref a), some (.int (0 + (i : Int))), some (.ref l), some (.ref p), some (.ref t), some (.ref d), some (.ref tq), some fv, s8, s9] ∧ H' tq = some (.tup (xs.map V.int)) ∧ ExtN H5 H' ∧ Tabs T H' ∧
      ((fv = .non ∧ ∀ r ∈ rows6, ToldBy L r 0) ∨ ∃ (q : Addr) (j : Nat) (r : Row) (v : Int), fv = .ref q ∧ H' q = some (.tup (rowV r)) ∧ (∀ i, i < j → ∀ r', rows6[i]? = some r' → ToldBy L r' 0) ∧ rows6[j]? = some r ∧ ToldBy L r v ∧ v ≠ 0)) (fun D' dd => ?_) ?_
    · refine ⟨_, rfl, p, L, rfl, hp5, lok, fun H6 st dx sm6 hst => ⟨st, dx, L, rfl, hst, hl1, T5.ext sm6, fun ys H7 tq pw2 nd2 mem2 ex7 T7 htq => ?_⟩⟩
      have exs : ExtN H5 H7 := (ExtN.of sm6).trans ex7
      have eq : ys = xs := inc_unique (strict pw2 nd2) (strict pw1 nd1) fun v => by rw [mem2, due, rows_set lok]
      subst eq
      refine ⟨_, rfl, p, L, rfl, ul exs hp5, lok, fun H8 st2 dx2 sm8 hst2 => ⟨st2, dx2, L, rfl, hst2, hl1, T7.ext sm8, fun H9 hall ex9 T9 => ?_, fun H9 q j r v h0 hj htl hv ex9 T9 hq => ?_⟩⟩
      · have exn : ExtN H7 H9 := (ExtN.of sm8).trans ex9
        exact ⟨_, _, rfl, dd _ _ ⟨tq, _, rfl, ut exn htq, exs.trans exn, T9, .inl ⟨rfl, hall⟩⟩⟩
      · have exn : ExtN H7 H9 := (ExtN.of sm8).trans ex9
        exact ⟨_, _, rfl, dd _ _ ⟨tq, _, rfl, ut exn htq, exs.trans exn, T9, .inr ⟨q, j, r, v, rfl, hq, h0, hj, htl, hv⟩⟩⟩
    rintro _ H6 ⟨tq, fv, rfl, htq, ex6, T6, hfv⟩
    have hd6 := ut ex6 hd5
    have ht6 := ul ex6 (sm5 _ _ ht4)
    have hp6 := ul ex6 hp5
    have hl6 := ul ex6 (((sm3.trans sm4).trans sm5) _ _ hl2)
    -- the first test
    refine seq_any (fun σ' H' => σ' = [some (.ref a), some (.int (0 + (i : Int))), some (.ref l), some (.ref p), some (.ref t), some (.ref d), some (.ref tq), some fv, s8, s9] ∧ ExtN H6 H' ∧ Tabs T H') (fun D' dd => ?_) ?_
    · refine ⟨_, rfl, _, rfl, _, _, .tup (SqT.of htq) (dp_ints xs), .tup (SqT.of hd6) (dp_ints xs), sh_ints xs, sh_ints xs, _, rfl, ?_⟩
      rw [eqv_tup]
      refine iteF ⟨_, rfl, _, _, _, _, true, rfl, .ty _, .base (.tup htq), kit_ty k_tup_tup, true, rfl, iteF ?_⟩
      exact ⟨_, rfl, _, rfl, _, rfl, l, p, d, R, L, xs, rfl, hl6, ok, hp6, lok, hd6, fun v hv => (due v).mpr (in_due lok hv), T6, fun H' ex T' => ⟨true, rfl, iteF (dd _ _ ⟨rfl, ex, T'⟩)⟩⟩
    rintro _ H7 ⟨rfl, ex7, T7⟩
    have ht7 := ul ex7 ht6
    have eok7 : ∀ e ∈ es, H7 e.1 = some (.tup (entV e)) := fun e he => ut (ex6.trans ex7) (sm5 _ _ (eok.at_ e he))
    -- the bad rows
    refine seq_any (fun σ' H' => ∃ (b : Addr) (bs : List (Addr × Row)), σ' = [some (.ref a), some (.int (0 + (i : Int))), some (.ref l), some (.ref p), some (.ref t), some (.ref d), some (.ref tq), some fv, some (.ref b), s9] ∧ H' b = some (.lst (bs.map fun x => .ref x.1)) ∧ (∀ x ∈ bs, H' x.1 = some (.tup (rowV x.2))) ∧ bs.map (·.2) = (es.filter fun e => decide (e.2.2 ≠ 0)).map (·.2.1) ∧ Same H7 H') (fun D' dd => ?_) ?_
    · have get : ∀ {i : Nat} {x : V}, (es.map fun e => V.ref e.1)[i]? = some x → ∃ e, es[i]? = some e ∧ x = .ref e.1 := fun {i x} h => by
        rw [List.getElem?_map] at h
        obtain ⟨e, h1, h2⟩ := Option.map_eq_some_iff.mp h
        exact ⟨e, h1, h2.symm⟩
      refine ⟨_, rfl, t, rfl, ⟨_, SqL.of ht7⟩, fun D hD => ?_⟩
      refine lc_list (K := K) (a := t) (xs := es.map fun e => V.ref e.1) (fun i H' => Same H7 H' ∧ ∃ bs : List (Addr × Row), H' D = some (.lst (bs.map fun x => .ref x.1)) ∧ (∀ x ∈ bs, H' x.1 = some (.tup (rowV x.2))) ∧ bs.map (·.2) = ((es.take i).filter fun e => decide (e.2.2 ≠ 0)).map (·.2.1) ∧ bs.length ≤ i)
        ⟨same_new hD, [], upd_same, fun _ z => (nomatch z), rfl, Nat.le_refl _⟩ (fun i H' _ z => SqL.of (z.1 _ _ ht7)) ?_ ?_
      · rintro i' x H8 hx ⟨s8', bs, hb, hbs, ebs, hbl⟩
        obtain ⟨e, he, rfl⟩ := get hx
        have hie : i' < es.length := (List.getElem?_eq_some_iff.mp he).1
        have het := s8' _ _ (eok7 e (List.mem_of_getElem? he))
        have tk := take_next he
        refine ⟨rfl, _, rfl, e.1, _, _, .int e.2.2, rfl, rfl, SqT.of het, rfl, rfl, _, rfl, ?_⟩
        by_cases hz : e.2.2 = 0
        · rw [decide_eq_true (show V.int e.2.2 = V.int 0 by rw [hz])]
          refine iteF ⟨s8', bs, hb, hbs, ?_, by omega⟩
          rw [tk, List.filter_append, ebs, List.filter_cons_of_neg (by simp [hz]), List.filter_nil, List.append_nil]
        · rw [decide_eq_false (show ¬ V.int e.2.2 = V.int 0 from fun z => hz (by injection z))]
          refine iteT ⟨_, rfl, 3, rfl, e.1, _, rfl, SqT.of het, by show ¬ (HT.sIx 4 0 none = 0 ∧ HT.sIx 4 4 (some 3) = 4); decide, fun tt htt => ⟨_, same_new htt _ _ hb, by rw [List.length_map, sizeLine_eq]; omega, ?_⟩⟩
          have nD : ∀ {b : Addr} {o : HO}, H8 b = some o → (∀ xs, o ≠ .lst xs) → b ≠ D := fun {b o} e n z => by
            rw [z, hb] at e
            exact n _ (Option.some.inj e).symm
          have nt : tt ≠ D := fun z => by
            rw [z, hb] at htt
            cases htt
          refine ⟨fun b' o' e' => ?_, bs ++ [(tt, e.2.1)], ?_, fun x hx => ?_, ?_, by rw [List.length_append]; show bs.length + 1 ≤ _; omega⟩
          · rw [upd_ne (ne_of_none e' hD)]
            exact same_new htt _ _ (s8' _ _ e')
          · rw [List.map_append]
            exact upd_same
          · rcases List.mem_append.mp hx with z | z
            · have y := hbs x z
              rw [upd_ne (nD y fun _ q => by cases q)]
              exact same_new htt _ _ y
            · rw [List.mem_singleton.mp z, upd_ne nt]
              exact upd_same
          · rw [tk, List.filter_append, List.map_append, List.map_append, ebs, List.filter_cons_of_pos (by simp [hz]), List.filter_nil]
            rfl
      · rintro H8 ⟨s8', bs, hb, hbs, ebs, hbl⟩
        rw [List.length_map, List.take_length] at ebs
        exact dd _ _ ⟨D, bs, rfl, hb, hbs, ebs, s8'⟩
    rintro _ H8 ⟨b, bs, rfl, hb8, hbs, ebs, sm8⟩
    have ex8 : ExtN H5 H8 := (ex6.trans ex7).trans (.of sm8)
    have T8 := T7.ext sm8
    rcases hfv with ⟨rfl, hall⟩ | ⟨fq, j, r, v, rfl, hfq, h0, hj, htl, hv⟩
    · have hbe : bs = [] := by
        rw [none_bad hes eok hall] at ebs
        exact List.map_eq_nil_iff.mp ebs
      subst hbe
      refine seq_any (fun σ' H' => σ' = [some (.ref a), some (.int (0 + (i : Int))), some (.ref l), some (.ref p), some (.ref t), some (.ref d), some (.ref tq), some .non, some (.ref b), s9] ∧ ExtN H5 H' ∧ Tabs T H') (fun D' dd => ?_) ?_
      · refine ⟨_, rfl, _, rfl, Nat.zero_le _, fun p1 n1 => ⟨.list [], .list [], .lst (SqL.of (same_new n1 _ _ hb8)) .nil, .lst (SqL.of upd_same) .nil, sh_nil, sh_nil, _, rfl, ?_⟩⟩
        rw [eqv_nil]
        refine iteF ⟨.none, .none, .non, .non, sh_none, sh_none, _, rfl, ?_⟩
        rw [eqv_none]
        exact iteF (dd _ _ ⟨rfl, ex8.trans (.of (same_new n1)), T8.ext (same_new n1)⟩)
      rintro _ H9 ⟨rfl, ex9, T9⟩
      refine ⟨_, rfl, rfl, _, rfl, ?_⟩
      rw [decide_eq_true rfl]
      exact iteF (iteF ⟨_, _, _, _, _, _, _, _, _, rfl, ex5.trans ex9, T9⟩)
    · obtain ⟨e, rest, hfil, her⟩ := first_bad lok hes eok h0 hj htl hv
      rw [hfil] at ebs
      obtain ⟨b0, bs', rfl⟩ : ∃ b0 bs', bs = b0 :: bs' := by
        cases bs with
        | nil => cases ebs
        | cons b0 bs' => exact ⟨b0, bs', rfl⟩
      have hb0 : b0.2 = r := by
        rw [List.map_cons, List.map_cons] at ebs
        exact (List.cons.inj ebs).1.trans her
      have hb0r := hbs b0 List.mem_cons_self
      rw [hb0] at hb0r
      have hf8 := ut (ex7.trans (.of sm8)) hfq
      refine seq_any (fun σ' H' => σ' = [some (.ref a), some (.int (0 + (i : Int))), some (.ref l), some (.ref p), some (.ref t), some (.ref d), some (.ref tq), some (.ref fq), some (.ref b), s9] ∧ Same H8 H') (fun D' dd => ?_) ?_
      · refine ⟨_, rfl, _, rfl, Nat.zero_le _, fun p1 n1 => ⟨_, .list [], .lst (SqL.of (same_new n1 _ _ hb8)) (dp_rows _ fun x hx => same_new n1 _ _ (hbs x hx)), .lst (SqL.of upd_same) .nil, sh_rows _, sh_nil, _, rfl, ?_⟩⟩
        rw [List.map_cons, eqv_cons]
        refine iteT ⟨_, rfl, b, _, 0, .ref b0.1, rfl, rfl, SqL.of (same_new n1 _ _ hb8), atI_nat (j := 0) rfl, ?_⟩
        refine ⟨rowD r, rowD r, dp_row (same_new n1 _ _ hf8), dp_row (same_new n1 _ _ hb0r), sh_row r, sh_row r, _, rfl, ?_⟩
        rw [eqv_row]
        exact iteF (dd _ _ ⟨rfl, same_new n1⟩)
      rintro _ H9 ⟨rfl, sm9⟩
      refine ⟨_, rfl, rfl, _, rfl, ?_⟩
      rw [decide_eq_false (show ¬ V.ref fq = V.non from fun z => by cases z)]
      refine iteT ⟨_, rfl, fq, _, 2, _, rfl, rfl, SqT.of (sm9 _ _ hf8), rfl, _, _, _, _, true, rfl, .ty _, .base (.bl _), kit_ty k_bool_bool, true, rfl, iteF ?_⟩
      exact ⟨_, _, _, _, _, _, _, _, _, rfl, ex5.trans (ex8.trans (.of sm9)), T8.ext sm9⟩
end
end T47

/-! What the top has written, put together. -/
namespace T47
open PySem PySem.Spec PyProof.Rows L2 G47 M47 LamX

section
variable {K : PySem.W.Frag} {mg : Str → Option Value} {h : Heap}
theorem fun_mk {x qual : Str} {st : Stmt} {f : Addr} {oc kV doc pm cdv ct : Value} {od an : Option Addr} {sl : Array (Option Value)} (l : K.lookup f = some ⟨oc, od, .func (PySem.W.fnOf x qual (C8.fnArgs st) (C8.fnBody st) (C8.fnScope st) .none kV doc pm an cdv ct), sl⟩) (c : PySem.W.codeIn K cdv qual = true) :
    C8.Fun K x qual st f (PySem.W.fnOf x qual (C8.fnArgs st) (C8.fnBody st) (C8.fnScope st) .none kV doc pm an cdv ct) := ⟨⟨oc, od, .none, kV, doc, pm, an, cdv, ct, sl, rfl, l, c⟩⟩
/-- the arguments go to the parameters -/
abbrev BindOk (x qual : Str) (st : Stmt) (ps : List Str) : Prop := ∀ (kV doc pm : Value) (an : Option Addr) (cdv ct : Value) (us : List Value), us.length = ps.length → bindArgs (PySem.W.fnOf x qual (C8.fnArgs st) (C8.fnBody st) (C8.fnScope st) .none kV doc pm an cdv ct) ⟨us, []⟩ = pure (ps.zip us)
theorem dfn_mk {x : Str} {st : Stmt} {ps : List Str} {f : Addr} {oc kV doc pm cdv ct : Value} {od an : Option Addr} {sl : Array (Option Value)} (X : K.In h) (G : h.Ns mainGlobals mg) (b : BindOk x x st ps) (a : PySem.W.nsIn K mainGlobals x = some (some (.ref f)))
    (l : K.lookup f = some ⟨oc, od, .func (PySem.W.fnOf x x (C8.fnArgs st) (C8.fnBody st) (C8.fnScope st) .none kV doc pm an cdv ct), sl⟩) (c : PySem.W.codeIn K cdv x = true) (k : PySem.W.keepIn K (.ref f) = true) : Dfn K mg x st ps :=
  ⟨f, _, ⟨fun_mk l c, PySem.W.mg_of X G a, k⟩, (fun_mk l c).binds rfl b⟩
theorem mfn_mk {C : Addr} {m qual : Str} {st : Stmt} {ps : List Str} {f : Addr} {oc kV doc pm cdv ct : Value} {od an : Option Addr} {sl : Array (Option Value)} (cl : Cls K C) (b : BindOk m qual st ps) (a : PySem.W.findIn K (.ref C) m = some (some (.ref f))) (i : PySem.W.isFn K (.ref f) = true)
    (l : K.lookup f = some ⟨oc, od, .func (PySem.W.fnOf m qual (C8.fnArgs st) (C8.fnBody st) (C8.fnScope st) .none kV doc pm an cdv ct), sl⟩) (c : PySem.W.codeIn K cdv qual = true) (k : PySem.W.keepIn K (.ref f) = true) : Mfn K C m qual st ps :=
  ⟨f, _, cl, ⟨a, i, k⟩, fun_mk l c, (fun_mk l c).binds rfl b⟩
theorem ifn_mk {x qual : Str} {C : Addr} {st : Stmt} {ps : List Str} {f : Addr} {oc kV doc pm cdv ct : Value} {od an : Option Addr} {sl : Array (Option Value)} (cl : Cls K C) (hm : mg x = some (.ref C)) (b : BindOk "__init__" qual st ps) (mk : PySem.W.makesIn K C = true) (a : PySem.W.findIn K (.ref C) "__init__" = some (some (.ref f))) (i : PySem.W.isFn K (.ref f) = true) (kc : PySem.W.keepIn K (.ref C) = true)
    (l : K.lookup f = some ⟨oc, od, .func (PySem.W.fnOf "__init__" qual (C8.fnArgs st) (C8.fnBody st) (C8.fnScope st) .none kV doc pm an cdv ct), sl⟩) (c : PySem.W.codeIn K cdv qual = true) : Ifn K mg x qual C st ps :=
  ⟨f, _, cl, ⟨mk, a, i, kc⟩, hm, fun_mk l c, (fun_mk l c).binds rfl b⟩
theorem cls_mk {x : Str} {C : Addr} (X : K.In h) (m : mg x = some (.ref C)) (pg : PySem.W.plainGet K C Str.empty = true) (hd : PySem.W.hasDictIn K C = true) (po : PySem.W.plainOver K C = true) (sa : PySem.W.findIn K (.ref C) "__setattr__" = some (some (.builtin "object.__setattr__"))) : Cls K C := ⟨pg, hd, po, sa⟩
theorem clsS_mk {CS CR : Addr} (c1 : Cls K CS) (c2 : Cls K CR) (n1 : PySem.W.findIn K (.ref CS) "test" = some none) (n2 : PySem.W.findIn K (.ref CS) "after" = some none) (n3 : PySem.W.findIn K (.ref CS) "last" = some none) (n4 : PySem.W.findIn K (.ref CS) "plus" = some none)
    (n5 : PySem.W.findIn K (.ref CR) "places" = some none) (n6 : PySem.W.findIn K (.ref CR) "told" = some none) : ClsS K CS CR := ⟨c1, c2, n1, n2, n3, n4, n5, n6⟩
theorem clsT_mk {CT : Addr} (c1 : Cls K CT) (n1 : PySem.W.findIn K (.ref CT) "kind" = some none) (n2 : PySem.W.findIn K (.ref CT) "by" = some none) (n3 : PySem.W.findIn K (.ref CT) "n" = some none) : ClsT K CT := ⟨c1, n1, n2, n3⟩
theorem two_mk {tT : Addr} {od : Option Addr} {n : Nat} {sl : Array (Option Value)} {a b : Str} {t1 t2 : Tok} (l : K.lookup tT = some ⟨.type "tuple", od, .seq #[.str a t1, .str b t2] n, sl⟩) (H : Hp) : SqT K H tT [.str a, .str b] :=
  .inr ⟨_, _, n, l, rfl, rfl, by show 2 ≤ sizeLine; decide, .cons ⟨_, rfl⟩ (.cons ⟨_, rfl⟩ .nil)⟩
theorem three_mk {tT : Addr} {od : Option Addr} {n : Nat} {sl : Array (Option Value)} {a b c : Str} {t1 t2 t3 : Tok} (l : K.lookup tT = some ⟨.type "tuple", od, .seq #[.str a t1, .str b t2, .str c t3] n, sl⟩) (H : Hp) : SqT K H tT [.str a, .str b, .str c] :=
  .inr ⟨_, _, n, l, rfl, rfl, by show 3 ≤ sizeLine; decide, .cons ⟨_, rfl⟩ (.cons ⟨_, rfl⟩ (.cons ⟨_, rfl⟩ .nil))⟩
end

theorem bd_sIsWhole : BindOk "is_whole" "is_whole" sIsWhole ["thing"] := (fun _ _ _ _ _ _ us hl => match us, hl with | [_], _ => rfl)
theorem bd_sIsWholeFrom : BindOk "is_whole_from" "is_whole_from" sIsWholeFrom ["thing", "least"] := (fun _ _ _ _ _ _ us hl => match us, hl with | [_, _], _ => rfl)
theorem bd_sPower : BindOk "power" "power" sPower ["x", "k"] := (fun _ _ _ _ _ _ us hl => match us, hl with | [_, _], _ => rfl)
theorem bd_sSign : BindOk "sign" "sign" sSign ["number"] := (fun _ _ _ _ _ _ us hl => match us, hl with | [_], _ => rfl)
theorem bd_sIsWordOf : BindOk "is_word_of" "is_word_of" sIsWordOf ["thing", "words"] := (fun _ _ _ _ _ _ us hl => match us, hl with | [_, _], _ => rfl)
theorem bd_sCheckStart : BindOk "check_start" "check_start" sCheckStart ["x"] := (fun _ _ _ _ _ _ us hl => match us, hl with | [_], _ => rfl)
theorem bd_sIsNumberOf : BindOk "is_number_of" "is_number_of" sIsNumberOf ["thing", "numbers"] := (fun _ _ _ _ _ _ us hl => match us, hl with | [_, _], _ => rfl)
theorem bd_sCheckSteps : BindOk "check_steps" "check_steps" sCheckSteps ["test", "after", "last", "plus"] := (fun _ _ _ _ _ _ us hl => match us, hl with | [_, _, _, _], _ => rfl)
theorem bd_sSmall : BindOk "small_walks" "small_walks" sSmall ["steps"] := (fun _ _ _ _ _ _ us hl => match us, hl with | [_], _ => rfl)
theorem bd_sTells : BindOk "steps_tells" "steps_tells" sTells ["steps"] := (fun _ _ _ _ _ _ us hl => match us, hl with | [_], _ => rfl)
theorem bd_sFault : BindOk "steps_fault" "steps_fault" sFault ["steps"] := (fun _ _ _ _ _ _ us hl => match us, hl with | [_], _ => rfl)
theorem bd_sCheckSought : BindOk "check_sought" "check_sought" sCheckSought ["kind", "by", "n"] := (fun _ _ _ _ _ _ us hl => match us, hl with | [_, _, _], _ => rfl)
theorem bd_sCellAt : BindOk "_law_cell_at" "_law_cell_at" sCellAt ["_law_script", "_law_k"] := (fun _ _ _ _ _ _ us hl => match us, hl with | [_, _], _ => rfl)
theorem bd_sMixed : BindOk "_law_mixed" "_law_mixed" sMixed ["_law_cell", "_law_k"] := (fun _ _ _ _ _ _ us hl => match us, hl with | [_, _], _ => rfl)
theorem bd_sRow : BindOk "_law_row" "_law_row" sRow ["_law_cell", "_law_many"] := (fun _ _ _ _ _ _ us hl => match us, hl with | [_, _], _ => rfl)
theorem bd_sApart : BindOk "_law_apart" "_law_apart" sApart ["_law_cell", "_law_k"] := (fun _ _ _ _ _ _ us hl => match us, hl with | [_, _], _ => rfl)
theorem bd_sLPower : BindOk "_law_power" "_law_power" sLPower ["_law_x", "_law_k"] := (fun _ _ _ _ _ _ us hl => match us, hl with | [_, _], _ => rfl)
theorem bd_sSide : BindOk "_law_side" "_law_side" sSide ["_law_sought_here", "_law_x"] := (fun _ _ _ _ _ _ us hl => match us, hl with | [_, _], _ => rfl)
theorem bd_sAnswer : BindOk "_law_answer" "_law_answer" sAnswer ["_law_sought_here"] := (fun _ _ _ _ _ _ us hl => match us, hl with | [_], _ => rfl)
theorem bd_sGreat : BindOk "_law_great" "_law_great" sGreat ["_law_row_here", "_law_at", "_law_many"] := (fun _ _ _ _ _ _ us hl => match us, hl with | [_, _, _], _ => rfl)
theorem bd_sDrawn : BindOk "_law_drawn_sought" "_law_drawn_sought" sDrawn ["_law_row_here", "_law_at"] := (fun _ _ _ _ _ _ us hl => match us, hl with | [_, _], _ => rfl)
theorem bd_sLSought : BindOk "_law_sought" "_law_sought" sLSought ["_law_sought_here"] := (fun _ _ _ _ _ _ us hl => match us, hl with | [_], _ => rfl)
theorem bd_sAllTold : BindOk "_law_all_told" "_law_all_told" sAllTold ["_law_rows"] := (fun _ _ _ _ _ _ us hl => match us, hl with | [_], _ => rfl)
theorem bd_sDSteps : BindOk "_law_drawn_steps" "_law_drawn_steps" sDSteps ["_law_row_here", "_law_at"] := (fun _ _ _ _ _ _ us hl => match us, hl with | [_, _], _ => rfl)
theorem bd_sLSteps : BindOk "_law_steps" "_law_steps" sLSteps ["_law_parts"] := (fun _ _ _ _ _ _ us hl => match us, hl with | [_], _ => rfl)
theorem bd_sClimb : BindOk "_law_climb" "_law_climb" sClimb ["_law_parts", "_law_x", "_law_p", "_law_answer_here", "_law_hit"] := (fun _ _ _ _ _ _ us hl => match us, hl with | [_, _, _, _, _], _ => rfl)
theorem bd_sClimbs : BindOk "_law_climbs" "_law_climbs" sClimbs ["_law_parts", "_law_most"] := (fun _ _ _ _ _ _ us hl => match us, hl with | [_, _], _ => rfl)
theorem bd_sIsTold : BindOk "_law_is_told" "_law_is_told" sIsTold ["_law_row_here", "_law_parts", "_law_due"] := (fun _ _ _ _ _ _ us hl => match us, hl with | [_, _, _], _ => rfl)
theorem bd_sRunInit : BindOk "__init__" "StepsRun.__init__" sRunInit ["self", "places", "told"] := (fun _ _ _ _ _ _ us hl => match us, hl with | [_, _, _], _ => rfl)
theorem bd_sStepsInit : BindOk "__init__" "Steps.__init__" sStepsInit ["self", "test", "after", "last", "plus"] := (fun _ _ _ _ _ _ us hl => match us, hl with | [_, _, _, _, _], _ => rfl)
theorem bd_sSoughtInit : BindOk "__init__" "Sought.__init__" sSoughtInit ["self", "kind", "by", "n"] := (fun _ _ _ _ _ _ us hl => match us, hl with | [_, _, _, _], _ => rfl)
theorem bd_sWidth : BindOk "width_after" "Steps.width_after" sWidth ["self", "p"] := (fun _ _ _ _ _ _ us hl => match us, hl with | [_, _], _ => rfl)
theorem bd_sWalk : BindOk "walk" "Steps.walk" sWalk ["self", "x", "p", "side_of"] := (fun _ _ _ _ _ _ us hl => match us, hl with | [_, _, _, _], _ => rfl)
theorem bd_sMeasure : BindOk "measure" "Sought.measure" sMeasure ["self", "x"] := (fun _ _ _ _ _ _ us hl => match us, hl with | [_, _], _ => rfl)
theorem bd_sCompare : BindOk "compare" "Sought.compare" sCompare ["self", "x"] := (fun _ _ _ _ _ _ us hl => match us, hl with | [_, _], _ => rfl)
theorem bd_sComparing : BindOk "comparing" "comparing" sComparing ["answer", "hit"] := (fun _ _ _ _ _ _ us hl => match us, hl with | [_, _], _ => rfl)
theorem bd_sRun : BindOk "run" "Steps.run" sRun ["self", "sought", "x", "p"] := (fun _ _ _ _ _ _ us hl => match us, hl with | [_, _, _, _], _ => rfl)
theorem bd_sLaw : BindOk "law" "law" sLaw ["_law_script"] := (fun _ _ _ _ _ _ us hl => match us, hl with | [_], _ => rfl)

/-- all that is asked of the text -/
structure Txt (K : PySem.W.Frag) (mg : Str → Option Value) (CS CR CT : Addr) : Prop where
  B : Blt mg
  S : ClsS K CS CR
  U : ClsT K CT
  tests : ∃ tT, mg "TESTS" = some (.ref tT) ∧ ∀ H, SqT K H tT [.str "upto", .str "below"]
  kinds : ∃ tK, mg "KINDS" = some (.ref tK) ∧ ∀ H, SqT K H tK [.str "root", .str "share", .str "log"]
  largest : ∃ tL, mg "LARGEST" = some (.int 32 tL)
  d_sIsWhole : Dfn K mg "is_whole" sIsWhole ["thing"]
  d_sIsWholeFrom : Dfn K mg "is_whole_from" sIsWholeFrom ["thing", "least"]
  d_sPower : Dfn K mg "power" sPower ["x", "k"]
  d_sSign : Dfn K mg "sign" sSign ["number"]
  d_sIsWordOf : Dfn K mg "is_word_of" sIsWordOf ["thing", "words"]
  d_sCheckStart : Dfn K mg "check_start" sCheckStart ["x"]
  d_sIsNumberOf : Dfn K mg "is_number_of" sIsNumberOf ["thing", "numbers"]
  d_sCheckSteps : Dfn K mg "check_steps" sCheckSteps ["test", "after", "last", "plus"]
  d_sSmall : Dfn K mg "small_walks" sSmall ["steps"]
  d_sTells : Dfn K mg "steps_tells" sTells ["steps"]
  d_sFault : Dfn K mg "steps_fault" sFault ["steps"]
  d_sCheckSought : Dfn K mg "check_sought" sCheckSought ["kind", "by", "n"]
  d_sCellAt : Dfn K mg "_law_cell_at" sCellAt ["_law_script", "_law_k"]
  d_sMixed : Dfn K mg "_law_mixed" sMixed ["_law_cell", "_law_k"]
  d_sRow : Dfn K mg "_law_row" sRow ["_law_cell", "_law_many"]
  d_sApart : Dfn K mg "_law_apart" sApart ["_law_cell", "_law_k"]
  d_sLPower : Dfn K mg "_law_power" sLPower ["_law_x", "_law_k"]
  d_sSide : Dfn K mg "_law_side" sSide ["_law_sought_here", "_law_x"]
  d_sAnswer : Dfn K mg "_law_answer" sAnswer ["_law_sought_here"]
  d_sGreat : Dfn K mg "_law_great" sGreat ["_law_row_here", "_law_at", "_law_many"]
  d_sDrawn : Dfn K mg "_law_drawn_sought" sDrawn ["_law_row_here", "_law_at"]
  d_sLSought : Dfn K mg "_law_sought" sLSought ["_law_sought_here"]
  d_sAllTold : Dfn K mg "_law_all_told" sAllTold ["_law_rows"]
  d_sDSteps : Dfn K mg "_law_drawn_steps" sDSteps ["_law_row_here", "_law_at"]
  d_sLSteps : Dfn K mg "_law_steps" sLSteps ["_law_parts"]
  d_sClimb : Dfn K mg "_law_climb" sClimb ["_law_parts", "_law_x", "_law_p", "_law_answer_here", "_law_hit"]
  d_sClimbs : Dfn K mg "_law_climbs" sClimbs ["_law_parts", "_law_most"]
  d_sIsTold : Dfn K mg "_law_is_told" sIsTold ["_law_row_here", "_law_parts", "_law_due"]
  d_sRunInit : Ifn K mg "StepsRun" "StepsRun.__init__" CR sRunInit ["self", "places", "told"]
  d_sStepsInit : Ifn K mg "Steps" "Steps.__init__" CS sStepsInit ["self", "test", "after", "last", "plus"]
  d_sSoughtInit : Ifn K mg "Sought" "Sought.__init__" CT sSoughtInit ["self", "kind", "by", "n"]
  d_sWidth : Mfn K CS "width_after" "Steps.width_after" sWidth ["self", "p"]
  d_sWalk : Mfn K CS "walk" "Steps.walk" sWalk ["self", "x", "p", "side_of"]
  d_sMeasure : Mfn K CT "measure" "Sought.measure" sMeasure ["self", "x"]
  d_sCompare : Mfn K CT "compare" "Sought.compare" sCompare ["self", "x"]

section
variable {P : Program} {w : World} {K : PySem.W.Frag} {mg : Str → Option Value} {base : Heap} {CS CR CT : Addr}
theorem law_all (Z : Txt K mg CS CR CT) {c1 P1 f1 c2 P2 f2 fL : Addr} {oc1 kV1 dc1 pm1 ct1 oc2 kV2 dc2 pm2 ct2 ocL kVL dcL pmL cdL ctL : Value} {od1 an1 od2 an2 odL anL : Option Addr} {sl1 sl2 slL : Array (Option Value)}
    (l1 : K.lookup f1 = some ⟨oc1, od1, .func (PySem.W.fnOf "comparing" "comparing" (C8.fnArgs sComparing) (C8.fnBody sComparing) (C8.fnScope sComparing) .none kV1 dc1 pm1 an1 (.ref c1) ct1), sl1⟩) (e1 : PySem.W.codeIn K (.ref c1) "comparing" = true) (m1 : mg "comparing" = some (.ref f1)) (k1 : PySem.W.keepIn K (.ref f1) = true)
    (l2 : K.lookup f2 = some ⟨oc2, od2, .func (PySem.W.fnOf "run" "Steps.run" (C8.fnArgs sRun) (C8.fnBody sRun) (C8.fnScope sRun) .none kV2 dc2 pm2 an2 (.ref c2) ct2), sl2⟩) (e2 : PySem.W.codeIn K (.ref c2) "Steps.run" = true) (m2 : Meth K CS "run" f2)
    (lL : K.lookup fL = some ⟨ocL, odL, .func (PySem.W.fnOf "law" "law" (C8.fnArgs sLaw) (C8.fnBody sLaw) (C8.fnScope sLaw) .none kVL dcL pmL anL cdL ctL), slL⟩) (eL : PySem.W.codeIn K cdL "law" = true)
    (ne : P1 ≠ P2) (TB1 : TabB base mg c1 P1) (TB2 : TabB base mg c2 P2) :
    FnOk P w K mg base C8.CX0 9 fL (PySem.W.fnOf "law" "law" (C8.fnArgs sLaw) (C8.fnBody sLaw) (C8.fnScope sLaw) .none kVL dcL pmL anL cdL ctL) ["_law_script"] (spLaw K [(P1, qSide), (P2, qLam)]) := by
  obtain ⟨tT, mT, hT⟩ := Z.tests
  obtain ⟨tK, mK, hK⟩ := Z.kinds
  obtain ⟨tL, mL⟩ := Z.largest
  have B := Z.B
  have x1 : C8.Cal P w K mg base 1 "is_whole" spIsWhole [] := isWhole_ok Z.d_sIsWhole B
  have x2 : C8.Cal P w K mg base 2 "is_whole_from" spIsWholeFrom [] := isWholeFrom_ok Z.d_sIsWholeFrom x1
  have x3 : C8.Cal P w K mg base 1 "power" spPower [] := power_ok Z.d_sPower B
  have x4 : C8.Cal P w K mg base 1 "sign" spSign [] := sign_ok Z.d_sSign B
  have x5 : C8.Cal P w K mg base 1 "is_word_of" (spIsWordOf K) [] := isWordOf_ok Z.d_sIsWordOf B
  have x6 : C8.Cal P w K mg base 3 "check_start" spCheckStart [] := checkStart_ok Z.d_sCheckStart x2
  have x7 : C8.Cal P w K mg base 2 "is_number_of" (spIsNumberOf K) [] := isNumberOf_ok Z.d_sIsNumberOf x1
  have x8 : C8.Cal P w K mg base 3 "check_steps" spCheckSteps [] := checkSteps_ok Z.d_sCheckSteps mT hT x5 x7
  have x9 : C8.Mak P w K mg base 1 "StepsRun" CR (spRunInit CR) [] := runInit_ok Z.d_sRunInit Z.S
  have x10 : C8.Mak P w K mg base 4 "Steps" CS (spStepsInit CS) [] := stepsInit_ok Z.d_sStepsInit Z.S x8
  have x11 : C8.Met P w K mg base 1 CS "width_after" (spWidth CS) [] := width_ok Z.d_sWidth Z.S
  have x12 : C8.Met P w K mg base 5 CS "walk" (spWalk P w K mg base CS CR 4) [] := walk_ok Z.d_sWalk Z.S B x11 x9 (by decide)
  have x13 : C8.Cal P w K mg base 3 "check_sought" spCheckSought [] := checkSought_ok Z.d_sCheckSought B mK hK x1 x2
  have x14 : C8.Mak P w K mg base 4 "Sought" CT (spSoughtInit CT) [] := soughtInit_ok Z.d_sSoughtInit Z.U x13
  have x15 : C8.Met P w K mg base 2 CT "measure" (spMeasure CT) [] := measure_ok Z.d_sMeasure Z.U x3
  have x16 : C8.Met P w K mg base 3 CT "compare" (spCompare CT) [] := compare_ok Z.d_sCompare Z.U x15 x4
  have x17 : C8.Met P w K mg base 6 CS "run" (spRun CS CR CT [(P1, qSide), (P2, qLam)]) [] := by
    refine ⟨f2, _, _, [], Z.S.cS, m2, run_fn l2 e2 TB2 (by simp) (fun p hp e => ?_) x16 x12 x2 x6, (fun_mk (st := sRun) l2 e2).binds rfl bd_sRun, .nil⟩
    simp only [List.mem_cons, List.not_mem_nil, or_false] at hp
    rcases hp with rfl | rfl
    · exact absurd e ne
    · rfl
  have x18 : C8.Cal P w K mg base 2 "comparing" (spComparing P w K mg base (NT [(P1, qSide), (P2, qLam)])) [] := by
    refine ⟨f1, _, _, [], comparing_fn l1 e1 TB1 (by simp) (fun p hp e => ?_), m1, k1, (fun_mk (st := sComparing) l1 e1).binds rfl bd_sComparing, .nil⟩
    simp only [NT, List.map_cons, List.map_nil, List.mem_cons, List.not_mem_nil, or_false] at hp
    rcases hp with rfl | rfl
    · rfl
    · exact absurd e.symm ne
  have x19 : C8.Cal P w K mg base 8 "steps_tells" (spTells CS [(P1, qSide), (P2, qLam)]) [] := tells_ok Z.d_sTells Z.d_sSmall Z.S B mL x12 x18
  have x20 : C8.Cal P w K mg base 8 "steps_fault" (spFault CS [(P1, qSide), (P2, qLam)]) [] := fault_ok Z.d_sFault Z.d_sSmall Z.S B mL x12 x18
  have y1 : C8.Cal P w K mg base 1 "_law_cell_at" (spCellAt K) [] := cellAt_ok Z.d_sCellAt B
  have y2 : C8.Cal P w K mg base 1 "_law_mixed" spMixed [] := mixed_ok Z.d_sMixed B
  have y3 : C8.Cal P w K mg base 2 "_law_row" spRow [] := row_ok Z.d_sRow B y2
  have y4 : C8.Cal P w K mg base 1 "_law_apart" spApart [] := apart_ok Z.d_sApart B
  have y5 : C8.Cal P w K mg base 1 "_law_power" spPower [] := lpower_ok Z.d_sLPower B
  have y6 : C8.Cal P w K mg base 2 "_law_side" spLSide [] := lside_ok Z.d_sSide B y5
  have y7 : C8.Cal P w K mg base 3 "_law_answer" spAnswer [] := answer_ok Z.d_sAnswer B y5 y6
  have y8 : C8.Cal P w K mg base 1 "_law_great" spGreat [] := great_ok Z.d_sGreat B
  have y9 : C8.Cal P w K mg base 2 "_law_drawn_sought" spDrawn [] := drawn_ok Z.d_sDrawn B y5 y8
  have y10 : C8.Cal P w K mg base 6 "_law_sought" (spLSought CT) [] := lsought_ok Z.d_sLSought x14
  have y11 : C8.Cal P w K mg base 1 "_law_all_told" spAllTold [] := allTold_ok Z.d_sAllTold B
  have y12 : C8.Cal P w K mg base 1 "_law_drawn_steps" spDSteps [] := dsteps_ok Z.d_sDSteps B
  have y13 : C8.Cal P w K mg base 6 "_law_steps" (spLSteps CS) [] := lsteps_ok Z.d_sLSteps x10
  have y14 : C8.Cal P w K mg base 1 "_law_climb" spClimb [] := climb_okL Z.d_sClimb B
  have y15 : C8.Cal P w K mg base 2 "_law_climbs" spClimbs [] := climbs_ok Z.d_sClimbs B y5 y14
  have y16 : C8.Cal P w K mg base 8 "_law_is_told" (spIsTold [(P1, qSide), (P2, qLam)]) [] := isTold_ok Z.d_sIsTold B Z.S y9 y7 y5 y13 y10 x17
  exact law_fn (fun_mk (st := sLaw) lL eL) B y1 y4 y3 y12 y15 y11 y13 x19 x20 y16
end
/-- the end -/
theorem at_end {l : PySem.W.OpenLaw} {w : World} {K : PySem.W.Frag} {mg : Str → Option Value} {h : Heap} {n : Nat} {fa : Addr} {CS CR CT : Addr} (KX : K.In h) (G : h.Ns mainGlobals mg) (hfa : mg "law" = some (.ref fa)) (P1 P2 : Addr) (ne : P1 ≠ P2) (t1 : h.get? P1 = some { cls := .none, data := .fields #[] }) (t2 : h.get? P2 = some { cls := .none, data := .fields #[] }) (Z : Txt K mg CS CR CT)
    {c1 f1 c2 f2 fL : Addr} {oc1 kV1 dc1 pm1 ct1 oc2 kV2 dc2 pm2 ct2 ocL kVL dcL pmL cdL ctL : Value} {od1 an1 od2 an2 odL anL : Option Addr} {sl1 sl2 slL : Array (Option Value)}
    (a1 : PySem.W.nsIn K mainGlobals "comparing" = some (some (.ref f1))) (l1 : K.lookup f1 = some ⟨oc1, od1, .func (PySem.W.fnOf "comparing" "comparing" (C8.fnArgs sComparing) (C8.fnBody sComparing) (C8.fnScope sComparing) .none kV1 dc1 pm1 an1 (.ref c1) ct1), sl1⟩) (e1 : PySem.W.codeIn K (.ref c1) "comparing" = true) (k1 : PySem.W.keepIn K (.ref f1) = true)
    (a2 : PySem.W.findIn K (.ref CS) "run" = some (some (.ref f2))) (i2 : PySem.W.isFn K (.ref f2) = true) (l2 : K.lookup f2 = some ⟨oc2, od2, .func (PySem.W.fnOf "run" "Steps.run" (C8.fnArgs sRun) (C8.fnBody sRun) (C8.fnScope sRun) .none kV2 dc2 pm2 an2 (.ref c2) ct2), sl2⟩) (e2 : PySem.W.codeIn K (.ref c2) "Steps.run" = true) (k2 : PySem.W.keepIn K (.ref f2) = true)
    (aL : PySem.W.nsIn K mainGlobals "law" = some (some (.ref fL))) (lL : K.lookup fL = some ⟨ocL, odL, .func (PySem.W.fnOf "law" "law" (C8.fnArgs sLaw) (C8.fnBody sLaw) (C8.fnScope sLaw) .none kVL dcL pmL anL cdL ctL), slL⟩) (eL : PySem.W.codeIn K cdL "law" = true)
    (h1 : PySem.W.codeHdIn K c1 P1 = true) (h2 : PySem.W.codeHdIn K c2 P2 = true) (n1 : K.lookup P1 = none) (n2 : K.lookup P2 = none) : LamX.LawAtS l w K C8.CX0 9 n "_law_script" mg fa h := by
  have e := hfa.symm.trans (PySem.W.mg_of KX G aL)
  cases e
  have two : ∀ {Q : Addr × Addr → Prop}, Q (c1, P1) → Q (c2, P2) → ∀ p ∈ [(c1, P1), (c2, P2)], Q p := fun {Q} q1 q2 p hp => by
    simp only [List.mem_cons, List.not_mem_nil, or_false] at hp
    rcases hp with rfl | rfl
    · exact q1
    · exact q2
  refine ⟨_, [(c1, P1), (c2, P2)], spLaw K [(P1, qSide), (P2, qLam)], two t1 t2, two n1 n2, two (PySem.W.codeHd_of_K KX h1) (PySem.W.codeHd_of_K KX h2), fun s u => .of_eq (bd_sLaw kVL dcL pmL anL cdL ctL [u] rfl), fun H a ns _ _ hH hS => ⟨a, ns, rfl, hS, fun p hp => ?_, fun _ => rfl⟩,
    fun base _ _ TB => law_all Z l1 e1 (PySem.W.mg_of KX G a1) k1 l2 e2 ⟨a2, i2, k2⟩ lL eL ne (TB (c1, P1) (by simp)) (TB (c2, P2) (by simp))⟩
  simp only [List.mem_cons, List.not_mem_nil, or_false] at hp
  rcases hp with rfl | rfl
  · exact TabS.nil (hH (c1, P1) (by simp))
  · exact TabS.nil (hH (c2, P2) (by simp))
end T47

open PySem PySem.W PyProof.Rows in
set_option maxRecDepth 100000 in
set_option maxHeartbeats 0 in
theorem PySem.Challenge.cw_floorward_k47_whole_steps_for_all_number_holds : PySem.Challenge.rw_floorward_k47_whole_steps_for_all_number.Holds := by
  w_on; o_law; k_head; (case hw => w_witness2)
  k_fill
  refine LamX.walk_ofTs (l := PySem.Challenge.rw_floorward_k47_whole_steps_for_all_number) (k := 9) (x := "_law_script") (CX := fun _ => C8.CX0) rfl (by decide) rfl ⟨rfl, by decide, by decide⟩ (fun w h Y => PySem.W.km_in_of Y) ?F (fun _ _ _ _ _ z => z)
  case F =>
    intro w mg fa h Y KX G hmg
    have hT8 := PySem.W.km_tabs_of Y
    have b_isinstance := PySem.W.mg_none_of (n := "isinstance") KX G (by k_is)
    have b_int := PySem.W.mg_none_of (n := "int") KX G (by k_is)
    have b_bool := PySem.W.mg_none_of (n := "bool") KX G (by k_is)
    have b_str := PySem.W.mg_none_of (n := "str") KX G (by k_is)
    have b_range := PySem.W.mg_none_of (n := "range") KX G (by k_is)
    have b_len := PySem.W.mg_none_of (n := "len") KX G (by k_is)
    have b_abs := PySem.W.mg_none_of (n := "abs") KX G (by k_is)
    have b_max := PySem.W.mg_none_of (n := "max") KX G (by k_is)
    have b_min := PySem.W.mg_none_of (n := "min") KX G (by k_is)
    have b_sorted := PySem.W.mg_none_of (n := "sorted") KX G (by k_is)
    have b_tuple := PySem.W.mg_none_of (n := "tuple") KX G (by k_is)
    have mCR := PySem.W.mg_of (n := "StepsRun") KX G (by k_is)
    have cCR := T47.cls_mk KX mCR (by k_is) (by k_is) (by k_is) (by k_is)
    have mCS := PySem.W.mg_of (n := "Steps") KX G (by k_is)
    have cCS := T47.cls_mk KX mCS (by k_is) (by k_is) (by k_is) (by k_is)
    have mCT := PySem.W.mg_of (n := "Sought") KX G (by k_is)
    have cCT := T47.cls_mk KX mCT (by k_is) (by k_is) (by k_is) (by k_is)
    have zS := T47.clsS_mk cCS cCR (by k_is) (by k_is) (by k_is) (by k_is) (by k_is) (by k_is)
    have zT := T47.clsT_mk cCT (by k_is) (by k_is) (by k_is)
    have mT := PySem.W.mg_of (n := "TESTS") KX G (by k_is)
    have mK := PySem.W.mg_of (n := "KINDS") KX G (by k_is)
    have mL := PySem.W.mg_of (n := "LARGEST") KX G (by k_is)
    have d_sIsWhole := T47.dfn_mk (x := "is_whole") (st := T47.sIsWhole) (ps := ["thing"]) KX G T47.bd_sIsWhole (by k_is) (by k_is) (by k_is) (by k_is)
    have d_sIsWholeFrom := T47.dfn_mk (x := "is_whole_from") (st := T47.sIsWholeFrom) (ps := ["thing", "least"]) KX G T47.bd_sIsWholeFrom (by k_is) (by k_is) (by k_is) (by k_is)
    have d_sPower := T47.dfn_mk (x := "power") (st := T47.sPower) (ps := ["x", "k"]) KX G T47.bd_sPower (by k_is) (by k_is) (by k_is) (by k_is)
    have d_sSign := T47.dfn_mk (x := "sign") (st := T47.sSign) (ps := ["number"]) KX G T47.bd_sSign (by k_is) (by k_is) (by k_is) (by k_is)
    have d_sIsWordOf := T47.dfn_mk (x := "is_word_of") (st := T47.sIsWordOf) (ps := ["thing", "words"]) KX G T47.bd_sIsWordOf (by k_is) (by k_is) (by k_is) (by k_is)
    have d_sCheckStart := T47.dfn_mk (x := "check_start") (st := T47.sCheckStart) (ps := ["x"]) KX G T47.bd_sCheckStart (by k_is) (by k_is) (by k_is) (by k_is)
    have d_sIsNumberOf := T47.dfn_mk (x := "is_number_of") (st := T47.sIsNumberOf) (ps := ["thing", "numbers"]) KX G T47.bd_sIsNumberOf (by k_is) (by k_is) (by k_is) (by k_is)
    have d_sCheckSteps := T47.dfn_mk (x := "check_steps") (st := T47.sCheckSteps) (ps := ["test", "after", "last", "plus"]) KX G T47.bd_sCheckSteps (by k_is) (by k_is) (by k_is) (by k_is)
    have d_sSmall := T47.dfn_mk (x := "small_walks") (st := T47.sSmall) (ps := ["steps"]) KX G T47.bd_sSmall (by k_is) (by k_is) (by k_is) (by k_is)
    have d_sTells := T47.dfn_mk (x := "steps_tells") (st := T47.sTells) (ps := ["steps"]) KX G T47.bd_sTells (by k_is) (by k_is) (by k_is) (by k_is)
    have d_sFault := T47.dfn_mk (x := "steps_fault") (st := T47.sFault) (ps := ["steps"]) KX G T47.bd_sFault (by k_is) (by k_is) (by k_is) (by k_is)
    have d_sCheckSought := T47.dfn_mk (x := "check_sought") (st := T47.sCheckSought) (ps := ["kind", "by", "n"]) KX G T47.bd_sCheckSought (by k_is) (by k_is) (by k_is) (by k_is)
    have d_sCellAt := T47.dfn_mk (x := "_law_cell_at") (st := T47.sCellAt) (ps := ["_law_script", "_law_k"]) KX G T47.bd_sCellAt (by k_is) (by k_is) (by k_is) (by k_is)
    have d_sMixed := T47.dfn_mk (x := "_law_mixed") (st := T47.sMixed) (ps := ["_law_cell", "_law_k"]) KX G T47.bd_sMixed (by k_is) (by k_is) (by k_is) (by k_is)
    have d_sRow := T47.dfn_mk (x := "_law_row") (st := T47.sRow) (ps := ["_law_cell", "_law_many"]) KX G T47.bd_sRow (by k_is) (by k_is) (by k_is) (by k_is)
    have d_sApart := T47.dfn_mk (x := "_law_apart") (st := T47.sApart) (ps := ["_law_cell", "_law_k"]) KX G T47.bd_sApart (by k_is) (by k_is) (by k_is) (by k_is)
    have d_sLPower := T47.dfn_mk (x := "_law_power") (st := T47.sLPower) (ps := ["_law_x", "_law_k"]) KX G T47.bd_sLPower (by k_is) (by k_is) (by k_is) (by k_is)
    have d_sSide := T47.dfn_mk (x := "_law_side") (st := T47.sSide) (ps := ["_law_sought_here", "_law_x"]) KX G T47.bd_sSide (by k_is) (by k_is) (by k_is) (by k_is)
    have d_sAnswer := T47.dfn_mk (x := "_law_answer") (st := T47.sAnswer) (ps := ["_law_sought_here"]) KX G T47.bd_sAnswer (by k_is) (by k_is) (by k_is) (by k_is)
    have d_sGreat := T47.dfn_mk (x := "_law_great") (st := T47.sGreat) (ps := ["_law_row_here", "_law_at", "_law_many"]) KX G T47.bd_sGreat (by k_is) (by k_is) (by k_is) (by k_is)
    have d_sDrawn := T47.dfn_mk (x := "_law_drawn_sought") (st := T47.sDrawn) (ps := ["_law_row_here", "_law_at"]) KX G T47.bd_sDrawn (by k_is) (by k_is) (by k_is) (by k_is)
    have d_sLSought := T47.dfn_mk (x := "_law_sought") (st := T47.sLSought) (ps := ["_law_sought_here"]) KX G T47.bd_sLSought (by k_is) (by k_is) (by k_is) (by k_is)
    have d_sAllTold := T47.dfn_mk (x := "_law_all_told") (st := T47.sAllTold) (ps := ["_law_rows"]) KX G T47.bd_sAllTold (by k_is) (by k_is) (by k_is) (by k_is)
    have d_sDSteps := T47.dfn_mk (x := "_law_drawn_steps") (st := T47.sDSteps) (ps := ["_law_row_here", "_law_at"]) KX G T47.bd_sDSteps (by k_is) (by k_is) (by k_is) (by k_is)
    have d_sLSteps := T47.dfn_mk (x := "_law_steps") (st := T47.sLSteps) (ps := ["_law_parts"]) KX G T47.bd_sLSteps (by k_is) (by k_is) (by k_is) (by k_is)
    have d_sClimb := T47.dfn_mk (x := "_law_climb") (st := T47.sClimb) (ps := ["_law_parts", "_law_x", "_law_p", "_law_answer_here", "_law_hit"]) KX G T47.bd_sClimb (by k_is) (by k_is) (by k_is) (by k_is)
    have d_sClimbs := T47.dfn_mk (x := "_law_climbs") (st := T47.sClimbs) (ps := ["_law_parts", "_law_most"]) KX G T47.bd_sClimbs (by k_is) (by k_is) (by k_is) (by k_is)
    have d_sIsTold := T47.dfn_mk (x := "_law_is_told") (st := T47.sIsTold) (ps := ["_law_row_here", "_law_parts", "_law_due"]) KX G T47.bd_sIsTold (by k_is) (by k_is) (by k_is) (by k_is)
    have d_sRunInit := T47.ifn_mk (x := "StepsRun") (qual := "StepsRun.__init__") (st := T47.sRunInit) (ps := ["self", "places", "told"]) cCR mCR T47.bd_sRunInit (by k_is) (by k_is) (by k_is) (by k_is) (by k_is) (by k_is)
    have d_sStepsInit := T47.ifn_mk (x := "Steps") (qual := "Steps.__init__") (st := T47.sStepsInit) (ps := ["self", "test", "after", "last", "plus"]) cCS mCS T47.bd_sStepsInit (by k_is) (by k_is) (by k_is) (by k_is) (by k_is) (by k_is)
    have d_sSoughtInit := T47.ifn_mk (x := "Sought") (qual := "Sought.__init__") (st := T47.sSoughtInit) (ps := ["self", "kind", "by", "n"]) cCT mCT T47.bd_sSoughtInit (by k_is) (by k_is) (by k_is) (by k_is) (by k_is) (by k_is)
    have d_sWidth := T47.mfn_mk (m := "width_after") (qual := "Steps.width_after") (st := T47.sWidth) (ps := ["self", "p"]) cCS T47.bd_sWidth (by k_is) (by k_is) (by k_is) (by k_is) (by k_is)
    have d_sWalk := T47.mfn_mk (m := "walk") (qual := "Steps.walk") (st := T47.sWalk) (ps := ["self", "x", "p", "side_of"]) cCS T47.bd_sWalk (by k_is) (by k_is) (by k_is) (by k_is) (by k_is)
    have d_sMeasure := T47.mfn_mk (m := "measure") (qual := "Sought.measure") (st := T47.sMeasure) (ps := ["self", "x"]) cCT T47.bd_sMeasure (by k_is) (by k_is) (by k_is) (by k_is) (by k_is)
    have d_sCompare := T47.mfn_mk (m := "compare") (qual := "Sought.compare") (st := T47.sCompare) (ps := ["self", "x"]) cCT T47.bd_sCompare (by k_is) (by k_is) (by k_is) (by k_is) (by k_is)
    exact T47.at_end KX G hmg 163 240 (by decide) (hT8 163 (by simp)) (hT8 240 (by simp)) (CS := _) (CR := _) (CT := _) ⟨⟨b_isinstance, b_int, b_bool, b_str, b_range, b_len, b_abs, b_max, b_min, b_sorted, b_tuple⟩, zS, zT, ⟨_, mT, fun H => T47.two_mk (by k_is) H⟩, ⟨_, mK, fun H => T47.three_mk (by k_is) H⟩, ⟨_, mL⟩, d_sIsWhole, d_sIsWholeFrom, d_sPower, d_sSign, d_sIsWordOf, d_sCheckStart, d_sIsNumberOf, d_sCheckSteps, d_sSmall, d_sTells, d_sFault, d_sCheckSought, d_sCellAt, d_sMixed, d_sRow, d_sApart, d_sLPower, d_sSide, d_sAnswer, d_sGreat, d_sDrawn, d_sLSought, d_sAllTold, d_sDSteps, d_sLSteps, d_sClimb, d_sClimbs, d_sIsTold, d_sRunInit, d_sStepsInit, d_sSoughtInit, d_sWidth, d_sWalk, d_sMeasure, d_sCompare⟩
      (by k_is) (by k_is) (by k_is) (by k_is) (by k_is) (by k_is) (by k_is) (by k_is) (by k_is) (by k_is) (by k_is) (by k_is) (by kernel_rfl) (by kernel_rfl) (by kernel_rfl) (by kernel_rfl)
#print axioms PySem.Challenge.cw_floorward_k47_whole_steps_for_all_number_holds
