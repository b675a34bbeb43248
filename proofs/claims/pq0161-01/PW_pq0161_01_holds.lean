import PyProof.Rows.All
import Wide.All
import OpenK.AllK
import Wide.FinOn
import Lean
import PySem.Challenge.RW_pq0161_01
open PySem PySem.W PySem.Calls PyProof.Rows
set_option Elab.async false
set_option maxRecDepth 100000
set_option maxHeartbeats 40000000
namespace Mine
@[reducible] noncomputable def Q : Program := view Challenge.pw_pq0161_01 [1,3,4,5,6,7,8,9,10,11,12,13,14,15,16,17,18,19,20,22,23,24,25,26,27,28,29,30]
noncomputable abbrev LO : List Str := [Str.ofString "BasicError"]
theorem left_boot {p q : Program} {loose : List Str} {Xt : Shared → Bool} {α : Type} {Yf : Shared → α} {Ya : World → α} {N : Nat} {g0 : Bool}
    (e : opening p = plainProg p.main.scope.names) (hN : Nat.ble 600 N = true) (f : ∀ s, fenceModules? p s = some s)
    (h : ∀ (w : World) (os : OsState), (topFrom treeTable p w N ⟨boot_heap w.params, Array.mk [], boot_drawn, boot_toks, os⟩).map (fun s => (openSeen q loose (importedModules p.main.body) Xt g0 s, Yf s)) = some (openGood q loose, Ya w)) :
    LeftO p q loose Xt Yf Ya N g0 := fun w => by
  obtain ⟨⟨h1, gs, d, k, os⟩, e1, e2⟩ := Option.map_eq_some_iff.mp (boot_open e hN f w)
  obtain ⟨rfl, rfl, rfl, rfl⟩ : h1 = boot_heap w.params ∧ gs = Array.mk [] ∧ d = boot_drawn ∧ k = boot_toks := by simpa using e2
  unfold openEnds
  rw [e1]
  exact h w os
theorem said : OpenLaw.wellSaid Challenge.rw_pq0161_01 = true := by
  first
  | exact (congrFun PySem.W.Fast.te9446332074065402090 _).trans (by kernel_rfl)
  | kernel_rfl
noncomputable abbrev Xq (s : Shared) : Bool := xlAt Q [] s && recOk (RowW.records (OpenRow.toRowW (OpenLaw.row Challenge.rw_pq0161_01))) s
theorem my_open (H : Hook) {d : DefRec} {kwd : List (Str × PySem.Expr)}
    (hl : ∀ (w : World) (os : OsState), (topFrom treeTable Challenge.pw_pq0161_01 w 2632 ⟨boot_heap w.params, Array.mk [], boot_drawn, boot_toks, os⟩).map (fun s => (openSeen Q LO (importedModules Challenge.pw_pq0161_01.main.body) Xq true s, H.obs s)) = some (openGood Q LO, H.val w))
    (hdef : defOf Q (OpenLaw.row Challenge.rw_pq0161_01).name = some (d, kwd)) (hp : (OpenLaw.row Challenge.rw_pq0161_01).prog.theDef (OpenLaw.row Challenge.rw_pq0161_01).name = some (d.params, d.body, d.scope)) (hk : kwWritten? d.params.kwonlyargs d.params.kw_defaults = some kwd)
    (k1 : (OpenLaw.row Challenge.rw_pq0161_01).wellSaid = true) (hw : (OpenLaw.row Challenge.rw_pq0161_01).toRowW.promised)
    (hc : WalkO Q LO (XL Q []) H.says (OpenLaw.row Challenge.rw_pq0161_01).toRowW d kwd fun f vs => PySem.call f vs) : (OpenLaw.row Challenge.rw_pq0161_01).Holds :=
  holds_open (q := Q) (loose := LO) (Xt := Xq) (XP := XL Q []) (Yf := H.obs) (Ya := H.val) (YP := H.says) (N := 2632)
    (left_boot (by kernel_rfl) (by kernel_rfl) (fun s => by kernel_rfl) hl) H.of H.keeps (fun s e => xl_of s (Bool.and_eq_true_iff.mp e).1) XL.keeps hdef hp hk (fun s e => recFacts_of (Bool.and_eq_true_iff.mp e).2) (by rfl) k1 (by decide +kernel) ⟨rfl, rfl, rfl, rfl, rfl, by decide +kernel⟩ hw hc
local macro_rules | `(tactic| o_law) => `(tactic| refine holds_law said fun _ => ?_)
local macro_rules | `(tactic| o_head $H) => `(tactic| (
  refine my_open $H (fun w os => ?_) (by rfl) (by rfl) (by rfl) (by assumption) ?hw ?hc
  unfold topFrom
  (try rw [PySem.W.Fast.te14082659384304107361, PySem.W.Fast.te14364793385576792824])
  (try rw [PySem.W.Fast.te4187177175401517315])
  kernel_rfl))
open_top hd for PySem.Challenge.rw_pq0161_01
end Mine
namespace Mine

/-- all but S stands as it stood -/
def Kept (S : List Addr) (h h' : Heap) : Prop := ∀ b o, b ∉ S → h.get? b = some o → h'.get? b = some o

theorem Kept.refl (S : List Addr) (h : Heap) : Kept S h h := fun _ _ _ e => e
theorem Kept.trans {S : List Addr} {h h' h'' : Heap} (a : Kept S h h') (b : Kept S h' h'') : Kept S h h'' := fun x o n e => b x o n (a x o n e)
theorem Kept.mono {S S' : List Addr} {h h' : Heap} (a : Kept S h h') (hs : ∀ x ∈ S, x ∈ S') : Kept S' h h' := fun x o n e => a x o (fun q => n (hs x q)) e
theorem Kept.stays {h h' : Heap} (a : Kept [] h h') : h.StaysIn h' := fun b o e => a b o (by simp) e
theorem Kept.of {S : List Addr} {h h' : Heap} (a : h.StaysIn h') : Kept S h h' := fun b o _ e => a b o e
/-- the objects of a world that S is no part of -/
theorem Kept.base {S : List Addr} {H h h' : Heap} (k : Kept S h h') (st : H.StaysIn h) (n : ∀ a ∈ S, H.get? a = none) : H.StaysIn h' := fun b o e => k b o (fun q => by rw [n b q] at e; cases e) (st b o e)

structure OkA (n : Nat) (A : Around) : Prop where
  hd : A.handled = none
  depth : A.depth + n < recursionLimit
  units : A.units + 10 * n < cLine

theorem OkA.room {n : Nat} {A : Around} (h : OkA n A) : A.depth < recursionLimit := Nat.lt_of_le_of_lt (Nat.le_add_right _ _) h.depth
theorem OkA.unit {n : Nat} {A : Around} (h : OkA n A) : A.units < cLine := Nat.lt_of_le_of_lt (Nat.le_add_right _ _) h.units
theorem OkA.deeper {n : Nat} {A : Around} (h : OkA (n + 1) A) (env : Env) : OkA n (A.deeper env) :=
  ⟨h.hd, by have := h.depth; show A.depth + 1 + n < _; omega, by have := h.units; show A.units + 3 + 10 * n < _; omega⟩
theorem OkA.le {n m : Nat} {A : Around} (h : OkA n A) (hm : m ≤ n) : OkA m A := ⟨h.hd, by have := h.depth; omega, by have := h.units; omega⟩

/-- the world at a call: H is what stood before the law's call -/
structure Ctx (n : Nat) (w : World) (A : Around) (H : Heap) (s : Shared) : Prop where
  ok : OkA n A
  X : (hd.heap_1 w.params).In H
  T : ∃ p loose mean mg mb, Top p loose mean mg mb H
  st : H.StaysIn s.heap

theorem Ctx.deeper {n : Nat} {w : World} {A : Around} {H : Heap} {s s' : Shared} (c : Ctx (n + 1) w A H s) (env : Env) (h : H.StaysIn s'.heap) : Ctx n w (A.deeper env) H s' := ⟨c.ok.deeper env, c.X, c.T, h⟩
theorem Ctx.le {n m : Nat} {w : World} {A : Around} {H : Heap} {s : Shared} (c : Ctx n w A H s) (hm : m ≤ n) : Ctx m w A H s := ⟨c.ok.le hm, c.X, c.T, c.st⟩
theorem Ctx.at {n : Nat} {w : World} {A : Around} {H : Heap} {s s' : Shared} (c : Ctx n w A H s) (h : H.StaysIn s'.heap) : Ctx n w A H s' := ⟨c.ok, c.X, c.T, h⟩

/-- what of h lies below L -/
def cut (h : Heap) (L : Addr) : Heap := ⟨h.objs.extract 0 L, h.life⟩
theorem cut_get {h : Heap} {L b : Addr} : (cut h L).get? b = if b < L then h.get? b else none := by
  unfold cut Heap.get?
  dsimp only
  rw [Array.getElem?_extract]
  by_cases hb : b < L
  · rw [if_pos hb]
    by_cases hs : b < h.objs.size
    · rw [if_pos (by simp only [Nat.sub_zero]; exact Nat.lt_min.mpr ⟨hb, hs⟩)]; simp
    · rw [if_neg (by simp only [Nat.sub_zero]; intro q; exact hs (Nat.lt_of_lt_of_le q (Nat.min_le_right _ _)))]
      rw [Array.getElem?_eq_none (Nat.not_lt.mp hs)]
  · rw [if_neg hb, if_neg (by simp only [Nat.sub_zero]; intro q; exact hb (Nat.lt_of_lt_of_le q (Nat.min_le_left _ _)))]
theorem cut_size {h : Heap} {L : Addr} : (cut h L).objs.size ≤ L := by
  unfold cut
  dsimp only
  rw [Array.size_extract]
  exact Nat.le_trans (Nat.sub_le _ _) (Nat.min_le_left _ _)

/-- known in a stretch: of the ground g, or of the rest of the ledger -/
def Known (g : Heap) (rest : List (Addr × Obj)) (b : Addr) (o : Obj) : Prop := g.get? b = some o ∨ (b, o) ∈ rest
theorem Known.now {g h : Heap} {L b : Addr} {o : Obj} {m : Str → Option Value} {rest news : List (Addr × Obj)} (k : Known g rest b o) (F : Fr g L h m) (N : News g L h news) (sub : ∀ p ∈ rest, p ∈ news) : h.get? b = some o :=
  k.elim (fun e => F.keep b o e) fun e => (N _ (sub _ e)).1

/-- a body between two calls: L its frame, S what it may have turned since the start -/
structure Bd (H : Heap) (s₀ : Shared) (L : Addr) (S : List Addr) (m : Str → Option Value) (h : Heap) : Prop where
  ns : h.Ns L m
  st : H.StaysIn h
  kp : Kept S s₀.heap h
  top : s₀.heap.objs.size ≤ L

theorem Bd.mono {H : Heap} {s₀ : Shared} {L : Addr} {S S' : List Addr} {m : Str → Option Value} {h : Heap} (b : Bd H s₀ L S m h) (hs : ∀ x ∈ S, x ∈ S') : Bd H s₀ L S' m h := ⟨b.ns, b.st, b.kp.mono hs, b.top⟩
theorem Bd.call {H : Heap} {s₀ : Shared} {L : Addr} {S S' : List Addr} {m : Str → Option Value} {h h' : Heap} (b : Bd H s₀ L S m h) (k : Kept S' h h') (hS : ∀ a ∈ S', (a ∈ S ∨ s₀.heap.objs.size ≤ a) ∧ a ≠ L ∧ H.get? a = none) : Bd H s₀ L S m h' :=
  ⟨b.ns.at' fun o e => k L o (fun q => (hS L q).2.1 rfl) e, k.base b.st fun a ha => (hS a ha).2.2,
    fun c o hc e => k c o (fun q => (hS c q).1.elim hc fun z => absurd (Heap.lt_size e) (Nat.not_lt.mpr z)) (b.kp c o hc e), b.top⟩

/-- a stretch of a body: g is what stands still in it, M what it may turn -/
structure Seg (w : World) (H g : Heap) (L : Addr) (M rest : List (Addr × Obj)) (h : Heap) : Prop where
  base : H.StaysIn g
  X : (hd.heap_1 w.params).In g
  old : ∀ b o, b ≠ L → b ∉ M.map (·.1) → h.get? b = some o → Known g rest b o
  off : ∀ p ∈ rest, p.1 ∉ M.map (·.1)

theorem Bd.seg {n : Nat} {w : World} {A : Around} {H h : Heap} {s₀ : Shared} {L : Addr} {S : List Addr} {m : Str → Option Value} (b : Bd H s₀ L S m h) (M : List (Addr × Obj)) (c : Ctx n w A H s₀)
    (hM : ∀ q ∈ M, h.get? q.1 = some q.2 ∧ H.get? q.1 = none ∧ q.1 ≠ L) :
    ∃ g rest p loose mean mg mb, Seg w H g L M rest h ∧ Fr g L h m ∧ News g L h (M ++ rest) ∧ Top p loose mean mg mb g := by
  obtain ⟨p, loose, mean, mg, mb, T⟩ := c.T
  have nm : ∀ b o, H.get? b = some o → b ∉ M.map (·.1) := fun b o e q => by
    obtain ⟨p, hp, rfl⟩ := List.mem_map.mp q
    rw [(hM p hp).2.1] at e; cases e
  have b1 : H.StaysIn (hideAll (cut h L) (M.map (·.1))) := fun a o e => hideAll_get _ (by rw [cut_get, if_pos (Nat.lt_of_lt_of_le (Heap.lt_size (c.st a o e)) b.top)]; exact b.st a o e) (nm a o e)
  have of' : ∀ b o, (hideAll (cut h L) (M.map (·.1))).get? b = some o → h.get? b = some o := fun b o e => by
    have := of_hideAll _ e
    rw [cut_get] at this
    split at this
    · exact this
    · cases this
  have hsz : (hideAll (cut h L) (M.map (·.1))).objs.size ≤ L := by rw [hideAll_size]; exact cut_size
  have hin : ∀ b o, b < L → b ∉ M.map (·.1) → h.get? b = some o → (hideAll (cut h L) (M.map (·.1))).get? b = some o := fun b o hb hm e => hideAll_get _ (by rw [cut_get, if_pos hb]; exact e) hm
  have hno : ∀ b ∈ M.map (·.1), (hideAll (cut h L) (M.map (·.1))).get? b = none := fun b hb => hideAll_none _ hb
  generalize hideAll (cut h L) (M.map (·.1)) = G at b1 of' hsz hin hno
  refine ⟨G, (List.range h.objs.size).filterMap fun a => if L < a ∧ a ∉ M.map (·.1) then (h.get? a).map fun o => (a, o) else none, p, loose, mean, mg, mb, ⟨b1, c.X.keeps b1, fun a o ha hm e => ?_, fun q hq => ?_⟩,
    ⟨b.ns, of', hsz⟩, fun q hq => ?_, T.keeps b1⟩
  · by_cases hb : a < L
    · exact .inl (hin a o hb hm e)
    · refine .inr (List.mem_filterMap.mpr ⟨a, List.mem_range.mpr (Heap.lt_size e), ?_⟩)
      rw [if_pos ⟨Nat.lt_of_le_of_ne (Nat.not_lt.mp hb) (Ne.symm ha), hm⟩, e]; rfl
  · obtain ⟨a, _, ha⟩ := List.mem_filterMap.mp hq
    split at ha
    · rename_i hc
      obtain ⟨o, _, rfl⟩ := Option.map_eq_some_iff.mp ha
      exact hc.2
    · cases ha
  · rcases List.mem_append.mp hq with hq | hq
    · exact ⟨(hM q hq).1, (hM q hq).2.2, hno _ (List.mem_map_of_mem hq)⟩
    · obtain ⟨a, _, ha⟩ := List.mem_filterMap.mp hq
      split at ha
      · rename_i hc
        obtain ⟨o, ho, rfl⟩ := Option.map_eq_some_iff.mp ha
        exact ⟨ho, Nat.ne_of_gt hc.1, Heap.get?_none_of_le (Nat.le_trans hsz (Nat.le_of_lt hc.1))⟩
      · cases ha

/-- a stretch, taken apart -/
theorem seg_k {P : Prop} {w : World} {H h : Heap} {L : Addr} {m : Str → Option Value} {M : List (Addr × Obj)}
    (e : ∃ g rest p loose mean mg mb, Seg w H g L M rest h ∧ Fr g L h m ∧ News g L h (M ++ rest) ∧ Top p loose mean mg mb g)
    (k : ∀ g rest p loose mean mg mb, Seg w H g L M rest h → Fr g L h m → News g L h (M ++ rest) → Top p loose mean mg mb g → P) : P :=
  let ⟨g, rest, p, loose, mean, mg, mb, G, F, N, T⟩ := e
  k g rest p loose mean mg mb G F N T
theorem Bd.seg0 {P : Prop} {n : Nat} {w : World} {A : Around} {H h : Heap} {s₀ : Shared} {L : Addr} {S : List Addr} {m : Str → Option Value} (b : Bd H s₀ L S m h) (c : Ctx n w A H s₀)
    (k : ∀ g rest p loose mean mg mb, Seg w H g L [] rest h → Fr g L h m → News g L h rest → Top p loose mean mg mb g → (hd.heap_1 w.params).In g → P) : P :=
  let ⟨g, rest, p, loose, mean, mg, mb, G, F, N, T⟩ := b.seg [] c (by simp)
  k g rest p loose mean mg mb G F N T G.X

theorem Bd.after {w : World} {H g h h' : Heap} {s₀ : Shared} {L : Addr} {S : List Addr} {m m' : Str → Option Value} {M rest news : List (Addr × Obj)} (b : Bd H s₀ L S m h) (x : Seg w H g L M rest h) (F : Fr g L h' m') (N : News g L h' news)
    (sub : ∀ p ∈ rest, p ∈ news) (hM : ∀ q ∈ M, q.1 ∈ S ∨ s₀.heap.objs.size ≤ q.1) : Bd H s₀ L S m' h' :=
  ⟨F.ns, fun a o e => F.keep a o (x.base a o e), fun a o ha e => by
    refine (x.old a o (Nat.ne_of_lt (Nat.lt_of_lt_of_le (Heap.lt_size e) b.top)) (fun q => ?_) (b.kp a o ha e)).now F N sub
    obtain ⟨p, hp, rfl⟩ := List.mem_map.mp q
    exact (hM p hp).elim ha fun z => absurd (Heap.lt_size e) (Nat.not_lt.mpr z), b.top⟩
/-- what stood at a stretch's start stands at its end -/
theorem Seg.stay {w : World} {H g h h' : Heap} {L : Addr} {m' : Str → Option Value} {M rest news : List (Addr × Obj)} (x : Seg w H g L M rest h) (F : Fr g L h' m') (N : News g L h' news) (sub : ∀ p ∈ rest, p ∈ news) :
    ∀ b o, b ≠ L → b ∉ M.map (·.1) → h.get? b = some o → h'.get? b = some o := fun b o h1 h2 e => (x.old b o h1 h2 e).now F N sub

section
variable {n : Nat} {prog : Program} {w : World} {A : Around} {s : Shared} {H : Heap}
  {name qual : Str} {params : Arguments} {body : List Stmt} {scope : Scope} {dV kV doc pm cdv ct oc : Value} {an od : Option Addr} {osl : Array (Option Value)} {f : Addr} {binds : List (Str × Value)}
  {Q E : Value → Shared → Prop} {pos : List Value}

theorem enter (c : Ctx n w A H s)
    (ho : (hd.heap_1 w.params).lookup f = some ⟨oc, od, .func (fnOf name qual params body scope dV kV doc pm an cdv ct), osl⟩) (hcd : codeIn (hd.heap_1 w.params) cdv qual = true)
    (hbind : BindsTo s (fnOf name qual params body scope dV kV doc pm an cdv ct) ⟨pos, []⟩ binds) (hloc : ∀ y ∈ binds, scope.names.lookup y.1 = some .local)
    (h : ∀ h₁ tk, Bd H s s.heap.objs.size [] (fun y => binds.reverse.lookup y) h₁ →
      wpAny (model prog w) (A.deeper (envX qual scope s.heap.objs.size f cdv [])) (execs body (envX qual scope s.heap.objs.size f cdv []))
        (fun fl s' => Q (match fl with | .ret v => v | _ => .none) s') (fun _ _ => False) { s with heap := h₁, toks := tk })
    (hcell : ∀ x ∈ scope.names, x.2 ≠ .cell) (hco : scope.isCoroutine = false) (hgen : scope.isGenerator = false) (hk : scope.kind = .function) :
    wpAny (model prog w) A (call (.ref f) pos) Q E s := by
  obtain ⟨p, loose, mean, mg, mb, T⟩ := c.T
  refine wpAny_call (codeAny_call_def (fd := fnX name qual params body scope [] dV kV doc pm an cdv ct) (body := body) (binds := binds) c.ok.room (c.X.keeps c.st _ _ ho) rfl (T.nolimit.keeps c.st) (codeRec_of (c.X.keeps c.st) hcd) rfl hbind hcell hloc (fun h₁ hns hk₁ => ?_) hco hgen hk)
  exact wpAny_mono (h h₁ _ ⟨hns, fun b o e => hk₁ b o (c.st b o e), Kept.of hk₁, Nat.le_refl _⟩) (fun fl s' hl => hl) fun _ _ y => y.elim

theorem cells_from {cm : Str → Option Value} {cs : List (Str × Addr)} {cells : List (Addr × Obj)} (x : CellsAre cm cs cells) : ∀ q ∈ cells, ∃ n, (n, q.1) ∈ cs := by
  induction x with
  | nil => intro q hq; cases hq
  | cons _ _ ih =>
    intro q hq
    rcases List.mem_cons.mp hq with rfl | hq
    · exact ⟨_, .head _⟩
    · obtain ⟨n, hn⟩ := ih q hq; exact ⟨n, .tail _ hn⟩

theorem enterC (c : Ctx n w A H s)
    (ho : (hd.heap_1 w.params).lookup f = some ⟨oc, od, .func (fnOf name qual params body scope dV kV doc pm an cdv ct), osl⟩) (hcd : codeIn (hd.heap_1 w.params) cdv qual = true)
    (hbind : BindsTo s (fnOf name qual params body scope dV kV doc pm an cdv ct) ⟨pos, []⟩ binds)
    (hkind : (binds.all fun y => scope.names.lookup y.1 == some .local || scope.names.lookup y.1 == some .cell) = true)
    (hnd : ((cellsFrom 0 scope.names []).map (·.1)).Nodup)
    (h : ∀ h₁ tk cells, Bd H s s.heap.objs.size [] (bindL (envOfC qual scope s.heap.objs.size f cdv).kindOf binds fun _ => none) h₁ →
      (∀ q ∈ cells, h₁.get? q.1 = some q.2 ∧ s.heap.objs.size < q.1) → CellsAre (bindC (envOfC qual scope s.heap.objs.size f cdv).kindOf binds fun _ => none) (cellsFrom (s.heap.objs.size + 1) scope.names []) cells →
      wpAny (model prog w) (A.deeper (envOfC qual scope s.heap.objs.size f cdv)) (execs body (envOfC qual scope s.heap.objs.size f cdv))
        (fun fl s' => Q (match fl with | .ret v => v | _ => .none) s') (fun _ _ => False) { s with heap := h₁, toks := tk })
    (hco : scope.isCoroutine = false) (hgen : scope.isGenerator = false) (hk : scope.kind = .function) :
    wpAny (model prog w) A (call (.ref f) pos) Q E s := by
  obtain ⟨p, loose, mean, mg, mb, T⟩ := c.T
  refine wpAny_call (codeAny_call_function c.ok.room (c.X.keeps c.st _ _ ho) rfl hco hgen rfl (codeRec_of (c.X.keeps c.st) hcd) (hbind _ _ _ _ ?_))
  refine wpAny_newFunctionEnv_cells hk (kindsX hkind _) fun env' he s' x => ?_
  subst he
  refine ⟨(T.nolimit.keeps c.st).keeps x.toInCall.keep, codeAny_func ?_⟩
  obtain ⟨h₁, tk, rfl, _⟩ := x.done
  have hk₁ := x.toInCall.keep
  obtain ⟨cells, NC, Y⟩ := Cl.news (h₀ := s.heap) (Nat.le_refl _) fun n c hm => ⟨x.cell n c (lookup_of_mem_nodup (cellsFrom_names scope.names 0 (s.heap.objs.size + 1) [] [] rfl ▸ hnd) hm), x.above n c hm⟩
  refine wpAny_mono (h h₁ tk cells ⟨x.toInCall.ns, fun b o e => hk₁ b o (c.st b o e), Kept.of hk₁, Nat.le_refl _⟩ (fun q hq => ⟨(NC q hq).1, ?_⟩) Y) (fun fl s' hl => hl) fun _ _ y => y.elim
  obtain ⟨n, hm⟩ := cells_from Y q hq
  exact x.above n q.1 hm
end
end Mine
namespace Mine
abbrev roomD (P : Params) (k : Nat → Tok) (size low free mw col : Value) (ao ah aw : Addr) : List DictEntry :=
  [⟨PyData.keyHash P "size", .str "size" (k 0), size⟩, ⟨PyData.keyHash P "octets", .str "octets" (k 1), .ref ao⟩, ⟨PyData.keyHash P "low", .str "low" (k 2), low⟩, ⟨PyData.keyHash P "free", .str "free" (k 3), free⟩,
   ⟨PyData.keyHash P "held", .str "held" (k 4), .ref ah⟩, ⟨PyData.keyHash P "waiting", .str "waiting" (k 5), .ref aw⟩, ⟨PyData.keyHash P "most_waiting", .str "most_waiting" (k 6), mw⟩, ⟨PyData.keyHash P "collections", .str "collections" (k 7), col⟩]

section
variable {g h : Heap} {L r dx C l : Addr} {m : Str → Option Value} {od : Obj} {rest news : List (Addr × Obj)} {its : Array Value} {n : Nat}
theorem inst_k (F : Fr g L h m) (N : News g L h news) (I : Known g rest r (instObj C dx)) (D : Known g rest dx od) (sub : ∀ p ∈ rest, p ∈ news) : PySem.W.InstAt h r (instObj C dx) C (some od) := ⟨I.now F N sub, rfl, rfl, D.now F N sub⟩
theorem inst_kn (F : Fr g L h m) (N : News g L h news) (I : Known g rest r (instObj C dx)) (D : (dx, od) ∈ news) (sub : ∀ p ∈ rest, p ∈ news) : PySem.W.InstAt h r (instObj C dx) C (some od) := ⟨I.now F N sub, rfl, rfl, (N _ D).1⟩
theorem list_k (F : Fr g L h m) (N : News g L h news) (I : Known g rest l (listOf its n)) (sub : ∀ p ∈ rest, p ∈ news) : h.IsList l its := ⟨_, I.now F N sub, rfl, n, rfl⟩
theorem list_n (N : News g L h news) (I : (l, listOf its n) ∈ news) : h.IsList l its := ⟨_, (N _ I).1, rfl, n, rfl⟩
end

/-- a place: its list's address, where it lies, its length -/
structure Pl where
  a : Addr
  lo : Int
  len : Int
def PlAt (h : Heap) (p : Pl) : Prop := ∃ u0 u1 e, h.get? p.a = some (listOf [.int p.lo u0, .int p.len u1].toArray e)

theorem PlAt.stay {h h' : Heap} {p : Pl} (x : PlAt h p) (k : ∀ o, h.get? p.a = some o → h'.get? p.a = some o) : PlAt h' p := let ⟨a, b, c, d⟩ := x; ⟨a, b, c, k _ d⟩
/-- a room -/
structure Rm where
  r : Addr
  dx : Addr
  ao : Addr
  ah : Addr
  aw : Addr
  size : Int
  low : Int
  free : Int
  mw : Int
  col : Int
  ns : List Int
  held : List (Str × Pl)
  wait : List Pl
def Rm.pls (R : Rm) : List Pl := R.held.map (·.2) ++ R.wait
def Rm.fix (R : Rm) : List Addr := [R.r, R.dx, R.ao, R.ah, R.aw]
def Rm.adr (R : Rm) : List Addr := R.fix ++ R.pls.map (·.a)

abbrev PR : Program := Challenge.rw_pq0161_01.row.prog
def heldOf (l : List (Str × Pl)) : List (Str × Value) := l.map fun x => (x.1, .ref x.2.a)
def waitOf (l : List Pl) : List Value := l.map fun p => .ref p.a

structure RoomH (w : World) (h : Heap) (R : Rm) : Prop where
  inst : h.get? R.r = some (instObj 54 R.dx)
  dict : ∃ k t0 t1 t2 t3 t4 nd, h.get? R.dx = some (dictOf (roomD w.params k (.int R.size t0) (.int R.low t1) (.int R.free t2) (.int R.mw t3) (.int R.col t4) R.ao R.ah R.aw) nd)
  oct : ∃ vs e, h.get? R.ao = some (listOf (List.toArray vs) e) ∧ IntsAre vs R.ns
  held : ∃ ep, h.DictAt (strKind PR w) R.ah (heldOf R.held) ep
  wait : ∃ e, h.get? R.aw = some (listOf (waitOf R.wait).toArray e)
  pls : ∀ p ∈ R.pls, PlAt h p

/-- the room and the world -/
structure RoomW (w : World) (H h : Heap) (R : Rm) : Prop where
  at_ : RoomH w h R
  new : ∀ a ∈ R.adr, H.objs.size ≤ a
  sep : R.adr.Nodup

theorem RoomH.dictK {P : Prop} {w : World} {h : Heap} {R : Rm} (x : RoomH w h R)
    (f : ∀ k t0 t1 t2 t3 t4 nd, h.get? R.dx = some (dictOf (roomD w.params k (.int R.size t0) (.int R.low t1) (.int R.free t2) (.int R.mw t3) (.int R.col t4) R.ao R.ah R.aw) nd) → P) : P :=
  let ⟨k, t0, t1, t2, t3, t4, nd, e⟩ := x.dict
  f k t0 t1 t2 t3 t4 nd e
theorem RoomH.mono {w : World} {h h' : Heap} {R : Rm} (x : RoomH w h R) (k : ∀ a ∈ R.adr, ∀ o, h.get? a = some o → h'.get? a = some o) : RoomH w h' R where
  inst := k _ (by simp [Rm.adr, Rm.fix]) _ x.inst
  dict := let ⟨a, b, c, d, e, f, g, i⟩ := x.dict; ⟨a, b, c, d, e, f, g, k _ (by simp [Rm.adr, Rm.fix]) _ i⟩
  oct := let ⟨vs, e, a, b⟩ := x.oct; ⟨vs, e, k _ (by simp [Rm.adr, Rm.fix]) _ a, b⟩
  held := let ⟨ep, hd⟩ := x.held; ⟨ep, hd.at' fun o e => k _ (by simp [Rm.adr, Rm.fix]) _ e⟩
  wait := let ⟨e, a⟩ := x.wait; ⟨e, k _ (by simp [Rm.adr, Rm.fix]) _ a⟩
  pls := fun p hp => let ⟨a, b, c, d⟩ := x.pls p hp; ⟨a, b, c, k _ (by rw [Rm.adr]; exact List.mem_append_right _ (List.mem_map_of_mem hp)) _ d⟩
theorem RoomW.none {w : World} {H h : Heap} {R : Rm} (x : RoomW w H h R) (a : Addr) (ha : a ∈ R.adr) : H.get? a = Option.none := Heap.get?_none_of_le (x.new a ha)
theorem RoomW.mono {w : World} {H h h' : Heap} {R : Rm} (x : RoomW w H h R) (k : ∀ a ∈ R.adr, ∀ o, h.get? a = some o → h'.get? a = some o) : RoomW w H h' R := ⟨x.at_.mono k, x.new, x.sep⟩
theorem RoomW.stay {w : World} {H h h' : Heap} {R : Rm} (x : RoomW w H h R) (k : h.StaysIn h') : RoomW w H h' R := x.mono fun a _ o e => k a o e
theorem RoomW.kept {w : World} {H h h' : Heap} {R : Rm} {S : List Addr} (x : RoomW w H h R) (k : Kept S h h') (n : ∀ a ∈ R.adr, a ∉ S) : RoomW w H h' R := x.mono fun a ha o e => k a o (n a ha) e
/-- all that is the room's is there -/
theorem RoomH.has {w : World} {h : Heap} {R : Rm} (x : RoomH w h R) : ∀ a ∈ R.adr, ∃ o, h.get? a = some o := by
  intro a ha
  simp only [Rm.adr, Rm.fix, List.mem_append, List.mem_cons, List.not_mem_nil, or_false, List.mem_map] at ha
  rcases ha with (rfl | rfl | rfl | rfl | rfl) | ⟨p, hp, rfl⟩
  · exact ⟨_, x.inst⟩
  · obtain ⟨_, _, _, _, _, _, _, e⟩ := x.dict; exact ⟨_, e⟩
  · obtain ⟨_, _, e, _⟩ := x.oct; exact ⟨_, e⟩
  · obtain ⟨_, o, _, e, _⟩ := x.held; exact ⟨_, e⟩
  · obtain ⟨_, e⟩ := x.wait; exact ⟨_, e⟩
  · obtain ⟨_, _, _, e⟩ := x.pls p hp; exact ⟨_, e⟩
theorem RoomH.lt {w : World} {h : Heap} {R : Rm} (x : RoomH w h R) (a : Addr) (ha : a ∈ R.adr) : a < h.objs.size := let ⟨_, e⟩ := x.has a ha; Heap.lt_size e
/-- behind a stretch that turns none of the room -/
theorem RoomW.seg {w : World} {H h h' g : Heap} {R : Rm} {L : Addr} {m' : Str → Option Value} {M rest news : List (Addr × Obj)} (x : RoomW w H h R) (G : Seg w H g L M rest h) (F : Fr g L h' m') (N : News g L h' news) (sub : ∀ p ∈ rest, p ∈ news)
    (hL : L ∉ R.adr) (hM : ∀ a ∈ R.adr, a ∉ M.map (·.1)) : RoomW w H h' R := x.mono fun a ha o e => G.stay F N sub a o (fun q => hL (q ▸ ha)) (hM a ha) e
/-- the room's own five addresses lie apart from each other and from the places -/
structure Rm.Apart (R : Rm) : Prop where
  r_dx : R.r ≠ R.dx
  r_ao : R.r ≠ R.ao
  r_ah : R.r ≠ R.ah
  r_aw : R.r ≠ R.aw
  dx_ao : R.dx ≠ R.ao
  dx_ah : R.dx ≠ R.ah
  dx_aw : R.dx ≠ R.aw
  ao_ah : R.ao ≠ R.ah
  ao_aw : R.ao ≠ R.aw
  ah_aw : R.ah ≠ R.aw
  pl : ∀ p ∈ R.pls, p.a ≠ R.r ∧ p.a ≠ R.dx ∧ p.a ≠ R.ao ∧ p.a ≠ R.ah ∧ p.a ≠ R.aw
theorem Rm.apart {R : Rm} (h : R.adr.Nodup) : R.Apart := by
  simp only [Rm.adr, Rm.fix, List.cons_append, List.nil_append, List.nodup_cons, List.mem_cons, not_or] at h
  obtain ⟨⟨s1, s2, s3, s4, s5⟩, ⟨s6, s7, s8, s9⟩, ⟨s10, s11, s12⟩, ⟨s13, s14⟩, s15, s16⟩ := h
  refine ⟨s1, s2, s3, s4, s6, s7, s8, s10, s11, s13, fun p hp => ?_⟩
  have hm := List.mem_map_of_mem (f := Pl.a) hp
  exact ⟨fun q => s5 (q ▸ hm), fun q => s9 (q ▸ hm), fun q => s12 (q ▸ hm), fun q => s14 (q ▸ hm), fun q => s15 (q ▸ hm)⟩
theorem Rm.m_r (R : Rm) : R.r ∈ R.adr := by simp [Rm.adr, Rm.fix]
theorem Rm.m_dx (R : Rm) : R.dx ∈ R.adr := by simp [Rm.adr, Rm.fix]
theorem Rm.m_ao (R : Rm) : R.ao ∈ R.adr := by simp [Rm.adr, Rm.fix]
theorem Rm.m_ah (R : Rm) : R.ah ∈ R.adr := by simp [Rm.adr, Rm.fix]
theorem Rm.m_aw (R : Rm) : R.aw ∈ R.adr := by simp [Rm.adr, Rm.fix]
theorem Rm.m_pl {R : Rm} {p : Pl} (h : p ∈ R.pls) : p.a ∈ R.adr := by rw [Rm.adr]; exact List.mem_append_right _ (List.mem_map_of_mem h)

/-- other octets -/
theorem RoomW.setOct {w : World} {H h h' : Heap} {R : Rm} {vs : List Value} {e : Nat} {ns : List Int} (x : RoomW w H h R) (k : ∀ a ∈ R.adr, a ≠ R.ao → ∀ o, h.get? a = some o → h'.get? a = some o)
    (ho : h'.get? R.ao = some (listOf vs.toArray e)) (hi : IntsAre vs ns) : RoomW w H h' { R with ns := ns } := by
  have ap := Rm.apart x.sep
  refine ⟨⟨k _ R.m_r ap.r_ao _ x.at_.inst, ?_, ⟨vs, e, ho, hi⟩, ?_, ?_, fun p hp => ?_⟩, x.new, x.sep⟩
  · obtain ⟨a, b, c, d, e, f, g, i⟩ := x.at_.dict; exact ⟨a, b, c, d, e, f, g, k _ R.m_dx ap.dx_ao _ i⟩
  · obtain ⟨ep, hd⟩ := x.at_.held; exact ⟨ep, hd.at' fun o e => k _ R.m_ah (Ne.symm ap.ao_ah) _ e⟩
  · obtain ⟨e, a⟩ := x.at_.wait; exact ⟨e, k _ R.m_aw (Ne.symm ap.ao_aw) _ a⟩
  · obtain ⟨a, b, c, d⟩ := x.at_.pls p hp; exact ⟨a, b, c, k _ (Rm.m_pl hp) (ap.pl p hp).2.2.1 _ d⟩
/-- another attribute dict -/
theorem RoomW.setDict {w : World} {H h h' : Heap} {R : Rm} {free col : Int} {k' : Nat → Tok} {t0 t1 t2 t3 t4 : Tok} {nd : Nat} (x : RoomW w H h R) (k : ∀ a ∈ R.adr, a ≠ R.dx → ∀ o, h.get? a = some o → h'.get? a = some o)
    (ho : h'.get? R.dx = some (dictOf (roomD w.params k' (.int R.size t0) (.int R.low t1) (.int free t2) (.int R.mw t3) (.int col t4) R.ao R.ah R.aw) nd)) : RoomW w H h' { R with free := free, col := col } := by
  have ap := Rm.apart x.sep
  refine ⟨⟨k _ R.m_r ap.r_dx _ x.at_.inst, ⟨k', t0, t1, t2, t3, t4, nd, ho⟩, ?_, ?_, ?_, fun p hp => ?_⟩, x.new, x.sep⟩
  · obtain ⟨vs, e, a, b⟩ := x.at_.oct; exact ⟨vs, e, k _ R.m_ao (Ne.symm ap.dx_ao) _ a, b⟩
  · obtain ⟨ep, hd⟩ := x.at_.held; exact ⟨ep, hd.at' fun o e => k _ R.m_ah (Ne.symm ap.dx_ah) _ e⟩
  · obtain ⟨e, a⟩ := x.at_.wait; exact ⟨e, k _ R.m_aw (Ne.symm ap.dx_aw) _ a⟩
  · obtain ⟨a, b, c, d⟩ := x.at_.pls p hp; exact ⟨a, b, c, k _ (Rm.m_pl hp) (ap.pl p hp).2.1 _ d⟩
theorem after0 {g h h' : Heap} {L : Addr} {m : Str → Option Value} {news : List (Addr × Obj)} (F : Fr g L h m) (N : News g L h news) (k : Kept [] h h') : Fr g L h' m ∧ News g L h' news :=
  ⟨⟨F.ns.keeps k.stays, fun b o e => k.stays b o (F.keep b o e), F.above⟩, fun p hp => ⟨k.stays _ _ (N p hp).1, (N p hp).2⟩⟩
/-- behind a stretch that has turned nothing yet -/
theorem RoomW.same {w : World} {H h h' g : Heap} {R : Rm} {L : Addr} {m' : Str → Option Value} {M rest news : List (Addr × Obj)} (x : RoomW w H h R) (G : Seg w H g L M rest h) (F : Fr g L h' m') (N : News g L h' news) (sub : ∀ p ∈ rest, p ∈ news)
    (subM : ∀ q ∈ M, q ∈ news) (hM : ∀ q ∈ M, h.get? q.1 = some q.2) (hL : L ∉ R.adr) : RoomW w H h' R := x.mono fun a ha o e => by
  by_cases hm : a ∈ M.map (·.1)
  · obtain ⟨q, hq, rfl⟩ := List.mem_map.mp hm
    have := hM q hq
    rw [e] at this
    cases this
    exact (N _ (subM q hq)).1
  · exact G.stay F N sub a o (fun q => hL (q ▸ ha)) hm e
theorem newList_M {M : Model} {A : Around} {E : Value → Shared → Prop} {s : Shared} {g : Heap} {L : Addr} {m : Str → Option Value} {news : List (Addr × Obj)} {vs : List Value} {Q : Value → Shared → Prop} (F : Fr g L s.heap m) (N : News g L s.heap news)
    (h : ∀ l h', Fr g L h' m → News g L h' ((l, listOf vs.toArray 0) :: news) → (∀ p ∈ news, p.1 < l) → L < l → Q (.ref l) { s with heap := h' }) (hsz : vs.length ≤ sizeLine) : wpAny M A (newList vs) Q E s :=
  newList_N F N (fun h' F' N' => h _ h' F' N' (fun p hp => Heap.lt_size (N p hp).1) F.ns.lt) hsz
/-- the room with other waiting ones -/
theorem RoomW.setWait {w : World} {H h h' : Heap} {R : Rm} {wt : List Pl} {e : Nat} (x : RoomW w H h R) (k : ∀ a ∈ R.fix, a ≠ R.aw → ∀ o, h.get? a = some o → h'.get? a = some o)
    (hw : h'.get? R.aw = some (listOf (waitOf wt).toArray e)) (hp : ∀ p ∈ R.held.map (·.2) ++ wt, PlAt h' p) (hn : ∀ p ∈ R.held.map (·.2) ++ wt, H.objs.size ≤ p.a) (hs : (R.fix ++ (R.held.map (·.2) ++ wt).map (·.a)).Nodup) :
    RoomW w H h' { R with wait := wt } := by
  have ap := Rm.apart x.sep
  refine ⟨⟨k _ (by simp [Rm.fix]) ap.r_aw _ x.at_.inst, ?_, ?_, ?_, ⟨e, hw⟩, hp⟩, fun a ha => ?_, hs⟩
  · obtain ⟨a, b, c, d, e, f, g, i⟩ := x.at_.dict; exact ⟨a, b, c, d, e, f, g, k _ (by simp [Rm.fix]) ap.dx_aw _ i⟩
  · obtain ⟨vs, e, a, b⟩ := x.at_.oct; exact ⟨vs, e, k _ (by simp [Rm.fix]) ap.ao_aw _ a, b⟩
  · obtain ⟨ep, hd⟩ := x.at_.held; exact ⟨ep, hd.at' fun o e => k _ (by simp [Rm.fix]) ap.ah_aw _ e⟩
  · rcases List.mem_append.mp (show a ∈ R.fix ++ (R.held.map (·.2) ++ wt).map (·.a) from ha) with ha | ha
    · exact x.new a (List.mem_append_left _ ha)
    · obtain ⟨p, hp, rfl⟩ := List.mem_map.mp ha; exact hn p hp
theorem nodup_snoc {l : List Addr} {a : Addr} (h : l.Nodup) (n : a ∉ l) : (l ++ [a]).Nodup :=
  List.nodup_append.mpr ⟨h, by simp, fun x hx y hy e => n (by rw [List.mem_singleton.mp hy] at e; exact e ▸ hx)⟩
theorem News.swap {g h : Heap} {L : Addr} {a b : Addr × Obj} {rest : List (Addr × Obj)} (N : News g L h (a :: b :: rest)) : News g L h (b :: a :: rest) := fun p hp => N p (by
  rcases List.mem_cons.mp hp with rfl | hp
  · exact .tail _ (.head _)
  · rcases List.mem_cons.mp hp with rfl | hp
    · exact .head _
    · exact .tail _ (.tail _ hp))
end Mine
namespace Mine

theorem paired_mono {α β : Type} {F G : α → β → Prop} (h : ∀ a b, F a b → G a b) : ∀ {l₁ : List α} {l₂ : List β}, Paired F l₁ l₂ → Paired G l₁ l₂
  | _, _, .nil => .nil
  | _, _, .cons a t => .cons (h _ _ a) (paired_mono h t)

section
variable {prog : Program} {w : World} {A : Around} {R : Result → Shared → Prop} {s : Shared}

/-- the loop of a comprehension, what is told of an item may speak of the heap -/
theorem comp_loop_h {elt iter : Expr} {x : Str} {px : Pos} {ifs : List Expr} {scope : Scope} {pos : Pos} {I D : Addr} {fp wr : List Addr} {n : Nat} {P : Nat → Value → Prop} {St : Nat → Heap → Prop}
    {cenv : Env} {m : Str → Option Value} (W : Walks prog w A I fp wr n P St) (p : Value → Bool) (F : Heap → Value → Value → Prop)
    (hx : cenv.kindOf x = some .local) (hp : (cenv.scope.kind == .class || (cenv.scope.kind == .module && cenv.locals != cenv.globals)) = false)
    (hDC : D ≠ cenv.locals) (hDf : D ∉ fp) (hCf : cenv.locals ∉ fp)
    (hst : St 0 s.heap) (hacc : s.heap.PlainList D #[]) (hn : s.heap.Ns cenv.locals m)
    (hF : ∀ h h' v y, F h v y → (∀ b o, b ≠ cenv.locals → b ∉ wr → b ≠ D → h.get? b = some o → h'.get? b = some o) → F h' v y)
    (htests : ∀ i v s₂ m₂, P i v → s₂.heap.Ns cenv.locals m₂ → m₂ x = some v → (∀ b o, b ≠ cenv.locals → b ∉ wr → b ≠ D → s.heap.get? b = some o → s₂.heap.get? b = some o) →
      wpAny (model prog w) A (forIn ifs true fun c r => if r = true then do let ok ← isTrue c cenv (eval c cenv); pure (ForInStep.yield ok) else pure (ForInStep.yield r))
        (fun ok s₃ => ok = p v ∧ Keeps s₂ s₃) (fun _ _ => False) s₂)
    (helt : ∀ i v s₂ m₂, P i v → p v = true → s₂.heap.Ns cenv.locals m₂ → m₂ x = some v → (∀ b o, b ≠ cenv.locals → b ∉ wr → b ≠ D → s.heap.get? b = some o → s₂.heap.get? b = some o) →
      wpAny (model prog w) A (eval elt cenv) (fun y s₃ => F s₃.heap v y ∧ Keeps s₂ s₃) (fun _ _ => False) s₂)
    (hR : ∀ h' tk m' ys (vs : List Value), h'.Ns cenv.locals m' → h'.PlainList D ys → vs.length = n → (∀ j v, vs[j]? = some v → P j v) → Paired (F h') (vs.filter p) ys.toList →
      (∀ b o, b ≠ cenv.locals → b ∉ wr → b ≠ D → s.heap.get? b = some o → h'.get? b = some o) → R (.ok .next) { s with heap := h', toks := tk })
    (hsz : n ≤ sizeLine) :
    codeAny (model prog w) A (.compLoop (.ListComp elt [⟨.Name x px, iter, ifs, 0⟩] scope pos) 0 (.ref I) (.ref D) cenv) R s := by
  refine codeAny_compLoop_tests
    (fun k s' => ∃ h' tk m' ys, ∃ vs : List Value, s' = { s with heap := h', toks := tk } ∧ St vs.length h' ∧ h'.PlainList D ys ∧ h'.Ns cenv.locals m' ∧ (∀ j v, vs[j]? = some v → P j v) ∧
      Paired (F h') (vs.filter p) ys.toList ∧ vs.length ≤ n ∧ k = n + 1 - vs.length ∧
      (∀ b o, b ≠ cenv.locals → b ∉ wr → b ≠ D → s.heap.get? b = some o → h'.get? b = some o)) ?_ (n + 1)
    ⟨s.heap, s.toks, m, #[], [], rfl, hst, hacc, hn, by simp, by simpa using Paired.nil, Nat.zero_le _, rfl, fun _ _ _ _ _ e => e⟩
  rintro k s' ⟨H, tk, m', ys, vs, rfl, hst', hacc', hn', hP, hF', hi, rfl, hk⟩
  have hCw : cenv.locals ∉ wr := fun h => hCf (W.sub _ h)
  have hDw : D ∉ wr := fun h => hDf (W.sub _ h)
  by_cases hlt : vs.length < n
  · refine W.item vs.length _ _ _ hlt hst' fun v h₁ tk₁ hPv hst₁ hk₁ => ?_
    refine wpAny_assign_Name (wpAny_storeName_local hx (hn'.at' fun o e => hk₁ _ o hCw e) (fun h₂ hn₂ hs₂ => ?_) hp)
    have up₂ : ∀ b o, b ≠ cenv.locals → b ∉ wr → H.get? b = some o → h₂.get? b = some o := fun b o hbC hbf e => hs₂.extBut b o hbC (hk₁ b o hbf e)
    have hst₂ : St (vs.length + 1) h₂ := W.frame _ _ _ hst₁ fun b hb o e => hs₂.extBut b o (fun h => hCf (h ▸ hb)) e
    refine wpAny_mono (htests vs.length v _ _ hPv hn₂ (by simp) (fun b o hbC hbf hbD e => up₂ b o hbC hbf (hk b o hbC hbf hbD e))) (fun ok s₃ h₃ => ?_) fun _ _ e => e.elim
    obtain ⟨rfl, h₃, tk₃, rfl, hk₃⟩ := h₃
    have up₃ : ∀ b o, b ≠ cenv.locals → b ∉ wr → H.get? b = some o → h₃.get? b = some o := fun b o hbC hbf e => hk₃ b o (up₂ b o hbC hbf e)
    have hst₃ : St (vs.length + 1) h₃ := W.frame _ _ _ hst₂ fun b _ o e => hk₃ b o e
    have hacc₃ : h₃.PlainList D ys := hacc'.at fun o e => up₃ D o hDC hDw e
    have hn₃ := hn₂.keeps hk₃
    have hF₃ : Paired (F h₃) (vs.filter p) ys.toList := paired_mono (fun a b q => hF _ _ _ _ q fun c o h1 h2 _ e => up₃ c o h1 h2 e) hF'
    have hP' : ∀ j u, (vs ++ [v])[j]? = some u → P j u := fun j u hj => by
      rcases Nat.lt_trichotomy j vs.length with h | h | h
      · exact hP j u (by rwa [List.getElem?_append_left h] at hj)
      · subst h; simp at hj; subst hj; exact hPv
      · have hnone : (vs ++ [v])[j]? = none := List.getElem?_eq_none (by rw [List.length_append, List.length_singleton]; omega)
        rw [hnone] at hj; cases hj
    cases hpv : p v with
    | false =>
      simp only [Bool.false_eq_true, if_false]
      refine ⟨n + 1 - (vs.length + 1), by omega, h₃, tk₃, _, ys, vs ++ [v], rfl, by simpa using hst₃, hacc₃, hn₃, hP', ?_, (by rw [List.length_append, List.length_singleton]; exact hlt), (by rw [List.length_append, List.length_singleton]), fun b o hbC hbf hbD e => up₃ b o hbC hbf (hk b o hbC hbf hbD e)⟩
      rw [List.filter_append]; simpa [hpv] using hF₃
    | true =>
      simp only [if_true]
      refine wpAny_mono (helt vs.length v _ _ hPv hpv hn₃ (by simp) (fun b o hbC hbf hbD e => up₃ b o hbC hbf (hk b o hbC hbf hbD e))) (fun y s₄ h₄ => ?_) fun _ _ e => e.elim
      obtain ⟨hFy, h₄, tk₄, rfl, hk₄⟩ := h₄
      have hys : ys.size ≤ sizeLine := by
        have e1 := hF'.length
        have e2 : (vs.filter p).length ≤ vs.length := List.length_filter_le _ _
        have e4 : ys.toList.length = ys.size := by simp
        omega
      refine wpAny_list_append_plain (hsz := hys) (hacc₃.at fun o e => hk₄ _ o e) fun h₅ hl₅ hs₅ => ?_
      have hF₄ : Paired (F h₄) (vs.filter p) ys.toList := paired_mono (fun a b q => hF _ _ _ _ q fun c o _ _ _ e => hk₄ c o e) hF₃
      have hF₅ : Paired (F h₅) (vs.filter p ++ [v]) (ys.toList ++ [y]) := Paired.snoc (paired_mono (fun a b q => hF _ _ _ _ q fun c o _ _ h3 e => hs₅.extBut c o h3 e) hF₄) (hF _ _ _ _ hFy fun c o _ _ h3 e => hs₅.extBut c o h3 e)
      refine ⟨n + 1 - (vs.length + 1), by omega, h₅, tk₄, _, ys.push y, vs ++ [v], rfl, ?_, hl₅, (hn₃.keeps hk₄).sameBut hs₅ (Ne.symm hDC), hP', ?_, (by rw [List.length_append, List.length_singleton]; exact hlt), (by rw [List.length_append, List.length_singleton]),
        fun b o hbC hbf hbD e => hs₅.extBut b o hbD (hk₄ b o (up₃ b o hbC hbf (hk b o hbC hbf hbD e)))⟩
      · have := W.frame _ _ h₅ hst₃ fun b hb o e => hs₅.extBut b o (fun h => hDf (h ▸ hb)) (hk₄ b o e)
        simpa using this
      · rw [List.filter_append]; simpa [hpv] using hF₅
  · have hin : vs.length = n := by omega
    refine W.done _ _ _ (hin ▸ hst') fun h₁ tk₁ hk₁ => ?_
    refine hR h₁ tk₁ m' ys vs (hn'.at' fun o e => hk₁ _ o hCw e) (hacc'.at fun o e => hk₁ _ o hDw e) hin hP ?_ fun b o hbC hbf hbD e => hk₁ b o hbf (hk b o hbC hbf hbD e)
    exact paired_mono (fun a b q => hF _ _ _ _ q fun c o _ h2 _ e => hk₁ c o h2 e) hF'
end

section
variable {prog : Program} {w : World} {A : Around} {E : Value → Shared → Prop} {env : Env}

/-- the items' tests and terms; C: the comprehension's own frame; what is made lies above C -/
structure QuietH (prog : Program) (w : World) (A : Around) (env : Env) (scope : Scope) (cl : List (Str × Addr)) (x : Str) (ifs : List Expr) (elt : Expr) (wr : List Addr) (P : Nat → Value → Prop) (p : Value → Bool)
    (F : Addr → Heap → Value → Value → Prop) (s₂ : Shared) : Prop where
  up : ∀ C h h' v y, F C h v y → (∀ b o, (C < b ∨ (b < s₂.heap.objs.size ∧ b ∉ wr ∧ b ≠ env.locals)) → h.get? b = some o → h'.get? b = some o) → F C h' v y
  tests : ∀ C i v s₃ m₃, s₂.heap.objs.size < C → P i v → s₃.heap.Ns C m₃ → m₃ x = some v → (∀ b o, b ∉ wr → s₂.heap.get? b = some o → s₃.heap.get? b = some o) →
    wpAny (model prog w) A (forIn ifs true fun c r => if r = true then do let ok ← isTrue c (compEnvC scope cl C env) (eval c (compEnvC scope cl C env)); pure (ForInStep.yield ok) else pure (ForInStep.yield r))
      (fun ok s₄ => ok = p v ∧ Keeps s₃ s₄) (fun _ _ => False) s₃
  elt : ∀ C i v s₃ m₃, s₂.heap.objs.size < C → P i v → p v = true → s₃.heap.Ns C m₃ → m₃ x = some v → (∀ b o, b ∉ wr → s₂.heap.get? b = some o → s₃.heap.get? b = some o) →
    wpAny (model prog w) A (eval elt (compEnvC scope cl C env)) (fun y s₄ => F C s₄.heap v y ∧ Keeps s₃ s₄) (fun _ _ => False) s₃

theorem comp_block_h {elt iter : Expr} {x : Str} {px : Pos} {ifs : List Expr} {scope : Scope} {cl : List (Str × Addr)} {pos : Pos} {s₂ : Shared} {I : Addr} {fp wr : List Addr} {n : Nat} {P : Nat → Value → Prop}
    {St : Nat → Heap → Prop} (W : Walks prog w A I fp wr n P St) (hsz : n ≤ sizeLine) (p : Value → Bool) (F : Addr → Heap → Value → Value → Prop) {RR : Value → Addr → Result → Shared → Prop}
    (hcell : ∀ y ∈ scope.names, y.2 ≠ .cell) (hkind : scope.kind = .function) (hx : scope.names.lookup x = some .local) (hst : St 0 s₂.heap) (hfp : ∀ b ∈ fp, b < s₂.heap.objs.size)
    (hq : QuietH prog w A env scope cl x ifs elt wr P p F s₂)
    (hRR : ∀ D C h' tk m' ys (vs : List Value), s₂.heap.objs.size ≤ D → D < C → h'.Ns C m' → h'.PlainList D ys → vs.length = n → (∀ j v, vs[j]? = some v → P j v) → Paired (F C h') (vs.filter p) ys.toList →
      (∀ b o, b ∉ wr → s₂.heap.get? b = some o → h'.get? b = some o) → RR (.ref D) C (.ok .next) { s₂ with heap := h', toks := tk }) :
    wpAny (model prog w) A (newList []) (fun acc s₃ => wpAny (model prog w) A (newFunctionEnv scope env.globals cl [] env.qual none .none (some env)) (fun cenv s₄ =>
      codeAny (model prog w) A (.compStart (.ListComp elt [⟨.Name x px, iter, ifs, 0⟩] scope pos) 0 (.ref I) acc { cenv with scope := relabel scope env }) (RR acc cenv.locals) s₄) E s₃) E s₂ := by
  refine wpAny_newObj_type (wpAny_newFunctionEnv hcell (by intro y hy; simp at hy) (fun h₁ hns₁ hsb₁ => ?_) hkind)
  dsimp only at hns₁ hsb₁ ⊢
  generalize hH2 : s₂.heap.push { cls := .type "list", dict := none, data := .seq ([] : List Value).toArray } = H2 at hns₁ hsb₁ ⊢
  have hC : H2.objs.size = s₂.heap.objs.size + 1 := by rw [← hH2, Heap.size_push]
  have hDlt : s₂.heap.objs.size < H2.objs.size := by rw [hC]; exact Nat.lt_succ_self _
  have hDC : s₂.heap.objs.size ≠ H2.objs.size := Nat.ne_of_lt hDlt
  have below : ∀ b, b < s₂.heap.objs.size → b ≠ H2.objs.size ∧ b ≠ s₂.heap.objs.size := fun b hb => ⟨by rw [hC]; exact Nat.ne_of_lt (Nat.lt_succ_of_lt hb), Nat.ne_of_lt hb⟩
  have hDf : s₂.heap.objs.size ∉ fp := fun hm => Nat.lt_irrefl _ (hfp _ hm)
  have hCf : H2.objs.size ∉ fp := fun hm => by have := hfp _ hm; rw [hC] at this; exact Nat.lt_irrefl _ (Nat.lt_of_succ_lt this)
  have old : ∀ b o, s₂.heap.get? b = some o → h₁.get? b = some o := fun b o e => hsb₁.extBut b o (below b (Heap.lt_size e)).1 (Heap.get?_push_of_some _ (hH2 ▸ Heap.get?_push_of_some _ e))
  have hacc : h₁.PlainList s₂.heap.objs.size #[] := ⟨_, hsb₁.extBut _ _ hDC (Heap.get?_push_of_some _ (hH2 ▸ Heap.get?_push_size _ rfl))⟩
  have hst₁ : St 0 h₁ := W.frame _ _ _ hst fun b _ o e => old b o e
  have loop : ∀ s₃ : Shared, s₃ = { s₂ with heap := h₁, toks := s₂.toks + ([] : List (Str × Value)).length } →
      codeAny (model prog w) A (.compLoop (.ListComp elt [⟨.Name x px, iter, ifs, 0⟩] scope pos) 0 (.ref I) (.ref s₂.heap.objs.size) (compEnvC scope cl H2.objs.size env))
        (RR (.ref s₂.heap.objs.size) H2.objs.size) s₃ := by
    rintro s₃ rfl
    refine comp_loop_h (hsz := hsz) (cenv := compEnvC scope cl H2.objs.size env) W p (F H2.objs.size) (lookup_relabel_local hx) (by simp [compEnvC, relabel, hkind]) hDC hDf hCf hst₁ hacc hns₁
      (fun h h' v y q k => hq.up _ h h' v y q fun b o hb e => ?_)
      (fun i v s₃ m₃ hv hn hm hk => hq.tests _ i v s₃ m₃ hDlt hv hn hm fun b o hbf e => hk b o (below b (Heap.lt_size e)).1 hbf (below b (Heap.lt_size e)).2 (old b o e))
      (fun i v s₃ m₃ hv hpv hn hm hk => hq.elt _ i v s₃ m₃ hDlt hv hpv hn hm fun b o hbf e => hk b o (below b (Heap.lt_size e)).1 hbf (below b (Heap.lt_size e)).2 (old b o e)) fun h' tk m' ys vs hn hpl hlen hP hF hk => ?_
    · have hCC : (compEnvC scope cl H2.objs.size env).locals = H2.objs.size := rfl
      rw [hCC] at k
      rcases hb with hb | ⟨hb, hbw, _⟩
      · exact k b o (Nat.ne_of_gt hb) (fun hw => absurd (hfp _ (W.sub _ hw)) (Nat.not_lt.mpr (Nat.le_of_lt (Nat.lt_trans hDlt hb)))) (Nat.ne_of_gt (Nat.lt_trans hDlt hb)) e
      · exact k b o (below b hb).1 hbw (below b hb).2 e
    · exact hRR _ _ h' tk m' ys vs (Nat.le_refl _) hDlt hn hpl hlen hP hF fun b o hbf e =>
        hk b o (below b (Heap.lt_size e)).1 hbf (below b (Heap.lt_size e)).2 (old b o e)
  exact codeAny_compStart_list (loop _ rfl) (W.self 0 _ _ _ hst₁ (loop _ rfl))

/-- what is wanted of a comprehension's source -/
def CompAt (prog : Program) (w : World) (A : Around) (env : Env) (scope : Scope) (cl : List (Str × Addr)) (x : Str) (ifs : List Expr) (elt : Expr) (Q : Value → Shared → Prop) (it : Value) (s₂ : Shared) : Prop :=
  ∃ I fp wr n P St p F, it = .ref I ∧ Walks prog w A I fp wr n P St ∧ n ≤ sizeLine ∧ St 0 s₂.heap ∧ (∀ b ∈ fp, b < s₂.heap.objs.size) ∧
      QuietH prog w A env scope cl x ifs elt wr P p F s₂ ∧
      (∀ D C h' tk ys (vs : List Value), s₂.heap.objs.size ≤ D → D < C → h'.PlainList D ys → vs.length = n → (∀ j v, vs[j]? = some v → P j v) → Paired (F C h') (vs.filter p) ys.toList →
        (∀ b o, b ∉ wr → s₂.heap.get? b = some o → h'.get? b = some o) → Q (.ref D) { s₂ with heap := h', toks := tk })

theorem comp_h {s : Shared} {elt iter : Expr} {x : Str} {px : Pos} {ifs : List Expr} {scope : Scope} {cl : List (Str × Addr)} {pos : Pos} {Q : Value → Shared → Prop}
    (hclos : closureFor scope env = pure cl) (hcell : ∀ y ∈ scope.names, y.2 ≠ .cell) (hkind : scope.kind = .function)
    (hnames : ∀ y ∈ scope.names, y.2 = .local → scope.names.lookup y.1 = some .local) (hx : scope.names.lookup x = some .local)
    (h : wpAny (model prog w) A (eval iter env) (fun xv s₁ => wpAny (model prog w) A (pyIter xv) (fun it s₂ => CompAt prog w A env scope cl x ifs elt Q it s₂) E s₁) E s)
    (hs : ∀ x, foldedSetIterable iter env x = pure x := by intro _; rfl) :
    wpAny (model prog w) A (eval (.ListComp elt [⟨.Name x px, iter, ifs, 0⟩] scope pos) env) Q E s := by
  rw [eval_ListComp]
  refine wpAny_comprehension_free (use := none) rfl hs hclos hkind hnames (wpAny_mono h (fun xv s₁ h₁ => wpAny_mono h₁ (fun it s₂ h₂ => ?_) fun _ _ e => e) fun _ _ e => e)
  obtain ⟨I, fp, wr, n, P, St, p, F, rfl, W, hsz, hst, hfp, hq, hQ⟩ := h₂
  refine comp_block_h (RR := fun acc C => compPost (model prog w) A E none Q acc C) W hsz p F hcell hkind hx hst hfp hq ?_
  intro D C h' tk m' ys vs hD hC hn hpl hlen hP hF hk
  refine ⟨m', hn, fun h'' hs'' => hQ D C h'' tk ys vs hD hC (hpl.extBut hs''.extBut (Nat.ne_of_lt hC)) hlen hP (paired_mono (fun a b q => hq.up _ _ _ _ _ q fun c o hc e => hs''.extBut c o (hc.elim (fun q => Nat.ne_of_gt q) fun q => Nat.ne_of_lt (Nat.lt_trans (Nat.lt_of_lt_of_le q.1 hD) hC)) e) hF) fun b o hbf e => hs''.extBut b o (Nat.ne_of_lt (Nat.lt_trans (Nat.lt_of_lt_of_le (Heap.lt_size e) hD) hC)) (hk b o hbf e)⟩

/-- the same where a name takes the list -/
def CompAtS (prog : Program) (w : World) (A : Around) (env : Env) (scope : Scope) (cl : List (Str × Addr)) (x : Str) (ifs : List Expr) (elt : Expr) (y : Str) (Q : Flow → Shared → Prop) (it : Value) (s₂ : Shared) : Prop :=
  ∃ m I fp wr n P St p F, s₂.heap.Ns env.locals m ∧ env.locals ∉ wr ∧ it = .ref I ∧ Walks prog w A I fp wr n P St ∧ n ≤ sizeLine ∧ St 0 s₂.heap ∧ (∀ b ∈ fp, b < s₂.heap.objs.size) ∧
      QuietH prog w A env scope cl x ifs elt wr P p F s₂ ∧
      (∀ D C h' tk ys (vs : List Value), s₂.heap.objs.size ≤ D → D < C → h'.PlainList D ys → vs.length = n → (∀ j v, vs[j]? = some v → P j v) → Paired (F C h') (vs.filter p) ys.toList →
        h'.Ns env.locals (fun z => if z = y then some (.ref D) else m z) → (∀ b o, b ≠ env.locals → b ∉ wr → s₂.heap.get? b = some o → h'.get? b = some o) → Q .next { s₂ with heap := h', toks := tk })

/-- name = [..] -/
theorem assign_comp_h {s : Shared} {elt iter : Expr} {x y : Str} {px py : Pos} {ifs : List Expr} {scope : Scope} {cl : List (Str × Addr)} {pos spos : Pos} {Q : Flow → Shared → Prop}
    (hsw : swapsWith (.ListComp elt [⟨.Name x px, iter, ifs, 0⟩] scope pos) (some (.Name y py)) spos.line env = pure true)
    (hclos : closureFor scope env = pure cl) (hcell : ∀ z ∈ scope.names, z.2 ≠ .cell) (hkind : scope.kind = .function)
    (hnames : ∀ z ∈ scope.names, z.2 = .local → scope.names.lookup z.1 = some .local) (hx : scope.names.lookup x = some .local)
    (hy : env.kindOf y = some .local) (hp : (env.scope.kind == .class || (env.scope.kind == .module && env.locals != env.globals)) = false)
    (h : wpAny (model prog w) A (eval iter env) (fun xv s₁ => wpAny (model prog w) A (pyIter xv) (fun it s₂ => CompAtS prog w A env scope cl x ifs elt y Q it s₂) E s₁) E s)
    (hs : ∀ x, foldedSetIterable iter env x = pure x := by intro _; rfl) :
    wpAny (model prog w) A (exec (.Assign [.Name y py] (.ListComp elt [⟨.Name x px, iter, ifs, 0⟩] scope pos) spos) env) Q E s := by
  rw [exec_Assign_Name_used _ _ _ _ hsw]
  refine wpAny_bind (wpAny_standAt (wpAny_bind ?_))
  show wpAny _ A (do let _ ← comprehension (.ListComp elt [⟨.Name x px, iter, ifs, 0⟩] scope pos) scope env _ (newList []) false (eval iter env) (some (assign (.Name y py) env))) _ _ s
  refine wpAny_bind (wpAny_mono (wpAny_comprehension_free (use := some (assign (.Name y py) env)) (Q := fun _ s' => Q .next s') rfl hs hclos hkind hnames
    (wpAny_mono h (fun xv s₁ h₁ => wpAny_mono h₁ (fun it s₂ h₂ => ?_) fun _ _ e => e) fun _ _ e => e)) (fun _ s' hq => wpAny_pure (wpAny_pure hq)) fun _ _ e => e)
  obtain ⟨m, I, fp, wr, n, P, St, p, F, hns, hLw, rfl, W, hsz, hst, hfp, hq, hQ⟩ := h₂
  refine comp_block_h (RR := fun acc C => compPost (model prog w) A E (some (assign (.Name y py) env)) (fun _ s' => Q .next s') acc C) W hsz p F hcell hkind hx hst hfp hq ?_
  intro D C h' tk m' ys vs hD hC hnC hpl hlen hP hF hk
  have hL : env.locals < s₂.heap.objs.size := hns.lt
  have hLC : env.locals ≠ C := Nat.ne_of_lt (Nat.lt_trans (Nat.lt_of_lt_of_le hL hD) hC)
  have hLD : env.locals ≠ D := Nat.ne_of_lt (Nat.lt_of_lt_of_le hL hD)
  show wpAny _ A (assign (.Name y py) env (.ref D)) _ _ _
  refine wpAny_assign_Name (wpAny_storeName_local hy (hns.at' fun o e => hk _ o hLw e) (fun h₂ hn₂ hs₂ => ?_) hp)
  refine ⟨m', hnC.sameBut hs₂ (Ne.symm hLC), fun h₃ hs₃ => ?_⟩
  refine hQ D C h₃ _ ys vs hD hC ((hpl.extBut hs₂.extBut (Ne.symm hLD)).extBut hs₃.extBut (Nat.ne_of_lt hC)) hlen hP ?_ (hn₂.sameBut hs₃ hLC) fun b o hbL hbf e =>
    hs₃.extBut b o (Nat.ne_of_lt (Nat.lt_trans (Nat.lt_of_lt_of_le (Heap.lt_size e) hD) hC)) (hs₂.extBut b o hbL (hk b o hbf e))
  refine paired_mono (fun a b q => hq.up _ _ _ _ _ q fun c o hc e => ?_) hF
  rcases hc with hc | ⟨hc, hcw, hcL⟩
  · exact hs₃.extBut c o (Nat.ne_of_gt hc) (hs₂.extBut c o (Nat.ne_of_gt (Nat.lt_trans (Nat.lt_trans (Nat.lt_of_lt_of_le hL hD) hC) hc)) e)
  · exact hs₃.extBut c o (Nat.ne_of_lt (Nat.lt_trans (Nat.lt_of_lt_of_le hc hD) hC)) (hs₂.extBut c o hcL e)
end
end Mine
namespace Mine
section
variable {M : Model} {A : Around} {E : Value → Shared → Prop} {s : Shared} {K : Frag} {g : Heap} {C : Addr} {m mg mb : Str → Option Value} {env : Env} {p : Program} {loose : List Str} {x : Str} {pos : Pos} {v : Value} {Q : Value → Shared → Prop}
theorem nameE_L (F : Fr g C s.heap m) (hC : env.locals = C) (hv : m x = some v) (h : Q v s) (hk : env.scope.kind = .function) (hx : env.kindOf x = some .local) (hd : (x == ("__debug__" : Str)) = false) :
    wpAny M A (eval (.Name x pos) env) Q E s := wpAny_Name (wpAny_loadName_local hk hx (by rw [hC]; exact F.ns) hv h) hd
theorem nameE_F {c : Addr} (hc : env.cells.lookup x = some c) (hcell : s.heap.IsCell c (some v)) (h : Q v s) (hk : env.scope.kind = .function) (hx : env.kindOf x = some .free) (hd : (x == ("__debug__" : Str)) = false) (hn : (x == ("__classdict__" : Str)) = false) :
    wpAny M A (eval (.Name x pos) env) Q E s := wpAny_Name (wpAny_loadName_free hk hx hc hcell h hn) hd
theorem nameE_Cell {c : Addr} (hc : env.cells.lookup x = some c) (hcell : s.heap.IsCell c (some v)) (h : Q v s) (hk : env.scope.kind = .function) (hx : env.kindOf x = some .cell) (hd : (x == ("__debug__" : Str)) = false) :
    wpAny M A (eval (.Name x pos) env) Q E s := wpAny_Name (wpAny_loadName_cell hk hx hc hcell h) hd
theorem nameE_K (F : Fr g C s.heap m) (X : K.In g) (T : TopRead p loose mg mb g) (e : nsIn K mainGlobals x = some (some v)) (h : Q v s) (hg : env.globals = mainGlobals) (hk : env.scope.kind = .function) (hx : env.kindOf x = some .globalImplicit) (hd : (x == ("__debug__" : Str)) = false) :
    wpAny M A (eval (.Name x pos) env) Q E s := Name_function_global hk hx (loadGlobal_global (env := env) (by rw [hg]; exact T.g.keeps F.keep) (mg_of X T.g e) h) hd
theorem nameE_B (F : Fr g C s.heap m) (X : K.In g) (T : TopRead p loose mg mb g) (e : nsIn K mainGlobals x = some none) (hv : bootBuiltins x = some v) (hn : x ≠ "__name__") (h : Q v s) (hg : env.globals = mainGlobals) (hb : env.builtins = builtinsNs) (hk : env.scope.kind = .function)
    (hx : env.kindOf x = some .globalImplicit) (hd : (x == ("__debug__" : Str)) = false) :
    wpAny M A (eval (.Name x pos) env) Q E s :=
  Name_function_global hk hx (loadGlobal_builtin (env := env) (by rw [hg]; exact T.g.keeps F.keep) (mg_none_of X T.g e) (by rw [hb]; exact T.b.keeps F.keep) ((T.builtins x hn).trans hv) h) hd
end

section
variable {prog : Program} {w : World} {A : Around} {E : Value → Shared → Prop} {env : Env} {s : Shared} {g : Heap} {L l : Addr} {m : Str → Option Value} {news : List (Addr × Obj)} {items : Array Value}
  {scope : Scope} {cl : List (Str × Addr)} {x : Str} {ifs : List Expr} {elt : Expr}

theorem walked_eq {items : Array Value} {vs : List Value} (hlen : vs.length = items.size) (hP : ∀ (j : Nat) (v : Value), vs[j]? = some v → items[j]? = some v) : vs = items.toList := by
  refine List.ext_getElem? fun j => ?_
  cases h : vs[j]? with
  | some v => have := hP j v h; simpa using this.symm
  | none =>
    have : vs.length ≤ j := by simpa using h
    symm
    simp; omega

/-- the tests and the terms, over a frame of their own -/
structure EltOk (prog : Program) (w : World) (A : Around) (env : Env) (scope : Scope) (cl : List (Str × Addr)) (x : Str) (ifs : List Expr) (elt : Expr) (g : Heap) (news : List (Addr × Obj)) (P : Nat → Value → Prop) (p : Value → Bool)
    (G : Addr → Heap → Value → Value → Prop) : Prop where
  up : ∀ C h h' v y, G C h v y → (∀ b o, C < b → h.get? b = some o → h'.get? b = some o) → G C h' v y
  tests : ∀ C i v s₃ m₃, P i v → Fr g C s₃.heap m₃ → News g C s₃.heap news → m₃ x = some v → (∀ q ∈ news, q.1 < C) →
    wpAny (model prog w) A (forIn ifs true fun c r => if r = true then do let ok ← isTrue c (compEnvC scope cl C env) (eval c (compEnvC scope cl C env)); pure (ForInStep.yield ok) else pure (ForInStep.yield r))
      (fun ok s₄ => ok = p v ∧ Keeps s₃ s₄) (fun _ _ => False) s₃
  elt : ∀ C i v s₃ m₃, P i v → p v = true → Fr g C s₃.heap m₃ → News g C s₃.heap news → m₃ x = some v → (∀ q ∈ news, q.1 < C) →
    wpAny (model prog w) A (eval elt (compEnvC scope cl C env)) (fun y s₄ => G C s₄.heap v y ∧ Keeps s₃ s₄) (fun _ _ => False) s₃

theorem EltOk.quiet {I : Addr} {P : Nat → Value → Prop} {p : Value → Bool} {G : Addr → Heap → Value → Value → Prop} {s₂ : Shared} (x' : EltOk prog w A env scope cl x ifs elt g news P p G) (F : Fr g L s₂.heap m) (N : News g L s₂.heap news)
    (hI : ∀ q ∈ news, q.1 ≠ I) (hg : g.get? I = none) : QuietH prog w A env scope cl x ifs elt [I] P p G s₂ where
  up := fun C h h' v y q k => x'.up C h h' v y q fun b o hb e => k b o (.inl hb) e
  tests := fun C i v s₃ m₃ hC hP hn hm hk =>
    x'.tests C i v s₃ m₃ hP ⟨hn, fun b o e => hk b o (fun q => by rw [List.mem_singleton.mp q, hg] at e; cases e) (F.keep b o e), Nat.le_trans F.above (Nat.le_of_lt (Nat.lt_trans F.ns.lt hC))⟩
      (fun q hq => ⟨hk _ _ (fun z => hI q hq (List.mem_singleton.mp z)) (N q hq).1, Nat.ne_of_lt (Nat.lt_trans (Heap.lt_size (N q hq).1) hC), (N q hq).2.2⟩) hm fun q hq => Nat.lt_trans (Heap.lt_size (N q hq).1) hC
  elt := fun C i v s₃ m₃ hC hP hp hn hm hk =>
    x'.elt C i v s₃ m₃ hP hp ⟨hn, fun b o e => hk b o (fun q => by rw [List.mem_singleton.mp q, hg] at e; cases e) (F.keep b o e), Nat.le_trans F.above (Nat.le_of_lt (Nat.lt_trans F.ns.lt hC))⟩
      (fun q hq => ⟨hk _ _ (fun z => hI q hq (List.mem_singleton.mp z)) (N q hq).1, Nat.ne_of_lt (Nat.lt_trans (Heap.lt_size (N q hq).1) hC), (N q hq).2.2⟩) hm fun q hq => Nat.lt_trans (Heap.lt_size (N q hq).1) hC

/-- over a fresh iterator -/
theorem comp_gen {Q : Value → Shared → Prop} {fp : List Addr} {n : Nat} {P : Nat → Value → Prop} {St : Nat → Heap → Prop} {o : Obj} (p : Value → Bool) (G : Addr → Heap → Value → Value → Prop) (F : Fr g L s.heap m) (N : News g L s.heap news)
    (W : Walks prog w A s.heap.objs.size fp [s.heap.objs.size] n P St) (hfp : ∀ b ∈ fp, b ≤ s.heap.objs.size) (hst : St 0 (s.heap.push o)) (hsz : n ≤ sizeLine)
    (hx : EltOk prog w A env scope cl x ifs elt g news P p G)
    (hQ : ∀ D C (vs : List Value) ys e h' tk, D < C → L < D → (∀ q ∈ news, q.1 < D) → Fr g L h' m → News g L h' ((D, listOf ys e) :: news) → vs.length = n → (∀ j v, vs[j]? = some v → P j v) → Paired (G C h') (vs.filter p) ys.toList → Q (.ref D) { s with heap := h', toks := tk }) :
    CompAt prog w A env scope cl x ifs elt Q (.ref s.heap.objs.size) { s with heap := s.heap.push o } := by
  have hI : ∀ q ∈ news, q.1 ≠ s.heap.objs.size := fun q hq => Nat.ne_of_lt (Heap.lt_size (N q hq).1)
  have hgI : g.get? s.heap.objs.size = none := next_is_new F
  refine ⟨_, _, _, _, _, _, p, G, rfl, W, hsz, hst, fun b hb => by rw [Heap.size_push]; exact Nat.lt_succ_of_le (hfp b hb), hx.quiet (F.push _) (fun q hq => ⟨Heap.get?_push_of_some _ (N q hq).1, (N q hq).2⟩) hI hgI, ?_⟩
  intro D C h' tk ys vs hD hC hpl hlen hP hF hk
  rw [Heap.size_push] at hD
  have hk' : ∀ b o, s.heap.get? b = some o → h'.get? b = some o := fun b o e => hk b o (fun q => by have := Heap.lt_size e; rw [List.mem_singleton.mp q] at this; exact Nat.lt_irrefl _ this) (Heap.get?_push_of_some _ e)
  obtain ⟨e, he⟩ := hpl
  have hDL : D ≠ L := Nat.ne_of_gt (Nat.lt_of_lt_of_le F.ns.lt (Nat.le_of_succ_le hD))
  have hgD : g.get? D = none := Heap.get?_none_of_le (Nat.le_trans F.above (Nat.le_trans (Nat.le_of_lt F.ns.lt) (Nat.le_of_succ_le hD)))
  refine hQ D C vs ys e h' tk hC (Nat.lt_of_lt_of_le F.ns.lt (Nat.le_of_succ_le hD)) (fun q hq => Nat.lt_of_lt_of_le (Heap.lt_size (N q hq).1) (Nat.le_of_succ_le hD)) ⟨F.ns.keeps hk', fun b o q => hk' b o (F.keep b o q), F.above⟩ (fun q hq => ?_) hlen hP hF
  rcases List.mem_cons.mp hq with rfl | hq
  · exact ⟨he, hDL, hgD⟩
  · exact ⟨hk' _ _ (N q hq).1, (N q hq).2⟩

/-- the same where a name takes the list -/
theorem comp_genS {y : Str} {Q : Flow → Shared → Prop} {fp : List Addr} {n : Nat} {P : Nat → Value → Prop} {St : Nat → Heap → Prop} {o : Obj} (p : Value → Bool) (G : Addr → Heap → Value → Value → Prop) (hL : env.locals = L) (F : Fr g L s.heap m) (N : News g L s.heap news)
    (W : Walks prog w A s.heap.objs.size fp [s.heap.objs.size] n P St) (hfp : ∀ b ∈ fp, b ≤ s.heap.objs.size) (hst : St 0 (s.heap.push o)) (hsz : n ≤ sizeLine)
    (hx : EltOk prog w A env scope cl x ifs elt g news P p G)
    (hQ : ∀ D C (vs : List Value) ys e h' tk, D < C → L < D → (∀ q ∈ news, q.1 < D) → Fr g L h' (fun z => if z = y then some (.ref D) else m z) → News g L h' ((D, listOf ys e) :: news) → vs.length = n → (∀ j v, vs[j]? = some v → P j v) → Paired (G C h') (vs.filter p) ys.toList →
      Q .next { s with heap := h', toks := tk }) :
    CompAtS prog w A env scope cl x ifs elt y Q (.ref s.heap.objs.size) { s with heap := s.heap.push o } := by
  have hI : ∀ q ∈ news, q.1 ≠ s.heap.objs.size := fun q hq => Nat.ne_of_lt (Heap.lt_size (N q hq).1)
  have hgI : g.get? s.heap.objs.size = none := next_is_new F
  refine ⟨m, _, _, _, _, _, _, p, G, by rw [hL]; exact (F.push _).ns, fun q => by rw [hL] at q; exact Nat.ne_of_lt F.ns.lt (List.mem_singleton.mp q), rfl, W, hsz, hst, fun b hb => by rw [Heap.size_push]; exact Nat.lt_succ_of_le (hfp b hb),
    hx.quiet (F.push _) (fun q hq => ⟨Heap.get?_push_of_some _ (N q hq).1, (N q hq).2⟩) hI hgI, ?_⟩
  intro D C h' tk ys vs hD hC hpl hlen hP hF hn hk
  rw [hL] at hn hk
  rw [Heap.size_push] at hD
  have hk' : ∀ b o, b ≠ L → s.heap.get? b = some o → h'.get? b = some o := fun b o hb e => hk b o hb (fun q => by have := Heap.lt_size e; rw [List.mem_singleton.mp q] at this; exact Nat.lt_irrefl _ this) (Heap.get?_push_of_some _ e)
  obtain ⟨e, he⟩ := hpl
  have hDL : D ≠ L := Nat.ne_of_gt (Nat.lt_of_lt_of_le F.ns.lt (Nat.le_of_succ_le hD))
  have hgD : g.get? D = none := Heap.get?_none_of_le (Nat.le_trans F.above (Nat.le_trans (Nat.le_of_lt F.ns.lt) (Nat.le_of_succ_le hD)))
  have hgL : ∀ b o, g.get? b = some o → b ≠ L := fun b o q z => absurd (Heap.lt_size q) (by rw [z]; exact Nat.not_lt.mpr F.above)
  refine hQ D C vs ys e h' tk hC (Nat.lt_of_lt_of_le F.ns.lt (Nat.le_of_succ_le hD)) (fun q hq => Nat.lt_of_lt_of_le (Heap.lt_size (N q hq).1) (Nat.le_of_succ_le hD)) ⟨hn, fun b o q => hk' b o (hgL b o q) (F.keep b o q), F.above⟩ (fun q hq => ?_) hlen hP hF
  rcases List.mem_cons.mp hq with rfl | hq
  · exact ⟨he, hDL, hgD⟩
  · exact ⟨hk' _ _ (N q hq).2.1 (N q hq).1, (N q hq).2⟩

/-- over a list -/
theorem comp_list {Q : Value → Shared → Prop} (p : Value → Bool) (G : Addr → Heap → Value → Value → Prop) (hh : A.handled = none) (F : Fr g L s.heap m) (N : News g L s.heap news) (hl : s.heap.IsList l items) (hsz : items.size ≤ sizeLine)
    (hx : EltOk prog w A env scope cl x ifs elt g news (fun i v => items[i]? = some v) p G)
    (hQ : ∀ D C ys e h' tk, D < C → L < D → (∀ q ∈ news, q.1 < D) → Fr g L h' m → News g L h' ((D, listOf ys e) :: news) → Paired (G C h') (items.toList.filter p) ys.toList → Q (.ref D) { s with heap := h', toks := tk }) :
    wpAny (model prog w) A (pyIter (.ref l)) (fun it s₂ => CompAt prog w A env scope cl x ifs elt Q it s₂) E s := by
  have hlt : l < s.heap.objs.size := by obtain ⟨o, ho, _⟩ := hl; exact Heap.lt_size ho
  refine wpAny_pyIter_list hl ?_
  refine comp_gen p G F N (Walks.list (prog := prog) (w := w) hh s.heap.objs.size l (Nat.ne_of_lt hlt) items) (fun b hb => ?_) ⟨⟨_, Heap.get?_push_size _ rfl, rfl, rfl⟩, hl.at fun o e => Heap.get?_push_of_some _ e⟩ hsz hx fun D C vs ys e h' tk h1 h0 h2 h3 h4 h5 h6 h7 => hQ D C ys e h' tk h1 h0 h2 h3 h4 (walked_eq h5 h6 ▸ h7)
  rcases List.mem_cons.mp hb with rfl | hb
  · exact Nat.le_refl _
  · rw [List.mem_singleton.mp hb]; exact Nat.le_of_lt hlt
theorem comp_listS {y : Str} {Q : Flow → Shared → Prop} (p : Value → Bool) (G : Addr → Heap → Value → Value → Prop) (hL : env.locals = L) (hh : A.handled = none) (F : Fr g L s.heap m) (N : News g L s.heap news) (hl : s.heap.IsList l items) (hsz : items.size ≤ sizeLine)
    (hx : EltOk prog w A env scope cl x ifs elt g news (fun i v => items[i]? = some v) p G)
    (hQ : ∀ D C ys e h' tk, D < C → L < D → (∀ q ∈ news, q.1 < D) → Fr g L h' (fun z => if z = y then some (.ref D) else m z) → News g L h' ((D, listOf ys e) :: news) → Paired (G C h') (items.toList.filter p) ys.toList → Q .next { s with heap := h', toks := tk }) :
    wpAny (model prog w) A (pyIter (.ref l)) (fun it s₂ => CompAtS prog w A env scope cl x ifs elt y Q it s₂) E s := by
  have hlt : l < s.heap.objs.size := by obtain ⟨o, ho, _⟩ := hl; exact Heap.lt_size ho
  refine wpAny_pyIter_list hl ?_
  refine comp_genS p G hL F N (Walks.list (prog := prog) (w := w) hh s.heap.objs.size l (Nat.ne_of_lt hlt) items) (fun b hb => ?_) ⟨⟨_, Heap.get?_push_size _ rfl, rfl, rfl⟩, hl.at fun o e => Heap.get?_push_of_some _ e⟩ hsz hx fun D C vs ys e h' tk h1 h0 h2 h3 h4 h5 h6 h7 => hQ D C ys e h' tk h1 h0 h2 h3 h4 (walked_eq h5 h6 ▸ h7)
  rcases List.mem_cons.mp hb with rfl | hb
  · exact Nat.le_refl _
  · rw [List.mem_singleton.mp hb]; exact Nat.le_of_lt hlt
/-- over a text of low signs -/
theorem comp_str {Q : Value → Shared → Prop} {z : Str} {t : Tok} (p : Value → Bool) (G : Addr → Heap → Value → Value → Prop) (hh : A.handled = none) (F : Fr g L s.heap m) (N : News g L s.heap news) (ha : z.cps.all (· < 128) = true) (hsz : z.cps.size ≤ sizeLine)
    (hx : EltOk prog w A env scope cl x ifs elt g news (SignAt z) p G)
    (hQ : ∀ D C (vs : List Value) ys e h' tk, D < C → L < D → (∀ q ∈ news, q.1 < D) → Fr g L h' m → News g L h' ((D, listOf ys e) :: news) → vs.length = z.cps.size → (∀ j v, vs[j]? = some v → SignAt z j v) → Paired (G C h') (vs.filter p) ys.toList →
      Q (.ref D) { s with heap := h', toks := tk }) :
    wpAny (model prog w) A (pyIter (.str z t)) (fun it s₂ => CompAt prog w A env scope cl x ifs elt Q it s₂) E s := by
  refine wpAny_pyIter_ascii ha ?_
  refine comp_gen p G F N (Walks.strAscii (prog := prog) (w := w) hh s.heap.objs.size z t) (fun b hb => ?_) ?_ hsz ?_ hQ
  · rw [List.mem_singleton.mp hb]; exact Nat.le_refl _
  · exact ⟨_, Heap.get?_push_size _ rfl, rfl, rfl⟩
  · exact hx
/-- over a dict's keys -/
theorem comp_dict {Q : Value → Shared → Prop} {d : Addr} {kvs : List (Str × Value)} {ep : Nat} (p : Value → Bool) (G : Addr → Heap → Value → Value → Prop) (hh : A.handled = none) (F : Fr g L s.heap m) (N : News g L s.heap news) (hd : (d == sysModules) = false)
    (hm : s.heap.DictAt (strKind prog w) d kvs ep) (hsz : kvs.length ≤ sizeLine)
    (hx : EltOk prog w A env scope cl x ifs elt g news (fun i v => ∃ k y, kvs[i]? = some (k, y) ∧ (strKind prog w).is k v = true) p G)
    (hQ : ∀ D C (vs : List Value) ys e h' tk, D < C → L < D → (∀ q ∈ news, q.1 < D) → Fr g L h' m → News g L h' ((D, listOf ys e) :: news) → vs.length = kvs.length → (∀ (j : Nat) (v : Value), vs[j]? = some v → ∃ k y, kvs[j]? = some (k, y) ∧ (strKind prog w).is k v = true) → Paired (G C h') (vs.filter p) ys.toList →
      Q (.ref D) { s with heap := h', toks := tk }) :
    wpAny (model prog w) A (pyIter (.ref d)) (fun it s₂ => CompAt prog w A env scope cl x ifs elt Q it s₂) E s := by
  have hlt : d < s.heap.objs.size := hm.lt_size
  refine wpAny_pyIter_dict hd hm ?_
  refine comp_gen p G F N (Walks.dictKeys (knd := strKind prog w) hh s.heap.objs.size d (Nat.ne_of_lt hlt) kvs ep) (fun b hb => ?_) ⟨⟨_, Heap.get?_push_size _ rfl, rfl, rfl⟩, hm.push _⟩ hsz hx hQ
  rcases List.mem_cons.mp hb with rfl | hb
  · exact Nat.le_refl _
  · rw [List.mem_singleton.mp hb]; exact Nat.le_of_lt hlt
theorem comp_dictS {y : Str} {Q : Flow → Shared → Prop} {d : Addr} {kvs : List (Str × Value)} {ep : Nat} (p : Value → Bool) (G : Addr → Heap → Value → Value → Prop) (hL : env.locals = L) (hh : A.handled = none) (F : Fr g L s.heap m) (N : News g L s.heap news) (hd : (d == sysModules) = false)
    (hm : s.heap.DictAt (strKind prog w) d kvs ep) (hsz : kvs.length ≤ sizeLine)
    (hx : EltOk prog w A env scope cl x ifs elt g news (fun i v => ∃ k y, kvs[i]? = some (k, y) ∧ (strKind prog w).is k v = true) p G)
    (hQ : ∀ D C (vs : List Value) ys e h' tk, D < C → L < D → (∀ q ∈ news, q.1 < D) → Fr g L h' (fun z => if z = y then some (.ref D) else m z) → News g L h' ((D, listOf ys e) :: news) → vs.length = kvs.length → (∀ (j : Nat) (v : Value), vs[j]? = some v → ∃ k y, kvs[j]? = some (k, y) ∧ (strKind prog w).is k v = true) → Paired (G C h') (vs.filter p) ys.toList →
      Q .next { s with heap := h', toks := tk }) :
    wpAny (model prog w) A (pyIter (.ref d)) (fun it s₂ => CompAtS prog w A env scope cl x ifs elt y Q it s₂) E s := by
  have hlt : d < s.heap.objs.size := hm.lt_size
  refine wpAny_pyIter_dict hd hm ?_
  refine comp_genS p G hL F N (Walks.dictKeys (knd := strKind prog w) hh s.heap.objs.size d (Nat.ne_of_lt hlt) kvs ep) (fun b hb => ?_) ⟨⟨_, Heap.get?_push_size _ rfl, rfl, rfl⟩, hm.push _⟩ hsz hx hQ
  rcases List.mem_cons.mp hb with rfl | hb
  · exact Nat.le_refl _
  · rw [List.mem_singleton.mp hb]; exact Nat.le_of_lt hlt
end
theorem sub_list {prog : Program} {w : World} {A : Around} {E : Value → Shared → Prop} {s : Shared} {value slice : PySem.Expr} {l : Addr} {its : Array Value} {k : Int} {u : Tok} {v : Value} {Q : Value → Shared → Prop}
    (hl : s.heap.IsList l its) (h0 : 0 ≤ k) (hhi : k < 2 ^ 63) (hx : its.toList[k.toNat]? = some v) (h : Q v s)
    (hs : subscripted slice false (.ref l) (.int k u) = operate [.ref l, .int k u] (getItem (.ref l) (.int k u))) :
    wpAny (model prog w) A (subscriptTail value slice (.ref l) (.int k u)) Q E s :=
  tail_any hl.typeIs slot_list_getitem.lookup (wpAny_getItem_list hl h0 hhi (by simpa using hx) h) hs
theorem ints_at {vs : List Value} {ns : List Int} (h : IntsAre vs ns) {i : Nat} {v : Value} (e : vs[i]? = some v) : ∃ n t, ns[i]? = some n ∧ v = .int n t := by
  induction h generalizing i with
  | nil => simp at e
  | cons n t _ ih =>
    cases i with
    | zero => simp at e; exact ⟨n, t, by simp, e.symm⟩
    | succ i => simp at e; simpa using ih e
theorem slice_kn {prog : Program} {w : World} {A : Around} {E : Value → Shared → Prop} {s : Shared} {g : Heap} {L l : Addr} {m : Str → Option Value} {news : List (Addr × Obj)} {value slice : PySem.Expr} {vs : List Value} {a b : Int} {t u : Tok} {Q : Value → Shared → Prop}
    (F : Fr g L s.heap m) (N : News g L s.heap news) (hl : s.heap.IsList l vs.toArray) (h0 : 0 ≤ a) (h1 : a ≤ b) (h2 : b ≤ vs.length) (hz : vs.length ≤ sizeLine)
    (h : ∀ D h', Fr g L h' m → News g L h' ((D, listOf ((vs.drop a.toNat).take (b - a).toNat).toArray 0) :: news) → (∀ p ∈ news, p.1 < D) → Q (.ref D) { s with heap := h' })
    (hs : subscripted slice false (.ref l) (.ref s.heap.objs.size) = operate [.ref s.heap.objs.size, .ref l] (getItem (.ref l) (.ref s.heap.objs.size))) (ht : ∀ r, letTemporaryGo value (.ref l) r = pure ()) :
    wpAny (model prog w) A (subscriptTail value slice (.ref l) (.ref s.heap.objs.size)) Q E { s with heap := s.heap.push { cls := .type "slice", data := .fields #[.int a t, .int b u, .none] } } := by
  refine kmk_slice F N hl (IsPart.int _ _) (IsPart.int _ _) (fun D h' F' N' l1 => h D h' F' ?_ l1) hs ht (by simpa using hz)
  have e := slicePick_run vs.toArray a.toNat b.toNat (by simp; omega) (by omega)
  rw [Int.toNat_of_nonneg h0, Int.toNat_of_nonneg (Int.le_trans h0 h1)] at e
  rw [e] at N'
  rw [show (b - a).toNat = b.toNat - a.toNat by omega]
  exact N'
end Mine
namespace Mine
section
variable {prog : Program} {w : World} {A : Around} {s : Shared} {env : Env}

/-- where a turn ends -/
def TurnEnd (s : Shared) (L : Addr) (fp : List Addr) (h : Heap) (J : (Str → Option Value) → Heap → Prop) (Q : Flow → Shared → Prop) (f : Flow) (s' : Shared) : Prop :=
  match f with
  | .ret v => Q (.ret v) s'
  | .brk => Q .next s'
  | _ => ∃ h' tk' m', s' = { s with heap := h', toks := tk' } ∧ h'.Ns L m' ∧ (∀ b ∈ fp, ∀ o, h.get? b = some o → h'.get? b = some o) ∧ J m' h'

theorem loop_name {Q : Flow → Shared → Prop} {R : Result → Shared → Prop} {x : Str} {px : Pos} {body : List Stmt} {I : Addr} {fp wr : List Addr} {n : Nat} {P : Nat → Value → Prop} {St : Nat → Heap → Prop} {m : Str → Option Value}
    (W : Walks prog w A I fp wr n P St) (hx : env.kindOf x = some .local) (hp : (env.scope.kind == .class || (env.scope.kind == .module && env.locals != env.globals)) = false) (hLf : env.locals ∉ fp)
    (J : Nat → (Str → Option Value) → Heap → Prop) (mono : ∀ i m h h', J i m h → (∀ b o, b ∉ wr → b ≠ env.locals → h.get? b = some o → h'.get? b = some o) → J i m h')
    (hst : St 0 s.heap) (hn : s.heap.Ns env.locals m) (h0 : J 0 m s.heap)
    (step : ∀ i v m h tk, i < n → P i v → J i m h → St (i + 1) h → h.Ns env.locals (fun y => if y = x then some v else m y) →
      wpAny (model prog w) A (execs body env) (TurnEnd s env.locals fp h (J (i + 1)) Q) (fun _ _ => False) { s with heap := h, toks := tk })
    (done : ∀ h tk m, J n m h → h.Ns env.locals m → Q .next { s with heap := h, toks := tk }) (hR : ∀ f s', Q f s' → R (.ok f) s') :
    codeAny (model prog w) A (.forLoop (.Name x px) (.ref I) body [] env) R s := by
  have hLw : env.locals ∉ wr := fun h => hLf (W.sub _ h)
  refine codeAny_forLoop_any (fun k s' => ∃ h' tk m' i, s' = { s with heap := h', toks := tk } ∧ St i h' ∧ h'.Ns env.locals m' ∧ J i m' h' ∧ i ≤ n ∧ k = n + 1 - i) ?_ (n + 1) ⟨s.heap, s.toks, m, 0, rfl, hst, hn, h0, Nat.zero_le _, rfl⟩
  rintro k s' ⟨H, tk, m', i, rfl, hst', hn', hJ, hi, rfl⟩
  by_cases hlt : i < n
  · refine W.item i _ _ _ hlt hst' fun v h₁ tk₁ hP hst₁ hk₁ => ?_
    show wpAny _ A (letOwnedTupleGo (.Name x px) (.ref I) v) _ _ _
    refine wpAny_pure ?_
    refine wpAny_assign_Name (wpAny_storeName_local hx (hn'.at' fun o e => hk₁ _ o hLw e) (fun h₂ hn₂ hs₂ => ?_) hp)
    have hst₂ : St (i + 1) h₂ := W.frame _ _ _ hst₁ fun b hb o e => hs₂.extBut b o (fun q => hLf (q ▸ hb)) e
    refine wpAny_mono (step i v m' h₂ _ hlt hP (mono i m' _ _ hJ fun b o hb hbL e => hs₂.extBut b o hbL (hk₁ b o hb e)) hst₂ hn₂) (fun f s₃ h₃ => ?_) fun _ _ e => e.elim
    cases f with
    | ret v => exact hR _ _ h₃
    | brk => exact hR _ _ h₃
    | cont => obtain ⟨h', tk', m₂, rfl, hn₃, hf, hJ'⟩ := h₃; exact ⟨n + 1 - (i + 1), by omega, h', tk', m₂, i + 1, rfl, W.frame _ _ _ hst₂ hf, hn₃, hJ', hlt, rfl⟩
    | next => obtain ⟨h', tk', m₂, rfl, hn₃, hf, hJ'⟩ := h₃; exact ⟨n + 1 - (i + 1), by omega, h', tk', m₂, i + 1, rfl, W.frame _ _ _ hst₂ hf, hn₃, hJ', hlt, rfl⟩
  · have hin : i = n := by omega
    subst hin
    refine W.done _ _ _ hst' fun h₁ tk₁ hk₁ => wpAny_execs_nil (hR _ _ (done h₁ tk₁ m' (mono i m' _ _ hJ fun b o hb _ e => hk₁ b o hb e) (hn'.at' fun o e => hk₁ _ o hLw e)))

theorem loop_pair {Q : Flow → Shared → Prop} {R : Result → Shared → Prop} {xi xc : Str} {pk pv pt : Pos} {x1 : Nat} {body : List Stmt} {I : Addr} {fp wr : List Addr} {n : Nat} {Pt : Nat → Array Value → Prop} {St : Nat → Heap → Prop} {Mid : Nat → Addr → Heap → Prop}
    {m : Str → Option Value} (hh : A.handled = none) (W : WalksT prog w A I fp wr n Pt St Mid) (h2 : ∀ i vals, Pt i vals → ∃ v0 v1, vals = #[v0, v1])
    (hxi : env.kindOf xi = some .local) (hxc : env.kindOf xc = some .local) (hp : (env.scope.kind == .class || (env.scope.kind == .module && env.locals != env.globals)) = false) (hLf : env.locals ∉ fp)
    (J : Nat → (Str → Option Value) → Heap → Prop) (mono : ∀ i m h h', J i m h → (∀ b o, b ∉ wr → b ≠ env.locals → h.get? b = some o → h'.get? b = some o) → J i m h')
    (hst : St 0 s.heap) (hn : s.heap.Ns env.locals m) (h0 : J 0 m s.heap)
    (step : ∀ i v0 v1 m h tk, i < n → Pt i #[v0, v1] → J i m h → St (i + 1) h → h.Ns env.locals (fun y => if y = xc then some v1 else if y = xi then some v0 else m y) →
      wpAny (model prog w) A (execs body env) (TurnEnd s env.locals fp h (J (i + 1)) Q) (fun _ _ => False) { s with heap := h, toks := tk })
    (done : ∀ h tk m, J n m h → h.Ns env.locals m → Q .next { s with heap := h, toks := tk }) (hR : ∀ f s', Q f s' → R (.ok f) s') :
    codeAny (model prog w) A (.forLoop (.Tuple [.Name xi pk, .Name xc pv] x1 pt) (.ref I) body [] env) R s := by
  have hLw : env.locals ∉ wr := fun h => hLf (W.sub _ h)
  refine codeAny_forLoop_any (fun k s' => ∃ h' tk m' i, s' = { s with heap := h', toks := tk } ∧ St i h' ∧ h'.Ns env.locals m' ∧ J i m' h' ∧ i ≤ n ∧ k = n + 1 - i) ?_ (n + 1) ⟨s.heap, s.toks, m, 0, rfl, hst, hn, h0, Nat.zero_le _, rfl⟩
  rintro k s' ⟨H, tk, m', i, rfl, hst', hn', hJ, hi, rfl⟩
  by_cases hlt : i < n
  · refine W.item i _ _ _ hlt hst' fun T vals h₁ tk₁ hPt _ hT hMid hk₁ => ?_
    obtain ⟨v0, v1, rfl⟩ := h2 i vals hPt
    refine W.go _ x1 pt i T _ _ _ hMid fun h₂ hst₂ hk₂ => ?_
    have ht₂ : h₂.IsTuple T #[v0, v1] := hT.at fun o e => hk₂ T o (W.apart i T h₁ hMid) e
    refine wpAny_assign_Tuple hh ht₂ rfl rfl fun h₃ hx₃ => ?_
    replace hx₃ : Heap.ExtBut h₂.objs.size h₂ h₃ := hx₃
    have up₃ : ∀ b o, h₂.get? b = some o → h₃.get? b = some o := fun b o x => hx₃ b o (Nat.ne_of_lt (Heap.lt_size x)) x
    have up : ∀ b o, b ∉ wr → H.get? b = some o → h₃.get? b = some o := fun b o hb x => up₃ b o (hk₂ b o hb (hk₁ b o hb x))
    show wpAny _ A (do holding [v1] (assign (.Name xi pk) env v0); do holding [] (assign (.Name xc pv) env v1); pure ()) _ _ _
    refine wpAny_bind (wpAny_holding (wpAny_assign_Name (wpAny_storeName_local hxi (hn'.at' fun o e => up _ o hLw e) (fun h₄ hn₄ hs₄ => ?_) hp)))
    replace hs₄ : Heap.SameBut env.locals h₃ h₄ := hs₄
    refine wpAny_bind (wpAny_holding (wpAny_assign_Name (wpAny_storeName_local hxc hn₄ (fun h₅ hn₅ hs₅ => wpAny_pure ?_) hp)))
    replace hs₅ : Heap.SameBut env.locals h₄ h₅ := hs₅
    have up' : ∀ b o, b ≠ env.locals → h₃.get? b = some o → h₅.get? b = some o := fun b o hb x => hs₅.extBut b o hb (hs₄.extBut b o hb x)
    have hst₅ : St (i + 1) h₅ := W.frame _ _ _ hst₂ fun b hb o e => up' b o (fun q => hLf (q ▸ hb)) (up₃ b o e)
    refine wpAny_mono (step i v0 v1 m' h₅ _ hlt hPt (mono i m' _ _ hJ fun b o hb hbL e => up' b o hbL (up b o hb e)) hst₅ hn₅) (fun f s₃ h₆ => ?_) fun _ _ e => e.elim
    cases f with
    | ret v => exact hR _ _ h₆
    | brk => exact hR _ _ h₆
    | cont => obtain ⟨h', tk', m₂, rfl, hn₃, hf, hJ'⟩ := h₆; exact ⟨n + 1 - (i + 1), by omega, h', tk', m₂, i + 1, rfl, W.frame _ _ _ hst₅ hf, hn₃, hJ', hlt, rfl⟩
    | next => obtain ⟨h', tk', m₂, rfl, hn₃, hf, hJ'⟩ := h₆; exact ⟨n + 1 - (i + 1), by omega, h', tk', m₂, i + 1, rfl, W.frame _ _ _ hst₅ hf, hn₃, hJ', hlt, rfl⟩
  · have hin : i = n := by omega
    subst hin
    refine W.done _ _ _ hst' fun h₁ tk₁ hk₁ => wpAny_execs_nil (hR _ _ (done h₁ tk₁ m' (mono i m' _ _ hJ fun b o hb _ e => hk₁ b o hb e) (hn'.at' fun o e => hk₁ _ o hLw e)))

/-- the source of a for -/
def ForAt (prog : Program) (w : World) (A : Around) (target : Expr) (body : List Stmt) (env : Env) (Q : Flow → Shared → Prop) (it : Value) (s₂ : Shared) : Prop :=
  codeAny (model prog w) A (.forLoop target it body [] env) (fun r s' => match r with | .ok f => Q f s' | .error _ => False) s₂
theorem for_h {target iter : Expr} {body : List Stmt} {pos : Pos} {Q : Flow → Shared → Prop}
    (h : wpAny (model prog w) A (eval iter env) (fun x s₁ => wpAny (model prog w) A (pyIter x) (fun it s₂ => ForAt prog w A target body env Q it s₂) (fun _ _ => False) s₁) (fun _ _ => False) s)
    (hs : ∀ x, foldedSetIterable iter env x = pure x) : wpAny (model prog w) A (exec (.For target iter body [] pos) env) Q (fun _ _ => False) s :=
  wpAny_For (wpAny_mono h (fun x s₁ h₁ => wpAny_mono h₁ (fun it s₂ h₂ => codeAny_mono h₂ fun r s' hr => by cases r <;> first | exact hr | exact hr.elim) fun _ _ e => e.elim) fun _ _ e => e.elim) hs

/-- for xi, xc in enumerate(l) -/
theorem enum_h {l : Addr} {items : Array Value} {m : Str → Option Value} {xi xc : Str} {pk pv pt : Pos} {x1 : Nat} {body : List Stmt} {Q : Flow → Shared → Prop} (hh : A.handled = none) (hl : s.heap.IsList l items) (hn : s.heap.Ns env.locals m) (hlL : l ≠ env.locals)
    (hxi : env.kindOf xi = some .local) (hxc : env.kindOf xc = some .local) (hp : (env.scope.kind == .class || (env.scope.kind == .module && env.locals != env.globals)) = false)
    (J : Nat → (Str → Option Value) → Heap → Prop) (mono : ∀ i m h h', J i m h → (∀ b o, b ≠ s.heap.objs.size → b ≠ s.heap.objs.size + 1 → b ≠ env.locals → h.get? b = some o → h'.get? b = some o) → J i m h') (h0 : J 0 m s.heap)
    (step : ∀ i t v m h tk, items[i]? = some v → J i m h → h.Ns env.locals (fun y => if y = xc then some v else if y = xi then some (.int i t) else m y) →
      wpAny (model prog w) A (execs body env) (TurnEnd s env.locals [s.heap.objs.size + 1, s.heap.objs.size, l] h (J (i + 1)) Q) (fun _ _ => False) { s with heap := h, toks := tk })
    (done : ∀ h tk m, J items.size m h → h.Ns env.locals m → Q .next { s with heap := h, toks := tk }) :
    wpAny (model prog w) A (call (.type "enumerate") [.ref l]) (fun x s₁ => wpAny (model prog w) A (pyIter x) (fun it s₂ => ForAt prog w A (.Tuple [.Name xi pk, .Name xc pv] x1 pt) body env Q it s₂) (fun _ _ => False) s₁) (fun _ _ => False) s := by
  have hlt : l < s.heap.objs.size := by obtain ⟨o, ho, _⟩ := hl; exact Heap.lt_size ho
  have hLlt := hn.lt
  refine call_enumerate_list hl fun h' he hit hsz hk => ?_
  refine wpAny_pyIter_enum he ?_
  have W := WalksT.enumerate (prog := prog) (w := w) hh (s.heap.objs.size + 1) s.heap.objs.size l (Nat.succ_ne_self _) (Nat.ne_of_lt (Nat.lt_succ_of_lt hlt)) (Nat.ne_of_lt hlt) items
  refine loop_pair (Q := Q) (s := { s with heap := h' }) (m := m) hh W (fun i vals hv => by obtain ⟨t, x, _, rfl⟩ := hv; exact ⟨_, _, rfl⟩) hxi hxc hp ?_ J ?_ ⟨⟨_, he⟩, hit, hl.at fun o e => hk l o e⟩ (hn.keeps hk) (mono 0 m _ _ h0 fun b o _ _ _ e => hk b o e) ?_ (fun h tk m hJ hn' => done h tk m hJ hn') (fun _ _ q => q)
  · intro q
    rcases List.mem_cons.mp q with e | q
    · exact Nat.ne_of_lt (Nat.lt_succ_of_lt hLlt) e
    · rcases List.mem_cons.mp q with e | q
      · exact Nat.ne_of_lt hLlt e
      · exact hlL (List.mem_singleton.mp q).symm
  · intro i m h h' hJ k
    exact mono i m h h' hJ fun b o h1 h2 h3 e => k b o (fun q => by
      rcases List.mem_cons.mp q with q | q
      · exact h2 q
      · exact h1 (List.mem_singleton.mp q)) h3 e
  · intro i v0 v1 m h tk hi hv hJ hst hn'
    obtain ⟨t, x, hx, e⟩ := hv
    cases e
    exact wpAny_mono (step i t v1 m h tk hx hJ hn') (fun f s' hf => hf) fun _ _ e => e
end
end Mine
namespace Mine
theorem cell_k {g h : Heap} {L c : Addr} {m : Str → Option Value} {rest news : List (Addr × Obj)} {o : Obj} {v : Option Value} (F : Fr g L h m) (N : News g L h news) (k : Known g rest c o) (hd : o.data = .cell v) (sub : ∀ p ∈ rest, p ∈ news) : h.IsCell c v := ⟨o, k.now F N sub, hd⟩
/-- a name's place, put into the list of names -/
def storedP (l : List (Str × Pl)) (k : Str) (p : Pl) : List (Str × Pl) := if l.any (fun kv => kv.1 = k) then l.map (fun kv => if kv.1 = k then (kv.1, p) else kv) else l ++ [(k, p)]

theorem heldOf_stored (l : List (Str × Pl)) (k : Str) (p : Pl) : heldOf (storedP l k p) = stored (heldOf l) k (.ref p.a) := by
  unfold storedP stored heldOf
  have e : (List.map (fun x : Str × Pl => (x.1, Value.ref x.2.a)) l).any (fun kv => decide (kv.1 = k)) = l.any (fun kv => decide (kv.1 = k)) := by
    rw [List.any_map]; rfl
  rw [e]
  split
  · rw [List.map_map, List.map_map]
    refine List.map_congr_left fun x _ => ?_
    simp only [Function.comp]
    split <;> simp_all
  · simp

theorem storedP_perm (k : Str) (p : Pl) : ∀ l : List (Str × Pl), (l.map (·.1)).Nodup → ∃ l', l'.Sublist l ∧ (storedP l k p).Perm ((k, p) :: l') ∧ (∀ x ∈ l', x.1 ≠ k) ∧ (∀ x ∈ l, x.1 ≠ k → x ∈ l')
  | [], _ => ⟨[], List.Sublist.refl _, by simp [storedP], by simp, by simp⟩
  | (k', q) :: r, hn => by
    rw [List.map_cons, List.nodup_cons] at hn
    by_cases hk : k' = k
    · subst hk
      have hr : ∀ x ∈ r, x.1 ≠ k' := fun x hx e => hn.1 (List.mem_map.mpr ⟨x, hx, e⟩)
      refine ⟨r, List.sublist_cons_self _ _, ?_, hr, fun x hx hne => ?_⟩
      · have e : r.map (fun kv => if kv.1 = k' then (kv.1, p) else kv) = r := by
          conv => rhs; rw [← List.map_id r]
          exact List.map_congr_left fun x hx => by rw [if_neg (hr x hx)]; rfl
        unfold storedP
        rw [if_pos (by simp), List.map_cons, if_pos rfl, e]
      · rcases List.mem_cons.mp hx with rfl | hx
        · exact absurd rfl hne
        · exact hx
    · obtain ⟨l', h1, h2, h3, h4⟩ := storedP_perm k p r hn.2
      have e : storedP ((k', q) :: r) k p = (k', q) :: storedP r k p := by
        unfold storedP
        rw [List.any_cons]
        simp only [decide_eq_false hk, Bool.false_or]
        split
        · rw [List.map_cons, if_neg hk]
        · rfl
      refine ⟨(k', q) :: l', h1.cons_cons _, ?_, fun x hx => ?_, fun x hx hne => ?_⟩
      · rw [e]
        exact (List.Perm.cons _ h2).trans (List.Perm.swap _ _ _)
      · rcases List.mem_cons.mp hx with rfl | hx
        · exact hk
        · exact h3 x hx
      · rcases List.mem_cons.mp hx with rfl | hx
        · exact .head _
        · exact .tail _ (h4 x hx hne)

theorem heldOf_filter (l : List (Str × Pl)) (k : Str) : heldOf (l.filter fun x => decide (x.1 ≠ k)) = without (heldOf l) k := by
  unfold heldOf without
  rw [List.filter_map]; rfl
theorem storedP_keys (k : Str) (p : Pl) (l : List (Str × Pl)) : (storedP l k p).map (·.1) = if l.any (fun kv => kv.1 = k) then l.map (·.1) else l.map (·.1) ++ [k] := by
  unfold storedP
  split
  · rw [List.map_map]
    refine List.map_congr_left fun x _ => ?_
    simp only [Function.comp]
    split <;> rfl
  · simp

theorem DictOf.keys {prog : Program} {w : World} {h : Heap} {a : Addr} {l : List (Str × Pl)} {ep : Nat} (x : h.DictAt (strKind prog w) a (heldOf l) ep) : (l.map (·.1)).Nodup := by
  have := x.nodup
  unfold heldOf at this
  rw [List.map_map] at this
  exact this

/-- the room with other names -/
theorem RoomW.setHeld {w : World} {H h h' : Heap} {R : Rm} {held : List (Str × Pl)} (x : RoomW w H h R) (k : ∀ a ∈ R.fix, a ≠ R.ah → ∀ o, h.get? a = some o → h'.get? a = some o)
    (hd : h'.DictOf (strKind PR w) R.ah (heldOf held)) (hp : ∀ p ∈ held.map (·.2) ++ R.wait, PlAt h' p) (hn : ∀ p ∈ held.map (·.2) ++ R.wait, H.objs.size ≤ p.a) (hs : (R.fix ++ (held.map (·.2) ++ R.wait).map (·.a)).Nodup) :
    RoomW w H h' { R with held := held } := by
  have ap := Rm.apart x.sep
  refine ⟨⟨k _ (by simp [Rm.fix]) ap.r_ah _ x.at_.inst, ?_, ?_, hd.dictAt, ?_, hp⟩, fun a ha => ?_, hs⟩
  · obtain ⟨a, b, c, d, e, f, g, i⟩ := x.at_.dict; exact ⟨a, b, c, d, e, f, g, k _ (by simp [Rm.fix]) ap.dx_ah _ i⟩
  · obtain ⟨vs, e, a, b⟩ := x.at_.oct; exact ⟨vs, e, k _ (by simp [Rm.fix]) ap.ao_ah _ a, b⟩
  · obtain ⟨e, a⟩ := x.at_.wait; exact ⟨e, k _ (by simp [Rm.fix]) (Ne.symm ap.ah_aw) _ a⟩
  · rcases List.mem_append.mp (show a ∈ R.fix ++ (held.map (·.2) ++ R.wait).map (·.a) from ha) with ha | ha
    · exact x.new a (List.mem_append_left _ ha)
    · obtain ⟨p, hp, rfl⟩ := List.mem_map.mp ha; exact hn p hp

/-- the room with other names and other waiting ones -/
theorem RoomW.setPls {w : World} {H h h' : Heap} {R : Rm} {held : List (Str × Pl)} {wt : List Pl} {e : Nat} (x : RoomW w H h R) (k : ∀ a ∈ R.fix, a ≠ R.ah → a ≠ R.aw → ∀ o, h.get? a = some o → h'.get? a = some o)
    (hd : h'.DictOf (strKind PR w) R.ah (heldOf held)) (hw : h'.get? R.aw = some (listOf (waitOf wt).toArray e)) (hp : ∀ p ∈ held.map (·.2) ++ wt, PlAt h' p) (hn : ∀ p ∈ held.map (·.2) ++ wt, H.objs.size ≤ p.a)
    (hs : (R.fix ++ (held.map (·.2) ++ wt).map (·.a)).Nodup) : RoomW w H h' { R with held := held, wait := wt } := by
  have ap := Rm.apart x.sep
  refine ⟨⟨k _ (by simp [Rm.fix]) ap.r_ah ap.r_aw _ x.at_.inst, ?_, ?_, hd.dictAt, ⟨e, hw⟩, hp⟩, fun a ha => ?_, hs⟩
  · obtain ⟨a, b, c, d, e, f, g, i⟩ := x.at_.dict; exact ⟨a, b, c, d, e, f, g, k _ (by simp [Rm.fix]) ap.dx_ah ap.dx_aw _ i⟩
  · obtain ⟨vs, e, a, b⟩ := x.at_.oct; exact ⟨vs, e, k _ (by simp [Rm.fix]) ap.ao_ah ap.ao_aw _ a, b⟩
  · rcases List.mem_append.mp (show a ∈ R.fix ++ (held.map (·.2) ++ wt).map (·.a) from ha) with ha | ha
    · exact x.new a (List.mem_append_left _ ha)
    · obtain ⟨p, hp, rfl⟩ := List.mem_map.mp ha; exact hn p hp

theorem storedP_filter (k : Str) (p : Pl) : ∀ l : List (Str × Pl), (l.map (·.1)).Nodup → (storedP l k p).Perm ((k, p) :: l.filter fun x => decide (x.1 ≠ k))
  | [], _ => by simp [storedP]
  | (k', q) :: r, hn => by
    rw [List.map_cons, List.nodup_cons] at hn
    by_cases hk : k' = k
    · subst hk
      have hr : ∀ x ∈ r, x.1 ≠ k' := fun x hx e => hn.1 (List.mem_map.mpr ⟨x, hx, e⟩)
      have e : r.map (fun kv => if kv.1 = k' then (kv.1, p) else kv) = r := by
        conv => rhs; rw [← List.map_id r]
        exact List.map_congr_left fun x hx => by rw [if_neg (hr x hx)]; rfl
      unfold storedP
      rw [if_pos (by simp), List.map_cons, if_pos rfl, e, List.filter_cons_of_neg (by simp), List.filter_eq_self.mpr fun x hx => by simpa using hr x hx]
    · have e : storedP ((k', q) :: r) k p = (k', q) :: storedP r k p := by
        unfold storedP
        rw [List.any_cons]
        simp only [decide_eq_false hk, Bool.false_or]
        split
        · rw [List.map_cons, if_neg hk]
        · rfl
      rw [e, List.filter_cons_of_pos (by simpa using hk)]
      exact (List.Perm.cons _ (storedP_filter k p r hn.2)).trans (List.Perm.swap _ _ _)
theorem storedP_nodup {l : List (Str × Pl)} {k : Str} {p : Pl} (h : (l.map (·.1)).Nodup) : ((storedP l k p).map (·.1)).Nodup := by
  refine ((storedP_filter k p l h).map (·.1)).nodup_iff.mpr ?_
  rw [List.map_cons, List.nodup_cons]
  refine ⟨fun q => ?_, h.sublist (List.filter_sublist.map _)⟩
  obtain ⟨x, hx, e⟩ := List.mem_map.mp q
  have := (List.mem_filter.mp hx).2
  simp at this
  exact this e
def lookP (l : List (Str × Pl)) (k : Str) : Option Pl := (l.find? fun x => decide (x.1 = k)).map (·.2)
theorem lookP_mem {l : List (Str × Pl)} {k : Str} {p : Pl} (h : lookP l k = some p) : (k, p) ∈ l := by
  unfold lookP at h
  obtain ⟨x, hx, rfl⟩ := Option.map_eq_some_iff.mp h
  have h1 := List.mem_of_find?_eq_some hx
  have h2 := List.find?_some hx
  simp at h2
  subst h2
  exact h1
theorem valueAt_held (l : List (Str × Pl)) (k : Str) : valueAt (heldOf l) k = (lookP l k).map fun p => .ref p.a := by
  unfold valueAt lookP heldOf
  induction l with
  | nil => rfl
  | cons x r ih =>
    rw [List.map_cons, List.find?_cons, List.find?_cons]
    by_cases h : x.1 = k
    · simp [h]
    · simp only [decide_eq_false h]; exact ih
theorem kl_last_snoc : ∀ (l : List Value) (y : Value), kl_last (l ++ [y]) = some (l, y)
  | [], _ => rfl
  | x :: r, y => by
    show (match kl_last (r ++ [y]) with | some (p, y) => some (x :: p, y) | none => some ([], x)) = _
    rw [kl_last_snoc r y]
/-- what assigning asks of the addresses -/
theorem stored_apart {fix : List Addr} {l : List (Str × Pl)} {wt : List Pl} {k : Str} {p : Pl} (hn : (l.map (·.1)).Nodup) (hs : (fix ++ (l.map (·.2) ++ wt).map (·.a)).Nodup) (hp : p.a ∉ fix ++ (l.map (·.2) ++ wt).map (·.a)) :
    (fix ++ ((storedP l k p).map (·.2) ++ wt).map (·.a)).Nodup := by
  obtain ⟨l', h1, h2, _, _⟩ := storedP_perm k p l hn
  have e : (fix ++ ((storedP l k p).map (·.2) ++ wt).map (·.a)).Perm (p.a :: (fix ++ (l'.map (·.2) ++ wt).map (·.a))) := by
    have := (((h2.map (·.2)).append_right wt).map (·.a)).append_left fix
    refine this.trans ?_
    simp only [List.map_cons, List.cons_append]
    exact List.perm_middle
  refine e.nodup_iff.mpr (List.nodup_cons.mpr ⟨fun q => hp ?_, ?_⟩)
  · exact ((List.Sublist.refl fix).append (((h1.map (·.2)).append (List.Sublist.refl wt)).map (·.a))).subset q
  · exact hs.sublist ((List.Sublist.refl fix).append (((h1.map (·.2)).append (List.Sublist.refl wt)).map (·.a)))
theorem mem_stored {l : List (Str × Pl)} {k : Str} {p : Pl} {x : Str × Pl} (h : x ∈ storedP l k p) : x ∈ l ∨ x = (k, p) := by
  unfold storedP at h
  split at h
  · obtain ⟨y, hy, rfl⟩ := List.mem_map.mp h
    split
    · rename_i e; right; rw [e]
    · exact .inl hy
  · rcases List.mem_append.mp h with h | h
    · exact .inl h
    · exact .inr (List.mem_singleton.mp h)

section
variable {prog : Program} {w : World} {A : Around} {E : Value → Shared → Prop} {s : Shared} {g : Heap} {L d : Addr} {m : Str → Option Value} {rest : List (Addr × Obj)} {o : Obj} {kvs : List (Str × Value)} {k : Str} {t : Tok} {v : Value}
/-- a store under a text in a dict of the ledger -/
theorem setItem_led {Q : Unit → Shared → Prop} (F : Fr g L s.heap m) (N : News g L s.heap ((d, o) :: rest)) (D : s.heap.DictOf (strKind prog w) d kvs) (off : ∀ p ∈ rest, p.1 ≠ d) (hsz : kvs.length ≤ sizeLine)
    (h : ∀ h' o', Fr g L h' m → News g L h' ((d, o') :: rest) → h'.DictOf (strKind prog w) d (stored kvs k v) → Q () { s with heap := h', toks := s.toks + 1 }) :
    wpAny (model prog w) A (setItem (.ref d) (.str k t) v) Q E s := by
  refine wpAny_setItem_pairs (strKind_is prog w k t) D (fun h' D' hs => ?_) hsz
  obtain ⟨o', es, ep, ho', r⟩ := id D'
  have hd := N _ (.head _)
  refine h h' o' ⟨F.ns.sameBut hs (Ne.symm hd.2.1), fun b ob e => (hs.2 b fun q => ?_).trans (F.keep b ob e), F.above⟩ (fun p hp => ?_) D'
  · rw [q, hd.2.2] at e; cases e
  · rcases List.mem_cons.mp hp with rfl | hp
    · exact ⟨ho', hd.2⟩
    · have := N p (.tail _ hp)
      exact ⟨(hs.2 _ (off p hp)).trans this.1, this.2⟩

theorem typeIs_dict (ho : s.heap.get? d = some o) (D : o.IsDictOf (strKind prog w) kvs) : s.TypeIs (.ref d) "dict" := ⟨o, ho, let ⟨_, _, h, _⟩ := D; h.1⟩
theorem method_dict {name : Str} {id : String} {pl : Sem Bool} {Q : Value × List Value → Shared → Prop} (ho : s.heap.get? d = some o) (D : o.IsDictOf (strKind prog w) kvs) (slot : Slot "dict" name id) (hty : typeOf (.builtin id) = pure (.type "method_descriptor"))
    (h : Q (.builtin id, [.ref d]) s) : wpAny (model prog w) A (getMethod (.ref d) name pl) Q E s :=
  getMethod_builtin (typeIs_dict ho D) PySem.F.plainAttrs_dict slot hty (Heap.dictOf_iff.mpr ⟨o, ho, D⟩).mapOf.noDict h
theorem method_list {name : Str} {id : String} {pl : Sem Bool} {its : Array Value} {n : Nat} {Q : Value × List Value → Shared → Prop} (ho : s.heap.get? d = some (listOf its n)) (slot : Slot "list" name id) (hty : typeOf (.builtin id) = pure (.type "method_descriptor"))
    (h : Q (.builtin id, [.ref d]) s) : wpAny (model prog w) A (getMethod (.ref d) name pl) Q E s :=
  getMethod_builtin ⟨_, ho, rfl⟩ PySem.F.plainAttrs_list slot hty (fun a e => by cases e; exact ⟨_, ho, rfl⟩) h
theorem without_none {kvs : List (Str × Value)} {k : Str} (h : valueAt kvs k = none) : without kvs k = kvs := by
  refine List.filter_eq_self.mpr fun x hx => ?_
  unfold valueAt at h
  simp only [decide_eq_true_eq]
  intro e
  rw [Option.map_eq_none_iff, List.find?_eq_none] at h
  exact h x hx (by simpa using e)
theorem pop_led {Q : Value → Shared → Prop} (F : Fr g L s.heap m) (N : News g L s.heap ((d, o) :: rest)) (D : o.IsDictOf (strKind prog w) kvs) (off : ∀ p ∈ rest, p.1 ≠ d) (hsz : kvs.length ≤ sizeLine) (hd : (d == sysModules) = false)
    (h : ∀ v h' o', Fr g L h' m → News g L h' ((d, o') :: rest) → o'.IsDictOf (strKind prog w) (without kvs k) → Q v { s with heap := h', toks := s.toks + 1 }) :
    wpAny (model prog w) A (call (.builtin "dict.pop") [.ref d, .str k t, .none]) Q E s := by
  have hm := N _ (.head _)
  have hD : s.heap.DictOf (strKind prog w) d kvs := Heap.dictOf_iff.mpr ⟨o, hm.1, D⟩
  cases hv : valueAt kvs k with
  | some v =>
    refine call_meetsIn PySem.F.slot_dict_pop hD.typeIs PySem.F.entry_dict_pop (PySem.F.args_dict_pop_3 _ _ _) (meets_dict_pop_there (strKind prog w) d (strKind_is prog w k t) [.none] (.inr ⟨_, rfl⟩) rfl) ⟨kvs, v, hD, hsz, hv, fun h' hmm hs => ?_⟩
    obtain ⟨o', ho', hd'⟩ := Heap.dictOf_iff.mp hmm
    refine h v h' o' ⟨F.ns.sameBut hs (Ne.symm hm.2.1), fun b ob e => (hs.2 b fun q => ?_).trans (F.keep b ob e), F.above⟩ (fun p hp => ?_) hd'
    · rw [q, hm.2.2] at e; cases e
    · rcases List.mem_cons.mp hp with rfl | hp
      · exact ⟨ho', hm.2⟩
      · have := N p (.tail _ hp)
        exact ⟨(hs.2 _ (off p hp)).trans this.1, this.2⟩
  | none =>
    refine call_meetsIn PySem.F.slot_dict_pop hD.typeIs PySem.F.entry_dict_pop (PySem.F.args_dict_pop_3 _ _ _) (meets_dict_pop_default (strKind prog w) d (strKind_is prog w k t) hd rfl .none) ⟨kvs, hD, hv, h _ _ o F N (by rw [without_none hv]; exact D)⟩
theorem get2_led {Q : Value → Shared → Prop} {dflt : Value} (ho : s.heap.get? d = some o) (D : o.IsDictOf (strKind prog w) kvs) (hd : (d == sysModules) = false)
    (h : Q ((valueAt kvs k).getD dflt) { s with toks := s.toks + 1 }) : wpAny (model prog w) A (call (.builtin "dict.get") [.ref d, .str k t, dflt]) Q E s := by
  have hD : s.heap.DictOf (strKind prog w) d kvs := Heap.dictOf_iff.mpr ⟨o, ho, D⟩
  exact call_meetsIn PySem.F.slot_dict_get hD.typeIs PySem.F.entry_dict_get (PySem.F.args_dict_get_3 _ _ _) (meets_dict_get_default (strKind prog w) d (strKind_is prog w k t) hd dflt) ⟨_, hD.mapOf, h⟩
end
/-- where the walk is to stop at once -/
structure Wait (P : Prop) : Prop where
  go : P
theorem wait_sub {M : Model} {A : Around} {value slice : PySem.Expr} {l : Addr} {v : Value} {Q E : Value → Shared → Prop} {s : Shared} (h : Wait (wpAny M A (subscriptTail value slice (.ref l) v) Q E s)) :
    wpAny M A (subscriptTail value slice (.ref l) v) Q E s := h.go
theorem wait_call {M : Model} {A : Around} {l : Addr} {pos : List Value} {kw : List (Str × Value)} {Q E : Value → Shared → Prop} {s : Shared} (h : Wait (wpAny M A (call (.ref l) pos kw) Q E s)) :
    wpAny M A (call (.ref l) pos kw) Q E s := h.go
theorem turn_ref {prog : Program} {w : World} {A : Around} {E : Value → Shared → Prop} {s : Shared} {value slice : PySem.Expr} {l : Addr} {i : Value} {Q : Value → Shared → Prop}
    (h : wpAny (model prog w) A (subscriptTail (.Name (Str.ofString "_") ⟨0, 0, 0, 0⟩) slice (.ref l) i) Q E s) : wpAny (model prog w) A (subscriptTail value slice (.ref l) i) Q E s := kba_turn (fun _ => rfl) h
end Mine
namespace Mine
theorem fillK00 (w : World) : Mine.hd.heap_1 w.params = Mine.hd.heap_1 w.params ∧ Challenge.rw_pq0161_01 = Challenge.rw_pq0161_01 := by
  k_fill
  w_top off
  exact ⟨rfl, rfl⟩
end Mine
open Mine
local macro_rules
  | `(tactic| walk_at "subscriptTail") => `(tactic| with_reducible refine wait_sub ?_)
  | `(tactic| walk_at "call ref") => `(tactic| with_reducible refine wait_call ?_)
local macro_rules | `(tactic| walk_at "subscriptTail") => `(tactic| ((fail_if_success (with_reducible show wpAny _ _ (subscriptTail (PySem.Expr.Name _ _) _ _ _) _ _ _)); with_reducible refine turn_ref ?_))
local macro_rules | `(tactic| k_steps) => `(tactic| ((repeat' (first | (k_unfold; (try dsimp only)) | (k_end; wrow_close) | walk1 | (dsimp only; walk1) | (leave1; try dsimp only) | fail)); (all_goals (try with_reducible refine Wait.mk ?_))))
local macro_rules | `(tactic| k_all) => `(tactic| assumption)
local macro_rules | `(tactic| ktr_rel) => `(tactic| (intro _ hp9; repeat' (first | exact hp9 | refine List.Mem.tail _ ?_)))
local macro_rules | `(tactic| k_inst) => `(tactic| first | exact inst_k (by assumption) (by assumption) (by assumption) (by assumption) (by ktr_rel) | (refine' inst_kn ?F ?N ?I ?D ?S; (case F => assumption); (case N => assumption); (case I => assumption); (case D => k_mem); (case S => ktr_rel)))
local macro_rules | `(tactic| kmk_list) => `(tactic| exact list_k (by assumption) (by assumption) (by assumption) (by ktr_rel))
local macro_rules | `(tactic| walk_at "subscriptTail") => `(tactic| (k_here; (with_reducible show wpAny _ _ (subscriptTail _ _ (Value.ref _) (Value.int _ _)) _ _ _); k_dflt (refine' sub_list ?k1 ?k2 ?k3 ?k4 ?_ ?k6; (case k1 => kmk_list); (case k2 => decide); (case k3 => decide); (case k4 => exact rfl); (case k6 => with_unfolding_all rfl); k_whole)))
local macro_rules | `(tactic| walk_at "subscriptTail Name Slice ref ref") => `(tactic| (k_here; (with_reducible show wpAny _ _ (subscriptTail _ (PySem.Expr.Slice (some _) (some _) none _) (Value.ref _) (Value.ref _)) _ _ _); k_dflt (refine' slice_kn ?F ?N ?l ?h0 ?h1 ?h2 ?z ?_ ?s ?t; (case F => k_asm); (case N => k_asm); (case l => kmk_list); (case s => with_unfolding_all rfl); (case t => kmk_pure); (case z => assumption); (case h0 => (try dsimp only); omega); (case h1 => (try dsimp only); omega); (case h2 => (try dsimp only); omega)); intro D' h' F' N' l1))
local macro_rules | `(tactic| walk_at "newList") => `(tactic| (k_here; k_dflt (refine' newList_M ?k1 ?k2 ?_ ?k3; (case k1 => k_asm); (case k2 => k_asm); (case k3 => size_fits); k_whole); intro l' h' F' N' l1 l2; (try k_sweep)))
local macro_rules | `(tactic| walk_at "call builtin:len") => `(tactic| (k_here; (with_reducible show wpAny _ _ (call (Value.builtin "len") [Value.ref _]) _ _ _); k_dflt (refine' PyProof.Rows.len_list ?l ?f ?_; (case l => first | kmk_list | exact list_n (by assumption) (by k_mem)); (case f => (omega)); k_whole)))
local macro_rules | `(tactic| walk_at "unpackItems ref") => `(tactic| (k_here; k_dflt (first
  | (refine' unpackItemsN_ ?k1 ?k2 ?k3 ?k4 ?k5 ?_; (case k1 => k_asm); (case k2 => k_asm); (case k3 => kun_tup); (case k4 => assumption); (case k5 => exact rfl); k_whole)
  | (refine' kun_items ?k1 ?k2 ?k3 ?k4 ?k5 ?_; (case k1 => k_asm); (case k2 => k_asm); (case k3 => kmk_list); (case k4 => assumption); (case k5 => exact rfl); k_whole)); intro h' F' N'; (try k_sweep)))
local macro_rules | `(tactic| walk_at "assign Tuple") => `(tactic| (k_here; (with_reducible show wpAny _ _ (assign (Expr.Tuple _ _ _) _ (Value.ref _)) _ _ _); k_dflt (first
  | (refine' kun_list ?k1 ?k2 ?k3 ?k4 ?k5 ?k6 ?_; (case k1 => k_asm); (case k2 => k_asm); (case k3 => kmk_list); (case k4 => assumption); (case k5 => exact rfl); (case k6 => exact rfl); k_whole)
  | (refine' unpackN_ ?k1 ?k2 ?k3 ?k4 ?k5 ?k6 ?_; (case k1 => k_asm); (case k2 => k_asm); (case k3 => kun_tup); (case k4 => assumption); (case k5 => exact rfl); (case k6 => exact rfl); k_whole)); intro h' F' N'; (try k_sweep)))
local macro_rules | `(tactic| walk_at "exec For") => `(tactic| (k_here; refine' for_h ?h ?hs; (case hs => intro _; with_unfolding_all rfl)))
local macro_rules | `(tactic| walk_at "exec For Name Call cons nil") => `(tactic| (k_here; refine' for_h ?h ?hs; (case hs => intro _; with_unfolding_all rfl)))
local macro_rules | `(tactic| walk_at "eval ListComp") => `(tactic| (k_here; refine' comp_h ?hclos ?hcell ?hkind ?hnames ?hx ?h ?hs; (case hclos => with_unfolding_all rfl); (case hcell => decide); (case hkind => with_unfolding_all rfl); (case hnames => decide); (case hx => with_unfolding_all rfl); (case hs => intro _; with_unfolding_all rfl)))
local macro_rules | `(tactic| walk_at "eval Name") => `(tactic| (k_here; k_dflt (first
  | (refine' nameE_L ?F ?c ?v ?_ ?a ?b ?d; (case F => k_asm); (case c => rfl); (case a => rfl); (case b => rfl); (case d => decide); (case v => assumption); k_whole)
  | (refine' nameE_B ?F ?X ?T ?e ?v ?n ?_ ?g ?bb ?a ?b ?d; (case F => k_asm); (case X => k_asm); (case T => k_asm); (case g => rfl); (case bb => rfl); (case a => rfl); (case b => rfl); (case d => decide); (case e => k_is); (case v => boot_by_name); (case n => decide); k_whole))))
-- the side goals of an entry
local macro_rules | `(tactic| ktr_unf) => `(tactic| (
  case k6 => k_is
  case k7 => k_is
  case k9 => exact BindsTo.of_eq rfl
  case kB => exact locs rfl
  case c5 => decide
  case c2 => exact rfl
  case c3 => exact rfl
  case c4 => exact rfl))
local macro_rules | `(tactic| walk_at "eval Name") => `(tactic| (k_here; k_dflt (first
  | (refine' nameE_F (c := _) ?c ?cell ?_ ?a ?b ?d ?n; (case b => rfl); (case a => rfl); (case d => decide); (case n => decide); (case c => rfl); (case cell => exact cell_k (by assumption) (by assumption) (by assumption) (by assumption) (by ktr_rel)); k_whole)
  | (refine' nameE_Cell (c := _) ?c ?cell ?_ ?a ?b ?d; (case b => rfl); (case a => rfl); (case d => decide); (case c => rfl); (case cell => exact cell_k (by assumption) (by assumption) (by assumption) (by assumption) (by ktr_rel)); k_whole))))
local macro_rules
  | `(tactic| walk_at "eval Call") => `(tactic| k_dflt (refine Call_ ?_))
  | `(tactic| walk_at "spliced") => `(tactic| first | with_reducible (refine args_nil ?_; try simp only [List.cons_append, List.nil_append]) | k_dflt (refine args_cons ?_))
  | `(tactic| walk_at "eval Name") => `(tactic| k_dflt (first
    | (refine' nameX_L ?F ?v ?_ ?a ?b; (case F => k_asm); (case a => rfl); (case b => rfl); (case v => rfl); k_whole)
    | (refine' nameX_K ?F ?X ?T ?e ?_ ?a ?b; (case F => k_asm); (case X => k_asm); (case T => k_asm); (case a => rfl); (case b => rfl); (case e => k_is); k_whole)))
section
namespace Mine
theorem join_signs (ms : List Int) : Txt.join (Str.ofString "") (ms.map fun n => (⟨#[n.toNat]⟩ : Str)) = ⟨(ms.map Int.toNat).toArray⟩ := by
  have e : ∀ ms : List Int, Str.join ⟨#[]⟩ (ms.map fun n => (⟨#[n.toNat]⟩ : Str)) = ⟨(ms.map Int.toNat).toArray⟩ := by
    intro ms
    induction ms with
    | nil => rfl
    | cons n r ih =>
      rw [List.map_cons, join_nil_cons, ih]
      show Str.append _ _ = _
      simp [Str.append]
  exact (PySem.StrLaws.glued_eq_join _ _).trans (e ms)
theorem filter_all (l : List Value) : l.filter (fun _ => true) = l := by simp
theorem strs_of_ints {vs : List Value} {ms : List Int} (h : IntsAre vs ms) : ∀ {ys : List Value}, Paired (fun v y => ∃ n t t', v = Value.int n t ∧ y = Value.str ⟨#[n.toNat]⟩ t') vs ys → StrsAre ys (ms.map fun n => (⟨#[n.toNat]⟩ : Str)) := by
  induction h with
  | nil => intro ys p; cases p; exact .nil
  | cons n t _ ih =>
    intro ys p
    cases p with
    | cons a b =>
      obtain ⟨n', t1, t2, e, rfl⟩ := a
      cases e
      exact .cons _ _ (ih b)
/-- the text of octets -/
def txtOf (ms : List Int) : Str := ⟨(ms.map Int.toNat).toArray⟩
def cutOf (ns : List Int) (p : Pl) : List Int := (ns.drop p.lo.toNat).take p.len.toNat
structure OctOk (ns : List Int) : Prop where
  few : ns.length < 1000
  low : ∀ n ∈ ns, 0 ≤ n ∧ n < 128
structure PlOk (ns : List Int) (p : Pl) : Prop where
  lo : 0 ≤ p.lo
  len : 0 ≤ p.len
  hi : p.lo + p.len ≤ ns.length
section
variable {w : World} {A : Around} {s : Shared} {H : Heap} {Q E : Value → Shared → Prop} {R : Rm}

theorem free_room_c (c : Ctx 1 w A H s) (x : RoomW w H s.heap R)
    (hQ : ∀ h' tk tk', Kept [] s.heap h' → Q (.int (R.free - R.low) tk') { s with heap := h', toks := tk }) :
    wpAny (model PR w) A (call (.ref 87) [.ref R.r]) Q E s := by
  refine' enter c ?k6 ?k7 ?k9 ?kB ?_ ?c5 ?c2 ?c3 ?c4
  ktr_unf
  intro h tk b
  refine seg_k (b.seg [] c (by simp)) fun g rest p loose mean mg mb G F' N' T' => ?_
  have X' := G.X
  have hL : s.heap.objs.size ∉ R.adr := fun q => Nat.lt_irrefl _ (x.at_.lt _ q)
  have x' := x.kept b.kp (by simp)
  have I := G.old _ _ (fun q => hL (q ▸ (by simp [Rm.adr, Rm.fix]))) (by simp) x'.at_.inst
  refine x'.at_.dictK fun k t0 t1 t2 t3 t4 nd hd => ?_
  have D := G.old _ _ (fun q => hL (q ▸ (by simp [Rm.adr, Rm.fix]))) (by simp) hd
  rw [List.nil_append] at N'
  try dsimp only
  k_steps
  try dsimp only
  exact hQ _ _ _ (b.after G (by assumption) (by assumption) (by ktr_rel) (by simp)).kp

theorem text_at_c {pl : Pl} (c : Ctx 2 w A H s) (x : RoomW w H s.heap R) (hp : PlAt s.heap pl) (ho : OctOk R.ns) (hk : PlOk R.ns pl)
    (hQ : ∀ h' tk tk', Kept [] s.heap h' → Q (.str (txtOf (cutOf R.ns pl)) tk') { s with heap := h', toks := tk }) :
    wpAny (model PR w) A (call (.ref 68) [.ref R.r, .ref pl.a]) Q E s := by
  obtain ⟨pa, at', len⟩ := pl
  obtain ⟨h0, h1, h2⟩ := hk
  dsimp only at h0 h1 h2
  refine' enter c ?k6 ?k7 ?k9 ?kB ?_ ?c5 ?c2 ?c3 ?c4
  ktr_unf
  intro h tk b
  refine seg_k (b.seg [] c (by simp)) fun g rest p loose mean mg mb G F' N' T' => ?_
  have X' := G.X
  have hL : s.heap.objs.size ∉ R.adr := fun q => Nat.lt_irrefl _ (x.at_.lt _ q)
  have x' := x.kept b.kp (by simp)
  have I := G.old _ _ (fun q => hL (q ▸ (by simp [Rm.adr, Rm.fix]))) (by simp) x'.at_.inst
  refine x'.at_.dictK fun k t0 t1 t2 t3 t4 nd hd => ?_
  have D := G.old _ _ (fun q => hL (q ▸ (by simp [Rm.adr, Rm.fix]))) (by simp) hd
  obtain ⟨u0, u1, e0, hpl⟩ := hp
  dsimp only at hpl
  have P := G.old _ _ (Nat.ne_of_lt (Heap.lt_size hpl)) (by simp) (b.kp _ _ (by simp) hpl)
  obtain ⟨vs, e1, hoc, hi⟩ := x'.at_.oct
  have O := G.old _ _ (fun q => hL (q ▸ (by simp [Rm.adr, Rm.fix]))) (by simp) hoc
  have hns := ho.few
  have hvl := hi.length
  have hz : vs.length ≤ sizeLine := by rw [hi.length, sizeLine_eq]; omega
  rw [List.nil_append] at N'
  try dsimp only
  k_steps
  try dsimp only
  rename Fr _ _ _ _ => F1
  rename News _ _ _ _ => N1
  have hI := (hi.drop at'.toNat).take len.toNat
  rw [show (at' + len - at').toNat = len.toNat by omega] at N1
  generalize List.take len.toNat (List.drop at'.toNat vs) = ws at hI N1
  have hb : ∀ n ∈ List.take len.toNat (List.drop at'.toNat R.ns), 0 ≤ n ∧ n < 128 := fun n hn => ho.low n (List.mem_of_mem_drop (List.mem_of_mem_take hn))
  have hml : (List.take len.toNat (List.drop at'.toNat R.ns)).length ≤ R.ns.length := by rw [List.length_take, List.length_drop]; omega
  have hc : cutOf R.ns ⟨pa, at', len⟩ = List.take len.toNat (List.drop at'.toNat R.ns) := rfl
  rw [hc] at hQ
  generalize List.take len.toNat (List.drop at'.toNat R.ns) = ms at hI hb hml hQ
  refine comp_list (fun _ => true) (fun _ _ v y => ∃ n t t', v = .int n t ∧ y = .str ⟨#[n.toNat]⟩ t') (c.ok.deeper _).hd F1 N1 (list_n N1 (List.Mem.head _)) (by rw [List.size_toArray, hI.length, sizeLine_eq]; omega) ⟨?_, ?_, ?_⟩ ?_
  · exact fun C h h' v y q _ => q
  · intro C i v s₃ m₃ hP F₃ N₃ hm _
    exact wpAny_pure ⟨rfl, _, _, rfl, fun _ _ e => e⟩
  · intro C i v s₃ m₃ hP _ F₃ N₃ hm _
    obtain ⟨n, t, hn, rfl⟩ := ints_at hI (by simpa using hP)
    obtain ⟨hn0, hn1⟩ := hb n (List.mem_of_getElem? hn)
    obtain ⟨h₃, _, _, _, _⟩ := s₃
    k_steps
    exact ⟨_, _, rfl, fun _ _ e => e⟩
  · intro D2 C ys e h2 tk2 hDC hLD hlt F2 N2 hP
    rw [filter_all] at hP
    have hst := strs_of_ints hI hP
    clear N1 F1 hP
    refine spliced_nil ?_
    refine join_listC (list_n N2 (List.Mem.head _)) hst (by decide) ?_ ?_
    · have : ∀ ms : List Int, (List.map (fun x : Str => x.length) (ms.map fun n => (⟨#[n.toNat]⟩ : Str))).sum = ms.length := by
        intro ms; induction ms with
        | nil => rfl
        | cons a r ih => simp only [List.map_cons, List.sum_cons, List.length_cons, ih]; show 1 + _ = _; omega
      rw [this, List.length_map]; omega
    · intro t2 k2
      rw [join_signs]
      exact hQ _ _ _ (b.after G F2 N2 (by ktr_rel) (by simp)).kp
end
end Mine
end
section
namespace Mine
def codesOf (x : Str) : List Int := x.cps.toList.map fun (c : Nat) => (c : Int)
section
variable {w : World} {A : Around} {s : Shared} {H : Heap} {Q E : Value → Shared → Prop} {R : Rm}

theorem ints_of_signs {x : Str} {vs ys : List Value} (hl : vs.length = x.cps.size) (h : ∀ (j : Nat) (v : Value), vs[j]? = some v → SignAt x j v)
    (hp : Paired (fun v y => ∃ c u t, v = Value.str ⟨#[c]⟩ u ∧ y = Value.int (c : Nat) t) vs ys) : IntsAre ys (codesOf x) := by
  have key : ∀ (cs : List Nat) (vs ys : List Value), vs.length = cs.length → (∀ (j : Nat) (v : Value), vs[j]? = some v → ∃ c u, cs[j]? = some c ∧ v = .str ⟨#[c]⟩ u) →
      Paired (fun v y => ∃ c u t, v = Value.str ⟨#[c]⟩ u ∧ y = Value.int (c : Nat) t) vs ys → IntsAre ys (cs.map fun (c : Nat) => (c : Int)) := by
    intro cs
    induction cs with
    | nil => intro vs ys hl _ hp; cases vs with
      | nil => cases hp; exact .nil
      | cons _ _ => simp at hl
    | cons c r ih =>
      intro vs ys hl h hp
      cases hp with
      | nil => simp at hl
      | @cons v y vs' ys' hv hr =>
        obtain ⟨c', u, t, rfl, rfl⟩ := hv
        obtain ⟨c2, u2, e1, e2⟩ := h 0 _ rfl
        simp at e1 e2
        obtain ⟨rfl, rfl⟩ := e2
        subst e1
        exact .cons _ _ (ih vs' ys' (by simpa using hl) (fun j v hj => h (j + 1) v (by simpa using hj)) hr)
  exact key x.cps.toList vs ys (by simpa using hl) (fun j v hj => by obtain ⟨c, u, a, b⟩ := h j v hj; exact ⟨c, u, by simpa using a, b⟩) hp

theorem octets_of_c {x : Str} {t : Tok} (c : Ctx 2 w A H s) (ha : x.cps.all (· < 128) = true) (hsz : x.cps.size < 1000)
    (hQ : ∀ h' tk D ys e, Kept [] s.heap h' → s.heap.objs.size ≤ D → h'.get? D = some (listOf (List.toArray ys) e) → IntsAre ys (codesOf x) → Q (.ref D) { s with heap := h', toks := tk }) :
    wpAny (model PR w) A (call (.ref 63) [.str x t]) Q E s := by
  refine' enter c ?k6 ?k7 ?k9 ?kB ?_ ?c5 ?c2 ?c3 ?c4
  ktr_unf
  intro h tk b
  refine seg_k (b.seg [] c (by simp)) fun g rest p loose mean mg mb G F' N' T' => ?_
  have X' := G.X
  rw [List.nil_append] at N'
  try dsimp only
  k_steps
  rename Fr _ _ _ _ => F1
  rename News _ _ _ _ => N1
  refine comp_str (fun _ => true) (fun _ _ v y => ∃ c u t, v = Value.str ⟨#[c]⟩ u ∧ y = Value.int (c : Nat) t) (c.ok.deeper _).hd F1 N1 ha (by rw [sizeLine_eq]; omega) ⟨?_, ?_, ?_⟩ ?_
  · exact fun C h h' v y q _ => q
  · intro C i v s₃ m₃ hP F₃ N₃ hm _
    exact wpAny_pure ⟨rfl, _, _, rfl, fun _ _ e => e⟩
  · intro C i v s₃ m₃ hP _ F₃ N₃ hm _
    obtain ⟨c, u, hc, rfl⟩ := hP
    obtain ⟨h₃, _, _, _, _⟩ := s₃
    k_steps
    exact ⟨_, _, rfl, fun _ _ e => e⟩
  · intro D2 C vs ys e h2 tk2 hDC hLD hlt F2 N2 hl hv hP
    rw [filter_all] at hP
    have hst := ints_of_signs hl hv hP
    have b2 := b.after G F2 N2 (by ktr_rel) (by simp)
    refine hQ _ _ _ ys.toList e b2.kp ?_ ?_ hst
    · exact Nat.le_of_lt hLD
    · have := (N2 _ (List.Mem.head _)).1
      simpa using this

/-- writing ms into ns at k -/
def put (ns : List Int) (k : Nat) (ms : List Int) : List Int := ns.take k ++ ms ++ ns.drop (k + ms.length)
theorem put_length {ns ms : List Int} {k : Nat} (h : k + ms.length ≤ ns.length) : (put ns k ms).length = ns.length := by
  unfold put; simp only [List.length_append, List.length_take, List.length_drop]; omega
theorem put_nil (ns : List Int) (k : Nat) : put ns k [] = ns := by simp [put]
theorem put_snoc {ns ms : List Int} {k : Nat} {v : Int} (h : k + ms.length < ns.length) : (put ns k ms).set (k + ms.length) v = put ns k (ms ++ [v]) := by
  unfold put
  have e1 : (ns.take k ++ ms).length = k + ms.length := by rw [List.length_append, List.length_take]; omega
  rw [List.set_append_right _ _ (by omega), e1, Nat.sub_self]
  rw [List.drop_eq_getElem_cons h, List.set_cons_zero]
  simp [Nat.add_assoc]

theorem write_octets_c {at' : Int} {t : Tok} {ol : Addr} {ms : List Int} {ws : List Value} {e : Nat} (c : Ctx 2 w A H s) (x : RoomW w H s.heap R) (ho : s.heap.get? ol = some (listOf (List.toArray ws) e)) (hi : IntsAre ws ms) (hne : ol ≠ R.ao)
    (hns : R.ns.length < 1000) (h0 : 0 ≤ at') (h1 : at' + ms.length ≤ R.ns.length)
    (hQ : ∀ h' tk, Kept [R.ao] s.heap h' → RoomW w H h' { R with ns := put R.ns at'.toNat ms } → Q .none { s with heap := h', toks := tk }) :
    wpAny (model PR w) A (call (.ref 75) [.ref R.r, .int at' t, .ref ol]) Q E s := by
  refine' enter c ?k6 ?k7 ?k9 ?kB ?_ ?c5 ?c2 ?c3 ?c4
  ktr_unf
  intro h1 tk b
  have hL : s.heap.objs.size ∉ R.adr := fun q => Nat.lt_irrefl _ (x.at_.lt _ q)
  have hao' := x.at_.lt _ R.m_ao
  have x' := x.kept b.kp (by simp)
  obtain ⟨vs, e1, hoc, hiv⟩ := x'.at_.oct
  have hao : R.ao ∈ R.adr := by simp [Rm.adr, Rm.fix]
  have ap := Rm.apart x.sep
  refine seg_k (b.seg [(R.ao, listOf vs.toArray e1)] c (by
    intro q hq
    rw [List.mem_singleton.mp hq]
    exact ⟨hoc, x.none _ hao, fun q => hL (q ▸ hao)⟩)) fun g rest p loose mean mg mb G F' N' T' => ?_
  have X' := G.X
  have I := G.old _ _ (fun q => hL (q ▸ R.m_r)) (by simpa using ap.r_ao) x'.at_.inst
  refine x'.at_.dictK fun k t0 t1 t2 t3 t4 nd hd => ?_
  have D := G.old _ _ (fun q => hL (q ▸ R.m_dx)) (by simpa using ap.dx_ao) hd
  have O := G.old _ _ (Nat.ne_of_lt (Heap.lt_size ho)) (by simp; exact hne) (b.kp _ _ (by simp) ho)
  try dsimp only
  k_steps
  rename Fr _ _ _ _ => F1
  rename News _ _ _ _ => N1
  have hLs1 : s.heap.objs.size < h1.objs.size := F1.ns.lt
  have hol : ol ≠ s.heap.objs.size := Nat.ne_of_lt (Heap.lt_size ho)
  have hws : ws.length = ms.length := hi.length
  have b1 := (b.mono (S' := [R.ao]) (by simp)).after G F1 N1 (by ktr_rel) (by simp)
  refine enum_h (c.ok.deeper _).hd (list_k F1 N1 O (by ktr_rel)) F1.ns hol rfl rfl rfl
    (fun i m h => H.StaysIn h ∧ Kept [R.ao] s.heap h ∧ RoomW w H h { R with ns := put R.ns at'.toNat (ms.take i) } ∧ m (Str.ofString "space") = some (.ref R.r) ∧ m (Str.ofString "at") = some (.int at' t)) ?_ ?_ ?_ ?_
  · intro i m h3 h4 hJ k
    obtain ⟨a1, a2, a3, a4, a5⟩ := hJ
    have hLs := hLs1
    have far : ∀ b, b < s.heap.objs.size → ∀ o, h3.get? b = some o → h4.get? b = some o := fun b hb o e =>
      k b o (Nat.ne_of_lt (Nat.lt_trans hb hLs)) (Nat.ne_of_lt (Nat.lt_succ_of_lt (Nat.lt_trans hb hLs))) (Nat.ne_of_lt hb) e
    exact ⟨fun b o e => far b (Heap.lt_size (c.st b o e)) o (a1 b o e), fun b o hb e => far b (Heap.lt_size e) o (a2 b o hb e), a3.mono fun a ha o e => far a (x.at_.lt a ha) o e, a4, a5⟩
  · refine ⟨b1.st, b1.kp, ?_, ?_, ?_⟩
    · rw [List.take_zero, put_nil]; exact x'
    · rfl
    · rfl
  · intro i t' v m h tk hv hJ hn
    obtain ⟨a1, a2, x, m1, m2⟩ := hJ
    have b : Bd H s s.heap.objs.size [R.ao] _ h := ⟨hn, a1, a2, Nat.le_refl _⟩
    have q1 : (fun y => if y = Str.ofString "octet" then some v else if y = Str.ofString "spot" then some (.int (i : Nat) t') else m y) (Str.ofString "space") = some (.ref R.r) := m1
    have q2 : (fun y => if y = Str.ofString "octet" then some v else if y = Str.ofString "spot" then some (.int (i : Nat) t') else m y) (Str.ofString "at") = some (.int at' t) := m2
    have q3 : (fun y => if y = Str.ofString "octet" then some v else if y = Str.ofString "spot" then some (.int (i : Nat) t') else m y) (Str.ofString "spot") = some (.int (i : Nat) t') := rfl
    have q4 : (fun y => if y = Str.ofString "octet" then some v else if y = Str.ofString "spot" then some (.int (i : Nat) t') else m y) (Str.ofString "octet") = some v := rfl
    generalize (fun y => if y = Str.ofString "octet" then some v else if y = Str.ofString "spot" then some (.int (i : Nat) t') else m y) = m' at q1 q2 q3 q4 b
    obtain ⟨n, u, hn1, rfl⟩ := ints_at hi (by simpa using hv)
    have hi1 : i < ms.length := by have := (List.getElem?_eq_some_iff.mp hn1).1; exact this
    obtain ⟨vs, e1, hoc, hiv⟩ := x.at_.oct
    dsimp only at hoc hiv
    have hlen : (put R.ns at'.toNat (ms.take i)).length = R.ns.length := put_length (by rw [List.length_take]; omega)
    refine seg_k (b.seg [(R.ao, listOf vs.toArray e1)] c (by
      intro q hq
      rw [List.mem_singleton.mp hq]
      exact ⟨hoc, x.none _ (Rm.m_ao _), fun q => hL (q ▸ R.m_ao)⟩)) fun g rest p loose mean mg mb G F' N' T' => ?_
    have X' := G.X
    have I := G.old _ _ (fun q => hL (q ▸ R.m_r)) (by simpa using ap.r_ao) x.at_.inst
    refine x.at_.dictK fun k t0 t1 t2 t3 t4 nd hd => ?_
    have D := G.old _ _ (fun q => hL (q ▸ R.m_dx)) (by simpa using ap.dx_ao) hd
    have off := fun p hp => by simpa using G.off p hp
    try dsimp only
    k_steps
    rename Fr _ _ _ _ => F3
    rename News _ _ _ _ => N3
    rename IntsAre (List.set _ _ _) _ => hi3
    have b5 := b.after G F3 N3 (by ktr_rel) (by simp)
    refine ⟨_, _, _, rfl, F3.ns, fun b hb o e => ?_, b5.st, b5.kp, ?_, q1, q2⟩
    · have hLs : s.heap.objs.size < h1.objs.size := by assumption
      refine G.stay F3 N3 (by ktr_rel) b o (fun q => ?_) (fun q => ?_) e
      · subst q
        rcases List.mem_cons.mp hb with q | hb
        · exact Nat.ne_of_lt (Nat.lt_succ_of_lt hLs) q
        · rcases List.mem_cons.mp hb with q | hb
          · exact Nat.ne_of_lt hLs q
          · exact hol (List.mem_singleton.mp hb).symm
      · have q : b = R.ao := by simpa using q
        subst q
        rcases List.mem_cons.mp hb with q | hb
        · exact Nat.ne_of_lt (Nat.lt_succ_of_lt (Nat.lt_trans hao' hLs)) q
        · rcases List.mem_cons.mp hb with q | hb
          · exact Nat.ne_of_lt (Nat.lt_trans hao' hLs) q
          · exact hne (List.mem_singleton.mp hb).symm
    · have e3 : (put R.ns at'.toNat (List.take i ms)).set (at' + (i : Nat)).toNat n = put R.ns at'.toNat (ms.take (i + 1)) := by
        have e4 : (List.take i ms).length = i := by rw [List.length_take]; omega
        rw [List.take_add_one, hn1, Option.toList_some, ← put_snoc (by rw [e4]; omega), e4]
        congr 1; omega
      rw [e3] at hi3
      exact x.setOct (fun a ha hne o e => G.stay F3 N3 (by ktr_rel) a o (fun q => hL (q ▸ ha)) (by simpa using hne) e) (N3 _ (List.Mem.head _)).1 hi3
  · intro h4 tk4 m4 hJ hn4
    obtain ⟨a1, a2, a3, a4, a5⟩ := hJ
    rw [List.size_toArray, hws, List.take_length] at a3
    k_steps
    exact hQ _ _ a2 a3
end
end Mine
end
section
namespace Mine
section
variable {w : World} {A : Around} {s : Shared} {H : Heap} {Q E : Value → Shared → Prop} {R : Rm}

theorem put_free (P : Params) (k : Nat → Tok) (size low free mw col v key : Value) (hs : Int) (ao ah aw : Addr) (n : Nat) :
    (putL (Str.ofString "free") hs key v (roomD P k size low free mw col ao ah aw), putN (Str.ofString "free") (roomD P k size low free mw col ao ah aw) n) = (roomD P k size low v mw col ao ah aw, n) := by with_unfolding_all rfl
theorem put_col (P : Params) (k : Nat → Tok) (size low free mw col v key : Value) (hs : Int) (ao ah aw : Addr) (n : Nat) :
    (putL (Str.ofString "collections") hs key v (roomD P k size low free mw col ao ah aw), putN (Str.ofString "collections") (roomD P k size low free mw col ao ah aw) n) = (roomD P k size low free mw v ao ah aw, n) := by with_unfolding_all rfl
theorem set_free {g : Heap} {L r dx ao ah aw : Addr} {m : Str → Option Value} {rest : List (Addr × Obj)} {k : Nat → Tok} {size low free mw col v : Value} {nd : Nat} {Q : Unit → Shared → Prop} (F : Fr g L s.heap m) (X : (hd.heap_1 w.params).In g)
    (N : News g L s.heap ((dx, dictOf (roomD w.params k size low free mw col ao ah aw) nd) :: rest)) (I : s.heap.get? r = some (instObj 54 dx)) (off : ∀ p ∈ rest, p.1 ≠ dx)
    (h : ∀ h', Fr g L h' m → News g L h' ((dx, dictOf (roomD w.params k size low v mw col ao ah aw) nd) :: rest) → Q () { s with heap := h', toks := s.toks + 2 }) :
    wpAny (model PR w) A (setAttr (.ref r) (Str.ofString "free") v) Q E s := by
  refine' set_dict (dx := dx) F X N (ox := instObj 54 dx) ⟨I, rfl, rfl, (N _ (.head _)).1⟩ ?k5 ?k6 ?k7 ?k8 ?k9 ?k10 ?k11 ?k12 ?k13 ?_
  case k5 => exact rfl
  case k6 => k_is
  case k7 => k_is
  case k8 => k_is
  case k9 => k_is
  case k10 => k_get
  case k11 => exact put_free _ _ _ _ _ _ _ _ _ _ _ _ _ _
  case k12 => exact Upd.head off
  case k13 => exact Nat.le_of_ble_eq_true rfl
  exact h
theorem allocate_c {len : Int} {t : Tok} (c : Ctx 3 w A H s) (x : RoomW w H s.heap R) (h0 : 0 ≤ len) (h1 : len ≤ 255) (h2 : R.low + len ≤ R.free)
    (hQ : ∀ h' tk tk', Kept [R.dx] s.heap h' → RoomW w H h' { R with free := R.free - len } → Q (.int (R.free - len) tk') { s with heap := h', toks := tk }) :
    wpAny (model PR w) A (call (.ref 106) [.ref R.r, .int len t]) Q E s := by
  refine' enter c ?k6 ?k7 ?k9 ?kB ?_ ?c5 ?c2 ?c3 ?c4
  ktr_unf
  intro hh1 tk b
  have hL : s.heap.objs.size ∉ R.adr := fun q => Nat.lt_irrefl _ (x.at_.lt _ q)
  have x' := x.kept b.kp (by simp)
  have ap := Rm.apart x.sep
  refine x'.at_.dictK fun k t0 t1 t2 t3 t4 nd hd => ?_
  have hM : ∀ q ∈ [(R.dx, dictOf (roomD w.params k (.int R.size t0) (.int R.low t1) (.int R.free t2) (.int R.mw t3) (.int R.col t4) R.ao R.ah R.aw) nd)], hh1.get? q.1 = some q.2 := by
    intro q hq; rw [List.mem_singleton.mp hq]; exact hd
  refine seg_k (b.seg _ c fun q hq => ⟨hM q hq, by rw [List.mem_singleton.mp hq]; exact x.none _ R.m_dx, by rw [List.mem_singleton.mp hq]; exact fun q => hL (q ▸ R.m_dx)⟩) fun g rest p loose mean mg mb G F' N' T' => ?_
  rw [List.singleton_append] at N'
  have X' := G.X
  have I := G.old _ _ (fun q => hL (q ▸ R.m_r)) (by simpa using ap.r_dx) x'.at_.inst
  have off : ∀ p ∈ rest, p.1 ≠ R.dx := fun p hp => by simpa using G.off p hp
  try dsimp only
  k_steps
  have bm := b.mono (S' := [R.dx]) (by simp)
  rename Fr _ _ _ _ => F1
  rename News _ _ _ _ => N1
  refine free_room_c ((c.deeper _ (bm.after G F1 N1 (by ktr_rel) (by simp)).st).le (by decide)) (x'.same G F1 N1 (by ktr_rel) (by intro q hq; rw [List.mem_singleton.mp hq]; k_mem) hM hL) fun h2 tk2 tk3 kp2 => ?_
  obtain ⟨F2, N2⟩ := after0 F1 N1 kp2
  clear F1 N1 kp2
  k_steps
  rename Fr _ _ _ _ => F1
  rename News _ _ _ _ => N1
  refine free_room_c ((c.deeper _ (bm.after G F1 N1 (by ktr_rel) (by simp)).st).le (by decide)) (x'.same G F1 N1 (by ktr_rel) (by intro q hq; rw [List.mem_singleton.mp hq]; k_mem) hM hL) fun h2 tk2 tk3 kp2 => ?_
  obtain ⟨F2, N2⟩ := after0 F1 N1 kp2
  clear F1 N1 kp2
  k_steps
  rename Fr _ _ _ _ => F1
  rename News _ _ _ _ => N1
  refine set_free F1 X' N1 (I.now F1 N1 (by ktr_rel)) off fun h3 F3 N3 => ?_
  k_steps
  exact hQ _ _ _ (bm.after G F3 N3 (by ktr_rel) (by simp)).kp (x'.setDict (k' := k) (col := R.col) (fun a ha hne o e => G.stay F3 N3 (by ktr_rel) a o (fun q => hL (q ▸ ha)) (by simpa using hne) e) (N3 _ (.head _)).1)
end
end Mine
end
section
namespace Mine
theorem codes_len (z : Str) : (codesOf z).length = z.cps.size := by simp [codesOf]
section
variable {w : World} {A : Around} {s : Shared} {H : Heap} {Q E : Value → Shared → Prop} {R : Rm}

theorem placed_c {z : Str} {t : Tok} (c : Ctx 4 w A H s) (x : RoomW w H s.heap R) (ha : z.cps.all (· < 128) = true) (hz : z.cps.size ≤ 255) (h0 : 0 ≤ R.low) (h2 : R.low + z.cps.size ≤ R.free) (h3 : R.free ≤ R.ns.length) (hns : R.ns.length < 1000)
    (hQ : ∀ h' tk l, Kept [R.dx, R.ao] s.heap h' → RoomW w H h' { R with free := R.free - z.cps.size, ns := put R.ns (R.free - z.cps.size).toNat (codesOf z) } → PlAt h' ⟨l, R.free - z.cps.size, z.cps.size⟩ → s.heap.objs.size ≤ l →
      Q (.ref l) { s with heap := h', toks := tk }) :
    wpAny (model PR w) A (call (.ref 113) [.ref R.r, .str z t]) Q E s := by
  refine' enter c ?k6 ?k7 ?k9 ?kB ?_ ?c5 ?c2 ?c3 ?c4
  ktr_unf
  intro hh1 tk b
  have hL : s.heap.objs.size ∉ R.adr := fun q => Nat.lt_irrefl _ (x.at_.lt _ q)
  have x1 := x.kept b.kp (by simp)
  have hzz : z.length = z.cps.size := rfl
  have bm := b.mono (S' := [R.dx, R.ao]) (by simp)
  refine bm.seg0 c fun g rest p loose mean mg mb G F' N' T' X' => ?_
  try dsimp only
  k_steps
  rename Fr _ _ _ _ => F1
  rename News _ _ _ _ => N1
  have ba := bm.after G F1 N1 (by ktr_rel) (by simp)
  refine allocate_c ((c.deeper _ ba.st).le (by decide)) (x1.seg G F1 N1 (by ktr_rel) hL (by simp)) (by omega) (by omega) (by rw [hzz]; exact h2) fun h4 tk4 tk5 kp x2 => ?_
  have b2 := ba.call kp (by intro a ha; rw [List.mem_singleton.mp ha]; exact ⟨.inl (by simp), fun q => hL (q ▸ R.m_dx), x.none _ R.m_dx⟩)
  clear F1 N1 G X' T' ba kp x1 b bm
  rw [hzz] at x2
  refine b2.seg0 c fun g rest p loose mean mg mb G F' N' T' X' => ?_
  k_steps
  rename Fr _ _ _ _ => F1
  rename News _ _ _ _ => N1
  have ba := b2.after G F1 N1 (by ktr_rel) (by simp)
  have x2' := x2.seg G F1 N1 (by ktr_rel) hL (by simp)
  refine octets_of_c ((c.deeper _ ba.st).le (by decide)) ha (by omega) fun h6 tk6 D ys e kp hD hDy hys => ?_
  obtain ⟨F2, N2⟩ := after0 F1 N1 kp
  have ba2 := b2.after G F2 N2 (by ktr_rel) (by simp)
  have x3 := x2'.stay kp.stays
  clear F1 N1
  k_steps
  have hcl := codes_len z
  refine write_octets_c (R := { R with free := R.free - z.cps.size }) ((c.deeper _ ba2.st).le (by decide)) x3 hDy hys (Nat.ne_of_gt (Nat.lt_of_lt_of_le (x2'.at_.lt _ R.m_ao) hD)) hns ?_ ?_ fun h7 tk7 kp7 x4 => ?_
  · omega
  · dsimp only; omega
  rw [hzz] at x4
  have b7 := ba2.call kp7 (by intro a ha; rw [List.mem_singleton.mp ha]; exact ⟨.inl (by simp), fun q => hL (q ▸ R.m_ao), x.none _ R.m_ao⟩)
  clear F2 N2 G X' T' ba kp x2 b2 ba2 x2' x3 hDy
  refine b7.seg0 c fun g rest p loose mean mg mb G F' N' T' X' => ?_
  try dsimp only
  k_steps
  rename Fr _ _ _ _ => F1
  rename News _ _ _ _ => N1
  have ba := b7.after G F1 N1 (by ktr_rel) (by simp)
  refine hQ _ _ _ ba.kp ?_ ⟨_, _, _, (N1 _ (.head _)).1⟩ (Nat.le_of_lt (by assumption))
  exact x4.seg G F1 N1 (by ktr_rel) hL (by simp)
end
end Mine
end
section
namespace Mine
section
variable {w : World} {A : Around} {s : Shared} {H : Heap} {Q E : Value → Shared → Prop} {R : Rm}

theorem assign_text_c {z nm : Str} {t t' : Tok} (c : Ctx 5 w A H s) (x : RoomW w H s.heap R) (ha : z.cps.all (· < 128) = true) (hz : z.cps.size ≤ 255) (h0 : 0 ≤ R.low) (h2 : R.low + z.cps.size ≤ R.free) (h3 : R.free ≤ R.ns.length) (hns : R.ns.length < 1000) (hk : R.held.length < 1000)
    (hQ : ∀ h' tk l, Kept [R.dx, R.ao, R.ah] s.heap h' → s.heap.objs.size ≤ l →
      RoomW w H h' { R with free := R.free - z.cps.size, ns := put R.ns (R.free - z.cps.size).toNat (codesOf z), held := storedP R.held nm ⟨l, R.free - z.cps.size, z.cps.size⟩ } →
      Q .none { s with heap := h', toks := tk }) :
    wpAny (model PR w) A (call (.ref 120) [.ref R.r, .str nm t', .str z t]) Q E s := by
  refine' enter c ?k6 ?k7 ?k9 ?kB ?_ ?c5 ?c2 ?c3 ?c4
  ktr_unf
  intro hh1 tk b
  have hL : s.heap.objs.size ∉ R.adr := fun q => Nat.lt_irrefl _ (x.at_.lt _ q)
  have x1 := x.kept b.kp (by simp)
  have bm := b.mono (S' := [R.dx, R.ao, R.ah]) (by simp)
  refine bm.seg0 c fun g rest p loose mean mg mb G F' N' T' X' => ?_
  try dsimp only
  k_steps
  rename Fr _ _ _ _ => F1
  rename News _ _ _ _ => N1
  have ba := bm.after G F1 N1 (by ktr_rel) (by simp)
  have xa := x1.seg G F1 N1 (by ktr_rel) hL (by simp)
  refine placed_c ((c.deeper _ ba.st).le (by decide)) xa ha hz h0 h2 h3 hns fun h4 tk4 l kp x2 hpl hl => ?_
  have hLs : s.heap.objs.size < l := Nat.lt_of_lt_of_le F1.ns.lt hl
  have hlR : ∀ a ∈ R.adr, a < l := fun a ha => Nat.lt_of_lt_of_le (xa.at_.lt a ha) hl
  have b2 := ba.call kp (by
    intro a ha
    rcases List.mem_cons.mp ha with rfl | ha
    · exact ⟨.inl (by simp), fun q => hL (q ▸ R.m_dx), x.none _ R.m_dx⟩
    · rw [List.mem_singleton.mp ha]; exact ⟨.inl (by simp), fun q => hL (q ▸ R.m_ao), x.none _ R.m_ao⟩)
  clear F1 N1 G X' T' ba kp x1 b bm xa
  have ap := Rm.apart x.sep
  obtain ⟨ep, o, es, ho, hr⟩ := x2.at_.held
  have hkeys := DictOf.keys ⟨o, es, ho, hr⟩
  dsimp only at hkeys ho hr
  refine seg_k (b2.seg [(R.ah, o)] c (by intro q hq; rw [List.mem_singleton.mp hq]; exact ⟨ho, x.none _ R.m_ah, fun q => hL (q ▸ R.m_ah)⟩)) fun g rest p loose mean mg mb G F' N' T' => ?_
  rw [List.singleton_append] at N'
  have X' := G.X
  have I := G.old _ _ (fun q => hL (q ▸ R.m_r)) (by simpa using ap.r_ah) x2.at_.inst
  refine x2.at_.dictK fun k t0 t1 t2 t3 t4 nd hd => ?_
  have D := G.old _ _ (fun q => hL (q ▸ R.m_dx)) (by simpa using ap.dx_ah) hd
  have off : ∀ p ∈ rest, p.1 ≠ R.ah := fun p hp => by simpa using G.off p hp
  try dsimp only
  k_steps
  try dsimp only
  rename Fr _ _ _ _ => F1
  rename News _ _ _ _ => N1
  refine setItem_led F1 N1 ⟨o, es, ep, (N1 _ (.head _)).1, hr⟩ off (by rw [heldOf, List.length_map, sizeLine_eq]; omega) fun h6 o' F3 N3 D3 => ?_
  clear F1 N1
  k_steps
  rw [← heldOf_stored _ _ ⟨l, R.free - z.cps.size, z.cps.size⟩] at D3
  have ba := b2.after G F3 N3 (by ktr_rel) (by simp)
  have hst : ∀ a, a ≠ R.ah → a ≠ s.heap.objs.size → ∀ o, h4.get? a = some o → h6.get? a = some o := fun a h1 h2 o e => G.stay F3 N3 (by ktr_rel) a o h2 (by simpa using h1) e
  refine hQ _ _ l ba.kp (Nat.le_of_lt hLs) (x2.setHeld (held := storedP R.held nm ⟨l, R.free - z.cps.size, z.cps.size⟩) (fun a ha hne => hst a hne (fun q => hL (by rw [← q]; exact List.mem_append_left _ ha))) D3 ?_ ?_ ?_)
  · intro p hp
    rcases List.mem_append.mp hp with hp | hp
    · obtain ⟨y, hy, rfl⟩ := List.mem_map.mp hp
      rcases mem_stored hy with hy | rfl
      · have hm : y.2 ∈ R.pls := List.mem_append_left _ (List.mem_map_of_mem hy)
        obtain ⟨u0, u1, e, hp⟩ := x2.at_.pls y.2 hm
        exact ⟨u0, u1, e, hst _ (ap.pl _ hm).2.2.2.1 (fun q => hL (q ▸ Rm.m_pl hm)) _ hp⟩
      · obtain ⟨u0, u1, e, hp⟩ := hpl
        exact ⟨u0, u1, e, hst _ (Nat.ne_of_gt (hlR _ R.m_ah)) (Nat.ne_of_gt hLs) _ hp⟩
    · have hm : p ∈ R.pls := List.mem_append_right _ hp
      obtain ⟨u0, u1, e, hp⟩ := x2.at_.pls p hm
      exact ⟨u0, u1, e, hst _ (ap.pl _ hm).2.2.2.1 (fun q => hL (q ▸ Rm.m_pl hm)) _ hp⟩
  · intro p hp
    rcases List.mem_append.mp hp with hp | hp
    · obtain ⟨y, hy, rfl⟩ := List.mem_map.mp hp
      rcases mem_stored hy with hy | rfl
      · exact x.new _ (Rm.m_pl (List.mem_append_left _ (List.mem_map_of_mem hy)))
      · exact Nat.le_of_lt (Nat.lt_of_le_of_lt (x.new _ R.m_ah) (hlR _ R.m_ah))
    · exact x.new _ (Rm.m_pl (List.mem_append_right _ hp))
  · exact stored_apart hkeys x.sep fun q => Nat.lt_irrefl _ (hlR _ q)

theorem sys_ne {a : Addr} {H : Heap} (n : 3 < H.objs.size) (h : H.objs.size ≤ a) : (a == sysModules) = false := by
  have : a ≠ 1 := Nat.ne_of_gt (Nat.lt_of_lt_of_le (Nat.lt_trans (by decide : 1 < 3) n) h)
  simpa [sysModules] using this
theorem Ctx.big {n : Nat} (c : Ctx n w A H s) : 3 < H.objs.size := by
  have : ∃ o, (hd.heap_1 w.params).lookup 3 = some o := ⟨_, rfl⟩
  obtain ⟨o, ho⟩ := this
  exact Heap.lt_size (c.X 3 o ho)

theorem forget_c {nm : Str} {t : Tok} (c : Ctx 2 w A H s) (x : RoomW w H s.heap R) (hk : R.held.length < 1000)
    (hQ : ∀ h' tk, Kept [R.ah] s.heap h' → RoomW w H h' { R with held := R.held.filter fun y => decide (y.1 ≠ nm) } → Q .none { s with heap := h', toks := tk }) :
    wpAny (model PR w) A (call (.ref 127) [.ref R.r, .str nm t]) Q E s := by
  refine' enter c ?k6 ?k7 ?k9 ?kB ?_ ?c5 ?c2 ?c3 ?c4
  ktr_unf
  intro hh1 tk b
  have hL : s.heap.objs.size ∉ R.adr := fun q => Nat.lt_irrefl _ (x.at_.lt _ q)
  have x1 := x.kept b.kp (by simp)
  have bm := b.mono (S' := [R.ah]) (by simp)
  have ap := Rm.apart x.sep
  obtain ⟨ep, o, es, ho, hr⟩ := x1.at_.held
  have hD : o.IsDictOf (strKind PR w) (heldOf R.held) := ⟨es, ep, hr⟩
  refine seg_k (bm.seg [(R.ah, o)] c (by intro q hq; rw [List.mem_singleton.mp hq]; exact ⟨ho, x.none _ R.m_ah, fun q => hL (q ▸ R.m_ah)⟩)) fun g rest p loose mean mg mb G F' N' T' => ?_
  rw [List.singleton_append] at N'
  have X' := G.X
  have I := G.old _ _ (fun q => hL (q ▸ R.m_r)) (by simpa using ap.r_ah) x1.at_.inst
  refine x1.at_.dictK fun k t0 t1 t2 t3 t4 nd hd => ?_
  have D := G.old _ _ (fun q => hL (q ▸ R.m_dx)) (by simpa using ap.dx_ah) hd
  have off : ∀ p ∈ rest, p.1 ≠ R.ah := fun p hp => by simpa using G.off p hp
  try dsimp only
  k_steps
  rename Fr _ _ _ _ => F1
  rename News _ _ _ _ => N1
  refine pop_led F1 N1 hD off (by rw [heldOf, List.length_map, sizeLine_eq]; omega) (sys_ne c.big (x.new _ R.m_ah)) fun v h6 o' F3 N3 D3 => ?_
  clear F1 N1
  k_steps
  rw [← heldOf_filter] at D3
  have ba := bm.after G F3 N3 (by ktr_rel) (by simp)
  have hst : ∀ a, a ≠ R.ah → a ≠ s.heap.objs.size → ∀ o, hh1.get? a = some o → h6.get? a = some o := fun a h1 h2 o e => G.stay F3 N3 (by ktr_rel) a o h2 (by simpa using h1) e
  have sub : ∀ p ∈ (R.held.filter fun y => decide (y.1 ≠ nm)).map (·.2) ++ R.wait, p ∈ R.pls := fun p hp => (List.mem_append.mp hp).elim (fun hp => by
    obtain ⟨y, hy, rfl⟩ := List.mem_map.mp hp
    exact List.mem_append_left _ (List.mem_map_of_mem ((List.mem_filter.mp hy).1))) fun hp => List.mem_append_right _ hp
  refine hQ _ _ ba.kp (x1.setHeld (fun a ha hne => hst a hne (fun q => hL (by rw [← q]; exact List.mem_append_left _ ha))) (Heap.dictOf_iff.mpr ⟨o', (N3 _ (.head _)).1, D3⟩) ?_ (fun p hp => x.new _ (Rm.m_pl (sub p hp))) ?_)
  · intro p hp
    have hm := sub p hp
    obtain ⟨u0, u1, e, hp⟩ := x1.at_.pls p hm
    exact ⟨u0, u1, e, hst _ (ap.pl _ hm).2.2.2.1 (fun q => hL (q ▸ Rm.m_pl hm)) _ hp⟩
  · exact x.sep.sublist ((List.Sublist.refl _).append ((((List.filter_sublist).map _).append (List.Sublist.refl _)).map _))
end
end Mine
end
section
namespace Mine
section
variable {w : World} {A : Around} {s : Shared} {H : Heap} {Q E : Value → Shared → Prop} {R : Rm}

theorem push_waiting_c {z : Str} {t : Tok} (c : Ctx 5 w A H s) (x : RoomW w H s.heap R) (ha : z.cps.all (· < 128) = true) (hz : z.cps.size ≤ 255) (h0 : 0 ≤ R.low) (h2 : R.low + z.cps.size ≤ R.free) (h3 : R.free ≤ R.ns.length) (hns : R.ns.length < 1000) (hk : R.wait.length < R.mw) (hmw : R.mw < 1000)
    (hQ : ∀ h' tk l, Kept [R.dx, R.ao, R.aw] s.heap h' → s.heap.objs.size ≤ l →
      RoomW w H h' { R with free := R.free - z.cps.size, ns := put R.ns (R.free - z.cps.size).toNat (codesOf z), wait := R.wait ++ [⟨l, R.free - z.cps.size, z.cps.size⟩] } →
      Q .none { s with heap := h', toks := tk }) :
    wpAny (model PR w) A (call (.ref 141) [.ref R.r, .str z t]) Q E s := by
  refine' enter c ?k6 ?k7 ?k9 ?kB ?_ ?c5 ?c2 ?c3 ?c4
  ktr_unf
  intro hh1 tk b
  have hL : s.heap.objs.size ∉ R.adr := fun q => Nat.lt_irrefl _ (x.at_.lt _ q)
  have x1 := x.kept b.kp (by simp)
  have ap := Rm.apart x.sep
  have bm := b.mono (S' := [R.dx, R.ao, R.aw]) (by simp)
  obtain ⟨e, hw⟩ := x1.at_.wait
  have hwl : (waitOf R.wait).toArray.size = R.wait.length := by simp [waitOf]
  have hM : ∀ q ∈ [(R.aw, listOf (waitOf R.wait).toArray e)], hh1.get? q.1 = some q.2 := by intro q hq; rw [List.mem_singleton.mp hq]; exact hw
  refine seg_k (bm.seg _ c fun q hq => ⟨hM q hq, by rw [List.mem_singleton.mp hq]; exact x.none _ R.m_aw, by rw [List.mem_singleton.mp hq]; exact fun q => hL (q ▸ R.m_aw)⟩) fun g rest p loose mean mg mb G F' N' T' => ?_
  rw [List.singleton_append] at N'
  have X' := G.X
  have I := G.old _ _ (fun q => hL (q ▸ R.m_r)) (by simpa using ap.r_aw) x1.at_.inst
  refine x1.at_.dictK fun k t0 t1 t2 t3 t4 nd hd => ?_
  have D := G.old _ _ (fun q => hL (q ▸ R.m_dx)) (by simpa using ap.dx_aw) hd
  try dsimp only
  k_steps
  rename Fr _ _ _ _ => F1
  rename News _ _ _ _ => N1
  have ba := bm.after G F1 N1 (by ktr_rel) (by simp)
  have xa := x1.same G F1 N1 (by ktr_rel) (by intro q hq; rw [List.mem_singleton.mp hq]; k_mem) hM hL
  refine placed_c ((c.deeper _ ba.st).le (by decide)) xa ha hz h0 h2 h3 hns fun h4 tk4 l kp x2 hpl hl => ?_
  have hLs : s.heap.objs.size < l := Nat.lt_of_lt_of_le F1.ns.lt hl
  have hlR : ∀ a ∈ R.adr, a < l := fun a ha => Nat.lt_of_lt_of_le (xa.at_.lt a ha) hl
  have b2 := ba.call kp (by
    intro a ha
    rcases List.mem_cons.mp ha with rfl | ha
    · exact ⟨.inl (by simp), fun q => hL (q ▸ R.m_dx), x.none _ R.m_dx⟩
    · rw [List.mem_singleton.mp ha]; exact ⟨.inl (by simp), fun q => hL (q ▸ R.m_ao), x.none _ R.m_ao⟩)
  clear F1 N1 G X' T' ba kp x1 b bm xa I D hw hM hd
  obtain ⟨e2, hw⟩ := x2.at_.wait
  dsimp only at hw
  refine seg_k (b2.seg [(R.aw, listOf (waitOf R.wait).toArray e2)] c (by intro q hq; rw [List.mem_singleton.mp hq]; exact ⟨hw, x.none _ R.m_aw, fun q => hL (q ▸ R.m_aw)⟩)) fun g rest p loose mean mg mb G F' N' T' => ?_
  rw [List.singleton_append] at N'
  have X' := G.X
  have off : ∀ p ∈ rest, p.1 ≠ R.aw := fun p hp => by simpa using G.off p hp
  have hsl : (waitOf R.wait).toArray.size ≤ sizeLine := by rw [hwl, sizeLine_eq]; omega
  try dsimp only
  k_steps
  try dsimp only
  rename Fr _ _ _ _ => F3
  rename News _ _ _ _ => N3
  have ba := b2.after G F3 N3 (by ktr_rel) (by simp)
  have hst : ∀ a, a ≠ R.aw → a ≠ s.heap.objs.size → ∀ o, h4.get? a = some o → (_ : Heap).get? a = some o := fun a h1 h2 o e => G.stay F3 N3 (by ktr_rel) a o h2 (by simpa using h1) e
  refine hQ _ _ l ba.kp (Nat.le_of_lt hLs) (x2.setWait (wt := R.wait ++ [⟨l, R.free - z.cps.size, z.cps.size⟩]) (e := e2 + 1) (fun a ha hne => hst a hne (fun q => hL (by rw [← q]; exact List.mem_append_left _ ha))) ?_ ?_ ?_ ?_)
  · have := (N3 _ (.head _)).1
    simpa [waitOf] using this
  · intro p hp
    rw [← List.append_assoc] at hp
    rcases List.mem_append.mp hp with hm | hm
    · exact (x2.at_.pls p hm).stay (hst _ (ap.pl _ hm).2.2.2.2 fun q => hL (q ▸ Rm.m_pl hm))
    · rw [List.mem_singleton.mp hm]; exact hpl.stay (hst _ (Nat.ne_of_gt (hlR _ R.m_aw)) (Nat.ne_of_gt hLs))
  · intro p hp
    rw [← List.append_assoc] at hp
    rcases List.mem_append.mp hp with hm | hm
    · exact x.new _ (Rm.m_pl hm)
    · rw [List.mem_singleton.mp hm]; exact Nat.le_of_lt (Nat.lt_of_le_of_lt (x.new _ R.m_aw) (hlR _ R.m_aw))
  · have e : R.fix ++ (R.held.map (·.2) ++ (R.wait ++ [(⟨l, R.free - z.cps.size, z.cps.size⟩ : Pl)])).map (·.a) = R.adr ++ [l] := by simp [Rm.adr, Rm.pls]
    exact e ▸ nodup_snoc x.sep fun q => Nat.lt_irrefl _ (hlR _ q)

theorem keep_waiting_c {nm : Str} {t : Tok} {wt : List Pl} {pl : Pl} (c : Ctx 2 w A H s) (x : RoomW w H s.heap R) (hk : R.held.length < 1000) (hwt : R.wait = wt ++ [pl]) (hw1 : R.wait.length < 1000)
    (hQ : ∀ h' tk, Kept [R.aw, R.ah] s.heap h' → RoomW w H h' { R with held := storedP R.held nm pl, wait := wt } → Q .none { s with heap := h', toks := tk }) :
    wpAny (model PR w) A (call (.ref 162) [.ref R.r, .str nm t]) Q E s := by
  refine' enter c ?k6 ?k7 ?k9 ?kB ?_ ?c5 ?c2 ?c3 ?c4
  ktr_unf
  intro hh1 tk b
  have hL : s.heap.objs.size ∉ R.adr := fun q => Nat.lt_irrefl _ (x.at_.lt _ q)
  have x1 := x.kept b.kp (by simp)
  have ap := Rm.apart x.sep
  have bm := b.mono (S' := [R.aw, R.ah]) (by simp)
  obtain ⟨e, hw⟩ := x1.at_.wait
  obtain ⟨ep, o, es, ho, hr⟩ := x1.at_.held
  have hD : o.IsDictOf (strKind PR w) (heldOf R.held) := ⟨es, ep, hr⟩
  have hkeys := DictOf.keys ⟨o, es, ho, hr⟩
  rw [hwt, show waitOf (wt ++ [pl]) = waitOf wt ++ [Value.ref pl.a] by simp [waitOf]] at hw
  refine seg_k (bm.seg [(R.aw, listOf (waitOf wt ++ [Value.ref pl.a]).toArray e), (R.ah, o)] c (by
    intro q hq
    rcases List.mem_cons.mp hq with rfl | hq
    · exact ⟨hw, x.none _ R.m_aw, fun q => hL (q ▸ R.m_aw)⟩
    · rw [List.mem_singleton.mp hq]; exact ⟨ho, x.none _ R.m_ah, fun q => hL (q ▸ R.m_ah)⟩)) fun g rest p loose mean mg mb G F' N' T' => ?_
  simp only [List.cons_append, List.nil_append] at N'
  have X' := G.X
  have I := G.old _ _ (fun q => hL (q ▸ R.m_r)) (by simp; exact ⟨ap.r_aw, ap.r_ah⟩) x1.at_.inst
  refine x1.at_.dictK fun k t0 t1 t2 t3 t4 nd hd => ?_
  have D := G.old _ _ (fun q => hL (q ▸ R.m_dx)) (by simp; exact ⟨ap.dx_aw, ap.dx_ah⟩) hd
  have off : ∀ p ∈ rest, p.1 ≠ R.aw ∧ p.1 ≠ R.ah := fun p hp => by simpa using G.off p hp
  try dsimp only
  k_steps
  rename Fr _ _ _ _ => F1
  rename News _ _ _ _ => N1
  have hwl : (waitOf wt).length + 1 = R.wait.length := by rw [hwt]; simp [waitOf]
  refine kl_pop F1 N1 (p := waitOf wt) (y := Value.ref pl.a) (kl_last_snoc _ _) (Upd.head (List.forall_mem_cons.mpr ⟨ap.ah_aw, fun p hp => (off p hp).1⟩)) ?_ fun h3 F3 N3 => ?_
  · show (waitOf wt ++ [Value.ref pl.a]).length ≤ _
    rw [List.length_append, sizeLine_eq, List.length_singleton]; omega
  clear F1 N1
  k_steps
  rename Fr _ _ _ _ => F1
  rename News _ _ _ _ => N1
  refine setItem_led F1 (News.swap N1) (Heap.dictOf_iff.mpr ⟨o, (N1 _ (.tail _ (.head _))).1, hD⟩) (List.forall_mem_cons.mpr ⟨Ne.symm ap.ah_aw, fun p hp => (off p hp).2⟩) (by rw [heldOf, List.length_map, sizeLine_eq]; omega) fun h6 o' F3 N3 D3 => ?_
  clear F1 N1
  k_steps
  rw [← heldOf_stored _ _ pl] at D3
  have ba := bm.after G F3 N3 (by ktr_rel) (by simp)
  have hst : ∀ a, a ≠ R.aw → a ≠ R.ah → a ≠ s.heap.objs.size → ∀ o, hh1.get? a = some o → h6.get? a = some o := fun a h1 h3 h2 o e => G.stay F3 N3 (by ktr_rel) a o h2 (by simp; exact ⟨h1, h3⟩) e
  have sub : ∀ p ∈ (storedP R.held nm pl).map (·.2) ++ wt, p ∈ R.pls := fun p hp => by
    rw [Rm.pls, hwt]
    rcases List.mem_append.mp hp with hp | hp
    · obtain ⟨y, hy, rfl⟩ := List.mem_map.mp hp
      rcases mem_stored hy with hy | rfl
      · exact List.mem_append_left _ (List.mem_map_of_mem hy)
      · exact List.mem_append_right _ (List.mem_append_right _ (by simp))
    · exact List.mem_append_right _ (List.mem_append_left _ hp)
  have e2 : R.adr = (R.fix ++ (R.held.map (·.2) ++ wt).map (·.a)) ++ [pl.a] := by rw [Rm.adr, Rm.pls, hwt]; simp
  have hnd := x.sep
  rw [e2] at hnd
  obtain ⟨n1, _, n3⟩ := List.nodup_append.mp hnd
  refine hQ _ _ ba.kp (x1.setPls (e := e + 1) (fun a ha h1 h2 => hst a h2 h1 (fun q => hL (by rw [← q]; exact List.mem_append_left _ ha))) D3 (N3 _ (.tail _ (.head _))).1 (fun p hp => ?_) (fun p hp => x.new _ (Rm.m_pl (sub p hp))) ?_)
  · have hm := sub p hp
    exact (x1.at_.pls p hm).stay (hst _ (ap.pl _ hm).2.2.2.2 (ap.pl _ hm).2.2.2.1 (fun q => hL (q ▸ Rm.m_pl hm)))
  · exact stored_apart hkeys n1 fun q => n3 _ q _ (by simp) rfl
end
end Mine
end
section
namespace Mine
section
variable {w : World} {A : Around} {s : Shared} {H : Heap} {Q E : Value → Shared → Prop} {R : Rm}

theorem pop_waiting_c {wt : List Pl} {pl : Pl} (c : Ctx 3 w A H s) (x : RoomW w H s.heap R) (hwt : R.wait = wt ++ [pl]) (hw1 : R.wait.length < 1000) (ho : OctOk R.ns) (hp : PlOk R.ns pl) (h0 : 0 < pl.len) (h1 : pl.lo = R.free)
    (hQ : ∀ h' tk tk', Kept [R.aw, R.dx] s.heap h' → RoomW w H h' { R with free := R.free + pl.len, wait := wt } → Q (.str (txtOf (cutOf R.ns pl)) tk') { s with heap := h', toks := tk }) :
    wpAny (model PR w) A (call (.ref 148) [.ref R.r]) Q E s := by
  refine' enter c ?k6 ?k7 ?k9 ?kB ?_ ?c5 ?c2 ?c3 ?c4
  ktr_unf
  intro hh1 tk b
  have hL : s.heap.objs.size ∉ R.adr := fun q => Nat.lt_irrefl _ (x.at_.lt _ q)
  have x1 := x.kept b.kp (by simp)
  have ap := Rm.apart x.sep
  have bm := b.mono (S' := [R.aw, R.dx]) (by simp)
  obtain ⟨e, hw⟩ := x1.at_.wait
  rw [hwt, show waitOf (wt ++ [pl]) = waitOf wt ++ [Value.ref pl.a] by simp [waitOf]] at hw
  have hwl : (waitOf wt).length + 1 = R.wait.length := by rw [hwt]; simp [waitOf]
  refine x1.at_.dictK fun k t0 t1 t2 t3 t4 nd hd => ?_
  have hpm : pl ∈ R.pls := by rw [Rm.pls, hwt]; simp
  refine seg_k (bm.seg [(R.aw, listOf (waitOf wt ++ [Value.ref pl.a]).toArray e), (R.dx, dictOf (roomD w.params k (.int R.size t0) (.int R.low t1) (.int R.free t2) (.int R.mw t3) (.int R.col t4) R.ao R.ah R.aw) nd)] c (by
    intro q hq
    rcases List.mem_cons.mp hq with rfl | hq
    · exact ⟨hw, x.none _ R.m_aw, fun q => hL (q ▸ R.m_aw)⟩
    · rw [List.mem_singleton.mp hq]; exact ⟨hd, x.none _ R.m_dx, fun q => hL (q ▸ R.m_dx)⟩)) fun g rest p loose mean mg mb G F' N' T' => ?_
  simp only [List.cons_append, List.nil_append] at N'
  have X' := G.X
  have I := G.old _ _ (fun q => hL (q ▸ R.m_r)) (by simp; exact ⟨ap.r_aw, ap.r_dx⟩) x1.at_.inst
  have off : ∀ p ∈ rest, p.1 ≠ R.aw ∧ p.1 ≠ R.dx := fun p hp => by simpa using G.off p hp
  obtain ⟨u0, u1, e0, hpl⟩ := x1.at_.pls pl hpm
  have P := G.old _ _ (fun q => hL (q ▸ Rm.m_pl hpm)) (by simp; exact ⟨(ap.pl _ hpm).2.2.2.2, (ap.pl _ hpm).2.1⟩) hpl
  have hst0 : ∀ h' m' news, Fr g s.heap.objs.size h' m' → News g s.heap.objs.size h' news → (∀ p ∈ rest, p ∈ news) → ∀ a, a ≠ R.aw → a ≠ R.dx → a ≠ s.heap.objs.size → ∀ o, hh1.get? a = some o → h'.get? a = some o :=
    fun h' m' news F N sub a h1 h3 h2 o e => G.stay F N sub a o h2 (by simp; exact ⟨h1, h3⟩) e
  try dsimp only
  k_steps
  rename Fr _ _ _ _ => F1
  rename News _ _ _ _ => N1
  refine kl_pop F1 N1 (p := waitOf wt) (y := Value.ref pl.a) (kl_last_snoc _ _) (Upd.head (List.forall_mem_cons.mpr ⟨ap.dx_aw, fun p hp => (off p hp).1⟩)) ?_ fun h3 F3 N3 => ?_
  · show (waitOf wt ++ [Value.ref pl.a]).length ≤ _
    rw [List.length_append, sizeLine_eq, List.length_singleton]; omega
  clear F1 N1
  have e2 : R.adr = (R.fix ++ (R.held.map (·.2) ++ wt).map (·.a)) ++ [pl.a] := by rw [Rm.adr, Rm.pls, hwt]; simp
  have hnd := x.sep
  rw [e2] at hnd
  obtain ⟨n1, _, n3⟩ := List.nodup_append.mp hnd
  have sub : ∀ p ∈ R.held.map (·.2) ++ wt, p ∈ R.pls := fun p hp => by
    rw [Rm.pls, hwt]
    rcases List.mem_append.mp hp with hp | hp
    · exact List.mem_append_left _ hp
    · exact List.mem_append_right _ (List.mem_append_left _ hp)
  have xw : ∀ h' m' news, Fr g s.heap.objs.size h' m' → News g s.heap.objs.size h' news → (∀ p ∈ rest, p ∈ news) → (R.aw, listOf (waitOf wt).toArray (e + 1)) ∈ news → (R.dx, dictOf (roomD w.params k (.int R.size t0) (.int R.low t1) (.int R.free t2) (.int R.mw t3) (.int R.col t4) R.ao R.ah R.aw) nd) ∈ news →
      RoomW w H h' { R with wait := wt } := by
    intro h' m' news F N sb ma md
    refine x1.setWait (e := e + 1) (fun a ha h1 o ho => ?_) (N _ ma).1 (fun p hp => ?_) (fun p hp => x.new _ (Rm.m_pl (sub p hp))) n1
    · by_cases hq : a = R.dx
      · subst hq; rw [hd] at ho; cases ho; exact (N _ md).1
      · exact hst0 h' m' news F N sb a h1 hq (fun q => hL (by rw [← q]; exact List.mem_append_left _ ha)) o ho
    · have hm := sub p hp
      exact (x1.at_.pls p hm).stay (hst0 h' m' news F N sb _ (ap.pl _ hm).2.2.2.2 (ap.pl _ hm).2.1 (fun q => hL (q ▸ Rm.m_pl hm)))
  k_steps
  rename Fr _ _ _ _ => F1
  rename News _ _ _ _ => N1
  have ba := bm.after G F1 N1 (by ktr_rel) (by simp)
  refine text_at_c (pl := pl) (R := { R with wait := wt }) ((c.deeper _ ba.st).le (by decide)) (xw _ _ _ F1 N1 (by ktr_rel) (.head _) (.tail _ (.head _))) ⟨u0, u1, e0, P.now F1 N1 (by ktr_rel)⟩ ho hp fun h2 tk2 tk3 kp2 => ?_
  obtain ⟨F2, N2⟩ := after0 F1 N1 kp2
  clear F1 N1 kp2 ba
  obtain ⟨pa, plo, pln⟩ := pl
  dsimp only at *
  subst h1
  k_steps
  rotate_left
  · exact absurd rfl (by assumption)
  rename Fr _ _ _ _ => F1
  rename News _ _ _ _ => N1
  have xb := xw _ _ _ F1 N1 (by ktr_rel) (.head _) (.tail _ (.head _))
  have I2 := I.now F1 N1 (by ktr_rel)
  refine set_free F1 X' (News.swap N1) I2 (List.forall_mem_cons.mpr ⟨Ne.symm ap.dx_aw, fun p hp => (off p hp).2⟩) fun h3 F3 N3 => ?_
  have x3 : RoomW w H h3 { R with free := R.free + pln, wait := wt } := by
    refine xb.setDict (k' := k) (free := R.free + pln) (col := R.col) (fun a ha hne o ho => ?_) (N3 _ (.head _)).1
    by_cases hq : a = R.aw
    · subst hq; rw [(N1 _ (.head _)).1] at ho; cases ho; exact (N3 _ (.tail _ (.head _))).1
    · have hne2 : a ≠ s.heap.objs.size := fun q => hL (q ▸ by rw [e2]; exact List.mem_append_left _ ha)
      obtain ⟨o', ho'⟩ := x1.at_.has a (by rw [e2]; exact List.mem_append_left _ ha)
      have h5 := hst0 _ _ _ F1 N1 (by ktr_rel) a hq hne hne2 o' ho'
      rw [h5] at ho; cases ho
      exact hst0 _ _ _ F3 N3 (by ktr_rel) a hq hne hne2 _ ho'
  clear F1 N1
  k_steps
  try dsimp only
  rename Fr _ _ _ _ => F1
  rename News _ _ _ _ => N1
  have ba := bm.after G F1 N1 (by ktr_rel) (by simp)
  exact hQ _ _ _ ba.kp x3

theorem codes_txt : ∀ {ms : List Int}, (∀ n ∈ ms, 0 ≤ n ∧ n < 128) → codesOf (txtOf ms) = ms
  | [], _ => rfl
  | n :: r, h => by
    have ih := codes_txt (ms := r) fun m hm => h m (.tail _ hm)
    have h0 := (h n (.head _)).1
    show ((n.toNat : Nat) : Int) :: codesOf (txtOf r) = _
    rw [ih, Int.toNat_of_nonneg h0]
theorem txt_ascii {ms : List Int} (h : ∀ n ∈ ms, 0 ≤ n ∧ n < 128) : (txtOf ms).cps.all (· < 128) = true := by
  show ((ms.map Int.toNat).toArray).all _ = true
  rw [List.all_toArray, List.all_eq_true]
  intro c hc
  obtain ⟨n, hn, rfl⟩ := List.mem_map.mp hc
  have := h n hn
  simp; omega
theorem txt_size (ms : List Int) : (txtOf ms).cps.size = ms.length := by simp [txtOf]
theorem txt_append (a b : List Int) : txtOf a ++ txtOf b = txtOf (a ++ b) := by
  show Str.append _ _ = _
  simp [Str.append, txtOf]
theorem cut_bd {ns : List Int} {p : Pl} (h : OctOk ns) : ∀ n ∈ cutOf ns p, 0 ≤ n ∧ n < 128 := fun n hn => h.low n (List.mem_of_mem_drop (List.mem_of_mem_take hn))
theorem cut_len {ns : List Int} {p : Pl} (h : PlOk ns p) : ((cutOf ns p).length : Int) = p.len := by
  have := h.lo; have := h.len; have := h.hi
  unfold cutOf
  rw [List.length_take, List.length_drop]; omega

theorem sub_neg {value slice : PySem.Expr} {l : Addr} {its : Array Value} {k : Int} {u : Tok} {v : Value} (hl : s.heap.IsList l its) (h0 : k < 0) (h1 : -(its.size : Int) ≤ k) (hhi : -(2 ^ 63) ≤ k) (hx : its.toList[(k + its.size).toNat]? = some v) (h : Q v s)
    (hs : subscripted slice false (.ref l) (.int k u) = operate [.ref l, .int k u] (getItem (.ref l) (.int k u))) :
    wpAny (model PR w) A (subscriptTail value slice (.ref l) (.int k u)) Q E s :=
  tail_any hl.typeIs slot_list_getitem.lookup (wpAny_getItem_list_neg hl h0 h1 hhi (by simpa using hx) h) hs
end
end Mine
end
section
namespace Mine
section
variable {w : World} {A : Around} {s : Shared} {H : Heap} {Q E : Value → Shared → Prop} {R : Rm}

theorem wpAny_setItem_list_slice {l l2 sl : Addr} {xs new : List Value} {nn n2 : Nat} {k : Int} {u : Tok} {Q : Unit → Shared → Prop} (hl : s.heap.get? l = some (listOf xs.toArray nn)) (h2 : s.heap.get? l2 = some (listOf new.toArray n2)) (hne : l ≠ l2)
    (hs : s.heap.IsSliceOf sl (.int k u) .none .none) (h0 : k < 0) (h1 : -(xs.length : Int) ≤ k) (hz : xs.length + new.length ≤ 1000)
    (hQ : Q () { s with heap := s.heap.update l (Obj.mapSeq fun xs' => xs'.extract 0 (k + xs.length).toNat ++ new.toArray ++ xs'.extract (max (k + (xs.length : Int)) (xs.length : Int)).toNat) }) :
    wpAny (model PR w) A (setItem (.ref l) (.ref sl) (.ref l2)) Q E s := by
  obtain ⟨os, hos, hcs, hds⟩ := id hs
  have hl' : s.heap.IsList l xs.toArray := ⟨_, hl, rfl, nn, rfl⟩
  have hTs : s.TypeIs (.ref sl) "slice" := ⟨os, hos, hcs⟩
  have hT2 : s.TypeIs (.ref l2) "list" := ⟨_, h2, rfl⟩
  have hsz : xs.toArray.size ≤ sizeLine := by rw [List.size_toArray, sizeLine_eq]; omega
  unfold setItem
  try with_reducible refine wpAny_holding ?_
  first | refine wpAny_bind (wpAny_pure ?_) | skip
  refine wpAny_bind (wpAny_sequenceKey hl'.typeIs (by decide) ?_)
  refine wpAny_bind (wpAny_callSpecial?_slot (name := Str.ofString "__setitem__") hl'.typeIs slot_list_setitem
    (wpAny_call_entry slot_list_setitem hl'.typeIs entry_list_setitem ?_ (args_list_setitem _ _ _)))
  show wpAny _ _ (Builtin.List.listSubscript? (.ref sl) >>= _) _ _ s
  refine wpAny_bind ?_
  unfold Builtin.List.listSubscript?
  refine wpAny_bind (wpAny_specialOf hTs slice_no_index ?_)
  simp only [Option.isNone_none, if_true]
  refine wpAny_pure ?_
  show wpAny _ _ (typeOf (.ref sl) >>= _) _ _ s
  refine wpAny_bind (wpAny_typeOf hTs ?_)
  rw [if_neg (by decide)]
  rw [listSliceParts_eq]
  refine wpAny_bind (wpAny_bind (wpAny_field hos hds (x := .none) rfl (wpAny_bind (wpAny_listPart .none ?_))))
  rw [if_neg (show ¬ ((rawPart none == rawInt 0) = true) from Bool.false_ne_true)]
  refine wpAny_bind (wpAny_field hos hds (x := .int k u) rfl (wpAny_bind (wpAny_listPart (.int k u) ?_)))
  refine wpAny_bind (wpAny_field hos hds (x := .none) rfl (wpAny_bind (wpAny_listPart .none (wpAny_pure ?_))))
  dsimp only
  have hsr : Builtin.List.listSameRef (.ref l) (.ref l2) = false := by
    show (l == l2) = false
    exact beq_eq_false_iff_ne.mpr hne
  rw [if_neg (by rw [hsr]; exact Bool.false_ne_true)]
  refine wpAny_bind (m := Builtin.List.listAllItems _ _) ?_
  unfold Builtin.List.listAllItems
  refine wpAny_bind (wpAny_typeOf hT2 ?_)
  rw [if_pos (by rfl)]
  refine wpAny_bind (wpAny_seqItems h2 rfl (wpAny_pure ?_))
  refine wpAny_bind (listItems_at hl rfl ?_)
  refine wpAny_bind (wpAny_of_eq (sliceIndices_raw (some k) none none xs.toArray.size (by simp)) ?_)
  have e : sliceBounds (some k) none none xs.toArray.size = (k + (xs.length : Int), (xs.length : Int), 1) := by
    simp only [sliceBounds, Option.getD_none, h0, if_true, show (1 : Int) > 0 by decide, List.size_toArray]
    have : max 0 (min (k + (xs.length : Int)) xs.length) = k + xs.length := by omega
    rw [this]
  rw [e]
  dsimp only
  rw [if_pos (by decide)]
  refine wpAny_bind (wpAny_rule ?_)
  rw [if_neg (by simp only [Builtin.List.listTooLong, List.size_toArray, decide_eq_true_eq]; rw [sizeLine_eq]; omega)]
  refine wpAny_bind (listUpdate_at hl rfl ?_ hsz ?_)
  · refine wpAny_bind (wpAny_letGo ?_)
    exact wpAny_bind (wpAny_pure (wpAny_pure ⟨.none, rfl, wpAny_pure (by simpa using hQ)⟩))
  · simp only [Array.size_append, Array.size_extract, List.size_toArray]
    rw [sizeLine_eq]; omega

theorem at_end2 {xs : List Value} {a b : Value} : (xs ++ [a, b])[xs.length + 1]? = some b ∧ (xs ++ [a, b])[xs.length]? = some a := by
  constructor
  · rw [List.getElem?_append_right (by omega)]; simp
  · rw [List.getElem?_append_right (by omega)]; simp

theorem slice_led {g h : Heap} {L l l1 l2 : Addr} {m : Str → Option Value} {o1 : Obj} {ws new : List Value} {a b : Value} {e n2 : Nat} {rest : List (Addr × Obj)} {u : Tok} {Q : Unit → Shared → Prop} (F : Fr g L h m)
    (N : News g L h ((l2, listOf new.toArray n2) :: (l1, o1) :: (l, listOf (ws ++ [a, b]).toArray e) :: rest)) (off : ∀ p ∈ rest, p.1 ≠ l) (h1 : l1 ≠ l) (h2 : l2 ≠ l) (hz : (ws ++ [a, b]).length + new.length ≤ 1000)
    (hQ : ∀ h' e', Fr g L h' m → News g L h' ((l, listOf (ws ++ new).toArray e') :: (l2, listOf new.toArray n2) :: (l1, o1) :: rest) → Q () { s with heap := h' }) :
    wpAny (model PR w) A (setItem (.ref l) (.ref h.objs.size) (.ref l2)) Q E { s with heap := h.push { cls := .type "slice", data := .fields #[.int (-2) u, .none, .none] } } := by
  have hl := N _ (.tail _ (.tail _ (.head _)))
  have F2 := F.push { cls := .type "slice", data := .fields #[.int (-2) u, .none, .none] }
  have hgl := Heap.get?_push_of_some { cls := .type "slice", data := .fields #[.int (-2) u, .none, .none] } hl.1
  refine wpAny_setItem_list_slice hgl (Heap.get?_push_of_some _ (N _ (.head _)).1) (Ne.symm h2) (Heap.IsSliceOf.new ..) (by decide) (by rw [List.length_append]; show -(((ws.length + 2 : Nat)) : Int) ≤ -2; omega) hz ?_
  have sb := Heap.SameBut.update (h.push { cls := .type "slice", data := .fields #[.int (-2) u, .none, .none] }) l (Obj.mapSeq fun xs' => xs'.extract 0 (-2 + ((ws ++ [a, b]).length : Int)).toNat ++ new.toArray ++ xs'.extract (max (-2 + ((ws ++ [a, b]).length : Int)) ((ws ++ [a, b]).length : Int)).toNat)
  have hfin := Heap.get?_update_self (Obj.mapSeq fun xs' => xs'.extract 0 (-2 + ((ws ++ [a, b]).length : Int)).toNat ++ new.toArray ++ xs'.extract (max (-2 + ((ws ++ [a, b]).length : Int)) ((ws ++ [a, b]).length : Int)).toNat) hgl rfl
  have ev : ∃ e', Obj.mapSeq (fun xs' => xs'.extract 0 (-2 + ((ws ++ [a, b]).length : Int)).toNat ++ new.toArray ++ xs'.extract (max (-2 + ((ws ++ [a, b]).length : Int)) ((ws ++ [a, b]).length : Int)).toNat) (W.listOf (ws ++ [a, b]).toArray e) = W.listOf (ws ++ new).toArray e' := by
    have e1 : (-2 + ((ws ++ [a, b]).length : Int)).toNat = ws.length := by simp; omega
    have e2 : (max (-2 + ((ws ++ [a, b]).length : Int)) ((ws ++ [a, b]).length : Int)).toNat = ws.length + 2 := by simp; omega
    rw [e1, e2]
    have e3 : (ws ++ [a, b]).toArray.extract 0 ws.length ++ new.toArray ++ (ws ++ [a, b]).toArray.extract (ws.length + 2) = (ws ++ new).toArray := by simp
    refine ⟨if (ws ++ new).toArray.size == (ws ++ [a, b]).toArray.size then e else e + 1, ?_⟩
    unfold W.listOf Obj.mapSeq
    dsimp only
    rw [e3]
  obtain ⟨e', ev⟩ := ev
  rw [ev] at hfin
  refine hQ _ e' ⟨F2.ns.sameBut sb (Ne.symm hl.2.1), fun b o q => sb.extBut b o (fun z => by rw [z, hl.2.2] at q; cases q) (F2.keep b o q), F2.above⟩ fun p hp => ?_
  have oth : ∀ p ∈ (l2, listOf new.toArray n2) :: (l1, o1) :: rest, p.1 ≠ l := by
    intro p hp
    rcases List.mem_cons.mp hp with rfl | hp
    · exact h2
    · rcases List.mem_cons.mp hp with rfl | hp
      · exact h1
      · exact off p hp
  rcases List.mem_cons.mp hp with rfl | hp
  · exact ⟨hfin, hl.2⟩
  · have hm : p ∈ (l2, listOf new.toArray n2) :: (l1, o1) :: (l, listOf (ws ++ [a, b]).toArray e) :: rest := by
      rcases List.mem_cons.mp hp with rfl | hp
      · exact .head _
      · rcases List.mem_cons.mp hp with rfl | hp
        · exact .tail _ (.head _)
        · exact .tail _ (.tail _ (.tail _ hp))
    have := N p hm
    exact ⟨sb.extBut _ _ (oth p hp) (Heap.get?_push_of_some _ this.1), this.2⟩
end
end Mine
end
section
namespace Mine
section
variable {w : World} {A : Around} {s : Shared} {H : Heap} {Q E : Value → Shared → Prop} {R : Rm}

theorem join_waiting_c {wt : List Pl} {p1 p2 : Pl} (c : Ctx 4 w A H s) (x : RoomW w H s.heap R) (hwt : R.wait = wt ++ [p1, p2]) (hw1 : R.wait.length < 1000) (ho : OctOk R.ns) (hp1 : PlOk R.ns p1) (hp2 : PlOk R.ns p2)
    (hlen : p1.len + p2.len ≤ 255) (h0 : 0 ≤ R.low) (h2 : R.low + (p1.len + p2.len) ≤ R.free) (h3 : R.free ≤ R.ns.length)
    (hQ : ∀ h' tk l, Kept [R.dx, R.ao, R.aw] s.heap h' → s.heap.objs.size ≤ l →
      RoomW w H h' { R with free := R.free - (p1.len + p2.len), ns := put R.ns (R.free - (p1.len + p2.len)).toNat (cutOf R.ns p1 ++ cutOf R.ns p2), wait := wt ++ [⟨l, R.free - (p1.len + p2.len), p1.len + p2.len⟩] } →
      Q .none { s with heap := h', toks := tk }) :
    wpAny (model PR w) A (call (.ref 155) [.ref R.r]) Q E s := by
  refine' enter c ?k6 ?k7 ?k9 ?kB ?_ ?c5 ?c2 ?c3 ?c4
  ktr_unf
  intro hh1 tk b
  have hL : s.heap.objs.size ∉ R.adr := fun q => Nat.lt_irrefl _ (x.at_.lt _ q)
  have x1 := x.kept b.kp (by simp)
  have ap := Rm.apart x.sep
  have bm := b.mono (S' := [R.dx, R.ao, R.aw]) (by simp)
  obtain ⟨e, hw⟩ := x1.at_.wait
  have hwo : waitOf R.wait = waitOf wt ++ [Value.ref p1.a, Value.ref p2.a] := by rw [hwt]; simp [waitOf]
  have hwl : (waitOf wt).length + 2 = R.wait.length := by rw [hwt]; simp [waitOf]
  refine x1.at_.dictK fun k t0 t1 t2 t3 t4 nd hd => ?_
  have hm1 : p1 ∈ R.pls := by rw [Rm.pls, hwt]; simp
  have hm2 : p2 ∈ R.pls := by rw [Rm.pls, hwt]; simp
  rw [hwo] at hw
  refine bm.seg0 c fun g rest p loose mean mg mb G F' N' T' X' => ?_
  have I := G.old _ _ (fun q => hL (q ▸ R.m_r)) (by simp) x1.at_.inst
  have D := G.old _ _ (fun q => hL (q ▸ R.m_dx)) (by simp) hd
  have W := G.old _ _ (fun q => hL (q ▸ R.m_aw)) (by simp) hw
  obtain ⟨u0, u1, e0, hq1⟩ := x1.at_.pls p1 hm1
  obtain ⟨v0, v1, f0, hq2⟩ := x1.at_.pls p2 hm2
  have P1 := G.old _ _ (fun q => hL (q ▸ Rm.m_pl hm1)) (by simp) hq1
  have P2 := G.old _ _ (fun q => hL (q ▸ Rm.m_pl hm2)) (by simp) hq2
  have hh : A.handled = none := c.ok.hd
  try dsimp only
  k_steps
  rename Fr _ _ _ _ => F1
  rename News _ _ _ _ => N1
  refine sub_neg (list_k F1 N1 W (by ktr_rel)) (v := Value.ref p2.a) (by omega) ?_ (by omega) ?_ ?_ (by with_unfolding_all rfl)
  · simp; omega
  · rw [List.size_toArray, List.length_append, show ((-1 : Int) + ((waitOf wt).length + [Value.ref p1.a, Value.ref p2.a].length : Nat)).toNat = (waitOf wt).length + 1 by simp; omega]
    exact at_end2.1
  k_steps
  rename Fr _ _ _ _ => F1
  rename News _ _ _ _ => N1
  refine sub_neg (list_k F1 N1 W (by ktr_rel)) (v := Value.ref p1.a) (by omega) ?_ (by omega) ?_ ?_ (by with_unfolding_all rfl)
  · simp; omega
  · rw [List.size_toArray, List.length_append, show ((-2 : Int) + ((waitOf wt).length + [Value.ref p1.a, Value.ref p2.a].length : Nat)).toNat = (waitOf wt).length by simp; omega]
    exact at_end2.2
  k_steps
  rename Fr _ _ _ _ => F1
  rename News _ _ _ _ => N1
  have ba := bm.after G F1 N1 (by ktr_rel) (by simp)
  have xa := x1.seg G F1 N1 (by ktr_rel) hL (by simp)
  refine allocate_c ((c.deeper _ ba.st).le (by decide)) xa (by have := hp1.len; have := hp2.len; omega) hlen h2 fun h3' tk3 tk3' kp3 xb => ?_
  have b3 := ba.call kp3 (by
    intro a ha
    rw [List.mem_singleton.mp ha]
    exact ⟨.inl (by simp), fun q => hL (q ▸ R.m_dx), x.none _ R.m_dx⟩)
  clear I D W P1 P2 F1 N1 T' X' G ba
  obtain ⟨e, hw⟩ := xb.at_.wait
  refine xb.at_.dictK fun k t0 t1 t2 t3 t4 nd hd => ?_
  dsimp only at hw hd
  rw [hwo] at hw
  obtain ⟨u0, u1, e0, hq1⟩ := xb.at_.pls p1 hm1
  obtain ⟨v0, v1, f0, hq2⟩ := xb.at_.pls p2 hm2
  refine seg_k (b3.seg [(R.aw, listOf (waitOf wt ++ [Value.ref p1.a, Value.ref p2.a]).toArray e)] c (by
    intro q hq
    rw [List.mem_singleton.mp hq]
    exact ⟨hw, x.none _ R.m_aw, fun q => hL (q ▸ R.m_aw)⟩)) fun g rest p loose mean mg mb G F' N' T' => ?_
  rw [List.singleton_append] at N'
  have X' := G.X
  have I := G.old _ _ (fun q => hL (q ▸ R.m_r)) (by simp; exact ap.r_aw) xb.at_.inst
  have D := G.old _ _ (fun q => hL (q ▸ R.m_dx)) (by simp; exact ap.dx_aw) hd
  have P1 := G.old _ _ (fun q => hL (q ▸ Rm.m_pl hm1)) (by simp; exact (ap.pl _ hm1).2.2.2.2) hq1
  have P2 := G.old _ _ (fun q => hL (q ▸ Rm.m_pl hm2)) (by simp; exact (ap.pl _ hm2).2.2.2.2) hq2
  have off : ∀ p ∈ rest, p.1 ≠ R.aw := fun p hp => by simpa using G.off p hp
  k_steps
  rename Fr _ _ _ _ => F1
  rename News _ _ _ _ => N1
  have ba := b3.after G F1 N1 (by ktr_rel) (by simp)
  have sz1 : (txtOf (cutOf R.ns p1)).cps.size ≤ 255 := by rw [txt_size]; have := cut_len hp1; have := hp2.len; omega
  have sz2 : (txtOf (cutOf R.ns p2)).cps.size ≤ 255 := by rw [txt_size]; have := cut_len hp2; have := hp1.len; omega
  have hM3 : ∀ q ∈ [(R.aw, listOf (waitOf wt ++ [Value.ref p1.a, Value.ref p2.a]).toArray e)], h3'.get? q.1 = some q.2 := by
    intro q hq; rw [List.mem_singleton.mp hq]; exact hw
  refine text_at_c (pl := p1) (R := { R with free := R.free - (p1.len + p2.len) }) ((c.deeper _ ba.st).le (by decide)) (xb.same G F1 N1 (by ktr_rel) (by intro q hq; rw [List.mem_singleton.mp hq]; k_mem) hM3 hL) ⟨u0, u1, e0, P1.now F1 N1 (by ktr_rel)⟩ ho hp1 fun h4 tk4 tk4' kp4 => ?_
  obtain ⟨F2, N2⟩ := after0 F1 N1 kp4
  clear F1 N1 kp4 ba
  k_steps
  rename Fr _ _ _ _ => F1
  rename News _ _ _ _ => N1
  have ba := b3.after G F1 N1 (by ktr_rel) (by simp)
  refine text_at_c (pl := p2) (R := { R with free := R.free - (p1.len + p2.len) }) ((c.deeper _ ba.st).le (by decide)) (xb.same G F1 N1 (by ktr_rel) (by intro q hq; rw [List.mem_singleton.mp hq]; k_mem) hM3 hL) ⟨v0, v1, f0, P2.now F1 N1 (by ktr_rel)⟩ ho hp2 fun h5 tk5 tk5' kp5 => ?_
  obtain ⟨F2, N2⟩ := after0 F1 N1 kp5
  clear F1 N1 kp5 ba
  k_steps
  rename Fr _ _ _ _ => F1
  rename News _ _ _ _ => N1
  have ba := b3.after G F1 N1 (by ktr_rel) (by simp)
  have hbd : ∀ n ∈ cutOf R.ns p1 ++ cutOf R.ns p2, 0 ≤ n ∧ n < 128 := fun n hn => (List.mem_append.mp hn).elim (cut_bd ho n) (cut_bd ho n)
  have hcl : ((cutOf R.ns p1 ++ cutOf R.ns p2).length : Int) = p1.len + p2.len := by rw [List.length_append]; have := cut_len hp1; have := cut_len hp2; omega
  rw [txt_append]
  refine octets_of_c ((c.deeper _ ba.st).le (by decide)) (txt_ascii hbd) (by rw [txt_size]; omega) fun h6 tk6 D2 ys e2 kp hD hDy hys => ?_
  rw [codes_txt hbd] at hys
  have xD := xb.same G F1 N1 (by ktr_rel) (by intro q hq; rw [List.mem_singleton.mp hq]; k_mem) hM3 hL
  have x6 := xD.stay kp.stays
  obtain ⟨F2, N2⟩ := after0 F1 N1 kp
  have ba6 := b3.after G F2 N2 (by ktr_rel) (by simp)
  clear F1 N1
  k_steps
  rename Fr _ _ _ _ => F1
  rename News _ _ _ _ => N1
  refine write_octets_c (R := { R with free := R.free - (p1.len + p2.len) }) ((c.deeper _ ba6.st).le (by decide)) x6 hDy hys (Nat.ne_of_gt (Nat.lt_of_lt_of_le (xD.at_.lt _ R.m_ao) hD)) ho.few ?_ ?_ fun h7 tk7 kp7 x7 => ?_
  · omega
  · dsimp only; omega
  dsimp only at x7
  have b7 := ba6.call kp7 (by intro a ha; rw [List.mem_singleton.mp ha]; exact ⟨.inl (by simp), fun q => hL (q ▸ R.m_ao), x.none _ R.m_ao⟩)
  clear I D P1 P2 F1 N1 T' X' G ba xD x6 hDy hM3 ba6 kp
  obtain ⟨e, hw⟩ := x7.at_.wait
  refine x7.at_.dictK fun k t0 t1 t2 t3 t4 nd hd => ?_
  dsimp only at hw hd
  rw [hwo] at hw
  obtain ⟨u0, u1, e0, hq1⟩ := x7.at_.pls p1 hm1
  obtain ⟨v0, v1, f0, hq2⟩ := x7.at_.pls p2 hm2
  refine seg_k (b7.seg [(R.aw, listOf (waitOf wt ++ [Value.ref p1.a, Value.ref p2.a]).toArray e)] c (by
    intro q hq
    rw [List.mem_singleton.mp hq]
    exact ⟨hw, x.none _ R.m_aw, fun q => hL (q ▸ R.m_aw)⟩)) fun g rest p loose mean mg mb G F' N' T' => ?_
  rw [List.singleton_append] at N'
  have X' := G.X
  have I := G.old _ _ (fun q => hL (q ▸ R.m_r)) (by simp; exact ap.r_aw) x7.at_.inst
  have D := G.old _ _ (fun q => hL (q ▸ R.m_dx)) (by simp; exact ap.dx_aw) hd
  have P1 := G.old _ _ (fun q => hL (q ▸ Rm.m_pl hm1)) (by simp; exact (ap.pl _ hm1).2.2.2.2) hq1
  have P2 := G.old _ _ (fun q => hL (q ▸ Rm.m_pl hm2)) (by simp; exact (ap.pl _ hm2).2.2.2.2) hq2
  have off : ∀ p ∈ rest, p.1 ≠ R.aw := fun p hp => by simpa using G.off p hp
  k_steps
  rename Fr _ _ _ _ => F1
  rename News _ _ _ _ => N1
  refine slice_led F1 N1 off (Nat.ne_of_gt (Nat.lt_trans (x.at_.lt _ R.m_aw) ?_)) (Nat.ne_of_gt (Nat.lt_trans (x.at_.lt _ R.m_aw) ?_)) ?_ fun h9 e9 F9 N9 => ?_
  · assumption
  · assumption
  · simp; omega
  clear F1 N1
  try dsimp only
  k_steps
  try dsimp only
  have ba := b7.after G F9 N9 (by ktr_rel) (by simp)
  have hst : ∀ a, a ≠ R.aw → a ≠ s.heap.objs.size → ∀ o, h7.get? a = some o → h9.get? a = some o := fun a h1 h2 o e => G.stay F9 N9 (by ktr_rel) a o h2 (by simpa using h1) e
  have hl1 := N9 _ (.tail _ (.tail _ (.head _)))
  have sub : ∀ p ∈ R.held.map (·.2) ++ wt, p ∈ R.pls := fun p hp => by
    rw [Rm.pls, hwt]
    rcases List.mem_append.mp hp with hp | hp
    · exact List.mem_append_left _ hp
    · exact List.mem_append_right _ (List.mem_append_left _ hp)
  have hLs : s.heap.objs.size < _ := Nat.lt_of_le_of_ne (Nat.le_of_lt (by assumption)) (Ne.symm hl1.2.1)
  have hlR : ∀ a ∈ R.adr, a < _ := fun a ha => Nat.lt_trans (x.at_.lt a ha) hLs
  refine hQ _ _ _ ba.kp (Nat.le_of_lt hLs) (x7.setWait (wt := wt ++ [⟨_, R.free - (p1.len + p2.len), p1.len + p2.len⟩]) (e := e9) (fun a ha hne => hst a hne (fun q => hL (by rw [← q]; exact List.mem_append_left _ ha))) ?_ ?_ ?_ ?_)
  · have := (N9 _ (.head _)).1
    simpa [waitOf] using this
  · intro p hp
    rw [← List.append_assoc] at hp
    rcases List.mem_append.mp hp with hm | hm
    · have hm := sub p hm
      exact (x7.at_.pls p hm).stay (hst _ (ap.pl _ hm).2.2.2.2 fun q => hL (q ▸ Rm.m_pl hm))
    · rw [List.mem_singleton.mp hm]; exact ⟨_, _, _, hl1.1⟩
  · intro p hp
    rw [← List.append_assoc] at hp
    rcases List.mem_append.mp hp with hm | hm
    · exact x.new _ (Rm.m_pl (sub p hm))
    · rw [List.mem_singleton.mp hm]; exact Nat.le_of_lt (Nat.lt_of_le_of_lt (x.new _ R.m_aw) (hlR _ R.m_aw))
  · have e2 : R.adr = (R.fix ++ (R.held.map (·.2) ++ wt).map (·.a)) ++ [p1.a, p2.a] := by rw [Rm.adr, Rm.pls, hwt]; simp
    have hnd := x.sep
    rw [e2] at hnd
    obtain ⟨n1, _, n3⟩ := List.nodup_append.mp hnd
    have := nodup_snoc n1 (a := _) fun q => Nat.lt_irrefl _ (hlR _ (e2 ▸ List.mem_append_left _ q))
    simpa [Rm.fix] using this
end
end Mine
end
section
namespace Mine
theorem get_held (l : List (Str × Pl)) (k : Str) (q : Pl) : (valueAt (heldOf l) k).getD (.ref q.a) = .ref ((lookP l k).getD q).a := by
  rw [valueAt_held]
  cases lookP l k <;> rfl
theorem News.sub {g h : Heap} {L : Addr} {a b : List (Addr × Obj)} (N : News g L h a) (hs : ∀ p ∈ b, p ∈ a) : News g L h b := fun p hp => N p (hs p hp)
theorem News.three {g h : Heap} {L : Addr} {t2 t1 b a q : Addr × Obj} {rest : List (Addr × Obj)} (N : News g L h (t2 :: t1 :: b :: a :: q :: rest)) : News g L h (q :: b :: a :: rest) := News.sub N fun p hp => by
  rcases List.mem_cons.mp hp with rfl | hp
  · exact .tail _ (.tail _ (.tail _ (.tail _ (.head _))))
  · rcases List.mem_cons.mp hp with rfl | hp
    · exact .tail _ (.tail _ (.head _))
    · rcases List.mem_cons.mp hp with rfl | hp
      · exact .tail _ (.tail _ (.tail _ (.head _)))
      · exact .tail _ (.tail _ (.tail _ (.tail _ (.tail _ hp))))
theorem lookP_perm (k : Str) : ∀ l : List (Str × Pl), (l.map (·.1)).Nodup → l.Perm ((lookP l k).toList.map (fun p => (k, p)) ++ l.filter fun x => decide (x.1 ≠ k))
  | [], _ => by simp [lookP]
  | (k', q) :: r, hn => by
    rw [List.map_cons, List.nodup_cons] at hn
    by_cases hk : k' = k
    · subst hk
      have hr : ∀ x ∈ r, x.1 ≠ k' := fun x hx e => hn.1 (List.mem_map.mpr ⟨x, hx, e⟩)
      have e1 : lookP ((k', q) :: r) k' = some q := by simp [lookP]
      rw [e1, List.filter_cons_of_neg (by simp), List.filter_eq_self.mpr fun x hx => by simpa using hr x hx]
      exact List.Perm.refl _
    · have e1 : lookP ((k', q) :: r) k = lookP r k := by simp [lookP, hk]
      rw [e1, List.filter_cons_of_pos (by simpa using hk)]
      exact (List.Perm.cons _ (lookP_perm k r hn.2)).trans List.perm_middle.symm
theorem lookP_filter {k j : Str} (h : j ≠ k) (l : List (Str × Pl)) : lookP (l.filter fun x => decide (x.1 ≠ k)) j = lookP l j := by
  unfold lookP
  rw [List.find?_filter]
  congr 1
  congr 1
  funext x
  by_cases hx : x.1 = j
  · simp [hx, h]
  · simp [hx]
theorem swap_perm {a b : Str} (hab : a ≠ b) {l : List (Str × Pl)} (hn : (l.map (·.1)).Nodup) (X Y : Pl) :
    ∃ ff : List (Str × Pl), ff.Sublist l ∧ (storedP (storedP l a X) b Y).Perm ((b, Y) :: (a, X) :: ff) ∧ l.Perm ((lookP l a).toList.map (fun p => (a, p)) ++ ((lookP l b).toList.map (fun p => (b, p)) ++ ff)) ∧ (∀ x ∈ ff, x.1 ≠ a ∧ x.1 ≠ b) := by
  refine ⟨(l.filter fun x => decide (x.1 ≠ a)).filter fun x => decide (x.1 ≠ b), (List.filter_sublist).trans List.filter_sublist, ?_, ?_, fun x hx => ?_⟩
  · refine (storedP_filter b Y _ (storedP_nodup hn)).trans (List.Perm.cons _ ?_)
    have := (storedP_filter a X l hn).filter fun x => decide (x.1 ≠ b)
    rwa [List.filter_cons_of_pos (by simpa using hab)] at this
  · refine (lookP_perm a l hn).trans (List.Perm.append_left _ ?_)
    have hn2 : ((l.filter fun x => decide (x.1 ≠ a)).map (·.1)).Nodup := hn.sublist (List.filter_sublist.map _)
    have := lookP_perm b _ hn2
    rwa [lookP_filter (Ne.symm hab)] at this
  · have h2 := List.mem_filter.mp hx
    have h1 := List.mem_filter.mp h2.1
    simp at h1 h2
    exact ⟨h1.2, h2.2⟩
theorem swap_apart {fix : List Addr} {a b : Str} {l : List (Str × Pl)} {wt : List Pl} {p1 p2 : Pl} (hab : a ≠ b) (hn : (l.map (·.1)).Nodup) (hs : (fix ++ (l.map (·.2) ++ wt).map (·.a)).Nodup)
    (h1 : p1.a ∉ fix ++ (l.map (·.2) ++ wt).map (·.a)) (h2 : p2.a ∉ fix ++ (l.map (·.2) ++ wt).map (·.a)) (h12 : p1.a ≠ p2.a) :
    (fix ++ ((storedP (storedP l a ((lookP l b).getD p2)) b ((lookP l a).getD p1)).map (·.2) ++ wt).map (·.a)).Nodup := by
  obtain ⟨ff, f1, f2, f3, _⟩ := swap_perm hab hn ((lookP l b).getD p2) ((lookP l a).getD p1)
  have e1 := (((f2.map (·.2)).append_right wt).map (·.a)).append_left fix
  have e2 := (((f3.map (·.2)).append_right wt).map (·.a)).append_left fix
  refine e1.nodup_iff.mpr ?_
  rw [e2.nodup_iff] at hs
  rw [e2.mem_iff] at h1 h2
  cases ha : lookP l a <;> cases hb : lookP l b <;> simp only [ha, hb, Option.getD_some, Option.getD_none, Option.toList_none, Option.toList_some, List.map_cons, List.map_nil, List.nil_append, List.cons_append] at hs h1 h2 ⊢
  · exact (List.Perm.nodup_iff (List.perm_middle.trans (List.Perm.cons _ List.perm_middle))).mpr (List.nodup_cons.mpr ⟨by simp only [List.mem_cons, not_or]; exact ⟨h12, h1⟩, List.nodup_cons.mpr ⟨h2, hs⟩⟩)
  · refine (List.Perm.nodup_iff List.perm_middle).mpr (List.nodup_cons.mpr ⟨h1, hs⟩)
  · refine (List.Perm.nodup_iff ((List.Perm.swap _ _ _).append_left fix |>.trans List.perm_middle)).mpr (List.nodup_cons.mpr ⟨h2, hs⟩)
  · exact hs
theorem stored_len (l : List (Str × Pl)) (k : Str) (p : Pl) : (storedP l k p).length ≤ l.length + 1 := by
  unfold storedP; split <;> simp
section
variable {w : World} {A : Around} {s : Shared} {H : Heap} {Q E : Value → Shared → Prop} {R : Rm}

theorem swap_texts_c {a b : Str} {ta tb : Tok} (hab : a ≠ b) (c : Ctx 2 w A H s) (x : RoomW w H s.heap R) (hk : R.held.length < 1000)
    (hQ : ∀ h' tk l1 l2, Kept [R.ah] s.heap h' → s.heap.objs.size ≤ l1 → s.heap.objs.size ≤ l2 → l1 ≠ l2 →
      RoomW w H h' { R with held := storedP (storedP R.held a ((lookP R.held b).getD ⟨l2, R.size, 0⟩)) b ((lookP R.held a).getD ⟨l1, R.size, 0⟩) } → Q .none { s with heap := h', toks := tk }) :
    wpAny (model PR w) A (call (.ref 134) [.ref R.r, .str a ta, .str b tb]) Q E s := by
  refine' enter c ?k6 ?k7 ?k9 ?kB ?_ ?c5 ?c2 ?c3 ?c4
  ktr_unf
  intro hh1 tk bd
  have hL : s.heap.objs.size ∉ R.adr := fun q => Nat.lt_irrefl _ (x.at_.lt _ q)
  have x1 := x.kept bd.kp (by simp)
  have ap := Rm.apart x.sep
  have bm := bd.mono (S' := [R.ah]) (by simp)
  obtain ⟨ep, o, es, ho, hr⟩ := x1.at_.held
  have hD : o.IsDictOf (strKind PR w) (heldOf R.held) := ⟨es, ep, hr⟩
  have hkeys := DictOf.keys ⟨o, es, ho, hr⟩
  refine seg_k (bm.seg [(R.ah, o)] c (by
    intro q hq
    rw [List.mem_singleton.mp hq]; exact ⟨ho, x.none _ R.m_ah, fun q => hL (q ▸ R.m_ah)⟩)) fun g rest p loose mean mg mb G F' N' T' => ?_
  rw [List.singleton_append] at N'
  have X' := G.X
  have I := G.old _ _ (fun q => hL (q ▸ R.m_r)) (by simp; exact ap.r_ah) x1.at_.inst
  refine x1.at_.dictK fun k t0 t1 t2 t3 t4 nd hd => ?_
  have D := G.old _ _ (fun q => hL (q ▸ R.m_dx)) (by simp; exact ap.dx_ah) hd
  have off : ∀ p ∈ rest, p.1 ≠ R.ah := fun p hp => by simpa using G.off p hp
  have hh : A.handled = none := c.ok.hd
  try dsimp only
  k_steps
  rename Fr _ _ _ _ => F1
  rename News _ _ _ _ => N1
  refine get2_led (o := o) (N1 _ (.tail _ (.head _))).1 hD (sys_ne c.big (x.new _ R.m_ah)) ?_
  rw [get_held R.held a ⟨_, R.size, 0⟩]
  k_steps
  rename Fr _ _ _ _ => F1
  rename News _ _ _ _ => N1
  refine get2_led (o := o) (N1 _ (.tail _ (.tail _ (.head _)))).1 hD (sys_ne c.big (x.new _ R.m_ah)) ?_
  rw [get_held R.held b ⟨_, R.size, 0⟩]
  k_steps
  rename Fr _ _ _ _ => F1
  rename News _ _ _ _ => N1
  have N2 := News.three N1
  have hah := x.at_.lt _ R.m_ah
  have off2 := (List.forall_mem_cons (p := fun q : Addr × Obj => q.1 ≠ R.ah)).mpr ⟨Nat.ne_of_gt (Nat.lt_trans hah (Nat.lt_of_le_of_ne ?_ (Ne.symm (N2 _ (.tail _ (.head _))).2.1))), (List.forall_mem_cons (p := fun q : Addr × Obj => q.1 ≠ R.ah)).mpr ⟨Nat.ne_of_gt (Nat.lt_trans hah (Nat.lt_of_le_of_ne ?_ (Ne.symm (N2 _ (.tail _ (.tail _ (.head _)))).2.1))), off⟩⟩
  rotate_left
  · exact Nat.le_of_lt (by assumption)
  · exact Nat.le_of_lt (by assumption)
  refine setItem_led F1 N2 (Heap.dictOf_iff.mpr ⟨o, (N2 _ (.head _)).1, hD⟩) off2 (by rw [heldOf, List.length_map, sizeLine_eq]; omega) fun h6 o' F3 N3 D3 => ?_
  rw [← heldOf_stored _ _ ((lookP R.held b).getD ⟨_, R.size, 0⟩)] at D3
  clear F1 N1
  k_steps
  refine setItem_led F3 N3 D3 off2 (by rw [heldOf, List.length_map, sizeLine_eq]; exact Nat.le_trans (stored_len _ _ _) (by omega)) fun h7 o7 F4 N4 D4 => ?_
  rw [← heldOf_stored _ _ ((lookP R.held a).getD ⟨_, R.size, 0⟩)] at D4
  clear F3 N3
  k_steps
  try dsimp only
  have ba := bm.after G F4 N4 (by ktr_rel) (by simp)
  have hst : ∀ a, a ≠ R.ah → a ≠ s.heap.objs.size → ∀ o, hh1.get? a = some o → h7.get? a = some o := fun a h1 h2 o e => G.stay F4 N4 (by ktr_rel) a o h2 (by simpa using h1) e
  have hl2 := N4 _ (.tail _ (.head _))
  have hl1 := N4 _ (.tail _ (.tail _ (.head _)))
  have hL1 : s.heap.objs.size < _ := Nat.lt_of_le_of_ne (Nat.le_of_lt (by assumption)) (Ne.symm hl1.2.1)
  have hL2 : s.heap.objs.size < _ := Nat.lt_of_le_of_ne (Nat.le_of_lt (by assumption)) (Ne.symm hl2.2.1)
  rename (∀ p, p ∈ _ :: (R.ah, o) :: rest → p.1 < _) => h12
  have h12 := h12 _ (.head _)
  dsimp only at h12 hl1 hl2 hL1 hL2
  have far : ∀ {l : Addr}, s.heap.objs.size < l → l ∉ R.adr := fun h q => Nat.lt_asymm h (x.at_.lt _ q)
  have cases : ∀ l1 l2, PlAt h7 ⟨l1, R.size, 0⟩ → s.heap.objs.size < l1 → PlAt h7 ⟨l2, R.size, 0⟩ → s.heap.objs.size < l2 → ∀ p ∈ (storedP (storedP R.held a ((lookP R.held b).getD ⟨l2, R.size, 0⟩)) b ((lookP R.held a).getD ⟨l1, R.size, 0⟩)).map (·.2) ++ R.wait, p ∈ R.pls ∨ (PlAt h7 p ∧ s.heap.objs.size < p.a) := by
    intro l1 l2 hl1 hL1 hl2 hL2 p hp
    rcases List.mem_append.mp hp with hp | hp
    · obtain ⟨y, hy, rfl⟩ := List.mem_map.mp hp
      rcases mem_stored hy with hy | rfl
      · rcases mem_stored hy with hy | rfl
        · exact .inl (List.mem_append_left _ (List.mem_map_of_mem hy))
        · dsimp only
          cases hb : lookP R.held b with
          | none => exact .inr ⟨hl2, hL2⟩
          | some q => exact .inl (List.mem_append_left _ (List.mem_map_of_mem (f := Prod.snd) (lookP_mem hb)))
      · dsimp only
        cases hb : lookP R.held a with
        | none => exact .inr ⟨hl1, hL1⟩
        | some q => exact .inl (List.mem_append_left _ (List.mem_map_of_mem (f := Prod.snd) (lookP_mem hb)))
    · exact .inl (List.mem_append_right _ hp)
  have cases := cases _ _ ⟨_, _, _, hl1.1⟩ hL1 ⟨_, _, _, hl2.1⟩ hL2
  refine hQ _ _ _ _ ba.kp (Nat.le_of_lt hL1) (Nat.le_of_lt hL2) (Nat.ne_of_lt h12) (x1.setHeld (fun a ha hne => hst a hne (fun q => hL (by rw [← q]; exact List.mem_append_left _ ha))) D4 (fun p hp => ?_) (fun p hp => ?_) ?_)
  · rcases cases p hp with hm | hm
    · exact (x1.at_.pls p hm).stay (hst _ (ap.pl _ hm).2.2.2.1 (fun q => hL (q ▸ Rm.m_pl hm)))
    · exact hm.1
  · rcases cases p hp with hm | hm
    · exact x.new _ (Rm.m_pl hm)
    · exact Nat.le_of_lt (Nat.lt_of_le_of_lt (x.new _ R.m_ah) (Nat.lt_trans hah hm.2))
  · exact swap_apart (p1 := ⟨_, R.size, 0⟩) (p2 := ⟨_, R.size, 0⟩) hab hkeys x.sep (far hL1) (far hL2) (Nat.ne_of_lt h12)
end
end Mine
end
section
namespace Mine
def pOf (ps : List Pl) (f : Pl → Bool) : Value → Bool
  | .ref a => ps.any fun pl => decide (pl.a = a) && f pl
  | _ => false
theorem pOf_at {ps : List Pl} {f : Pl → Bool} {pl : Pl} (hn : (ps.map (·.a)).Nodup) (h : pl ∈ ps) : pOf ps f (.ref pl.a) = f pl := by
  show (ps.any fun q => decide (q.a = pl.a) && f q) = f pl
  have key : ∀ q ∈ ps, q.a = pl.a → q = pl := by
    intro q hq e
    obtain ⟨i, hi, rfl⟩ := List.getElem_of_mem hq
    obtain ⟨j, hj, rfl⟩ := List.getElem_of_mem h
    have : i = j := (List.getElem_inj (h₀ := by simpa using hi) (h₁ := by simpa using hj) hn).mp (by simpa using e)
    subst this; rfl
  cases hf : f pl with
  | true => exact List.any_eq_true.mpr ⟨pl, h, by simp [hf]⟩
  | false =>
    refine List.any_eq_false.mpr fun q hq => ?_
    by_cases e : q.a = pl.a
    · rw [key q hq e]; simp [hf]
    · simp [e]
theorem filter_pOf {ps : List Pl} {f : Pl → Bool} (hn : (ps.map (·.a)).Nodup) : ∀ qs : List Pl, (∀ q ∈ qs, q ∈ ps) → (waitOf qs).filter (pOf ps f) = waitOf (qs.filter f)
  | [], _ => rfl
  | q :: r, h => by
    have ih := filter_pOf hn r (f := f) fun x hx => h x (.tail _ hx)
    show (Value.ref q.a :: waitOf r).filter _ = _
    rw [List.filter_cons, pOf_at hn (h q (.head _)), List.filter_cons, ih]
    split <;> rfl
theorem pl_of_ref {ps : List Pl} {i : Nat} {v : Value} (h : (waitOf ps).toArray[i]? = some v) : ∃ pl, pl ∈ ps ∧ v = .ref pl.a := by
  have h : (waitOf ps)[i]? = some v := by simpa using h
  obtain ⟨pl, hp, rfl⟩ := List.mem_map.mp (List.mem_of_getElem? h)
  exact ⟨pl, hp, rfl⟩
theorem paired_eq {l₁ l₂ : List Value} (h : Paired (fun a b => b = a) l₁ l₂) : l₂ = l₁ := by
  induction h with
  | nil => rfl
  | cons a _ ih => rw [a, ih]
theorem lookP_of_mem {l : List (Str × Pl)} {k : Str} {p : Pl} (hn : (l.map (·.1)).Nodup) (h : (k, p) ∈ l) : lookP l k = some p := by
  induction l with
  | nil => cases h
  | cons x r ih =>
    rw [List.map_cons, List.nodup_cons] at hn
    unfold lookP
    rw [List.find?_cons]
    rcases List.mem_cons.mp h with rfl | h
    · simp
    · have : x.1 ≠ k := fun e => hn.1 (List.mem_map.mpr ⟨_, h, e.symm⟩)
      simp only [decide_eq_false this]
      exact ih hn.2 h
theorem sub_held {prog : Program} {w : World} {A : Around} {E : Value → Shared → Prop} {s : Shared} {value slice : PySem.Expr} {d : Addr} {l : List (Str × Pl)} {k : Str} {t : Tok} {pl : Pl} {Q : Value → Shared → Prop} (hD : s.heap.DictOf (strKind prog w) d (heldOf l))
    (hm : (k, pl) ∈ l) (h : Q (.ref pl.a) { s with toks := s.toks + 1 })
    (hs : subscripted slice false (.ref d) (.str k t) = operate [.ref d, .str k t] (getItem (.ref d) (.str k t))) (hg : ∀ r, letTemporaryGo value (.ref d) r = pure ()) :
    wpAny (model prog w) A (subscriptTail value slice (.ref d) (.str k t)) Q E s := by
  have hk : (l.map (·.1)).Nodup := by
    obtain ⟨o, es, ep, a, b⟩ := id hD
    exact DictOf.keys ⟨o, es, a, b⟩
  exact subscriptTail_builtin hD.typeIs slot_dict_getitem.lookup (wpAny_getItem_of (strKind_is prog w k t) hD.mapOf (by rw [valueAt_held, lookP_of_mem hk hm]; rfl) h) hs hg
theorem held_at {l : List (Str × Pl)} {i : Nat} {k : Str} {y : Value} (h : (heldOf l)[i]? = some (k, y)) : ∃ pl, l[i]? = some (k, pl) ∧ y = .ref pl.a := by
  unfold heldOf at h
  rw [List.getElem?_map, Option.map_eq_some_iff] at h
  obtain ⟨⟨k', pl⟩, h1, h2⟩ := h
  cases h2
  exact ⟨pl, h1, rfl⟩
theorem refs_of_keys {prog : Program} {w : World} {l : List (Str × Pl)} (hn : (l.map (·.1)).Nodup) {vs ys : List Value} (hl : vs.length = (heldOf l).length)
    (hv : ∀ (j : Nat) (v : Value), vs[j]? = some v → ∃ k y, (heldOf l)[j]? = some (k, y) ∧ (strKind prog w).is k v = true)
    (hp : Paired (fun v y => ∃ k pl, (k, pl) ∈ l ∧ (strKind prog w).is k v = true ∧ y = .ref pl.a) vs ys) : ys = waitOf (l.map (·.2)) := by
  have key : ∀ (l' : List (Str × Pl)) (vs ys : List Value), (∀ x ∈ l', x ∈ l) → vs.length = l'.length → (∀ (j : Nat) (v : Value), vs[j]? = some v → ∃ k y, (heldOf l')[j]? = some (k, y) ∧ (strKind prog w).is k v = true) →
      Paired (fun v y => ∃ k pl, (k, pl) ∈ l ∧ (strKind prog w).is k v = true ∧ y = .ref pl.a) vs ys → ys = waitOf (l'.map (·.2)) := by
    intro l'
    induction l' with
    | nil => intro vs ys _ hl _ hp; cases hp with
      | nil => rfl
      | cons _ _ => simp at hl
    | cons x r ih =>
      intro vs ys hs hl hv hp
      cases hp with
      | nil => simp at hl
      | @cons v y vs' ys' h1 h2 =>
        have := ih vs' ys' (fun x hx => hs x (.tail _ hx)) (by simpa using hl) (fun j v hj => hv (j + 1) v (by simpa using hj)) h2
        subst this
        obtain ⟨k, pl, hm, hk, rfl⟩ := h1
        obtain ⟨k2, y2, h3, h4⟩ := hv 0 v rfl
        have h3 : x.1 = k2 := by simp [heldOf] at h3; exact h3.1
        obtain ⟨t, rfl⟩ := Value.isStrOf_shape hk
        have h5 := (strKind prog w).inj _ _ _ hk h4
        have e1 := lookP_of_mem hn hm
        have e2 := lookP_of_mem hn (hs x (.head _))
        rw [h3, ← h5, e1] at e2
        cases e2
        rfl
  exact key l vs ys (fun _ h => h) (by rw [hl, heldOf, List.length_map]) hv hp
section
variable {w : World} {A : Around} {s : Shared} {H : Heap} {Q E : Value → Shared → Prop} {R : Rm}

theorem places_of_c (c : Ctx 2 w A H s) (x : RoomW w H s.heap R) (hk : R.held.length < 1000) (hw : R.wait.length < 1000)
    (hQ : ∀ h' tk D e, Kept [] s.heap h' → s.heap.objs.size ≤ D → h'.get? D = some (listOf (waitOf (R.pls.filter fun p => decide (0 < p.len))).toArray e) → Q (.ref D) { s with heap := h', toks := tk }) :
    wpAny (model PR w) A (call (.ref 80) [.ref R.r]) Q E s := by
  refine' enterC c ?k6 ?k7 ?k9 ?kB ?kN ?_ ?c2 ?c3 ?c4
  case k6 => k_is
  case k7 => k_is
  case k9 => exact BindsTo.of_eq rfl
  case kB => exact rfl
  case kN => decide
  case c2 => exact rfl
  case c3 => exact rfl
  case c4 => exact rfl
  intro hh1 tk cells b hc Y
  obtain ⟨oc, rfl, hcd⟩ := CellsAre.one Y
  have hcd : oc.data = .cell (some (.ref R.r)) := hcd
  have hL : s.heap.objs.size ∉ R.adr := fun q => Nat.lt_irrefl _ (x.at_.lt _ q)
  have x1 := x.kept b.kp (by simp)
  have ap := Rm.apart x.sep
  refine b.seg0 c fun g rest p loose mean mg mb G F' N' T' X' => ?_
  have KC := G.old _ _ (Nat.ne_of_gt (hc _ (.head _)).2) (by simp) (hc _ (.head _)).1
  have I := G.old _ _ (fun q => hL (q ▸ R.m_r)) (by simp) x1.at_.inst
  refine x1.at_.dictK fun k t0 t1 t2 t3 t4 nd hd => ?_
  have D := G.old _ _ (fun q => hL (q ▸ R.m_dx)) (by simp) hd
  obtain ⟨e, hw⟩ := x1.at_.wait
  have W := G.old _ _ (fun q => hL (q ▸ R.m_aw)) (by simp) hw
  obtain ⟨ep, o, es, ho, hr⟩ := x1.at_.held
  have hD : o.IsDictOf (strKind PR w) (heldOf R.held) := ⟨es, ep, hr⟩
  have hkeys := DictOf.keys ⟨o, es, ho, hr⟩
  have HD := G.old _ _ (fun q => hL (q ▸ R.m_ah)) (by simp) ho
  clear hc Y
  try dsimp only
  k_steps
  rename Fr _ _ _ _ => F1
  rename News _ _ _ _ => N1
  refine comp_dict (fun _ => true) (fun _ _ v y => ∃ k pl, (k, pl) ∈ R.held ∧ (strKind PR w).is k v = true ∧ y = .ref pl.a) (c.ok.deeper _).hd F1 N1 (sys_ne c.big (x.new _ R.m_ah)) ⟨o, es, HD.now F1 N1 (by ktr_rel), hr⟩ (by rw [heldOf, List.length_map, sizeLine_eq]; omega) ⟨?_, ?_, ?_⟩ ?_
  · exact fun C h h' v y q _ => q
  · intro C i v s₃ m₃ hP F₃ N₃ hm _
    exact wpAny_pure ⟨rfl, _, _, rfl, fun _ _ e => e⟩
  · intro C i v s₃ m₃ hP _ F₃ N₃ hm _
    obtain ⟨k, y, hk1, hk2⟩ := hP
    obtain ⟨t, rfl⟩ := Value.isStrOf_shape hk2
    obtain ⟨h₃, _, _, _, _⟩ := s₃
    clear F1 N1
    k_steps
    rename Fr _ _ _ _ => F4
    rename News _ _ _ _ => N4
    obtain ⟨pl, hpl, rfl⟩ := held_at hk1
    refine sub_held (Heap.dictOf_iff.mpr ⟨o, HD.now F4 N4 (by ktr_rel), hD⟩) (List.mem_of_getElem? hpl) ⟨⟨_, pl, List.mem_of_getElem? hpl, hk2, rfl⟩, _, _, rfl, fun _ _ e => e⟩ ?_ ?_
    · with_unfolding_all rfl
    · intro _; with_unfolding_all rfl
  · intro D2 C vs ys e2 h2 tk2 hDC hLD hlt F2 N2 hl hv hP
    rw [filter_all] at hP
    have hst := refs_of_keys hkeys hl hv hP
    clear N1 F1 hP
    have hys : ys = (waitOf (R.held.map (·.2))).toArray := by rw [← hst]
    subst hys
    try dsimp only
    k_steps
    rename Fr _ _ _ _ => F1
    rename News _ _ _ _ => N1
    refine kmk_add_lit (zs := waitOf R.pls) F1 N1 (list_n N1 (.head _)) (list_k F1 N1 W (by ktr_rel)) (by simp [waitOf, Rm.pls]) (fun D3 h3 F3 N3 l3 => ?_) (by simp only [waitOf, List.length_map]; rw [sizeLine_eq]; omega)
    clear F1 N1
    iterate 4 (first | walk1 | (dsimp only; walk1))
    refine' comp_h ?hclos ?hcell ?hkind ?hnames ?hx ?h ?hs
    case hclos => with_unfolding_all rfl
    case hcell => decide
    case hkind => with_unfolding_all rfl
    case hnames => decide
    case hx => with_unfolding_all rfl
    case hs => intro _; with_unfolding_all rfl
    k_steps
    rename Fr _ _ _ _ => F1
    rename News _ _ _ _ => N1
    have hz : (waitOf R.pls).toArray.size ≤ sizeLine := by
      simp only [List.size_toArray, waitOf, List.length_map, Rm.pls, List.length_append]
      rw [sizeLine_eq]; omega
    have hps : (R.pls.map (·.a)).Nodup := (List.nodup_append.mp x.sep).2.1
    refine comp_list (pOf R.pls fun p => decide (0 < p.len)) (fun _ _ v y => y = v) (c.ok.deeper _).hd F1 N1 (items := (waitOf R.pls).toArray) ?_ hz ⟨?_, ?_, ?_⟩ ?_
    · exact list_n N1 (.head _)
    · exact fun C h h' v y q _ => q
    · intro C i v s₃ m₃ hP F₃ N₃ hm _
      obtain ⟨pl, hpl, rfl⟩ := pl_of_ref hP
      rw [pOf_at hps hpl]
      obtain ⟨u0, u1, e0, hpa⟩ := x1.at_.pls pl hpl
      have P := G.old _ _ (fun q => hL (q ▸ Rm.m_pl hpl)) (by simp) hpa
      obtain ⟨h₃, _, _, _, _⟩ := s₃
      clear F1 N1
      k_steps
      exact ⟨_, _, rfl, fun _ _ e => e⟩
    · intro C i v s₃ m₃ hP _ F₃ N₃ hm _
      obtain ⟨h₃, _, _, _, _⟩ := s₃
      clear F1 N1
      k_steps
      exact ⟨_, _, rfl, fun _ _ e => e⟩
    · intro D2 C ys e2 h2 tk2 hDC hLD hlt F2 N2 hP
      have hys := paired_eq hP
      rw [show (waitOf R.pls).toArray.toList = waitOf R.pls from rfl, filter_pOf hps _ fun _ h => h] at hys
      have hys : ys = (waitOf (R.pls.filter fun p => decide (0 < p.len))).toArray := by rw [← hys]
      subst hys
      try dsimp only
      exact hQ _ _ _ e2 (b.after G F2 N2 (by ktr_rel) (by simp)).kp (Nat.le_of_lt hLD) (N2 _ (.head _)).1
end
end Mine
end
section
namespace Mine
section
variable {prog : Program} {w : World} {A : Around} {s : Shared} {env : Env}
/-- for x in l -/
theorem list_h {l : Addr} {items : Array Value} {m : Str → Option Value} {x : Str} {px : Pos} {body : List Stmt} {Q : Flow → Shared → Prop} (hh : A.handled = none) (hl : s.heap.IsList l items) (hn : s.heap.Ns env.locals m) (hlL : l ≠ env.locals)
    (hx : env.kindOf x = some .local) (hp : (env.scope.kind == .class || (env.scope.kind == .module && env.locals != env.globals)) = false)
    (J : Nat → (Str → Option Value) → Heap → Prop) (mono : ∀ i m h h', J i m h → (∀ b o, b ≠ s.heap.objs.size → b ≠ env.locals → h.get? b = some o → h'.get? b = some o) → J i m h') (h0 : J 0 m s.heap)
    (step : ∀ i v m h tk, items[i]? = some v → J i m h → h.Ns env.locals (fun y => if y = x then some v else m y) →
      wpAny (model prog w) A (execs body env) (TurnEnd s env.locals [s.heap.objs.size, l] h (J (i + 1)) Q) (fun _ _ => False) { s with heap := h, toks := tk })
    (done : ∀ h tk m, J items.size m h → h.Ns env.locals m → Q .next { s with heap := h, toks := tk }) :
    wpAny (model prog w) A (pyIter (.ref l)) (fun it s₂ => ForAt prog w A (.Name x px) body env Q it s₂) (fun _ _ => False) s := by
  have hlt : l < s.heap.objs.size := by obtain ⟨o, ho, _⟩ := hl; exact Heap.lt_size ho
  have hLlt := hn.lt
  refine wpAny_pyIter_list hl ?_
  have W := Walks.list (prog := prog) (w := w) hh s.heap.objs.size l (Nat.ne_of_lt hlt) items
  have push : ∀ b o, s.heap.get? b = some o → (s.heap.push { cls := .type "list_iterator", data := .fields #[.ref l, rawInt 0] }).get? b = some o := fun b o e => Heap.get?_push_of_some _ e
  refine loop_name (Q := Q) (s := { s with heap := s.heap.push _ }) (m := m) W hx hp ?_ J ?_ ⟨⟨_, Heap.get?_push_size _ rfl, rfl, rfl⟩, hl.at fun o e => Heap.get?_push_of_some _ e⟩ (hn.keeps fun b o e => Heap.get?_push_of_some _ e)
    (mono 0 m _ _ h0 fun b o _ _ e => Heap.get?_push_of_some _ e) ?_ (fun h tk m hJ hn' => done h tk m hJ hn') (fun _ _ q => q)
  · intro q
    rcases List.mem_cons.mp q with e | q
    · exact Nat.ne_of_lt hLlt e
    · exact hlL (List.mem_singleton.mp q).symm
  · intro i m h h' hJ k
    exact mono i m h h' hJ fun b o h1 h2 e => k b o (fun q => h1 (List.mem_singleton.mp q)) h2 e
  · intro i v m h tk hi hv hJ hst hn'
    exact wpAny_mono (step i v m h tk hv hJ hn') (fun f s' hf => hf) fun _ _ e => e
end
def nhStep (below : Int) (f : Option Pl) (p : Pl) : Option Pl := if p.lo < below ∧ (∀ q, f = some q → q.lo < p.lo) then some p else f
def nhP (ps : List Pl) (below : Int) : Option Pl := ps.foldl (nhStep below) none
def refOf : Option Pl → Value
  | none => .none
  | some p => .ref p.a
theorem nhP_mem {below : Int} : ∀ (ps : List Pl) (f : Option Pl) (p : Pl), ps.foldl (nhStep below) f = some p → p ∈ ps ∨ f = some p
  | [], f, p, h => .inr h
  | a :: r, f, p, h => by
    rcases nhP_mem r _ p h with h | h
    · exact .inl (.tail _ h)
    · unfold nhStep at h
      split at h
      · cases h; exact .inl (.head _)
      · exact .inr h
theorem nhP_take {ps : List Pl} {i : Nat} {p : Pl} {below : Int} (h : ps[i]? = some p) : nhP (ps.take (i + 1)) below = nhStep below (nhP (ps.take i) below) p := by
  unfold nhP
  rw [List.take_add_one, h, List.foldl_append]
  rfl
section
variable {w : World} {A : Around} {s : Shared} {H : Heap} {Q E : Value → Shared → Prop} {R : Rm}

theorem next_highest_c {l : Addr} {ps : List Pl} {e : Nat} {below : Int} {t : Tok} (c : Ctx 2 w A H s) (hl : s.heap.get? l = some (listOf (waitOf ps).toArray e)) (hp : ∀ p ∈ ps, PlAt s.heap p)
    (hQ : ∀ h' tk, Kept [] s.heap h' → Q (refOf (nhP ps below)) { s with heap := h', toks := tk }) :
    wpAny (model PR w) A (call (.ref 94) [.ref l, .int below t]) Q E s := by
  refine' enter c ?k6 ?k7 ?k9 ?kB ?_ ?c5 ?c2 ?c3 ?c4
  ktr_unf
  intro hh1 tk b
  have hlt := Heap.lt_size hl
  refine b.seg0 c fun g rest p loose mean mg mb G F' N' T' X' => ?_
  have LL := G.old _ _ (Nat.ne_of_lt hlt) (by simp) (b.kp _ _ (by simp) hl)
  try dsimp only
  k_steps
  rename Fr _ _ _ _ => F1
  rename News _ _ _ _ => N1
  have hLs1 : s.heap.objs.size < hh1.objs.size := by have := F1.ns.lt; exact b.ns.lt
  have hF1 := F1.ns.lt
  have b1 := b.after G F1 N1 (by ktr_rel) (by simp)
  refine list_h (c.ok.deeper _).hd (list_k F1 N1 LL (by ktr_rel)) F1.ns (Nat.ne_of_lt hlt) rfl rfl
    (fun i m h => H.StaysIn h ∧ Kept [] s.heap h ∧ m (Str.ofString "found") = some (refOf (nhP (ps.take i) below)) ∧ m (Str.ofString "below") = some (.int below t)) ?_ ?_ ?_ ?_
  · intro i m h3 h4 hJ k
    obtain ⟨a1, a2, a3, a4⟩ := hJ
    have hLs := F1.ns.lt
    have far : ∀ b, b < s.heap.objs.size → ∀ o, h3.get? b = some o → h4.get? b = some o := fun b hb o e =>
      k b o (Nat.ne_of_lt (Nat.lt_trans hb hLs)) (Nat.ne_of_lt hb) e
    exact ⟨fun b o e => far b (Heap.lt_size (c.st b o e)) o (a1 b o e), fun b o hb e => far b (Heap.lt_size e) o (a2 b o hb e), a3, a4⟩
  · exact ⟨b1.st, b1.kp, rfl, rfl⟩
  · intro i v m h tk hv hJ hn
    obtain ⟨a1, a2, m1, m2⟩ := hJ
    have b : Bd H s s.heap.objs.size [] _ h := ⟨hn, a1, a2, Nat.le_refl _⟩
    have q1 : (fun y => if y = Str.ofString "place" then some v else m y) (Str.ofString "found") = some (refOf (nhP (ps.take i) below)) := m1
    have q2 : (fun y => if y = Str.ofString "place" then some v else m y) (Str.ofString "below") = some (.int below t) := m2
    have q3 : (fun y => if y = Str.ofString "place" then some v else m y) (Str.ofString "place") = some v := rfl
    generalize (fun y => if y = Str.ofString "place" then some v else m y) = m' at q1 q2 q3 b
    have hv : (waitOf ps)[i]? = some v := by simpa using hv
    unfold waitOf at hv
    rw [List.getElem?_map, Option.map_eq_some_iff] at hv
    obtain ⟨pl, hpl, rfl⟩ := hv
    have hst := nhP_take (below := below) hpl
    refine b.seg0 c fun g rest p loose mean mg mb G F' N' T' X' => ?_
    have known : ∀ q ∈ ps, ∃ u0 u1 e, Known g rest q.a (listOf [.int q.lo u0, .int q.len u1].toArray e) := fun q hq => by
      obtain ⟨u0, u1, e, hp⟩ := hp q hq
      exact ⟨u0, u1, e, G.old _ _ (Nat.ne_of_lt (Heap.lt_size hp)) (by simp) (a2 _ _ (by simp) hp)⟩
    obtain ⟨u0, u1, e0, P0⟩ := known pl (List.mem_of_getElem? hpl)
    have ne : ∀ z, s.heap.objs.size < z → ∀ b ∈ [z, l], b ≠ s.heap.objs.size := fun z hz b hb => by
      rcases List.mem_cons.mp hb with rfl | hb
      · exact Nat.ne_of_gt hz
      · rw [List.mem_singleton.mp hb]; exact Nat.ne_of_lt hlt
    by_cases hc : pl.lo < below
    · cases hf : nhP (ps.take i) below with
      | none =>
        have q1 : m' (Str.ofString "found") = some .none := by rw [q1, hf]; rfl
        have hs2 : nhStep below none pl = some pl := by unfold nhStep; rw [if_pos ⟨hc, fun q h => by cases h⟩]
        rw [hf, hs2] at hst
        k_steps
        rename Fr _ _ _ _ => F3
        rename News _ _ _ _ => N3
        have b5 := b.after G F3 N3 (by ktr_rel) (by simp)
        refine ⟨_, _, _, rfl, F3.ns, fun b hb o e => G.stay F3 N3 (by ktr_rel) b o (ne _ hF1 b hb) (by simp) e, b5.st, b5.kp, ?_, q2⟩
        rw [hst]
        rfl
      | some q =>
        have q1 : m' (Str.ofString "found") = some (.ref q.a) := by rw [q1, hf]; rfl
        obtain ⟨w0, w1, e1, P1⟩ := known q (List.mem_of_mem_take ((nhP_mem _ _ _ hf).resolve_right (by simp)))
        by_cases hq : q.lo < pl.lo
        · have hs2 : nhStep below (some q) pl = some pl := by unfold nhStep; rw [if_pos ⟨hc, fun z h => by cases h; exact hq⟩]
          rw [hf, hs2] at hst
          k_steps
          rename Fr _ _ _ _ => F3
          rename News _ _ _ _ => N3
          have b5 := b.after G F3 N3 (by ktr_rel) (by simp)
          refine ⟨_, _, _, rfl, F3.ns, fun b hb o e => G.stay F3 N3 (by ktr_rel) b o (ne _ hF1 b hb) (by simp) e, b5.st, b5.kp, ?_, q2⟩
          rw [hst]
          rfl
        · have hs2 : nhStep below (some q) pl = some q := by unfold nhStep; rw [if_neg fun z => hq (z.2 q rfl)]
          rw [hf, hs2] at hst
          k_steps
          rename Fr _ _ _ _ => F3
          rename News _ _ _ _ => N3
          have b5 := b.after G F3 N3 (by ktr_rel) (by simp)
          refine ⟨_, _, _, rfl, F3.ns, fun b hb o e => G.stay F3 N3 (by ktr_rel) b o (ne _ hF1 b hb) (by simp) e, b5.st, b5.kp, ?_, q2⟩
          rw [hst]
          exact q1
    · have hs2 : nhStep below (nhP (ps.take i) below) pl = nhP (ps.take i) below := by unfold nhStep; rw [if_neg fun z => hc z.1]
      rw [hs2] at hst
      k_steps
      rename Fr _ _ _ _ => F3
      rename News _ _ _ _ => N3
      have b5 := b.after G F3 N3 (by ktr_rel) (by simp)
      refine ⟨_, _, _, rfl, F3.ns, fun b hb o e => G.stay F3 N3 (by ktr_rel) b o (ne _ hF1 b hb) (by simp) e, b5.st, b5.kp, ?_, q2⟩
      rw [hst]
      exact q1
  · intro h tk m hJ hn
    obtain ⟨a1, a2, m1, m2⟩ := hJ
    have b : Bd H s s.heap.objs.size [] _ h := ⟨hn, a1, a2, Nat.le_refl _⟩
    rw [show (waitOf ps).toArray.size = ps.length by simp [waitOf], List.take_length] at m1
    refine b.seg0 c fun g rest p loose mean mg mb G F' N' T' X' => ?_
    k_steps
    try dsimp only
    rename Fr _ _ _ _ => F3
    rename News _ _ _ _ => N3
    exact hQ _ _ (b.after G F3 N3 (by ktr_rel) (by simp)).kp
end
end Mine
end
section
namespace Mine
/-- a stop of the walk -/
structure Stop (P : Prop) : Prop where
  go : P

def WhileAt (P : Prop) : Prop := P
theorem WhileAt.go {P : Prop} (h : WhileAt P) : P := h
def goalOf (g : Int) : List Pl → Int
  | [] => g
  | d :: r => goalOf (g - d.len) r
def loOf (g : Int) : List Pl → Addr → Option Int
  | [], _ => none
  | d :: r, a => if d.a = a then some (g - d.len) else loOf (g - d.len) r a
def relo (g : Int) (ds : List Pl) (p : Pl) : Pl := ⟨p.a, (loOf g ds p.a).getD p.lo, p.len⟩
def packN (ns : List Int) (g : Int) : List Pl → List Int
  | [] => ns
  | d :: r => packN (put ns (g - d.len).toNat (cutOf ns d)) (g - d.len) r
def belowOf (b : Int) (ds : List Pl) : Int := (ds.getLast?.map (·.lo)).getD b
def reR (R : Rm) (ds : List Pl) : Rm := { R with ns := packN R.ns R.size ds, held := R.held.map (fun x => (x.1, relo R.size ds x.2)), wait := R.wait.map (relo R.size ds) }

theorem relo_nil (g : Int) (p : Pl) : relo g [] p = p := rfl
theorem reR_nil (R : Rm) : reR R [] = R := by
  have e1 : R.held.map (fun x => (x.1, relo R.size [] x.2)) = R.held := by
    conv => rhs; rw [← List.map_id R.held]
    exact List.map_congr_left fun x _ => rfl
  have e2 : R.wait.map (relo R.size []) = R.wait := by
    conv => rhs; rw [← List.map_id R.wait]
    exact List.map_congr_left fun x _ => rfl
  unfold reR
  rw [e1, e2]
  rfl
theorem reR_pls (R : Rm) (ds : List Pl) : (reR R ds).pls = R.pls.map (relo R.size ds) := by
  simp [reR, Rm.pls]
theorem reR_adr (R : Rm) (ds : List Pl) : (reR R ds).adr = R.adr := by
  have : (R.pls.map (relo R.size ds)).map (·.a) = R.pls.map (·.a) := by
    rw [List.map_map]; exact List.map_congr_left fun x _ => rfl
  simp only [Rm.adr, reR_pls, this]
  rfl
theorem goalOf_snoc (d : Pl) : ∀ (ds : List Pl) (g : Int), goalOf g (ds ++ [d]) = goalOf g ds - d.len
  | [], g => rfl
  | x :: r, g => goalOf_snoc d r (g - x.len)
theorem packN_snoc (d : Pl) : ∀ (ds : List Pl) (ns : List Int) (g : Int), packN ns g (ds ++ [d]) = put (packN ns g ds) (goalOf g ds - d.len).toNat (cutOf (packN ns g ds) d)
  | [], ns, g => rfl
  | x :: r, ns, g => packN_snoc d r _ (g - x.len)
theorem loOf_none {a : Addr} : ∀ {ds : List Pl} {g : Int}, (∀ d ∈ ds, d.a ≠ a) → loOf g ds a = none
  | [], g, _ => rfl
  | x :: r, g, h => by
    unfold loOf
    rw [if_neg (h x (.head _))]
    exact loOf_none fun d hd => h d (.tail _ hd)
theorem loOf_snoc {d : Pl} {a : Addr} : ∀ (ds : List Pl) (g : Int), (∀ x ∈ ds, x.a ≠ d.a) → loOf g (ds ++ [d]) a = if a = d.a then some (goalOf g ds - d.len) else loOf g ds a
  | [], g, _ => by
    show (if d.a = a then _ else _) = _
    by_cases h : a = d.a
    · rw [if_pos h.symm, if_pos h]; rfl
    · rw [if_neg (Ne.symm h), if_neg h]; rfl
  | x :: r, g, h => by
    have ih := loOf_snoc (d := d) (a := a) r (g - x.len) fun y hy => h y (.tail _ hy)
    show (if x.a = a then _ else _) = _
    by_cases h1 : x.a = a
    · rw [if_pos h1, if_neg (fun q => h x (.head _) (h1.trans q))]
      show _ = (if x.a = a then _ else _)
      rw [if_pos h1]
    · rw [if_neg h1]
      refine ih.trans ?_
      show _ = (if a = d.a then _ else (if x.a = a then _ else _))
      rw [if_neg h1]
      rfl
theorem relo_snoc {d p : Pl} {ds : List Pl} {g : Int} (h : ∀ x ∈ ds, x.a ≠ d.a) : relo g (ds ++ [d]) p = if p.a = d.a then ⟨p.a, goalOf g ds - d.len, p.len⟩ else relo g ds p := by
  unfold relo
  rw [loOf_snoc ds g h]
  split <;> rfl
theorem belowOf_snoc (b : Int) (ds : List Pl) (d : Pl) : belowOf b (ds ++ [d]) = d.lo := by simp [belowOf]
theorem relo_far {g : Int} {ds : List Pl} {p : Pl} (h : ∀ d ∈ ds, d.a ≠ p.a) : relo g ds p = p := by
  unfold relo; rw [loOf_none h]; rfl

/-- which is the highest of places that go down -/
theorem nhP_desc {below : Int} : ∀ {ps : List Pl} (f : Option Pl), (∀ p ∈ ps, p.lo < below) → ∃ o, ps.foldl (nhStep below) f = o ∧ (∀ p ∈ ps, ∃ q, o = some q ∧ p.lo ≤ q.lo) ∧ (∀ p, f = some p → ∃ q, o = some q ∧ p.lo ≤ q.lo)
  | [], f, _ => ⟨f, rfl, by simp, fun p h => ⟨p, h, Int.le_refl _⟩⟩
  | a :: r, f, h => by
    obtain ⟨o, h1, h2, h3⟩ := nhP_desc (nhStep below f a) fun p hp => h p (.tail _ hp)
    have ha : ∃ q, nhStep below f a = some q ∧ a.lo ≤ q.lo ∧ (∀ p, f = some p → p.lo ≤ q.lo) := by
      unfold nhStep
      by_cases hc : ∀ q, f = some q → q.lo < a.lo
      · rw [if_pos ⟨h a (.head _), hc⟩]
        exact ⟨a, rfl, Int.le_refl _, fun p hp => Int.le_of_lt (hc p hp)⟩
      · rw [if_neg fun z => hc z.2]
        have hc : ∃ q, f = some q ∧ ¬ q.lo < a.lo := by
          refine Classical.byContradiction fun hn => hc fun q hq => Classical.byContradiction fun hq2 => hn ⟨q, hq, hq2⟩
        obtain ⟨q, hq, hq2⟩ := hc
        exact ⟨q, hq, by omega, fun p hp => by rw [hq] at hp; cases hp; exact Int.le_refl _⟩
    obtain ⟨q, hq, hq2, hq3⟩ := ha
    obtain ⟨z, hz, hz2⟩ := h3 q hq
    refine ⟨o, h1, fun p hp => ?_, fun p hp => ⟨z, hz, Int.le_trans (hq3 p hp) hz2⟩⟩
    rcases List.mem_cons.mp hp with rfl | hp
    · exact ⟨z, hz, Int.le_trans hq2 hz2⟩
    · exact h2 p hp
theorem nhP_head {ps ds : List Pl} {below : Int} (hp : ps.Perm ds) (hd : ds.Pairwise fun p q => q.lo < p.lo) (hb : ∀ p ∈ ds, p.lo < below) : nhP ps below = ds.head? := by
  obtain ⟨o, h1, h2, _⟩ := nhP_desc (below := below) none fun p hq => hb p (hp.mem_iff.mp hq)
  have h1 : nhP ps below = o := h1
  cases ds with
  | nil => rw [hp.eq_nil]; rfl
  | cons d r =>
    obtain ⟨q, rfl, hq⟩ := h2 d (hp.mem_iff.mpr (.head _))
    rw [h1]
    have hm := (nhP_mem ps none q h1).resolve_right (by simp)
    rcases List.mem_cons.mp (hp.mem_iff.mp hm) with rfl | hm
    · rfl
    · have := (List.pairwise_cons.mp hd).1 q hm
      omega

section
variable {w : World} {H h h' : Heap} {R : Rm}
/-- one place lies elsewhere -/
theorem RoomW.setLo {a : Addr} {f : Pl → Pl} (x : RoomW w H h R) (hf : ∀ p, (f p).a = p.a) (k : ∀ b ∈ R.adr, b ≠ a → ∀ o, h.get? b = some o → h'.get? b = some o) (ha : a ∉ R.fix) (hp : ∀ p ∈ R.pls, PlAt h' (f p)) :
    RoomW w H h' { R with held := R.held.map (fun x => (x.1, f x.2)), wait := R.wait.map f } := by
  have e1 : heldOf (R.held.map (fun x => (x.1, f x.2))) = heldOf R.held := by
    unfold heldOf; rw [List.map_map]; exact List.map_congr_left fun x _ => by simp only [Function.comp, hf]
  have e2 : waitOf (R.wait.map f) = waitOf R.wait := by
    unfold waitOf; rw [List.map_map]; exact List.map_congr_left fun x _ => by simp only [Function.comp, hf]
  have e3 : (({ R with held := R.held.map (fun x => (x.1, f x.2)), wait := R.wait.map f } : Rm).pls) = R.pls.map f := by simp [Rm.pls]
  have e4 : (({ R with held := R.held.map (fun x => (x.1, f x.2)), wait := R.wait.map f } : Rm).adr) = R.adr := by
    have : (R.pls.map f).map (·.a) = R.pls.map (·.a) := by
      rw [List.map_map]; exact List.map_congr_left fun x _ => hf x
    simp only [Rm.adr, e3, this]
    rfl
  have kf : ∀ b ∈ R.fix, ∀ o, h.get? b = some o → h'.get? b = some o := fun b hb o e => k b (List.mem_append_left _ hb) (fun q => ha (q ▸ hb)) o e
  refine ⟨⟨kf _ (by simp [Rm.fix]) _ x.at_.inst, ?_, ?_, ?_, ?_, fun p hq => ?_⟩, e4 ▸ x.new, e4 ▸ x.sep⟩
  · obtain ⟨a, b, c, d, e, f, g, i⟩ := x.at_.dict; exact ⟨a, b, c, d, e, f, g, kf _ (by simp [Rm.fix]) _ i⟩
  · obtain ⟨vs, e, a, b⟩ := x.at_.oct; exact ⟨vs, e, kf _ (by simp [Rm.fix]) _ a, b⟩
  · obtain ⟨ep, hd⟩ := x.at_.held; exact ⟨ep, by dsimp only; rw [e1]; exact hd.at' fun o e => kf _ (by simp [Rm.fix]) _ e⟩
  · obtain ⟨e, a⟩ := x.at_.wait; exact ⟨e, by dsimp only; rw [e2]; exact kf _ (by simp [Rm.fix]) _ a⟩
  · rw [e3] at hq
    obtain ⟨q, hq1, rfl⟩ := List.mem_map.mp hq
    exact hp q hq1
end
section
variable {prog : Program} {w : World} {A : Around} {E : Value → Shared → Prop} {Q : Flow → Shared → Prop} {s : Shared} {env : Env}
theorem while_h {test : Expr} {body : List Stmt} {pos : Pos} (I : Nat → Shared → Prop) (n : Nat) (h0 : I n s)
    (turn : ∀ n s', I n s' → wpAny (model prog w) A (isTrue test env (eval test env)) (fun b s₂ => if b = true then
      wpAny (model prog w) A (execs body env) (fun f s₃ => match f with | .ret v => Q (.ret v) s₃ | .brk => Q .next s₃ | _ => Stop (∃ m, m < n ∧ I m s₃)) (fun _ _ => False) s₂ else Q .next s₂) (fun _ _ => False) s') :
    wpAny (model prog w) A (exec (.While test body [] pos) env) Q E s := by
  refine wpAny_While (codeAny_whileLoop I ?_ n h0)
  intro n s' hI
  refine wpAny_mono (turn n s' hI) (fun b s₂ h₂ => ?_) fun _ _ e => e.elim
  cases b with
  | false =>
    simp only [Bool.false_eq_true, if_false] at h₂ ⊢
    exact wpAny_execs_nil h₂
  | true =>
    simp only [if_true] at h₂ ⊢
    refine wpAny_mono h₂ (fun f s₃ h₃ => ?_) fun _ _ e => e.elim
    cases f <;> first | exact h₃ | exact h₃.go
end
theorem st_cell {M : Model} {A : Around} {E : Value → Shared → Prop} {s : Shared} {env : Env} {g : Heap} {L c : Addr} {m : Str → Option Value} {o : Obj} {rest : List (Addr × Obj)} {x : Str} {v : Value} {v₀ : Option Value} {Q : Unit → Shared → Prop} (F : Fr g L s.heap m)
    (N : News g L s.heap ((c, o) :: rest)) (off : ∀ p ∈ rest, p.1 ≠ c) (hd : o.data = .cell v₀) (hc : env.cells.lookup x = some c) (hk : env.scope.kind = .function) (hl : env.kindOf x = some .cell)
    (h : ∀ h' o', Fr g L h' m → News g L h' ((c, o') :: rest) → o'.data = .cell (some v) → Q () { s with heap := h' }) : wpAny M A (storeName env x v) Q E s := by
  have hm := N _ (.head _)
  refine wpAny_storeName_cell hk hl hc ⟨o, hm.1, hd⟩ fun h' hv hs => ?_
  obtain ⟨o', ho', hd'⟩ := hv
  refine h h' o' ⟨F.ns.sameBut hs (Ne.symm hm.2.1), fun b ob e => (hs.2 b (fun q => ?_)).trans (F.keep b ob e), F.above⟩ (fun p hp => ?_) hd'
  · rw [q, hm.2.2] at e; cases e
  · rcases List.mem_cons.mp hp with rfl | hp
    · exact ⟨ho', hm.2⟩
    · have := N p (.tail _ hp)
      exact ⟨(hs.2 _ (off p hp)).trans this.1, this.2⟩
section
variable {w : World} {A : Around} {s : Shared} {E : Value → Shared → Prop}
theorem set_col {g : Heap} {L r dx ao ah aw : Addr} {m : Str → Option Value} {rest : List (Addr × Obj)} {k : Nat → Tok} {size low free mw col v : Value} {nd : Nat} {Q : Unit → Shared → Prop} (F : Fr g L s.heap m) (X : (hd.heap_1 w.params).In g)
    (N : News g L s.heap ((dx, dictOf (roomD w.params k size low free mw col ao ah aw) nd) :: rest)) (I : s.heap.get? r = some (instObj 54 dx)) (off : ∀ p ∈ rest, p.1 ≠ dx)
    (h : ∀ h', Fr g L h' m → News g L h' ((dx, dictOf (roomD w.params k size low free mw v ao ah aw) nd) :: rest) → Q () { s with heap := h', toks := s.toks + 2 }) :
    wpAny (model PR w) A (setAttr (.ref r) (Str.ofString "collections") v) Q E s := by
  refine' set_dict (dx := dx) F X N (ox := instObj 54 dx) ⟨I, rfl, rfl, (N _ (.head _)).1⟩ ?k5 ?k6 ?k7 ?k8 ?k9 ?k10 ?k11 ?k12 ?k13 ?_
  case k5 => exact rfl
  case k6 => k_is
  case k7 => k_is
  case k8 => k_is
  case k9 => k_is
  case k10 => k_get
  case k11 => exact put_col _ _ _ _ _ _ _ _ _ _ _ _ _ _
  case k12 => exact Upd.head off
  case k13 => exact Nat.le_of_ble_eq_true rfl
  exact h
end
end Mine
end
section
namespace Mine
/-- places that go down from g -/
structure Desc (g : Int) (ds : List Pl) : Prop where
  ok : ∀ d ∈ ds, 0 ≤ d.lo ∧ 0 < d.len ∧ d.lo + d.len ≤ g
  pw : ds.Pairwise fun p q => q.lo + q.len ≤ p.lo
theorem Desc.tail {g : Int} {d : Pl} {r : List Pl} (h : Desc g (d :: r)) : Desc (g - d.len) r :=
  ⟨fun x hx => by have := h.ok x (.tail _ hx); have := (List.pairwise_cons.mp h.pw).1 x hx; have := h.ok d (.head _); omega, (List.pairwise_cons.mp h.pw).2⟩
theorem Desc.left {g : Int} {a b : List Pl} (h : Desc g (a ++ b)) : Desc g a := ⟨fun d hd => h.ok d (List.mem_append_left _ hd), (List.pairwise_append.mp h.pw).1⟩
theorem Desc.rest : ∀ {a : List Pl} {g : Int} {b : List Pl}, Desc g (a ++ b) → Desc (goalOf g a) b
  | [], _, _, h => h
  | d :: r, g, b, h => by
    have h : Desc g (d :: (r ++ b)) := h
    exact Desc.rest (a := r) h.tail
theorem Desc.goal_le : ∀ {a : List Pl} {g : Int}, Desc g a → goalOf g a ≤ g
  | [], _, _ => Int.le_refl _
  | d :: r, g, h => Int.le_trans (Desc.goal_le (a := r) h.tail) (by have := (h.ok d (.head _)).2.1; omega)
theorem cut_len' {ns : List Int} {d : Pl} (h0 : 0 ≤ d.lo) (h1 : 0 ≤ d.len) (h2 : d.lo + d.len ≤ ns.length) : ((cutOf ns d).length : Int) = d.len := by
  unfold cutOf; rw [List.length_take, List.length_drop]; omega
theorem packN_length : ∀ {ds : List Pl} {ns : List Int} {g : Int}, Desc g ds → g ≤ ns.length → (packN ns g ds).length = ns.length
  | [], _, _, _, _ => rfl
  | d :: r, ns, g, h, hg => by
    have hd := h.ok d (.head _)
    have hc := cut_len' (ns := ns) hd.1 (Int.le_of_lt hd.2.1) (by omega)
    have e : (put ns (g - d.len).toNat (cutOf ns d)).length = ns.length := put_length (by omega)
    show (packN _ (g - d.len) r).length = _
    rw [packN_length h.tail (by rw [e]; omega), e]
theorem put_mem {ns ms : List Int} {k : Nat} {n : Int} (h : n ∈ put ns k ms) : n ∈ ns ∨ n ∈ ms := by
  unfold put at h
  rcases List.mem_append.mp h with h | h
  · rcases List.mem_append.mp h with h | h
    · exact .inl (List.mem_of_mem_take h)
    · exact .inr h
  · exact .inl (List.mem_of_mem_drop h)
theorem cut_mem {ns : List Int} {d : Pl} {n : Int} (h : n ∈ cutOf ns d) : n ∈ ns := List.mem_of_mem_drop (List.mem_of_mem_take h)
theorem packN_mem : ∀ {ds : List Pl} {ns : List Int} {g : Int} {n : Int}, n ∈ packN ns g ds → n ∈ ns
  | [], _, _, _, h => h
  | d :: r, ns, g, n, h => by
    rcases put_mem (packN_mem (ds := r) h) with h | h
    · exact h
    · exact cut_mem h
theorem reR_snoc {R : Rm} {done : List Pl} {d : Pl} (h : ∀ x ∈ done, x.a ≠ d.a) :
    reR R (done ++ [d]) = { { reR R done with ns := put (reR R done).ns (goalOf R.size done - d.len).toNat (cutOf (reR R done).ns d) } with
      held := (reR R done).held.map (fun x => (x.1, (fun p : Pl => if p.a = d.a then (⟨p.a, goalOf R.size done - d.len, p.len⟩ : Pl) else p) x.2)),
      wait := (reR R done).wait.map (fun p : Pl => if p.a = d.a then (⟨p.a, goalOf R.size done - d.len, p.len⟩ : Pl) else p) } := by
  have key : ∀ p : Pl, relo R.size (done ++ [d]) p = (fun p : Pl => if p.a = d.a then (⟨p.a, goalOf R.size done - d.len, p.len⟩ : Pl) else p) (relo R.size done p) := fun p => relo_snoc h
  have e1 : R.held.map (fun x => (x.1, relo R.size (done ++ [d]) x.2)) = (R.held.map (fun x => (x.1, relo R.size done x.2))).map (fun x => (x.1, (fun p : Pl => if p.a = d.a then (⟨p.a, goalOf R.size done - d.len, p.len⟩ : Pl) else p) x.2)) := by
    rw [List.map_map]
    exact List.map_congr_left fun x _ => by simp only [key, Function.comp]
  have e2 : R.wait.map (relo R.size (done ++ [d])) = (R.wait.map (relo R.size done)).map (fun p : Pl => if p.a = d.a then (⟨p.a, goalOf R.size done - d.len, p.len⟩ : Pl) else p) := by
    rw [List.map_map]
    exact List.map_congr_left fun x _ => by simp only [key, Function.comp]
  unfold reR
  rw [e1, e2, packN_snoc]
end Mine
end
section
local macro_rules
  | `(tactic| walk_at "exec Assign cons ListComp") => `(tactic| refine WhileAt.go ?_)
  | `(tactic| walk_at "exec While Compare") => `(tactic| refine WhileAt.go ?_)
namespace Mine
section
variable {w : World} {A : Around} {s : Shared} {H : Heap} {Q E : Value → Shared → Prop} {R : Rm}

theorem collect_c {ds : List Pl} (c : Ctx 3 w A H s) (x : RoomW w H s.heap R) (hk : R.held.length < 1000) (hw : R.wait.length < 1000) (ho : OctOk R.ns) (hsz : R.size = R.ns.length)
    (hds : ds.Perm (R.pls.filter fun p => decide (0 < p.len))) (hdesc : ds.Pairwise fun p q => q.lo + q.len ≤ p.lo) (hin : ∀ p ∈ ds, 0 ≤ p.lo ∧ p.lo + p.len ≤ R.size)
    (hQ : ∀ h' tk tk', Kept ([R.dx, R.ao] ++ R.pls.map (·.a)) s.heap h' → RoomW w H h' { reR R ds with free := goalOf R.size ds, col := R.col + 1 } → Q (.int (goalOf R.size ds - R.free) tk') { s with heap := h', toks := tk }) :
    wpAny (model PR w) A (call (.ref 99) [.ref R.r]) Q E s := by
  refine' enterC c ?k6 ?k7 ?k9 ?kB ?kN ?_ ?c2 ?c3 ?c4
  case k6 => k_is
  case k7 => k_is
  case k9 => exact BindsTo.of_eq rfl
  case kB => exact rfl
  case kN => decide
  case c2 => exact rfl
  case c3 => exact rfl
  case c4 => exact rfl
  intro hh1 tk cells b hc Y
  obtain ⟨oc, rfl, hcd⟩ := CellsAre.one Y
  have hcd : oc.data = .cell none := hcd
  have hL : s.heap.objs.size ∉ R.adr := fun q => Nat.lt_irrefl _ (x.at_.lt _ q)
  have hLc : s.heap.objs.size + 1 ∉ R.adr := fun q => Nat.lt_irrefl _ (Nat.lt_trans (Nat.lt_succ_self _) (x.at_.lt _ q))
  have x1 := x.kept b.kp (by simp)
  have ap := Rm.apart x.sep
  have hHc : H.get? (s.heap.objs.size + 1) = none := Heap.get?_none_of_le (Nat.le_of_lt (Nat.lt_trans (Nat.lt_of_le_of_lt (x.new _ R.m_r) (x.at_.lt _ R.m_r)) (Nat.lt_succ_self _)))
  have bm := b.mono (S' := [R.dx, R.ao] ++ R.pls.map (·.a)) (by simp)
  refine seg_k (bm.seg [(s.heap.objs.size + 1, oc)] c (by
    intro q hq
    rw [List.mem_singleton.mp hq]; exact ⟨(hc _ (.head _)).1, hHc, Nat.succ_ne_self _⟩)) fun g rest p loose mean mg mb G F' N' T' => ?_
  rw [List.singleton_append] at N'
  have X' := G.X
  have hnC : ∀ a ∈ R.adr, a ∉ [(s.heap.objs.size + 1, oc)].map (·.1) := fun a ha q => by
    have q : a = s.heap.objs.size + 1 := by simpa using q
    exact hLc (q ▸ ha)
  have I := G.old _ _ (fun q => hL (q ▸ R.m_r)) (hnC _ R.m_r) x1.at_.inst
  refine x1.at_.dictK fun k t0 t1 t2 t3 t4 nd hd => ?_
  have D := G.old _ _ (fun q => hL (q ▸ R.m_dx)) (hnC _ R.m_dx) hd
  have off : ∀ p ∈ rest, p.1 ≠ s.heap.objs.size + 1 := fun p hp q => G.off p hp (List.mem_singleton.mpr q)
  have hh : A.handled = none := c.ok.hd
  clear hc Y
  try dsimp only
  k_steps
  rename Fr _ _ _ _ => F1
  rename News _ _ _ _ => N1
  rename Obj.data _ = Data.cell (some (Value.int R.size t0)) => hcd1
  have ba := bm.after G F1 N1 (by ktr_rel) (by intro q hq; rw [List.mem_singleton.mp hq]; exact .inr (Nat.le_succ _))
  have xa := x1.seg G F1 N1 (by ktr_rel) hL hnC
  refine places_of_c ((c.deeper _ ba.st).le (by decide)) xa hk hw fun h2 tk2 Dp ep kp2 hDp hDpl => ?_
  have b2 := ba.call kp2 (by simp)
  have x2 := xa.stay kp2.stays
  have hc2 := kp2.stays _ _ (N1 _ (.tail _ (.head _))).1
  have hLD : s.heap.objs.size < Dp := Nat.lt_of_lt_of_le F1.ns.lt hDp
  have hDc : Dp ≠ s.heap.objs.size + 1 := Nat.ne_of_gt (Nat.lt_of_lt_of_le (Heap.lt_size (N1 _ (.tail _ (.head _))).1) hDp)
  clear I D F1 N1 X' T' G ba off hnC kp2 x1
  refine b2.seg0 c fun g rest p loose mean mg mb G F' N' T' X' => ?_
  have KC := G.old _ _ (Nat.succ_ne_self _) (by simp) hc2
  have KD := G.old _ _ (Nat.ne_of_gt hLD) (by simp) hDpl
  try dsimp only
  k_steps
  rename Fr _ _ _ _ => F1
  rename News _ _ _ _ => N1
  have ba := b2.after G F1 N1 (by ktr_rel) (by simp)
  have xa := x2.seg G F1 N1 (by ktr_rel) hL (by simp)
  have hpl : ∀ p ∈ R.pls.filter (fun p => decide (0 < p.len)), p ∈ R.pls := fun p hp => (List.mem_filter.mp hp).1
  refine next_highest_c (ps := R.pls.filter fun p => decide (0 < p.len)) ((c.deeper _ ba.st).le (by decide)) (KD.now F1 N1 (by ktr_rel)) (fun p hp => xa.at_.pls p (hpl p hp)) fun h3 tk3 kp3 => ?_
  have b3 := ba.call kp3 (by simp)
  have x3 := xa.stay kp3.stays
  have hc3 := kp3.stays _ _ (KC.now F1 N1 (by ktr_rel))
  have hD3 := kp3.stays _ _ (KD.now F1 N1 (by ktr_rel))
  clear F1 N1 X' T' G ba KC KD kp3 xa x2
  refine b3.seg0 c fun g rest p loose mean mg mb G F' N' T' X' => ?_
  try dsimp only
  k_steps
  unfold WhileAt
  rename Fr _ _ _ _ => F1
  rename News _ _ _ _ => N1
  have ba := b3.after G F1 N1 (by ktr_rel) (by simp)
  have xa := x3.seg G F1 N1 (by ktr_rel) hL (by simp)
  have hc4 := G.stay F1 N1 (by ktr_rel) _ _ (Nat.succ_ne_self _) (by simp) hc3
  have hD4 := G.stay F1 N1 (by ktr_rel) _ _ (Nat.ne_of_gt hLD) (by simp) hD3
  have hlen : ∀ p ∈ ds, 0 < p.len := fun p hp => by have := (List.mem_filter.mp (hds.mem_iff.mp hp)).2; simpa using this
  have hmem : ∀ p ∈ ds, p ∈ R.pls := fun p hp => (List.mem_filter.mp (hds.mem_iff.mp hp)).1
  have hlow : ds.Pairwise fun p q => q.lo < p.lo := hdesc.imp_of_mem fun {a b} ha hb h => by have := hlen b hb; omega
  rw [nhP_head hds.symm hlow (fun p hp => by have := hin p hp; have := hlen p hp; omega)] at ba
  clear F1 N1 X' T' G hc3 hD3 x3 b3
  refine while_h (fun n s' => ∃ h tk m done todo D e qs oc t1 tg, s' = { s with heap := h, toks := tk } ∧ ds = done ++ todo ∧ n = todo.length ∧ Bd H s s.heap.objs.size ([R.dx, R.ao] ++ R.pls.map (·.a)) m h ∧ RoomW w H h (reR R done) ∧
    h.get? (s.heap.objs.size + 1) = some oc ∧ oc.data = .cell (some (.int (belowOf R.size done) t1)) ∧ s.heap.objs.size < D ∧ D ≠ s.heap.objs.size + 1 ∧ h.get? D = some (listOf (waitOf qs).toArray e) ∧ qs.Perm todo ∧
    m (Str.ofString "space") = some (.ref R.r) ∧ m (Str.ofString "before") = some (.int R.free t2) ∧ m (Str.ofString "goal") = some (.int (goalOf R.size done) tg) ∧ m (Str.ofString "places") = some (.ref D) ∧ m (Str.ofString "place") = some (refOf todo.head?))
    ds.length ?_ ?_
  · refine ⟨_, _, _, [], ds, Dp, ep, _, _, _, _, rfl, rfl, rfl, ba, by rw [reR_nil]; exact xa, hc4, hcd1, hLD, hDc, hD4, hds.symm, rfl, rfl, rfl, rfl, rfl⟩
  have hDE : Desc R.size ds := ⟨fun d hd => ⟨(hin d hd).1, hlen d hd, (hin d hd).2⟩, hdesc⟩
  have hdsn : (ds.map (·.a)).Nodup := (hds.map (·.a)).nodup_iff.mpr (((List.nodup_append.mp x.sep).2.1).sublist (List.filter_sublist.map _))
  clear ba xa hc4 hcd1 hD4 hDpl b2 hcd b bm hc2
  rintro n s' ⟨h, tk, m, done, todo, Dq, e, qs, oc1, t1, tg, rfl, hdt, rfl, b, x1, hcc, hcd, hLD, hDc, hDq, hqs, q1, q2, q3, q4, q5⟩
  have hlast := belowOf R.size done
  cases todo with
  | nil =>
    have q5 : m (Str.ofString "place") = some .none := q5
    rw [List.append_nil] at hdt
    subst hdt
    refine x1.at_.dictK fun k t0' t1' t2' t3 t4 nd hd => ?_
    have adr' := reR_adr R ds
    refine seg_k (b.seg [(R.dx, dictOf (roomD w.params k (.int R.size t0') (.int R.low t1') (.int R.free t2') (.int R.mw t3) (.int R.col t4) R.ao R.ah R.aw) nd)] c (by
      intro q hq
      rw [List.mem_singleton.mp hq]; exact ⟨hd, x.none _ R.m_dx, fun q => hL (q ▸ R.m_dx)⟩)) fun g rest p loose mean mg mb G F' N' T' => ?_
    rw [List.singleton_append] at N'
    have X' := G.X
    have I := G.old _ _ (fun q => hL (q ▸ R.m_r)) (by simpa using ap.r_dx) x1.at_.inst
    have off : ∀ p ∈ rest, p.1 ≠ R.dx := fun p hp q => G.off p hp (List.mem_singleton.mpr q)
    k_steps
    rename Fr _ _ _ _ => F1
    rename News _ _ _ _ => N1
    refine set_free F1 X' N1 (I.now F1 N1 (by ktr_rel)) off fun h3 F3 N3 => ?_
    clear F1 N1
    k_steps
    rename Fr _ _ _ _ => F1
    rename News _ _ _ _ => N1
    refine set_col F1 X' N1 (I.now F1 N1 (by ktr_rel)) off fun h4 F4 N4 => ?_
    clear F1 N1
    k_steps
    try dsimp only
    rename Fr _ _ _ _ => F1
    rename News _ _ _ _ => N1
    have ba := b.after G F1 N1 (by ktr_rel) (by intro q hq; rw [List.mem_singleton.mp hq]; exact .inl (.head _))
    exact hQ _ _ _ ba.kp (x1.setDict (k' := k) (free := goalOf R.size ds) (col := R.col + 1) (fun a ha hne o e => G.stay F1 N1 (by ktr_rel) a o (fun q => hL (q ▸ (adr' ▸ ha))) (fun q => hne (List.mem_singleton.mp q)) e) (N1 _ (.head _)).1)
  | cons pl todo =>
    have q5 : m (Str.ofString "place") = some (.ref pl.a) := q5
    have adr' := reR_adr R done
    have hplm : pl ∈ ds := by rw [hdt]; simp
    have hdone : ∀ d ∈ done, d.a ≠ pl.a := fun d hd q => by
      have := hdsn
      rw [hdt, List.map_append, List.map_cons] at this
      exact (List.nodup_append.mp this).2.2 _ (List.mem_map_of_mem hd) _ (.head _) q
    have hrest : ∀ q ∈ todo, q.a ≠ pl.a ∧ ∀ d ∈ done, d.a ≠ q.a := fun q hq => by
      have := hdsn
      rw [hdt, List.map_append, List.map_cons] at this
      obtain ⟨_, n2, n3⟩ := List.nodup_append.mp this
      exact ⟨fun z => (List.nodup_cons.mp n2).1 (z ▸ List.mem_map_of_mem hq), fun d hd z => n3 _ (List.mem_map_of_mem hd) _ (.tail _ (List.mem_map_of_mem hq)) z⟩
    have hDE1 : Desc R.size done := (hdt ▸ hDE).left
    have hDE2 := (hdt ▸ hDE).rest
    have hg := (hDE2.ok pl (.head _)).2.2
    have hpl1 : pl ∈ (reR R done).pls := by rw [reR_pls]; exact List.mem_map.mpr ⟨pl, hmem pl hplm, relo_far hdone⟩
    refine seg_k (b.seg [(s.heap.objs.size + 1, oc1)] c (by
      intro q hq
      rw [List.mem_singleton.mp hq]; exact ⟨hcc, hHc, Nat.succ_ne_self _⟩)) fun g rest p loose mean mg mb G F' N' T' => ?_
    rw [List.singleton_append] at N'
    have X' := G.X
    have hnC : ∀ a ∈ R.adr, a ∉ [(s.heap.objs.size + 1, oc1)].map (·.1) := fun a ha q => by
      have q : a = s.heap.objs.size + 1 := by simpa using q
      exact hLc (q ▸ ha)
    have I := G.old _ _ (fun q => hL (q ▸ R.m_r)) (hnC _ R.m_r) x1.at_.inst
    refine x1.at_.dictK fun k t0 t1 t2 t3 t4 nd hd => ?_
    have D := G.old _ _ (fun q => hL (q ▸ R.m_dx)) (hnC _ R.m_dx) hd
    obtain ⟨vs, e1, hoc, hi⟩ := x1.at_.oct
    have O := G.old _ _ (fun q => hL (q ▸ R.m_ao)) (hnC _ R.m_ao) hoc
    obtain ⟨u0, u1, e0, hpa⟩ := x1.at_.pls pl hpl1
    have P := G.old _ _ (fun q => hL (q ▸ Rm.m_pl (hmem pl hplm))) (hnC _ (Rm.m_pl (hmem pl hplm))) hpa
    have off : ∀ p ∈ rest, p.1 ≠ s.heap.objs.size + 1 := fun p hp q => G.off p hp (List.mem_singleton.mpr q)
    have hlv : vs.length = R.ns.length := hi.length.trans (packN_length hDE1 (by rw [hsz]; exact Int.le_refl _))
    have hz : vs.length ≤ sizeLine := by rw [hlv, sizeLine_eq]; have := ho.few; omega
    have hinp := hin pl hplm
    have hlp := hlen pl hplm
    k_steps
    rename Fr _ _ _ _ => F1
    rename News _ _ _ _ => N1
    rename Obj.data _ = Data.cell (some (Value.int pl.lo u0)) => hcd2
    have ba := b.after G F1 N1 (by ktr_rel) (by intro q hq; rw [List.mem_singleton.mp hq]; exact .inr (Nat.le_succ _))
    have xa := x1.seg G F1 N1 (by ktr_rel) (by rw [adr']; exact hL) (by rw [adr']; exact hnC)
    rw [show (pl.lo + pl.len - pl.lo).toNat = pl.len.toNat by omega] at N1
    have hI := (hi.drop pl.lo.toNat).take pl.len.toNat
    have hnl : (reR R done).ns.length = R.ns.length := packN_length hDE1 (by rw [hsz]; exact Int.le_refl _)
    have hcl := cut_len' (ns := (reR R done).ns) (d := pl) hinp.1 (Int.le_of_lt hlp) (by rw [hnl]; omega)
    refine write_octets_c (R := reR R done) (ms := cutOf (reR R done).ns pl) ((c.deeper _ ba.st).le (by decide)) xa (N1 _ (.head _)).1 hI (fun q => ?_) (by rw [hnl]; exact ho.few) (by omega) (by rw [hnl]; have := hDE1.goal_le; omega) fun h5 tk5 kp5 x5 => ?_
    · rename (∀ p : Addr × Obj, p ∈ _ → p.1 < _) => hDl
      have h6 := hDl _ (.tail _ (.head _))
      rw [q] at h6
      exact Nat.lt_asymm (Nat.lt_trans (Nat.lt_succ_self _) h6) (x.at_.lt _ R.m_ao)
    have b5 := ba.call kp5 (by intro a ha; rw [List.mem_singleton.mp ha]; exact ⟨.inl (List.mem_append_left _ (.tail _ (.head _))), fun q => hL (q ▸ R.m_ao), x.none _ R.m_ao⟩)
    have hc5 := kp5 (s.heap.objs.size + 1) _ (fun q => hLc (by rw [List.mem_singleton.mp q]; exact R.m_ao)) (N1 _ (.tail _ (.tail _ (.head _)))).1
    have hD5 := kp5 Dq _ (fun q => Nat.lt_asymm hLD (by rw [List.mem_singleton.mp q]; exact x.at_.lt _ R.m_ao)) (G.stay F1 N1 (by ktr_rel) _ _ (Nat.ne_of_gt hLD) (by simpa using hDc) hDq)
    clear I D O P F1 N1 X' T' G ba off hnC kp5 xa b hcc hDq hoc hi hI hd hpa
    have hplr := hmem pl hplm
    obtain ⟨u0', u1', e0', hpa⟩ := x5.at_.pls pl hpl1
    refine seg_k (b5.seg [(pl.a, W.listOf [Value.int pl.lo u0', Value.int pl.len u1'].toArray e0')] c (by
      intro q hq
      rw [List.mem_singleton.mp hq]; exact ⟨hpa, x.none _ (Rm.m_pl hplr), fun q => hL (q ▸ Rm.m_pl hplr)⟩)) fun g rest p loose mean mg mb G F' N' T' => ?_
    rw [List.singleton_append] at N'
    have X' := G.X
    have off : ∀ p ∈ rest, p.1 ≠ pl.a := fun p hp q => G.off p hp (List.mem_singleton.mpr q)
    try dsimp only
    k_steps
    unfold WhileAt
    rename Fr _ _ _ _ => F1
    rename News _ _ _ _ => N1
    have ba := b5.after G F1 N1 (by ktr_rel) (by intro q hq; rw [List.mem_singleton.mp hq]; exact .inl (List.mem_append_right _ (List.mem_map_of_mem (f := Pl.a) hplr)))
    have hst : ∀ a, a ≠ pl.a → a ≠ s.heap.objs.size → ∀ o, h5.get? a = some o → (_ : Heap).get? a = some o := fun a h1 h2 o e => G.stay F1 N1 (by ktr_rel) a o h2 (by simpa using h1) e
    have x6 := x5.setLo (a := pl.a) (f := fun p : Pl => if p.a = pl.a then (⟨p.a, goalOf R.size done - pl.len, p.len⟩ : Pl) else p) (fun p => by split <;> rfl)
      (fun b hb hne o e => hst b hne (fun q => hL (q ▸ (adr' ▸ hb))) o e) (fun q => ?_) (fun p hp => ?_)
    rw [← reR_snoc hdone] at x6
    rotate_left
    · have nf : pl.a ∉ R.fix := by simp [Rm.fix]; exact ap.pl _ hplr
      exact nf q
    · have hp5 := x5.at_.pls p hp
      split
      · rename_i he
        obtain ⟨z0, z1, ze, hz5⟩ := hp5
        rw [he, hpa] at hz5
        have hz5 := Option.some.inj hz5
        injection hz5 with _ _ hz5 _
        injection hz5 with hz5 _
        have hz5 := congrArg Array.toList hz5
        simp only [List.cons.injEq, Value.int.injEq] at hz5
        have hq2 : PlAt _ ⟨pl.a, goalOf R.size done - pl.len, pl.len⟩ := ⟨_, _, _, (N1 _ (.head _)).1⟩
        rw [he, ← hz5.2.1.1]
        exact hq2
      · rename_i he
        exact hp5.stay (hst _ he (fun q => hL (by have := Rm.m_pl hp; rw [q] at this; exact adr' ▸ this)))
    have hc6 := hst (s.heap.objs.size + 1) (fun q => hLc (by rw [q]; exact Rm.m_pl hplr)) (Nat.succ_ne_self _) _ hc5
    have hD6 := hst Dq (fun q => Nat.lt_asymm hLD (by rw [q]; exact x.at_.lt _ (Rm.m_pl hplr))) (Nat.ne_of_gt hLD) _ hD5
    clear F1 N1 X' T' G hst b5 x5 off hpa hc5 hD5 F' N'
    refine ba.seg0 c fun g rest p loose mean mg mb G F' N' T' X' => ?_
    have KC := G.old _ _ (Nat.succ_ne_self _) (by simp) hc6
    have KD := G.old _ _ (Nat.ne_of_gt hLD) (by simp) hD6
    refine' assign_comp_h ?hsw ?hclos ?hcell ?hkind ?hnames ?hx ?hy ?hp ?h ?hs
    case hsw => with_unfolding_all rfl
    case hclos => with_unfolding_all rfl
    case hcell => decide
    case hkind => with_unfolding_all rfl
    case hnames => decide
    case hx => with_unfolding_all rfl
    case hy => with_unfolding_all rfl
    case hp => with_unfolding_all rfl
    case hs => intro _; with_unfolding_all rfl
    try dsimp only
    k_steps
    rename Fr _ _ _ _ => F1
    rename News _ _ _ _ => N1
    have hqm : ∀ q ∈ qs, q ∈ ds := fun q hq => by rw [hdt]; exact List.mem_append_right _ (hqs.mem_iff.mp hq)
    have hqn : (qs.map (·.a)).Nodup := (hqs.map (·.a)).nodup_iff.mpr (by rw [hdt, List.map_append] at hdsn; exact (List.nodup_append.mp hdsn).2.1)
    have hqz : (waitOf qs).toArray.size ≤ sizeLine := by
      have e1 := hqs.length_eq
      have e2 := hds.length_eq
      have e3 := List.length_filter_le (fun p : Pl => decide (0 < p.len)) R.pls
      have e4 : R.pls.length = R.held.length + R.wait.length := by simp [Rm.pls]
      have e5 : ds.length = done.length + (pl :: todo).length := by rw [hdt]; simp
      rw [List.size_toArray, waitOf, List.length_map, sizeLine_eq]; omega
    have hrl : ∀ q ∈ qs, q ≠ pl → q ∈ todo := fun q hq hn => (List.mem_cons.mp (hqs.mem_iff.mp hq)).resolve_left hn
    have hat : ∀ q ∈ qs, ∃ lo' w0 w1 we, Known g rest q.a (W.listOf [Value.int lo' w0, Value.int q.len w1].toArray we) ∧ decide (q.lo < pl.lo) = decide (lo' < pl.lo) := fun q hq => by
      have hm : relo R.size (done ++ [pl]) q ∈ (reR R (done ++ [pl])).pls := by rw [reR_pls]; exact List.mem_map_of_mem (hmem q (hqm q hq))
      obtain ⟨w0, w1, we, hw6⟩ := x6.at_.pls _ hm
      refine ⟨_, w0, w1, we, G.old _ _ (fun z => hL (by rw [← z]; exact Rm.m_pl (hmem q (hqm q hq)))) (by simp) hw6, ?_⟩
      by_cases hn : q = pl
      · subst hn
        rw [relo_snoc hdone, if_pos rfl]
        rw [decide_eq_false (Int.lt_irrefl _), decide_eq_false (by dsimp only; omega)]
      · have := hrest q (hrl q hq hn)
        rw [relo_far fun d hd => ?_]
        rcases List.mem_append.mp hd with hd | hd
        · exact this.2 d hd
        · rw [List.mem_singleton.mp hd]; exact Ne.symm this.1
    refine comp_listS (pOf qs fun q => decide (q.lo < pl.lo)) (fun _ _ v y => y = v) rfl (c.ok.deeper _).hd F1 N1 (items := (waitOf qs).toArray) ?_ hqz ⟨?_, ?_, ?_⟩ ?_
    · exact list_k F1 N1 KD (by ktr_rel)
    · exact fun C h h' v y q _ => q
    · intro C i v s₃ m₃ hP F₃ N₃ hm _
      obtain ⟨q, hq, rfl⟩ := pl_of_ref hP
      obtain ⟨lo', w0, w1, we, P, hlo⟩ := hat q hq
      rw [pOf_at hqn hq, hlo]
      obtain ⟨h₃, _, _, _, _⟩ := s₃
      clear F1 N1
      k_steps
      exact ⟨_, _, rfl, fun _ _ e => e⟩
    · intro C i v s₃ m₃ hP _ F₃ N₃ hm _
      obtain ⟨h₃, _, _, _, _⟩ := s₃
      clear F1 N1
      k_steps
      exact ⟨_, _, rfl, fun _ _ e => e⟩
    · intro D2 C ys e2 h2 tk2 hDC hLD2 hlt F2 N2 hP
      have hys := paired_eq hP
      rw [show (waitOf qs).toArray.toList = waitOf qs from rfl, filter_pOf hqn _ fun _ h => h] at hys
      have hys : ys = (waitOf (qs.filter fun q => decide (q.lo < pl.lo))).toArray := by rw [← hys]
      subst hys
      clear F1 N1 hP
      try dsimp only
      k_steps
      rename Fr _ _ _ _ => F1
      rename News _ _ _ _ => N1
      have b7 := ba.after G F1 N1 (by ktr_rel) (by simp)
      have x7 := x6.seg G F1 N1 (by ktr_rel) (by rw [reR_adr]; exact hL) (by simp)
      have hlow2 : (pl :: todo).Pairwise fun p q => q.lo < p.lo := by rw [hdt] at hlow; exact (List.pairwise_append.mp hlow).2.1
      obtain ⟨hl1, hl2⟩ := List.pairwise_cons.mp hlow2
      have hqf : (qs.filter fun q => decide (q.lo < pl.lo)).Perm todo := by
        have e9 : (pl :: todo).filter (fun q => decide (q.lo < pl.lo)) = todo := by
          rw [List.filter_cons_of_neg (by simp), List.filter_eq_self]
          intro q hq
          simpa using hl1 q hq
        have := hqs.filter fun q => decide (q.lo < pl.lo)
        rw [e9] at this
        exact this
      refine next_highest_c (ps := qs.filter fun q => decide (q.lo < pl.lo)) ((c.deeper _ b7.st).le (by decide)) (N1 _ (.head _)).1 (fun q hq => ?_) fun h8 tk8 kp8 => ?_
      · have ht := hqf.mem_iff.mp hq
        have hm : relo R.size (done ++ [pl]) q ∈ (reR R (done ++ [pl])).pls := by rw [reR_pls]; exact List.mem_map_of_mem (hmem q (by rw [hdt]; exact List.mem_append_right _ (.tail _ ht)))
        have hr := hrest q ht
        rw [relo_far fun d hd => ?_] at hm
        · exact x7.at_.pls q hm
        · rcases List.mem_append.mp hd with hd | hd
          · exact hr.2 d hd
          · rw [List.mem_singleton.mp hd]; exact Ne.symm hr.1
      rw [nhP_head hqf hl2 hl1]
      have b8 := b7.call kp8 (by simp)
      have x8 := x7.stay kp8.stays
      have hc8 := kp8.stays _ _ (KC.now F1 N1 (by ktr_rel))
      have hD8 := kp8.stays _ _ (N1 _ (.head _)).1
      have hDc2 : D2 ≠ s.heap.objs.size + 1 := by
        rcases KC with e | e
        · exact absurd (Heap.lt_size e) (Nat.not_lt.mpr (Nat.le_trans F1.above (Nat.le_succ _)))
        · exact Nat.ne_of_gt (hlt _ e)
      clear F1 N1 X' T' G KC KD kp8 x7 b7 x6 ba
      refine b8.seg0 c fun g rest p loose mean mg mb G F' N' T' X' => ?_
      try dsimp only
      k_steps
      try dsimp only
      rename Fr _ _ _ _ => F1
      rename News _ _ _ _ => N1
      have b9 := b8.after G F1 N1 (by ktr_rel) (by simp)
      have x9 := x8.seg G F1 N1 (by ktr_rel) (by rw [reR_adr]; exact hL) (by simp)
      have hc9 := G.stay F1 N1 (by ktr_rel) _ _ (Nat.succ_ne_self _) (by simp) hc8
      have hD9 := G.stay F1 N1 (by ktr_rel) _ _ (Nat.ne_of_gt hLD2) (by simp) hD8
      refine .mk ⟨todo.length, by simp, _, _, _, done ++ [pl], todo, D2, e2, _, _, _, ?tg, rfl, by rw [hdt]; simp, rfl, b9, x9, hc9, by rw [belowOf_snoc]; exact hcd2, hLD2, hDc2, hD9, hqf, q1, q2, ?_, rfl, rfl⟩
      rotate_left
      · rw [goalOf_snoc]
        rfl
end
end Mine
end
section
namespace Mine
open PySem.W (KasT kas_asc kas_desc kas_rev kas_tail3 kas_descPart kas_count kas_place kas_bin kas_sort)
/-- a tree whose asks lie below n, answered by lt -/
def TOk (lt : Nat → Nat → Bool) (n : Nat) {α : Type} : KasT α → (α → Prop) → Prop
  | .ret a, P => P a
  | .ask i j k, P => i < n ∧ j < n ∧ TOk lt n (k (lt i j)) P
section
variable {lt : Nat → Nat → Bool} {n : Nat}
theorem TOk_mono {α : Type} {P P' : α → Prop} (hp : ∀ a, P a → P' a) : ∀ (t : KasT α), TOk lt n t P → TOk lt n t P'
  | .ret a, h => hp a h
  | .ask i j k, h => ⟨h.1, h.2.1, TOk_mono hp (k (lt i j)) h.2.2⟩
theorem TOk_bind {α β : Type} {f : α → KasT β} {P : β → Prop} : ∀ (t : KasT α), TOk lt n t (fun a => TOk lt n (f a) P) → TOk lt n (t.bind f) P
  | .ret a, h => h
  | .ask i j k, h => ⟨h.1, h.2.1, TOk_bind (k (lt i j)) h.2.2⟩
theorem TOk_wp {α : Type} {P : α → Prop} {cmp : Nat → Nat → (Bool → Shared → Prop) → Shared → Prop} {Q : α → Shared → Prop} {Inv : Shared → Prop}
    (hc : ∀ i j s C, i < n → j < n → Inv s → (∀ s', Inv s' → C (lt i j) s') → cmp i j C s) (hq : ∀ a s, P a → Inv s → Q a s) : ∀ (t : KasT α) (s : Shared), TOk lt n t P → Inv s → t.kasWp cmp Q s
  | .ret a, s, h, hi => hq a s h hi
  | .ask i j k, s, h, hi => hc i j s _ h.1 h.2.1 hi fun s' hi' => TOk_wp hc hq (k (lt i j)) s' h.2.2 hi'

def PermN (n : Nat) (p : Array Nat) : Prop := p.toList.Perm (List.range n)
theorem PermN.size {p : Array Nat} (h : PermN n p) : p.size = n := by have := h.length_eq; simpa using this
theorem PermN.getD {p : Array Nat} (h : PermN n p) {i : Nat} (hi : i < n) : p.getD i 0 < n := by
  have hs : i < p.size := by rw [h.size]; exact hi
  have : p.getD i 0 = p[i] := by simp [Array.getD, hs]
  rw [this]
  exact List.mem_range.mp (h.mem_iff.mp (by simp))
theorem PermN.inj {p : Array Nat} (h : PermN n p) {i j : Nat} (hi : i < n) (hj : j < n) (e : p.getD i 0 = p.getD j 0) : i = j := by
  have hs := h.size
  have hn : p.toList.Nodup := h.nodup_iff.mpr List.nodup_range
  have e1 : p.getD i 0 = p.toList[i]'(by simp [hs, hi]) := by simp [Array.getD, hs, hi]
  have e2 : p.getD j 0 = p.toList[j]'(by simp [hs, hj]) := by simp [Array.getD, hs, hj]
  rw [e1, e2] at e
  exact (List.getElem_inj hn).mp e
theorem PermN.of {p q : Array Nat} (h : PermN n p) (k : q.Perm p) : PermN n q := (Array.perm_iff_toList_perm.mp k).trans h
theorem getD_rev {p : Array Nat} {i j : Nat} (hj : j ≤ p.size) (k : Nat) : (kas_rev p i j).getD k 0 = if i ≤ k ∧ k < j then p.getD (i + j - 1 - k) 0 else p.getD k 0 := by
  unfold kas_rev
  rw [Array.getD_eq_getD_getElem?, getElem?_mirror_all hj, Array.getD_eq_getD_getElem?, Array.getD_eq_getD_getElem?]
  split <;> rfl
theorem getD_bubble {p : Array Nat} {src d : Nat} (hs : src < p.size) (hd : d ≤ src) (k : Nat) :
    (bubble p src d).getD k 0 = if k = src - d then p.getD src 0 else if src - d < k ∧ k ≤ src then p.getD (k - 1) 0 else p.getD k 0 := by
  rw [Array.getD_eq_getD_getElem?, getElem?_bubble hs _ hd]
  simp only [Array.getD_eq_getD_getElem?]
  split
  · rfl
  · split <;> rfl
end
section
variable {key : Nat → Int} {n : Nat} {p : Array Nat}
abbrev ltK (key : Nat → Int) : Nat → Nat → Bool := fun i j => decide (key i < key j)
def KY (key : Nat → Int) (p : Array Nat) (i : Nat) : Int := key (p.getD i 0)
theorem ltK_pos {i j : Nat} (h : KY key p i < KY key p j) : ltK key (p.getD i 0) (p.getD j 0) = true := decide_eq_true h
theorem ltK_neg {i j : Nat} (h : ¬ KY key p i < KY key p j) : ¬ ltK key (p.getD i 0) (p.getD j 0) = true := fun e => h (of_decide_eq_true e)
def UpP (key : Nat → Int) (p : Array Nat) (m : Nat) : Prop := ∀ i j, i < j → j < m → KY key p i < KY key p j
def DownP (key : Nat → Int) (p : Array Nat) (m : Nat) : Prop := ∀ i j, i < j → j < m → KY key p j < KY key p i
def InjN (key : Nat → Int) (n : Nat) : Prop := ∀ i j, i < n → j < n → key i = key j → i = j

theorem UpP.one : UpP key p 1 := fun i j h1 h2 => by omega
theorem KY_ne (hp : PermN n p) (hi : InjN key n) {i j : Nat} (h1 : i < n) (h2 : j < n) (h : i ≠ j) : KY key p i ≠ KY key p j := fun e =>
  h (hp.inj h1 h2 (hi _ _ (hp.getD h1) (hp.getD h2) e))
theorem UpP.more {m : Nat} (h : UpP key p m) (hm : 1 ≤ m) (hl : KY key p (m - 1) < KY key p m) : UpP key p (m + 1) := fun i j h1 h2 => by
  by_cases hj : j < m
  · exact h i j h1 hj
  · have : j = m := by omega
    subst this
    by_cases hi : i = j - 1
    · rw [hi]; exact hl
    · exact Int.lt_trans (h i (j - 1) (by omega) (by omega)) hl
theorem DownP.more {m : Nat} (h : DownP key p m) (hm : 1 ≤ m) (hl : KY key p m < KY key p (m - 1)) : DownP key p (m + 1) := fun i j h1 h2 => by
  by_cases hj : j < m
  · exact h i j h1 hj
  · have : j = m := by omega
    subst this
    by_cases hi : i = j - 1
    · rw [hi]; exact hl
    · exact Int.lt_trans hl (h i (j - 1) (by omega) (by omega))

theorem asc_ok (hp : PermN n p) (hi : InjN key n) : ∀ (f m : Nat), 1 ≤ m → m + f ≤ n → UpP key p m →
    TOk (ltK key) n (kas_asc p f m) fun k => m ≤ k ∧ k ≤ m + f ∧ UpP key p k ∧ (k = m + f ∨ KY key p k < KY key p (k - 1))
  | 0, m, h1, h2, hs => ⟨Nat.le_refl _, Nat.le_refl _, hs, .inl rfl⟩
  | f + 1, m, h1, h2, hs => by
    refine ⟨hp.getD (by omega), hp.getD (by omega), ?_⟩
    show TOk _ _ (if ltK key (p.getD m 0) (p.getD (m - 1) 0) = true then _ else _) _
    by_cases hc : KY key p m < KY key p (m - 1)
    · rw [if_pos (ltK_pos hc)]
      exact ⟨Nat.le_refl _, by omega, hs, .inr hc⟩
    · rw [if_neg (ltK_neg hc)]
      have hne := KY_ne hp hi (i := m) (j := m - 1) (by omega) (by omega) (by omega)
      refine TOk_mono (fun k hk => ⟨by omega, by omega, hk.2.2.1, ?_⟩) _ (asc_ok hp hi f (m + 1) (by omega) (by omega) (hs.more h1 (by omega)))
      rcases hk.2.2.2 with h | h
      · exact .inl (by omega)
      · exact .inr h

theorem desc_ok (hp : PermN n p) (hi : InjN key n) : ∀ (f m : Nat), 1 ≤ m → m + f ≤ n → DownP key p m →
    TOk (ltK key) n (kas_desc f p m 0) fun r => r.1 = p ∧ r.2.2 = 0 ∧ m ≤ r.2.1 ∧ r.2.1 ≤ m + f ∧ DownP key p r.2.1
  | 0, m, h1, h2, hs => ⟨rfl, rfl, Nat.le_refl _, Nat.le_refl _, hs⟩
  | f + 1, m, h1, h2, hs => by
    refine ⟨hp.getD (by omega), hp.getD (by omega), ?_⟩
    show TOk _ _ (if ltK key (p.getD m 0) (p.getD (m - 1) 0) = true then _ else _) _
    have hne := KY_ne hp hi (i := m) (j := m - 1) (by omega) (by omega) (by omega)
    by_cases hc : KY key p m < KY key p (m - 1)
    · rw [if_pos (ltK_pos hc), if_neg (by omega)]
      exact TOk_mono (fun r hr => ⟨hr.1, hr.2.1, by omega, by omega, hr.2.2.2.2⟩) _ (desc_ok hp hi f (m + 1) (by omega) (by omega) (hs.more h1 hc))
    · rw [if_neg (ltK_neg hc)]
      refine ⟨hp.getD (by omega), hp.getD (by omega), ?_⟩
      show TOk _ _ (if ltK key (p.getD (m - 1) 0) (p.getD m 0) = true then _ else _) _
      rw [if_pos (ltK_pos (show KY key p (m - 1) < KY key p m by omega))]
      exact ⟨rfl, rfl, Nat.le_refl _, by show m ≤ _; omega, hs⟩

theorem KY_rev {i j : Nat} (hj : j ≤ p.size) (k : Nat) : KY key (kas_rev p i j) k = if i ≤ k ∧ k < j then KY key p (i + j - 1 - k) else KY key p k := by
  unfold KY
  rw [getD_rev hj]
  split <;> rfl
theorem rev_perm (hp : PermN n p) (i j : Nat) : PermN n (kas_rev p i j) := hp.of (mirror_perm _ _ _ _)

theorem tail3_ok (hp : PermN n p) (hi : InjN key n) {m : Nat} (h1 : 1 ≤ m) (h2 : m ≤ n) (hs : DownP key p m) :
    TOk (ltK key) n (kas_tail3 m n p) fun r => 1 ≤ r.1 ∧ r.1 ≤ n ∧ PermN n r.2 ∧ UpP key r.2 r.1 := by
  unfold kas_tail3
  have hq := rev_perm hp 0 m
  refine TOk_bind _ (TOk_mono (fun k hk => ?_) _ (asc_ok hq hi (n - m) m h1 (by omega) ?_))
  · exact ⟨by show 1 ≤ k; omega, by show k ≤ n; omega, hq, hk.2.2.1⟩
  · intro i j hij hj
    rw [KY_rev (by rw [hp.size]; exact h2), KY_rev (by rw [hp.size]; exact h2), if_pos (by omega), if_pos (by omega)]
    exact hs _ _ (by omega) (by omega)

theorem descPart_ok (hp : PermN n p) (hi : InjN key n) {m : Nat} (h1 : 1 ≤ m) (h2 : m + 1 ≤ n) (hs : DownP key p (m + 1)) :
    TOk (ltK key) n (kas_descPart m n p) fun r => 1 ≤ r.1 ∧ r.1 ≤ n ∧ PermN n r.2 ∧ UpP key r.2 r.1 := by
  unfold kas_descPart
  refine TOk_bind _ (TOk_mono (fun r hr => ?_) _ (desc_ok hp hi (n - (m + 1)) (m + 1) (by omega) (by omega) hs))
  obtain ⟨e1, e2, e3, e4, e5⟩ := hr
  rw [if_neg (by omega), e1]
  exact tail3_ok hp hi (by omega) (by omega) e5

theorem count_ok (hp : PermN n p) (hi : InjN key n) (hn : 1 ≤ n) :
    TOk (ltK key) n (kas_count n p) fun r => 1 ≤ r.1 ∧ r.1 ≤ n ∧ PermN n r.2 ∧ UpP key r.2 r.1 := by
  unfold kas_count
  refine TOk_bind _ (TOk_mono (fun m hm => ?_) _ (asc_ok hp hi (n - 1) 1 (Nat.le_refl _) (by omega) UpP.one))
  obtain ⟨h1, h2, h3, h4⟩ := hm
  have done : 1 ≤ (m, p).1 ∧ (m, p).1 ≤ n ∧ PermN n (m, p).2 ∧ UpP key (m, p).2 (m, p).1 := ⟨h1, by show m ≤ n; omega, hp, h3⟩
  by_cases e : (m == n) = true
  · rw [if_pos e]
    exact done
  · rw [if_neg e]
    have e : m ≠ n := by simpa using e
    by_cases e2 : m > 1
    · rw [if_pos e2]
      refine ⟨hp.getD (by omega), hp.getD (by omega), ?_⟩
      show TOk _ _ (if ltK key (p.getD 0 0) (p.getD (m - 1) 0) = true then _ else _) _
      rw [if_pos (ltK_pos (h3 0 (m - 1) (by omega) (by omega)))]
      exact done
    · rw [if_neg e2]
      have : m = 1 := by omega
      subst this
      refine descPart_ok hp hi (Nat.le_refl _) (by omega) (DownP.more (fun i j a b => by omega) (Nat.le_refl _) ?_)
      rcases h4 with h4 | h4
      · omega
      · exact h4

theorem place_ok (hp : PermN n p) (hi : InjN key n) {k : Nat} (hk : k < n) (hs : UpP key p k) : ∀ (f l r : Nat), l ≤ r → r ≤ k → r - l ≤ f → (∀ i, i < l → KY key p i < KY key p k) → (∀ i, r ≤ i → i < k → KY key p k < KY key p i) →
    TOk (ltK key) n (kas_place p k f l r) fun m => m ≤ k ∧ (∀ i, i < m → KY key p i < KY key p k) ∧ ∀ i, m ≤ i → i < k → KY key p k < KY key p i
  | 0, l, r, h1, h2, h3, ha, hb => by
    have : l = r := by omega
    subst this
    exact ⟨h2, ha, hb⟩
  | f + 1, l, r, h1, h2, h3, ha, hb => by
    unfold kas_place
    by_cases hge : l ≥ r
    · rw [if_pos hge]
      have : l = r := by omega
      subst this
      exact ⟨h2, ha, hb⟩
    · rw [if_neg hge]
      have hne := KY_ne hp hi (i := k) (j := (l + r) / 2) hk (by omega) (by omega)
      refine ⟨hp.getD hk, hp.getD (by omega), ?_⟩
      show TOk _ _ (if ltK key (p.getD k 0) (p.getD ((l + r) / 2) 0) = true then _ else _) _
      by_cases hc : KY key p k < KY key p ((l + r) / 2)
      · rw [if_pos (ltK_pos hc)]
        refine place_ok hp hi hk hs f l _ (by omega) (by omega) (by omega) ha fun i e1 e2 => ?_
        by_cases e : i = (l + r) / 2
        · rw [e]; exact hc
        · exact Int.lt_trans hc (hs _ _ (by omega) e2)
      · rw [if_neg (ltK_neg hc)]
        refine place_ok hp hi hk hs f _ r (by omega) h2 (by omega) (fun i e1 => ?_) hb
        by_cases e : i = (l + r) / 2
        · rw [e]; omega
        · have := hs i ((l + r) / 2) (by omega) (by omega)
          omega

theorem bin_ok (hi : InjN key n) : ∀ (f : Nat) (p : Array Nat) (k : Nat), PermN n p → k + f = n → UpP key p k →
    TOk (ltK key) n (kas_bin f p k) fun q => PermN n q ∧ UpP key q n
  | 0, p, k, hp, hk, hs => ⟨hp, by rw [← hk]; exact hs⟩
  | f + 1, p, k, hp, hk, hs => by
    have e : kas_bin (f + 1) p k = (kas_place p k k 0 k).bind fun l => kas_bin f (bubble p k (k - l)) (k + 1) := rfl
    rw [e]
    refine TOk_bind _ (TOk_mono (fun l hl => ?_) _ (place_ok hp hi (by omega) hs k 0 k (Nat.zero_le _) (Nat.le_refl _) (by omega) (fun i h => by omega) fun i h1 h2 => by omega))
    obtain ⟨h1, h2, h3⟩ := hl
    refine bin_ok hi f _ (k + 1) (hp.of (bubble_perm _ _ _)) (by omega) fun i j hij hj => ?_
    have hb : ∀ x, KY key (bubble p k (k - l)) x = if x = l then KY key p k else if l < x ∧ x ≤ k then KY key p (x - 1) else KY key p x := fun x => by
      unfold KY
      rw [getD_bubble (by rw [hp.size]; omega) (by omega), show k - (k - l) = l by omega]
      split
      · rfl
      · split <;> rfl
    rw [hb, hb]
    repeat' split
    all_goals first
      | (exfalso; omega)
      | exact h2 _ (by omega)
      | exact h3 _ (by omega) (by omega)
      | exact hs _ _ (by omega) (by omega)

theorem sort_ok (hi : InjN key n) (hn : 1 ≤ n) : TOk (ltK key) n (kas_sort n) fun q => PermN n q ∧ UpP key q n := by
  unfold kas_sort
  refine TOk_bind _ (TOk_mono (fun r hr => ?_) _ (count_ok (p := List.toArray (List.range n)) (List.Perm.refl _) hi hn))
  obtain ⟨h1, h2, h3, h4⟩ := hr
  by_cases e : r.1 < n
  · rw [if_pos e, show max r.1 1 = r.1 by omega]
    exact bin_ok hi _ _ _ h3 (by omega) h4
  · rw [if_neg e]
    have : r.1 = n := by omega
    exact ⟨h3, by rw [← this]; exact h4⟩
end
end Mine
end
section
namespace Mine
open PySem.W (kas_sort kas_ask KasFin KatTups KatLex kat_sorted kat_kind kat_lt kat_cons kat_nil kat_yes kat_no kas_fr)
theorem size_upd_seq (h : Heap) (a : Addr) (f : Array Value → Array Value) : (h.update a (Obj.mapSeq f)).objs.size = h.objs.size := Heap.size_update ..
section
variable {prog : Program} {w : World} {A : Around} {E : Value → Shared → Prop} {s : Shared} {g : Heap} {L l : Addr} {m : Str → Option Value} {news : List (Addr × Obj)} {vs : List Value} {Q : Value → Shared → Prop}

/-- sorted(l), l of one item at most -/
theorem sorted_short (F : Fr g L s.heap m) (N : News g L s.heap news) (hl : s.heap.IsList l vs.toArray) (h1 : vs.length < 2)
    (h : ∀ D e h', Fr g L h' m → News g L h' ((D, seqObj "list" vs.toArray e) :: news) → (∀ q ∈ news, q.1 < D) → L < D → Q (.ref D) { s with heap := h' }) :
    wpAny (model prog w) A (call (.builtin "sorted") [.ref l]) Q E s := by
  refine Calls.call_function_entry kind_sorted plain_sorted entry_sorted (args_sorted1 _) ?_
  unfold Builtin.«sorted»
  refine wpAny_bind (m := checkCount "sorted" 1 1 _) (wpAny_pure ?_)
  refine wpAny_bind (collect_list hl ?_ (by rw [sizeLine_eq]; omega))
  refine wpAny_bind (wpAny_newList ?_ (by rw [sizeLine_eq]; omega))
  have hsz : ((s.heap.push (seqObj "list" #[] 0)).update s.heap.objs.size (Obj.mapSeq (· ++ vs.toArray))).objs.size = s.heap.objs.size + 1 := by
    rw [Heap.size_update, size_push']
  have hoL : (((s.heap.push (seqObj "list" #[] 0)).update s.heap.objs.size (Obj.mapSeq (· ++ vs.toArray))).push (seqObj "list" vs.toArray 0)).get? (s.heap.objs.size + 1) = some (seqObj "list" vs.toArray 0) := by
    rw [← hsz]; exact Heap.get?_push_size _ rfl
  have keep : ∀ b o, s.heap.get? b = some o → (((s.heap.push (seqObj "list" #[] 0)).update s.heap.objs.size (Obj.mapSeq (· ++ vs.toArray))).push (seqObj "list" vs.toArray 0)).get? b = some o := fun b o q => by
    have hlt : b < s.heap.objs.size := Heap.lt_size q
    rw [Heap.get?_push_ne _ _ _ (by rw [hsz]; exact Nat.ne_of_lt (Nat.lt_succ_of_lt hlt)), Heap.get?_update_ne _ _ _ _ (Nat.ne_of_lt hlt), Heap.get?_push_ne _ _ _ (Nat.ne_of_lt hlt)]
    exact q
  have hL : L < s.heap.objs.size := F.ns.lt
  have hH : (((s.heap.push (seqObj "list" #[] 0)).update s.heap.objs.size (Obj.mapSeq (· ++ vs.toArray))).push (seqObj "list" vs.toArray 0)).objs.size = s.heap.objs.size + 2 := by rw [size_push', hsz]
  show wpAny _ _ _ _ _ { s with heap := ((s.heap.push (seqObj "list" #[] 0)).update s.heap.objs.size (Obj.mapSeq (· ++ vs.toArray))).push (seqObj "list" vs.toArray 0) }
  rw [hsz]
  generalize ((s.heap.push (seqObj "list" #[] 0)).update s.heap.objs.size (Obj.mapSeq (· ++ vs.toArray))).push (seqObj "list" vs.toArray 0) = h1' at hoL keep hH
  refine wpAny_bind (wpAny_holding (wpAny_call_entry slot_list_sort ⟨_, hoL, rfl⟩ entry_list_sort ?body (args_list_sort _)))
  case body =>
    have hs1 := size_upd_seq h1' (s.heap.objs.size + 1) fun _ => (#[] : Array Value)
    have ha : s.heap.objs.size + 1 < h1'.objs.size := by rw [hH]; exact Nat.lt_succ_self _
    obtain ⟨e1, ho1⟩ : ∃ e1, (h1'.update (s.heap.objs.size + 1) (Obj.mapSeq fun _ => #[])).get? (s.heap.objs.size + 1) = some (seqObj "list" #[] e1) := ⟨_, get?_update_seq hoL (fun _ => #[])⟩
    have s1 := Heap.SameBut.update h1' (s.heap.objs.size + 1) (Obj.mapSeq fun _ => (#[] : Array Value))
    rw [list_sort_plain]
    refine wpAny_bind (listItems_at hoL rfl ?_)
    refine wpAny_bind (listUpdate_at hoL rfl ?_ (by rw [List.size_toArray, sizeLine_eq]; omega) (Nat.zero_le _))
    refine wpAny_bind (seqEpoch_at ho1 rfl ?_)
    refine wpAny_bind (wpAny_newTuple ?_ (by show vs.length ≤ _; rw [sizeLine_eq]; omega))
    refine wpAny_bind (wpAny_newList ?_ (Nat.zero_le _))
    refine wpAny_holding ?_
    have k2 : ∀ b o, (h1'.update (s.heap.objs.size + 1) (Obj.mapSeq fun _ => #[])).get? b = some o → (((h1'.update (s.heap.objs.size + 1) (Obj.mapSeq fun _ => #[])).push (seqObj "tuple" vs.toArray 0)).push (seqObj "list" #[] 0)).get? b = some o := fun b o e =>
      Heap.get?_push_of_some _ (Heap.get?_push_of_some _ e)
    have ho6 := k2 _ _ ho1
    show wpAny (model prog w) _ _ _ _ { s with heap := ((h1'.update (s.heap.objs.size + 1) (Obj.mapSeq fun _ => #[])).push (seqObj "tuple" vs.toArray 0)).push (seqObj "list" #[] 0) }
    generalize ((h1'.update (s.heap.objs.size + 1) (Obj.mapSeq fun _ => #[])).push (seqObj "tuple" vs.toArray 0)).push (seqObj "list" #[] 0) = h6 at ho6 k2
    dsimp only
    have hn2 : vs.toArray.size < 2 := by rw [List.size_toArray]; exact h1
    rw [if_pos hn2, if_pos hn2]
    refine wpAny_bind (wpAny_pure ?_)
    rw [StateT.run_pure]
    refine wpAny_bind (wpAny_pure ?_)
    dsimp only
    have hout : (arrOf (SortSt.mk' general' (vs.toArray.zip vs.toArray) #[] 7 none)).map (·.2) = vs.toArray := by
      show (vs.toArray.zip vs.toArray).map (·.2) = vs.toArray
      apply Array.toList_inj.mp
      rw [Array.toList_map, Array.toList_zip]
      exact List.map_snd_zip (by simp)
    rw [hout]
    refine wpAny_bind (seqEpoch_at ho6 rfl ?_)
    refine wpAny_bind (listUpdate_at ho6 rfl ?_ (Nat.zero_le _) (by rw [List.size_toArray, sizeLine_eq]; omega))
    simp only [bne_self_eq_false, Bool.false_eq_true, if_false]
    have s2 := Heap.SameBut.update h6 (s.heap.objs.size + 1) (Obj.mapSeq fun _ => vs.toArray)
    obtain ⟨c2, hc2⟩ : ∃ c2, (h6.update (s.heap.objs.size + 1) (Obj.mapSeq fun _ => vs.toArray)).get? (s.heap.objs.size + 1) = some (seqObj "list" vs.toArray c2) := ⟨_, get?_update_seq ho6 fun _ => vs.toArray⟩
    have hLa : s.heap.objs.size + 1 ≠ L := Nat.ne_of_gt (Nat.lt_succ_of_lt hL)
    have hg : g.get? (s.heap.objs.size + 1) = none := Heap.get?_none_of_le (Nat.le_trans F.above (Nat.le_succ_of_le (Nat.le_of_lt hL)))
    have F1 : Fr g L h1' m := F.kept keep
    have F2 : Fr g L _ m := kas_fr F1 s1 hLa hg
    have F6 : Fr g L h6 m := F2.kept k2
    have F7 : Fr g L _ m := kas_fr F6 s2 hLa hg
    have nn : ∀ p ∈ news, p.1 ≠ s.heap.objs.size + 1 := fun p hp => Nat.ne_of_lt (Nat.lt_succ_of_lt (Heap.lt_size (N p hp).1))
    have N7 := PySem.W.kas_news ((PySem.W.kas_news (N.grown keep) s1 nn).grown k2) s2 nn
    refine wpAny_pure ⟨_, rfl, wpAny_pure ⟨_, rfl, h (s.heap.objs.size + 1) c2 _ F7 (fun p hp => ?_) (fun p hp => Nat.lt_succ_of_lt (Heap.lt_size (N p hp).1)) (Nat.lt_succ_of_lt hL)⟩⟩
    rcases List.mem_cons.mp hp with rfl | hp
    · exact ⟨hc2, hLa, hg⟩
    · exact N7 p hp

theorem map_getD {α : Type} (vs : List α) (d : α) : (List.range vs.length).map (fun i => vs.getD i d) = vs := by
  apply List.ext_getElem?
  intro i
  rw [List.getElem?_map]
  by_cases hi : i < vs.length
  · rw [List.getElem?_range hi, List.getElem?_eq_getElem hi]
    simp [hi]
  · rw [List.getElem?_eq_none (by simpa using hi), List.getElem?_eq_none (by simpa using hi)]; rfl
theorem map_getD_perm {α : Type} {vs : List α} {d : α} {p : List Nat} (h : p.Perm (List.range vs.length)) : (p.map fun i => vs.getD i d).Perm vs := by
  have := h.map fun i => vs.getD i d
  rw [map_getD] at this
  exact this

/-- sorted(l), l of tuples of an int and a name, the ints apart -/
theorem sorted_tups {key : Nat → Int} (F : Fr g L s.heap m) (N : News g L s.heap news) (hl : s.heap.IsList l vs.toArray) (h64 : vs.length < 64) (hi : InjN key vs.length)
    (hT : ∀ i, i < vs.length → ∃ a k u0 u1, vs[i]? = some (.ref a) ∧ Known g news a { cls := .type "tuple", data := .seq #[.int (key i) u0, .str k u1] })
    (h : ∀ D e h' tk (p : List Nat), Fr g L h' m → News g L h' ((D, listOf (List.toArray (p.map fun i => vs.getD i Value.none)) e) :: news) → (∀ q ∈ news, q.1 < D) → p.Perm (List.range vs.length) → (p.map key).Pairwise (· < ·) → Q (.ref D) { s with heap := h', toks := tk }) :
    wpAny (model prog w) A (call (.builtin "sorted") [.ref l]) Q E s := by
  by_cases h2 : vs.length < 2
  · refine sorted_short F N hl h2 fun D e h' F' N' l1 l2 => ?_
    refine h D e h' s.toks (List.range vs.length) F' ?_ l1 (List.Perm.refl _) ?_
    · rw [map_getD]; exact N'
    · rw [List.pairwise_iff_getElem]
      intro i j hi' hj' hij
      simp only [List.length_map, List.length_range] at hi' hj'
      omega
  refine kat_sorted F N hl (by omega) h64 fun D e1 h1 F1 N1 l1 => ?_
  have hTk : ∀ i, i < vs.length → ∃ a k u0 u1, vs[i]? = some (.ref a) ∧ h1.get? a = some { cls := .type "tuple", data := .seq #[.int (key i) u0, .str k u1] } := fun i hi => by
    obtain ⟨a, k, u0, u1, e1, e2⟩ := hT i hi
    exact ⟨a, k, u0, u1, e1, e2.now F1 N1 fun p hp => List.mem_cons_of_mem _ hp⟩
  have tups : ∀ (xs : List Value), (∀ v ∈ xs, ∃ a n k u0 u1, v = .ref a ∧ h1.get? a = some { cls := .type "tuple", data := .seq #[.int n u0, .str k u1] }) → ∃ fs, KatTups h1 xs fs ∧ fs.length = xs.length ∧ ∀ v ∈ fs, ∃ n t, v = .int n t := by
    intro xs
    induction xs with
    | nil => intro _; exact ⟨[], trivial, rfl, by simp⟩
    | cons v r ih =>
      intro hx
      obtain ⟨fs, h1, h2, h3⟩ := ih fun u hu => hx u (.tail _ hu)
      obtain ⟨a, n, k, u0, u1, rfl, hg⟩ := hx v (.head _)
      exact ⟨.int n u0 :: fs, KatTups.cons hg rfl rfl rfl h1, by simp [h2], fun y hy => (List.mem_cons.mp hy).elim (fun e => ⟨n, u0, e⟩) (h3 y)⟩
  obtain ⟨fs, t1, t2, t3⟩ := tups vs fun v hv => by
    obtain ⟨i, hi, rfl⟩ := List.getElem_of_mem hv
    obtain ⟨a, k, u0, u1, e1, e2⟩ := hTk i hi
    rw [List.getElem?_eq_getElem hi] at e1
    exact ⟨a, key i, k, u0, u1, Option.some.inj e1, e2⟩
  refine kat_kind (T := .type "int") t1 (by omega) (fun v hv => ?_) rfl ?_
  · obtain ⟨n, t, rfl⟩ := t3 v hv
    exact Looks.now
  refine TOk_wp (lt := ltK key) (Inv := fun s' => ∃ tk, s' = { s with heap := h1, toks := tk }) ?_ ?_ _ _ (sort_ok hi (by omega)) ⟨s.toks, rfl⟩
  · rintro i j s' C hi' hj' ⟨tk, rfl⟩ hC
    obtain ⟨a, k, u0, u1, e1, e2⟩ := hTk i hi'
    obtain ⟨b, k2, w0, w1, f1, f2⟩ := hTk j hj'
    have ei : vs.getD i Value.none = .ref a := by rw [List.getD_eq_getElem?_getD, e1]; rfl
    have ej : vs.getD j Value.none = .ref b := by rw [List.getD_eq_getElem?_getD, f1]; rfl
    show wpAny (model prog w) _ (keyLt' _ (vs.getD i Value.none) (vs.getD j Value.none)) C _ _
    rw [ei, ej]
    refine kat_lt e2 rfl f2 rfl ?_
    refine kat_cons (r := [(.str k u1, .str k2 w1)]) (wpAny_eqBool_int ?_)
    by_cases hk : key i = key j
    · have hij := hi i j hi' hj' hk
      subst hij
      rw [e1] at f1
      cases f1
      rw [e2] at f2
      cases f2
      rw [show (key i == key i) = true by simp]
      refine kat_yes (kat_cons (wpAny_eqBool_str ?_))
      rw [show decide (k = k) = true by simp]
      refine kat_yes (kat_nil ?_)
      have := hC _ ⟨tk, rfl⟩
      simpa [ltK] using this
    · rw [show (key i == key j) = false by simpa using hk]
      exact kat_no (oneLt_int (hC _ ⟨tk, rfl⟩))
  · rintro p s' ⟨hp, hup⟩ ⟨tk, rfl⟩
    refine KasFin.intro F1 N1 (.head fun p hp => Nat.ne_of_lt (l1 p hp)) fun h' c F' N' => ?_
    refine h D c h' tk p.toList F' N' l1 hp ?_
    · rw [List.pairwise_iff_getElem]
      intro i j hi' hj' hij
      simp only [List.length_map] at hi' hj'
      have hz := hp.size
      have := hup i j hij (by simpa [hz] using hj')
      simpa [KY, Array.getD, (show i < p.size by simpa using hi'), (show j < p.size by simpa using hj')] using this
end
end Mine
end
section
namespace Mine
open PyProof.Rows.LCp (CompRestP SrcLP)
/-- a stop of the walker -/
structure Halt (P : Prop) : Prop where
  go : P
theorem halt {P : Prop} (h : Halt P) : P := h.go
section
variable {prog : Program} {w : World} {A : Around} {g : Heap} {L : Addr} {m : Str → Option Value} {env : Env}
/-- [b for a, b in pairs] -/
theorem rest_names {x x₂ : Str} {px : Pos} {scope : Scope} {cl : List (Str × Addr)} {s : Shared} {ax : Addr} {news : List (Addr × Obj)} {ts : List (Addr × Value × Value)} {Fin : List Value → List (Addr × Obj) → Prop}
    (hk : scope.kind = .function) (hx₂ : scope.names.lookup x₂ = some .local) (hd : (x₂ == ("__debug__" : Str)) = false)
    (hS : PyProof.Rows.LCg.SrcAt g ax (ts.map fun t => Value.ref t.1).toArray news)
    (hT : ∀ t ∈ ts, ∃ ot nt, (t.1, ot) ∈ news ∧ ot.cls = .type "tuple" ∧ ot.data = .seq #[t.2.1, t.2.2] nt) (hF : Fin (ts.map fun t => t.2.2) news) : ∀ (k i : Nat), i + k = ts.length →
    CompRestP prog w A g L m env (.Name x₂ px) x x₂ scope cl s (PyProof.Rows.LCg.SrcAt g ax (ts.map fun t => Value.ref t.1).toArray) (fun i v => (ts.map fun t => Value.ref t.1).toArray[i]? = some v) Fin k i ((ts.take i).map fun t => t.2.2) news
  | 0, i, hi => CompRestP.zero (by rw [List.take_of_length_le (by omega)]; exact hF)
  | k + 1, i, hi => by
    have hil : i < ts.length := by omega
    have hti : ts[i]? = some ts[i] := List.getElem?_eq_getElem hil
    refine CompRestP.succ fun v hv => ?_
    obtain ⟨ot, nt, h1, h2, h3⟩ := hT ts[i] (List.getElem_mem hil)
    refine ⟨ts[i].1, ot, ts[i].2.1, ts[i].2.2, nt, ?_, h1, h2, h3, fun I oI C oC D m₂ h tk E' hC e1 e2 F N off ne => ?_⟩
    · simp [hti] at hv
      exact hv.symm
    · refine wpAny_Name (wpAny_loadName_local (by show (relabel scope env).kind = _; exact hk) (lookup_relabel_local hx₂) (hC.ns (N _ (.tail _ (.head _))).1) e2 ?_) hd
      refine ⟨h, tk, news, rfl, F, N, off, hS, ?_⟩
      have := rest_names (px := px) (x := x) (cl := cl) (s := s) hk hx₂ hd hS hT hF k (i + 1) (by omega)
      rw [List.take_add_one, hti, List.map_append] at this
      exact this
end
end Mine
end
section
namespace Mine
/-- the stream of a script -/
structure StW (h : Heap) (l nl : Addr) : Prop where
  ne : nl ≠ l
  at_ : ∃ tot turn u0 u1 e, h.get? l = some (listOf [.ref nl, .int tot u0, .int turn u1].toArray e) ∧ 0 ≤ turn
  nums : ∃ vs ms e, h.get? nl = some (listOf (List.toArray vs) e) ∧ IntsAre vs ms ∧ ms.length ≤ 63
theorem StW.mono {h h' : Heap} {l nl : Addr} (x : StW h l nl) (k1 : ∀ o, h.get? l = some o → h'.get? l = some o) (k2 : ∀ o, h.get? nl = some o → h'.get? nl = some o) : StW h' l nl :=
  ⟨x.ne, let ⟨a, b, c, d, e, f, g⟩ := x.at_; ⟨a, b, c, d, e, k1 _ f, g⟩, let ⟨a, b, c, d, e⟩ := x.nums; ⟨a, b, c, k2 _ d, e⟩⟩
theorem StW.kept {h h' : Heap} {l nl : Addr} {S : List Addr} (x : StW h l nl) (k : Kept S h h') (h1 : l ∉ S) (h2 : nl ∉ S) : StW h' l nl := x.mono (fun o e => k _ o h1 e) fun o e => k _ o h2 e
theorem StW.lt {h : Heap} {l nl : Addr} (x : StW h l nl) : l < h.objs.size ∧ nl < h.objs.size :=
  ⟨let ⟨_, _, _, _, _, f, _⟩ := x.at_; Heap.lt_size f, let ⟨_, _, _, d, _⟩ := x.nums; Heap.lt_size d⟩
section
variable {w : World} {A : Around} {s : Shared} {H : Heap} {Q E : Value → Shared → Prop} {R : Rm}

theorem law_drawn_c {l nl : Addr} {many : Int} {t : Tok} (c : Ctx 2 w A H s) (x : StW s.heap l nl) (hn : H.get? l = none) (hm : 0 < many)
    (hQ : ∀ h' tk tk' r, Kept [l] s.heap h' → StW h' l nl → 0 ≤ r → r < many → Q (.int r tk') { s with heap := h', toks := tk }) :
    wpAny (model PR w) A (call (.ref 174) [.ref l, .int many t]) Q E s := by
  refine' enter c ?k6 ?k7 ?k9 ?kB ?_ ?c5 ?c2 ?c3 ?c4
  ktr_unf
  intro hh1 tk b
  have x1 := x.kept b.kp (by simp) (by simp)
  obtain ⟨l1, l2⟩ := x.lt
  obtain ⟨tot, turn, u0, u1, e, hl, ht⟩ := x1.at_
  obtain ⟨vs, ms, e1, hv, hi, h63⟩ := x1.nums
  have bm := b.mono (S' := [l]) (by simp)
  refine seg_k (bm.seg [(l, W.listOf [.ref nl, .int tot u0, .int turn u1].toArray e)] c (by
    intro q hq
    rw [List.mem_singleton.mp hq]
    exact ⟨hl, hn, Nat.ne_of_lt l1⟩)) fun g rest p loose mean mg mb G F' N' T' => ?_
  rw [List.singleton_append] at N'
  have X' := G.X
  have KN := G.old _ _ (Nat.ne_of_lt l2) (fun q => x.ne (List.mem_singleton.mp q)) hv
  have off : ∀ p ∈ rest, p.1 ≠ l := fun p hp q => G.off p hp (List.mem_singleton.mpr q)
  have hvl := hi.length
  have hz : (List.toArray vs).size ≤ 63 := by rw [List.size_toArray, hvl]; exact h63
  have fin : ∀ (r : Int) h' m' o' tk tk', Fr g s.heap.objs.size h' m' → News g s.heap.objs.size h' ((l, o') :: rest) → (∃ u1' e', o' = W.listOf [.ref nl, .int tot u0, .int (turn + 1) u1'].toArray e') → Q (.int (r.fmod many) tk') { s with heap := h', toks := tk } := by
    rintro r h' m' o' tk tk' F N ⟨u1', e', rfl⟩
    have ba := bm.after G F N (by ktr_rel) (by simp)
    exact hQ _ _ _ _ ba.kp ⟨x.ne, ⟨tot, turn + 1, u0, u1', e', (N _ (.head _)).1, by omega⟩, ⟨vs, ms, e1, KN.now F N (by ktr_rel), hi, h63⟩⟩ (by rw [Int.fmod_eq_emod_of_nonneg _ (by omega)]; exact Int.emod_nonneg _ (by omega)) (by rw [Int.fmod_eq_emod_of_nonneg _ (by omega)]; exact Int.emod_lt_of_pos _ hm)
  by_cases hc : turn < (List.toArray vs).size
  · have hlt : turn.toNat < vs.length := by simp at hc; omega
    obtain ⟨n, u, hn1, hn2⟩ := ints_at hi (List.getElem?_eq_getElem hlt)
    try dsimp only
    k_steps
    rename Fr _ _ _ _ => F1
    rename News _ _ _ _ => N1
    refine sub_list (list_k F1 N1 KN (by ktr_rel)) ht (by omega) (v := .int n u) ?_ ?_ (by with_unfolding_all rfl)
    · rw [← hn2]
      show vs[turn.toNat]? = _
      exact List.getElem?_eq_getElem hlt
    k_steps
    try dsimp only
    rename Fr _ _ _ _ => F3
    rename News _ _ _ _ => N3
    exact fin _ _ _ _ _ _ F3 N3 ⟨_, _, rfl⟩
  · try dsimp only
    k_steps
    try dsimp only
    rename Fr _ _ _ _ => F3
    rename News _ _ _ _ => N3
    exact fin _ _ _ _ _ _ F3 N3 ⟨_, _, rfl⟩
end
end Mine
end
section
namespace Mine
theorem newDict_L {prog : Program} {w : World} {A : Around} {E : Value → Shared → Prop} {s : Shared} {g : Heap} {L : Addr} {m : Str → Option Value} {news : List (Addr × Obj)} {env : Env} {pos : Pos} {Q : Value → Shared → Prop} (F : Fr g L s.heap m) (N : News g L s.heap news) (hbig : g.NoLimit)
    (k : ∀ d h' o, Fr g L h' m → News g L h' ((d, o) :: news) → (∀ p ∈ news, p.1 < d) → (d == sysModules) = false → o.IsDictOf (strKind prog w) [] → L < d → Q (.ref d) { s with heap := h' }) :
    wpAny (model prog w) A (eval (.Dict [] [] pos) env) Q E s :=
  Dict_empty_made2 F N (modules_low hbig) fun h' o F' N' lo a _ _ _ _ => k _ h' o F' N' (fun p hp => Heap.lt_size (N p hp).1) lo a F.ns.lt
end Mine
local macro_rules | `(tactic| walk_at "eval Dict nil nil") => `(tactic| (k_here; k_dflt (refine' newDict_L ?k1 ?k2 (TopRead.nolimit (by k_asm)) ?_; (case k1 => k_asm); (case k2 => k_asm); k_whole); intro d' h' o' F' N' l1 lo' hs' l2))
local macro_rules | `(tactic| walk_at "exec For Name Attribute cons nil") => `(tactic| (k_here; refine' for_h ?h ?hs; (case hs => intro _; with_unfolding_all rfl)))
namespace Mine
section
variable {prog : Program} {w : World} {A : Around} {s : Shared} {env : Env}
/-- for x in d, d a dict of names -/
theorem dict_h {d : Addr} {kvs : List (Str × Value)} {ep : Nat} {m : Str → Option Value} {x : Str} {px : Pos} {body : List Stmt} {Q : Flow → Shared → Prop} (hh : A.handled = none) (hd : (d == sysModules) = false) (hm : s.heap.DictAt (strKind prog w) d kvs ep) (hn : s.heap.Ns env.locals m) (hlL : d ≠ env.locals)
    (hx : env.kindOf x = some .local) (hp : (env.scope.kind == .class || (env.scope.kind == .module && env.locals != env.globals)) = false)
    (J : Nat → (Str → Option Value) → Heap → Prop) (mono : ∀ i m h h', J i m h → (∀ b o, b ≠ s.heap.objs.size → b ≠ env.locals → h.get? b = some o → h'.get? b = some o) → J i m h') (h0 : J 0 m s.heap)
    (step : ∀ i k y t m h tk, kvs[i]? = some (k, y) → (∃ o, h.get? s.heap.objs.size = some o ∧ o.cls = .type "dict_keyiterator") → J i m h → h.Ns env.locals (fun z => if z = x then some (.str k t) else m z) →
      wpAny (model prog w) A (execs body env) (TurnEnd s env.locals [s.heap.objs.size, d] h (J (i + 1)) Q) (fun _ _ => False) { s with heap := h, toks := tk })
    (done : ∀ h tk m, J kvs.length m h → h.Ns env.locals m → Q .next { s with heap := h, toks := tk }) :
    wpAny (model prog w) A (pyIter (.ref d)) (fun it s₂ => ForAt prog w A (.Name x px) body env Q it s₂) (fun _ _ => False) s := by
  have hlt : d < s.heap.objs.size := hm.lt_size
  have hLlt := hn.lt
  refine wpAny_pyIter_dict hd hm ?_
  have W := Walks.dictKeys (prog := prog) (w := w) (knd := strKind prog w) hh s.heap.objs.size d (Nat.ne_of_lt hlt) kvs ep
  refine loop_name (Q := Q) (s := { s with heap := s.heap.push _ }) (m := m) W hx hp ?_ J ?_ ⟨⟨_, Heap.get?_push_size _ rfl, rfl, rfl⟩, hm.push _⟩ (hn.keeps fun b o e => Heap.get?_push_of_some _ e)
    (mono 0 m _ _ h0 fun b o _ _ e => Heap.get?_push_of_some _ e) ?_ (fun h tk m hJ hn' => done h tk m hJ hn') (fun _ _ q => q)
  · intro q
    rcases List.mem_cons.mp q with e | q
    · exact Nat.ne_of_lt hLlt e
    · exact hlL (List.mem_singleton.mp q).symm
  · intro i m h h' hJ k
    exact mono i m h h' hJ fun b o h1 h2 e => k b o (fun q => h1 (List.mem_singleton.mp q)) h2 e
  · intro i v m h tk hi hv hJ hst hn'
    obtain ⟨k, y, hk1, hk2⟩ := hv
    obtain ⟨t, rfl⟩ := Value.isStrOf_shape hk2
    have hsz : ∃ o, h.get? s.heap.objs.size = some o ∧ o.cls = .type "dict_keyiterator" := by
      obtain ⟨⟨o, ho, hc, _⟩, _⟩ := hst
      exact ⟨o, ho, hc⟩
    exact wpAny_mono (step i k y t m h tk hk1 hsz hJ hn') (fun f s' hf => hf) fun _ _ e => e
/-- for xi, xc in enumerate(l) -/
theorem enum_h2 {l : Addr} {items : Array Value} {m : Str → Option Value} {xi xc : Str} {pk pv pt : Pos} {x1 : Nat} {body : List Stmt} {Q : Flow → Shared → Prop} (hh : A.handled = none) (hl : s.heap.IsList l items) (hn : s.heap.Ns env.locals m) (hlL : l ≠ env.locals)
    (hxi : env.kindOf xi = some .local) (hxc : env.kindOf xc = some .local) (hp : (env.scope.kind == .class || (env.scope.kind == .module && env.locals != env.globals)) = false)
    (J : Nat → (Str → Option Value) → Heap → Prop) (mono : ∀ i m h h', J i m h → (∀ b o, b ≠ s.heap.objs.size → b ≠ s.heap.objs.size + 1 → b ≠ env.locals → h.get? b = some o → h'.get? b = some o) → J i m h') (h0 : J 0 m s.heap)
    (step : ∀ i t v m h tk, items[i]? = some v → (∀ a, (a = s.heap.objs.size ∨ a = s.heap.objs.size + 1) → ∃ o, h.get? a = some o ∧ o.cls ≠ .type "tuple") → J i m h → h.Ns env.locals (fun y => if y = xc then some v else if y = xi then some (.int i t) else m y) →
      wpAny (model prog w) A (execs body env) (TurnEnd s env.locals [s.heap.objs.size + 1, s.heap.objs.size, l] h (J (i + 1)) Q) (fun _ _ => False) { s with heap := h, toks := tk })
    (done : ∀ h tk m, J items.size m h → h.Ns env.locals m → Q .next { s with heap := h, toks := tk }) :
    wpAny (model prog w) A (call (.type "enumerate") [.ref l]) (fun x s₁ => wpAny (model prog w) A (pyIter x) (fun it s₂ => ForAt prog w A (.Tuple [.Name xi pk, .Name xc pv] x1 pt) body env Q it s₂) (fun _ _ => False) s₁) (fun _ _ => False) s := by
  have hlt : l < s.heap.objs.size := by obtain ⟨o, ho, _⟩ := hl; exact Heap.lt_size ho
  have hLlt := hn.lt
  refine call_enumerate_list hl fun h' he hit hsz hk => ?_
  refine wpAny_pyIter_enum he ?_
  have W := WalksT.enumerate (prog := prog) (w := w) hh (s.heap.objs.size + 1) s.heap.objs.size l (Nat.succ_ne_self _) (Nat.ne_of_lt (Nat.lt_succ_of_lt hlt)) (Nat.ne_of_lt hlt) items
  refine loop_pair (Q := Q) (s := { s with heap := h' }) (m := m) hh W (fun i vals hv => by obtain ⟨t, x, _, rfl⟩ := hv; exact ⟨_, _, rfl⟩) hxi hxc hp ?_ J ?_ ⟨⟨_, he⟩, hit, hl.at fun o e => hk l o e⟩ (hn.keeps hk) (mono 0 m _ _ h0 fun b o _ _ _ e => hk b o e) ?_ (fun h tk m hJ hn' => done h tk m hJ hn') (fun _ _ q => q)
  · intro q
    rcases List.mem_cons.mp q with e | q
    · exact Nat.ne_of_lt (Nat.lt_succ_of_lt hLlt) e
    · rcases List.mem_cons.mp q with e | q
      · exact Nat.ne_of_lt hLlt e
      · exact hlL (List.mem_singleton.mp q).symm
  · intro i m h h' hJ k
    exact mono i m h h' hJ fun b o h1 h2 h3 e => k b o (fun q => by
      rcases List.mem_cons.mp q with q | q
      · exact h2 q
      · exact h1 (List.mem_singleton.mp q)) h3 e
  · intro i v0 v1 m h tk hi hv hJ hst hn'
    obtain ⟨t, x, hx, e⟩ := hv
    cases e
    have hI : ∀ a, (a = s.heap.objs.size ∨ a = s.heap.objs.size + 1) → ∃ o, h.get? a = some o ∧ o.cls ≠ .type "tuple" := by
      obtain ⟨⟨_, hoe⟩, ⟨ol, hol, hcl, _⟩, _⟩ := hst
      rintro a (rfl | rfl)
      · exact ⟨ol, hol, by rw [hcl]; intro q; injection q with q; exact absurd q (by decide)⟩
      · exact ⟨_, hoe, by intro q; injection q with q; exact absurd q (by decide)⟩
    exact wpAny_mono (step i t v1 m h tk hx hI hJ hn') (fun f s' hf => hf) fun _ _ e => e
end
/-- an entry of a view: its tuple -/
structure Vw where
  a : Addr
  lo : Int
  txt : Str
def vOf (l : List (Str × Vw)) : List (Str × Value) := l.map fun x => (x.1, .ref x.2.a)
def vSees (l : List (Str × Vw)) : List (Str × Int × Str) := l.map fun x => (x.1, x.2.lo, x.2.txt)
def TupAt (h : Heap) (v : Vw) : Prop := ∃ u0 u1, h.get? v.a = some { cls := .type "tuple", data := .seq #[.int v.lo u0, .str v.txt u1] }
theorem stored_new {l : List (Str × Vw)} {k : Str} {v : Vw} (h : k ∉ l.map (·.1)) : stored (vOf l) k (.ref v.a) = vOf (l ++ [(k, v)]) := by
  unfold stored vOf
  rw [if_neg]
  · simp
  · rw [List.any_eq_true]
    rintro ⟨x, hx, e⟩
    obtain ⟨y, hy, rfl⟩ := List.mem_map.mp hx
    simp at e
    exact h (List.mem_map.mpr ⟨y, hy, e⟩)
/-- what a room tells of its names -/
def seesHeld (R : Rm) : List (Str × Int × Str) := R.held.map fun x => (x.1, x.2.lo, txtOf (cutOf R.ns x.2))
def wName (i : Nat) : Str := ⟨#[119, 48 + i]⟩
def seesWait (R : Rm) : List (Str × Int × Str) := R.wait.zipIdx.map fun x => (wName x.2, x.1.lo, txtOf (cutOf R.ns x.1))
/-- a view lies in the heap -/
structure ViewAt (w : World) (h : Heap) (D : Addr) (L : Addr) (l : List (Str × Vw)) : Prop where
  dict : h.DictOf (strKind PR w) D (vOf l)
  tup : ∀ x ∈ l, TupAt h x.2
  newD : L < D
  new : ∀ x ∈ l, L < x.2.a ∧ x.2.a ≠ D
theorem ViewAt.keep {w : World} {h h' : Heap} {D L : Addr} {l : List (Str × Vw)} (x : ViewAt w h D L l) (k : ∀ b, (b = D ∨ ∃ y ∈ l, b = y.2.a) → ∀ o, h.get? b = some o → h'.get? b = some o) : ViewAt w h' D L l where
  dict := by
    obtain ⟨o, ho, hd⟩ := Heap.dictOf_iff.mp x.dict
    exact Heap.dictOf_iff.mpr ⟨o, k _ (.inl rfl) _ ho, hd⟩
  tup := fun y hy => let ⟨a, b, e⟩ := x.tup y hy; ⟨a, b, k _ (.inr ⟨y, hy, rfl⟩) _ e⟩
  newD := x.newD
  new := x.new
theorem ViewAt.lt {w : World} {h : Heap} {D L : Addr} {l : List (Str × Vw)} (x : ViewAt w h D L l) : ∀ b, (b = D ∨ ∃ y ∈ l, b = y.2.a) → b < h.objs.size := fun b hb => by
  rcases hb with rfl | ⟨y, hy, rfl⟩
  · obtain ⟨o, ho, _⟩ := Heap.dictOf_iff.mp x.dict; exact Heap.lt_size ho
  · obtain ⟨_, _, e⟩ := x.tup y hy; exact Heap.lt_size e
section
variable {w : World} {A : Around} {s : Shared} {H : Heap} {Q E : Value → Shared → Prop} {R : Rm}

theorem law_view_c (c : Ctx 3 w A H s) (x : RoomW w H s.heap R) (hk : R.held.length < 1000) (hw : R.wait.length ≤ 3) (ho : OctOk R.ns) (hp : ∀ p ∈ R.pls, PlOk R.ns p) (hnm : ∀ y ∈ R.held, ∀ i, y.1 ≠ wName i)
    (hQ : ∀ h' tk D l, Kept [] s.heap h' → ViewAt w h' D s.heap.objs.size l → vSees l = seesHeld R ++ seesWait R → Q (.ref D) { s with heap := h', toks := tk }) :
    wpAny (model PR w) A (call (.ref 181) [.ref R.r]) Q E s := by
  refine' enter c ?k6 ?k7 ?k9 ?kB ?_ ?c5 ?c2 ?c3 ?c4
  ktr_unf
  intro hh1 tk b
  have hL : s.heap.objs.size ∉ R.adr := fun q => Nat.lt_irrefl _ (x.at_.lt _ q)
  have x1 := x.kept b.kp (by simp)
  refine b.seg0 c fun g rest p loose mean mg mb G F' N' T' X' => ?_
  have I := G.old _ _ (fun q => hL (q ▸ R.m_r)) (by simp) x1.at_.inst
  refine x1.at_.dictK fun k t0 t1 t2 t3 t4 nd hd => ?_
  have D := G.old _ _ (fun q => hL (q ▸ R.m_dx)) (by simp) hd
  try dsimp only
  k_steps
  rename Fr _ _ _ _ => F1
  rename News _ _ _ _ => N1
  rename Obj.IsDictOf (PySem.strKind PR w) _ [] => hs0
  rename Heap => hA
  have hF1 : s.heap.objs.size < hA.objs.size := F1.ns.lt
  have b1 := b.after G F1 N1 (by ktr_rel) (by simp)
  have xb := x1.seg G F1 N1 (by ktr_rel) hL (by simp)
  obtain ⟨ep, oh, es, hoh, hr⟩ := xb.at_.held
  have hkeys := DictOf.keys ⟨oh, es, hoh, hr⟩
  refine dict_h (c.ok.deeper _).hd (sys_ne c.big (x.new _ R.m_ah)) ⟨oh, es, hoh, hr⟩ F1.ns (fun q => hL (by have q : R.ah = s.heap.objs.size := q; rw [← q]; exact R.m_ah)) rfl rfl
    (fun i m h => H.StaysIn h ∧ Kept [] s.heap h ∧ ∃ D l, m (Str.ofString "found") = some (.ref D) ∧ m (Str.ofString "room") = some (.ref R.r) ∧ ViewAt w h D s.heap.objs.size l ∧ vSees l = (seesHeld R).take i ∧ (∀ b, (b = D ∨ ∃ y ∈ l, b = y.2.a) → b ≠ hA.objs.size)) ?_ ?_ ?_ ?_
  · intro i m h3 h4 hJ k
    obtain ⟨a1, a2, D, l, a3, a4, a5, a6, a7⟩ := hJ
    have far : ∀ b, b < s.heap.objs.size → ∀ o, h3.get? b = some o → h4.get? b = some o := fun b hb o e =>
      k b o (Nat.ne_of_lt (Nat.lt_trans hb hF1)) (Nat.ne_of_lt hb) e
    refine ⟨fun b o e => far b (Heap.lt_size (c.st b o e)) o (a1 b o e), fun b o hb e => far b (Heap.lt_size e) o (a2 b o hb e), D, l, a3, a4, a5.keep fun b hb o e => k b o (a7 b hb) (fun q => ?_) e, a6, a7⟩
    rcases hb with rfl | ⟨y, hy, rfl⟩
    · exact Nat.ne_of_gt a5.newD q
    · exact Nat.ne_of_gt (a5.new y hy).1 q
  · refine ⟨b1.st, b1.kp, _, [], rfl, rfl, ⟨Heap.dictOf_iff.mpr ⟨_, (N1 _ (.head _)).1, hs0⟩, by simp, by assumption, by simp⟩, by simp [vSees], fun b hb => ?_⟩
    rcases hb with rfl | ⟨y, hy, _⟩
    · exact Nat.ne_of_lt (Heap.lt_size (N1 _ (.head _)).1)
    · cases hy
  · intro i k y t m h tk hkv hIh hJ hn
    obtain ⟨a1, a2, D, l, m1, m2, a5, a6, a7⟩ := hJ
    obtain ⟨pl, hpl, rfl⟩ := held_at hkv
    have hpm : pl ∈ R.pls := List.mem_append_left _ (List.mem_map_of_mem (f := Prod.snd) (List.mem_of_getElem? hpl))
    have b : Bd H s s.heap.objs.size [] _ h := ⟨hn, a1, a2, Nat.le_refl _⟩
    have q1 : (fun y => if y = Str.ofString "name" then some (Value.str k t) else m y) (Str.ofString "found") = some (.ref D) := m1
    have q2 : (fun y => if y = Str.ofString "name" then some (Value.str k t) else m y) (Str.ofString "room") = some (.ref R.r) := m2
    have q3 : (fun y => if y = Str.ofString "name" then some (Value.str k t) else m y) (Str.ofString "name") = some (Value.str k t) := rfl
    generalize (fun y => if y = Str.ofString "name" then some (Value.str k t) else m y) = m' at q1 q2 q3 b
    have xh := x.kept a2 (by simp)
    obtain ⟨o, hod, hdo⟩ := Heap.dictOf_iff.mp a5.dict
    have hDH : H.get? D = none := Heap.get?_none_of_le (Nat.le_of_lt (Nat.lt_trans (Nat.lt_of_le_of_lt (x.new _ R.m_r) (x.at_.lt _ R.m_r)) a5.newD))
    have farD : ∀ a ∈ R.adr, a ≠ D := fun a ha q => Nat.lt_asymm a5.newD (q ▸ x.at_.lt a ha)
    refine seg_k (b.seg [(D, o)] c (by
      intro q hq
      rw [List.mem_singleton.mp hq]
      exact ⟨hod, hDH, Nat.ne_of_gt a5.newD⟩)) fun g rest p loose mean mg mb G F' N' T' => ?_
    rw [List.singleton_append] at N'
    have X' := G.X
    have nD : ∀ a ∈ R.adr, a ∉ [(D, o)].map (·.1) := fun a ha q => farD a ha (List.mem_singleton.mp q)
    have I := G.old _ _ (fun q => hL (q ▸ R.m_r)) (nD _ R.m_r) xh.at_.inst
    refine xh.at_.dictK fun kt t0 t1 t2 t3 t4 nd hd => ?_
    have DD := G.old _ _ (fun q => hL (q ▸ R.m_dx)) (nD _ R.m_dx) hd
    obtain ⟨ep2, oh2, es2, hoh2, hr2⟩ := xh.at_.held
    have HD := G.old _ _ (fun q => hL (q ▸ R.m_ah)) (nD _ R.m_ah) hoh2
    have hD2 : oh2.IsDictOf (strKind PR w) (heldOf R.held) := ⟨es2, ep2, hr2⟩
    obtain ⟨u0, u1, e0, hpa⟩ := xh.at_.pls pl hpm
    have P := G.old _ _ (fun q => hL (q ▸ Rm.m_pl hpm)) (nD _ (Rm.m_pl hpm)) hpa
    have off : ∀ p ∈ rest, p.1 ≠ D := fun p hp q => G.off p hp (List.mem_singleton.mpr q)
    have hh : A.handled = none := c.ok.hd
    k_steps
    rename Fr _ _ _ _ => F3
    rename News _ _ _ _ => N3
    refine sub_held (Heap.dictOf_iff.mpr ⟨oh2, HD.now F3 N3 (by ktr_rel), hD2⟩) (List.mem_of_getElem? hpl) ?_ ?_ ?_
    rotate_left
    · with_unfolding_all rfl
    · intro _; with_unfolding_all rfl
    k_steps
    refine sub_held (Heap.dictOf_iff.mpr ⟨oh2, HD.now F3 N3 (by ktr_rel), hD2⟩) (List.mem_of_getElem? hpl) ?_ ?_ ?_
    rotate_left
    · with_unfolding_all rfl
    · intro _; with_unfolding_all rfl
    k_steps
    have ba := b.after G F3 N3 (by ktr_rel) (by intro q hq; rw [List.mem_singleton.mp hq]; exact .inr (Nat.le_of_lt a5.newD))
    refine text_at_c (pl := pl) ((c.deeper _ ba.st).le (by decide)) (xh.same G F3 N3 (by ktr_rel) (by intro q hq; rw [List.mem_singleton.mp hq]; k_mem) (by intro q hq; rw [List.mem_singleton.mp hq]; exact hod) hL) ⟨u0, u1, e0, P.now F3 N3 (by ktr_rel)⟩ ho (hp pl hpm) fun h5 tk5 tk5' kp5 => ?_
    obtain ⟨F5, N5⟩ := after0 F3 N3 kp5
    clear F3 N3 kp5 ba
    k_steps
    rename Fr _ _ _ _ => F3
    rename News _ _ _ _ => N3
    have hTn := N3 _ (.head _)
    have hse : (vSees l).length = l.length := by simp [vSees]
    have hsi : i < R.held.length := (List.getElem?_eq_some_iff.mp hpl).1
    have hln : l.length ≤ 1000 := by rw [← hse, a6, List.length_take]; omega
    have hkl : l.map (·.1) = (R.held.map (·.1)).take i := by
      have := congrArg (List.map (·.1)) a6
      rw [vSees, List.map_map, seesHeld, List.map_take, List.map_map] at this
      exact this
    have hky : k ∉ l.map (·.1) := by
      rw [hkl]
      intro q
      obtain ⟨j, hj, e⟩ := List.getElem_of_mem q
      rw [List.length_take, List.length_map] at hj
      have e2 : (R.held.map (·.1))[i]? = some k := by rw [List.getElem?_map, hpl]; rfl
      have e3 : (R.held.map (·.1))[j]? = some k := by
        rw [List.getElem_take] at e
        rw [← e]; exact List.getElem?_eq_getElem _
      have := (List.getElem?_inj (i := j) (j := i) (by rw [List.length_map]; omega) hkeys).mp (e3.trans e2.symm)
      omega
    refine setItem_led F3 (News.swap N3) (Heap.dictOf_iff.mpr ⟨o, (N3 _ (.tail _ (.head _))).1, hdo⟩) (List.forall_mem_cons.mpr ⟨?_, off⟩) (by rw [vOf, List.length_map, sizeLine_eq]; omega) fun h6 o6 F6 N6 D6 => ?_
    · rename (D < _ ∧ AllLt _ rest) => hlt
      exact Nat.ne_of_gt hlt.1
    rename (D < _ ∧ AllLt _ rest) => hlt
    have hlt := hlt.1
    clear F3 N3
    k_steps
    have b6 := b.after G F6 N6 (by ktr_rel) (by intro q hq; rw [List.mem_singleton.mp hq]; exact .inr (Nat.le_of_lt a5.newD))
    have st : ∀ z, z ≠ D → z ≠ s.heap.objs.size → ∀ o, h.get? z = some o → h6.get? z = some o := fun z h1 h2 o e => G.stay F6 N6 (by ktr_rel) z o h2 (fun q => h1 (List.mem_singleton.mp q)) e
    obtain ⟨oI, hoI, hcI⟩ := hIh
    have hTI : _ ≠ hA.objs.size := fun q => by
      have e1 := st hA.objs.size (fun z => a7 D (.inl rfl) z.symm) (Nat.ne_of_gt hF1) _ hoI
      rw [← q, (N6 _ (.tail _ (.head _))).1] at e1
      cases e1
      injection hcI with hcI
      exact absurd hcI (by decide)
    rw [stored_new (v := ⟨_, pl.lo, txtOf (cutOf R.ns pl)⟩) hky] at D6
    refine ⟨_, _, _, rfl, F6.ns, fun z hz o e => st z ?_ ?_ o e, b6.st, b6.kp, D, l ++ [(k, ⟨_, pl.lo, txtOf (cutOf R.ns pl)⟩)], q1, q2, ⟨D6, fun y hy => ?_, a5.newD, fun y hy => ?_⟩, ?_, fun z hz => ?_⟩
    · rcases List.mem_cons.mp hz with rfl | hz
      · exact fun q => a7 D (.inl rfl) q.symm
      · rw [List.mem_singleton.mp hz]; exact farD _ R.m_ah
    · rcases List.mem_cons.mp hz with rfl | hz
      · exact Nat.ne_of_gt hF1
      · rw [List.mem_singleton.mp hz]; exact fun q => hL (q ▸ R.m_ah)
    · rcases List.mem_append.mp hy with hy | hy
      · obtain ⟨z0, z1, ez⟩ := a5.tup y hy
        exact ⟨z0, z1, st _ (a5.new y hy).2 (Nat.ne_of_gt (a5.new y hy).1) _ ez⟩
      · rw [List.mem_singleton.mp hy]; exact ⟨_, _, (N6 _ (.tail _ (.head _))).1⟩
    · rcases List.mem_append.mp hy with hy | hy
      · exact a5.new y hy
      · rw [List.mem_singleton.mp hy]; exact ⟨Nat.lt_trans a5.newD hlt, Nat.ne_of_gt hlt⟩
    · rw [vSees, List.map_append, ← vSees, a6, List.take_add_one]
      congr 1
      rw [seesHeld, List.getElem?_map, hpl]
      rfl
    · rcases hz with rfl | ⟨y, hy, rfl⟩
      · exact a7 _ (.inl rfl)
      · rcases List.mem_append.mp hy with hy | hy
        · exact a7 _ (.inr ⟨y, hy, rfl⟩)
        · rw [List.mem_singleton.mp hy]; exact hTI
  · intro h tk m hJ hn
    obtain ⟨a1, a2, D, l, m1, m2, a5, a6, a7⟩ := hJ
    have a6 : vSees l = seesHeld R := by rw [a6, heldOf, List.length_map, List.take_of_length_le (by simp [seesHeld])]
    clear a7 F1 N1 T' X' G I hoh hr hs0 xb b1
    have b : Bd H s s.heap.objs.size [] _ h := ⟨hn, a1, a2, Nat.le_refl _⟩
    have xh := x.kept a2 (by simp)
    refine b.seg0 c fun g rest p loose mean mg mb G F' N' T' X' => ?_
    have I := G.old _ _ (fun q => hL (q ▸ R.m_r)) (by simp) xh.at_.inst
    refine xh.at_.dictK fun kt t0 t1 t2 t3 t4 nd hd => ?_
    have DD := G.old _ _ (fun q => hL (q ▸ R.m_dx)) (by simp) hd
    obtain ⟨ew, hwt⟩ := xh.at_.wait
    have W := G.old _ _ (fun q => hL (q ▸ R.m_aw)) (by simp) hwt
    k_steps
    rename Fr _ _ _ _ => F1
    rename News _ _ _ _ => N1
    have b1 := b.after G F1 N1 (by ktr_rel) (by simp)
    have hL1 := F1.ns.lt
    refine enum_h2 (c.ok.deeper _).hd (list_k F1 N1 W (by ktr_rel)) F1.ns (fun q => hL (by have q : R.aw = s.heap.objs.size := q; rw [← q]; exact R.m_aw)) rfl rfl rfl
      (fun i m h' => H.StaysIn h' ∧ Kept [] s.heap h' ∧ ∃ D l, m (Str.ofString "found") = some (.ref D) ∧ m (Str.ofString "room") = some (.ref R.r) ∧ ViewAt w h' D s.heap.objs.size l ∧ vSees l = seesHeld R ++ (seesWait R).take i ∧ (∀ b, (b = D ∨ ∃ y ∈ l, b = y.2.a) → b ≠ h.objs.size ∧ b ≠ h.objs.size + 1)) ?_ ?_ ?_ ?_
    · intro i m h3 h4 hJ k
      obtain ⟨a1, a2, D, l, a3, a4, a5, a6, a7⟩ := hJ
      have far : ∀ b, b < s.heap.objs.size → ∀ o, h3.get? b = some o → h4.get? b = some o := fun b hb o e =>
        k b o (Nat.ne_of_lt (Nat.lt_trans hb hL1)) (Nat.ne_of_lt (Nat.lt_succ_of_lt (Nat.lt_trans hb hL1))) (Nat.ne_of_lt hb) e
      refine ⟨fun b o e => far b (Heap.lt_size (c.st b o e)) o (a1 b o e), fun b o hb e => far b (Heap.lt_size e) o (a2 b o hb e), D, l, a3, a4, a5.keep fun b hb o e => k b o (a7 b hb).1 (a7 b hb).2 (fun q => ?_) e, a6, a7⟩
      rcases hb with rfl | ⟨y, hy, rfl⟩
      · exact Nat.ne_of_gt a5.newD q
      · exact Nat.ne_of_gt (a5.new y hy).1 q
    · exact ⟨b1.st, b1.kp, D, l, m1, m2, a5, by simp [a6], fun z hz => ⟨Nat.ne_of_lt (a5.lt z hz), Nat.ne_of_lt (Nat.lt_succ_of_lt (a5.lt z hz))⟩⟩
    · intro i t v m h4 tk hv hIh hJ hn
      obtain ⟨a1, a2, D, l, m1, m2, a5, a6, a7⟩ := hJ
      have hv0 : (waitOf R.wait)[i]? = some v := by simpa using hv
      unfold waitOf at hv0
      rw [List.getElem?_map, Option.map_eq_some_iff] at hv0
      obtain ⟨pl, hpl, rfl⟩ := hv0
      have hpm : pl ∈ R.pls := List.mem_append_right _ (List.mem_of_getElem? hpl)
      have b : Bd H s s.heap.objs.size [] _ h4 := ⟨hn, a1, a2, Nat.le_refl _⟩
      have q1 : (fun y => if y = Str.ofString "place" then some (Value.ref pl.a) else if y = Str.ofString "at" then some (.int (i : Nat) t) else m y) (Str.ofString "found") = some (.ref D) := m1
      have q2 : (fun y => if y = Str.ofString "place" then some (Value.ref pl.a) else if y = Str.ofString "at" then some (.int (i : Nat) t) else m y) (Str.ofString "room") = some (.ref R.r) := m2
      have q3 : (fun y => if y = Str.ofString "place" then some (Value.ref pl.a) else if y = Str.ofString "at" then some (.int (i : Nat) t) else m y) (Str.ofString "place") = some (Value.ref pl.a) := rfl
      have q4 : (fun y => if y = Str.ofString "place" then some (Value.ref pl.a) else if y = Str.ofString "at" then some (.int (i : Nat) t) else m y) (Str.ofString "at") = some (.int (i : Nat) t) := rfl
      generalize (fun y => if y = Str.ofString "place" then some (Value.ref pl.a) else if y = Str.ofString "at" then some (.int (i : Nat) t) else m y) = m' at q1 q2 q3 q4 b
      have xh := x.kept a2 (by simp)
      obtain ⟨o, hod, hdo⟩ := Heap.dictOf_iff.mp a5.dict
      have hDH : H.get? D = none := Heap.get?_none_of_le (Nat.le_of_lt (Nat.lt_trans (Nat.lt_of_le_of_lt (x.new _ R.m_r) (x.at_.lt _ R.m_r)) a5.newD))
      have farD : ∀ a ∈ R.adr, a ≠ D := fun a ha q => Nat.lt_asymm a5.newD (q ▸ x.at_.lt a ha)
      refine seg_k (b.seg [(D, o)] c (by
        intro q hq
        rw [List.mem_singleton.mp hq]
        exact ⟨hod, hDH, Nat.ne_of_gt a5.newD⟩)) fun g rest p loose mean mg mb G F' N' T' => ?_
      rw [List.singleton_append] at N'
      have X' := G.X
      have nD : ∀ a ∈ R.adr, a ∉ [(D, o)].map (·.1) := fun a ha q => farD a ha (List.mem_singleton.mp q)
      obtain ⟨u0, u1, e0, hpa⟩ := xh.at_.pls pl hpm
      have P := G.old _ _ (fun q => hL (q ▸ Rm.m_pl hpm)) (nD _ (Rm.m_pl hpm)) hpa
      have off : ∀ p ∈ rest, p.1 ≠ D := fun p hp q => G.off p hp (List.mem_singleton.mpr q)
      have hh : A.handled = none := c.ok.hd
      k_steps
      rename Fr _ _ _ _ => F3
      rename News _ _ _ _ => N3
      have ba := b.after G F3 N3 (by ktr_rel) (by intro q hq; rw [List.mem_singleton.mp hq]; exact .inr (Nat.le_of_lt a5.newD))
      refine text_at_c (pl := pl) ((c.deeper _ ba.st).le (by decide)) (xh.same G F3 N3 (by ktr_rel) (by intro q hq; rw [List.mem_singleton.mp hq]; k_mem) (by intro q hq; rw [List.mem_singleton.mp hq]; exact hod) hL) ⟨u0, u1, e0, P.now F3 N3 (by ktr_rel)⟩ ho (hp pl hpm) fun h5 tk5 tk5' kp5 => ?_
      obtain ⟨F5, N5⟩ := after0 F3 N3 kp5
      clear F3 N3 kp5 ba
      have hi3 : i < R.wait.length := (List.getElem?_eq_some_iff.mp hpl).1
      have hi3 : i = 0 ∨ i = 1 ∨ i = 2 := by omega
      have hsw : (seesWait R)[i]? = some (wName i, pl.lo, txtOf (cutOf R.ns pl)) := by
        rw [seesWait, List.getElem?_map, List.getElem?_zipIdx, hpl]
        simp
      have hst1 : (seesWait R).take (i + 1) = (seesWait R).take i ++ [(wName i, pl.lo, txtOf (cutOf R.ns pl))] := by rw [List.take_add_one, hsw]; rfl
      have hln : l.length ≤ 1010 := by
        have e1 : (vSees l).length = l.length := by simp [vSees]
        have e2 : (seesHeld R).length = R.held.length := by simp [seesHeld]
        have e3 : (seesWait R).length = R.wait.length := by simp [seesWait]
        rw [← e1, a6, List.length_append, List.length_take, e2, e3]; omega
      have hky : wName i ∉ l.map (·.1) := by
        have e1 : l.map (·.1) = (seesHeld R ++ (seesWait R).take i).map (·.1) := by rw [← a6, vSees, List.map_map]; rfl
        rw [e1]
        intro q
        obtain ⟨z, hz, ez⟩ := List.mem_map.mp q
        rcases List.mem_append.mp hz with hz | hz
        · obtain ⟨y, hy, rfl⟩ := List.mem_map.mp hz
          exact hnm y hy i ez
        · obtain ⟨j, hj, e⟩ := List.getElem_of_mem hz
          rw [List.length_take] at hj
          rw [List.getElem_take] at e
          have e2 : (seesWait R)[j]? = some z := by rw [← e]; exact List.getElem?_eq_getElem _
          rw [seesWait, List.getElem?_map, List.getElem?_zipIdx] at e2
          cases hw2 : R.wait[j]? with
          | none => rw [hw2] at e2; simp at e2
          | some pq =>
            rw [hw2] at e2
            simp at e2
            rw [← e2] at ez
            have := congrArg (fun s : Str => s.cps[1]?) ez
            simp [wName] at this
            omega
      rcases hi3 with rfl | rfl | rfl
      · k_steps
        rename Fr _ _ _ _ => F3
        rename News _ _ _ _ => N3
        rename (D < _ ∧ AllLt _ rest) => hlt
        have hlt := hlt.1
        refine setItem_led (k := wName 0) F3 (News.swap N3) (Heap.dictOf_iff.mpr ⟨o, (N3 _ (.tail _ (.head _))).1, hdo⟩) (List.forall_mem_cons.mpr ⟨Nat.ne_of_gt hlt, off⟩) (by rw [vOf, List.length_map, sizeLine_eq]; omega) fun h6 o6 F6 N6 D6 => ?_
        clear F3 N3
        k_steps
        have b6 := b.after G F6 N6 (by ktr_rel) (by intro q hq; rw [List.mem_singleton.mp hq]; exact .inr (Nat.le_of_lt a5.newD))
        have st : ∀ z, z ≠ D → z ≠ s.heap.objs.size → ∀ o, h4.get? z = some o → h6.get? z = some o := fun z h1 h2 o e => G.stay F6 N6 (by ktr_rel) z o h2 (fun q => h1 (List.mem_singleton.mp q)) e
        have hTI : ∀ z, (z = h.objs.size ∨ z = h.objs.size + 1) → _ ≠ z := fun z hz q => by
          obtain ⟨oI, hoI, hcI⟩ := hIh z hz
          have e1 := st z (fun y => by rcases hz with rfl | rfl; exact (a7 D (.inl rfl)).1 y.symm; exact (a7 D (.inl rfl)).2 y.symm) (fun y => by rcases hz with rfl | rfl; exact Nat.ne_of_gt hL1 y; exact Nat.ne_of_gt (Nat.lt_succ_of_lt hL1) y) _ hoI
          rw [← q, (N6 _ (.tail _ (.head _))).1] at e1
          cases e1
          exact hcI rfl
        rw [stored_new (v := ⟨_, pl.lo, txtOf (cutOf R.ns pl)⟩) hky] at D6
        refine ⟨_, _, _, rfl, F6.ns, fun z hz o e => st z ?_ ?_ o e, b6.st, b6.kp, D, l ++ [(wName 0, ⟨_, pl.lo, txtOf (cutOf R.ns pl)⟩)], q1, q2, ⟨D6, fun y hy => ?_, a5.newD, fun y hy => ?_⟩, ?_, fun z hz => ?_⟩
        · rcases List.mem_cons.mp hz with rfl | hz
          · exact fun q => (a7 D (.inl rfl)).2 q.symm
          · rcases List.mem_cons.mp hz with rfl | hz
            · exact fun q => (a7 D (.inl rfl)).1 q.symm
            · rw [List.mem_singleton.mp hz]; exact farD _ R.m_aw
        · rcases List.mem_cons.mp hz with rfl | hz
          · exact Nat.ne_of_gt (Nat.lt_succ_of_lt hL1)
          · rcases List.mem_cons.mp hz with rfl | hz
            · exact Nat.ne_of_gt hL1
            · rw [List.mem_singleton.mp hz]; exact fun q => hL (q ▸ R.m_aw)
        · rcases List.mem_append.mp hy with hy | hy
          · obtain ⟨z0, z1, ez⟩ := a5.tup y hy
            exact ⟨z0, z1, st _ (a5.new y hy).2 (Nat.ne_of_gt (a5.new y hy).1) _ ez⟩
          · rw [List.mem_singleton.mp hy]; exact ⟨_, _, (N6 _ (.tail _ (.head _))).1⟩
        · rcases List.mem_append.mp hy with hy | hy
          · exact a5.new y hy
          · rw [List.mem_singleton.mp hy]; exact ⟨Nat.lt_trans a5.newD hlt, Nat.ne_of_gt hlt⟩
        · rw [vSees, List.map_append, ← vSees, a6, List.append_assoc, hst1]
          rfl
        · rcases hz with rfl | ⟨y, hy, rfl⟩
          · exact a7 _ (.inl rfl)
          · rcases List.mem_append.mp hy with hy | hy
            · exact a7 _ (.inr ⟨y, hy, rfl⟩)
            · rw [List.mem_singleton.mp hy]; exact ⟨hTI _ (.inl rfl), hTI _ (.inr rfl)⟩
      · k_steps
        rename Fr _ _ _ _ => F3
        rename News _ _ _ _ => N3
        rename (D < _ ∧ AllLt _ rest) => hlt
        have hlt := hlt.1
        refine setItem_led (k := wName 1) F3 (News.swap N3) (Heap.dictOf_iff.mpr ⟨o, (N3 _ (.tail _ (.head _))).1, hdo⟩) (List.forall_mem_cons.mpr ⟨Nat.ne_of_gt hlt, off⟩) (by rw [vOf, List.length_map, sizeLine_eq]; omega) fun h6 o6 F6 N6 D6 => ?_
        clear F3 N3
        k_steps
        have b6 := b.after G F6 N6 (by ktr_rel) (by intro q hq; rw [List.mem_singleton.mp hq]; exact .inr (Nat.le_of_lt a5.newD))
        have st : ∀ z, z ≠ D → z ≠ s.heap.objs.size → ∀ o, h4.get? z = some o → h6.get? z = some o := fun z h1 h2 o e => G.stay F6 N6 (by ktr_rel) z o h2 (fun q => h1 (List.mem_singleton.mp q)) e
        have hTI : ∀ z, (z = h.objs.size ∨ z = h.objs.size + 1) → _ ≠ z := fun z hz q => by
          obtain ⟨oI, hoI, hcI⟩ := hIh z hz
          have e1 := st z (fun y => by rcases hz with rfl | rfl; exact (a7 D (.inl rfl)).1 y.symm; exact (a7 D (.inl rfl)).2 y.symm) (fun y => by rcases hz with rfl | rfl; exact Nat.ne_of_gt hL1 y; exact Nat.ne_of_gt (Nat.lt_succ_of_lt hL1) y) _ hoI
          rw [← q, (N6 _ (.tail _ (.head _))).1] at e1
          cases e1
          exact hcI rfl
        rw [stored_new (v := ⟨_, pl.lo, txtOf (cutOf R.ns pl)⟩) hky] at D6
        refine ⟨_, _, _, rfl, F6.ns, fun z hz o e => st z ?_ ?_ o e, b6.st, b6.kp, D, l ++ [(wName 1, ⟨_, pl.lo, txtOf (cutOf R.ns pl)⟩)], q1, q2, ⟨D6, fun y hy => ?_, a5.newD, fun y hy => ?_⟩, ?_, fun z hz => ?_⟩
        · rcases List.mem_cons.mp hz with rfl | hz
          · exact fun q => (a7 D (.inl rfl)).2 q.symm
          · rcases List.mem_cons.mp hz with rfl | hz
            · exact fun q => (a7 D (.inl rfl)).1 q.symm
            · rw [List.mem_singleton.mp hz]; exact farD _ R.m_aw
        · rcases List.mem_cons.mp hz with rfl | hz
          · exact Nat.ne_of_gt (Nat.lt_succ_of_lt hL1)
          · rcases List.mem_cons.mp hz with rfl | hz
            · exact Nat.ne_of_gt hL1
            · rw [List.mem_singleton.mp hz]; exact fun q => hL (q ▸ R.m_aw)
        · rcases List.mem_append.mp hy with hy | hy
          · obtain ⟨z0, z1, ez⟩ := a5.tup y hy
            exact ⟨z0, z1, st _ (a5.new y hy).2 (Nat.ne_of_gt (a5.new y hy).1) _ ez⟩
          · rw [List.mem_singleton.mp hy]; exact ⟨_, _, (N6 _ (.tail _ (.head _))).1⟩
        · rcases List.mem_append.mp hy with hy | hy
          · exact a5.new y hy
          · rw [List.mem_singleton.mp hy]; exact ⟨Nat.lt_trans a5.newD hlt, Nat.ne_of_gt hlt⟩
        · rw [vSees, List.map_append, ← vSees, a6, List.append_assoc, hst1]
          rfl
        · rcases hz with rfl | ⟨y, hy, rfl⟩
          · exact a7 _ (.inl rfl)
          · rcases List.mem_append.mp hy with hy | hy
            · exact a7 _ (.inr ⟨y, hy, rfl⟩)
            · rw [List.mem_singleton.mp hy]; exact ⟨hTI _ (.inl rfl), hTI _ (.inr rfl)⟩
      · k_steps
        rename Fr _ _ _ _ => F3
        rename News _ _ _ _ => N3
        rename (D < _ ∧ AllLt _ rest) => hlt
        have hlt := hlt.1
        refine setItem_led (k := wName 2) F3 (News.swap N3) (Heap.dictOf_iff.mpr ⟨o, (N3 _ (.tail _ (.head _))).1, hdo⟩) (List.forall_mem_cons.mpr ⟨Nat.ne_of_gt hlt, off⟩) (by rw [vOf, List.length_map, sizeLine_eq]; omega) fun h6 o6 F6 N6 D6 => ?_
        clear F3 N3
        k_steps
        have b6 := b.after G F6 N6 (by ktr_rel) (by intro q hq; rw [List.mem_singleton.mp hq]; exact .inr (Nat.le_of_lt a5.newD))
        have st : ∀ z, z ≠ D → z ≠ s.heap.objs.size → ∀ o, h4.get? z = some o → h6.get? z = some o := fun z h1 h2 o e => G.stay F6 N6 (by ktr_rel) z o h2 (fun q => h1 (List.mem_singleton.mp q)) e
        have hTI : ∀ z, (z = h.objs.size ∨ z = h.objs.size + 1) → _ ≠ z := fun z hz q => by
          obtain ⟨oI, hoI, hcI⟩ := hIh z hz
          have e1 := st z (fun y => by rcases hz with rfl | rfl; exact (a7 D (.inl rfl)).1 y.symm; exact (a7 D (.inl rfl)).2 y.symm) (fun y => by rcases hz with rfl | rfl; exact Nat.ne_of_gt hL1 y; exact Nat.ne_of_gt (Nat.lt_succ_of_lt hL1) y) _ hoI
          rw [← q, (N6 _ (.tail _ (.head _))).1] at e1
          cases e1
          exact hcI rfl
        rw [stored_new (v := ⟨_, pl.lo, txtOf (cutOf R.ns pl)⟩) hky] at D6
        refine ⟨_, _, _, rfl, F6.ns, fun z hz o e => st z ?_ ?_ o e, b6.st, b6.kp, D, l ++ [(wName 2, ⟨_, pl.lo, txtOf (cutOf R.ns pl)⟩)], q1, q2, ⟨D6, fun y hy => ?_, a5.newD, fun y hy => ?_⟩, ?_, fun z hz => ?_⟩
        · rcases List.mem_cons.mp hz with rfl | hz
          · exact fun q => (a7 D (.inl rfl)).2 q.symm
          · rcases List.mem_cons.mp hz with rfl | hz
            · exact fun q => (a7 D (.inl rfl)).1 q.symm
            · rw [List.mem_singleton.mp hz]; exact farD _ R.m_aw
        · rcases List.mem_cons.mp hz with rfl | hz
          · exact Nat.ne_of_gt (Nat.lt_succ_of_lt hL1)
          · rcases List.mem_cons.mp hz with rfl | hz
            · exact Nat.ne_of_gt hL1
            · rw [List.mem_singleton.mp hz]; exact fun q => hL (q ▸ R.m_aw)
        · rcases List.mem_append.mp hy with hy | hy
          · obtain ⟨z0, z1, ez⟩ := a5.tup y hy
            exact ⟨z0, z1, st _ (a5.new y hy).2 (Nat.ne_of_gt (a5.new y hy).1) _ ez⟩
          · rw [List.mem_singleton.mp hy]; exact ⟨_, _, (N6 _ (.tail _ (.head _))).1⟩
        · rcases List.mem_append.mp hy with hy | hy
          · exact a5.new y hy
          · rw [List.mem_singleton.mp hy]; exact ⟨Nat.lt_trans a5.newD hlt, Nat.ne_of_gt hlt⟩
        · rw [vSees, List.map_append, ← vSees, a6, List.append_assoc, hst1]
          rfl
        · rcases hz with rfl | ⟨y, hy, rfl⟩
          · exact a7 _ (.inl rfl)
          · rcases List.mem_append.mp hy with hy | hy
            · exact a7 _ (.inr ⟨y, hy, rfl⟩)
            · rw [List.mem_singleton.mp hy]; exact ⟨hTI _ (.inl rfl), hTI _ (.inr rfl)⟩
    · intro h tk m hJ hn
      obtain ⟨a1, a2, D, l, m1, m2, a5, a6, a7⟩ := hJ
      have b : Bd H s s.heap.objs.size [] _ h := ⟨hn, a1, a2, Nat.le_refl _⟩
      rw [show (waitOf R.wait).toArray.size = R.wait.length by simp [waitOf], List.take_of_length_le (by simp [seesWait])] at a6
      refine b.seg0 c fun g rest p loose mean mg mb G F' N' T' X' => ?_
      k_steps
      try dsimp only
      rename Fr _ _ _ _ => F3
      rename News _ _ _ _ => N3
      refine hQ _ _ D l (b.after G F3 N3 (by ktr_rel) (by simp)).kp (a5.keep fun z hz o e => G.stay F3 N3 (by ktr_rel) z o (fun q => ?_) (by simp) e) a6
      rcases hz with rfl | ⟨y, hy, rfl⟩
      · exact Nat.ne_of_gt a5.newD q
      · exact Nat.ne_of_gt (a5.new y hy).1 q
end
end Mine
end
section
namespace Mine
theorem newTuple_S {M : Model} {A : Around} {E : Value → Shared → Prop} {s : Shared} {g : Heap} {L : Addr} {m : Str → Option Value} {news : List (Addr × Obj)} {vs : List Value} {Q : Value → Shared → Prop} (F : Fr g L s.heap m) (N : News g L s.heap news)
    (h : ∀ l h', Fr g L h' m → News g L h' ((l, { cls := .type "tuple", data := .seq vs.toArray }) :: news) → (∀ p ∈ news, p.1 < l) → L < l → s.heap.StaysIn h' → Q (.ref l) { s with heap := h' }) (hsz : vs.length ≤ sizeLine) : wpAny M A (newTuple vs) Q E s :=
  newTuple_NK F N (fun h' F' N' k => h _ h' F' N' (fun p hp => Heap.lt_size (N p hp).1) F.ns.lt k) hsz
end Mine
local macro_rules | `(tactic| walk_at "newTuple") => `(tactic| (k_here; k_dflt (refine' newTuple_S ?k1 ?k2 ?_ ?k3; (case k1 => k_asm); (case k2 => k_asm); (case k3 => size_fits); k_whole); intro D' h' F' N' l1 l2 l3))
local macro_rules | `(tactic| walk_at "eval ListComp") => `(tactic| (k_here; refine' PyProof.Rows.LCp.ListComp_P ?F ?hclos ?hcell ?hkind ?hnames ?hx ?hx2 ?hxx ?h ?hs; (case F => k_asm); (case hclos => with_unfolding_all rfl); (case hcell => decide); (case hkind => with_unfolding_all rfl); (case hnames => decide); (case hx => with_unfolding_all rfl); (case hx2 => with_unfolding_all rfl); (case hxx => decide); (case hs => intro _; with_unfolding_all rfl)))
local macro_rules
  | `(tactic| walk_at "call builtin:sorted") => `(tactic| refine halt ?_)
  | `(tactic| walk_at "SrcLP") => `(tactic| refine halt ?_)
local macro_rules | `(tactic| walk_at "subscriptTail") => `(tactic| (k_here; (with_reducible show wpAny _ _ (subscriptTail _ (PySem.Expr.Slice none none (some _) _) (Value.ref _) (Value.ref _)) _ _ _); refine halt ?_))
namespace Mine
def lookV (l : List (Str × Vw)) (k : Str) : Option Vw := (l.find? fun x => decide (x.1 = k)).map (·.2)
theorem valueAt_v (l : List (Str × Vw)) (k : Str) : valueAt (vOf l) k = (lookV l k).map fun p => .ref p.a := by
  unfold valueAt lookV vOf
  induction l with
  | nil => rfl
  | cons x r ih =>
    rw [List.map_cons, List.find?_cons, List.find?_cons]
    by_cases h : x.1 = k
    · simp [h]
    · simp only [decide_eq_false h]; exact ih
theorem lookV_of_mem {l : List (Str × Vw)} {k : Str} {p : Vw} (hn : (l.map (·.1)).Nodup) (h : (k, p) ∈ l) : lookV l k = some p := by
  induction l with
  | nil => cases h
  | cons x r ih =>
    rw [List.map_cons, List.nodup_cons] at hn
    unfold lookV
    rw [List.find?_cons]
    rcases List.mem_cons.mp h with rfl | h
    · simp
    · have : x.1 ≠ k := fun e => hn.1 (List.mem_map.mpr ⟨_, h, e.symm⟩)
      simp only [decide_eq_false this]
      exact ih hn.2 h
theorem sub_view {prog : Program} {w : World} {A : Around} {E : Value → Shared → Prop} {s : Shared} {value slice : PySem.Expr} {d : Addr} {l : List (Str × Vw)} {k : Str} {t : Tok} {v : Vw} {Q : Value → Shared → Prop} (hD : s.heap.DictOf (strKind prog w) d (vOf l))
    (hm : lookV l k = some v) (h : Q (.ref v.a) { s with toks := s.toks + 1 })
    (hs : subscripted slice false (.ref d) (.str k t) = operate [.ref d, .str k t] (getItem (.ref d) (.str k t))) (hg : ∀ r, letTemporaryGo value (.ref d) r = pure ()) :
    wpAny (model prog w) A (subscriptTail value slice (.ref d) (.str k t)) Q E s :=
  subscriptTail_builtin hD.typeIs slot_dict_getitem.lookup (wpAny_getItem_of (strKind_is prog w k t) hD.mapOf (by rw [valueAt_v, hm]; rfl) h) hs hg
theorem view_at {l : List (Str × Vw)} {i : Nat} {k : Str} {y : Value} (h : (vOf l)[i]? = some (k, y)) : ∃ v, l[i]? = some (k, v) ∧ y = .ref v.a := by
  unfold vOf at h
  rw [List.getElem?_map, Option.map_eq_some_iff] at h
  obtain ⟨⟨k', v⟩, h1, h2⟩ := h
  cases h2
  exact ⟨v, h1, rfl⟩
theorem sub_tup {prog : Program} {w : World} {A : Around} {E : Value → Shared → Prop} {s : Shared} {value slice : PySem.Expr} {d : Addr} {its : Array Value} {k : Int} {u : Tok} {v : Value} {Q : Value → Shared → Prop} (ht : s.heap.IsTuple d its) (h0 : 0 ≤ k) (hhi : k < 2 ^ 63) (hn : k < its.size)
    (hx : its[k.toNat]? = some v) (h : Q v s) (hs : subscripted slice false (.ref d) (.int k u) = operate [.ref d, .int k u] (getItem (.ref d) (.int k u))) :
    wpAny (model prog w) A (subscriptTail value slice (.ref d) (.int k u)) Q E s :=
  tail_any ht.typeIs slot_tuple_getitem.lookup (getItem_tuple ht (by omega) hhi (seqIndex_of h0 hn) hx h) hs
/-- is a view's text under this key not empty -/
def fullV (l : List (Str × Vw)) : Value → Bool
  | .str k _ => match lookV l k with | some v => v.txt != Str.ofString "" | none => false
  | _ => false
theorem fullV_at {l : List (Str × Vw)} {k : Str} {t : Tok} {v : Vw} (h : lookV l k = some v) : fullV l (.str k t) = (v.txt != Str.ofString "") := by
  simp only [fullV, h]
/-- a name's pair: where its text lies, and the name -/
structure PairAt (l : List (Str × Vw)) (C : Addr) (h : Heap) (v y : Value) : Prop where
  go : ∃ T k lo t u0 u1, v = .str k t ∧ y = .ref T ∧ C < T ∧ (∃ z, lookV l k = some z ∧ z.lo = lo) ∧ h.get? T = some { cls := .type "tuple", data := .seq #[.int lo u0, .str k u1] }
abbrev fullE (x : Str × Vw) : Bool := x.2.txt != Str.ofString ""
theorem pair_keys {w : World} : ∀ {vs : List Value} {l : List (Str × Vw)}, vs.length = l.length → (∀ (j : Nat) v, vs[j]? = some v → ∃ k y, (vOf l)[j]? = some (k, y) ∧ (strKind PR w).is k v = true) → Paired (fun v (x : Str × Vw) => ∃ t, v = .str x.1 t) vs l
  | [], [], _, _ => .nil
  | [], _ :: _, h, _ => by simp at h
  | _ :: _, [], h, _ => by simp at h
  | v :: vs, x :: l, h, hv => by
    refine .cons ?_ (pair_keys (w := w) (by simpa using h) fun j u hu => ?_)
    · obtain ⟨k, y, e1, e2⟩ := hv 0 v rfl
      obtain ⟨t, rfl⟩ := Value.isStrOf_shape e2
      simp [vOf] at e1
      exact ⟨t, by rw [e1.1]⟩
    · have := hv (j + 1) u (by simpa using hu)
      simpa [vOf] using this
theorem pair_filter {l0 : List (Str × Vw)} (hn : (l0.map (·.1)).Nodup) : ∀ {vs : List Value} {l : List (Str × Vw)}, (∀ x ∈ l, x ∈ l0) → Paired (fun v (x : Str × Vw) => ∃ t, v = .str x.1 t) vs l →
    Paired (fun v (x : Str × Vw) => ∃ t, v = .str x.1 t) (vs.filter (fullV l0)) (l.filter fullE)
  | _, _, _, .nil => .nil
  | v :: vs, x :: l, hm, .cons h r => by
    obtain ⟨t, rfl⟩ := h
    have e := fullV_at (t := t) (lookV_of_mem hn (hm x (.head _)))
    have r' := pair_filter hn (fun y hy => hm y (.tail _ hy)) r
    rw [List.filter_cons, List.filter_cons, e]
    cases hx : fullE x with
    | true =>
      rw [if_pos (by simpa using hx), if_pos rfl]
      exact .cons ⟨t, rfl⟩ r'
    | false =>
      rw [if_neg (by simpa using hx), if_neg (by simp)]
      exact r'
/-- a name's tuple -/
def TupOf (C : Addr) (h : Heap) (x : Str × Vw) (y : Value) : Prop := ∃ T u0 u1, y = .ref T ∧ C < T ∧ h.get? T = some { cls := .type "tuple", data := .seq #[.int x.2.lo u0, .str x.1 u1] }
theorem pair_tups {l0 : List (Str × Vw)} {C : Addr} {h : Heap} (hn : (l0.map (·.1)).Nodup) : ∀ {vs ys : List Value} {l : List (Str × Vw)}, (∀ x ∈ l, x ∈ l0) → Paired (fun v (x : Str × Vw) => ∃ t, v = .str x.1 t) vs l → Paired (PairAt l0 C h) vs ys → Paired (TupOf C h) l ys
  | _, _, _, _, .nil, .nil => .nil
  | v :: vs, y :: ys, x :: l, hm, .cons a r, .cons b q => by
    refine .cons ?_ (pair_tups hn (fun y hy => hm y (.tail _ hy)) r q)
    obtain ⟨t, rfl⟩ := a
    obtain ⟨T, k, lo, t', u0, u1, e1, e2, e3, ⟨z, e4, e5⟩, e6⟩ := b
    cases e1
    rw [lookV_of_mem hn (hm x (.head _))] at e4
    cases e4
    subst e5
    exact ⟨T, u0, u1, e2, e3, e6⟩
theorem paired_get {α β : Type} {F : α → β → Prop} : ∀ {l₁ : List α} {l₂ : List β}, Paired F l₁ l₂ → ∀ (i : Nat) x, l₁[i]? = some x → ∃ y, l₂[i]? = some y ∧ F x y
  | _, _, .nil, i, x, h => by simp at h
  | _, _, .cons a t, 0, x, h => by simp at h; subst h; exact ⟨_, rfl, a⟩
  | _, _, .cons a t, i + 1, x, h => by simpa using paired_get t i x (by simpa using h)
theorem paired_rev {α β : Type} {F : α → β → Prop} {l₁ : List α} {l₂ : List β} (h : Paired F l₁ l₂) : Paired F l₁.reverse l₂.reverse := by
  induction h with
  | nil => exact .nil
  | cons a _ ih => rw [List.reverse_cons, List.reverse_cons]; exact ih.snoc a
theorem paired_map {α β : Type} {F : α → β → Prop} {l₁ : List α} {l₂ : List β} {d : α} {d' : β} (h : Paired F l₁ l₂) : ∀ {p : List Nat}, (∀ i ∈ p, i < l₁.length) → Paired F (p.map fun i => l₁.getD i d) (p.map fun i => l₂.getD i d')
  | [], _ => .nil
  | i :: p, hp => by
    refine .cons ?_ (paired_map h fun j hj => hp j (.tail _ hj))
    have hi := hp i (.head _)
    obtain ⟨y, e1, e2⟩ := paired_get h i _ (List.getElem?_eq_getElem hi)
    show F (l₁.getD i d) (l₂.getD i d')
    rw [List.getD_eq_getElem?_getD, List.getD_eq_getElem?_getD, e1, List.getElem?_eq_getElem hi]
    exact e2
theorem tup_list {C : Addr} {h : Heap} {es : List (Str × Vw)} {zs : List Value} (x : Paired (TupOf C h) es zs) :
    ∃ ts : List (Addr × Value × Value), zs = ts.map (fun t => Value.ref t.1) ∧ (∀ t ∈ ts, C < t.1 ∧ h.get? t.1 = some { cls := .type "tuple", data := .seq #[t.2.1, t.2.2] }) ∧ StrsAre (ts.map fun t => t.2.2) (es.map (·.1)) := by
  induction x with
  | nil => exact ⟨[], rfl, by simp, .nil⟩
  | @cons e z es zs a _ ih =>
    obtain ⟨ts, h1, h2, h3⟩ := ih
    obtain ⟨T, u0, u1, rfl, e2, e3⟩ := a
    refine ⟨(T, .int e.2.lo u0, .str e.1 u1) :: ts, by rw [h1]; rfl, fun t ht => ?_, .cons _ _ h3⟩
    rcases List.mem_cons.mp ht with rfl | ht
    · exact ⟨e2, e3⟩
    · exact h2 t ht
theorem off1_mem {D : Addr} : ∀ {l : List (Addr × Obj)}, PyProof.Rows.LCg.Off1 D l → ∀ p ∈ l, p.1 ≠ D
  | [], _, _, h => nomatch h
  | _ :: _, x, p, h => by
    rcases List.mem_cons.mp h with rfl | h
    · exact x.1
    · exact off1_mem x.2 p h
/-- the names by place downwards -/
def Ord (v : List (Str × Int × Str)) (ns : List Str) : Prop := ∃ es : List (Str × Int × Str), es.Perm (v.filter fun x => x.2.2 != Str.ofString "") ∧ es.Pairwise (fun a b => b.2.1 < a.2.1) ∧ ns = es.map (·.1)
def LosApart (v : List (Str × Int × Str)) : Prop := ((v.filter fun x => x.2.2 != Str.ofString "").map (·.2.1)).Nodup
theorem vSees_filter (l : List (Str × Vw)) : (vSees l).filter (fun x => x.2.2 != Str.ofString "") = (l.filter fullE).map fun x => (x.1, x.2.lo, x.2.txt) := by
  unfold vSees
  rw [List.filter_map]
  rfl
section
variable {w : World} {A : Around} {s : Shared} {H : Heap} {Q E : Value → Shared → Prop} {R : Rm}

theorem law_order_c {D L : Addr} {l : List (Str × Vw)} (c : Ctx 2 w A H s) (v : ViewAt w s.heap D L l) (hLH : H.objs.size ≤ L) (hk : l.length < 64) (hap : LosApart (vSees l))
    (hQ : ∀ h' tk D2 e (ns : List Str) ys, Kept [] s.heap h' → s.heap.get? D2 = none → h'.get? D2 = some (listOf (List.toArray ys) e) → StrsAre ys ns → Ord (vSees l) ns → Q (.ref D2) { s with heap := h', toks := tk }) :
    wpAny (model PR w) A (call (.ref 186) [.ref D]) Q E s := by
  refine' enterC c ?k6 ?k7 ?k9 ?kB ?kN ?_ ?c2 ?c3 ?c4
  case k6 => k_is
  case k7 => k_is
  case k9 => exact BindsTo.of_eq rfl
  case kB => exact rfl
  case kN => decide
  case c2 => exact rfl
  case c3 => exact rfl
  case c4 => exact rfl
  intro hh1 tk cells b hc Y
  obtain ⟨oc, rfl, hcd⟩ := CellsAre.one Y
  have hcd : oc.data = .cell (some (.ref D)) := hcd
  have v1 := v.keep fun z hz o e => b.kp z o (by simp) e
  have hDL : ∀ z, (z = D ∨ ∃ y ∈ l, z = y.2.a) → z ≠ s.heap.objs.size := fun z hz => Nat.ne_of_lt (v.lt z hz)
  obtain ⟨o, hod, hdo⟩ := Heap.dictOf_iff.mp v1.dict
  refine b.seg0 c fun g rest p loose mean mg mb G F' N' T' X' => ?_
  have KC := G.old _ _ (Nat.ne_of_gt (hc _ (.head _)).2) (by simp) (hc _ (.head _)).1
  have KD := G.old _ _ (hDL D (.inl rfl)) (by simp) hod
  clear hc Y
  try dsimp only
  k_steps
  refine' assign_comp_h ?hsw ?hclos ?hcell ?hkind ?hnames ?hx ?hy ?hp ?h ?hs
  case hsw => with_unfolding_all rfl
  case hclos => with_unfolding_all rfl
  case hcell => decide
  case hkind => with_unfolding_all rfl
  case hnames => decide
  case hx => with_unfolding_all rfl
  case hy => with_unfolding_all rfl
  case hp => with_unfolding_all rfl
  case hs => intro _; with_unfolding_all rfl
  k_steps
  rename Fr _ _ _ _ => F1
  rename News _ _ _ _ => N1
  obtain ⟨es, ep, hr⟩ := id hdo
  have hkeys : (l.map (·.1)).Nodup := by
    have := v1.dict.dictAt
    obtain ⟨ep, o, es, _, _, _, _, _, hn⟩ := this
    unfold vOf at hn
    rw [List.map_map] at hn
    exact hn
  have hH : H.objs.size ≤ D := Nat.le_trans hLH (Nat.le_of_lt v.newD)
  refine comp_dictS (fullV l) (PairAt l)
    rfl (c.ok.deeper _).hd F1 N1 (sys_ne c.big hH) ⟨o, es, KD.now F1 N1 (by ktr_rel), hr⟩ (by rw [vOf, List.length_map, sizeLine_eq]; omega) ⟨?_, ?_, ?_⟩ ?_
  · rintro C h h' v y ⟨T, k, lo, t, u0, u1, e1, e2, e3, e4, e5⟩ k
    exact .mk ⟨T, _, lo, t, u0, u1, e1, e2, e3, e4, k T _ e3 e5⟩
  · intro C i v s₃ m₃ hP F₃ N₃ hm _
    obtain ⟨k, y, hk1, hk2⟩ := hP
    obtain ⟨t, rfl⟩ := Value.isStrOf_shape hk2
    obtain ⟨vw, hvw, rfl⟩ := view_at hk1
    have hlk := lookV_of_mem hkeys (List.mem_of_getElem? hvw)
    obtain ⟨w0, w1, hT⟩ := v1.tup _ (List.mem_of_getElem? hvw)
    have KT := G.old _ _ (hDL _ (.inr ⟨_, List.mem_of_getElem? hvw, rfl⟩)) (by simp) hT
    obtain ⟨h₃, _, _, _, _⟩ := s₃
    clear F1 N1
    k_steps
    rename Fr _ _ _ _ => F4
    rename News _ _ _ _ => N4
    refine sub_view (Heap.dictOf_iff.mpr ⟨o, KD.now F4 N4 (by ktr_rel), hdo⟩) hlk ?_ ?_ ?_
    rotate_left
    · with_unfolding_all rfl
    · intro _; with_unfolding_all rfl
    k_steps
    refine sub_tup (its := #[.int vw.lo w0, .str vw.txt w1]) ⟨_, KT.now (by assumption) (by assumption) (by ktr_rel), rfl, _, rfl⟩ (by decide) (by decide) (by show (1 : Int) < 2; decide) (v := .str vw.txt w1) rfl ?_ (by with_unfolding_all rfl)
    k_steps
    · exact (fullV_at hlk).symm
    · exact ⟨_, _, rfl, fun _ _ e => e⟩
  · intro C i v s₃ m₃ hP _ F₃ N₃ hm _
    obtain ⟨k, y, hk1, hk2⟩ := hP
    obtain ⟨t, rfl⟩ := Value.isStrOf_shape hk2
    obtain ⟨vw, hvw, rfl⟩ := view_at hk1
    have hlk := lookV_of_mem hkeys (List.mem_of_getElem? hvw)
    obtain ⟨w0, w1, hT⟩ := v1.tup _ (List.mem_of_getElem? hvw)
    have KT := G.old _ _ (hDL _ (.inr ⟨_, List.mem_of_getElem? hvw, rfl⟩)) (by simp) hT
    obtain ⟨h₃, _, _, _, _⟩ := s₃
    clear F1 N1
    k_steps
    rename Fr _ _ _ _ => F4
    rename News _ _ _ _ => N4
    refine sub_view (Heap.dictOf_iff.mpr ⟨o, KD.now F4 N4 (by ktr_rel), hdo⟩) hlk ?_ ?_ ?_
    rotate_left
    · with_unfolding_all rfl
    · intro _; with_unfolding_all rfl
    k_steps
    refine sub_tup (its := #[.int vw.lo w0, .str vw.txt w1]) ⟨_, KT.now (by assumption) (by assumption) (by ktr_rel), rfl, _, rfl⟩ (by decide) (by decide) (by show (0 : Int) < 2; decide) (v := .int vw.lo w0) rfl ?_ (by with_unfolding_all rfl)
    k_steps
    · rename News _ _ _ _ => N5
      exact .mk ⟨_, k, _, t, _, _, rfl, rfl, by assumption, ⟨vw, hlk, rfl⟩, (N5 _ (.head _)).1⟩
    · exact ⟨_, _, rfl, by assumption⟩
  · intro D2 C vs ys e2 h2 tk2 hDC hLD2 hlt F2 N2 hl hv hP
    have b2 := b.after G F2 N2 (by ktr_rel) (by simp)
    clear F1 N1 X' T' hr
    obtain ⟨g2, rest2, p, loose, mean, mg, mb, G2, F', N', T'⟩ := b2.seg [] c (by simp)
    rw [List.nil_append] at N'
    have X' := G2.X
    have KD2 := G2.old _ _ (Nat.ne_of_gt hLD2) (by simp) (N2 _ (.head _)).1
    k_steps
    refine ⟨?_⟩
    rename Fr _ _ _ _ => F3
    rename News _ _ _ _ => N3
    obtain ⟨yl, rfl⟩ : ∃ yl : List Value, ys = yl.toArray := ⟨ys.toList, by simp⟩
    have pk := pair_keys (w := w) (by rw [hl, vOf, List.length_map]) hv
    have hT := pair_tups hkeys (fun x hx => (List.mem_filter.mp hx).1) (pair_filter hkeys (fun _ hx => hx) pk) (by simpa using hP)
    unfold LosApart at hap
    rw [vSees_filter, List.map_map] at hap
    have hfl : (l.filter fullE).length ≤ l.length := List.length_filter_le _ _
    generalize hl' : l.filter fullE = l' at hT hap hfl
    have hle := hT.length
    have led : ∀ a o, C < a → h2.get? a = some o → (a, o) ∈ rest2 := fun a o ha e => by
      rcases G2.old a o (Nat.ne_of_gt (Nat.lt_trans (Nat.lt_trans hLD2 hDC) ha)) (by simp) e with q | q
      · exact absurd (Nat.lt_of_lt_of_le (Heap.lt_size q) F3.above) (Nat.not_lt.mpr (Nat.le_of_lt (Nat.lt_trans (Nat.lt_trans hLD2 hDC) ha)))
      · exact q
    refine sorted_tups (key := fun i => ((l'[i]?).map (·.2.lo)).getD 0) F3 N3 (list_k F3 N3 KD2 (by ktr_rel)) (by omega) ?_ ?_ ?_
    · intro i j hi hj e
      have hi' : i < l'.length := by omega
      have hj' : j < l'.length := by omega
      simp only [List.getElem?_eq_getElem hi', List.getElem?_eq_getElem hj', Option.map_some, Option.getD_some] at e
      exact (List.getElem_inj (h₀ := by simpa using hi') (h₁ := by simpa using hj') hap).mp (by simpa using e)
    · intro i hi
      have hi' : i < l'.length := by omega
      obtain ⟨y, e1, T, u0, u1, rfl, e3, e4⟩ := paired_get hT i _ (List.getElem?_eq_getElem hi')
      refine ⟨T, l'[i].1, u0, u1, e1, .inr ?_⟩
      rw [List.getElem?_eq_getElem hi']
      have := led _ _ e3 e4
      ktr_rel
    intro D3 e3 h3 tk3 p F4 N4 l1 hp hpw
    dsimp only
    k_steps
    refine ⟨?_⟩
    have hpl : ∀ i ∈ p, i < l'.length := fun i hi => by have := List.mem_range.mp (hp.mem_iff.mp hi); omega
    obtain ⟨ts, z1, z2, z3⟩ := tup_list (paired_rev (paired_map (d := ((Str.ofString "", ⟨0, 0, Str.ofString ""⟩) : Str × Vw)) (d' := Value.none) hT hpl))
    have hlp : p.length = yl.length := by have := hp.length_eq; simpa using this
    have hlt2 : ts.length = yl.length := by have := congrArg List.length z1; simpa [hlp] using this.symm
    refine kba_turn (value' := PySem.Expr.Name (PySem.Str.ofString "_") ⟨0, 0, 0, 0⟩) (fun _ => rfl) ?_
    refine krv_lit F4 N4 (list_n N4 (.head _)) (IsPart.int _ _) (zs := ts.map fun t => Value.ref t.1) z1 (fun D4 h4 F5 N5 l2 => ?_) (by with_unfolding_all rfl) (by intro _; with_unfolding_all rfl) (by rw [List.size_toArray, List.length_map, hlp, sizeLine_eq]; omega)
    clear F3 N3 F4 N4
    k_steps
    refine ⟨?_⟩
    refine PyProof.Rows.LCp.SrcLP.ledger (c.ok.deeper _).hd F5 N5 (.head _) (by rw [List.size_toArray, List.length_map, sizeLine_eq]; omega) fun gg => ?_
    have hrest : ∀ q ∈ rest2, q ∈ (D4, W.listOf (ts.map fun t => Value.ref t.1).toArray 0) :: (D3, W.listOf (List.toArray (p.map fun i => yl.getD i Value.none)) e3) :: rest2 := fun q hq => .tail _ (.tail _ hq)
    have e0 : (ts.map fun t => Value.ref t.1).toArray.size = ts.length := by rw [List.size_toArray, List.length_map]
    rw [e0]
    refine rest_names (ts := ts) rfl rfl (by decide) (.inr ⟨_, .head _, rfl, _, rfl⟩) (fun t ht => ?_) ?_ ts.length 0 (Nat.zero_add _)
    · obtain ⟨y1, y2⟩ := z2 t ht
      exact ⟨_, 0, hrest _ (led _ _ y1 y2), rfl, rfl⟩
    · intro D6 h6 tk6 F6 N6 off6
      have b6 := b2.after G2 F6 N6 (fun q hq => .tail _ (hrest q hq)) (by simp)
      have hes := paired_rev (paired_map (d := ((Str.ofString "", ⟨0, 0, Str.ofString ""⟩) : Str × Vw)) (d' := Value.none) hT hpl)
      refine hQ h6 tk6 D6 _ _ _ b6.kp ?_ (N6 _ (.head _)).1 z3 ⟨((p.map fun i => l'.getD i (Str.ofString "", ⟨0, 0, Str.ofString ""⟩)).reverse).map fun x => (x.1, x.2.lo, x.2.txt), ?_, ?_, ?_⟩
      · cases q : s.heap.get? D6 with
        | none => rfl
        | some o6 =>
          have n6 := N6 _ (.head _)
          rcases G2.old D6 o6 n6.2.1 (by simp) (b2.kp _ _ (by simp) q) with z | z
          · rw [n6.2.2] at z; cases z
          · exact absurd rfl (off1_mem off6 _ (hrest _ z))
      · rw [vSees_filter, hl']
        refine List.Perm.map _ ((List.reverse_perm _).trans (map_getD_perm ?_))
        rw [hle]; exact hp
      · rw [List.pairwise_map, List.pairwise_reverse]
        rw [List.pairwise_map] at hpw ⊢
        refine hpw.imp_of_mem fun {a b} ha hb hab => ?_
        have ha' := hpl a ha
        have hb' := hpl b hb
        simpa [ha', hb'] using hab
      · rw [List.map_map]; rfl
end
end Mine
end
section
local macro_rules | `(tactic| walk_at "pyIter ref") => `(tactic| refine halt ?_)
namespace Mine
def goalT (g : Int) (es : List (Str × Int × Str)) : Int := es.foldl (fun g e => g - (e.2.2.cps.size : Int)) g
structure Tight (g f : Int) (es : List (Str × Int × Str)) : Prop where
  at_ : ∀ i e, es[i]? = some e → e.2.1 = goalT g (es.take i) - (e.2.2.cps.size : Int)
  free : goalT g es = f
theorem goalT_take {g : Int} {es : List (Str × Int × Str)} {i : Nat} {e : Str × Int × Str} (h : es[i]? = some e) : goalT g (es.take (i + 1)) = goalT g (es.take i) - (e.2.2.cps.size : Int) := by
  unfold goalT
  rw [List.take_add_one, h, List.foldl_append]
  rfl
theorem strs_at {vs : List Value} {ns : List Str} (h : StrsAre vs ns) {i : Nat} {v : Value} (e : vs[i]? = some v) : ∃ n t, ns[i]? = some n ∧ v = .str n t := by
  induction h generalizing i with
  | nil => simp at e
  | cons n t _ ih =>
    cases i with
    | zero => simp at e; exact ⟨n, t, by simp, e.symm⟩
    | succ i => simp at e; simpa using ih e
section
variable {w : World} {A : Around} {s : Shared} {H : Heap} {Q E : Value → Shared → Prop} {R : Rm}

theorem law_tight_c {D Lv : Addr} {l : List (Str × Vw)} (c : Ctx 3 w A H s) (x : RoomW w H s.heap R) (v : ViewAt w s.heap D Lv l) (hLH : H.objs.size ≤ Lv) (hk : l.length < 64) (hap : LosApart (vSees l)) (hs : ∀ y ∈ l, y.2.txt.cps.size < 1000)
    (ht : ∀ es : List (Str × Int × Str), es.Perm ((vSees l).filter fun x => x.2.2 != Str.ofString "") → es.Pairwise (fun a b => b.2.1 < a.2.1) → Tight R.size R.free es)
    (hQ : ∀ h' tk, Kept [] s.heap h' → Q (.bool true) { s with heap := h', toks := tk }) :
    wpAny (model PR w) A (call (.ref 193) [.ref R.r, .ref D]) Q E s := by
  refine' enter c ?k6 ?k7 ?k9 ?kB ?_ ?c5 ?c2 ?c3 ?c4
  ktr_unf
  intro hh1 tk b
  have hL : s.heap.objs.size ∉ R.adr := fun q => Nat.lt_irrefl _ (x.at_.lt _ q)
  have x1 := x.kept b.kp (by simp)
  have v1 := v.keep fun z hz o e => b.kp z o (by simp) e
  refine b.seg0 c fun g rest p loose mean mg mb G F' N' T' X' => ?_
  have I := G.old _ _ (fun q => hL (q ▸ R.m_r)) (by simp) x1.at_.inst
  refine x1.at_.dictK fun k t0 t1 t2 t3 t4 nd hd => ?_
  have DD := G.old _ _ (fun q => hL (q ▸ R.m_dx)) (by simp) hd
  try dsimp only
  k_steps
  rename Fr _ _ _ _ => F1
  rename News _ _ _ _ => N1
  have b1 := b.after G F1 N1 (by ktr_rel) (by simp)
  refine law_order_c ((c.deeper _ b1.st).le (by decide)) (v.keep fun z hz o e => b1.kp z o (by simp) e) hLH hk hap fun h5 tk5 D2 e2 ns ys kp5 hnew hD2 hst hord => ?_
  obtain ⟨es, hes1, hes2, rfl⟩ := hord
  have hti := ht es hes1 hes2
  obtain ⟨F5, N5⟩ := after0 F1 N1 kp5
  have b5 := b1.call kp5 (by simp)
  have hDL : D2 ≠ s.heap.objs.size := fun q => by
    obtain ⟨o, _, _, ho, _⟩ := F1.ns
    rw [← q] at ho
    rw [hnew] at ho; cases ho
  clear F1 N1
  have hkeys : (l.map (·.1)).Nodup := by
    have := v1.dict.dictAt
    obtain ⟨ep, o, es, _, _, _, _, _, hn⟩ := this
    unfold vOf at hn
    rw [List.map_map] at hn
    exact hn
  have hF5 := F5.ns.lt
  have hD5 := Heap.lt_size hD2
  obtain ⟨oD, hoD, hdD⟩ := Heap.dictOf_iff.mp v.dict
  k_steps
  refine ⟨?_⟩
  clear X' T' I DD hd x1 v1
  refine list_h (c.ok.deeper _).hd ⟨_, hD2, rfl, _, rfl⟩ F5.ns hDL rfl rfl
    (fun i m h => H.StaysIn h ∧ Kept [] s.heap h ∧ h.get? D2 = some (W.listOf (List.toArray ys) e2) ∧ m (Str.ofString "room") = some (.ref R.r) ∧ m (Str.ofString "view") = some (.ref D) ∧ ∃ t, m (Str.ofString "goal") = some (.int (goalT R.size (es.take i)) t)) ?_ ?_ ?_ ?_
  · intro i m h3 h4 hJ k
    obtain ⟨a1, a2, a3, a4, a5, a6⟩ := hJ
    have far : ∀ b, b < s.heap.objs.size → ∀ o, h3.get? b = some o → h4.get? b = some o := fun b hb o e =>
      k b o (Nat.ne_of_lt (Nat.lt_trans hb hF5)) (Nat.ne_of_lt hb) e
    exact ⟨fun b o e => far b (Heap.lt_size (c.st b o e)) o (a1 b o e), fun b o hb e => far b (Heap.lt_size e) o (a2 b o hb e), k _ _ (Nat.ne_of_lt hD5) hDL a3, a4, a5, a6⟩
  · exact ⟨b5.st, b5.kp, hD2, rfl, rfl, _, rfl⟩
  · intro i v0 m h tk hv hJ hn
    obtain ⟨a1, a2, a3, m1, m2, t0, m3⟩ := hJ
    obtain ⟨nm, t, hnm, rfl⟩ := strs_at hst (show ys[i]? = some v0 by simpa using hv)
    rw [List.getElem?_map, Option.map_eq_some_iff] at hnm
    obtain ⟨e, he, rfl⟩ := hnm
    have hg := goalT_take (g := R.size) he
    have hat := hti.at_ i e he
    obtain ⟨y, hy, rfl⟩ : ∃ y ∈ l, e = (y.1, y.2.lo, y.2.txt) := by
      have := (List.mem_filter.mp (hes1.mem_iff.mp (List.mem_of_getElem? he))).1
      obtain ⟨y, hy, e⟩ := List.mem_map.mp this
      exact ⟨y, hy, e.symm⟩
    obtain ⟨nm, ⟨va, lo, tx⟩⟩ := y
    have hlk := lookV_of_mem hkeys hy
    have hsy := hs _ hy
    dsimp only at hg hat hsy
    have hzz : tx.length = tx.cps.size := rfl
    have b : Bd H s s.heap.objs.size [] _ h := ⟨hn, a1, a2, Nat.le_refl _⟩
    have q1 : (fun z => if z = Str.ofString "name" then some (Value.str nm t) else m z) (Str.ofString "room") = some (.ref R.r) := m1
    have q2 : (fun z => if z = Str.ofString "name" then some (Value.str nm t) else m z) (Str.ofString "view") = some (.ref D) := m2
    have q3 : (fun z => if z = Str.ofString "name" then some (Value.str nm t) else m z) (Str.ofString "goal") = some (.int (goalT R.size (es.take i)) t0) := m3
    have q4 : (fun z => if z = Str.ofString "name" then some (Value.str nm t) else m z) (Str.ofString "name") = some (Value.str nm t) := rfl
    generalize (fun z => if z = Str.ofString "name" then some (Value.str nm t) else m z) = m' at q1 q2 q3 q4 b
    obtain ⟨w0, w1, hT⟩ := v.tup _ hy
    refine b.seg0 c fun g rest p loose mean mg mb G F' N' T' X' => ?_
    have hDLs : ∀ z, (z = D ∨ ∃ y ∈ l, z = y.2.a) → z ≠ s.heap.objs.size := fun z hz => Nat.ne_of_lt (v.lt z hz)
    have KD := G.old _ _ (hDLs D (.inl rfl)) (by simp) (a2 _ _ (by simp) hoD)
    have KT := G.old _ _ (hDLs _ (.inr ⟨_, hy, rfl⟩)) (by simp) (a2 _ _ (by simp) hT)
    generalize goalT R.size (es.take i) = gi at hg hat q3
    clear F5 N5
    k_steps
    rename Fr _ _ _ _ => F4
    rename News _ _ _ _ => N4
    refine sub_view (Heap.dictOf_iff.mpr ⟨oD, KD.now F4 N4 (by ktr_rel), hdD⟩) hlk ?_ ?_ ?_
    rotate_left
    · with_unfolding_all rfl
    · intro _; with_unfolding_all rfl
    k_steps
    refine sub_tup (its := #[.int lo w0, .str tx w1]) ⟨_, KT.now (by assumption) (by assumption) (by ktr_rel), rfl, _, rfl⟩ (by decide) (by decide) (by show (1 : Int) < 2; decide) (v := .str tx w1) rfl ?_ (by with_unfolding_all rfl)
    k_steps
    rename Fr _ _ _ _ => F5
    rename News _ _ _ _ => N5
    refine sub_view (Heap.dictOf_iff.mpr ⟨oD, KD.now F5 N5 (by ktr_rel), hdD⟩) hlk ?_ ?_ ?_
    rotate_left
    · with_unfolding_all rfl
    · intro _; with_unfolding_all rfl
    k_steps
    refine sub_tup (its := #[.int lo w0, .str tx w1]) ⟨_, KT.now (by assumption) (by assumption) (by ktr_rel), rfl, _, rfl⟩ (by decide) (by decide) (by show (0 : Int) < 2; decide) (v := .int lo w0) rfl ?_ (by with_unfolding_all rfl)
    have hlo : lo = gi - (tx.length : Int) := by rw [hat, hzz]
    k_steps
    · exfalso; omega
    rename Fr _ _ _ _ => F6
    rename News _ _ _ _ => N6
    have b6 := b.after G F6 N6 (by ktr_rel) (by simp)
    refine ⟨_, _, _, rfl, F6.ns, fun z hz o e => G.stay F6 N6 (by ktr_rel) z o ?_ (by simp) e, b6.st, b6.kp, ?_, q1, q2, ?_⟩
    · rcases List.mem_cons.mp hz with rfl | hz
      · exact Nat.ne_of_gt hF5
      · rw [List.mem_singleton.mp hz]; exact hDL
    · exact G.stay F6 N6 (by ktr_rel) _ _ hDL (by simp) a3
    · exact ⟨_, by rw [hg]; rfl⟩
  · intro h tk m hJ hn
    obtain ⟨a1, a2, a3, m1, m2, t0, m3⟩ := hJ
    have hfr := hti.free
    have hlen : ys.length = es.length := by have := hst.length; simpa using this
    rw [show (List.toArray ys).size = es.length by simp [hlen], List.take_length, hfr] at m3
    have b : Bd H s s.heap.objs.size [] _ h := ⟨hn, a1, a2, Nat.le_refl _⟩
    have xh := x.kept a2 (by simp)
    refine b.seg0 c fun g rest p loose mean mg mb G F' N' T' X' => ?_
    have I := G.old _ _ (fun q => hL (q ▸ R.m_r)) (by simp) xh.at_.inst
    refine xh.at_.dictK fun k t0 t1 t2 t3 t4 nd hd => ?_
    have DD := G.old _ _ (fun q => hL (q ▸ R.m_dx)) (by simp) hd
    clear F5 N5
    k_steps
    try dsimp only
    rename Fr _ _ _ _ => F3
    rename News _ _ _ _ => N3
    rw [beq_self_eq_true]
    exact hQ _ _ (b.after G F3 N3 (by ktr_rel) (by simp)).kp
end
end Mine
end
section
namespace Mine
theorem put_get {ns ms : List Int} {k i : Nat} (h : k + ms.length ≤ ns.length) : (put ns k ms)[i]? = if k ≤ i ∧ i < k + ms.length then ms[i - k]? else ns[i]? := by
  have hk : (ns.take k).length = k := by rw [List.length_take]; omega
  unfold put
  by_cases h1 : i < k
  · rw [if_neg (by omega), List.append_assoc, List.getElem?_append_left (by omega), List.getElem?_take, if_pos h1]
  · by_cases h2 : i < k + ms.length
    · rw [if_pos ⟨by omega, h2⟩, List.getElem?_append_left (by rw [List.length_append]; omega), List.getElem?_append_right (by omega), hk]
    · rw [if_neg (by omega), List.getElem?_append_right (by rw [List.length_append]; omega), List.getElem?_drop, List.length_append, hk]
      congr 1; omega
theorem octs_get (ns : List Int) (p : Pl) (i : Nat) : (cutOf ns p)[i]? = if i < p.len.toNat then ns[p.lo.toNat + i]? else none := by
  unfold cutOf
  rw [List.getElem?_take]
  split
  · rw [List.getElem?_drop]
  · rfl
theorem cut_congr {ns ns' : List Int} {p p' : Pl} (hl : p'.len = p.len) (h : ∀ i, i < p.len.toNat → ns'[p'.lo.toNat + i]? = ns[p.lo.toNat + i]?) : cutOf ns' p' = cutOf ns p := by
  apply List.ext_getElem?
  intro i
  rw [octs_get, octs_get, hl]
  split
  · exact h i ‹_›
  · rfl
theorem cut_put_same {ns ms : List Int} {p : Pl} (h0 : 0 ≤ p.lo) (hl : p.len = ms.length) (h : p.lo + p.len ≤ ns.length) : cutOf (put ns p.lo.toNat ms) p = ms := by
  apply List.ext_getElem?
  intro i
  rw [octs_get, put_get (by omega)]
  by_cases hi : i < p.len.toNat
  · rw [if_pos hi, if_pos ⟨by omega, by omega⟩]; congr 1; omega
  · rw [if_neg hi, List.getElem?_eq_none (by omega)]
theorem cut_put_far {ns ms : List Int} {k : Nat} {p : Pl} (hk : k + ms.length ≤ ns.length) (h0 : 0 ≤ p.lo) (h : p.lo + p.len ≤ k ∨ (k + ms.length : Int) ≤ p.lo) : cutOf (put ns k ms) p = cutOf ns p :=
  cut_congr rfl fun i hi => by rw [put_get hk, if_neg (by omega)]
theorem put_cut {ns : List Int} {p : Pl} (h0 : 0 ≤ p.lo) (h1 : 0 ≤ p.len) (h : p.lo + p.len ≤ ns.length) : put ns p.lo.toNat (cutOf ns p) = ns := by
  have hc := cut_len' h0 h1 h
  apply List.ext_getElem?
  intro i
  rw [put_get (by omega)]
  split
  · rw [octs_get, if_pos (by omega)]; congr 1; omega
  · rfl

theorem packN_above : ∀ {ds : List Pl} {ns : List Int} {g : Int}, Desc g ds → g ≤ ns.length → ∀ i : Nat, g ≤ i → (packN ns g ds)[i]? = ns[i]?
  | [], _, _, _, _, _, _ => rfl
  | d :: r, ns, g, h, hg, i, hi => by
    have hd := h.ok d (.head _)
    have hc := cut_len' (ns := ns) hd.1 (Int.le_of_lt hd.2.1) (by omega)
    have e : (put ns (g - d.len).toNat (cutOf ns d)).length = ns.length := put_length (by omega)
    show (packN (put ns (g - d.len).toNat (cutOf ns d)) (g - d.len) r)[i]? = _
    rw [packN_above h.tail (by rw [e]; omega) i (by omega), put_get (by omega), if_neg (by omega)]
theorem relo_head (g : Int) (d : Pl) (r : List Pl) : relo g (d :: r) d = ⟨d.a, g - d.len, d.len⟩ := by
  unfold relo loOf; rw [if_pos rfl]; rfl
theorem relo_tail {g : Int} {d x : Pl} {r : List Pl} (h : d.a ≠ x.a) : relo g (d :: r) x = relo (g - d.len) r x := by
  unfold relo
  conv => lhs; unfold loOf
  rw [if_neg h]
theorem relo_len (g : Int) (ds : List Pl) (p : Pl) : (relo g ds p).len = p.len := rfl
theorem relo_a (g : Int) (ds : List Pl) (p : Pl) : (relo g ds p).a = p.a := rfl
theorem not_head {d x : Pl} {r : List Pl} (hn : ((d :: r).map (·.a)).Nodup) (h : x ∈ r) (e : d.a = x.a) : False := by
  rw [List.map_cons, List.nodup_cons, e] at hn
  exact hn.1 (List.mem_map_of_mem (f := Pl.a) h)
theorem map_tail_relo {g : Int} {d : Pl} {r : List Pl} (hn : ((d :: r).map (·.a)).Nodup) : r.map (relo g (d :: r)) = r.map (relo (g - d.len) r) :=
  List.map_congr_left fun x hx => relo_tail fun e => not_head hn hx e
theorem packN_cut : ∀ {ds : List Pl} {ns : List Int} {g : Int}, Desc g ds → g ≤ ns.length → (ds.map (·.a)).Nodup → ∀ d ∈ ds, cutOf (packN ns g ds) (relo g ds d) = cutOf ns d
  | x :: r, ns, g, h, hg, hn, d, hd => by
    have hx := h.ok x (.head _)
    have hc := cut_len' (ns := ns) hx.1 (Int.le_of_lt hx.2.1) (by omega)
    have e : (put ns (g - x.len).toNat (cutOf ns x)).length = ns.length := put_length (by omega)
    show cutOf (packN (put ns (g - x.len).toNat (cutOf ns x)) (g - x.len) r) _ = _
    rcases List.mem_cons.mp hd with rfl | hd
    · rw [relo_head]
      have e1 : cutOf (packN (put ns (g - d.len).toNat (cutOf ns d)) (g - d.len) r) ⟨d.a, g - d.len, d.len⟩ = cutOf (put ns (g - d.len).toNat (cutOf ns d)) ⟨d.a, g - d.len, d.len⟩ :=
        cut_congr rfl fun i hi => packN_above h.tail (by rw [e]; omega) _ (by dsimp only; omega)
      rw [e1]
      exact cut_put_same (p := ⟨d.a, g - d.len, d.len⟩) (by dsimp only; omega) (by dsimp only; omega) (by dsimp only; omega)
    · rw [relo_tail fun q => not_head hn hd q]
      rw [packN_cut h.tail (by rw [e]; omega) (List.nodup_cons.mp hn).2 d hd]
      have hp := (List.pairwise_cons.mp h.pw).1 d hd
      have hd' := h.ok d (.tail _ hd)
      exact cut_put_far (by omega) hd'.1 (.inl (by omega))

/-- without gaps from g downwards -/
def Packed : Int → List Pl → Prop
  | _, [] => True
  | g, d :: r => d.lo = g - d.len ∧ Packed (g - d.len) r
theorem relo_packed : ∀ {ds : List Pl} {g : Int}, (ds.map (·.a)).Nodup → Packed g (ds.map (relo g ds))
  | [], _, _ => trivial
  | d :: r, g, hn => by
    rw [List.map_cons, map_tail_relo hn, relo_head]
    exact ⟨rfl, relo_packed (List.nodup_cons.mp hn).2⟩
theorem packed_pack : ∀ {ds : List Pl} {g : Int} {ns : List Int}, Packed g ds → (∀ d ∈ ds, 0 ≤ d.lo ∧ 0 ≤ d.len ∧ d.lo + d.len ≤ ns.length) → packN ns g ds = ns
  | [], _, _, _, _ => rfl
  | d :: r, g, ns, h, hd => by
    obtain ⟨h0, h1, h2⟩ := hd d (.head _)
    show packN (put ns (g - d.len).toNat (cutOf ns d)) (g - d.len) r = _
    rw [← h.1, put_cut h0 h1 h2, h.1]
    exact packed_pack h.2 fun x hx => hd x (.tail _ hx)
theorem packed_relo : ∀ {ds : List Pl} {g : Int}, Packed g ds → (ds.map (·.a)).Nodup → ∀ p ∈ ds, relo g ds p = p
  | x :: r, g, h, hn, p, hp => by
    rcases List.mem_cons.mp hp with rfl | hp
    · rw [relo_head, ← h.1]
    · rw [relo_tail fun q => not_head hn hp q]
      exact packed_relo h.2 (List.nodup_cons.mp hn).2 p hp
theorem goalOf_lens : ∀ {ds es : List Pl} {g : Int}, ds.map (·.len) = es.map (·.len) → goalOf g ds = goalOf g es
  | [], [], _, _ => rfl
  | d :: r, e :: t, g, h => by
    rw [List.map_cons, List.map_cons] at h
    injection h with h1 h2
    show goalOf (g - d.len) r = goalOf (g - e.len) t
    rw [h1]; exact goalOf_lens h2
theorem goalOf_relo (g g' : Int) (ds es : List Pl) : goalOf g (ds.map (relo g' es)) = goalOf g ds := goalOf_lens (by rw [List.map_map]; rfl)
theorem packed_goal : ∀ {ds : List Pl} {g : Int}, Packed g ds → (∀ d ∈ ds, 0 < d.len) → goalOf g ds ≤ g ∧ (∀ d ∈ ds, goalOf g ds ≤ d.lo ∧ d.lo + d.len ≤ g) ∧ ds.Pairwise fun p q => q.lo + q.len ≤ p.lo
  | [], g, _, _ => ⟨Int.le_refl _, by simp, .nil⟩
  | d :: r, g, h, hl => by
    obtain ⟨i1, i2, i3⟩ := packed_goal h.2 fun x hx => hl x (.tail _ hx)
    have hd := hl d (.head _)
    have h1 := h.1
    refine ⟨by show goalOf (g - d.len) r ≤ g; omega, fun x hx => ?_, List.pairwise_cons.mpr ⟨fun x hx => ?_, i3⟩⟩
    · show goalOf (g - d.len) r ≤ _ ∧ _
      rcases List.mem_cons.mp hx with rfl | hx
      · omega
      · have := i2 x hx; omega
    · have := (i2 x hx).2; omega
theorem goal_ge : ∀ {ds : List Pl} {g f : Int}, Desc g ds → f ≤ g → (∀ d ∈ ds, f ≤ d.lo) → f ≤ goalOf g ds
  | [], _, _, _, h, _ => h
  | d :: r, g, f, h, hf, hd => by
    have h1 := h.ok d (.head _)
    have h2 := hd d (.head _)
    exact goal_ge (ds := r) h.tail (by omega) fun x hx => hd x (.tail _ hx)
theorem packed_at : ∀ {ds : List Pl} {g : Int}, Packed g ds → ∀ (i : Nat) d, ds[i]? = some d → d.lo = goalOf g (ds.take i) - d.len
  | x :: r, g, h, 0, d, e => by
    simp at e; subst e
    exact h.1
  | x :: r, g, h, i + 1, d, e => packed_at (ds := r) h.2 i d (by simpa using e)

theorem perm_lift {α β : Type} {f : α → β} {a m : List β} (h : a.Perm m) : ∀ (l : List α), l.map f = a → ∃ l' : List α, l'.Perm l ∧ l'.map f = m := by
  induction h with
  | nil =>
    intro l hl
    rw [List.map_eq_nil_iff] at hl
    subst hl; exact ⟨[], .nil, rfl⟩
  | cons x _ ih =>
    intro l hl
    obtain ⟨y, t, rfl, rfl, ht⟩ := List.map_eq_cons_iff.mp hl
    obtain ⟨l', h1, h2⟩ := ih t ht
    exact ⟨y :: l', h1.cons y, by rw [List.map_cons, h2]⟩
  | swap x y t =>
    intro l hl
    obtain ⟨u, l1, rfl, hu, h1⟩ := List.map_eq_cons_iff.mp hl
    obtain ⟨v, l2, rfl, hv, h2⟩ := List.map_eq_cons_iff.mp h1
    exact ⟨v :: u :: l2, .swap _ _ _, by rw [List.map_cons, List.map_cons, hu, hv, h2]⟩
  | trans _ _ ih1 ih2 =>
    intro l hl
    obtain ⟨l1, h1, h2⟩ := ih1 l hl
    obtain ⟨l2, h3, h4⟩ := ih2 l1 h2
    exact ⟨l2, h3.trans h1, h4⟩
theorem sorted_eq {α : Type} {f : α → Int} : ∀ {a b : List α}, a.Perm b → a.Pairwise (fun x y => f y < f x) → b.Pairwise (fun x y => f y < f x) → a = b
  | [], b, h, _, _ => (h.symm.eq_nil).symm ▸ rfl
  | x :: r, [], h, _, _ => absurd h.eq_nil (by simp)
  | x :: r, y :: t, h, ha, hb => by
    have e : x = y := by
      rcases List.mem_cons.mp (h.mem_iff.mp (.head _)) with e | e
      · exact e
      · rcases List.mem_cons.mp (h.mem_iff.mpr (.head _)) with q | q
        · exact q.symm
        · have h1 := (List.pairwise_cons.mp hb).1 x e
          have h2 := (List.pairwise_cons.mp ha).1 y q
          omega
    subst e
    rw [sorted_eq (List.Perm.cons_inv h) (List.pairwise_cons.mp ha).2 (List.pairwise_cons.mp hb).2]

/-- names and places -/
def Ents (R : Rm) : List (Str × Pl) := R.held ++ R.wait.zipIdx.map fun x => (wName x.2, x.1)
def see (ns : List Int) (e : Str × Pl) : Str × Int × Str := (e.1, e.2.lo, txtOf (cutOf ns e.2))
theorem sees_eq (R : Rm) : seesHeld R ++ seesWait R = (Ents R).map (see R.ns) := by
  unfold Ents seesHeld seesWait
  rw [List.map_append, List.map_map]
  rfl
theorem ents_pls (R : Rm) : (Ents R).map (·.2) = R.pls := by
  unfold Ents Rm.pls
  rw [List.map_append, List.map_map]
  congr 1
  show R.wait.zipIdx.map (fun x => x.1) = R.wait
  exact List.zipIdx_map_fst 0 R.wait

structure Fine (R : Rm) (ds : List Pl) : Prop where
  oct : OctOk R.ns
  size : R.size = R.ns.length
  low : R.low = 0
  free0 : 0 ≤ R.free
  free1 : R.free ≤ R.size
  pl : ∀ p ∈ R.pls, PlOk R.ns p
  perm : ds.Perm (R.pls.filter fun p => decide (0 < p.len))
  desc : ds.Pairwise fun p q => q.lo + q.len ≤ p.lo
  above : ∀ p ∈ ds, R.free ≤ p.lo
  nm : ∀ y ∈ R.held, y.1.cps.size = 1
theorem Fine.pos {R : Rm} {ds : List Pl} (F : Fine R ds) : ∀ p ∈ ds, 0 < p.len := fun p hp => of_decide_eq_true (List.mem_filter.mp (F.perm.mem_iff.mp hp)).2
theorem Fine.mem {R : Rm} {ds : List Pl} (F : Fine R ds) : ∀ p ∈ ds, p ∈ R.pls := fun p hp => (List.mem_filter.mp (F.perm.mem_iff.mp hp)).1
theorem Fine.inr {R : Rm} {ds : List Pl} (F : Fine R ds) : ∀ p ∈ ds, 0 ≤ p.lo ∧ p.lo + p.len ≤ R.size := fun p hp => by
  have := F.pl p (F.mem p hp)
  exact ⟨this.lo, by rw [F.size]; exact this.hi⟩
theorem Fine.isDesc {R : Rm} {ds : List Pl} (F : Fine R ds) : Desc R.size ds := ⟨fun p hp => ⟨(F.inr p hp).1, F.pos p hp, (F.inr p hp).2⟩, F.desc⟩
theorem adr_pls {R : Rm} (h : R.adr.Nodup) : (R.pls.map (·.a)).Nodup := (List.nodup_append.mp h).2.1
theorem Fine.sep {R : Rm} {ds : List Pl} (F : Fine R ds) (h : R.adr.Nodup) : (ds.map (·.a)).Nodup :=
  ((F.perm.map (·.a)).nodup_iff).mpr ((adr_pls h).sublist ((List.filter_sublist).map _))
theorem Fine.wNames {R : Rm} {ds : List Pl} (F : Fine R ds) : ∀ y ∈ R.held, ∀ i, y.1 ≠ wName i := fun y hy i e => by
  have := F.nm y hy
  rw [e] at this
  simp [wName] at this
theorem txt_len {ns : List Int} {p : Pl} (h : PlOk ns p) : ((txtOf (cutOf ns p)).cps.size : Int) = p.len := by
  rw [txt_size]; exact cut_len h
theorem empty_txt (x : Str) : (x != Str.ofString "") = decide (0 < x.cps.size) := by
  obtain ⟨a⟩ := x
  by_cases h : a.size = 0
  · have : a = #[] := Array.eq_empty_of_size_eq_zero h
    subst this; rfl
  · have h1 : (⟨a⟩ : Str) ≠ Str.ofString "" := fun e => h (by rw [show a = #[] from congrArg Str.cps e]; rfl)
    rw [decide_eq_true (by show 0 < a.size; omega)]
    exact bne_iff_ne.mpr h1
theorem Fine.full {R : Rm} {ds : List Pl} (F : Fine R ds) : ((Ents R).map (see R.ns)).filter (fun x => x.2.2 != Str.ofString "") = ((Ents R).filter fun e => decide (0 < e.2.len)).map (see R.ns) := by
  rw [List.filter_map]
  congr 1
  refine List.filter_congr fun e he => ?_
  have hp := F.pl e.2 (by rw [← ents_pls]; exact List.mem_map_of_mem (f := Prod.snd) he)
  have := txt_len hp
  show (txtOf (cutOf R.ns e.2) != Str.ofString "") = _
  rw [empty_txt]
  by_cases h : 0 < e.2.len
  · rw [decide_eq_true h, decide_eq_true (by omega)]
  · rw [decide_eq_false h, decide_eq_false (by omega)]
/-- the entries in the order of the places -/
theorem Fine.ents {R : Rm} {ds : List Pl} (F : Fine R ds) : ∃ es : List (Str × Pl), es.Perm ((Ents R).filter fun e => decide (0 < e.2.len)) ∧ es.map (·.2) = ds := by
  refine perm_lift F.perm.symm _ ?_
  rw [← ents_pls, List.filter_map]
  rfl
theorem Fine.ord {R : Rm} {ds : List Pl} (F : Fine R ds) {es : List (Str × Pl)} (h1 : es.Perm ((Ents R).filter fun e => decide (0 < e.2.len))) (h2 : es.map (·.2) = ds) {v : List (Str × Int × Str)}
    (hv : v.Perm (((Ents R).map (see R.ns)).filter fun x => x.2.2 != Str.ofString "")) (hs : v.Pairwise fun a b => b.2.1 < a.2.1) : v = es.map (see R.ns) := by
  rw [F.full] at hv
  refine sorted_eq (f := fun x => x.2.1) (hv.trans (h1.map _).symm) hs ?_
  rw [List.pairwise_map]
  have h3 := F.desc
  rw [← h2, List.pairwise_map] at h3
  refine h3.imp_of_mem fun {a b} _ hb hab => ?_
  have := F.pos b.2 (by rw [← h2]; exact List.mem_map_of_mem (f := Prod.snd) hb)
  show b.2.lo < a.2.lo
  omega
theorem Fine.names {R : Rm} {ds : List Pl} (F : Fine R ds) {es : List (Str × Pl)} (h1 : es.Perm ((Ents R).filter fun e => decide (0 < e.2.len))) (h2 : es.map (·.2) = ds) {ns : List Str} (h : Ord ((Ents R).map (see R.ns)) ns) : ns = es.map (·.1) := by
  obtain ⟨v, a, b, rfl⟩ := h
  rw [F.ord h1 h2 a b, List.map_map]
  rfl
theorem Fine.los {R : Rm} {ds : List Pl} (F : Fine R ds) : LosApart ((Ents R).map (see R.ns)) := by
  obtain ⟨es, h1, h2⟩ := F.ents
  unfold LosApart
  rw [F.full, List.map_map]
  refine ((h1.map _).nodup_iff).mp ?_
  have h3 := F.desc
  rw [← h2, List.pairwise_map] at h3
  unfold List.Nodup
  rw [List.pairwise_map]
  refine h3.imp_of_mem fun {a b} _ hb hab => ?_
  have := F.pos b.2 (by rw [← h2]; exact List.mem_map_of_mem (f := Prod.snd) hb)
  show a.2.lo ≠ b.2.lo
  omega
end Mine
end
section
namespace Mine
theorem eq_of_a : ∀ {l : List Pl}, (l.map (·.a)).Nodup → ∀ {p q : Pl}, p ∈ l → q ∈ l → p.a = q.a → p = q
  | x :: r, hn, p, q, hp, hq, e => by
    rcases List.mem_cons.mp hp with h1 | h1
    · rcases List.mem_cons.mp hq with h2 | h2
      · rw [h1, h2]
      · exact (not_head hn h2 (h1 ▸ e)).elim
    · rcases List.mem_cons.mp hq with h2 | h2
      · exact (not_head hn h1 (h2 ▸ e.symm)).elim
      · exact eq_of_a (List.nodup_cons.mp hn).2 h1 h2 e
def colR (R : Rm) (ds : List Pl) (k : Int) : Rm := { reR R ds with free := goalOf R.size ds, col := k }
theorem colR_pls (R : Rm) (ds : List Pl) (k : Int) : (colR R ds k).pls = R.pls.map (relo R.size ds) := reR_pls R ds
theorem colR_adr (R : Rm) (ds : List Pl) (k : Int) : (colR R ds k).adr = R.adr := reR_adr R ds
theorem colR_ents (R : Rm) (ds : List Pl) (k : Int) : Ents (colR R ds k) = (Ents R).map fun e => (e.1, relo R.size ds e.2) := by
  show R.held.map (fun x => (x.1, relo R.size ds x.2)) ++ (R.wait.map (relo R.size ds)).zipIdx.map (fun x => (wName x.2, x.1)) = _
  unfold Ents
  rw [List.map_append, List.map_map, List.zipIdx_map, List.map_map]
  rfl
section
variable {R : Rm} {ds : List Pl}
theorem Fine.goal0 (F : Fine R ds) : R.free ≤ goalOf R.size ds := goal_ge F.isDesc F.free1 F.above
theorem Fine.len1 (F : Fine R ds) : (packN R.ns R.size ds).length = R.ns.length := packN_length F.isDesc (by rw [F.size]; exact Int.le_refl _)
theorem Fine.packed (F : Fine R ds) (h : R.adr.Nodup) : Packed R.size (ds.map (relo R.size ds)) := relo_packed (F.sep h)
theorem Fine.goals (F : Fine R ds) (h : R.adr.Nodup) : goalOf R.size ds ≤ R.size ∧ (∀ d ∈ ds.map (relo R.size ds), goalOf R.size ds ≤ d.lo ∧ d.lo + d.len ≤ R.size) ∧ (ds.map (relo R.size ds)).Pairwise fun p q => q.lo + q.len ≤ p.lo := by
  have := packed_goal (F.packed h) fun d hd => by
    obtain ⟨x, hx, rfl⟩ := List.mem_map.mp hd
    exact F.pos x hx
  rw [goalOf_relo] at this
  exact this
theorem Fine.still (F : Fine R ds) (h : R.adr.Nodup) {p : Pl} (hp : p ∈ R.pls) (hn : p ∉ ds) : relo R.size ds p = p :=
  relo_far fun d hd e => hn (eq_of_a (adr_pls h) (F.mem d hd) hp e ▸ hd)
theorem Fine.texts (F : Fine R ds) (h : R.adr.Nodup) {p : Pl} (hp : p ∈ R.pls) : cutOf (packN R.ns R.size ds) (relo R.size ds p) = cutOf R.ns p := by
  by_cases hl : 0 < p.len
  · exact packN_cut F.isDesc (by rw [F.size]; exact Int.le_refl _) (F.sep h) p (F.perm.mem_iff.mpr (List.mem_filter.mpr ⟨hp, decide_eq_true hl⟩))
  · have e : p.len.toNat = 0 := by omega
    unfold cutOf
    rw [relo_len, e, List.take_zero, List.take_zero]
theorem Fine.collected (F : Fine R ds) (h : R.adr.Nodup) (k : Int) : Fine (colR R ds k) (ds.map (relo R.size ds)) where
  oct := ⟨by show (packN R.ns R.size ds).length < 1000; rw [F.len1]; exact F.oct.few, fun n hn => F.oct.low n (packN_mem hn)⟩
  size := by show R.size = (packN R.ns R.size ds).length; rw [F.len1]; exact F.size
  low := F.low
  free0 := Int.le_trans F.free0 F.goal0
  free1 := (F.goals h).1
  pl := fun p hp => by
    rw [colR_pls] at hp
    obtain ⟨q, hq, rfl⟩ := List.mem_map.mp hp
    have hq' := F.pl q hq
    by_cases hm : q ∈ ds
    · have := (F.goals h).2.1 _ (List.mem_map_of_mem (f := relo R.size ds) hm)
      have h0 := F.goal0
      have h1 := F.free0
      exact ⟨by omega, hq'.len, by show _ ≤ ((packN R.ns R.size ds).length : Int); rw [F.len1, ← F.size]; exact this.2⟩
    · rw [F.still h hq hm]
      exact ⟨hq'.lo, hq'.len, by show _ ≤ ((packN R.ns R.size ds).length : Int); rw [F.len1]; exact hq'.hi⟩
  perm := by
    rw [colR_pls, List.filter_map]
    exact F.perm.map _
  desc := (F.goals h).2.2
  above := fun p hp => ((F.goals h).2.1 p hp).1
  nm := fun y hy => by
    obtain ⟨z, hz, rfl⟩ := List.mem_map.mp (show y ∈ R.held.map (fun x => (x.1, relo R.size ds x.2)) from hy)
    exact F.nm z hz
/-- what is told of the names behind a collection -/
theorem Fine.seen (F : Fine R ds) (h : R.adr.Nodup) (k : Int) : (Ents (colR R ds k)).map (see (colR R ds k).ns) = (Ents R).map fun e => (e.1, (relo R.size ds e.2).lo, txtOf (cutOf R.ns e.2)) := by
  rw [colR_ents, List.map_map]
  refine List.map_congr_left fun e he => ?_
  have := F.texts h (p := e.2) (by rw [← ents_pls]; exact List.mem_map_of_mem (f := Prod.snd) he)
  show (e.1, _, txtOf (cutOf (packN R.ns R.size ds) (relo R.size ds e.2))) = _
  rw [this]
theorem Fine.order (F : Fine R ds) (h : R.adr.Nodup) (k : Int) {n1 n2 : List Str} (h1 : Ord ((Ents R).map (see R.ns)) n1) (h2 : Ord ((Ents (colR R ds k)).map (see (colR R ds k).ns)) n2) : n2 = n1 := by
  obtain ⟨es, e1, e2⟩ := F.ents
  rw [F.names e1 e2 h1]
  have e3 : (es.map fun e => (e.1, relo R.size ds e.2)).Perm ((Ents (colR R ds k)).filter fun e => decide (0 < e.2.len)) := by
    rw [colR_ents, List.filter_map]
    exact e1.map _
  have e4 : (es.map fun e => (e.1, relo R.size ds e.2)).map (·.2) = ds.map (relo R.size ds) := by
    rw [List.map_map, ← e2, List.map_map]; rfl
  rw [(F.collected h k).names e3 e4 h2, List.map_map]
  rfl
theorem goalT_eq {ns : List Int} : ∀ (es : List (Str × Pl)) (g : Int), (∀ e ∈ es, PlOk ns e.2) → goalT g (es.map (see ns)) = goalOf g (es.map (·.2))
  | [], _, _ => rfl
  | e :: r, g, h => by
    have h1 := txt_len (h e (.head _))
    show goalT (g - ((txtOf (cutOf ns e.2)).cps.size : Int)) (r.map (see ns)) = goalOf (g - e.2.len) (r.map (·.2))
    rw [h1]
    exact goalT_eq r _ fun x hx => h x (.tail _ hx)
theorem Fine.tight (F : Fine R ds) (hp : Packed R.size ds) (hf : R.free = goalOf R.size ds) {v : List (Str × Int × Str)} (hv : v.Perm (((Ents R).map (see R.ns)).filter fun x => x.2.2 != Str.ofString ""))
    (hs : v.Pairwise fun a b => b.2.1 < a.2.1) : Tight R.size R.free v := by
  obtain ⟨es, e1, e2⟩ := F.ents
  rw [F.ord e1 e2 hv hs]
  have hok : ∀ e ∈ es, PlOk R.ns e.2 := fun e he => F.pl e.2 (F.mem _ (by rw [← e2]; exact List.mem_map_of_mem (f := Prod.snd) he))
  refine ⟨fun i e he => ?_, by rw [goalT_eq _ _ hok, e2, hf]⟩
  rw [List.getElem?_map, Option.map_eq_some_iff] at he
  obtain ⟨x, hx, rfl⟩ := he
  have h1 := packed_at hp i x.2 (by rw [← e2, List.getElem?_map, hx]; rfl)
  rw [← List.map_take, goalT_eq _ _ fun y hy => hok y (List.mem_of_mem_take hy), List.map_take, e2]
  show x.2.lo = _ - ((txtOf (cutOf R.ns x.2)).cps.size : Int)
  rw [txt_len (hok x (List.mem_of_getElem? hx))]
  exact h1
/-- a packed room stays as it is -/
theorem Fine.again (F : Fine R ds) (h : R.adr.Nodup) (hp : Packed R.size ds) (hf : R.free = goalOf R.size ds) (k : Int) : colR R ds k = { R with col := k } := by
  have hn : packN R.ns R.size ds = R.ns := packed_pack hp fun d hd => ⟨(F.inr d hd).1, Int.le_of_lt (F.pos d hd), by rw [← F.size]; exact (F.inr d hd).2⟩
  have hr : ∀ p ∈ R.pls, relo R.size ds p = p := fun p hq => by
    by_cases hm : p ∈ ds
    · exact packed_relo hp (F.sep h) p hm
    · exact F.still h hq hm
  have e1 : R.held.map (fun x => (x.1, relo R.size ds x.2)) = R.held := by
    conv => rhs; rw [← List.map_id R.held]
    exact List.map_congr_left fun x hx => by rw [hr x.2 (List.mem_append_left _ (List.mem_map_of_mem (f := Prod.snd) hx))]; rfl
  have e2 : R.wait.map (relo R.size ds) = R.wait := by
    conv => rhs; rw [← List.map_id R.wait]
    exact List.map_congr_left fun x hx => by rw [hr x (List.mem_append_right _ hx)]; rfl
  unfold colR reR
  rw [e1, e2, hn, ← hf]
end
end Mine
end
section
namespace Mine
def Dj (p q : Pl) : Prop := p.lo + p.len ≤ q.lo ∨ q.lo + q.len ≤ p.lo
theorem Dj.symm {p q : Pl} (h : Dj p q) : Dj q p := h.elim .inr .inl
abbrev fullP (p : Pl) : Bool := decide (0 < p.len)
/-- a room between two calls -/
structure Okay (R : Rm) : Prop where
  oct : OctOk R.ns
  size : R.size = R.ns.length
  low : R.low = 0
  free0 : 0 ≤ R.free
  free1 : R.free ≤ R.size
  pl : ∀ p ∈ R.pls, PlOk R.ns p
  apart : (R.pls.filter fullP).Pairwise Dj
  above : ∀ p ∈ R.pls, 0 < p.len → R.free ≤ p.lo
  nm : ∀ y ∈ R.held, y.1.cps.size = 1
theorem Okay.fine {R : Rm} (K : Okay R) : ∃ ds, Fine R ds := by
  have hp := List.mergeSort_perm (R.pls.filter fullP) fun a b => decide (b.lo ≤ a.lo)
  have hs := List.pairwise_mergeSort (le := fun a b : Pl => decide (b.lo ≤ a.lo)) (fun a b c h1 h2 => by simp at h1 h2 ⊢; omega) (fun a b => by simp; omega) (R.pls.filter fullP)
  have hd := (List.Perm.pairwise_iff (R := Dj) (fun h => h.symm) hp).mpr K.apart
  generalize (R.pls.filter fullP).mergeSort (fun a b => decide (b.lo ≤ a.lo)) = ds at hp hs hd
  refine ⟨ds, K.oct, K.size, K.low, K.free0, K.free1, K.pl, hp, (hs.and hd).imp_of_mem fun {a b} ha hb hab => ?_, fun p hq => ?_, K.nm⟩
  · have h1 : 0 < a.len := of_decide_eq_true (List.mem_filter.mp (hp.mem_iff.mp ha)).2
    have h2 : b.lo ≤ a.lo := of_decide_eq_true hab.1
    rcases hab.2 with h | h
    · omega
    · exact h
  · have := List.mem_filter.mp (hp.mem_iff.mp hq)
    exact K.above p this.1 (of_decide_eq_true this.2)
theorem Fine.okay {R : Rm} {ds : List Pl} (F : Fine R ds) : Okay R :=
  ⟨F.oct, F.size, F.low, F.free0, F.free1, F.pl, (List.Perm.pairwise_iff (R := Dj) (fun h => h.symm) F.perm).mp (F.desc.imp fun h => .inr h), fun p hp h => F.above p (F.perm.mem_iff.mpr (List.mem_filter.mpr ⟨hp, decide_eq_true h⟩)), F.nm⟩
theorem Okay.step {R R' : Rm} (K : Okay R) {kept lost extra : List Pl} (hs : R'.size = R.size) (hw : R'.low = R.low) (hl : R'.ns.length = R.ns.length) (hb : ∀ n ∈ R'.ns, 0 ≤ n ∧ n < 128) (f0 : 0 ≤ R'.free) (f1 : R'.free ≤ R.free)
    (hp : R'.pls.Perm (extra ++ kept)) (ho : R.pls.Perm (kept ++ lost)) (hx : ∀ p ∈ extra, PlOk R.ns p ∧ (0 < p.len → R'.free ≤ p.lo ∧ p.lo + p.len ≤ R.free)) (hxx : (extra.filter fullP).Pairwise Dj) (nm : ∀ y ∈ R'.held, y.1.cps.size = 1) : Okay R' where
  oct := ⟨by rw [hl]; exact K.oct.few, hb⟩
  size := by rw [hs, hl]; exact K.size
  low := by rw [hw]; exact K.low
  free0 := f0
  free1 := by rw [hs]; exact Int.le_trans f1 K.free1
  pl := fun p hq => by
    have : PlOk R.ns p := by
      rcases List.mem_append.mp (hp.mem_iff.mp hq) with h | h
      · exact (hx p h).1
      · exact K.pl p (ho.mem_iff.mpr (List.mem_append_left _ h))
    exact ⟨this.lo, this.len, by rw [hl]; exact this.hi⟩
  apart := by
    have h1 : (kept.filter fullP).Pairwise Dj := by
      have := (List.Perm.pairwise_iff (R := Dj) (fun h => h.symm) (ho.filter fullP)).mp K.apart
      rw [List.filter_append] at this
      exact (List.pairwise_append.mp this).1
    refine (List.Perm.pairwise_iff (R := Dj) (fun h => h.symm) (hp.filter fullP)).mpr ?_
    rw [List.filter_append]
    refine List.pairwise_append.mpr ⟨hxx, h1, fun a ha b hb => ?_⟩
    have ha := List.mem_filter.mp ha
    have hb := List.mem_filter.mp hb
    have h2 := ((hx a ha.1).2 (of_decide_eq_true ha.2)).2
    have h3 := K.above b (ho.mem_iff.mpr (List.mem_append_left _ hb.1)) (of_decide_eq_true hb.2)
    exact .inl (by omega)
  above := fun p hq h => by
    rcases List.mem_append.mp (hp.mem_iff.mp hq) with h' | h'
    · exact ((hx p h').2 h).1
    · exact Int.le_trans f1 (K.above p (ho.mem_iff.mpr (List.mem_append_left _ h')) h)
  nm := nm
theorem codes_low {z : Str} (ha : z.cps.all (· < 128) = true) : ∀ n ∈ codesOf z, 0 ≤ n ∧ n < 128 := fun n hn => by
  obtain ⟨k, hk, rfl⟩ := List.mem_map.mp hn
  have := (Array.all_eq_true_iff_forall_mem.mp ha) k (by simpa using hk)
  simp at this
  omega
theorem Okay.putLow {R : Rm} (K : Okay R) {ms : List Int} {k : Nat} (h : ∀ n ∈ ms, 0 ≤ n ∧ n < 128) : ∀ n ∈ put R.ns k ms, 0 ≤ n ∧ n < 128 := fun n hn => (put_mem hn).elim (K.oct.low n) (h n)
section
variable {R : Rm} (K : Okay R)
include K
theorem Okay.newPl {n : Nat} {l : Addr} (hn : (n : Int) ≤ R.free) : PlOk R.ns ⟨l, R.free - n, n⟩ ∧ (0 < (⟨l, R.free - n, n⟩ : Pl).len → R.free - n ≤ (⟨l, R.free - n, n⟩ : Pl).lo ∧ (⟨l, R.free - n, n⟩ : Pl).lo + (⟨l, R.free - n, n⟩ : Pl).len ≤ R.free) := by
  have h1 := K.free1
  have h2 := K.size
  exact ⟨⟨by show 0 ≤ R.free - n; omega, by show (0 : Int) ≤ n; omega, by show R.free - n + n ≤ _; omega⟩, fun _ => ⟨Int.le_refl _, by show R.free - n + n ≤ _; omega⟩⟩
theorem Okay.push {z : Str} {l : Addr} (ha : z.cps.all (· < 128) = true) (hn : (z.cps.size : Int) ≤ R.free) :
    Okay { R with free := R.free - z.cps.size, ns := put R.ns (R.free - z.cps.size).toNat (codesOf z), wait := R.wait ++ [⟨l, R.free - z.cps.size, z.cps.size⟩] } := by
  have h1 := K.free1
  have h2 := K.size
  have h3 := codes_len z
  refine K.step (kept := R.pls) (lost := []) (extra := [⟨l, R.free - z.cps.size, z.cps.size⟩]) rfl rfl (put_length (by rw [h3]; omega)) (K.putLow (codes_low ha)) (by show 0 ≤ R.free - z.cps.size; omega) (by show R.free - z.cps.size ≤ R.free; omega) ?_ (by simp) (fun p hp => ?_) (by
    by_cases h : 0 < (z.cps.size : Int)
    · rw [List.filter_cons_of_pos (by simpa using h)]; simp
    · rw [List.filter_cons_of_neg (by simpa using h)]; simp) K.nm
  · show (List.map (fun x : Str × Pl => x.2) R.held ++ (R.wait ++ [_])).Perm _
    rw [← List.append_assoc]
    exact List.perm_append_comm
  · rw [List.mem_singleton.mp hp]; exact K.newPl hn
theorem Okay.assign {z nm : Str} {l : Addr} (hk : (R.held.map (·.1)).Nodup) (hnm : nm.cps.size = 1) (ha : z.cps.all (· < 128) = true) (hn : (z.cps.size : Int) ≤ R.free) :
    Okay { R with free := R.free - z.cps.size, ns := put R.ns (R.free - z.cps.size).toNat (codesOf z), held := storedP R.held nm ⟨l, R.free - z.cps.size, z.cps.size⟩ } := by
  have h1 := K.free1
  have h2 := K.size
  have h3 := codes_len z
  have hp := storedP_filter nm ⟨l, R.free - z.cps.size, z.cps.size⟩ R.held hk
  have hq := lookP_perm nm R.held hk
  refine K.step (kept := (R.held.filter fun x => decide (x.1 ≠ nm)).map (·.2) ++ R.wait) (lost := (lookP R.held nm).toList) (extra := [⟨l, R.free - z.cps.size, z.cps.size⟩]) rfl rfl (put_length (by rw [h3]; omega)) (K.putLow (codes_low ha)) (by show 0 ≤ R.free - z.cps.size; omega) (by show R.free - z.cps.size ≤ R.free; omega) ?_ ?_ (fun p hp => ?_) (by
    by_cases h : 0 < (z.cps.size : Int)
    · rw [List.filter_cons_of_pos (by simpa using h)]; simp
    · rw [List.filter_cons_of_neg (by simpa using h)]; simp) fun y hy => ?_
  · exact (hp.map (·.2)).append_right R.wait
  · have h4 := (hq.map (·.2)).append_right R.wait
    refine h4.trans ?_
    rw [List.map_append, List.map_map, show ((fun x : Str × Pl => x.2) ∘ fun p => (nm, p)) = id from rfl, List.map_id, List.append_assoc]
    exact List.perm_append_comm
  · rw [List.mem_singleton.mp hp]; exact K.newPl hn
  · rcases List.mem_cons.mp (hp.mem_iff.mp hy) with rfl | hy
    · exact hnm
    · exact K.nm y (List.mem_filter.mp hy).1
theorem Okay.forget {nm : Str} (hk : (R.held.map (·.1)).Nodup) : Okay { R with held := R.held.filter fun y => decide (y.1 ≠ nm) } := by
  have hq := lookP_perm nm R.held hk
  refine K.step (kept := (R.held.filter fun x => decide (x.1 ≠ nm)).map (·.2) ++ R.wait) (lost := (lookP R.held nm).toList) (extra := []) rfl rfl rfl K.oct.low K.free0 (Int.le_refl _) (.refl _) ?_ (by simp) (by simp) fun y hy => K.nm y (List.mem_filter.mp hy).1
  have h4 := (hq.map (·.2)).append_right R.wait
  refine h4.trans ?_
  rw [List.map_append, List.map_map, show ((fun x : Str × Pl => x.2) ∘ fun p => (nm, p)) = id from rfl, List.map_id, List.append_assoc]
  exact List.perm_append_comm
theorem Okay.keep {nm : Str} {wt : List Pl} {pl : Pl} (hk : (R.held.map (·.1)).Nodup) (hnm : nm.cps.size = 1) (hwt : R.wait = wt ++ [pl]) : Okay { R with held := storedP R.held nm pl, wait := wt } := by
  have hp := storedP_filter nm pl R.held hk
  have hq := lookP_perm nm R.held hk
  refine K.step (kept := pl :: ((R.held.filter fun x => decide (x.1 ≠ nm)).map (·.2) ++ wt)) (lost := (lookP R.held nm).toList) (extra := []) rfl rfl rfl K.oct.low K.free0 (Int.le_refl _) ?_ ?_ (by simp) (by simp) fun y hy => ?_
  · exact (hp.map (·.2)).append_right wt
  · have h4 := (hq.map (·.2)).append_right R.wait
    refine h4.trans ?_
    rw [hwt, List.map_append, List.map_map, show ((fun x : Str × Pl => x.2) ∘ fun p => (nm, p)) = id from rfl, List.map_id, List.append_assoc]
    refine List.perm_append_comm.trans (List.Perm.append_right _ ?_)
    rw [← List.append_assoc]
    exact List.perm_append_comm
  · rcases List.mem_cons.mp (hp.mem_iff.mp hy) with rfl | hy
    · exact hnm
    · exact K.nm y (List.mem_filter.mp hy).1
theorem Okay.swap {a b : Str} {l1 l2 : Addr} (hab : a ≠ b) (hk : (R.held.map (·.1)).Nodup) (na : a.cps.size = 1) (nb : b.cps.size = 1) :
    Okay { R with held := storedP (storedP R.held a ((lookP R.held b).getD ⟨l2, R.size, 0⟩)) b ((lookP R.held a).getD ⟨l1, R.size, 0⟩) } := by
  obtain ⟨ff, f1, f2, f3, f4⟩ := swap_perm hab hk ((lookP R.held b).getD ⟨l2, R.size, 0⟩) ((lookP R.held a).getD ⟨l1, R.size, 0⟩)
  have hs := K.size
  have hs0 := K.free0
  have hs1 := K.free1
  have hE : ∀ l : Addr, PlOk R.ns ⟨l, R.size, 0⟩ := fun l => ⟨by show 0 ≤ R.size; omega, Int.le_refl _, by show R.size + 0 ≤ _; omega⟩
  have opt : ∀ (o : Option Pl) (l : Addr), [o.getD ⟨l, R.size, 0⟩] = (if o.isSome then [] else [⟨l, R.size, 0⟩]) ++ o.toList := fun o l => by cases o <;> rfl
  refine K.step (kept := (lookP R.held a).toList ++ ((lookP R.held b).toList ++ (ff.map (·.2) ++ R.wait))) (lost := []) (extra := (if (lookP R.held a).isSome then [] else [⟨l1, R.size, 0⟩]) ++ (if (lookP R.held b).isSome then [] else [⟨l2, R.size, 0⟩])) rfl rfl rfl K.oct.low K.free0 (Int.le_refl _) ?_ ?_ (fun p hp => ?_) ?_ fun y hy => ?_
  · have h4 := (f2.map (·.2)).append_right R.wait
    refine h4.trans ?_
    rw [List.map_cons, List.map_cons]
    show ([_] ++ ([_] ++ List.map (fun x : Str × Pl => x.2) ff) ++ R.wait).Perm _
    rw [opt, opt]
    generalize (if (lookP R.held a).isSome then [] else [(⟨l1, R.size, 0⟩ : Pl)]) = A1
    generalize (if (lookP R.held b).isSome then [] else [(⟨l2, R.size, 0⟩ : Pl)]) = B1
    generalize (lookP R.held a).toList = A2
    generalize (lookP R.held b).toList = B2
    simp only [List.append_assoc]
    refine List.Perm.append_left _ ?_
    rw [← List.append_assoc A2, ← List.append_assoc B1]
    exact List.Perm.append_right _ List.perm_append_comm
  · have h4 := (f3.map (·.2)).append_right R.wait
    refine h4.trans ?_
    simp only [List.map_append, List.map_map, List.append_nil, List.append_assoc]
    rw [show ((fun x : Str × Pl => x.2) ∘ fun p => (a, p)) = id from rfl, show ((fun x : Str × Pl => x.2) ∘ fun p => (b, p)) = id from rfl, List.map_id, List.map_id]
  · have : ∃ l, p = ⟨l, R.size, 0⟩ := by
      rcases List.mem_append.mp hp with hp | hp
      · split at hp
        · cases hp
        · exact ⟨l1, List.mem_singleton.mp hp⟩
      · split at hp
        · cases hp
        · exact ⟨l2, List.mem_singleton.mp hp⟩
    obtain ⟨l, rfl⟩ := this
    exact ⟨hE l, fun h => by have : (0 : Int) < 0 := h; omega⟩
  · have e : ∀ (c : Bool) (l : Addr), ((if c then [] else [(⟨l, R.size, 0⟩ : Pl)]) : List Pl).filter fullP = [] := fun c l => by cases c <;> simp
    rw [List.filter_append, e, e]
    simp
  · rcases List.mem_cons.mp (f2.mem_iff.mp hy) with rfl | hy
    · exact nb
    · rcases List.mem_cons.mp hy with rfl | hy
      · exact na
      · exact K.nm y (f1.subset hy)
theorem Okay.join {wt : List Pl} {p1 p2 : Pl} {l : Addr} (hwt : R.wait = wt ++ [p1, p2]) (h2 : p1.len + p2.len ≤ R.free) :
    Okay { R with free := R.free - (p1.len + p2.len), ns := put R.ns (R.free - (p1.len + p2.len)).toNat (cutOf R.ns p1 ++ cutOf R.ns p2), wait := wt ++ [⟨l, R.free - (p1.len + p2.len), p1.len + p2.len⟩] } := by
  have h1 := K.free1
  have h3 := K.size
  have m1 : p1 ∈ R.pls := List.mem_append_right _ (by rw [hwt]; simp)
  have m2 : p2 ∈ R.pls := List.mem_append_right _ (by rw [hwt]; simp)
  have k1 := K.pl p1 m1
  have k2 := K.pl p2 m2
  have c1 := cut_len k1
  have c2 := cut_len k2
  have l1 := k1.len
  have l2 := k2.len
  refine K.step (kept := R.held.map (·.2) ++ wt) (lost := [p1, p2]) (extra := [⟨l, R.free - (p1.len + p2.len), p1.len + p2.len⟩]) rfl rfl (put_length (by rw [List.length_append]; omega)) (K.putLow fun n hn => ?_) (by show 0 ≤ R.free - (p1.len + p2.len); omega) (by show R.free - (p1.len + p2.len) ≤ R.free; omega) ?_ ?_ (fun p hp => ?_) (by
    by_cases h : 0 < p1.len + p2.len
    · rw [List.filter_cons_of_pos (by simpa using h)]; simp
    · rw [List.filter_cons_of_neg (by simpa using h)]; simp) K.nm
  · rcases List.mem_append.mp hn with hn | hn
    · exact K.oct.low n (cut_mem hn)
    · exact K.oct.low n (cut_mem hn)
  · show (List.map (fun x : Str × Pl => x.2) R.held ++ (wt ++ [_])).Perm _
    rw [← List.append_assoc]
    exact List.perm_append_comm
  · show (List.map (fun x : Str × Pl => x.2) R.held ++ R.wait).Perm _
    rw [hwt, ← List.append_assoc]
  · rw [List.mem_singleton.mp hp]
    exact ⟨⟨by show 0 ≤ R.free - (p1.len + p2.len); omega, by show 0 ≤ p1.len + p2.len; omega, by show R.free - (p1.len + p2.len) + (p1.len + p2.len) ≤ _; omega⟩, fun _ => ⟨Int.le_refl _, by show R.free - (p1.len + p2.len) + (p1.len + p2.len) ≤ _; omega⟩⟩
theorem Okay.pop {wt : List Pl} {pl : Pl} (hwt : R.wait = wt ++ [pl]) (h0 : 0 < pl.len) (h1 : pl.lo = R.free) : Okay { R with free := R.free + pl.len, wait := wt } := by
  have ho : R.pls.Perm ([pl] ++ (R.held.map (·.2) ++ wt)) := by
    show (List.map (fun x : Str × Pl => x.2) R.held ++ R.wait).Perm _
    rw [hwt, ← List.append_assoc]
    exact List.perm_append_comm
  have m : pl ∈ R.pls := ho.mem_iff.mpr (by simp)
  have k := K.pl pl m
  have hz := K.size
  have hap := (List.Perm.pairwise_iff (R := Dj) (fun h => h.symm) (ho.filter fullP)).mp K.apart
  rw [List.filter_append, List.filter_cons_of_pos (by simpa using h0), List.filter_nil, List.singleton_append] at hap
  have hap := List.pairwise_cons.mp hap
  have hmem : ∀ p ∈ R.held.map (·.2) ++ wt, p ∈ R.pls := fun p hp => ho.mem_iff.mpr (List.mem_append_right _ hp)
  have kh := k.hi
  have kf := K.free0
  refine ⟨K.oct, K.size, K.low, by show 0 ≤ R.free + pl.len; omega, by show R.free + pl.len ≤ R.size; omega, fun p hp => K.pl p (hmem p hp), hap.2, fun p hp h => ?_, K.nm⟩
  have h2 := hap.1 p (List.mem_filter.mpr ⟨hp, decide_eq_true h⟩)
  have h3 := K.above p (hmem p hp) h
  show R.free + pl.len ≤ p.lo
  rcases h2 with h2 | h2
  · omega
  · omega
end
end Mine
end
section
namespace Mine
open PySem.W (KeqHits keq_eq)
section
variable {prog : Program} {w : World} {A : Around} {E : Value → Shared → Prop} {s : Shared} {a b : Addr} {xs ys : List Value} {ns ms : List Str} {Q : Value → Shared → Prop}
theorem strs_el {A : Around} : ∀ {xs ys : List Value} {ns : List Str}, StrsAre xs ns → StrsAre ys ns → ∀ (j : Nat) (h1 : j < xs.length) (h2 : j < ys.length), SeqAt.EqAt A s xs[j] ys[j] true
  | _, _, _, .nil, .nil, j, h1, _ => by simp at h1
  | _, _, _, .cons n t r, .cons _ u q, 0, _, _ => by
    have := SeqAt.EqAt.str_str (A := A) (s := s) n t n u
    rw [show (n == n) = true by simp] at this
    exact this
  | _, _, _, .cons n t r, .cons _ u q, j + 1, h1, h2 => strs_el r q j (by simpa using h1) (by simpa using h2)
theorem ne_strs (ha : s.heap.IsList a xs.toArray) (hb : s.heap.IsList b ys.toArray) (hi : StrsAre xs ns) (hj : StrsAre ys ns) (hu : A.units < cLine) (h : Q (.bool false) s) :
    wpAny (model prog w) A (compareOp .NotEq (.ref a) (.ref b)) Q E s := by
  have hlen : xs.length = ys.length := hi.length.trans hj.length.symm
  refine SeqAt.RcNeAt.lists (e := fun _ => true) ha hb (by simp [hlen]) hu (fun j h1 h2 => ?_) prog w E Q ?_
  · exact strs_el hi hj j (by simpa using h1) (by simpa using h2)
  · rw [show ((List.range xs.toArray.size).all fun _ => true) = true by simp]
    exact h
theorem tups_eq {T T' : Addr} {lo : Int} {tx : Str} {u0 u1 w0 w1 : Tok} (hu : A.units < cLine) (h1 : s.heap.get? T = some { cls := .type "tuple", data := .seq #[.int lo u0, .str tx u1] }) (h2 : s.heap.get? T' = some { cls := .type "tuple", data := .seq #[.int lo w0, .str tx w1] }) :
    SeqAt.EqAt A s (.ref T) (.ref T') true := by
  by_cases e : T = T'
  · subst e; exact SeqAt.EqAt.same _
  · have := SeqAt.RcAt.tuples (A := A) (s := s) (e := fun _ => true) ⟨_, h1, rfl, _, rfl⟩ ⟨_, h2, rfl, _, rfl⟩ hu (fun j a b => by
      have hj : j = 0 ∨ j = 1 := by simp at a; omega
      rcases hj with rfl | rfl
      · have := SeqAt.EqAt.int_int (A := A.in1) (s := s) lo u0 lo w0
        rw [show (lo == lo) = true by simp] at this
        exact this
      · have := SeqAt.EqAt.str_str (A := A.in1) (s := s) tx u1 tx w1
        rw [show (tx == tx) = true by simp] at this
        exact this)
    exact SeqAt.EqAt.of_refs e this
end
section
variable {w : World} {A : Around} {s : Shared} {E Q : Value → Shared → Prop}
theorem view_hits {L1 L2 D1 D2 : Addr} {l2 : List (Str × Vw)} (hu : A.units < cLine) (hk : (l2.map (·.1)).Nodup) (t2 : ∀ y ∈ l2, TupAt s.heap y.2) : ∀ (l1 : List (Str × Vw)), (∀ y ∈ l1, TupAt s.heap y.2) → (∀ y ∈ vSees l1, y ∈ vSees l2) → KeqHits A s (vOf l2) (vOf l1) true
  | [], _, _ => .nil
  | x :: r, h1, h => by
    have ih := view_hits (L1 := L1) (L2 := L2) (D1 := D1) (D2 := D2) hu hk t2 r (fun y hy => h1 y (.tail _ hy)) fun y hy => h y (.tail _ hy)
    obtain ⟨z, hz, e⟩ := List.mem_map.mp (h _ (.head _))
    injection e with e1 e2
    injection e2 with e2 e3
    obtain ⟨u0, u1, a1⟩ := h1 x (.head _)
    obtain ⟨w0, w1, a2⟩ := t2 z hz
    rw [e2, e3] at a2
    have hl := lookV_of_mem hk (show (x.1, z.2) ∈ l2 by rw [← e1]; exact hz)
    exact .hit (e := true) (b := true) (by rw [valueAt_v, hl]; rfl) (tups_eq hu a1 a2) ih
theorem views_eq {L1 L2 D1 D2 : Addr} {l1 l2 : List (Str × Vw)} (v1 : ViewAt w s.heap D1 L1 l1) (v2 : ViewAt w s.heap D2 L2 l2) (hs : vSees l1 = vSees l2) (n1 : (D1 == sysModules) = false) (n2 : (D2 == sysModules) = false) (hu : A.units + 64 < cLine) (h : Q (.bool true) s) :
    wpAny (model PR w) A (compareOp .Eq (.ref D1) (.ref D2)) Q E s := by
  have hkeys : (l2.map (·.1)).Nodup := by
    have := v2.dict.dictAt
    obtain ⟨ep, o, es, _, _, _, _, _, hn⟩ := this
    unfold vOf at hn
    rw [List.map_map] at hn
    exact hn
  refine keq_eq n1 n2 v1.dict v2.dict (by omega) (fun _ => view_hits (L1 := L1) (L2 := L2) (D1 := D1) (D2 := D2) (A := A.in1) (by show A.units + 1 < cLine; omega) hkeys v2.tup l1 v1.tup fun y hy => hs ▸ hy) ?_
  have : (vOf l1).length = (vOf l2).length := by
    have := congrArg List.length hs
    simpa [vSees, vOf] using this
  rw [this, beq_self_eq_true]
  exact h
end
end Mine
end
local macro_rules | `(tactic| walk_at "compareOp NotEq ref ref") => `(tactic| refine halt ?_)
local macro_rules | `(tactic| walk_at "compareOp Eq ref ref") => `(tactic| refine halt ?_)
section
namespace Mine
section
variable {w : World} {A : Around} {s : Shared} {H : Heap} {Q E : Value → Shared → Prop} {R : Rm}

theorem law_collected_right_c {ds : List Pl} (c : Ctx 8 w A H s) (x : RoomW w H s.heap R) (F : Fine R ds) (hk : R.held.length ≤ 30) (hw : R.wait.length ≤ 3)
    (hQ : ∀ h' tk, Kept ([R.dx, R.ao] ++ R.pls.map (·.a)) s.heap h' → RoomW w H h' (colR R ds (R.col + 1 + 1)) → Q (.bool true) { s with heap := h', toks := tk }) :
    wpAny (model PR w) A (call (.ref 198) [.ref R.r]) Q E s := by
  refine' enterC c ?k6 ?k7 ?k9 ?kB ?kN ?_ ?c2 ?c3 ?c4
  case k6 => k_is
  case k7 => k_is
  case k9 => exact BindsTo.of_eq rfl
  case kB => exact rfl
  case kN => decide
  case c2 => exact rfl
  case c3 => exact rfl
  case c4 => exact rfl
  intro hh1 tk cells b hc Y
  obtain ⟨oc2, oc1, rfl, hcd2, hcd1⟩ := CellsAre.two Y
  have hcd1 : oc1.data = .cell none := hcd1
  have hcd2 : oc2.data = .cell none := hcd2
  have hL : s.heap.objs.size ∉ R.adr := fun q => Nat.lt_irrefl _ (x.at_.lt _ q)
  have hfar : ∀ a ∈ R.adr, a < s.heap.objs.size := fun a ha => x.at_.lt a ha
  have hHs : H.objs.size ≤ s.heap.objs.size := Nat.le_of_lt (Nat.lt_of_le_of_lt (x.new _ R.m_r) (hfar _ R.m_r))
  have hH : ∀ a, s.heap.objs.size ≤ a → H.get? a = none := fun a ha => Heap.get?_none_of_le (Nat.le_trans hHs ha)
  have hc1 : hh1.get? (s.heap.objs.size + 1) = some oc1 := (hc _ (.tail _ (.head _))).1
  have hc2 : hh1.get? (s.heap.objs.size + 2) = some oc2 := (hc _ (.head _)).1
  have hS : ∀ a ∈ R.adr, a ≠ s.heap.objs.size + 1 ∧ a ≠ s.heap.objs.size + 2 := fun a ha => ⟨Nat.ne_of_lt (Nat.lt_succ_of_lt (hfar a ha)), Nat.ne_of_lt (Nat.lt_succ_of_lt (Nat.lt_succ_of_lt (hfar a ha)))⟩
  clear hc Y
  have x1 := x.kept b.kp (by simp)
  have bm := b.mono (S' := [R.dx, R.ao] ++ R.pls.map (·.a)) (by simp)
  refine bm.seg0 c fun g rest p loose mean mg mb G F' N' T' X' => ?_
  try dsimp only
  k_steps
  rename Fr _ _ _ _ => F1
  rename News _ _ _ _ => N1
  have b1 := bm.after G F1 N1 (by ktr_rel) (by simp)
  refine law_view_c ((c.deeper _ b1.st).le (by decide)) x1 (by omega) hw F.oct F.pl F.wNames fun h2 tk2 D0 l0 kp2 v0 hv0 => ?_
  have b2 := b1.call kp2 (by simp)
  have x2 := x1.stay kp2.stays
  have hc1 := kp2.stays _ _ hc1
  have hc2 := kp2.stays _ _ hc2
  have hL2 : s.heap.objs.size < hh1.objs.size := b.ns.lt
  rw [sees_eq] at hv0
  clear F1 N1 X' T' G kp2 b1 x1
  refine seg_k (b2.seg [(s.heap.objs.size + 1, oc1)] c (by
    intro q hq
    rw [List.mem_singleton.mp hq]; exact ⟨hc1, hH _ (Nat.le_succ _), Nat.succ_ne_self _⟩)) fun g rest p loose mean mg mb G F' N' T' => ?_
  rw [List.singleton_append] at N'
  have X' := G.X
  have hnC : ∀ a ∈ R.adr, a ∉ [(s.heap.objs.size + 1, oc1)].map (·.1) := fun a ha q => (hS a ha).1 (List.mem_singleton.mp q)
  have I := G.old _ _ (fun q => hL (q ▸ R.m_r)) (hnC _ R.m_r) x2.at_.inst
  refine x2.at_.dictK fun k t0 t1 t2 t3 t4 nd hd => ?_
  have D := G.old _ _ (fun q => hL (q ▸ R.m_dx)) (hnC _ R.m_dx) hd
  have off : ∀ p ∈ rest, p.1 ≠ s.heap.objs.size + 1 := fun p hp q => G.off p hp (List.mem_singleton.mpr q)
  have hh : A.handled = none := c.ok.hd
  k_steps
  rename Fr _ _ _ _ => F1
  rename News _ _ _ _ => N1
  rename Obj.data _ = Data.cell (some (Value.ref D0)) => hcd1
  have b3 := b2.after G F1 N1 (by ktr_rel) (by intro q hq; rw [List.mem_singleton.mp hq]; exact .inr (Nat.le_succ _))
  have x3 := x2.seg G F1 N1 (by ktr_rel) hL hnC
  have hc1 := (N1 _ (.tail _ (.head _))).1
  have ne1 : ∀ z, s.heap.objs.size + 2 < z → z ≠ s.heap.objs.size ∧ z ≠ s.heap.objs.size + 1 ∧ z ≠ s.heap.objs.size + 2 := fun z hz => ⟨by omega, by omega, by omega⟩
  have hc2 := G.stay F1 N1 (by ktr_rel) _ _ (Nat.ne_of_gt (Nat.lt_succ_of_lt (Nat.lt_succ_self _))) (by simp) hc2
  have hL3 : s.heap.objs.size + 2 < hh1.objs.size := Heap.lt_size (show hh1.get? (s.heap.objs.size + 2) = some oc2 by assumption)
  have hz0 : ∀ z, (z = D0 ∨ ∃ y ∈ l0, z = y.2.a) → s.heap.objs.size + 2 < z := fun z hz => by
    rcases hz with rfl | ⟨y, hy, rfl⟩
    · exact Nat.lt_trans hL3 v0.newD
    · exact Nat.lt_trans hL3 (v0.new y hy).1
  have v3 := v0.keep fun z hz o e => G.stay F1 N1 (by ktr_rel) z o (ne1 z (hz0 z hz)).1 (fun q => (ne1 z (hz0 z hz)).2.1 (List.mem_singleton.mp q)) e
  refine collect_c ((c.deeper _ b3.st).le (by decide)) x3 (by omega) (by omega) F.oct F.size F.perm F.desc F.inr fun h4 tk4 tk4' kp4 x4 => ?_
  have x4 : RoomW w H h4 (colR R ds (R.col + 1)) := x4
  have hSm : ∀ a ∈ ([R.dx, R.ao] ++ R.pls.map (·.a)), a ∈ R.adr := fun a ha => by
    rcases List.mem_append.mp ha with ha | ha
    · rcases List.mem_cons.mp ha with rfl | ha
      · exact R.m_dx
      · rw [List.mem_singleton.mp ha]; exact R.m_ao
    · rw [Rm.adr]; exact List.mem_append_right _ ha
  have hSo : ∀ a, s.heap.objs.size ≤ a → a ∉ ([R.dx, R.ao] ++ R.pls.map (·.a)) := fun a ha q => absurd (hfar a (hSm a q)) (Nat.not_lt.mpr ha)
  have b4 := b3.call kp4 (fun a ha => ⟨.inl ha, fun q => hL (q ▸ hSm a ha), x.none a (hSm a ha)⟩)
  have hc1 := kp4 _ _ (hSo _ (Nat.le_succ _)) hc1
  have hc2 := kp4 _ _ (hSo _ (Nat.le_succ_of_le (Nat.le_succ _))) hc2
  have v4 := v3.keep fun z hz o e => kp4 z o (hSo z (Nat.le_of_lt (Nat.lt_of_le_of_lt (Nat.le_add_right _ 2) (hz0 z hz)))) e
  clear F1 N1 X' T' G b2 b3 x2 x3 v3 hnC off I D hd kp4
  have FF := F.collected x.sep (R.col + 1)
  have hsee := F.seen x.sep (R.col + 1)
  have hadr := colR_adr R ds (R.col + 1)
  refine b4.seg0 c fun g rest p loose mean mg mb G F' N' T' X' => ?_
  k_steps
  rename Fr _ _ _ _ => F1
  rename News _ _ _ _ => N1
  have b5 := b4.after G F1 N1 (by ktr_rel) (by simp)
  have x5 := x4.seg G F1 N1 (by ktr_rel) (by rw [hadr]; exact hL) (by simp)
  have v5 := v4.keep fun z hz o e => G.stay F1 N1 (by ktr_rel) z o (ne1 z (hz0 z hz)).1 (by simp) e
  have hc1 := G.stay F1 N1 (by ktr_rel) _ _ (Nat.succ_ne_self _) (by simp) hc1
  have hc2 := G.stay F1 N1 (by ktr_rel) _ _ (Nat.ne_of_gt (Nat.lt_succ_of_lt (Nat.lt_succ_self _))) (by simp) hc2
  have hk1 : (colR R ds (R.col + 1)).held.length = R.held.length := by simp [colR, reR]
  have hw1 : (colR R ds (R.col + 1)).wait.length = R.wait.length := by simp [colR, reR]
  refine law_view_c (R := colR R ds (R.col + 1)) ((c.deeper _ b5.st).le (by decide)) x5 (by omega) (by omega) FF.oct FF.pl FF.wNames fun h6 tk6 D1 l1 kp6 v1 hv1 => ?_
  rw [sees_eq] at hv1
  have b6 := b5.call kp6 (by simp)
  have x6 := x5.stay kp6.stays
  have hz1 : ∀ z, (z = D1 ∨ ∃ y ∈ l1, z = y.2.a) → s.heap.objs.size + 2 < z := fun z hz => by
    have hl := Heap.lt_size hc2
    rcases hz with rfl | ⟨y, hy, rfl⟩
    · exact Nat.lt_trans hl v1.newD
    · exact Nat.lt_trans hl (v1.new y hy).1
  have hLH1 : H.objs.size ≤ _ := Nat.le_trans hHs (Nat.le_trans (Nat.le_add_right _ 2) (Nat.le_of_lt (Heap.lt_size hc2)))
  have hc1 := kp6.stays _ _ hc1
  have hc2 := kp6.stays _ _ hc2
  have v6 := v5.keep fun z hz o e => kp6.stays z o e
  clear F1 N1 X' T' G b4 b5 x4 x5 v4 v5 kp6
  refine seg_k (b6.seg [(s.heap.objs.size + 2, oc2)] c (by
    intro q hq
    rw [List.mem_singleton.mp hq]; exact ⟨hc2, hH _ (Nat.le_succ_of_le (Nat.le_succ _)), Nat.ne_of_gt (Nat.lt_succ_of_lt (Nat.lt_succ_self _))⟩)) fun g rest p loose mean mg mb G F' N' T' => ?_
  rw [List.singleton_append] at N'
  have X' := G.X
  have hnC : ∀ a ∈ R.adr, a ∉ [(s.heap.objs.size + 2, oc2)].map (·.1) := fun a ha q => (hS a ha).2 (List.mem_singleton.mp q)
  have I := G.old _ _ (fun q => hL (q ▸ R.m_r)) (hnC _ R.m_r) x6.at_.inst
  refine x6.at_.dictK fun k t0 t1 t2 t3 t4 nd hd => ?_
  have D := G.old _ _ (fun q => hL (q ▸ R.m_dx)) (hnC _ R.m_dx) hd
  have off : ∀ p ∈ rest, p.1 ≠ s.heap.objs.size + 2 := fun p hp q => G.off p hp (List.mem_singleton.mpr q)
  have hfree : (colR R ds (R.col + 1)).free = goalOf R.size ds := rfl
  have KC1 := G.old _ _ (Nat.succ_ne_self _) (by simp) hc1
  k_steps
  · exfalso; omega
  rename Fr _ _ _ _ => F1
  rename News _ _ _ _ => N1
  rename Obj.data _ = Data.cell (some (Value.ref D1)) => hcd2
  have hL1 : s.heap.objs.size ∉ (colR R ds (R.col + 1)).adr := by rw [hadr]; exact hL
  have b7 := b6.after G F1 N1 (by ktr_rel) (by intro q hq; rw [List.mem_singleton.mp hq]; exact .inr (Nat.le_succ_of_le (Nat.le_succ _)))
  have x7 := x6.seg G F1 N1 (by ktr_rel) hL1 (by rw [hadr]; exact hnC)
  have v07 := v6.keep fun z hz o e => G.stay F1 N1 (by ktr_rel) z o (ne1 z (hz0 z hz)).1 (fun q => (ne1 z (hz0 z hz)).2.2 (List.mem_singleton.mp q)) e
  have v17 := v1.keep fun z hz o e => G.stay F1 N1 (by ktr_rel) z o (ne1 z (hz1 z hz)).1 (fun q => (ne1 z (hz1 z hz)).2.2 (List.mem_singleton.mp q)) e
  have hlen : ∀ l : List (Str × Vw), ∀ R' : Rm, vSees l = (Ents R').map (see R'.ns) → R'.held.length ≤ 30 → R'.wait.length ≤ 3 → l.length < 64 := fun l R' e h1 h2 => by
    have := congrArg List.length e
    simp [vSees, Ents] at this
    omega
  have hl0 := hlen l0 R hv0 hk hw
  have hl1 := hlen l1 (colR R ds (R.col + 1)) hv1 (by omega) (by omega)
  refine law_order_c ((c.deeper _ b7.st).le (by decide)) v17 hLH1 hl1 (by rw [hv1]; exact FF.los) fun h8 tk8 Da ea nsa ysa kp8 hnewa hDa hsta horda => ?_
  obtain ⟨F8, N8⟩ := after0 F1 N1 kp8
  have b8 := b7.call kp8 (by simp)
  clear F1 N1
  k_steps
  refine law_order_c ((c.deeper _ b8.st).le (by decide)) (v07.keep fun z hz o e => kp8 z o (by simp) e) (Nat.le_trans hHs (Nat.le_of_lt (Nat.lt_trans (Nat.lt_succ_of_lt (Nat.lt_succ_self _)) hL3))) hl0 (by rw [hv0]; exact F.los) fun h9 tk9 Db eb nsb ysb kp9 hnewb hDb hstb hordb => ?_
  obtain ⟨F9, N9⟩ := after0 F8 N8 kp9
  have b9 := b8.call kp9 (by simp)
  clear F8 N8
  have hsame : nsa = nsb := F.order x.sep (R.col + 1) (by rw [← hv0]; exact hordb) (by rw [← hv1]; exact horda)
  subst hsame
  k_steps
  refine ⟨ne_strs ⟨_, kp9 _ _ (by simp) hDa, rfl, _, rfl⟩ ⟨_, hDb, rfl, _, rfl⟩ hsta hstb (c.ok.deeper _).unit ?_⟩
  k_steps
  have hsz1 : ∀ y ∈ l1, y.2.txt.cps.size < 1000 := fun y hy => by
    have : (y.1, y.2.lo, y.2.txt) ∈ (Ents (colR R ds (R.col + 1))).map (see (colR R ds (R.col + 1)).ns) := by rw [← hv1]; exact List.mem_map_of_mem (f := fun x : Str × Vw => (x.1, x.2.lo, x.2.txt)) hy
    obtain ⟨e, he, q⟩ := List.mem_map.mp this
    have hok := FF.pl e.2 (by rw [← ents_pls]; exact List.mem_map_of_mem (f := Prod.snd) he)
    have h1 := txt_len hok
    have h2 := hok.hi
    have h3 := hok.lo
    have h4 := FF.oct.few
    have q2 : y.2.txt = txtOf (cutOf (colR R ds (R.col + 1)).ns e.2) := (congrArg (fun z : Str × Int × Str => z.2.2) q).symm
    rw [q2]; omega
  have x9 := (x7.stay kp8.stays).stay kp9.stays
  have v19 := v17.keep fun z hz o e => kp9 z o (by simp) (kp8 z o (by simp) e)
  refine law_tight_c (R := colR R ds (R.col + 1)) ((c.deeper _ b9.st).le (by decide)) x9 v19 hLH1 hl1 (by rw [hv1]; exact FF.los) hsz1 (fun es e1 e2 => FF.tight (F.packed x.sep) (goalOf_relo _ _ _ _).symm (by rw [← hv1]; exact e1) e2) fun h10 tk10 kp10 => ?_
  obtain ⟨F1, N1⟩ := after0 F9 N9 kp10
  have b10 := b9.call kp10 (by simp)
  clear F9 N9
  k_steps
  have x10 := x9.stay kp10.stays
  have v110 := v19.keep fun z hz o e => kp10 z o (by simp) e
  have v010 := v07.keep fun z hz o e => kp10 z o (by simp) (kp9 z o (by simp) (kp8 z o (by simp) e))
  have hc2 := (N1 _ (.head _)).1
  have hc1 := G.stay F1 N1 (by ktr_rel) _ _ (Nat.succ_ne_self _) (by simp) hc1
  have hpar : ∀ (i : Nat) k u, l0[i]? = some (k, u) → ∃ z, l1[i]? = some (k, z) ∧ z.txt = u.txt := fun i k u h => by
    have e1 : (vSees l0)[i]? = some (k, u.lo, u.txt) := by rw [vSees, List.getElem?_map, h]; rfl
    rw [hv0, List.getElem?_map, Option.map_eq_some_iff] at e1
    obtain ⟨e, he, q⟩ := e1
    have e2 : (vSees l1)[i]? = some (e.1, (relo R.size ds e.2).lo, txtOf (cutOf R.ns e.2)) := by rw [hv1, hsee, List.getElem?_map, he]; rfl
    rw [vSees, List.getElem?_map, Option.map_eq_some_iff] at e2
    obtain ⟨y, hy, q2⟩ := e2
    injection q with q3 q4
    injection q4 with q4 q5
    injection q2 with q6 q7
    injection q7 with q7 q8
    exact ⟨y.2, by rw [hy, ← q3, ← q6], by rw [q8, q5]⟩
  clear F1 N1 X' T' G b6 b7 b8 b9 x6 x7 x9 v6 v07 v17 v19 kp8 kp9 kp10 hDa hDb hnewa hnewb I D hd off KC1 hnC
  refine b10.seg0 c fun g rest p loose mean mg mb G F' N' T' X' => ?_
  have KC1 := G.old _ _ (Nat.succ_ne_self _) (by simp) hc1
  have KC2 := G.old _ _ (Nat.ne_of_gt (Nat.lt_succ_of_lt (Nat.lt_succ_self _))) (by simp) hc2
  have I := G.old _ _ (fun q => hL (q ▸ R.m_r)) (by simp) x10.at_.inst
  refine x10.at_.dictK fun k t0 t1 t2 t3 t4 nd hd => ?_
  have D := G.old _ _ (fun q => hL (q ▸ R.m_dx)) (by simp) hd
  obtain ⟨vo, eo, hvo, hio⟩ := x10.at_.oct
  have KO := G.old _ _ (fun q => hL (q ▸ R.m_ao)) (by simp) hvo
  obtain ⟨o0, hod0, hdo0⟩ := Heap.dictOf_iff.mp v010.dict
  obtain ⟨o1, hod1, hdo1⟩ := Heap.dictOf_iff.mp v110.dict
  have KD0 := G.old _ _ (ne1 _ (hz0 _ (.inl rfl))).1 (by simp) hod0
  have KD1 := G.old _ _ (ne1 _ (hz1 _ (.inl rfl))).1 (by simp) hod1
  obtain ⟨es0, ep0, hr0⟩ := id hdo0
  have hkeys : ∀ l D L h', ViewAt w h' D L l → (l.map (·.1)).Nodup := fun l D L h' v => by
    have := v.dict.dictAt
    obtain ⟨ep, o, es, _, _, _, _, _, hn⟩ := this
    unfold vOf at hn
    rw [List.map_map] at hn
    exact hn
  have hk0 := hkeys _ _ _ _ v010
  have hk1' := hkeys _ _ _ _ v110
  have hHD0 : H.objs.size ≤ D0 := Nat.le_trans hHs (Nat.le_of_lt (Nat.lt_of_le_of_lt (Nat.le_add_right _ 2) (hz0 _ (.inl rfl))))
  have hHD1 : H.objs.size ≤ D1 := Nat.le_trans hHs (Nat.le_of_lt (Nat.lt_of_le_of_lt (Nat.le_add_right _ 2) (hz1 _ (.inl rfl))))
  refine comp_dict (fun _ => false) (fun _ _ _ _ => True) (c.ok.deeper _).hd F' N' (sys_ne c.big hHD0) ⟨o0, es0, KD0.now F' N' (by ktr_rel), hr0⟩ (by rw [vOf, List.length_map, sizeLine_eq]; omega) ⟨?_, ?_, ?_⟩ ?_
  · intro C h h' v y q k; trivial
  · intro C i v s₃ m₃ hP F₃ N₃ hm _
    obtain ⟨k, y, hki, hk2⟩ := hP
    obtain ⟨t, rfl⟩ := Value.isStrOf_shape hk2
    obtain ⟨u, hu, rfl⟩ := view_at hki
    obtain ⟨z, hz, htx⟩ := hpar _ _ _ hu
    have lk0 := lookV_of_mem hk0 (List.mem_of_getElem? hu)
    have lk1 := lookV_of_mem hk1' (List.mem_of_getElem? hz)
    obtain ⟨w0, w1, hT0⟩ := v010.tup _ (List.mem_of_getElem? hu)
    obtain ⟨w2, w3, hT1⟩ := v110.tup _ (List.mem_of_getElem? hz)
    have KT0 := G.old _ _ (ne1 _ (hz0 _ (.inr ⟨_, List.mem_of_getElem? hu, rfl⟩))).1 (by simp) hT0
    have KT1 := G.old _ _ (ne1 _ (hz1 _ (.inr ⟨_, List.mem_of_getElem? hz, rfl⟩))).1 (by simp) hT1
    obtain ⟨h₃, _, _, _, _⟩ := s₃
    clear F' N'
    k_steps
    rename Fr _ _ _ _ => F4
    rename News _ _ _ _ => N4
    refine sub_view (Heap.dictOf_iff.mpr ⟨o1, KD1.now F4 N4 (by ktr_rel), hdo1⟩) lk1 ?_ ?_ ?_
    rotate_left
    · with_unfolding_all rfl
    · intro _; with_unfolding_all rfl
    k_steps
    refine sub_tup (its := #[.int z.lo w2, .str z.txt w3]) ⟨_, KT1.now (by assumption) (by assumption) (by ktr_rel), rfl, _, rfl⟩ (by decide) (by decide) (by show (1 : Int) < 2; decide) (v := .str z.txt w3) rfl ?_ (by with_unfolding_all rfl)
    k_steps
    rename Fr _ _ _ _ => F5
    rename News _ _ _ _ => N5
    refine sub_view (Heap.dictOf_iff.mpr ⟨o0, KD0.now F5 N5 (by ktr_rel), hdo0⟩) lk0 ?_ ?_ ?_
    rotate_left
    · with_unfolding_all rfl
    · intro _; with_unfolding_all rfl
    k_steps
    refine sub_tup (its := #[.int u.lo w0, .str u.txt w1]) ⟨_, KT0.now (by assumption) (by assumption) (by ktr_rel), rfl, _, rfl⟩ (by decide) (by decide) (by show (1 : Int) < 2; decide) (v := .str u.txt w1) rfl ?_ (by with_unfolding_all rfl)
    rw [htx]
    k_steps
    · simp
    · exact ⟨_, _, rfl, fun _ _ e => e⟩
  · intro C i v s₃ m₃ hP hf
    cases hf
  · intro D2 C vs ys e2 h2 tk2 hDC hLD2 hlt F2 N2 hl hv hP
    have hys : ys = #[] := by
      have h1 := hP.length
      rw [show vs.filter (fun _ => false) = [] by simp] at h1
      exact Array.eq_empty_of_size_eq_zero (by simpa using h1.symm)
    subst hys
    k_steps
    rename Fr _ _ _ _ => F3
    rename News _ _ _ _ => N3
    refine ⟨ne_strs (xs := []) (ys := []) ⟨_, (N3 _ (.tail _ (.head _))).1, rfl, _, rfl⟩ ⟨_, (N3 _ (.head _)).1, rfl, _, rfl⟩ .nil .nil (c.ok.deeper _).unit ?_⟩
    k_steps
    refine call_len_dict (knd := strKind PR w) (sys_ne c.big hHD1) (Heap.dictOf_iff.mpr ⟨o1, KD1.now F3 N3 (by ktr_rel), hdo1⟩) (by rw [vOf, List.length_map]; omega) ?_
    k_steps
    rename Fr _ _ _ _ => F4
    rename News _ _ _ _ => N4
    refine call_len_dict (knd := strKind PR w) (sys_ne c.big hHD0) (Heap.dictOf_iff.mpr ⟨o0, KD0.now F4 N4 (by ktr_rel), hdo0⟩) (by rw [vOf, List.length_map]; omega) ?_
    have hll : ((vOf l1).length : Int) = ((vOf l0).length : Int) := by
      have h1 := congrArg List.length hv0
      have h2 := congrArg List.length hv1
      rw [hsee] at h2
      simp only [vSees, vOf, List.length_map] at h1 h2 ⊢
      omega
    k_steps
    · exfalso; omega
    rename Fr _ _ _ _ => F5
    rename News _ _ _ _ => N5
    have hvl := hio.length
    refine list_copyK (items := List.toArray vo) F5 N5 (list_k F5 N5 KO (by ktr_rel)) (fun D3 c3 h3 F6 N6 l6 => ?_) (by rw [List.size_toArray, hvl, sizeLine_eq]; have := FF.oct.few; omega)
    clear F5 N5
    k_steps
    rename Fr _ _ _ _ => F7
    rename News _ _ _ _ => N7
    have hD3 := (N7 _ (.head _)).1
    have hD3n : ∀ a ∈ R.adr, D3 ≠ a := fun a ha q => by
      obtain ⟨o, ho⟩ := x10.at_.has a (by rw [hadr]; exact ha)
      rcases G.old a o (fun z => hL (z ▸ ha)) (by simp) ho with z | z
      · have := (N7 _ (.head _)).2.2
        rw [← q] at z
        rw [this] at z; cases z
      · have := l6 _ (List.Mem.tail _ (List.Mem.tail _ z))
        exact Nat.ne_of_lt this q.symm
    have b11 := b10.after G F7 N7 (by ktr_rel) (by simp)
    have keep11 := G.stay F7 N7 (by ktr_rel)
    have x11 := x10.seg G F7 N7 (by ktr_rel) hL1 (by simp)
    have v111 := v110.keep fun z hz o e => keep11 z o (ne1 z (hz1 z hz)).1 (by simp) e
    have hc2 := keep11 _ _ (Nat.ne_of_gt (Nat.lt_succ_of_lt (Nat.lt_succ_self _))) (by simp) hc2
    have hgoal : goalOf (colR R ds (R.col + 1)).size (ds.map (relo R.size ds)) = goalOf R.size ds := goalOf_relo _ _ _ _
    have hsepR : (colR R ds (R.col + 1)).adr.Nodup := by rw [hadr]; exact x.sep
    have hagain : colR (colR R ds (R.col + 1)) (ds.map (relo R.size ds)) (R.col + 1 + 1) = colR R ds (R.col + 1 + 1) := FF.again hsepR (F.packed x.sep) hgoal.symm _
    have hplsa : (colR R ds (R.col + 1)).pls.map (·.a) = R.pls.map (·.a) := by rw [colR_pls, List.map_map]; rfl
    refine collect_c (R := colR R ds (R.col + 1)) ((c.deeper _ b11.st).le (by decide)) x11 (by omega) (by omega) FF.oct FF.size FF.perm FF.desc FF.inr fun h12 tk12 tk12' kp12 x12 => ?_
    rw [hplsa] at kp12
    have x12 : RoomW w H h12 (colR R ds (R.col + 1 + 1)) := hagain ▸ x12
    rw [show goalOf (colR R ds (R.col + 1)).size (ds.map (relo R.size ds)) - (colR R ds (R.col + 1)).free = 0 by rw [hgoal]; exact Int.sub_self _]
    have b12 := b11.call kp12 (fun a ha => ⟨.inl ha, fun q => hL (q ▸ hSm a ha), x.none a (hSm a ha)⟩)
    have hD3 := kp12 _ _ (fun q => hD3n _ (hSm _ q) rfl) hD3
    have v112 := v111.keep fun z hz o e => kp12 z o (hSo z (Nat.le_of_lt (Nat.lt_of_le_of_lt (Nat.le_add_right _ 2) (hz1 z hz)))) e
    have hc2 := kp12 _ _ (hSo _ (Nat.le_succ_of_le (Nat.le_succ _))) hc2
    have hnD3 : D3 ≠ s.heap.objs.size := (N7 _ (.head _)).2.1
    clear F7 N7 X' T' G b10 b11 x10 x11 v110 v111 v010 KO I D KD0 KD1 KC1 KC2 hd keep11
    have FG := F.collected x.sep (R.col + 1 + 1)
    have hsee2 := F.seen x.sep (R.col + 1 + 1)
    have hadr2 := colR_adr R ds (R.col + 1 + 1)
    refine b12.seg0 c fun g rest p loose mean mg mb G F' N' T' X' => ?_
    have I := G.old _ _ (fun q => hL (q ▸ R.m_r)) (by simp) x12.at_.inst
    refine x12.at_.dictK fun k t0 t1 t2 t3 t4 nd hd => ?_
    have D := G.old _ _ (fun q => hL (q ▸ R.m_dx)) (by simp) hd
    obtain ⟨vo2, eo2, hvo2, hio2⟩ := x12.at_.oct
    have KO := G.old _ _ (fun q => hL (q ▸ R.m_ao)) (by simp) hvo2
    have KD3 := G.old _ _ hnD3 (by simp) hD3
    have KC2 := G.old _ _ (Nat.ne_of_gt (Nat.lt_succ_of_lt (Nat.lt_succ_self _))) (by simp) hc2
    k_steps
    rename Fr _ _ _ _ => F1
    rename News _ _ _ _ => N1
    refine ⟨PySem.W.ke_eq_ints (ns := (colR R ds (R.col + 1 + 1)).ns) (ms := (colR R ds (R.col + 1 + 1)).ns) (list_k F1 N1 KO (by ktr_rel)) (list_k F1 N1 KD3 (by ktr_rel)) hio2 hio (by have := c.ok.units; show A.units + 3 + 64 < cLine; omega) ?_⟩
    rw [decide_eq_true rfl]
    k_steps
    rename Fr _ _ _ _ => F3
    rename News _ _ _ _ => N3
    have b13 := b12.after G F3 N3 (by ktr_rel) (by simp)
    have x13 := x12.seg G F3 N3 (by ktr_rel) (by rw [hadr2]; exact hL) (by simp)
    have v113 := v112.keep fun z hz o e => G.stay F3 N3 (by ktr_rel) z o (ne1 z (hz1 z hz)).1 (by simp) e
    have hc2 := KC2.now F3 N3 (by ktr_rel)
    have hk2 : (colR R ds (R.col + 1 + 1)).held.length = R.held.length := by simp [colR, reR]
    have hw2 : (colR R ds (R.col + 1 + 1)).wait.length = R.wait.length := by simp [colR, reR]
    refine law_view_c (R := colR R ds (R.col + 1 + 1)) ((c.deeper _ b13.st).le (by decide)) x13 (by omega) (by omega) FG.oct FG.pl FG.wNames fun h14 tk14 D4 l4 kp14 v4 hv4 => ?_
    rw [sees_eq, hsee2, ← hsee, ← hv1] at hv4
    obtain ⟨F5, N5⟩ := after0 F3 N3 kp14
    have b14 := b13.call kp14 (by simp)
    have hHD4 : H.objs.size ≤ D4 := Nat.le_trans hHs (Nat.le_of_lt (Nat.lt_trans (Nat.lt_of_le_of_lt (Nat.le_add_right _ 2) (Heap.lt_size hc2)) v4.newD))
    clear F3 N3
    k_steps
    refine ⟨views_eq v4 (v113.keep fun z hz o e => kp14 z o (by simp) e) hv4 (sys_ne c.big hHD4) (sys_ne c.big hHD1) (by have := c.ok.units; show A.units + 3 + 64 < cLine; omega) ?_⟩
    k_steps
    try dsimp only
    exact hQ _ _ b14.kp (x13.stay kp14.stays)
end
end Mine
end
section
namespace Mine
abbrev Rm.up (R : Rm) (f : Int) (n : List Int) (hd : List (Str × Pl)) (wt : List Pl) (k : Int) : Rm := { R with free := f, ns := n, held := hd, wait := wt, col := k }
theorem txt_codes (z : Str) : txtOf (codesOf z) = z := by
  obtain ⟨a⟩ := z
  simp [txtOf, codesOf, Function.comp_def]
theorem RoomW.keys {w : World} {H h : Heap} {R : Rm} (x : RoomW w H h R) : (R.held.map (·.1)).Nodup := let ⟨_, e⟩ := x.at_.held; DictOf.keys e
/-- what is the room's behind a call was its before, or is new -/
abbrev Grew (R R' : Rm) (n : Nat) : Prop := ∀ a ∈ R'.adr, a ∈ R.adr ∨ n ≤ a
theorem adr_grow {R R' : Rm} {n : Nat} (hf : R'.fix = R.fix) (h : ∀ q ∈ R'.pls, q ∈ R.pls ∨ n ≤ q.a) : Grew R R' n := fun a ha => by
  rw [Rm.adr, hf] at ha
  rcases List.mem_append.mp ha with ha | ha
  · exact .inl (List.mem_append_left _ ha)
  · obtain ⟨q, hq, rfl⟩ := List.mem_map.mp ha
    exact (h q hq).imp (fun z => Rm.m_pl z) id
theorem stored_mem {l : List (Str × Pl)} {k : Str} {p : Pl} (hn : (l.map (·.1)).Nodup) {q : Pl} (h : q ∈ (storedP l k p).map (·.2)) : q = p ∨ q ∈ l.map (·.2) := by
  obtain ⟨y, hy, rfl⟩ := List.mem_map.mp h
  rcases List.mem_cons.mp ((storedP_filter k p l hn).mem_iff.mp hy) with rfl | hy
  · exact .inl rfl
  · exact .inr (List.mem_map_of_mem (f := Prod.snd) (List.mem_filter.mp hy).1)
section
variable {w : World} {A : Around} {s : Shared} {H : Heap} {Q E : Value → Shared → Prop} {R : Rm}

theorem push_ok {z : Str} {t : Tok} (c : Ctx 5 w A H s) (x : RoomW w H s.heap R) (K : Okay R) (ha : z.cps.all (· < 128) = true) (hz : z.cps.size ≤ 255) (hf : (z.cps.size : Int) ≤ R.free) (hk : R.wait.length < R.mw) (hmw : R.mw < 1000)
    (hQ : ∀ h' tk f n p, Kept R.fix s.heap h' → Grew R (R.up f n R.held (R.wait ++ [p]) R.col) s.heap.objs.size → RoomW w H h' (R.up f n R.held (R.wait ++ [p]) R.col) → Okay (R.up f n R.held (R.wait ++ [p]) R.col) → f = R.free - z.cps.size → p.lo = f → p.len = (z.cps.size : Int) → txtOf (cutOf n p) = z → (∀ q : Pl, R.free ≤ q.lo → cutOf n q = cutOf R.ns q) →
      Q .none { s with heap := h', toks := tk }) :
    wpAny (model PR w) A (call (.ref 141) [.ref R.r, .str z t]) Q E s := by
  have h1 := K.free1
  have h2 := K.size
  have h3 := codes_len z
  have h4 := K.low
  have h5 := K.free0
  refine push_waiting_c c x ha hz (by omega) (by omega) (by omega) K.oct.few hk hmw fun h' tk l kp hl x' => ?_
  refine hQ h' tk _ _ _ (kp.mono fun a h => by simp only [List.mem_cons, List.not_mem_nil, or_false] at h; simp only [Rm.fix, List.mem_cons, List.not_mem_nil, or_false]; rcases h with h | h | h <;> simp [h]) (adr_grow rfl fun q hq => by
    rcases List.mem_append.mp (show q ∈ R.held.map (fun x : Str × Pl => x.2) ++ (R.wait ++ [_]) from hq) with hq | hq
    · exact .inl (List.mem_append_left _ hq)
    · rcases List.mem_append.mp hq with hq | hq
      · exact .inl (List.mem_append_right _ hq)
      · rw [List.mem_singleton.mp hq]; exact .inr hl) x' (K.push ha hf) rfl rfl rfl ?_ fun q hq => ?_
  · rw [cut_put_same (p := ⟨l, R.free - z.cps.size, z.cps.size⟩) (by show 0 ≤ R.free - z.cps.size; omega) (by show (z.cps.size : Int) = _; rw [h3]) (by show R.free - z.cps.size + z.cps.size ≤ _; omega)]
    exact txt_codes z
  · exact cut_put_far (by rw [h3]; omega) (by omega) (.inr (by rw [h3]; omega))
theorem assign_ok {z nm : Str} {t t' : Tok} (c : Ctx 5 w A H s) (x : RoomW w H s.heap R) (K : Okay R) (hnm : nm.cps.size = 1) (ha : z.cps.all (· < 128) = true) (hz : z.cps.size ≤ 255) (hf : (z.cps.size : Int) ≤ R.free) (hk : R.held.length < 1000)
    (hQ : ∀ h' tk n hd, Kept R.fix s.heap h' → Grew R (R.up (R.free - z.cps.size) n hd R.wait R.col) s.heap.objs.size → RoomW w H h' (R.up (R.free - z.cps.size) n hd R.wait R.col) → Okay (R.up (R.free - z.cps.size) n hd R.wait R.col) → hd.length ≤ R.held.length + 1 → Q .none { s with heap := h', toks := tk }) :
    wpAny (model PR w) A (call (.ref 120) [.ref R.r, .str nm t', .str z t]) Q E s := by
  have h1 := K.free1
  have h2 := K.size
  have h4 := K.low
  have h5 := K.free0
  refine assign_text_c c x ha hz (by omega) (by omega) (by omega) K.oct.few hk fun h' tk l kp hl x' => ?_
  refine hQ h' tk _ _ (kp.mono fun a h => by simp only [List.mem_cons, List.not_mem_nil, or_false] at h; simp only [Rm.fix, List.mem_cons, List.not_mem_nil, or_false]; rcases h with h | h | h <;> simp [h]) (adr_grow rfl fun q hq => by
    rcases List.mem_append.mp (show q ∈ (storedP R.held nm _).map (fun x : Str × Pl => x.2) ++ R.wait from hq) with hq | hq
    · rcases stored_mem x.keys hq with rfl | hq
      · exact .inr hl
      · exact .inl (List.mem_append_left _ hq)
    · exact .inl (List.mem_append_right _ hq)) x' (K.assign x.keys hnm ha hf) ?_
  unfold storedP
  split
  · simp
  · simp
theorem forget_ok {nm : Str} {t : Tok} (c : Ctx 2 w A H s) (x : RoomW w H s.heap R) (K : Okay R) (hk : R.held.length < 1000)
    (hQ : ∀ h' tk hd, Kept R.fix s.heap h' → Grew R (R.up R.free R.ns hd R.wait R.col) s.heap.objs.size → RoomW w H h' (R.up R.free R.ns hd R.wait R.col) → Okay (R.up R.free R.ns hd R.wait R.col) → hd.length ≤ R.held.length → Q .none { s with heap := h', toks := tk }) :
    wpAny (model PR w) A (call (.ref 127) [.ref R.r, .str nm t]) Q E s := by
  refine forget_c c x hk fun h' tk kp x' => ?_
  exact hQ h' tk (R.held.filter fun y => decide (y.1 ≠ nm)) (kp.mono fun a h => by simp only [List.mem_cons, List.not_mem_nil, or_false] at h; simp [Rm.fix, h]) (adr_grow rfl fun q hq => by
    rcases List.mem_append.mp (show q ∈ (R.held.filter fun y => decide (y.1 ≠ nm)).map (fun x : Str × Pl => x.2) ++ R.wait from hq) with hq | hq
    · obtain ⟨y, hy, rfl⟩ := List.mem_map.mp hq
      exact .inl (List.mem_append_left _ (List.mem_map_of_mem (f := Prod.snd) (List.mem_filter.mp hy).1))
    · exact .inl (List.mem_append_right _ hq)) x' (K.forget x.keys) (List.length_filter_le _ _)
theorem keep_ok {nm : Str} {t : Tok} {wt : List Pl} {pl : Pl} (c : Ctx 2 w A H s) (x : RoomW w H s.heap R) (K : Okay R) (hnm : nm.cps.size = 1) (hk : R.held.length < 1000) (hwt : R.wait = wt ++ [pl]) (hw1 : R.wait.length < 1000)
    (hQ : ∀ h' tk, Kept R.fix s.heap h' → Grew R (R.up R.free R.ns (storedP R.held nm pl) wt R.col) s.heap.objs.size → RoomW w H h' (R.up R.free R.ns (storedP R.held nm pl) wt R.col) → Okay (R.up R.free R.ns (storedP R.held nm pl) wt R.col) → (storedP R.held nm pl).length ≤ R.held.length + 1 → Q .none { s with heap := h', toks := tk }) :
    wpAny (model PR w) A (call (.ref 162) [.ref R.r, .str nm t]) Q E s := by
  refine keep_waiting_c c x hk hwt hw1 fun h' tk kp x' => ?_
  refine hQ h' tk (kp.mono fun a h => by simp only [List.mem_cons, List.not_mem_nil, or_false] at h; simp only [Rm.fix, List.mem_cons, List.not_mem_nil, or_false]; rcases h with h | h <;> simp [h]) (adr_grow rfl fun q hq => by
    rcases List.mem_append.mp (show q ∈ (storedP R.held nm pl).map (fun x : Str × Pl => x.2) ++ wt from hq) with hq | hq
    · rcases stored_mem x.keys hq with rfl | hq
      · exact .inl (List.mem_append_right _ (by rw [hwt]; simp))
      · exact .inl (List.mem_append_left _ hq)
    · exact .inl (List.mem_append_right _ (by rw [hwt]; exact List.mem_append_left _ hq))) x' (K.keep x.keys hnm hwt) ?_
  unfold storedP
  split
  · simp
  · simp
theorem join_ok {wt : List Pl} {p1 p2 : Pl} (c : Ctx 4 w A H s) (x : RoomW w H s.heap R) (K : Okay R) (hwt : R.wait = wt ++ [p1, p2]) (hw1 : R.wait.length < 1000) (hlen : p1.len + p2.len ≤ 255) (hf : p1.len + p2.len ≤ R.free)
    (hQ : ∀ h' tk n p, Kept R.fix s.heap h' → Grew R (R.up (R.free - (p1.len + p2.len)) n R.held (wt ++ [p]) R.col) s.heap.objs.size → RoomW w H h' (R.up (R.free - (p1.len + p2.len)) n R.held (wt ++ [p]) R.col) → Okay (R.up (R.free - (p1.len + p2.len)) n R.held (wt ++ [p]) R.col) → p.lo = R.free - (p1.len + p2.len) → p.len = p1.len + p2.len →
      cutOf n p = cutOf R.ns p1 ++ cutOf R.ns p2 → Q .none { s with heap := h', toks := tk }) :
    wpAny (model PR w) A (call (.ref 155) [.ref R.r]) Q E s := by
  have h1 := K.free1
  have h2 := K.size
  have h4 := K.low
  have h5 := K.free0
  have m1 : p1 ∈ R.pls := List.mem_append_right _ (by rw [hwt]; simp)
  have m2 : p2 ∈ R.pls := List.mem_append_right _ (by rw [hwt]; simp)
  have k1 := K.pl p1 m1
  have k2 := K.pl p2 m2
  have c1 := cut_len k1
  have c2 := cut_len k2
  refine join_waiting_c c x hwt hw1 K.oct k1 k2 hlen (by omega) (by omega) (by omega) fun h' tk l kp hl x' => ?_
  refine hQ h' tk _ _ (kp.mono fun a h => by simp only [List.mem_cons, List.not_mem_nil, or_false] at h; simp only [Rm.fix, List.mem_cons, List.not_mem_nil, or_false]; rcases h with h | h | h <;> simp [h]) (adr_grow rfl fun q hq => by
    rcases List.mem_append.mp (show q ∈ R.held.map (fun x : Str × Pl => x.2) ++ (wt ++ [_]) from hq) with hq | hq
    · exact .inl (List.mem_append_left _ hq)
    · rcases List.mem_append.mp hq with hq | hq
      · exact .inl (List.mem_append_right _ (by rw [hwt]; exact List.mem_append_left _ hq))
      · rw [List.mem_singleton.mp hq]; exact .inr hl) x' (K.join hwt hf) rfl rfl ?_
  exact cut_put_same (p := ⟨l, R.free - (p1.len + p2.len), p1.len + p2.len⟩) (by show 0 ≤ R.free - (p1.len + p2.len); omega) (by show p1.len + p2.len = _; rw [List.length_append]; omega) (by show R.free - (p1.len + p2.len) + (p1.len + p2.len) ≤ _; omega)
theorem swap_ok {a b : Str} {ta tb : Tok} (hab : a ≠ b) (c : Ctx 2 w A H s) (x : RoomW w H s.heap R) (K : Okay R) (na : a.cps.size = 1) (nb : b.cps.size = 1) (hk : R.held.length < 1000)
    (hQ : ∀ h' tk hd l1 l2, Kept R.fix s.heap h' → Grew R (R.up R.free R.ns hd R.wait R.col) s.heap.objs.size → RoomW w H h' (R.up R.free R.ns hd R.wait R.col) → Okay (R.up R.free R.ns hd R.wait R.col) → hd.length ≤ R.held.length + 2 →
      hd = storedP (storedP R.held a ((lookP R.held b).getD ⟨l2, R.size, 0⟩)) b ((lookP R.held a).getD ⟨l1, R.size, 0⟩) → Q .none { s with heap := h', toks := tk }) :
    wpAny (model PR w) A (call (.ref 134) [.ref R.r, .str a ta, .str b tb]) Q E s := by
  refine swap_texts_c hab c x hk fun h' tk l1 l2 kp hl1 hl2 _ x' => ?_
  have hl : ∀ (l : List (Str × Pl)) k p, (storedP l k p).length ≤ l.length + 1 := fun l k p => by
    unfold storedP
    split <;> simp
  refine hQ h' tk (storedP (storedP R.held a ((lookP R.held b).getD ⟨l2, R.size, 0⟩)) b ((lookP R.held a).getD ⟨l1, R.size, 0⟩)) l1 l2 (kp.mono fun a h => by simp only [List.mem_cons, List.not_mem_nil, or_false] at h; simp [Rm.fix, h]) (adr_grow rfl fun q hq => ?_) x' (K.swap hab x.keys na nb) (Nat.le_trans (hl _ _ _) (Nat.succ_le_succ (hl _ _ _))) rfl
  have old : ∀ (k : Str) (l : Addr), s.heap.objs.size ≤ l → (lookP R.held k).getD ⟨l, R.size, 0⟩ ∈ R.pls ∨ s.heap.objs.size ≤ ((lookP R.held k).getD ⟨l, R.size, 0⟩).a := fun k l hl => by
    cases e : lookP R.held k with
    | none => exact .inr hl
    | some p => exact .inl (List.mem_append_left _ (List.mem_map_of_mem (f := Prod.snd) (lookP_mem e)))
  rcases List.mem_append.mp (show q ∈ (storedP (storedP R.held a _) b _).map (fun x : Str × Pl => x.2) ++ R.wait from hq) with hq | hq
  · rcases stored_mem (storedP_nodup x.keys) hq with rfl | hq
    · exact old a l1 hl1
    · rcases stored_mem x.keys hq with rfl | hq
      · exact old b l2 hl2
      · exact .inl (List.mem_append_left _ hq)
  · exact .inl (List.mem_append_right _ hq)
theorem pop_ok {wt : List Pl} {pl : Pl} (c : Ctx 3 w A H s) (x : RoomW w H s.heap R) (K : Okay R) (hwt : R.wait = wt ++ [pl]) (hw1 : R.wait.length < 1000) (h0 : 0 < pl.len) (h1 : pl.lo = R.free)
    (hQ : ∀ h' tk tk', Kept R.fix s.heap h' → Grew R (R.up (R.free + pl.len) R.ns R.held wt R.col) s.heap.objs.size → RoomW w H h' (R.up (R.free + pl.len) R.ns R.held wt R.col) → Okay (R.up (R.free + pl.len) R.ns R.held wt R.col) → Q (.str (txtOf (cutOf R.ns pl)) tk') { s with heap := h', toks := tk }) :
    wpAny (model PR w) A (call (.ref 148) [.ref R.r]) Q E s := by
  refine pop_waiting_c c x hwt hw1 K.oct (K.pl pl (List.mem_append_right _ (by rw [hwt]; simp))) h0 h1 fun h' tk tk' kp x' => ?_
  exact hQ h' tk tk' (kp.mono fun a h => by simp only [List.mem_cons, List.not_mem_nil, or_false] at h; simp only [Rm.fix, List.mem_cons, List.not_mem_nil, or_false]; rcases h with h | h <;> simp [h]) (adr_grow rfl fun q hq => by
    rcases List.mem_append.mp (show q ∈ R.held.map (fun x : Str × Pl => x.2) ++ wt from hq) with hq | hq
    · exact .inl (List.mem_append_left _ hq)
    · exact .inl (List.mem_append_right _ (by rw [hwt]; exact List.mem_append_left _ hq))) x' (K.pop hwt h0 h1)
theorem collected_ok (c : Ctx 8 w A H s) (x : RoomW w H s.heap R) (K : Okay R) (hk : R.held.length ≤ 30) (hw : R.wait.length ≤ 3)
    (hQ : ∀ h' tk f n hd wt k, Kept R.adr s.heap h' → (R.up f n hd wt k).adr = R.adr → RoomW w H h' (R.up f n hd wt k) → Okay (R.up f n hd wt k) → R.free ≤ f → hd.length = R.held.length → wt.length = R.wait.length → Q (.bool true) { s with heap := h', toks := tk }) :
    wpAny (model PR w) A (call (.ref 198) [.ref R.r]) Q E s := by
  obtain ⟨ds, F⟩ := K.fine
  refine law_collected_right_c c x F hk hw fun h' tk kp x' => ?_
  refine hQ h' tk _ _ _ _ _ (kp.mono fun a ha => ?_) (colR_adr R ds _) x' (F.collected x.sep _).okay F.goal0 (List.length_map ..) (List.length_map ..)
  rcases List.mem_append.mp ha with ha | ha
  · rcases List.mem_cons.mp ha with rfl | ha
    · exact R.m_dx
    · rw [List.mem_singleton.mp ha]; exact R.m_ao
  · rw [Rm.adr]; exact List.mem_append_right _ ha
end
end Mine
end
section
namespace Mine
section
variable {w : World} {A : Around} {s : Shared} {H : Heap} {Q E : Value → Shared → Prop} {R : Rm}

theorem law_joined_right_c (c : Ctx 8 w A H s) (x : RoomW w H s.heap R) (K : Okay R) (hw : R.wait.length ≤ 3) (hmw : R.mw = 5) (hf : 10 ≤ R.free)
    (hQ : ∀ h' tk n, Kept R.fix s.heap h' → RoomW w H h' (R.up (R.free - 5) n R.held R.wait R.col) → Okay (R.up (R.free - 5) n R.held R.wait R.col) → Q (.bool true) { s with heap := h', toks := tk }) :
    wpAny (model PR w) A (call (.ref 212) [.ref R.r]) Q E s := by
  refine' enter c ?k6 ?k7 ?k9 ?kB ?_ ?c5 ?c2 ?c3 ?c4
  ktr_unf
  intro hh1 tk b
  have hL : s.heap.objs.size ∉ R.adr := fun q => Nat.lt_irrefl _ (x.at_.lt _ q)
  have hfix : ∀ a ∈ R.fix, (a ∈ R.fix ∨ s.heap.objs.size ≤ a) ∧ a ≠ s.heap.objs.size ∧ H.get? a = none := fun a ha => ⟨.inl ha, fun q => hL (q ▸ List.mem_append_left _ ha), x.none a (List.mem_append_left _ ha)⟩
  have x1 := x.kept b.kp (by simp)
  have bm := b.mono (S' := R.fix) (by simp)
  refine bm.seg0 c fun g rest p loose mean mg mb G F' N' T' X' => ?_
  try dsimp only
  k_steps
  rename Fr _ _ _ _ => F1
  rename News _ _ _ _ => N1
  have b1 := bm.after G F1 N1 (by ktr_rel) (by simp)
  refine push_ok (z := Str.ofString "ab") ((c.deeper _ b1.st).le (by decide)) x1 K (by decide +kernel) (by decide +kernel) (by show (2 : Int) ≤ R.free; omega) (by omega) (by omega) fun h2 tk2 f1 n1 p1 kp2 g2 x2 K2 e1 e2 e3 e4 e5 => ?_
  have e1 : f1 = R.free - 2 := e1
  have e3 : p1.len = 2 := e3
  have b2 := b1.call kp2 hfix
  have hL2 : s.heap.objs.size ∉ (R.up f1 n1 R.held (R.wait ++ [p1]) R.col).adr := fun q => (g2 _ q).elim hL fun z => Nat.not_lt.mpr z b1.ns.lt
  clear F1 N1 X' T' G b1 x1
  refine b2.seg0 c fun g rest p loose mean mg mb G F' N' T' X' => ?_
  k_steps
  rename Fr _ _ _ _ => F1
  rename News _ _ _ _ => N1
  have b3 := b2.after G F1 N1 (by ktr_rel) (by simp)
  refine push_ok (R := R.up f1 n1 R.held (R.wait ++ [p1]) R.col) (z := Str.ofString "cde") ((c.deeper _ b3.st).le (by decide)) (x2.seg G F1 N1 (by ktr_rel) hL2 (by simp)) K2 (by decide +kernel) (by decide +kernel) (by show (3 : Int) ≤ f1; omega)
    (by show ((R.wait ++ [p1]).length : Int) < R.mw; rw [List.length_append, List.length_singleton]; omega) (by show R.mw < 1000; omega) fun h4 tk4 f2 n2 p2 kp4 g4 x4 K4 d1 d2 d3 d4 d5 => ?_
  have d1 : f2 = f1 - 3 := d1
  have d3 : p2.len = 3 := d3
  have x4 : RoomW w H h4 (R.up f2 n2 R.held (R.wait ++ [p1] ++ [p2]) R.col) := x4
  have K4 : Okay (R.up f2 n2 R.held (R.wait ++ [p1] ++ [p2]) R.col) := K4
  have hL4 : s.heap.objs.size ∉ (R.up f2 n2 R.held (R.wait ++ [p1] ++ [p2]) R.col).adr := fun q => (g4 _ q).elim hL2 fun z => Nat.not_lt.mpr z b3.ns.lt
  have b4 := b3.call kp4 hfix
  have hcut1 : txtOf (cutOf n2 p1) = Str.ofString "ab" := by
    rw [d5 p1 (by show f1 ≤ p1.lo; omega)]; exact e4
  clear F1 N1 X' T' G b2 b3 x2 K2
  refine b4.seg0 c fun g rest p loose mean mg mb G F' N' T' X' => ?_
  have I := G.old _ _ (fun q => hL (q ▸ R.m_r)) (by simp) x4.at_.inst
  refine x4.at_.dictK fun k t0 t1 t2 t3 t4 nd hd => ?_
  have hd : h4.get? R.dx = some (dictOf (roomD w.params k (.int R.size t0) (.int R.low t1) (.int f2 t2) (.int R.mw t3) (.int R.col t4) R.ao R.ah R.aw) nd) := hd
  have D := G.old _ _ (fun q => hL (q ▸ R.m_dx)) (by simp) hd
  k_steps
  rename Fr _ _ _ _ => F1
  rename News _ _ _ _ => N1
  have b5 := b4.after G F1 N1 (by ktr_rel) (by simp)
  refine join_ok (R := R.up f2 n2 R.held (R.wait ++ [p1] ++ [p2]) R.col) (wt := R.wait) (p1 := p1) (p2 := p2) ((c.deeper _ b5.st).le (by decide)) (x4.seg G F1 N1 (by ktr_rel) hL4 (by simp)) K4 (by simp) (by show (R.wait ++ [p1] ++ [p2]).length < 1000; simp; omega) (by omega) (by show p1.len + p2.len ≤ f2; omega)
    fun h6 tk6 n3 p3 kp6 g6 x6 K6 j1 j2 j3 => ?_
  have j1 : p3.lo = f2 - 5 := by rw [j1, e3, d3]; rfl
  have j2 : p3.len = 5 := by rw [j2, e3, d3]; rfl
  have hf3 : f2 - (p1.len + p2.len) = f2 - 5 := by rw [e3, d3]; rfl
  have hL6 : s.heap.objs.size ∉ (R.up (f2 - 5) n3 R.held (R.wait ++ [p3]) R.col).adr := fun q => (g6 _ q).elim hL4 fun z => Nat.not_lt.mpr z b5.ns.lt
  have x6 : RoomW w H h6 (R.up (f2 - (p1.len + p2.len)) n3 R.held (R.wait ++ [p3]) R.col) := x6
  have K6 : Okay (R.up (f2 - (p1.len + p2.len)) n3 R.held (R.wait ++ [p3]) R.col) := K6
  rw [hf3] at x6 K6
  have htx : txtOf (cutOf n3 p3) = Str.ofString "abcde" := by
    rw [show cutOf n3 p3 = cutOf n2 p1 ++ cutOf n2 p2 from j3, ← txt_append, hcut1, d4]
    decide +kernel
  have b6 := b5.call kp6 hfix
  clear F1 N1 X' T' G b4 b5 x4 K4 I D hd
  refine b6.seg0 c fun g rest p loose mean mg mb G F' N' T' X' => ?_
  have I := G.old _ _ (fun q => hL (q ▸ R.m_r)) (by simp) x6.at_.inst
  refine x6.at_.dictK fun k t0 t1 t2 t3 t4 nd hd => ?_
  have hd : h6.get? R.dx = some (dictOf (roomD w.params k (.int R.size t0) (.int R.low t1) (.int (f2 - 5) t2) (.int R.mw t3) (.int R.col t4) R.ao R.ah R.aw) nd) := hd
  have D := G.old _ _ (fun q => hL (q ▸ R.m_dx)) (by simp) hd
  obtain ⟨ew, hwt⟩ := x6.at_.wait
  have hwt : h6.get? R.aw = some (W.listOf (waitOf R.wait ++ [Value.ref p3.a]).toArray ew) := by rw [← show waitOf (R.wait ++ [p3]) = waitOf R.wait ++ [Value.ref p3.a] by simp [waitOf]]; exact hwt
  have W := G.old _ _ (fun q => hL (q ▸ R.m_aw)) (by simp) hwt
  have hwl : (waitOf R.wait).length = R.wait.length := by simp [waitOf]
  have m3 : p3 ∈ (R.up (f2 - 5) n3 R.held (R.wait ++ [p3]) R.col).pls := List.mem_append_right _ (by simp)
  obtain ⟨u0, u1, e0, hq⟩ := x6.at_.pls p3 m3
  have P3 := G.old _ _ (fun q => hL6 (q ▸ Rm.m_pl m3)) (by simp) hq
  k_steps
  · exfalso; omega
  rename Fr _ _ _ _ => F1
  rename News _ _ _ _ => N1
  refine sub_neg (list_k F1 N1 W (by ktr_rel)) (v := Value.ref p3.a) (by omega) ?_ (by omega) ?_ ?_ (by with_unfolding_all rfl)
  · simp; omega
  · rw [List.size_toArray, List.length_append, show ((-1 : Int) + ((waitOf R.wait).length + [Value.ref p3.a].length : Nat)).toNat = (waitOf R.wait).length by simp; omega]
    simp
  k_steps
  rename Fr _ _ _ _ => F1
  rename News _ _ _ _ => N1
  have b7 := b6.after G F1 N1 (by ktr_rel) (by simp)
  have x7 := x6.seg G F1 N1 (by ktr_rel) hL6 (by simp)
  refine text_at_c (pl := p3) (R := R.up (f2 - 5) n3 R.held (R.wait ++ [p3]) R.col) ((c.deeper _ b7.st).le (by decide)) x7 ⟨u0, u1, e0, P3.now F1 N1 (by ktr_rel)⟩ K6.oct (K6.pl p3 m3) fun h8 tk8 tk8' kp8 => ?_
  obtain ⟨F8, N8⟩ := after0 F1 N1 kp8
  have b8 := b7.call kp8 (by simp)
  have x8 := x7.stay kp8.stays
  rw [show txtOf (cutOf (R.up (f2 - 5) n3 R.held (R.wait ++ [p3]) R.col).ns p3) = Str.ofString "abcde" from htx]
  clear F1 N1
  k_steps
  rename Fr _ _ _ _ => F1
  rename News _ _ _ _ => N1
  refine free_room_c (R := R.up (f2 - 5) n3 R.held (R.wait ++ [p3]) R.col) ((c.deeper _ b8.st).le (by decide)) x8 fun h9 tk9 tk9' kp9 => ?_
  rw [show (R.up (f2 - 5) n3 R.held (R.wait ++ [p3]) R.col).free - (R.up (f2 - 5) n3 R.held (R.wait ++ [p3]) R.col).low = f2 - 5 - R.low from rfl]
  have b9 := b8.call kp9 (by simp)
  have x9 := x8.stay kp9.stays
  obtain ⟨F9, N9⟩ := after0 F1 N1 kp9
  clear F1 N1
  k_steps
  · exfalso; omega
  rename Fr _ _ _ _ => F1
  rename News _ _ _ _ => N1
  refine pop_ok (R := R.up (f2 - 5) n3 R.held (R.wait ++ [p3]) R.col) (wt := R.wait) (pl := p3) ((c.deeper _ b9.st).le (by decide)) x9 K6 rfl (by show (R.wait ++ [p3]).length < 1000; simp; omega) (by omega) j1 fun h10 tk10 tk10' kp10 g10 x10 K10 => ?_
  rw [show txtOf (cutOf (R.up (f2 - 5) n3 R.held (R.wait ++ [p3]) R.col).ns p3) = Str.ofString "abcde" from htx]
  have b10 := b9.call kp10 hfix
  have hf10 : f2 - 5 + p3.len = R.free - 5 := by omega
  replace x10 : RoomW w H h10 (R.up (f2 - 5 + p3.len) n3 R.held R.wait R.col) := x10
  replace K10 : Okay (R.up (f2 - 5 + p3.len) n3 R.held R.wait R.col) := K10
  rw [hf10] at x10 K10
  have hL10 : s.heap.objs.size ∉ (R.up (R.free - 5) n3 R.held R.wait R.col).adr := fun q => (g10 _ q).elim hL6 fun z => Nat.not_lt.mpr z b9.ns.lt
  clear F1 N1 X' T' G b6 b7 b8 b9 x6 x7 x8 x9 I D hd W hwt P3
  refine b10.seg0 c fun g rest p loose mean mg mb G F' N' T' X' => ?_
  have I := G.old _ _ (fun q => hL (q ▸ R.m_r)) (by simp) x10.at_.inst
  refine x10.at_.dictK fun k t0 t1 t2 t3 t4 nd hd => ?_
  replace hd : h10.get? R.dx = some (dictOf (roomD w.params k (.int R.size t0) (.int R.low t1) (.int (R.free - 5) t2) (.int R.mw t3) (.int R.col t4) R.ao R.ah R.aw) nd) := hd
  have D := G.old _ _ (fun q => hL (q ▸ R.m_dx)) (by simp) hd
  have hf2 : f2 = R.free - 5 := by omega
  subst hf2
  k_steps
  rw [beq_self_eq_true]
  rename Fr _ _ _ _ => F1
  rename News _ _ _ _ => N1
  have b11 := b10.after G F1 N1 (by ktr_rel) (by simp)
  exact hQ _ _ n3 b11.kp (x10.seg G F1 N1 (by ktr_rel) hL10 (by simp)) K10
end
end Mine
end
local macro_rules
  | `(tactic| walk_at "call type:list") => `(tactic| refine halt ?_)
  | `(tactic| walk_at "exec Assign cons ListComp") => `(tactic| refine halt ?_)
  | `(tactic| walk_at "call type:range") => `(tactic| refine halt ?_)
  | `(tactic| walk_at "call builtin:max") => `(tactic| refine halt ?_)
  | `(tactic| k_qdec) => `(tactic| decide +kernel)
section
namespace Mine
theorem new_apart {w : World} {H h h' g : Heap} {R : Rm} {L D : Addr} {M rest news : List (Addr × Obj)} {o : Obj} (x : RoomW w H h R) (G : Seg w H g L M rest h) (N : News g L h' ((D, o) :: news)) (sub : ∀ p ∈ rest, p ∈ news) (l : ∀ q ∈ news, q.1 < D)
    (hL : L ∉ R.adr) (hM : ∀ a ∈ R.adr, a ∉ M.map (·.1)) : ∀ a ∈ R.adr, D ≠ a := fun a ha q => by
  obtain ⟨o', ho⟩ := x.at_.has a ha
  rcases G.old a o' (fun z => hL (z ▸ ha)) (hM a ha) ho with z | z
  · have := (N _ (.head _)).2.2
    rw [← q] at z
    rw [this] at z; cases z
  · exact Nat.ne_of_lt (l _ (sub _ z)) q.symm
theorem view_keys {w : World} {h : Heap} {D L : Addr} {l : List (Str × Vw)} (v : ViewAt w h D L l) : (l.map (·.1)).Nodup := by
  have := v.dict.dictAt
  obtain ⟨ep, o, es, _, _, _, _, _, hn⟩ := this
  unfold vOf at hn
  rw [List.map_map] at hn
  exact hn
/-- what a view tells under a held name -/
theorem view_some {w : World} {h : Heap} {D L : Addr} {l : List (Str × Vw)} {R : Rm} (v : ViewAt w h D L l) (hv : vSees l = (Ents R).map (see R.ns)) {k : Str} {p : Pl} (hm : (k, p) ∈ R.held) : ∃ z, (k, z) ∈ l ∧ lookV l k = some z ∧ z.lo = p.lo ∧ z.txt = txtOf (cutOf R.ns p) := by
  have h1 : see R.ns (k, p) ∈ vSees l := by rw [hv]; exact List.mem_map_of_mem (List.mem_append_left _ hm)
  obtain ⟨y, hy, e⟩ := List.mem_map.mp h1
  injection e with e1 e2
  injection e2 with e2 e3
  obtain ⟨k', z⟩ := y
  have e1 : k' = k := e1
  subst e1
  exact ⟨z, hy, lookV_of_mem (view_keys v) hy, e2, e3⟩
theorem view_none {l : List (Str × Vw)} {R : Rm} (hv : vSees l = (Ents R).map (see R.ns)) {k : Str} (hk : k.cps.size = 1) (hn : lookP R.held k = none) : lookV l k = none := by
  unfold lookV
  rw [Option.map_eq_none_iff, List.find?_eq_none]
  intro y hy e
  have e : y.1 = k := of_decide_eq_true e
  have h1 : (y.1, y.2.lo, y.2.txt) ∈ (Ents R).map (see R.ns) := by rw [← hv]; exact List.mem_map_of_mem (f := fun x : Str × Vw => (x.1, x.2.lo, x.2.txt)) hy
  obtain ⟨en, hen, q⟩ := List.mem_map.mp h1
  have q1 : en.1 = k := (congrArg Prod.fst q).trans e
  rcases List.mem_append.mp hen with hen | hen
  · unfold lookP at hn
    rw [Option.map_eq_none_iff, List.find?_eq_none] at hn
    exact hn en hen (decide_eq_true q1)
  · obtain ⟨z, _, rfl⟩ := List.mem_map.mp hen
    rw [← q1] at hk
    simp [wName] at hk
theorem stored_has {l : List (Str × Pl)} {k : Str} {p : Pl} (hn : (l.map (·.1)).Nodup) : (k, p) ∈ storedP l k p := (storedP_filter k p l hn).mem_iff.mpr (.head _)
theorem stored_keeps {l : List (Str × Pl)} {k k' : Str} {p p' : Pl} (hn : (l.map (·.1)).Nodup) (h : (k', p') ∈ l) (hk : k' ≠ k) : (k', p') ∈ storedP l k p := (storedP_filter k p l hn).mem_iff.mpr (.tail _ (List.mem_filter.mpr ⟨h, by simpa using hk⟩))
theorem tups_cmp {prog : Program} {w : World} {A : Around} {E : Value → Shared → Prop} {s : Shared} {Q : Value → Shared → Prop} {T T' : Addr} {lo : Int} {tx : Str} {u0 u1 w0 w1 : Tok} (hu : A.units < cLine) (h1 : s.heap.get? T = some { cls := .type "tuple", data := .seq #[.int lo u0, .str tx u1] }) (h2 : s.heap.get? T' = some { cls := .type "tuple", data := .seq #[.int lo w0, .str tx w1] })
    (h : Q (.bool true) s) : wpAny (model prog w) A (compareOp .Eq (.ref T) (.ref T')) Q E s := by
  refine SeqAt.eq_tupleAt (e := fun _ => true) ⟨_, h1, rfl, _, rfl⟩ ⟨_, h2, rfl, _, rfl⟩ hu (fun j a b => ?_) h
  have hj : j = 0 ∨ j = 1 := by simp at a; omega
  rcases hj with rfl | rfl
  · have := SeqAt.EqAt.int_int (A := A.in1) (s := s) lo u0 lo w0
    rw [show (lo == lo) = true by simp] at this
    exact this
  · have := SeqAt.EqAt.str_str (A := A.in1) (s := s) tx u1 tx w1
    rw [show (tx == tx) = true by simp] at this
    exact this
section
variable {w : World} {A : Around} {s : Shared} {H : Heap} {Q E : Value → Shared → Prop} {R : Rm}
/-- view.get(k, (0, ''))[1] -/
theorem get_view {D DL : Addr} {l : List (Str × Vw)} {k : Str} {T0 : Addr} {u0 u1 : Tok} {h1 : Heap} (v : ViewAt w h1 D DL l) (hv : vSees l = (Ents R).map (see R.ns)) (hk : k.cps.size = 1) {h : Heap}
    (kp : ∀ z, (z = D ∨ ∃ y ∈ l, z = y.2.a) → ∀ o, h1.get? z = some o → h.get? z = some o) (hT : h.get? T0 = some { cls := .type "tuple", data := .seq #[.int 0 u0, .str (Str.ofString "") u1] }) (l2 : Addr) :
    ∃ T lo w0 w1, (valueAt (vOf l) k).getD (.ref T0) = .ref T ∧ h.get? T = some { cls := .type "tuple", data := .seq #[.int lo w0, .str (txtOf (cutOf R.ns ((lookP R.held k).getD ⟨l2, R.size, 0⟩))) w1] } := by
  cases e : lookP R.held k with
  | none =>
    refine ⟨T0, 0, u0, u1, ?_, ?_⟩
    · rw [valueAt_v, view_none hv hk e]; rfl
    · rw [hT]; rfl
  | some p =>
    obtain ⟨z, hz, hl, _, ht⟩ := view_some v hv (lookP_mem e)
    obtain ⟨w0, w1, hT⟩ := v.tup _ hz
    refine ⟨z.a, z.lo, w0, w1, ?_, ?_⟩
    · rw [valueAt_v, hl]; rfl
    · rw [kp z.a (.inr ⟨_, hz, rfl⟩) _ hT, ht]; rfl

theorem law_still_right_c (c : Ctx 8 w A H s) (x : RoomW w H s.heap R) (K : Okay R) (hk : R.held.length ≤ 20) (hw : R.wait.length ≤ 3) (hmw : R.mw = 5) (hf : 2 ≤ R.free)
    (hQ : ∀ h' tk n hd, Kept R.fix s.heap h' → Grew R (R.up (R.free - 2) n hd R.wait R.col) s.heap.objs.size → RoomW w H h' (R.up (R.free - 2) n hd R.wait R.col) → Okay (R.up (R.free - 2) n hd R.wait R.col) → hd.length ≤ R.held.length + 3 → Q (.bool true) { s with heap := h', toks := tk }) :
    wpAny (model PR w) A (call (.ref 205) [.ref R.r]) Q E s := by
  refine' enter c ?k6 ?k7 ?k9 ?kB ?_ ?c5 ?c2 ?c3 ?c4
  ktr_unf
  intro hh1 tk b
  have hL : s.heap.objs.size ∉ R.adr := fun q => Nat.lt_irrefl _ (x.at_.lt _ q)
  have hHs : H.objs.size ≤ s.heap.objs.size := Nat.le_of_lt (Nat.lt_of_le_of_lt (x.new _ R.m_r) (x.at_.lt _ R.m_r))
  have hfixm : ∀ a ∈ R.fix, a ∈ R.adr := fun a ha => List.mem_append_left _ ha
  have hfix : ∀ a ∈ R.fix, (a ∈ R.fix ∨ s.heap.objs.size ≤ a) ∧ a ≠ s.heap.objs.size ∧ H.get? a = none := fun a ha => ⟨.inl ha, fun q => hL (q ▸ hfixm a ha), x.none a (hfixm a ha)⟩
  have hfixlt : ∀ a ∈ R.fix, a < s.heap.objs.size := fun a ha => x.at_.lt a (hfixm a ha)
  have x1 := x.kept b.kp (by simp)
  have bm := b.mono (S' := R.fix) (by simp)
  refine bm.seg0 c fun g rest p loose mean mg mb G F' N' T' X' => ?_
  have I := G.old _ _ (fun q => hL (q ▸ R.m_r)) (by simp) x1.at_.inst
  refine x1.at_.dictK fun k t0 t1 t2 t3 t4 nd hd => ?_
  have D := G.old _ _ (fun q => hL (q ▸ R.m_dx)) (by simp) hd
  obtain ⟨vo, eo, hvo, hio⟩ := x1.at_.oct
  have KO := G.old _ _ (fun q => hL (q ▸ R.m_ao)) (by simp) hvo
  have hvl := hio.length
  have hh : A.handled = none := c.ok.hd
  try dsimp only
  k_steps
  refine ⟨?_⟩
  rename Fr _ _ _ _ => F1
  rename News _ _ _ _ => N1
  refine list_copyK (items := List.toArray vo) F1 N1 (list_k F1 N1 KO (by ktr_rel)) (fun D3 c3 h3 F2 N2 l2 => ?_) (by rw [List.size_toArray, hvl, sizeLine_eq]; have := K.oct.few; omega)
  have hD3 := (N2 _ (.head _)).1
  have hnD3 : D3 ≠ s.heap.objs.size := (N2 _ (.head _)).2.1
  have hD3n := new_apart x1 G N2 (by ktr_rel) l2 hL (by simp)
  clear F1 N1
  k_steps
  rename Fr _ _ _ _ => F1
  rename News _ _ _ _ => N1
  have b1 := bm.after G F1 N1 (by ktr_rel) (by simp)
  have x3 := x1.seg G F1 N1 (by ktr_rel) hL (by simp)
  refine law_view_c ((c.deeper _ b1.st).le (by decide)) x3 (by omega) hw K.oct K.pl (by obtain ⟨ds, F⟩ := K.fine; exact F.wNames) fun h4 tk4 D0 l0 kp4 v0 hv0 => ?_
  rw [sees_eq] at hv0
  have b4 := b1.call kp4 (by simp)
  have x4 := x3.stay kp4.stays
  have hD3 := kp4.stays _ _ hD3
  have hz0 : ∀ z, (z = D0 ∨ ∃ y ∈ l0, z = y.2.a) → s.heap.objs.size < z := fun z hz => by
    rcases hz with rfl | ⟨y, hy, rfl⟩
    · exact Nat.lt_trans b1.ns.lt v0.newD
    · exact Nat.lt_trans b1.ns.lt (v0.new y hy).1
  clear F1 N1 X' T' G I D hd KO x1 x3
  refine b4.seg0 c fun g rest p loose mean mg mb G F' N' T' X' => ?_
  have KD3 := G.old _ _ hnD3 (by simp) hD3
  k_steps
  rename Fr _ _ _ _ => F1
  rename News _ _ _ _ => N1
  have b5 := b4.after G F1 N1 (by ktr_rel) (by simp)
  have x5 := x4.seg G F1 N1 (by ktr_rel) hL (by simp)
  have hD3 := KD3.now F1 N1 (by ktr_rel)
  have v05 := v0.keep fun z hz o e => G.stay F1 N1 (by ktr_rel) z o (Nat.ne_of_gt (hz0 z hz)) (by simp) e
  have nP : (Str.ofString "P").cps.size = 1 := by decide +kernel
  have nQ : (Str.ofString "Q").cps.size = 1 := by decide +kernel
  have nPQ : Str.ofString "P" ≠ Str.ofString "Q" := by decide +kernel
  refine swap_ok (a := Str.ofString "P") (b := Str.ofString "Q") nPQ ((c.deeper _ b5.st).le (by decide)) x5 K nP nQ (by omega) fun h6 tk6 hd1 a1 a2 kp6 g6 x6 K6 hlen6 hhd => ?_
  have hfar : ∀ z, s.heap.objs.size ≤ z → z ∉ R.fix := fun z hz q => Nat.not_lt.mpr hz (hfixlt z q)
  have b6 := b5.call kp6 hfix
  have hD3 := kp6 _ _ (fun q => hD3n _ (hfixm _ q) rfl) hD3
  have v06 := v05.keep fun z hz o e => kp6 z o (hfar z (Nat.le_of_lt (hz0 z hz))) e
  have hL6 : s.heap.objs.size ∉ (R.up R.free R.ns hd1 R.wait R.col).adr := fun q => (g6 _ q).elim hL fun z => Nat.not_lt.mpr z b5.ns.lt
  have G6 : Grew R (R.up R.free R.ns hd1 R.wait R.col) s.heap.objs.size := fun a ha => (g6 a ha).imp id fun z => Nat.le_trans (Nat.le_of_lt b5.ns.lt) z
  clear F1 N1 X' T' G b4 b5 x4 x5 v05 KD3
  refine b6.seg0 c fun g rest p loose mean mg mb G F' N' T' X' => ?_
  k_steps
  rename Fr _ _ _ _ => F1
  rename News _ _ _ _ => N1
  have b7 := b6.after G F1 N1 (by ktr_rel) (by simp)
  have x7 := x6.seg G F1 N1 (by ktr_rel) hL6 (by simp)
  have hD3 := G.stay F1 N1 (by ktr_rel) _ _ hnD3 (by simp) hD3
  have v07 := v06.keep fun z hz o e => G.stay F1 N1 (by ktr_rel) z o (Nat.ne_of_gt (hz0 z hz)) (by simp) e
  refine law_view_c (R := R.up R.free R.ns hd1 R.wait R.col) ((c.deeper _ b7.st).le (by decide)) x7 (by show hd1.length < 1000; omega) hw K6.oct K6.pl (by obtain ⟨ds, F⟩ := K6.fine; exact F.wNames) fun h8 tk8 D1 l1 kp8 v1 hv1 => ?_
  rw [sees_eq] at hv1
  have b8 := b7.call kp8 (by simp)
  have x8 := x7.stay kp8.stays
  have hD3 := kp8.stays _ _ hD3
  have v08 := v07.keep fun z hz o e => kp8.stays z o e
  have hz1 : ∀ z, (z = D1 ∨ ∃ y ∈ l1, z = y.2.a) → s.heap.objs.size < z := fun z hz => by
    rcases hz with rfl | ⟨y, hy, rfl⟩
    · exact Nat.lt_trans b7.ns.lt v1.newD
    · exact Nat.lt_trans b7.ns.lt (v1.new y hy).1
  clear F1 N1 X' T' G b6 b7 x6 x7 v06 v07
  refine b8.seg0 c fun g rest p loose mean mg mb G F' N' T' X' => ?_
  have I := G.old _ _ (fun q => hL (q ▸ R.m_r)) (by simp) x8.at_.inst
  refine x8.at_.dictK fun k t0 t1 t2 t3 t4 nd hd => ?_
  have D := G.old _ _ (fun q => hL (q ▸ R.m_dx)) (by simp) hd
  obtain ⟨vo2, eo2, hvo2, hio2⟩ := x8.at_.oct
  have KO := G.old _ _ (fun q => hL (q ▸ R.m_ao)) (by simp) hvo2
  have KD3 := G.old _ _ hnD3 (by simp) hD3
  have hHD : ∀ z, s.heap.objs.size < z → H.objs.size ≤ z := fun z hz => Nat.le_trans hHs (Nat.le_of_lt hz)
  obtain ⟨o0, hod0, hdo0⟩ := Heap.dictOf_iff.mp v08.dict
  obtain ⟨o1, hod1, hdo1⟩ := Heap.dictOf_iff.mp v1.dict
  have KD0 := G.old _ _ (Nat.ne_of_gt (hz0 _ (.inl rfl))) (by simp) hod0
  have KD1 := G.old _ _ (Nat.ne_of_gt (hz1 _ (.inl rfl))) (by simp) hod1
  k_steps
  refine ⟨?_⟩
  rename Fr _ _ _ _ => F1
  rename News _ _ _ _ => N1
  have units : A.units + 3 + 64 < cLine := by have := c.ok.units; omega
  refine PySem.W.ke_ne_ints (ns := R.ns) (ms := R.ns) (list_k F1 N1 KO (by ktr_rel)) (list_k F1 N1 KD3 (by ktr_rel)) hio2 hio units ?_
  rw [decide_eq_true rfl]
  k_steps
  have kk := x.keys
  generalize hXp : (lookP R.held (Str.ofString "Q")).getD ⟨a2, R.size, 0⟩ = Xp at hhd
  generalize hYp : (lookP R.held (Str.ofString "P")).getD ⟨a1, R.size, 0⟩ = Yp at hhd
  have hmP : (Str.ofString "P", Xp) ∈ hd1 := by rw [hhd]; exact stored_keeps (storedP_nodup kk) (stored_has kk) nPQ
  have hmQ : (Str.ofString "Q", Yp) ∈ hd1 := by rw [hhd]; exact stored_has (storedP_nodup kk)
  obtain ⟨zP, hzP, lkP, _, txP⟩ := view_some (R := R.up R.free R.ns hd1 R.wait R.col) v1 hv1 hmP
  obtain ⟨zQ, hzQ, lkQ, _, txQ⟩ := view_some (R := R.up R.free R.ns hd1 R.wait R.col) v1 hv1 hmQ
  have txP : zP.txt = txtOf (cutOf R.ns Xp) := txP
  have txQ : zQ.txt = txtOf (cutOf R.ns Yp) := txQ
  obtain ⟨c0, c1, hTP⟩ := v1.tup _ hzP
  obtain ⟨c2, c3', hTQ⟩ := v1.tup _ hzQ
  have KTP := G.old _ _ (Nat.ne_of_gt (hz1 _ (.inr ⟨_, hzP, rfl⟩))) (by simp) hTP
  have KTQ := G.old _ _ (Nat.ne_of_gt (hz1 _ (.inr ⟨_, hzQ, rfl⟩))) (by simp) hTQ
  refine sub_view (Heap.dictOf_iff.mpr ⟨o1, KD1.now F1 N1 (by ktr_rel), hdo1⟩) lkP ?_ ?_ ?_
  rotate_left
  · with_unfolding_all rfl
  · intro _; with_unfolding_all rfl
  k_steps
  refine sub_tup (its := #[.int zP.lo c0, .str zP.txt c1]) ⟨_, KTP.now (by assumption) (by assumption) (by ktr_rel), rfl, _, rfl⟩ (by decide) (by decide) (by show (1 : Int) < 2; decide) (v := .str zP.txt c1) rfl ?_ (by with_unfolding_all rfl)
  obtain ⟨sP, hsP⟩ : ∃ sP, sP = txtOf (cutOf R.ns Xp) := ⟨_, rfl⟩
  rw [txP, ← hsP]
  k_steps
  rename Fr _ _ _ _ => F2
  rename News _ _ _ _ => N2
  have hDO := Heap.dictOf_iff.mpr ⟨o0, KD0.now F2 N2 (by ktr_rel), hdo0⟩
  refine getMethod_builtin hDO.typeIs PySem.F.plainAttrs_dict PySem.F.slot_dict_get PySem.F.type_dict_get hDO.mapOf.noDict ?_
  k_steps
  rename Fr _ _ _ _ => F3
  rename News _ _ _ _ => N3
  refine get2_led (o := o0) (KD0.now F3 N3 (by ktr_rel)) hdo0 (sys_ne c.big (hHD _ (hz0 _ (.inl rfl)))) ?_
  obtain ⟨T, lo, y0, y1, e1, e2⟩ := get_view (R := R) v08 hv0 nQ (fun z hz o e => G.stay F3 N3 (by ktr_rel) z o (Nat.ne_of_gt (hz0 z hz)) (by simp) e) (N3 _ (.head _)).1 a2
  rw [hXp, ← hsP] at e2
  rw [e1]
  k_steps
  refine sub_tup ⟨_, e2, rfl, _, rfl⟩ (by decide) (by decide) (by show (1 : Int) < 2; decide) (v := .str sP y1) rfl ?_ (by with_unfolding_all rfl)
  k_steps
  · exfalso; rename_i hne; first | exact hne rfl | simp at hne
  rename Fr _ _ _ _ => F4
  rename News _ _ _ _ => N4
  refine sub_view (Heap.dictOf_iff.mpr ⟨o1, KD1.now F4 N4 (by ktr_rel), hdo1⟩) lkQ ?_ ?_ ?_
  rotate_left
  · with_unfolding_all rfl
  · intro _; with_unfolding_all rfl
  k_steps
  refine sub_tup (its := #[.int zQ.lo c2, .str zQ.txt c3']) ⟨_, KTQ.now (by assumption) (by assumption) (by ktr_rel), rfl, _, rfl⟩ (by decide) (by decide) (by show (1 : Int) < 2; decide) (v := .str zQ.txt c3') rfl ?_ (by with_unfolding_all rfl)
  obtain ⟨sQ, hsQ⟩ : ∃ sQ, sQ = txtOf (cutOf R.ns Yp) := ⟨_, rfl⟩
  rw [txQ, ← hsQ]
  k_steps
  rename Fr _ _ _ _ => F5
  rename News _ _ _ _ => N5
  have hDO2 := Heap.dictOf_iff.mpr ⟨o0, KD0.now F5 N5 (by ktr_rel), hdo0⟩
  refine getMethod_builtin hDO2.typeIs PySem.F.plainAttrs_dict PySem.F.slot_dict_get PySem.F.type_dict_get hDO2.mapOf.noDict ?_
  k_steps
  rename Fr _ _ _ _ => F6
  rename News _ _ _ _ => N6
  refine get2_led (o := o0) (KD0.now F6 N6 (by ktr_rel)) hdo0 (sys_ne c.big (hHD _ (hz0 _ (.inl rfl)))) ?_
  obtain ⟨T2, lo2, y2, y3, e3, e4⟩ := get_view (R := R) v08 hv0 nP (fun z hz o e => G.stay F6 N6 (by ktr_rel) z o (Nat.ne_of_gt (hz0 z hz)) (by simp) e) (N6 _ (.head _)).1 a1
  rw [hYp, ← hsQ] at e4
  rw [e3]
  k_steps
  refine sub_tup ⟨_, e4, rfl, _, rfl⟩ (by decide) (by decide) (by show (1 : Int) < 2; decide) (v := .str sQ y3) rfl ?_ (by with_unfolding_all rfl)
  k_steps
  · exfalso; rename_i hne; first | exact hne rfl | simp at hne
  rename Fr _ _ _ _ => F7
  rename News _ _ _ _ => N7
  have b9 := b8.after G F7 N7 (fun q hq => .tail _ (.tail _ hq)) (by simp)
  have x9 := x8.seg G F7 N7 (fun q hq => .tail _ (.tail _ hq)) hL6 (by simp)
  refine push_ok (R := R.up R.free R.ns hd1 R.wait R.col) (z := Str.ofString "mn") ((c.deeper _ b9.st).le (by decide)) x9 K6 (by decide +kernel) (by decide +kernel) (by show (2 : Int) ≤ R.free; omega) (by show (R.wait.length : Int) < R.mw; omega) (by show R.mw < 1000; omega)
    fun h10 tk10 f2 n2 p2 kp10 g10 x10 K10 d1 d2 d3 d4 _ => ?_
  have d1 : f2 = R.free - 2 := d1
  subst d1
  have x10 : RoomW w H h10 (R.up (R.free - 2) n2 hd1 (R.wait ++ [p2]) R.col) := x10
  have K10 : Okay (R.up (R.free - 2) n2 hd1 (R.wait ++ [p2]) R.col) := K10
  have b10 := b9.call kp10 hfix
  have hL10 : s.heap.objs.size ∉ (R.up (R.free - 2) n2 hd1 (R.wait ++ [p2]) R.col).adr := fun q => (g10 _ q).elim hL6 fun z => Nat.not_lt.mpr z b9.ns.lt
  have G10 : Grew R (R.up (R.free - 2) n2 hd1 (R.wait ++ [p2]) R.col) s.heap.objs.size := fun a ha => (g10 a ha).elim (G6 a) fun z => .inr (Nat.le_trans (Nat.le_of_lt b9.ns.lt) z)
  clear F7 N7 X' T' b8 b9 x8 x9 I D hd KO KD0 KD1 KTP KTQ KD3
  refine b10.seg0 c fun g rest p loose mean mg mb G F' N' T' X' => ?_
  have I := G.old _ _ (fun q => hL (q ▸ R.m_r)) (by simp) x10.at_.inst
  refine x10.at_.dictK fun k t0 t1 t2 t3 t4 nd hd => ?_
  have hd : h10.get? R.dx = some (dictOf (roomD w.params k (.int R.size t0) (.int R.low t1) (.int (R.free - 2) t2) (.int R.mw t3) (.int R.col t4) R.ao R.ah R.aw) nd) := hd
  have D := G.old _ _ (fun q => hL (q ▸ R.m_dx)) (by simp) hd
  obtain ⟨v3, e3', hv3, hi3⟩ := x10.at_.oct
  have hi3 : IntsAre v3 n2 := hi3
  have KO := G.old _ _ (fun q => hL (q ▸ R.m_ao)) (by simp) hv3
  k_steps
  refine ⟨?_⟩
  rename Fr _ _ _ _ => F1
  rename News _ _ _ _ => N1
  have hvl3 := hi3.length
  have hn2 : n2.length < 1000 := K10.oct.few
  refine list_copyK (items := List.toArray v3) F1 N1 (list_k F1 N1 KO (by ktr_rel)) (fun D5 c5 h5 F2 N2 l5 => ?_) (by rw [List.size_toArray, hvl3, sizeLine_eq]; omega)
  have hD5n := new_apart x10 G N2 (by ktr_rel) l5 hL10 (by simp)
  have hnD5 : D5 ≠ s.heap.objs.size := (N2 _ (.head _)).2.1
  clear F1 N1
  k_steps
  rename Fr _ _ _ _ => F1
  rename News _ _ _ _ => N1
  have b11 := b10.after G F1 N1 (by ktr_rel) (by simp)
  have x11 := x10.seg G F1 N1 (by ktr_rel) hL10 (by simp)
  have hD5 := (N1 _ (.tail _ (.head _))).1
  have nT : (Str.ofString "T").cps.size = 1 := by decide +kernel
  refine keep_ok (R := R.up (R.free - 2) n2 hd1 (R.wait ++ [p2]) R.col) (nm := Str.ofString "T") (wt := R.wait) (pl := p2) ((c.deeper _ b11.st).le (by decide)) x11 K10 nT (by show hd1.length < 1000; omega) rfl (by show (R.wait ++ [p2]).length < 1000; simp; omega) fun h12 tk12 kp12 g12 x12 K12 hl12 => ?_
  have x12 : RoomW w H h12 (R.up (R.free - 2) n2 (storedP hd1 (Str.ofString "T") p2) R.wait R.col) := x12
  have K12 : Okay (R.up (R.free - 2) n2 (storedP hd1 (Str.ofString "T") p2) R.wait R.col) := K12
  have hl12 : (storedP hd1 (Str.ofString "T") p2).length ≤ hd1.length + 1 := hl12
  have hmT : (Str.ofString "T", p2) ∈ storedP hd1 (Str.ofString "T") p2 := stored_has x11.keys
  generalize storedP hd1 (Str.ofString "T") p2 = hd3 at x12 K12 hl12 g12 hmT
  have b12 := b11.call kp12 hfix
  have hD5 := kp12 _ _ (fun q => hD5n _ (List.mem_append_left _ q) rfl) hD5
  have hL12 : s.heap.objs.size ∉ (R.up (R.free - 2) n2 hd3 R.wait R.col).adr := fun q => (g12 _ q).elim hL10 fun z => Nat.not_lt.mpr z b11.ns.lt
  have G12 : Grew R (R.up (R.free - 2) n2 hd3 R.wait R.col) s.heap.objs.size := fun a ha => (g12 a ha).elim (G10 a) fun z => .inr (Nat.le_trans (Nat.le_of_lt b11.ns.lt) z)
  clear F1 N1 X' T' b10 b11 x10 x11 I D hd KO
  refine b12.seg0 c fun g rest p loose mean mg mb G F' N' T' X' => ?_
  have I := G.old _ _ (fun q => hL (q ▸ R.m_r)) (by simp) x12.at_.inst
  refine x12.at_.dictK fun k t0 t1 t2 t3 t4 nd hd => ?_
  have hd : h12.get? R.dx = some (dictOf (roomD w.params k (.int R.size t0) (.int R.low t1) (.int (R.free - 2) t2) (.int R.mw t3) (.int R.col t4) R.ao R.ah R.aw) nd) := hd
  have D := G.old _ _ (fun q => hL (q ▸ R.m_dx)) (by simp) hd
  obtain ⟨v4, e4', hv4, hi4⟩ := x12.at_.oct
  have hi4 : IntsAre v4 n2 := hi4
  have KO := G.old _ _ (fun q => hL (q ▸ R.m_ao)) (by simp) hv4
  have KD5 := G.old _ _ hnD5 (by simp) hD5
  k_steps
  refine ⟨?_⟩
  rename Fr _ _ _ _ => F1
  rename News _ _ _ _ => N1
  refine PySem.W.ke_eq_ints (ns := n2) (ms := n2) (list_k F1 N1 KO (by ktr_rel)) (list_k F1 N1 KD5 (by ktr_rel)) hi4 hi3 units ?_
  rw [decide_eq_true rfl]
  k_steps
  rotate_left
  · exfalso; rename_i hne; simp at hne
  rename Fr _ _ _ _ => F2
  rename News _ _ _ _ => N2
  have b13 := b12.after G F2 N2 (by ktr_rel) (by simp)
  have x13 := x12.seg G F2 N2 (by ktr_rel) hL12 (by simp)
  refine law_view_c (R := R.up (R.free - 2) n2 hd3 R.wait R.col) ((c.deeper _ b13.st).le (by decide)) x13 (by show hd3.length < 1000; omega) hw K12.oct K12.pl (by obtain ⟨ds, F⟩ := K12.fine; exact F.wNames) fun h14 tk14 D6 l6 kp14 v6 hv6 => ?_
  rw [sees_eq] at hv6
  have b14 := b13.call kp14 (by simp)
  have x14 := x13.stay kp14.stays
  have hz6 : ∀ z, (z = D6 ∨ ∃ y ∈ l6, z = y.2.a) → s.heap.objs.size < z := fun z hz => by
    rcases hz with rfl | ⟨y, hy, rfl⟩
    · exact Nat.lt_trans b13.ns.lt v6.newD
    · exact Nat.lt_trans b13.ns.lt (v6.new y hy).1
  obtain ⟨zT, hzT, lkT, loT, txT⟩ := view_some (R := R.up (R.free - 2) n2 hd3 R.wait R.col) v6 hv6 hmT
  have txT : zT.txt = Str.ofString "mn" := txT.trans d4
  have loT : zT.lo = R.free - 2 := loT.trans d2
  obtain ⟨j0, j1, hTT⟩ := v6.tup _ hzT
  clear F2 N2 X' T' b12 b13 x12 x13 I D hd KO KD5
  refine b14.seg0 c fun g rest p loose mean mg mb G F' N' T' X' => ?_
  obtain ⟨o6, hod6, hdo6⟩ := Heap.dictOf_iff.mp v6.dict
  have KD6 := G.old _ _ (Nat.ne_of_gt (hz6 _ (.inl rfl))) (by simp) hod6
  have KT6 := G.old _ _ (Nat.ne_of_gt (hz6 _ (.inr ⟨_, hzT, rfl⟩))) (by simp) hTT
  k_steps
  rename Fr _ _ _ _ => F1
  rename News _ _ _ _ => N1
  refine sub_view (Heap.dictOf_iff.mpr ⟨o6, KD6.now F1 N1 (by ktr_rel), hdo6⟩) lkT ?_ ?_ ?_
  rotate_left
  · with_unfolding_all rfl
  · intro _; with_unfolding_all rfl
  k_steps
  refine ⟨?_⟩
  rename Fr _ _ _ _ => F2
  rename News _ _ _ _ => N2
  refine tups_cmp (lo := R.free - 2) (tx := Str.ofString "mn") (u0 := j0) (u1 := j1) (by show A.units + 3 < cLine; omega) ?_ (N2 _ (.head _)).1 ?_
  · have := KT6.now F2 N2 (by ktr_rel)
    rw [loT, txT] at this
    exact this
  k_steps
  try dsimp only
  have b15 := b14.after G F2 N2 (by ktr_rel) (by simp)
  exact hQ _ _ n2 hd3 b15.kp G12 (x14.seg G F2 N2 (by ktr_rel) hL12 (by simp)) K12 (by omega)
end
end Mine
end
section
namespace Mine
theorem slice_upto {prog : Program} {w : World} {A : Around} {E : Value → Shared → Prop} {s : Shared} {g : Heap} {L l : Addr} {m : Str → Option Value} {news : List (Addr × Obj)} {value slice : PySem.Expr} {vs : List Value} {ns : List Int} {y : Int} {t : Tok} {Q : Value → Shared → Prop}
    (F : Fr g L s.heap m) (N : News g L s.heap news) (hl : s.heap.IsList l vs.toArray) (hi : IntsAre vs ns) (h0 : 0 ≤ y) (hz : vs.length ≤ sizeLine)
    (h : ∀ D ws h', Fr g L h' m → News g L h' ((D, listOf (List.toArray ws) 0) :: news) → (∀ p ∈ news, p.1 < D) → L < D → IntsAre ws (ns.take y.toNat) → Q (.ref D) { s with heap := h' })
    (hs : subscripted slice false (.ref l) (.ref s.heap.objs.size) = operate [.ref s.heap.objs.size, .ref l] (getItem (.ref l) (.ref s.heap.objs.size))) (ht : ∀ r, letTemporaryGo value (.ref l) r = pure ()) :
    wpAny (model prog w) A (subscriptTail value slice (.ref l) (.ref s.heap.objs.size)) Q E { s with heap := s.heap.push { cls := .type "slice", data := .fields #[.none, .int y t, .none] } } := by
  refine slice_list3 F N hl .none (.int y t) .none (by decide) (fun h' F' N' => h _ (slicePick vs.toArray none (some y) none).toList h' F' ?_ (fun p hp => Nat.lt_succ_of_lt (Heap.lt_size (N p hp).1)) (Nat.lt_succ_of_lt F.ns.lt) (slice_ints_uptoW hi h0)) hs ht (by rw [List.size_toArray]; exact hz)
  rw [Array.toArray_toList]
  exact N'
end Mine
namespace Mine
section
variable {w : World} {A : Around} {s : Shared} {H : Heap} {Q E : Value → Shared → Prop} {R : Rm}

theorem law_stream_c {a : Addr} {vs : List Value} {ns : List Int} (c : Ctx 3 w A H s) (hl : s.heap.IsList a vs.toArray) (hi : IntsAre vs ns) (h63 : ns.length ≤ 63)
    (hQ : ∀ h' tk l nl, Kept [] s.heap h' → StW h' l nl → s.heap.objs.size ≤ l → s.heap.objs.size ≤ nl → Q (.ref l) { s with heap := h', toks := tk }) :
    wpAny (model PR w) A (call (.ref 167) [.ref a]) Q E s := by
  refine' enter c ?k6 ?k7 ?k9 ?kB ?_ ?c5 ?c2 ?c3 ?c4
  ktr_unf
  intro hh1 tk b
  have hlt : a < s.heap.objs.size := by obtain ⟨_, e, _⟩ := hl; exact Heap.lt_size e
  obtain ⟨o, ho, hcl, nn, hd⟩ := hl
  refine b.seg0 c fun g rest p loose mean mg mb G F' N' T' X' => ?_
  have KL := G.old _ _ (Nat.ne_of_lt hlt) (by simp) (b.kp _ _ (by simp) ho)
  have hlen := hi.length
  try dsimp only
  k_steps
  refine ⟨?_⟩
  refine' assign_comp_h ?hsw ?hclos ?hcell ?hkind ?hnames ?hx ?hy ?hp ?h ?hs
  case hsw => with_unfolding_all rfl
  case hclos => with_unfolding_all rfl
  case hcell => decide
  case hkind => with_unfolding_all rfl
  case hnames => decide
  case hx => with_unfolding_all rfl
  case hy => with_unfolding_all rfl
  case hp => with_unfolding_all rfl
  case hs => intro _; with_unfolding_all rfl
  k_steps
  rename Fr _ _ _ _ => F1
  rename News _ _ _ _ => N1
  have hT0 := KL.now F1 N1 (by ktr_rel)
  trace_state
  refine slice_upto F1 N1 ⟨o, hT0, hcl, nn, hd⟩ hi (by decide) (by rw [hlen, sizeLine_eq]; omega) (fun D ws h2 F2 N2 l2 hLD hws => ?_) (by with_unfolding_all rfl) (by intro _; with_unfolding_all rfl)
  have hwl := hws.length
  have htk : (ns.take (50 : Int).toNat).length ≤ 63 := Nat.le_trans (List.length_take_le _ _) (by decide)
  refine comp_listS (fun _ => true) (fun _ _ v y => ∃ n t u, v = .int n t ∧ y = .int (if n < 0 then -n else n) u) rfl (c.ok.deeper _).hd F2 N2 ⟨_, (N2 _ (.head _)).1, rfl, _, rfl⟩ (by rw [List.size_toArray, sizeLine_eq]; omega) ⟨?_, ?_, ?_⟩ ?_
  · intro C h h' v y q k; exact q
  · intro C i v s₃ m₃ hP F₃ N₃ hm _
    exact wpAny_pure ⟨rfl, _, _, rfl, fun _ _ e => e⟩
  · intro C i v s₃ m₃ hP _ F₃ N₃ hm _
    obtain ⟨n, t, hn1, rfl⟩ := ints_at hws (show ws[i]? = some v by simpa using hP)
    obtain ⟨h₃, _, _, _, _⟩ := s₃
    k_steps
    exact ⟨_, _, rfl, fun _ _ e => e⟩
  · intro D2 C ys e2 h3 tk3 hDC hLD2 hlt F3 N3 hP
    have hms : ∀ (ws : List Value) (ms : List Int) (zs : List Value), IntsAre ws ms → Paired (fun v y => ∃ n t u, v = .int n t ∧ y = .int (if n < 0 then -n else n) u) ws zs → IntsAre zs (ms.map fun n => if n < 0 then -n else n) := by
      intro ws ms zs h1 h2
      induction h2 generalizing ms with
      | nil => cases h1; exact .nil
      | cons a _ ih =>
        cases h1 with
        | cons n t r =>
          obtain ⟨n', t', u, e1, rfl⟩ := a
          cases e1
          exact .cons _ u (ih _ r)
    have e : List.filter (fun _ => true) (List.toArray ws).toList = ws := List.filter_eq_self.mpr fun _ _ => rfl
    rw [e] at hP
    have hys := hms ws _ ys.toList hws hP
    generalize hmm : (ns.take (50 : Int).toNat).map (fun n => if n < 0 then -n else n) = mm at hys
    have hml : mm.length ≤ 63 := by rw [← hmm, List.length_map]; exact htk
    obtain ⟨yl, rfl⟩ : ∃ yl : List Value, ys = yl.toArray := ⟨ys.toList, by simp⟩
    have hys : IntsAre yl mm := hys
    k_steps
    rename Fr _ _ _ _ => F4
    rename News _ _ _ _ => N4
    refine sumK (c.ok.deeper _).hd F4 N4 ⟨_, (N4 _ (.head _)).1, rfl, _, rfl⟩ hys ?_
    intro h' tk' t' F' N'
    k_steps
    try dsimp only
    rename Fr _ _ _ _ => F5
    rename News _ _ _ _ => N5
    rename (∀ p : Addr × Obj, p ∈ (D2, _) :: _ → p.1 < _) => hall
    have hne := hall _ (.head _)
    refine hQ _ _ _ D2 (b.after G F5 N5 (by ktr_rel) (by simp)).kp ⟨Nat.ne_of_lt hne, ⟨_, 0, _, _, _, (N5 _ (.head _)).1, Int.le_refl _⟩, ⟨yl, mm, _, (N5 _ (.tail _ (.head _))).1, hys, hml⟩⟩ (Nat.le_of_lt (Nat.lt_trans hLD2 hne)) (Nat.le_of_lt hLD2)
end
end Mine
end
section
namespace Mine
def k8 (a b c d e f g h : Tok) : Nat → Tok
  | 0 => a | 1 => b | 2 => c | 3 => d | 4 => e | 5 => f | 6 => g | _ => h
theorem zeros_len (n : Nat) : (List.replicate n [(0 : Int)]).flatten.length = n := by simp
theorem zeros_mem {n : Nat} {z : Int} (h : z ∈ (List.replicate n [(0 : Int)]).flatten) : z = 0 := by
  obtain ⟨l, hl, hz⟩ := List.mem_flatten.mp h
  rw [(List.mem_replicate.mp hl).2] at hz
  exact List.mem_singleton.mp hz
def zeros (n : Nat) : List Int := (List.replicate n [(0 : Int)]).flatten
theorem adr_nil {R : Rm} {a : Addr} (h1 : R.held = []) (h2 : R.wait = []) (ha : a ∈ R.adr) : a = R.r ∨ a = R.dx ∨ a = R.ao ∨ a = R.ah ∨ a = R.aw := by
  simpa [Rm.adr, Rm.fix, Rm.pls, h1, h2] using ha
theorem room_make {w : World} {H g3 h' : Heap} {L2 x dx ao ah aw : Addr} {size : Int} {o : Obj} {vs : List Value} {al : Addr × Obj} {a0 a1 a2 a3 a4 a5 a6 a7 t0 t1 t2 t3 t4 : Tok} {nd : Nat} {rest : List (Addr × Obj)}
    (N : News g3 L2 h' ((aw, listOf #[] 0) :: (ah, o) :: (ao, listOf vs.toArray 0) :: al :: (dx, dictOf (roomD w.params (k8 a0 a1 a2 a3 a4 a5 a6 a7) (.int size t0) (.int 0 t1) (.int size t2) (.int 5 t3) (.int 0 t4) ao ah aw) nd) :: rest))
    (hx : h'.get? x = some (instObj 54 dx)) (hi : IntsAre vs (zeros size.toNat)) (hD : o.IsDictOf (PySem.strKind PR w) []) (c0 : H.objs.size ≤ dx) (c1 : dx < x) (c2 : x < ao) (c3 : ao < ah) (c4 : ah < aw) (h0 : 60 ≤ size) (h1 : size < 1000) :
    RoomW w H h' ⟨x, dx, ao, ah, aw, size, 0, size, 5, 0, zeros size.toNat, [], []⟩ ∧ Okay ⟨x, dx, ao, ah, aw, size, 0, size, 5, 0, zeros size.toNat, [], []⟩ := by
  have e1 : (zeros size.toNat).length = size.toNat := zeros_len _
  refine ⟨⟨⟨hx, ⟨k8 a0 a1 a2 a3 a4 a5 a6 a7, t0, t1, t2, t3, t4, nd, (N _ (.tail _ (.tail _ (.tail _ (.tail _ (.head _)))))).1⟩, ⟨vs, 0, (N _ (.tail _ (.tail _ (.head _)))).1, hi⟩, (Heap.dictOf_iff.mpr ⟨o, (N _ (.tail _ (.head _))).1, hD⟩).dictAt, ⟨0, (N _ (.head _)).1⟩, fun p hp => by cases hp⟩, fun a ha => ?_, ?_⟩,
    ⟨⟨by show (zeros size.toNat).length < 1000; omega, fun n hn => by rw [zeros_mem hn]; omega⟩, by show size = _; rw [e1]; omega, rfl, by show 0 ≤ size; omega, Int.le_refl _, fun p hp => by (cases hp), .nil, fun p hp => by (cases hp), fun y hy => by (cases hy)⟩⟩
  · have ha : a ∈ [x, dx, ao, ah, aw] := by simpa [Rm.adr, Rm.fix, Rm.pls] using ha
    simp only [List.mem_cons, List.not_mem_nil, or_false] at ha
    have c1 : (dx : Nat) < x := c1
    have c2 : (x : Nat) < ao := c2
    have c3 : (ao : Nat) < ah := c3
    have c4 : (ah : Nat) < aw := c4
    have c0 : H.objs.size ≤ (dx : Nat) := c0
    rcases ha with rfl | rfl | rfl | rfl | rfl
    · exact Nat.le_trans c0 (Nat.le_of_lt c1)
    · exact c0
    · exact Nat.le_trans c0 (Nat.le_of_lt (Nat.lt_trans c1 c2))
    · exact Nat.le_trans c0 (Nat.le_of_lt (Nat.lt_trans c1 (Nat.lt_trans c2 c3)))
    · exact Nat.le_trans c0 (Nat.le_of_lt (Nat.lt_trans c1 (Nat.lt_trans c2 (Nat.lt_trans c3 c4))))
  · show [x, dx, ao, ah, aw].Nodup
    have d2 := Nat.lt_trans c1 c2
    have d3 := Nat.lt_trans d2 c3
    have d4 := Nat.lt_trans d3 c4
    have f3 := Nat.lt_trans c2 c3
    have f4 := Nat.lt_trans f3 c4
    have g4 := Nat.lt_trans c3 c4
    simp only [List.nodup_cons, List.mem_cons, List.not_mem_nil, or_false, not_or, List.nodup_nil, and_true, not_false_eq_true]
    exact ⟨⟨Nat.ne_of_gt c1, Nat.ne_of_lt c2, Nat.ne_of_lt f3, Nat.ne_of_lt f4⟩, ⟨Nat.ne_of_lt d2, Nat.ne_of_lt d3, Nat.ne_of_lt d4⟩, ⟨Nat.ne_of_lt c3, Nat.ne_of_lt g4⟩, Nat.ne_of_lt c4⟩
theorem OkA.in1 {n : Nat} {A : Around} (h : OkA (n + 1) A) : OkA n A.in1 := ⟨h.hd, by have := h.depth; show A.depth + n < _; omega, by have := h.units; show A.units + 1 + 10 * n < _; omega⟩
theorem OkA.make {n : Nat} {A : Around} {C : Addr} {rest : List Value} (h : OkA (n + 1) A) : OkA n (A.under (.builtin "type.__call__" ⟨.ref C :: rest, []⟩)) :=
  ⟨h.hd, by have := h.depth; rw [depth_under_make]; omega, by have := h.units; show A.units + Code.cUnits (.builtin "type.__call__" ⟨.ref C :: rest, []⟩) + 10 * n < _; rw [show Code.cUnits (.builtin "type.__call__" ⟨.ref C :: rest, []⟩) = 1 from rfl]; omega⟩
section
variable {n : Nat} {prog : Program} {w : World} {A : Around} {s : Shared} {H : Heap}
  {name qual : Str} {params : Arguments} {body : List Stmt} {scope : Scope} {dV kV doc pm cdv ct oc : Value} {an od : Option Addr} {osl : Array (Option Value)} {f : Addr} {binds : List (Str × Value)}
  {R : Result → Shared → Prop} {pos : List Value}
theorem enter_code (c : Ctx n w A H s)
    (ho : (hd.heap_1 w.params).lookup f = some ⟨oc, od, .func (fnOf name qual params body scope dV kV doc pm an cdv ct), osl⟩) (hcd : codeIn (hd.heap_1 w.params) cdv qual = true)
    (hbind : BindsTo s (fnOf name qual params body scope dV kV doc pm an cdv ct) ⟨pos, []⟩ binds) (hloc : ∀ y ∈ binds, scope.names.lookup y.1 = some .local)
    (h : ∀ h₁ tk, Bd H s s.heap.objs.size [] (fun y => binds.reverse.lookup y) h₁ →
      wpAny (model prog w) (A.deeper (envX qual scope s.heap.objs.size f cdv [])) (execs body (envX qual scope s.heap.objs.size f cdv []))
        (fun fl s' => R (.ok (.ret (match fl with | .ret v => v | _ => .none))) s') (fun _ _ => False) { s with heap := h₁, toks := tk })
    (hcell : ∀ x ∈ scope.names, x.2 ≠ .cell) (hco : scope.isCoroutine = false) (hgen : scope.isGenerator = false) (hk : scope.kind = .function) :
    codeAny (model prog w) A (.call (.ref f) ⟨pos, []⟩) R s := by
  obtain ⟨p, loose, mean, mg, mb, T⟩ := c.T
  refine codeAny_call_def (fd := fnX name qual params body scope [] dV kV doc pm an cdv ct) (body := body) (binds := binds) c.ok.room (c.X.keeps c.st _ _ ho) rfl (T.nolimit.keeps c.st) (codeRec_of (c.X.keeps c.st) hcd) rfl hbind hcell hloc (fun h₁ hns hk₁ => ?_) hco hgen hk
  exact wpAny_mono (h h₁ _ ⟨hns, fun b o e => hk₁ b o (c.st b o e), Kept.of hk₁, Nat.le_refl _⟩) (fun fl s' hl => hl) fun _ _ y => y.elim
end
section
variable {w : World} {A : Around} {s : Shared} {H : Heap} {Q E : Value → Shared → Prop}
theorem space_c {g : Heap} {L : Addr} {m : Str → Option Value} {news : List (Addr × Obj)} {size : Int} {t t' : Tok} (c : Ctx 4 w A H s) (F : Fr g L s.heap m) (X : (hd.heap_1 w.params).In g) (N : News g L s.heap news) (hg : H.StaysIn g) {p0 : Addr × Obj} (hp0 : p0 ∈ news) (hp1 : H.objs.size ≤ p0.1) (h0 : 60 ≤ size) (h1 : size < 1000)
    (hQ : ∀ h' tk R, Fr g L h' m → News g L h' news → RoomW w H h' R → Okay R → (∀ a ∈ R.adr, ∀ p ∈ news, p.1 < a) → R.free = size → R.size = size → R.mw = 5 → R.held = [] → R.wait = [] → Q (.ref R.r) { s with heap := h', toks := tk }) :
    wpAny (model PR w) A (call (.ref 54) [.int size t, .int 5 t']) Q E s := by
  refine' call_cls F X N ?k4 ?k5 ?k6 ?_
  case k4 => k_is
  case k5 => k_is
  case k6 => k_is
  intro x dx h2 F2 N2 l1 l2
  have hst : H.StaysIn h2 := fun b o e => F2.keep b o (hg b o e)
  have c2 : Ctx 3 w (A.under (.builtin "type.__call__" ⟨[.ref 54, .int size t, .int 5 t'], []⟩)) H { s with heap := h2 } := ⟨c.ok.make, c.X, c.T, hst⟩
  refine' enter_code c2 ?k6 ?k7 ?k9 ?kB ?_ ?c5 ?c2 ?c3 ?c4
  ktr_unf
  intro hh1 tk b
  have hxn := N2 _ (.head _)
  have hdn := N2 _ (.tail _ (.head _))
  have hx1 := b.kp _ _ (by simp) hxn.1
  have hd1 := b.kp _ _ (by simp) hdn.1
  have bm := b.mono (S' := [dx]) (by simp)
  refine seg_k (bm.seg [(dx, dictOf [] 0)] c2 (by
    intro q hq
    rw [List.mem_singleton.mp hq]
    exact ⟨hd1, (by
      cases e : H.get? dx with
      | none => rfl
      | some o => (have := hg _ _ e; rw [hdn.2.2] at this; cases this)), Nat.ne_of_lt (Heap.lt_size hdn.1)⟩)) fun g3 rest p loose mean mg mb G F' N' T' => ?_
  rw [List.singleton_append] at N'
  have X' := G.X
  have hxd : x ≠ dx := Nat.ne_of_gt l2
  have I := G.old _ _ (Nat.ne_of_lt (Heap.lt_size hxn.1)) (by simpa using hxd) hx1
  have off : ∀ p ∈ rest, p.1 ≠ dx := fun p hp q => G.off p hp (List.mem_singleton.mpr q)
  try dsimp only
  k_steps
  rename (∀ p : Addr × Obj, p ∈ (dx, _) :: _ → p.1 < _) => hall
  have h5 := Nat.ne_of_gt (hall _ (.head _))
  rename ({ s with heap := h2 } : Shared).heap.objs.size < _ => hq0
  rename (_ < _ ∧ dx < _ ∧ AllLt _ rest) => hD
  have h7 := Nat.ne_of_gt hD.2.1
  dsimp only at h5 h7
  k_steps
  rename (∀ p : Addr × Obj, p ∈ _ :: _ :: _ :: (dx, _) :: _ → p.1 < _) => hall2
  have h8 := Nat.ne_of_gt (hall2 _ (.tail _ (.tail _ (.tail _ (.head _)))))
  dsimp only at h8
  k_steps
  try dsimp only
  rename Fr _ _ _ _ => F9
  rename News _ _ _ _ => N9
  rename IntsAre _ _ => hints
  rename Obj.IsDictOf (PySem.strKind PR w) _ [] => hdict
  have hDl := hD.1
  rename (_ < _ ∧ _ < _ ∧ dx < _ ∧ AllLt _ rest) => hd'
  have q1 := hall2 _ (.head _)
  have hxlt := Heap.lt_size hxn.1
  refine ⟨rfl, ?_⟩
  have hxL : x < { s with heap := h2 }.heap.objs.size := hxlt
  obtain ⟨xr, Kr⟩ := room_make (H := H) N9 (I.now F9 N9 (fun q hq => .tail _ (.tail _ (.tail _ (.tail _ (.tail _ hq)))))) hints hdict (Nat.le_trans hp1 (Nat.le_of_lt (l1 _ hp0))) l2 (Nat.lt_trans hxL (Nat.lt_trans hq0 hDl)) hd'.1 q1 h0 h1
  have ne : ∀ a : Addr, a ≠ dx → ∀ o, h2.get? a = some o → _ := fun a ha o e => G.stay F9 N9 (fun q hq => .tail _ (.tail _ (.tail _ (.tail _ (.tail _ hq))))) a o (Nat.ne_of_lt (Heap.lt_size e)) (by simpa using ha) (b.kp _ _ (by simp) e)
  refine hQ _ _ _ ⟨F2.ns.at' fun o e => ne L (fun q => hdn.2.1 q.symm) o e, fun a o e => ne a (fun q => by rw [q, hdn.2.2] at e; cases e) o (F2.keep a o e), F2.above⟩ (fun p hp => ⟨ne _ (Nat.ne_of_lt (l1 p hp)) _ (N2 _ (.tail _ (.tail _ hp))).1, (N2 _ (.tail _ (.tail _ hp))).2⟩) xr Kr (fun a ha p hp => ?_) rfl rfl rfl rfl rfl
  have h3 := l1 p hp
  have c1 : (dx : Nat) < x := l2
  have c2 := Nat.lt_trans hxL (Nat.lt_trans hq0 hDl)
  have c3 := hd'.1
  have c4 := q1
  have ha := adr_nil rfl rfl ha
  rcases ha with rfl | rfl | rfl | rfl | rfl
  · exact Nat.lt_trans h3 c1
  · exact h3
  · exact Nat.lt_trans h3 (Nat.lt_trans c1 c2)
  · exact Nat.lt_trans h3 (Nat.lt_trans c1 (Nat.lt_trans c2 c3))
  · exact Nat.lt_trans h3 (Nat.lt_trans c1 (Nat.lt_trans c2 (Nat.lt_trans c3 c4)))
end
end Mine
end
section
namespace Mine
section
variable {prog : Program} {w : World} {A : Around} {s : Shared} {env : Env}
/-- for x in range(n) -/
theorem range_h {n : Nat} {t : Tok} {m : Str → Option Value} {x : Str} {px : Pos} {body : List Stmt} {Q : Flow → Shared → Prop} (hh : A.handled = none) (hn : s.heap.Ns env.locals m) (hsm : Builtin.Range.small 0 (n : Nat) 1 = true) (hsz : Builtin.Range.rangeSize 0 (n : Nat) 1 = (n : Nat))
    (hx : env.kindOf x = some .local) (hp : (env.scope.kind == .class || (env.scope.kind == .module && env.locals != env.globals)) = false)
    (J : Nat → (Str → Option Value) → Heap → Prop) (mono : ∀ i m h h', J i m h → (∀ b o, b ≠ s.heap.objs.size + 1 → b ≠ env.locals → h.get? b = some o → h'.get? b = some o) → J i m h') (h0 : J 0 m s.heap)
    (step : ∀ i t m h tk, i < n → (∃ o, h.get? (s.heap.objs.size + 1) = some o) → J i m h → h.Ns env.locals (fun y => if y = x then some (.int (i : Nat) t) else m y) →
      wpAny (model prog w) A (execs body env) (TurnEnd s env.locals [s.heap.objs.size + 1] h (J (i + 1)) Q) (fun _ _ => False) { s with heap := h, toks := tk })
    (done : ∀ h tk m, J n m h → h.Ns env.locals m → Q .next { s with heap := h, toks := tk }) :
    wpAny (model prog w) A (call (.type "range") [.int (n : Nat) t]) (fun xv s₁ => wpAny (model prog w) A (pyIter xv) (fun it s₂ => ForAt prog w A (.Name x px) body env Q it s₂) (fun _ _ => False) s₁) (fun _ _ => False) s := by
  have hLlt := hn.lt
  refine call_range_1 ?_
  have hsize : (s.heap.push { cls := .type "range", data := .fields #[.int 0 s.toks, .int (n : Nat) t, .int 1 (s.toks + 1)] }).objs.size = s.heap.objs.size + 1 := Heap.size_push ..
  refine wpAny_pyIter_range (IsRange.new _ _ _ _ _ _ _) hsm ?_
  have W := Walks.range (prog := prog) (w := w) hh (s.heap.objs.size + 1) 0 1 n
  have push : ∀ b o, s.heap.get? b = some o → ((s.heap.push { cls := .type "range", data := .fields #[.int 0 s.toks, .int (n : Nat) t, .int 1 (s.toks + 1)] }).push { cls := .type "range_iterator", data := .fields #[rawInt 0, rawInt (Builtin.Range.rangeSize 0 (n : Nat) 1), rawInt 1] }).get? b = some o := fun b o e => Heap.get?_push_of_some _ (Heap.get?_push_of_some _ e)
  dsimp only
  rw [hsize]
  refine loop_name (Q := Q) (s := { s with heap := _, toks := _ }) (m := m) W hx hp ?_ J ?_ ?_ (hn.keeps push) (mono 0 m _ _ h0 fun b o _ _ e => push b o e) ?_ (fun h tk m hJ hn' => done h tk m hJ hn') (fun _ _ q => q)
  · intro q
    exact Nat.ne_of_lt (Nat.lt_succ_of_lt hLlt) (List.mem_singleton.mp q)
  · intro i m h h' hJ k
    exact mono i m h h' hJ fun b o h1 h2 e => k b o (fun q => h1 (List.mem_singleton.mp q)) h2 e
  · have e1 : (0 : Int) + ((0 : Nat) : Int) * 1 = 0 := rfl
    have e2 : (n : Int) - ((0 : Nat) : Int) = n := by omega
    rw [e1, e2, hsz, ← hsize]
    exact Heap.get?_push_size _ rfl
  · intro i v m h tk hi hv hJ hst hn'
    obtain ⟨t', rfl⟩ := hv
    rw [show (0 : Int) + (i : Int) * 1 = (i : Nat) by omega] at hn'
    exact wpAny_mono (step i t' m h tk hi ⟨_, hst⟩ hJ hn') (fun f s' hf => hf) fun _ _ e => e
end
end Mine
end
section
namespace Mine
theorem nh_fold {below : Int} : ∀ (ps : List Pl) (f : Option Pl), (∀ q, f = some q → q.lo < below) →
    (∀ q, ps.foldl (nhStep below) f = some q → q.lo < below ∧ (∀ p, f = some p → p.lo ≤ q.lo) ∧ ∀ p ∈ ps, p.lo < below → p.lo ≤ q.lo) ∧ (ps.foldl (nhStep below) f = none → f = none ∧ ∀ p ∈ ps, ¬ p.lo < below)
  | [], f, hf => ⟨fun q h => ⟨hf q h, fun p hp => by
      have h : f = some q := h
      rw [hp] at h; cases h; exact Int.le_refl _, by simp⟩, fun h => ⟨h, by simp⟩⟩
  | a :: r, f, hf => by
    have hs : ∀ q, nhStep below f a = some q → q.lo < below := fun q h => by
      unfold nhStep at h
      split at h
      · rename_i hc; cases h; exact hc.1
      · exact hf q h
    obtain ⟨i1, i2⟩ := nh_fold r (nhStep below f a) hs
    have up : ∀ p, f = some p → ∃ z, nhStep below f a = some z ∧ p.lo ≤ z.lo := fun p hp => by
      unfold nhStep
      split
      · rename_i hc; exact ⟨a, rfl, Int.le_of_lt (hc.2 p hp)⟩
      · exact ⟨p, hp, Int.le_refl _⟩
    have me : a.lo < below → ∃ z, nhStep below f a = some z ∧ a.lo ≤ z.lo := fun ha => by
      unfold nhStep
      by_cases hc : ∀ q, f = some q → q.lo < a.lo
      · rw [if_pos ⟨ha, hc⟩]; exact ⟨a, rfl, Int.le_refl _⟩
      · rw [if_neg fun z => hc z.2]
        cases hf2 : f with
        | none => exact absurd (fun q h => by rw [hf2] at h; cases h) hc
        | some q =>
          refine ⟨q, rfl, ?_⟩
          by_cases hq : q.lo < a.lo
          · exact absurd (fun z h => by rw [hf2] at h; cases h; exact hq) hc
          · omega
    refine ⟨fun q h => ?_, fun h => ?_⟩
    · obtain ⟨h1, h2, h3⟩ := i1 q h
      refine ⟨h1, fun p hp => ?_, fun p hp hb => ?_⟩
      · obtain ⟨z, hz, hle⟩ := up p hp
        exact Int.le_trans hle (h2 z hz)
      · rcases List.mem_cons.mp hp with rfl | hp
        · obtain ⟨z, hz, hle⟩ := me hb
          exact Int.le_trans hle (h2 z hz)
        · exact h3 p hp hb
    · obtain ⟨h1, h2⟩ := i2 h
      refine ⟨?_, fun p hp hb => ?_⟩
      · cases hf2 : f with
        | none => rfl
        | some q => obtain ⟨z, hz, _⟩ := up q hf2; rw [h1] at hz; cases hz
      · rcases List.mem_cons.mp hp with rfl | hp
        · obtain ⟨z, hz, _⟩ := me hb; rw [h1] at hz; cases hz
        · exact h2 p hp hb
theorem nhP_none {ps : List Pl} {below : Int} (h : nhP ps below = none) : (ps.filter fun p => decide (p.lo < below)) = [] := by
  have := ((nh_fold ps none (fun q h => by cases h)).2 h).2
  rw [List.filter_eq_nil_iff]
  intro p hp
  simpa using this p hp
theorem nhP_some {ps : List Pl} {below : Int} {q : Pl} (h : nhP ps below = some q) : q ∈ ps ∧ q.lo < below ∧ ∀ p ∈ ps, p.lo < below → p.lo ≤ q.lo := by
  obtain ⟨h1, _, h3⟩ := (nh_fold ps none (fun q h => by cases h)).1 q h
  exact ⟨(nhP_mem ps none q h).resolve_right (by simp), h1, h3⟩
theorem los_are {ps : List Pl} (hn : (ps.map (·.a)).Nodup) : ∀ {rs : List Pl} {ys : List Value}, (∀ q ∈ rs, q ∈ ps) → Paired (fun v y => ∃ (q : Pl) (u : Tok), q ∈ ps ∧ v = Value.ref q.a ∧ y = .int q.lo u) (waitOf rs) ys → IntsAre ys (rs.map (·.lo))
  | [], _, _, .nil => .nil
  | p :: r, _, h, .cons a t => by
    obtain ⟨q, u, hq, e, rfl⟩ := a
    injection e with e
    have := eq_of_a hn (h p (.head _)) hq e
    subst this
    exact .cons _ u (los_are hn (fun q hq => h q (.tail _ hq)) t)
end Mine
end
section
namespace Mine
theorem okCaller : OkA 12 callerA := ⟨rfl, by decide, by decide⟩
theorem Seg.led {w : World} {H g h h' : Heap} {L a : Addr} {o : Obj} {m' : Str → Option Value} {M rest : List (Addr × Obj)} (G : Seg w H g L M rest h) (F : Fr g L h' m') (ha : L < a) (hM : a ∉ M.map (·.1)) (e : h.get? a = some o) : (a, o) ∈ rest := by
  rcases G.old a o (Nat.ne_of_gt ha) hM e with q | q
  · exact absurd (Nat.lt_of_lt_of_le (Heap.lt_size q) F.above) (Nat.not_lt.mpr (Nat.le_of_lt ha))
  · exact q
theorem pick_ok : ∀ r : Nat, r < 5 → (Txt.item (Str.ofString "PQRST") r).cps.size = 1 := by decide +kernel
theorem cut_ok : ∀ r : Nat, r < 6 → (Txt.slice (Str.ofString "klmno") none (some (r : Int))).cps.size ≤ 5 ∧ ((Txt.slice (Str.ofString "klmno") none (some (r : Int))).cps.all (· < 128)) = true ∧ (Txt.slice (Str.ofString "klmno") none (some (r : Int)) ++ Str.ofString "w").cps.size ≤ 6 ∧ ((Txt.slice (Str.ofString "klmno") none (some (r : Int)) ++ Str.ofString "w").cps.all (· < 128)) = true := by decide +kernel
theorem range_ok : ∀ n : Nat, n < 9 → Builtin.Range.small 0 (n : Nat) 1 = true ∧ Builtin.Range.rangeSize 0 (n : Nat) 1 = (n : Nat) := by decide +kernel
theorem postOk (ns : List Int) : PySem.Challenge.rw_pq0161_01.row.claim.post [ofPy (PyData.list (List.map PyData.int ns))] (WData.bool true) [ofPy (PyData.list (List.map PyData.int ns))] = true := by
  wrow_post
structure Turn (w : World) (H h : Heap) (L l nl I : Addr) (oc : Obj) (i : Nat) (R : Rm) : Prop where
  room : RoomW w H h R
  ok : Okay R
  st : StW h l nl
  cell : h.get? (L + 1) = some oc
  free : 70 ≤ R.free + 6 * i
  held : R.held.length ≤ i
  wait : R.wait.length ≤ 3
  apart : ∀ a ∈ R.adr, l < a ∧ nl < a ∧ L + 1 < a
  iter : ∀ a ∈ R.adr, a ≠ I
section
variable {w : World} {H h h' : Heap} {L l nl I : Addr} {oc : Obj} {i : Nat} {R R' : Rm}
theorem Turn.stay (T : Turn w H h L l nl I oc i R) (hl : L < l) (hnl : L < nl) (k : ∀ z, z ≠ L → ∀ o, h.get? z = some o → h'.get? z = some o) : Turn w H h' L l nl I oc i R :=
  ⟨T.room.mono fun a ha o e => k a (Nat.ne_of_gt (Nat.lt_trans (Nat.lt_succ_self _) (T.apart a ha).2.2)) o e, T.ok, T.st.mono (fun o e => k l (Nat.ne_of_gt hl) o e) (fun o e => k nl (Nat.ne_of_gt hnl) o e), k _ (Nat.succ_ne_self _) _ T.cell, T.free, T.held, T.wait, T.apart, T.iter⟩
theorem Turn.drawn (T : Turn w H h L l nl I oc i R) (hll : l ≠ L + 1) (k : Kept [l] h h') (st : StW h' l nl) : Turn w H h' L l nl I oc i R :=
  ⟨T.room.kept k fun a ha q => Nat.ne_of_gt (T.apart a ha).1 (List.mem_singleton.mp q), T.ok, st, k _ _ (fun q => hll (List.mem_singleton.mp q).symm) T.cell, T.free, T.held, T.wait, T.apart, T.iter⟩
theorem Turn.fixed (T : Turn w H h L l nl I oc i R) (hI : ∃ o, h.get? I = some o) (k : Kept R.fix h h') (gr : Grew R R' h.objs.size) (x' : RoomW w H h' R') (K' : Okay R') (hf : 70 ≤ R'.free + 6 * (i + 1 : Nat)) (hh : R'.held.length ≤ i + 1) (hw : R'.wait.length ≤ 3) : Turn w H h' L l nl I oc (i + 1) R' := by
  have hfx : ∀ a ∈ R.fix, l < a ∧ nl < a ∧ L + 1 < a := fun a ha => T.apart a (List.mem_append_left _ ha)
  have hc := Heap.lt_size T.cell
  obtain ⟨oI, hoI⟩ := hI
  exact ⟨x', K', T.st.kept k (fun q => Nat.lt_irrefl _ (hfx _ q).1) (fun q => Nat.lt_irrefl _ (hfx _ q).2.1), k _ _ (fun q => Nat.lt_irrefl _ (hfx _ q).2.2) T.cell, hf, hh, hw,
    fun a ha => (gr a ha).elim (T.apart a) fun z => ⟨Nat.lt_of_lt_of_le T.st.lt.1 z, Nat.lt_of_lt_of_le T.st.lt.2 z, Nat.lt_of_lt_of_le hc z⟩,
    fun a ha => (gr a ha).elim (T.iter a) fun z => Nat.ne_of_gt (Nat.lt_of_lt_of_le (Heap.lt_size hoI) z)⟩
end
theorem law_holds : PySem.Challenge.rw_pq0161_01.Holds := by
  refine hd ?_
  k_go0
  rename World => w
  rename Fr _ _ _ _ => F0
  rename News _ _ _ _ => N0
  rename Heap.IsList _ _ _ => hl
  rename IntsAre _ _ => hi
  rename Top _ _ _ _ _ _ => T0
  rename PySem.W.Frag.In _ _ => KX
  rename List Int => ns
  rename Shared => s₁
  have h63 : ns.length ≤ 63 := by omega
  have c : Ctx 12 w callerA s₁.heap s₁ := ⟨okCaller, KX, ⟨_, _, _, _, _, T0⟩, fun _ _ e => e⟩
  have b0 : Bd s₁.heap s₁ s₁.heap.objs.size [] _ _ := ⟨F0.ns, F0.keep, Kept.of F0.keep, Nat.le_refl _⟩
  rename Shared.gens _ = #[] => hgens
  rename Obj => oc
  rename Obj.data _ = _ => hocd
  have hocd : oc.data = .cell none := hocd
  have hcell : Heap.get? _ (s₁.heap.objs.size + 1) = some oc := (N0 _ (.head _)).1
  have hhd : callerA.handled = none := rfl
  have hH : ∀ a, s₁.heap.objs.size ≤ a → s₁.heap.get? a = none := fun a ha => Heap.get?_none_of_le ha
  clear F0 N0
  refine wpAny_mono (E := fun _ _ => False) ?_ (fun _ _ q => q) (fun _ _ e => e.elim)
  refine b0.seg0 c fun g rest p loose mean mg mb G F' N' T' X' => ?_
  k_steps
  rename Fr _ _ _ _ => F1
  rename News _ _ _ _ => N1
  have b1 := b0.after G F1 N1 (by ktr_rel) (by simp)
  have hcell := G.stay F1 N1 (by ktr_rel) _ _ (Nat.succ_ne_self _) (by simp) hcell
  refine law_stream_c ((c.deeper _ b1.st).le (by decide)) (hl.at fun o e => b1.st _ o e) hi h63 fun h2 tk2 l nl kp2 st2 hl2 hnl2 => ?_
  have b2 := b1.call kp2 (by simp)
  have hll : l ≠ s₁.heap.objs.size + 1 := Nat.ne_of_gt (Nat.lt_of_lt_of_le (Heap.lt_size hcell) hl2)
  have hcell := kp2.stays _ _ hcell
  have hLl : s₁.heap.objs.size < l := Nat.lt_of_lt_of_le b1.ns.lt hl2
  have hLnl : s₁.heap.objs.size < nl := Nat.lt_of_lt_of_le b1.ns.lt hnl2
  clear F1 N1 X' T' G
  refine b2.seg0 c fun g rest p loose mean mg mb G F' N' T' X' => ?_
  k_steps
  rename Fr _ _ _ _ => F1
  rename News _ _ _ _ => N1
  have b3 := b2.after G F1 N1 (by ktr_rel) (by simp)
  have st3 := st2.mono (fun o e => G.stay F1 N1 (by ktr_rel) l o (Nat.ne_of_gt hLl) (by simp) e) fun o e => G.stay F1 N1 (by ktr_rel) nl o (Nat.ne_of_gt hLnl) (by simp) e
  refine law_drawn_c ((c.deeper _ b3.st).le (by decide)) st3 (hH _ (Nat.le_of_lt hLl)) (by decide) fun h4 tk4 tk4' r0 kp4 st4 hr0 hr1 => ?_
  have hcell := kp4 _ _ (fun q => hll (List.mem_singleton.mp q).symm) (G.stay F1 N1 (by ktr_rel) _ _ (Nat.succ_ne_self _) (by simp) hcell)
  have hSl : ∀ a ∈ [l], (a ∈ ([] : List Addr) ∨ s₁.heap.objs.size ≤ a) ∧ a ≠ s₁.heap.objs.size ∧ s₁.heap.get? a = none := fun a ha => by rw [List.mem_singleton.mp ha]; exact ⟨.inr (Nat.le_of_lt hLl), Nat.ne_of_gt hLl, hH _ (Nat.le_of_lt hLl)⟩
  have b4 := b3.call kp4 hSl
  clear F1 N1 X' T' G
  refine b4.seg0 c fun g rest p loose mean mg mb G F' N' T' X' => ?_
  k_steps
  rename Fr _ _ _ _ => F1
  rename News _ _ _ _ => N1
  have b5 := b4.after G F1 N1 (by ktr_rel) (by simp)
  obtain ⟨ol, hol⟩ : ∃ o, h4.get? l = some o := by obtain ⟨_, _, _, _, _, e, _⟩ := st4.at_; exact ⟨_, e⟩
  obtain ⟨onl, honl⟩ : ∃ o, h4.get? nl = some o := by obtain ⟨_, _, _, e, _⟩ := st4.nums; exact ⟨_, e⟩
  have il := G.led F1 hLl (by simp) hol
  have inl := G.led F1 hLnl (by simp) honl
  have ic := G.led F1 (Nat.lt_succ_self _) (by simp) hcell
  refine space_c (H := s₁.heap) ((c.deeper _ b5.st).le (by decide)) F1 X' N1 G.base il (Nat.le_of_lt hLl) (by omega) (by omega) fun h6 tk6 R0 F6 N6 x6 K6 hap hf0 hs0 hmw hhe hwa => ?_
  have b6 := b4.after G F6 N6 (by ktr_rel) (by simp)
  have st6 := st4.mono (fun o e => G.stay F6 N6 (by ktr_rel) l o (Nat.ne_of_gt hLl) (by simp) e) fun o e => G.stay F6 N6 (by ktr_rel) nl o (Nat.ne_of_gt hLnl) (by simp) e
  have hcell := G.stay F6 N6 (by ktr_rel) _ _ (Nat.succ_ne_self _) (by simp) hcell
  have hfor : ∀ a ∈ R0.adr, l < a ∧ nl < a ∧ s₁.heap.objs.size + 1 < a := fun a ha => ⟨hap a ha _ il, hap a ha _ inl, hap a ha _ ic⟩
  clear F1 N1 F6 N6 X' T' G
  refine b6.seg0 c fun g rest p loose mean mg mb G F' N' T' X' => ?_
  k_steps
  rename Fr _ _ _ _ => F1
  rename News _ _ _ _ => N1
  have b7 := b6.after G F1 N1 (by ktr_rel) (by simp)
  have x7 := x6.seg G F1 N1 (by ktr_rel) (fun q => Nat.lt_irrefl _ (Nat.lt_trans (Nat.lt_succ_self _) (hfor _ q).2.2)) (by simp)
  have st7 := st6.mono (fun o e => G.stay F1 N1 (by ktr_rel) l o (Nat.ne_of_gt hLl) (by simp) e) fun o e => G.stay F1 N1 (by ktr_rel) nl o (Nat.ne_of_gt hLnl) (by simp) e
  have hcell := G.stay F1 N1 (by ktr_rel) _ _ (Nat.succ_ne_self _) (by simp) hcell
  refine law_drawn_c ((c.deeper _ b7.st).le (by decide)) st7 (hH _ (Nat.le_of_lt hLl)) (by decide) fun h8 tk8 tk8' r1 kp8 st8 hr10 hr11 => ?_
  have hcell := kp8 _ _ (fun q => hll (List.mem_singleton.mp q).symm) hcell
  have b8 := b7.call kp8 hSl
  have x8 := x7.kept kp8 (fun a ha q => Nat.ne_of_gt (hfor a ha).1 (List.mem_singleton.mp q))
  clear F1 N1 X' T' G
  refine b8.seg0 c fun g rest p loose mean mg mb G F' N' T' X' => ?_
  k_steps
  refine ⟨?_⟩
  rename Fr _ _ _ _ => F1
  rename News _ _ _ _ => N1
  have hn : (3 + r1 : Int) = ((3 + r1).toNat : Nat) := by omega
  have hn9 : (3 + r1).toNat < 9 := by omega
  rw [hn]
  generalize (3 + r1).toNat = nn at hn9
  obtain ⟨hsm, hsz⟩ := range_ok nn hn9
  have x8 := x8.seg G F1 N1 (by ktr_rel) (fun q => Nat.lt_irrefl _ (Nat.lt_trans (Nat.lt_succ_self _) (hfor _ q).2.2)) (by simp)
  have st8 := st8.mono (fun o e => G.stay F1 N1 (by ktr_rel) l o (Nat.ne_of_gt hLl) (by simp) e) fun o e => G.stay F1 N1 (by ktr_rel) nl o (Nat.ne_of_gt hLnl) (by simp) e
  have hcell := G.stay F1 N1 (by ktr_rel) _ _ (Nat.succ_ne_self _) (by simp) hcell
  have b9 := b8.after G F1 N1 (by ktr_rel) (by simp)
  clear N1 X' T' G
  have hA1 : s₁.heap.objs.size < h8.objs.size := F1.ns.lt
  have hlt8 : ∀ a ∈ R0.adr, a < h8.objs.size := fun a ha => x8.at_.lt a ha
  have hoc := hcell
  have st8l := st8.lt.1
  have hRup : R0.up R0.free R0.ns R0.held R0.wait R0.col = R0 := rfl
  refine range_h (n := nn) hhd F1.ns hsm hsz rfl rfl
    (fun i m h => s₁.heap.StaysIn h ∧ m (Str.ofString "stream") = some (.ref l) ∧ m (Str.ofString "room") = some (.ref R0.r) ∧ ∃ f n hd wt, Turn w s₁.heap h s₁.heap.objs.size l nl (h8.objs.size + 1) oc i (R0.up f n hd wt R0.col)) ?_ ?_ ?_ ?_
  · intro i m h h' hJ k
    obtain ⟨a1, a2, a3, f, n, hd', wt, T⟩ := hJ
    have hlh := T.st.lt
    have k1 : ∀ z, z ≠ s₁.heap.objs.size → z < h8.objs.size → ∀ o, h.get? z = some o → h'.get? z = some o := fun z h1 h2 o e => k z o (Nat.ne_of_lt (Nat.lt_succ_of_lt h2)) h1 e
    refine ⟨fun z o e => k1 z (Nat.ne_of_lt (Heap.lt_size e)) (Nat.lt_trans (Heap.lt_size e) hA1) o (a1 z o e), a2, a3, f, n, hd', wt, ⟨T.room.mono fun a ha o e => k a o (T.iter a ha) (Nat.ne_of_gt (Nat.lt_trans (Nat.lt_succ_self _) (T.apart a ha).2.2)) e, T.ok,
      T.st.mono (fun o e => k1 l (Nat.ne_of_gt hLl) st8.lt.1 o e) (fun o e => k1 nl (Nat.ne_of_gt hLnl) st8.lt.2 o e), k1 _ (Nat.succ_ne_self _) (Heap.lt_size hoc) _ T.cell, T.free, T.held, T.wait, T.apart, T.iter⟩⟩
  · exact ⟨b9.st, rfl, rfl, R0.free, R0.ns, R0.held, R0.wait, ⟨x8, K6, st8, hoc, by show 70 ≤ R0.free + 6 * ((0 : Nat) : Int); rw [hf0]; omega, by rw [hhe]; exact Nat.zero_le _, by rw [hwa]; exact Nat.zero_le _, hfor, fun a ha => Nat.ne_of_lt (Nat.lt_succ_of_lt (hlt8 a ha))⟩⟩
  · intro i t m h tk hin hI hJ hnn
    obtain ⟨a1, a2, a3, f, n, hd', wt, T⟩ := hJ
    have q1 : (fun y => if y = Str.ofString "turn" then some (Value.int (i : Nat) t) else m y) (Str.ofString "stream") = some (.ref l) := a2
    have q2 : (fun y => if y = Str.ofString "turn" then some (Value.int (i : Nat) t) else m y) (Str.ofString "room") = some (.ref R0.r) := a3
    have q3 : (fun y => if y = Str.ofString "turn" then some (Value.int (i : Nat) t) else m y) (Str.ofString "turn") = some (Value.int (i : Nat) t) := rfl
    generalize (fun y => if y = Str.ofString "turn" then some (Value.int (i : Nat) t) else m y) = m' at q1 q2 q3 hnn
    clear F1 x8 st8 b9 hcell b0 b1 b2 b3 b4 b5 b6 b7 b8
    have b : Bd s₁.heap s₁ s₁.heap.objs.size [] m' h := ⟨hnn, a1, Kept.of a1, Nat.le_refl _⟩
    refine b.seg0 c fun g rest p loose mean mg mb G F' N' T' X' => ?_
    k_steps
    rename Fr _ _ _ _ => F1
    rename News _ _ _ _ => N1
    have b1 := b.after G F1 N1 (by ktr_rel) (by simp)
    have T1 := T.stay hLl hLnl (fun z hz o e => G.stay F1 N1 (by ktr_rel) z o hz (by simp) e)
    have hIl : h8.objs.size + 1 ≠ s₁.heap.objs.size := Nat.ne_of_gt (Nat.lt_succ_of_lt hA1)
    have hIll : h8.objs.size + 1 ≠ l := Nat.ne_of_gt (Nat.lt_succ_of_lt st8l)
    obtain ⟨oI, hoI⟩ := hI
    have hI1 := G.stay F1 N1 (by ktr_rel) _ _ hIl (by simp) hoI
    refine law_drawn_c ((c.deeper _ b1.st).le (by decide)) T1.st (hH _ (Nat.le_of_lt hLl)) (by decide) fun h2 tk2 tk2' r2 kp2 st2 hr20 hr21 => ?_
    have T2 := T1.drawn hll kp2 st2
    have hI2 := kp2 _ _ (fun q => hIll (List.mem_singleton.mp q)) hI1
    have b2 := b1.call kp2 hSl
    clear F1 N1 X' T' G
    refine b2.seg0 c fun g rest p loose mean mg mb G F' N' T' X' => ?_
    obtain ⟨k2, rfl⟩ : ∃ k2 : Nat, r2 = (k2 : Int) := ⟨r2.toNat, by omega⟩
    have hl5 : (Str.ofString "PQRST").length = 5 := by decide +kernel
    refine item_str (by unfold fitsSsize; simp; omega) (by rw [hl5]; omega) (by rw [hl5]; omega) (fun _ => ?_) (by with_unfolding_all rfl) (by intro _; with_unfolding_all rfl)
    have hz1 := pick_ok k2 (by omega)
    generalize Txt.item (Str.ofString "PQRST") (k2 : Int) = z1 at hz1
    k_steps
    rename Fr _ _ _ _ => F1
    rename News _ _ _ _ => N1
    have b3 := b2.after G F1 N1 (by ktr_rel) (by simp)
    have T3 := T2.stay hLl hLnl (fun z hz o e => G.stay F1 N1 (by ktr_rel) z o hz (by simp) e)
    have hI3 := G.stay F1 N1 (by ktr_rel) _ _ hIl (by simp) hI2
    refine law_drawn_c ((c.deeper _ b3.st).le (by decide)) T3.st (hH _ (Nat.le_of_lt hLl)) (by decide) fun h4 tk4 tk4' r3 kp4 st4 hr30 hr31 => ?_
    have T4 := T3.drawn hll kp4 st4
    have hI4 := kp4 _ _ (fun q => hIll (List.mem_singleton.mp q)) hI3
    have b4 := b3.call kp4 hSl
    clear F1 N1 X' T' G
    have x4 := T4.room
    have K4 := T4.ok
    have hL4 : s₁.heap.objs.size ∉ (R0.up f n hd' wt R0.col).adr := fun q => Nat.lt_irrefl _ (Nat.lt_trans (Nat.lt_succ_self _) (T4.apart _ q).2.2)
    refine b4.seg0 c fun g rest p loose mean mg mb G F' N' T' X' => ?_
    have hLm : ∀ a ∈ (R0.up f n hd' wt R0.col).adr, a ≠ s₁.heap.objs.size := fun a ha q => hL4 (q ▸ ha)
    have I := G.old _ _ (hLm _ (Rm.m_r _)) (by simp) x4.at_.inst
    refine x4.at_.dictK fun k t0 t1 t2 t3 t4 nd hd5 => ?_
    have D := G.old _ _ (hLm _ (Rm.m_dx _)) (by simp) hd5
    obtain ⟨ew, hwt⟩ := x4.at_.wait
    have hwt : h4.get? R0.aw = some (W.listOf (waitOf wt).toArray ew) := hwt
    have hws : (waitOf wt).toArray.size = wt.length := by simp [waitOf]
    have W := G.old R0.aw _ (hLm _ (Rm.m_aw _)) (by simp) hwt
    have hwl : (waitOf wt).length = wt.length := by simp [waitOf]
    have hw3 : wt.length ≤ 3 := T4.wait
    obtain ⟨k3, rfl⟩ : ∃ k3 : Nat, r3 = (k3 : Int) := ⟨r3.toNat, by omega⟩
    obtain ⟨hc1, hc2, hc3, hc4⟩ := cut_ok k3 (by omega)
    have hl5' : (Str.ofString "klmno").length = 5 := by decide +kernel
    k_steps
    · rename Fr _ _ _ _ => F1
      rename News _ _ _ _ => N1
      have b5 := b4.after G F1 N1 (fun q hq => .tail _ hq) (by simp)
      have T5 := T4.stay hLl hLnl (fun z hz o e => G.stay F1 N1 (fun q hq => .tail _ hq) z o hz (by simp) e)
      have hI5 := G.stay F1 N1 (fun q hq => .tail _ hq) _ _ hIl (by simp) hI4
      have hfx : ∀ a ∈ (R0.up f n hd' wt R0.col).fix, (a ∈ ([] : List Addr) ∨ s₁.heap.objs.size ≤ a) ∧ a ≠ s₁.heap.objs.size ∧ s₁.heap.get? a = none := fun a ha => by
        have h1 := Nat.lt_trans (Nat.lt_succ_self _) (T5.apart a (List.mem_append_left _ ha)).2.2
        exact ⟨.inr (Nat.le_of_lt h1), Nat.ne_of_gt h1, hH _ (Nat.le_of_lt h1)⟩
      have hfi : h8.objs.size + 1 ∉ (R0.up f n hd' wt R0.col).fix := fun q => T5.iter _ (List.mem_append_left _ q) rfl
      have hfr : 70 ≤ f + 6 * (i : Int) := T5.free
      have hhl : hd'.length ≤ i := T5.held
      refine push_ok (R := R0.up f n hd' wt R0.col) (z := Txt.slice (Str.ofString "klmno") none (some (k3 : Int)) ++ Str.ofString "w") ((c.deeper _ b5.st).le (by decide)) T5.room T5.ok hc4 (by omega) (by show _ ≤ f; omega) (by show (wt.length : Int) < R0.mw; omega) (by show R0.mw < 1000; omega) fun h6 tk6 f2 n2 p2 kp6 g6 x6 K6 d1 _ _ _ _ => ?_
      have d1 : f2 = f - _ := d1
      have b6 := b5.call kp6 hfx
      have hI6 := kp6 _ _ hfi hI5
      k_steps
      refine ⟨_, _, _, rfl, b6.ns, fun z hz o e => by rw [List.mem_singleton.mp hz] at e ⊢; rw [hoI] at e; cases e; exact hI6, b6.st, q1, q2, _, _, _, _, T5.fixed ⟨_, hI5⟩ kp6 g6 x6 K6 (by show 70 ≤ f2 + 6 * ((i + 1 : Nat) : Int); omega) (by show hd'.length ≤ i + 1; omega) (by show (wt ++ [p2]).length ≤ 3; rw [List.length_append, List.length_singleton]; omega)⟩
    · rename Fr _ _ _ _ => F1
      rename News _ _ _ _ => N1
      have b5 := b4.after G F1 N1 (fun q hq => .tail _ hq) (by simp)
      have T5 := T4.stay hLl hLnl (fun z hz o e => G.stay F1 N1 (fun q hq => .tail _ hq) z o hz (by simp) e)
      have hI5 := G.stay F1 N1 (fun q hq => .tail _ hq) _ _ hIl (by simp) hI4
      have hfx : ∀ a ∈ (R0.up f n hd' wt R0.col).fix, (a ∈ ([] : List Addr) ∨ s₁.heap.objs.size ≤ a) ∧ a ≠ s₁.heap.objs.size ∧ s₁.heap.get? a = none := fun a ha => by
        have h1 := Nat.lt_trans (Nat.lt_succ_self _) (T5.apart a (List.mem_append_left _ ha)).2.2
        exact ⟨.inr (Nat.le_of_lt h1), Nat.ne_of_gt h1, hH _ (Nat.le_of_lt h1)⟩
      have hfi : h8.objs.size + 1 ∉ (R0.up f n hd' wt R0.col).fix := fun q => T5.iter _ (List.mem_append_left _ q) rfl
      have hfr : 70 ≤ f + 6 * (i : Int) := T5.free
      have hhl : hd'.length ≤ i := T5.held
      refine assign_ok (R := R0.up f n hd' wt R0.col) (z := Txt.slice (Str.ofString "klmno") none (some (k3 : Int))) (nm := z1) ((c.deeper _ b5.st).le (by decide)) T5.room T5.ok hz1 hc2 (by omega) (by show _ ≤ f; omega) (by show hd'.length < 1000; omega) fun h6 tk6 n2 hd2 kp6 g6 x6 K6 hlen => ?_
      have hlen : hd2.length ≤ hd'.length + 1 := hlen
      have b6 := b5.call kp6 hfx
      have hI6 := kp6 _ _ hfi hI5
      k_steps
      refine ⟨_, _, _, rfl, b6.ns, fun z hz o e => by rw [List.mem_singleton.mp hz] at e ⊢; rw [hoI] at e; cases e; exact hI6, b6.st, q1, q2, _, _, _, _, T5.fixed ⟨_, hI5⟩ kp6 g6 x6 K6 (by show 70 ≤ f - _ + 6 * ((i + 1 : Nat) : Int); omega) (by show hd2.length ≤ i + 1; omega) hw3⟩
    · rename Fr _ _ _ _ => F1
      rename News _ _ _ _ => N1
      have b5 := b4.after G F1 N1 (fun q hq => .tail _ hq) (by simp)
      have T5 := T4.stay hLl hLnl (fun z hz o e => G.stay F1 N1 (fun q hq => .tail _ hq) z o hz (by simp) e)
      have hI5 := G.stay F1 N1 (fun q hq => .tail _ hq) _ _ hIl (by simp) hI4
      have hfx : ∀ a ∈ (R0.up f n hd' wt R0.col).fix, (a ∈ ([] : List Addr) ∨ s₁.heap.objs.size ≤ a) ∧ a ≠ s₁.heap.objs.size ∧ s₁.heap.get? a = none := fun a ha => by
        have h1 := Nat.lt_trans (Nat.lt_succ_self _) (T5.apart a (List.mem_append_left _ ha)).2.2
        exact ⟨.inr (Nat.le_of_lt h1), Nat.ne_of_gt h1, hH _ (Nat.le_of_lt h1)⟩
      have hfi : h8.objs.size + 1 ∉ (R0.up f n hd' wt R0.col).fix := fun q => T5.iter _ (List.mem_append_left _ q) rfl
      have hfr : 70 ≤ f + 6 * (i : Int) := T5.free
      have hhl : hd'.length ≤ i := T5.held
      refine assign_ok (R := R0.up f n hd' wt R0.col) (z := Txt.slice (Str.ofString "klmno") none (some (k3 : Int))) (nm := z1) ((c.deeper _ b5.st).le (by decide)) T5.room T5.ok hz1 hc2 (by omega) (by show _ ≤ f; omega) (by show hd'.length < 1000; omega) fun h6 tk6 n2 hd2 kp6 g6 x6 K6 hlen => ?_
      have hlen : hd2.length ≤ hd'.length + 1 := hlen
      have b6 := b5.call kp6 hfx
      have hI6 := kp6 _ _ hfi hI5
      k_steps
      refine ⟨_, _, _, rfl, b6.ns, fun z hz o e => by rw [List.mem_singleton.mp hz] at e ⊢; rw [hoI] at e; cases e; exact hI6, b6.st, q1, q2, _, _, _, _, T5.fixed ⟨_, hI5⟩ kp6 g6 x6 K6 (by show 70 ≤ f - _ + 6 * ((i + 1 : Nat) : Int); omega) (by show hd2.length ≤ i + 1; omega) hw3⟩
  · intro h tk m hJ hnn
    obtain ⟨a1, a2, a3, f, n, hd', wt, T⟩ := hJ
    have q2 : m (Str.ofString "stream") = some (.ref l) := a2
    have q3 : m (Str.ofString "room") = some (.ref R0.r) := a3
    have hLlt := hnn.lt
    have hLive : ∃ o, h.get? s₁.heap.objs.size = some o := let ⟨o, _, _, e, _⟩ := hnn; ⟨o, e⟩
    have T : Turn w s₁.heap h s₁.heap.objs.size l nl s₁.heap.objs.size oc nn (R0.up f n hd' wt R0.col) := ⟨T.room, T.ok, T.st, T.cell, T.free, T.held, T.wait, T.apart, fun a ha => Nat.ne_of_gt (Nat.lt_trans (Nat.lt_succ_self _) (T.apart a ha).2.2)⟩
    clear F1 x8 st8 b9 hcell b0 b1 b2 b3 b4 b5 b6 b7 b8
    have b : Bd s₁.heap s₁ s₁.heap.objs.size [] m h := ⟨hnn, a1, Kept.of a1, Nat.le_refl _⟩
    have hfxA : ∀ (R : Rm) (hh : Heap) (j : Nat), Turn w s₁.heap hh s₁.heap.objs.size l nl s₁.heap.objs.size oc j R → ∀ a ∈ R.adr, (a ∈ ([] : List Addr) ∨ s₁.heap.objs.size ≤ a) ∧ a ≠ s₁.heap.objs.size ∧ s₁.heap.get? a = none := fun R hh j T a ha => by
      have h1 := Nat.lt_trans (Nat.lt_succ_self _) (T.apart a ha).2.2
      exact ⟨.inr (Nat.le_of_lt h1), Nat.ne_of_gt h1, hH _ (Nat.le_of_lt h1)⟩
    refine b.seg0 c fun g rest p loose mean mg mb G F' N' T' X' => ?_
    k_steps
    rename Fr _ _ _ _ => F1
    rename News _ _ _ _ => N1
    have b1 := b.after G F1 N1 (by ktr_rel) (by simp)
    have T1 := T.stay hLl hLnl (fun z hz o e => G.stay F1 N1 (by ktr_rel) z o hz (by simp) e)
    refine law_drawn_c ((c.deeper _ b1.st).le (by decide)) T1.st (hH _ (Nat.le_of_lt hLl)) (by decide) fun h2 tk2 tk2' r2 kp2 st2 hr20 hr21 => ?_
    have T2 := T1.drawn hll kp2 st2
    have b2 := b1.call kp2 hSl
    clear F1 N1 X' T'
    refine b2.seg0 c fun g rest p loose mean mg mb G F' N' T' X' => ?_
    obtain ⟨k2, rfl⟩ : ∃ k2 : Nat, r2 = (k2 : Int) := ⟨r2.toNat, by omega⟩
    have hl5 : (Str.ofString "PQRST").length = 5 := by decide +kernel
    refine item_str (by unfold fitsSsize; simp; omega) (by rw [hl5]; omega) (by rw [hl5]; omega) (fun _ => ?_) (by with_unfolding_all rfl) (by intro _; with_unfolding_all rfl)
    k_steps
    rename Fr _ _ _ _ => F1
    rename News _ _ _ _ => N1
    have b3 := b2.after G F1 N1 (by ktr_rel) (by simp)
    have T3 := T2.stay hLl hLnl (fun z hz o e => G.stay F1 N1 (by ktr_rel) z o hz (by simp) e)
    have hhl : hd'.length ≤ nn := T3.held
    have hff : 70 ≤ f + 6 * (nn : Int) := T3.free
    refine forget_ok (R := R0.up f n hd' wt R0.col) ((c.deeper _ b3.st).le (by decide)) T3.room T3.ok (by show hd'.length < 1000; omega) fun h4 tk4 hd1 kp4 g4 x4 K4 hlen4 => ?_
    have hlen4 : hd1.length ≤ hd'.length := hlen4
    have T4 : Turn w s₁.heap h4 s₁.heap.objs.size l nl s₁.heap.objs.size oc (nn + 1) (R0.up f n hd1 wt R0.col) := T3.fixed (let ⟨o, _, _, e, _⟩ := b3.ns; ⟨o, e⟩) kp4 g4 x4 K4 (by show 70 ≤ f + 6 * ((nn + 1 : Nat) : Int); omega) (by show hd1.length ≤ nn + 1; omega) T3.wait
    have b4 := b3.call kp4 fun a ha => hfxA _ _ _ T3 a (List.mem_append_left _ ha)
    clear F1 N1 X' T'
    refine b4.seg0 c fun g rest p loose mean mg mb G F' N' T' X' => ?_
    have hLm : ∀ a ∈ (R0.up f n hd1 wt R0.col).adr, a ≠ s₁.heap.objs.size := fun a ha => (hfxA _ _ _ T4 a ha).2.1
    have I := G.old _ _ (hLm _ (Rm.m_r _)) (by simp) T4.room.at_.inst
    refine T4.room.at_.dictK fun k t0 t1 t2 t3 t4 nd hd5 => ?_
    have hd5 : h4.get? R0.dx = some (dictOf (roomD w.params k (.int R0.size t0) (.int R0.low t1) (.int f t2) (.int R0.mw t3) (.int R0.col t4) R0.ao R0.ah R0.aw) nd) := hd5
    have D := G.old _ _ (hLm _ (Rm.m_dx _)) (by simp) hd5
    k_steps
    rename Fr _ _ _ _ => F1
    rename News _ _ _ _ => N1
    have b5 := b4.after G F1 N1 (by ktr_rel) (by simp)
    have T5 := T4.stay hLl hLnl (fun z hz o e => G.stay F1 N1 (by ktr_rel) z o hz (by simp) e)
    refine law_drawn_c ((c.deeper _ b5.st).le (by decide)) T5.st (hH _ (Nat.le_of_lt hLl)) (by decide) fun h6 tk6 tk6' r4 kp6 st6 hr40 hr41 => ?_
    have T6 := T5.drawn hll kp6 st6
    have b6 := b5.call kp6 hSl
    clear F1 N1 X' T' I D
    refine seg_k (b6.seg [(s₁.heap.objs.size + 1, oc)] c (by
      intro q hq
      rw [List.mem_singleton.mp hq]; exact ⟨T6.cell, hH _ (Nat.le_succ _), Nat.succ_ne_self _⟩)) fun g rest p loose mean mg mb G F' N' T' => ?_
    rw [List.singleton_append] at N'
    have X' := G.X
    have off : ∀ p ∈ rest, p.1 ≠ s₁.heap.objs.size + 1 := fun p hp q => G.off p hp (List.mem_singleton.mpr q)
    k_steps
    refine ⟨?_⟩
    rename Fr _ _ _ _ => F1
    rename News _ _ _ _ => N1
    rename Obj.data _ = Data.cell (some _) => hocd2
    generalize hbel : f + r4 = bel at *
    have b7 := b6.after G F1 N1 (by ktr_rel) (by intro q hq; rw [List.mem_singleton.mp hq]; exact .inr (Nat.le_succ _))
    have st7 : ∀ z, z ≠ s₁.heap.objs.size → z ≠ s₁.heap.objs.size + 1 → ∀ o, h6.get? z = some o → _ := fun z h1 h2 o e => G.stay F1 N1 (by ktr_rel) z o h1 (fun q => h2 (List.mem_singleton.mp q)) e
    have x7 := T6.room.mono fun a ha o e => st7 a (hfxA _ _ _ T6 a ha).2.1 (Nat.ne_of_gt (T6.apart a ha).2.2) o e
    have hcell7 := (N1 _ (.head _)).1
    have K7 := T6.ok
    have hps : ((R0.up f n hd1 wt R0.col).pls.map (·.a)).Nodup := adr_pls x7.sep
    have hLa : ∀ a ∈ (R0.up f n hd1 wt R0.col).adr, a ≠ s₁.heap.objs.size := fun a ha => (hfxA _ _ _ T6 a ha).2.1
    have hLn : s₁.heap.objs.size ∉ (R0.up f n hd1 wt R0.col).adr := fun q => hLa _ q rfl
    have hap7 := T6.apart
    have hwt3 : wt.length ≤ 3 := T6.wait
    have hhd1 : hd1.length ≤ nn + 1 := T6.held
    clear F1 N1 X' T' off
    refine b7.seg0 c fun g rest p loose mean mg mb G F' N' T' X' => ?_
    have KC := G.old _ _ (Nat.succ_ne_self _) (by simp) hcell7
    refine' assign_comp_h ?hsw ?hclos ?hcell ?hkind ?hnames ?hx ?hy ?hp ?h ?hs
    case hsw => with_unfolding_all rfl
    case hclos => with_unfolding_all rfl
    case hcell => decide
    case hkind => with_unfolding_all rfl
    case hnames => decide
    case hx => with_unfolding_all rfl
    case hy => with_unfolding_all rfl
    case hp => with_unfolding_all rfl
    case hs => intro _; with_unfolding_all rfl
    k_steps
    rename Fr _ _ _ _ => F1
    rename News _ _ _ _ => N1
    have b8 := b7.after G F1 N1 (by ktr_rel) (by simp)
    have x8 := x7.seg G F1 N1 (by ktr_rel) hLn (by simp)
    have hcell8 := KC.now F1 N1 (by ktr_rel)
    refine places_of_c (R := R0.up f n hd1 wt R0.col) ((c.deeper _ b8.st).le (by decide)) x8 (by show hd1.length < 1000; omega) (by show wt.length < 1000; omega) fun h10 tk10 D1 e10 kp10 hD1 hDl1 => ?_
    have b10 := b8.call kp10 (by simp)
    have x10 := x8.stay kp10.stays
    have hcell10 := kp10.stays _ _ hcell8
    have hLD1 : s₁.heap.objs.size < D1 := Nat.lt_of_lt_of_le b8.ns.lt hD1
    have hfull : ∀ q ∈ (R0.up f n hd1 wt R0.col).pls.filter (fun p => decide (0 < p.len)), q ∈ (R0.up f n hd1 wt R0.col).pls := fun q hq => (List.mem_filter.mp hq).1
    generalize hqs : (R0.up f n hd1 wt R0.col).pls.filter (fun p => decide (0 < p.len)) = qs at hDl1 hfull
    have hqsl : qs.length ≤ 64 := by
      have h1 : qs.length ≤ (R0.up f n hd1 wt R0.col).pls.length := by rw [← hqs]; exact List.length_filter_le _ _
      have h2 : (R0.up f n hd1 wt R0.col).pls.length = hd1.length + wt.length := by simp [Rm.pls]
      omega
    clear F1 N1 X' T' KC
    refine b10.seg0 c fun g rest p loose mean mg mb G F' N' T' X' => ?_
    have KC := G.old _ _ (Nat.succ_ne_self _) (by simp) hcell10
    have KD := G.old _ _ (Nat.ne_of_gt hLD1) (by simp) hDl1
    refine comp_listS (pOf (R0.up f n hd1 wt R0.col).pls fun p => decide (p.lo < bel)) (fun _ _ v y => ∃ q u, q ∈ (R0.up f n hd1 wt R0.col).pls ∧ v = Value.ref q.a ∧ y = .int q.lo u) rfl hhd F' N' (items := (waitOf qs).toArray) (list_k F' N' KD (by ktr_rel)) (by rw [List.size_toArray, waitOf, List.length_map, sizeLine_eq]; omega) ⟨?_, ?_, ?_⟩ ?_
    · exact fun C h h' v y q _ => q
    · intro C i v s₃ m₃ hP F₃ N₃ hm _
      obtain ⟨pl, hpl, rfl⟩ := pl_of_ref hP
      have hpm := hfull pl hpl
      rw [pOf_at hps hpm]
      obtain ⟨u0, u1, e0, hpa⟩ := x10.at_.pls pl hpm
      have P := G.old _ _ (hLa _ (Rm.m_pl hpm)) (by simp) hpa
      obtain ⟨h₃, _, _, _, _⟩ := s₃
      clear F' N'
      k_steps
      exact ⟨_, _, rfl, fun _ _ e => e⟩
    · intro C i v s₃ m₃ hP _ F₃ N₃ hm _
      obtain ⟨pl, hpl, rfl⟩ := pl_of_ref hP
      have hpm := hfull pl hpl
      obtain ⟨u0, u1, e0, hpa⟩ := x10.at_.pls pl hpm
      have P := G.old _ _ (hLa _ (Rm.m_pl hpm)) (by simp) hpa
      obtain ⟨h₃, _, _, _, _⟩ := s₃
      clear F' N'
      k_steps
      · exact hpm
      · exact ⟨_, _, rfl, fun _ _ e => e⟩
    · intro D2 C ys e2 h11 tk11 hDC hLD hlt F2 N2 hP
      rw [show (waitOf qs).toArray.toList = waitOf qs from rfl, filter_pOf hps qs hfull] at hP
      have hrs := los_are hps (fun q hq => hfull q (List.mem_filter.mp hq).1) hP
      obtain ⟨yl, rfl⟩ : ∃ yl : List Value, ys = yl.toArray := ⟨ys.toList, by simp⟩
      have hrs : IntsAre yl ((qs.filter fun p => decide (p.lo < bel)).map (·.lo)) := hrs
      have b11 := b10.after G F2 N2 (by ktr_rel) (by simp)
      have x11 := x10.seg G F2 N2 (by ktr_rel) hLn (by simp)
      have hcell11 := KC.now F2 N2 (by ktr_rel)
      have hD2 := (N2 _ (.head _)).1
      have hp11 : ∀ q ∈ qs, PlAt h11 q := fun q hq => x11.at_.pls q (hfull q hq)
      clear X' T' KC KD b7 b8 b10 x7 x8 x10
      refine b11.seg0 c fun g rest p loose mean mg mb G F' N' T' X' => ?_
      have KC := G.old _ _ (Nat.succ_ne_self _) (by simp) hcell11
      have KD2 := G.old _ _ (Nat.ne_of_gt hLD) (by simp) hD2
      try dsimp only
      k_steps
      rename Fr _ _ _ _ => F1
      rename News _ _ _ _ => N1
      have b12 := b11.after G F1 N1 (by ktr_rel) (by simp)
      have x12 := x11.seg G F1 N1 (by ktr_rel) hLn (by simp)
      refine places_of_c (R := R0.up f n hd1 wt R0.col) ((c.deeper _ b12.st).le (by decide)) x12 (by show hd1.length < 1000; omega) (by show wt.length < 1000; omega) fun h13 tk13 D4 e13 kp13 hD4 hDl4 => ?_
      rw [hqs] at hDl4
      obtain ⟨F13, N13⟩ := after0 F1 N1 kp13
      have b13 := b12.call kp13 (by simp)
      have x13 := x12.stay kp13.stays
      clear F1 N1
      k_steps
      refine next_highest_c (l := D4) (ps := qs) (below := bel) ((c.deeper _ b13.st).le (by decide)) hDl4 (fun q hq => x13.at_.pls q (hfull q hq)) fun h14 tk14 kp14 => ?_
      have b14 := b13.call kp14 (by simp)
      have x14 := x13.stay kp14.stays
      have hD2 := kp14.stays _ _ (KD2.now F13 N13 (by ktr_rel))
      have hff7 : 22 ≤ f := by omega
      have units : callerA.units + 3 + 64 < cLine := by decide
      clear X' T' KC KD2 b11 b12 b13 x11 x12 x13
      refine b14.seg0 c fun g rest p loose mean mg mb G F' N' T' X' => ?_
      have KD2 := G.old _ _ (Nat.ne_of_gt hLD) (by simp) hD2
      have hAC : ∀ a ∈ (R0.up f n hd1 wt R0.col).adr, (a ∈ ([] : List Addr) ∨ s₁.heap.objs.size ≤ a) ∧ a ≠ s₁.heap.objs.size ∧ s₁.heap.get? a = none := fun a ha => by
        have h1 := Nat.lt_trans (Nat.lt_succ_self _) (hap7 a ha).2.2
        exact ⟨.inr (Nat.le_of_lt h1), Nat.ne_of_gt h1, hH _ (Nat.le_of_lt h1)⟩
      cases hnh : nhP qs bel with
      | none =>
        rw [nhP_none hnh] at hrs
        have hyl : yl = [] := by cases hrs; rfl
        subst hyl
        show wpAny _ _ _ _ _ _
        rw [show refOf (none : Option Pl) = Value.none from rfl]
        k_steps
        refine ⟨?_⟩
        rename Fr _ _ _ _ => F1
        rename News _ _ _ _ => N1
        refine PySem.W.ke_eq_ints (xs := []) (ys := []) (ns := []) (ms := []) (list_k F1 N1 KD2 (fun q hq => .tail _ hq)) ⟨_, (N1 _ (.head _)).1, rfl, _, rfl⟩ .nil .nil units ?_
        rw [decide_eq_true rfl]
        k_steps
        rename Fr _ _ _ _ => F8
        rename News _ _ _ _ => N8
        have b15 := b14.after G F8 N8 (fun q hq => .tail _ hq) (by simp)
        have x15 := x14.seg G F8 N8 (fun q hq => .tail _ hq) hLn (by simp)
        refine collected_ok (R := R0.up f n hd1 wt R0.col) ((c.deeper _ b15.st).le (by decide)) x15 K7 (by show hd1.length ≤ 30; omega) hwt3 fun h16 tk16 f2 n2 hd2 wt2 k2 kp16 ga16 x16 K16 hf2 hh2 hw2 => ?_
        have hf2 : f ≤ f2 := hf2
        have hh2 : hd2.length = hd1.length := hh2
        have hw2 : wt2.length = wt.length := hw2
        have x16 : RoomW w s₁.heap h16 (R0.up f2 n2 hd2 wt2 k2) := x16
        have K16 : Okay (R0.up f2 n2 hd2 wt2 k2) := K16
        have ga16 : (R0.up f2 n2 hd2 wt2 k2).adr = (R0.up f n hd1 wt R0.col).adr := ga16
        have b16 := b15.call kp16 hAC
        have hAC2 : ∀ a ∈ (R0.up f2 n2 hd2 wt2 k2).adr, _ := fun a ha => hAC a (ga16 ▸ ha)
        have hLn2 : s₁.heap.objs.size ∉ (R0.up f2 n2 hd2 wt2 k2).adr := fun q => (hAC2 _ q).2.1 rfl
        clear F8 N8 X' T' KD2
        refine b16.seg0 c fun g rest p loose mean mg mb G F' N' T' X' => ?_
        k_steps
        rename Fr _ _ _ _ => F8
        rename News _ _ _ _ => N8
        have b17 := b16.after G F8 N8 (by ktr_rel) (by simp)
        have x17 := x16.seg G F8 N8 (by ktr_rel) hLn2 (by simp)
        refine law_still_right_c (R := R0.up f2 n2 hd2 wt2 k2) ((c.deeper _ b17.st).le (by decide)) x17 K16 (by show hd2.length ≤ 20; omega) (by show wt2.length ≤ 3; omega) hmw (by show 2 ≤ f2; omega) fun h18 tk18 n3 hd3 kp18 g18 x18 K18 hh3 => ?_
        have x18 : RoomW w s₁.heap h18 (R0.up (f2 - 2) n3 hd3 wt2 k2) := x18
        have K18 : Okay (R0.up (f2 - 2) n3 hd3 wt2 k2) := K18
        have hh3 : hd3.length ≤ hd2.length + 3 := hh3
        have b18 := b17.call kp18 (fun a ha => hAC2 a (List.mem_append_left _ ha))
        have hLn3 : s₁.heap.objs.size ∉ (R0.up (f2 - 2) n3 hd3 wt2 k2).adr := fun q => (g18 _ q).elim hLn2 fun z => Nat.not_lt.mpr z b17.ns.lt
        have hAC3 : ∀ a ∈ (R0.up (f2 - 2) n3 hd3 wt2 k2).adr, (a ∈ ([] : List Addr) ∨ s₁.heap.objs.size ≤ a) ∧ a ≠ s₁.heap.objs.size ∧ s₁.heap.get? a = none := fun a ha => (g18 a ha).elim (hAC2 a) fun z =>
          ⟨.inr (Nat.le_trans (Nat.le_of_lt b17.ns.lt) z), Nat.ne_of_gt (Nat.lt_of_lt_of_le b17.ns.lt z), hH _ (Nat.le_trans (Nat.le_of_lt b17.ns.lt) z)⟩
        clear F8 N8 X' T'
        refine b18.seg0 c fun g rest p loose mean mg mb G F' N' T' X' => ?_
        k_steps
        rename Fr _ _ _ _ => F8
        rename News _ _ _ _ => N8
        have b19 := b18.after G F8 N8 (by ktr_rel) (by simp)
        have x19 := x18.seg G F8 N8 (by ktr_rel) hLn3 (by simp)
        refine law_joined_right_c (R := R0.up (f2 - 2) n3 hd3 wt2 k2) ((c.deeper _ b19.st).le (by decide)) x19 K18 (by show wt2.length ≤ 3; omega) hmw (by show 10 ≤ f2 - 2; omega) fun h20 tk20 n4 kp20 x20 K20 => ?_
        have x20 : RoomW w s₁.heap h20 (R0.up (f2 - 2 - 5) n4 hd3 wt2 k2) := x20
        have K20 : Okay (R0.up (f2 - 2 - 5) n4 hd3 wt2 k2) := K20
        have b20 := b19.call kp20 (fun a ha => hAC3 a (List.mem_append_left _ ha))
        clear F8 N8 X' T'
        refine b20.seg0 c fun g rest p loose mean mg mb G F' N' T' X' => ?_
        k_steps
        rename Fr _ _ _ _ => F8
        rename News _ _ _ _ => N8
        have b21 := b20.after G F8 N8 (by ktr_rel) (by simp)
        have x21 := x20.seg G F8 N8 (by ktr_rel) hLn3 (by simp)
        refine collected_ok (R := R0.up (f2 - 2 - 5) n4 hd3 wt2 k2) ((c.deeper _ b21.st).le (by decide)) x21 K20 (by show hd3.length ≤ 30; omega) (by show wt2.length ≤ 3; omega) fun h22 tk22 f3 n5 hd4 wt3 k3 kp22 ga22 x22 K22 hf3 hh4 hw4 => ?_
        have b22 := b21.call kp22 hAC3
        k_steps
        exact goodW_bool (⟨b22.ns, b22.st, Nat.le_refl _⟩ : Fr s₁.heap s₁.heap.objs.size h22 _) hgens (fun _ => rfl) (postOk ns) rfl
      | some q =>
        obtain ⟨hq1, hq2, hq3⟩ := nhP_some hnh
        rw [show refOf (some q) = Value.ref q.a from rfl]
        obtain ⟨u0, u1, e0, hpa⟩ := x14.at_.pls q (hfull q hq1)
        have P := G.old _ _ (hLa _ (Rm.m_pl (hfull q hq1))) (by simp) hpa
        k_steps
        refine ⟨?_⟩
        rename Fr _ _ _ _ => F1
        rename News _ _ _ _ => N1
        have hqm : q.lo ∈ (qs.filter fun p => decide (p.lo < bel)).map (·.lo) := List.mem_map_of_mem (f := Pl.lo) (List.mem_filter.mpr ⟨hq1, decide_eq_true hq2⟩)
        have hqx : ∀ x ∈ (qs.filter fun p => decide (p.lo < bel)).map (·.lo), x ≤ q.lo := fun x hx => by
          obtain ⟨z, hz, rfl⟩ := List.mem_map.mp hx
          have := List.mem_filter.mp hz
          exact hq3 z this.1 (of_decide_eq_true this.2)
        generalize (qs.filter fun p => decide (p.lo < bel)).map (·.lo) = los at hrs hqm hqx
        have hlos : los ≠ [] := fun e => by rw [e] at hqm; cases hqm
        refine PySem.W.ke_eq_ints (ys := []) (ns := los) (ms := []) (list_k F1 N1 KD2 (fun q hq => .tail _ hq)) ⟨_, (N1 _ (.head _)).1, rfl, _, rfl⟩ hrs .nil units ?_
        rw [decide_eq_false hlos]
        k_steps
        refine ⟨?_⟩
        refine kso_max F1 N1 (list_k F1 N1 KD2 (fun q hq => .tail _ hq)) hrs (List.length_pos_iff.mpr hlos) hhd fun h15 M tM kM F3 N3 hM1 hM2 => ?_
        have hqM : q.lo = M := Int.le_antisymm (hM2 _ hqm) (hqx _ hM1)
        clear F1 N1
        k_steps
        · exfalso; omega
        rename Fr _ _ _ _ => F8
        rename News _ _ _ _ => N8
        have b15 := b14.after G F8 N8 (fun q hq => .tail _ hq) (by simp)
        have x15 := x14.seg G F8 N8 (fun q hq => .tail _ hq) hLn (by simp)
        refine collected_ok (R := R0.up f n hd1 wt R0.col) ((c.deeper _ b15.st).le (by decide)) x15 K7 (by show hd1.length ≤ 30; omega) hwt3 fun h16 tk16 f2 n2 hd2 wt2 k2 kp16 ga16 x16 K16 hf2 hh2 hw2 => ?_
        have hf2 : f ≤ f2 := hf2
        have hh2 : hd2.length = hd1.length := hh2
        have hw2 : wt2.length = wt.length := hw2
        have x16 : RoomW w s₁.heap h16 (R0.up f2 n2 hd2 wt2 k2) := x16
        have K16 : Okay (R0.up f2 n2 hd2 wt2 k2) := K16
        have ga16 : (R0.up f2 n2 hd2 wt2 k2).adr = (R0.up f n hd1 wt R0.col).adr := ga16
        have b16 := b15.call kp16 hAC
        have hAC2 : ∀ a ∈ (R0.up f2 n2 hd2 wt2 k2).adr, _ := fun a ha => hAC a (ga16 ▸ ha)
        have hLn2 : s₁.heap.objs.size ∉ (R0.up f2 n2 hd2 wt2 k2).adr := fun q => (hAC2 _ q).2.1 rfl
        clear F8 N8 X' T' KD2
        refine b16.seg0 c fun g rest p loose mean mg mb G F' N' T' X' => ?_
        k_steps
        rename Fr _ _ _ _ => F8
        rename News _ _ _ _ => N8
        have b17 := b16.after G F8 N8 (by ktr_rel) (by simp)
        have x17 := x16.seg G F8 N8 (by ktr_rel) hLn2 (by simp)
        refine law_still_right_c (R := R0.up f2 n2 hd2 wt2 k2) ((c.deeper _ b17.st).le (by decide)) x17 K16 (by show hd2.length ≤ 20; omega) (by show wt2.length ≤ 3; omega) hmw (by show 2 ≤ f2; omega) fun h18 tk18 n3 hd3 kp18 g18 x18 K18 hh3 => ?_
        have x18 : RoomW w s₁.heap h18 (R0.up (f2 - 2) n3 hd3 wt2 k2) := x18
        have K18 : Okay (R0.up (f2 - 2) n3 hd3 wt2 k2) := K18
        have hh3 : hd3.length ≤ hd2.length + 3 := hh3
        have b18 := b17.call kp18 (fun a ha => hAC2 a (List.mem_append_left _ ha))
        have hLn3 : s₁.heap.objs.size ∉ (R0.up (f2 - 2) n3 hd3 wt2 k2).adr := fun q => (g18 _ q).elim hLn2 fun z => Nat.not_lt.mpr z b17.ns.lt
        have hAC3 : ∀ a ∈ (R0.up (f2 - 2) n3 hd3 wt2 k2).adr, (a ∈ ([] : List Addr) ∨ s₁.heap.objs.size ≤ a) ∧ a ≠ s₁.heap.objs.size ∧ s₁.heap.get? a = none := fun a ha => (g18 a ha).elim (hAC2 a) fun z =>
          ⟨.inr (Nat.le_trans (Nat.le_of_lt b17.ns.lt) z), Nat.ne_of_gt (Nat.lt_of_lt_of_le b17.ns.lt z), hH _ (Nat.le_trans (Nat.le_of_lt b17.ns.lt) z)⟩
        clear F8 N8 X' T'
        refine b18.seg0 c fun g rest p loose mean mg mb G F' N' T' X' => ?_
        k_steps
        rename Fr _ _ _ _ => F8
        rename News _ _ _ _ => N8
        have b19 := b18.after G F8 N8 (by ktr_rel) (by simp)
        have x19 := x18.seg G F8 N8 (by ktr_rel) hLn3 (by simp)
        refine law_joined_right_c (R := R0.up (f2 - 2) n3 hd3 wt2 k2) ((c.deeper _ b19.st).le (by decide)) x19 K18 (by show wt2.length ≤ 3; omega) hmw (by show 10 ≤ f2 - 2; omega) fun h20 tk20 n4 kp20 x20 K20 => ?_
        have x20 : RoomW w s₁.heap h20 (R0.up (f2 - 2 - 5) n4 hd3 wt2 k2) := x20
        have K20 : Okay (R0.up (f2 - 2 - 5) n4 hd3 wt2 k2) := K20
        have b20 := b19.call kp20 (fun a ha => hAC3 a (List.mem_append_left _ ha))
        clear F8 N8 X' T'
        refine b20.seg0 c fun g rest p loose mean mg mb G F' N' T' X' => ?_
        k_steps
        rename Fr _ _ _ _ => F8
        rename News _ _ _ _ => N8
        have b21 := b20.after G F8 N8 (by ktr_rel) (by simp)
        have x21 := x20.seg G F8 N8 (by ktr_rel) hLn3 (by simp)
        refine collected_ok (R := R0.up (f2 - 2 - 5) n4 hd3 wt2 k2) ((c.deeper _ b21.st).le (by decide)) x21 K20 (by show hd3.length ≤ 30; omega) (by show wt2.length ≤ 3; omega) fun h22 tk22 f3 n5 hd4 wt3 k3 kp22 ga22 x22 K22 hf3 hh4 hw4 => ?_
        have b22 := b21.call kp22 hAC3
        k_steps
        exact goodW_bool (⟨b22.ns, b22.st, Nat.le_refl _⟩ : Fr s₁.heap s₁.heap.objs.size h22 _) hgens (fun _ => rfl) (postOk ns) rfl
end Mine
set_option maxRecDepth 100000 in
theorem PySem.Challenge.cw_pq0161_01_holds : PySem.Challenge.rw_pq0161_01.Holds := by
  exact Mine.law_holds
end
