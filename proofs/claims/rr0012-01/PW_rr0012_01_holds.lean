import PyProof.Rows.All
import Wide.All
import OpenK.AllK
import Wide.FinOn
import PySem.Challenge.RW_rr0012_01
open PySem PySem.W PyProof.Rows
set_option Elab.async false
set_option maxRecDepth 100000
set_option linter.unusedVariables false
set_option linter.unusedSimpArgs false
namespace Mine
-- HdTop0
set_option maxRecDepth 100000 in
set_option maxHeartbeats 8000000 in
open_top hd for PySem.Challenge.rw_rr0012_01
-- Base
/-- no exception ever leaves -/
abbrev NoE : Value → Shared → Prop := fun _ _ => False
abbrev PR : Program := PySem.Challenge.rw_rr0012_01.row.prog
abbrev Im := Addr → Option Obj
abbrev Led := List (Addr × Obj)
def Im.put (b : Im) (a : Addr) (o : Obj) : Im := fun x => if x = a then some o else b x
def Le (b b' : Im) : Prop := ∀ a o, b a = some o → b' a = some o
theorem Le.refl (b : Im) : Le b b := fun _ _ e => e
theorem Le.at {b b' : Im} {a : Addr} {o : Obj} (l : Le b b') (h : b a = some o) : b' a = some o := l a o h
theorem Le.trans {a b c : Im} (x : Le a b) (y : Le b c) : Le a c := fun p o e => y p o (x p o e)
structure Gl (w : World) (g : Heap) : Prop where
  K : (hd.heap_39 w.params).In g
  T : ∃ mean mg mb, Top hd.view_39 (looseW hd.view_39 []) mean mg mb g
theorem Gl.keeps {w : World} {g g' : Heap} (G : Gl w g) (k : ∀ b o, g.get? b = some o → g'.get? b = some o) : Gl w g' :=
  ⟨G.K.keeps k, let ⟨a, b, c, T⟩ := G.T; ⟨a, b, c, T.keeps k⟩⟩
structure Cx where
  g : Heap
  b₀ : Im
  L : Addr
  gens : Array GenState
  drawn : Drawn
  os : OsState
structure St (w : World) (c : Cx) (b : Im) (mu : Led) (s : Shared) (m : Str → Option Value) : Prop where
  gl : Gl w c.g
  fr : Fr c.g c.L s.heap m
  keep : ∀ a o, b a = some o → s.heap.get? a = some o
  off : ∀ a, a ≤ c.L → b a = c.b₀ a
  offL : b c.L = none
  old : Le c.b₀ b
  led : ∀ p ∈ mu, s.heap.get? p.1 = some p.2 ∧ p.1 ≠ c.L ∧ b p.1 = none ∧ c.g.get? p.1 = none
  nd : (mu.map (·.1)).Nodup
  gens : s.gens = c.gens
  drawn : s.drawn = c.drawn
  os : s.os = c.os
structure Am (A : Around) (n : Nat) : Prop where
  hh : A.handled = none
  dp : A.depth + n < recursionLimit
  un : A.units + 10 * n + 200 < cLine
theorem Am.le {A : Around} {n k : Nat} (h : Am A n) (hk : k ≤ n) : Am A k := ⟨h.hh, by have := h.dp; omega, by have := h.un; omega⟩
theorem Am.deeper {A : Around} {n : Nat} {env : Env} (h : Am A (n + 1)) : Am (A.deeper env) n :=
  ⟨h.hh, by have := h.dp; show A.depth + 1 + n < _; omega, by have := h.un; show A.units + 3 + _ + _ < _; omega⟩
section
variable {w : World} {c : Cx} {b : Im} {mu : Led} {s : Shared} {m : Str → Option Value} {A : Around}
theorem St.toks (S : St w c b mu s m) (t : Nat) : St w c b mu { s with toks := t } m :=
  ⟨S.gl, S.fr, S.keep, S.off, S.offL, S.old, S.led, S.nd, S.gens, S.drawn, S.os⟩
theorem St.L_lt (S : St w c b mu s m) : c.L < s.heap.objs.size := S.fr.ns.lt
theorem St.none_ge (S : St w c b mu s m) {a : Addr} (h : s.heap.objs.size ≤ a) : b a = none := by
  cases q : b a with
  | none => rfl
  | some o => exact absurd (Heap.lt_size (S.keep _ _ q)) (Nat.not_lt.mpr h)
theorem St.nones (S : St w c b mu s m) {a : Addr} (h : s.heap.objs.size ≤ a) : c.g.get? a = none := by
  cases q : c.g.get? a with
  | none => rfl
  | some o => exact absurd (Heap.lt_size (S.fr.keep _ _ q)) (Nat.not_lt.mpr h)
theorem St.nomu (S : St w c b mu s m) {a : Addr} (h : s.heap.objs.size ≤ a) : a ∉ mu.map (·.1) := fun q => by
  obtain ⟨p, hp, e⟩ := List.mem_map.mp q
  exact absurd (Heap.lt_size (S.led p hp).1) (Nat.not_lt.mpr (e ▸ h))
/-- the heap grows: old objects stay, locals as they were -/
theorem St.grow (S : St w c b mu s m) {h' : Heap} {t : Nat} (k : ∀ a o, s.heap.get? a = some o → h'.get? a = some o) : St w c b mu { s with heap := h', toks := t } m :=
  ⟨S.gl, ⟨S.fr.ns.keeps k, fun a o e => k a o (S.fr.keep a o e), S.fr.above⟩, fun a o e => k a o (S.keep a o e), S.off, S.offL, S.old,
    fun p hp => ⟨k _ _ (S.led p hp).1, (S.led p hp).2⟩, S.nd, S.gens, S.drawn, S.os⟩
/-- a new object enters the written part -/
theorem St.enterI (S : St w c b mu s m) {a : Addr} {o : Obj} {s' : Shared} (S' : St w c b mu s' m) (ha : s.heap.objs.size ≤ a) (ho : s'.heap.get? a = some o) : St w c (b.put a o) mu s' m := by
  have hL := S.L_lt
  have hbn := S.none_ge ha
  have hle : Le b (b.put a o) := fun x y e => by
    unfold Im.put
    by_cases q : x = a
    · subst q; rw [hbn] at e; cases e
    · rw [if_neg q]; exact e
  refine ⟨S.gl, S'.fr, fun x y e => ?_, fun x hx => ?_, ?_, S.old.trans hle, fun p hp => ?_, S.nd, S'.gens, S'.drawn, S'.os⟩
  · unfold Im.put at e
    by_cases q : x = a
    · subst q; rw [if_pos rfl] at e; cases e; exact ho
    · rw [if_neg q] at e; exact S'.keep x y e
  · unfold Im.put
    rw [if_neg (fun q => by subst q; exact absurd (Nat.lt_of_lt_of_le hL ha) (Nat.not_lt.mpr hx))]
    exact S.off x hx
  · unfold Im.put
    rw [if_neg (Nat.ne_of_lt (Nat.lt_of_lt_of_le hL ha))]
    exact S.offL
  · have P := S'.led p hp
    refine ⟨P.1, P.2.1, ?_, P.2.2.2⟩
    unfold Im.put
    rw [if_neg (fun q : p.1 = a => S.nomu ha (List.mem_map.mpr ⟨p, hp, q⟩))]
    exact P.2.2.1
theorem Le.put (S : St w c b mu s m) {a : Addr} {o : Obj} (ha : s.heap.objs.size ≤ a) : Le b (b.put a o) := fun x y e => by
  unfold Im.put
  by_cases q : x = a
  · subst q; rw [S.none_ge ha] at e; cases e
  · rw [if_neg q]; exact e
theorem Im.put_at (b : Im) (a : Addr) (o : Obj) : b.put a o a = some o := if_pos rfl
/-- a new object enters the ledger of what may turn -/
theorem St.enterM (S : St w c b mu s m) {a : Addr} {o : Obj} {s' : Shared} (S' : St w c b mu s' m) (ha : s.heap.objs.size ≤ a) (ho : s'.heap.get? a = some o) : St w c b ((a, o) :: mu) s' m := by
  have hL := S.L_lt
  refine ⟨S.gl, S'.fr, S'.keep, S'.off, S'.offL, S'.old, fun p hp => ?_, ?_, S'.gens, S'.drawn, S'.os⟩
  · rcases List.mem_cons.mp hp with rfl | hp
    · exact ⟨ho, Nat.ne_of_gt (Nat.lt_of_lt_of_le hL ha), S.none_ge ha, S.nones ha⟩
    · exact S'.led p hp
  · rw [List.map_cons, List.nodup_cons]
    exact ⟨S.nomu ha, S.nd⟩
/-- objects are let go out of the ledger -/
theorem St.drop {mu' : Led} (S : St w c b mu s m) (h : mu'.Sublist mu) : St w c b mu' s m :=
  ⟨S.gl, S.fr, S.keep, S.off, S.offL, S.old, fun p hp => S.led p (h.subset hp), (h.map _).nodup S.nd, S.gens, S.drawn, S.os⟩
theorem St.perm {mu' : Led} (S : St w c b mu s m) (h : mu'.Perm mu) : St w c b mu' s m :=
  ⟨S.gl, S.fr, S.keep, S.off, S.offL, S.old, fun p hp => S.led p (h.subset hp), (h.map (·.1)).nodup_iff.mpr S.nd, S.gens, S.drawn, S.os⟩
/-- the ledger's head is frozen -/
theorem St.freeze {a : Addr} {o : Obj} (S : St w c b ((a, o) :: mu) s m) (ha : c.L < a) : St w c (b.put a o) mu s m := by
  have H := S.led (a, o) (.head _)
  have hbn : b a = none := H.2.2.1
  have nd := S.nd
  rw [List.map_cons, List.nodup_cons] at nd
  have hle : Le b (b.put a o) := fun x y e => by
    unfold Im.put
    by_cases q : x = a
    · subst q; rw [hbn] at e; cases e
    · rw [if_neg q]; exact e
  refine ⟨S.gl, S.fr, fun x y e => ?_, fun x hx => ?_, ?_, S.old.trans hle, fun p hp => ?_, nd.2, S.gens, S.drawn, S.os⟩
  · unfold Im.put at e
    by_cases q : x = a
    · subst q; rw [if_pos rfl] at e; cases e; exact H.1
    · rw [if_neg q] at e; exact S.keep x y e
  · unfold Im.put
    rw [if_neg (fun q => by subst q; exact absurd ha (Nat.not_lt.mpr hx))]
    exact S.off x hx
  · unfold Im.put
    rw [if_neg (fun q : c.L = a => H.2.1 q.symm)]
    exact S.offL
  · have P := S.led p (.tail _ hp)
    refine ⟨P.1, P.2.1, ?_, P.2.2.2⟩
    unfold Im.put
    rw [if_neg (fun q : p.1 = a => nd.1 (List.mem_map.mpr ⟨p, hp, q⟩))]
    exact P.2.2.1
theorem Le.freeze {a : Addr} {o : Obj} (S : St w c b ((a, o) :: mu) s m) : Le b (b.put a o) := fun x y e => by
  have hbn : b a = none := (S.led (a, o) (.head _)).2.2.1
  unfold Im.put
  by_cases q : x = a
  · subst q; rw [hbn] at e; cases e
  · rw [if_neg q]; exact e
/-- the ledger's head is turned -/
theorem St.turn {a : Addr} {o o' : Obj} {s' : Shared} (S : St w c b ((a, o) :: mu) s m) (hs : Heap.SameBut a s.heap s'.heap) (ho : s'.heap.get? a = some o')
    (e1 : s'.gens = s.gens := by rfl) (e2 : s'.drawn = s.drawn := by rfl) (e3 : s'.os = s.os := by rfl) : St w c b ((a, o') :: mu) s' m := by
  have H := S.led (a, o) (.head _)
  have nd := S.nd
  rw [List.map_cons, List.nodup_cons] at nd
  have k : ∀ x y, x ≠ a → s.heap.get? x = some y → s'.heap.get? x = some y := fun x y n e => (hs.2 x n).trans e
  refine ⟨S.gl, ⟨S.fr.ns.sameBut hs (fun q => H.2.1 q.symm), fun x y e => k x y (fun q => ?_) (S.fr.keep x y e), S.fr.above⟩, fun x y e => k x y (fun q => ?_) (S.keep x y e), S.off, S.offL, S.old, fun p hp => ?_, ?_, e1.trans S.gens, e2.trans S.drawn, e3.trans S.os⟩
  · subst q; rw [H.2.2.2] at e; cases e
  · subst q; rw [H.2.2.1] at e; cases e
  · rcases List.mem_cons.mp hp with rfl | hp
    · exact ⟨ho, H.2⟩
    · have P := S.led p (.tail _ hp)
      exact ⟨k _ _ (fun q : p.1 = a => nd.1 (List.mem_map.mpr ⟨p, hp, q⟩)) P.1, P.2⟩
  · rw [List.map_cons, List.nodup_cons]; exact nd
theorem St.turnAt {pre post : Led} {a : Addr} {o o' : Obj} {h' : Heap} {t : Nat} (S : St w c b (pre ++ (a, o) :: post) s m) (k : ∀ x y, x ≠ a → s.heap.get? x = some y → h'.get? x = some y) (ho : h'.get? a = some o') :
    St w c b (pre ++ (a, o') :: post) { s with heap := h', toks := t } m := by
  have H := S.led (a, o) (by simp)
  have nd := S.nd
  rw [List.map_append, List.map_cons] at nd
  have en : (pre ++ (a, o') :: post).map (·.1) = pre.map (·.1) ++ a :: post.map (·.1) := by rw [List.map_append, List.map_cons]
  obtain ⟨n1, n2, n3⟩ := List.nodup_append.mp nd
  rw [List.nodup_cons] at n2
  have npre : ∀ p ∈ pre, p.1 ≠ a := fun p hp q => n3 p.1 (List.mem_map_of_mem hp) a (.head _) q
  have npost : ∀ p ∈ post, p.1 ≠ a := fun p hp q => n2.1 (List.mem_map.mpr ⟨p, hp, q⟩)
  obtain ⟨oL, es, ep, hL, hLr⟩ := S.fr.ns
  refine ⟨S.gl, ⟨⟨oL, es, ep, k _ _ (fun q : c.L = a => H.2.1 q.symm) hL, hLr⟩, fun x y e => k x y (fun q => ?_) (S.fr.keep x y e), S.fr.above⟩, fun x y e => k x y (fun q => ?_) (S.keep x y e), S.off, S.offL, S.old, fun p hp => ?_, by rw [en]; exact nd, S.gens, S.drawn, S.os⟩
  · subst q; rw [H.2.2.2] at e; cases e
  · subst q; rw [H.2.2.1] at e; cases e
  · rcases List.mem_append.mp hp with hp | hp
    · have P := S.led p (List.mem_append_left _ hp)
      exact ⟨k _ _ (npre p hp) P.1, P.2⟩
    · rcases List.mem_cons.mp hp with rfl | hp
      · exact ⟨ho, H.2⟩
      · have P := S.led p (List.mem_append_right _ (.tail _ hp))
        exact ⟨k _ _ (npost p hp) P.1, P.2⟩
/-- a store into the frame -/
theorem St.setL {h' : Heap} {t : Nat} {m' : Str → Option Value} (S : St w c b mu s m) (hn : h'.Ns c.L m') (hs : Heap.SameBut c.L s.heap h') : St w c b mu { s with heap := h', toks := t } m' := by
  have k : ∀ x y, x ≠ c.L → s.heap.get? x = some y → h'.get? x = some y := fun x y n e => (hs.2 x n).trans e
  exact ⟨S.gl, S.fr.set hn hs, fun x y e => k x y (fun q => by subst q; rw [S.offL] at e; cases e) (S.keep x y e), S.off, S.offL, S.old, fun p hp => ⟨k _ _ (S.led p hp).2.1 (S.led p hp).1, (S.led p hp).2⟩, S.nd, S.gens, S.drawn, S.os⟩
end
/-- what a value-giving tree does: it makes things, turns nothing -/
def Pure (w : World) (A : Around) (t : Sem Value) (b : Im) (P : Value → Im → Prop) : Prop :=
  ∀ (c : Cx) (mu : Led) (s : Shared) (m : Str → Option Value) (Q : Value → Shared → Prop), St w c b mu s m →
    (∀ v b' s', Le b b' → St w c b' mu s' m → P v b' → Q v s') → wpAny (model PR w) A t Q NoE s
/-- a function's contract -/
def Fun (w : World) (f : Addr) (args : List Value) (b : Im) (P : Value → Im → Prop) (n : Nat) : Prop :=
  ∀ A, Am A n → Pure w A (call (.ref f) args) b P
section
variable {w : World} {c : Cx} {b : Im} {mu : Led} {s : Shared} {m : Str → Option Value} {A : Around}
/-- a def is entered, as code -/
theorem enterC {n : Nat} {R : Result → Shared → Prop} {name qual : Str} {params : Arguments} {body : List Stmt} {scope : Scope} {dV kV doc pm cdv ct oc : Value} {an od : Option Addr} {osl : Array (Option Value)} {f : Addr} {args : List Value} {binds : List (Str × Value)}
    (hA : Am A (n + 1)) (S : St w c b mu s m)
    (ho : (hd.heap_39 w.params).lookup f = some ⟨oc, od, .func (fnOf name qual params body scope dV kV doc pm an cdv ct), osl⟩) (hcd : codeIn (hd.heap_39 w.params) cdv qual = true)
    (hbind : BindsTo s (fnOf name qual params body scope dV kV doc pm an cdv ct) ⟨args, []⟩ binds) (hloc : ∀ y ∈ binds, scope.names.lookup y.1 = some .local)
    (hcell : ∀ x ∈ scope.names, x.2 ≠ .cell) (hco : scope.isCoroutine = false) (hgen : scope.isGenerator = false) (hk : scope.kind = .function)
    (h : ∀ (c' : Cx) (s' : Shared), c'.b₀ = b → Am (A.deeper (envOf qual scope c'.L f cdv)) n → St w c' b mu s' (fun y => binds.reverse.lookup y) →
      (∀ (b' : Im) (mu' : Led) (s'' : Shared) (m' : Str → Option Value), St w c' b' mu' s'' m' → St w c b' mu' s'' m) →
      wpAny (model PR w) (A.deeper (envOf qual scope c'.L f cdv)) (execs body (envOf qual scope c'.L f cdv))
        (fun fl s'' => R (.ok (.ret (match fl with | .ret v => v | _ => .none))) s'') NoE s') :
    codeAny (model PR w) A (.call (.ref f) ⟨args, []⟩) R s := by
  obtain ⟨mean, mg, mb, T⟩ := S.gl.T
  refine (codeAny_call_def (fd := fnOf name qual params body scope dV kV doc pm an cdv ct) (body := body) (binds := binds) (by have := hA.dp; omega) ((S.gl.K.keeps S.fr.keep) _ _ ho) rfl (T.nolimit.keeps S.fr.keep) (codeRec_of (S.gl.K.keeps S.fr.keep) hcd) rfl hbind hcell hloc (fun h₁ hns hk₁ => ?_) hco hgen hk)
  have stg : ∀ a o, c.g.get? a = some o → (hideAll s.heap (mu.map (·.1))).get? a = some o := fun a o e => hideAll_get _ (S.fr.keep a o e) fun q => by
    obtain ⟨p, hp, rfl⟩ := List.mem_map.mp q
    rw [(S.led p hp).2.2.2] at e; cases e
  obtain ⟨oL, es, ep, hL, hLr⟩ := S.fr.ns
  have nL : c.L ∉ mu.map (·.1) := fun q => by
    obtain ⟨p, hp, e⟩ := List.mem_map.mp q
    exact (S.led p hp).2.1 e
  have hLg := hideAll_get (mu.map (·.1)) hL nL
  let c' : Cx := ⟨hideAll s.heap (mu.map (·.1)), b, s.heap.objs.size, c.gens, c.drawn, c.os⟩
  have S' : St w c' b mu { s with heap := h₁, toks := s.toks + binds.length } (fun y => binds.reverse.lookup y) :=
    ⟨S.gl.keeps stg, ⟨hns, fun a o e => hk₁ a o (of_hideAll _ e), Nat.le_of_eq (hideAll_size _ _)⟩, fun a o e => hk₁ a o (S.keep a o e), fun _ _ => rfl, S.none_ge (Nat.le_refl _), Le.refl _,
      fun p hp => ⟨hk₁ _ _ (S.led p hp).1, Nat.ne_of_lt (Heap.lt_size (S.led p hp).1), (S.led p hp).2.2.1, hideAll_none _ (List.mem_map_of_mem hp)⟩, S.nd, S.gens, S.drawn, S.os⟩
  refine wpAny_mono (h c' _ rfl hA.deeper S' fun b' mu' s'' m' Z => ?_) (fun fl s'' hq => hq) fun _ _ x => x.elim
  have hLz : s''.heap.get? c.L = some oL := Z.fr.keep _ _ hLg
  have lt : c.L < s.heap.objs.size := S.L_lt
  refine ⟨S.gl, ⟨⟨oL, es, ep, hLz, hLr⟩, fun a o e => Z.fr.keep a o (stg a o e), S.fr.above⟩, Z.keep, fun a ha => (Z.off a (Nat.le_trans ha (Nat.le_of_lt lt))).trans (S.off a ha), (Z.off c.L (Nat.le_of_lt lt)).trans S.offL, S.old.trans Z.old, fun p hp => ?_, Z.nd, Z.gens, Z.drawn, Z.os⟩
  have P := Z.led p hp
  refine ⟨P.1, fun q => ?_, P.2.2.1, ?_⟩
  · have := P.2.2.2; rw [q, show c'.g.get? c.L = some oL from hLg] at this; cases this
  · cases q : c.g.get? p.1 with
    | none => rfl
    | some o => have := P.2.2.2; rw [show c'.g.get? p.1 = some o from stg _ _ q] at this; cases this
/-- a def is entered -/
theorem enter {n : Nat} {Q : Value → Shared → Prop} {name qual : Str} {params : Arguments} {body : List Stmt} {scope : Scope} {dV kV doc pm cdv ct oc : Value} {an od : Option Addr} {osl : Array (Option Value)} {f : Addr} {args : List Value} {binds : List (Str × Value)}
    (hA : Am A (n + 1)) (S : St w c b mu s m)
    (ho : (hd.heap_39 w.params).lookup f = some ⟨oc, od, .func (fnOf name qual params body scope dV kV doc pm an cdv ct), osl⟩) (hcd : codeIn (hd.heap_39 w.params) cdv qual = true)
    (hbind : BindsTo s (fnOf name qual params body scope dV kV doc pm an cdv ct) ⟨args, []⟩ binds) (hloc : ∀ y ∈ binds, scope.names.lookup y.1 = some .local)
    (hcell : ∀ x ∈ scope.names, x.2 ≠ .cell) (hco : scope.isCoroutine = false) (hgen : scope.isGenerator = false) (hk : scope.kind = .function)
    (h : ∀ (c' : Cx) (s' : Shared), c'.b₀ = b → Am (A.deeper (envOf qual scope c'.L f cdv)) n → St w c' b mu s' (fun y => binds.reverse.lookup y) →
      (∀ (b' : Im) (mu' : Led) (s'' : Shared) (m' : Str → Option Value), St w c' b' mu' s'' m' → St w c b' mu' s'' m) →
      wpAny (model PR w) (A.deeper (envOf qual scope c'.L f cdv)) (execs body (envOf qual scope c'.L f cdv))
        (fun fl s'' => Q (match fl with | .ret v => v | _ => .none) s'') NoE s') :
    wpAny (model PR w) A (call (.ref f) args) Q NoE s :=
  wpAny_call (enterC hA S ho hcd hbind hloc hcell hco hgen hk h)
end
open PySem.Calls
-- Rules
abbrev tupO (vs : List Value) : Obj := { cls := .type "tuple", data := .seq vs.toArray }
abbrev lstO (vs : List Value) (n : Nat := 0) : Obj := { cls := .type "list", data := .seq vs.toArray n }
def Sq (w : World) (A : Around) (rest : List Stmt) (env : Env) (Q : Flow → Shared → Prop) : Flow → Shared → Prop :=
  fun f s' => match f with | .next => wpAny (model PR w) A (execs rest env) Q NoE s' | f => Q f s'
section
variable {w : World} {c : Cx} {b : Im} {mu : Led} {s : Shared} {m : Str → Option Value} {A : Around} {qual : Str} {scope : Scope} {f : Addr} {cdv : Value} {env : Env}
theorem sq_next {rest : List Stmt} {Q : Flow → Shared → Prop} (h : wpAny (model PR w) A (execs rest env) Q NoE s) : Sq w A rest env Q .next s := h
theorem sq_ret {rest : List Stmt} {Q : Flow → Shared → Prop} {v : Value} (h : Q (.ret v) s) : Sq w A rest env Q (.ret v) s := h
theorem sq_cont {rest : List Stmt} {Q : Flow → Shared → Prop} (h : Q .cont s) : Sq w A rest env Q .cont s := h
-- statements
theorem s_of {st : Stmt} {rest : List Stmt} {Q : Flow → Shared → Prop} (h : wpAny (model PR w) A (exec st env) (Sq w A rest env Q) NoE s) : wpAny (model PR w) A (execs (st :: rest) env) Q NoE s :=
  wpAny_execs_cons (wpAny_mono h (fun fl s' q => by cases fl <;> exact q) fun _ _ x => x)
theorem s_nil {Q : Flow → Shared → Prop} (h : Q .next s) : wpAny (model PR w) A (execs [] env) Q NoE s := wpAny_execs_nil h
theorem s_ret {e : Expr} {pos : Pos} {rest : List Stmt} {Q : Flow → Shared → Prop} (h : wpAny (model PR w) A (eval e env) (fun v => Q (.ret v)) NoE s) : wpAny (model PR w) A (execs (.Return (some e) pos :: rest) env) Q NoE s :=
  s_of (wpAny_Return_some h)
theorem s_if {test : Expr} {body orelse rest : List Stmt} {pos : Pos} {Q : Flow → Shared → Prop}
    (h : wpAny (model PR w) A (isTrue test env (eval test env)) (fun t s₂ => if t then wpAny (model PR w) A (execs body env) (Sq w A rest env Q) NoE s₂ else wpAny (model PR w) A (execs orelse env) (Sq w A rest env Q) NoE s₂) NoE s) :
    wpAny (model PR w) A (execs (.If test body orelse pos :: rest) env) Q NoE s := s_of (wpAny_If h)
theorem s_cont {pos : Pos} {rest : List Stmt} {Q : Flow → Shared → Prop} (h : Q .cont s) : wpAny (model PR w) A (execs (.Continue pos :: rest) env) Q NoE s := s_of (wpAny_Continue h)
theorem s_asg {x : Str} {px pos : Pos} {value : Expr} {rest : List Stmt} {Q : Flow → Shared → Prop}
    (h : wpAny (model PR w) A (eval value env) (fun v s₁ => wpAny (model PR w) A (storeName env x v) (fun _ s₂ => wpAny (model PR w) A (execs rest env) Q NoE s₂) NoE s₁) NoE s)
    (hs : swapsWith value (some (.Name x px)) pos.line env = pure false := by kernel_rfl) : wpAny (model PR w) A (execs (.Assign [.Name x px] value pos :: rest) env) Q NoE s := s_of (wpAny_Assign_Name h hs)
-- names
theorem e_nm {x : Str} {pos : Pos} {v : Value} {Q : Value → Shared → Prop} (S : St w c b mu s m) (hv : m x = some v) (h : Q v s)
    (hk : scope.kind = .function := by kernel_rfl) (hl : (envOf qual scope c.L f cdv).kindOf x = some .local := by kernel_rfl) (hd : (x == ("__debug__" : Str)) = false := by kernel_rfl) :
    wpAny (model PR w) A (eval (.Name x pos) (envOf qual scope c.L f cdv)) Q NoE s := ld S.fr hv h hk hl hd
theorem e_gn {x : Str} {pos : Pos} {v : Value} {Q : Value → Shared → Prop} (S : St w c b mu s m) (e : nsIn (hd.heap_39 w.params) mainGlobals x = some (some v)) (h : Q v s)
    (hk : scope.kind = .function := by kernel_rfl) (hl : (envOf qual scope c.L f cdv).kindOf x = some .globalImplicit := by kernel_rfl) (hd : (x == ("__debug__" : Str)) = false := by kernel_rfl) :
    wpAny (model PR w) A (eval (.Name x pos) (envOf qual scope c.L f cdv)) Q NoE s := let ⟨_, _, _, T⟩ := S.gl.T; name_K S.fr S.gl.K (topRead_of T) e h hk hl hd
theorem e_bn {x : Str} {pos : Pos} {v : Value} {Q : Value → Shared → Prop} (S : St w c b mu s m) (e : nsIn (hd.heap_39 w.params) mainGlobals x = some none) (hv : bootBuiltins x = some v) (hn : x ≠ "__name__") (h : Q v s)
    (hk : scope.kind = .function := by kernel_rfl) (hl : (envOf qual scope c.L f cdv).kindOf x = some .globalImplicit := by kernel_rfl) (hd : (x == ("__debug__" : Str)) = false := by kernel_rfl) :
    wpAny (model PR w) A (eval (.Name x pos) (envOf qual scope c.L f cdv)) Q NoE s := let ⟨_, _, _, T⟩ := S.gl.T; name_B S.fr S.gl.K (topRead_of T) e hv hn h hk hl hd
theorem e_st {x : Str} {v : Value} {Q : Unit → Shared → Prop} (S : St w c b mu s m) (h : ∀ s', St w c b mu s' (fun y => if y = x then some v else m y) → Q () s')
    (hk : scope.kind = .function := by kernel_rfl) (hl : (envOf qual scope c.L f cdv).kindOf x = some .local := by kernel_rfl) : wpAny (model PR w) A (storeName (envOf qual scope c.L f cdv) x v) Q NoE s :=
  wpAny_storeName_local hl S.fr.ns (fun h' hn hs => h _ (S.setL hn hs)) (by show (scope.kind == .class || (scope.kind == .module && c.L != mainGlobals)) = false; rw [hk]; rfl)
-- constants
theorem e_int {i : Int} {k : Nat} {pos : Pos} {Q : Value → Shared → Prop} (S : St w c b mu s m) (h : ∀ t s', St w c b mu s' m → Q (.int i t) s') : wpAny (model PR w) A (eval (.Constant (.int i) k pos) env) Q NoE s :=
  wpAny_Constant_int (h _ _ (S.toks _))
theorem e_str {x : Str} {k : Nat} {pos : Pos} {Q : Value → Shared → Prop} (S : St w c b mu s m) (h : ∀ t s', St w c b mu s' m → Q (.str x t) s') : wpAny (model PR w) A (eval (.Constant (.str x) k pos) env) Q NoE s :=
  wpAny_Constant_str (h _ _ (S.toks _))
theorem e_bool {x : Bool} {k : Nat} {pos : Pos} {Q : Value → Shared → Prop} (h : Q (.bool x) s) : wpAny (model PR w) A (eval (.Constant (.bool x) k pos) env) Q NoE s := wpAny_Constant_bool h
-- subscripts
theorem e_sub {value slice : Expr} {pos : Pos} {Q : Value → Shared → Prop} (h : wpAny (model PR w) A (eval value env) (fun o s₁ => wpAny (model PR w) A (eval slice env) (fun i s₂ => wpAny (model PR w) A (subscriptTail value slice o i) Q NoE s₂) NoE s₁) NoE s) :
    wpAny (model PR w) A (eval (.Subscript value slice pos) env) Q NoE s := Subscript_ h
theorem isTup_of {vs : List Value} {a : Addr} {h : Heap} (e : h.get? a = some (tupO vs)) : IsTup h a vs.toArray := ⟨_, e, rfl, _, rfl⟩
theorem isList_of {vs : List Value} {a : Addr} {h : Heap} {n : Nat} (e : h.get? a = some (lstO vs n)) : h.IsList a vs.toArray := ⟨_, e, rfl, _, rfl⟩
theorem seq_at {k : Int} {n : Nat} (h0 : 0 ≤ k) (hl : k.toNat < n) : seqIndex? k n = some k.toNat := by
  have e : k = (k.toNat : Int) := by omega
  generalize k.toNat = j at e hl
  subst e
  unfold seqIndex?
  simp
  omega
theorem i_tup {value slice : Expr} {a : Addr} {vs : List Value} {k : Int} {u : Tok} {x : Value} {Q : Value → Shared → Prop} (S : St w c b mu s m) (ha : b a = some (tupO vs)) (h0 : 0 ≤ k) (hk : k < 2 ^ 63) (hx : vs[k.toNat]? = some x) (h : Q x s)
    (hs : subscripted slice false (.ref a) (.int k u) = operate [.ref a, .int k u] (getItem (.ref a) (.int k u)) := by kernel_rfl) :
    wpAny (model PR w) A (subscriptTail value slice (.ref a) (.int k u)) Q NoE s :=
  have hl : k.toNat < vs.length := (List.getElem?_eq_some_iff.mp hx).1
  item_tupleT (isTup_of (S.keep _ _ ha)) (by omega) hk (j := k.toNat) (seq_at h0 hl) hx h hs
-- comparisons
theorem c_one {l r : Expr} {op : CmpOp} {pos : Pos} {Q : Value → Shared → Prop} (h : wpAny (model PR w) A (eval l env) (fun x s₁ => wpAny (model PR w) A (eval r env) (fun y s₂ => wpAny (model PR w) A (compareOp op x y) Q NoE s₂) NoE s₁) NoE s)
    (hm : behindInMarks op r = false := by kernel_rfl) : wpAny (model PR w) A (eval (.Compare l [op] [r] pos) env) Q NoE s := wpAny_Compare1 h hm
theorem t_cmp {l r : Expr} {op : CmpOp} {pos : Pos} {whole : Sem Value} {Q : Bool → Shared → Prop} (h : wpAny (model PR w) A (eval l env) (fun x s₁ => wpAny (model PR w) A (eval r env) (fun y s₂ => wpAny (model PR w) A (compareOp op x y) (fun z s₃ => wpAny (model PR w) A (truthy z) Q NoE s₃) NoE s₂) NoE s₁) NoE s)
    (hm : behindInMarks op r = false := by kernel_rfl) : wpAny (model PR w) A (isTrue (.Compare l [op] [r] pos) env whole) Q NoE s := wpAny_isTrue_Compare1 h hm
theorem c_eqS {x y : Str} {t u : Tok} {Q : Value → Shared → Prop} (h : Q (.bool (x == y)) s) : wpAny (model PR w) A (compareOp .Eq (.str x t) (.str y u)) Q NoE s := PyProof.Rows.eq_str h
theorem t_bool {x : Bool} {Q : Bool → Shared → Prop} (h : Q x s) : wpAny (model PR w) A (truthy (.bool x)) Q NoE s := wpAny_truthy_bool h
theorem b_or {e₁ e₂ : Expr} {rest : List Expr} {pos : Pos} {Q : Value → Shared → Prop}
    (h : wpAny (model PR w) A (eval e₁ env) (fun v s₁ => wpAny (model PR w) A (truthy v) (fun z s₂ => if z then Q v s₂ else wpAny (model PR w) A (eval (.BoolOp .Or (e₂ :: rest) pos) env) Q NoE s₂) NoE s₁) NoE s) :
    wpAny (model PR w) A (eval (.BoolOp .Or (e₁ :: e₂ :: rest) pos) env) Q NoE s := PyProof.Rows.BoolOp_or h
theorem b_one {op : BoolOp} {e : Expr} {pos : Pos} {Q : Value → Shared → Prop} (h : wpAny (model PR w) A (eval e env) Q NoE s) : wpAny (model PR w) A (eval (.BoolOp op [e] pos) env) Q NoE s := PyProof.Rows.BoolOp_one h
-- calls of a def of the text's
theorem e_call {x : Str} {px : Pos} {e : Expr} {rest : List Expr} {pos : Pos} {fa : Addr} {Q : Value → Shared → Prop} (S : St w c b mu s m)
    (h : wpAny (model PR w) A (spliced (backTo pos (starEach (e :: rest) (envOf qual scope c.L f cdv)))) (fun vs s₁ => (hd.heap_39 w.params).In s₁.heap ∧ wpAny (model PR w) A (call (.ref fa) vs) Q NoE s₁) NoE s)
    (hx : nsIn (hd.heap_39 w.params) mainGlobals x = some (some (.ref fa)) := by kernel_rfl) (hkp : keepIn (hd.heap_39 w.params) (.ref fa) = true := by kernel_rfl)
    (hk : scope.kind = .function := by kernel_rfl) (hl : (envOf qual scope c.L f cdv).kindOf x = some .globalImplicit := by kernel_rfl) (hd : (x == ("__debug__" : Str)) = false := by kernel_rfl)
    (he : eval (.Call (.Name x px) (e :: rest) [] pos) (envOf qual scope c.L f cdv) = (do callWith pos (← eval (.Name x px) (envOf qual scope c.L f cdv)) [] (backTo pos (starEach (e :: rest) (envOf qual scope c.L f cdv))) (backToKw pos (keywordEach [] (envOf qual scope c.L f cdv)))) := by kernel_rfl)
    (he2 : starEach (e :: rest) (envOf qual scope c.L f cdv) = (false, eval e (envOf qual scope c.L f cdv)) :: starEach rest (envOf qual scope c.L f cdv) := by kernel_rfl) (hplain : (backTo pos (starEach rest (envOf qual scope c.L f cdv))).any (·.1) = false := by kernel_rfl) :
    wpAny (model PR w) A (eval (.Call (.Name x px) (e :: rest) [] pos) (envOf qual scope c.L f cdv)) Q NoE s :=
  Call_ (e_gn S hx (callWith_K S.gl.K hkp (by simpa only [List.nil_append] using h) he2 hplain) hk hl hd) he
theorem e_call0 {x : Str} {px : Pos} {pos : Pos} {fa : Addr} {Q : Value → Shared → Prop} (S : St w c b mu s m)
    (h : wpAny (model PR w) A (call (.ref fa) []) Q NoE s)
    (hx : nsIn (hd.heap_39 w.params) mainGlobals x = some (some (.ref fa)) := by kernel_rfl) (hkp : keepIn (hd.heap_39 w.params) (.ref fa) = true := by kernel_rfl)
    (hk : scope.kind = .function := by kernel_rfl) (hl : (envOf qual scope c.L f cdv).kindOf x = some .globalImplicit := by kernel_rfl) (hd : (x == ("__debug__" : Str)) = false := by kernel_rfl)
    (he : eval (.Call (.Name x px) [] [] pos) (envOf qual scope c.L f cdv) = (do callWith pos (← eval (.Name x px) (envOf qual scope c.L f cdv)) [] (backTo pos (starEach [] (envOf qual scope c.L f cdv))) (backToKw pos (keywordEach [] (envOf qual scope c.L f cdv)))) := by kernel_rfl) :
    wpAny (model PR w) A (eval (.Call (.Name x px) [] [] pos) (envOf qual scope c.L f cdv)) Q NoE s :=
  Call_ (e_gn S hx (callWith_K0 (S.gl.K.keeps S.fr.keep) hkp h) hk hl hd) he
theorem a_in {P : Prop} (S : St w c b mu s m) (h : P) : (hd.heap_39 w.params).In s.heap ∧ P := ⟨S.gl.K.keeps S.fr.keep, h⟩
theorem a_more {e : Expr} {rest : List Expr} {pos : Pos} {Q : List Value → Shared → Prop}
    (h : wpAny (model PR w) A (eval e env) (fun v s₁ => wpAny (model PR w) A (spliced (backTo pos (starEach rest env))) (fun vs s₂ => Q (v :: vs) s₂) NoE s₁) NoE s)
    (he : starEach (e :: rest) env = (false, eval e env) :: starEach rest env := by kernel_rfl) : wpAny (model PR w) A (spliced (backTo pos (starEach (e :: rest) env))) Q NoE s := spliced_more h he
theorem a_none {pos : Pos} {Q : List Value → Shared → Prop} (h : Q [] s) : wpAny (model PR w) A (spliced (backTo pos (starEach [] env))) Q NoE s := spliced_none h
-- calls of built-ins
theorem e_bcall {fn : Expr} {e : Expr} {rest : List Expr} {pos : Pos} {id : String} {Q : Value → Shared → Prop}
    (h0 : wpAny (model PR w) A (eval fn env) (fun v s₁ => v = .builtin id ∧ s₁ = s) NoE s)
    (h : wpAny (model PR w) A (spliced (backTo pos (starEach (e :: rest) env))) (fun vs s₁ => wpAny (model PR w) A (call (.builtin id) vs) Q NoE s₁) NoE s)
    (he : eval (.Call fn (e :: rest) [] pos) env = (do callWith pos (← eval fn env) [] (backTo pos (starEach (e :: rest) env)) (backToKw pos (keywordEach [] env))) := by kernel_rfl)
    (he2 : starEach (e :: rest) env = (false, eval e env) :: starEach rest env := by kernel_rfl) (hplain : (backTo pos (starEach rest env)).any (·.1) = false := by kernel_rfl) :
    wpAny (model PR w) A (eval (.Call fn (e :: rest) [] pos) env) Q NoE s :=
  Call_ (wpAny_mono h0 (fun v s₁ q => by obtain ⟨rfl, rfl⟩ := q; exact callWith_builtin1 h he2 hplain) fun _ _ x => x) he
theorem e_tcall {fn : Expr} {e : Expr} {rest : List Expr} {pos : Pos} {T : String} {Q : Value → Shared → Prop}
    (h0 : wpAny (model PR w) A (eval fn env) (fun v s₁ => v = .type T ∧ s₁ = s) NoE s)
    (h : wpAny (model PR w) A (spliced (backTo pos (starEach (e :: rest) env))) (fun vs s₁ => wpAny (model PR w) A (call (.type T) vs) Q NoE s₁) NoE s)
    (he : eval (.Call fn (e :: rest) [] pos) env = (do callWith pos (← eval fn env) [] (backTo pos (starEach (e :: rest) env)) (backToKw pos (keywordEach [] env))) := by kernel_rfl)
    (he2 : starEach (e :: rest) env = (false, eval e env) :: starEach rest env := by kernel_rfl) (hplain : (backTo pos (starEach rest env)).any (·.1) = false := by kernel_rfl) :
    wpAny (model PR w) A (eval (.Call fn (e :: rest) [] pos) env) Q NoE s :=
  Call_ (wpAny_mono h0 (fun v s₁ q => by obtain ⟨rfl, rfl⟩ := q; exact PyProof.Rows.callWith_type1 h he2 hplain) fun _ _ x => x) he
-- displays
theorem e_tup {elts : List Expr} {k : Nat} {pos : Pos} {Q : Value → Shared → Prop} (h : wpAny (model PR w) A (spliced (backTo pos (starEach elts env))) (fun vs s₁ => wpAny (model PR w) A (newTuple vs) Q NoE s₁) NoE s) :
    wpAny (model PR w) A (eval (.Tuple elts k pos) env) Q NoE s := Tuple_ h
theorem e_lst {elts : List Expr} {pos : Pos} {Q : Value → Shared → Prop} (h : wpAny (model PR w) A (spliced (backTo pos (starEach elts env))) (fun vs s₁ => wpAny (model PR w) A (newList vs) Q NoE s₁) NoE s) :
    wpAny (model PR w) A (eval (.List elts pos) env) Q NoE s := List_ h
theorem St.pushI {o : Obj} (S : St w c b mu s m) (hf : o.isFreed = false) : St w c (b.put s.heap.objs.size o) mu { s with heap := s.heap.push o } m :=
  S.enterI (s' := { s with heap := s.heap.push o }) (S.grow (t := s.toks) fun _ _ e => Heap.get?_push_of_some _ e) (Nat.le_refl _) (Heap.get?_push_size _ hf)
theorem St.pushM {o : Obj} (S : St w c b mu s m) (hf : o.isFreed = false) : St w c b ((s.heap.objs.size, o) :: mu) { s with heap := s.heap.push o } m :=
  S.enterM (s' := { s with heap := s.heap.push o }) (S.grow (t := s.toks) fun _ _ e => Heap.get?_push_of_some _ e) (Nat.le_refl _) (Heap.get?_push_size _ hf)
theorem n_tup {vs : List Value} {Q : Value → Shared → Prop} (S : St w c b mu s m) (h : ∀ a b' s', Le b b' → b' a = some (tupO vs) → St w c b' mu s' m → Q (.ref a) s') (hz : vs.length ≤ sizeLine := by exact Nat.le_of_ble_eq_true rfl) :
    wpAny (model PR w) A (newTuple vs) Q NoE s :=
  wpAny_newTuple (h _ _ _ (Le.put S (Nat.le_refl _)) (Im.put_at ..) (S.pushI rfl)) hz
/-- a list that will not turn -/
theorem n_lst {vs : List Value} {Q : Value → Shared → Prop} (S : St w c b mu s m) (h : ∀ a b' s', Le b b' → b' a = some (lstO vs) → St w c b' mu s' m → Q (.ref a) s') (hz : vs.length ≤ sizeLine := by exact Nat.le_of_ble_eq_true rfl) :
    wpAny (model PR w) A (newList vs) Q NoE s :=
  wpAny_newList (h _ _ _ (Le.put S (Nat.le_refl _)) (Im.put_at ..) (S.pushI rfl)) hz
/-- a list that will turn -/
theorem n_lstM {vs : List Value} {Q : Value → Shared → Prop} (S : St w c b mu s m) (h : ∀ a s', c.L < a → St w c b ((a, lstO vs) :: mu) s' m → Q (.ref a) s') (hz : vs.length ≤ sizeLine := by exact Nat.le_of_ble_eq_true rfl) :
    wpAny (model PR w) A (newList vs) Q NoE s :=
  wpAny_newList (h _ _ S.L_lt (S.pushM rfl)) hz
-- lists of the ledger, by what they hold
def LO (o : Obj) (vs : List Value) : Prop := o.cls = .type "list" ∧ ∃ n, o.data = .seq vs.toArray n
theorem LO.isList {o : Obj} {vs : List Value} {h : Heap} {a : Addr} (x : LO o vs) (e : h.get? a = some o) : h.IsList a vs.toArray := ⟨o, e, x.1, x.2⟩
theorem LO.lst (vs : List Value) (n : Nat) : LO (lstO vs n) vs := ⟨rfl, n, rfl⟩
theorem St.at (S : St w c b mu s m) {a : Addr} {o : Obj} (h : (a, o) ∈ mu) : s.heap.get? a = some o := (S.led _ h).1
theorem i_lst {value slice : Expr} {a : Addr} {vs : List Value} {k : Int} {u : Tok} {x : Value} {Q : Value → Shared → Prop} (hl : s.heap.IsList a vs.toArray) (h0 : 0 ≤ k) (hk : k < 2 ^ 63) (hx : vs[k.toNat]? = some x) (h : Q x s)
    (hs : subscripted slice false (.ref a) (.int k u) = operate [.ref a, .int k u] (getItem (.ref a) (.int k u)) := by kernel_rfl) :
    wpAny (model PR w) A (subscriptTail value slice (.ref a) (.int k u)) Q NoE s :=
  tail_any hl.typeIs slot_list_getitem.lookup (wpAny_getItem_list hl h0 hk (by simpa using hx) h) hs
theorem i_mu {value slice : Expr} {a : Addr} {o : Obj} {vs : List Value} {k : Int} {u : Tok} {x : Value} {Q : Value → Shared → Prop} (S : St w c b mu s m) (hm : (a, o) ∈ mu) (hl : LO o vs) (h0 : 0 ≤ k) (hk : k < 2 ^ 63) (hx : vs[k.toNat]? = some x) (h : Q x s)
    (hs : subscripted slice false (.ref a) (.int k u) = operate [.ref a, .int k u] (getItem (.ref a) (.int k u)) := by kernel_rfl) :
    wpAny (model PR w) A (subscriptTail value slice (.ref a) (.int k u)) Q NoE s := i_lst (hl.isList (S.at hm)) h0 hk hx h hs
theorem i_im {value slice : Expr} {a : Addr} {n : Nat} {vs : List Value} {k : Int} {u : Tok} {x : Value} {Q : Value → Shared → Prop} (S : St w c b mu s m) (hl : b a = some (lstO vs n)) (h0 : 0 ≤ k) (hk : k < 2 ^ 63) (hx : vs[k.toNat]? = some x) (h : Q x s)
    (hs : subscripted slice false (.ref a) (.int k u) = operate [.ref a, .int k u] (getItem (.ref a) (.int k u)) := by kernel_rfl) :
    wpAny (model PR w) A (subscriptTail value slice (.ref a) (.int k u)) Q NoE s := i_lst (isList_of (S.keep _ _ hl)) h0 hk hx h hs
theorem b_len {a : Addr} {vs : List Value} {Q : Value → Shared → Prop} (S : St w c b mu s m) (hl : s.heap.IsList a vs.toArray) (hfit : vs.length < 2 ^ 62) (h : ∀ t s', St w c b mu s' m → Q (.int vs.length t) s') :
    wpAny (model PR w) A (call (.builtin "len") [.ref a]) Q NoE s := by
  refine Calls.call_len_list hl (by simp only [List.size_toArray]; omega) ?_
  simpa using h _ _ (S.toks _)
theorem b_abs {x : Int} {t : Tok} {Q : Value → Shared → Prop} (S : St w c b mu s m) (h : ∀ y t s', 0 ≤ y → St w c b mu s' m → Q (.int y t) s') : wpAny (model PR w) A (call (.builtin "abs") [.int x t]) Q NoE s :=
  call_abs_int fun u tk => h _ _ _ (by split <;> omega) (S.toks _)
theorem o_mod {x k : Int} {t u : Tok} {Q : Value → Shared → Prop} (S : St w c b mu s m) (hk : 0 < k) (h : ∀ y t s', 0 ≤ y → y < k → St w c b mu s' m → Q (.int y t) s') : wpAny (model PR w) A (binaryOp .Mod (.int x t) (.int k u)) Q NoE s :=
  PyProof.Rows.mod_int (by omega) (h _ _ _ (fmod_lo _ hk) (fmod_hi _ hk) (S.toks _))
theorem o_add {x k : Int} {t u : Tok} {Q : Value → Shared → Prop} (S : St w c b mu s m) (h : ∀ t s', St w c b mu s' m → Q (.int (x + k) t) s') : wpAny (model PR w) A (binaryOp .Add (.int x t) (.int k u)) Q NoE s :=
  PyProof.Rows.add_int (h _ _ (S.toks _))
theorem o_iadd {x k : Int} {t u : Tok} {Q : Value → Shared → Prop} (S : St w c b mu s m) (h : ∀ t s', St w c b mu s' m → Q (.int (x + k) t) s') : wpAny (model PR w) A (inplaceOp .Add (.int x t) (.int k u)) Q NoE s :=
  PyProof.Rows.iadd_int (h _ _ (S.toks _))
theorem o_sub {x k : Int} {t u : Tok} {Q : Value → Shared → Prop} (S : St w c b mu s m) (h : ∀ t s', St w c b mu s' m → Q (.int (x - k) t) s') : wpAny (model PR w) A (binaryOp .Sub (.int x t) (.int k u)) Q NoE s :=
  PyProof.Rows.sub_int (h _ _ (S.toks _))
theorem c_ge {x y : Int} {t u : Tok} {Q : Value → Shared → Prop} (h : Q (.bool (decide (x ≥ y))) s) : wpAny (model PR w) A (compareOp .GtE (.int x t) (.int y u)) Q NoE s := P.ge_int h
theorem c_gt {x y : Int} {t u : Tok} {Q : Value → Shared → Prop} (h : Q (.bool (decide (x > y))) s) : wpAny (model PR w) A (compareOp .Gt (.int x t) (.int y u)) Q NoE s := P.gt_int h
theorem c_le {x y : Int} {t u : Tok} {Q : Value → Shared → Prop} (h : Q (.bool (decide (x ≤ y))) s) : wpAny (model PR w) A (compareOp .LtE (.int x t) (.int y u)) Q NoE s := P.le_int h
theorem c_eqI {x y : Int} {t u : Tok} {Q : Value → Shared → Prop} (h : Q (.bool (x == y)) s) : wpAny (model PR w) A (compareOp .Eq (.int x t) (.int y u)) Q NoE s := P.eq_int h
theorem e_bin {l r : Expr} {op : Operator} {pos : Pos} {Q : Value → Shared → Prop} (h : wpAny (model PR w) A (eval l env) (fun x s₁ => wpAny (model PR w) A (eval r env) (fun y s₂ => wpAny (model PR w) A (binaryOp op x y) Q NoE s₂) NoE s₁) NoE s) :
    wpAny (model PR w) A (eval (.BinOp l op r pos) env) Q NoE s := wpAny_BinOp h
theorem s_augsub {o i value : Expr} {tpos pos : Pos} {op : Operator} {rest : List Stmt} {Q : Flow → Shared → Prop}
    (h : wpAny (model PR w) A (eval o env) (fun ov s₁ => wpAny (model PR w) A (eval i env) (fun iv s₂ => wpAny (model PR w) A (getItem ov iv) (fun old s₃ =>
          wpAny (model PR w) A (eval value env) (fun v s₄ => wpAny (model PR w) A (inplaceOp op old v) (fun new s₅ =>
            wpAny (model PR w) A (setItem ov iv new) (fun _ s₆ => wpAny (model PR w) A (execs rest env) Q NoE s₆) NoE s₅) NoE s₄) NoE s₃) NoE s₂) NoE s₁) NoE s)
    (hi : ∀ ov iv new, augStore i ov iv new = (do holding [new, ov, iv] (setItem ov iv new); release [new, ov, iv] []; pure .next) := by intros; kernel_rfl) :
    wpAny (model PR w) A (execs (.AugAssign (.Subscript o i tpos) op value pos :: rest) env) Q NoE s := s_of (wpAny_AugAssign_SubscriptAny h hi)
theorem g_lst {a : Addr} {vs : List Value} {k : Int} {u : Tok} {x : Value} {Q : Value → Shared → Prop} (hl : s.heap.IsList a vs.toArray) (h0 : 0 ≤ k) (hk : k < 2 ^ 63) (hx : vs[k.toNat]? = some x) (h : Q x s) :
    wpAny (model PR w) A (getItem (.ref a) (.int k u)) Q NoE s := wpAny_getItem_list hl h0 hk (by simpa using hx) h
theorem put_lst {a : Addr} {o : Obj} {vs : List Value} {k : Int} {u : Tok} {x : Value} {Q : Unit → Shared → Prop} (S : St w c b ((a, o) :: mu) s m) (hl : LO o vs) (h0 : 0 ≤ k) (hk : k < 2 ^ 63) (hn : k.toNat < vs.length)
    (h : ∀ o' s', LO o' (vs.set k.toNat x) → St w c b ((a, o') :: mu) s' m → Q () s') : wpAny (model PR w) A (setItem (.ref a) (.int k u) x) Q NoE s := by
  refine wpAny_setItem_list (hl.isList (S.at (.head _))) h0 hk (by simp only [List.size_toArray]; omega) fun h' hi hs => ?_
  obtain ⟨o', ho, hc, n, hd⟩ := hi
  refine h o' _ ⟨hc, n, ?_⟩ (S.turn hs ho)
  rw [hd]
  congr 1
  apply Array.toList_inj.mp
  simp
end
/-- how a turn of a loop ends -/
def Tn (Q : Flow → Shared → Prop) (T : Shared → Prop) : Flow → Shared → Prop
  | .next, s => T s
  | .cont, s => T s
  | .brk, _ => False
  | .ret v, s => Q (.ret v) s
def TEnd (w : World) (c : Cx) (b : Im) (it : Addr × Obj) (J : Im → Led → (Str → Option Value) → Prop) (s₂ : Shared) : Prop :=
  ∃ b₂ mu₂ m₂, Le b b₂ ∧ St w c b₂ (mu₂ ++ [it]) s₂ m₂ ∧ J b₂ mu₂ m₂
theorem tend {w : World} {c : Cx} {b b₂ : Im} {it : Addr × Obj} {mu' mu₂ : Led} {m₂ : Str → Option Value} {J : Im → Led → (Str → Option Value) → Prop} {s₂ : Shared} (S : St w c b₂ mu' s₂ m₂) (l : Le b b₂) (e : mu' = mu₂ ++ [it]) (h : J b₂ mu₂ m₂) : TEnd w c b it J s₂ :=
  ⟨b₂, mu₂, m₂, l, e ▸ S, h⟩
def Lr (K : Flow → Shared → Prop) : Result → Shared → Prop := fun r s' => match r with | .ok fl => K fl s' | .error _ => False
theorem tn_next {Q : Flow → Shared → Prop} {T : Shared → Prop} {s : Shared} (h : T s) : Tn Q T .next s := h
theorem tn_cont {Q : Flow → Shared → Prop} {T : Shared → Prop} {s : Shared} (h : T s) : Tn Q T .cont s := h
theorem tn_ret {Q : Flow → Shared → Prop} {T : Shared → Prop} {v : Value} {s : Shared} (h : Q (.ret v) s) : Tn Q T (.ret v) s := h
section
variable {w : World} {c : Cx} {b : Im} {mu : Led} {s : Shared} {m : Str → Option Value} {A : Around} {qual : Str} {scope : Scope} {f : Addr} {cdv : Value} {env : Env}
theorem noE {α : Type} {t : Sem α} {Q : α → Shared → Prop} {E : Value → Shared → Prop} (h : wpAny (model PR w) A t Q NoE s) : wpAny (model PR w) A t Q E s := wpAny_mono h (fun _ _ x => x) fun _ _ x => x.elim
theorem for_walkT {K : Flow → Shared → Prop} {target : Expr} {body : List Stmt} {I : Addr} {oI : Obj} {fp : List Addr} {n : Nat} {P : Nat → Value → Prop} {Si : Nat → Heap → Prop}
    (W : Walks PR w A I fp [I] n P Si) (hst : Si 0 s.heap) (hI : ∀ i h, Si i h → ∃ o, h.get? I = some o) (S : St w c b (mu ++ [(I, oI)]) s m)
    (J : Nat → Im → Led → (Str → Option Value) → Prop) (h0 : J 0 b mu m)
    (hfp : ∀ i b' mu' m', J i b' mu' m' → Le b b' → ∀ a ∈ fp, a ≠ I → ∃ o, s.heap.get? a = some o ∧ (b' a = some o ∨ (a, o) ∈ mu'))
    (hg : ∀ i v (s : Shared) (Q : Unit → Shared → Prop) (E : Value → Shared → Prop), P i v → Si (i + 1) s.heap → Q () s → wpAny (model PR w) A (letOwnedTupleGo target (.ref I) v) Q E s)
    (turn : ∀ i v b' mu' m' o s', i < n → P i v → Le b b' → J i b' mu' m' → St w c b' (mu' ++ [(I, o)]) s' m' →
      wpAny (model PR w) A (assign target env v) (fun _ s₂ => wpAny (model PR w) A (execs body env) (Tn K (TEnd w c b (I, o) (J (i + 1)))) NoE s₂) NoE s')
    (done : ∀ b' mu' m' s', Le b b' → J n b' mu' m' → St w c b' mu' s' m' → K .next s') :
    codeAny (model PR w) A (.forLoop target (.ref I) body [] env) (Lr K) s := by
  refine codeAny_forLoop_any (fun k s' => ∃ i b' mu' m' o, k = n + 1 - i ∧ i ≤ n ∧ St w c b' (mu' ++ [(I, o)]) s' m' ∧ Si i s'.heap ∧ Le b b' ∧ J i b' mu' m') ?_ (n + 1)
    ⟨0, b, mu, m, oI, rfl, Nat.zero_le _, S, hst, Le.refl _, h0⟩
  rintro k s' ⟨i, b', mu', m', o, rfl, hi, S', hs', hle, hJ⟩
  by_cases hlt : i < n
  · refine noE (W.item i s' _ _ hlt hs' fun v h' tk hP hsi hk => ?_)
    obtain ⟨o', ho'⟩ := hI _ _ hsi
    have S₁ : St w c b' (mu' ++ [(I, o')]) { s' with heap := h', toks := tk } m' := S'.turnAt (fun x y hx e => hk x y (fun q => hx (List.mem_singleton.mp q)) e) ho'
    refine hg i v _ _ _ hP hsi ?_
    refine noE (wpAny_mono (turn i v b' mu' m' o' _ hlt hP hle hJ S₁) (fun _ s₂ h₂ => noE (wpAny_mono h₂ (fun fl s₃ h₃ => ?_) fun _ _ x => x)) fun _ _ x => x)
    have fin : TEnd w c b (I, o') (J (i + 1)) s₃ → ∃ k, k < n + 1 - i ∧ ∃ i b' mu' m' o, k = n + 1 - i ∧ i ≤ n ∧ St w c b' (mu' ++ [(I, o)]) s₃ m' ∧ Si i s₃.heap ∧ Le b b' ∧ J i b' mu' m' := by
      rintro ⟨b₂, mu₂, m₂, l₂, S₂, J₂⟩
      refine ⟨n + 1 - (i + 1), by omega, i + 1, b₂, mu₂, m₂, o', rfl, hlt, S₂, ?_, l₂, J₂⟩
      refine W.frame _ _ _ hsi fun a ha x e => ?_
      by_cases q : a = I
      · subst q
        rw [ho'] at e
        cases e
        exact S₂.at (by simp)
      · obtain ⟨y, hy, h1⟩ := hfp i b' mu' m' hJ hle a ha q
        obtain ⟨z, hz, h2⟩ := hfp (i + 1) b₂ mu₂ m₂ J₂ l₂ a ha q
        rw [hy] at hz
        cases hz
        have e1 : h'.get? a = some y := h1.elim (fun q => S₁.keep _ _ q) fun q => S₁.at (List.mem_append_left _ q)
        rw [e1] at e
        cases e
        exact h2.elim (fun q => S₂.keep _ _ q) fun q => S₂.at (List.mem_append_left _ q)
    cases fl with
    | next => exact fin h₃
    | cont => exact fin h₃
    | brk => exact h₃.elim
    | ret v => exact h₃
  · have hn : i = n := by omega
    subst hn
    refine noE (W.done s' _ _ hs' fun h' tk hk => wpAny_execs_nil ?_)
    have S₁ : St w c b' mu' s' m' := S'.drop (List.sublist_append_left _ _)
    refine done b' mu' m' _ hle hJ ?_
    have nI : I ∉ mu'.map (·.1) := fun q => by
      have nd := S'.nd
      rw [List.map_append] at nd
      exact (List.nodup_append.mp nd).2.2 I q I (by simp) rfl
    have HI := S'.led (I, o) (by simp)
    have k : ∀ x y, x ≠ I → s'.heap.get? x = some y → h'.get? x = some y := fun x y hx e => hk x y (fun q => hx (List.mem_singleton.mp q)) e
    obtain ⟨oL, es, ep, hL, hLr⟩ := S'.fr.ns
    refine ⟨S'.gl, ⟨⟨oL, es, ep, k _ _ (fun q : c.L = I => HI.2.1 q.symm) hL, hLr⟩, fun x y e => k x y (fun q => ?_) (S'.fr.keep x y e), S'.fr.above⟩, fun x y e => k x y (fun q => ?_) (S'.keep x y e), S'.off, S'.offL, S'.old, fun p hp => ?_, S₁.nd, S'.gens, S'.drawn, S'.os⟩
    · subst q; rw [HI.2.2.2] at e; cases e
    · subst q; rw [HI.2.2.1] at e; cases e
    · have P := S₁.led p hp
      exact ⟨k _ _ (fun q => nI (List.mem_map.mpr ⟨p, hp, q⟩)) P.1, P.2⟩
theorem for_walk {K : Flow → Shared → Prop} {target : Expr} {body : List Stmt} {I : Addr} {oI : Obj} {fp : List Addr} {n : Nat} {P : Nat → Value → Prop} {Si : Nat → Heap → Prop}
    (W : Walks PR w A I fp [I] n P Si) (hst : Si 0 s.heap) (hI : ∀ i h, Si i h → ∃ o, h.get? I = some o) (S : St w c b (mu ++ [(I, oI)]) s m)
    (J : Nat → Im → Led → (Str → Option Value) → Prop) (h0 : J 0 b mu m)
    (hfp : ∀ i b' mu' m', J i b' mu' m' → Le b b' → ∀ a ∈ fp, a ≠ I → ∃ o, s.heap.get? a = some o ∧ (b' a = some o ∨ (a, o) ∈ mu'))
    (ht : ∀ v, letOwnedTupleGo target (.ref I) v = pure ())
    (turn : ∀ i v b' mu' m' o s', i < n → P i v → Le b b' → J i b' mu' m' → St w c b' (mu' ++ [(I, o)]) s' m' →
      wpAny (model PR w) A (assign target env v) (fun _ s₂ => wpAny (model PR w) A (execs body env) (Tn K (TEnd w c b (I, o) (J (i + 1)))) NoE s₂) NoE s')
    (done : ∀ b' mu' m' s', Le b b' → J n b' mu' m' → St w c b' mu' s' m' → K .next s') :
    codeAny (model PR w) A (.forLoop target (.ref I) body [] env) (Lr K) s :=
  for_walkT W hst hI S J h0 hfp (fun i v s Q E _ _ hq => by rw [ht]; exact wpAny_pure hq) turn done
theorem St.pushE {o : Obj} {t : Nat} (S : St w c b mu s m) (hf : o.isFreed = false) : St w c b (mu ++ [(s.heap.objs.size, o)]) { s with heap := s.heap.push o, toks := t } m :=
  ((S.pushM hf).perm (List.perm_append_singleton _ _)).toks t
/-- for x in a list that stands: the invariant J -/
theorem for_list {K : Flow → Shared → Prop} {target : Expr} {body : List Stmt} {l : Addr} {vs : List Value} {n : Nat} (hh : A.handled = none) (S : St w c b mu s m) (hl : b l = some (lstO vs n))
    (J : Nat → Im → Led → (Str → Option Value) → Prop) (h0 : J 0 b mu m) (ht : ∀ I v, letOwnedTupleGo target (.ref I) v = pure ())
    (turn : ∀ i v b' mu' m' it s', vs[i]? = some v → Le b b' → J i b' mu' m' → St w c b' (mu' ++ [it]) s' m' →
      wpAny (model PR w) A (assign target env v) (fun _ s₂ => wpAny (model PR w) A (execs body env) (Tn K (TEnd w c b it (J (i + 1)))) NoE s₂) NoE s')
    (done : ∀ b' mu' m' s', Le b b' → J vs.length b' mu' m' → St w c b' mu' s' m' → K .next s') :
    wpAny (model PR w) A (pyIter (.ref l)) (fun it s₂ => codeAny (model PR w) A (.forLoop target it body [] env) (Lr K) s₂) NoE s := by
  have hls : s.heap.IsList l vs.toArray := isList_of (S.keep _ _ hl)
  have hne : l ≠ s.heap.objs.size := Nat.ne_of_lt (Heap.lt_size (S.keep _ _ hl))
  refine wpAny_pyIter_list hls ?_
  have W := Walks.list (prog := PR) (w := w) hh s.heap.objs.size l hne vs.toArray
  have e : vs.toArray.size = vs.length := by simp
  rw [e] at W
  refine for_walk W ⟨⟨_, Heap.get?_push_size _ rfl, rfl, rfl⟩, hls.at fun o e => Heap.get?_push_of_some _ e⟩ (fun i h q => let ⟨⟨o, ho, _⟩, _⟩ := q; ⟨o, ho⟩) (S.pushE (t := s.toks) rfl) J h0 ?_ (ht _) ?_ done
  · intro i b' mu' m' _ hle a ha hna
    have : a = l := by simpa [hna] using ha
    subst this
    exact ⟨_, Heap.get?_push_of_some _ (S.keep _ _ hl), .inl (hle _ _ hl)⟩
  · intro i v b' mu' m' o s' hi hP hle hJ S'
    exact turn i v b' mu' m' _ s' (by simpa using hP) hle hJ S'
/-- for x in range(n) -/
theorem for_range {K : Flow → Shared → Prop} {target : Expr} {body : List Stmt} {r : Addr} {a₀ b₀ : Int} {t₀ u₀ v₀ : Tok} {n : Nat} (hh : A.handled = none) (S : St w c b mu s m)
    (hr : IsRange s.heap r a₀ b₀ 1 t₀ u₀ v₀) (hsmall : Builtin.Range.small a₀ b₀ 1 = true) (hn : Builtin.Range.rangeSize a₀ b₀ 1 = (n : Int))
    (J : Nat → Im → Led → (Str → Option Value) → Prop) (h0 : J 0 b mu m) (ht : ∀ I v, letOwnedTupleGo target (.ref I) v = pure ())
    (turn : ∀ (i : Nat) t b' mu' m' it s', i < n → Le b b' → J i b' mu' m' → St w c b' (mu' ++ [it]) s' m' →
      wpAny (model PR w) A (assign target env (.int (a₀ + i) t)) (fun _ s₂ => wpAny (model PR w) A (execs body env) (Tn K (TEnd w c b it (J (i + 1)))) NoE s₂) NoE s')
    (done : ∀ b' mu' m' s', Le b b' → J n b' mu' m' → St w c b' mu' s' m' → K .next s') :
    wpAny (model PR w) A (pyIter (.ref r)) (fun it s₂ => codeAny (model PR w) A (.forLoop target it body [] env) (Lr K) s₂) NoE s := by
  refine wpAny_pyIter_range hr hsmall ?_
  have W := Walks.range (prog := PR) (w := w) hh s.heap.objs.size a₀ 1 n
  refine for_walk W (by show IsRangeIter _ _ _ _ _; rw [hn]; simpa using Heap.get?_push_size _ rfl) (fun i h q => ⟨_, q⟩) (S.pushE rfl) J h0 ?_ (ht _) ?_ done
  · intro i b' mu' m' _ hle a ha hna
    exact absurd (List.mem_singleton.mp ha) hna
  · rintro i v b' mu' m' o s' hi ⟨t, rfl⟩ hle hJ S'
    rw [Int.mul_one]
    exact turn i t b' mu' m' _ s' hi hle hJ S'
theorem range_is (n : Nat) (h : n < 2 ^ 62) : Builtin.Range.small 0 n 1 = true ∧ Builtin.Range.rangeSize 0 n 1 = (n : Int) := by
  have e : Builtin.Range.rangeSize 0 n 1 = (n : Int) := by
    unfold Builtin.Range.rangeSize
    by_cases q : n = 0
    · subst q; rfl
    · rw [if_pos (by decide), if_pos (by omega)]; omega
  refine ⟨?_, e⟩
  unfold Builtin.Range.small
  rw [e]
  unfold Builtin.Range.rangeFitsLong
  simp
  omega
theorem for_r0 {K : Flow → Shared → Prop} {target : Expr} {body : List Stmt} {r : Addr} {t₀ u₀ v₀ : Tok} {n : Nat} (hh : A.handled = none) (S : St w c b mu s m)
    (hr : IsRange s.heap r 0 n 1 t₀ u₀ v₀) (hn : n < 2 ^ 62)
    (J : Nat → Im → Led → (Str → Option Value) → Prop) (h0 : J 0 b mu m) (ht : ∀ I v, letOwnedTupleGo target (.ref I) v = pure ())
    (turn : ∀ (i : Nat) t b' mu' m' it s', i < n → Le b b' → J i b' mu' m' → St w c b' (mu' ++ [it]) s' m' →
      wpAny (model PR w) A (assign target env (.int i t)) (fun _ s₂ => wpAny (model PR w) A (execs body env) (Tn K (TEnd w c b it (J (i + 1)))) NoE s₂) NoE s')
    (done : ∀ b' mu' m' s', Le b b' → J n b' mu' m' → St w c b' mu' s' m' → K .next s') :
    wpAny (model PR w) A (pyIter (.ref r)) (fun it s₂ => codeAny (model PR w) A (.forLoop target it body [] env) (Lr K) s₂) NoE s :=
  for_range hh S hr (range_is n hn).1 (range_is n hn).2 J h0 ht (fun i t b' mu' m' it s' h1 h2 h3 h4 => by rw [Int.zero_add]; exact turn i t b' mu' m' it s' h1 h2 h3 h4) done
theorem s_for {target iter : Expr} {body rest : List Stmt} {pos : Pos} {Q : Flow → Shared → Prop}
    (h : wpAny (model PR w) A (eval iter env) (fun x s₁ => wpAny (model PR w) A (pyIter x) (fun it s₂ => codeAny (model PR w) A (.forLoop target it body [] env) (Lr (Sq w A rest env Q)) s₂) NoE s₁) NoE s)
    (hs : ∀ x, foldedSetIterable iter env x = pure x := by intro _; kernel_rfl) : wpAny (model PR w) A (execs (.For target iter body [] pos :: rest) env) Q NoE s := by
  refine s_of (wpAny_For (wpAny_mono h (fun x s₁ h₁ => wpAny_mono h₁ (fun it s₂ h₂ => codeAny_mono h₂ fun r s' q => ?_) fun _ _ x => x) fun _ _ x => x) hs)
  cases r with
  | ok fl => exact q
  | error e => exact q.elim
theorem as_nm {x : Str} {px : Pos} {v : Value} {Q : Unit → Shared → Prop} (S : St w c b mu s m) (h : ∀ s', St w c b mu s' (fun y => if y = x then some v else m y) → Q () s')
    (hk : scope.kind = .function := by kernel_rfl) (hl : (envOf qual scope c.L f cdv).kindOf x = some .local := by kernel_rfl) : wpAny (model PR w) A (assign (.Name x px) (envOf qual scope c.L f cdv) v) Q NoE s :=
  wpAny_assign_Name (e_st S h hk hl)
theorem b_range1 {n : Int} {t : Tok} {Q : Value → Shared → Prop} (S : St w c b mu s m) (h : ∀ r t₀ v₀ s', IsRange s'.heap r 0 n 1 t₀ t v₀ → St w c b mu s' m → Q (.ref r) s') :
    wpAny (model PR w) A (call (.type "range") [.int n t]) Q NoE s :=
  call_range_1 (h _ s.toks (s.toks + 1) _ (Heap.get?_push_size _ rfl) (S.grow fun _ _ e => Heap.get?_push_of_some _ e))
end
def Ex (K : Shared → Prop) : Value → Shared → Prop := fun v s' => match v with | .ref _ => False | _ => K s'
section
variable {w : World} {c : Cx} {b : Im} {mu : Led} {s : Shared} {m : Str → Option Value} {A : Around} {qual : Str} {scope : Scope} {f : Addr} {cdv : Value} {env : Env}
theorem s_expr {e : Expr} {pos : Pos} {rest : List Stmt} {Q : Flow → Shared → Prop} (h : wpAny (model PR w) A (eval e env) (Ex fun s' => wpAny (model PR w) A (execs rest env) Q NoE s') NoE s)
    (hi : interactive env = false := by kernel_rfl) (hs : swapsWith e none pos.line env = pure false := by kernel_rfl) : wpAny (model PR w) A (execs (.Expr e pos :: rest) env) Q NoE s :=
  s_of (wpAny_Expr (wpAny_mono h (fun v s' q => by cases v <;> first | exact q.elim | exact q) fun _ _ x => x) hi hs)
theorem e_meth {o : Expr} {name : Str} {apos pos : Pos} {args : List Expr} {pl : Sem Bool} {Q : Value → Shared → Prop}
    (h : wpAny (model PR w) A (eval o env) (fun ov s₁ => wpAny (model PR w) A (getMethod ov name pl) (fun fx s₂ => wpAny (model PR w) A (callWith pos fx.1 fx.2 (backTo pos (starEach args env)) []) Q NoE s₂) NoE s₁) NoE s)
    (he : eval (.Call (.Attribute o name apos) args [] pos) env = (do
      let ov ← eval o env
      standAt apos.atName
      let (f, first) ← holding [ov] (getMethod ov name pl)
      callWith pos f first (backTo pos (starEach args env)) []) := by with_unfolding_all rfl) : wpAny (model PR w) A (eval (.Call (.Attribute o name apos) args [] pos) env) Q NoE s := MethodCall_ h he
theorem g_app {l : Addr} {vs : List Value} {n : Nat} {pl : Sem Bool} {Q : Value × List Value → Shared → Prop} (S : St w c b mu s m) (hm : (l, lstO vs n) ∈ mu) (h : Q (.builtin "list.append", [.ref l]) s) :
    wpAny (model PR w) A (getMethod (.ref l) (Str.ofString "append") pl) Q NoE s := getMethod_list_append (S.at hm) rfl rfl h
theorem cw_b {pos : Pos} {id : String} {first : List Value} {e : Expr} {rest : List Expr} {Q : Value → Shared → Prop}
    (h : wpAny (model PR w) A (spliced (backTo pos (starEach (e :: rest) env))) (fun vs s₁ => wpAny (model PR w) A (call (.builtin id) (first ++ vs)) Q NoE s₁) NoE s)
    (he : starEach (e :: rest) env = (false, eval e env) :: starEach rest env := by kernel_rfl) (hplain : (backTo pos (starEach rest env)).any (·.1) = false := by kernel_rfl) :
    wpAny (model PR w) A (callWith pos (.builtin id) first (backTo pos (starEach (e :: rest) env)) []) Q NoE s := callWith_method1 h he hplain
theorem b_app {pre post : Led} {l : Addr} {vs : List Value} {n : Nat} {x : Value} {K : Shared → Prop} (S : St w c b (pre ++ (l, lstO vs n) :: post) s m) (h : ∀ n' s', St w c b (pre ++ (l, lstO (vs ++ [x]) n') :: post) s' m → K s')
    (hz : vs.length ≤ sizeLine) : wpAny (model PR w) A (call (.builtin "list.append") [.ref l, x]) (Ex K) NoE s := by
  refine wpAny_list_append_plain (items := vs.toArray) ⟨n, S.at (by simp)⟩ (fun h' hp hs => ?_) (by simpa using hz)
  obtain ⟨n', ho⟩ := hp
  show K _
  exact h n' _ (S.turnAt (t := s.toks) (fun x y hx e => (hs.2 x hx).trans e) (by simpa using ho))
theorem e_ite {test body orelse : Expr} {pos : Pos} {Q : Value → Shared → Prop}
    (h : wpAny (model PR w) A (isTrue test env (eval test env)) (fun t s₁ => if t then wpAny (model PR w) A (eval body env) Q NoE s₁ else wpAny (model PR w) A (eval orelse env) Q NoE s₁) NoE s) :
    wpAny (model PR w) A (eval (.IfExp test body orelse pos) env) Q NoE s := wpAny_IfExp h
theorem i_str {value slice : Expr} {x : Str} {t u : Tok} {k : Int} {ch : Nat} {Q : Value → Shared → Prop} (S : St w c b mu s m) (h0 : 0 ≤ k) (hk : k < 2 ^ 63) (hc : x.cps[k.toNat]? = some ch) (h : ∀ t s', St w c b mu s' m → Q (.str ⟨#[ch]⟩ t) s')
    (hs : subscripted slice false (.str x t) (.int k u) = operate [.str x t, .int k u] (getItem (.str x t) (.int k u)) := by kernel_rfl) :
    wpAny (model PR w) A (subscriptTail value slice (.str x t) (.int k u)) Q NoE s := by
  have hl : k.toNat < x.cps.size := (Array.getElem?_eq_some_iff.mp hc).1
  refine tail_any (typeIs_str s x t) PySem.F.slot_str_getitem.lookup (PyProof.Rows.getItem_str (c := ch) ?_ ?_ (h _ _ (S.toks _))) hs
  · rw [decide_eq_false (by omega), decide_eq_false (by omega)]; rfl
  · rw [seq_at h0 (by exact hl)]; exact hc
theorem b_lenS {x : Str} {t : Tok} {Q : Value → Shared → Prop} (S : St w c b mu s m) (hfit : x.cps.size < 2 ^ 62) (h : ∀ t s', St w c b mu s' m → Q (.int x.cps.size t) s') : wpAny (model PR w) A (call (.builtin "len") [.str x t]) Q NoE s :=
  P.len_str (by show ¬ (x.cps.size : Int) ≥ 2 ^ 63; omega) (h _ _ (S.toks _))
theorem s_asgT {elts : List Expr} {k : Nat} {tpos pos : Pos} {value : Expr} {rest : List Stmt} {Q : Flow → Shared → Prop}
    (h : wpAny (model PR w) A (eval value env) (fun v s₁ => wpAny (model PR w) A (assign (.Tuple elts k tpos) env v) (fun _ s₂ => wpAny (model PR w) A (execs rest env) Q NoE s₂) NoE s₁) NoE s)
    (hs : swapsWithSole [.Tuple elts k tpos] value pos.line env = pure false := by kernel_rfl) (hw : swappedStores [.Tuple elts k tpos] value env = pure none := by kernel_rfl) :
    wpAny (model PR w) A (execs (.Assign [.Tuple elts k tpos] value pos :: rest) env) Q NoE s := s_of (Assign_Tuple h hs hw)
theorem isTuple_of {vs : List Value} {a : Addr} {h : Heap} (e : h.get? a = some (tupO vs)) : h.IsTuple a vs.toArray := ⟨_, e, rfl, _, rfl⟩
theorem as_two {x y : Str} {px py pos : Pos} {k : Nat} {t : Addr} {v1 v2 : Value} {Q : Unit → Shared → Prop} (hh : A.handled = none) (S : St w c b mu s m) (ht : b t = some (tupO [v1, v2]))
    (h : ∀ s', St w c b mu s' (fun z => if z = y then some v2 else if z = x then some v1 else m z) → Q () s')
    (hk : scope.kind = .function := by kernel_rfl) (hx : (envOf qual scope c.L f cdv).kindOf x = some .local := by kernel_rfl) (hy : (envOf qual scope c.L f cdv).kindOf y = some .local := by kernel_rfl) :
    wpAny (model PR w) A (assign (.Tuple [.Name x px, .Name y py] k pos) (envOf qual scope c.L f cdv) (.ref t)) Q NoE s := by
  refine wpAny_assign_Tuple hh (isTuple_of (S.keep _ _ ht)) rfl rfl fun h' he => ?_
  have S1 : St w c b mu { s with heap := h' } m := S.grow (t := s.toks) fun a o e => he a o (Nat.ne_of_lt (Heap.lt_size e)) e
  refine wpAny_assignInOrder_more (as_nm S1 (fun s2 S2 => ?_) hk hx)
  refine wpAny_assignInOrder_more (as_nm S2 (fun s3 S3 => ?_) hk hy)
  exact wpAny_assignInOrder_none (h _ S3)
theorem b_tupL {pre post : Led} {l : Addr} {vs : List Value} {n : Nat} {Q : Value → Shared → Prop} (S : St w c b (pre ++ (l, lstO vs n) :: post) s m) (hz : vs.length ≤ sizeLine)
    (h : ∀ a b' s', Le b b' → b' a = some (tupO vs) → St w c b' (pre ++ (l, lstO vs n) :: post) s' m → Q (.ref a) s') : wpAny (model PR w) A (call (.type "tuple") [.ref l]) Q NoE s := by
  refine call_tuple_list (isList_of (S.at (a := l) (o := lstO vs n) (by simp))) (fun h' hk => ?_) (by simpa using hz)
  have S1 : St w c b (pre ++ (l, lstO vs n) :: post) { s with heap := h' } m := S.grow (t := s.toks) hk
  exact h _ _ _ (Le.put S1 (Nat.le_refl _)) (Im.put_at ..) (S1.pushI (o := tupO vs) rfl)
end
section
variable {w : World} {c : Cx} {b : Im} {mu : Led} {s : Shared} {m : Str → Option Value} {A : Around} {env : Env} {K : Type} [DecidableEq K] {knd : KeyKind PR w K} {kvs : List (K × Value)} {k : K} {d : Addr} {o : Obj} {key v : Value}
theorem St.news (S : St w c b mu s m) : News c.g c.L s.heap mu := fun p hp => ⟨(S.led p hp).1, (S.led p hp).2.1, (S.led p hp).2.2.2⟩
theorem St.notSys (S : St w c b mu s m) (h : c.L < d) : (d == sysModules) = false := by
  obtain ⟨_, _, _, T⟩ := S.gl.T
  obtain ⟨mc, hn, _⟩ := T.nolimit
  have h1 := hn.lt
  have h2 := S.fr.above
  have h3 : sysModules ≤ cStatics := by decide
  have : d ≠ sysModules := Nat.ne_of_gt (Nat.lt_of_le_of_lt h3 (Nat.lt_trans (Nat.lt_of_lt_of_le h1 h2) h))
  simpa using this
theorem d_item {value slice : Expr} {Q : Value → Shared → Prop} (S : St w c b mu s m) (hp : (d, o) ∈ mu) (hd : o.IsDictOf knd kvs) (hkey : knd.is k key = true) (hl : valueAt kvs k = some v) (h : ∀ s', St w c b mu s' m → Q v s')
    (hs : subscripted slice false (.ref d) key = operate [.ref d, key] (getItem (.ref d) key) := by kernel_rfl) :
    wpAny (model PR w) A (subscriptTail value slice (.ref d) key) Q NoE s :=
  have hD := kda_dict S.news hp hd
  tail_any hD.typeIs slot_dict_getitem.lookup (wpAny_getItem_of hkey hD.mapOf hl (h _ (S.toks _))) hs
theorem d_get {Q : Value → Shared → Prop} (S : St w c b mu s m) (hp : (d, o) ∈ mu) (hd : o.IsDictOf knd kvs) (hkey : knd.is k key = true) (hl : valueAt kvs k = some v) (h : ∀ s', St w c b mu s' m → Q v s') :
    wpAny (model PR w) A (getItem (.ref d) key) Q NoE s := wpAny_getItem_of hkey (kda_dict S.news hp hd).mapOf hl (h _ (S.toks _))
theorem d_notin {Q : Value → Shared → Prop} (S : St w c b mu s m) (hp : (d, o) ∈ mu) (hd : o.IsDictOf knd kvs) (hL : c.L < d) (hkey : knd.is k key = true) (h : ∀ s', St w c b mu s' m → Q (.bool (!(valueAt kvs k).isSome)) s') :
    wpAny (model PR w) A (compareOp .NotIn key (.ref d)) Q NoE s := kdg_notin S.news hp hd (S.notSys hL) hkey _ rfl (h _ (S.toks _))
theorem d_set {pre post : Led} {Q : Unit → Shared → Prop} (S : St w c b (pre ++ (d, o) :: post) s m) (hd : o.IsDictOf knd kvs) (hkey : knd.is k key = true) (hsz : kvs.length ≤ sizeLine)
    (h : ∀ o' s', o'.IsDictOf knd (stored kvs k v) → St w c b (pre ++ (d, o') :: post) s' m → Q () s') : wpAny (model PR w) A (setItem (.ref d) key v) Q NoE s := by
  have hm := S.at (a := d) (o := o) (by simp)
  refine wpAny_setItem_pairs (hsz := hsz) hkey (Heap.dictOf_iff.mpr ⟨o, hm, hd⟩) fun h' hmm hs => ?_
  obtain ⟨o', ho', hd'⟩ := Heap.dictOf_iff.mp hmm
  exact h o' _ hd' (S.turnAt (fun x y hx e => (hs.2 x hx).trans e) ho')
theorem dict_new : ({ cls := .type "dict", data := .dict #[] } : Obj).IsDictOf knd [] := by
  obtain ⟨o, ho, hd⟩ := Heap.dictOf_iff.mp (Heap.DictOf.new (knd := knd) ({} : Heap))
  rw [Heap.get?_push_size _ rfl] at ho
  cases ho
  exact hd
/-- a display whose keys are written strs -/
theorem e_dict {keys : List (Option Expr)} {values : List Expr} {pos : Pos} {Q : Value → Shared → Prop} (S : St w c b mu s m) (h0 : keys ≠ [])
    (h : ∀ d o s₁, c.L < d → St w c b ((d, o) :: mu) s₁ m → wpAny (model PR w) A (evalPairs (pairTrees keys values env pos)) (fun vs s₂ => ∃ b₂ m₂ kvs, Carries (strKind PR w) vs kvs ∧ (kvs.map (·.1)).Nodup ∧ St w c b₂ ((d, o) :: mu) s₂ m₂ ∧
      ∀ o' s₃, o'.IsDictOf (strKind PR w) kvs → St w c b₂ ((d, o') :: mu) s₃ m₂ → Q (.ref d) s₃) NoE s₁)
    (hall : keys.all (·.isSome) = true := by kernel_rfl) (hl : keys.length = values.length := by kernel_rfl) (hlen : Nat.ble keys.length 15 = true := by kernel_rfl) : wpAny (model PR w) A (eval (.Dict keys values pos) env) Q NoE s := by
  replace hlen := Nat.le_of_ble_eq_true hlen
  refine wpAny_Dict_walk (knd := strKind PR w) hall hl h0 hlen (wpAny_mono (h _ _ _ S.L_lt (S.pushM (o := { cls := .type "dict", data := .dict #[] }) rfl)) (fun vs s₂ q => ?_) fun _ _ x => x)
  obtain ⟨b₂, m₂, kvs, hc, hn, S₂, k⟩ := q
  refine ⟨kvs, hc, Heap.dictOf_iff.mpr ⟨_, S₂.at (.head _), dict_new⟩, fun h' hm hs => ?_⟩
  rw [merged_nil_of_nodup _ hn] at hm
  obtain ⟨o', ho', hd'⟩ := Heap.dictOf_iff.mp hm
  exact k o' _ hd' (S₂.turnAt (pre := []) (fun x y hx e => (hs.2 x hx).trans e) ho')
theorem p_more {kx vx : Expr} {ks : List (Option Expr)} {vs : List Expr} {pos : Pos} {Q : List (Value × Value) → Shared → Prop}
    (h : wpAny (model PR w) A (eval kx env) (fun kv s₁ => wpAny (model PR w) A (eval vx env) (fun vv s₂ => wpAny (model PR w) A (evalPairs (pairTrees ks vs env pos)) (fun r s₃ => Q ((kv, vv) :: r) s₃) NoE s₂) NoE s₁) NoE s) :
    wpAny (model PR w) A (evalPairs (pairTrees (some kx :: ks) (vx :: vs) env pos)) Q NoE s := pairTrees_cons_walk h
theorem p_none {pos : Pos} {Q : List (Value × Value) → Shared → Prop} (h : Q [] s) : wpAny (model PR w) A (evalPairs (pairTrees [] [] env pos)) Q NoE s := pairTrees_nil_walk h
end
inductive All2 {α β : Type} (R : α → β → Prop) : List α → List β → Prop
  | nil : All2 R [] []
  | cons {a b as bs} : R a b → All2 R as bs → All2 R (a :: as) (b :: bs)
theorem All2.imp {α β : Type} {R R' : α → β → Prop} (h : ∀ a b, R a b → R' a b) {as : List α} {bs : List β} (r : All2 R as bs) : All2 R' as bs := by
  induction r with
  | nil => exact .nil
  | cons x _ ih => exact .cons (h _ _ x) ih
theorem All2.length {α β : Type} {R : α → β → Prop} {as : List α} {bs : List β} (r : All2 R as bs) : as.length = bs.length := by
  induction r with
  | nil => rfl
  | cons _ _ ih => exact congrArg (· + 1) ih
theorem All2.get {α β : Type} {R : α → β → Prop} {as : List α} {bs : List β} {i : Nat} {y : β} (r : All2 R as bs) (h : bs[i]? = some y) : ∃ x, as[i]? = some x ∧ R x y := by
  induction r generalizing i with
  | nil => simp at h
  | cons x _ ih =>
    cases i with
    | zero => cases h; exact ⟨_, rfl, x⟩
    | succ i => simpa using ih (by simpa using h)
theorem All2.getL {α β : Type} {R : α → β → Prop} {as : List α} {bs : List β} {i : Nat} {x : α} (r : All2 R as bs) (h : as[i]? = some x) : ∃ y, bs[i]? = some y ∧ R x y := by
  induction r generalizing i with
  | nil => simp at h
  | cons x _ ih =>
    cases i with
    | zero => cases h; exact ⟨_, rfl, x⟩
    | succ i => simpa using ih (by simpa using h)
theorem All2.append {α β : Type} {R : α → β → Prop} {as as' : List α} {bs bs' : List β} (r : All2 R as bs) (h : All2 R as' bs') : All2 R (as ++ as') (bs ++ bs') := by
  induction r with
  | nil => exact h
  | cons x _ ih => exact .cons x ih
theorem All2.snoc {α β : Type} {R : α → β → Prop} {as : List α} {bs : List β} {a : α} {b : β} (h : All2 R as bs) (x : R a b) : All2 R (as ++ [a]) (bs ++ [b]) := h.append (.cons x .nil)
theorem All2.comp {α β γ : Type} {R : α → β → Prop} {T : β → γ → Prop} {U : α → γ → Prop} (h : ∀ a b c, R a b → T b c → U a c) {as : List α} {bs : List β} {cs : List γ} (r : All2 R as bs) (q : All2 T bs cs) : All2 U as cs := by
  induction r generalizing cs with
  | nil => cases q; exact .nil
  | cons x _ ih => cases q with | cons y q => exact .cons (h _ _ _ x y) (ih q)
theorem All2.exists {α β : Type} {R : α → β → Prop} : ∀ {as : List α}, (∀ a ∈ as, ∃ b, R a b) → ∃ bs, All2 R as bs
  | [], _ => ⟨[], .nil⟩
  | a :: as, h => let ⟨b, hb⟩ := h a (.head _); let ⟨bs, hbs⟩ := All2.exists fun x hx => h x (.tail _ hx); ⟨b :: bs, .cons hb hbs⟩
theorem All2.mem {α β : Type} {R : α → β → Prop} {as : List α} {bs : List β} {y : β} (r : All2 R as bs) (h : y ∈ bs) : ∃ x ∈ as, R x y := by
  induction r with
  | nil => cases h
  | cons x _ ih =>
    rcases List.mem_cons.mp h with rfl | h
    · exact ⟨_, .head _, x⟩
    · obtain ⟨z, hz, q⟩ := ih h
      exact ⟨z, .tail _ hz, q⟩
/-- a value reads as data in whatever heap bears the map -/
def RD (b : Im) (v : Value) (d : PyData) : Prop := ∀ h : Heap, (∀ a o, b a = some o → h.get? a = some o) → ∃ as, Reads h v d as
theorem RD.le {b b' : Im} {v : Value} {d : PyData} (r : RD b v d) (l : Le b b') : RD b' v d := fun h k => r h fun a o e => k a o (l a o e)
theorem RD.int (b : Im) (i : Int) (t : Tok) : RD b (.int i t) (.int i) := fun _ _ => ⟨_, .int i t⟩
theorem RD.str (b : Im) (x : Str) (t : Tok) : RD b (.str x t) (.str x) := fun _ _ => ⟨_, .str x t⟩
theorem RD.all {b : Im} {h : Heap} (k : ∀ a o, b a = some o → h.get? a = some o) : ∀ {vs : List Value} {ds : List PyData}, All2 (RD b) vs ds → ∃ as, ReadsAll h vs ds as
  | _, _, .nil => ⟨_, .nil⟩
  | _, _, .cons x r => let ⟨_, p⟩ := x h k; let ⟨_, q⟩ := RD.all k r; ⟨_, .cons p q⟩
theorem RD.tup {b : Im} {a : Addr} {vs : List Value} {ds : List PyData} (e : b a = some (tupO vs)) (r : All2 (RD b) vs ds) : RD b (.ref a) (.tuple ds) := fun h k =>
  let ⟨_, q⟩ := RD.all k r; ⟨_, .tuple (k _ _ e) rfl rfl q⟩
theorem RD.lst {b : Im} {a : Addr} {n : Nat} {vs : List Value} {ds : List PyData} (e : b a = some (lstO vs n)) (r : All2 (RD b) vs ds) : RD b (.ref a) (.list ds) := fun h k =>
  let ⟨_, q⟩ := RD.all k r; ⟨_, .list (k _ _ e) rfl rfl q⟩
section
variable {w : World} {c : Cx} {b : Im} {mu : Led} {s : Shared} {m : Str → Option Value} {A : Around} {env : Env}
theorem Fun.use {f : Addr} {args : List Value} {P : Value → Im → Prop} {k n : Nat} {Q : Value → Shared → Prop} (H : Fun w f args b P k) (hA : Am A n) (hn : k ≤ n) (S : St w c b mu s m) (h : ∀ v b' s', Le b b' → St w c b' mu s' m → P v b' → Q v s') :
    wpAny (model PR w) A (call (.ref f) args) Q NoE s := H A (hA.le hn) c mu s m Q S h
theorem c_neD {x y : Value} {d e : PyData} {n : Nat} {Q : Value → Shared → Prop} (hA : Am A n) (S : St w c b mu s m) (hx : RD b x d) (hy : RD b y e) (hd : d.canLay0 = true) (he : e.canLay0 = true) (hk : d.depth ≤ 64) (h : Q (.bool (!PyData.eqv d e)) s) :
    wpAny (model PR w) A (compareOp .NotEq x y) Q NoE s := by
  obtain ⟨as, ra⟩ := hx _ S.keep
  obtain ⟨bs, rb⟩ := hy _ S.keep
  exact SeqAt.compareNe_reads ra rb hd he (by have := hA.un; have := Nat.min_le_left d.depth e.depth; omega) h
theorem c_inT {x : Value} {a : Addr} {ds : List PyData} {d : PyData} {n : Nat} {Q : Value → Shared → Prop} (hA : Am A n) (S : St w c b mu s m) (ha : RD b (.ref a) (.tuple ds)) (hx : RD b x d) (hds : PyData.canLayAll0 ds = true) (hd : d.canLay0 = true) (hk : d.depth ≤ 64)
    (h : Q (.bool (ds.any fun y => PyData.eqv y d)) s) : wpAny (model PR w) A (compareOp .In x (.ref a)) Q NoE s := by
  obtain ⟨as, ra⟩ := ha _ S.keep
  obtain ⟨bs, rb⟩ := hx _ S.keep
  exact SeqAt.in_tuple_reads ra rb hds hd (by have := hA.un; have := Nat.min_le_right (PyData.depthAll ds) d.depth; omega) h
theorem c_inL {x : Value} {a : Addr} {ds : List PyData} {d : PyData} {n : Nat} {Q : Value → Shared → Prop} (hA : Am A n) (S : St w c b mu s m) (ha : RD b (.ref a) (.list ds)) (hx : RD b x d) (hds : PyData.canLayAll0 ds = true) (hd : d.canLay0 = true) (hk : d.depth ≤ 64)
    (h : Q (.bool (ds.any fun y => PyData.eqv y d)) s) : wpAny (model PR w) A (compareOp .In x (.ref a)) Q NoE s := by
  obtain ⟨as, ra⟩ := ha _ S.keep
  obtain ⟨bs, rb⟩ := hx _ S.keep
  exact SeqAt.in_list_reads ra rb hds hd (by have := hA.un; have := Nat.min_le_right (PyData.depthAll ds) d.depth; omega) h
theorem c_eqB {x y : Bool} {Q : Value → Shared → Prop} (h : Q (.bool (x == y)) s) : wpAny (model PR w) A (compareOp .Eq (.bool x) (.bool y)) Q NoE s := PyProof.Rows.eq_bool h
end
section
variable {w : World} {c : Cx} {b : Im} {mu : Led} {s : Shared} {m : Str → Option Value} {A : Around} {env : Env}
end
section
variable {w : World} {s : Shared} {A : Around} {env : Env}
theorem t_or {e : Expr} {es : List Expr} {pos : Pos} {whole : Sem Value} {Q : Bool → Shared → Prop} (h : wpAny (model PR w) A (allTrue .Or (e :: es) env) Q NoE s) : wpAny (model PR w) A (isTrue (.BoolOp .Or (e :: es) pos) env whole) Q NoE s := wpAny_isTrue_BoolOp h
theorem t_orc {x : Expr} {rest : List Expr} {Q : Bool → Shared → Prop} (h : wpAny (model PR w) A (isTrue x env (eval x env)) (fun b s₁ => if b then Q true s₁ else wpAny (model PR w) A (allTrue .Or rest env) Q NoE s₁) NoE s) : wpAny (model PR w) A (allTrue .Or (x :: rest) env) Q NoE s := wpAny_allTrue_Or_cons h
theorem t_orn {Q : Bool → Shared → Prop} (h : Q false s) : wpAny (model PR w) A (allTrue .Or [] env) Q NoE s := wpAny_allTrue_Or_nil h
theorem f_tt {P R : Prop} (h : P) : if true = true then P else R := by rw [if_pos rfl]; exact h
theorem f_ff {P R : Prop} (h : R) : if false = true then P else R := by rw [if_neg (by decide)]; exact h
end
local macro_rules | `(tactic| walk_at "mm") => `(tactic| repeat' (first | (with_reducible first
  | refine s_ret ?_ | refine s_asg ?_ | refine s_if ?_ | refine s_cont ?_ | refine s_nil ?_ | refine s_augsub ?_
  | refine tn_next ?_ | refine tn_cont ?_ | refine tn_ret ?_ | refine sq_next ?_ | refine sq_ret ?_ | refine sq_cont ?_
  | refine e_sub ?_ | refine e_bin ?_ | refine c_one ?_ | refine t_cmp ?_ | refine t_or ?_ | refine t_orc ?_ | refine t_orn ?_ | refine f_tt ?_ | refine f_ff ?_ | refine e_tup ?_ | refine e_ite ?_ | refine s_expr ?_ | refine cw_b ?_ | refine s_for ?_ | refine e_lst ?_ | refine b_or ?_ | refine b_one ?_
  | refine c_eqS ?_ | refine c_ge ?_ | refine c_gt ?_ | refine c_le ?_ | refine c_eqI ?_ | refine c_eqB ?_ | refine t_bool ?_
  | (refine e_int (by assumption) ?_; intro _ _ _) | (refine e_str (by assumption) ?_; intro _ _ _) | refine e_bool ?_
  | (refine o_add (by assumption) ?_; intro _ _ _) | (refine o_iadd (by assumption) ?_; intro _ _ _) | (refine o_sub (by assumption) ?_; intro _ _ _)
  | (refine e_st (by assumption) ?_; intro _ _)
  | refine p_more ?_ | refine p_none ?_ | refine a_more ?_ | refine a_none ?_ | refine a_in (by assumption) ?_) | ((with_reducible refine' e_nm (by assumption) ?hv ?_); (case hv => first | exact rfl | assumption)) | fail))
-- F1
def isEnd (n : Str) : Bool := n == Str.ofString "call" || n == Str.ofString "execute" || n == Str.ofString "builtin"
theorem ends_spec {w : World} {r : Addr} {name : Str} {t : Tok} {rest : List Value} {b : Im} (hr : b r = some (tupO (.str name t :: rest))) :
    Fun w 35 [.ref r] b (fun v _ => v = .bool (isEnd name)) 1 := by
  intro A hA c mu s m Q S ret
  refine enter (n := 0) hA S (f := 35) (binds := [(Str.ofString "instruction", .ref r)]) rfl (by rfl) (BindsTo.of_eq rfl) (locs rfl) (by decide) rfl rfl rfl ?_
  intro c' s' hc hA' S' back
  walk_at "mm"
  with_reducible refine' i_tup (by assumption) hr (by decide) (by decide) ?hx ?_
  case hx => exact rfl
  walk_at "mm"
  have fin : ∀ s₁ : Shared, (∃ m', St w c' b mu s₁ m') → Q (.bool (isEnd name)) s₁ := fun s₁ ⟨m', Z⟩ => ret _ _ _ (Le.refl _) (back _ _ _ _ Z) rfl
  split
  · rename_i h1
    rw [show (name == Str.ofString "call") = isEnd name by simp only [isEnd]; rw [h1]; rfl]
    exact fin _ ⟨_, by assumption⟩
  · rename_i h1
    walk_at "mm"
    split
    · rename_i h2
      rw [show (name == Str.ofString "execute") = isEnd name by simp only [isEnd]; rw [h2, Bool.or_true, Bool.true_or]]
      exact fin _ ⟨_, by assumption⟩
    · rename_i h2
      walk_at "mm"
      rw [show (name == Str.ofString "builtin") = isEnd name by simp only [isEnd]; rw [Bool.not_eq_true] at h1 h2; rw [h1, h2]; rfl]
      exact fin _ ⟨_, by assumption⟩
/-- the band: what is left of the script, and the place in it -/
def BandOk (b : Im) (o : Obj) : Prop := ∃ inner vs ns n p t, LO o [.ref inner, .int p t] ∧ 0 ≤ p ∧ b inner = some (lstO vs n) ∧ IntsAre vs ns ∧ ns.length < 2 ^ 62
theorem BandOk.le {b b' : Im} {o : Obj} (h : BandOk b o) (l : Le b b') : BandOk b' o := by
  obtain ⟨inner, vs, ns, n, p, t, h1, h2, h3, h4, h5⟩ := h
  exact ⟨inner, vs, ns, n, p, t, h1, h2, l _ _ h3, h4, h5⟩
theorem shift_spec {w : World} {A : Around} {c : Cx} {b : Im} {mu : Led} {s : Shared} {m : Str → Option Value} {bd : Addr} {o : Obj} {k : Int} {t : Tok} {Q : Value → Shared → Prop}
    (hA : Am A 1) (S : St w c b ((bd, o) :: mu) s m) (hb : BandOk b o) (hk : 0 < k)
    (ret : ∀ r tr o' s', 0 ≤ r → r < k → BandOk b o' → St w c b ((bd, o') :: mu) s' m → Q (.int r tr) s') :
    wpAny (model PR w) A (call (.ref 82) [.ref bd, .int k t]) Q NoE s := by
  obtain ⟨inner, vs, ns, n, p, tp, hl, hp, hin, hI, hlen⟩ := hb
  have hvl : vs.length = ns.length := by have := hI.length; simpa using this
  refine enter (n := 0) hA S (f := 82) (binds := [(Str.ofString "band", .ref bd), (Str.ofString "limit", .int k t)]) rfl (by rfl) (BindsTo.of_eq rfl) (locs rfl) (by decide) rfl rfl rfl ?_
  intro c' s' hc hA' S' back
  walk_at "mm"
  with_reducible refine' i_mu (by assumption) (List.Mem.head _) hl (by decide) (by decide) ?hx ?_
  case hx => exact rfl
  with_reducible refine e_bcall (id := "len") ?_ ?_
  ((with_reducible refine' e_bn (by assumption) ?hv ?hb ?hn ?_); (case hv => kernel_rfl); (case hb => boot_by_name); (case hn => decide); exact ⟨rfl, rfl⟩)
  walk_at "mm"
  with_reducible refine' i_mu (by assumption) (List.Mem.head _) hl (by decide) (by decide) ?hx ?_
  case hx => exact rfl
  walk_at "mm"
  with_reducible refine b_len (by assumption) (isList_of (St.keep (by assumption) _ _ hin)) (by omega) ?_
  intro _ _ _
  walk_at "mm"
  split
  · walk_at "mm"
    exact ret _ _ _ _ (Int.le_refl _) hk ⟨inner, vs, ns, n, p, tp, hl, hp, hin, hI, hlen⟩ (back _ _ _ _ (by assumption))
  · rename_i hge
    walk_at "mm"
    with_reducible refine' g_lst (hl.isList (St.at (by assumption) (List.Mem.head _))) (by decide) (by decide) ?hx ?_
    case hx => exact rfl
    walk_at "mm"
    refine put_lst (by assumption) hl (by decide) (by decide) (show 1 < 2 by decide) ?_
    intro o' s1 hl' S1
    walk_at "mm"
    with_reducible refine e_bcall (id := "abs") ?_ ?_
    ((with_reducible refine' e_bn (by assumption) ?hv ?hb ?hn ?_); (case hv => kernel_rfl); (case hb => boot_by_name); (case hn => decide); exact ⟨rfl, rfl⟩)
    walk_at "mm"
    with_reducible refine' i_mu (by assumption) (List.Mem.head _) hl' (by decide) (by decide) ?hx ?_
    case hx => exact rfl
    walk_at "mm"
    with_reducible refine' i_mu (by assumption) (List.Mem.head _) hl' (by decide) (by decide) ?hx ?_
    case hx => exact rfl
    walk_at "mm"
    have hlt : ¬ p ≥ (vs.length : Int) := fun q => hge (decide_eq_true q)
    have hI2 := hI.get p.toNat (ns.getD p.toNat 0) (ints_getD hp (by omega))
    obtain ⟨tx, hx2⟩ := hI2
    with_reducible refine' i_im (by assumption) hin ?h0 ?hk' ?hx ?_
    case h0 => omega
    case hk' => omega
    case hx => (rw [show (p + 1 - 1).toNat = p.toNat by omega]; exact hx2)
    walk_at "mm"
    with_reducible refine b_abs (by assumption) ?_
    intro y ty s2 hy S2
    walk_at "mm"
    with_reducible refine o_mod (by assumption) hk ?_
    intro z tz s3 h0 h1 S3
    exact ret _ _ _ _ h0 h1 ⟨inner, vs, ns, n, p + 1, _, hl', by omega, hin, hI, hlen⟩ (back _ _ _ _ S3)
-- F3
/-- a pair of two strs -/
def PairAt (b : Im) (v : Value) (p : Str × Str) : Prop := ∃ a t u, v = .ref a ∧ b a = some (tupO [.str p.1 t, .str p.2 u])
theorem PairAt.le {b b' : Im} {v : Value} {p : Str × Str} (h : PairAt b v p) (l : Le b b') : PairAt b' v p := let ⟨a, t, u, e, q⟩ := h; ⟨a, t, u, e, l _ _ q⟩
inductive PairsE : List Expr → List (Str × Str) → Prop
  | nil : PairsE [] []
  | cons {x y : Str} {i j k : Nat} {p q r : Pos} {es : List Expr} {l : List (Str × Str)} : PairsE es l → PairsE (.Tuple [.Constant (.str x) i p, .Constant (.str y) j q] k r :: es) ((x, y) :: l)
theorem pairs_spliced {w : World} {A : Around} {c : Cx} {mu : Led} {m : Str → Option Value} {env : Env} {pos : Pos} : ∀ {es : List Expr} {ks : List (Str × Str)}, PairsE es ks → ∀ {b : Im} {s : Shared} {Q : List Value → Shared → Prop}, St w c b mu s m →
    (∀ vs b' s', Le b b' → St w c b' mu s' m → All2 (PairAt b') vs ks → Q vs s') → wpAny (model PR w) A (spliced (backTo pos (starEach es env))) Q NoE s := by
  intro es ks H
  induction H with
  | nil => intro b s Q S h; exact a_none (h _ _ _ (Le.refl _) S .nil)
  | cons r ih =>
    intro b s Q S h
    refine a_more ?_
    walk_at "mm"
    with_reducible refine n_tup (by assumption) ?_
    intro a b1 s1 l1 h1 S1
    refine ih S1 ?_
    intro vs b2 s2 l2 S2 h2
    exact h _ _ _ (l1.trans l2) S2 (.cons ⟨a, _, _, rfl, l2 _ _ h1⟩ h2)
def kindsL : List (Str × Str) := [("get_variable", "WR"), ("get_value", "RR"), ("get_constant", ".R"), ("get_structure", ".R"), ("get_list", "R"), ("unify_variable", "W"), ("set_variable", "W"), ("unify_value", "R"), ("set_value", "R"), ("unify_local_value", "U"),
  ("set_local_value", "U"), ("put_variable", "WW"), ("put_value", "RW"), ("put_list", "W"), ("put_unsafe_value", "RW"), ("put_constant", ".W"), ("put_structure", ".W"), ("put_void", "W"), ("get_level", "W"), ("mark", "W"), ("cut_to", "R"), ("unify_void", "."), ("builtin", ".."), ("execute", "."), ("call", ".."), ("proceed", ""), ("allocate", ".")].map fun p => (Str.ofString p.1, Str.ofString p.2)
set_option maxHeartbeats 2000000 in
theorem kinds_spec {w : World} {b : Im} : Fun w 75 [] b (fun v b' => ∃ a vs, v = .ref a ∧ b' a = some (lstO vs) ∧ All2 (PairAt b') vs kindsL) 1 := by
  intro A hA c mu s m Q S ret
  refine enter (n := 0) hA S (f := 75) (binds := []) rfl (by rfl) (BindsTo.of_eq rfl) (locs rfl) (by decide) rfl rfl rfl ?_
  intro c' s' hc hA' S' back
  with_reducible refine s_ret ?_
  with_reducible refine e_lst ?_
  with_reducible refine' pairs_spliced (ks := kindsL) ?E S' ?_
  case E => repeat (first | exact PairsE.nil | refine PairsE.cons ?_)
  intro vs b1 s1 l1 S1 h1
  with_reducible refine n_lst S1 ?_ ?_
  · intro a b2 s2 l2 h2 S2
    exact ret _ _ _ (l1.trans l2) (back _ _ _ _ S2) ⟨a, vs, rfl, h2, h1.imp fun _ _ x => x.le l2⟩
  · rw [h1.length, sizeLine_eq]; decide
-- F4
theorem one_eq (ch k : Nat) (x : Str) (hx : x = ⟨#[k]⟩) : ((⟨#[ch]⟩ : Str) == x) = decide (ch = k) := by
  subst hx
  by_cases h : ch = k
  · subst h; simp
  · rw [decide_eq_false h]
    rw [beq_eq_false_iff_ne]
    intro e
    injection e with e
    exact h (by simpa using e)
theorem dot_eq : Str.ofString "." = ⟨#[46]⟩ := by kernel_rfl
/-- the operands of a row: 7 where the roles have a dot, the place elsewhere -/
def RowVs (roles : Str) (pvs vs : List Value) (k : Nat) : Prop :=
  vs.length = k ∧ ∀ i ch, i < k → roles.cps[i]? = some ch → ∃ x, vs[i]? = some x ∧ (if ch = 46 then ∃ t, x = .int 7 t else pvs[i]? = some x)
theorem RowVs.snoc {roles : Str} {pvs vs : List Value} {k ch : Nat} {x : Value} (h : RowVs roles pvs vs k) (hc : roles.cps[k]? = some ch) (hx : if ch = 46 then ∃ t, x = .int 7 t else pvs[k]? = some x) : RowVs roles pvs (vs ++ [x]) (k + 1) := by
  refine ⟨by rw [List.length_append, h.1]; rfl, fun i d hi hd => ?_⟩
  by_cases q : i = k
  · subst q
    rw [hc] at hd; cases hd
    exact ⟨x, by rw [List.getElem?_append_right (by rw [h.1]; exact Nat.le_refl _), h.1, Nat.sub_self]; rfl, hx⟩
  · have hlt : i < k := by omega
    obtain ⟨y, hy, r⟩ := h.2 i d hlt hd
    exact ⟨y, by rw [List.getElem?_append_left (by rw [h.1]; exact hlt)]; exact hy, r⟩
theorem row_spec {w : World} {b : Im} {ka pa : Addr} {name roles : Str} {t u : Tok} {pvs : List Value} {n : Nat} (hk : b ka = some (tupO [.str name t, .str roles u])) (hp : b pa = some (lstO pvs n)) (hr : roles.cps.size < 64)
    (hpl : ∀ i ch, roles.cps[i]? = some ch → ch ≠ 46 → i < pvs.length) :
    Fun w 89 [.ref ka, .ref pa] b (fun v b' => ∃ a vs, v = .ref a ∧ b' a = some (tupO (.str name t :: vs)) ∧ RowVs roles pvs vs roles.cps.size) 1 := by
  intro A hA c mu s m Q S ret
  refine enter (n := 0) hA S (f := 89) (binds := [(Str.ofString "kind", .ref ka), (Str.ofString "places", .ref pa)]) rfl (by rfl) (BindsTo.of_eq rfl) (locs rfl) (by decide) rfl rfl rfl ?_
  intro c' s' hc hA' S' back
  with_reducible refine s_asgT ?_
  walk_at "mm"
  with_reducible refine as_two hA'.hh (by assumption) hk ?_
  intro s1 S1
  walk_at "mm"
  with_reducible refine n_lstM (by assumption) ?_
  intro rl s2 hrl S2
  walk_at "mm"
  with_reducible refine e_tcall (T := "range") ?_ ?_
  ((with_reducible refine' e_bn (by assumption) ?hv ?hb ?hn ?_); (case hv => kernel_rfl); (case hb => boot_by_name); (case hn => decide); exact ⟨rfl, rfl⟩)
  walk_at "mm"
  with_reducible refine e_bcall (id := "len") ?_ ?_
  ((with_reducible refine' e_bn (by assumption) ?hv ?hb ?hn ?_); (case hv => kernel_rfl); (case hb => boot_by_name); (case hn => decide); exact ⟨rfl, rfl⟩)
  walk_at "mm"
  with_reducible refine b_lenS (by assumption) (by omega) ?_
  intro _ s3 S3
  walk_at "mm"
  with_reducible refine b_range1 S3 ?_
  intro r t0 v0 s4 hr4 S4
  with_reducible refine for_r0 (n := roles.cps.size) hA'.hh S4 hr4 (by omega) (fun i b' mu' m' => ∃ vs n', mu' = (rl, lstO (.str name t :: vs) n') :: mu ∧ RowVs roles pvs vs i ∧
    m' (Str.ofString "roles") = some (.str roles u) ∧ m' (Str.ofString "row") = some (.ref rl) ∧ m' (Str.ofString "places") = some (.ref pa)) ?_ ?_ ?_ ?_
  · exact ⟨[], 0, rfl, ⟨rfl, fun _ _ h => absurd h (Nat.not_lt_zero _)⟩, rfl, rfl, rfl⟩
  · intros; rfl
  · rintro i ti b' mu' m' it s5 hi hle ⟨vs, n', rfl, hv, m1, m2, m3⟩ S5
    rw [List.cons_append] at S5
    have hch : roles.cps[i]? = some roles.cps[i] := by simp [hi]
    generalize roles.cps[i] = ch at hch
    with_reducible refine as_nm S5 ?_
    intro s6 S6
    walk_at "mm"
    with_reducible refine e_meth ?_
    walk_at "mm"
    with_reducible refine g_app (by assumption) (List.Mem.head _) ?_
    walk_at "mm"
    with_reducible refine' i_str (by assumption) ?h0 ?hk ?hc ?_
    case h0 => omega
    case hk => omega
    case hc => exact hch
    intro _ s7 S7
    walk_at "mm"
    split
    · rename_i h46
      have hc46 : ch = 46 := by rw [one_eq _ _ _ dot_eq] at h46; exact of_decide_eq_true h46
      walk_at "mm"
      refine b_app (pre := []) (by assumption) (fun n2 s8 S8 => ?_) (by rw [List.length_cons, hv.1, sizeLine_eq]; omega)
      walk_at "mm"
      refine tend (mu₂ := (rl, lstO (.str name t :: (vs ++ [_])) n2) :: mu) S8 hle rfl ⟨_, _, rfl, hv.snoc hch ?_, m1, m2, m3⟩
      rw [if_pos hc46]; exact ⟨_, rfl⟩
    · rename_i h46
      have hc46 : ch ≠ 46 := fun e => h46 (by rw [one_eq _ _ _ dot_eq]; exact decide_eq_true e)
      have hlt := hpl i ch hch hc46
      have hx : pvs[i]? = some pvs[i] := by simp [hlt]
      generalize pvs[i] = x at hx
      walk_at "mm"
      with_reducible refine' i_im (by assumption) (hle.at hp) ?h0 ?hk ?hx ?_
      case h0 => omega
      case hk => omega
      case hx => exact hx
      walk_at "mm"
      refine b_app (pre := []) (by assumption) (fun n2 s8 S8 => ?_) (by rw [List.length_cons, hv.1, sizeLine_eq]; omega)
      walk_at "mm"
      refine tend (mu₂ := (rl, lstO (.str name t :: (vs ++ [_])) n2) :: mu) S8 hle rfl ⟨_, _, rfl, hv.snoc hch ?_, m1, m2, m3⟩
      rw [if_neg hc46]; exact hx
  · rintro b' mu' m' s5 hle ⟨vs, n', rfl, hv, m1, m2, m3⟩ S5
    walk_at "mm"
    with_reducible refine e_tcall (T := "tuple") ?_ ?_
    ((with_reducible refine' e_bn (by assumption) ?hv ?hb ?hn ?_); (case hv => kernel_rfl); (case hb => boot_by_name); (case hn => decide); exact ⟨rfl, rfl⟩)
    walk_at "mm"
    refine b_tupL (pre := []) S5 (by rw [List.length_cons, hv.1, sizeLine_eq]; omega) ?_
    intro a b2 s6 l2 h2 S6
    exact ret _ _ _ (hle.trans l2) ((back _ _ _ _ S6).drop (List.sublist_cons_self _ _)) ⟨a, vs, rfl, h2, hv⟩
-- F5
/-- which operands a row tells: the role, the place in the row -/
def rolesIdx (n : Str) : List (Int × Nat) :=
  if (n == Str.ofString "get_variable") = true then [(1, 2), (2, 1)] else
  if (n == Str.ofString "get_value") = true then [(1, 1), (1, 2)] else
  if (n == Str.ofString "get_constant") = true then [(1, 2)] else
  if (n == Str.ofString "get_structure") = true then [(1, 2)] else
  if (n == Str.ofString "get_list") = true then [(1, 1)] else
  if (n == Str.ofString "unify_variable") = true then [(2, 1)] else
  if (n == Str.ofString "set_variable") = true then [(2, 1)] else
  if (n == Str.ofString "unify_value") = true then [(1, 1)] else
  if (n == Str.ofString "set_value") = true then [(1, 1)] else
  if (n == Str.ofString "unify_local_value") = true then [(3, 1)] else
  if (n == Str.ofString "set_local_value") = true then [(3, 1)] else
  if (n == Str.ofString "put_variable") = true then [(2, 1), (2, 2)] else
  if (n == Str.ofString "put_value") = true then [(1, 1), (2, 2)] else
  if (n == Str.ofString "put_unsafe_value") = true then [(1, 1), (2, 2)] else
  if (n == Str.ofString "put_constant") = true then [(2, 2)] else
  if (n == Str.ofString "put_structure") = true then [(2, 2)] else
  if (n == Str.ofString "put_list") = true then [(2, 1)] else
  if (n == Str.ofString "put_void") = true then [(2, 1)] else
  if (n == Str.ofString "get_level") = true then [(2, 1)] else
  if (n == Str.ofString "mark") = true then [(2, 1)] else
  if (n == Str.ofString "cut_to") = true then [(1, 1)] else []
/-- a pair of an int and a value -/
def IPair (b : Im) (v : Value) (q : Int × Value) : Prop := ∃ a t, v = .ref a ∧ b a = some (tupO [.int q.1 t, q.2])
theorem IPair.le {b b' : Im} {v : Value} {q : Int × Value} (h : IPair b v q) (l : Le b b') : IPair b' v q := let ⟨a, t, e, x⟩ := h; ⟨a, t, e, l _ _ x⟩
def Told (name : Str) (vs : List Value) (l : List (Int × Value)) : Prop := All2 (fun p q => q.1 = p.1 ∧ vs[p.2 - 1]? = some q.2) (rolesIdx name) l
theorem ns_reads (w : World) : nsIn (hd.heap_39 w.params) mainGlobals (Str.ofString "READS") = some (some (.int 1 196)) := by kernel_rfl
theorem ns_writes (w : World) : nsIn (hd.heap_39 w.params) mainGlobals (Str.ofString "WRITES") = some (some (.int 2 198)) := by kernel_rfl
theorem ns_updates (w : World) : nsIn (hd.heap_39 w.params) mainGlobals (Str.ofString "UPDATES") = some (some (.int 3 200)) := by kernel_rfl
-- one pair
set_option maxHeartbeats 2000000 in
theorem roles_spec {w : World} {b : Im} {r : Addr} {name : Str} {t : Tok} {vs : List Value} (hr : b r = some (tupO (.str name t :: vs))) (hvs : ∀ p ∈ rolesIdx name, 1 ≤ p.2 ∧ ∃ x, vs[p.2 - 1]? = some x) :
    Fun w 28 [.ref r] b (fun v b' => ∃ a refs l, v = .ref a ∧ b' a = some (lstO refs) ∧ All2 (IPair b') refs l ∧ Told name vs l) 1 := by
  intro A hA c mu s m Q S ret
  refine enter (n := 0) hA S (f := 28) (binds := [(Str.ofString "instruction", .ref r)]) rfl (by rfl) (BindsTo.of_eq rfl) (locs rfl) (by decide) rfl rfl rfl ?_
  intro c' s' hc hA' S' back
  have l0 : Le b b := Le.refl b
  walk_at "mm"
  with_reducible refine' i_tup (by assumption) hr (by decide) (by decide) ?hx ?_
  case hx => exact rfl
  have hR : rolesIdx name = rolesIdx name := rfl
  conv at hR => rhs; unfold rolesIdx
  walk_at "mm"
  split
  · rename_i h
    replace hR := hR.trans (if_pos h)
    have hq := hvs
    rw [hR] at hq
    obtain ⟨_, x1, h1⟩ := hq _ (List.Mem.head _)
    obtain ⟨_, x2, h2⟩ := hq _ (List.Mem.tail _ (List.Mem.head _))
    (walk_at "mm"; ((with_reducible refine' e_gn (by assumption) ?hv ?_); (case hv => first | exact ns_reads _ | exact ns_writes _ | exact ns_updates _)); walk_at "mm"; ((with_reducible refine' i_tup (by assumption) (Le.at (by assumption) (by assumption)) ?h0 ?hk ?hx ?_); (case h0 => decide); (case hk => decide); (case hx => assumption)); walk_at "mm"; with_reducible refine n_tup (by assumption) ?_)
    intro a1 b1 s1 l1 e1 S1
    (walk_at "mm"; ((with_reducible refine' e_gn (by assumption) ?hv ?_); (case hv => first | exact ns_reads _ | exact ns_writes _ | exact ns_updates _)); walk_at "mm"; ((with_reducible refine' i_tup (by assumption) (Le.at (by assumption) (by assumption)) ?h0 ?hk ?hx ?_); (case h0 => decide); (case hk => decide); (case hx => assumption)); walk_at "mm"; with_reducible refine n_tup (by assumption) ?_)
    intro a2 b2 s2 l2 e2 S2
    have l12 := l1.trans l2
    walk_at "mm"
    with_reducible refine n_lst (by assumption) ?_
    intro a3 b3 s3 l3 e3 S3
    exact ret _ _ _ (l12.trans l3) (back _ _ _ _ S3) ⟨a3, _, [(_, x1), (_, x2)], rfl, e3, .cons ⟨a1, _, rfl, l3 _ _ (l2 _ _ e1)⟩ (.cons ⟨a2, _, rfl, l3 _ _ e2⟩ .nil), by unfold Told; rw [hR]; exact .cons ⟨rfl, h1⟩ (.cons ⟨rfl, h2⟩ .nil)⟩
  rename_i h
  replace hR := hR.trans (if_neg h)
  clear h
  walk_at "mm"
  split
  · rename_i h
    replace hR := hR.trans (if_pos h)
    have hq := hvs
    rw [hR] at hq
    obtain ⟨_, x1, h1⟩ := hq _ (List.Mem.head _)
    obtain ⟨_, x2, h2⟩ := hq _ (List.Mem.tail _ (List.Mem.head _))
    (walk_at "mm"; ((with_reducible refine' e_gn (by assumption) ?hv ?_); (case hv => first | exact ns_reads _ | exact ns_writes _ | exact ns_updates _)); walk_at "mm"; ((with_reducible refine' i_tup (by assumption) (Le.at (by assumption) (by assumption)) ?h0 ?hk ?hx ?_); (case h0 => decide); (case hk => decide); (case hx => assumption)); walk_at "mm"; with_reducible refine n_tup (by assumption) ?_)
    intro a1 b1 s1 l1 e1 S1
    (walk_at "mm"; ((with_reducible refine' e_gn (by assumption) ?hv ?_); (case hv => first | exact ns_reads _ | exact ns_writes _ | exact ns_updates _)); walk_at "mm"; ((with_reducible refine' i_tup (by assumption) (Le.at (by assumption) (by assumption)) ?h0 ?hk ?hx ?_); (case h0 => decide); (case hk => decide); (case hx => assumption)); walk_at "mm"; with_reducible refine n_tup (by assumption) ?_)
    intro a2 b2 s2 l2 e2 S2
    have l12 := l1.trans l2
    walk_at "mm"
    with_reducible refine n_lst (by assumption) ?_
    intro a3 b3 s3 l3 e3 S3
    exact ret _ _ _ (l12.trans l3) (back _ _ _ _ S3) ⟨a3, _, [(_, x1), (_, x2)], rfl, e3, .cons ⟨a1, _, rfl, l3 _ _ (l2 _ _ e1)⟩ (.cons ⟨a2, _, rfl, l3 _ _ e2⟩ .nil), by unfold Told; rw [hR]; exact .cons ⟨rfl, h1⟩ (.cons ⟨rfl, h2⟩ .nil)⟩
  rename_i h
  replace hR := hR.trans (if_neg h)
  clear h
  walk_at "mm"
  split
  · rename_i h
    replace hR := hR.trans (if_pos h)
    have hq := hvs
    rw [hR] at hq
    obtain ⟨_, x1, h1⟩ := hq _ (List.Mem.head _)
    (walk_at "mm"; ((with_reducible refine' e_gn (by assumption) ?hv ?_); (case hv => first | exact ns_reads _ | exact ns_writes _ | exact ns_updates _)); walk_at "mm"; ((with_reducible refine' i_tup (by assumption) (Le.at (by assumption) (by assumption)) ?h0 ?hk ?hx ?_); (case h0 => decide); (case hk => decide); (case hx => assumption)); walk_at "mm"; with_reducible refine n_tup (by assumption) ?_)
    intro a1 b1 s1 l1 e1 S1
    walk_at "mm"
    with_reducible refine n_lst (by assumption) ?_
    intro a2 b2 s2 l2 e2 S2
    exact ret _ _ _ (l1.trans l2) (back _ _ _ _ S2) ⟨a2, _, [(_, x1)], rfl, e2, .cons ⟨a1, _, rfl, l2 _ _ e1⟩ .nil, by unfold Told; rw [hR]; exact .cons ⟨rfl, h1⟩ .nil⟩
  rename_i h
  replace hR := hR.trans (if_neg h)
  clear h
  walk_at "mm"
  split
  · rename_i h
    replace hR := hR.trans (if_pos h)
    have hq := hvs
    rw [hR] at hq
    obtain ⟨_, x1, h1⟩ := hq _ (List.Mem.head _)
    (walk_at "mm"; ((with_reducible refine' e_gn (by assumption) ?hv ?_); (case hv => first | exact ns_reads _ | exact ns_writes _ | exact ns_updates _)); walk_at "mm"; ((with_reducible refine' i_tup (by assumption) (Le.at (by assumption) (by assumption)) ?h0 ?hk ?hx ?_); (case h0 => decide); (case hk => decide); (case hx => assumption)); walk_at "mm"; with_reducible refine n_tup (by assumption) ?_)
    intro a1 b1 s1 l1 e1 S1
    walk_at "mm"
    with_reducible refine n_lst (by assumption) ?_
    intro a2 b2 s2 l2 e2 S2
    exact ret _ _ _ (l1.trans l2) (back _ _ _ _ S2) ⟨a2, _, [(_, x1)], rfl, e2, .cons ⟨a1, _, rfl, l2 _ _ e1⟩ .nil, by unfold Told; rw [hR]; exact .cons ⟨rfl, h1⟩ .nil⟩
  rename_i h
  replace hR := hR.trans (if_neg h)
  clear h
  walk_at "mm"
  split
  · rename_i h
    replace hR := hR.trans (if_pos h)
    have hq := hvs
    rw [hR] at hq
    obtain ⟨_, x1, h1⟩ := hq _ (List.Mem.head _)
    (walk_at "mm"; ((with_reducible refine' e_gn (by assumption) ?hv ?_); (case hv => first | exact ns_reads _ | exact ns_writes _ | exact ns_updates _)); walk_at "mm"; ((with_reducible refine' i_tup (by assumption) (Le.at (by assumption) (by assumption)) ?h0 ?hk ?hx ?_); (case h0 => decide); (case hk => decide); (case hx => assumption)); walk_at "mm"; with_reducible refine n_tup (by assumption) ?_)
    intro a1 b1 s1 l1 e1 S1
    walk_at "mm"
    with_reducible refine n_lst (by assumption) ?_
    intro a2 b2 s2 l2 e2 S2
    exact ret _ _ _ (l1.trans l2) (back _ _ _ _ S2) ⟨a2, _, [(_, x1)], rfl, e2, .cons ⟨a1, _, rfl, l2 _ _ e1⟩ .nil, by unfold Told; rw [hR]; exact .cons ⟨rfl, h1⟩ .nil⟩
  rename_i h
  replace hR := hR.trans (if_neg h)
  clear h
  walk_at "mm"
  split
  · rename_i h
    replace hR := hR.trans (if_pos h)
    have hq := hvs
    rw [hR] at hq
    obtain ⟨_, x1, h1⟩ := hq _ (List.Mem.head _)
    (walk_at "mm"; ((with_reducible refine' e_gn (by assumption) ?hv ?_); (case hv => first | exact ns_reads _ | exact ns_writes _ | exact ns_updates _)); walk_at "mm"; ((with_reducible refine' i_tup (by assumption) (Le.at (by assumption) (by assumption)) ?h0 ?hk ?hx ?_); (case h0 => decide); (case hk => decide); (case hx => assumption)); walk_at "mm"; with_reducible refine n_tup (by assumption) ?_)
    intro a1 b1 s1 l1 e1 S1
    walk_at "mm"
    with_reducible refine n_lst (by assumption) ?_
    intro a2 b2 s2 l2 e2 S2
    exact ret _ _ _ (l1.trans l2) (back _ _ _ _ S2) ⟨a2, _, [(_, x1)], rfl, e2, .cons ⟨a1, _, rfl, l2 _ _ e1⟩ .nil, by unfold Told; rw [hR]; exact .cons ⟨rfl, h1⟩ .nil⟩
  rename_i h
  replace hR := hR.trans (if_neg h)
  clear h
  walk_at "mm"
  split
  · rename_i h
    replace hR := hR.trans (if_pos h)
    have hq := hvs
    rw [hR] at hq
    obtain ⟨_, x1, h1⟩ := hq _ (List.Mem.head _)
    (walk_at "mm"; ((with_reducible refine' e_gn (by assumption) ?hv ?_); (case hv => first | exact ns_reads _ | exact ns_writes _ | exact ns_updates _)); walk_at "mm"; ((with_reducible refine' i_tup (by assumption) (Le.at (by assumption) (by assumption)) ?h0 ?hk ?hx ?_); (case h0 => decide); (case hk => decide); (case hx => assumption)); walk_at "mm"; with_reducible refine n_tup (by assumption) ?_)
    intro a1 b1 s1 l1 e1 S1
    walk_at "mm"
    with_reducible refine n_lst (by assumption) ?_
    intro a2 b2 s2 l2 e2 S2
    exact ret _ _ _ (l1.trans l2) (back _ _ _ _ S2) ⟨a2, _, [(_, x1)], rfl, e2, .cons ⟨a1, _, rfl, l2 _ _ e1⟩ .nil, by unfold Told; rw [hR]; exact .cons ⟨rfl, h1⟩ .nil⟩
  rename_i h
  replace hR := hR.trans (if_neg h)
  clear h
  walk_at "mm"
  split
  · rename_i h
    replace hR := hR.trans (if_pos h)
    have hq := hvs
    rw [hR] at hq
    obtain ⟨_, x1, h1⟩ := hq _ (List.Mem.head _)
    (walk_at "mm"; ((with_reducible refine' e_gn (by assumption) ?hv ?_); (case hv => first | exact ns_reads _ | exact ns_writes _ | exact ns_updates _)); walk_at "mm"; ((with_reducible refine' i_tup (by assumption) (Le.at (by assumption) (by assumption)) ?h0 ?hk ?hx ?_); (case h0 => decide); (case hk => decide); (case hx => assumption)); walk_at "mm"; with_reducible refine n_tup (by assumption) ?_)
    intro a1 b1 s1 l1 e1 S1
    walk_at "mm"
    with_reducible refine n_lst (by assumption) ?_
    intro a2 b2 s2 l2 e2 S2
    exact ret _ _ _ (l1.trans l2) (back _ _ _ _ S2) ⟨a2, _, [(_, x1)], rfl, e2, .cons ⟨a1, _, rfl, l2 _ _ e1⟩ .nil, by unfold Told; rw [hR]; exact .cons ⟨rfl, h1⟩ .nil⟩
  rename_i h
  replace hR := hR.trans (if_neg h)
  clear h
  walk_at "mm"
  split
  · rename_i h
    replace hR := hR.trans (if_pos h)
    have hq := hvs
    rw [hR] at hq
    obtain ⟨_, x1, h1⟩ := hq _ (List.Mem.head _)
    (walk_at "mm"; ((with_reducible refine' e_gn (by assumption) ?hv ?_); (case hv => first | exact ns_reads _ | exact ns_writes _ | exact ns_updates _)); walk_at "mm"; ((with_reducible refine' i_tup (by assumption) (Le.at (by assumption) (by assumption)) ?h0 ?hk ?hx ?_); (case h0 => decide); (case hk => decide); (case hx => assumption)); walk_at "mm"; with_reducible refine n_tup (by assumption) ?_)
    intro a1 b1 s1 l1 e1 S1
    walk_at "mm"
    with_reducible refine n_lst (by assumption) ?_
    intro a2 b2 s2 l2 e2 S2
    exact ret _ _ _ (l1.trans l2) (back _ _ _ _ S2) ⟨a2, _, [(_, x1)], rfl, e2, .cons ⟨a1, _, rfl, l2 _ _ e1⟩ .nil, by unfold Told; rw [hR]; exact .cons ⟨rfl, h1⟩ .nil⟩
  rename_i h
  replace hR := hR.trans (if_neg h)
  clear h
  walk_at "mm"
  split
  · rename_i h
    replace hR := hR.trans (if_pos h)
    have hq := hvs
    rw [hR] at hq
    obtain ⟨_, x1, h1⟩ := hq _ (List.Mem.head _)
    (walk_at "mm"; ((with_reducible refine' e_gn (by assumption) ?hv ?_); (case hv => first | exact ns_reads _ | exact ns_writes _ | exact ns_updates _)); walk_at "mm"; ((with_reducible refine' i_tup (by assumption) (Le.at (by assumption) (by assumption)) ?h0 ?hk ?hx ?_); (case h0 => decide); (case hk => decide); (case hx => assumption)); walk_at "mm"; with_reducible refine n_tup (by assumption) ?_)
    intro a1 b1 s1 l1 e1 S1
    walk_at "mm"
    with_reducible refine n_lst (by assumption) ?_
    intro a2 b2 s2 l2 e2 S2
    exact ret _ _ _ (l1.trans l2) (back _ _ _ _ S2) ⟨a2, _, [(_, x1)], rfl, e2, .cons ⟨a1, _, rfl, l2 _ _ e1⟩ .nil, by unfold Told; rw [hR]; exact .cons ⟨rfl, h1⟩ .nil⟩
  rename_i h
  replace hR := hR.trans (if_neg h)
  clear h
  walk_at "mm"
  split
  · rename_i h
    replace hR := hR.trans (if_pos h)
    have hq := hvs
    rw [hR] at hq
    obtain ⟨_, x1, h1⟩ := hq _ (List.Mem.head _)
    (walk_at "mm"; ((with_reducible refine' e_gn (by assumption) ?hv ?_); (case hv => first | exact ns_reads _ | exact ns_writes _ | exact ns_updates _)); walk_at "mm"; ((with_reducible refine' i_tup (by assumption) (Le.at (by assumption) (by assumption)) ?h0 ?hk ?hx ?_); (case h0 => decide); (case hk => decide); (case hx => assumption)); walk_at "mm"; with_reducible refine n_tup (by assumption) ?_)
    intro a1 b1 s1 l1 e1 S1
    walk_at "mm"
    with_reducible refine n_lst (by assumption) ?_
    intro a2 b2 s2 l2 e2 S2
    exact ret _ _ _ (l1.trans l2) (back _ _ _ _ S2) ⟨a2, _, [(_, x1)], rfl, e2, .cons ⟨a1, _, rfl, l2 _ _ e1⟩ .nil, by unfold Told; rw [hR]; exact .cons ⟨rfl, h1⟩ .nil⟩
  rename_i h
  replace hR := hR.trans (if_neg h)
  clear h
  walk_at "mm"
  split
  · rename_i h
    replace hR := hR.trans (if_pos h)
    have hq := hvs
    rw [hR] at hq
    obtain ⟨_, x1, h1⟩ := hq _ (List.Mem.head _)
    obtain ⟨_, x2, h2⟩ := hq _ (List.Mem.tail _ (List.Mem.head _))
    (walk_at "mm"; ((with_reducible refine' e_gn (by assumption) ?hv ?_); (case hv => first | exact ns_reads _ | exact ns_writes _ | exact ns_updates _)); walk_at "mm"; ((with_reducible refine' i_tup (by assumption) (Le.at (by assumption) (by assumption)) ?h0 ?hk ?hx ?_); (case h0 => decide); (case hk => decide); (case hx => assumption)); walk_at "mm"; with_reducible refine n_tup (by assumption) ?_)
    intro a1 b1 s1 l1 e1 S1
    (walk_at "mm"; ((with_reducible refine' e_gn (by assumption) ?hv ?_); (case hv => first | exact ns_reads _ | exact ns_writes _ | exact ns_updates _)); walk_at "mm"; ((with_reducible refine' i_tup (by assumption) (Le.at (by assumption) (by assumption)) ?h0 ?hk ?hx ?_); (case h0 => decide); (case hk => decide); (case hx => assumption)); walk_at "mm"; with_reducible refine n_tup (by assumption) ?_)
    intro a2 b2 s2 l2 e2 S2
    have l12 := l1.trans l2
    walk_at "mm"
    with_reducible refine n_lst (by assumption) ?_
    intro a3 b3 s3 l3 e3 S3
    exact ret _ _ _ (l12.trans l3) (back _ _ _ _ S3) ⟨a3, _, [(_, x1), (_, x2)], rfl, e3, .cons ⟨a1, _, rfl, l3 _ _ (l2 _ _ e1)⟩ (.cons ⟨a2, _, rfl, l3 _ _ e2⟩ .nil), by unfold Told; rw [hR]; exact .cons ⟨rfl, h1⟩ (.cons ⟨rfl, h2⟩ .nil)⟩
  rename_i h
  replace hR := hR.trans (if_neg h)
  clear h
  walk_at "mm"
  split
  · rename_i h
    replace hR := hR.trans (if_pos h)
    have hq := hvs
    rw [hR] at hq
    obtain ⟨_, x1, h1⟩ := hq _ (List.Mem.head _)
    obtain ⟨_, x2, h2⟩ := hq _ (List.Mem.tail _ (List.Mem.head _))
    (walk_at "mm"; ((with_reducible refine' e_gn (by assumption) ?hv ?_); (case hv => first | exact ns_reads _ | exact ns_writes _ | exact ns_updates _)); walk_at "mm"; ((with_reducible refine' i_tup (by assumption) (Le.at (by assumption) (by assumption)) ?h0 ?hk ?hx ?_); (case h0 => decide); (case hk => decide); (case hx => assumption)); walk_at "mm"; with_reducible refine n_tup (by assumption) ?_)
    intro a1 b1 s1 l1 e1 S1
    (walk_at "mm"; ((with_reducible refine' e_gn (by assumption) ?hv ?_); (case hv => first | exact ns_reads _ | exact ns_writes _ | exact ns_updates _)); walk_at "mm"; ((with_reducible refine' i_tup (by assumption) (Le.at (by assumption) (by assumption)) ?h0 ?hk ?hx ?_); (case h0 => decide); (case hk => decide); (case hx => assumption)); walk_at "mm"; with_reducible refine n_tup (by assumption) ?_)
    intro a2 b2 s2 l2 e2 S2
    have l12 := l1.trans l2
    walk_at "mm"
    with_reducible refine n_lst (by assumption) ?_
    intro a3 b3 s3 l3 e3 S3
    exact ret _ _ _ (l12.trans l3) (back _ _ _ _ S3) ⟨a3, _, [(_, x1), (_, x2)], rfl, e3, .cons ⟨a1, _, rfl, l3 _ _ (l2 _ _ e1)⟩ (.cons ⟨a2, _, rfl, l3 _ _ e2⟩ .nil), by unfold Told; rw [hR]; exact .cons ⟨rfl, h1⟩ (.cons ⟨rfl, h2⟩ .nil)⟩
  rename_i h
  replace hR := hR.trans (if_neg h)
  clear h
  walk_at "mm"
  split
  · rename_i h
    replace hR := hR.trans (if_pos h)
    have hq := hvs
    rw [hR] at hq
    obtain ⟨_, x1, h1⟩ := hq _ (List.Mem.head _)
    obtain ⟨_, x2, h2⟩ := hq _ (List.Mem.tail _ (List.Mem.head _))
    (walk_at "mm"; ((with_reducible refine' e_gn (by assumption) ?hv ?_); (case hv => first | exact ns_reads _ | exact ns_writes _ | exact ns_updates _)); walk_at "mm"; ((with_reducible refine' i_tup (by assumption) (Le.at (by assumption) (by assumption)) ?h0 ?hk ?hx ?_); (case h0 => decide); (case hk => decide); (case hx => assumption)); walk_at "mm"; with_reducible refine n_tup (by assumption) ?_)
    intro a1 b1 s1 l1 e1 S1
    (walk_at "mm"; ((with_reducible refine' e_gn (by assumption) ?hv ?_); (case hv => first | exact ns_reads _ | exact ns_writes _ | exact ns_updates _)); walk_at "mm"; ((with_reducible refine' i_tup (by assumption) (Le.at (by assumption) (by assumption)) ?h0 ?hk ?hx ?_); (case h0 => decide); (case hk => decide); (case hx => assumption)); walk_at "mm"; with_reducible refine n_tup (by assumption) ?_)
    intro a2 b2 s2 l2 e2 S2
    have l12 := l1.trans l2
    walk_at "mm"
    with_reducible refine n_lst (by assumption) ?_
    intro a3 b3 s3 l3 e3 S3
    exact ret _ _ _ (l12.trans l3) (back _ _ _ _ S3) ⟨a3, _, [(_, x1), (_, x2)], rfl, e3, .cons ⟨a1, _, rfl, l3 _ _ (l2 _ _ e1)⟩ (.cons ⟨a2, _, rfl, l3 _ _ e2⟩ .nil), by unfold Told; rw [hR]; exact .cons ⟨rfl, h1⟩ (.cons ⟨rfl, h2⟩ .nil)⟩
  rename_i h
  replace hR := hR.trans (if_neg h)
  clear h
  walk_at "mm"
  split
  · rename_i h
    replace hR := hR.trans (if_pos h)
    have hq := hvs
    rw [hR] at hq
    obtain ⟨_, x1, h1⟩ := hq _ (List.Mem.head _)
    (walk_at "mm"; ((with_reducible refine' e_gn (by assumption) ?hv ?_); (case hv => first | exact ns_reads _ | exact ns_writes _ | exact ns_updates _)); walk_at "mm"; ((with_reducible refine' i_tup (by assumption) (Le.at (by assumption) (by assumption)) ?h0 ?hk ?hx ?_); (case h0 => decide); (case hk => decide); (case hx => assumption)); walk_at "mm"; with_reducible refine n_tup (by assumption) ?_)
    intro a1 b1 s1 l1 e1 S1
    walk_at "mm"
    with_reducible refine n_lst (by assumption) ?_
    intro a2 b2 s2 l2 e2 S2
    exact ret _ _ _ (l1.trans l2) (back _ _ _ _ S2) ⟨a2, _, [(_, x1)], rfl, e2, .cons ⟨a1, _, rfl, l2 _ _ e1⟩ .nil, by unfold Told; rw [hR]; exact .cons ⟨rfl, h1⟩ .nil⟩
  rename_i h
  replace hR := hR.trans (if_neg h)
  clear h
  walk_at "mm"
  split
  · rename_i h
    replace hR := hR.trans (if_pos h)
    have hq := hvs
    rw [hR] at hq
    obtain ⟨_, x1, h1⟩ := hq _ (List.Mem.head _)
    (walk_at "mm"; ((with_reducible refine' e_gn (by assumption) ?hv ?_); (case hv => first | exact ns_reads _ | exact ns_writes _ | exact ns_updates _)); walk_at "mm"; ((with_reducible refine' i_tup (by assumption) (Le.at (by assumption) (by assumption)) ?h0 ?hk ?hx ?_); (case h0 => decide); (case hk => decide); (case hx => assumption)); walk_at "mm"; with_reducible refine n_tup (by assumption) ?_)
    intro a1 b1 s1 l1 e1 S1
    walk_at "mm"
    with_reducible refine n_lst (by assumption) ?_
    intro a2 b2 s2 l2 e2 S2
    exact ret _ _ _ (l1.trans l2) (back _ _ _ _ S2) ⟨a2, _, [(_, x1)], rfl, e2, .cons ⟨a1, _, rfl, l2 _ _ e1⟩ .nil, by unfold Told; rw [hR]; exact .cons ⟨rfl, h1⟩ .nil⟩
  rename_i h
  replace hR := hR.trans (if_neg h)
  clear h
  walk_at "mm"
  split
  · rename_i h
    replace hR := hR.trans (if_pos h)
    have hq := hvs
    rw [hR] at hq
    obtain ⟨_, x1, h1⟩ := hq _ (List.Mem.head _)
    (walk_at "mm"; ((with_reducible refine' e_gn (by assumption) ?hv ?_); (case hv => first | exact ns_reads _ | exact ns_writes _ | exact ns_updates _)); walk_at "mm"; ((with_reducible refine' i_tup (by assumption) (Le.at (by assumption) (by assumption)) ?h0 ?hk ?hx ?_); (case h0 => decide); (case hk => decide); (case hx => assumption)); walk_at "mm"; with_reducible refine n_tup (by assumption) ?_)
    intro a1 b1 s1 l1 e1 S1
    walk_at "mm"
    with_reducible refine n_lst (by assumption) ?_
    intro a2 b2 s2 l2 e2 S2
    exact ret _ _ _ (l1.trans l2) (back _ _ _ _ S2) ⟨a2, _, [(_, x1)], rfl, e2, .cons ⟨a1, _, rfl, l2 _ _ e1⟩ .nil, by unfold Told; rw [hR]; exact .cons ⟨rfl, h1⟩ .nil⟩
  rename_i h
  replace hR := hR.trans (if_neg h)
  clear h
  walk_at "mm"
  split
  · rename_i h
    replace hR := hR.trans (if_pos h)
    have hq := hvs
    rw [hR] at hq
    obtain ⟨_, x1, h1⟩ := hq _ (List.Mem.head _)
    (walk_at "mm"; ((with_reducible refine' e_gn (by assumption) ?hv ?_); (case hv => first | exact ns_reads _ | exact ns_writes _ | exact ns_updates _)); walk_at "mm"; ((with_reducible refine' i_tup (by assumption) (Le.at (by assumption) (by assumption)) ?h0 ?hk ?hx ?_); (case h0 => decide); (case hk => decide); (case hx => assumption)); walk_at "mm"; with_reducible refine n_tup (by assumption) ?_)
    intro a1 b1 s1 l1 e1 S1
    walk_at "mm"
    with_reducible refine n_lst (by assumption) ?_
    intro a2 b2 s2 l2 e2 S2
    exact ret _ _ _ (l1.trans l2) (back _ _ _ _ S2) ⟨a2, _, [(_, x1)], rfl, e2, .cons ⟨a1, _, rfl, l2 _ _ e1⟩ .nil, by unfold Told; rw [hR]; exact .cons ⟨rfl, h1⟩ .nil⟩
  rename_i h
  replace hR := hR.trans (if_neg h)
  clear h
  walk_at "mm"
  split
  · rename_i h
    replace hR := hR.trans (if_pos h)
    have hq := hvs
    rw [hR] at hq
    obtain ⟨_, x1, h1⟩ := hq _ (List.Mem.head _)
    (walk_at "mm"; ((with_reducible refine' e_gn (by assumption) ?hv ?_); (case hv => first | exact ns_reads _ | exact ns_writes _ | exact ns_updates _)); walk_at "mm"; ((with_reducible refine' i_tup (by assumption) (Le.at (by assumption) (by assumption)) ?h0 ?hk ?hx ?_); (case h0 => decide); (case hk => decide); (case hx => assumption)); walk_at "mm"; with_reducible refine n_tup (by assumption) ?_)
    intro a1 b1 s1 l1 e1 S1
    walk_at "mm"
    with_reducible refine n_lst (by assumption) ?_
    intro a2 b2 s2 l2 e2 S2
    exact ret _ _ _ (l1.trans l2) (back _ _ _ _ S2) ⟨a2, _, [(_, x1)], rfl, e2, .cons ⟨a1, _, rfl, l2 _ _ e1⟩ .nil, by unfold Told; rw [hR]; exact .cons ⟨rfl, h1⟩ .nil⟩
  rename_i h
  replace hR := hR.trans (if_neg h)
  clear h
  walk_at "mm"
  split
  · rename_i h
    replace hR := hR.trans (if_pos h)
    have hq := hvs
    rw [hR] at hq
    obtain ⟨_, x1, h1⟩ := hq _ (List.Mem.head _)
    (walk_at "mm"; ((with_reducible refine' e_gn (by assumption) ?hv ?_); (case hv => first | exact ns_reads _ | exact ns_writes _ | exact ns_updates _)); walk_at "mm"; ((with_reducible refine' i_tup (by assumption) (Le.at (by assumption) (by assumption)) ?h0 ?hk ?hx ?_); (case h0 => decide); (case hk => decide); (case hx => assumption)); walk_at "mm"; with_reducible refine n_tup (by assumption) ?_)
    intro a1 b1 s1 l1 e1 S1
    walk_at "mm"
    with_reducible refine n_lst (by assumption) ?_
    intro a2 b2 s2 l2 e2 S2
    exact ret _ _ _ (l1.trans l2) (back _ _ _ _ S2) ⟨a2, _, [(_, x1)], rfl, e2, .cons ⟨a1, _, rfl, l2 _ _ e1⟩ .nil, by unfold Told; rw [hR]; exact .cons ⟨rfl, h1⟩ .nil⟩
  rename_i h
  replace hR := hR.trans (if_neg h)
  clear h
  walk_at "mm"
  split
  · rename_i h
    replace hR := hR.trans (if_pos h)
    have hq := hvs
    rw [hR] at hq
    obtain ⟨_, x1, h1⟩ := hq _ (List.Mem.head _)
    (walk_at "mm"; ((with_reducible refine' e_gn (by assumption) ?hv ?_); (case hv => first | exact ns_reads _ | exact ns_writes _ | exact ns_updates _)); walk_at "mm"; ((with_reducible refine' i_tup (by assumption) (Le.at (by assumption) (by assumption)) ?h0 ?hk ?hx ?_); (case h0 => decide); (case hk => decide); (case hx => assumption)); walk_at "mm"; with_reducible refine n_tup (by assumption) ?_)
    intro a1 b1 s1 l1 e1 S1
    walk_at "mm"
    with_reducible refine n_lst (by assumption) ?_
    intro a2 b2 s2 l2 e2 S2
    exact ret _ _ _ (l1.trans l2) (back _ _ _ _ S2) ⟨a2, _, [(_, x1)], rfl, e2, .cons ⟨a1, _, rfl, l2 _ _ e1⟩ .nil, by unfold Told; rw [hR]; exact .cons ⟨rfl, h1⟩ .nil⟩
  rename_i h
  replace hR := hR.trans (if_neg h)
  clear h
  walk_at "mm"
  with_reducible refine n_lst (by assumption) ?_
  intro a2 b2 s2 l2 e2 S2
  exact ret _ _ _ l2 (back _ _ _ _ S2) ⟨a2, _, [], rfl, e2, .nil, by unfold Told; rw [hR]; exact .nil⟩
-- F6
/-- what the law asks of the roles: the reads, the updates, the writes, in the order of their places -/
def askIdx (roles : Str) (ch : Nat) (r : Int) (n : Nat) : List (Int × Nat) := (List.range n).filterMap fun i => if roles.cps[i]? = some ch then some (r, i + 1) else none
def askTab : List (Nat × Int) := [(82, 1), (85, 3), (87, 2)]
def askAll (roles : Str) (k : Nat) : List (Int × Nat) := (askTab.take k).flatMap fun p => askIdx roles p.1 p.2 roles.cps.size
def Asked (idx : List (Int × Nat)) (vs : List Value) (l : List (Int × Value)) : Prop := All2 (fun p q => q.1 = p.1 ∧ vs[p.2 - 1]? = some q.2) idx l
theorem askIdx_succ (roles : Str) (ch : Nat) (r : Int) (n : Nat) : askIdx roles ch r (n + 1) = askIdx roles ch r n ++ (if roles.cps[n]? = some ch then [(r, n + 1)] else []) := by
  unfold askIdx
  rw [List.range_succ, List.filterMap_append]
  by_cases h : roles.cps[n]? = some ch <;> simp [h]
theorem askAll_succ (roles : Str) (k : Nat) (ch : Nat) (r : Int) (h : askTab[k]? = some (ch, r)) : askAll roles (k + 1) = askAll roles k ++ askIdx roles ch r roles.cps.size := by
  unfold askAll
  rw [List.take_add_one, h]
  simp
theorem asks_spec {w : World} {b : Im} {ka r : Addr} {name roles : Str} {t u tn : Tok} {vs : List Value} (hk : b ka = some (tupO [.str name t, .str roles u])) (hr : b r = some (tupO (.str name tn :: vs))) (hn : roles.cps.size < 64) (hv : vs.length = roles.cps.size) :
    Fun w 96 [.ref ka, .ref r] b (fun v b' => ∃ a refs l n, v = .ref a ∧ b' a = some (lstO refs n) ∧ All2 (IPair b') refs l ∧ Asked (askAll roles 3) vs l) 1 := by
  intro A hA c mu s m Q S ret
  refine enter (n := 0) hA S (f := 96) (binds := [(Str.ofString "kind", .ref ka), (Str.ofString "row", .ref r)]) rfl (by rfl) (BindsTo.of_eq rfl) (locs rfl) (by decide) rfl rfl rfl ?_
  intro c' s' hc hA' S' back
  walk_at "mm"
  with_reducible refine n_lstM (by assumption) ?_
  intro fl s1 hfl S1
  walk_at "mm"
  with_reducible refine n_lst (by assumption) ?_
  intro wl b2 s2 l2 e2 S2
  with_reducible refine for_list hA'.hh S2 e2 (fun k b' mu' m' => ∃ refs l n', mu' = (fl, lstO refs n') :: mu ∧ All2 (IPair b') refs l ∧ Asked (askAll roles k) vs l ∧ refs.length ≤ 64 * k ∧
    m' (Str.ofString "kind") = some (.ref ka) ∧ m' (Str.ofString "row") = some (.ref r) ∧ m' (Str.ofString "found") = some (.ref fl)) ?_ ?_ ?_ ?_
  · exact ⟨[], [], 0, rfl, .nil, .nil, Nat.le_refl _, rfl, rfl, rfl⟩
  · intros; rfl
  · rintro k v b' mu' m' it s3 hv3 hle ⟨refs, l, n', rfl, hp, hq, hz, m1, m2, m3⟩ S3
    rw [List.cons_append] at S3
    obtain ⟨ch, r0, tw, rfl, hk3⟩ : ∃ ch r0 tw, v = .str ⟨#[ch]⟩ tw ∧ askTab[k]? = some (ch, r0) := by
      match k, hv3 with
      | 0, h => cases h; exact ⟨82, 1, _, rfl, rfl⟩
      | 1, h => cases h; exact ⟨85, 3, _, rfl, rfl⟩
      | 2, h => cases h; exact ⟨87, 2, _, rfl, rfl⟩
    have hk4 : k < 3 := (List.getElem?_eq_some_iff.mp hk3).1
    have lk := l2.trans hle
    with_reducible refine as_nm S3 ?_
    intro s4 S4
    walk_at "mm"
    with_reducible refine e_tcall (T := "range") ?_ ?_
    ((with_reducible refine' e_bn (by assumption) ?hv ?hb ?hn ?_); (case hv => kernel_rfl); (case hb => boot_by_name); (case hn => decide); exact ⟨rfl, rfl⟩)
    walk_at "mm"
    with_reducible refine e_bcall (id := "len") ?_ ?_
    ((with_reducible refine' e_bn (by assumption) ?hv ?hb ?hn ?_); (case hv => kernel_rfl); (case hb => boot_by_name); (case hn => decide); exact ⟨rfl, rfl⟩)
    walk_at "mm"
    with_reducible refine' i_tup (by assumption) (lk.at hk) (by decide) (by decide) ?hx ?_
    case hx => exact rfl
    walk_at "mm"
    with_reducible refine b_lenS (by assumption) (by omega) ?_
    intro _ s5 S5
    walk_at "mm"
    with_reducible refine b_range1 S5 ?_
    intro rr t0 v0 s6 hr6 S6
    with_reducible refine for_r0 (n := roles.cps.size) hA'.hh S6 hr6 (by omega) (fun i b3 mu3 m3 => ∃ refs l n', mu3 = (fl, lstO refs n') :: (mu ++ [it]) ∧ All2 (IPair b3) refs l ∧ Asked (askAll roles k ++ askIdx roles ch r0 i) vs l ∧ refs.length ≤ 64 * k + i ∧
      m3 (Str.ofString "kind") = some (.ref ka) ∧ m3 (Str.ofString "row") = some (.ref r) ∧ m3 (Str.ofString "found") = some (.ref fl) ∧ m3 (Str.ofString "wanted") = some (.str ⟨#[ch]⟩ tw)) ?_ ?_ ?_ ?_
    · exact ⟨refs, l, n', rfl, hp, by simpa [askIdx] using hq, hz, m1, m2, m3, rfl⟩
    · intros; rfl
    · rintro i ti b3 mu3 mm3 it2 s7 hi hle3 ⟨refs3, l3, n3, rfl, hp3, hq3, hz3, k1, k2, k3, k4⟩ S7
      rw [List.cons_append] at S7
      have hch : roles.cps[i]? = some roles.cps[i] := by simp [hi]
      generalize roles.cps[i] = x at hch
      have lk3 := lk.trans hle3
      with_reducible refine as_nm S7 ?_
      intro s8 S8
      walk_at "mm"
      with_reducible refine' i_tup (by assumption) (lk3.at hk) (by decide) (by decide) ?hx ?_
      case hx => exact rfl
      walk_at "mm"
      with_reducible refine' i_str (by assumption) ?h0 ?hk ?hc ?_
      case h0 => omega
      case hk => omega
      case hc => exact hch
      intro _ s9 S9
      walk_at "mm"
      have hx : vs[i]? = some vs[i] := by simp [hv, hi]
      generalize vs[i] = y at hx
      split
      · rename_i heq
        rw [one_eq _ _ _ rfl] at heq
        have he : x = ch := of_decide_eq_true heq
        walk_at "mm"
        with_reducible refine e_meth ?_
        walk_at "mm"
        with_reducible refine g_app (by assumption) (List.Mem.head _) ?_
        walk_at "mm"
        with_reducible refine e_dict (by assumption) (List.cons_ne_nil _ _) ?_
        intro d o s10 hd S10
        walk_at "mm"
        ((with_reducible refine' e_gn (by assumption) ?hv ?_); (case hv => first | exact ns_reads _ | exact ns_writes _ | exact ns_updates _))
        walk_at "mm"
        ((with_reducible refine' e_gn (by assumption) ?hv ?_); (case hv => first | exact ns_reads _ | exact ns_writes _ | exact ns_updates _))
        walk_at "mm"
        ((with_reducible refine' e_gn (by assumption) ?hv ?_); (case hv => first | exact ns_reads _ | exact ns_writes _ | exact ns_updates _))
        walk_at "mm"
        have hval : ∃ tok, valueAt [(Str.ofString "R", Value.int 1 196), (Str.ofString "U", Value.int 3 200), (Str.ofString "W", Value.int 2 198)] (⟨#[ch]⟩ : Str) = some (.int r0 tok) := by
          match k, hk3 with
          | 0, h => cases h; exact ⟨196, by kernel_rfl⟩
          | 1, h => cases h; exact ⟨200, by kernel_rfl⟩
          | 2, h => cases h; exact ⟨198, by kernel_rfl⟩
        obtain ⟨tok, hval⟩ := hval
        refine ⟨b3, _, [(Str.ofString "R", Value.int 1 196), (Str.ofString "U", Value.int 3 200), (Str.ofString "W", Value.int 2 198)], ⟨PySem.strKind_is PR w _ _, rfl, PySem.strKind_is PR w _ _, rfl, PySem.strKind_is PR w _ _, rfl, trivial⟩, by decide +kernel, by assumption, fun o' s11 hd' S11 => ?_⟩
        walk_at "mm"
        refine d_item S11 (.head _) hd' (PySem.strKind_is PR w _ _) hval ?_
        intro s12 S12
        walk_at "mm"
        with_reducible refine' i_tup (by assumption) (lk3.at hr) ?h0 ?hk ?hx ?_
        case h0 => omega
        case hk => omega
        case hx => (rw [show ((i : Int) + 1).toNat = i + 1 by omega]; exact hx)
        walk_at "mm"
        with_reducible refine n_tup (by assumption) ?_
        intro a4 b4 s13 l4 e4 S13
        walk_at "mm"
        refine b_app (pre := [_]) (by assumption) (fun n5 s14 S14 => ?_) (by rw [sizeLine_eq]; omega)
        walk_at "mm"
        refine tend (mu₂ := (fl, lstO (refs3 ++ [_]) n5) :: (mu ++ [it])) (S14.drop (List.sublist_cons_self _ _)) (hle3.trans l4) rfl ⟨refs3 ++ [_], l3 ++ [(r0, y)], n5, rfl, ?_, ?_, ?_, k1, k2, k3, k4⟩
        · exact (hp3.imp fun _ _ z => z.le l4).snoc ⟨a4, tok, rfl, e4⟩
        · rw [askIdx_succ, if_pos (by rw [hch, he]), ← List.append_assoc]
          exact hq3.snoc ⟨rfl, hx⟩
        · rw [List.length_append, List.length_singleton]; omega
      · rename_i heq
        walk_at "mm"
        rw [one_eq _ _ _ rfl] at heq
        have he : x ≠ ch := fun e => heq (decide_eq_true e)
        refine' tend (mu₂ := (fl, lstO refs3 n3) :: (mu ++ [it])) ?S hle3 rfl ?J
        case S => assumption
        case J => exact ⟨refs3, l3, n3, rfl, hp3, by rw [askIdx_succ, if_neg (by rw [hch]; simpa using he), List.append_nil]; exact hq3, by omega, k1, k2, k3, k4⟩
    · rintro b3 mu3 mm3 s7 hle3 ⟨refs3, l3, n3, rfl, hp3, hq3, hz3, k1, k2, k3, k4⟩ S7
      walk_at "mm"
      exact tend (mu₂ := (fl, lstO refs3 n3) :: mu) S7 (hle.trans hle3) rfl ⟨refs3, l3, n3, rfl, hp3, by rw [askAll_succ _ _ _ _ hk3]; exact hq3, by omega, k1, k2, k3⟩
  · rintro b' mu' m' s3 hle ⟨refs, l, n', rfl, hp, hq, hz, m1, m2, m3⟩ S3
    walk_at "mm"
    have hfr := S3.freeze hfl
    exact ret _ _ _ (l2.trans (hle.trans (Le.freeze S3))) (back _ _ _ _ hfr) ⟨fl, refs, l, n', rfl, Im.put_at _ _ _, hp.imp fun _ _ x => x.le (Le.freeze S3), hq⟩
-- F7
theorem kinds_ok : ∀ k ∈ kindsL, rolesIdx k.1 = askAll k.2 3 ∧ k.2.cps.size ≤ 2 ∧ (∀ p ∈ rolesIdx k.1, 1 ≤ p.2 ∧ p.2 ≤ k.2.cps.size) := by decide +kernel
theorem asked_unique {vs : List Value} {idx : List (Int × Nat)} {l l' : List (Int × Value)} (h : Asked idx vs l) (h' : Asked idx vs l') : l = l' := by
  unfold Asked at h h'
  induction h generalizing l' with
  | nil => cases h'; rfl
  | cons x _ ih =>
    cases h' with
    | cons y q =>
      obtain ⟨x1, x2⟩ := x
      obtain ⟨y1, y2⟩ := y
      rw [x2] at y2
      exact List.cons_eq_cons.mpr ⟨Prod.ext (x1.trans y1.symm) (Option.some.inj y2), ih q⟩
theorem asked_mem {vs : List Value} {idx : List (Int × Nat)} {l : List (Int × Value)} {q : Int × Value} (h : Asked idx vs l) (hq : q ∈ l) : q.2 ∈ vs := by
  obtain ⟨p, _, _, e⟩ := h.mem hq
  exact List.mem_of_getElem? e
theorem canLayAll_of : ∀ {ds : List PyData}, (∀ d ∈ ds, d.canLay0 = true) → PyData.canLayAll0 ds = true
  | [], _ => rfl
  | d :: ds, h => by rw [PyData.canLayAll0, h d (.head _), canLayAll_of fun x hx => h x (.tail _ hx)]; rfl
theorem depthAll_of {n : Nat} : ∀ {ds : List PyData}, (∀ d ∈ ds, d.depth ≤ n) → PyData.depthAll ds ≤ n
  | [], _ => Nat.zero_le _
  | d :: ds, h => by rw [PyData.depthAll]; exact Nat.max_le.mpr ⟨h d (.head _), depthAll_of fun x hx => h x (.tail _ hx)⟩
theorem told_spec {w : World} {b : Im} {ka pa : Addr} {name roles : Str} {t u : Tok} {pvs : List Value} {n : Nat} (hk : b ka = some (tupO [.str name t, .str roles u])) (hp : b pa = some (lstO pvs n)) (hmem : (name, roles) ∈ kindsL)
    (hp2 : 2 ≤ pvs.length) (hpd : ∀ x ∈ pvs, ∃ d, RD b x d ∧ d.canLay0 = true ∧ d.depth ≤ 4) :
    Fun w 103 [.ref ka, .ref pa] b (fun v _ => v = .bool true) 2 := by
  intro A hA c mu s m Q S ret
  obtain ⟨k1, k2, k3⟩ := kinds_ok _ hmem
  dsimp only at k1 k2 k3
  refine enter (n := 1) hA S (f := 103) (binds := [(Str.ofString "kind", .ref ka), (Str.ofString "places", .ref pa)]) rfl (by rfl) (BindsTo.of_eq rfl) (locs rfl) (by decide) rfl rfl rfl ?_
  intro c' s' hc hA' S' back
  walk_at "mm"
  with_reducible refine e_call (fa := 89) (by assumption) ?_
  walk_at "mm"
  refine (row_spec hk hp (by omega) (fun i ch h _ => by have := (Array.getElem?_eq_some_iff.mp h).1; omega)).use hA' (by decide) (by assumption) ?_
  rintro v b1 s1 l1 S1 ⟨r, vs, rfl, hr, hv1, hv2⟩
  walk_at "mm"
  have vsz : vs.length = roles.cps.size := hv1
  have hvs : ∀ p ∈ rolesIdx name, 1 ≤ p.2 ∧ ∃ x, vs[p.2 - 1]? = some x := fun p hp' => by
    obtain ⟨q1, q2⟩ := k3 p hp'
    exact ⟨q1, vs[p.2 - 1], by simp⟩
  with_reducible refine e_call (fa := 28) (by assumption) ?_
  walk_at "mm"
  refine (roles_spec hr hvs).use hA' (by decide) (by assumption) ?_
  rintro v b2 s2 l2 S2 ⟨a2, refs2, q2, rfl, e2, p2, t2⟩
  with_reducible refine e_call (fa := 96) (by assumption) ?_
  walk_at "mm"
  refine (asks_spec ((l1.trans l2).at hk) (l2.at hr) (by omega) vsz).use hA' (by decide) (by assumption) ?_
  rintro v b3 s3 l3 S3 ⟨a3, refs3, q3, n3, rfl, e3, p3, t3⟩
  have hq : q2 = q3 := asked_unique (idx := rolesIdx name) t2 (by rw [k1]; exact t3)
  subst hq
  -- every operand reads as data
  have hvd : ∀ x ∈ vs, ∃ d, RD b3 x d ∧ d.canLay0 = true ∧ d.depth ≤ 4 := fun x hx => by
    obtain ⟨i, hi⟩ := List.mem_iff_getElem?.mp hx
    have hil : i < roles.cps.size := vsz ▸ (List.getElem?_eq_some_iff.mp hi).1
    obtain ⟨y, hy, hz⟩ := hv2 i roles.cps[i] hil (by simp [hil])
    rw [hi] at hy
    cases hy
    split at hz
    · obtain ⟨t, rfl⟩ := hz
      exact ⟨.int 7, RD.int _ _ _, rfl, Nat.zero_le _⟩
    · obtain ⟨d, h1, h2⟩ := hpd x (List.mem_of_getElem? hz)
      exact ⟨d, h1.le (l1.trans (l2.trans l3)), h2⟩
  obtain ⟨ds, hds⟩ : ∃ ds, All2 (fun (q : Int × Value) d => ∃ dx, d = PyData.tuple [.int q.1, dx] ∧ RD b3 q.2 dx ∧ dx.canLay0 = true ∧ dx.depth ≤ 4) q2 ds := All2.exists fun q hq => by
    obtain ⟨d, h1, h2, h3⟩ := hvd q.2 (asked_mem t2 hq)
    exact ⟨_, d, rfl, h1, h2, h3⟩
  have mk : ∀ {refs : List Value} {b' : Im}, Le b' b3 → All2 (IPair b') refs q2 → All2 (RD b3) refs ds := fun l h => (h.comp (fun v q d hv hd => by
    obtain ⟨a, t, rfl, e⟩ := hv
    obtain ⟨dx, rfl, h1, _⟩ := hd
    exact RD.tup (l.at e) (.cons (RD.int _ _ _) (.cons h1 .nil))) hds)
  have hok : ∀ d ∈ ds, d.canLay0 = true ∧ d.depth ≤ 5 := fun d hd => by
    obtain ⟨q, _, dx, rfl, _, h2, h3⟩ := hds.mem hd
    refine ⟨?_, ?_⟩
    · simp [PyData.canLay0, PyData.canLayAll0, h2]
    · simp [PyData.depth, PyData.depthAll]; omega
  have hl0 : (PyData.list ds).canLay0 = true := by rw [PyData.canLay0]; exact canLayAll_of fun d hd => (hok d hd).1
  refine c_neD hA' S3 (RD.lst (l3.at e2) (mk l3 p2)) (RD.lst e3 (mk (Le.refl _) p3)) hl0 hl0 (by rw [PyData.depth]; have := depthAll_of (n := 5) fun d hd => (hok d hd).2; omega) ?_
  rw [SeqAt.eqv_refl _ hl0]
  rw [show (!true) = false from rfl]
  walk_at "mm"
  with_reducible refine e_call (fa := 35) (by assumption) ?_
  walk_at "mm"
  have l12 := l1.trans (l2.trans l3)
  refine (ends_spec ((l2.trans l3).at hr)).use hA' (by decide) (by assumption) ?_
  rintro v b4 s4 l4 S4 rfl
  have l14 := l12.trans l4
  have fin : ∀ s₁ : Shared, (∃ m', St w c' b4 mu s₁ m') → ∀ z, isEnd name = z → Q (.bool (isEnd name == z)) s₁ := fun s₁ ⟨m', Z⟩ z e => ret _ _ _ l14 (back _ _ _ _ Z) (by rw [e]; simp)
  walk_at "mm"
  with_reducible refine' i_tup (by assumption) (l14.at hk) (by decide) (by decide) ?hx ?_
  case hx => exact rfl
  walk_at "mm"
  split
  · rename_i h1
    walk_at "mm"
    exact fin _ ⟨_, by assumption⟩ _ (by simp only [isEnd]; rw [h1]; rfl)
  · rename_i h1
    walk_at "mm"
    with_reducible refine' i_tup (by assumption) (l14.at hk) (by decide) (by decide) ?hx ?_
    case hx => exact rfl
    walk_at "mm"
    split
    · rename_i h2
      walk_at "mm"
      exact fin _ ⟨_, by assumption⟩ _ (by simp only [isEnd]; rw [h2, Bool.or_true, Bool.true_or])
    · rename_i h2
      walk_at "mm"
      with_reducible refine' i_tup (by assumption) (l14.at hk) (by decide) (by decide) ?hx ?_
      case hx => exact rfl
      walk_at "mm"
      exact fin _ ⟨_, by assumption⟩ _ (by simp only [isEnd]; rw [Bool.not_eq_true] at h1 h2; rw [h1, h2]; rfl)
-- F8
def isPut (n : Str) : Bool := Txt.slice n none (some 4) == Str.ofString "put_"
/-- what the kinds are, from the sixth on -/
def kf (k : Str × Str) : Bool :=
  decide (k.1.length ≤ 64) && PyData.strOk k.1 &&
  (if isPut k.1 then !isEnd k.1 && ((k.2.cps.toList == [87] && rolesIdx k.1 == [(2, 1)]) || (k.2.cps.toList == [46, 87] && rolesIdx k.1 == [(2, 2)]) || (k.2.cps.toList == [87, 87] && rolesIdx k.1 == [(2, 1), (2, 2)]) || (k.2.cps.toList == [82, 87] && rolesIdx k.1 == [(1, 1), (2, 2)]))
  else (!isEnd k.1 && ((k.2.cps.toList == [87] && rolesIdx k.1 == [(2, 1)]) || (k.2.cps.toList == [82] && rolesIdx k.1 == [(1, 1)]) || (k.2.cps.toList == [85] && rolesIdx k.1 == [(3, 1)]))) || ((k.2.cps.toList == [] || k.2.cps.toList == [46] || k.2.cps.toList == [46, 46]) && rolesIdx k.1 == []))
theorem kf_all : (kindsL.drop 5).all kf = true := by decide +kernel
/-- what of a row the law looks at: its temporary, its argument, whether it takes the arguments -/
structure Rs where
  t : Option Int
  a : Option Int
  en : Bool
def TA (b : Im) (x : Value) (k : Str) (n : Int) : Prop := ∃ a tk tn, x = .ref a ∧ b a = some (tupO [.str k tk, .int n tn])
theorem TA.le {b b' : Im} {x : Value} {k : Str} {n : Int} (h : TA b x k n) (l : Le b b') : TA b' x k n := let ⟨a, tk, tn, e, q⟩ := h; ⟨a, tk, tn, e, l.at q⟩
def Sv (x : Value) : Prop := ∃ t, x = .int 7 t
/-- the operands' shape, the places that operand_roles tells, the summary -/
inductive Shape (b : Im) : List (Int × Nat) → List Value → Rs → Prop
  | none {vs : List Value} {en : Bool} : (∀ x ∈ vs, Sv x) → Shape b [] vs ⟨none, none, en⟩
  | tt {x : Value} {n r : Int} : TA b x (Str.ofString "t") n → 0 ≤ n → n < 5 → Shape b [(r, 1)] [x] ⟨some n, none, false⟩
  | aa {x : Value} {p : Int} : TA b x (Str.ofString "a") p → Shape b [(2, 1)] [x] ⟨none, some p, false⟩
  | sa {y x : Value} {p : Int} : Sv y → TA b x (Str.ofString "a") p → Shape b [(2, 2)] [y, x] ⟨none, some p, false⟩
  | ta {x y : Value} {n p r : Int} : TA b x (Str.ofString "t") n → 0 ≤ n → n < 5 → TA b y (Str.ofString "a") p → Shape b [(r, 1), (2, 2)] [x, y] ⟨some n, some p, false⟩
theorem Shape.le {b b' : Im} {idx : List (Int × Nat)} {vs : List Value} {r : Rs} (l : Le b b') : Shape b idx vs r → Shape b' idx vs r
  | .none h => .none h
  | .tt h a c => .tt (h.le l) a c
  | .aa h => .aa (h.le l)
  | .sa y h => .sa y (h.le l)
  | .ta x a c y => .ta (x.le l) a c (y.le l)
/-- a row of the code -/
def RowA (b : Im) (v : Value) (r : Rs) : Prop := ∃ a name tk vs, v = .ref a ∧ b a = some (tupO (.str name tk :: vs)) ∧ isEnd name = r.en ∧ PyData.strOk name = true ∧ Shape b (rolesIdx name) vs r ∧ vs.length ≤ 2
theorem RowA.le {b b' : Im} {v : Value} {r : Rs} (h : RowA b v r) (l : Le b b') : RowA b' v r := let ⟨a, n, tk, vs, h1, h2, h3, h4, h5, h6⟩ := h; ⟨a, n, tk, vs, h1, l.at h2, h3, h4, h5.le l, h6⟩
/-- the arguments are put in their order; a row that takes them starts anew -/
def nextUsed (u : Nat) (r : Rs) : Nat := if r.en then 0 else if r.a.isSome then u + 1 else u
inductive Val : List Rs → Nat → Prop
  | nil : Val [] 0
  | snoc {rs : List Rs} {u : Nat} {r : Rs} : Val rs u → (∀ n, r.t = some n → 0 ≤ n ∧ n < 5) → (∀ p, r.a = some p → p = (u : Int) + 1 ∧ p ≤ 3 ∧ r.en = false) → Val (rs ++ [r]) (nextUsed u r)
theorem rowVs0 {roles : Str} {pvs vs : List Value} (h : roles.cps.toList = []) (r : RowVs roles pvs vs roles.cps.size) : vs = [] := by
  have e : roles.cps.size = 0 := by rw [← Array.length_toList, h]; rfl
  exact List.length_eq_zero_iff.mp (r.1.trans e)
theorem rowVs_at {roles : Str} {pvs vs : List Value} {l : List Nat} (h : roles.cps.toList = l) (r : RowVs roles pvs vs roles.cps.size) {i ch : Nat} (hi : l[i]? = some ch) : ∃ x, vs[i]? = some x ∧ (if ch = 46 then Sv x else pvs[i]? = some x) := by
  have e : roles.cps[i]? = some ch := by rw [← Array.getElem?_toList, h]; exact hi
  exact r.2 i ch (Array.getElem?_eq_some_iff.mp e).1 e
theorem rowVs1 {roles : Str} {pvs vs : List Value} {k : Nat} (h : roles.cps.toList = [k]) (r : RowVs roles pvs vs roles.cps.size) : ∃ x, vs = [x] ∧ (if k = 46 then Sv x else pvs[0]? = some x) := by
  have e : roles.cps.size = 1 := by rw [← Array.length_toList, h]; rfl
  obtain ⟨x, hx, q⟩ := rowVs_at h r (i := 0) rfl
  obtain ⟨y, rfl⟩ := List.length_eq_one_iff.mp (r.1.trans e)
  cases hx
  exact ⟨_, rfl, q⟩
theorem len2 {α : Type} {l : List α} (h : l.length = 2) : ∃ a b, l = [a, b] := by
  cases l with
  | nil => simp at h
  | cons a l =>
    cases l with
    | nil => simp at h
    | cons b l =>
      cases l with
      | nil => exact ⟨a, b, rfl⟩
      | cons c l => simp at h
theorem rowVs2 {roles : Str} {pvs vs : List Value} {k j : Nat} (h : roles.cps.toList = [k, j]) (r : RowVs roles pvs vs roles.cps.size) : ∃ x y, vs = [x, y] ∧ (if k = 46 then Sv x else pvs[0]? = some x) ∧ (if j = 46 then Sv y else pvs[1]? = some y) := by
  have e : roles.cps.size = 2 := by rw [← Array.length_toList, h]; rfl
  obtain ⟨x, hx, q⟩ := rowVs_at h r (i := 0) rfl
  obtain ⟨y, hy, q'⟩ := rowVs_at h r (i := 1) rfl
  obtain ⟨a, b, rfl⟩ := len2 (r.1.trans e)
  cases hx
  cases hy
  exact ⟨_, _, rfl, q, q'⟩
theorem kf_size {name roles : Str} (h : kf (name, roles) = true) : name.length ≤ 64 ∧ PyData.strOk name = true := by
  unfold kf at h
  simp only [Bool.and_eq_true, decide_eq_true_eq] at h
  exact h.1
theorem kf_home {b : Im} {name roles : Str} {x y : Value} {vs : List Value} {n : Int} (h : kf (name, roles) = true) (hp : isPut name = false) (hx : TA b x (Str.ofString "t") n) (h0 : 0 ≤ n) (h5 : n < 5) (r : RowVs roles [x, y] vs roles.cps.size) :
    ∃ rs : Rs, isEnd name = rs.en ∧ Shape b (rolesIdx name) vs rs ∧ rs.a = none ∧ ∀ k, rs.t = some k → 0 ≤ k ∧ k < 5 := by
  unfold kf at h
  simp only [hp, Bool.false_eq_true, if_false, Bool.and_eq_true, Bool.or_eq_true, beq_iff_eq, Bool.not_eq_true'] at h
  rcases h.2 with ⟨he, ((⟨q1, q2⟩ | ⟨q1, q2⟩) | ⟨q1, q2⟩)⟩ | ⟨((q1 | q1) | q1), q2⟩
  · obtain ⟨z, rfl, e⟩ := rowVs1 q1 r
    cases e
    rw [q2]; exact ⟨⟨some n, none, false⟩, he, .tt hx h0 h5, rfl, fun k e => by cases e; exact ⟨h0, h5⟩⟩
  · obtain ⟨z, rfl, e⟩ := rowVs1 q1 r
    cases e
    rw [q2]; exact ⟨⟨some n, none, false⟩, he, .tt hx h0 h5, rfl, fun k e => by cases e; exact ⟨h0, h5⟩⟩
  · obtain ⟨z, rfl, e⟩ := rowVs1 q1 r
    cases e
    rw [q2]; exact ⟨⟨some n, none, false⟩, he, .tt hx h0 h5, rfl, fun k e => by cases e; exact ⟨h0, h5⟩⟩
  · obtain rfl := rowVs0 q1 r
    exact ⟨⟨none, none, isEnd name⟩, rfl, (by rw [q2]; exact Shape.none (fun _ h => nomatch h)), rfl, fun k e => by cases e⟩
  · obtain ⟨z, rfl, e⟩ := rowVs1 q1 r
    rw [if_pos rfl] at e
    exact ⟨⟨none, none, isEnd name⟩, rfl, (by rw [q2]; exact Shape.none (fun _ h => by rw [List.mem_singleton.mp h]; exact e)), rfl, fun k e => by cases e⟩
  · obtain ⟨z, z', rfl, e, e'⟩ := rowVs2 q1 r
    rw [if_pos rfl] at e e'
    exact ⟨⟨none, none, isEnd name⟩, rfl, (by rw [q2]; exact Shape.none (fun v h => (List.mem_cons.mp h).elim (fun q => q ▸ e) fun q => List.mem_singleton.mp q ▸ e')), rfl, fun k e => by cases e⟩
theorem kf_put {b : Im} {name roles : Str} {x a : Value} {vs pvs : List Value} {n p : Int} (h : kf (name, roles) = true) (hp : isPut name = true) (hx : TA b x (Str.ofString "t") n) (h0 : 0 ≤ n) (h5 : n < 5) (ha : TA b a (Str.ofString "a") p)
    (hpv : pvs = if roles.cps.size = 1 then [a] else [x, a]) (r : RowVs roles pvs vs roles.cps.size) :
    ∃ rs : Rs, isEnd name = rs.en ∧ Shape b (rolesIdx name) vs rs ∧ rs.en = false ∧ rs.a = some p ∧ ∀ k, rs.t = some k → 0 ≤ k ∧ k < 5 := by
  unfold kf at h
  simp only [hp, if_true, Bool.and_eq_true, Bool.or_eq_true, beq_iff_eq, Bool.not_eq_true'] at h
  obtain ⟨he, hq⟩ := h.2
  have hs : ∀ l : List Nat, roles.cps.toList = l → roles.cps.size = l.length := fun l e => by rw [← Array.length_toList, e]
  rcases hq with ((⟨q1, q2⟩ | ⟨q1, q2⟩) | ⟨q1, q2⟩) | ⟨q1, q2⟩
  · rw [if_pos (show roles.cps.size = 1 from hs _ q1)] at hpv
    subst hpv
    obtain ⟨z, rfl, e⟩ := rowVs1 q1 r
    cases e
    rw [q2]; exact ⟨⟨none, some p, false⟩, he, .aa ha, rfl, rfl, fun k e => by cases e⟩
  all_goals
    rw [if_neg (show ¬ roles.cps.size = 1 by rw [hs _ q1]; decide)] at hpv
    subst hpv
    obtain ⟨z, z', rfl, e, e'⟩ := rowVs2 q1 r
  · rw [if_pos rfl] at e
    cases e'
    rw [q2]; exact ⟨⟨none, some p, false⟩, he, .sa e ha, rfl, rfl, fun k e => by cases e⟩
  · cases e
    cases e'
    rw [q2]; exact ⟨⟨some n, some p, false⟩, he, .ta hx h0 h5 ha, rfl, rfl, fun k e => by cases e; exact ⟨h0, h5⟩⟩
  · cases e
    cases e'
    rw [q2]; exact ⟨⟨some n, some p, false⟩, he, .ta hx h0 h5 ha, rfl, rfl, fun k e => by cases e; exact ⟨h0, h5⟩⟩
-- F8b
theorem t_call {w : World} {A : Around} {s : Shared} {env : Env} {fn : Expr} {args : List Expr} {kw : List Keyword} {pos : Pos} {whole : Sem Value} {Q : Bool → Shared → Prop} (h : wpAny (model PR w) A whole (fun v s₁ => wpAny (model PR w) A (truthy v) Q NoE s₁) NoE s) :
    wpAny (model PR w) A (isTrue (.Call fn args kw pos) env whole) Q NoE s := wpAny_isTrue_value h rfl
theorem e_sl {w : World} {A : Around} {c : Cx} {b : Im} {mu : Led} {s : Shared} {m : Str → Option Value} {env : Env} {v : Expr} {j : Int} {k : Nat} {pj sp : Pos} {x : Str} {t : Tok} {Q : Value → Shared → Prop} (S : St w c b mu s m) (hz : x.length ≤ sizeLine)
    (K : ∀ t' s', St w c b mu s' m → Q (.str (Txt.slice x none (some j)) t') s')
    (hs : ∀ x t a, subscripted (.Slice none (some (.Constant (.int j) k pj)) none sp) false (.str x t) (.ref a) = operate [.ref a, .str x t] (getItem (.str x t) (.ref a)) := by intro _ _ _; kernel_rfl) :
    wpAny (model PR w) A (eval (.Slice none (some (.Constant (.int j) k pj)) none sp) env) (fun i s₂ => wpAny (model PR w) A (subscriptTail v (.Slice none (some (.Constant (.int j) k pj)) none sp) (.str x t) i) Q NoE s₂) NoE s := by
  refine wpAny_Slice (wpAny_evalPart_none (wpAny_evalPart_some (wpAny_Constant_int (wpAny_evalPart_none ?_))))
  have I := SBH.sliceItem_ns (prog := PR) (w := w) (A := A) (E := NoE) (P := fun h => ∀ a o, s.heap.get? a = some o → h.get? a = some o) (s := { s with toks := s.toks + 1 }) (x := x) (t := t) (j := j) (uj := s.toks) (Q := Q)
    (fun h ob k a o e => Heap.get?_push_of_some _ (k a o e)) (fun _ _ e => e) (fun h' t' k' k => K t' _ (S.grow (t := k') k)) hz
  obtain ⟨T, id, hl, hT, hg⟩ := I
  exact tail_any hT hl hg (hs _ _ _)
def Jn (Q : Flow → Shared → Prop) (I : Shared → Prop) : Flow → Shared → Prop
  | .next, s => I s
  | fl, s => Q fl s
theorem jn_next {Q : Flow → Shared → Prop} {I : Shared → Prop} {s : Shared} (h : I s) : Jn Q I .next s := h
theorem jn_cont {Q : Flow → Shared → Prop} {I : Shared → Prop} {s : Shared} (h : Q .cont s) : Jn Q I .cont s := h
theorem join_sq {w : World} {A : Around} {s : Shared} {env : Env} {X : Bool} {b1 b2 rest : List Stmt} {Q : Flow → Shared → Prop} (I : Shared → Prop)
    (h : if X = true then wpAny (model PR w) A (execs b1 env) (Jn Q I) NoE s else wpAny (model PR w) A (execs b2 env) (Jn Q I) NoE s) (k : ∀ s', I s' → wpAny (model PR w) A (execs rest env) Q NoE s') :
    if X = true then wpAny (model PR w) A (execs b1 env) (Sq w A rest env Q) NoE s else wpAny (model PR w) A (execs b2 env) (Sq w A rest env Q) NoE s := by
  have g : ∀ fl s', Jn Q I fl s' → Sq w A rest env Q fl s' := fun fl s' q => by cases fl <;> first | exact k s' q | exact q
  cases X with
  | true => exact wpAny_mono h g fun _ _ x => x
  | false => exact wpAny_mono h g fun _ _ x => x
set_option maxHeartbeats 2000000 in
theorem code_spec {w : World} {A : Around} {c : Cx} {b : Im} {mu : Led} {s : Shared} {m : Str → Option Value} {bd : Addr} {o : Obj} {Q : Value → Shared → Prop} (hA : Am A 3) (S : St w c b ((bd, o) :: mu) s m) (hb : BandOk b o)
    (ret : ∀ cl refs n rs u o' b' s', Le b b' → b' cl = some (lstO refs n) → All2 (RowA b') refs (rs ++ [⟨none, none, true⟩]) → Val rs u → rs.length ≤ 10 → BandOk b' o' → St w c b' ((bd, o') :: mu) s' m → Q (.ref cl) s') :
    wpAny (model PR w) A (call (.ref 110) [.ref bd]) Q NoE s := by
  refine enter (n := 2) hA S (f := 110) (binds := [(Str.ofString "band", .ref bd)]) rfl (by rfl) (BindsTo.of_eq rfl) (locs rfl) (by decide) rfl rfl rfl ?_
  intro c' s' hc hA' S' back
  walk_at "mm"
  with_reducible refine e_call0 (fa := 75) (by assumption) ?_
  refine kinds_spec.use hA' (by decide) S' ?_
  rintro v b1 s1 l1 S1 ⟨kl, kvs, rfl, ekl, hkl⟩
  walk_at "mm"
  with_reducible refine n_lstM (by assumption) ?_
  intro cl s2 hcl S2
  walk_at "mm"
  with_reducible refine n_lstM (by assumption) ?_
  intro ul s3 hul S3
  walk_at "mm"
  rename_i s4 S4
  with_reducible refine e_tcall (T := "range") ?_ ?_
  ((with_reducible refine' e_bn (by assumption) ?hv ?hb ?hn ?_); (case hv => kernel_rfl); (case hb => boot_by_name); (case hn => decide); exact ⟨rfl, rfl⟩)
  walk_at "mm"
  with_reducible refine e_call (fa := 82) S4 ?_
  walk_at "mm"
  rename_i t5 s5 S5
  have S5' := S5.perm (mu' := (bd, o) :: (cl, lstO []) :: (ul, lstO []) :: mu) ((List.Perm.swap _ _ _).trans ((List.Perm.cons _ (List.Perm.swap _ _ _)).trans (List.Perm.swap _ _ _)) |>.symm)
  refine shift_spec (hA'.le (by decide)) S5' (hb.le l1) (by decide) ?_
  intro r tr o2 s6 h0 h11 hb2 S6
  obtain ⟨n, rfl⟩ := Int.eq_ofNat_of_zero_le h0
  walk_at "mm"
  with_reducible refine b_range1 S6 ?_
  intro rr t0 v0 s7 hr7 S7
  have hn : n < 11 := by omega
  with_reducible refine for_r0 (n := n) hA'.hh S7 hr7 (by omega) (fun i b' mu' m' => ∃ o' refs nc us nu ul rs u, mu' = (bd, o') :: (cl, lstO refs nc) :: (ul, lstO us nu) :: mu ∧ BandOk b' o' ∧ All2 (RowA b') refs rs ∧ Val rs u ∧ us.length = u ∧ u ≤ i ∧ rs.length ≤ i ∧
    m' (Str.ofString "band") = some (.ref bd) ∧ m' (Str.ofString "kinds") = some (.ref kl) ∧ m' (Str.ofString "code") = some (.ref cl) ∧ m' (Str.ofString "used") = some (.ref ul)) ?_ ?_ ?_ ?_
  · exact ⟨o2, [], 0, [], 0, ul, [], 0, rfl, hb2, .nil, .nil, rfl, Nat.le_refl _, Nat.zero_le _, rfl, rfl, rfl, rfl⟩
  · intros; rfl
  · rintro i ti b' mu' m' it s5 hi hle ⟨o', refs, nc, us, nu, ul, rs, u, rfl, hbk, hrs, hv, hu, hui, hrl, m1, m2, m3, m4⟩ S5
    rw [List.cons_append, List.cons_append, List.cons_append] at S5
    with_reducible refine as_nm S5 ?_
    intro s6 S6
    walk_at "mm"
    with_reducible refine e_bcall (id := "len") ?_ ?_
    ((with_reducible refine' e_bn (by assumption) ?hv ?hb ?hn ?_); (case hv => kernel_rfl); (case hb => boot_by_name); (case hn => decide); exact ⟨rfl, rfl⟩)
    walk_at "mm"
    with_reducible refine b_len (vs := us) (by assumption) (isList_of (n := nu) (St.at (by assumption) (List.Mem.tail _ (List.Mem.tail _ (List.Mem.head _))))) (by omega) ?_
    intro _ s7 S7
    walk_at "mm"
    rename_i tnx _ _ _ _ _ s8 S8
    with_reducible refine e_call (fa := 82) S8 ?_
    walk_at "mm"
    refine shift_spec (hA'.le (by decide)) (by assumption) hbk (by decide) ?_
    intro r1 tr1 o1 s9 h10 h11 hb1 S9
    walk_at "mm"
    obtain ⟨d1, rfl⟩ := Int.eq_ofNat_of_zero_le h10
    have hd1 : d1 < 22 := by omega
    obtain ⟨kd, hkd⟩ : ∃ kd, (kindsL.drop 5)[d1]? = some kd := ⟨_, List.getElem?_eq_getElem (show d1 < (kindsL.drop 5).length from hd1)⟩
    have hkf : kf kd = true := List.all_eq_true.mp kf_all kd (List.mem_of_getElem? hkd)
    have hkd' : kindsL[5 + d1]? = some kd := by rw [← List.getElem?_drop]; exact hkd
    obtain ⟨kx, hkx, ka, kt, ku, rfl, hka⟩ := hkl.get hkd'
    have hrz : kd.2.cps.size ≤ 2 := (kinds_ok kd (List.mem_of_getElem? hkd')).2.1
    obtain ⟨name, roles⟩ := kd
    dsimp only at hka hrz
    with_reducible refine' i_im (by assumption) (hle.at ekl) ?h0 ?hk ?hx ?_
    case h0 => omega
    case hk => omega
    case hx => (rw [show (5 + (d1 : Int)).toNat = 5 + d1 by omega]; exact hkx)
    walk_at "mm"
    rename_i s10 S10
    with_reducible refine e_call (fa := 82) S10 ?_
    walk_at "mm"
    refine shift_spec (hA'.le (by decide)) (by assumption) hb1 (by decide) ?_
    intro r2 tr2 o3 s11 h20 h21 hb3 S11
    walk_at "mm"
    with_reducible refine n_tup (by assumption) ?_
    intro t1 b2 s12 l2 ht1 S12
    walk_at "mm"
    with_reducible refine n_tup (by assumption) ?_
    intro t2 b3 s13 l3 ht2 S13
    walk_at "mm"
    with_reducible refine n_lst (by assumption) ?_
    intro hm b4 s14 l4 hhm S14
    walk_at "mm"
    with_reducible refine' i_tup (by assumption) (l4.at (l3.at (l2.at (hle.at hka)))) ?h0 ?hk ?hx ?_
    case h0 => decide
    case hk => decide
    case hx => exact rfl
    with_reducible refine e_sl (by assumption) ?_ ?_
    · rw [sizeLine_eq]; have h64 := (kf_size hkf).1; omega
    intro _ s15 S15
    --TAIL
    walk_at "mm"
    have hka' : b4 ka = some (tupO [.str name kt, .str roles ku]) := l4.at (l3.at (l2.at (hle.at hka)))
    have ht1' := l4.at (l3.at ht1)
    refine join_sq (fun s' => ∃ b7 ra vs r0 us' nu' m7, St w c' b7 ((bd, o3) :: (cl, lstO refs nc) :: (ul, lstO us' nu') :: (mu ++ [it])) s' m7 ∧ m7 (Str.ofString "row") = some (.ref ra) ∧
      m7 (Str.ofString "band") = some (.ref bd) ∧ m7 (Str.ofString "kinds") = some (.ref kl) ∧ m7 (Str.ofString "code") = some (.ref cl) ∧ m7 (Str.ofString "used") = some (.ref ul) ∧
      b7 ra = some (tupO (.str name kt :: vs)) ∧ vs.length ≤ 2 ∧ isEnd name = r0.en ∧ Shape b7 (rolesIdx name) vs r0 ∧ (∀ k, r0.t = some k → 0 ≤ k ∧ k < 5) ∧ (∀ p, r0.a = some p → p = (u : Int) + 1 ∧ p ≤ 3 ∧ r0.en = false) ∧
      (nextUsed u r0 = if r0.en = true then 0 else us'.length) ∧ us'.length ≤ i + 1 ∧ Le b1 b7 ∧ Le b' b7) ?_ ?_
    · split
      · rename_i hput
        replace hput : isPut name = true := hput
        walk_at "mm"
        split
        · walk_at "mm"
          with_reducible refine jn_cont ?_
          with_reducible refine tn_cont ?_
          rename_i hgt sX SX
          refine' tend (mu₂ := (bd, o3) :: (cl, lstO refs nc) :: (ul, lstO us nu) :: mu) ?S (hle.trans (l2.trans (l3.trans l4))) rfl ?J
          case S => assumption
          case J => exact ⟨_, _, _, _, _, _, rs, u, rfl, hb3.le (l2.trans (l3.trans l4)), hrs.imp (fun _ _ q => q.le (l2.trans (l3.trans l4))), hv, hu, Nat.le_succ_of_le hui, Nat.le_succ_of_le hrl, m1, m2, m3, m4⟩
        · rename_i hgt
          have hgt' : ¬ ((us.length : Int) + 1 > 3) := fun q => hgt (decide_eq_true q)
          walk_at "mm"
          with_reducible refine e_meth ?_
          walk_at "mm"
          with_reducible refine g_app (by assumption) (List.Mem.tail _ (List.Mem.tail _ (List.Mem.head _))) ?_
          walk_at "mm"
          refine b_app (pre := [_, _]) (by assumption) (fun nu' s16 S16 => ?_) (by rw [hu, sizeLine_eq]; omega)
          obtain ⟨us', hus'⟩ : ∃ us', us' = us ++ [Value.int ((us.length : Int) + 1) tnx] := ⟨_, rfl⟩
          rw [List.cons_append, List.cons_append, List.nil_append, ← hus'] at S16
          have hul2' : us'.length = us.length + 1 := by rw [hus', List.length_append]; rfl
          have hul' : us'.length ≤ i + 1 := by omega
          walk_at "mm"
          with_reducible refine e_call (fa := 89) S16 ?_
          walk_at "mm"
          with_reducible refine e_bcall (id := "len") ?_ ?_
          ((with_reducible refine' e_bn (by assumption) ?hv ?hb ?hn ?_); (case hv => kernel_rfl); (case hb => boot_by_name); (case hn => decide); exact ⟨rfl, rfl⟩)
          walk_at "mm"
          with_reducible refine' i_tup (by assumption) hka' ?h0 ?hk ?hx ?_
          case h0 => decide
          case hk => decide
          case hx => exact rfl
          walk_at "mm"
          with_reducible refine b_lenS (by assumption) (by omega) ?_
          intro _ s20 S20
          walk_at "mm"
          split
          · rename_i hone
            have hsz : roles.cps.size = 1 := by have := eq_of_beq hone; omega
            walk_at "mm"
            with_reducible refine n_tup (by assumption) ?_
            intro t3 b5 s21 l5' ht3 S21
            walk_at "mm"
            with_reducible refine n_lst (by assumption) ?_
            intro pa b6 s18 l6 hpa S18
            walk_at "mm"
            refine (row_spec (pvs := [.ref t3]) (l6.at (l5'.at hka')) hpa (by omega) ?_).use hA' (by decide) (by assumption) ?_
            · intro j ch hj _
              have : j < roles.cps.size := (Array.getElem?_eq_some_iff.mp hj).1
              rw [hsz] at this; exact this
            rintro _ b7 s19 l7 S19 ⟨ra, vs, rfl, hra, hrv⟩
            have hTA : TA b7 (.ref t1) (Str.ofString "t") r2 := ⟨_, _, _, rfl, l7.at (l6.at (l5'.at ht1'))⟩
            have hTB : TA b7 (.ref t3) (Str.ofString "a") (us.length + 1) := ⟨_, _, _, rfl, l7.at (l6.at ht3)⟩
            obtain ⟨r0, hen, hsh, hf, ha0, hrt⟩ := kf_put hkf hput hTA h20 h21 hTB (by rw [if_pos hsz]) hrv
            have l5 : Le b1 b7 := hle.trans (l2.trans (l3.trans (l4.trans (l5'.trans (l6.trans l7)))))
            have l3' : Le b' b7 := l2.trans (l3.trans (l4.trans (l5'.trans (l6.trans l7))))
            have hrA : ∀ p, r0.a = some p → p = (u : Int) + 1 ∧ p ≤ 3 ∧ r0.en = false := fun p e => by rw [ha0] at e; cases e; exact ⟨by rw [hu], by omega, hf⟩
            have hnu : nextUsed u r0 = if r0.en = true then 0 else us'.length := by unfold nextUsed; rw [hf, ha0, hul2', hu]; rfl
            walk_at "mm"
            with_reducible refine jn_next ?_
            rename_i sR SR
            exact ⟨b7, ra, vs, r0, us', nu', _, SR, rfl, m1, m2, m3, m4, hra, by rw [hrv.1]; exact hrz, hen, hsh, hrt, hrA, hnu, hul', l5, l3'⟩
          · rename_i hone
            have hsz : roles.cps.size ≠ 1 := fun e => hone (by rw [e]; rfl)
            walk_at "mm"
            with_reducible refine' i_im (by assumption) hhm ?h0 ?hk ?hx ?_
            case h0 => decide
            case hk => decide
            case hx => exact rfl
            walk_at "mm"
            with_reducible refine n_tup (by assumption) ?_
            intro t3 b5 s21 l5' ht3 S21
            walk_at "mm"
            with_reducible refine n_lst (by assumption) ?_
            intro pa b6 s18 l6 hpa S18
            walk_at "mm"
            refine (row_spec (pvs := [.ref t1, .ref t3]) (l6.at (l5'.at hka')) hpa (by omega) ?_).use hA' (by decide) (by assumption) ?_
            · intro j ch hj _
              have : j < roles.cps.size := (Array.getElem?_eq_some_iff.mp hj).1
              exact Nat.lt_of_lt_of_le this hrz
            rintro _ b7 s19 l7 S19 ⟨ra, vs, rfl, hra, hrv⟩
            have hTA : TA b7 (.ref t1) (Str.ofString "t") r2 := ⟨_, _, _, rfl, l7.at (l6.at (l5'.at ht1'))⟩
            have hTB : TA b7 (.ref t3) (Str.ofString "a") (us.length + 1) := ⟨_, _, _, rfl, l7.at (l6.at ht3)⟩
            obtain ⟨r0, hen, hsh, hf, ha0, hrt⟩ := kf_put hkf hput hTA h20 h21 hTB (by rw [if_neg hsz]) hrv
            have l5 : Le b1 b7 := hle.trans (l2.trans (l3.trans (l4.trans (l5'.trans (l6.trans l7)))))
            have l3' : Le b' b7 := l2.trans (l3.trans (l4.trans (l5'.trans (l6.trans l7))))
            have hrA : ∀ p, r0.a = some p → p = (u : Int) + 1 ∧ p ≤ 3 ∧ r0.en = false := fun p e => by rw [ha0] at e; cases e; exact ⟨by rw [hu], by omega, hf⟩
            have hnu : nextUsed u r0 = if r0.en = true then 0 else us'.length := by unfold nextUsed; rw [hf, ha0, hul2', hu]; rfl
            walk_at "mm"
            with_reducible refine jn_next ?_
            rename_i sR SR
            exact ⟨b7, ra, vs, r0, us', nu', _, SR, rfl, m1, m2, m3, m4, hra, by rw [hrv.1]; exact hrz, hen, hsh, hrt, hrA, hnu, hul', l5, l3'⟩
      · rename_i hput
        replace hput : isPut name = false := (Bool.not_eq_true _).mp hput
        walk_at "mm"
        rename_i s17 S17
        with_reducible refine e_call (fa := 89) S17 ?_
        walk_at "mm"
        refine (row_spec (pvs := [.ref t1, .ref t2]) hka' hhm (by omega) ?_).use hA' (by decide) (by assumption) ?_
        · intro j ch hj _
          have : j < roles.cps.size := (Array.getElem?_eq_some_iff.mp hj).1
          exact Nat.lt_of_lt_of_le this hrz
        rintro _ b7 s19 l7 S19 ⟨ra, vs, rfl, hra, hrv⟩
        have hTA : TA b7 (.ref t1) (Str.ofString "t") r2 := ⟨_, _, _, rfl, l7.at ht1'⟩
        obtain ⟨r0, hen, hsh, ha0, hrt⟩ := kf_home hkf hput hTA h20 h21 hrv
        have l5 : Le b1 b7 := hle.trans (l2.trans (l3.trans (l4.trans l7)))
        have l3' : Le b' b7 := l2.trans (l3.trans (l4.trans l7))
        have hrA : ∀ p, r0.a = some p → p = (u : Int) + 1 ∧ p ≤ 3 ∧ r0.en = false := fun p e => by rw [ha0] at e; cases e
        obtain ⟨us', hus'⟩ : ∃ us', us' = us := ⟨_, rfl⟩
        obtain ⟨nu', hnu'⟩ : ∃ nu', nu' = nu := ⟨_, rfl⟩
        rw [← hus', ← hnu'] at S19
        have hul' : us'.length ≤ i + 1 := by rw [hus']; omega
        have hnu : nextUsed u r0 = if r0.en = true then 0 else us'.length := by unfold nextUsed; rw [ha0, hus', hu]; rfl
        walk_at "mm"
        with_reducible refine jn_next ?_
        rename_i sR SR
        exact ⟨b7, ra, vs, r0, us', nu', _, SR, rfl, m1, m2, m3, m4, hra, by rw [hrv.1]; exact hrz, hen, hsh, hrt, hrA, hnu, hul', l5, l3'⟩
    · rintro s7 ⟨b7, ra, vs, r0, us', nu', m7, S7, m0, m1, m2, m3, m4, hra, hvl, hen, hsh, hrt, hrA, hnu, hul', l5, l3'⟩
      walk_at "mm"
      with_reducible refine t_call ?_
      with_reducible refine e_call (fa := 35) S7 ?_
      walk_at "mm"
      refine (ends_spec hra).use hA' (by decide) (by assumption) ?_
      rintro _ bG sG lG SG rfl
      walk_at "mm"
      have hRow : RowA bG (.ref ra) r0 := ⟨ra, name, kt, vs, rfl, lG.at hra, hen, (kf_size hkf).2, hsh.le lG, hvl⟩
      have lB : Le b1 bG := l5.trans lG
      split
      · rename_i hE
        walk_at "mm"
        with_reducible refine n_lstM (by assumption) ?_
        intro ul2 sH hul2 SH
        have SH2 := (SH.drop (mu' := (ul2, lstO []) :: (bd, o3) :: (cl, lstO refs nc) :: (mu ++ [it])) (.cons_cons _ (.cons_cons _ (.cons_cons _ (.cons _ (.refl _)))))).perm (mu' := (bd, o3) :: (cl, lstO refs nc) :: (ul2, lstO []) :: (mu ++ [it]))
          (((List.Perm.swap _ _ _).trans (List.Perm.cons _ (List.Perm.swap _ _ _))).symm)
        clear SH
        walk_at "mm"
        with_reducible refine e_meth ?_
        walk_at "mm"
        with_reducible refine g_app (by assumption) (List.Mem.tail _ (List.Mem.head _)) ?_
        walk_at "mm"
        refine b_app (pre := [_]) (by assumption) (fun n2 sI SI => ?_) (by rw [hrs.length, sizeLine_eq]; omega)
        walk_at "mm"
        refine tend (mu₂ := (bd, o3) :: (cl, lstO (refs ++ [_]) n2) :: (ul2, lstO []) :: mu) SI lB rfl ⟨_, _, _, _, _, _, rs ++ [r0], 0, rfl, hb3.le (l3'.trans lG), (hrs.imp fun _ _ q => q.le (l3'.trans lG)).snoc hRow, ?_, rfl, Nat.zero_le _, ?_, m1, m2, m3, rfl⟩
        · have e : nextUsed u r0 = 0 := by rw [hnu, if_pos (hen ▸ hE)]
          exact e ▸ Val.snoc hv hrt hrA
        · rw [List.length_append]; exact Nat.succ_le_succ hrl
      · rename_i hE
        walk_at "mm"
        with_reducible refine e_meth ?_
        walk_at "mm"
        with_reducible refine g_app (by assumption) (List.Mem.tail _ (List.Mem.head _)) ?_
        walk_at "mm"
        refine b_app (pre := [_]) (by assumption) (fun n2 sI SI => ?_) (by rw [hrs.length, sizeLine_eq]; omega)
        walk_at "mm"
        refine tend (mu₂ := (bd, o3) :: (cl, lstO (refs ++ [_]) n2) :: (ul, lstO us' nu') :: mu) SI lB rfl ⟨_, _, _, _, _, _, rs ++ [r0], us'.length, rfl, hb3.le (l3'.trans lG), (hrs.imp fun _ _ q => q.le (l3'.trans lG)).snoc hRow, ?_, rfl, hul', ?_, m1, m2, m3, m4⟩
        · have e : nextUsed u r0 = us'.length := by rw [hnu, if_neg (hen ▸ hE)]
          exact e ▸ Val.snoc hv hrt hrA
        · rw [List.length_append]; exact Nat.succ_le_succ hrl
  · rintro b' mu' m' s5 hle ⟨o', refs, nc, us, nu, ul, rs, u, rfl, hbk, hrs, hv, hu, hui, hrl, m1, m2, m3, m4⟩ S5
    walk_at "mm"
    with_reducible refine e_meth ?_
    walk_at "mm"
    with_reducible refine g_app (by assumption) (List.Mem.tail _ (List.Mem.head _)) ?_
    walk_at "mm"
    with_reducible refine n_tup (by assumption) ?_
    intro ra b3 s6 l3 hra S6
    walk_at "mm"
    refine b_app (pre := [_]) (by assumption) (fun n2 s7 S7 => ?_) (by rw [hrs.length, sizeLine_eq]; omega)
    walk_at "mm"
    have S8 := S7.perm (mu' := (cl, lstO (refs ++ [.ref ra]) n2) :: (bd, o') :: (ul, lstO us nu) :: mu) (List.Perm.swap _ _ _)
    have S9 := S8.freeze hcl
    have S10 := S9.drop (mu' := (bd, o') :: mu) (.cons_cons _ (.cons _ (.refl _)))
    have l4 := Le.freeze S8
    have l := l3.trans l4
    refine ret cl _ n2 rs u o' _ _ (l1.trans (hle.trans l)) (Im.put_at ..) ((hrs.imp fun _ _ q => q.le l).snoc ⟨ra, Str.ofString "call", _, _, rfl, l4.at hra, by kernel_rfl, by kernel_rfl, ?_, Nat.le_refl _⟩) hv (by omega) (hbk.le l) (back _ _ _ _ S10)
    rw [show rolesIdx (Str.ofString "call") = [] by decide]
    refine Shape.none fun x hx => ?_
    rcases List.mem_cons.mp hx with rfl | hx
    · exact ⟨_, rfl⟩
    · rw [List.mem_singleton.mp hx]; exact ⟨_, rfl⟩
-- F9a
section
variable {w : World} {c : Cx} {b : Im} {mu : Led} {s : Shared} {m : Str → Option Value} {A : Around}
-- attributes
theorem a_get {x dx : Addr} {es : List DictEntry} {n : Nat} {name : Str} {v : Value} {attr : Option Value} {Q : Value → Shared → Prop} (S : St w c b mu s m) (hx : b x = some (instObj 59 dx)) (ho : s.heap.get? dx = some (dictOf es n))
    (hl : getL name es = some (some v)) (hv : handedIn v = true) (h : ∀ s', St w c b mu s' m → Q v s')
    (hg : plainGet (hd.heap_39 w.params) 59 name = true := by kernel_rfl) (hh : hasDictIn (hd.heap_39 w.params) 59 = true := by kernel_rfl) (ha : findIn (hd.heap_39 w.params) (.ref 59) name = some attr := by kernel_rfl) (hn : noGet (hd.heap_39 w.params) attr = true := by kernel_rfl) :
    wpAny (model PR w) A (getAttr (.ref x) name true) Q NoE s :=
  get_own S.fr S.gl.K ⟨S.keep _ _ hx, rfl, rfl, ho⟩ hg hh ha hn hl hv (h _ (S.toks _))
theorem big_news {dx : Addr} {o : Obj} (S : St w c b mu s m) (h : (dx, o) ∈ mu) :
    ∃ post, News c.g c.L s.heap ((dx, o) :: post) ∧ (∀ p ∈ post, p.1 ≠ dx) ∧ ∀ a y, s.heap.get? a = some y → a ≠ c.L → a ≠ dx → c.g.get? a = none → (a, y) ∈ post := by
  refine ⟨(List.range s.heap.objs.size).filterMap (fun a => if a = dx ∨ a = c.L ∨ (c.g.get? a).isSome = true then none else (s.heap.get? a).map fun y => (a, y)), fun p hp => ?_, fun p hp => ?_, fun a y hy h1 h2 h3 => ?_⟩
  · rcases List.mem_cons.mp hp with rfl | hp
    · have P := S.led _ h; exact ⟨P.1, P.2.1, P.2.2.2⟩
    · obtain ⟨a, _, e⟩ := List.mem_filterMap.mp hp
      split at e
      · cases e
      · rename_i q
        simp only [not_or] at q
        obtain ⟨y, hy, rfl⟩ := Option.map_eq_some_iff.mp e
        exact ⟨hy, q.2.1, by simpa using q.2.2⟩
  · obtain ⟨a, _, e⟩ := List.mem_filterMap.mp hp
    split at e
    · cases e
    · rename_i q
      obtain ⟨y, hy, rfl⟩ := Option.map_eq_some_iff.mp e
      exact fun e => q (.inl e)
  · refine List.mem_filterMap.mpr ⟨a, List.mem_range.mpr (Heap.lt_size hy), ?_⟩
    rw [if_neg (by simp only [not_or]; exact ⟨h2, h1, by rw [h3]; decide⟩), hy]; rfl
theorem St.turnF {pre post : Led} {a : Addr} {o o' : Obj} {h' : Heap} {t : Nat} (S : St w c b (pre ++ (a, o) :: post) s m) (F' : Fr c.g c.L h' m) (k : ∀ x y, x ≠ a → x ≠ c.L → s.heap.get? x = some y → h'.get? x = some y) (ho : h'.get? a = some o') :
    St w c b (pre ++ (a, o') :: post) { s with heap := h', toks := t } m := by
  have H := S.led (a, o) (by simp)
  have nd := S.nd
  rw [List.map_append, List.map_cons] at nd
  have en : (pre ++ (a, o') :: post).map (·.1) = pre.map (·.1) ++ a :: post.map (·.1) := by rw [List.map_append, List.map_cons]
  obtain ⟨n1, n2, n3⟩ := List.nodup_append.mp nd
  rw [List.nodup_cons] at n2
  have npre : ∀ p ∈ pre, p.1 ≠ a := fun p hp q => n3 p.1 (List.mem_map_of_mem hp) a (.head _) q
  have npost : ∀ p ∈ post, p.1 ≠ a := fun p hp q => n2.1 (List.mem_map.mpr ⟨p, hp, q⟩)
  refine ⟨S.gl, F', fun x y e => k x y (fun q => ?_) (fun q => ?_) (S.keep x y e), S.off, S.offL, S.old, fun p hp => ?_, by rw [en]; exact nd, S.gens, S.drawn, S.os⟩
  · subst q; rw [H.2.2.1] at e; cases e
  · subst q; rw [S.offL] at e; cases e
  · rcases List.mem_append.mp hp with hp | hp
    · have P := S.led p (List.mem_append_left _ hp)
      exact ⟨k _ _ (npre p hp) P.2.1 P.1, P.2⟩
    · rcases List.mem_cons.mp hp with rfl | hp
      · exact ⟨ho, H.2⟩
      · have P := S.led p (List.mem_append_right _ (.tail _ hp))
        exact ⟨k _ _ (npost p hp) P.2.1 P.1, P.2⟩
theorem a_set {pre post : Led} {x dx : Addr} {es : List DictEntry} {es' : Tok → List DictEntry} {n n' : Nat} {name : Str} {v : Value} {Q : Unit → Shared → Prop} (S : St w c b (pre ++ (dx, dictOf es n) :: post) s m) (hx : b x = some (instObj 59 dx))
    (hl : (getL name es).isSome = true) (e : ∀ tk, (putL name (PyData.keyHash w.params name) (.str name tk) v es, putN name es n) = (es' tk, n')) (hz : ∀ tk, (es' tk).length ≤ 1000)
    (h : ∀ tk s', St w c b (pre ++ (dx, dictOf (es' tk) n') :: post) s' m → Q () s')
    (hs : findIn (hd.heap_39 w.params) (.ref 59) "__setattr__" = some (some (.builtin "object.__setattr__")) := by kernel_rfl) (hp : plainOver (hd.heap_39 w.params) 59 = true := by kernel_rfl)
    (ht : takerIn (hd.heap_39 w.params) 59 name = some none := by kernel_rfl) (hh : hasDictIn (hd.heap_39 w.params) 59 = true := by kernel_rfl) :
    wpAny (model PR w) A (setAttr (.ref x) name v) Q NoE s := by
  obtain ⟨bp, N, h1, h2⟩ := big_news S (dx := dx) (o := dictOf es n) (by simp)
  have ho := S.at (a := dx) (o := dictOf es n) (by simp)
  refine set_dict (x := x) (dx := dx) (ox := instObj 59 dx) S.fr S.gl.K N ⟨S.keep _ _ hx, rfl, rfl, ho⟩ rfl hs hp ht hh hl (e _) (.head h1) (hz _) fun h' F' N' => ?_
  refine h _ _ (S.turnF (t := s.toks + 2) F' (fun a y ha q hy => ?_) (N' _ (.head _)).1)
  cases q' : c.g.get? a with
  | some y' => have e1 := S.fr.keep _ _ q'; rw [hy] at e1; cases e1; exact F'.keep _ _ q'
  | none => exact (N' _ (.tail _ (h2 a y hy q ha q'))).1
-- an Occupation
structure Oc where
  k : Str
  n : Int
  a : Int
  b : Int
abbrev dE (p : Params) (n : Str) (t : Tok) (v : Value) : DictEntry := ⟨PyData.keyHash p n, .str n t, v⟩
def occE (p : Params) (t : Tok × Tok × Tok × Tok) (d : Oc) (u : Tok × Tok × Tok × Tok) : List DictEntry :=
  [dE p (Str.ofString "kind") t.1 (.str d.k u.1), dE p (Str.ofString "number") t.2.1 (.int d.n u.2.1), dE p (Str.ofString "start") t.2.2.1 (.int d.a u.2.2.1), dE p (Str.ofString "stop") t.2.2.2 (.int d.b u.2.2.2)]
def OccO (w : World) (o : Obj) (d : Oc) : Prop := ∃ t u, o = dictOf (occE w.params t d u) 4
theorem s_asgA {env : Env} {o : Expr} {attr : Str} {pos' pos : Pos} {value : Expr} {rest : List Stmt} {Q : Flow → Shared → Prop}
    (h : wpAny (model PR w) A (eval value env) (fun v s₁ => wpAny (model PR w) A (eval o env) (fun ov s₂ => wpAny (model PR w) A (setAttr ov attr v) (fun _ s₃ => wpAny (model PR w) A (execs rest env) Q NoE s₃) NoE s₂) NoE s₁) NoE s)
    (hs : swapsWith value (some (.Attribute o attr pos')) pos.line env = pure false := by kernel_rfl) : wpAny (model PR w) A (execs (.Assign [.Attribute o attr pos'] value pos :: rest) env) Q NoE s := s_of (plainObj_wpAny_Assign_Attribute h hs)
theorem c_occ {k : Str} {tk tn ta tb : Tok} {n a z : Int} {Q : Value → Shared → Prop} (hA : Am A 3) (S : St w c b mu s m)
    (h : ∀ x dx o b' s', Le b b' → b' x = some (instObj 59 dx) → OccO w o ⟨k, n, a, z⟩ → c.L < dx → St w c b' ((dx, o) :: mu) s' m → Q (.ref x) s') :
    wpAny (model PR w) A (call (.ref 59) [.str k tk, .int n tn, .int a ta, .int z tb]) Q NoE s := by
  have X : (hd.heap_39 w.params).In s.heap := S.gl.K.keeps S.fr.keep
  refine wpAny_call ?_
  have S1 := S.pushM (o := emptyDict) rfl
  have hL := S.L_lt
  generalize hdx : s.heap.objs.size = dx at S1 hL
  have S2 := S1.pushI (o := instObj 59 dx) rfl
  have l2 : Le b _ := Le.put (o := instObj 59 dx) S1 (Nat.le_refl _)
  have hx := Im.put_at b (s.heap.push emptyDict).objs.size (instObj 59 dx)
  rw [Heap.size_push, hdx] at hx S2 l2
  obtain ⟨hh, g, d, tt, os⟩ := s
  dsimp only at hdx S2
  subst hdx
  refine make_core (makes_of X (C := 59) (by kernel_rfl)) (looks_findIn X (r := some (.ref 49)) (by kernel_rfl)) (fun self => bind_fn X self (by kernel_rfl)) (.inl rfl) ?_
  have hA1 : Am (A.under (.builtin "type.__call__" ⟨.ref 59 :: [.str k tk, .int n tn, .int a ta, .int z tb], []⟩)) 2 := ⟨hA.hh, by have := hA.dp; show A.depth + 1 + 2 < _; omega, by have := hA.un; show A.units + 1 + _ + _ < _; omega⟩
  refine enterC (n := 1) hA1 S2 (f := 49) (binds := [(Str.ofString "self", .ref (hh.objs.size + 1)), (Str.ofString "kind", .str k tk), (Str.ofString "number", .int n tn), (Str.ofString "start", .int a ta), (Str.ofString "stop", .int z tb)]) rfl (by rfl) (BindsTo.of_eq rfl) (locs rfl) (by decide) rfl rfl rfl ?_
  intro c' s' hc hA' S' back
  ((with_reducible refine s_asgA ?_); walk_at "mm")
  refine a_set (pre := []) (es := []) (es' := fun tk0 => [dE w.params (Str.ofString "kind") tk0 (.str k tk)]) (n' := 1) (by assumption) hx ?hl ?he ?hz ?_
  case hl => kernel_rfl
  case he => exact fun _ => by kernel_rfl
  case hz => exact fun _ => Nat.le_of_ble_eq_true rfl
  intro t1 s1 S1
  ((with_reducible refine s_asgA ?_); walk_at "mm")
  refine a_set (pre := []) (es' := fun tk0 => [dE w.params (Str.ofString "kind") t1 (.str k tk), dE w.params (Str.ofString "number") tk0 (.int n tn)]) (n' := 2) S1 hx ?hl ?he ?hz ?_
  case hl => kernel_rfl
  case he => exact fun _ => by kernel_rfl
  case hz => exact fun _ => Nat.le_of_ble_eq_true rfl
  intro t2 s2 S2
  ((with_reducible refine s_asgA ?_); walk_at "mm")
  refine a_set (pre := []) (es' := fun tk0 => [dE w.params (Str.ofString "kind") t1 (.str k tk), dE w.params (Str.ofString "number") t2 (.int n tn), dE w.params (Str.ofString "start") tk0 (.int a ta)]) (n' := 3) S2 hx ?hl ?he ?hz ?_
  case hl => kernel_rfl
  case he => exact fun _ => by kernel_rfl
  case hz => exact fun _ => Nat.le_of_ble_eq_true rfl
  intro t3 s3 S3
  ((with_reducible refine s_asgA ?_); walk_at "mm")
  refine a_set (pre := []) (es' := fun tk0 => [dE w.params (Str.ofString "kind") t1 (.str k tk), dE w.params (Str.ofString "number") t2 (.int n tn), dE w.params (Str.ofString "start") t3 (.int a ta), dE w.params (Str.ofString "stop") tk0 (.int z tb)]) (n' := 4) S3 hx ?hl ?he ?hz ?_
  case hl => kernel_rfl
  case he => exact fun _ => by kernel_rfl
  case hz => exact fun _ => Nat.le_of_ble_eq_true rfl
  intro t4 s4 S4
  walk_at "mm"
  refine ⟨rfl, h _ _ _ _ _ l2 hx ⟨(t1, t2, t3, t4), (tk, tn, ta, tb), ?_⟩ hL (back _ _ _ _ S4)⟩
  kernel_rfl
end
-- F9b
section
variable {w : World} {c : Cx} {b : Im} {mu : Led} {s : Shared} {m : Str → Option Value} {A : Around} {qual : Str} {scope : Scope} {f : Addr} {cdv : Value} {env : Env}
theorem e_attr {value : Expr} {attr : Str} {pos : Pos} {Q : Value → Shared → Prop} (h : wpAny (model PR w) A (eval value env) (fun o s₁ => wpAny (model PR w) A (getAttr o attr true) Q NoE s₁) NoE s)
    (he : eval (.Attribute value attr pos) env = (do
      let o ← eval value env
      standAt pos.atName
      let r ← holding [o] (getAttr o attr true)
      letTemporaryGo value o r
      pure r) := by kernel_rfl) :
    wpAny (model PR w) A (eval (.Attribute value attr pos) env) Q NoE s := Attribute_any_ h he
theorem e_dict0 {K : Type} [DecidableEq K] {pos : Pos} {Q : Value → Shared → Prop} (knd : KeyKind PR w K) (S : St w c b mu s m) (h : ∀ d o s', c.L < d → o.IsDictOf knd [] → St w c b ((d, o) :: mu) s' m → Q (.ref d) s') :
    wpAny (model PR w) A (eval (.Dict [] [] pos) env) Q NoE s :=
  wpAny_Dict_empty (h _ _ _ S.L_lt dict_new (S.pushM (o := { cls := .type "dict", data := .dict #[] }) rfl))
theorem s_while_no {test : Expr} {body rest : List Stmt} {pos : Pos} {Q : Flow → Shared → Prop} (h : wpAny (model PR w) A (isTrue test env (eval test env)) (fun t s' => t = false ∧ wpAny (model PR w) A (execs rest env) Q NoE s') NoE s) :
    wpAny (model PR w) A (execs (.While test body [] pos :: rest) env) Q NoE s := by
  refine s_of (wpAny_While (codeAny_whileLoop (fun _ s' => s' = s) ?_ 0 rfl))
  rintro n _ rfl
  refine noE (wpAny_mono h (fun t s' q => ?_) fun _ _ x => x)
  obtain ⟨rfl, q⟩ := q
  rw [if_neg (by decide)]
  exact wpAny_execs_nil q
theorem t_and {es : List Expr} {pos : Pos} {whole : Sem Value} {Q : Bool → Shared → Prop} (h : wpAny (model PR w) A (allTrue .And es env) Q NoE s) : wpAny (model PR w) A (isTrue (.BoolOp .And es pos) env whole) Q NoE s := wpAny_isTrue_BoolOp h
theorem t_andc {x : Expr} {rest : List Expr} {Q : Bool → Shared → Prop} (h : wpAny (model PR w) A (isTrue x env (eval x env)) (fun b s₁ => if b then wpAny (model PR w) A (allTrue .And rest env) Q NoE s₁ else Q false s₁) NoE s) : wpAny (model PR w) A (allTrue .And (x :: rest) env) Q NoE s := wpAny_allTrue_And_cons h
theorem t_andn {Q : Bool → Shared → Prop} (h : Q true s) : wpAny (model PR w) A (allTrue .And [] env) Q NoE s := wpAny_allTrue_And_nil h
theorem s_asgS {o i value : Expr} {pos' pos : Pos} {rest : List Stmt} {Q : Flow → Shared → Prop}
    (h : wpAny (model PR w) A (eval value env) (fun v s₁ => wpAny (model PR w) A (eval o env) (fun ov s₂ => wpAny (model PR w) A (eval i env) (fun iv s₃ => wpAny (model PR w) A (setItem ov iv v) (fun _ s₄ => wpAny (model PR w) A (execs rest env) Q NoE s₄) NoE s₃) NoE s₂) NoE s₁) NoE s)
    (hs : swapsWith value (some (.Subscript o i pos')) pos.line env = pure false := by kernel_rfl) : wpAny (model PR w) A (execs (.Assign [.Subscript o i pos'] value pos :: rest) env) Q NoE s := s_of (wpAny_Assign_Subscript h hs)
theorem s_augn {x : Str} {px pos : Pos} {value : Expr} {op : Operator} {rest : List Stmt} {Q : Flow → Shared → Prop} {v : Value} (S : St w c b mu s m) (hv : m x = some v)
    (h : wpAny (model PR w) A (eval value (envOf qual scope c.L f cdv)) (fun y s₂ => wpAny (model PR w) A (inplaceOp op v y) (fun r s₃ => wpAny (model PR w) A (storeName (envOf qual scope c.L f cdv) x r) (fun _ s₄ => wpAny (model PR w) A (execs rest (envOf qual scope c.L f cdv)) Q NoE s₄) NoE s₃) NoE s₂) NoE s)
    (hk : scope.kind = .function := by kernel_rfl) (hl : (envOf qual scope c.L f cdv).kindOf x = some .local := by kernel_rfl) (hd : (x == ("__debug__" : Str)) = false := by kernel_rfl) :
    wpAny (model PR w) A (execs (.AugAssign (.Name x px) op value pos :: rest) (envOf qual scope c.L f cdv)) Q NoE s :=
  s_of (wpAny_AugAssign_Name (wpAny_loadName_local hk hl S.fr.ns hv h))
-- attributes of an Occupation
theorem o_num {x dx : Addr} {o : Obj} {d : Oc} {Q : Value → Shared → Prop} (S : St w c b mu s m) (hx : b x = some (instObj 59 dx)) (ho : s.heap.get? dx = some o) (hd : OccO w o d) (h : ∀ t s', St w c b mu s' m → Q (.int d.n t) s') : wpAny (model PR w) A (getAttr (.ref x) (Str.ofString "number") true) Q NoE s := by
  obtain ⟨t, u, rfl⟩ := hd
  exact a_get (attr := none) (v := .int d.n u.2.1) S hx ho (by kernel_rfl) rfl (fun s' S' => h _ _ S')
theorem o_kind {x dx : Addr} {o : Obj} {d : Oc} {Q : Value → Shared → Prop} (S : St w c b mu s m) (hx : b x = some (instObj 59 dx)) (ho : s.heap.get? dx = some o) (hd : OccO w o d) (h : ∀ t s', St w c b mu s' m → Q (.str d.k t) s') : wpAny (model PR w) A (getAttr (.ref x) (Str.ofString "kind") true) Q NoE s := by
  obtain ⟨t, u, rfl⟩ := hd
  exact a_get (attr := none) (v := .str d.k u.1) S hx ho (by kernel_rfl) rfl (fun s' S' => h _ _ S')
theorem o_start {x dx : Addr} {o : Obj} {d : Oc} {Q : Value → Shared → Prop} (S : St w c b mu s m) (hx : b x = some (instObj 59 dx)) (ho : s.heap.get? dx = some o) (hd : OccO w o d) (h : ∀ t s', St w c b mu s' m → Q (.int d.a t) s') : wpAny (model PR w) A (getAttr (.ref x) (Str.ofString "start") true) Q NoE s := by
  obtain ⟨t, u, rfl⟩ := hd
  exact a_get (attr := none) (v := .int d.a u.2.2.1) S hx ho (by kernel_rfl) rfl (fun s' S' => h _ _ S')
theorem o_stop {x dx : Addr} {o : Obj} {d : Oc} {Q : Value → Shared → Prop} (S : St w c b mu s m) (hx : b x = some (instObj 59 dx)) (ho : s.heap.get? dx = some o) (hd : OccO w o d) (h : ∀ t s', St w c b mu s' m → Q (.int d.b t) s') : wpAny (model PR w) A (getAttr (.ref x) (Str.ofString "stop") true) Q NoE s := by
  obtain ⟨t, u, rfl⟩ := hd
  exact a_get (attr := none) (v := .int d.b u.2.2.2) S hx ho (by kernel_rfl) rfl (fun s' S' => h _ _ S')
def Oc.to (d : Oc) (z : Int) : Oc := ⟨d.k, d.n, d.a, z⟩
theorem o_set {pre post : Led} {x dx : Addr} {o : Obj} {d : Oc} {z : Int} {tz : Tok} {Q : Unit → Shared → Prop} (S : St w c b (pre ++ (dx, o) :: post) s m) (hx : b x = some (instObj 59 dx)) (hd : OccO w o d)
    (h : ∀ o' s', OccO w o' (d.to z) → St w c b (pre ++ (dx, o') :: post) s' m → Q () s') : wpAny (model PR w) A (setAttr (.ref x) (Str.ofString "stop") (.int z tz)) Q NoE s := by
  obtain ⟨t, u, rfl⟩ := hd
  exact a_set (es' := fun _ => occE w.params t (d.to z) (u.1, u.2.1, u.2.2.1, tz)) (n' := 4) S hx (by kernel_rfl) (fun _ => by kernel_rfl) (fun _ => Nat.le_of_ble_eq_true rfl) (fun tk s' S' => h _ _ ⟨_, _, rfl⟩ S')
/-- for x in a list that stands: the invariant J -/
theorem for_list2 {K : Flow → Shared → Prop} {elts : List Expr} {x1 : Nat} {tpos : Pos} {body : List Stmt} {l : Addr} {vs : List Value} {n : Nat} (hh : A.handled = none) (S : St w c b mu s m) (hl : b l = some (lstO vs n))
    (J : Nat → Im → Led → (Str → Option Value) → Prop) (h0 : J 0 b mu m) (hrf : ∀ v ∈ vs, ∃ a, v = .ref a)
    (turn : ∀ i v b' mu' m' it s', vs[i]? = some v → Le b b' → J i b' mu' m' → St w c b' (mu' ++ [it]) s' m' →
      wpAny (model PR w) A (assign (.Tuple elts x1 tpos) env v) (fun _ s₂ => wpAny (model PR w) A (execs body env) (Tn K (TEnd w c b it (J (i + 1)))) NoE s₂) NoE s')
    (done : ∀ b' mu' m' s', Le b b' → J vs.length b' mu' m' → St w c b' mu' s' m' → K .next s') :
    wpAny (model PR w) A (pyIter (.ref l)) (fun it s₂ => codeAny (model PR w) A (.forLoop (.Tuple elts x1 tpos) it body [] env) (Lr K) s₂) NoE s := by
  have hls : s.heap.IsList l vs.toArray := isList_of (S.keep _ _ hl)
  have hne : l ≠ s.heap.objs.size := Nat.ne_of_lt (Heap.lt_size (S.keep _ _ hl))
  refine wpAny_pyIter_list hls ?_
  have W := Walks.list (prog := PR) (w := w) hh s.heap.objs.size l hne vs.toArray
  have e : vs.toArray.size = vs.length := by simp
  rw [e] at W
  refine for_walkT W ⟨⟨_, Heap.get?_push_size _ rfl, rfl, rfl⟩, hls.at fun o e => Heap.get?_push_of_some _ e⟩ (fun i h q => let ⟨⟨o, ho, _⟩, _⟩ := q; ⟨o, ho⟩) (S.pushE (t := s.toks) rfl) J h0 ?_ ?_ ?_ done
  · intro i b' mu' m' _ hle a ha hna
    have : a = l := by simpa [hna] using ha
    subst this
    exact ⟨_, Heap.get?_push_of_some _ (S.keep _ _ hl), .inl (hle _ _ hl)⟩
  · intro i v s' Q' E' hP hS hQ
    obtain ⟨a, rfl⟩ := hrf v (List.mem_of_getElem? (by simpa using hP))
    exact wpAny_letOwnedTupleGo_listiter hS.1 hQ
  · intro i v b' mu' m' o s' hi hP hle hJ S'
    exact turn i v b' mu' m' _ s' (by simpa using hP) hle hJ S'
/-- for x in a dict: its keys -/
theorem for_dict {Ky : Type} [DecidableEq Ky] {knd : KeyKind PR w Ky} {kvs : List (Ky × Value)} {o : Obj} {d : Addr} {K : Flow → Shared → Prop} {target : Expr} {body : List Stmt} (hh : A.handled = none) (S : St w c b mu s m) (hm : (d, o) ∈ mu) (hd : o.IsDictOf knd kvs) (hL : c.L < d)
    (J : Nat → Im → Led → (Str → Option Value) → Prop) (h0 : J 0 b mu m) (hJ : ∀ i b' mu' m', J i b' mu' m' → (d, o) ∈ mu') (ht : ∀ I v, letOwnedTupleGo target (.ref I) v = pure ())
    (turn : ∀ i k x v b' mu' m' it s', kvs[i]? = some (k, x) → knd.is k v = true → Le b b' → J i b' mu' m' → St w c b' (mu' ++ [it]) s' m' →
      wpAny (model PR w) A (assign target env v) (fun _ s₂ => wpAny (model PR w) A (execs body env) (Tn K (TEnd w c b it (J (i + 1)))) NoE s₂) NoE s')
    (done : ∀ b' mu' m' s', Le b b' → J kvs.length b' mu' m' → St w c b' mu' s' m' → K .next s') :
    wpAny (model PR w) A (pyIter (.ref d)) (fun it s₂ => codeAny (model PR w) A (.forLoop target it body [] env) (Lr K) s₂) NoE s := by
  have ho := S.at hm
  obtain ⟨ep, hat⟩ := (Heap.dictOf_iff.mpr ⟨o, ho, hd⟩ : s.heap.DictOf knd d kvs).dictAt
  refine wpAny_pyIter_dict (S.notSys hL) hat ?_
  have hne : d ≠ s.heap.objs.size := Nat.ne_of_lt (Heap.lt_size ho)
  have W := Walks.dictKeys (prog := PR) (w := w) (A := A) hh s.heap.objs.size d hne kvs ep (knd := knd)
  refine for_walk W ⟨⟨_, Heap.get?_push_size _ rfl, rfl, rfl⟩, hat.push _⟩ (fun i h q => let ⟨⟨o, ho, _⟩, _⟩ := q; ⟨o, ho⟩) (S.pushE (t := s.toks) rfl) J h0 ?_ (ht _) ?_ done
  · intro i b' mu' m' hj hle a ha hna
    have : a = d := by simpa [hna] using ha
    subst this
    exact ⟨_, Heap.get?_push_of_some _ ho, .inr (hJ _ _ _ _ hj)⟩
  · rintro i v b' mu' m' o' s' hi ⟨k, x, hx, hkey⟩ hle hj S'
    exact turn i k x v b' mu' m' _ s' hx hkey hle hj S'
end
-- F9c
-- what intervals does, on plain data
inductive Op | t (n : Int) | a (p : Int)
def upT (at_ n : Int) : List Oc → List Oc
  | [] => [⟨Str.ofString "temp", n, at_, at_ + 1⟩]
  | d :: r => if d.n = n then (if at_ > d.b then d.to at_ else d) :: r else d :: upT at_ n r
structure Ps where
  ts : List Oc
  ps : List Oc
  fs : List Oc
def opS (at_ : Int) (s : Ps) : Op → Ps
  | .t n => ⟨upT at_ n s.ts, s.ps, s.fs⟩
  | .a p => ⟨s.ts, s.ps ++ [⟨Str.ofString "out", p, at_, at_ + 1⟩], s.fs⟩
def enS (at_ : Int) (en : Bool) (s : Ps) : Ps := if en = true then ⟨s.ts, [], s.ps.map (·.to at_) ++ s.fs⟩ else s
def opsOf (r : Rs) : List Op := (r.t.map Op.t).toList ++ (r.a.map Op.a).toList
def rowS (at_ : Int) (s : Ps) (r : Rs) : Ps := (opsOf r).foldl (opS at_) (enS at_ r.en s)
def stepR (q : Nat × Ps) (r : Rs) : Nat × Ps := (q.1 + 1, rowS (q.1 : Int) q.2 r)
def runS (rs : List Rs) : Nat × Ps := rs.foldl stepR (0, ⟨[], [], []⟩)
theorem runS_snoc (rs : List Rs) (r : Rs) : runS (rs ++ [r]) = ((runS rs).1 + 1, rowS (runS rs).1 (runS rs).2 r) := by unfold runS; rw [List.foldl_append]; rfl
theorem runS_len (rs : List Rs) : (runS rs).1 = rs.length := by
  have H : ∀ (rs : List Rs) (q : Nat × Ps), (rs.foldl stepR q).1 = q.1 + rs.length := by
    intro rs
    induction rs with
    | nil => intro q; rfl
    | cons r rs ih => intro q; rw [List.foldl_cons, ih, List.length_cons]; show q.1 + 1 + _ = _; omega
  rw [show runS rs = rs.foldl stepR (0, ⟨[], [], []⟩) from rfl, H]
  exact Nat.zero_add _
theorem upT_new {at_ n : Int} : ∀ {l : List Oc}, (∀ d ∈ l, d.n ≠ n) → upT at_ n l = l ++ [⟨Str.ofString "temp", n, at_, at_ + 1⟩]
  | [], _ => rfl
  | d :: r, h => by unfold upT; rw [if_neg (h d (.head _)), upT_new fun x hx => h x (.tail _ hx)]; rfl
theorem upT_old {at_ n : Int} {d : Oc} {l' : List Oc} : ∀ {l : List Oc}, (∀ d ∈ l, d.n ≠ n) → d.n = n → upT at_ n (l ++ d :: l') = l ++ (if at_ > d.b then d.to at_ else d) :: l'
  | [], _, e => by show upT _ _ (d :: l') = _; unfold upT; rw [if_pos e]; rfl
  | x :: r, h, e => by show upT _ _ (x :: (r ++ d :: l')) = _; unfold upT; rw [if_neg (h x (.head _)), upT_old (fun x hx => h x (.tail _ hx)) e]; rfl
theorem val_take {rs : List Rs} {u : Nat} (h : Val rs u) : ∀ i r, rs[i]? = some r → ∃ u', Val (rs.take i) u' ∧ (∀ n, r.t = some n → 0 ≤ n ∧ n < 5) ∧ (∀ p, r.a = some p → p = (u' : Int) + 1 ∧ p ≤ 3 ∧ r.en = false) := by
  induction h with
  | nil => intro i r h; simp at h
  | @snoc rs u r0 hv h1 h2 ih =>
    intro i r hr
    by_cases q : i < rs.length
    · rw [List.getElem?_append_left q] at hr
      rw [List.take_append_of_le_length (Nat.le_of_lt q)]
      exact ih i r hr
    · have e : i = rs.length := by
        have := (List.getElem?_eq_some_iff.mp hr).1
        rw [List.length_append] at this
        have e1 : [r0].length = 1 := rfl
        omega
      subst e
      rw [List.getElem?_append_right (Nat.le_refl _), Nat.sub_self] at hr
      cases hr
      rw [List.take_left]
      exact ⟨u, hv, h1, h2⟩
def pend (u : Nat) : List Int := (List.range u).map fun (k : Nat) => (k : Int) + 1
theorem val_ps {rs : List Rs} {u : Nat} (h : Val rs u) : (runS rs).2.ps.map (·.n) = pend u := by
  induction h with
  | nil => rfl
  | @snoc rs u r hv h1 h2 ih =>
    rw [runS_snoc]
    show (rowS _ _ r).ps.map _ = _
    have e1 : ∀ (at_ : Int) (s : Ps), ((r.t.map Op.t).toList.foldl (opS at_) s).ps = s.ps := fun at_ s => by cases r.t <;> rfl
    unfold rowS opsOf
    rw [List.foldl_append]
    cases ha : r.a with
    | none =>
      show (Ps.ps ((r.t.map Op.t).toList.foldl (opS _) _)).map _ = _
      rw [e1]
      unfold enS nextUsed
      rw [ha]
      cases r.en with
      | true => rfl
      | false => exact ih
    | some p =>
      obtain ⟨hp, _, he⟩ := h2 p ha
      show (Ps.ps ((r.t.map Op.t).toList.foldl (opS _) _) ++ [_]).map _ = _
      rw [List.map_append, e1]
      unfold enS nextUsed
      rw [ha, he, hp, if_neg (by decide)]
      show _ ++ [(u : Int) + 1] = pend (u + 1)
      rw [ih]
      unfold pend
      rw [List.range_succ, List.map_append]
      rfl
theorem pend_fresh {u : Nat} {n : Int} (h : n ∈ pend u) : n ≠ (u : Int) + 1 := by
  obtain ⟨k, hk, rfl⟩ := List.mem_map.mp h
  have := List.mem_range.mp hk
  omega
def allP (s : Ps) : List Oc := s.ts ++ (s.ps ++ s.fs)
-- the same, in the heap
structure Ox where
  x : Addr
  dx : Addr
  o : Obj
  d : Oc
def ledO (l : List Ox) : Led := l.map fun q => (q.dx, q.o)
def kvO (l : List Ox) : List (Int × Value) := l.map fun q => (q.d.n, .ref q.x)
def refO (l : List Ox) : List Value := l.map fun q => .ref q.x
def datO (l : List Ox) : List Oc := l.map (·.d)
structure OxOk (w : World) (c : Cx) (b : Im) (q : Ox) : Prop where
  x : b q.x = some (instObj 59 q.dx)
  o : OccO w q.o q.d
  l : c.L < q.dx
theorem OxOk.le {w : World} {c : Cx} {b b' : Im} {q : Ox} (h : OxOk w c b q) (l : Le b b') : OxOk w c b' q := ⟨l.at h.x, h.o, h.l⟩
abbrev IK (w : World) := intKind PR w
abbrev ldG (fl : Addr) (fr : List Value) (nf : Nat) (td : Addr) (to : Obj) (od : Addr) (oo : Obj) (l : List Ox) (mu : Led) : Led := (fl, lstO fr nf) :: (td, to) :: (od, oo) :: (ledO l ++ mu)
structure Sta (w : World) (c : Cx) (b : Im) (P : Ps) (ts ps fs : List Ox) (fr : List Value) (to oo : Obj) (fl td od : Addr) (k : Nat) : Prop where
  t : datO ts = P.ts
  p : datO ps = P.ps
  f : datO fs = P.fs
  ok : ∀ q ∈ ts ++ (ps ++ fs), OxOk w c b q
  tk : to.IsDictOf (IK w) (kvO ts)
  pk : oo.IsDictOf (IK w) (kvO ps)
  fr : fr.Perm (refO (ts ++ (ps ++ fs)))
  sz : (ts ++ (ps ++ fs)).length ≤ k
  fL : c.L < fl
  tL : c.L < td
  oL : c.L < od
theorem val_kv {l : List Ox} {n : Int} (h : ∀ q ∈ l, q.d.n ≠ n) : valueAt (kvO l) n = none := by
  unfold valueAt kvO
  rw [List.find?_eq_none.mpr]
  · rfl
  · intro p hp
    obtain ⟨q, hq, rfl⟩ := List.mem_map.mp hp
    simpa using h q hq
theorem val_kv1 {l l' : List Ox} {q : Ox} (h : ∀ q' ∈ l, q'.d.n ≠ q.d.n) : valueAt (kvO (l ++ q :: l')) q.d.n = some (.ref q.x) := by
  unfold valueAt kvO
  rw [List.map_append, List.find?_append, List.find?_eq_none.mpr]
  · simp
  · intro p hp
    obtain ⟨q, hq, rfl⟩ := List.mem_map.mp hp
    simpa using h q hq
theorem dict_nd {w : World} {o : Obj} {kvs : List (Int × Value)} (h : o.IsDictOf (IK w) kvs) : (kvs.map (·.1)).Nodup := let ⟨_, _, _, _, _, _, q⟩ := h; q
theorem kv_first {l1 l2 : List Ox} {q : Ox} (h : ((kvO (l1 ++ q :: l2)).map (·.1)).Nodup) : ∀ q' ∈ l1, q'.d.n ≠ q.d.n := fun q' hq' e => by
  unfold kvO at h
  rw [List.map_map, List.map_append] at h
  exact (List.nodup_append.mp h).2.2 q'.d.n (List.mem_map.mpr ⟨q', hq', rfl⟩) q.d.n (List.mem_map.mpr ⟨q, .head _, rfl⟩) e
theorem kv_split {p1 p2 : List Ox} {key : Int} {x : Value} (h : (kvO (p1 ++ p2))[p1.length]? = some (key, x)) : ∃ q p2', p2 = q :: p2' ∧ key = q.d.n ∧ x = .ref q.x := by
  unfold kvO at h
  rw [List.map_append, List.getElem?_append_right (by rw [List.length_map]; exact Nat.le_refl _), List.length_map, Nat.sub_self] at h
  match p2, h with
  | q :: p2', h => cases h; exact ⟨q, p2', rfl, rfl, rfl⟩
theorem ref_kv (l : List Ox) : refO l = (kvO l).map (·.2) := by unfold refO kvO; rw [List.map_map]; rfl
theorem first_n (n : Int) : ∀ l : List Ox, (∀ q ∈ l, q.d.n ≠ n) ∨ ∃ l1 q l2, l = l1 ++ q :: l2 ∧ (∀ q' ∈ l1, q'.d.n ≠ n) ∧ q.d.n = n
  | [] => .inl (fun _ h => nomatch h)
  | q :: l => if e : q.d.n = n then .inr ⟨[], q, l, rfl, (fun _ h => nomatch h), e⟩ else
    match first_n n l with
    | .inl h => .inl fun x hx => (List.mem_cons.mp hx).elim (fun q => q ▸ e) (h x)
    | .inr ⟨l1, q', l2, e1, h, e2⟩ => .inr ⟨q :: l1, q', l2, by rw [e1]; rfl, fun x hx => (List.mem_cons.mp hx).elim (fun q => q ▸ e) (h x), e2⟩
/-- an operand's op -/
def OpAt (b : Im) (q : Int × Value) : Op → Prop
  | .t n => TA b q.2 (Str.ofString "t") n
  | .a p => q.1 = 2 ∧ TA b q.2 (Str.ofString "a") p
theorem shape_ops {b : Im} {idx : List (Int × Nat)} {vs : List Value} {r : Rs} {l : List (Int × Value)} (S : Shape b idx vs r) (h : All2 (fun p q => q.1 = p.1 ∧ vs[p.2 - 1]? = some q.2) idx l) : All2 (OpAt b) l (opsOf r) := by
  cases S with
  | none _ => cases h; exact .nil
  | tt hx _ _ =>
    cases h with | cons h1 h2 => cases h2; obtain ⟨_, e⟩ := h1; cases e; exact .cons hx .nil
  | aa hx =>
    cases h with | cons h1 h2 => cases h2; obtain ⟨e1, e⟩ := h1; cases e; exact .cons ⟨e1, hx⟩ .nil
  | sa _ hx =>
    cases h with | cons h1 h2 => cases h2; obtain ⟨e1, e⟩ := h1; cases e; exact .cons ⟨e1, hx⟩ .nil
  | ta hx _ _ hy =>
    cases h with | cons h1 h2 => cases h2 with | cons h3 h4 => cases h4; obtain ⟨_, e⟩ := h1; cases e; obtain ⟨e1, e⟩ := h3; cases e; exact .cons hx (.cons ⟨e1, hy⟩ .nil)
theorem shape_has {b : Im} {idx : List (Int × Nat)} {vs : List Value} {r : Rs} (S : Shape b idx vs r) : ∀ p ∈ idx, 1 ≤ p.2 ∧ ∃ x, vs[p.2 - 1]? = some x := by
  cases S with
  | none _ => intro p hp; cases hp
  | tt _ _ _ => intro p hp; obtain rfl := List.mem_singleton.mp hp; exact ⟨Nat.le_of_ble_eq_true rfl, _, rfl⟩
  | aa _ => intro p hp; obtain rfl := List.mem_singleton.mp hp; exact ⟨Nat.le_of_ble_eq_true rfl, _, rfl⟩
  | sa _ _ => intro p hp; obtain rfl := List.mem_singleton.mp hp; exact ⟨Nat.le_of_ble_eq_true rfl, _, rfl⟩
  | ta _ _ _ _ =>
    intro p hp
    rcases List.mem_cons.mp hp with rfl | hp
    · exact ⟨Nat.le_of_ble_eq_true rfl, _, rfl⟩
    · obtain rfl := List.mem_singleton.mp hp; exact ⟨Nat.le_of_ble_eq_true rfl, _, rfl⟩
theorem ops_len (r : Rs) : (opsOf r).length ≤ 2 := by unfold opsOf; cases r.t <;> cases r.a <;> exact Nat.le_of_ble_eq_true rfl
-- Cm
section
variable {w : World} {c : Cx} {b : Im} {mu : Led} {s : Shared} {m : Str → Option Value} {A : Around} {env : Env}
theorem St.sameC (S : St w c b mu s m) {C : Addr} {h' : Heap} (hs : Heap.SameBut C s.heap h') (h1 : c.L ≠ C) (h2 : b C = none) (h3 : ∀ p ∈ mu, p.1 ≠ C) (h4 : c.g.get? C = none) : St w c b mu { s with heap := h' } m := by
  have k : ∀ x y, x ≠ C → s.heap.get? x = some y → h'.get? x = some y := fun x y n e => (hs.2 x n).trans e
  obtain ⟨oL, es, ep, hL, hLr⟩ := S.fr.ns
  refine ⟨S.gl, ⟨⟨oL, es, ep, k _ _ h1 hL, hLr⟩, fun x y e => k x y (fun q => ?_) (S.fr.keep x y e), S.fr.above⟩, fun x y e => k x y (fun q => ?_) (S.keep x y e), S.off, S.offL, S.old, fun p hp => ⟨k _ _ (h3 p hp) (S.led p hp).1, (S.led p hp).2⟩, S.nd, S.gens, S.drawn, S.os⟩
  · subst q; rw [h4] at e; cases e
  · subst q; rw [h2] at e; cases e
/-- what holds when the comprehension's loop is done -/
def CDone (w : World) (c : Cx) (b : Im) (mu : Led) (m : Str → Option Value) (J : Im → List Value → Prop) (C : Addr) (D : Addr) (s' : Shared) : Prop :=
  ∃ b' ys nD mC, Le b b' ∧ J b' ys ∧ St w c b' ((D, lstO ys nD) :: mu) s' m ∧ s'.heap.Ns C mC ∧ c.L < D ∧ c.L ≠ C ∧ b' C = none ∧ (∀ p ∈ (D, lstO ys nD) :: mu, p.1 ≠ C) ∧ c.g.get? C = none
theorem comp_core {elt iter : Expr} {x : Str} {px : Pos} {ifs : List Expr} {scope : Scope} {cl : List (Str × Addr)} {pos : Pos} {I : Addr} {oI : Obj} {fp : List Addr} {n : Nat} {P : Nat → Value → Prop} {Si : Nat → Heap → Prop} {RR : Value → Addr → Result → Shared → Prop}
    (hcell : ∀ y ∈ scope.names, y.2 ≠ .cell) (hkind : scope.kind = .function) (hx : scope.names.lookup x = some .local)
    (W : Walks PR w A I fp [I] n P Si) (hst : Si 0 s.heap) (hI : ∀ i h, Si i h → ∃ o, h.get? I = some o) (S : St w c b (mu ++ [(I, oI)]) s m) (hn : n ≤ sizeLine)
    (J : Nat → Im → List Value → Prop) (h0 : J 0 b [])
    (hJn : ∀ i b' ys, J i b' ys → ys.length ≤ i)
    (hfp : ∀ a ∈ fp, a ≠ I → ∃ o, s.heap.get? a = some o ∧ (b a = some o ∨ (a, o) ∈ mu))
    (turn : ∀ i v b' (c₁ : Cx) led s' m₁, i < n → P i v → Le b b' → c₁.b₀ = b → (∀ p ∈ mu, p ∈ led) → (∀ ys, J i b' ys → m₁ x = some v → St w c₁ b' led s' m₁ →
      wpAny (model PR w) A (forIn ifs true fun c r => if r = true then do let ok ← isTrue c (compEnvC scope cl c₁.L env) (eval c (compEnvC scope cl c₁.L env)); pure (ForInStep.yield ok) else pure (ForInStep.yield r))
        (fun ok s₃ => if ok = true then wpAny (model PR w) A (eval elt (compEnvC scope cl c₁.L env)) (fun y s₄ => ∃ b₂, Le b' b₂ ∧ St w c₁ b₂ led s₄ m₁ ∧ J (i + 1) b₂ (ys ++ [y])) NoE s₃
          else ∃ b₂, Le b' b₂ ∧ St w c₁ b₂ led s₃ m₁ ∧ J (i + 1) b₂ ys) NoE s'))
    (done : ∀ D C s', CDone w c b mu m (J n) C D s' → RR (.ref D) C (.ok .next) s') :
    wpAny (model PR w) A (newList []) (fun acc s₃ => wpAny (model PR w) A (newFunctionEnv scope env.globals cl [] env.qual none .none (some env)) (fun cenv s₄ =>
      codeAny (model PR w) A (.compStart (.ListComp elt [⟨.Name x px, iter, ifs, 0⟩] scope pos) 0 (.ref I) acc { cenv with scope := relabel scope env }) (RR acc cenv.locals) s₄) NoE s₃) NoE s := by
  refine wpAny_newList ?_ (Nat.le_of_ble_eq_true rfl)
  have S1 := S.pushM (o := lstO []) rfl
  have hLD := S.L_lt
  have hst1 : Si 0 (s.heap.push (lstO [])) := W.frame _ _ _ hst fun a _ o e => Heap.get?_push_of_some _ e
  have hfp1 : ∀ a ∈ fp, a ≠ I → ∃ o, (s.heap.push (lstO [])).get? a = some o ∧ (b a = some o ∨ (a, o) ∈ mu) := fun a ha hne => by
    obtain ⟨o, ho, r⟩ := hfp a ha hne
    exact ⟨o, Heap.get?_push_of_some _ ho, r⟩
  generalize hD : s.heap.objs.size = D at S1 hLD
  generalize hs1 : ({ s with heap := s.heap.push (lstO []) } : Shared) = s₁ at S1
  rw [show s.heap.push (lstO []) = s₁.heap by rw [← hs1]] at hst1 hfp1
  clear hst hfp
  refine wpAny_newFunctionEnv hcell (by intro y hy; simp at hy) (fun h₁ hns₁ hsb₁ => ?_) hkind
  have hk₁ : ∀ a o, s₁.heap.get? a = some o → h₁.get? a = some o := fun a o e => hsb₁.extBut a o (Nat.ne_of_lt (Heap.lt_size e)) (Heap.get?_push_of_some _ e)
  generalize hC : s₁.heap.objs.size = C at hns₁ hsb₁
  let mu₃ : Led := (D, lstO []) :: (mu ++ [(I, oI)])
  have stg : ∀ a o, c.g.get? a = some o → (hideAll s₁.heap (mu₃.map (·.1))).get? a = some o := fun a o e => hideAll_get _ (S1.fr.keep a o e) fun q => by
    obtain ⟨p, hp, rfl⟩ := List.mem_map.mp q
    rw [(S1.led p hp).2.2.2] at e; cases e
  obtain ⟨oL, es, ep, hL, hLr⟩ := S1.fr.ns
  have nL : c.L ∉ mu₃.map (·.1) := fun q => by
    obtain ⟨p, hp, e⟩ := List.mem_map.mp q
    exact (S1.led p hp).2.1 e
  have hLg := hideAll_get (mu₃.map (·.1)) hL nL
  let c₁ : Cx := ⟨hideAll s₁.heap (mu₃.map (·.1)), b, C, c.gens, c.drawn, c.os⟩
  have hLC : c.L < C := hC ▸ S1.L_lt
  have hgC : c.g.get? C = none := S1.nones (Nat.le_of_eq hC)
  have S₂ : St w c₁ b mu₃ { s₁ with heap := h₁, toks := s₁.toks + ([] : List (Str × Value)).length } (fun y => ([] : List (Str × Value)).reverse.lookup y) :=
    ⟨S1.gl.keeps stg, ⟨hns₁, fun a o e => hk₁ a o (of_hideAll _ e), by show (hideAll _ _).objs.size ≤ C; rw [hideAll_size, hC]; exact Nat.le_refl _⟩, fun a o e => hk₁ a o (S1.keep a o e), fun _ _ => rfl, S1.none_ge (Nat.le_of_eq hC), Le.refl _,
      fun p hp => ⟨hk₁ _ _ (S1.led p hp).1, fun q => Nat.lt_irrefl C (by have h9 := Heap.lt_size (S1.led p hp).1; rw [hC, show p.1 = C from q] at h9; exact h9), (S1.led p hp).2.2.1, hideAll_none _ (List.mem_map_of_mem hp)⟩, S1.nd, S1.gens, S1.drawn, S1.os⟩
  have back : ∀ (b' : Im) (mu' : Led) (s'' : Shared) (m' : Str → Option Value), St w c₁ b' mu' s'' m' → St w c b' mu' s'' m := fun b' mu' s'' m' Z => by
    have hLz : s''.heap.get? c.L = some oL := Z.fr.keep _ _ hLg
    refine ⟨S1.gl, ⟨⟨oL, es, ep, hLz, hLr⟩, fun a o e => Z.fr.keep a o (stg a o e), S1.fr.above⟩, Z.keep, fun a ha => (Z.off a (Nat.le_trans ha (Nat.le_of_lt hLC))).trans (S1.off a ha), (Z.off c.L (Nat.le_of_lt hLC)).trans S1.offL, S1.old.trans Z.old, fun p hp => ?_, Z.nd, Z.gens, Z.drawn, Z.os⟩
    have P := Z.led p hp
    refine ⟨P.1, fun q => ?_, P.2.2.1, ?_⟩
    · have := P.2.2.2; rw [q, show c₁.g.get? c.L = some oL from hLg] at this; cases this
    · cases q : c.g.get? p.1 with
      | none => rfl
      | some o => have := P.2.2.2; rw [show c₁.g.get? p.1 = some o from stg _ _ q] at this; cases this
  have hst2 : Si 0 h₁ := W.frame _ _ _ hst1 fun a _ o e => hk₁ a o e
  have key : ∀ s₃ : Shared, s₃ = { s₁ with heap := h₁, toks := s₁.toks + ([] : List (Str × Value)).length } →
      codeAny (model PR w) A (.compLoop (.ListComp elt [⟨.Name x px, iter, ifs, 0⟩] scope pos) 0 (.ref I) (.ref D) (compEnvC scope cl C env)) (RR (.ref D) C) s₃ := by
    rintro s₃ rfl
    refine codeAny_compLoop_tests (fun k s' => ∃ i b' ys nD m' o, k = n + 1 - i ∧ i ≤ n ∧ St w c₁ b' (((D, lstO ys nD) :: mu) ++ [(I, o)]) s' m' ∧ Si i s'.heap ∧ Le b b' ∧ J i b' ys) ?_ (n + 1)
      ⟨0, b, [], 0, _, oI, rfl, Nat.zero_le _, S₂, hst2, Le.refl _, h0⟩
    rintro k s' ⟨i, b', ys, nD, m', o, rfl, hi, S', hs', hle, hJ⟩
    by_cases hlt : i < n
    · refine noE (W.item i s' _ _ hlt hs' fun v h' tk hP hsi hk => ?_)
      obtain ⟨o', ho'⟩ := hI _ _ hsi
      have S₃ : St w c₁ b' (((D, lstO ys nD) :: mu) ++ [(I, o')]) { s' with heap := h', toks := tk } m' := S'.turnAt (fun x y hx e => hk x y (fun q => hx (List.mem_singleton.mp q)) e) ho'
      refine noE (wpAny_assign_Name (wpAny_storeName_local (env := compEnvC scope cl C env) (lookup_relabel_local hx) S₃.fr.ns (fun h₂ hn₂ hs₂ => ?_) (by simp [compEnvC, relabel, hkind])))
      have S₄ := S₃.setL (t := tk + 1) hn₂ hs₂
      have fin : ∀ b₂ ys' nD' s₅, Le b' b₂ → St w c₁ b₂ (((D, lstO ys' nD') :: mu) ++ [(I, o')]) s₅ (fun y => if y = x then some v else m' y) → J (i + 1) b₂ ys' →
          ∃ k, k < n + 1 - i ∧ ∃ i b' ys nD m' o, k = n + 1 - i ∧ i ≤ n ∧ St w c₁ b' (((D, lstO ys nD) :: mu) ++ [(I, o)]) s₅ m' ∧ Si i s₅.heap ∧ Le b b' ∧ J i b' ys := fun b₂ ys' nD' s₅ l₂ S₅ J₅ => by
        refine ⟨n + 1 - (i + 1), by omega, i + 1, b₂, ys', nD', _, o', rfl, hlt, S₅, ?_, hle.trans l₂, J₅⟩
        refine W.frame _ _ _ hsi fun a ha z e => ?_
        by_cases q : a = I
        · subst q
          rw [ho'] at e
          cases e
          exact S₅.at (by simp)
        · obtain ⟨y, hy, h1⟩ := hfp1 a ha q
          have e1 : h'.get? a = some y := h1.elim (fun q => S₃.keep _ _ (hle.at q)) fun q => S₃.at (List.mem_append_left _ (.tail _ q))
          rw [e1] at e
          cases e
          exact h1.elim (fun q => S₅.keep _ _ ((hle.trans l₂).at q)) fun q => S₅.at (List.mem_append_left _ (.tail _ q))
      refine noE (wpAny_mono (turn i v b' c₁ _ _ _ hlt hP hle rfl (fun p hp => List.mem_append_left _ (.tail _ hp)) ys hJ (if_pos rfl) S₄) (fun ok s₅ h₅ => ?_) fun _ _ x => x)
      cases ok with
      | false => exact let ⟨b₂, l₂, S₅, J₅⟩ := h₅; fin b₂ ys nD _ l₂ S₅ J₅
      | true =>
        refine noE (wpAny_mono h₅ (fun y s₆ h₆ => ?_) fun _ _ x => x)
        obtain ⟨b₂, l₂, S₆, J₆⟩ := h₆
        refine wpAny_list_append_plain (items := ys.toArray) ⟨nD, S₆.at (by simp)⟩ (fun h₇ hp hs => ?_) (by have := hJn _ _ _ hJ; simp only [List.size_toArray]; omega)
        obtain ⟨nD', hD'⟩ := hp
        exact fin b₂ (ys ++ [y]) nD' _ l₂ (S₆.turnAt (pre := []) (t := s₆.toks) (fun x y hx e => (hs.2 x hx).trans e) (by simpa using hD')) J₆
    · have hn' : i = n := by omega
      subst hn'
      refine noE (W.done s' _ _ hs' fun h' tk hk => done D C _ ?_)
      have S₃ := (S'.drop (mu' := (D, lstO ys nD) :: mu) (List.sublist_append_left _ _))
      have nI : I ∉ ((D, lstO ys nD) :: mu).map (·.1) := fun q => by
        have nd := S'.nd
        rw [List.map_append] at nd
        exact (List.nodup_append.mp nd).2.2 I q I (by simp) rfl
      have HI := S'.led (I, o) (by simp)
      have k : ∀ x y, x ≠ I → s'.heap.get? x = some y → h'.get? x = some y := fun x y hx e => hk x y (fun q => hx (List.mem_singleton.mp q)) e
      have S₄ : St w c₁ b' ((D, lstO ys nD) :: mu) { s' with heap := h', toks := tk } m' := by
        obtain ⟨oL, es, ep, hL, hLr⟩ := S'.fr.ns
        refine ⟨S'.gl, ⟨⟨oL, es, ep, k _ _ (fun q : c₁.L = I => HI.2.1 q.symm) hL, hLr⟩, fun x y e => k x y (fun q => ?_) (S'.fr.keep x y e), S'.fr.above⟩, fun x y e => k x y (fun q => ?_) (S'.keep x y e), S'.off, S'.offL, S'.old, fun p hp => ?_, S₃.nd, S'.gens, S'.drawn, S'.os⟩
        · subst q; rw [HI.2.2.2] at e; cases e
        · subst q; rw [HI.2.2.1] at e; cases e
        · have P := S₃.led p hp
          exact ⟨k _ _ (fun q => nI (List.mem_map.mpr ⟨p, hp, q⟩)) P.1, P.2⟩
      exact ⟨b', ys, nD, m', hle, hJ, back _ _ _ _ S₄, S₄.fr.ns, hLD, Nat.ne_of_lt hLC, S₄.offL, fun p hp => (S₄.led p hp).2.1, hgC⟩
  exact codeAny_compStart_list (key _ rfl) (W.self 0 _ _ _ hst2 (key _ rfl))
abbrev CGoal (w : World) (A : Around) (env : Env) (elt iter : Expr) (x : Str) (px : Pos) (ifs : List Expr) (scope : Scope) (cl : List (Str × Addr)) (pos : Pos) (RR : Value → Addr → Result → Shared → Prop) (it : Value) (s₂ : Shared) : Prop :=
  wpAny (model PR w) A (newList []) (fun acc s₃ => wpAny (model PR w) A (newFunctionEnv scope env.globals cl [] env.qual none .none (some env)) (fun cenv s₄ =>
      codeAny (model PR w) A (.compStart (.ListComp elt [⟨.Name x px, iter, ifs, 0⟩] scope pos) 0 it acc { cenv with scope := relabel scope env }) (RR acc cenv.locals) s₄) NoE s₃) NoE s₂
def CTurn (w : World) (A : Around) (env : Env) (elt : Expr) (x : Str) (ifs : List Expr) (scope : Scope) (cl : List (Str × Addr)) (b : Im) (mu : Led) (J : Nat → Im → List Value → Prop) (i : Nat) (v : Value) : Prop :=
  ∀ b' (c₁ : Cx) led s' m₁, Le b b' → c₁.b₀ = b → (∀ p ∈ mu, p ∈ led) → (∀ ys, J i b' ys → m₁ x = some v → St w c₁ b' led s' m₁ →
      wpAny (model PR w) A (forIn ifs true fun c r => if r = true then do let ok ← isTrue c (compEnvC scope cl c₁.L env) (eval c (compEnvC scope cl c₁.L env)); pure (ForInStep.yield ok) else pure (ForInStep.yield r))
        (fun ok s₃ => if ok = true then wpAny (model PR w) A (eval elt (compEnvC scope cl c₁.L env)) (fun y s₄ => ∃ b₂, Le b' b₂ ∧ St w c₁ b₂ led s₄ m₁ ∧ J (i + 1) b₂ (ys ++ [y])) NoE s₃
          else ∃ b₂, Le b' b₂ ∧ St w c₁ b₂ led s₃ m₁ ∧ J (i + 1) b₂ ys) NoE s')
theorem comp_list {elt iter : Expr} {x : Str} {px : Pos} {ifs : List Expr} {scope : Scope} {cl : List (Str × Addr)} {pos : Pos} {RR : Value → Addr → Result → Shared → Prop} {l : Addr} {vs : List Value} {n : Nat}
    (hcell : ∀ y ∈ scope.names, y.2 ≠ .cell) (hkind : scope.kind = .function) (hx : scope.names.lookup x = some .local) (hh : A.handled = none) (S : St w c b mu s m) (hl : b l = some (lstO vs n)) (hn : vs.length ≤ sizeLine)
    (J : Nat → Im → List Value → Prop) (h0 : J 0 b []) (hJn : ∀ i b' ys, J i b' ys → ys.length ≤ i)
    (turn : ∀ i v, vs[i]? = some v → CTurn w A env elt x ifs scope cl b mu J i v)
    (done : ∀ D C s', CDone w c b mu m (J vs.length) C D s' → RR (.ref D) C (.ok .next) s') :
    wpAny (model PR w) A (pyIter (.ref l)) (CGoal w A env elt iter x px ifs scope cl pos RR) NoE s := by
  have hls : s.heap.IsList l vs.toArray := isList_of (S.keep _ _ hl)
  have hne : l ≠ s.heap.objs.size := Nat.ne_of_lt (Heap.lt_size (S.keep _ _ hl))
  refine wpAny_pyIter_list hls ?_
  have W := Walks.list (prog := PR) (w := w) hh s.heap.objs.size l hne vs.toArray
  have e : vs.toArray.size = vs.length := by simp
  rw [e] at W
  refine comp_core hcell hkind hx W ⟨⟨_, Heap.get?_push_size _ rfl, rfl, rfl⟩, hls.at fun o e => Heap.get?_push_of_some _ e⟩ (fun i h q => let ⟨⟨o, ho, _⟩, _⟩ := q; ⟨o, ho⟩) (S.pushE (t := s.toks) rfl) hn J h0 hJn ?_ ?_ done
  · intro a ha hna
    have : a = l := by simpa [hna] using ha
    subst this
    exact ⟨_, Heap.get?_push_of_some _ (S.keep _ _ hl), .inl hl⟩
  · intro i v b' c₁ led s' m₁ hi hP hle hc hm ys hJ hx S'
    exact turn i v (by simpa using hP) b' c₁ led s' m₁ hle hc hm ys hJ hx S'
theorem comp_range {elt iter : Expr} {x : Str} {px : Pos} {ifs : List Expr} {scope : Scope} {cl : List (Str × Addr)} {pos : Pos} {RR : Value → Addr → Result → Shared → Prop} {r : Addr} {a₀ b₀ : Int} {t₀ u₀ v₀ : Tok} {n : Nat}
    (hcell : ∀ y ∈ scope.names, y.2 ≠ .cell) (hkind : scope.kind = .function) (hx : scope.names.lookup x = some .local) (hh : A.handled = none) (S : St w c b mu s m)
    (hr : IsRange s.heap r a₀ b₀ 1 t₀ u₀ v₀) (hsmall : Builtin.Range.small a₀ b₀ 1 = true) (hsz : Builtin.Range.rangeSize a₀ b₀ 1 = (n : Int)) (hn : n ≤ sizeLine)
    (J : Nat → Im → List Value → Prop) (h0 : J 0 b []) (hJn : ∀ i b' ys, J i b' ys → ys.length ≤ i)
    (turn : ∀ i t, i < n → CTurn w A env elt x ifs scope cl b mu J i (.int (a₀ + i) t))
    (done : ∀ D C s', CDone w c b mu m (J n) C D s' → RR (.ref D) C (.ok .next) s') :
    wpAny (model PR w) A (pyIter (.ref r)) (CGoal w A env elt iter x px ifs scope cl pos RR) NoE s := by
  refine wpAny_pyIter_range hr hsmall ?_
  have W := Walks.range (prog := PR) (w := w) hh s.heap.objs.size a₀ 1 n
  refine comp_core hcell hkind hx W (by show IsRangeIter _ _ _ _ _; rw [hsz]; simpa using Heap.get?_push_size _ rfl) (fun i h q => ⟨_, q⟩) (S.pushE rfl) hn J h0 hJn ?_ ?_ done
  · intro a ha hna
    exact absurd (List.mem_singleton.mp ha) hna
  · rintro i v b' c₁ led s' m₁ hi ⟨t, rfl⟩ hle hc hm ys hJ hx S'
    rw [Int.mul_one] at hx
    exact turn i t hi b' c₁ led s' m₁ hle hc hm ys hJ hx S'
theorem cdone_none {J : Im → List Value → Prop} {C D : Addr} {s' : Shared} {Q : Value → Shared → Prop} (h : CDone w c b mu m J C D s') (k : ∀ b' ys nD s', Le b b' → J b' ys → c.L < D → St w c b' ((D, lstO ys nD) :: mu) s' m → Q (.ref D) s') :
    compPost (model PR w) A NoE none Q (.ref D) C (.ok .next) s' := by
  obtain ⟨b', ys, nD, mC, hle, hJ, S, hns, hLD, h1, h2, h3, h4⟩ := h
  exact ⟨mC, hns, fun h' hs => k b' ys nD _ hle hJ hLD (S.sameC hs h1 h2 h3 h4)⟩
theorem e_comp {elt iter : Expr} {x : Str} {px : Pos} {ifs : List Expr} {scope : Scope} {cl : List (Str × Addr)} {pos : Pos} {Q : Value → Shared → Prop}
    (hclos : closureFor scope env = pure cl) (hkind : scope.kind = .function) (hnames : ∀ x ∈ scope.names, x.2 = .local → scope.names.lookup x.1 = some .local)
    (h : wpAny (model PR w) A (eval iter env) (fun xv s₁ => wpAny (model PR w) A (pyIter xv) (CGoal w A env elt iter x px ifs scope cl pos (compPost (model PR w) A NoE none Q)) NoE s₁) NoE s)
    (hs : ∀ x, foldedSetIterable iter env x = pure x := by intro _; kernel_rfl) :
    wpAny (model PR w) A (eval (.ListComp elt [⟨.Name x px, iter, ifs, 0⟩] scope pos) env) Q NoE s := by
  rw [eval_ListComp]
  exact wpAny_comprehension_free (use := none) rfl hs hclos hkind hnames h
/-- y = [comprehension] -/
theorem s_compA {elt iter : Expr} {x y : Str} {px py : Pos} {ifs : List Expr} {scope : Scope} {cl : List (Str × Addr)} {pos spos : Pos} {rest : List Stmt} {Q : Flow → Shared → Prop}
    (hsw : swapsWith (.ListComp elt [⟨.Name x px, iter, ifs, 0⟩] scope pos) (some (.Name y py)) spos.line env = pure true)
    (hclos : closureFor scope env = pure cl) (hkind : scope.kind = .function) (hnames : ∀ x ∈ scope.names, x.2 = .local → scope.names.lookup x.1 = some .local)
    (h : wpAny (model PR w) A (eval iter env) (fun xv s₁ => wpAny (model PR w) A (pyIter xv) (CGoal w A env elt iter x px ifs scope cl pos (compPost (model PR w) A NoE (some (assign (.Name y py) env)) (fun _ s' => wpAny (model PR w) A (execs rest env) Q NoE s'))) NoE s₁) NoE s)
    (hs : ∀ x, foldedSetIterable iter env x = pure x := by intro _; kernel_rfl) :
    wpAny (model PR w) A (execs (.Assign [.Name y py] (.ListComp elt [⟨.Name x px, iter, ifs, 0⟩] scope pos) spos :: rest) env) Q NoE s := by
  refine s_of ?_
  rw [exec_Assign_Name_used _ _ _ _ hsw]
  refine wpAny_bind (wpAny_standAt (wpAny_bind ?_))
  show wpAny _ A (do let _ ← comprehension (.ListComp elt [⟨.Name x px, iter, ifs, 0⟩] scope pos) scope env _ (newList []) false (eval iter env) (some (assign (.Name y py) env))) _ _ s
  exact wpAny_bind (wpAny_mono (wpAny_comprehension_free (use := some (assign (.Name y py) env)) (Q := fun _ s' => wpAny (model PR w) A (execs rest env) Q NoE s') rfl hs hclos hkind hnames h) (fun _ s' hq => wpAny_pure (wpAny_pure hq)) fun _ _ e => e)
theorem cdone_some {J : Im → List Value → Prop} {C D : Addr} {s' : Shared} {y : Str} {py : Pos} {Q : Value → Shared → Prop} (h : CDone w c b mu m J C D s') (hL : env.locals = c.L) (hy : env.kindOf y = some .local) (hp : (env.scope.kind == .class || (env.scope.kind == .module && env.locals != env.globals)) = false)
    (k : ∀ b' ys nD s', Le b b' → J b' ys → c.L < D → St w c b' ((D, lstO ys nD) :: mu) s' (fun z => if z = y then some (.ref D) else m z) → Q .none s') :
    compPost (model PR w) A NoE (some (assign (.Name y py) env)) Q (.ref D) C (.ok .next) s' := by
  obtain ⟨b', ys, nD, mC, hle, hJ, S, hns, hLD, h1, h2, h3, h4⟩ := h
  show wpAny _ A (assign (.Name y py) env (.ref D)) _ _ _
  refine wpAny_assign_Name (wpAny_storeName_local hy (hL ▸ S.fr.ns) (fun h₂ hn₂ hs₂ => ?_) hp)
  rw [hL] at hn₂ hs₂
  have S₂ := S.setL (t := s'.toks + 1) hn₂ hs₂
  exact ⟨mC, hns.sameBut hs₂ (Ne.symm h1), fun h₃ hs₃ => k b' ys nD _ hle hJ hLD (S₂.sameC hs₃ h1 h2 h3 h4)⟩
-- names in a comprehension's own frame
theorem x_nm {scope : Scope} {cl : List (Str × Addr)} {x : Str} {pos : Pos} {v : Value} {Q : Value → Shared → Prop} (S : St w c b mu s m) (hv : m x = some v) (h : Q v s)
    (hk : scope.kind = .function := by kernel_rfl) (hx : scope.names.lookup x = some .local := by kernel_rfl) (hd : (x == ("__debug__" : Str)) = false := by kernel_rfl) :
    wpAny (model PR w) A (eval (.Name x pos) (compEnvC scope cl c.L env)) Q NoE s :=
  wpAny_Name (wpAny_loadName_local (env := compEnvC scope cl c.L env) hk (lookup_relabel_local hx) S.fr.ns hv h) hd
theorem x_cl {scope : Scope} {cl : List (Str × Addr)} {x : Str} {pos : Pos} {v : Value} {C cc : Addr} {o : Obj} {Q : Value → Shared → Prop} (ho : s.heap.get? cc = some o) (hd' : o.data = .cell (some v)) (hc : cl.lookup x = some cc) (h : Q v s)
    (hx : (compEnvC scope cl C env).kindOf x = some .cell) (hk : scope.kind = .function := by kernel_rfl) (hd : (x == ("__debug__" : Str)) = false := by kernel_rfl) :
    wpAny (model PR w) A (eval (.Name x pos) (compEnvC scope cl C env)) Q NoE s :=
  wpAny_Name (wpAny_loadName_cell (env := compEnvC scope cl C env) hk hx hc ⟨o, ho, hd'⟩ h) hd
/-- many objects are frozen -/
theorem St.freezeAll {l : Led} : ∀ {b : Im}, St w c b (l ++ mu) s m → (∀ p ∈ l, c.L < p.1) → ∃ b', Le b b' ∧ (∀ p ∈ l, b' p.1 = some p.2) ∧ St w c b' mu s m := by
  induction l with
  | nil => exact fun {b} S _ => ⟨b, Le.refl _, (fun _ h => nomatch h), S⟩
  | cons p l ih =>
    intro b S h
    have S1 : St w c b ((p.1, p.2) :: (l ++ mu)) s m := S
    obtain ⟨b', l1, h1, S2⟩ := ih (S1.freeze (h p (.head _))) fun q hq => h q (.tail _ hq)
    refine ⟨b', (Le.freeze S1).trans l1, fun q hq => ?_, S2⟩
    rcases List.mem_cons.mp hq with rfl | hq
    · exact l1.at (Im.put_at ..)
    · exact h1 q hq
end
-- F9d
theorem s_if_join {w : World} {A : Around} {s : Shared} {env : Env} {test : Expr} {body orelse rest : List Stmt} {pos : Pos} {Q : Flow → Shared → Prop} (I : Shared → Prop)
    (h : wpAny (model PR w) A (isTrue test env (eval test env)) (fun t s₂ => if t then wpAny (model PR w) A (execs body env) (fun fl s' => fl = .next ∧ I s') NoE s₂ else wpAny (model PR w) A (execs orelse env) (fun fl s' => fl = .next ∧ I s') NoE s₂) NoE s)
    (k : ∀ s', I s' → wpAny (model PR w) A (execs rest env) Q NoE s') : wpAny (model PR w) A (execs (.If test body orelse pos :: rest) env) Q NoE s := by
  refine s_if (wpAny_mono h (fun t s₂ q => ?_) fun _ _ x => x)
  cases t with
  | true => exact wpAny_mono q (fun fl s' r => by obtain ⟨rfl, r⟩ := r; exact k s' r) fun _ _ x => x
  | false => exact wpAny_mono q (fun fl s' r => by obtain ⟨rfl, r⟩ := r; exact k s' r) fun _ _ x => x
theorem sq_next' {w : World} {A : Around} {s : Shared} {I : Shared → Prop} (h : I s) : (fun (fl : Flow) s' => fl = .next ∧ I s') .next s := ⟨rfl, h⟩
def OccAt (w : World) (b : Im) (v : Value) (d : Oc) : Prop := ∃ x dx o, v = .ref x ∧ b x = some (instObj 59 dx) ∧ b dx = some o ∧ OccO w o d
theorem OccAt.le {w : World} {b b' : Im} {v : Value} {d : Oc} (h : OccAt w b v d) (l : Le b b') : OccAt w b' v d := let ⟨x, dx, o, e, h1, h2, h3⟩ := h; ⟨x, dx, o, e, l.at h1, l.at h2, h3⟩
theorem perm_map_inv {α β : Type} {f : α → β} {l₁ l₂ : List β} (h : l₁.Perm l₂) : ∀ l : List α, l₂ = l.map f → ∃ l' : List α, l₁ = l'.map f ∧ l'.Perm l := by
  induction h with
  | nil => intro l e; exact ⟨l, e, .refl _⟩
  | cons x _ ih =>
    intro l e
    match l, e with
    | a :: l, e =>
      injection e with e1 e2
      obtain ⟨l', h1, h2⟩ := ih l e2
      exact ⟨a :: l', by rw [h1, e1]; rfl, h2.cons a⟩
  | swap x y r =>
    intro l e
    match l, e with
    | a :: b :: l, e =>
      injection e with e1 e2
      injection e2 with e2 e3
      exact ⟨b :: a :: l, by rw [e1, e2, e3]; rfl, .swap _ _ _⟩
  | trans _ _ ih1 ih2 =>
    intro l e
    obtain ⟨l2, h1, h2⟩ := ih2 l e
    obtain ⟨l3, h3, h4⟩ := ih1 l2 h1
    exact ⟨l3, h3, h4.trans h2⟩
theorem All2.of_map {α β γ : Type} {R : β → γ → Prop} {f : α → β} {g : α → γ} : ∀ {l : List α}, (∀ a ∈ l, R (f a) (g a)) → All2 R (l.map f) (l.map g)
  | [], _ => .nil
  | a :: l, h => .cons (h a (.head _)) (All2.of_map fun x hx => h x (.tail _ hx))
def keepO (d : Oc) : Bool := decide (d.b > d.a)
theorem fresh_at {rs : List Rs} {i k u : Nat} {r : Rs} {p : Int} (hv : Val (rs.take i) u) (hA : ∀ p, r.a = some p → p = (u : Int) + 1 ∧ p ≤ 3 ∧ r.en = false) (h : (opsOf r)[k]? = some (.a p)) :
    ∀ d ∈ (((opsOf r).take k).foldl (opS i) (enS i r.en (runS (rs.take i)).2)).ps, d.n ≠ p := by
  obtain ⟨t, a, en⟩ := r
  have key : ∀ p', a = some p' → ∀ d ∈ (enS (i : Int) en (runS (rs.take i)).2).ps, d.n ≠ p' := fun p' e d hd => by
    obtain ⟨rfl, _, he⟩ := hA p' e
    simp only at he
    subst he
    exact pend_fresh (val_ps hv ▸ List.mem_map.mpr ⟨d, hd, rfl⟩)
  cases t with
  | none =>
    cases a with
    | none => cases h
    | some p' =>
      match k, h with
      | 0, h => cases h; exact key _ rfl
      | k + 1, h => cases h
  | some n =>
    cases a with
    | none =>
      match k, h with
      | 0, h => cases h
      | k + 1, h => cases h
    | some p' =>
      match k, h with
      | 0, h => cases h
      | 1, h => cases h; exact key _ rfl
      | k + 2, h => cases h
theorem take_ops {r : Rs} {k : Nat} {op : Op} (h : (opsOf r)[k]? = some op) (f : Ps → Op → Ps) (s : Ps) : ((opsOf r).take (k + 1)).foldl f s = f (((opsOf r).take k).foldl f s) op := by
  rw [List.take_add_one, h, List.foldl_append]; rfl
theorem kv_stored {l : List Ox} {q : Ox} (h : ∀ q' ∈ l, q'.d.n ≠ q.d.n) : stored (kvO l) q.d.n (.ref q.x) = kvO (l ++ [q]) := by
  rw [stored_absent (val_kv h)]; unfold kvO; rw [List.map_append]; rfl
set_option maxHeartbeats 4000000 in
theorem ivals_spec {w : World} {b : Im} {cl : Addr} {refs : List Value} {n : Nat} {rs : List Rs} {u : Nat} {t0 : Tok} (hcl : b cl = some (lstO refs n)) (hrs : All2 (RowA b) refs rs) (hv : Val rs u) (hlen : rs.length ≤ 11) :
    Fun w 68 [.ref cl, .int 0 t0] b (fun v b' => ∃ a l n ds, v = .ref a ∧ b' a = some (lstO l n) ∧ All2 (OccAt w b') l ds ∧ ds.Perm ((allP (runS rs).2).filter keepO)) 5 := by
  intro A hA c mu s m Q S ret
  refine enter (n := 4) hA S (f := 68) (binds := [(Str.ofString "instrs", .ref cl), (Str.ofString "arity", .int 0 t0)]) rfl (by rfl) (BindsTo.of_eq rfl) (locs rfl) (by decide) rfl rfl rfl ?_
  intro c' s' hc hA' S' back
  walk_at "mm"
  with_reducible refine n_lstM (by assumption) ?_
  intro fl s1 hfl S1
  walk_at "mm"
  with_reducible refine e_dict0 (IK w) (by assumption) ?_
  intro ic io s2 hic hio S2
  walk_at "mm"
  with_reducible refine s_while_no ?_
  walk_at "mm"
  refine ⟨by decide, ?_⟩
  walk_at "mm"
  with_reducible refine e_dict0 (IK w) (by assumption) ?_
  intro od oo s3 hod hoo S3
  walk_at "mm"
  with_reducible refine e_dict0 (IK w) (by assumption) ?_
  intro td to s4 htd hto S4
  walk_at "mm"
  rename_i s5 S5
  have S6 : St w c' b (ldG fl [] 0 td to od oo [] mu) s5 _ := (S5.drop (mu' := (td, to) :: (od, oo) :: (fl, lstO []) :: mu) (.cons_cons _ (.cons_cons _ (.cons _ (.refl _))))).perm ((List.Perm.swap _ _ _).trans ((List.Perm.swap _ _ _).cons _))
  with_reducible refine for_list hA'.hh S6 hcl (fun i b' mu' m' => ∃ nf ts ps fs fr to oo od ta, mu' = ldG fl fr nf td to od oo (ts ++ (ps ++ fs)) mu ∧ Sta w c' b' (runS (rs.take i)).2 ts ps fs fr to oo fl td od (2 * i) ∧
    m' (Str.ofString "found") = some (.ref fl) ∧ m' (Str.ofString "outgoing") = some (.ref od) ∧ m' (Str.ofString "temporaries") = some (.ref td) ∧ m' (Str.ofString "at") = some (.int i ta)) ?_ ?_ ?_ ?_
  · exact ⟨0, [], [], [], [], to, oo, od, _, rfl, ⟨rfl, rfl, rfl, (fun _ h => nomatch h), hto, hoo, .refl _, Nat.le_refl _, hfl, htd, hod⟩, rfl, rfl, rfl, rfl⟩
  · intros; rfl
  · rintro i v b' mu' m' it s5 hiv hle ⟨nf, ts, ps, fs, fr, to, oo, od, ta, rfl, Z, m1, m2, m3, m4⟩ S5
    obtain ⟨r, hr, ra, name, tk, vs, rfl, hra, hen, hok, hsh, hvl⟩ := hrs.getL hiv
    obtain ⟨u', hv', hrt, hrA⟩ := val_take hv i r hr
    have hil : i < rs.length := (List.getElem?_eq_some_iff.mp hr).1
    have hra' := hle.at hra
    with_reducible refine as_nm S5 ?_
    intro s6 S6
    with_reducible refine s_if_join (fun s' => ∃ b₂ nf ts ps fs fr to oo od m₂, Le b' b₂ ∧ St w c' b₂ (ldG fl fr nf td to od oo (ts ++ (ps ++ fs)) mu ++ [it]) s' m₂ ∧ Sta w c' b₂ (enS i r.en (runS (rs.take i)).2) ts ps fs fr to oo fl td od (2 * i) ∧
      m₂ (Str.ofString "found") = some (.ref fl) ∧ m₂ (Str.ofString "outgoing") = some (.ref od) ∧ m₂ (Str.ofString "temporaries") = some (.ref td) ∧ m₂ (Str.ofString "at") = some (.int i ta) ∧ m₂ (Str.ofString "instruction") = some (.ref ra)) ?_ ?_
    · walk_at "mm"
      with_reducible refine t_call ?_
      with_reducible refine e_call (fa := 35) S6 ?_
      walk_at "mm"
      refine (ends_spec hra').use hA' (by decide) (by assumption) ?_
      rintro _ bG sG lG SG rfl
      walk_at "mm"
      split
      · rename_i hE
        rw [hen] at hE
        walk_at "mm"
        have ho := Z.pk
        refine for_dict (knd := IK w) hA'.hh SG (d := od) (o := oo) (List.Mem.tail _ (List.Mem.tail _ (List.Mem.head _))) Z.pk Z.oL (fun k b₂ mu₂ m₂ => ∃ p1 p2, p1.length = k ∧ mu₂ = ldG fl fr nf td to od oo (ts ++ ((p1 ++ p2) ++ fs)) mu ++ [it] ∧
          datO p1 ++ (datO p2).map (·.to i) = (datO ps).map (·.to i) ∧ kvO (p1 ++ p2) = kvO ps ∧ (∀ q ∈ ts ++ ((p1 ++ p2) ++ fs), OxOk w c' b₂ q) ∧
          m₂ (Str.ofString "found") = some (.ref fl) ∧ m₂ (Str.ofString "outgoing") = some (.ref od) ∧ m₂ (Str.ofString "temporaries") = some (.ref td) ∧ m₂ (Str.ofString "at") = some (.int i ta) ∧ m₂ (Str.ofString "instruction") = some (.ref ra)) ?_ ?_ ?_ ?_ ?_
        · exact ⟨[], ps, rfl, rfl, rfl, rfl, fun q hq => (Z.ok q hq).le lG, m1, m2, m3, m4, rfl⟩
        · rintro k b₂ mu₂ m₂ ⟨p1, p2, _, rfl, _⟩
          exact List.Mem.tail _ (List.Mem.tail _ (List.Mem.head _))
        · intros; rfl
        · rintro k key x v b₂ mu₂ m₂ it2 s7 hk hkey l2 ⟨p1, p2, rfl, rfl, hd, hkv, hok2, n1, n2, n3, n4, n5⟩ S7
          obtain ⟨tk2, rfl⟩ := Value.isInt_shape hkey
          obtain ⟨q, p2', rfl, rfl, rfl⟩ := kv_split (p1 := p1) (p2 := p2) (by rw [hkv]; exact hk)
          have hnd := dict_nd Z.pk
          rw [← hkv] at hnd
          have hval := val_kv1 (l' := p2') (kv_first hnd)
          rw [hkv] at hval
          have hq := hok2 q (by simp)
          have e1 : ldG fl fr nf td to od oo (ts ++ ((p1 ++ q :: p2') ++ fs)) mu ++ [it] ++ [it2] = ((fl, lstO fr nf) :: (td, to) :: (od, oo) :: ledO (ts ++ p1)) ++ (q.dx, q.o) :: (ledO (p2' ++ fs) ++ (mu ++ ([it] ++ [it2]))) := by simp [ledO]
          rw [e1] at S7
          with_reducible refine as_nm S7 ?_
          intro s8 S8
          with_reducible refine s_asgA ?_
          walk_at "mm"
          refine d_item (knd := IK w) S8 (d := od) (o := oo) (by simp) Z.pk (k := q.d.n) hkey hval ?_
          intro s9 S9
          refine o_set S9 hq.x hq.o ?_
          intro o' s10 ho' S10
          walk_at "mm"
          refine tend (mu₂ := ldG fl fr nf td to od oo (ts ++ (((p1 ++ [⟨q.x, q.dx, o', q.d.to i⟩]) ++ p2') ++ fs)) mu ++ [it]) S10 l2 (by simp [ledO]) ⟨p1 ++ [⟨q.x, q.dx, o', q.d.to i⟩], p2', by rw [List.length_append]; rfl, rfl, ?_, ?_, ?_, n1, n2, n3, n4, n5⟩
          · rw [← hd]; simp [datO]
          · rw [← hkv]; simp [kvO, Oc.to]
          · intro q' hq'
            rcases (by simpa using hq' : q' ∈ ts ∨ q' ∈ p1 ∨ q' = ⟨q.x, q.dx, o', q.d.to i⟩ ∨ q' ∈ p2' ∨ q' ∈ fs) with h | h | rfl | h | h
            · exact hok2 q' (by simp [h])
            · exact hok2 q' (by simp [h])
            · exact ⟨hq.x, ho', hq.l⟩
            · exact hok2 q' (by simp [h])
            · exact hok2 q' (by simp [h])
        · rintro b₂ mu₂ m₂ s7 l2 ⟨p1, p2, hpl, rfl, hd, hkv, hok2, n1, n2, n3, n4, n5⟩ S7
          walk_at "mm"
          have hp2 : p2 = [] := by
            have := congrArg List.length hkv
            simp only [kvO, List.length_map, List.length_append] at this hpl
            exact List.length_eq_zero_iff.mp (by omega)
          subst hp2
          rw [List.append_nil] at hkv hok2 S7
          rw [show (datO ([] : List Ox)).map (·.to (i : Int)) = [] from rfl, List.append_nil] at hd
          with_reducible refine e_dict0 (IK w) S7 ?_
          intro od2 oo2 s8 hod2 hoo2 S8
          have S9 : St w c' b₂ (ldG fl fr nf td to od2 oo2 (ts ++ ([] ++ (p1 ++ fs))) mu ++ [it]) s8 _ := (S8.drop (mu' := (od2, oo2) :: (fl, lstO fr nf) :: (td, to) :: (ledO (ts ++ ([] ++ (p1 ++ fs))) ++ mu ++ [it])) (.cons_cons _ (.cons_cons _ (.cons_cons _ (.cons _ (.refl _)))))).perm (((List.Perm.swap _ _ _).cons _).trans (List.Perm.swap _ _ _))
          clear S8
          walk_at "mm"
          rename_i s10 S10
          refine ⟨rfl, b₂, nf, ts, [], p1 ++ fs, fr, to, oo2, od2, _, lG.trans l2, S10, ?_, n1, rfl, n3, n4, n5⟩
          have e : enS i r.en (runS (rs.take i)).2 = ⟨(runS (rs.take i)).2.ts, [], (runS (rs.take i)).2.ps.map (·.to i) ++ (runS (rs.take i)).2.fs⟩ := by unfold enS; rw [if_pos hE]
          rw [e]
          refine ⟨Z.t, rfl, ?_, ?_, Z.tk, hoo2, ?_, ?_, Z.fL, Z.tL, hod2⟩
          · rw [← Z.f, ← Z.p, ← hd]; simp [datO]
          · intro q hq; exact hok2 q hq
          · refine Z.fr.trans ?_
            rw [ref_kv, ref_kv]
            have : kvO (ts ++ ([] ++ (p1 ++ fs))) = kvO (ts ++ (ps ++ fs)) := by
              have e1 : ∀ a b : List Ox, kvO (a ++ b) = kvO a ++ kvO b := fun a b => List.map_append
              rw [List.nil_append, e1, e1, e1, e1, hkv]
            rw [this]
          · have e1 : p1.length = ps.length := by have := congrArg List.length hkv; simpa [kvO] using this
            have := Z.sz
            simp only [List.length_append, List.length_nil] at this ⊢
            omega
      · rename_i hE
        rw [hen] at hE
        walk_at "mm"
        refine ⟨rfl, bG, nf, ts, ps, fs, fr, to, oo, od, _, lG, SG, ?_, m1, m2, m3, m4, rfl⟩
        have e : enS i r.en (runS (rs.take i)).2 = (runS (rs.take i)).2 := by unfold enS; rw [if_neg hE]
        rw [e]
        exact ⟨Z.t, Z.p, Z.f, fun q hq => (Z.ok q hq).le lG, Z.tk, Z.pk, Z.fr, Z.sz, Z.fL, Z.tL, Z.oL⟩
    · rintro s7 ⟨b₂, nf, ts, ps, fs, fr, to, oo, od, m₂, l2, S7, Z2, n1, n2, n3, n4, n5⟩
      walk_at "mm"
      with_reducible refine e_call (fa := 28) S7 ?_
      walk_at "mm"
      refine (roles_spec (l2.at hra') (shape_has hsh)).use hA' (by decide) (by assumption) ?_
      rintro _ b3 s8 l3 S8 ⟨ql, qrefs, qs, rfl, hql, hqs, htold⟩
      have hops := shape_ops hsh htold
      have hlen2 : qrefs.length = (opsOf r).length := by rw [hqs.length, hops.length]
      with_reducible refine for_list2 hA'.hh S8 hql (fun k b4 mu4 m4 => ∃ nf ts ps fs fr to oo, mu4 = ldG fl fr nf td to od oo (ts ++ (ps ++ fs)) mu ++ [it] ∧ Sta w c' b4 (((opsOf r).take k).foldl (opS i) (enS i r.en (runS (rs.take i)).2)) ts ps fs fr to oo fl td od (2 * i + k) ∧
        m4 (Str.ofString "found") = some (.ref fl) ∧ m4 (Str.ofString "outgoing") = some (.ref od) ∧ m4 (Str.ofString "temporaries") = some (.ref td) ∧ m4 (Str.ofString "at") = some (.int i ta)) ?_ ?_ ?_ ?_
      · exact ⟨nf, ts, ps, fs, fr, to, oo, rfl, ⟨Z2.t, Z2.p, Z2.f, fun q hq => (Z2.ok q hq).le l3, Z2.tk, Z2.pk, Z2.fr, Z2.sz, Z2.fL, Z2.tL, Z2.oL⟩, n1, n2, n3, n4⟩
      · intro v hv2
        obtain ⟨y, hy⟩ := List.getElem?_of_mem hv2
        obtain ⟨q, _, pa, pt, rfl, _⟩ := hqs.getL hy
        exact ⟨_, rfl⟩
      · clear Z2 n1 n2 n3 n4 n5 S7 S8 S6 S5
        rintro k v b4 mu4 m4 it2 s9 hk l4 ⟨nf, ts, ps, fs, fr, to, oo, rfl, Z, n1, n2, n3, n4⟩ S9
        obtain ⟨q, hq, pa, pt, rfl, hpa⟩ := hqs.getL hk
        obtain ⟨op, hop, hat⟩ := hops.getL hq
        have hpa4 := l4.at hpa
        have lb : Le b b4 := hle.trans (l2.trans (l3.trans l4))
        have hsz := Z.sz
        have hkl : k < 2 := Nat.lt_of_lt_of_le (List.getElem?_eq_some_iff.mp hop).1 (ops_len r)
        obtain ⟨q1, q2⟩ := q
        cases op with
        | t num =>
          obtain ⟨oa, tk1, tn1, rfl, hoa⟩ := hat.le lb
          with_reducible refine as_two hA'.hh S9 hpa4 ?_
          intro s10 S10
          walk_at "mm"
          with_reducible refine' i_tup (by assumption) hoa ?h0 ?hk ?hx ?_
          case h0 => decide
          case hk => decide
          case hx => exact rfl
          walk_at "mm"
          with_reducible refine' i_tup (by assumption) hoa ?h0 ?hk ?hx ?_
          case h0 => decide
          case hk => decide
          case hx => exact rfl
          walk_at "mm"
          rw [if_pos (by kernel_rfl)]
          walk_at "mm"
          refine d_notin (knd := IK w) (k := num) (by assumption) (List.Mem.tail _ (List.Mem.head _)) Z.tk Z.tL (by simp [IK, intKind, Value.isInt]) ?_
          intro s11 S11
          walk_at "mm"
          --OPS
          rcases first_n num ts with hno | ⟨t1, q0, t2, rfl, hno, rfl⟩
          · rw [val_kv hno, if_pos (by decide)]
            with_reducible refine s_asgS ?_
            with_reducible refine e_call (fa := 59) S11 ?_
            walk_at "mm"
            refine c_occ (hA'.le (by decide)) (by assumption) ?_
            intro x dx o b5 s12 l5 hx ho hdx S12
            walk_at "mm"
            refine d_set (knd := IK w) (pre := [_, _]) (k := num) S12 Z.tk (by simp [IK, intKind, Value.isInt]) (by have hz := Z.sz; simp only [kvO, List.length_map, List.length_append, sizeLine_eq] at hz ⊢; omega) ?_
            intro dn s13 hdn S13
            have ekv : stored (kvO ts) num (.ref x) = kvO (ts ++ [⟨x, dx, o, ⟨Str.ofString "temp", num, i, i + 1⟩⟩]) := kv_stored (q := ⟨x, dx, o, ⟨Str.ofString "temp", num, i, i + 1⟩⟩) hno
            rw [ekv] at hdn
            rw [List.cons_append, List.cons_append,  List.nil_append] at S13
            walk_at "mm"
            with_reducible refine e_meth ?_
            walk_at "mm"
            with_reducible refine g_app S13 (List.Mem.tail _ (List.Mem.head _)) ?_
            walk_at "mm"
            refine d_item (knd := IK w) (k := num) S13 (d := td) (List.Mem.tail _ (List.Mem.tail _ (List.Mem.head _))) hdn (by simp [IK, intKind, Value.isInt]) (val_kv1 (l' := []) (q := ⟨x, dx, o, ⟨Str.ofString "temp", num, i, i + 1⟩⟩) hno) ?_
            intro s14 S14
            walk_at "mm"
            refine b_app (pre := [_]) S14 (fun nf2 s15 S15 => ?_) (by have := Z.fr.length_eq; simp only [refO, List.length_map, List.length_append, sizeLine_eq] at this hsz ⊢; omega)
            walk_at "mm"
            obtain ⟨frN, hfrN⟩ : ∃ frN, frN = fr ++ [Value.ref x] := ⟨_, rfl⟩
            rw [← hfrN] at S15
            have S16 : St w c' b5 (ldG fl frN nf2 td dn od oo ((ts ++ [⟨x, dx, o, ⟨Str.ofString "temp", num, i, i + 1⟩⟩]) ++ (ps ++ fs)) mu ++ [it] ++ [it2]) s15 _ := S15.perm (by
              have e : ldG fl frN nf2 td dn od oo ((ts ++ [⟨x, dx, o, ⟨Str.ofString "temp", num, i, i + 1⟩⟩]) ++ (ps ++ fs)) mu ++ [it] ++ [it2] = ((fl, lstO frN nf2) :: (td, dn) :: (od, oo) :: ledO ts) ++ (dx, o) :: (ledO (ps ++ fs) ++ (mu ++ ([it] ++ [it2]))) := by simp [ledO]
              rw [e]
              refine List.perm_middle.trans ?_
              simp [ledO])
            clear S15
            refine tend (mu₂ := ldG fl frN nf2 td dn od oo ((ts ++ [⟨x, dx, o, ⟨Str.ofString "temp", num, i, i + 1⟩⟩]) ++ (ps ++ fs)) mu ++ [it]) S16 (l4.trans l5) rfl ⟨nf2, _, _, _, frN, _, _, rfl, ?_, n1, n2, n3, n4⟩
            rw [take_ops hop]
            refine ⟨?_, Z.p, Z.f, ?_, hdn, Z.pk, ?_, ?_, Z.fL, Z.tL, Z.oL⟩
            · show datO _ = upT _ _ _
              rw [← Z.t, upT_new (by intro d hd; obtain ⟨q, hq, rfl⟩ := List.mem_map.mp hd; exact hno q hq)]; simp [datO]
            · intro q' hq'
              rcases (by simpa using hq' : q' ∈ ts ∨ q' = ⟨x, dx, o, ⟨Str.ofString "temp", num, i, i + 1⟩⟩ ∨ q' ∈ ps ∨ q' ∈ fs) with h | rfl | h | h
              · exact (Z.ok q' (by simp [h])).le l5
              · exact ⟨hx, ho, hdx⟩
              · exact (Z.ok q' (by simp [h])).le l5
              · exact (Z.ok q' (by simp [h])).le l5
            · rw [hfrN]
              refine (Z.fr.append_right _).trans ?_
              have e : refO ((ts ++ [⟨x, dx, o, ⟨Str.ofString "temp", num, i, i + 1⟩⟩]) ++ (ps ++ fs)) = refO (ts) ++ .ref x :: refO (ps ++ fs) := by simp [refO]
              rw [e, show refO (ts ++ (ps ++ fs)) = refO (ts) ++ refO (ps ++ fs) by simp [refO]]
              refine (List.perm_append_singleton _ _).trans (List.perm_middle.symm)
            · have := Z.sz
              simp only [List.length_append, List.length_cons, List.length_nil] at this ⊢
              omega
          · rw [val_kv1 hno, if_neg (by simp)]
            walk_at "mm"
            with_reducible refine e_attr ?_
            walk_at "mm"
            refine d_item (knd := IK w) S11 (d := td) (o := to) (k := q0.d.n) (List.Mem.tail _ (List.Mem.head _)) Z.tk (by simp [IK, intKind, Value.isInt]) (val_kv1 hno) ?_
            intro s12 S12
            have hq0 := Z.ok q0 (by simp)
            refine o_stop S12 hq0.x (S12.at (a := q0.dx) (o := q0.o) (by simp [ledO])) hq0.o ?_
            intro tz s13 S13
            walk_at "mm"
            have hZt := Z.t
            have hupT : upT i q0.d.n (datO (t1 ++ q0 :: t2)) = datO t1 ++ (if (i : Int) > q0.d.b then q0.d.to i else q0.d) :: datO t2 := by
              rw [show datO (t1 ++ q0 :: t2) = datO t1 ++ q0.d :: datO t2 by simp [datO]]
              exact upT_old (by intro d hd; obtain ⟨q, hq, rfl⟩ := List.mem_map.mp hd; exact hno q hq) rfl
            split
            · rename_i hgt
              have hgt' : (i : Int) > q0.d.b := of_decide_eq_true hgt
              with_reducible refine s_asgA ?_
              walk_at "mm"
              refine d_item (knd := IK w) S13 (d := td) (o := to) (k := q0.d.n) (List.Mem.tail _ (List.Mem.head _)) Z.tk (by simp [IK, intKind, Value.isInt]) (val_kv1 hno) ?_
              intro s14 S14
              have e1 : ldG fl fr nf td to od oo ((t1 ++ q0 :: t2) ++ (ps ++ fs)) mu ++ [it] ++ [it2] = ((fl, lstO fr nf) :: (td, to) :: (od, oo) :: ledO t1) ++ (q0.dx, q0.o) :: (ledO (t2 ++ (ps ++ fs)) ++ (mu ++ ([it] ++ [it2]))) := by simp [ledO]
              replace S14 : St w c' b4 (ldG fl fr nf td to od oo ((t1 ++ q0 :: t2) ++ (ps ++ fs)) mu ++ [it] ++ [it2]) s14 _ := S14
              rw [e1] at S14
              refine o_set S14 hq0.x hq0.o ?_
              intro o' s15 ho' S15
              walk_at "mm"
              refine tend (mu₂ := ldG fl fr nf td to od oo ((t1 ++ ⟨q0.x, q0.dx, o', q0.d.to i⟩ :: t2) ++ (ps ++ fs)) mu ++ [it]) S15 l4 (by simp [ledO]) ⟨nf, _, _, _, fr, _, _, rfl, ?_, n1, n2, n3, n4⟩
              rw [take_ops hop]
              have ekv : kvO (t1 ++ ⟨q0.x, q0.dx, o', q0.d.to i⟩ :: t2) = kvO (t1 ++ q0 :: t2) := by simp [kvO, Oc.to]
              refine ⟨?_, Z.p, Z.f, ?_, ekv ▸ Z.tk, Z.pk, ?_, ?_, Z.fL, Z.tL, Z.oL⟩
              · show datO _ = upT _ _ _
                rw [← Z.t, hupT, if_pos hgt']; simp [datO]
              · intro q' hq'
                rcases (by simpa using hq' : q' ∈ t1 ∨ q' = ⟨q0.x, q0.dx, o', q0.d.to i⟩ ∨ q' ∈ t2 ∨ q' ∈ ps ∨ q' ∈ fs) with h | rfl | h | h | h
                · exact Z.ok q' (by simp [h])
                · exact ⟨hq0.x, ho', hq0.l⟩
                · exact Z.ok q' (by simp [h])
                · exact Z.ok q' (by simp [h])
                · exact Z.ok q' (by simp [h])
              · have e : refO ((t1 ++ ⟨q0.x, q0.dx, o', q0.d.to i⟩ :: t2) ++ (ps ++ fs)) = refO ((t1 ++ q0 :: t2) ++ (ps ++ fs)) := by simp [refO]
                rw [e]; exact Z.fr
              · have := Z.sz
                simp only [List.length_append, List.length_cons] at this ⊢
                omega
            · rename_i hgt
              have hgt' : ¬ (i : Int) > q0.d.b := fun q => hgt (decide_eq_true q)
              walk_at "mm"
              refine tend (mu₂ := ldG fl fr nf td to od oo ((t1 ++ q0 :: t2) ++ (ps ++ fs)) mu ++ [it]) S13 l4 rfl ⟨nf, _, _, _, fr, _, _, rfl, ?_, n1, n2, n3, n4⟩
              rw [take_ops hop]
              refine ⟨?_, Z.p, Z.f, Z.ok, Z.tk, Z.pk, Z.fr, ?_, Z.fL, Z.tL, Z.oL⟩
              · show datO _ = upT _ _ _
                rw [← Z.t, hupT, if_neg hgt']; simp [datO]
              · exact Nat.le_succ_of_le Z.sz
        | a p =>
          obtain ⟨hq1, hat⟩ := hat
          subst hq1
          obtain ⟨oa, tk1, tn1, rfl, hoa⟩ := hat.le lb
          have hno : ∀ q ∈ ps, q.d.n ≠ p := fun q hq => fresh_at hv' hrA hop q.d (Z.p ▸ List.mem_map.mpr ⟨q, hq, rfl⟩)
          with_reducible refine as_two hA'.hh S9 hpa4 ?_
          intro s10 S10
          walk_at "mm"
          with_reducible refine' i_tup (by assumption) hoa ?h0 ?hk ?hx ?_
          case h0 => decide
          case hk => decide
          case hx => exact rfl
          walk_at "mm"
          with_reducible refine' i_tup (by assumption) hoa ?h0 ?hk ?hx ?_
          case h0 => decide
          case hk => decide
          case hx => exact rfl
          walk_at "mm"
          rw [if_neg (by decide)]
          walk_at "mm"
          with_reducible refine t_and ?_
          with_reducible refine t_andc ?_
          walk_at "mm"
          with_reducible refine' i_tup (by assumption) hoa ?h0 ?hk ?hx ?_
          case h0 => decide
          case hk => decide
          case hx => exact rfl
          walk_at "mm"
          rw [if_pos (by kernel_rfl)]
          with_reducible refine t_andc ?_
          walk_at "mm"
          ((with_reducible refine' e_gn (by assumption) ?hv ?_); (case hv => first | exact ns_reads _ | exact ns_writes _ | exact ns_updates _))
          walk_at "mm"
          rw [if_pos (by kernel_rfl)]
          with_reducible refine t_andn ?_
          walk_at "mm"
          rename_i sX SX
          with_reducible refine s_asgS ?_
          with_reducible refine e_call (fa := 59) SX ?_
          walk_at "mm"
          refine c_occ (hA'.le (by decide)) (by assumption) ?_
          intro x dx o b5 s12 l5 hx ho hdx S12
          walk_at "mm"
          refine d_set (knd := IK w) (pre := [_, _, _]) (k := p) S12 Z.pk (by simp [IK, intKind, Value.isInt]) (by have hz := Z.sz; simp only [kvO, List.length_map, List.length_append, sizeLine_eq] at hz ⊢; omega) ?_
          intro dn s13 hdn S13
          have ekv : stored (kvO ps) p (.ref x) = kvO (ps ++ [⟨x, dx, o, ⟨Str.ofString "out", p, i, i + 1⟩⟩]) := kv_stored (q := ⟨x, dx, o, ⟨Str.ofString "out", p, i, i + 1⟩⟩) hno
          rw [ekv] at hdn
          rw [List.cons_append, List.cons_append, List.cons_append, List.nil_append] at S13
          walk_at "mm"
          with_reducible refine e_meth ?_
          walk_at "mm"
          with_reducible refine g_app S13 (List.Mem.tail _ (List.Mem.head _)) ?_
          walk_at "mm"
          refine d_item (knd := IK w) (k := p) S13 (d := od) (List.Mem.tail _ (List.Mem.tail _ (List.Mem.tail _ (List.Mem.head _)))) hdn (by simp [IK, intKind, Value.isInt]) (val_kv1 (l' := []) (q := ⟨x, dx, o, ⟨Str.ofString "out", p, i, i + 1⟩⟩) hno) ?_
          intro s14 S14
          walk_at "mm"
          refine b_app (pre := [_]) S14 (fun nf2 s15 S15 => ?_) (by have := Z.fr.length_eq; simp only [refO, List.length_map, List.length_append, sizeLine_eq] at this hsz ⊢; omega)
          walk_at "mm"
          obtain ⟨frN, hfrN⟩ : ∃ frN, frN = fr ++ [Value.ref x] := ⟨_, rfl⟩
          rw [← hfrN] at S15
          have S16 : St w c' b5 (ldG fl frN nf2 td to od dn (ts ++ ((ps ++ [⟨x, dx, o, ⟨Str.ofString "out", p, i, i + 1⟩⟩]) ++ fs)) mu ++ [it] ++ [it2]) s15 _ := S15.perm (by
            have e : ldG fl frN nf2 td to od dn (ts ++ ((ps ++ [⟨x, dx, o, ⟨Str.ofString "out", p, i, i + 1⟩⟩]) ++ fs)) mu ++ [it] ++ [it2] = ((fl, lstO frN nf2) :: (td, to) :: (od, dn) :: ledO (ts ++ ps)) ++ (dx, o) :: (ledO fs ++ (mu ++ ([it] ++ [it2]))) := by simp [ledO]
            rw [e]
            refine List.perm_middle.trans ?_
            simp [ledO])
          clear S15
          refine tend (mu₂ := ldG fl frN nf2 td to od dn (ts ++ ((ps ++ [⟨x, dx, o, ⟨Str.ofString "out", p, i, i + 1⟩⟩]) ++ fs)) mu ++ [it]) S16 (l4.trans l5) rfl ⟨nf2, _, _, _, frN, _, _, rfl, ?_, n1, n2, n3, n4⟩
          rw [take_ops hop]
          refine ⟨Z.t, ?_, Z.f, ?_, Z.tk, hdn, ?_, ?_, Z.fL, Z.tL, Z.oL⟩
          · show datO _ = _ ++ _
            rw [← Z.p]; simp [datO]
          · intro q' hq'
            rcases (by simpa using hq' : q' ∈ ts ∨ q' ∈ ps ∨ q' = ⟨x, dx, o, ⟨Str.ofString "out", p, i, i + 1⟩⟩ ∨ q' ∈ fs) with h | h | rfl | h
            · exact (Z.ok q' (by simp [h])).le l5
            · exact (Z.ok q' (by simp [h])).le l5
            · exact ⟨hx, ho, hdx⟩
            · exact (Z.ok q' (by simp [h])).le l5
          · rw [hfrN]
            refine (Z.fr.append_right _).trans ?_
            have e : refO (ts ++ ((ps ++ [⟨x, dx, o, ⟨Str.ofString "out", p, i, i + 1⟩⟩]) ++ fs)) = refO (ts ++ ps) ++ .ref x :: refO (fs) := by simp [refO]
            rw [e, show refO (ts ++ (ps ++ fs)) = refO (ts ++ ps) ++ refO (fs) by simp [refO]]
            refine (List.perm_append_singleton _ _).trans (List.perm_middle.symm)
          · have := Z.sz
            simp only [List.length_append, List.length_cons, List.length_nil] at this ⊢
            omega
      · rintro b4 mu4 m4 s9 l4 ⟨nf, ts, ps, fs, fr, to, oo, rfl, Z, n1, n2, n3, n4⟩ S9
        with_reducible refine sq_next ?_
        with_reducible refine s_augn S9 n4 ?_
        walk_at "mm"
        rename_i s10 S10
        refine tend (mu₂ := ldG fl fr nf td to od oo (ts ++ (ps ++ fs)) mu) S10 (hle.trans (l2.trans (l3.trans l4))) rfl ⟨nf, ts, ps, fs, fr, to, oo, od, _, rfl, ?_, n1, n2, n3, rfl⟩
        have e1 : rs.take (i + 1) = rs.take i ++ [r] := by rw [List.take_add_one, hr]; rfl
        have e2 : (runS (rs.take i)).1 = i := by rw [runS_len, List.length_take]; omega
        have e3 : (runS (rs.take (i + 1))).2 = ((opsOf r).take qrefs.length).foldl (opS i) (enS i r.en (runS (rs.take i)).2) := by
          rw [e1, runS_snoc, e2, hlen2, List.take_length]; rfl
        rw [e3]
        refine ⟨Z.t, Z.p, Z.f, Z.ok, Z.tk, Z.pk, Z.fr, ?_, Z.fL, Z.tL, Z.oL⟩
        have := ops_len r
        have := Z.sz
        omega
  · rintro b' mu' m' s7 hle ⟨nf, ts, ps, fs, fr, to, oo, od, ta, rfl, Z, m1, m2, m3, m4⟩ S7
    walk_at "mm"
    rw [hrs.length, List.take_length] at Z
    obtain ⟨l', rfl, hl'⟩ := perm_map_inv Z.fr _ rfl
    have hll : l'.length ≤ 22 := by have h1 := hl'.length_eq; have h2 := Z.sz; omega
    have S8 : St w c' b' (ledO (ts ++ (ps ++ fs)) ++ ((fl, lstO (refO l') nf) :: mu)) s7 m' :=
      ((S7.drop (mu' := (fl, lstO (refO l') nf) :: (ledO (ts ++ (ps ++ fs)) ++ mu)) (.cons_cons _ (.cons _ (.cons _ (.refl _)))))).perm List.perm_middle
    obtain ⟨b1, lb1, hb1, S9⟩ := S8.freezeAll (by intro p hp; obtain ⟨q, hq, rfl⟩ := List.mem_map.mp hp; exact (Z.ok q hq).l)
    have lb2 := Le.freeze S9
    have S10 := S9.freeze hfl
    have hflb := Im.put_at b1 fl (lstO (refO l') nf)
    generalize b1.put fl (lstO (refO l') nf) = b2 at lb2 S10 hflb
    have hocc : ∀ q ∈ l', b2 q.x = some (instObj 59 q.dx) ∧ b2 q.dx = some q.o ∧ OccO w q.o q.d := fun q hq => by
      have hq' := hl'.subset hq
      have k := Z.ok q hq'
      exact ⟨lb2.at (lb1.at k.x), lb2.at (hb1 (q.dx, q.o) (List.mem_map.mpr ⟨q, hq', rfl⟩)), k.o⟩
    with_reducible refine e_comp (cl := []) ?hclos ?hkind ?hnames ?_
    case hclos => rfl
    case hkind => rfl
    case hnames => decide
    walk_at "mm"
    refine comp_list ?hcell ?hkind ?hx hA'.hh S10 hflb (by simp only [refO, List.length_map, sizeLine_eq]; omega) (fun i b'' ys => ys = refO ((l'.take i).filter fun q => keepO q.d)) rfl ?_ ?_ ?_
    case hcell => decide
    case hkind => rfl
    case hx => rfl
    · rintro i b'' ys rfl
      simp only [refO, List.length_map]
      exact Nat.le_trans (List.length_filter_le _ _) (by rw [List.length_take]; omega)
    · intro i v hv b'' c₁ led s' m₁ hle' hc1 hm1 ys hJ hx S11
      obtain ⟨q, hq, rfl⟩ : ∃ q, l'[i]? = some q ∧ v = .ref q.x := by
        unfold refO at hv
        rw [List.getElem?_map] at hv
        obtain ⟨q, hq, e⟩ := Option.map_eq_some_iff.mp hv
        exact ⟨q, hq, e.symm⟩
      obtain ⟨k1, k2, k3⟩ := hocc q (List.mem_of_getElem? hq)
      refine wpAny_tests_one ?_
      with_reducible refine t_cmp ?_
      with_reducible refine e_attr ?_
      refine x_nm S11 hx ?_
      refine o_stop S11 (hle'.at k1) (S11.keep _ _ (hle'.at k2)) k3 ?_
      intro t1 s12 S12
      with_reducible refine e_attr ?_
      refine x_nm S12 hx ?_
      refine o_start S12 (hle'.at k1) (S12.keep _ _ (hle'.at k2)) k3 ?_
      intro t2 s13 S13
      walk_at "mm"
      have htake : refO ((l'.take (i + 1)).filter fun q => keepO q.d) = refO ((l'.take i).filter fun q => keepO q.d) ++ (if keepO q.d = true then [Value.ref q.x] else []) := by
        rw [List.take_add_one, hq, List.filter_append]
        unfold refO
        rw [List.map_append]
        congr 1
        cases hk : keepO q.d <;> simp [hk]
      split
      · rename_i hgt
        refine x_nm S13 hx ?_
        refine ⟨b'', Le.refl _, S13, ?_⟩
        show _ = refO _
        rw [htake, if_pos (show keepO q.d = true from hgt), hJ]
      · rename_i hgt
        refine ⟨b'', Le.refl _, S13, ?_⟩
        show _ = refO _
        rw [htake, if_neg (show ¬ keepO q.d = true from hgt), hJ, List.append_nil]
    · intro D C s' hD
      refine cdone_none hD ?_
      rintro b'' ys nD s'' hle' rfl hDL S11
      have l4 := Le.freeze S11
      have S12 := S11.freeze hDL
      rw [show (refO l').length = l'.length from List.length_map _, List.take_length] at l4 S12
      refine ret _ _ _ (hle.trans (lb1.trans (lb2.trans (hle'.trans l4)))) (back _ _ _ _ S12) ⟨D, _, nD, _, rfl, Im.put_at .., All2.of_map (g := fun q => q.d) ?_, ?_⟩
      · intro q hq
        obtain ⟨k1, k2, k3⟩ := hocc q (List.mem_filter.mp hq).1
        exact ⟨q.x, q.dx, q.o, rfl, l4.at (hle'.at k1), l4.at (hle'.at k2), k3⟩
      · have e1 : (l'.filter fun q => keepO q.d).map (·.d) = (datO l').filter keepO := by
          unfold datO
          rw [List.filter_map]; rfl
        have e2 : datO (ts ++ (ps ++ fs)) = allP (runS rs).2 := by
          unfold allP
          rw [← Z.t, ← Z.p, ← Z.f]; simp [datO]
        rw [e1, ← e2]
        exact (hl'.map _).filter _
-- Srt
section
variable {n : Nat} {key : Nat → Int} {cmp : Nat → Nat → (Bool → Shared → Prop) → Shared → Prop} {I : Shared → Prop}
def PP (n : Nat) (p : Array Nat) : Prop := p.toList.Perm (List.range n)
theorem PP.size {p : Array Nat} (h : PP n p) : p.size = n := by have := h.length_eq; simpa using this
theorem PP.get {p : Array Nat} (h : PP n p) {k : Nat} (hk : k < n) : ∃ x, p[k]? = some x ∧ p.getD k 0 = x ∧ x < n := by
  have hs := h.size
  have hk' : k < p.size := by omega
  refine ⟨p[k], by simp [hk'], by simp [Array.getD, hk'], ?_⟩
  exact List.mem_range.mp (h.subset (by simp))
theorem PP.inj {p : Array Nat} (h : PP n p) {i j : Nat} (hi : i < n) (hj : j < n) (e : p.getD i 0 = p.getD j 0) : i = j := by
  have hs := h.size
  have nd : p.toList.Nodup := (h.nodup_iff).mpr List.nodup_range
  have hi' : i < p.toList.length := by simp; omega
  have hj' : j < p.toList.length := by simp; omega
  have e1 : p.toList[i] = p.toList[j] := by
    have a1 : p.getD i 0 = p.toList[i] := by simp [Array.getD, show i < p.size by omega]
    have a2 : p.getD j 0 = p.toList[j] := by simp [Array.getD, show j < p.size by omega]
    rw [← a1, ← a2, e]
  have np := List.pairwise_iff_getElem.mp nd
  rcases Nat.lt_trichotomy i j with q | q | q
  · exact absurd e1 (np i j hi' hj' q)
  · exact q
  · exact absurd e1.symm (np j i hj' hi' q)
theorem PP.of {p q : Array Nat} (h : PP n p) (e : q.Perm p) : PP n q := (Array.perm_iff_toList_perm.mp e).trans h
def KK (key : Nat → Int) (p : Array Nat) (k : Nat) : Int := key (p.getD k 0)
def Asc (key : Nat → Int) (p : Array Nat) (r : Nat) : Prop := ∀ i j, i < j → j < r → KK key p i < KK key p j
def Dsc (key : Nat → Int) (p : Array Nat) (r : Nat) : Prop := ∀ i j, i < j → j < r → KK key p j < KK key p i
structure Cmp (n : Nat) (key : Nat → Int) (cmp : Nat → Nat → (Bool → Shared → Prop) → Shared → Prop) (I : Shared → Prop) : Prop where
  c : ∀ i j, i < n → j < n → ∀ C s, I s → (∀ s', I s' → C (decide (key i < key j)) s') → cmp i j C s
  inj : ∀ i j, i < n → j < n → key i = key j → i = j
theorem Cmp.ne (H : Cmp n key cmp I) {p : Array Nat} (h : PP n p) {i j : Nat} (hi : i < n) (hj : j < n) (hne : i ≠ j) : KK key p i ≠ KK key p j := fun e => by
  obtain ⟨x, _, hx, hxn⟩ := h.get hi
  obtain ⟨y, _, hy, hyn⟩ := h.get hj
  unfold KK at e
  rw [hx, hy] at e
  exact hne (h.inj hi hj (by rw [hx, hy]; exact H.inj x y hxn hyn e))
theorem Cmp.ask (H : Cmp n key cmp I) {α : Type} {p : Array Nat} (h : PP n p) {i j : Nat} (hi : i < n) (hj : j < n) {k : Bool → KasT α} {Q : α → Shared → Prop} {s : Shared} (hs : I s)
    (hk : ∀ s', I s' → (k (decide (KK key p i < KK key p j))).kasWp cmp Q s') : (KasT.ask (p.getD i 0) (p.getD j 0) k).kasWp cmp Q s := by
  obtain ⟨x, _, hx, hxn⟩ := h.get hi
  obtain ⟨y, _, hy, hyn⟩ := h.get hj
  show cmp _ _ _ _
  unfold KK at hk
  rw [hx, hy] at hk ⊢
  exact H.c x y hxn hyn _ _ hs hk
theorem Asc.succ {p : Array Nat} {r : Nat} (h : Asc key p r) (h1 : 1 ≤ r) (h2 : KK key p (r - 1) < KK key p r) : Asc key p (r + 1) := fun i j hij hj => by
  by_cases q : j < r
  · exact h i j hij q
  · have : j = r := by omega
    subst this
    by_cases q' : i = j - 1
    · subst q'; exact h2
    · exact Int.lt_trans (h i (j - 1) (by omega) (by omega)) h2
theorem Dsc.succ {p : Array Nat} {r : Nat} (h : Dsc key p r) (h1 : 1 ≤ r) (h2 : KK key p r < KK key p (r - 1)) : Dsc key p (r + 1) := fun i j hij hj => by
  by_cases q : j < r
  · exact h i j hij q
  · have : j = r := by omega
    subst this
    by_cases q' : i = j - 1
    · subst q'; exact h2
    · exact Int.lt_trans h2 (h i (j - 1) (by omega) (by omega))
theorem asc_ (H : Cmp n key cmp I) {p : Array Nat} (hp : PP n p) : ∀ {f m : Nat} {s : Shared} {Q : Nat → Shared → Prop}, 1 ≤ m → m + f ≤ n → Asc key p m → I s →
    (∀ r s', I s' → m ≤ r → r ≤ m + f → Asc key p r → (r = m + f ∨ KK key p r < KK key p (r - 1)) → Q r s') → (kas_asc p f m).kasWp cmp Q s
  | 0, m, s, Q, h1, hm, hS, hs, k => k m s hs (Nat.le_refl _) (Nat.le_refl _) hS (.inl rfl)
  | f + 1, m, s, Q, h1, hm, hS, hs, k => by
    refine H.ask hp (by omega) (by omega) hs fun s' hs' => ?_
    by_cases q : KK key p m < KK key p (m - 1)
    · rw [decide_eq_true q, if_pos rfl]
      exact k m s' hs' (Nat.le_refl _) (by omega) hS (.inr q)
    · rw [decide_eq_false q, if_neg (by decide)]
      have := H.ne hp (i := m) (j := m - 1) (by omega) (by omega) (by omega)
      refine asc_ H hp (by omega) (by omega) (hS.succ h1 (by omega)) hs' fun r s'' a1 a2 a3 a4 a5 => k r s'' a1 (by omega) (by omega) a4 (by rcases a5 with a5 | a5; exact .inl (by omega); exact .inr a5)
theorem desc_ (H : Cmp n key cmp I) {p : Array Nat} (hp : PP n p) : ∀ {f m : Nat} {s : Shared} {Q : Array Nat × Nat × Nat → Shared → Prop}, 1 ≤ m → m + f ≤ n → Dsc key p m → I s →
    (∀ r s', I s' → m ≤ r → r ≤ m + f → Dsc key p r → Q (p, r, 0) s') → (kas_desc f p m 0).kasWp cmp Q s
  | 0, m, s, Q, h1, hm, hS, hs, k => k m s hs (Nat.le_refl _) (Nat.le_refl _) hS
  | f + 1, m, s, Q, h1, hm, hS, hs, k => by
    refine H.ask hp (by omega) (by omega) hs fun s' hs' => ?_
    by_cases q : KK key p m < KK key p (m - 1)
    · rw [decide_eq_true q, if_pos rfl, if_neg (by decide)]
      exact desc_ H hp (by omega) (by omega) (hS.succ h1 q) hs' fun r s'' a1 a2 a3 a4 => k r s'' a1 (by omega) (by omega) a4
    · rw [decide_eq_false q, if_neg (by decide)]
      have := H.ne hp (i := m) (j := m - 1) (by omega) (by omega) (by omega)
      refine H.ask hp (by omega) (by omega) hs' fun s'' hs'' => ?_
      rw [decide_eq_true (by omega), if_pos rfl]
      exact k m s'' hs'' (Nat.le_refl _) (by omega) hS
theorem rev_get {p : Array Nat} {m : Nat} (hm : m ≤ p.size) (k : Nat) : (kas_rev p 0 m).getD k 0 = if k < m then p.getD (m - 1 - k) 0 else p.getD k 0 := by
  have h := getElem?_mirror (xs := p) (i := 0) (j := m) hm ((m - 0) / 2) (by omega) k
  have e : ∀ (q : Array Nat) i, q.getD i 0 = (q[i]?).getD 0 := fun q i => by simp [Array.getD]; split <;> simp_all
  unfold kas_rev
  rw [e, h]
  by_cases q : k < m
  · rw [if_pos q, e]
    split
    · rw [Nat.zero_add]
    · rename_i q2
      have : k = m - 1 - k := by omega
      rw [← this]
  · rw [if_neg q, if_neg (by omega), e]
theorem rev_PP {p : Array Nat} {m : Nat} (hp : PP n p) : PP n (kas_rev p 0 m) := hp.of (mirror_perm _ _ _ _)
theorem rev_asc {p : Array Nat} {m : Nat} (hp : PP n p) (hm : m ≤ n) (h : Dsc key p m) : Asc key (kas_rev p 0 m) m := fun i j hij hj => by
  unfold KK
  rw [rev_get (by rw [hp.size]; exact hm), rev_get (by rw [hp.size]; exact hm), if_pos (by omega), if_pos hj]
  exact h _ _ (by omega) (by omega)
theorem place_ (H : Cmp n key cmp I) {p : Array Nat} (hp : PP n p) {k : Nat} (hk : k < n) (hS : Asc key p k) : ∀ {f l r : Nat} {s : Shared} {Q : Nat → Shared → Prop}, l ≤ r → r ≤ k → r - l ≤ f → (∀ i, i < l → KK key p i < KK key p k) → (∀ i, r ≤ i → i < k → KK key p k < KK key p i) → I s →
    (∀ l s', I s' → l ≤ k → (∀ i, i < l → KK key p i < KK key p k) → (∀ i, l ≤ i → i < k → KK key p k < KK key p i) → Q l s') → (kas_place p k f l r).kasWp cmp Q s
  | 0, l, r, s, Q, hlr, hrk, hf, h1, h2, hs, K => K l s hs (by omega) h1 (fun i a b => h2 i (by omega) b)
  | f + 1, l, r, s, Q, hlr, hrk, hf, h1, h2, hs, K => by
    unfold kas_place
    by_cases q : l ≥ r
    · rw [if_pos q]
      exact K l s hs (by omega) h1 (fun i a b => h2 i (by omega) b)
    · rw [if_neg q]
      have hmid : (l + r) / 2 < r := by omega
      refine H.ask hp hk (by omega) hs fun s' hs' => ?_
      by_cases q2 : KK key p k < KK key p ((l + r) / 2)
      · rw [decide_eq_true q2, if_pos rfl]
        refine place_ H hp hk hS (by omega) (by omega) (by omega) h1 (fun i a b => ?_) hs' K
        by_cases q3 : i = (l + r) / 2
        · subst q3; exact q2
        · exact Int.lt_trans q2 (hS _ _ (by omega) b)
      · rw [decide_eq_false q2, if_neg (by decide)]
        have := H.ne hp (i := k) (j := (l + r) / 2) hk (by omega) (by omega)
        have q2' : KK key p ((l + r) / 2) < KK key p k := by omega
        refine place_ H hp hk hS (by omega) hrk (by omega) (fun i a => ?_) h2 hs' K
        by_cases q3 : i = (l + r) / 2
        · subst q3; exact q2'
        · exact Int.lt_trans (hS _ _ (by omega) (by omega)) q2'
theorem bub_get {p : Array Nat} {k l : Nat} (hk : k < p.size) (hl : l ≤ k) (i : Nat) : (bubble p k (k - l)).getD i 0 = if i = l then p.getD k 0 else if l < i ∧ i ≤ k then p.getD (i - 1) 0 else p.getD i 0 := by
  have h := getElem?_bubble (xs := p) (src := k) hk (k - l) (by omega) i
  have e : ∀ (q : Array Nat) i, q.getD i 0 = (q[i]?).getD 0 := fun q i => by simp [Array.getD]; split <;> simp_all
  rw [e, h, show k - (k - l) = l by omega, e, e, e]
  split
  · rfl
  · split <;> rfl
theorem bub_asc {p : Array Nat} {k l : Nat} (hp : PP n p) (hk : k < n) (hl : l ≤ k) (hS : Asc key p k) (h1 : ∀ i, i < l → KK key p i < KK key p k) (h2 : ∀ i, l ≤ i → i < k → KK key p k < KK key p i) : Asc key (bubble p k (k - l)) (k + 1) := fun i j hij hj => by
  have hk' : k < p.size := by rw [hp.size]; exact hk
  unfold KK
  rw [bub_get hk' hl, bub_get hk' hl]
  by_cases a : i = l
  · rw [if_pos a, if_neg (by omega), if_pos (by omega)]
    exact h2 _ (by omega) (by omega)
  · rw [if_neg a]
    by_cases b : j = l
    · rw [if_neg (by omega), if_pos b]
      exact h1 _ (by omega)
    · rw [if_neg b]
      by_cases c1 : l < i ∧ i ≤ k
      · rw [if_pos c1, if_pos (by omega)]
        exact hS _ _ (by omega) (by omega)
      · rw [if_neg c1]
        by_cases c2 : l < j ∧ j ≤ k
        · rw [if_pos c2]
          by_cases c3 : i = j - 1
          · omega
          · exact hS _ _ (by omega) (by omega)
        · rw [if_neg c2]
          exact hS _ _ (by omega) (by omega)
theorem bin_ (H : Cmp n key cmp I) : ∀ {f k : Nat} {p : Array Nat} {s : Shared} {Q : Array Nat → Shared → Prop}, PP n p → k + f = n → Asc key p k → I s → (∀ p s', I s' → PP n p → Asc key p n → Q p s') → (kas_bin f p k).kasWp cmp Q s
  | 0, k, p, s, Q, hp, hk, hS, hs, K => K p s hs hp (by rw [← hk]; exact hS)
  | f + 1, k, p, s, Q, hp, hk, hS, hs, K => by
    unfold kas_bin
    rw [KasT.kasWp_bind]
    refine place_ H hp (by omega) hS (Nat.zero_le _) (Nat.le_refl _) (by omega) (fun i a => absurd a (Nat.not_lt_zero _)) (fun i a b => by omega) hs fun l s' hs' hl h1 h2 => ?_
    exact bin_ H (hp.of (bubble_perm _ _ _)) (by omega) (bub_asc hp (by omega) hl hS h1 h2) hs' K
theorem sort_ (H : Cmp n key cmp I) (h2 : 2 ≤ n) {s : Shared} {Q : Array Nat → Shared → Prop} (hs : I s) (K : ∀ p s', I s' → PP n p → Asc key p n → Q p s') : (kas_sort n).kasWp cmp Q s := by
  have hp : PP n (List.toArray (List.range n)) := List.Perm.refl _
  unfold kas_sort kas_count
  rw [KasT.kasWp_bind, KasT.kasWp_bind]
  have fin : ∀ r p s', I s' → PP n p → 1 ≤ r → r ≤ n → Asc key p r → (if (r, p).1 < n then kas_bin (n - max (r, p).1 1) (r, p).2 (max (r, p).1 1) else KasT.ret (r, p).2).kasWp cmp Q s' := fun r p s' hs' hp h1 hr hA => by
    dsimp only
    rw [show max r 1 = r by omega]
    by_cases q : r < n
    · rw [if_pos q]
      exact bin_ H hp (by omega) hA hs' K
    · rw [if_neg q]
      exact K p s' hs' hp (by rw [show n = r by omega]; exact hA)
  refine asc_ H hp (Nat.le_refl _) (by omega) (fun i j a b => by omega) hs fun r s' hs' h1 hr hA hstop => ?_
  by_cases q : r = n
  · subst q
    rw [if_pos (by simp)]
    exact fin r _ s' hs' hp h1 (Nat.le_refl _) hA
  · rw [if_neg (by simpa using q)]
    by_cases q2 : r > 1
    · rw [if_pos q2]
      refine H.ask hp (by omega) (by omega) hs' fun s'' hs'' => ?_
      rw [decide_eq_true (hA 0 (r - 1) (by omega) (by omega)), if_pos rfl]
      exact fin r _ s'' hs'' hp h1 (by omega) hA
    · rw [if_neg q2]
      have hr1 : r = 1 := by omega
      subst hr1
      have hlt : KK key (List.toArray (List.range n)) 1 < KK key (List.toArray (List.range n)) 0 := by
        rcases hstop with a | a
        · omega
        · exact a
      unfold kas_descPart
      rw [KasT.kasWp_bind]
      refine desc_ H hp (by omega) (by omega) (fun i j a b => ?_) hs' fun r s'' hs'' h1 hr hD => ?_
      · have : i = 0 := by omega
        have : j = 1 := by omega
        subst_vars
        exact hlt
      · have hr2 : r ≤ 2 + (n - 2) := hr
        rw [if_neg (Nat.lt_irrefl 0)]
        unfold kas_tail3
        rw [KasT.kasWp_bind]
        have hrn : r ≤ n := Nat.le_trans hr2 (Nat.le_of_eq (Nat.add_sub_of_le h2))
        refine asc_ H (rev_PP hp) (Nat.le_trans (by decide) h1) (Nat.le_of_eq (Nat.add_sub_of_le hrn)) (rev_asc hp hrn hD) hs'' fun r' s3 hs3 h1' hr' hA' _ => ?_
        exact fin r' _ s3 hs3 (rev_PP hp) (Nat.le_trans (Nat.le_trans (by decide) h1) h1') (Nat.le_trans hr' (Nat.le_of_eq (Nat.add_sub_of_le hrn))) hA'
end
-- SrtB
section
variable {w : World} {c : Cx} {b : Im} {mu : Led} {s : Shared} {m : Str → Option Value} {A : Around}
def allN (c : Cx) (h : Heap) : List (Addr × Obj) := (List.range h.objs.size).filterMap (fun a => if a = c.L ∨ (c.g.get? a).isSome = true then none else (h.get? a).map fun y => (a, y))
theorem allN_mem {h : Heap} {p : Addr × Obj} : p ∈ allN c h ↔ h.get? p.1 = some p.2 ∧ p.1 ≠ c.L ∧ c.g.get? p.1 = none := by
  constructor
  · intro hp
    obtain ⟨a, _, e⟩ := List.mem_filterMap.mp hp
    split at e
    · cases e
    · rename_i q
      simp only [not_or] at q
      obtain ⟨y, hy, rfl⟩ := Option.map_eq_some_iff.mp e
      exact ⟨hy, q.1, by simpa using q.2⟩
  · rintro ⟨h1, h2, h3⟩
    refine List.mem_filterMap.mpr ⟨p.1, List.mem_range.mpr (Heap.lt_size h1), ?_⟩
    rw [if_neg (by simp only [not_or]; exact ⟨h2, by rw [h3]; decide⟩), h1]; rfl
theorem allN_news (c : Cx) (h : Heap) : News c.g c.L h (allN c h) := fun p hp => allN_mem.mp hp
theorem St.ofNews (S : St w c b mu s m) {h' : Heap} {t : Nat} {D : Addr} {o : Obj} (F' : Fr c.g c.L h' m) (N' : News c.g c.L h' ((D, o) :: allN c s.heap)) (hD : ∀ q ∈ allN c s.heap, q.1 < D) (hL : c.L < D) :
    St w c b ((D, o) :: mu) { s with heap := h', toks := t } m := by
  have k : ∀ x y, x ≠ c.L → s.heap.get? x = some y → h'.get? x = some y := fun x y hx e => by
    cases q : c.g.get? x with
    | some y' => have e1 := S.fr.keep _ _ q; rw [e] at e1; cases e1; exact F'.keep _ _ q
    | none => exact (N' (x, y) (.tail _ (allN_mem.mpr ⟨e, hx, q⟩))).1
  have HD := N' (D, o) (.head _)
  have bD : b D = none := by
    cases q : b D with
    | none => rfl
    | some y => exact absurd (hD (D, y) (allN_mem.mpr ⟨S.keep _ _ q, HD.2.1, HD.2.2⟩)) (Nat.lt_irrefl _)
  refine ⟨S.gl, F', fun x y e => k x y (fun q => by subst q; rw [S.offL] at e; cases e) (S.keep x y e), S.off, S.offL, S.old, fun p hp => ?_, ?_, S.gens, S.drawn, S.os⟩
  · rcases List.mem_cons.mp hp with rfl | hp
    · exact ⟨HD.1, HD.2.1, bD, HD.2.2⟩
    · have P := S.led p hp
      exact ⟨k _ _ P.2.1 P.1, P.2⟩
  · rw [List.map_cons, List.nodup_cons]
    refine ⟨fun q => ?_, S.nd⟩
    obtain ⟨p, hp, e⟩ := List.mem_map.mp q
    have P := S.led p hp
    exact absurd (hD p (allN_mem.mpr ⟨P.1, P.2.1, P.2.2.2⟩)) (by rw [e]; exact Nat.lt_irrefl _)
/-- a row of four: what it is, number, start, stop -/
def QAt (b : Im) (v : Value) (d : Oc) : Prop := ∃ a tk tn ta tb, v = .ref a ∧ b a = some (tupO [.str d.k tk, .int d.n tn, .int d.a ta, .int d.b tb])
theorem QAt.le {b b' : Im} {v : Value} {d : Oc} (h : QAt b v d) (l : Le b b') : QAt b' v d := let ⟨a, t1, t2, t3, t4, e, q⟩ := h; ⟨a, t1, t2, t3, t4, e, l.at q⟩
structure BO (d : Oc) : Prop where
  k : d.k = Str.ofString "temp" ∨ d.k = Str.ofString "out"
  n : 0 ≤ d.n ∧ d.n < 100
  a : 0 ≤ d.a ∧ d.a < 100
  b : 0 ≤ d.b ∧ d.b < 100
def okey (d : Oc) : Int := (((if d.k = Str.ofString "temp" then 1 else 0) * 100 + d.n) * 100 + d.a) * 100 + d.b
theorem to_ne : (Str.ofString "out" : Str) ≠ Str.ofString "temp" := by decide
theorem okey_inj {d e : Oc} (hd : BO d) (he : BO e) (h : okey d = okey e) : d = e := by
  obtain ⟨k, n, a, z⟩ := d
  obtain ⟨k', n', a', z'⟩ := e
  obtain ⟨h1, h2, h3, h4⟩ := hd
  obtain ⟨g1, g2, g3, g4⟩ := he
  unfold okey at h
  dsimp only at *
  rcases h1 with rfl | rfl <;> rcases g1 with rfl | rfl <;> simp only [if_pos, if_neg to_ne] at h
  · obtain ⟨rfl, rfl, rfl⟩ : n = n' ∧ a = a' ∧ z = z' := by omega
    rfl
  · omega
  · omega
  · obtain ⟨rfl, rfl, rfl⟩ : n = n' ∧ a = a' ∧ z = z' := by omega
    rfl
theorem q_lt {x y : Value} {d e : Oc} {C : Bool → Shared → Prop} {E : Value → Shared → Prop} (S : St w c b mu s m) (hx : QAt b x d) (hy : QAt b y e) (hd : BO d) (he : BO e) (h : ∀ s', St w c b mu s' m → C (decide (okey d < okey e)) s') :
    wpAny (model PR w) A (keyLt' (tuples' true) x y) C E s := by
  obtain ⟨p, t1, t2, t3, t4, rfl, hp⟩ := hx
  obtain ⟨q, u1, u2, u3, u4, rfl, hq⟩ := hy
  obtain ⟨k, n, a, z⟩ := d
  obtain ⟨k', n', a', z'⟩ := e
  obtain ⟨h1, h2, h3, h4⟩ := hd
  obtain ⟨g1, g2, g3, g4⟩ := he
  unfold okey at h
  dsimp only at *
  refine kat_lt (S.keep _ _ hp) rfl (S.keep _ _ hq) rfl ?_
  refine kat_cons (wpAny_eqBool_str ?_)
  have lt1 : decide ((Str.ofString "temp").cps.toList < (Str.ofString "out").cps.toList) = false := by decide
  have lt2 : decide ((Str.ofString "out").cps.toList < (Str.ofString "temp").cps.toList) = true := by decide
  by_cases e1 : k = k'
  · rw [decide_eq_true e1]
    subst e1
    generalize (if k = Str.ofString "temp" then (1 : Int) else 0) = K at h
    refine kat_yes (kat_cons (wpAny_eqBool_int ?_))
    by_cases e2 : n = n'
    · rw [show (n == n') = true from beq_iff_eq.mpr e2]
      subst e2
      refine kat_yes (kat_cons (wpAny_eqBool_int ?_))
      by_cases e3 : a = a'
      · rw [show (a == a') = true from beq_iff_eq.mpr e3]
        subst e3
        refine kat_yes (kat_cons (wpAny_eqBool_int ?_))
        by_cases e4 : z = z'
        · rw [show (z == z') = true from beq_iff_eq.mpr e4]
          subst e4
          refine kat_yes (kat_nil ?_)
          have := h _ S
          simp only [Int.lt_irrefl, decide_false] at this
          exact this
        · rw [show (z == z') = false from beq_false_of_ne e4]
          refine kat_no (kat_one _ _ (lt_int ?_))
          exact Eq.mp (congrArg (fun q => C q _) (decide_eq_decide.mpr (by omega))) (h _ S)
      · rw [show (a == a') = false from beq_false_of_ne e3]
        refine kat_no (kat_one _ _ (lt_int ?_))
        exact Eq.mp (congrArg (fun q => C q _) (decide_eq_decide.mpr (by omega))) (h _ S)
    · rw [show (n == n') = false from beq_false_of_ne e2]
      refine kat_no (kat_one _ _ (lt_int ?_))
      exact Eq.mp (congrArg (fun q => C q _) (decide_eq_decide.mpr (by omega))) (h _ S)
  · rw [decide_eq_false e1]
    refine kat_no (oneLt_str ?_)
    rcases h1 with rfl | rfl <;> rcases g1 with rfl | rfl
    · exact absurd rfl e1
    · rw [lt1]
      have := h _ S
      rw [if_pos rfl, if_neg to_ne, decide_eq_false (by omega)] at this
      exact this
    · rw [lt2]
      have := h _ S
      rw [if_pos rfl, if_neg to_ne, decide_eq_true (by omega)] at this
      exact this
    · exact absurd rfl e1
def dflt : Oc := ⟨Str.ofString "temp", 0, 0, 0⟩
def SortedO (l : List Oc) : Prop := l.Pairwise fun x y => okey x < okey y
theorem all2_getD {α β : Type} {R : α → β → Prop} {x : α} {y : β} {as : List α} {bs : List β} (r : All2 R as bs) : ∀ i, i < as.length → R (as.getD i x) (bs.getD i y) := by
  induction r with
  | nil => intro i h; exact absurd h (Nat.not_lt_zero _)
  | cons h _ ih =>
    intro i hi
    cases i with
    | zero => exact h
    | succ i => simpa using ih i (by simpa using hi)
theorem map_getD_range {α : Type} (l : List α) (x : α) : (List.range l.length).map (fun i => l.getD i x) = l := by
  apply List.ext_getElem
  · simp
  · intro i h1 h2
    simp at h1 ⊢
    simp [h1]
theorem b_sorted2 {l : Addr} {vs : List Value} {ds : List Oc} {n : Nat} {Q : Value → Shared → Prop} (S : St w c b mu s m) (hm : (l, lstO vs n) ∈ mu) (hlc : c.L < l) (h : All2 (QAt b) vs ds) (hb : ∀ d ∈ ds, BO d) (hnd : ds.Nodup) (h2 : 2 ≤ vs.length) (h64 : vs.length < 64)
    (ret : ∀ D ys es n s', c.L < D → All2 (QAt b) ys es → es.Perm ds → SortedO es → St w c b ((D, lstO ys n) :: mu) s' m → Q (.ref D) s') :
    wpAny (model PR w) A (call (.builtin "sorted") [.ref l]) Q NoE s := by
  have P := S.led _ hm
  have hlen := h.length
  refine kat_sorted S.fr (allN_news c s.heap) (isList_of P.1) h2 h64 fun D e1 h' F' N' hD => ?_
  have hcD : c.L < D := Nat.lt_trans hlc (hD (l, lstO vs n) (allN_mem.mpr ⟨P.1, P.2.1, P.2.2.2⟩))
  have S1 : St w c b ((D, seqObj "list" #[] e1) :: mu) { s with heap := h' } m := S.ofNews (t := s.toks) F' N' hD hcD
  generalize ({ s with heap := h' } : Shared) = s1 at S1
  have htup : ∀ {vs : List Value} {ds : List Oc}, All2 (QAt b) vs ds → ∃ fs : List Value, KatTups s1.heap vs fs ∧ fs.length = vs.length ∧ ∀ v ∈ fs, ∃ x t, v = .str x t := by
    intro vs ds h
    induction h with
    | nil => exact ⟨[], KatTups.nil, rfl, fun _ h => nomatch h⟩
    | cons hx _ ih =>
      obtain ⟨fs, h1, h2, h3⟩ := ih
      obtain ⟨a, t1, t2, t3, t4, rfl, ha⟩ := hx
      exact ⟨_ :: fs, KatTups.cons (S1.keep _ _ ha) rfl rfl rfl h1, congrArg (· + 1) h2, fun v hv => (List.mem_cons.mp hv).elim (fun e => ⟨_, _, e⟩) (h3 v)⟩
  obtain ⟨fs, t1, t2, t3⟩ := htup h
  refine kat_kind (T := .type "str") t1 (by omega) (fun v hv => ?_) (by decide) ?_
  · obtain ⟨x, t, rfl⟩ := t3 v hv
    exact Looks.of_pure rfl
  rw [show ((Value.type "str") != Value.type "tuple") = true by decide]
  refine sort_ (key := fun i => okey (ds.getD i dflt)) (I := fun s' => St w c b ((D, seqObj "list" #[] e1) :: mu) s' m) ⟨fun i j hi hj C s' hs' hC => ?_, fun i j hi hj e => ?_⟩ h2 S1 fun p s' S' hp hA => ?_
  · have m1 : ∀ i, i < vs.length → ds.getD i dflt ∈ ds := fun i hi => by
      rw [hlen] at hi
      simp [List.getD, hi]
    exact q_lt hs' (all2_getD h i hi) (all2_getD h j hj) (hb _ (m1 i hi)) (hb _ (m1 j hj)) hC
  · rw [hlen] at hi hj
    have e2 := okey_inj (hb _ (by simp [List.getD, hi])) (hb _ (by simp [List.getD, hj])) e
    simp only [List.getD, hi, hj, List.getElem?_eq_getElem, Option.getD_some] at e2
    have np := List.pairwise_iff_getElem.mp hnd
    rcases Nat.lt_trichotomy i j with q | q | q
    · exact absurd e2 (np i j hi hj q)
    · exact q
    · exact absurd e2.symm (np j i hj hi q)
  · obtain ⟨post, NP, hne, hall⟩ := big_news S' (List.Mem.head _)
    refine KasFin.intro S'.fr NP (.head hne) fun h'' c' F'' N'' => ?_
    have S2 : St w c b ((D, lstO (p.toList.map fun i => vs.getD i Value.none) c') :: mu) { s' with heap := h'' } m :=
      St.turnF (pre := []) (t := s'.toks) S' F'' (fun x y h1 h2 e => by
        cases q : c.g.get? x with
        | some y' => have e1 := S'.fr.keep _ _ q; rw [e] at e1; cases e1; exact F''.keep _ _ q
        | none => exact (N'' (x, y) (.tail _ (hall x y e h2 h1 q))).1) (N'' _ (.head _)).1
    have hin : ∀ i ∈ p.toList, i < vs.length := fun i hi => List.mem_range.mp (hp.subset hi)
    refine ret D _ (p.toList.map fun i => ds.getD i dflt) _ _ hcD (All2.of_map fun i hi => all2_getD h i (hin i hi)) ?_ ?_ S2
    · have := hp.map fun i => ds.getD i dflt
      rw [hlen, map_getD_range] at this
      exact this
    · unfold SortedO
      rw [List.pairwise_map, List.pairwise_iff_getElem]
      intro i j hi hj hij
      have hs := hp.size
      have hj' : j < p.size := by simpa using hj
      have := hA i j hij (by omega)
      unfold KK at this
      simpa [Array.getD, show i < p.size by omega, hj'] using this
theorem St.upd {a : Addr} {xs : List Value} {n : Nat} {f : Array Value → Array Value} {ys : List Value} (S : St w c b ((a, seqObj "list" xs.toArray n) :: mu) s m) (hf : f xs.toArray = ys.toArray) :
    ∃ n', St w c b ((a, seqObj "list" ys.toArray n') :: mu) { s with heap := s.heap.update a (Obj.mapSeq f) } m := by
  have ho := S.at (List.Mem.head _)
  have h1 := get?_update_seq ho f
  rw [hf] at h1
  exact ⟨_, S.turn (s' := { s with heap := s.heap.update a (Obj.mapSeq f) }) (Heap.SameBut.update ..) h1⟩
theorem b_sorted1 {l : Addr} {vs : List Value} {ds : List Oc} {n : Nat} {Q : Value → Shared → Prop} (S : St w c b mu s m) (hm : (l, lstO vs n) ∈ mu) (h : All2 (QAt b) vs ds) (h2 : vs.length < 2)
    (ret : ∀ D ys es n b' s', Le b b' → c.L < D → All2 (QAt b') ys es → es.Perm ds → SortedO es → St w c b' ((D, lstO ys n) :: mu) s' m → Q (.ref D) s') :
    wpAny (model PR w) A (call (.builtin "sorted") [.ref l]) Q NoE s := by
  refine Calls.call_function_entry kind_sorted plain_sorted entry_sorted (args_sorted1 _) ?_
  unfold Builtin.«sorted»
  refine wpAny_bind (m := checkCount "sorted" 1 1 _) (wpAny_pure ?_)
  refine wpAny_bind (collect_list (isList_of (S.at hm)) ?_ (by rw [sizeLine_eq]; omega))
  obtain ⟨n1, S1⟩ := (S.pushM (o := seqObj "list" #[] 0) rfl).upd (xs := []) (f := (· ++ vs.toArray)) (ys := vs) (by simp)
  have S2 := S1.drop (List.sublist_cons_self _ _)
  clear S1
  dsimp only at S2
  generalize (s.heap.push (seqObj "list" #[] 0)).update s.heap.objs.size (Obj.mapSeq (· ++ vs.toArray)) = H2 at S2 ⊢
  refine wpAny_bind (wpAny_newList ?_ (by rw [sizeLine_eq]; omega))
  have hLD := S2.L_lt
  have S3 := S2.pushM (o := lstO vs) rfl
  dsimp only at S3 hLD ⊢
  generalize hD : H2.objs.size = D at S3 hLD ⊢
  refine wpAny_bind (wpAny_holding (wpAny_call_entry slot_list_sort ⟨_, S3.at (List.Mem.head _), rfl⟩ entry_list_sort ?_ (args_list_sort _)))
  rw [list_sort_plain]
  have ho3 := S3.at (List.Mem.head _)
  refine wpAny_bind (listItems_at ho3 rfl ?_)
  refine wpAny_bind (listUpdate_at ho3 rfl ?_ (by simp only [List.size_toArray]; rw [sizeLine_eq]; omega))
  obtain ⟨n4, S4⟩ := St.upd S3 (f := fun _ => #[]) (ys := []) rfl
  refine wpAny_bind (seqEpoch_at (S4.at (List.Mem.head _)) rfl ?_)
  refine wpAny_bind (wpAny_newTuple ?_ (by simp only; rw [sizeLine_eq]; omega))
  have S5 := S4.pushI (o := tupO vs) rfl
  have l5 := Le.put (o := tupO vs) S4 (Nat.le_refl _)
  refine wpAny_bind (wpAny_newList ?_)
  have S6 := (S5.pushM (o := lstO []) rfl).drop (List.sublist_cons_self _ _)
  refine wpAny_holding ?_
  dsimp only
  have hsz : vs.toArray.size < 2 := by simpa using h2
  rw [if_pos hsz, if_pos hsz]
  refine wpAny_bind (wpAny_pure ?_)
  rw [StateT.run_pure]
  refine wpAny_bind (wpAny_pure ?_)
  dsimp only
  refine wpAny_bind (seqEpoch_at (S6.at (List.Mem.head _)) rfl ?_)
  have hout : (arrOf (SortSt.mk' general' (vs.toArray.zip vs.toArray) #[] 7 none)).map (·.2) = vs.toArray := by
    show (vs.toArray.zip vs.toArray).map (·.2) = _
    apply Array.toList_inj.mp
    simp only [Array.toList_map, Array.toList_zip]
    exact List.map_snd_zip (Nat.le_refl _)
  refine wpAny_bind (listUpdate_at (S6.at (List.Mem.head _)) rfl ?_ (Nat.zero_le _) (by rw [hout]; simp only [List.size_toArray]; rw [sizeLine_eq]; omega))
  rw [hout]
  obtain ⟨n7, S7⟩ := St.upd S6 (f := fun _ => vs.toArray) (ys := vs) rfl
  simp only [bne_self_eq_false, Bool.false_eq_true, if_false]
  refine wpAny_pure ⟨_, rfl, wpAny_pure ⟨_, rfl, ?_⟩⟩
  refine ret D vs ds n7 _ _ l5 hLD (h.imp fun _ _ q => q.le l5) (.refl _) ?_ S7
  have hl := h.length
  unfold SortedO
  match ds, hl with
  | [], _ => exact List.Pairwise.nil
  | [d], _ => exact List.pairwise_singleton _ _
  | _ :: _ :: _, hl => simp only [List.length_cons] at hl; omega
end
-- F10r
abbrev clE (scope : Scope) (L : Addr) : List (Str × Addr) := cellsFrom (L + 1) scope.names []
/-- the environment of a def with cells -/
abbrev envZ (qual : Str) (scope : Scope) (L f : Addr) (cdv : Value) : Env := envX qual scope L f cdv (clE scope L)
section
variable {w : World} {c : Cx} {b : Im} {mu : Led} {s : Shared} {m : Str → Option Value} {A : Around} {qual : Str} {scope : Scope} {f : Addr} {cdv : Value} {env : Env}
/-- a def with two cells is entered: the first parameter's, and one yet empty -/
theorem enterZ {n : Nat} {Q : Value → Shared → Prop} {name : Str} {params : Arguments} {body : List Stmt} {dV kV doc pm ct oc : Value} {an od : Option Addr} {osl : Array (Option Value)} {args : List Value} {x y : Str} {v : Value}
    (hA : Am A (n + 1)) (S : St w c b mu s m)
    (ho : (hd.heap_39 w.params).lookup f = some ⟨oc, od, .func (fnOf name qual params body scope dV kV doc pm an cdv ct), osl⟩) (hcd : codeIn (hd.heap_39 w.params) cdv qual = true)
    (hbind : BindsTo s (fnOf name qual params body scope dV kV doc pm an cdv ct) ⟨args, []⟩ [(x, v)])
    (hx : scope.names.lookup x = some .cell) (hcl : ∀ L, clE scope L = [(y, L + 1 + 1), (x, L + 1)]) (hyx : (x == y) = false)
    (hco : scope.isCoroutine = false) (hgen : scope.isGenerator = false) (hk : scope.kind = .function)
    (h : ∀ (c' : Cx) (s' : Shared) (b₁ : Im) (ox oy : Obj) (m' : Str → Option Value), c'.b₀ = b → Am (A.deeper (envZ qual scope c'.L f cdv)) n → Le b b₁ → b₁ (c'.L + 1) = some ox → ox.data = .cell (some v) → oy.data = .cell none →
      St w c' b₁ ((c'.L + 1 + 1, oy) :: mu) s' m' →
      (∀ (b' : Im) (mu' : Led) (s'' : Shared) (m' : Str → Option Value), St w c' b' mu' s'' m' → St w c b' mu' s'' m) →
      wpAny (model PR w) (A.deeper (envZ qual scope c'.L f cdv)) (execs body (envZ qual scope c'.L f cdv))
        (fun fl s'' => Q (match fl with | .ret v => v | _ => .none) s'') NoE s') :
    wpAny (model PR w) A (call (.ref f) args) Q NoE s := by
  obtain ⟨mean, mg, mb, T⟩ := S.gl.T
  refine wpAny_call (codeAny_call_function (fd := fnOf name qual params body scope dV kV doc pm an cdv ct) (body := body) (by have := hA.dp; omega) ((S.gl.K.keeps S.fr.keep) _ _ ho) rfl hco hgen rfl (codeRec_of (S.gl.K.keeps S.fr.keep) hcd) (hbind _ _ _ _ ?_))
  have hclN := hcl s.heap.objs.size
  refine wpAny_newFunctionEnv_cells hk (fun p hp => ?_) fun env' he s' X => ?_
  · obtain rfl := List.mem_singleton.mp hp
    refine .inr ⟨hx, ?_⟩
    rw [show cellsFrom (s.heap.objs.size + 1) scope.names [] = _ from hclN]
    simp [List.lookup_cons, hyx]
  subst he
  have hk₁ : ∀ a o, s.heap.get? a = some o → s'.heap.get? a = some o := X.toInCall.keep
  refine ⟨T.nolimit.keeps (fun a o e => hk₁ a o (S.fr.keep a o e)), codeAny_func ?_⟩
  have hc1 := X.cell x (s.heap.objs.size + 1) (by show List.lookup x (clE scope s.heap.objs.size) = _; rw [hclN]; simp [List.lookup_cons, hyx])
  have hc2 := X.cell y (s.heap.objs.size + 1 + 1) (by show List.lookup y (clE scope s.heap.objs.size) = _; rw [hclN]; simp [List.lookup_cons])
  simp only [bindC] at hc1 hc2
  rw [if_neg (by show ¬ scope.names.lookup x = some .local; rw [hx]; decide)] at hc1 hc2
  rw [if_pos rfl] at hc1
  rw [if_neg (by intro e; rw [e] at hyx; simp at hyx)] at hc2
  obtain ⟨ox, hox, hoxd⟩ := hc1
  obtain ⟨oy, hoy, hoyd⟩ := hc2
  obtain ⟨h₁, tk, rfl, _⟩ := X.done
  obtain ⟨mz, hns⟩ : ∃ mz, h₁.Ns s.heap.objs.size mz := ⟨_, X.toInCall.ns⟩
  have stg : ∀ a o, c.g.get? a = some o → (hideAll s.heap (mu.map (·.1))).get? a = some o := fun a o e => hideAll_get _ (S.fr.keep a o e) fun q => by
    obtain ⟨p, hp, rfl⟩ := List.mem_map.mp q
    rw [(S.led p hp).2.2.2] at e; cases e
  obtain ⟨oL, es, ep, hL, hLr⟩ := S.fr.ns
  have nL : c.L ∉ mu.map (·.1) := fun q => by
    obtain ⟨p, hp, e⟩ := List.mem_map.mp q
    exact (S.led p hp).2.1 e
  have hLg := hideAll_get (mu.map (·.1)) hL nL
  let c' : Cx := ⟨hideAll s.heap (mu.map (·.1)), b, s.heap.objs.size, c.gens, c.drawn, c.os⟩
  have S' : St w c' b mu { s with heap := h₁, toks := tk } mz :=
    ⟨S.gl.keeps stg, ⟨hns, fun a o e => hk₁ a o (of_hideAll _ e), Nat.le_of_eq (hideAll_size _ _)⟩, fun a o e => hk₁ a o (S.keep a o e), fun _ _ => rfl, S.none_ge (Nat.le_refl _), Le.refl _,
      fun p hp => ⟨hk₁ _ _ (S.led p hp).1, Nat.ne_of_lt (Heap.lt_size (S.led p hp).1), (S.led p hp).2.2.1, hideAll_none _ (List.mem_map_of_mem hp)⟩, S.nd, S.gens, S.drawn, S.os⟩
  -- the two cells
  have nb : ∀ k, b (s.heap.objs.size + k) = none := fun k => S.none_ge (Nat.le_add_right _ _)
  have ng : ∀ k, c'.g.get? (s.heap.objs.size + k) = none := fun k => Heap.get?_none_of_le (by show (hideAll _ _).objs.size ≤ _; rw [hideAll_size]; exact Nat.le_add_right _ _)
  have nm : ∀ k, s.heap.objs.size + k ∉ mu.map (·.1) := fun k => S.nomu (Nat.le_add_right _ _)
  have S2 : St w c' b ((s.heap.objs.size + 1, ox) :: (s.heap.objs.size + 1 + 1, oy) :: mu) { s with heap := h₁, toks := tk } mz := by
    refine ⟨S'.gl, S'.fr, S'.keep, S'.off, S'.offL, S'.old, fun p hp => ?_, ?_, S'.gens, S'.drawn, S'.os⟩
    · rcases List.mem_cons.mp hp with rfl | hp
      · exact ⟨hox, Nat.ne_of_gt (Nat.lt_succ_self _), nb 1, ng 1⟩
      · rcases List.mem_cons.mp hp with rfl | hp
        · exact ⟨hoy, Nat.ne_of_gt (Nat.lt_succ_of_lt (Nat.lt_succ_self _)), nb 2, ng 2⟩
        · exact S'.led p hp
    · rw [List.map_cons, List.map_cons, List.nodup_cons, List.nodup_cons]
      refine ⟨fun q => ?_, nm 2, S'.nd⟩
      rcases List.mem_cons.mp q with q | q
      · exact absurd q (Nat.ne_of_lt (Nat.lt_succ_self _))
      · exact nm 1 q
  have S3 := S2.freeze (Nat.lt_succ_self _)
  have l3 := Le.freeze S2
  refine wpAny_mono (h c' _ _ ox oy _ rfl hA.deeper l3 (Im.put_at ..) hoxd hoyd S3 fun b' mu' s'' m' Z => ?_) (fun fl s'' hq => hq) fun _ _ x => x.elim
  have hLz : s''.heap.get? c.L = some oL := Z.fr.keep _ _ hLg
  have lt : c.L < s.heap.objs.size := S.L_lt
  refine ⟨S.gl, ⟨⟨oL, es, ep, hLz, hLr⟩, fun a o e => Z.fr.keep a o (stg a o e), S.fr.above⟩, Z.keep, fun a ha => (Z.off a (Nat.le_trans ha (Nat.le_of_lt lt))).trans (S.off a ha), (Z.off c.L (Nat.le_of_lt lt)).trans S.offL, S.old.trans Z.old, fun p hp => ?_, Z.nd, Z.gens, Z.drawn, Z.os⟩
  have P := Z.led p hp
  refine ⟨P.1, fun q => ?_, P.2.2.1, ?_⟩
  · have := P.2.2.2; rw [q, show c'.g.get? c.L = some oL from hLg] at this; cases this
  · cases q : c.g.get? p.1 with
    | none => rfl
    | some o => have := P.2.2.2; rw [show c'.g.get? p.1 = some o from stg _ _ q] at this; cases this
-- names in a frame with cells
variable {cl : List (Str × Addr)}
theorem z_nm {x : Str} {pos : Pos} {v : Value} {Q : Value → Shared → Prop} (S : St w c b mu s m) (hv : m x = some v) (h : Q v s)
    (hk : scope.kind = .function := by kernel_rfl) (hl : (envX qual scope c.L f cdv cl).kindOf x = some .local := by kernel_rfl) (hd : (x == ("__debug__" : Str)) = false := by kernel_rfl) :
    wpAny (model PR w) A (eval (.Name x pos) (envX qual scope c.L f cdv cl)) Q NoE s := nameX_L S.fr hv h hk hl hd
theorem z_gn {x : Str} {pos : Pos} {v : Value} {Q : Value → Shared → Prop} (S : St w c b mu s m) (e : nsIn (hd.heap_39 w.params) mainGlobals x = some (some v)) (h : Q v s)
    (hk : scope.kind = .function := by kernel_rfl) (hl : (envX qual scope c.L f cdv cl).kindOf x = some .globalImplicit := by kernel_rfl) (hd : (x == ("__debug__" : Str)) = false := by kernel_rfl) :
    wpAny (model PR w) A (eval (.Name x pos) (envX qual scope c.L f cdv cl)) Q NoE s := let ⟨_, _, _, T⟩ := S.gl.T; nameX_K S.fr S.gl.K (topRead_of T) e h hk hl hd
theorem z_bn {x : Str} {pos : Pos} {v : Value} {Q : Value → Shared → Prop} (S : St w c b mu s m) (e : nsIn (hd.heap_39 w.params) mainGlobals x = some none) (hv : bootBuiltins x = some v) (hn : x ≠ "__name__") (h : Q v s)
    (hk : scope.kind = .function := by kernel_rfl) (hl : (envX qual scope c.L f cdv cl).kindOf x = some .globalImplicit := by kernel_rfl) (hd : (x == ("__debug__" : Str)) = false := by kernel_rfl) :
    wpAny (model PR w) A (eval (.Name x pos) (envX qual scope c.L f cdv cl)) Q NoE s := let ⟨_, _, _, T⟩ := S.gl.T; nameX_B S.fr S.gl.K (topRead_of T) e hv hn h hk hl hd
theorem z_cl {x : Str} {pos : Pos} {v : Value} {cc : Addr} {o : Obj} {Q : Value → Shared → Prop} (ho : s.heap.get? cc = some o) (hd' : o.data = .cell (some v)) (hc : cl.lookup x = some cc) (h : Q v s) {L : Addr}
    (hk : scope.kind = .function := by kernel_rfl) (hl : (envX qual scope L f cdv cl).kindOf x = some .cell := by kernel_rfl) (hd : (x == ("__debug__" : Str)) = false := by kernel_rfl) :
    wpAny (model PR w) A (eval (.Name x pos) (envX qual scope L f cdv cl)) Q NoE s := wpAny_Name (wpAny_loadName_cell hk hl hc ⟨o, ho, hd'⟩ h) hd
theorem z_st {x : Str} {v : Value} {Q : Unit → Shared → Prop} (S : St w c b mu s m) (h : ∀ s', St w c b mu s' (fun y => if y = x then some v else m y) → Q () s')
    (hk : scope.kind = .function := by kernel_rfl) (hl : (envX qual scope c.L f cdv cl).kindOf x = some .local := by kernel_rfl) : wpAny (model PR w) A (storeName (envX qual scope c.L f cdv cl) x v) Q NoE s :=
  wpAny_storeName_local hl S.fr.ns (fun h' hn hs => h _ (S.setL hn hs)) (by show (scope.kind == .class || (scope.kind == .module && c.L != mainGlobals)) = false; rw [hk]; rfl)
theorem z_as {x : Str} {px : Pos} {v : Value} {Q : Unit → Shared → Prop} (S : St w c b mu s m) (h : ∀ s', St w c b mu s' (fun y => if y = x then some v else m y) → Q () s')
    (hk : scope.kind = .function := by kernel_rfl) (hl : (envX qual scope c.L f cdv cl).kindOf x = some .local := by kernel_rfl) : wpAny (model PR w) A (assign (.Name x px) (envX qual scope c.L f cdv cl) v) Q NoE s :=
  wpAny_assign_Name (z_st S h hk hl)
theorem z_asC {pre post : Led} {x : Str} {px : Pos} {v : Value} {cc : Addr} {o : Obj} {v₀ : Option Value} {Q : Unit → Shared → Prop} (S : St w c b (pre ++ (cc, o) :: post) s m) (hd' : o.data = .cell v₀) (hc : cl.lookup x = some cc)
    (h : ∀ o' s', o'.data = .cell (some v) → St w c b (pre ++ (cc, o') :: post) s' m → Q () s')
    (hk : scope.kind = .function := by kernel_rfl) (hl : (envX qual scope c.L f cdv cl).kindOf x = some .cell := by kernel_rfl) : wpAny (model PR w) A (assign (.Name x px) (envX qual scope c.L f cdv cl) v) Q NoE s := by
  refine wpAny_assign_Name (wpAny_storeName_cell hk hl hc ⟨o, S.at (by simp), hd'⟩ fun h' hcell hs => ?_)
  obtain ⟨o', ho', hd''⟩ := hcell
  exact h o' _ hd'' (S.turnAt (t := s.toks) (fun x y hx e => (hs.2 x hx).trans e) ho')
/-- t[j:] of a tuple -/
theorem e_slT {v : Expr} {j : Nat} {k : Nat} {pj sp : Pos} {a : Addr} {vs : List Value} {Q : Value → Shared → Prop} (S : St w c b mu s m) (ha : b a = some (tupO vs)) (h1 : 1 ≤ j) (hj : j ≤ vs.length) (hz : vs.length ≤ sizeLine)
    (K : ∀ a' b' s', Le b b' → b' a' = some (tupO (vs.drop j)) → St w c b' mu s' m → Q (.ref a') s')
    (hs : ∀ t a, subscripted (.Slice (some (.Constant (.int j) k pj)) none none sp) false (.ref t) (.ref a) = operate [.ref a, .ref t] (getItem (.ref t) (.ref a)) := by intro _ _; kernel_rfl) :
    wpAny (model PR w) A (eval (.Slice (some (.Constant (.int j) k pj)) none none sp) env) (fun i s₂ => wpAny (model PR w) A (subscriptTail v (.Slice (some (.Constant (.int j) k pj)) none none sp) (.ref a) i) Q NoE s₂) NoE s := by
  refine wpAny_Slice (wpAny_evalPart_some (wpAny_Constant_int (wpAny_evalPart_none (wpAny_evalPart_none ?_))))
  have S1 : St w c b mu { s with heap := s.heap.push { cls := .type "slice", data := .fields #[.int j s.toks, .none, .none] }, toks := s.toks + 1 } m := S.grow (t := s.toks + 1) fun _ _ e => Heap.get?_push_of_some _ e
  refine tail_any (s := { s with heap := s.heap.push { cls := .type "slice", data := .fields #[.int j s.toks, .none, .none] }, toks := s.toks + 1 }) (isTuple_of (S1.keep _ _ ha)).typeIs slot_tuple_getitem.lookup
    (getItem_tuple_from (isTup_of (S1.keep _ _ ha)) (Heap.IsSliceOf.new ..) h1 (by simpa using hj) ?_ (by simpa using hz)) (hs _ _)
  have S2 := S1.pushI (o := tupO (vs.drop j)) rfl
  exact K _ _ _ (Le.put S1 (Nat.le_refl _)) (Im.put_at ..) S2
/-- for x in a tuple -/
theorem for_tup {K : Flow → Shared → Prop} {target : Expr} {body : List Stmt} {l : Addr} {vs : List Value} (hh : A.handled = none) (S : St w c b mu s m) (hl : b l = some (tupO vs))
    (J : Nat → Im → Led → (Str → Option Value) → Prop) (h0 : J 0 b mu m) (ht : ∀ I v, letOwnedTupleGo target (.ref I) v = pure ())
    (turn : ∀ i v b' mu' m' it s', vs[i]? = some v → Le b b' → J i b' mu' m' → St w c b' (mu' ++ [it]) s' m' →
      wpAny (model PR w) A (assign target env v) (fun _ s₂ => wpAny (model PR w) A (execs body env) (Tn K (TEnd w c b it (J (i + 1)))) NoE s₂) NoE s')
    (done : ∀ b' mu' m' s', Le b b' → J vs.length b' mu' m' → St w c b' mu' s' m' → K .next s') :
    wpAny (model PR w) A (pyIter (.ref l)) (fun it s₂ => codeAny (model PR w) A (.forLoop target it body [] env) (Lr K) s₂) NoE s := by
  have hls : s.heap.IsTuple l vs.toArray := isTuple_of (S.keep _ _ hl)
  have hne : l ≠ s.heap.objs.size := Nat.ne_of_lt (Heap.lt_size (S.keep _ _ hl))
  refine wpAny_pyIter_tuple hls ?_
  have W := Walks.tuple (prog := PR) (w := w) (A := A) hh s.heap.objs.size l hne vs.toArray
  have e : vs.toArray.size = vs.length := by simp
  rw [e] at W
  refine for_walk W ⟨⟨_, Heap.get?_push_size _ rfl, rfl, rfl⟩, hls.at fun o e => Heap.get?_push_of_some _ e⟩ (fun i h q => let ⟨⟨o, ho, _⟩, _⟩ := q; ⟨o, ho⟩) (S.pushE (t := s.toks) rfl) J h0 ?_ (ht _) ?_ done
  · intro i b' mu' m' _ hle a ha hna
    have : a = l := by simpa [hna] using ha
    subst this
    exact ⟨_, Heap.get?_push_of_some _ (S.keep _ _ hl), .inl (hle _ _ hl)⟩
  · intro i v b' mu' m' o s' hi hP hle hJ S'
    exact turn i v b' mu' m' _ s' (by simpa using hP) hle hJ S'
theorem b_range2 {a n : Int} {t u : Tok} {Q : Value → Shared → Prop} (S : St w c b mu s m) (h : ∀ r v₀ s', IsRange s'.heap r a n 1 t u v₀ → St w c b mu s' m → Q (.ref r) s') :
    wpAny (model PR w) A (call (.type "range") [.int a t, .int n u]) Q NoE s :=
  call_range_2 (h _ _ _ (Heap.get?_push_size _ rfl) (S.grow fun _ _ e => Heap.get?_push_of_some _ e))
theorem b_max {x y : Int} {t u : Tok} {Q : Value → Shared → Prop} (hh : A.handled = none) (S : St w c b mu s m) (h : ∀ t s', St w c b mu s' m → Q (.int (if y > x then y else x) t) s') :
    wpAny (model PR w) A (call (.builtin "max") [.int x t, .int y u]) Q NoE s := by
  refine max_two_ints hh fun h' tk hk => ?_
  split
  · rename_i q; have := h u _ (S.grow (t := tk) hk); rwa [if_pos q] at this
  · rename_i q; have := h t _ (S.grow (t := tk) hk); rwa [if_neg q] at this
/-- l[-1] of a list that stands -/
theorem i_last {value slice : Expr} {a : Addr} {n : Nat} {vs : List Value} {u : Tok} {x : Value} {Q : Value → Shared → Prop} (S : St w c b mu s m) (hl : b a = some (lstO vs n)) (hx : vs.getLast? = some x) (h : Q x s)
    (hs : subscripted slice false (.ref a) (.int (-1) u) = operate [.ref a, .int (-1) u] (getItem (.ref a) (.int (-1) u)) := by kernel_rfl) :
    wpAny (model PR w) A (subscriptTail value slice (.ref a) (.int (-1) u)) Q NoE s := by
  have hls : s.heap.IsList a vs.toArray := isList_of (S.keep _ _ hl)
  have hne : vs ≠ [] := fun e => by rw [e] at hx; cases hx
  have hpos : 0 < vs.length := List.length_pos_iff.mpr hne
  refine tail_any hls.typeIs slot_list_getitem.lookup (wpAny_getItem_list_neg hls (by decide) (by simp; omega) (by decide) ?_ h) hs
  rw [List.getLast?_eq_getElem?] at hx
  have e : (-1 + (vs.toArray.size : Int)).toNat = vs.length - 1 := by simp; omega
  rw [e]
  simpa using hx
end
-- F10
def rowsP (rs : List Rs) (k : Int) (j : Nat) : Bool := match rs[j]? with | some r => r.t == some k | none => false
def rowsT (rs : List Rs) (k : Int) : List Nat := (List.range rs.length).filter (rowsP rs k)
def tempOf (rs : List Rs) (k : Nat) : Option Oc := match rowsT rs k with
  | [] => none
  | j :: r => some ⟨Str.ofString "temp", k, j, if (j : Int) + 1 > (((j :: r).getLast?.getD 0 : Nat) : Int) then (j : Int) + 1 else (((j :: r).getLast?.getD 0 : Nat) : Int)⟩
def enP (rs : List Rs) (j : Nat) : Bool := match rs[j]? with | some r => r.en | none => false
def takersOf (rs : List Rs) (j : Nat) : List Nat := ((List.range (rs.length - j)).map (j + ·)).filter (enP rs)
def outOf (rs : List Rs) (j : Nat) : Option Oc := (rs[j]?).bind fun r => r.a.map fun p => ⟨Str.ofString "out", p, j, (((takersOf rs j).headD 0 : Nat) : Int)⟩
def lv (rs : List Rs) : List Oc := (List.range 5).filterMap (tempOf rs) ++ (List.range rs.length).filterMap (outOf rs)
local macro_rules | `(tactic| walk_at "mz") => `(tactic| repeat' (first | (with_reducible first
  | refine s_ret ?_ | refine s_asg ?_ | refine s_if ?_ | refine s_nil ?_ | refine tn_next ?_ | refine sq_next ?_ | refine e_sub ?_ | refine e_bin ?_ | refine t_cmp ?_ | refine t_and ?_ | refine t_andc ?_ | refine t_andn ?_ | refine t_call ?_ | refine f_tt ?_ | refine f_ff ?_ | refine e_tup ?_ | refine s_expr ?_ | refine cw_b ?_ | refine s_for ?_ | refine e_lst ?_ | refine c_eqS ?_ | refine t_bool ?_ | (refine e_int (by assumption) ?_; intro _ _ _) | (refine e_str (by assumption) ?_; intro _ _ _) | (refine o_add (by assumption) ?_; intro _ _ _) | (refine z_st (by assumption) ?_; intro _ _) | refine a_more ?_ | refine a_none ?_) | ((with_reducible refine' z_nm (by assumption) ?hv ?_); (case hv => first | exact rfl | assumption)) | fail))
theorem e_neg {w : World} {A : Around} {c : Cx} {b : Im} {mu : Led} {s : Shared} {m : Str → Option Value} {env : Env} {x : Int} {k : Nat} {p pos : Pos} {Q : Value → Shared → Prop} (S : St w c b mu s m) (h : ∀ t s', St w c b mu s' m → Q (.int (-x) t) s') :
    wpAny (model PR w) A (eval (.UnaryOp .USub (.Constant (.int x) k p) pos) env) Q NoE s := wpAny_UnaryOp (wpAny_Constant_int (neg_int (h _ _ (S.toks _))))
theorem shapeD {b : Im} {idx : List (Int × Nat)} {vs : List Value} {r : Rs} (S : Shape b idx vs r) : ∃ ds, All2 (RD b) vs ds ∧ (∀ d ∈ ds, d.canLay0 = true) ∧ ∀ k : Int, (ds.any fun y => PyData.eqv y (.tuple [.str (Str.ofString "t"), .int k])) = (r.t == some k) := by
  have hT : ∀ (x : Value) (kk : Str) (n : Int), TA b x kk n → RD b x (.tuple [.str kk, .int n]) := fun x kk n ⟨a, tk, tn, e, h⟩ => by
    rw [e]; exact RD.tup h (.cons (RD.str _ _ _) (.cons (RD.int _ _ _) .nil))
  have okT : ∀ n : Int, (PyData.tuple [.str (Str.ofString "t"), .int n]).canLay0 = true := fun n => by kernel_rfl
  have okA : ∀ n : Int, (PyData.tuple [.str (Str.ofString "a"), .int n]).canLay0 = true := fun n => by kernel_rfl
  have eT : ∀ n k : Int, PyData.eqv (.tuple [.str (Str.ofString "t"), .int n]) (.tuple [.str (Str.ofString "t"), .int k]) = (some n == some k) := fun n k => by
    simp [PyData.eqv, PyData.eqvAll]
  have eA : ∀ n k : Int, PyData.eqv (.tuple [.str (Str.ofString "a"), .int n]) (.tuple [.str (Str.ofString "t"), .int k]) = false := fun n k => by
    simp [PyData.eqv, PyData.eqvAll, show (Str.ofString "a" == Str.ofString "t") = false by decide]
  have eS : ∀ k : Int, PyData.eqv (.int 7) (.tuple [.str (Str.ofString "t"), .int k]) = false := fun k => rfl
  cases S with
  | none h =>
    induction vs with
    | nil => exact ⟨[], .nil, (fun _ h => nomatch h), fun k => rfl⟩
    | cons x vs ih =>
      obtain ⟨ds, h1, h2, h3⟩ := ih fun y hy => h y (.tail _ hy)
      obtain ⟨t, rfl⟩ := h x (.head _)
      exact ⟨.int 7 :: ds, .cons (RD.int _ _ _) h1, fun d hd => (List.mem_cons.mp hd).elim (fun e => e ▸ rfl) (h2 d), fun k => by rw [List.any_cons, eS, Bool.false_or]; exact h3 k⟩
  | tt hx _ _ => exact ⟨[_], .cons (hT _ _ _ hx) .nil, (fun d hd => by rw [List.mem_singleton.mp hd]; exact okT _), fun k => by simp only [List.any_cons, List.any_nil, eT, Bool.or_false]⟩
  | aa hx => exact ⟨[_], .cons (hT _ _ _ hx) .nil, (fun d hd => by rw [List.mem_singleton.mp hd]; exact okA _), fun k => by simp only [List.any_cons, List.any_nil, eA, Bool.or_false]; rfl⟩
  | sa hy hx =>
    obtain ⟨t, rfl⟩ := hy
    exact ⟨[.int 7, _], .cons (RD.int _ _ _) (.cons (hT _ _ _ hx) .nil), (fun d hd => (List.mem_cons.mp hd).elim (fun e => e ▸ rfl) fun hd => by rw [List.mem_singleton.mp hd]; exact okA _), fun k => by simp only [List.any_cons, List.any_nil, eA, eS, Bool.or_false]; rfl⟩
  | ta hx _ _ hy => exact ⟨[_, _], .cons (hT _ _ _ hx) (.cons (hT _ _ _ hy) .nil), (fun d hd => (List.mem_cons.mp hd).elim (fun e => by rw [e]; exact okT _) fun hd => by rw [List.mem_singleton.mp hd]; exact okA _), fun k => by simp only [List.any_cons, List.any_nil, eA, eT, Bool.or_false]⟩
theorem rowD {b : Im} {v : Value} {r : Rs} (h : RowA b v r) : ∃ a ds, v = .ref a ∧ RD b (.ref a) (.tuple ds) ∧ PyData.canLayAll0 ds = true ∧ ∀ k : Int, (ds.any fun y => PyData.eqv y (.tuple [.str (Str.ofString "t"), .int k])) = (r.t == some k) := by
  obtain ⟨a, name, tk, vs, rfl, ha, he, hok, S, _⟩ := h
  obtain ⟨ds, h1, h2, h3⟩ := shapeD S
  refine ⟨a, .str name :: ds, rfl, RD.tup ha (.cons (RD.str _ _ _) h1), canLayAll_of fun d hd => (List.mem_cons.mp hd).elim (fun e => by rw [e]; exact hok) (h2 d), fun k => ?_⟩
  rw [List.any_cons, show PyData.eqv (.str name) (.tuple [.str (Str.ofString "t"), .int k]) = false from rfl, Bool.false_or]
  exact h3 k
theorem ints_lay (js : List Nat) : (PyData.list (js.map fun j : Nat => .int j)).canLay0 = true := by
  show PyData.canLayAll0 _ = true
  exact canLayAll_of fun d hd => by obtain ⟨j, _, rfl⟩ := List.mem_map.mp hd; rfl
theorem ints_deep (js : List Nat) : (PyData.list (js.map fun j : Nat => .int j)).depth ≤ 64 := by
  have := depthAll_of (n := 1) (ds := js.map fun j : Nat => PyData.int j) fun d hd => by obtain ⟨j, _, rfl⟩ := List.mem_map.mp hd; exact Nat.le_of_ble_eq_true rfl
  show PyData.depthAll _ + 1 ≤ 64
  omega
/-- ints in a list -/
def NatsAre (ys : List Value) (js : List Nat) : Prop := All2 (fun v j => ∃ t, v = .int (j : Int) t) ys js
def PartAt (b : Im) (v : Value) : Option Int → Prop
  | some p => TA b v (Str.ofString "a") p
  | none => Sv v ∨ ∃ n, TA b v (Str.ofString "t") n
theorem shapeP {b : Im} {idx : List (Int × Nat)} {vs : List Value} {r : Rs} (S : Shape b idx vs r) : ∃ ps, All2 (PartAt b) vs ps ∧ ps.filterMap id = r.a.toList := by
  cases S with
  | none h =>
    induction vs with
    | nil => exact ⟨[], .nil, rfl⟩
    | cons x vs ih =>
      obtain ⟨ps, h1, h2⟩ := ih fun y hy => h y (.tail _ hy)
      exact ⟨none :: ps, .cons (.inl (h x (.head _))) h1, h2⟩
  | tt hx _ _ => exact ⟨[none], .cons (.inr ⟨_, hx⟩) .nil, rfl⟩
  | aa hx => exact ⟨[some _], .cons hx .nil, rfl⟩
  | sa hy hx => exact ⟨[none, some _], .cons (.inl hy) (.cons hx .nil), rfl⟩
  | ta hx _ _ hy => exact ⟨[none, some _], .cons (.inr ⟨_, hx⟩) (.cons hy .nil), rfl⟩
theorem range_is2 {j n : Nat} (hj : j ≤ n) (h : n < 2 ^ 62) : Builtin.Range.small j n 1 = true ∧ Builtin.Range.rangeSize j n 1 = ((n - j : Nat) : Int) := by
  have e : Builtin.Range.rangeSize j n 1 = ((n - j : Nat) : Int) := by
    unfold Builtin.Range.rangeSize
    by_cases q : n = j
    · subst q; rw [Nat.sub_self]; simp
    · rw [if_pos (by decide), if_pos (by omega)]; omega
  refine ⟨?_, e⟩
  unfold Builtin.Range.small
  rw [e]
  unfold Builtin.Range.rangeFitsLong
  simp
  omega
theorem ends_any (name : Str) : ([PyData.str (Str.ofString "call"), .str (Str.ofString "execute"), .str (Str.ofString "builtin")].any fun y => PyData.eqv y (.str name)) = isEnd name := by
  have e : ∀ x : Str, PyData.eqv (.str x) (.str name) = (name == x) := fun x => by
    show (x == name) = _
    rw [Bool.beq_comm]
  simp only [List.any_cons, List.any_nil, e, Bool.or_false]
  unfold isEnd
  rw [Bool.or_assoc]
set_option maxHeartbeats 4000000 in
theorem lives_spec {w : World} {b : Im} {cl : Addr} {refs : List Value} {n : Nat} {rs : List Rs} (hcl : b cl = some (lstO refs n)) (hrs : All2 (RowA b) refs rs) (hlen : rs.length ≤ 11) (hB : ∀ d ∈ lv rs, BO d) (hN : (lv rs).Nodup)
    (hEnd : ∀ j, j < rs.length → takersOf rs j ≠ []) :
    Fun w 115 [.ref cl] b (fun v b' => ∃ D ys es n', v = .ref D ∧ b' D = some (lstO ys n') ∧ All2 (QAt b') ys es ∧ es.Perm (lv rs) ∧ SortedO es) 3 := by
  intro A hA c mu s m Q S ret
  refine enterZ (n := 2) hA S (f := 115) (x := Str.ofString "code") (y := Str.ofString "number") (v := .ref cl) rfl (by rfl) (BindsTo.of_eq rfl) rfl (fun L => rfl) (by decide) rfl rfl rfl ?_
  intro c' s1 b1 ox oy mz hc0 hA1 l1 hox hoxd hoyd S1 back
  walk_at "mz"
  with_reducible refine n_lstM S1 ?_
  intro fl s2 hfl S2
  walk_at "mz"
  with_reducible refine e_tcall (T := "range") ?_ ?_
  ((with_reducible refine' z_bn (by assumption) ?hv ?hb ?hn ?_); (case hv => kernel_rfl); (case hb => boot_by_name); (case hn => decide); exact ⟨rfl, rfl⟩)
  walk_at "mz"
  with_reducible refine b_range1 (by assumption) ?_
  intro r t0 v0 s3 hr3 S3
  have hcode : ∀ {b' : Im}, Le b1 b' → b' (c'.L + 1) = some ox := fun l => l.at hox
  refine for_r0 (n := 5) hA1.hh S3 hr3 (by decide) (fun i b' mu' m' => ∃ ys nf on, mu' = (fl, lstO ys nf) :: (c'.L + 1 + 1, on) :: mu ∧ (∃ v0, on.data = .cell v0) ∧ All2 (QAt b') ys ((List.range i).filterMap (tempOf rs)) ∧
    m' (Str.ofString "found") = some (.ref fl)) ?_ ?_ ?_ ?_
  · exact ⟨[], 0, oy, rfl, ⟨_, hoyd⟩, .nil, rfl⟩
  · intros; rfl
  · rintro i ti b' mu' m' it s4 hi hle ⟨ys, nf, on, rfl, ⟨v0, hond⟩, hq, m1⟩ S4
    have S4' : St w c' b' ([(fl, lstO ys nf)] ++ (c'.L + 1 + 1, on) :: (mu ++ [it])) s4 m' := S4
    refine z_asC S4' hond rfl ?_
    intro on' s5 hond' S5
    have hcell : ∀ {s' : Shared} {c₁ : Cx} {b₁ : Im} {m₁ : Str → Option Value} {led : Led}, St w c₁ b₁ led s' m₁ → Le b' b₁ → s'.heap.get? (c'.L + 1) = some ox := fun S l => S.keep _ _ (hcode (hle.trans l))
    refine s_compA (cl := [(Str.ofString "number", c'.L + 1 + 1), (Str.ofString "code", c'.L + 1)]) ?hsw ?hclos ?hkind ?hnames ?_
    case hsw => rfl
    case hclos => rfl
    case hkind => rfl
    case hnames => decide
    walk_at "mz"
    with_reducible refine e_tcall (T := "range") ?_ ?_
    ((with_reducible refine' z_bn (by assumption) ?hv ?hb ?hn ?_); (case hv => kernel_rfl); (case hb => boot_by_name); (case hn => decide); exact ⟨rfl, rfl⟩)
    walk_at "mz"
    with_reducible refine e_bcall (id := "len") ?_ ?_
    ((with_reducible refine' z_bn (by assumption) ?hv ?hb ?hn ?_); (case hv => kernel_rfl); (case hb => boot_by_name); (case hn => decide); exact ⟨rfl, rfl⟩)
    walk_at "mz"
    refine z_cl (hcell S5 (Le.refl _)) hoxd rfl ?_
    walk_at "mz"
    with_reducible refine b_len S5 (isList_of (S5.keep _ _ (hle.at (l1.at hcl)))) (by rw [hrs.length]; omega) ?_
    intro _ s6 S6
    walk_at "mz"
    with_reducible refine b_range1 (by assumption) ?_
    intro r2 t2 v2 s7 hr7 S7
    refine comp_range ?hcell ?hkind ?hx hA1.hh S7 hr7 (range_is refs.length (by rw [hrs.length]; omega)).1 (range_is refs.length (by rw [hrs.length]; omega)).2 (by rw [hrs.length, sizeLine_eq]; omega) (fun j b'' yz => NatsAre yz ((List.range j).filter (rowsP rs i))) .nil ?_ ?_ ?_
    case hcell => decide
    case hkind => rfl
    case hx => rfl
    · intro j b'' yz hy
      rw [hy.length]
      exact Nat.le_trans (List.length_filter_le _ _) (by simp)
    · intro j tj hj b'' c₁ led s8 m₁ hle' hc1 hm yz hJ hxj S8
      rw [Int.zero_add] at hxj
      have hN2 := hm (c'.L + 1 + 1, on') (by simp)
      refine wpAny_tests_one ?_
      with_reducible refine t_cmp ?_
      with_reducible refine e_tup ?_
      with_reducible refine a_more ?_
      with_reducible refine e_str S8 ?_
      intro t9 s9 S9
      with_reducible refine a_more ?_
      refine x_cl (S9.at hN2) hond' rfl ?_ rfl
      with_reducible refine a_none ?_
      with_reducible refine n_tup S9 ?_
      intro tp b3 s10 l3 htp S10
      with_reducible refine e_sub ?_
      refine x_cl (S10.keep _ _ (hcode (hle.trans (hle'.trans l3)))) hoxd rfl ?_ rfl
      refine x_nm S10 hxj ?_
      obtain ⟨vj, hvj⟩ : ∃ vj, refs[j]? = some vj := ⟨_, List.getElem?_eq_getElem hj⟩
      obtain ⟨r, hr, hrow⟩ := hrs.getL hvj
      have lb3 : Le b b3 := l1.trans (hle.trans (hle'.trans l3))
      obtain ⟨a, ds, rfl, hRD, hds, h3⟩ := rowD (hrow.le lb3)
      refine i_im S10 (lb3.at hcl) (by omega) (by have := hrs.length; omega) (by rw [Int.toNat_natCast]; exact hvj) ?_
      refine c_inT hA1 S10 hRD (RD.tup htp (.cons (RD.str _ _ _) (.cons (RD.int _ _ _) .nil))) hds (by kernel_rfl) (Nat.le_of_ble_eq_true (by kernel_rfl)) ?_
      walk_at "mz"
      rw [h3 i]
      have hfil : (List.range (j + 1)).filter (rowsP rs i) = (List.range j).filter (rowsP rs i) ++ (if (r.t == some (i : Int)) = true then [j] else []) := by
        rw [List.range_succ, List.filter_append]
        congr 1
        have e : rowsP rs i j = (r.t == some (i : Int)) := by unfold rowsP; rw [hr]
        rw [List.filter_cons, e, List.filter_nil]
      split
      · rename_i hE
        refine x_nm S10 hxj ?_
        refine ⟨b3, l3, S10, ?_⟩
        show NatsAre _ _
        rw [hfil, if_pos hE]
        exact hJ.snoc ⟨_, rfl⟩
      · rename_i hE
        refine ⟨b3, l3, S10, ?_⟩
        show NatsAre _ _
        rw [hfil, if_neg hE, List.append_nil]
        exact hJ
    · intro D C s8 hD
      refine cdone_some hD rfl rfl rfl ?_
      intro b2 yz nD s9 l2 hyz hDL S9
      rw [hrs.length] at hyz
      have l3 := Le.freeze S9
      have S10 := S9.freeze hDL
      have hD2 := Im.put_at b2 D (lstO yz nD)
      generalize b2.put D (lstO yz nD) = b3 at l3 S10 hD2
      have hR : RD b3 (.ref D) (.list ((rowsT rs i).map fun j : Nat => .int j)) := by
        refine RD.lst hD2 ?_
        have : ∀ {ys : List Value} {js : List Nat}, NatsAre ys js → All2 (RD b3) ys (js.map fun j : Nat => .int j) := by
          intro ys js h
          induction h with
          | nil => exact .nil
          | cons hx _ ih => obtain ⟨t, rfl⟩ := hx; exact .cons (RD.int _ _ _) ih
        exact this hyz
      walk_at "mz"
      with_reducible refine n_lst (by assumption) ?_
      intro el b4 s11 l4 hel S11
      refine c_neD hA1 S11 (hR.le l4) (RD.lst hel .nil) ?_ (by kernel_rfl) ?_ ?_
      · exact ints_lay _
      · exact ints_deep _
      walk_at "mz"
      cases hrw : rowsT rs i with
      | nil =>
        rw [if_neg (by decide)]
        walk_at "mz"
        refine tend (mu₂ := (fl, lstO ys nf) :: (c'.L + 1 + 1, on') :: mu) S11 (hle.trans (l2.trans (l3.trans l4))) rfl ⟨ys, nf, on', rfl, ⟨_, hond'⟩, ?_, m1⟩
        rw [List.range_succ, List.filterMap_append, List.filterMap_cons, List.filterMap_nil, show tempOf rs i = none by unfold tempOf; rw [hrw], List.append_nil]
        exact hq.imp fun _ _ q => q.le (l2.trans (l3.trans l4))
      | cons j0 jr =>
        rw [if_pos (by rfl)]
        walk_at "mz"
        replace hyz : NatsAre yz (rowsT rs i) := hyz
        rw [hrw] at hyz
        obtain ⟨y0, hy0, tj0, rfl⟩ := All2.get hyz (i := 0) rfl
        obtain ⟨jl, hjl⟩ : ∃ jl, (j0 :: jr).getLast? = some jl := ⟨_, List.getLast?_eq_some_getLast (by simp)⟩
        obtain ⟨yl, hyl, tjl, rfl⟩ := All2.get hyz (i := yz.length - 1) (y := jl) (by rw [hyz.length, ← List.getLast?_eq_getElem?]; exact hjl)
        rw [← List.getLast?_eq_getElem?] at hyl
        with_reducible refine e_meth ?_
        walk_at "mz"
        with_reducible refine g_app S11 (List.Mem.head _) ?_
        walk_at "mz"
        refine z_cl (St.at (by assumption) (List.Mem.tail _ (List.Mem.head _))) hond' rfl ?_
        walk_at "mz"
        with_reducible refine' i_im (by assumption) (l4.at hD2) ?h0 ?hk ?hx ?_
        case h0 => decide
        case hk => decide
        case hx => exact hy0
        walk_at "mz"
        with_reducible refine e_bcall (id := "max") ?_ ?_
        ((with_reducible refine' z_bn (by assumption) ?hv ?hb ?hn ?_); (case hv => kernel_rfl); (case hb => boot_by_name); (case hn => decide); exact ⟨rfl, rfl⟩)
        walk_at "mz"
        with_reducible refine e_neg (by assumption) ?_
        intro _ _ _
        refine i_last (by assumption) (l4.at hD2) hyl ?_
        walk_at "mz"
        with_reducible refine' i_im (by assumption) (l4.at hD2) ?h0 ?hk ?hx ?_
        case h0 => decide
        case hk => decide
        case hx => exact hy0
        walk_at "mz"
        with_reducible refine b_max hA1.hh (by assumption) ?_
        intro tb s12 S12
        walk_at "mz"
        with_reducible refine n_tup (by assumption) ?_
        intro tq b5 s13 l5 htq S13
        walk_at "mz"
        refine b_app (pre := []) S13 (fun nf2 s14 S14 => ?_) ?_
        · walk_at "mz"
          refine tend (mu₂ := (fl, lstO (ys ++ [.ref tq]) nf2) :: (c'.L + 1 + 1, on') :: mu) S14 (hle.trans (l2.trans (l3.trans (l4.trans l5)))) rfl ⟨_, nf2, on', rfl, ⟨_, hond'⟩, ?_, m1⟩
          rw [List.range_succ, List.filterMap_append, List.filterMap_cons, List.filterMap_nil, show tempOf rs i = some ⟨Str.ofString "temp", i, j0, if (j0 : Int) + 1 > (jl : Int) then (j0 : Int) + 1 else (jl : Int)⟩ by unfold tempOf; rw [hrw]; simp only [hjl, Option.getD_some]]
          exact (hq.imp fun _ _ q => q.le (l2.trans (l3.trans (l4.trans l5)))).snoc ⟨tq, _, _, _, _, rfl, htq⟩
        · have := hq.length
          have h2 := List.length_filterMap_le (tempOf rs) (List.range i)
          simp only [List.length_range] at h2
          rw [sizeLine_eq]; omega
  · rintro b' mu' m' s4 hle ⟨ys, nf, on, rfl, ⟨v0, hond⟩, hq, m1⟩ S4
    walk_at "mz"
    with_reducible refine e_tcall (T := "range") ?_ ?_
    ((with_reducible refine' z_bn (by assumption) ?hv ?hb ?hn ?_); (case hv => kernel_rfl); (case hb => boot_by_name); (case hn => decide); exact ⟨rfl, rfl⟩)
    walk_at "mz"
    with_reducible refine e_bcall (id := "len") ?_ ?_
    ((with_reducible refine' z_bn (by assumption) ?hv ?hb ?hn ?_); (case hv => kernel_rfl); (case hb => boot_by_name); (case hn => decide); exact ⟨rfl, rfl⟩)
    walk_at "mz"
    refine z_cl (S4.keep _ _ (hcode hle)) hoxd rfl ?_
    walk_at "mz"
    with_reducible refine b_len S4 (isList_of (S4.keep _ _ (hle.at (l1.at hcl)))) (by rw [hrs.length]; omega) ?_
    intro _ s5 S5
    walk_at "mz"
    with_reducible refine b_range1 (by assumption) ?_
    intro r2 t2 v2 s6 hr6 S6
    refine for_r0 (n := refs.length) hA1.hh S6 hr6 (by rw [hrs.length]; omega) (fun j b'' mu'' m'' => ∃ ys nf, mu'' = (fl, lstO ys nf) :: (c'.L + 1 + 1, on) :: mu ∧ All2 (QAt b'') ys ((List.range 5).filterMap (tempOf rs) ++ (List.range j).filterMap (outOf rs)) ∧
      m'' (Str.ofString "found") = some (.ref fl)) ?_ ?_ ?_ ?_
    · exact ⟨ys, nf, rfl, by simpa using hq, m1⟩
    · intros; rfl
    · clear m1 hq S6 S5 S4
      rintro j tj b2 mu2 m2 it s7 hj l2 ⟨ys, nf, rfl, hq, m1⟩ S7
      obtain ⟨vj, hvj⟩ : ∃ vj, refs[j]? = some vj := ⟨_, List.getElem?_eq_getElem hj⟩
      obtain ⟨r, hr, ra, name, tk, vs, rfl, hra, hen, hok, hsh, hvl⟩ := hrs.getL hvj
      have lb2 : Le b b2 := l1.trans (hle.trans l2)
      obtain ⟨ps, hps, hpsa⟩ := shapeP hsh
      refine z_as S7 ?_
      intro s8 S8
      walk_at "mz"
      refine z_cl (S8.keep _ _ (hcode (hle.trans l2))) hoxd rfl ?_
      walk_at "mz"
      refine i_im S8 (lb2.at hcl) (by omega) (by have := hrs.length; omega) (by rw [Int.toNat_natCast]; exact hvj) ?_
      refine e_slT (j := 1) S8 (lb2.at hra) (Nat.le_refl _) (by simp) (by rw [sizeLine_eq]; simp; omega) ?_
      intro ta b3 s9 l3 hta S9
      have houts : ∀ {k : Nat} {p : Option Int}, ps[k]? = some p → (((ps.take (k + 1)).filterMap id).map fun p : Int => (⟨Str.ofString "out", p, j, (((takersOf rs j).headD 0 : Nat) : Int)⟩ : Oc)) =
          (((ps.take k).filterMap id).map fun p : Int => (⟨Str.ofString "out", p, j, (((takersOf rs j).headD 0 : Nat) : Int)⟩ : Oc)) ++ (match p with | some p => [⟨Str.ofString "out", p, j, (((takersOf rs j).headD 0 : Nat) : Int)⟩] | none => []) := by
        intro k p hp
        rw [List.take_add_one, hp, List.filterMap_append, List.map_append]
        cases p <;> rfl
      refine for_tup hA1.hh S9 hta (fun k b4 mu4 m4 => ∃ ys nf, mu4 = (fl, lstO ys nf) :: (c'.L + 1 + 1, on) :: (mu ++ [it]) ∧
        All2 (QAt b4) ys (((List.range 5).filterMap (tempOf rs) ++ (List.range j).filterMap (outOf rs)) ++ ((ps.take k).filterMap id).map fun p : Int => (⟨Str.ofString "out", p, j, (((takersOf rs j).headD 0 : Nat) : Int)⟩ : Oc)) ∧
        m4 (Str.ofString "found") = some (.ref fl) ∧ m4 (Str.ofString "at") = some (.int j tj)) ?_ ?_ ?_ ?_
      · exact ⟨ys, nf, rfl, by simpa using hq.imp fun _ _ q => q.le l3, m1, rfl⟩
      · intros; rfl
      · clear S9 S8 S7 hq m1
        rintro k v b4 mu4 m4 it2 s10 hk l4 ⟨ys, nf, rfl, hq, m1, m2⟩ S10
        obtain ⟨op, hop, hpt⟩ := hps.getL (show vs[k]? = some v from hk)
        have lb4 : Le b b4 := lb2.trans (l3.trans l4)
        refine z_as S10 ?_
        intro s11 S11
        walk_at "mz"
        with_reducible refine e_bcall (id := "isinstance") ?_ ?_
        ((with_reducible refine' z_bn (by assumption) ?hv ?hb ?hn ?_); (case hv => kernel_rfl); (case hb => boot_by_name); (case hn => decide); exact ⟨rfl, rfl⟩)
        walk_at "mz"
        have hz : ∀ (s : Shared) (m : Str → Option Value), St w c' b4 ((fl, lstO ys nf) :: (c'.L + 1 + 1, on) :: (mu ++ [it]) ++ [it2]) s m → op = none → m (Str.ofString "found") = some (.ref fl) → m (Str.ofString "at") = some (.int j tj) →
            TEnd w c' b3 it2 (fun b4 mu4 m4 => ∃ ys nf, mu4 = (fl, lstO ys nf) :: (c'.L + 1 + 1, on) :: (mu ++ [it]) ∧
        All2 (QAt b4) ys (((List.range 5).filterMap (tempOf rs) ++ (List.range j).filterMap (outOf rs)) ++ ((ps.take (k + 1)).filterMap id).map fun p : Int => (⟨Str.ofString "out", p, j, (((takersOf rs j).headD 0 : Nat) : Int)⟩ : Oc)) ∧
        m4 (Str.ofString "found") = some (.ref fl) ∧ m4 (Str.ofString "at") = some (.int j tj)) s := fun s m S e f1 f2 => by
          subst e
          refine tend (mu₂ := (fl, lstO ys nf) :: (c'.L + 1 + 1, on) :: (mu ++ [it])) S l4 rfl ⟨ys, nf, rfl, ?_, f1, f2⟩
          rw [houts hop, List.append_nil]
          exact hq
        with_reducible refine' z_bn (v := .type "tuple") (by assumption) ?hv ?hb ?hn ?_
        case hv => kernel_rfl
        case hb => boot_by_name
        case hn => decide
        walk_at "mz"
        cases op with
        | none =>
          rcases hpt with ⟨t7, rfl⟩ | ⟨n7, hta7⟩
          · have S12 := S11.toks (s11.toks + 1)
            refine IsiPair.int_tuple ?_
            walk_at "mz"
            exact hz _ _ S12 rfl m1 m2
          · obtain ⟨ax, tk1, tn1, rfl, hax⟩ := hta7.le lb4
            refine IsiPair.tuple_tuple (S11.keep _ _ hax) rfl ?_
            walk_at "mz"
            with_reducible refine' i_tup (by assumption) hax ?h0 ?hk ?hx ?_
            case h0 => decide
            case hk => decide
            case hx => exact rfl
            walk_at "mz"
            rw [if_neg (by decide)]
            walk_at "mz"
            rename_i sQ SQ
            exact hz _ _ SQ rfl m1 m2
        | some p =>
          clear hz
          obtain ⟨ax, tk1, tn1, rfl, hax⟩ := TA.le hpt lb4
          refine IsiPair.tuple_tuple (S11.keep _ _ hax) rfl ?_
          walk_at "mz"
          with_reducible refine' i_tup (by assumption) hax ?h0 ?hk ?hx ?_
          case h0 => decide
          case hk => decide
          case hx => exact rfl
          walk_at "mz"
          rename_i t13 s13 S13
          rw [if_pos (by kernel_rfl)]
          with_reducible refine t_andn ?_
          with_reducible refine f_tt ?_
          have hcell : ∀ {s' : Shared} {c₁ : Cx} {b₁ : Im} {m₁ : Str → Option Value} {led : Led}, St w c₁ b₁ led s' m₁ → Le b4 b₁ → s'.heap.get? (c'.L + 1) = some ox := fun S l => S.keep _ _ (hcode (hle.trans (l2.trans (l3.trans (l4.trans l)))))
          have hjr : j ≤ refs.length := Nat.le_of_lt hj
          refine s_compA (cl := [(Str.ofString "code", c'.L + 1)]) ?hsw ?hclos ?hkind ?hnames ?_
          case hsw => rfl
          case hclos => rfl
          case hkind => rfl
          case hnames => decide
          walk_at "mz"
          with_reducible refine e_tcall (T := "range") ?_ ?_
          ((with_reducible refine' z_bn (by assumption) ?hv ?hb ?hn ?_); (case hv => kernel_rfl); (case hb => boot_by_name); (case hn => decide); exact ⟨rfl, rfl⟩)
          walk_at "mz"
          with_reducible refine e_bcall (id := "len") ?_ ?_
          ((with_reducible refine' z_bn (by assumption) ?hv ?hb ?hn ?_); (case hv => kernel_rfl); (case hb => boot_by_name); (case hn => decide); exact ⟨rfl, rfl⟩)
          walk_at "mz"
          refine z_cl (hcell S13 (Le.refl _)) hoxd rfl ?_
          walk_at "mz"
          with_reducible refine b_len S13 (isList_of (S13.keep _ _ (lb4.at hcl))) (by rw [hrs.length]; omega) ?_
          intro _ s14 S14
          walk_at "mz"
          with_reducible refine b_range2 (by assumption) ?_
          intro r3 v3 s15 hr15 S15
          refine comp_range ?hcell ?hkind ?hx hA1.hh S15 hr15 (range_is2 hjr (by rw [hrs.length]; omega)).1 (range_is2 hjr (by rw [hrs.length]; omega)).2 (by rw [hrs.length, sizeLine_eq]; omega) (fun k b'' yz => NatsAre yz (((List.range k).map (j + ·)).filter (enP rs))) .nil ?_ ?_ ?_
          case hcell => decide
          case hkind => rfl
          case hx => rfl
          · intro k b'' yz hy
            rw [hy.length]
            exact Nat.le_trans (List.length_filter_le _ _) (by simp)
          · intro k tk' hk' b'' c₁ led s16 m₁ hle' hc1 hm yz hJ hxk S16
            have hxk' : m₁ (Str.ofString "place") = some (.int ((j + k : Nat) : Int) tk') := by rw [hxk]; rw [Int.natCast_add]
            have hjk : j + k < refs.length := by omega
            obtain ⟨vq, hvq⟩ : ∃ vq, refs[j + k]? = some vq := ⟨_, List.getElem?_eq_getElem hjk⟩
            obtain ⟨r', hr', ra', name', tkn', vs', rfl, hra', hen', hok', _⟩ := hrs.getL hvq
            have lbq : Le b b'' := lb4.trans hle'
            refine wpAny_tests_one ?_
            with_reducible refine t_cmp ?_
            with_reducible refine e_sub ?_
            with_reducible refine e_sub ?_
            refine x_cl (hcell S16 hle') hoxd rfl ?_ rfl
            refine x_nm S16 hxk' ?_
            refine i_im S16 (lbq.at hcl) (by omega) (by have := hrs.length; omega) (by rw [Int.toNat_natCast]; exact hvq) ?_
            with_reducible refine e_int S16 ?_
            intro t17 s17 S17
            refine i_tup S17 (lbq.at hra') (by decide) (by decide) (show (Value.str name' tkn' :: vs')[(0 : Int).toNat]? = some (.str name' tkn') from rfl) ?_
            walk_at "mz"
            with_reducible refine n_lst (by assumption) ?_
            intro el b5 s18 l5 hel S18
            refine c_inL hA1 S18 (RD.lst hel (.cons (RD.str _ _ _) (.cons (RD.str _ _ _) (.cons (RD.str _ _ _) .nil)))) (RD.str _ name' tkn') (by kernel_rfl) hok' (Nat.le_of_ble_eq_true rfl) ?_
            walk_at "mz"
            rw [ends_any]
            have hfil : ((List.range (k + 1)).map (j + ·)).filter (enP rs) = ((List.range k).map (j + ·)).filter (enP rs) ++ (if isEnd name' = true then [j + k] else []) := by
              rw [List.range_succ, List.map_append, List.filter_append]
              congr 1
              have e : enP rs (j + k) = isEnd name' := by unfold enP; rw [hr', hen']
              rw [List.map_cons, List.map_nil, List.filter_cons, e, List.filter_nil]
            split
            · rename_i hE
              refine x_nm S18 hxk' ?_
              refine ⟨b5, l5, S18, ?_⟩
              show NatsAre _ _
              rw [hfil, if_pos hE]
              exact hJ.snoc ⟨_, rfl⟩
            · rename_i hE
              refine ⟨b5, l5, S18, ?_⟩
              show NatsAre _ _
              rw [hfil, if_neg hE, List.append_nil]
              exact hJ
          · intro D C s16 hD
            refine cdone_some hD rfl rfl rfl ?_
            intro b5 yz nD s17 l5 hyz hDL S17
            have hyz' : NatsAre yz (takersOf rs j) := by rw [hrs.length] at hyz; exact hyz
            have hne := hEnd j (by rw [← hrs.length]; exact hj)
            obtain ⟨j0, jr, htk⟩ : ∃ j0 jr, takersOf rs j = j0 :: jr := by
              cases h : takersOf rs j with
              | nil => exact absurd h hne
              | cons a l => exact ⟨a, l, rfl⟩
            rw [htk] at hyz'
            obtain ⟨y0, hy0, tj0, rfl⟩ := All2.get hyz' (i := 0) rfl
            have l6 := Le.freeze S17
            have S18 := S17.freeze hDL
            have hD2 := Im.put_at b5 D (lstO yz nD)
            generalize b5.put D (lstO yz nD) = b6 at l6 S18 hD2
            walk_at "mz"
            with_reducible refine e_meth ?_
            walk_at "mz"
            with_reducible refine g_app S18 (List.Mem.head _) ?_
            walk_at "mz"
            have lax := l5.trans l6
            with_reducible refine' i_tup (by assumption) (lax.at hax) ?h0 ?hk ?hx ?_
            case h0 => decide
            case hk => decide
            case hx => exact rfl
            walk_at "mz"
            with_reducible refine' i_im (by assumption) hD2 ?h0 ?hk ?hx ?_
            case h0 => decide
            case hk => decide
            case hx => exact hy0
            walk_at "mz"
            with_reducible refine n_tup (by assumption) ?_
            intro tq b7 s20 l7 htq S20
            walk_at "mz"
            refine b_app (pre := []) S20 (fun nf2 s21 S21 => ?_) ?_
            · walk_at "mz"
              refine tend (mu₂ := (fl, lstO (ys ++ [.ref tq]) nf2) :: (c'.L + 1 + 1, on) :: (mu ++ [it])) S21 (l4.trans (lax.trans l7)) rfl ⟨_, nf2, rfl, ?_, m1, m2⟩
              rw [houts hop, ← List.append_assoc]
              have e : (takersOf rs j).headD 0 = j0 := by rw [htk]; rfl
              simp only [e] at hq ⊢
              exact (hq.imp fun _ _ q => q.le (lax.trans l7)).snoc ⟨tq, _, _, _, _, rfl, htq⟩
            · have h1 := hq.length
              have h2 := List.length_filterMap_le (tempOf rs) (List.range 5)
              have h3 := List.length_filterMap_le (outOf rs) (List.range j)
              have h4 := List.length_filterMap_le id (ps.take k)
              have h5 := hps.length
              have h6 := hrs.length
              simp only [List.length_range, List.length_append, List.length_map, List.length_take] at h1 h2 h3 h4
              rw [sizeLine_eq]; omega
      · rintro b4 mu4 m4 s10 l4 ⟨ys, nf, rfl, hq, m1, m2⟩ S10
        walk_at "mz"
        refine tend (mu₂ := (fl, lstO ys nf) :: (c'.L + 1 + 1, on) :: mu) S10 (l2.trans (l3.trans l4)) rfl ⟨ys, nf, rfl, ?_, m1⟩
        have e : vs.length = ps.length := hps.length
        have h : All2 (QAt b4) ys (((List.range 5).filterMap (tempOf rs) ++ (List.range j).filterMap (outOf rs)) ++ ((ps.take vs.length).filterMap id).map fun p : Int => (⟨Str.ofString "out", p, j, (((takersOf rs j).headD 0 : Nat) : Int)⟩ : Oc)) := hq
        rw [e, List.take_length, hpsa] at h
        rw [show (List.range (j + 1)).filterMap (outOf rs) = (List.range j).filterMap (outOf rs) ++ [j].filterMap (outOf rs) by rw [List.range_succ, List.filterMap_append], List.filterMap_cons, List.filterMap_nil, ← List.append_assoc]
        have e2 : outOf rs j = r.a.map fun p : Int => (⟨Str.ofString "out", p, j, (((takersOf rs j).headD 0 : Nat) : Int)⟩ : Oc) := by unfold outOf; rw [hr]; rfl
        rw [e2]
        cases hra2 : r.a with
        | none => rw [hra2] at h; exact h
        | some p => rw [hra2] at h; exact h
    · rintro b2 mu2 m2 s7 l2 ⟨ys, nf, rfl, hq, m1⟩ S7
      walk_at "mz"
      have hq' : All2 (QAt b2) ys (lv rs) := by
        rw [hrs.length] at hq; exact hq
      have hl : (lv rs).length ≤ 16 := by
        have h2 := List.length_filterMap_le (tempOf rs) (List.range 5)
        have h3 := List.length_filterMap_le (outOf rs) (List.range rs.length)
        unfold lv
        simp only [List.length_range, List.length_append] at h2 h3 ⊢
        omega
      have hyl := hq'.length
      with_reducible refine e_bcall (id := "sorted") ?_ ?_
      ((with_reducible refine' z_bn (by assumption) ?hv ?hb ?hn ?_); (case hv => kernel_rfl); (case hb => boot_by_name); (case hn => decide); exact ⟨rfl, rfl⟩)
      walk_at "mz"
      have fin : ∀ D ys' es n b3 s', Le b2 b3 → c'.L < D → All2 (QAt b3) ys' es → es.Perm (lv rs) → SortedO es → St w c' b3 ((D, lstO ys' n) :: (fl, lstO ys nf) :: (c'.L + 1 + 1, on) :: mu) s' m2 → Q (.ref D) s' := fun D ys' es n b3 s' l3 hDL hqs hp hso S8 => by
        have l4 := Le.freeze S8
        have S9 := (S8.freeze hDL).drop (mu' := mu) (.cons _ (.cons _ (.refl _)))
        exact ret _ _ _ (l1.trans (hle.trans (l2.trans (l3.trans l4)))) (back _ _ _ _ S9) ⟨D, ys', es, n, rfl, Im.put_at .., hqs.imp fun _ _ q => q.le l4, hp, hso⟩
      by_cases h2 : 2 ≤ ys.length
      · exact b_sorted2 S7 (List.Mem.head _) hfl hq' hB hN h2 (by omega) fun D ys' es n s' hDL a1 a2 a3 S8 => fin D ys' es n b2 s' (Le.refl _) hDL a1 a2 a3 S8
      · exact b_sorted1 S7 (List.Mem.head _) hq' (by omega) fun D ys' es n b3 s' l3 hDL a1 a2 a3 S8 => fin D ys' es n b3 s' l3 hDL a1 a2 a3 S8
-- PL
theorem enP_old {rs : List Rs} {r : Rs} {j : Nat} (h : j < rs.length) : enP (rs ++ [r]) j = enP rs j := by unfold enP; rw [List.getElem?_append_left h]
theorem enP_new {rs : List Rs} {r : Rs} : enP (rs ++ [r]) rs.length = r.en := by unfold enP; rw [List.getElem?_append_right (Nat.le_refl _), Nat.sub_self]; rfl
theorem rowsP_old {rs : List Rs} {r : Rs} {k : Int} {j : Nat} (h : j < rs.length) : rowsP (rs ++ [r]) k j = rowsP rs k j := by unfold rowsP; rw [List.getElem?_append_left h]
theorem rowsP_new {rs : List Rs} {r : Rs} {k : Int} : rowsP (rs ++ [r]) k rs.length = (r.t == some k) := by unfold rowsP; rw [List.getElem?_append_right (Nat.le_refl _), Nat.sub_self]; rfl
theorem takers_snoc {rs : List Rs} {r : Rs} {j : Nat} (h : j ≤ rs.length) : takersOf (rs ++ [r]) j = takersOf rs j ++ (if r.en = true then [rs.length] else []) := by
  unfold takersOf
  have e : (rs ++ [r]).length - j = (rs.length - j) + 1 := by simp; omega
  rw [e, List.range_succ, List.map_append, List.filter_append]
  congr 1
  · refine List.filter_congr fun x hx => ?_
    obtain ⟨i, hi, rfl⟩ := List.mem_map.mp hx
    have := List.mem_range.mp hi
    exact enP_old (by omega)
  · rw [List.map_cons, List.map_nil, show j + (rs.length - j) = rs.length by omega, List.filter_cons, enP_new, List.filter_nil]
theorem takers_end {rs : List Rs} {j : Nat} (h : rs.length ≤ j) : takersOf rs j = [] := by unfold takersOf; rw [show rs.length - j = 0 by omega]; rfl
theorem takers_ge {rs : List Rs} {j e : Nat} {l : List Nat} (h : takersOf rs j = e :: l) : j ≤ e ∧ e < rs.length ∧ enP rs e = true := by
  have hm : e ∈ takersOf rs j := by rw [h]; exact .head _
  unfold takersOf at hm
  obtain ⟨h1, h2⟩ := List.mem_filter.mp hm
  obtain ⟨i, hi, rfl⟩ := List.mem_map.mp h1
  have := List.mem_range.mp hi
  exact ⟨by omega, by omega, h2⟩
theorem rowsT_snoc {rs : List Rs} {r : Rs} {k : Int} : rowsT (rs ++ [r]) k = rowsT rs k ++ (if (r.t == some k) = true then [rs.length] else []) := by
  unfold rowsT
  rw [List.length_append, show rs.length + [r].length = rs.length + 1 from rfl, List.range_succ, List.filter_append]
  congr 1
  · refine List.filter_congr fun x hx => rowsP_old (List.mem_range.mp hx)
  · rw [List.filter_cons, rowsP_new, List.filter_nil]
theorem rowsT_lt {rs : List Rs} {k : Int} {j : Nat} (h : j ∈ rowsT rs k) : j < rs.length := List.mem_range.mp (List.mem_filter.mp h).1
theorem tempOf_n {rs : List Rs} {k : Nat} {d : Oc} (h : tempOf rs k = some d) : d.n = k ∧ d.k = Str.ofString "temp" := by
  unfold tempOf at h
  split at h
  · cases h
  · cases h; exact ⟨rfl, rfl⟩
/-- what a temporary's occupation is, by its rows -/
theorem tempOf_cons {rs : List Rs} {k : Nat} {j : Nat} {l : List Nat} (h : rowsT rs k = j :: l) : ∃ z, (j :: l).getLast? = some z ∧ j < rs.length ∧ z < rs.length ∧
    tempOf rs k = some ⟨Str.ofString "temp", k, j, if (j : Int) + 1 > (z : Int) then (j : Int) + 1 else (z : Int)⟩ := by
  obtain ⟨z, hz⟩ : ∃ z, (j :: l).getLast? = some z := ⟨_, List.getLast?_eq_some_getLast (by simp)⟩
  refine ⟨z, hz, rowsT_lt (k := k) (by rw [h]; exact .head _), rowsT_lt (k := k) (by rw [h]; exact List.mem_of_getLast? hz), ?_⟩
  unfold tempOf
  rw [h]
  simp only [hz, Option.getD_some]
theorem tempOf_other {rs : List Rs} {r : Rs} {k : Nat} (h : r.t ≠ some (k : Int)) : tempOf (rs ++ [r]) k = tempOf rs k := by
  unfold tempOf
  rw [rowsT_snoc, if_neg (by simpa using h), List.append_nil]
theorem tempOf_same {rs : List Rs} {r : Rs} {k : Nat} (h : r.t = some (k : Int)) : tempOf (rs ++ [r]) k = some (match tempOf rs k with
    | none => ⟨Str.ofString "temp", k, rs.length, (rs.length : Int) + 1⟩
    | some d => if (rs.length : Int) > d.b then d.to rs.length else d) := by
  have e : rowsT (rs ++ [r]) k = rowsT rs k ++ [rs.length] := by rw [rowsT_snoc, if_pos (by simpa using h)]
  cases hr : rowsT rs k with
  | nil =>
    have e1 : tempOf rs k = none := by unfold tempOf; rw [hr]
    rw [hr] at e
    obtain ⟨z, hz, _, _, e2⟩ := tempOf_cons (rs := rs ++ [r]) (k := k) (j := rs.length) (l := []) e
    have : z = rs.length := by simpa using hz.symm
    subst this
    rw [e1, e2]
    simp only
    rw [if_pos (by omega)]
  | cons j l =>
    obtain ⟨z, hz, hj, hzl, e1⟩ := tempOf_cons hr
    rw [hr] at e
    obtain ⟨z', hz', _, _, e2⟩ := tempOf_cons (rs := rs ++ [r]) (k := k) (j := j) (l := l ++ [rs.length]) e
    have : z' = rs.length := by
      have e3 : ((j :: l) ++ [rs.length]).getLast? = some rs.length := List.getLast?_concat
      rw [List.cons_append] at e3
      rw [e3] at hz'
      exact (Option.some.inj hz').symm
    subst this
    rw [e1, e2]
    simp only [Oc.to]
    congr 1
    generalize hZ : (if (j : Int) + 1 > (z : Int) then (j : Int) + 1 else (z : Int)) = Z
    generalize hY : (if (j : Int) + 1 > (rs.length : Int) then (j : Int) + 1 else (rs.length : Int)) = Y
    have h1 : Y = rs.length := by rw [← hY]; split <;> omega
    have h2 : Z ≤ rs.length := by rw [← hZ]; split <;> omega
    rw [h1]
    split
    · rfl
    · rw [show Z = (rs.length : Int) by omega]
structure Inv (rs : List Rs) (s : Ps) : Prop where
  t1 : ∀ d, d ∈ s.ts ↔ ∃ k, k < 5 ∧ tempOf rs k = some d
  t2 : (s.ts.map (·.n)).Nodup
  p1 : ∀ d, d ∈ s.ps ↔ ∃ (j : Nat) (p : Int) (r : Rs), rs[j]? = some r ∧ r.a = some p ∧ d = ⟨Str.ofString "out", p, j, j + 1⟩ ∧ takersOf rs j = []
  f1 : ∀ d, d ∈ s.fs ↔ ∃ (j : Nat) (p : Int) (r : Rs) (e : Nat) (l : List Nat), rs[j]? = some r ∧ r.a = some p ∧ d = ⟨Str.ofString "out", p, j, e⟩ ∧ takersOf rs j = e :: l
  o2 : ((s.ps ++ s.fs).map (·.a)).Nodup
theorem first_d (n : Int) : ∀ l : List Oc, (∀ q ∈ l, q.n ≠ n) ∨ ∃ l1 q l2, l = l1 ++ q :: l2 ∧ (∀ q' ∈ l1, q'.n ≠ n) ∧ q.n = n
  | [] => .inl (fun _ h => nomatch h)
  | q :: l => if e : q.n = n then .inr ⟨[], q, l, rfl, (fun _ h => nomatch h), e⟩ else
    match first_d n l with
    | .inl h => .inl fun x hx => (List.mem_cons.mp hx).elim (fun q => q ▸ e) (h x)
    | .inr ⟨l1, q', l2, e1, h, e2⟩ => .inr ⟨q :: l1, q', l2, by rw [e1]; rfl, fun x hx => (List.mem_cons.mp hx).elim (fun q => q ▸ e) (h x), e2⟩
theorem t_step {rs : List Rs} {r : Rs} {ts : List Oc} {k0 : Nat} (h0 : k0 < 5) (hr : r.t = some (k0 : Int)) (t1 : ∀ d, d ∈ ts ↔ ∃ k, k < 5 ∧ tempOf rs k = some d) (t2 : (ts.map (·.n)).Nodup) :
    (∀ d, d ∈ upT rs.length k0 ts ↔ ∃ k, k < 5 ∧ tempOf (rs ++ [r]) k = some d) ∧ ((upT rs.length k0 ts).map (·.n)).Nodup := by
  have hne : ∀ {k : Nat}, k ≠ k0 → r.t ≠ some (k : Int) := fun h e => h (by rw [hr] at e; have := Option.some.inj e; omega)
  have hs := tempOf_same (rs := rs) hr
  rcases first_d (k0 : Int) ts with hno | ⟨l1, d0, l2, rfl, hno, hd0⟩
  · rw [upT_new hno]
    have hnone : tempOf rs k0 = none := by
      cases q : tempOf rs k0 with
      | none => rfl
      | some d => exact absurd (tempOf_n q).1 (hno d ((t1 d).mpr ⟨k0, h0, q⟩))
    rw [hnone] at hs
    refine ⟨fun d => ?_, ?_⟩
    · rw [List.mem_append, List.mem_singleton]
      constructor
      · rintro (h | rfl)
        · obtain ⟨k, hk, e⟩ := (t1 d).mp h
          refine ⟨k, hk, ?_⟩
          rw [tempOf_other (hne (fun q => by subst q; rw [hnone] at e; cases e))]
          exact e
        · exact ⟨k0, h0, hs⟩
      · rintro ⟨k, hk, e⟩
        by_cases q : k = k0
        · subst q; rw [hs] at e; exact .inr (Option.some.inj e).symm
        · rw [tempOf_other (hne q)] at e
          exact .inl ((t1 d).mpr ⟨k, hk, e⟩)
    · rw [List.map_append]
      refine List.nodup_append.mpr ⟨t2, by simp, ?_⟩
      intro a ha b hb
      obtain ⟨d, hd, rfl⟩ := List.mem_map.mp ha
      simp at hb
      rw [hb]
      exact hno d hd
  · rw [upT_old hno hd0]
    have hm0 : d0 ∈ l1 ++ d0 :: l2 := by simp
    obtain ⟨k, hk, e0⟩ := (t1 d0).mp hm0
    have hk0 : k = k0 := by have := (tempOf_n e0).1; omega
    subst hk0
    rw [e0] at hs
    have hs' : tempOf (rs ++ [r]) k = some (if (rs.length : Int) > d0.b then d0.to rs.length else d0) := hs
    rw [List.map_append, List.map_cons] at t2
    obtain ⟨n1, n2, n3⟩ := List.nodup_append.mp t2
    rw [List.nodup_cons] at n2
    have hno2 : ∀ q ∈ l2, q.n ≠ (k : Int) := fun q hq e => n2.1 (List.mem_map.mpr ⟨q, hq, by rw [e, hd0]⟩)
    generalize hd1 : (if (rs.length : Int) > d0.b then d0.to rs.length else d0) = d1 at hs' ⊢
    have hd1n : d1.n = d0.n := by rw [← hd1]; split <;> rfl
    refine ⟨fun d => ?_, ?_⟩
    · rw [List.mem_append, List.mem_cons]
      constructor
      · rintro (h | rfl | h)
        · obtain ⟨k', hk', e⟩ := (t1 d).mp (by simp [h])
          refine ⟨k', hk', ?_⟩
          rw [tempOf_other (hne (fun q => by subst q; exact hno d h (tempOf_n e).1))]
          exact e
        · exact ⟨k, hk, hs'⟩
        · obtain ⟨k', hk', e⟩ := (t1 d).mp (by simp [h])
          refine ⟨k', hk', ?_⟩
          rw [tempOf_other (hne (fun q => by subst q; exact hno2 d h (tempOf_n e).1))]
          exact e
      · rintro ⟨k', hk', e⟩
        by_cases q : k' = k
        · subst q; rw [hs'] at e; exact .inr (.inl (Option.some.inj e).symm)
        · rw [tempOf_other (hne q)] at e
          have := (t1 d).mpr ⟨k', hk', e⟩
          rw [List.mem_append, List.mem_cons] at this
          rcases this with h | rfl | h
          · exact .inl h
          · exact absurd (tempOf_n e).1 (by rw [hd0]; omega)
          · exact .inr (.inr h)
    · rw [List.map_append, List.map_cons, hd1n]
      exact t2
theorem row_ts (at_ : Int) (s : Ps) (r : Rs) : (rowS at_ s r).ts = (match r.t with | some n => upT at_ n s.ts | none => s.ts) := by
  obtain ⟨t, a, en⟩ := r
  cases t <;> cases a <;> cases en <;> rfl
theorem row_ps (at_ : Int) (s : Ps) (r : Rs) : (rowS at_ s r).ps = (if r.en = true then [] else s.ps) ++ (match r.a with | some p => [⟨Str.ofString "out", p, at_, at_ + 1⟩] | none => []) := by
  obtain ⟨t, a, en⟩ := r
  cases t <;> cases a <;> cases en <;> first | rfl | exact (List.append_nil _).symm
theorem row_fs (at_ : Int) (s : Ps) (r : Rs) : (rowS at_ s r).fs = if r.en = true then s.ps.map (·.to at_) ++ s.fs else s.fs := by
  obtain ⟨t, a, en⟩ := r
  cases t <;> cases a <;> cases en <;> rfl
theorem get_snoc {rs : List Rs} {r r' : Rs} {j : Nat} : (rs ++ [r])[j]? = some r' ↔ rs[j]? = some r' ∨ (j = rs.length ∧ r' = r) := by
  constructor
  · intro h
    by_cases q : j < rs.length
    · rw [List.getElem?_append_left q] at h; exact .inl h
    · have : j = rs.length := by have := (List.getElem?_eq_some_iff.mp h).1; simp at this; omega
      subst this
      rw [List.getElem?_append_right (Nat.le_refl _), Nat.sub_self] at h
      exact .inr ⟨rfl, (Option.some.inj h).symm⟩
  · rintro (h | ⟨rfl, rfl⟩)
    · rw [List.getElem?_append_left (List.getElem?_eq_some_iff.mp h).1]; exact h
    · rw [List.getElem?_append_right (Nat.le_refl _), Nat.sub_self]; rfl
theorem inv_of {rs : List Rs} {u : Nat} (h : Val rs u) : Inv rs (runS rs).2 := by
  induction h with
  | nil =>
    refine ⟨fun d => ⟨(fun h => nomatch h), ?_⟩, List.nodup_nil, fun d => ⟨(fun h => nomatch h), ?_⟩, fun d => ⟨(fun h => nomatch h), ?_⟩, List.nodup_nil⟩
    · rintro ⟨k, _, e⟩; cases e
    · rintro ⟨j, p, r, e, _⟩; simp at e
    · rintro ⟨j, p, r, _, _, e, _⟩; simp at e
  | @snoc rs u r hv h1 h2 ih =>
    rw [runS_snoc]
    show Inv _ (rowS _ _ r)
    rw [runS_len]
    generalize (runS rs).2 = s at ih
    obtain ⟨t1, t2, p1, f1, o2⟩ := ih
    have T : (∀ d, d ∈ (rowS rs.length s r).ts ↔ ∃ k, k < 5 ∧ tempOf (rs ++ [r]) k = some d) ∧ ((rowS rs.length s r).ts.map (·.n)).Nodup := by
      rw [row_ts]
      cases ht : r.t with
      | none =>
        refine ⟨fun d => ?_, t2⟩
        have e : ∀ k : Nat, tempOf (rs ++ [r]) k = tempOf rs k := fun k => tempOf_other (by rw [ht]; exact fun e => by cases e)
        simp only [e]
        exact t1 d
      | some n =>
        obtain ⟨ha, hb⟩ := h1 n ht
        obtain ⟨k0, rfl⟩ := Int.eq_ofNat_of_zero_le ha
        exact t_step (by omega) ht t1 t2
    refine ⟨T.1, T.2, ?_, ?_, ?_⟩
    all_goals
      first | rw [row_ps] | skip
      first | rw [row_fs] | skip
    · intro d
      cases hen : r.en with
      | true =>
        have hra : r.a = none := by
          cases q : r.a with
          | none => rfl
          | some p => have := (h2 p q).2.2; rw [hen] at this; cases this
        rw [hra, if_pos rfl, List.append_nil]
        refine ⟨(fun h => nomatch h), ?_⟩
        rintro ⟨j, p, r', hj, ha', rfl, htk⟩
        rcases get_snoc.mp hj with hj | ⟨rfl, rfl⟩
        · rw [takers_snoc (Nat.le_of_lt (List.getElem?_eq_some_iff.mp hj).1), hen, if_pos rfl] at htk
          exact absurd (congrArg List.length htk) (by simp)
        · rw [hra] at ha'; cases ha'
      | false =>
        rw [if_neg (by decide), List.mem_append, p1]
        have tk : ∀ j, j ≤ rs.length → takersOf (rs ++ [r]) j = takersOf rs j := fun j hj => by rw [takers_snoc hj, hen, if_neg (by decide), List.append_nil]
        constructor
        · rintro (⟨j, p, r', hj, ha', rfl, htk⟩ | h)
          · exact ⟨j, p, r', get_snoc.mpr (.inl hj), ha', rfl, by rw [tk _ (Nat.le_of_lt (List.getElem?_eq_some_iff.mp hj).1)]; exact htk⟩
          · cases hra : r.a with
            | none => rw [hra] at h; cases h
            | some p =>
              rw [hra] at h
              obtain rfl := List.mem_singleton.mp h
              exact ⟨rs.length, p, r, get_snoc.mpr (.inr ⟨rfl, rfl⟩), hra, rfl, by rw [tk _ (Nat.le_refl _)]; exact takers_end (Nat.le_refl _)⟩
        · rintro ⟨j, p, r', hj, ha', rfl, htk⟩
          rcases get_snoc.mp hj with hj | ⟨rfl, rfl⟩
          · rw [tk _ (Nat.le_of_lt (List.getElem?_eq_some_iff.mp hj).1)] at htk
            exact .inl ⟨j, p, r', hj, ha', rfl, htk⟩
          · rw [ha']; exact .inr (.head _)
    · intro d
      cases hen : r.en with
      | true =>
        have hra : r.a = none := by
          cases q : r.a with
          | none => rfl
          | some p => have := (h2 p q).2.2; rw [hen] at this; cases this
        rw [if_pos rfl, List.mem_append, f1]
        have tk : ∀ j, j ≤ rs.length → takersOf (rs ++ [r]) j = takersOf rs j ++ [rs.length] := fun j hj => by rw [takers_snoc hj, hen, if_pos rfl]
        constructor
        · rintro (h | ⟨j, p, r', e, l, hj, ha', rfl, htk⟩)
          · obtain ⟨d0, hd0, rfl⟩ := List.mem_map.mp h
            obtain ⟨j, p, r', hj, ha', rfl, htk⟩ := (p1 d0).mp hd0
            exact ⟨j, p, r', rs.length, [], get_snoc.mpr (.inl hj), ha', rfl, by rw [tk _ (Nat.le_of_lt (List.getElem?_eq_some_iff.mp hj).1), htk]; rfl⟩
          · exact ⟨j, p, r', e, l ++ [rs.length], get_snoc.mpr (.inl hj), ha', rfl, by rw [tk _ (Nat.le_of_lt (List.getElem?_eq_some_iff.mp hj).1), htk]; rfl⟩
        · rintro ⟨j, p, r', e, l, hj, ha', rfl, htk⟩
          rcases get_snoc.mp hj with hj | ⟨rfl, rfl⟩
          · rw [tk _ (Nat.le_of_lt (List.getElem?_eq_some_iff.mp hj).1)] at htk
            cases hq : takersOf rs j with
            | nil =>
              rw [hq, List.nil_append] at htk
              obtain ⟨rfl, _⟩ := List.cons.inj htk
              exact .inl (List.mem_map.mpr ⟨⟨Str.ofString "out", p, j, j + 1⟩, (p1 _).mpr ⟨j, p, r', hj, ha', rfl, hq⟩, rfl⟩)
            | cons e' l' =>
              rw [hq, List.cons_append] at htk
              obtain ⟨rfl, _⟩ := List.cons.inj htk
              exact .inr ⟨j, p, r', e', l', hj, ha', rfl, hq⟩
          · rw [hra] at ha'; cases ha'
      | false =>
        rw [if_neg (by decide), f1]
        have tk : ∀ j, j ≤ rs.length → takersOf (rs ++ [r]) j = takersOf rs j := fun j hj => by rw [takers_snoc hj, hen, if_neg (by decide), List.append_nil]
        constructor
        · rintro ⟨j, p, r', e, l, hj, ha', rfl, htk⟩
          exact ⟨j, p, r', e, l, get_snoc.mpr (.inl hj), ha', rfl, by rw [tk _ (Nat.le_of_lt (List.getElem?_eq_some_iff.mp hj).1)]; exact htk⟩
        · rintro ⟨j, p, r', e, l, hj, ha', rfl, htk⟩
          rcases get_snoc.mp hj with hj | ⟨rfl, rfl⟩
          · rw [tk _ (Nat.le_of_lt (List.getElem?_eq_some_iff.mp hj).1)] at htk
            exact ⟨j, p, r', e, l, hj, ha', rfl, htk⟩
          · rw [tk _ (Nat.le_refl _), takers_end (Nat.le_refl _)] at htk; cases htk
    · have lt : ∀ d ∈ s.ps ++ s.fs, d.a < (rs.length : Int) := fun d hd => by
        rcases List.mem_append.mp hd with h | h
        · obtain ⟨j, p, r', hj, _, rfl, _⟩ := (p1 d).mp h
          have := (List.getElem?_eq_some_iff.mp hj).1
          show (j : Int) < _
          omega
        · obtain ⟨j, p, r', e, l, hj, _, rfl, _⟩ := (f1 d).mp h
          have := (List.getElem?_eq_some_iff.mp hj).1
          show (j : Int) < _
          omega
      have e1 : (s.ps.map (·.to (rs.length : Int))).map (·.a) = s.ps.map (·.a) := by rw [List.map_map]; rfl
      cases hen : r.en with
      | true =>
        have hra : r.a = none := by
          cases q : r.a with
          | none => rfl
          | some p => have := (h2 p q).2.2; rw [hen] at this; cases this
        rw [hra, if_pos rfl, if_pos rfl, List.append_nil, List.nil_append, List.map_append, e1, ← List.map_append]
        exact o2
      | false =>
        rw [if_neg (by decide), if_neg (by decide)]
        cases hra : r.a with
        | none => rw [List.append_nil]; exact o2
        | some p =>
          have e2 : (s.ps ++ [(⟨Str.ofString "out", p, rs.length, (rs.length : Int) + 1⟩ : Oc)] ++ s.fs).Perm ((⟨Str.ofString "out", p, rs.length, (rs.length : Int) + 1⟩ : Oc) :: (s.ps ++ s.fs)) := by
            rw [List.append_assoc]; exact List.perm_middle
          refine ((e2.map (·.a)).nodup_iff).mpr ?_
          rw [List.map_cons, List.nodup_cons]
          refine ⟨fun q => ?_, o2⟩
          obtain ⟨d, hd, e⟩ := List.mem_map.mp q
          have := lt d hd
          have e' : d.a = (rs.length : Int) := e
          omega
-- PL2
theorem perm_of_mem {α : Type} : ∀ {l l' : List α}, l.Nodup → l'.Nodup → (∀ x, x ∈ l ↔ x ∈ l') → l.Perm l'
  | [], l', _, _, h => by
    cases l' with
    | nil => exact .refl _
    | cons a r => exact nomatch (h a).mpr (.head _)
  | a :: r, l', h1, h2, h => by
    obtain ⟨s, t, rfl⟩ := List.append_of_mem ((h a).mp (.head _))
    rw [List.nodup_cons] at h1
    have h2' := ((List.perm_middle (l₁ := s) (a := a) (l₂ := t)).nodup_iff).mp h2
    rw [List.nodup_cons] at h2'
    refine ((perm_of_mem h1.2 h2'.2 fun x => ?_).cons a).trans List.perm_middle.symm
    constructor
    · intro hx
      have := (h x).mp (.tail _ hx)
      have := (List.perm_middle.mem_iff).mp this
      rcases List.mem_cons.mp this with rfl | this
      · exact absurd hx h1.1
      · exact this
    · intro hx
      have := (h x).mpr ((List.perm_middle.mem_iff).mpr (.tail _ hx))
      rcases List.mem_cons.mp this with rfl | this
      · exact absurd hx h2'.1
      · exact this
theorem nodup_of_map {α β : Type} {f : α → β} : ∀ {l : List α}, (l.map f).Nodup → l.Nodup
  | [], _ => List.nodup_nil
  | a :: l, h => by
    rw [List.map_cons, List.nodup_cons] at h
    exact List.nodup_cons.mpr ⟨fun q => h.1 (List.mem_map.mpr ⟨a, q, rfl⟩), nodup_of_map h.2⟩
theorem nodup_fm {f : Nat → Option Oc} {g : Oc → Int} (h : ∀ k d, f k = some d → g d = k) : ∀ l : List Nat, l.Nodup → (l.filterMap f).Nodup
  | [], _ => List.nodup_nil
  | a :: l, hn => by
    rw [List.nodup_cons] at hn
    rw [List.filterMap_cons]
    have ih := nodup_fm h l hn.2
    cases q : f a with
    | none => exact ih
    | some d =>
      rw [List.nodup_cons]
      refine ⟨fun hd => ?_, ih⟩
      obtain ⟨k, hk, e⟩ := List.mem_filterMap.mp hd
      have h1 := h _ _ q
      have h2 := h _ _ e
      have : a = k := by omega
      exact hn.1 (this ▸ hk)
theorem outOf_iff {rs : List Rs} {j : Nat} {d : Oc} : outOf rs j = some d ↔ ∃ r p, rs[j]? = some r ∧ r.a = some p ∧ d = ⟨Str.ofString "out", p, j, (((takersOf rs j).headD 0 : Nat) : Int)⟩ := by
  unfold outOf
  rw [Option.bind_eq_some_iff]
  constructor
  · rintro ⟨r, hr, e⟩
    obtain ⟨p, hp, rfl⟩ := Option.map_eq_some_iff.mp e
    exact ⟨r, p, hr, hp, rfl⟩
  · rintro ⟨r, p, hr, hp, rfl⟩
    exact ⟨r, hr, by rw [hp]; rfl⟩
theorem lv_mem {rs : List Rs} {d : Oc} : d ∈ lv rs ↔ (∃ k, k < 5 ∧ tempOf rs k = some d) ∨ ∃ j, j < rs.length ∧ outOf rs j = some d := by
  unfold lv
  rw [List.mem_append, List.mem_filterMap, List.mem_filterMap]
  simp only [List.mem_range]
abbrev rsE (rs : List Rs) : List Rs := rs ++ [⟨none, none, true⟩]
theorem val_end {rs : List Rs} {u : Nat} (h : Val rs u) : Val (rsE rs) 0 := .snoc (r := ⟨none, none, true⟩) h (fun _ e => by cases e) (fun _ e => by cases e)
theorem takers_ne {rs : List Rs} : ∀ j, j < (rsE rs).length → takersOf (rsE rs) j ≠ [] := fun j hj e => by
  have hj' : j ≤ rs.length := by simp at hj; omega
  rw [takers_snoc hj', if_pos rfl] at e
  exact absurd (congrArg List.length e) (by simp)
theorem lv_nodup (rs : List Rs) : (lv rs).Nodup := by
  refine List.nodup_append.mpr ⟨nodup_fm (g := fun d => d.n) (fun k d h => (tempOf_n h).1) _ List.nodup_range, nodup_fm (g := fun d => d.a) (fun j d h => ?_) _ List.nodup_range, ?_⟩
  · obtain ⟨r, p, _, _, rfl⟩ := outOf_iff.mp h; rfl
  · intro d hd e he q
    subst q
    obtain ⟨k, _, h1⟩ := List.mem_filterMap.mp hd
    obtain ⟨j, _, h2⟩ := List.mem_filterMap.mp he
    obtain ⟨r, p, _, _, rfl⟩ := outOf_iff.mp h2
    exact to_ne (tempOf_n h1).2
/-- every occupation of the law's is in bounds, and not empty -/
theorem lv_ok {rs : List Rs} {u : Nat} (hv : Val rs u) (hne : ∀ j, j < rs.length → takersOf rs j ≠ []) (hlen : rs.length ≤ 11) : ∀ d ∈ lv rs, BO d ∧ keepO d = true := by
  intro d hd
  rcases lv_mem.mp hd with ⟨k, hk, e⟩ | ⟨j, hj, e⟩
  · cases hr : rowsT rs k with
    | nil => unfold tempOf at e; rw [hr] at e; cases e
    | cons j l =>
      obtain ⟨z, hz, hj, hzl, e1⟩ := tempOf_cons hr
      rw [e] at e1
      have hb : (j : Int) + 1 ≤ (if (j : Int) + 1 > (z : Int) then (j : Int) + 1 else (z : Int)) ∧ (if (j : Int) + 1 > (z : Int) then (j : Int) + 1 else (z : Int)) ≤ 11 := by split <;> omega
      generalize (if (j : Int) + 1 > (z : Int) then (j : Int) + 1 else (z : Int)) = Z at hb e1
      obtain rfl := Option.some.inj e1
      refine ⟨⟨.inl rfl, ?_, ?_, ?_⟩, decide_eq_true ?_⟩
      · show (0 : Int) ≤ k ∧ (k : Int) < 100; omega
      · show (0 : Int) ≤ j ∧ (j : Int) < 100; omega
      · show 0 ≤ Z ∧ Z < 100; omega
      · show (j : Int) < Z
        omega
  · obtain ⟨r, p, hr, hp, rfl⟩ := outOf_iff.mp e
    obtain ⟨u', hv', _, hA⟩ := val_take hv j r hr
    obtain ⟨hp1, hp2, hen⟩ := hA p hp
    cases htk : takersOf rs j with
    | nil => exact absurd htk (hne j hj)
    | cons z l =>
      obtain ⟨g1, g2, g3⟩ := takers_ge htk
      have hzj : z ≠ j := fun q => by
        subst q
        unfold enP at g3
        rw [hr] at g3
        simp only at g3
        rw [hen] at g3
        cases g3
      refine ⟨⟨.inr rfl, ?_, ?_, ?_⟩, decide_eq_true ?_⟩
      · show 0 ≤ p ∧ p < 100; omega
      · show (0 : Int) ≤ j ∧ (j : Int) < 100; omega
      · show (0 : Int) ≤ ((((z :: l).headD 0 : Nat)) : Int) ∧ ((((z :: l).headD 0 : Nat)) : Int) < 100
        rw [List.headD_cons]; omega
      · show (j : Int) < ((((z :: l).headD 0 : Nat)) : Int)
        rw [List.headD_cons]; omega
theorem plain_law {rs : List Rs} {u : Nat} (hv : Val rs u) (hne : ∀ j, j < rs.length → takersOf rs j ≠ []) (hlen : rs.length ≤ 11) : ((allP (runS rs).2).filter keepO).Perm (lv rs) := by
  obtain ⟨t1, t2, p1, f1, o2⟩ := inv_of hv
  have hps : (runS rs).2.ps = [] := by
    cases q : (runS rs).2.ps with
    | nil => rfl
    | cons d l =>
      obtain ⟨j, p, r, hj, _, _, htk⟩ := (p1 d).mp (by rw [q]; exact .head _)
      exact absurd htk (hne j (List.getElem?_eq_some_iff.mp hj).1)
  have hmem : ∀ d, d ∈ allP (runS rs).2 ↔ d ∈ lv rs := fun d => by
    unfold allP
    rw [hps, List.nil_append, List.mem_append, t1, f1, lv_mem]
    refine or_congr Iff.rfl ⟨?_, ?_⟩
    · rintro ⟨j, p, r, e, l, hj, ha, rfl, htk⟩
      exact ⟨j, (List.getElem?_eq_some_iff.mp hj).1, outOf_iff.mpr ⟨r, p, hj, ha, by rw [htk]; rfl⟩⟩
    · rintro ⟨j, hj, e⟩
      obtain ⟨r, p, hr, hp, rfl⟩ := outOf_iff.mp e
      cases htk : takersOf rs j with
      | nil => exact absurd htk (hne j hj)
      | cons z l => exact ⟨j, p, r, z, l, hr, hp, rfl, htk⟩
  have hnd : (allP (runS rs).2).Nodup := by
    unfold allP
    refine List.nodup_append.mpr ⟨nodup_of_map t2, nodup_of_map o2, ?_⟩
    intro d hd e he q
    subst q
    obtain ⟨k, _, h1⟩ := (t1 d).mp hd
    rw [hps, List.nil_append] at he
    obtain ⟨j, p, r, e, l, _, _, rfl, _⟩ := (f1 d).mp he
    exact to_ne (tempOf_n h1).2
  have hkeep : (allP (runS rs).2).filter keepO = allP (runS rs).2 := List.filter_eq_self.mpr fun d hd => (lv_ok hv hne hlen d ((hmem d).mp hd)).2
  rw [hkeep]
  exact perm_of_mem hnd (lv_nodup rs) hmem
theorem sorted_eq : ∀ {l l' : List Oc}, SortedO l → SortedO l' → l.Perm l' → l = l'
  | [], l', _, _, h => (List.length_eq_zero_iff.mp h.length_eq.symm).symm
  | a :: r, [], _, _, h => nomatch h.length_eq
  | a :: r, a' :: r', h1, h2, h => by
    unfold SortedO at h1 h2
    rw [List.pairwise_cons] at h1 h2
    have e : a = a' := by
      have m1 : a ∈ a' :: r' := h.subset (.head _)
      have m2 : a' ∈ a :: r := h.symm.subset (.head _)
      rcases List.mem_cons.mp m1 with e | m1
      · exact e
      · rcases List.mem_cons.mp m2 with e | m2
        · exact e.symm
        · have := h1.1 _ m2
          have := h2.1 _ m1
          omega
    subst e
    rw [sorted_eq h1.2 h2.2 ((List.perm_cons _).mp h)]
-- F11
theorem ints_mem {vs : List Value} {ns : List Int} (h : IntsAre vs ns) : ∀ v ∈ vs, ∃ i t, v = .int i t := by
  induction h with
  | nil => intro v h; cases h
  | cons n t r ih =>
    intro v h
    rcases List.mem_cons.mp h with e | h
    · exact ⟨n, t, e⟩
    · exact ih v h
theorem ints_of : ∀ {vs : List Value}, (∀ v ∈ vs, ∃ i t, v = .int i t) → ∃ ns, IntsAre vs ns ∧ ns.length = vs.length
  | [], _ => ⟨[], .nil, rfl⟩
  | v :: vs, h => by
    obtain ⟨i, t, rfl⟩ := h v (.head _)
    obtain ⟨ns, h1, h2⟩ := ints_of fun v hv => h v (.tail _ hv)
    exact ⟨i :: ns, .cons i t h1, congrArg (· + 1) h2⟩
section
variable {w : World} {c : Cx} {b : Im} {mu : Led} {s : Shared} {m : Str → Option Value} {A : Around} {env : Env}
/-- l[:j] of a list -/
theorem e_slL {v : Expr} {j : Int} {k : Nat} {pj sp : Pos} {a : Addr} {o : Obj} {vs : List Value} {Q : Value → Shared → Prop} (S : St w c b mu s m) (ha : b a = some o) (hl : LO o vs) (hz : vs.length ≤ sizeLine)
    (K : ∀ a' b' s' vs', Le b b' → (∀ x ∈ vs', x ∈ vs) → vs'.length ≤ vs.length → b' a' = some (lstO vs') → St w c b' mu s' m → Q (.ref a') s')
    (hs : ∀ t a, subscripted (.Slice none (some (.Constant (.int j) k pj)) none sp) false (.ref t) (.ref a) = operate [.ref a, .ref t] (getItem (.ref t) (.ref a)) := by intro _ _; kernel_rfl) :
    wpAny (model PR w) A (eval (.Slice none (some (.Constant (.int j) k pj)) none sp) env) (fun i s₂ => wpAny (model PR w) A (subscriptTail v (.Slice none (some (.Constant (.int j) k pj)) none sp) (.ref a) i) Q NoE s₂) NoE s := by
  refine wpAny_Slice (wpAny_evalPart_none (wpAny_evalPart_some (wpAny_Constant_int (wpAny_evalPart_none ?_))))
  have S1 : St w c b mu { s with heap := s.heap.push { cls := .type "slice", data := .fields #[.none, .int j s.toks, .none] }, toks := s.toks + 1 } m := S.grow (t := s.toks + 1) fun _ _ e => Heap.get?_push_of_some _ e
  have hls := hl.isList (S1.keep _ _ ha)
  refine tail_any (s := { s with heap := s.heap.push { cls := .type "slice", data := .fields #[.none, .int j s.toks, .none] }, toks := s.toks + 1 }) hls.typeIs slot_list_getitem.lookup
    (wpAny_getItem_list_slice hls (Heap.IsSliceOf.new ..) .none (.int _ _) .none (by decide) ?_ (by simpa using hz)) (hs _ _)
  obtain ⟨vs', hvs'⟩ : ∃ vs' : List Value, slicePick vs.toArray none (some j) none = vs'.toArray := ⟨(slicePick vs.toArray none (some j) none).toList, by simp⟩
  have h1 := slicePick_size_le vs.toArray none (some j) none
  have h2 : ∀ x ∈ (slicePick vs.toArray none (some j) none).toList, x ∈ vs := fun x hx => by
    unfold slicePick at hx
    obtain ⟨i, _, e⟩ := List.mem_filterMap.mp (by simpa using hx)
    exact List.mem_of_getElem? (by simpa using e)
  rw [hvs'] at h1 h2 ⊢
  have S2 := S1.pushI (o := lstO vs') rfl
  exact K _ _ _ vs' (Le.put S1 (Nat.le_refl _)) (by simpa using h2) (by simpa using h1) (Im.put_at ..) S2
theorem QAt.rd {v : Value} {d : Oc} (h : QAt b v d) : RD b v (.tuple [.str d.k, .int d.n, .int d.a, .int d.b]) := by
  obtain ⟨a, t1, t2, t3, t4, rfl, ha⟩ := h
  exact RD.tup ha (.cons (RD.str _ _ _) (.cons (RD.int _ _ _) (.cons (RD.int _ _ _) (.cons (RD.int _ _ _) .nil))))
def quad (d : Oc) : PyData := .tuple [.str d.k, .int d.n, .int d.a, .int d.b]
theorem quads_rd {vs : List Value} {ds : List Oc} (h : All2 (QAt b) vs ds) : All2 (RD b) vs (ds.map quad) := by
  induction h with
  | nil => exact .nil
  | cons x _ ih => exact .cons x.rd ih
theorem quads_lay {ds : List Oc} (h : ∀ d ∈ ds, BO d) : (PyData.list (ds.map quad)).canLay0 = true := by
  show PyData.canLayAll0 _ = true
  refine canLayAll_of fun x hx => ?_
  obtain ⟨d, hd, rfl⟩ := List.mem_map.mp hx
  obtain ⟨k, n, a, z⟩ := d
  rcases (h _ hd).k with e | e
  · dsimp only at e; subst e; kernel_rfl
  · dsimp only at e; subst e; kernel_rfl
theorem quads_deep (ds : List Oc) : (PyData.list (ds.map quad)).depth ≤ 64 := by
  have := depthAll_of (n := 2) (ds := ds.map quad) fun x hx => by obtain ⟨d, hd, rfl⟩ := List.mem_map.mp hx; exact Nat.le_of_ble_eq_true (by kernel_rfl)
  show PyData.depthAll _ + 1 ≤ 64
  omega
/-- sorted, of rows of four -/
theorem b_sorted {l : Addr} {vs : List Value} {ds : List Oc} {n : Nat} {Q : Value → Shared → Prop} (S : St w c b mu s m) (hm : (l, lstO vs n) ∈ mu) (hlc : c.L < l) (h : All2 (QAt b) vs ds) (hb : ∀ d ∈ ds, BO d) (hnd : ds.Nodup) (h64 : vs.length < 64)
    (ret : ∀ D ys es n b' s', Le b b' → c.L < D → All2 (QAt b') ys es → es.Perm ds → SortedO es → St w c b' ((D, lstO ys n) :: mu) s' m → Q (.ref D) s') :
    wpAny (model PR w) A (call (.builtin "sorted") [.ref l]) Q NoE s := by
  by_cases h2 : 2 ≤ vs.length
  · exact b_sorted2 S hm hlc h hb hnd h2 h64 fun D ys es n s' a1 a2 a3 a4 a5 => ret D ys es n b s' (Le.refl _) a1 a2 a3 a4 a5
  · exact b_sorted1 S hm h (by omega) ret
theorem t_not {x : Expr} {pos : Pos} {whole : Sem Value} {Q : Bool → Shared → Prop} (h : wpAny (model PR w) A (isTrue x env (eval x env)) (fun b s₁ => Q (!b) s₁) NoE s) : wpAny (model PR w) A (isTrue (.UnaryOp .Not x pos) env whole) Q NoE s := wpAny_isTrue_Not h
end
theorem pick4 {b : Im} {ll : Addr} {n : Nat} {a c d e : Str} {t1 t2 t3 t4 : Tok} (h : b ll = some (lstO [.str a t1, .str c t2, .str d t3, .str e t4] n)) {r : Int} (h0 : 0 ≤ r) (h4 : r < 4) :
    ∃ q tq, ([.str a t1, .str c t2, .str d t3, .str e t4] : List Value)[r.toNat]? = some (.str q tq) ∧ (q = a ∨ q = c ∨ q = d ∨ q = e) := by
  have : r = 0 ∨ r = 1 ∨ r = 2 ∨ r = 3 := by omega
  rcases this with rfl | rfl | rfl | rfl
  · exact ⟨a, t1, rfl, .inl rfl⟩
  · exact ⟨c, t2, rfl, .inr (.inl rfl)⟩
  · exact ⟨d, t3, rfl, .inr (.inr (.inl rfl))⟩
  · exact ⟨e, t4, rfl, .inr (.inr (.inr rfl))⟩
-- Fin
theorem caller_am (env : Env) : Am (callerA.deeper env) 5 := ⟨rfl, by show 1 + claimMargin + 1 + 5 < recursionLimit; decide, by show 4 + 3 + 10 * 5 + 200 < cLine; decide⟩
theorem start_law {w : World} {s₀ s₁ : Shared} {h₁ : Heap} {mg mb : Str → Option Value} {l : Addr} {vs : List Value} {ns : List Int} {m : Str → Option Value} {tk : Nat} {A : Around} {qual : Str} {scope : Scope} {f : Addr} {cdv : Value} {body : List Stmt} {Q : Flow → Shared → Prop} {E : Value → Shared → Prop}
    (KX : (hd.heap_39 w.params).In s₁.heap) (T : Top hd.view_39 (looseW hd.view_39 []) (ExcName.means s₀.heap) mg mb s₁.heap) (hg : s₁.gens = #[]) (hL : s₁.heap.IsList l vs.toArray) (hI : IntsAre vs ns) (hn : ¬ (63 : Int) < (ns.length : Int))
    (F : Fr s₁.heap s₁.heap.objs.size h₁ m) (hA : Am (A.deeper (envOf qual scope s₁.heap.objs.size f cdv)) 5)
    (k : ∀ (c : Cx) (s0 : Shared) (b : Im) (o : Obj) (P : Flow → Shared → Prop), b l = some o → LO o vs → IntsAre vs ns → vs.length ≤ 64 → Am (A.deeper (envOf qual scope c.L f cdv)) 5 → St w c b [] s0 m → (∀ b' s' m', St w c b' [] s' m' → P (.ret (.bool true)) s') →
      wpAny (model PR w) (A.deeper (envOf qual scope c.L f cdv)) (execs body (envOf qual scope c.L f cdv)) P NoE s0)
    (q : ∀ s' m', Fr s₁.heap s₁.heap.objs.size s'.heap m' → s'.gens = #[] → s'.os = s₁.os → Q (.ret (.bool true)) s') :
    wpAny (model PR w) (A.deeper (envOf qual scope s₁.heap.objs.size f cdv)) (execs body (envOf qual scope s₁.heap.objs.size f cdv)) Q E { s₁ with heap := h₁, toks := tk } := by
  obtain ⟨o, ho, hc, n, hd'⟩ := hL
  have hlt : l < s₁.heap.objs.size := Heap.lt_size ho
  let b : Im := fun a => if a = l then some o else none
  let c : Cx := ⟨s₁.heap, b, s₁.heap.objs.size, s₁.gens, s₁.drawn, s₁.os⟩
  have S : St w c b [] { s₁ with heap := h₁, toks := tk } m := by
    refine ⟨⟨KX, _, _, _, T⟩, F, fun a y e => ?_, fun _ _ => rfl, if_neg (Nat.ne_of_gt hlt), Le.refl _, (fun _ h => nomatch h), List.nodup_nil, rfl, rfl, rfl⟩
    by_cases q : a = l
    · subst q
      have e' : some o = some y := by rw [← e]; exact (if_pos rfl).symm
      cases e'
      exact F.keep _ _ ho
    · exact nomatch (show none = some y from (if_neg q).symm.trans e)
  have hvl : vs.length = ns.length := by have := hI.length; simpa using this
  refine wpAny_mono (k c _ b o (fun fl s' => fl = .ret (.bool true) ∧ ∃ b' m', St w c b' [] s' m') (if_pos rfl) ⟨hc, n, hd'⟩ hI (by omega) hA S fun b' s' m' Z => ⟨rfl, b', m', Z⟩) (fun fl s' h => ?_) fun _ _ x => x.elim
  obtain ⟨rfl, b', m', Z⟩ := h
  exact q s' m' Z.fr (Z.gens.trans hg) Z.os
set_option maxRecDepth 100000 in
set_option maxHeartbeats 8000000 in
theorem law_holds : PySem.Challenge.rw_rr0012_01.Holds := by
  refine hd ?_
  w_strict (k_go0; (all_goals try k_fold)
            dsimp only
            refine start_law (by assumption) (by assumption) (by assumption) (by assumption) (by assumption) (by assumption) (by assumption) ?zA ?zk ?zq
            case zA => exact caller_am _
            case zk =>
              intro c' s0 b o P hl hLO hI hn hA' S0 ret
              obtain ⟨mu, hmu⟩ : ∃ mu : Led, [] = mu := ⟨_, rfl⟩
              rw [hmu] at S0 ret
              walk_at "mm"
              refine e_slL S0 hl hLO (by rw [sizeLine_eq]; omega) ?_
              intro inner b1 s1 vs' l1 hsub hlen' hin S1
              obtain ⟨ns', hI', hlI⟩ := ints_of (vs := vs') fun v hv => ints_mem hI v (hsub v hv)
              walk_at "mm"
              with_reducible refine n_lstM (by assumption) ?_
              intro bd s2 hbd S2
              walk_at "mm"
              rename_i s3 S3
              with_reducible refine e_call (fa := 110) S3 ?_
              walk_at "mm"
              refine code_spec (hA'.le (by decide)) S3 ⟨inner, vs', ns', 0, 0, _, LO.lst _ _, Int.le_refl _, hin, hI', by omega⟩ ?_
              intro cl refs n rs u o2 b2 s4 l2 hcl hrs hv hrl hb2 S4
              have hlen : (rsE rs).length ≤ 11 := by simp; omega
              have hvE := val_end hv
              have hBO : ∀ d ∈ lv (rsE rs), BO d := fun d hd => (lv_ok hvE takers_ne hlen d hd).1
              with_reducible refine e_st S4 ?_
              intro s5 S5
              refine s_compA (cl := []) ?hsw ?hclos ?hkind ?hnames ?_
              case hsw => rfl
              case hclos => rfl
              case hkind => rfl
              case hnames => decide
              with_reducible refine e_call (fa := 68) S5 ?_
              walk_at "mm"
              refine (ivals_spec (rs := rsE rs) hcl hrs hvE hlen).use hA' (by decide) (by assumption) ?_
              rintro _ b3 s6 l3 S6 ⟨dl, drefs, dn, ds, rfl, hdl, hds, hdp⟩
              have hperm : ds.Perm (lv (rsE rs)) := hdp.trans (plain_law hvE takers_ne hlen)
              have hdB : ∀ d ∈ ds, BO d := fun d hd => hBO d (hperm.subset hd)
              have hdN : ds.Nodup := (hperm.nodup_iff).mpr (lv_nodup _)
              have hdl16 : ds.length ≤ 16 := by
                rw [hperm.length_eq]
                have h2 := List.length_filterMap_le (tempOf (rsE rs)) (List.range 5)
                have h3 := List.length_filterMap_le (outOf (rsE rs)) (List.range (rsE rs).length)
                unfold lv
                simp only [List.length_range, List.length_append] at h2 h3 hlen ⊢
                omega
              have hdrl := hds.length
              refine comp_list ?hcell ?hkind ?hx hA'.hh S6 hdl (by rw [sizeLine_eq]; omega) (fun i b'' ys => All2 (QAt b'') ys (ds.take i)) .nil ?_ ?_ ?_
              case hcell => decide
              case hkind => rfl
              case hx => rfl
              · intro i b'' ys hy
                rw [hy.length, List.length_take]
                omega
              · intro i v hvi b'' c₁ led s7 m₁ hle' hc1 hm1 ys hJ hx S7
                obtain ⟨d, hd, hocc⟩ := hds.getL hvi
                obtain ⟨x, dx, ox, rfl, k1, k2, k3⟩ := hocc.le hle'
                refine wpAny_tests_nil ?_
                rw [if_pos rfl]
                with_reducible refine e_tup ?_
                with_reducible refine a_more ?_
                with_reducible refine e_attr ?_
                refine x_nm S7 hx ?_
                refine o_kind S7 k1 (S7.keep _ _ k2) k3 ?_
                intro t1 s8 S8
                with_reducible refine a_more ?_
                with_reducible refine e_attr ?_
                refine x_nm S8 hx ?_
                refine o_num S8 k1 (S8.keep _ _ k2) k3 ?_
                intro t2 s9 S9
                with_reducible refine a_more ?_
                with_reducible refine e_attr ?_
                refine x_nm S9 hx ?_
                refine o_start S9 k1 (S9.keep _ _ k2) k3 ?_
                intro t3 s10 S10
                with_reducible refine a_more ?_
                with_reducible refine e_attr ?_
                refine x_nm S10 hx ?_
                refine o_stop S10 k1 (S10.keep _ _ k2) k3 ?_
                intro t4 s11 S11
                with_reducible refine a_none ?_
                with_reducible refine n_tup S11 ?_
                intro q b4 s12 l4 hq S12
                refine ⟨b4, l4, S12, ?_⟩
                show All2 _ _ _
                rw [List.take_add_one, hd]
                exact (hJ.imp fun _ _ q => q.le l4).snoc ⟨q, t1, t2, t3, t4, rfl, hq⟩
              · intro D C s7 hD
                refine cdone_some hD rfl rfl rfl ?_
                intro b4 ys nD s8 l4 hys hDL S8
                rw [hdrl, List.take_length] at hys
                have hyl := hys.length
                walk_at "mm"
                with_reducible refine e_bcall (id := "sorted") ?_ ?_
                ((with_reducible refine' e_bn (by assumption) ?hv ?hb ?hn ?_); (case hv => kernel_rfl); (case hb => boot_by_name); (case hn => decide); exact ⟨rfl, rfl⟩)
                walk_at "mm"
                refine b_sorted S8 (List.Mem.head _) hDL hys hdB hdN (by omega) ?_
                intro D2 ys2 es2 n2 b5 s9 l5 hD2L hys2 hp2 hso2 S9
                have l6 := Le.freeze S9
                have S10 := S9.freeze hD2L
                have hD2 := Im.put_at b5 D2 (lstO ys2 n2)
                generalize b5.put D2 (lstO ys2 n2) = b6 at l6 S10 hD2
                walk_at "mm"
                with_reducible refine e_call (fa := 115) S10 ?_
                walk_at "mm"
                have l26 : Le b2 b6 := l3.trans (l4.trans (l5.trans l6))
                refine (lives_spec (rs := rsE rs) (l26.at hcl) (hrs.imp fun _ _ q => q.le l26) hlen hBO (lv_nodup _) takers_ne).use hA' (by decide) (by assumption) ?_
                rintro _ b7 s11 l7 S11 ⟨D3, ys3, es3, n3, rfl, hD3, hys3, hp3, hso3⟩
                obtain rfl : es2 = es3 := sorted_eq hso2 hso3 (hp2.trans (hperm.trans hp3.symm))
                have hB2 : ∀ d ∈ es2, BO d := fun d hd => hBO d (hp3.subset hd)
                refine c_neD hA' S11 (RD.lst (l7.at hD2) (quads_rd (hys2.imp fun _ _ q => q.le (l6.trans l7)))) (RD.lst hD3 (quads_rd hys3)) (quads_lay hB2) (quads_lay hB2) (quads_deep _) ?_
                rw [SeqAt.eqv_refl _ (quads_lay hB2)]
                walk_at "mm"
                rw [if_neg (by decide)]
                walk_at "mm"
                with_reducible refine e_tcall (T := "range") ?_ ?_
                ((with_reducible refine' e_bn (by assumption) ?hv ?hb ?hn ?_); (case hv => kernel_rfl); (case hb => boot_by_name); (case hn => decide); exact ⟨rfl, rfl⟩)
                walk_at "mm"
                rename_i s12 S12'
                have S12 := S12'.drop (mu' := (bd, o2) :: mu) (.cons _ (.refl _))
                with_reducible refine b_range1 S12 ?_
                intro r3 t3 v3 s13 hr13 S13
                have hb7 : BandOk b7 o2 := hb2.le (l26.trans l7)
                refine for_r0 (n := 3) hA'.hh S13 hr13 (by decide) (fun i b' mu' m' => ∃ o', mu' = (bd, o') :: mu ∧ BandOk b' o' ∧ m' (Str.ofString "band") = some (.ref bd)) ?_ ?_ ?_ ?_
                · exact ⟨o2, rfl, hb7, rfl⟩
                · intros; rfl
                · rintro i ti b' mu' m' it s14 hi hle ⟨o', rfl, hbk, m1⟩ S14
                  with_reducible refine as_nm S14 ?_
                  intro s15 S15
                  walk_at "mm"
                  with_reducible refine n_lstM (by assumption) ?_
                  intro pl s16 hpl S16
                  walk_at "mm"
                  rename_i s17 S17
                  have S18 : St _ c' b' ((bd, o') :: (pl, lstO []) :: (mu ++ [it])) s17 _ := S17.perm (List.Perm.swap _ _ _)
                  clear S17
                  with_reducible refine e_tcall (T := "range") ?_ ?_
                  ((with_reducible refine' e_bn (by assumption) ?hv ?hb ?hn ?_); (case hv => kernel_rfl); (case hb => boot_by_name); (case hn => decide); exact ⟨rfl, rfl⟩)
                  walk_at "mm"
                  with_reducible refine b_range1 (by assumption) ?_
                  intro r4 t4 v4 s19 hr19 S19
                  refine for_r0 (n := 2) hA'.hh S19 hr19 (by decide) (fun k b'' mu'' m'' => ∃ o'' pls np, mu'' = (bd, o'') :: (pl, lstO pls np) :: (mu ++ [it]) ∧ BandOk b'' o'' ∧ pls.length = k ∧
                    (∀ x ∈ pls, ∃ (q : Str) (z : Int), RD b'' x (.tuple [.str q, .int z]) ∧ (PyData.tuple [.str q, .int z]).canLay0 = true ∧ (PyData.tuple [.str q, .int z]).depth ≤ 4) ∧ m'' (Str.ofString "band") = some (.ref bd) ∧ m'' (Str.ofString "places") = some (.ref pl)) ?_ ?_ ?_ ?_
                  · exact ⟨o', [], 0, rfl, hbk, rfl, (fun _ h => nomatch h), m1, rfl⟩
                  · intros; rfl
                  · rintro k tk b'' mu'' m'' it2 s20 hk l8 ⟨o'', pls, np, rfl, hbk2, hpk, hpls, n1, n2⟩ S20
                    rw [List.cons_append, List.cons_append] at S20
                    with_reducible refine as_nm S20 ?_
                    intro s21 S21
                    walk_at "mm"
                    with_reducible refine e_meth ?_
                    walk_at "mm"
                    with_reducible refine g_app S21 (List.Mem.tail _ (List.Mem.head _)) ?_
                    walk_at "mm"
                    with_reducible refine n_lst (by assumption) ?_
                    intro ll b8 s22 l9 hll S22
                    walk_at "mm"
                    with_reducible refine e_call (fa := 82) S22 ?_
                    walk_at "mm"
                    refine shift_spec (hA'.le (by decide)) (by assumption) (hbk2.le l9) (by decide) ?_
                    intro r1 tr1 o3 s23 h10 h11 hbk3 S23
                    obtain ⟨q, tq, hq, hqs⟩ := pick4 hll h10 h11
                    refine i_im S23 hll h10 (by omega) hq ?_
                    walk_at "mm"
                    rename_i t24 s24 S24
                    with_reducible refine e_call (fa := 82) S24 ?_
                    walk_at "mm"
                    refine shift_spec (hA'.le (by decide)) (by assumption) hbk3 (by decide) ?_
                    intro r2 tr2 o4 s25 h20 h21 hbk4 S25
                    walk_at "mm"
                    with_reducible refine n_tup (by assumption) ?_
                    intro tp b9 s26 l10 htp S26
                    walk_at "mm"
                    refine b_app (pre := [_]) S26 (fun np2 s27 S27 => ?_) (by rw [hpk, sizeLine_eq]; omega)
                    walk_at "mm"
                    refine tend (mu₂ := (bd, o4) :: (pl, lstO (pls ++ [.ref tp]) np2) :: (mu ++ [it])) S27 (l8.trans (l9.trans l10)) rfl ⟨o4, _, np2, rfl, hbk4.le l10, by rw [List.length_append, hpk]; rfl, ?_, n1, n2⟩
                    intro x hx
                    rcases List.mem_append.mp hx with hx | hx
                    · obtain ⟨q', z', e1, e2, e3⟩ := hpls x hx
                      exact ⟨q', z', e1.le (l9.trans l10), e2, e3⟩
                    · rw [List.mem_singleton.mp hx]
                      refine ⟨q, 1 + r2, RD.tup htp (.cons (RD.str _ _ _) (.cons (RD.int _ _ _) .nil)), ?_, Nat.le_of_ble_eq_true (by kernel_rfl)⟩
                      rcases hqs with rfl | rfl | rfl | rfl <;> kernel_rfl
                  · rintro b'' mu'' m'' s20 l8 ⟨o'', pls, np, rfl, hbk2, hpk, hpls, n1, n2⟩ S20
                    have S21 := S20.perm (mu' := (pl, lstO pls np) :: (bd, o'') :: (mu ++ [it])) (List.Perm.swap _ _ _)
                    have l9 := Le.freeze S21
                    have S22 := S21.freeze hpl
                    have hplb := Im.put_at b'' pl (lstO pls np)
                    generalize b''.put pl (lstO pls np) = b8 at l9 S22 hplb
                    clear S20 S21
                    walk_at "mm"
                    with_reducible refine e_call0 (fa := 75) S22 ?_
                    refine kinds_spec.use hA' (by decide) S22 ?_
                    rintro v b9 s23 l10 S23 ⟨kl, kvs, rfl, ekl, hkl⟩
                    with_reducible refine for_list hA'.hh S23 ekl (fun k b3 mu3 m3 => ∃ o3, mu3 = (bd, o3) :: (mu ++ [it]) ∧ BandOk b3 o3 ∧ m3 (Str.ofString "band") = some (.ref bd) ∧ m3 (Str.ofString "places") = some (.ref pl)) ?_ ?_ ?_ ?_
                    · exact ⟨o'', rfl, hbk2.le (l9.trans l10), n1, n2⟩
                    · intros; rfl
                    · rintro k kv b3 mu3 m3 it3 s24 hk l11 ⟨o3, rfl, hbk3, q1, q2⟩ S24
                      obtain ⟨kd, hkd, ka, kt, ku, rfl, hka⟩ := hkl.getL hk
                      obtain ⟨name, roles⟩ := kd
                      with_reducible refine as_nm S24 ?_
                      intro s25 S25
                      walk_at "mm"
                      with_reducible refine t_not ?_
                      with_reducible refine t_call ?_
                      with_reducible refine e_call (fa := 103) S25 ?_
                      walk_at "mm"
                      refine (told_spec (l11.at hka) ((l10.trans l11).at hplb) (List.mem_of_getElem? hkd) (by omega) ?_).use hA' (by decide) (by assumption) ?_
                      · intro x hx
                        obtain ⟨q', z', e1, e2, e3⟩ := hpls x hx
                        exact ⟨_, e1.le (l9.trans (l10.trans l11)), e2, e3⟩
                      · rintro _ b4 s26 l12 S26 rfl
                        walk_at "mm"
                        rw [if_neg (by decide)]
                        walk_at "mm"
                        refine tend (mu₂ := (bd, o3) :: (mu ++ [it])) S26 (l11.trans l12) rfl ⟨o3, rfl, hbk3.le l12, q1, q2⟩
                    · rintro b3 mu3 m3 s24 l11 ⟨o3, rfl, hbk3, q1, q2⟩ S24
                      walk_at "mm"
                      refine tend (mu₂ := (bd, o3) :: mu) S24 (hle.trans (l8.trans (l9.trans (l10.trans l11)))) rfl ⟨o3, rfl, hbk3, q1⟩
                · rintro b' mu' m' s14 hle ⟨o', rfl, hbk, m1⟩ S14
                  walk_at "mm"
                  exact ret _ _ _ (S14.drop (.cons _ (.refl _)))
            case zq =>
              intro s' m' F' hg' hos'
              refine goodW_bool F' hg' (raisesW_false ?_) ?_ hos'
              · wrow_none_raised
              · wrow_post)
end Mine
theorem PySem.Challenge.cw_rr0012_01_holds : PySem.Challenge.rw_rr0012_01.Holds := by
  exact Mine.law_holds
