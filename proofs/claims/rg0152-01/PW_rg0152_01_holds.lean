import PyProof.Rows.All
import Wide.All
import OpenK.AllK
import Wide.FinOn
import Lean
import PySem.Challenge.RW_rg0152_01
open PySem PySem.W PyProof.Rows PySem.Calls PySem.Spec
set_option Elab.async false
set_option maxRecDepth 100000
set_option maxHeartbeats 8000000
set_option linter.unusedVariables false
namespace Mine
noncomputable def vw : Program := { Challenge.pw_rg0152_01 with main := { Challenge.pw_rg0152_01.main with body := [1, 2, 3, 5, 6, 7, 8, 9, 10, 11, 12, 13, 14, 15, 16, 17, 18, 19, 20, 21, 22, 23, 25, 26, 27, 28, 29, 30, 31, 32, 33, 34, 35, 36, 37, 38, 39, 40, 41, 42].filterMap fun i => Challenge.pw_rg0152_01.main.body[i]? } }
noncomputable def lv : List (Str × WData) := [(Str.ofString "MAX_DIMEN", .int 1073741823), (Str.ofString "MAX_NUMBER", .int 2147483647)]
end Mine
local macro_rules | `(tactic| o_head $H) => `(tactic| (refine holds_open (q := Mine.vw) (loose := [Str.ofString "PageError", Str.ofString "MAX_DIMEN", Str.ofString "MAX_NUMBER"]) (Xt := fun s => xlAt Mine.vw Mine.lv s && recOk (RowW.records Challenge.rw_rg0152_01.row.toRowW) s) (XP := XL Mine.vw Mine.lv) (Yf := Hook.obs $H) (Ya := Hook.val $H) (YP := Hook.says $H) (N := 3598) ?hl (Hook.of $H) (Hook.keeps $H) (fun s e => xl_of s (Bool.and_eq_true_iff.mp e).1) XL.keeps (by rfl) (by rfl) (by rfl) (fun s e => recFacts_of (Bool.and_eq_true_iff.mp e).2) (by rfl) (by first | assumption | decide +kernel) (by decide +kernel) ⟨rfl, rfl, rfl, rfl, rfl, by decide +kernel⟩ ?hw ?hc; (case hl => (intro w; unfold openEnds topFrom fencedOpening; (try rw [PySem.W.Fast.te14364793385576792824]); (try rw [PySem.W.Fast.te14082659384304107361]); (try rw [PySem.W.Fast.te4187177175401517315]); kernel_rfl))))
open_top hd for PySem.Challenge.rw_rg0152_01
theorem Mine.fill : Challenge.rw_rg0152_01 = Challenge.rw_rg0152_01 ∧ hd.heap_39 = hd.heap_39 := by
  k_fill
  exact ⟨rfl, rfl⟩
namespace Mine
set_option genSizeOf false
set_option genInjectivity false
noncomputable abbrev pg : Program := Challenge.pw_rg0152_01
noncomputable abbrev kf (w : World) : Frag := hd.heap_39 w.params
noncomputable abbrev Led := List (Addr × Obj)

/-- simple values -/
inductive SV where
  | int (i : Int) | bool (b : Bool) | str (s : Str) | none
  | tup (vs : List SV) | lst (vs : List SV) | rng (a b c : Int)
  | fn (a : Addr) | bi (n : String) | ty (n : String) | jar | cells
  | clo (q : Str) (ps : Arguments) (body : Expr) (sc : Scope) (fv : List (Str × SV))
noncomputable abbrev Rho := List (Str × SV)
structure JS where
  cells : List Int
  at_ : Int
  salt : Int
/-- what a reading knows of the frame: name, scope, is it a handler's suite, does the def make functions (1, 2: the two that do) -/
structure FI where
  cn : Str
  cs : Scope
  hd : Bool
  lam : Nat
  cells : Bool

/-- the value v bears the simple value, over the ledger -/
inductive Rep (jA cA : Addr) (news : Led) : SV → Value → Prop
  | int (i : Int) (t : Tok) : Rep jA cA news (.int i) (.int i t)
  | bool (b : Bool) : Rep jA cA news (.bool b) (.bool b)
  | str (s : Str) (t : Tok) : Rep jA cA news (.str s) (.str s t)
  | none : Rep jA cA news .none .none
  | tup {a : Addr} {vs : List SV} {xs : List Value} {n : Nat} : (a, ({ cls := .type "tuple", data := .seq xs.toArray n } : Obj)) ∈ news → xs.length = vs.length → (∀ (i : Nat) v x, vs[i]? = some v → xs[i]? = some x → Rep jA cA news v x) → Rep jA cA news (.tup vs) (.ref a)
  | lst {a : Addr} {vs : List SV} {xs : List Value} {n : Nat} : (a, W.listOf xs.toArray n) ∈ news → xs.length = vs.length → (∀ (i : Nat) v x, vs[i]? = some v → xs[i]? = some x → Rep jA cA news v x) → Rep jA cA news (.lst vs) (.ref a)
  | rng {r : Addr} {a b c : Int} {t u v : Tok} : (r, ({ cls := .type "range", data := .fields #[.int a t, .int b u, .int c v] } : Obj)) ∈ news → Rep jA cA news (.rng a b c) (.ref r)
  | fn (a : Addr) : Rep jA cA news (.fn a) (.ref a)
  | bi (n : String) : Rep jA cA news (.bi n) (.builtin n)
  | ty (n : String) : Rep jA cA news (.ty n) (.type n)
  | jar : Rep jA cA news .jar (.ref jA)
  | cells : Rep jA cA news .cells (.ref cA)
  | clo {f c' : Addr} {q nm : Str} {ps : Arguments} {body : Expr} {sc : Scope} {fv : List (Str × SV)} {cl : List (Str × Addr)} {pm ctv : Value} {oc : Obj} {vs : Array Value} {t : Tok} {xs : List Value} :
      (f, kla_obj nm q ps body sc cl pm c' ctv) ∈ news → (c', oc) ∈ news → oc.data = .fields vs → vs[1]? = some (.str q t) → xs.length = fv.length → cl.map (·.1) = fv.map (·.1) →
      (∀ (i : Nat) (n : Str) (a : Addr) (x : Value), cl[i]? = some (n, a) → xs[i]? = some x → ∃ o, (a, o) ∈ news ∧ o.data = .cell (some x)) →
      (∀ (i : Nat) n v x, fv[i]? = some (n, v) → xs[i]? = some x → Rep jA cA news v x) → Rep jA cA news (.clo q ps body sc fv) (.ref f)
noncomputable def RepL (jA cA : Addr) (news : Led) (vs : List SV) (xs : List Value) : Prop := xs.length = vs.length ∧ ∀ (i : Nat) v x, vs[i]? = some v → xs[i]? = some x → Rep jA cA news v x
/-- what the bearing says, kind by kind -/
noncomputable def RepI (jA cA : Addr) (news : Led) (sv : SV) (v : Value) : Prop := match sv with
  | .int i => ∃ t, v = .int i t
  | .bool b => v = .bool b
  | .str s => ∃ t, v = .str s t
  | .none => v = .none
  | .tup vs => ∃ a xs n, v = .ref a ∧ (a, ({ cls := .type "tuple", data := .seq xs.toArray n } : Obj)) ∈ news ∧ RepL jA cA news vs xs
  | .lst vs => ∃ a xs n, v = .ref a ∧ (a, W.listOf xs.toArray n) ∈ news ∧ RepL jA cA news vs xs
  | .rng a b c => ∃ r t u x, v = .ref r ∧ (r, ({ cls := .type "range", data := .fields #[.int a t, .int b u, .int c x] } : Obj)) ∈ news
  | .fn a => v = .ref a
  | .bi n => v = .builtin n
  | .ty n => v = .type n
  | .jar => v = .ref jA
  | .cells => v = .ref cA
  | .clo _ _ _ _ _ => True
theorem Rep.inv {jA cA : Addr} {news : Led} {v : SV} {x : Value} (r : Rep jA cA news v x) : RepI jA cA news v x := by
  cases r with
  | int i t => exact ⟨t, rfl⟩
  | bool b => rfl
  | str s t => exact ⟨t, rfl⟩
  | none => rfl
  | tup m l h => exact ⟨_, _, _, rfl, m, l, h⟩
  | lst m l h => exact ⟨_, _, _, rfl, m, l, h⟩
  | rng m => exact ⟨_, _, _, _, rfl, m⟩
  | fn a => rfl
  | bi a => rfl
  | ty a => rfl
  | jar => rfl
  | cells => rfl
  | clo m1 m2 e1 e2 l k c _ => trivial
theorem Rep.mono {jA cA : Addr} {news news' : Led} (h : ∀ p ∈ news, p ∈ news') {v : SV} {x : Value} (r : Rep jA cA news v x) : Rep jA cA news' v x := by
  induction r with
  | int i t => exact .int i t
  | bool b => exact .bool b
  | str s t => exact .str s t
  | none => exact .none
  | tup m l _ ih => exact .tup (h _ m) l ih
  | lst m l _ ih => exact .lst (h _ m) l ih
  | rng m => exact .rng (h _ m)
  | fn a => exact .fn a
  | bi a => exact .bi a
  | ty a => exact .ty a
  | jar => exact .jar
  | cells => exact .cells
  | clo m1 m2 e1 e2 l k c _ ih => exact .clo (h _ m1) (h _ m2) e1 e2 l k (fun i n a x p q => let ⟨o, m, e⟩ := c i n a x p q; ⟨o, h _ m, e⟩) ih
theorem RepL.mono {jA cA : Addr} {news news' : Led} (h : ∀ p ∈ news, p ∈ news') {vs : List SV} {xs : List Value} (r : RepL jA cA news vs xs) : RepL jA cA news' vs xs :=
  ⟨r.1, fun i v x e f => (r.2 i v x e f).mono h⟩
theorem RepL.nil {jA cA : Addr} {news : Led} : RepL jA cA news [] [] := ⟨rfl, fun i v x e => by simp at e⟩
theorem RepL.cons {jA cA : Addr} {news : Led} {v : SV} {x : Value} {vs : List SV} {xs : List Value} (h : Rep jA cA news v x) (r : RepL jA cA news vs xs) : RepL jA cA news (v :: vs) (x :: xs) := by
  refine ⟨congrArg (· + 1) r.1, fun i w y e f => ?_⟩
  cases i with
  | zero => cases e; cases f; exact h
  | succ i => exact r.2 i w y e f
theorem RepL.get {jA cA : Addr} {news : Led} {vs : List SV} {xs : List Value} (r : RepL jA cA news vs xs) {i : Nat} {v : SV} (e : vs[i]? = some v) : ∃ x, xs[i]? = some x ∧ Rep jA cA news v x := by
  have h : i < xs.length := by rw [r.1]; exact (List.getElem?_eq_some_iff.mp e).1
  exact ⟨xs[i], List.getElem?_eq_getElem h, r.2 i v _ e (List.getElem?_eq_getElem h)⟩

structure Cx where
  w : World
  p : Program
  loose : List Str
  mean : ExcName → Option Value
  mg : Str → Option Value
  mb : Str → Option Value
  A : Around
  A₀ : Around
  fi : FI
  L : Addr
  a : Addr
  ccd : Value
  cl : List (Str × Addr)
  outer : List Env
  base : Heap
  g₀ : Heap
  jA : Addr
  cA : Addr
  s0 : Shared
  its : Led
noncomputable abbrev Cx.env (c : Cx) : Env := envX c.fi.cn c.fi.cs c.L c.a c.ccd c.cl
noncomputable abbrev Cx.fs (c : Cx) : List Addr := c.outer.filterMap (·.frame)

noncomputable def scopeOk (sc : Scope) : Prop := sc.kind = .function ∧ sc.isCoroutine = false ∧ sc.isGenerator = false ∧ sc.names.lookup (Str.ofString "__debug__") = none ∧ sc.names.lookup (Str.ofString "__classdict__") = none
noncomputable def nDoors : Str := Str.ofString "_law_doors"
noncomputable def nProds : Str := Str.ofString "_law_products"
noncomputable def qLam (cn : Str) : Str := cn ++ Str.ofString ".<locals>." ++ Str.ofString "<lambda>"
structure Cx.Ok (c : Cx) (n : Nat) : Prop where
  fr : c.A.frames = some (c.env :: c.outer)
  sc : scopeOk c.fi.cs
  hnd : c.fi.hd = false → c.A.handled = none
  up : c.fi.hd = false → c.A = c.A₀.deeper c.env
  dep : c.A.depth + n + 5 < recursionLimit
  uni : c.A.units + 3 * n + 64 < cLine
  nocl : c.fi.cells = false → c.cl = []
  X : (kf c.w).In c.base
  T : Top c.p c.loose c.mean c.mg c.mb c.base
  cd1 : CodeHd c.base 271 267
  cd2 : CodeHd c.base 224 220
  mk1 : c.fi.lam = 1 → c.ccd = .ref 271 ∧ c.fi.cn = nDoors
  mk2 : c.fi.lam = 2 → c.ccd = .ref 224 ∧ c.fi.cn = nProds

structure Gr (c : Cx) (g : Heap) : Prop where
  B : Below c.A₀ c.base c.outer g
  T0 : KtsTurn c.fs c.g₀ g
  D : KtsDicts c.fs g

/-- the table of a def that makes functions: each code object in it stands in the ledger -/
noncomputable def TabGood (q : Str) (ps : Array Value) (codes : Led) : Prop :=
  TriplesOk ps.toList ∧ ∀ pos v, codeAmong pos ps.toList = some v → ∃ c' oc vs t, v = .ref c' ∧ (c', oc) ∈ codes ∧ oc.data = .fields vs ∧ vs[1]? = some (.str q t)

/-- what is changed in the call: the jar, its cells, the two tables -/
noncomputable def LstObj (o : Obj) (items : Array Value) : Prop := o.cls = .type "list" ∧ ∃ n, o.data = .seq items n
noncomputable def Hid (its : Led) (jA cA : Addr) (J : JS) (hd news : Led) : Prop :=
  ∃ oj oc t1 t2 vs ps1 ps2, hd = (jA, oj) :: (cA, oc) :: (267, tabObj ps1) :: (220, tabObj ps2) :: its ∧ LstObj oj #[.ref cA, .int J.at_ t1, .int J.salt t2] ∧ LstObj oc (List.toArray vs) ∧
    IntsAre vs J.cells ∧ TabGood (qLam nDoors) ps1 news ∧ TabGood (qLam nProds) ps2 news ∧ hd.Pairwise (fun p q => p.1 ≠ q.1) ∧ ∀ p ∈ news, ∀ q ∈ hd, p.1 ≠ q.1

noncomputable def NameIs (c : Cx) (m : Str → Option Value) (news : Led) (x : Str) (sv : SV) : Prop :=
  (c.fi.cs.names.lookup x = some .local ∧ ∃ v, m x = some v ∧ Rep c.jA c.cA news sv v) ∨
  ((c.fi.cs.names.lookup x = some .cell ∨ c.fi.cs.names.lookup x = some .free) ∧ ∃ a o v, c.cl.lookup x = some a ∧ (a, o) ∈ news ∧ o.data = .cell (some v) ∧ Rep c.jA c.cA news sv v)
noncomputable def RhoIs (c : Cx) (m : Str → Option Value) (news : Led) (ρ : Rho) : Prop := ∀ x sv, ρ.lookup x = some sv → NameIs c m news x sv
noncomputable def Rest (c : Cx) (s : Shared) : Prop := s.gens = c.s0.gens ∧ s.os = c.s0.os

noncomputable def Here (c : Cx) (news : Led) (ρ : Rho) (J : JS) (s : Shared) : Prop :=
  ∃ g m hd, Gr c g ∧ Fr g c.L s.heap m ∧ News g c.L s.heap (hd ++ news) ∧ Hid c.its c.jA c.cA J hd news ∧ RhoIs c m news ρ ∧ Rest c s

theorem TabGood.mono {q : Str} {ps : Array Value} {l l' : Led} (h : ∀ p ∈ l, p ∈ l') (x : TabGood q ps l) : TabGood q ps l' :=
  ⟨x.1, fun pos v e => let ⟨c', oc, vs, t, a, b, r⟩ := x.2 pos v e; ⟨c', oc, vs, t, a, h _ b, r⟩⟩
theorem NameIs.mono {c : Cx} {m : Str → Option Value} {l l' : Led} {x : Str} {sv : SV} (h : ∀ p ∈ l, p ∈ l') (n : NameIs c m l x sv) : NameIs c m l' x sv := by
  rcases n with ⟨a, v, b, r⟩ | ⟨a, ad, o, v, b, d, e, r⟩
  · exact .inl ⟨a, v, b, r.mono h⟩
  · exact .inr ⟨a, ad, o, v, b, h _ d, e, r.mono h⟩
theorem RhoIs.mono {c : Cx} {m : Str → Option Value} {l l' : Led} {ρ : Rho} (h : ∀ p ∈ l, p ∈ l') (n : RhoIs c m l ρ) : RhoIs c m l' ρ := fun x sv e => (n x sv e).mono h
theorem Hid.more {its : Led} {jA cA : Addr} {J : JS} {hd l l' : Led} (h : Hid its jA cA J hd l) (hs : ∀ p ∈ l, p ∈ l') (ha : ∀ p ∈ l', ∀ q ∈ hd, p.1 ≠ q.1) : Hid its jA cA J hd l' := by
  obtain ⟨oj, oc, t1, t2, vs, ps1, ps2, e, lj, lc, i, g1, g2, n1, _⟩ := h
  exact ⟨oj, oc, t1, t2, vs, ps1, ps2, e, lj, lc, i, g1.mono hs, g2.mono hs, n1, ha⟩
theorem Hid.apart {its : Led} {jA cA : Addr} {J : JS} {hd l : Led} (h : Hid its jA cA J hd l) : ∀ p ∈ l, ∀ q ∈ hd, p.1 ≠ q.1 := by
  obtain ⟨oj, oc, t1, t2, vs, ps1, ps2, e, lj, lc, i, g1, g2, n1, ha⟩ := h
  exact ha
/-- a new object: its address is none of the hidden ones -/
theorem Hid.push {its : Led} {jA cA : Addr} {J : JS} {hd l : Led} {a : Addr} {o : Obj} (h : Hid its jA cA J hd l) (hn : ∀ p ∈ hd, p.1 ≠ a) : Hid its jA cA J hd ((a, o) :: l) := by
  refine h.more (fun p hp => .tail _ hp) fun p hp q hq => ?_
  rcases List.mem_cons.mp hp with rfl | hp
  · exact (hn q hq).symm
  · exact h.apart p hp q hq
theorem news_sub {h₀ h : Heap} {L : Addr} {l l' : Led} (N : News h₀ L h l) (hs : ∀ p ∈ l', p ∈ l) : News h₀ L h l' := fun p hp => N p (hs p hp)
theorem ne_fresh {h₀ h : Heap} {L : Addr} {l : Led} (N : News h₀ L h l) : ∀ p ∈ l, p.1 ≠ h.objs.size := fun p hp => Nat.ne_of_lt (Heap.lt_size (N p hp).1)
/-- the frame after one object was made -/
theorem Here.push {c : Cx} {news : Led} {ρ : Rho} {J : JS} {s s' : Shared} {g : Heap} {m : Str → Option Value} {hd : Led} {a : Addr} {o : Obj} (G : Gr c g) (F : Fr g c.L s'.heap m) (N : News g c.L s'.heap ((a, o) :: (hd ++ news)))
    (H : Hid c.its c.jA c.cA J hd news) (ha : ∀ p ∈ hd, p.1 ≠ a) (R : RhoIs c m news ρ) (r : Rest c s') : Here c ((a, o) :: news) ρ J s' :=
  ⟨g, m, hd, G, F, news_sub N (fun p hp => by
    rcases List.mem_append.mp hp with h | h
    · exact .tail _ (List.mem_append_left _ h)
    · rcases List.mem_cons.mp h with rfl | h
      · exact .head _
      · exact .tail _ (List.mem_append_right _ h)), H.push ha, R.mono fun p hp => .tail _ hp, r⟩
end Mine
namespace Mine
theorem mem_frames {env : Env} {outer : List Env} {L b : Addr} (hf : env.frame = some L) (h : b ∈ (env :: outer).filterMap (·.frame)) : b = L ∨ b ∈ outer.filterMap (·.frame) := by
  obtain ⟨e, he, hb⟩ := List.mem_filterMap.mp h
  rcases List.mem_cons.mp he with rfl | he
  · exact .inl (Option.some.inj (hb.symm.trans hf))
  · exact .inr (List.mem_filterMap.mpr ⟨e, he, hb⟩)

/-- the caller's ground again, when a callee's ground has turned only the frames -/
theorem turn_back {A₀ : Around} {base g h g' H : Heap} {outer : List Env} {L : Addr} {m : Str → Option Value} {env : Env} {all : Led}
    (B : Below A₀ base outer g) (F : Fr g L h m) (N : News g L h all) (D : KtsDicts (outer.filterMap (·.frame)) g) (hf : env.frame = some L)
    (T : KtsTurn ((env :: outer).filterMap (·.frame)) (hideAll h (all.map (·.1))) g') (hk : ∀ b o, g'.get? b = some o → H.get? b = some o) :
    ∃ g₁, KtsTurn (outer.filterMap (·.frame)) g g₁ ∧ Fr g₁ L H m ∧ Below A₀ base outer g₁ ∧ KtsDicts (outer.filterMap (·.frame)) g₁ ∧ ∀ b, g'.get? b = none → b ≠ L ∧ g₁.get? b = none := by
  have st : g.StaysIn (hideAll h (all.map (·.1))) := fun b o e => hideAll_get _ (F.keep b o e) fun q => by
    obtain ⟨p, hp, rfl⟩ := List.mem_map.mp q
    rw [(N p hp).2.2] at e; cases e
  obtain ⟨oL, es, ep, hL, hLd, hLk, hLf⟩ := F.ns
  have hLg : (hideAll h (all.map (·.1))).get? L = some oL := hideAll_get _ hL fun q => by
    obtain ⟨p, hp, e⟩ := List.mem_map.mp q
    exact (N p hp).2.1 e
  have nL : g.get? L = none := kts_self F
  obtain ⟨sl, hs⟩ := T.up hLg
  obtain ⟨T₁, S₁⟩ := kts_turn_at (h := H) (fs := outer.filterMap (·.frame)) (g := g) (fun b hb => let ⟨_, o, ho, _⟩ := B.frames.mem hb; ⟨o, ho⟩)
    (fun b o e nm => hk _ _ (T.other b o (st b o e) fun q => (mem_frames hf q).elim (fun z => (by rw [z, nL] at e; cases e)) nm))
    (fun b o e hm => let ⟨sl', hs'⟩ := T.up (st b o e); ⟨sl', hk _ _ hs'⟩)
  refine ⟨_, T₁, ⟨⟨_, es, ep, hk _ _ hs, hLd, hLk, hLf⟩, S₁, by rw [T₁.size]; exact F.above⟩, ⟨B.stack, fun b o e => T₁.other b o (B.stays b o e) fun hm => (by rw [(B.frames.mem hm).1] at e; cases e),
    B.frames.of_keeps fun b o e _ => let ⟨sl', hs'⟩ := T₁.up e; ⟨_, hs', rfl⟩⟩, D.turn T₁, fun b hb => ⟨fun q => (by rw [q, hs] at hb; cases hb), T₁.none_ _ ?_⟩⟩
  cases q : g.get? b with
  | none => rfl
  | some o =>
    obtain ⟨sl', hs'⟩ := T.up (st _ _ q)
    rw [hs'] at hb; cases hb

/-- the frame of a def that is called -/
noncomputable def Cx.callee (c : Cx) (A' : Around) (fi : FI) (f : Addr) (cd : Value) (cl : List (Str × Addr)) (s : Shared) (all : Led) : Cx :=
  { c with A := A'.deeper (envX fi.cn fi.cs s.heap.objs.size f cd cl), A₀ := A', fi := fi, L := s.heap.objs.size, a := f, ccd := cd, cl := cl, outer := c.env :: c.outer, g₀ := hideAll s.heap (all.map (·.1)) }

section
variable {c : Cx} {news news' : Led} {ρ ρ' : Rho} {J J' : JS} {s s' : Shared} {g : Heap} {m : Str → Option Value} {hd : Led} {A' : Around} {fi : FI} {f : Addr} {cd : Value} {cl : List (Str × Addr)}
theorem Gr.callee (G : Gr c g) (F : Fr g c.L s.heap m) (N : News g c.L s.heap (hd ++ news)) (hA : A'.frames = some (c.env :: c.outer)) (hk : c.fi.cs.kind = .function) : Gr (c.callee A' fi f cd cl s (hd ++ news)) (hideAll s.heap ((hd ++ news).map (·.1))) := by
  obtain ⟨FG, BG, st, _⟩ := groundX (R := fun _ _ => True) G.B F N hA rfl hk
  refine ⟨BG, KtsTurn.refl, fun b hb => ?_⟩
  rcases mem_frames (L := c.L) rfl hb with rfl | hb
  · obtain ⟨o, es, ep, h, hd, _⟩ := FG.ns
    exact ⟨o, es, ep, h, hd⟩
  · obtain ⟨o, es, n, ho, hd⟩ := G.D b hb
    exact ⟨o, es, n, st b o ho, hd⟩
theorem Here.back (G : Gr c g) (F : Fr g c.L s.heap m) (N : News g c.L s.heap (hd ++ news)) (R : RhoIs c m news ρ)
    (h : Here (c.callee A' fi f cd cl s (hd ++ news)) news' ρ' J' s') (hs : ∀ p ∈ news, p ∈ news') : Here c news' ρ J' s' := by
  obtain ⟨g', m', hd', G', F', N', H', _, r⟩ := h
  obtain ⟨g₁, T₁, F₁, B₁, D₁, n₁⟩ := turn_back (env := c.env) G.B F N G.D rfl G'.T0 F'.keep
  exact ⟨g₁, m, hd', ⟨B₁, G.T0.trans T₁, D₁⟩, F₁, fun p hp => ⟨(N' p hp).1, n₁ _ (N' p hp).2.2⟩, H', R.mono hs, r⟩
end

/-- an exception of an own class was made: it stands in the new heap, all the old stands too -/
noncomputable def MadeX (h h' : Heap) (e C : Addr) : Prop :=
  (∀ b o, h.get? b = some o → h'.get? b = some o) ∧ h.get? e = none ∧ ∃ oe vs t ws, h'.get? e = some oe ∧ oe.cls = .ref C ∧ oe.data = .fields vs ∧ vs[1]? = some .none ∧ vs[0]? = some (.ref t) ∧ h.get? t = none ∧ h'.TupAt t ws

/-- an exception of the class C is in the frame: made here, or come from a callee -/
noncomputable def Fly (c : Cx) (news : Led) (ρ : Rho) (J : JS) (C e : Addr) (s : Shared) : Prop :=
  ∃ g m hd, Gr c g ∧ Hid c.its c.jA c.cA J hd news ∧ RhoIs c m news ρ ∧ Rest c s ∧
    ((∃ h, Fr g c.L h m ∧ News g c.L h (hd ++ news) ∧ MadeX h s.heap e C) ∨
     ∃ G t vs, Fr g c.L G m ∧ RaisedS c.base G (c.env :: c.outer) e (.ref C) t vs (hd ++ news) s.heap ∧ G.UpToSlots s.heap)

/-- the same, come from a callee -/
noncomputable def FlyR (c : Cx) (news : Led) (ρ : Rho) (J : JS) (C e : Addr) (s : Shared) : Prop :=
  ∃ g m hd, Gr c g ∧ Hid c.its c.jA c.cA J hd news ∧ RhoIs c m news ρ ∧ Rest c s ∧ ∃ G t vs, Fr g c.L G m ∧ RaisedS c.base G (c.env :: c.outer) e (.ref C) t vs (hd ++ news) s.heap ∧ G.UpToSlots s.heap
theorem FlyR.fly {c : Cx} {news : Led} {ρ : Rho} {J : JS} {C e : Addr} {s : Shared} (h : FlyR c news ρ J C e s) : Fly c news ρ J C e s := by
  obtain ⟨g, m, hd, G, H, R, r, h⟩ := h
  exact ⟨g, m, hd, G, H, R, r, .inr h⟩
theorem Fly.any {c : Cx} {news : Led} {ρ : Rho} {J : JS} {C e : Addr} {s : Shared} (h : Fly c news ρ J C e s) : Fly c news [] J C e s := by
  obtain ⟨g, m, hd, G, H, R, r, h⟩ := h
  exact ⟨g, m, hd, G, H, fun _ _ e => (nomatch e), r, h⟩
section
variable {M : Model} {A : Around} {E : Value → Shared → Prop} {s' : Shared} {base g g₂ h : Heap} {outer : List Env} {L e C t : Addr} {m : Str → Option Value} {env : Env} {Q : Unit → Shared → Prop} {news : Led}
theorem leave_made (K : Below A base outer g) (hx : MadeX h s'.heap e C) (F : Fr g L h m) (N : News g L h news) (hf : env.frame = some L) (hk : env.scope.kind = .function)
    (hQ : ∀ h' t vs, RaisedS base g outer e (.ref C) t vs news h' → g.UpToSlots h' → Q () { s' with heap := h' }) :
    wpAny M (A.deeper env) (leaving env (.ref e)) Q E s' := by
  have K' := pushX K F hf hk
  obtain ⟨keeps, new, oe, vs, t, ws, he, hc, hd, h1, h0, ht, htup⟩ := hx
  have hin : ∀ env' ∈ (env :: outer), ∀ b, env'.frame = some b → b ∈ (env :: outer).filterMap (·.frame) := fun env' he b hb => List.mem_filterMap.mpr ⟨env', he, hb⟩
  have fr' := (funFrames_hide K'.frames hin).of_keeps (h' := s'.heap) fun b o hb _ => ⟨o, keeps b o hb, rfl⟩
  have fresh : ∀ b, h.get? b = none → (hideAll h ((env :: outer).filterMap (·.frame))).get? b = none := fun b hb => by
    cases q : (hideAll h ((env :: outer).filterMap (·.frame))).get? b with
    | none => rfl
    | some o => rw [of_hideAll _ q] at hb; cases hb
  have nmem : ∀ b o, base.get? b = some o → b ∉ (env :: outer).filterMap (·.frame) := fun b o q hm => by rw [(K'.frames.mem hm).1] at q; cases q
  refine wpAny_leaving_firstW (base := hideAll h ((env :: outer).filterMap (·.frame))) K'.stack fr' hf he (fun b o q => keeps b o (of_hideAll _ q)) (fresh e new) hd h1 h0 fun h' hL => ?_
  obtain ⟨k1, ⟨_, _, k2⟩, k3, k4⟩ := hL
  rw [hc] at k3
  refine hQ h' t ws ⟨⟨_, fun b o q => hideAll_get _ (K'.stays b o q) (nmem b o q), fun b o q nm => hideAll_get _ (F.keep b o q) fun hm => (mem_frames hf hm).elim (fun z => (by rw [z, kts_self F] at q; cases q)) nm, fun q hq => ⟨hideAll_get _ (N q hq).1 fun hm => ?_, (N q hq).2.2, fresh_of_stays K.stays (N q hq).2.2⟩, ⟨k1, fresh e new, k2, k3⟩, fresh t ht⟩, htup.of_slots k4⟩ (((Heap.UpToSlots.of_keeps F.keep).trans (Heap.UpToSlots.of_keeps keeps)).trans k4)
  rcases mem_frames hf hm with z | z
  · exact (N q hq).2.1 z
  · obtain ⟨_, o, ho, _⟩ := K.frames.mem z
    rw [(N q hq).2.2] at ho; cases ho
theorem leave_on (K : Below A base outer g) (F : Fr g L g₂ m) {vs : List Value} (R : RaisedS base g₂ (env :: outer) e (.ref C) t vs news s'.heap) (hsm : g₂.UpToSlots s'.heap) (hf : env.frame = some L)
    (hQ : ∀ h', RaisedS base g outer e (.ref C) t vs news h' → g.UpToSlots h' → Q () { s' with heap := h' }) :
    wpAny M (A.deeper env) (leaving env (.ref e)) Q E s' := by
  obtain ⟨⟨B, hB, hBG, hl, hfl, hnew⟩, htup⟩ := R
  exact wpAny_leaves_onW (Around.frames_deeper K.stack) hf hfl fun h' x1 x2 =>
    hQ h' ⟨⟨B, hB, fun b o q nm => hBG b o (F.keep b o q) fun hm => (mem_frames hf hm).elim (fun z => (by rw [z, kts_self F] at q; cases q)) nm, fun q hq => ⟨(hl q hq).1, kts_none F.keep (hl q hq).2.1, (hl q hq).2.2⟩, x1, hnew⟩, htup.of_slots x2⟩ ((Heap.UpToSlots.of_keeps F.keep).trans (hsm.trans x2))
end
section
variable {c : Cx} {news news' : Led} {ρ ρ' : Rho} {J J' : JS} {s s' : Shared} {g : Heap} {m : Str → Option Value} {hd : Led} {A' : Around} {fi : FI} {f C e : Addr} {cd : Value} {cl : List (Str × Addr)} {Q : Unit → Shared → Prop} {E : Value → Shared → Prop}
/-- an exception leaves a callee's frame -/
theorem Fly.leave (G : Gr c g) (F : Fr g c.L s.heap m) (N : News g c.L s.heap (hd ++ news)) (R : RhoIs c m news ρ) (hs : ∀ p ∈ news, p ∈ news') (hk : fi.cs.kind = .function)
    (h : Fly (c.callee A' fi f cd cl s (hd ++ news)) news' ρ' J' C e s') (hQ : ∀ h', FlyR c news' ρ J' C e { s' with heap := h' } → Q () { s' with heap := h' }) :
    wpAny (model pg c.w) (c.callee A' fi f cd cl s (hd ++ news)).A (leaving (c.callee A' fi f cd cl s (hd ++ news)).env (.ref e)) Q E s' := by
  obtain ⟨g', m', hd', G', H', _, r, h⟩ := h
  obtain ⟨g₁, T₁, F₁, B₁, D₁, n₁⟩ := turn_back (env := c.env) G.B F N G.D rfl G'.T0 fun b o e => e
  have fin : ∀ h' t vs, RaisedS c.base g' (c.env :: c.outer) e (.ref C) t vs (hd' ++ news') h' → g'.UpToSlots h' → Q () { s' with heap := h' } := fun h' t vs R' U' =>
    hQ h' ⟨g₁, m, hd', ⟨B₁, G.T0.trans T₁, D₁⟩, H', R.mono hs, r, g', t, vs, F₁, R', U'⟩
  rcases h with ⟨h, F', N', X⟩ | ⟨G₂, t, vs, F', R', U'⟩
  · exact leave_made G'.B X F' N' rfl hk fun h' t vs R' U' => fin h' t vs R' U'
  · exact leave_on G'.B F' R' U' rfl fun h' R' U' => fin h' t vs R' U'
end
end Mine
namespace Mine
set_option genSizeOf false
set_option genInjectivity false
noncomputable abbrev KV := SV → JS → Prop
noncomputable abbrev KX := Addr → JS → Prop
inductive Fl where
  | next | brk | cont | ret (v : SV)
noncomputable abbrev KS := Fl → Rho → JS → Prop
noncomputable abbrev CallT := SV → List SV → JS → KV → KX → Prop
/-- one reading: of expressions, of tests, of suites -/
structure R where
  ev : FI → Expr → Rho → JS → KV → KX → Prop
  ts : FI → Expr → Rho → JS → (Bool → JS → Prop) → KX → Prop
  st : FI → List Stmt → Rho → JS → KS → KX → Prop

noncomputable def Small (a : Int) : Prop := -18446744073709551616 < a ∧ a < 18446744073709551616
noncomputable def Bits (a : Int) : Prop := -1000000000000000000 < a ∧ a < 1000000000000000000

inductive VBin : Operator → SV → SV → (SV → Prop) → Prop
  | add {a b : Int} {K : SV → Prop} : K (.int (a + b)) → VBin .Add (.int a) (.int b) K
  | adds {a b : Str} {K : SV → Prop} : a.length + b.length ≤ 1000 → K (.str (a ++ b)) → VBin .Add (.str a) (.str b) K
  | addl {a b : List SV} {K : SV → Prop} : a.length + b.length ≤ 1000 → K (.lst (a ++ b)) → VBin .Add (.lst a) (.lst b) K
  | sub {a b : Int} {K : SV → Prop} : K (.int (a - b)) → VBin .Sub (.int a) (.int b) K
  | mul {a b : Int} {K : SV → Prop} : Small a ∨ Small b → K (.int (a * b)) → VBin .Mult (.int a) (.int b) K
  | div {a b : Int} {K : SV → Prop} : 0 < b → Small b → K (.int (a / b)) → VBin .FloorDiv (.int a) (.int b) K
  | mod {a b : Int} {K : SV → Prop} : 0 < b → K (.int (a % b)) → VBin .Mod (.int a) (.int b) K
  | pow {a b : Int} {K : SV → Prop} : Small a → 0 ≤ b ∧ b ≤ 1000 → K (.int (a ^ b.toNat)) → VBin .Pow (.int a) (.int b) K
/-- lists of ints -/
noncomputable def asInts : List SV → Option (List Int)
  | [] => some []
  | .int i :: r => (asInts r).map (i :: ·)
  | _ :: _ => none
inductive VCmp : CmpOp → SV → SV → (Bool → Prop) → Prop
  | eq {a b : Int} {K : Bool → Prop} : K (decide (a = b)) → VCmp .Eq (.int a) (.int b) K
  | ne {a b : Int} {K : Bool → Prop} : K (!decide (a = b)) → VCmp .NotEq (.int a) (.int b) K
  | lt {a b : Int} {K : Bool → Prop} : K (decide (a < b)) → VCmp .Lt (.int a) (.int b) K
  | le {a b : Int} {K : Bool → Prop} : K (decide (a ≤ b)) → VCmp .LtE (.int a) (.int b) K
  | gt {a b : Int} {K : Bool → Prop} : K (decide (b < a)) → VCmp .Gt (.int a) (.int b) K
  | ge {a b : Int} {K : Bool → Prop} : K (decide (b ≤ a)) → VCmp .GtE (.int a) (.int b) K
  | neb {a b : Bool} {K : Bool → Prop} : K (a != b) → VCmp .NotEq (.bool a) (.bool b) K
  | nes {a b : Str} {K : Bool → Prop} : K (a != b) → VCmp .NotEq (.str a) (.str b) K
  | eql {a b : List SV} {x y : List Int} {K : Bool → Prop} : asInts a = some x → asInts b = some y → K (decide (x = y)) → VCmp .Eq (.lst a) (.lst b) K
  | nel {a b : List SV} {x y : List Int} {K : Bool → Prop} : asInts a = some x → asInts b = some y → K (!decide (x = y)) → VCmp .NotEq (.lst a) (.lst b) K
noncomputable abbrev truth : SV → Option Bool
  | .bool b => some b
  | .int i => some (i != 0)
  | _ => none
noncomputable def constV (c : Const) (K : SV → Prop) : Prop := match c with
  | .int i => K (.int i)
  | .bool b => K (.bool b)
  | .str s => K (.str s)
  | .none => K .none
  | _ => False

/-- the text's own names, as its top leaves them -/
noncomputable def gtab : List (String × SV) := ("_law_take", .fn 169) :: ("abs", .bi "abs") :: ("_law_number", .fn 176) :: ("_law_plain", .fn 183) :: ("check_whole", .fn 73) :: ("is_whole", .fn 66) :: ("len", .bi "len") :: ("range", .ty "range") :: ("isinstance", .bi "isinstance") :: ("int", .ty "int") :: ("bool", .ty "bool") :: ("rounded", .fn 94) :: ("reading", .fn 115) :: ("UNITY", .int 65536) :: ("_law_read", .fn 239) :: ("_law_whole", .fn 246) :: ("from_decimals", .fn 108) :: ("decimal_text", .fn 122) :: ("check_dimen", .fn 87) :: ("check_number", .fn 80) :: ("times", .fn 129) :: ("times_number", .fn 136) :: ("over", .fn 143) :: ("fraction", .fn 150) :: ("badness", .fn 157) :: ("halved", .fn 101) :: ("_law_refused", .fn 265) :: ("_law_kept", .fn 218) :: ("_law_rounds", .fn 190) :: ("_law_halves", .fn 197) :: ("_law_divides", .fn 204) :: ("_law_fractions", .fn 211) :: ("_law_products", .fn 225) :: ("_law_bad", .fn 232) :: ("_law_decimals", .fn 253) :: ("_law_texts", .fn 258) :: ("_law_doors", .fn 272) :: ("MAX_DIMEN", .int 1073741823) :: ("MAX_NUMBER", .int 2147483647) :: ("INF_BAD", .int 10000) :: ("MOST_DIGITS", .int 17) :: ("divmod", .bi "divmod") :: ("str", .ty "str") :: ("ord", .bi "ord") :: ("list", .ty "list") :: []
noncomputable def glook (x : Str) : List (String × SV) → Option SV
  | [] => none
  | (y, v) :: r => if x = Str.ofString y then some v else glook x r
noncomputable def nameV (fi : FI) (x : Str) (ρ : Rho) (K : SV → Prop) : Prop := match ρ.lookup x with
  | some v => K v
  | none => match fi.cs.names.lookup x with
    | some .globalImplicit => (match glook x gtab with | some v => K v | none => False)
    | _ => False
/-- a store into a local name; the names keep their places -/
noncomputable def put (x : Str) (v : SV) : Rho → (Rho → Prop) → Prop
  | [], k => k [(x, v)]
  | (y, w) :: r, k => if x = y then k ((x, v) :: r) else put x v r (fun r' => k ((y, w) :: r'))
noncomputable def storeV (fi : FI) (x : Str) (v : SV) (ρ : Rho) (K : Rho → Prop) : Prop := match fi.cs.names.lookup x with
  | some .local => put x v ρ K
  | _ => False
noncomputable def asName (e : Expr) : Option Str := match e with
  | .Name x _ => some x
  | _ => none
noncomputable def noStars (es : List Expr) : Prop := ∀ env, starEach es env = es.map fun e => (false, eval e env)
noncomputable def storeAll (fi : FI) : List Expr → List SV → Rho → (Rho → Prop) → Prop
  | [], vs, ρ, K => vs = [] ∧ K ρ
  | t :: ts, vs, ρ, K => match asName t, vs with
    | some x, v :: vs => storeV fi x v ρ (fun ρ => storeAll fi ts vs ρ K)
    | _, _ => False
noncomputable def zipR : List Str → List SV → Rho → Rho
  | p :: ps, v :: vs, acc => zipR ps vs ((p, v) :: acc)
  | _, _, acc => acc

noncomputable def isi (v : SV) (t : String) : Option Bool := match v with
  | .int _ => some (t == "int")
  | .bool _ => some true
  | .str _ => some false
  | .none => some false
  | _ => none
/-- a call of a built-in function, of a built-in type -/
inductive CallB : String → List SV → (SV → Prop) → Prop
  | abs {a : Int} {K : SV → Prop} : K (.int (if a < 0 then -a else a)) → CallB "abs" [.int a] K
  | divmod {a b : Int} {K : SV → Prop} : 0 < b → Small b → K (.tup [.int (a / b), .int (a % b)]) → CallB "divmod" [.int a, .int b] K
  | isi {v : SV} {t : String} {b : Bool} {K : SV → Prop} : isi v t = some b → t = "int" ∨ t = "bool" → K (.bool b) → CallB "isinstance" [v, .ty t] K
  | lens {s : Str} {K : SV → Prop} : s.length ≤ 1000 → K (.int s.length) → CallB "len" [.str s] K
  | lenl {vs : List SV} {K : SV → Prop} : vs.length ≤ 1000 → K (.int vs.length) → CallB "len" [.lst vs] K
  | ord {x : Nat} {K : SV → Prop} : K (.int x) → CallB "ord" [.str ⟨#[x]⟩] K
inductive CallTy : String → List SV → (SV → Prop) → Prop
  | str {a : Int} {K : SV → Prop} : Bits a → K (.str (Str.ofString (toString a))) → CallTy "str" [.int a] K
  | rng1 {a : Int} {K : SV → Prop} : Bits a → K (.rng 0 a 1) → CallTy "range" [.int a] K
  | rng3 {a b c : Int} {K : SV → Prop} : Bits a → Bits b → Bits c → c ≠ 0 → K (.rng a b c) → CallTy "range" [.int a, .int b, .int c] K
  | list {vs : List SV} {K : SV → Prop} : vs.length ≤ 1000 → K (.lst vs) → CallTy "list" [.lst vs] K
inductive ItemV (J : JS) : SV → SV → (SV → Prop) → Prop
  | tup {vs : List SV} {i : Int} {v : SV} {K : SV → Prop} : 0 ≤ i → i < 1000 → vs[i.toNat]? = some v → K v → ItemV J (.tup vs) (.int i) K
  | lst {vs : List SV} {i : Int} {v : SV} {K : SV → Prop} : 0 ≤ i → i < 1000 → vs[i.toNat]? = some v → K v → ItemV J (.lst vs) (.int i) K
  | jar0 {K : SV → Prop} : K .cells → ItemV J .jar (.int 0) K
  | jar1 {K : SV → Prop} : K (.int J.at_) → ItemV J .jar (.int 1) K
  | jar2 {K : SV → Prop} : K (.int J.salt) → ItemV J .jar (.int 2) K
  | cell {i v : Int} {K : SV → Prop} : 0 ≤ i → i < 1000 → J.cells[i.toNat]? = some v → K (.int v) → ItemV J .cells (.int i) K
/-- the length of the jar's cells is asked too -/
inductive LenC (J : JS) : SV → List SV → (SV → Prop) → Prop
  | mk {K : SV → Prop} : J.cells.length ≤ 1000 → K (.int J.cells.length) → LenC J (.bi "len") [.cells] K

noncomputable def asSlice (e : Expr) : Option (Option Expr × Option Expr) := match e with
  | .Slice lo hi none _ => some (lo, hi)
  | _ => none
inductive SliceV : Option SV → Option SV → SV → (SV → Prop) → Prop
  | sto {x : Str} {k : Int} {K : SV → Prop} : x.length ≤ 1000 → K (.str (Txt.slice x none (some k))) → SliceV none (some (.int k)) (.str x) K
  | sfrom {x : Str} {k : Int} {K : SV → Prop} : x.length ≤ 1000 → K (.str (Txt.slice x (some k) none)) → SliceV (some (.int k)) none (.str x) K
  | lto {vs : List SV} {k : Int} {K : SV → Prop} : 0 ≤ k → vs.length ≤ 1000 → K (.lst (vs.take k.toNat)) → SliceV none (some (.int k)) (.lst vs) K
noncomputable def plainIdx (i : Expr) : Prop := ∀ a k u, subscripted i false (.ref a) (.int k u) = operate [.ref a, .int k u] (getItem (.ref a) (.int k u))
noncomputable def noTemp (v : Expr) : Prop := ∀ o r, letTemporaryGo v o r = pure ()
section
variable (call : CallT) (r : R) (fi : FI)
noncomputable def evs : List Expr → Rho → JS → (List SV → JS → Prop) → KX → Prop
  | [], _, J, K, _ => K [] J
  | e :: es, ρ, J, K, X => r.ev fi e ρ J (fun v J => evs es ρ J (fun vs J => K (v :: vs) J) X) X
noncomputable def callV (f : SV) (vs : List SV) (J : JS) (K : KV) (X : KX) : Prop := match f with
  | .bi n => CallB n vs (K · J) ∨ LenC J (.bi n) vs (K · J)
  | .ty n => CallTy n vs (K · J)
  | f => fi.hd = false ∧ call f vs J K X
noncomputable def boolE (op : BoolOp) : List Expr → Rho → JS → KV → KX → Prop
  | [], _, _, _, _ => False
  | [e], ρ, J, K, X => r.ev fi e ρ J K X
  | e :: es, ρ, J, K, X => r.ev fi e ρ J (fun v J => match truth v, op with
    | some b, .And => (b = true → boolE op es ρ J K X) ∧ (b = false → K v J)
    | some b, .Or => (b = true → K v J) ∧ (b = false → boolE op es ρ J K X)
    | none, _ => False) X
noncomputable def boolT (op : BoolOp) : List Expr → Rho → JS → (Bool → JS → Prop) → KX → Prop
  | [], _, J, K, _ => match op with | .And => K true J | .Or => K false J
  | e :: es, ρ, J, K, X => r.ts fi e ρ J (fun b J => match op with
    | .And => (b = true → boolT op es ρ J K X) ∧ (b = false → K false J)
    | .Or => (b = true → K true J) ∧ (b = false → boolT op es ρ J K X)) X
noncomputable def cmpV (l : Expr) (ops : List CmpOp) (es : List Expr) (ρ : Rho) (J : JS) (K : Bool → JS → Prop) (X : KX) : Prop := match ops, es with
  | [op], [e] => behindInMarks op e = false ∧ r.ev fi l ρ J (fun a J => r.ev fi e ρ J (fun b J => VCmp op a b (K · J)) X) X
  | [o1, o2], [e1, e2] => lastMarks [o1, o2] [e1, e2] = false ∧ r.ev fi l ρ J (fun a J => r.ev fi e1 ρ J (fun b J => VCmp o1 a b (fun t =>
      (t = true → r.ev fi e2 ρ J (fun d J => VCmp o2 b d (K · J)) X) ∧ (t = false → K false J))) X) X
  | _, _ => False
/-- the own exception class of a raise, of a clause -/
noncomputable def excOf (x : Str) : Option Addr := if x = Str.ofString "BadArgument" then some 45 else if x = Str.ofString "Overflow" then some 57 else none
noncomputable def excName (x : Str) (K : Addr → Prop) : Prop := match fi.cs.names.lookup x, excOf x with
  | some .globalImplicit, some C => K C
  | _, _ => False
noncomputable def stepEv (e : Expr) (ρ : Rho) (J : JS) (K : KV) (X : KX) : Prop := match e with
  | .Constant c _ _ => constV c (K · J)
  | .Name x _ => nameV fi x ρ (K · J)
  | .BinOp l op e _ => r.ev fi l ρ J (fun a J => r.ev fi e ρ J (fun b J => VBin op a b (K · J)) X) X
  | .UnaryOp op e _ => match op with
    | .USub => r.ev fi e ρ J (fun a J => match a with | .int i => K (.int (-i)) J | _ => False) X
    | .Not => r.ev fi e ρ J (fun a J => match a with | .bool b => K (.bool !b) J | _ => False) X
    | _ => False
  | .IfExp t b o _ => r.ts fi t ρ J (fun c J => (c = true → r.ev fi b ρ J K X) ∧ (c = false → r.ev fi o ρ J K X)) X
  | .BoolOp op es _ => boolE r fi op es ρ J K X
  | .Compare l ops es _ => cmpV r fi l ops es ρ J (fun b J => K (.bool b) J) X
  | .Call f as kw _ => (asName f).isSome = true ∧ kw = [] ∧ noStars as ∧ r.ev fi f ρ J (fun fv J => evs r fi as ρ J (fun vs J => callV call fi fv vs J K X) X) X
  | .Tuple es _ _ => noStars es ∧ evs r fi es ρ J (fun vs J => vs.length ≤ 1000 ∧ K (.tup vs) J) X
  | .List es _ => noStars es ∧ evs r fi es ρ J (fun vs J => vs.length ≤ 1000 ∧ K (.lst vs) J) X
  | .Subscript v i _ => match asSlice i with
    | none => plainIdx i ∧ r.ev fi v ρ J (fun a J => r.ev fi i ρ J (fun b J => ItemV J a b (K · J)) X) X
    | some (none, some e) => r.ev fi v ρ J (fun a J => r.ev fi e ρ J (fun b J => ((∃ s, a = .str s) ∨ noTemp v) ∧ SliceV none (some b) a (K · J)) X) X
    | some (some e, none) => r.ev fi v ρ J (fun a J => r.ev fi e ρ J (fun b J => ((∃ s, a = .str s) ∨ noTemp v) ∧ SliceV (some b) none a (K · J)) X) X
    | _ => False
  | _ => False
/-- a test (the semantics reads a test by its shape) -/
noncomputable def stepTs (e : Expr) (ρ : Rho) (J : JS) (K : Bool → JS → Prop) (X : KX) : Prop := match e with
  | .UnaryOp op e _ => match op with
    | .Not => r.ts fi e ρ J (fun b J => K (!b) J) X
    | _ => False
  | .BoolOp op es _ => boolT r fi op es ρ J K X
  | .Compare l ops es _ => cmpV r fi l ops es ρ J K X
  | .Call f as kw p => r.ev fi (.Call f as kw p) ρ J (fun v J => match truth v with | some b => K b J | none => False) X
  | .Name x p => r.ev fi (.Name x p) ρ J (fun v J => match truth v with | some b => K b J | none => False) X
  | _ => False
noncomputable def storeT (t : Expr) (v : SV) (ρ : Rho) (K : Rho → Prop) : Prop := match asName t, v with
  | some x, v => storeV fi x v ρ K
  | none, .tup vs => (match t with | .Tuple ts _ _ => storeAll fi ts vs ρ K | _ => False)
  | _, _ => False
/-- a store to several names: does the semantics take its short way? -/
noncomputable def swapT (ts : List Expr) (v : Expr) : Option (List Str) := match v with
  | .Tuple vs _ _ => if vs.all (foldedForSure 8) then none else some (ts.filterMap asName)
  | _ => none
end
end Mine
namespace Mine
noncomputable def PostE (c : Cx) (news : Led) (ρ : Rho) (K : KV) (Q : Value → Shared → Prop) : Prop :=
  ∀ news' v sv J' s', (∀ p ∈ news, p ∈ news') → K sv J' → Rep c.jA c.cA news' sv v → Here c news' ρ J' s' → Q v s'
noncomputable def PostL (c : Cx) (news : Led) (ρ : Rho) (K : List SV → JS → Prop) (Q : List Value → Shared → Prop) : Prop :=
  ∀ news' xs vs J' s', (∀ p ∈ news, p ∈ news') → K vs J' → RepL c.jA c.cA news' vs xs → Here c news' ρ J' s' → Q xs s'
noncomputable def PostB (c : Cx) (news : Led) (ρ : Rho) (K : Bool → JS → Prop) (Q : Bool → Shared → Prop) : Prop :=
  ∀ news' b J' s', (∀ p ∈ news, p ∈ news') → K b J' → Here c news' ρ J' s' → Q b s'
noncomputable def PostX (c : Cx) (news : Led) (ρ : Rho) (X : KX) (E : Value → Shared → Prop) : Prop :=
  ∀ news' C e J' s', (∀ p ∈ news, p ∈ news') → X C J' → FlyR c news' ρ J' C e s' → E (.ref e) s'
noncomputable def PostXS (c : Cx) (news : Led) (X : KX) (E : Value → Shared → Prop) : Prop :=
  ∀ news' C e J' s', (∀ p ∈ news, p ∈ news') → X C J' → Fly c news' [] J' C e s' → E (.ref e) s'
inductive RepF (jA cA : Addr) (news : Led) : Fl → Flow → Prop
  | next : RepF jA cA news .next .next
  | brk : RepF jA cA news .brk .brk
  | cont : RepF jA cA news .cont .cont
  | ret {sv : SV} {v : Value} : Rep jA cA news sv v → RepF jA cA news (.ret sv) (.ret v)
noncomputable def PostS (c : Cx) (news : Led) (K : KS) (Q : Flow → Shared → Prop) : Prop :=
  ∀ news' f fl ρ' J' s', (∀ p ∈ news, p ∈ news') → K fl ρ' J' → RepF c.jA c.cA news' fl f → Here c news' ρ' J' s' → Q f s'

section
variable {c : Cx} {news l l' : Led} {ρ : Rho} {K : KV} {X : KX} {Q : Value → Shared → Prop} {E : Value → Shared → Prop}
theorem PostE.mono (h : ∀ p ∈ l, p ∈ l') (x : PostE c l ρ K Q) : PostE c l' ρ K Q := fun n v sv J s hs => x n v sv J s fun p hp => hs p (h p hp)
theorem PostX.mono (h : ∀ p ∈ l, p ∈ l') (x : PostX c l ρ X E) : PostX c l' ρ X E := fun n C e J s hs => x n C e J s fun p hp => hs p (h p hp)
end

theorem PostXS.ev {c : Cx} {l l' : Led} {ρ : Rho} {X : KX} {E : Value → Shared → Prop} (x : PostXS c l X E) (h : ∀ p ∈ l, p ∈ l') : PostX c l' ρ X E := fun n C e J s hs hX hF => x n C e J s (fun p hp => hs p (h p hp)) hX hF.fly.any
theorem PostXS.mono {c : Cx} {l l' : Led} {X : KX} {E : Value → Shared → Prop} (x : PostXS c l X E) (h : ∀ p ∈ l, p ∈ l') : PostXS c l' X E := fun n C e J s hs hX hF => x n C e J s (fun p hp => hs p (h p hp)) hX hF
structure SoundR (w : World) (n : Nat) (r : R) : Prop where
  ev : ∀ {c : Cx} {news ρ J s e K X Q E}, c.w = w → c.Ok n → r.ev c.fi e ρ J K X → Here c news ρ J s → PostE c news ρ K Q → PostX c news ρ X E → wpAny (model pg w) c.A (eval e c.env) Q E s
  ts : ∀ {c : Cx} {news ρ J s e K X Q E}, c.w = w → c.Ok n → r.ts c.fi e ρ J K X → Here c news ρ J s → PostB c news ρ K Q → PostX c news ρ X E → wpAny (model pg w) c.A (isTrue e c.env (eval e c.env)) Q E s
  st : ∀ {c : Cx} {news ρ J s b K X Q E}, c.w = w → c.Ok n → r.st c.fi b ρ J K X → Here c news ρ J s → PostS c news K Q → PostXS c news X E → PassesOwn (model pg w) c.A c.env E → wpAny (model pg w) c.A (execs b c.env) Q E s
noncomputable def SoundC (w : World) (n : Nat) (call : CallT) : Prop :=
  ∀ {c : Cx} {news ρ J s f fv vs xs K X Q E}, c.w = w → c.Ok n → c.fi.hd = false → call f vs J K X → Here c news ρ J s → Rep c.jA c.cA news f fv → RepL c.jA c.cA news vs xs → PostE c news ρ K Q → PostX c news ρ X E →
    (∃ a, fv = .ref a ∧ FnAt a s.heap) ∧ wpAny (model pg w) c.A (PySem.call fv xs) Q E s

theorem backTo_no {env : Env} {pos : Pos} {es : List Expr} (h : noStars es) : backTo pos (starEach es env) = es.map fun e => (false, eval e env) := by
  rw [h]
  simp [backTo]
theorem spliced_cons {M : Model} {A : Around} {E : Value → Shared → Prop} {s : Shared} {x : Sem Value} {rest : List (Bool × Sem Value)} {Q : List Value → Shared → Prop}
    (h : wpAny M A x (fun v s₁ => wpAny M A (spliced rest) (fun vs s₂ => Q (v :: vs) s₂) E s₁) E s) : wpAny M A (spliced ((false, x) :: rest)) Q E s :=
  wpAny_bind (wpAny_mono h (fun v s₁ h₁ => wpAny_bind (wpAny_pure (wpAny_bind (wpAny_holding (wpAny_mono h₁ (fun _ _ q => wpAny_pure q) fun _ _ q => q))))) fun _ _ q => q)

section
variable {w : World} {n : Nat} {r : R} {call : CallT} {c : Cx} {news : Led} {ρ : Rho} {J : JS} {s : Shared} {X : KX} {E : Value → Shared → Prop}
theorem s_evs (S : SoundR w n r) (hw : c.w = w) (ok : c.Ok n) {es : List Expr} : ∀ {news J s K Q}, evs r c.fi es ρ J K X → Here c news ρ J s → PostL c news ρ K Q → PostX c news ρ X E →
    wpAny (model pg w) c.A (spliced (es.map fun e => (false, eval e c.env))) Q E s := by
  induction es with
  | nil => intro news J s K Q h H hQ hX; exact wpAny_pure (hQ _ _ _ _ _ (fun _ h => h) h RepL.nil H)
  | cons e es ih =>
    intro news J s K Q h H hQ hX
    refine spliced_cons (S.ev hw ok h H (fun news₁ v sv J₁ s₁ hs h₁ R₁ H₁ => ?_) hX)
    exact ih h₁ H₁ (fun news₂ xs vs J₂ s₂ hs₂ h₂ R₂ H₂ => hQ _ _ _ _ _ (fun p hp => hs₂ p (hs p hp)) h₂ (RepL.cons (R₁.mono hs₂) R₂) H₂) (hX.mono hs)

section
variable {jA cA : Addr} {v : Value}
theorem Rep.int_inv {i : Int} (h : Rep jA cA news (.int i) v) : ∃ t, v = .int i t := h.inv
theorem Rep.bool_inv {b : Bool} (h : Rep jA cA news (.bool b) v) : v = .bool b := h.inv
theorem Rep.str_inv {x : Str} (h : Rep jA cA news (.str x) v) : ∃ t, v = .str x t := h.inv
end
section
variable {v v2 v3 : SV} {xs : List Value} {jA cA : Addr}
theorem RepL.inv0 (h : RepL jA cA news [] xs) : xs = [] := List.eq_nil_of_length_eq_zero h.1
theorem RepL.invS {vs : List SV} (h : RepL jA cA news (v :: vs) xs) : ∃ x ys, xs = x :: ys ∧ Rep jA cA news v x ∧ RepL jA cA news vs ys := by
  cases xs with
  | nil => exact absurd h.1 (by simp)
  | cons x ys => exact ⟨x, ys, rfl, h.2 0 _ _ rfl rfl, Nat.succ.inj h.1, fun i v y e f => h.2 (i + 1) v y e f⟩
theorem RepL.inv1 (h : RepL jA cA news [v] xs) : ∃ x, xs = [x] ∧ Rep jA cA news v x := by
  obtain ⟨x, ys, rfl, h1, h⟩ := h.invS
  obtain rfl := h.inv0
  exact ⟨x, rfl, h1⟩
theorem RepL.inv2 (h : RepL jA cA news [v, v2] xs) : ∃ x y, xs = [x, y] ∧ Rep jA cA news v x ∧ Rep jA cA news v2 y := by
  obtain ⟨x, ys, rfl, h1, h⟩ := h.invS
  obtain ⟨y, rfl, h2⟩ := h.inv1
  exact ⟨x, y, rfl, h1, h2⟩
theorem RepL.inv3 (h : RepL jA cA news [v, v2, v3] xs) : ∃ x y z, xs = [x, y, z] ∧ Rep jA cA news v x ∧ Rep jA cA news v2 y ∧ Rep jA cA news v3 z := by
  obtain ⟨x, ys, rfl, h1, h⟩ := h.invS
  obtain ⟨y, z, rfl, h2, h3⟩ := h.inv2
  exact ⟨x, y, z, rfl, h1, h2, h3⟩

end
/-- a new object is made by the step: the frame goes on with it -/
theorem Here.alloc (H : Here c news ρ J s) {P : Prop} (k : ∀ (g : Heap) (m : Str → Option Value) (hd : Led), Fr g c.L s.heap m → News g c.L s.heap (hd ++ news) →
    (∀ (s' : Shared) (a : Addr) (o : Obj), Fr g c.L s'.heap m → News g c.L s'.heap ((a, o) :: (hd ++ news)) → (∀ p ∈ hd ++ news, p.1 ≠ a) → s'.gens = s.gens → s'.os = s.os → Here c ((a, o) :: news) ρ J s') → P) : P := by
  obtain ⟨g, m, hd, G, F, N, Hi, R, r⟩ := H
  exact k g m hd F N fun _ _ _ F' N' ha e1 e2 => Here.push (s := s) G F' N' Hi (fun p hp => ha p (List.mem_append_left _ hp)) R ⟨e1.trans r.1, e2.trans r.2⟩
theorem Here.list (H : Here c news ρ J s) {a : Addr} {o : Obj} (hm : (a, o) ∈ news) : s.heap.get? a = some o := by
  obtain ⟨g, m, hd, G, F, N, _⟩ := H
  exact (N _ (List.mem_append_right _ hm)).1
theorem RepL.app {jA cA : Addr} : ∀ {a b : List SV} {xs ys : List Value}, RepL jA cA news a xs → RepL jA cA news b ys → RepL jA cA news (a ++ b) (xs ++ ys)
  | [], _, _, _, R, R' => by obtain rfl := R.inv0; exact R'
  | _ :: _, _, _, _, R, R' => by obtain ⟨x, ys, rfl, R1, R2⟩ := R.invS; exact RepL.cons R1 (R2.app R')
theorem asInts_are {jA cA : Addr} : ∀ {a : List SV} {x : List Int} {xs : List Value}, asInts a = some x → RepL jA cA news a xs → IntsAre xs x
  | [], _, _, e, R => by cases e; obtain rfl := R.inv0; exact .nil
  | v :: a, _, _, e, R => by
    obtain ⟨x, ys, rfl, R1, R2⟩ := R.invS
    cases v with
    | int i =>
      obtain ⟨t, rfl⟩ := R1.int_inv
      cases q : asInts a with
      | none => rw [asInts, q] at e; cases e
      | some z => rw [asInts, q] at e; cases e; exact .cons i t (asInts_are q R2)
    | _ => cases e
theorem Here.isList (H : Here c news ρ J s) {a : Addr} {xs : List Value} {k : Nat} (hm : (a, W.listOf xs.toArray k) ∈ news) : s.heap.IsList a xs.toArray := ⟨_, H.list hm, rfl, _, rfl⟩
theorem Cx.Ok.cmp (ok : c.Ok n) : c.A.units + 64 < cLine := Nat.lt_of_le_of_lt (by omega) ok.uni
theorem s_cmp {op : CmpOp} {a b : SV} {x y : Value} {K : Bool → Prop} {Q : Value → Shared → Prop} {A : Around} (h : VCmp op a b K) (ha : Rep c.jA c.cA news a x) (hb : Rep c.jA c.cA news b y) (H : Here c news ρ J s)
    (hu : A.units + 64 < cLine) (hQ : ∀ t s', K t → Here c news ρ J s' → Q (.bool t) s') : wpAny (model pg w) A (compareOp op x y) Q E s := by
  cases h with
  | eq h => obtain ⟨_, rfl⟩ := ha.int_inv; obtain ⟨_, rfl⟩ := hb.int_inv; exact eq_int (hQ _ _ h H)
  | ne h => obtain ⟨_, rfl⟩ := ha.int_inv; obtain ⟨_, rfl⟩ := hb.int_inv; exact ne_int (hQ _ _ h H)
  | lt h => obtain ⟨_, rfl⟩ := ha.int_inv; obtain ⟨_, rfl⟩ := hb.int_inv; exact lt_int (hQ _ _ h H)
  | le h => obtain ⟨_, rfl⟩ := ha.int_inv; obtain ⟨_, rfl⟩ := hb.int_inv; exact le_int (hQ _ _ h H)
  | gt h => obtain ⟨_, rfl⟩ := ha.int_inv; obtain ⟨_, rfl⟩ := hb.int_inv; exact gt_int (hQ _ _ h H)
  | ge h => obtain ⟨_, rfl⟩ := ha.int_inv; obtain ⟨_, rfl⟩ := hb.int_inv; exact ge_int (hQ _ _ h H)
  | neb h => obtain rfl := ha.bool_inv; obtain rfl := hb.bool_inv; exact ne_bool (hQ _ _ h H)
  | nes h => obtain ⟨_, rfl⟩ := ha.str_inv; obtain ⟨_, rfl⟩ := hb.str_inv; exact ne_str (hQ _ _ h H)
  | eql e1 e2 h => obtain ⟨_, _, _, rfl, m1, R1⟩ := ha.inv; obtain ⟨_, _, _, rfl, m2, R2⟩ := hb.inv; exact eq_intsK (H.isList m1) (asInts_are e1 R1) (H.isList m2) (asInts_are e2 R2) hu (hQ _ _ h H)
  | nel e1 e2 h => obtain ⟨_, _, _, rfl, m1, R1⟩ := ha.inv; obtain ⟨_, _, _, rfl, m2, R2⟩ := hb.inv; exact ne_intsK (H.isList m1) (asInts_are e1 R1) (H.isList m2) (asInts_are e2 R2) hu (hQ _ _ h H)
theorem small_bits {a : Int} (h : Small a) : Builtin.Int.intBits a ≤ 64 := PySem.intBits_le_64 (by have := h.1; omega) (by have := h.2; omega)
theorem small_py {a b : Int} (h : Small b) : Builtin.divisionGoesByPylong a b = false := PyProof.noPylong_of_log2 (by
  by_cases h0 : b.natAbs = 0
  · rw [h0]; decide
  · have : b.natAbs.log2 < 64 := (Nat.log2_lt h0).mpr (by have := h.1; have := h.2; omega)
    omega)
theorem PostE.int {K : SV → Prop} {Q : Value → Shared → Prop} {i j : Int} {t : Tok} {s' : Shared} (hQ : PostE c news ρ (fun v J' => K v ∧ J' = J) Q) (k : K (.int i)) (H : Here c news ρ J s') (e : j = i) : Q (.int j t) s' :=
  e ▸ hQ _ _ _ _ _ (fun _ h => h) ⟨k, rfl⟩ (.int i t) H
theorem s_bin {op : Operator} {a b : SV} {x y : Value} {K : SV → Prop} {Q : Value → Shared → Prop} {A : Around} (h : VBin op a b K) (ha : Rep c.jA c.cA news a x) (hb : Rep c.jA c.cA news b y) (H : Here c news ρ J s)
    (hQ : PostE c news ρ (fun v J' => K v ∧ J' = J) Q) : wpAny (model pg w) A (binaryOp op x y) Q E s := by
  cases h with
  | add h => obtain ⟨_, rfl⟩ := ha.int_inv; obtain ⟨_, rfl⟩ := hb.int_inv; exact add_int (hQ.int h H rfl)
  | adds z h => obtain ⟨_, rfl⟩ := ha.str_inv; obtain ⟨_, rfl⟩ := hb.str_inv; exact PyProof.Rows.add_str (fun _ _ => hQ _ _ _ _ _ (fun _ h => h) ⟨h, rfl⟩ (.str _ _) H) (by rw [sizeLine_eq]; omega)
  | addl z h =>
    obtain ⟨_, _, _, rfl, m1, R1⟩ := ha.inv; obtain ⟨_, _, _, rfl, m2, R2⟩ := hb.inv
    exact H.alloc fun g m hd F N k => add_lists F N (H.isList m1) (H.isList m2) (fun h' F' N' => hQ _ _ _ _ _ (fun _ hp => .tail _ hp) ⟨h, rfl⟩ (.lst (n := 0) (.head _) (R1.app R2).1 ((R1.app R2).mono fun _ hp => .tail _ hp).2) (k _ _ _ F' N' (ne_fresh N) rfl rfl)) (by rw [R1.1, R2.1, sizeLine_eq]; omega)
  | sub h => obtain ⟨_, rfl⟩ := ha.int_inv; obtain ⟨_, rfl⟩ := hb.int_inv; exact sub_int (hQ.int h H rfl)
  | mul z h => obtain ⟨_, rfl⟩ := ha.int_inv; obtain ⟨_, rfl⟩ := hb.int_inv; exact mul_int (hQ.int h H rfl) (z.elim (fun q => .of_left (small_bits q)) fun q => .of_right (small_bits q))
  | div z q h => obtain ⟨_, rfl⟩ := ha.int_inv; obtain ⟨_, rfl⟩ := hb.int_inv; exact floordiv_int (Int.ne_of_gt z) (hQ.int h H (Int.fdiv_eq_ediv_of_nonneg _ (Int.le_of_lt z))) (.inl (small_py q))
  | mod z h => obtain ⟨_, rfl⟩ := ha.int_inv; obtain ⟨_, rfl⟩ := hb.int_inv; exact mod_int (Int.ne_of_gt z) (hQ.int h H (Int.fmod_eq_emod_of_nonneg _ (Int.le_of_lt z)))
  | pow q z h => obtain ⟨_, rfl⟩ := ha.int_inv; obtain ⟨_, rfl⟩ := hb.int_inv; exact pow_int_small z.1 (by omega) (by have := q.1; have := q.2; omega) (hQ.int h H rfl)
end
end Mine
namespace Mine
noncomputable def GOk (w : World) (x : Str) (sv : SV) : Prop :=
  ∃ v, (nsIn (hd.heap_39 w.params) mainGlobals x = some (some v) ∨ (nsIn (hd.heap_39 w.params) mainGlobals x = some none ∧ bootBuiltins x = some v ∧ x ≠ Str.ofString "__name__")) ∧ ∀ jA cA news, Rep jA cA news sv v
theorem glook_nil {P : Str → SV → Prop} : ∀ x sv, glook x [] = some sv → P x sv := fun _ _ h => nomatch h
theorem glook_cons {P : Str → SV → Prop} {y : String} {v : SV} {r : List (String × SV)} (h : P (Str.ofString y) v) (hr : ∀ x sv, glook x r = some sv → P x sv) : ∀ x sv, glook x ((y, v) :: r) = some sv → P x sv := fun x sv e => by
  unfold glook at e
  by_cases q : x = Str.ofString y
  · rw [if_pos q] at e; cases e; rw [q]; exact h
  · rw [if_neg q] at e; exact hr x sv e
theorem gok_fn {w : World} {x : Str} {a : Addr} (h : nsIn (hd.heap_39 w.params) mainGlobals x = some (some (.ref a))) : GOk w x (.fn a) := ⟨_, .inl h, fun _ _ _ => .fn a⟩
theorem gok_int {w : World} {x : Str} {i : Int} {t : Tok} (h : nsIn (hd.heap_39 w.params) mainGlobals x = some (some (.int i t))) : GOk w x (.int i) := ⟨_, .inl h, fun _ _ _ => .int i t⟩
theorem gok_bi {w : World} {x : Str} {n : String} (h : nsIn (hd.heap_39 w.params) mainGlobals x = some none) (hb : bootBuiltins x = some (.builtin n)) (hn : x ≠ Str.ofString "__name__") : GOk w x (.bi n) := ⟨_, .inr ⟨h, hb, hn⟩, fun _ _ _ => .bi n⟩
theorem gok_ty {w : World} {x : Str} {n : String} (h : nsIn (hd.heap_39 w.params) mainGlobals x = some none) (hb : bootBuiltins x = some (.type n)) (hn : x ≠ Str.ofString "__name__") : GOk w x (.ty n) := ⟨_, .inr ⟨h, hb, hn⟩, fun _ _ _ => .ty n⟩
theorem gtab_ok (w : World) : ∀ x sv, glook x gtab = some sv → GOk w x sv := by
  unfold gtab
  repeat first
    | exact glook_nil
    | (refine' glook_cons ?g ?_; (case g => first
      | (refine gok_fn ?_; k_dflt k_is)
      | (refine' gok_int ?e; (case e => k_dflt k_is))
      | (refine gok_bi ?_ ?_ ?_; k_dflt k_is; boot_fast; decide)
      | (refine gok_ty ?_ ?_ ?_; k_dflt k_is; boot_fast; decide)))
end Mine
namespace Mine
section
variable {w : World} {n : Nat} {r : R} {call : CallT} {c : Cx} {news : Led} {ρ : Rho} {J : JS} {s : Shared} {X : KX} {E : Value → Shared → Prop}
theorem not_dbg {sc : Scope} {x : Str} {k : NameKind} (ok : scopeOk sc) (h : sc.names.lookup x = some k) : (x == Str.ofString "__debug__") = false := by
  refine beq_eq_false_iff_ne.mpr fun e => ?_
  rw [e, ok.2.2.2.1] at h; cases h
theorem not_cd {sc : Scope} {x : Str} {k : NameKind} (ok : scopeOk sc) (h : sc.names.lookup x = some k) : (x == Str.ofString "__classdict__") = false := by
  refine beq_eq_false_iff_ne.mpr fun e => ?_
  rw [e, ok.2.2.2.2] at h; cases h
theorem s_name (ok : c.Ok n) {x : Str} {pos : Pos} {K : SV → Prop} {Q : Value → Shared → Prop} (h : nameV c.fi x ρ K) (H : Here c news ρ J s) (hQ : ∀ sv v, K sv → Rep c.jA c.cA news sv v → Q v s) :
    wpAny (model pg c.w) c.A (eval (.Name x pos) c.env) Q E s := by
  obtain ⟨g, m, hd, G, F, N, _, R, _⟩ := H
  unfold nameV at h
  cases e : ρ.lookup x with
  | some sv =>
    rw [e] at h
    rcases R x sv e with ⟨k, v, hv, hr⟩ | ⟨k, a, o, v, ha, hm, hd, hr⟩
    · exact nameX_L F hv (hQ sv v h hr) ok.sc.1 k (not_dbg ok.sc k)
    · rcases k with k | k
      · exact nameX_C N ha (List.mem_append_right _ hm) hd (hQ sv v h hr) ok.sc.1 k (not_dbg ok.sc k)
      · exact nameX_F N ha (List.mem_append_right _ hm) hd (hQ sv v h hr) ok.sc.1 k (not_dbg ok.sc k) (not_cd ok.sc k)
  | none =>
    rw [e] at h
    cases k : c.fi.cs.names.lookup x with
    | none => rw [k] at h; exact h.elim
    | some kk =>
      rw [k] at h
      cases kk with
      | globalImplicit =>
        cases eg : glook x gtab with
        | none => rw [eg] at h; exact h.elim
        | some sv =>
          rw [eg] at h
          obtain ⟨v, hv, hr⟩ := gtab_ok c.w x sv eg
          have Xg : (kf c.w).In g := ok.X.keeps G.B.stays
          have Tg := topRead_of (ok.T.keeps G.B.stays)
          rcases hv with hv | ⟨hv, hb, hn⟩
          · exact nameX_K F Xg Tg hv (hQ sv v h (hr _ _ _)) ok.sc.1 k (not_dbg ok.sc k)
          · exact nameX_B F Xg Tg hv hb hn (hQ sv v h (hr _ _ _)) ok.sc.1 k (not_dbg ok.sc k)
      | _ => exact h.elim
theorem s_const {k : Const} {kk : Nat} {pos : Pos} {K : SV → Prop} {Q : Value → Shared → Prop} (h : constV k K) (H : Here c news ρ J s) (hQ : ∀ sv v s', K sv → Rep c.jA c.cA news sv v → Here c news ρ J s' → Q v s') :
    wpAny (model pg c.w) c.A (eval (.Constant k kk pos) c.env) Q E s := by
  cases k with
  | int i => exact wpAny_Constant_int (hQ _ _ _ h (.int _ _) H)
  | bool b => exact Constant_bool (hQ _ _ _ h (.bool _) H)
  | str x => exact wpAny_Constant_str (hQ _ _ _ h (.str _ _) H)
  | none => exact Constant_none (hQ _ _ _ h .none H)
  | _ => exact h.elim
theorem s_truth {A : Around} {v : SV} {b : Bool} {x : Value} {Q : Bool → Shared → Prop} (h : truth v = some b) (hr : Rep c.jA c.cA news v x) (hQ : Q b s) : wpAny (model pg c.w) A (truthy x) Q E s := by
  cases v with
  | bool d => obtain rfl := hr.bool_inv; cases h; exact wpAny_truthy_bool hQ
  | int i => obtain ⟨_, rfl⟩ := hr.int_inv; cases h; exact truthy_int hQ
  | _ => exact nomatch (show (none : Option Bool) = some b from h)
theorem PostE.same {K : KV} {Q : Value → Shared → Prop} {K' : SV → Prop} (hQ : PostE c news ρ K Q) (h : ∀ v, K' v → K v J) : PostE c news ρ (fun v J' => K' v ∧ J' = J) Q :=
  fun n v sv J' s' hs k => by obtain ⟨k, rfl⟩ := k; exact hQ n v sv _ s' hs (h sv k)

theorem s_bin2 (S : SoundR w n r) (hw : c.w = w) (ok : c.Ok n) {l e : Expr} {op : Operator} {pos : Pos} {K : KV} {Q : Value → Shared → Prop}
    (h : r.ev c.fi l ρ J (fun a J => r.ev c.fi e ρ J (fun b J => VBin op a b (K · J)) X) X) (H : Here c news ρ J s) (hQ : PostE c news ρ K Q) (hX : PostX c news ρ X E) : wpAny (model pg w) c.A (eval (.BinOp l op e pos) c.env) Q E s := by
  refine wpAny_BinOp (S.ev hw ok h H (fun n1 v1 a J1 s1 hs1 h1 R1 H1 => ?_) hX)
  refine S.ev hw ok h1 H1 (fun n2 v2 b J2 s2 hs2 h2 R2 H2 => ?_) (hX.mono hs1)
  subst hw
  exact s_bin h2 (R1.mono hs2) R2 H2 ((hQ.mono fun p hp => hs2 p (hs1 p hp)).same fun _ k => k)
theorem s_cmpV (S : SoundR w n r) (hw : c.w = w) (ok : c.Ok n) {l : Expr} {ops : List CmpOp} {es : List Expr} {pos : Pos} {K : Bool → JS → Prop} {Q : Value → Shared → Prop}
    (h : cmpV r c.fi l ops es ρ J K X) (H : Here c news ρ J s) (hQ : PostB c news ρ K (fun b => Q (.bool b))) (hX : PostX c news ρ X E) : wpAny (model pg w) c.A (eval (.Compare l ops es pos) c.env) Q E s := by
  subst hw
  match ops, es, h with
  | [op], [e], ⟨o, h⟩ =>
    refine wpAny_Compare1 (S.ev rfl ok h H (fun n1 v1 a J1 s1 hs1 h1 R1 H1 => ?_) hX) o
    refine S.ev rfl ok h1 H1 (fun n2 v2 b J2 s2 hs2 h2 R2 H2 => ?_) (hX.mono hs1)
    exact s_cmp h2 (R1.mono hs2) R2 H2 ok.cmp fun t s' k H' => hQ _ _ _ _ (fun p hp => hs2 p (hs1 p hp)) k H'
  | [o1, o2], [e1, e2], ⟨o, h⟩ =>
    refine Compare_chain (S.ev rfl ok h H (fun n1 v1 a J1 s1 hs1 h1 R1 H1 => ?_) hX) o
    refine chain_link (S.ev rfl ok h1 H1 (fun n2 v2 b J2 s2 hs2 h2 R2 H2 => ?_) (hX.mono hs1))
    refine s_cmp h2 (R1.mono hs2) R2 H2 ok.cmp fun t s' k H' => wpAny_truthy_bool ?_
    cases t with
    | false => exact hQ _ _ _ _ (fun p hp => hs2 p (hs1 p hp)) (k.2 rfl) H'
    | true =>
      refine chain_last (S.ev rfl ok (k.1 rfl) H' (fun n3 v3 d J3 s3 hs3 h3 R3 H3 => ?_) ((hX.mono hs1).mono hs2))
      exact s_cmp h3 (R2.mono hs3) R3 H3 ok.cmp fun t s' k H' => hQ _ _ _ _ (fun p hp => hs3 p (hs2 p (hs1 p hp))) k H'
theorem s_cmpT (S : SoundR w n r) (hw : c.w = w) (ok : c.Ok n) {l : Expr} {ops : List CmpOp} {es : List Expr} {pos : Pos} {K : Bool → JS → Prop} {Q : Bool → Shared → Prop} {whole : Sem Value}
    (h : cmpV r c.fi l ops es ρ J K X) (H : Here c news ρ J s) (hQ : PostB c news ρ K Q) (hX : PostX c news ρ X E) : wpAny (model pg w) c.A (isTrue (.Compare l ops es pos) c.env whole) Q E s := by
  subst hw
  match ops, es, h with
  | [op], [e], ⟨o, h⟩ =>
    refine wpAny_isTrue_Compare1 (S.ev rfl ok h H (fun n1 v1 a J1 s1 hs1 h1 R1 H1 => ?_) hX) o
    refine S.ev rfl ok h1 H1 (fun n2 v2 b J2 s2 hs2 h2 R2 H2 => ?_) (hX.mono hs1)
    exact s_cmp h2 (R1.mono hs2) R2 H2 ok.cmp fun t s' k H' => wpAny_truthy_bool (hQ _ _ _ _ (fun p hp => hs2 p (hs1 p hp)) k H')
  | [o1, o2], [e1, e2], ⟨o, h⟩ =>
    refine isTrue_chain (S.ev rfl ok h H (fun n1 v1 a J1 s1 hs1 h1 R1 H1 => ?_) hX) o
    refine test_link (S.ev rfl ok h1 H1 (fun n2 v2 b J2 s2 hs2 h2 R2 H2 => ?_) (hX.mono hs1))
    refine s_cmp h2 (R1.mono hs2) R2 H2 ok.cmp fun t s' k H' => wpAny_truthy_bool ?_
    cases t with
    | false => exact hQ _ _ _ _ (fun p hp => hs2 p (hs1 p hp)) (k.2 rfl) H'
    | true =>
      refine test_last (S.ev rfl ok (k.1 rfl) H' (fun n3 v3 d J3 s3 hs3 h3 R3 H3 => ?_) ((hX.mono hs1).mono hs2))
      exact s_cmp h3 (R2.mono hs3) R3 H3 ok.cmp fun t s' k H' => wpAny_truthy_bool (hQ _ _ _ _ (fun p hp => hs3 p (hs2 p (hs1 p hp))) k H')
theorem s_boolT (S : SoundR w n r) (hw : c.w = w) (ok : c.Ok n) {op : BoolOp} {es : List Expr} {pos : Pos} {whole : Sem Value} : ∀ {news J s K Q}, boolT r c.fi op es ρ J K X → Here c news ρ J s → PostB c news ρ K Q → PostX c news ρ X E →
    wpAny (model pg w) c.A (isTrue (.BoolOp op es pos) c.env whole) Q E s := by
  induction es with
  | nil =>
    intro news J s K Q h H hQ hX
    cases op with
    | And => exact isTrue_and_nil (hQ _ _ _ _ (fun _ h => h) h H)
    | Or => exact isTrue_or_nil (hQ _ _ _ _ (fun _ h => h) h H)
  | cons e es ih =>
    intro news J s K Q h H hQ hX
    cases op with
    | And =>
      refine isTrue_and (S.ts hw ok h H (fun n1 b J1 s1 hs1 h1 H1 => ?_) hX)
      cases b with
      | true => exact ih (h1.1 rfl) H1 (fun n2 b J2 s2 hs2 => hQ n2 b J2 s2 fun p hp => hs2 p (hs1 p hp)) (hX.mono hs1)
      | false => exact hQ _ _ _ _ hs1 (h1.2 rfl) H1
    | Or =>
      refine isTrue_or (S.ts hw ok h H (fun n1 b J1 s1 hs1 h1 H1 => ?_) hX)
      cases b with
      | true => exact hQ _ _ _ _ hs1 (h1.1 rfl) H1
      | false => exact ih (h1.2 rfl) H1 (fun n2 b J2 s2 hs2 => hQ n2 b J2 s2 fun p hp => hs2 p (hs1 p hp)) (hX.mono hs1)
theorem s_boolE (S : SoundR w n r) (hw : c.w = w) (ok : c.Ok n) {op : BoolOp} {pos : Pos} : ∀ {es : List Expr} {news J s K Q}, boolE r c.fi op es ρ J K X → Here c news ρ J s → PostE c news ρ K Q → PostX c news ρ X E →
    wpAny (model pg w) c.A (eval (.BoolOp op es pos) c.env) Q E s
  | [], _, _, _, _, _, h, _, _, _ => h.elim
  | [e], _, _, _, _, _, h, H, hQ, hX => BoolOp_one (S.ev hw ok h H hQ hX)
  | e :: e2 :: es, news, J, s, K, Q, h, H, hQ, hX => by
    have go : ∀ n1 J1 s1, (∀ p ∈ news, p ∈ n1) → Here c n1 ρ J1 s1 → boolE r c.fi op (e2 :: es) ρ J1 K X → wpAny (model pg w) c.A (eval (.BoolOp op (e2 :: es) pos) c.env) Q E s1   := fun n1 J1 s1 hs1 H1 h1 =>
      s_boolE S hw ok h1 H1 (hQ.mono hs1) (hX.mono hs1)
    subst hw
    cases op with
    | And =>
      refine BoolOp_and (S.ev rfl ok h H (fun n1 v1 a J1 s1 hs1 h1 R1 H1 => ?_) hX)
      cases t : truth a with
      | none => rw [t] at h1; exact h1.elim
      | some b =>
        rw [t] at h1
        refine s_truth t R1 ?_
        cases b with
        | true => exact go n1 J1 s1 hs1 H1 (h1.1 rfl)
        | false => exact hQ _ _ _ _ _ hs1 (h1.2 rfl) R1 H1
    | Or =>
      refine BoolOp_or (S.ev rfl ok h H (fun n1 v1 a J1 s1 hs1 h1 R1 H1 => ?_) hX)
      cases t : truth a with
      | none => rw [t] at h1; exact h1.elim
      | some b =>
        rw [t] at h1
        refine s_truth t R1 ?_
        cases b with
        | true => exact hQ _ _ _ _ _ hs1 (h1.1 rfl) R1 H1
        | false => exact go n1 J1 s1 hs1 H1 (h1.2 rfl)
end
end Mine
namespace Mine
section
variable {w : World} {n : Nat} {r : R} {call : CallT} {c : Cx} {news : Led} {ρ : Rho} {J : JS} {s : Shared} {X : KX} {E : Value → Shared → Prop} {jA cA : Addr} {v v2 v3 : SV} {xs : List Value}
theorem s_tuple {A : Around} {vs : List SV} {xs : List Value} {K : KV} {Q : Value → Shared → Prop} (H : Here c news ρ J s) (R : RepL c.jA c.cA news vs xs) (hl : vs.length ≤ 1000) (h : K (.tup vs) J) (hQ : PostE c news ρ K Q) :
    wpAny (model pg c.w) A (newTuple xs) Q E s := H.alloc fun g m hd F N k =>
  newTuple_N F N (fun h' F' N' => hQ _ _ _ _ _ (fun _ hp => .tail _ hp) h (.tup (.head _) R.1 (R.mono fun _ hp => .tail _ hp).2) (k _ _ _ F' N' (ne_fresh N) rfl rfl)) (by rw [R.1, sizeLine_eq]; omega)
theorem s_list {A : Around} {vs : List SV} {xs : List Value} {K : KV} {Q : Value → Shared → Prop} (H : Here c news ρ J s) (R : RepL c.jA c.cA news vs xs) (hl : vs.length ≤ 1000) (h : K (.lst vs) J) (hQ : PostE c news ρ K Q) :
    wpAny (model pg c.w) A (newList xs) Q E s := H.alloc fun g m hd F N k =>
  newList_K F N (fun l h' F' N' lt => hQ _ _ _ _ _ (fun _ hp => .tail _ hp) h (.lst (.head _) R.1 (R.mono fun _ hp => .tail _ hp).2) (k _ _ _ F' N' (fun p hp => Nat.ne_of_lt (lt p hp)) rfl rfl)) (by rw [R.1, sizeLine_eq]; omega)

theorem s_callB {A : Around} {f : String} {vs : List SV} {xs : List Value} {K : SV → Prop} {Q : Value → Shared → Prop} (h : CallB f vs K) (R : RepL c.jA c.cA news vs xs) (H : Here c news ρ J s) (hQ : PostE c news ρ (fun v J' => K v ∧ J' = J) Q) :
    wpAny (model pg c.w) A (PySem.call (.builtin f) xs) Q E s := by
  cases h with
  | abs h => obtain ⟨x, rfl, R1⟩ := R.inv1; obtain ⟨t, rfl⟩ := R1.int_inv; exact call_abs_int fun u tk => hQ.int h H rfl
  | divmod z q h =>
    obtain ⟨x, y, rfl, R1, R2⟩ := R.inv2; obtain ⟨t, rfl⟩ := R1.int_inv; obtain ⟨u, rfl⟩ := R2.int_inv
    refine H.alloc fun g m hd F N k => divmod_N F N (Int.ne_of_gt z) (fun h' F' N' => ?_) (.inl (small_py q))
    rw [Int.fdiv_eq_ediv_of_nonneg _ (Int.le_of_lt z), Int.fmod_eq_emod_of_nonneg _ (Int.le_of_lt z)] at N'
    refine hQ _ _ _ _ _ (fun _ hp => .tail _ hp) ⟨h, rfl⟩ (.tup (.head _) rfl ?_) (k _ _ _ F' N' (ne_fresh N) rfl rfl)
    exact (RepL.cons (.int _ _) (RepL.cons (.int _ _) RepL.nil)).2
  | isi e ht h =>
    obtain ⟨x, y, rfl, R1, R2⟩ := R.inv2
    obtain rfl := R2.inv
    have fin : ∀ b s', K (.bool b) → Here c news ρ J s' → Q (.bool b) s' := fun b s' k H' => hQ _ _ _ _ _ (fun _ h => h) ⟨k, rfl⟩ (.bool b) H'
    rename_i v t b
    cases v with
    | int i => obtain ⟨_, rfl⟩ := R1.int_inv; rcases ht with rfl | rfl <;> cases e; exact IsiPair.int_int (fin _ _ h H); exact IsiPair.int_bool (fin _ _ h H)
    | bool i => obtain rfl := R1.bool_inv; rcases ht with rfl | rfl <;> cases e; exact IsiPair.bool_int (fin _ _ h H); exact IsiPair.bool_bool (fin _ _ h H)
    | str i => obtain ⟨_, rfl⟩ := R1.str_inv; rcases ht with rfl | rfl <;> cases e; exact IsiPair.str_int (fin _ _ h H); exact IsiPair.str_bool (fin _ _ h H)
    | none => obtain rfl := R1.inv; rcases ht with rfl | rfl <;> cases e; exact IsiPair.NoneType_int (fin _ _ h H); exact IsiPair.NoneType_bool (fin _ _ h H)
    | _ => exact nomatch (show (none : Option Bool) = some _ from e)
  | lens z h => obtain ⟨x, rfl, R1⟩ := R.inv1; obtain ⟨t, rfl⟩ := R1.str_inv; exact P.len_str (by omega) (hQ.int h H rfl)
  | lenl z h =>
    obtain ⟨x, rfl, R1⟩ := R.inv1; obtain ⟨a, ys, k, rfl, hm, R2⟩ := R1.inv
    exact Calls.call_len_list ⟨_, H.list hm, rfl, _, rfl⟩ (by rw [List.size_toArray, R2.1]; omega) (hQ.int h H (by rw [List.size_toArray, R2.1]))
  | ord h => obtain ⟨x, rfl, R1⟩ := R.inv1; obtain ⟨t, rfl⟩ := R1.str_inv; exact P.ord_of_char (hQ.int h H rfl)
theorem bits_log {a : Int} (h : Bits a) : a.natAbs.log2 < 1920 := by
  by_cases h0 : a.natAbs = 0
  · rw [h0]; decide
  · have : a.natAbs.log2 < 64 := (Nat.log2_lt h0).mpr (by have := h.1; have := h.2; omega)
    omega
theorem s_callTy {A : Around} {f : String} {vs : List SV} {xs : List Value} {K : SV → Prop} {Q : Value → Shared → Prop} (h : CallTy f vs K) (R : RepL c.jA c.cA news vs xs) (H : Here c news ρ J s) (hQ : PostE c news ρ (fun v J' => K v ∧ J' = J) Q) :
    wpAny (model pg c.w) A (PySem.call (.type f) xs) Q E s := by
  cases h with
  | str z h => obtain ⟨x, rfl, R1⟩ := R.inv1; obtain ⟨t, rfl⟩ := R1.int_inv; exact P.str_of_int (bits_log z) (hQ _ _ _ _ _ (fun _ h => h) ⟨h, rfl⟩ (.str _ _) H)
  | rng1 z h =>
    obtain ⟨x, rfl, R1⟩ := R.inv1; obtain ⟨t, rfl⟩ := R1.int_inv
    exact H.alloc fun g m hd F N k => call_range_1 (hQ _ _ _ _ _ (fun _ hp => .tail _ hp) ⟨h, rfl⟩ (.rng (.head _)) (k _ _ _ (F.push _) (N.push F _) (ne_fresh N) rfl rfl))
  | rng3 z1 z2 z3 nz h =>
    obtain ⟨x, y, z, rfl, R1, R2, R3⟩ := R.inv3; obtain ⟨t, rfl⟩ := R1.int_inv; obtain ⟨u, rfl⟩ := R2.int_inv; obtain ⟨v, rfl⟩ := R3.int_inv
    refine H.alloc fun g m hd F N k => call_range_3 nz (hQ _ _ _ _ _ (fun _ hp => .tail _ hp) ⟨h, rfl⟩ (.rng (.head _)) (k _ _ _ (F.push _) (N.push F _) (ne_fresh N) rfl rfl)) (.inl (small_py ⟨?_, ?_⟩))
    · have := z3.1; omega
    · have := z3.2; omega
  | list z h =>
    obtain ⟨x, rfl, R1⟩ := R.inv1; obtain ⟨a, ys, q, rfl, hm, R2⟩ := R1.inv
    exact H.alloc fun g m hd F N k => list_copyK F N ⟨_, H.list hm, rfl, _, rfl⟩ (fun D cc h' F' N' lt => hQ _ _ _ _ _ (fun _ hp => .tail _ hp) ⟨h, rfl⟩ (.lst (.head _) R2.1 (R2.mono fun _ hp => .tail _ hp).2) (k _ _ _ F' N' (fun p hp => Nat.ne_of_lt (lt p hp)) rfl rfl)) (by rw [List.size_toArray, R2.1, sizeLine_eq]; omega)
end
end Mine
namespace Mine
section
variable {w : World} {n : Nat} {r : R} {call : CallT} {c : Cx} {news : Led} {ρ : Rho} {J : JS} {s : Shared} {X : KX} {E : Value → Shared → Prop}
/-- a list of the call that is changed in it -/
theorem Here.jarList (H : Here c news ρ J s) : ∃ t1 t2, s.heap.IsList c.jA #[.ref c.cA, .int J.at_ t1, .int J.salt t2] := by
  obtain ⟨g, m, hd, G, F, N, Hi, _⟩ := H
  obtain ⟨oj, oc, t1, t2, vs, ps1, ps2, rfl, lj, lc, I, _⟩ := Hi
  exact ⟨t1, t2, _, (N _ (.head _)).1, lj⟩
theorem Here.cellList (H : Here c news ρ J s) : ∃ vs, s.heap.IsList c.cA (List.toArray vs) ∧ IntsAre vs J.cells := by
  obtain ⟨g, m, hd, G, F, N, Hi, _⟩ := H
  obtain ⟨oj, oc, t1, t2, vs, ps1, ps2, rfl, lj, lc, I, _⟩ := Hi
  exact ⟨vs, ⟨_, (N _ (.tail _ (.head _))).1, lc⟩, I⟩
theorem s_callWith (SC : SoundC w n call) (S : SoundR w n r) (hw : c.w = w) (ok : c.Ok n) {as : List Expr} {pos : Pos} {f : SV} {fv : Value} {K : KV} {Q : Value → Shared → Prop} (hs : noStars as)
    (h : evs r c.fi as ρ J (fun vs J => callV call c.fi f vs J K X) X) (R : Rep c.jA c.cA news f fv) (H : Here c news ρ J s) (hQ : PostE c news ρ K Q) (hX : PostX c news ρ X E) :
    wpAny (model pg w) c.A (callWith pos fv [] (backTo pos (starEach as c.env)) []) Q E s := by
  rw [backTo_no hs]
  have hany : (as.map fun e => (false, eval e c.env)).any (·.1) = false := by rw [List.any_map]; exact List.any_eq_false.mpr fun _ _ q => nomatch q
  have args : ∀ {Q' : Args → Shared → Prop}, (∀ news' xs vs J' s', (∀ p ∈ news, p ∈ news') → callV call c.fi f vs J' K X → RepL c.jA c.cA news' vs xs → Here c news' ρ J' s' → Q' ⟨xs, []⟩ s') →
      wpAny (model pg w) c.A (evalArgs fv true (as.map fun e => (false, eval e c.env)) []) Q' E s := by
    intro Q' k
    have h1 := s_evs S hw ok h H (Q := fun xs s' => Q' ⟨xs, []⟩ s') (fun n' xs vs J' s' a b d e => k n' xs vs J' s' a b d e) hX
    cases as with
    | nil => exact evalArgs_nil3 (k _ _ _ _ _ (fun _ h => h) h RepL.nil H)
    | cons e es => exact evalArgs_plain h1
  subst hw
  have other : (∀ vs J', callV call c.fi f vs J' K X → c.fi.hd = false ∧ call f vs J' K X) → wpAny (model pg c.w) c.A (callWith pos fv [] (as.map fun e => (false, eval e c.env)) []) Q E s := fun ho =>
    callWith_of (P := fun h => ∃ a, fv = .ref a ∧ FnAt a h) (by rw [hany]; rfl) (fun h ⟨a, e, X⟩ => by rw [e]; exact keeps_F h X) (args fun n' xs vs J' s' hs' hc R' H' =>
      SC rfl ok (ho _ _ hc).1 (ho _ _ hc).2 H' (R.mono hs') R' (hQ.mono hs') (hX.mono hs'))
  cases f with
  | bi nm =>
    obtain rfl := R.inv
    refine callWith_builtin hany (args fun n' xs vs J' s' hs' hc R' H' => ?_)
    rcases hc with hc | hc
    · exact s_callB hc R' H' ((hQ.mono hs').same fun _ k => k)
    · generalize hq : (SV.bi nm) = z at hc
      cases hc with
      | mk hl hk =>
        cases hq
        obtain ⟨x, rfl, R1⟩ := R'.inv1
        obtain rfl := R1.inv
        obtain ⟨vs, L, I⟩ := H'.cellList
        refine Calls.call_len_list L (by rw [List.size_toArray, I.length]; omega) ?_
        rw [List.size_toArray, I.length]
        exact hQ _ _ _ _ _ hs' hk (.int _ _) H'
  | ty nm =>
    obtain rfl := R.inv
    exact PySem.callWith_type hany (args fun n' xs vs J' s' hs' hc R' H' => s_callTy hc R' H' ((hQ.mono hs').same fun _ k => k))
  | _ => exact other fun _ _ q => q
theorem s_item {A : Around} {a b : SV} {x y : Value} {K : KV} {Q : Value → Shared → Prop} {ve ie : Expr} (h : ItemV J a b (K · J)) (hs : plainIdx ie) (ha : Rep c.jA c.cA news a x) (hb : Rep c.jA c.cA news b y) (H : Here c news ρ J s) (hQ : PostE c news ρ K Q) :
    wpAny (model pg c.w) A (subscriptTail ve ie x y) Q E s := by
  have lst : ∀ {l its i t v sv}, s.heap.IsList l its → 0 ≤ i → i < 1000 → its[i.toNat]? = some v → K sv J → Rep c.jA c.cA news sv v → wpAny (model pg c.w) A (subscriptTail ve ie (.ref l) (.int i t)) Q E s :=
    fun hl h0 h1 hx k r => tail_any hl.typeIs slot_list_getitem.lookup (wpAny_getItem_list hl h0 (by omega) hx (hQ _ _ _ _ _ (fun _ h => h) k r H)) (hs _ _ _)
  cases h with
  | tup h0 h1 e k =>
    obtain ⟨_, rfl⟩ := hb.int_inv; obtain ⟨_, xs, _, rfl, hm, R⟩ := ha.inv
    obtain ⟨v, hv, r⟩ := R.get e
    have hl := (List.getElem?_eq_some_iff.mp hv).1
    refine item_tupleT ⟨_, H.list hm, rfl, _, rfl⟩ (by omega) (by omega) ?_ hv (hQ _ _ _ _ _ (fun _ h => h) k r H) (hs _ _ _)
    exact seqIndex_of h0 (by omega)
  | lst h0 h1 e k =>
    obtain ⟨_, rfl⟩ := hb.int_inv; obtain ⟨_, xs, _, rfl, hm, R⟩ := ha.inv
    obtain ⟨v, hv, r⟩ := R.get e
    exact lst (H.isList hm) h0 h1 (by simpa using hv) k r
  | jar0 k => obtain ⟨_, rfl⟩ := hb.int_inv; obtain rfl := ha.inv; obtain ⟨_, _, hl⟩ := H.jarList; exact lst hl (by decide) (by decide) rfl k .cells
  | jar1 k => obtain ⟨_, rfl⟩ := hb.int_inv; obtain rfl := ha.inv; obtain ⟨_, _, hl⟩ := H.jarList; exact lst hl (by decide) (by decide) rfl k (.int _ _)
  | jar2 k => obtain ⟨_, rfl⟩ := hb.int_inv; obtain rfl := ha.inv; obtain ⟨_, _, hl⟩ := H.jarList; exact lst hl (by decide) (by decide) rfl k (.int _ _)
  | cell h0 h1 e k =>
    obtain ⟨_, rfl⟩ := hb.int_inv; obtain rfl := ha.inv; obtain ⟨vs, hl, I⟩ := H.cellList
    obtain ⟨t, hx⟩ := I.get _ _ e
    exact lst hl h0 h1 (by simpa using hx) k (.int _ _)
theorem Here.same (H : Here c news ρ J s) {P : Prop} (k : ∀ (g : Heap) (m : Str → Option Value) (hd : Led), Fr g c.L s.heap m → News g c.L s.heap (hd ++ news) →
    (∀ (s' : Shared), Fr g c.L s'.heap m → News g c.L s'.heap (hd ++ news) → s'.gens = s.gens → s'.os = s.os → Here c news ρ J s') → P) : P := by
  obtain ⟨g, m, hd, G, F, N, Hi, R, r⟩ := H
  exact k g m hd F N fun _ F' N' e1 e2 => ⟨g, m, hd, G, F', N', Hi, R, e1.trans r.1, e2.trans r.2⟩
theorem go_str (v : Expr) (x : Str) (t : Tok) (r : Value) : letTemporaryGo v (.str x t) r = pure () := by
  unfold letTemporaryGo
  split
  · rfl
  · rename_i h; cases h
  · rfl
theorem asSlice_eq {i : Expr} {lo hi : Option Expr} (h : asSlice i = some (lo, hi)) : ∃ p, i = .Slice lo hi none p := by
  unfold asSlice at h
  split at h
  · cases h; exact ⟨_, rfl⟩
  · cases h
theorem take_pick {xs : List Value} {k : Int} (h0 : 0 ≤ k) : (slicePick xs.toArray none (some k) none) = (xs.take k.toNat).toArray := by
  have e : sliceBounds none (some k) none xs.toArray.size = (((0 : Nat) : Int), ((min k.toNat xs.toArray.size : Nat) : Int), 1) := by
    simp only [sliceBounds, Option.getD_none, show (1 : Int) > 0 by decide, if_true, if_neg (show ¬ (k < 0) by omega)]
    congr 1
    congr 1
    omega
  rw [kmk_pick_nat _ e]
  show ((xs.drop 0).take (min k.toNat xs.toArray.size - 0)).toArray = _
  rw [List.drop_zero, Nat.sub_zero, List.size_toArray, kmk_take_min]
inductive PartIs (jA cA : Addr) (news : Led) : Option SV → Value → Prop
  | none : PartIs jA cA news none .none
  | int {i : Int} {t : Tok} : PartIs jA cA news (some (.int i)) (.int i t)
theorem PartIs.of {jA cA : Addr} {news : Led} {i : Int} {x : Value} (h : Rep jA cA news (.int i) x) : PartIs jA cA news (some (.int i)) x := by obtain ⟨t, rfl⟩ := h.int_inv; exact .int
theorem s_slice {A : Around} {a : SV} {lo hi : Option SV} {x vl vu : Value} {K : KV} {Q : Value → Shared → Prop} {ve : Expr} {el eh : Option Expr} {p : Pos} (hv : (∃ s, a = .str s) ∨ noTemp ve) (h : SliceV lo hi a (K · J))
    (ha : Rep c.jA c.cA news a x) (hl : PartIs c.jA c.cA news lo vl) (hu : PartIs c.jA c.cA news hi vu) (H : Here c news ρ J s) (hQ : PostE c news ρ K Q) :
    wpAny (model pg c.w) A (subscriptTail ve (.Slice el eh none p) x (.ref s.heap.objs.size)) Q E { s with heap := s.heap.push { cls := .type "slice", data := .fields #[vl, vu, .none] } } := by
  cases h with
  | sto z k =>
    obtain ⟨t, rfl⟩ := ha.str_inv; cases hl; cases hu
    exact H.same fun g m hd F N kk => slice_strN_ns F N (fun h' t' k' F' N' => hQ _ _ _ _ _ (fun _ h => h) k (.str _ _) (kk _ F' N' rfl rfl)) rfl (go_str _ _ _) (by rw [sizeLine_eq]; omega)
  | sfrom z k =>
    obtain ⟨t, rfl⟩ := ha.str_inv; cases hl; cases hu
    exact H.same fun g m hd F N kk => slice_strN_sn F N (fun h' t' k' F' N' => hQ _ _ _ _ _ (fun _ h => h) k (.str _ _) (kk _ F' N' rfl rfl)) rfl (go_str _ _ _) (by rw [sizeLine_eq]; omega)
  | @lto vs k' _ h0 z k =>
    obtain ⟨_, xs, _, rfl, hm, R⟩ := ha.inv; cases hl; cases hu
    rcases hv with ⟨_, hv⟩ | hv
    · cases hv
    refine H.alloc fun g m hd F N kk => slice_list F N (H.isList hm) .none (.int _ _) (fun h' F' N' => ?_) rfl (hv _) (by rw [List.size_toArray, R.1, sizeLine_eq]; omega)
    rw [take_pick h0] at N'
    have hlen : (xs.take k'.toNat).length = (vs.take k'.toNat).length := by rw [List.length_take, List.length_take, R.1]
    refine hQ _ _ _ _ _ (fun _ hp => .tail _ hp) k (.lst (n := 0) (.head _) hlen fun i v x e1 e2 => ?_) (kk _ _ _ F' N' (fun p hp => Nat.ne_of_lt (Nat.lt_succ_of_lt (Heap.lt_size (N p hp).1))) rfl rfl)
    rw [List.getElem?_take] at e1 e2
    split at e1
    · rw [if_pos (by assumption)] at e2; exact (R.2 i v x e1 e2).mono fun _ hp => .tail _ hp
    · cases e1
theorem s_ev (SC : SoundC w n call) (S : SoundR w n r) (hw : c.w = w) (ok : c.Ok n) {e : Expr} {K : KV} {Q : Value → Shared → Prop} (h : stepEv call r c.fi e ρ J K X) (H : Here c news ρ J s) (hQ : PostE c news ρ K Q) (hX : PostX c news ρ X E) :
    wpAny (model pg w) c.A (eval e c.env) Q E s := by
  have one : ∀ {sv v s'}, K sv J → Rep c.jA c.cA news sv v → Here c news ρ J s' → Q v s' := fun k R H' => hQ _ _ _ _ _ (fun _ h => h) k R H'
  cases e with
  | Constant k kk pos => subst hw; exact s_const (K := (K · J)) h H fun sv v s' k R H' => one k R H'
  | Name x pos => subst hw; exact s_name ok h H fun sv v k R => one k R H
  | BinOp l op e pos => exact s_bin2 S hw ok h H hQ hX
  | UnaryOp op e pos =>
    cases op with
    | USub =>
      refine wpAny_UnaryOp (S.ev hw ok h H (fun n1 v1 a J1 s1 hs1 h1 R1 H1 => ?_) hX)
      cases a with
      | int i => obtain ⟨t, rfl⟩ := R1.int_inv; exact neg_int (hQ _ _ _ _ _ hs1 h1 (.int _ _) H1)
      | _ => exact h1.elim
    | Not =>
      refine wpAny_UnaryOp (S.ev hw ok h H (fun n1 v1 a J1 s1 hs1 h1 R1 H1 => ?_) hX)
      cases a with
      | bool i => obtain rfl := R1.bool_inv; exact not_value (wpAny_truthy_bool (hQ _ _ _ _ _ hs1 h1 (.bool _) H1))
      | _ => exact h1.elim
    | _ => exact h.elim
  | IfExp t b o pos =>
    refine wpAny_IfExp (S.ts hw ok h H (fun n1 d J1 s1 hs1 h1 H1 => ?_) hX)
    cases d with
    | true => exact S.ev hw ok (h1.1 rfl) H1 (hQ.mono hs1) (hX.mono hs1)
    | false => exact S.ev hw ok (h1.2 rfl) H1 (hQ.mono hs1) (hX.mono hs1)
  | BoolOp op es pos => exact s_boolE S hw ok h H hQ hX
  | Compare l ops es pos => exact s_cmpV S hw ok h H (fun n1 b J1 s1 hs1 h1 H1 => hQ _ _ _ _ _ hs1 h1 (.bool b) H1) hX
  | Call f as kw pos =>
    obtain ⟨hn, rfl, hs, h⟩ := h
    cases f with
    | Name x p =>
      refine Call_ (S.ev hw ok h H (fun n1 v1 a J1 s1 hs1 h1 R1 H1 => ?_) hX)
      exact s_callWith SC S hw ok hs h1 R1 H1 (hQ.mono hs1) (hX.mono hs1)
    | _ => cases hn
  | Tuple es kk pos =>
    refine Tuple_ ?_
    rw [backTo_no h.1]
    refine s_evs S hw ok h.2 H (fun n1 xs vs J1 s1 hs1 h1 R1 H1 => ?_) hX
    subst hw
    exact s_tuple H1 R1 h1.1 h1.2 (hQ.mono hs1)
  | List es pos =>
    refine List_ ?_
    rw [backTo_no h.1]
    refine s_evs S hw ok h.2 H (fun n1 xs vs J1 s1 hs1 h1 R1 H1 => ?_) hX
    subst hw
    exact s_list H1 R1 h1.1 h1.2 (hQ.mono hs1)
  | Subscript v i pos =>
    cases q : asSlice i with
    | none =>
      simp only [stepEv, q] at h
      refine Subscript_ (S.ev hw ok h.2 H (fun n1 v1 a J1 s1 hs1 h1 R1 H1 => ?_) hX)
      refine S.ev hw ok h1 H1 (fun n2 v2 b J2 s2 hs2 h2 R2 H2 => ?_) (hX.mono hs1)
      subst hw
      exact s_item h2 h.1 (R1.mono hs2) R2 H2 (hQ.mono fun p hp => hs2 p (hs1 p hp))
    | some lh =>
      obtain ⟨lo, hi⟩ := lh
      simp only [stepEv, q] at h
      obtain ⟨p, rfl⟩ := asSlice_eq q
      cases lo with
      | none =>
        cases hi with
        | none => exact h.elim
        | some e =>
          refine Subscript_ (S.ev hw ok h H (fun n1 v1 a J1 s1 hs1 h1 R1 H1 => ?_) hX)
          refine wpAny_Slice (evalPart_none_step (S.ev hw ok h1 H1 (fun n2 v2 b J2 s2 hs2 h2 R2 H2 => evalPart_none_step ?_) (hX.mono hs1)))
          subst hw
          obtain ⟨hv, h2⟩ := h2
          refine s_slice hv h2 (R1.mono hs2) .none ?_ H2 (hQ.mono fun p hp => hs2 p (hs1 p hp))
          cases h2 <;> exact .of R2
      | some e =>
        cases hi with
        | some _ => exact h.elim
        | none =>
          refine Subscript_ (S.ev hw ok h H (fun n1 v1 a J1 s1 hs1 h1 R1 H1 => ?_) hX)
          refine wpAny_Slice (evalPart_some_step (S.ev hw ok h1 H1 (fun n2 v2 b J2 s2 hs2 h2 R2 H2 => evalPart_none_step (evalPart_none_step ?_)) (hX.mono hs1)))
          subst hw
          obtain ⟨hv, h2⟩ := h2
          refine s_slice hv h2 (R1.mono hs2) ?_ .none H2 (hQ.mono fun p hp => hs2 p (hs1 p hp))
          cases h2
          exact .of R2
  | _ => exact h.elim
theorem s_ts (S : SoundR w n r) (hw : c.w = w) (ok : c.Ok n) {e : Expr} {K : Bool → JS → Prop} {Q : Bool → Shared → Prop} (h : stepTs r c.fi e ρ J K X) (H : Here c news ρ J s) (hQ : PostB c news ρ K Q) (hX : PostX c news ρ X E) :
    wpAny (model pg w) c.A (isTrue e c.env (eval e c.env)) Q E s := by
  have val : ∀ {v sv n1 J1 s1}, (∀ p ∈ news, p ∈ n1) → (match truth sv with | some b => K b J1 | none => False) → Rep c.jA c.cA n1 sv v → Here c n1 ρ J1 s1 → wpAny (model pg w) c.A (truthy v) Q E s1 := by
    intro v sv n1 J1 s1 hs1 h1 R1 H1
    subst hw
    cases t : truth sv with
    | none => rw [t] at h1; exact h1.elim
    | some b => rw [t] at h1; exact s_truth t R1 (hQ _ _ _ _ hs1 h1 H1)
  cases e with
  | UnaryOp op e pos =>
    cases op with
    | Not => exact wpAny_isTrue_Not (S.ts hw ok h H (fun n1 b J1 s1 hs1 h1 H1 => hQ _ _ _ _ hs1 h1 H1) hX)
    | _ => exact h.elim
  | BoolOp op es pos => exact s_boolT S hw ok h H hQ hX
  | Compare l ops es pos => exact s_cmpT S hw ok h H hQ hX
  | Call f as kw pos => exact wpAny_isTrue_value (S.ev hw ok h H (fun n1 v sv J1 s1 hs1 h1 R1 H1 => val hs1 h1 R1 H1) hX)
  | Name x pos => exact wpAny_isTrue_value (S.ev hw ok h H (fun n1 v sv J1 s1 hs1 h1 R1 H1 => val hs1 h1 R1 H1) hX)
  | _ => exact h.elim
end
end Mine
namespace Mine
inductive Par (P : SV → Value → Prop) : List (Str × SV) → List (Str × Value) → Prop
  | nil : Par P [] []
  | cons {n : Str} {v : SV} {x : Value} {l : List (Str × SV)} {l' : List (Str × Value)} : P v x → Par P l l' → Par P ((n, v) :: l) ((n, x) :: l')
theorem Par.append {P : SV → Value → Prop} {l r : List (Str × SV)} {l' r' : List (Str × Value)} (h : Par P l l') (h2 : Par P r r') : Par P (l ++ r) (l' ++ r') := by
  induction h with
  | nil => exact h2
  | cons p _ ih => exact .cons p ih
theorem Par.reverse {P : SV → Value → Prop} {l : List (Str × SV)} {l' : List (Str × Value)} (h : Par P l l') : Par P l.reverse l'.reverse := by
  induction h with
  | nil => exact .nil
  | cons p _ ih => rw [List.reverse_cons, List.reverse_cons]; exact ih.append (.cons p .nil)
theorem Par.get {P : SV → Value → Prop} {l : List (Str × SV)} {l' : List (Str × Value)} (h : Par P l l') {x : Str} {sv : SV} (e : l.lookup x = some sv) : ∃ v, l'.lookup x = some v ∧ P sv v := by
  induction h with
  | nil => cases e
  | @cons n v y _ _ p _ ih =>
    rw [List.lookup_cons] at e ⊢
    cases q : (x == n) with
    | true => rw [q] at e; cases e; exact ⟨y, rfl, p⟩
    | false => rw [q] at e; exact ih e
theorem par_zip {jA cA : Addr} {news : Led} : ∀ {ps : List Str} {vs : List SV} {xs : List Value}, RepL jA cA news vs xs → Par (Rep jA cA news) (ps.zip vs) (ps.zip xs)
  | [], _, _, _ => .nil
  | _ :: _, [], _, R => by obtain rfl := R.inv0; exact .nil
  | _ :: _, _ :: _, _, R => by obtain ⟨x, ys, rfl, h, R'⟩ := R.invS; exact .cons h (par_zip R')
theorem zipR_eq : ∀ (ps : List Str) (vs : List SV) (acc : Rho), zipR ps vs acc = (ps.zip vs).reverse ++ acc
  | [], _, _ => rfl
  | _ :: _, [], _ => rfl
  | p :: ps, v :: vs, acc => by
    show zipR ps vs ((p, v) :: acc) = _
    rw [zipR_eq, List.zip_cons_cons, List.reverse_cons, List.append_assoc]
    rfl
theorem lookup_mem {α : Type} {x : Str} {v : α} : ∀ {l : List (Str × α)}, l.lookup x = some v → (x, v) ∈ l
  | (y, u) :: r, e => by
    rw [List.lookup_cons] at e
    cases q : (x == y) with
    | true => rw [q] at e; cases e; obtain rfl := beq_iff_eq.mp q; exact .head _
    | false => rw [q] at e; exact .tail _ (lookup_mem e)

/-- the text's def at a: its name, scope, parameters, body -/
noncomputable def IsDef (w : World) (a : Addr) (lam : Nat) (qual : Str) (scope : Scope) (ps : List Str) (body : List Stmt) : Prop :=
  ∃ oc od name params dV kV doc pm an cdv ct osl, (kf w).lookup a = some ⟨oc, od, .func (fnOf name qual params body scope dV kV doc pm an cdv ct), osl⟩ ∧ codeIn (kf w) cdv qual = true ∧
    (∀ xs : List Value, xs.length = ps.length → bindArgs (fnOf name qual params body scope dV kV doc pm an cdv ct) ⟨xs, []⟩ = pure (ps.zip xs)) ∧ scopeOk scope ∧
    (lam = 1 → cdv = .ref 271 ∧ qual = nDoors) ∧ (lam = 2 → cdv = .ref 224 ∧ qual = nProds)
noncomputable def retK (K : KV) : KS := fun fl _ J => match fl with
  | .ret v => K v J
  | .next => K .none J
  | _ => False
/-- a call of the text's defs (plain; with cells; a lambda) -/
inductive FnCall (w : World) (r : R) : CallT
  | fn {a : Addr} {lam : Nat} {qual : Str} {scope : Scope} {ps : List Str} {body : List Stmt} {vs : List SV} {J : JS} {K : KV} {X : KX} : IsDef w a lam qual scope ps body → vs.length = ps.length →
      (∀ x ∈ scope.names, x.2 ≠ .cell) → (∀ p ∈ ps, scope.names.lookup p = some .local) → r.st ⟨qual, scope, false, lam, false⟩ body (zipR ps vs []) J (retK K) X → FnCall w r (.fn a) vs J K X
  | fnC {a : Addr} {lam : Nat} {qual : Str} {scope : Scope} {ps : List Str} {body : List Stmt} {vs : List SV} {J : JS} {K : KV} {X : KX} : IsDef w a lam qual scope ps body → vs.length = ps.length →
      (∀ p ∈ ps, scope.names.lookup p = some .cell) → ((cellsFrom 0 scope.names []).map (·.1)).Nodup → r.st ⟨qual, scope, false, lam, true⟩ body (zipR ps vs []) J (retK K) X → FnCall w r (.fn a) vs J K X
  | clo {q : Str} {pr : Arguments} {ps : List Str} {body : Expr} {sc : Scope} {fv : Rho} {vs : List SV} {J : JS} {K : KV} {X : KX} :
      (∀ nm cl pm c' ctv (xs : List Value), xs.length = ps.length → bindArgs (kla_fn nm q pr body sc cl pm (.ref c') ctv) ⟨xs, []⟩ = pure (ps.zip xs)) → vs.length = ps.length → scopeOk sc → (∀ x ∈ sc.names, x.2 ≠ .cell) →
      (∀ p ∈ ps, sc.names.lookup p = some .local) → (∀ p ∈ fv, sc.names.lookup p.1 = some .free) → r.ev ⟨q, sc, false, 0, true⟩ body (zipR ps vs fv) J K X → FnCall w r (.clo q pr body sc fv) vs J K X

section
variable {w : World} {n : Nat} {r : R} {call : CallT} {c : Cx} {news news₁ : Led} {ρ ρ₁ : Rho} {J : JS} {s s₁ : Shared} {K : KV} {X : KX} {Q : Value → Shared → Prop} {E : Value → Shared → Prop} {g : Heap} {m m₁ : Str → Option Value} {hd : Led}
  {fi : FI} {f : Addr} {cd : Value} {cl : List (Str × Addr)}
theorem Cx.Ok.callee (ok : c.Ok (n + 1)) (hh : c.fi.hd = false) (hsc : scopeOk fi.cs) (hf : fi.hd = false) (m1 : fi.lam = 1 → cd = .ref 271 ∧ fi.cn = nDoors) (m2 : fi.lam = 2 → cd = .ref 224 ∧ fi.cn = nProds) (hcl : fi.cells = false → cl = []) : (c.callee c.A fi f cd cl s (hd ++ news)).Ok n where
  fr := by show c.A.frames.map _ = _; rw [ok.fr]; rfl
  sc := hsc
  hnd _ := ok.hnd hh
  up _ := rfl
  dep := by have := ok.dep; show c.A.depth + 1 + n + 5 < _; omega
  uni := by have := ok.uni; show c.A.units + 3 + 3 * n + 64 < _; omega
  nocl := hcl
  X := ok.X
  T := ok.T
  cd1 := ok.cd1
  cd2 := ok.cd2
  mk1 := m1
  mk2 := m2
theorem Here.enter (G : Gr c g) (F : Fr g c.L s.heap m) (N : News g c.L s.heap (hd ++ news)) (Hi : Hid c.its c.jA c.cA J hd news) (R : Rest c s) (ok : c.Ok (n + 1))
    (F₁ : Fr (hideAll s.heap ((hd ++ news).map (·.1))) s.heap.objs.size s₁.heap m₁) (N₁ : News (hideAll s.heap ((hd ++ news).map (·.1))) s.heap.objs.size s₁.heap (hd ++ news₁)) (hs : ∀ p ∈ news, p ∈ news₁) (hn : ∀ p ∈ news₁, ∀ q ∈ hd, p.1 ≠ q.1)
    (R₁ : RhoIs (c.callee c.A fi f cd cl s (hd ++ news)) m₁ news₁ ρ₁) (r₁ : Rest c s₁) : Here (c.callee c.A fi f cd cl s (hd ++ news)) news₁ ρ₁ J s₁ := by
  exact ⟨_, m₁, hd, G.callee F N ok.fr ok.sc.1, F₁, N₁, Hi.more hs hn, R₁, r₁⟩
/-- the body of a def, and back -/
theorem s_body (S : SoundR w n r) (hw : c.w = w) (ok : c.Ok (n + 1)) (ok' : (c.callee c.A fi f cd cl s (hd ++ news)).Ok n) (G : Gr c g) (F : Fr g c.L s.heap m) (N : News g c.L s.heap (hd ++ news)) (Rh : RhoIs c m news ρ) (hs : ∀ p ∈ news, p ∈ news₁) {body : List Stmt}
    (h : r.st fi body ρ₁ J (retK K) X) (H₁ : Here (c.callee c.A fi f cd cl s (hd ++ news)) news₁ ρ₁ J s₁) (hQ : PostE c news ρ K Q) (hX : PostX c news ρ X E) :
    wpAny (model pg w) (c.A.deeper (envX fi.cn fi.cs s.heap.objs.size f cd cl)) (execs body (envX fi.cn fi.cs s.heap.objs.size f cd cl)) (fun f s' => (match (Except.ok (.ret (match f with | .ret v => v | _ => .none)) : Result) with | .ok (.ret v) => Q v s' | .ok _ => False | .error e => E e s'))
      (fun e s' => wpAny (model pg w) (c.A.deeper (envX fi.cn fi.cs s.heap.objs.size f cd cl)) (leaving (envX fi.cn fi.cs s.heap.objs.size f cd cl) e) (fun _ s'' => E e s'') (fun e' s'' => E e' s'') s') s₁ := by
  subst hw
  refine S.st (c := c.callee c.A fi f cd cl s (hd ++ news)) rfl ok' h H₁ (fun news' f fl ρ' J' s' hs' hK hF H' => ?_) (fun news' C e J' s' hs' hC hF => ?_) PassesOwn.leaving
  · have hb : Here c news' ρ J' s' := H'.back G F N Rh fun p hp => hs' p (hs p hp)
    cases hF with
    | next => exact hQ _ _ _ _ _ (fun p hp => hs' p (hs p hp)) hK .none hb
    | ret hr => exact hQ _ _ _ _ _ (fun p hp => hs' p (hs p hp)) hK hr hb
    | brk => exact hK.elim
    | cont => exact hK.elim
  · exact hF.leave G F N Rh (fun p hp => hs' p (hs p hp)) ok'.sc.1 fun h' q => hX _ _ _ _ _ (fun p hp => hs' p (hs p hp)) hC q
theorem def_at (ok : c.Ok n) (G : Gr c g) (F : Fr g c.L s.heap m) {a : Addr} {o : Obj} (h : (kf c.w).lookup a = some o) : s.heap.get? a = some o := ((ok.X.keeps G.B.stays).keeps F.keep) _ _ h
theorem rho_bind {ps : List Str} {vs : List SV} {xs : List Value} (R : RepL c.jA c.cA news vs xs) (hl : ∀ p ∈ ps, c.fi.cs.names.lookup p = some .local) (hm : ∀ x, m x = (ps.zip xs).reverse.lookup x) : RhoIs c m news (zipR ps vs []) := fun x sv e => by
  rw [zipR_eq, List.append_nil] at e
  obtain ⟨v, hv, hr⟩ := (par_zip R).reverse.get e
  refine .inl ⟨hl x ?_, v, (hm x).trans hv, hr⟩
  have := lookup_mem hv
  rw [List.mem_reverse] at this
  exact (List.of_mem_zip this).1
theorem s_fn (S : SoundR w n r) (hw : c.w = w) (ok : c.Ok (n + 1)) (hh : c.fi.hd = false) {a : Addr} {lam : Nat} {qual : Str} {scope : Scope} {ps : List Str} {body : List Stmt} {vs : List SV} {xs : List Value} (D : IsDef w a lam qual scope ps body) (hl : vs.length = ps.length)
    (hc : ∀ x ∈ scope.names, x.2 ≠ .cell) (hp : ∀ p ∈ ps, scope.names.lookup p = some .local) (h : r.st ⟨qual, scope, false, lam, false⟩ body (zipR ps vs []) J (retK K) X) (H : Here c news ρ J s) (R : RepL c.jA c.cA news vs xs) (hQ : PostE c news ρ K Q) (hX : PostX c news ρ X E) :
    FnAt a s.heap ∧ wpAny (model pg w) c.A (PySem.call (.ref a) xs) Q E s := by
  subst hw
  obtain ⟨oc, od, name, params, dV, kV, doc, pm, an, cdv, ct, osl, ho, hcd, hb, hsc, m1, m2⟩ := D
  obtain ⟨g, m, hd, G, F, N, Hi, Rh, Rs⟩ := H
  have hf := def_at ok G F ho
  refine ⟨⟨_, _, _, _, hf⟩, wpAny_call ?_⟩
  have hlim : s.heap.NoLimit := ((ok.T.keeps G.B.stays).nolimit).keeps F.keep
  refine codeAny_call_def (fd := fnOf name qual params body scope dV kV doc pm an cdv ct) (binds := ps.zip xs) (by have := ok.dep; omega) hf rfl hlim (codeRec_of ((ok.X.keeps G.B.stays).keeps F.keep) hcd) rfl (.of_eq (hb xs (R.1.trans hl))) hc
    (fun y hy => hp _ (List.of_mem_zip (show (y.1, y.2) ∈ _ from hy)).1) (fun h₁ hns hk₁ => ?_) hsc.2.1 hsc.2.2.1 hsc.1
  have N₁ : News (hideAll s.heap ((hd ++ news).map (·.1))) s.heap.objs.size h₁ (hd ++ news) := fun p hp => ⟨hk₁ _ _ (N p hp).1, Nat.ne_of_lt (Heap.lt_size (N p hp).1), hideAll_none _ (List.mem_map_of_mem hp)⟩
  refine s_body (fi := ⟨qual, scope, false, lam, false⟩) S rfl ok (ok.callee hh hsc rfl m1 m2 fun _ => rfl) G F N Rh (fun _ h => h) h (Here.enter (n := n) G F N Hi Rs ok ⟨hns, fun b o e => hk₁ b o (of_hideAll _ e), Nat.le_of_eq (hideAll_size _ _)⟩ N₁ (fun _ h => h) Hi.apart (rho_bind R hp fun _ => rfl) Rs) hQ hX
theorem lookup_idx : ∀ {fv : Rho} {cl : List (Str × Addr)}, cl.map (·.1) = fv.map (·.1) → ∀ {x : Str} {sv : SV}, fv.lookup x = some sv → ∃ (i : Nat) (a : Addr), cl.lookup x = some a ∧ cl[i]? = some (x, a) ∧ fv[i]? = some (x, sv)
  | [], _, _, _, _, e => nomatch e
  | (y, u) :: fv, [], h, _, _, _ => by cases h
  | (y, u) :: fv, (z, b) :: cl, h, x, sv, e => by
    injection h with h1 h2
    simp only at h1
    rw [List.lookup_cons] at e
    cases q : (x == y) with
    | true =>
      rw [q] at e; cases e
      obtain rfl := beq_iff_eq.mp q
      exact ⟨0, b, by rw [List.lookup_cons, h1, beq_self_eq_true], by rw [h1]; rfl, rfl⟩
    | false =>
      rw [q] at e
      obtain ⟨i, a, h3, h4, h5⟩ := lookup_idx h2 e
      exact ⟨i + 1, a, by rw [List.lookup_cons, h1, q]; exact h3, h4, h5⟩
theorem s_clo (S : SoundR w n r) (hw : c.w = w) (ok : c.Ok (n + 1)) (hh : c.fi.hd = false) {q : Str} {pr : Arguments} {ps : List Str} {body : Expr} {sc : Scope} {fv : Rho} {vs : List SV} {xs : List Value} {v : Value}
    (hb : ∀ nm cl pm c' ctv (xs : List Value), xs.length = ps.length → bindArgs (kla_fn nm q pr body sc cl pm (.ref c') ctv) ⟨xs, []⟩ = pure (ps.zip xs)) (hl : vs.length = ps.length) (hsc : scopeOk sc)
    (hc : ∀ x ∈ sc.names, x.2 ≠ .cell) (hp : ∀ p ∈ ps, sc.names.lookup p = some .local) (hfv : ∀ p ∈ fv, sc.names.lookup p.1 = some .free) (h : r.ev ⟨q, sc, false, 0, true⟩ body (zipR ps vs fv) J K X) (H : Here c news ρ J s) (Rv : Rep c.jA c.cA news (.clo q pr body sc fv) v) (R : RepL c.jA c.cA news vs xs)
    (hQ : PostE c news ρ K Q) (hX : PostX c news ρ X E) : (∃ a, v = .ref a ∧ FnAt a s.heap) ∧ wpAny (model pg w) c.A (PySem.call v xs) Q E s := by
  subst hw
  cases Rv with
  | @clo f c' _ nm _ _ _ _ cl pm ctv oc fs t ys hm1 hm2 hd1 hd2 hlen hcl hcells hrep =>
  obtain ⟨g, m, hd, G, F, N, Hi, Rh, Rs⟩ := H
  have hf := (N _ (List.mem_append_right hd hm1)).1
  refine ⟨⟨f, rfl, _, _, _, _, hf⟩, wpAny_call ?_⟩
  have hlim : s.heap.NoLimit := ((ok.T.keeps G.B.stays).nolimit).keeps F.keep
  have hcd : s.heap.CodeRec (.ref c') q := codeRec_news N (List.mem_append_right hd hm2) hd1 hd2
  refine kla_callFunE (by have := ok.dep; omega) hf rfl hsc.2.1 hsc.2.2.1 rfl hcd ?_
  rw [hb _ _ _ _ _ xs (R.1.trans hl)]
  refine wpAny_pure (wpAny_newFunctionEnv hc (fun y hy => hp _ (List.of_mem_zip (show (y.1, y.2) ∈ _ from hy)).1) (fun h₁ hns hsb => ⟨hlim.fresh _ hsb, ?_⟩) hsc.1)
  show codeAny _ _ (.expr body (envX q sc s.heap.objs.size f (.ref c') cl)) _ _
  have hk₁ : ∀ b o, s.heap.get? b = some o → h₁.get? b = some o := fun b o e => hsb.extBut b o (Nat.ne_of_lt (Heap.lt_size e)) (Heap.get?_push_of_some _ e)
  have N₁ : News (hideAll s.heap ((hd ++ news).map (·.1))) s.heap.objs.size h₁ (hd ++ news) := fun p hp => ⟨hk₁ _ _ (N p hp).1, Nat.ne_of_lt (Heap.lt_size (N p hp).1), hideAll_none _ (List.mem_map_of_mem hp)⟩
  have ok' := ok.callee (fi := ⟨q, sc, false, 0, true⟩) (f := f) (cd := .ref c') (cl := cl) (s := s) (hd := hd) (news := news) hh hsc rfl (fun z => nomatch z) (fun z => nomatch z) (fun z => nomatch z)
  have Rρ : RhoIs (c.callee c.A ⟨q, sc, false, 0, true⟩ f (.ref c') cl s (hd ++ news)) (fun x => (ps.zip xs).reverse.lookup x) news (zipR ps vs fv) := fun x sv e => by
    rw [zipR_eq, List.lookup_append] at e
    cases z : (ps.zip vs).reverse.lookup x with
    | some u =>
      rw [z] at e; cases e
      exact rho_bind (c := c.callee c.A ⟨q, sc, false, 0, true⟩ f (.ref c') cl s (hd ++ news)) R hp (fun _ => rfl) x sv (by rw [zipR_eq, List.append_nil]; exact z)
    | none =>
      rw [z] at e
      have e' : fv.lookup x = some sv := e
      obtain ⟨i, a, l1, l2, l3⟩ := lookup_idx hcl e'
      have hi : i < ys.length := by rw [hlen]; exact (List.getElem?_eq_some_iff.mp l3).1
      obtain ⟨o, ho, hod⟩ := hcells i x a _ l2 (List.getElem?_eq_getElem hi)
      exact .inr ⟨.inr (hfv _ (lookup_mem e')), a, o, _, l1, ho, hod, hrep i x sv _ l3 (List.getElem?_eq_getElem hi)⟩
  have H₁ : Here (c.callee c.A ⟨q, sc, false, 0, true⟩ f (.ref c') cl s (hd ++ news)) news (zipR ps vs fv) J { s with heap := h₁, toks := s.toks + (ps.zip xs).length } :=
    Here.enter (n := n) G F N Hi Rs ok ⟨hns, fun b o e => hk₁ b o (of_hideAll _ e), Nat.le_of_eq (hideAll_size _ _)⟩ N₁ (fun _ h => h) Hi.apart Rρ Rs
  refine kla_codeExpr (S.ev (c := c.callee c.A ⟨q, sc, false, 0, true⟩ f (.ref c') cl s (hd ++ news)) rfl ok' h H₁ (fun news' v sv J' s' hs' hK hR H' => ?_) (fun news' C e J' s' hs' hC hF => ?_))
  · exact hQ _ _ _ _ _ hs' hK hR (H'.back G F N Rh hs')
  · exact hF.fly.leave G F N Rh hs' hsc.1 fun h' q => hX _ _ _ _ _ hs' hC q
theorem bindC_all {k : Str → Option NameKind} {y : Str} : ∀ {b : List (Str × Value)} {f : Str → Option Value}, (∀ p ∈ b, k p.1 = some .cell) → bindC k b f y = (b.reverse.lookup y).or (f y)
  | [], _, _ => rfl
  | (x, v) :: b, f, h => by
    have hx : ¬ k x = some .local := by rw [h _ (.head _)]; exact fun q => nomatch q
    rw [bindC, if_neg hx, bindC_all fun p hp => h p (.tail _ hp), List.reverse_cons, List.lookup_append, Option.or_assoc]
    congr 1
    by_cases q : y = x
    · rw [if_pos q, q, List.lookup_cons, beq_self_eq_true]; rfl
    · rw [if_neg q, List.lookup_cons, beq_eq_false_iff_ne.mpr q]; rfl
theorem CellsAre.get {cm : Str → Option Value} {cs : List (Str × Addr)} {cells : Led} (h : CellsAre cm cs cells) {y : Str} {a : Addr} (hm : (y, a) ∈ cs) : ∃ o, (a, o) ∈ cells ∧ o.data = .cell (cm y) := by
  induction h with
  | nil => cases hm
  | cons e _ ih =>
    rcases List.mem_cons.mp hm with q | hm
    · cases q; exact ⟨_, .head _, e⟩
    · obtain ⟨o, h1, h2⟩ := ih hm; exact ⟨o, .tail _ h1, h2⟩
theorem s_fnC (S : SoundR w n r) (hw : c.w = w) (ok : c.Ok (n + 1)) (hh : c.fi.hd = false) {a : Addr} {lam : Nat} {qual : Str} {scope : Scope} {ps : List Str} {body : List Stmt} {vs : List SV} {xs : List Value} (D : IsDef w a lam qual scope ps body) (hl : vs.length = ps.length)
    (hp : ∀ p ∈ ps, scope.names.lookup p = some .cell) (hnd : ((cellsFrom 0 scope.names []).map (·.1)).Nodup) (h : r.st ⟨qual, scope, false, lam, true⟩ body (zipR ps vs []) J (retK K) X) (H : Here c news ρ J s) (R : RepL c.jA c.cA news vs xs) (hQ : PostE c news ρ K Q) (hX : PostX c news ρ X E) :
    FnAt a s.heap ∧ wpAny (model pg w) c.A (PySem.call (.ref a) xs) Q E s := by
  subst hw
  obtain ⟨oc, od, name, params, dV, kV, doc, pm, an, cdv, ct, osl, ho, hcd, hb, hsc, m1, m2⟩ := D
  obtain ⟨g, m, hd, G, F, N, Hi, Rh, Rs⟩ := H
  have hf := def_at ok G F ho
  refine ⟨⟨_, _, _, _, hf⟩, wpAny_call ?_⟩
  have hlim : s.heap.NoLimit := ((ok.T.keeps G.B.stays).nolimit).keeps F.keep
  refine codeAny_call_function (fd := fnOf name qual params body scope dV kV doc pm an cdv ct) (by have := ok.dep; omega) hf rfl hsc.2.1 hsc.2.2.1 rfl (codeRec_of ((ok.X.keeps G.B.stays).keeps F.keep) hcd) ?_
  rw [hb xs (R.1.trans hl)]
  have hmem : ∀ y ∈ ps.zip xs, y.1 ∈ ps := fun y hy => (List.of_mem_zip (show (y.1, y.2) ∈ _ from hy)).1
  refine wpAny_pure (wpAny_newFunctionEnv_cells hsc.1 (fun y hy => .inr ⟨hp _ (hmem y hy), cellsFrom_some _ _ _ (.inl (hp _ (hmem y hy)))⟩) fun env' he s' x => ?_)
  subst he
  refine ⟨hlim.keeps x.toInCall.keep, codeAny_func ?_⟩
  obtain ⟨h₁, tk, rfl, _⟩ := x.done
  have hk₁ := x.toInCall.keep
  obtain ⟨cells, NC, Y⟩ := Cl.news (h₀ := s.heap) (Nat.le_refl _) fun n c hm => ⟨x.cell n c (lookup_of_mem_nodup (cellsFrom_names scope.names 0 (s.heap.objs.size + 1) [] [] rfl ▸ hnd) hm), x.above n c hm⟩
  have N₁ : News (hideAll s.heap ((hd ++ news).map (·.1))) s.heap.objs.size h₁ (hd ++ (cells ++ news)) := fun p hp => by
    have old : p ∈ hd ++ news → _ := fun hp => (⟨hk₁ _ _ (N p hp).1, Nat.ne_of_lt (Heap.lt_size (N p hp).1), hideAll_none _ (List.mem_map_of_mem hp)⟩ : h₁.get? p.1 = some p.2 ∧ p.1 ≠ s.heap.objs.size ∧ (hideAll s.heap ((hd ++ news).map (·.1))).get? p.1 = none)
    rcases List.mem_append.mp hp with hp | hp
    · exact old (List.mem_append_left _ hp)
    rcases List.mem_append.mp hp with hp | hp
    · refine ⟨(NC p hp).1, (NC p hp).2.1, ?_⟩
      cases q : (hideAll s.heap ((hd ++ news).map (·.1))).get? p.1 with
      | none => rfl
      | some o => have := of_hideAll _ q; rw [(NC p hp).2.2] at this; cases this
    · exact old (List.mem_append_right _ hp)
  have hap : ∀ p ∈ cells ++ news, ∀ q ∈ hd, p.1 ≠ q.1 := fun p hp q hq e => by
    rcases List.mem_append.mp hp with hp | hp
    · have := (NC p hp).2.2; rw [e, (N q (List.mem_append_left _ hq)).1] at this; cases this
    · exact Hi.apart p hp q hq e
  refine s_body (fi := ⟨qual, scope, false, lam, true⟩) (cl := cellsFrom (s.heap.objs.size + 1) scope.names []) S rfl ok (ok.callee hh hsc rfl m1 m2 fun z => nomatch z) G F N Rh (fun p hp => List.mem_append_right _ hp) h
    (Here.enter (n := n) G F N Hi Rs ok ⟨x.toInCall.ns, fun b o e => hk₁ b o (of_hideAll _ e), Nat.le_of_eq (hideAll_size _ _)⟩ N₁ (fun p hp => List.mem_append_right _ hp) hap (fun y sv e => ?_) Rs) hQ hX
  rw [zipR_eq, List.append_nil] at e
  obtain ⟨v, hv, hr⟩ := (par_zip R).reverse.get e
  have hy : y ∈ ps := by
    have := lookup_mem hv
    rw [List.mem_reverse] at this
    exact (List.of_mem_zip this).1
  have hs := cellsFrom_some scope.names (s.heap.objs.size + 1) [] (.inl (hp y hy))
  obtain ⟨ad, had⟩ := Option.isSome_iff_exists.mp hs
  obtain ⟨o, ho, hod⟩ := CellsAre.get Y (lookup_mem had)
  refine .inr ⟨.inl (hp y hy), ad, o, v, had, List.mem_append_left _ ho, hod.trans ?_, hr.mono fun p hp => List.mem_append_right _ hp⟩
  rw [bindC_all fun p hm => hp _ (hmem p hm), hv]
  rfl
theorem s_call (S : SoundR w n r) : SoundC w (n + 1) (FnCall w r) := by
  intro c news ρ J s f fv vs xs K X Q E hw ok hh h H Rf R hQ hX
  cases h with
  | fn D hl hc hp h => obtain rfl := Rf.inv; obtain ⟨h1, h2⟩ := s_fn S hw ok hh D hl hc hp h H R hQ hX; exact ⟨⟨_, rfl, h1⟩, h2⟩
  | fnC D hl hp hnd h => obtain rfl := Rf.inv; obtain ⟨h1, h2⟩ := s_fnC S hw ok hh D hl hp hnd h H R hQ hX; exact ⟨⟨_, rfl, h1⟩, h2⟩
  | clo hb hl hsc hc hp hfv h => exact s_clo S hw ok hh hb hl hsc hc hp hfv h H Rf R hQ hX
end
end Mine
namespace Mine
noncomputable def noSwap (v : Expr) : Prop := ∀ t l env, swapsWith v t l env = pure false
noncomputable def itemsV : SV → Option (List SV)
  | .lst vs => some vs
  | .tup vs => some vs
  | .rng a b c => some ((List.range (Builtin.Range.rangeSize a b c).toNat).map fun i : Nat => .int (a + i * c))
  | _ => none
noncomputable def smallV : SV → Prop
  | .rng a b c => Builtin.Range.small a b c = true
  | _ => True
noncomputable def storeN (fi : FI) : List Str → List SV → Rho → (Rho → Prop) → Prop
  | [], vs, ρ, K => vs = [] ∧ K ρ
  | x :: xs, v :: vs, ρ, K => storeV fi x v ρ (fun ρ => storeN fi xs vs ρ K)
  | _ :: _, [], _, _ => False
/-- a store into the jar's lists -/
inductive SetV (J : JS) : SV → SV → SV → (JS → Prop) → Prop
  | jar1 {i : Int} {K : JS → Prop} : K ⟨J.cells, i, J.salt⟩ → SetV J .jar (.int 1) (.int i) K
  | cell {k i : Int} {K : JS → Prop} : 0 ≤ k → k < J.cells.length → k < 1000 → K ⟨J.cells.set k.toNat i, J.at_, J.salt⟩ → SetV J .cells (.int k) (.int i) K
section
variable (call : CallT) (r : R) (fi : FI)
noncomputable def storeTg (t : Expr) (v : SV) (ρ : Rho) (K : Rho → Prop) : Prop := match t, v with
  | .Name x _, v => storeV fi x v ρ K
  | .Tuple es _ _, .tup vs => (∀ env, (assignEach es env) = es.map fun e => (false, assign e env)) ∧ es.length = vs.length ∧ storeAll fi es vs ρ K
  | _, _ => False
/-- some names are let go -/
noncomputable def Less (ρ ρ₀ : Rho) : Prop := ∀ x v, ρ₀.lookup x = some v → ρ.lookup x = some v
noncomputable def loopV (t : Expr) (b : List Stmt) : List SV → Rho → JS → KS → KX → Prop
  | [], ρ, J, K, _ => ∃ ρ₀, Less ρ ρ₀ ∧ K .next ρ₀ J
  | v :: vs, ρ, J, K, X => ∃ ρ₀, Less ρ ρ₀ ∧ storeTg fi t v ρ₀ (fun ρ => r.st fi b ρ J (fun fl ρ J => match fl with
    | .next => loopV t b vs ρ J K X
    | .cont => loopV t b vs ρ J K X
    | .brk => ∃ ρ₀, Less ρ ρ₀ ∧ K .next ρ₀ J
    | .ret u => K (.ret u) ρ J) X)
noncomputable def assignV (t v : Expr) (ρ : Rho) (J : JS) (K : KS) (X : KX) : Prop := match t with
  | .Name x _ => r.ev fi v ρ J (fun v J => storeV fi x v ρ (fun ρ => K .next ρ J)) X
  | .Tuple es k p => ∃ sw, (∀ L a cd cl, swappedStores [.Tuple es k p] v (envX fi.cn fi.cs L a cd cl) = pure sw) ∧ r.ev fi v ρ J (fun tv J => match sw, tv with
      | some names, .tup vs => fi.hd = false ∧ names.length = vs.length ∧ storeN fi names.reverse vs.reverse ρ (fun ρ => K .next ρ J)
      | none, tv => fi.hd = false ∧ storeTg fi (.Tuple es k p) tv ρ (fun ρ => K .next ρ J)
      | _, _ => False) X
  | .Subscript o i _ => r.ev fi v ρ J (fun vv J => r.ev fi o ρ J (fun ov J => r.ev fi i ρ J (fun iv J => SetV J ov iv vv (fun J => K .next ρ J)) X) X) X
  | _ => False
end
section
variable {w : World} {n : Nat} {r : R} {call : CallT} {c : Cx} {news : Led} {ρ : Rho} {J : JS} {s : Shared} {X : KX} {E : Value → Shared → Prop}
theorem put_spec {x : Str} {v : SV} : ∀ {ρ : Rho} {k : Rho → Prop}, put x v ρ k → ∃ ρ', k ρ' ∧ ∀ y, ρ'.lookup y = if y = x then some v else ρ.lookup y
  | [], k, h => ⟨_, h, fun y => by
    by_cases q : y = x
    · rw [if_pos q, q, List.lookup_cons, beq_self_eq_true]
    · rw [if_neg q, List.lookup_cons, beq_eq_false_iff_ne.mpr q]⟩
  | (z, u) :: ρ, k, h => by
    unfold put at h
    by_cases q : x = z
    · rw [if_pos q] at h
      refine ⟨_, h, fun y => ?_⟩
      by_cases e : y = x
      · rw [if_pos e, e, List.lookup_cons, beq_self_eq_true]
      · rw [if_neg e, List.lookup_cons, List.lookup_cons, beq_eq_false_iff_ne.mpr e, beq_eq_false_iff_ne.mpr (q ▸ e)]
    · rw [if_neg q] at h
      obtain ⟨ρ', hk, hl⟩ := put_spec h
      refine ⟨_, hk, fun y => ?_⟩
      by_cases e : y = z
      · rw [e, List.lookup_cons, List.lookup_cons, beq_self_eq_true, if_neg (Ne.symm q)]
      · rw [List.lookup_cons, List.lookup_cons, beq_eq_false_iff_ne.mpr e]; exact hl y
theorem s_store {x : Str} {sv : SV} {v : Value} {K : Rho → Prop} {Q : Unit → Shared → Prop} (ok : c.Ok n) (h : storeV c.fi x sv ρ K) (R : Rep c.jA c.cA news sv v) (H : Here c news ρ J s) (hQ : ∀ ρ' s', K ρ' → Here c news ρ' J s' → Q () s') :
    wpAny (model pg c.w) c.A (storeName c.env x v) Q E s := by
  unfold storeV at h
  cases q : c.fi.cs.names.lookup x with
  | none => rw [q] at h; exact h.elim
  | some k =>
    rw [q] at h
    cases k with
    | «local» =>
      obtain ⟨ρ', hk, hl⟩ := put_spec h
      obtain ⟨g, m, hd, G, F, N, Hi, Rh, Rs⟩ := H
      refine storeX_L F N (fun h' F' N' => hQ ρ' _ hk ⟨g, _, hd, G, F', N', Hi, fun y u e => ?_, Rs⟩) ok.sc.1 q
      rw [hl] at e
      by_cases z : y = x
      · rw [if_pos z] at e; cases e; exact .inl ⟨z ▸ q, v, if_pos z, R⟩
      · rw [if_neg z] at e
        rcases Rh y u e with ⟨a, v', b, r'⟩ | o
        · exact .inl ⟨a, v', (if_neg z).trans b, r'⟩
        · exact .inr o
    | _ => exact h.elim
theorem s_storeN (ok : c.Ok n) : ∀ {xs : List Str} {vs : List SV} {ys : List Value} {ρ : Rho} {s : Shared} {K : Rho → Prop} {Q : Unit → Shared → Prop}, storeN c.fi xs vs ρ K → RepL c.jA c.cA news vs ys → Here c news ρ J s → (∀ ρ' s', K ρ' → Here c news ρ' J s' → Q () s') →
    wpAny (model pg c.w) c.A (assignInOrder (xs.map fun x => bindName c.env x) ys) Q E s
  | [], vs, ys, ρ, s, K, Q, h, R, H, hQ => by obtain ⟨rfl, h⟩ := h; obtain rfl := R.inv0; exact wpAny_pure (hQ _ _ h H)
  | x :: xs, [], ys, ρ, s, K, Q, h, R, H, hQ => h.elim
  | x :: xs, v :: vs, ys, ρ, s, K, Q, h, R, H, hQ => by
    obtain ⟨y, ys, rfl, R1, R2⟩ := R.invS
    refine wpAny_bind (wpAny_holding (wpAny_bindName (s_store ok h R1 H fun ρ' s' h' H' => s_storeN ok h' R2 H' hQ)))
theorem asName_eq {e : Expr} {x : Str} (h : asName e = some x) : ∃ p, e = .Name x p := by
  unfold asName at h
  split at h
  · cases h; exact ⟨_, rfl⟩
  · cases h
theorem s_storeAll (ok : c.Ok n) : ∀ {es : List Expr} {vs : List SV} {ys : List Value} {ρ : Rho} {s : Shared} {K : Rho → Prop} {Q : Unit → Shared → Prop}, storeAll c.fi es vs ρ K → RepL c.jA c.cA news vs ys → Here c news ρ J s → (∀ ρ' s', K ρ' → Here c news ρ' J s' → Q () s') →
    wpAny (model pg c.w) c.A (assignInOrder (es.map fun e => assign e c.env) ys) Q E s
  | [], vs, ys, ρ, s, K, Q, h, R, H, hQ => by obtain ⟨rfl, h⟩ := h; obtain rfl := R.inv0; exact wpAny_pure (hQ _ _ h H)
  | e :: es, vs, ys, ρ, s, K, Q, h, R, H, hQ => by
    unfold storeAll at h
    cases q : asName e with
    | none => rw [q] at h; exact h.elim
    | some x =>
      rw [q] at h
      cases vs with
      | nil => exact h.elim
      | cons v vs =>
        obtain ⟨p, rfl⟩ := asName_eq q
        obtain ⟨y, ys, rfl, R1, R2⟩ := R.invS
        refine wpAny_bind (wpAny_holding (wpAny_assign_Name (s_store ok h R1 H fun ρ' s' h' H' => s_storeAll ok h' R2 H' hQ)))
theorem s_storeTg (ok : c.Ok n) (hh : c.fi.hd = false) {t : Expr} {sv : SV} {v : Value} {K : Rho → Prop} {Q : Unit → Shared → Prop} (h : storeTg c.fi t sv ρ K) (R : Rep c.jA c.cA news sv v) (H : Here c news ρ J s) (hQ : ∀ ρ' s', K ρ' → Here c news ρ' J s' → Q () s') :
    wpAny (model pg c.w) c.A (assign t c.env v) Q E s := by
  cases t with
  | Name x p => exact wpAny_assign_Name (s_store ok h R H hQ)
  | Tuple es k p =>
    cases sv with
    | tup vs =>
      obtain ⟨ha, hl, h⟩ := h
      obtain ⟨a, xs, kk, rfl, hm, R⟩ := R.inv
      refine H.same fun g m hd F N kk => unpackN_ F N ⟨_, H.list hm, rfl, _, rfl⟩ (ok.hnd hh) (by rw [ha, List.length_map, List.size_toArray, R.1, hl]) ?_ (fun h' F' N' => ?_)
      · rw [ha]; simp [List.findIdx?_eq_none_iff]
      · rw [ha, List.map_map]
        exact s_storeAll ok h R (kk _ F' N' rfl rfl) hQ
    | _ => exact h.elim
  | _ => exact h.elim
end
end Mine
namespace Mine
section
variable {w : World} {n : Nat} {r : R} {call : CallT} {c : Cx} {news : Led} {ρ : Rho} {J : JS} {s : Shared} {X : KX} {E : Value → Shared → Prop}
theorem ints_set : ∀ {vs : List Value} {ns : List Int}, IntsAre vs ns → ∀ (k : Nat) (i : Int) (t : Tok), IntsAre (vs.set k (.int i t)) (ns.set k i)
  | _, _, .nil, _, _, _ => .nil
  | _, _, .cons _ _ h, 0, i, t => .cons i t h
  | _, _, .cons a b h, k + 1, i, t => .cons a b (ints_set h k i t)
theorem s_set {A : Around} {a b vv : SV} {x y v : Value} {K : JS → Prop} {Q : Unit → Shared → Prop} (h : SetV J a b vv K) (ha : Rep c.jA c.cA news a x) (hb : Rep c.jA c.cA news b y) (hv : Rep c.jA c.cA news vv v) (H : Here c news ρ J s)
    (hQ : ∀ J' s', K J' → Here c news ρ J' s' → Q () s') : wpAny (model pg c.w) A (setItem x y v) Q E s := by
  obtain ⟨g, m, hd, G, F, N, Hi, Rh, Rs⟩ := H
  obtain ⟨oj, oc, t1, t2, vs, ps1, ps2, rfl, lj, lc, I, g1, g2, pw, ap⟩ := Hi
  cases h with
  | jar1 k =>
    obtain ⟨_, rfl⟩ := hb.int_inv; obtain ⟨_, rfl⟩ := hv.int_inv; obtain rfl := ha.inv
    refine wpAny_setItem_list ⟨_, (N _ (.head _)).1, lj⟩ (by decide) (by decide) (by show (1 : Int) < ((3 : Nat) : Int); decide) fun h' hl hs => ?_
    obtain ⟨o', ho', lo'⟩ := hl
    refine hQ _ _ k ⟨g, m, (c.jA, o') :: _, G, F.update N (.head _) hs, News.setAt (own := []) N (fun _ h => nomatch h) (fun p hp => ?_) hs ho', ⟨o', oc, _, t2, vs, ps1, ps2, rfl, lo', lc, I, g1, g2, ?_, fun p hp q hq => ?_⟩, Rh, Rs⟩
    · rcases List.mem_append.mp hp with hp | hp
      · exact ((List.pairwise_cons.mp pw).1 p hp).symm
      · exact ap p hp _ (.head _)
    · exact List.pairwise_cons.mpr (List.pairwise_cons.mp pw)
    · rcases List.mem_cons.mp hq with rfl | hq
      · exact ap p hp (c.jA, oj) (.head _)
      · exact ap p hp _ (.tail _ hq)
  | @cell kk i _ h0 h1 h2 k =>
    obtain ⟨_, rfl⟩ := hb.int_inv; obtain ⟨t, rfl⟩ := hv.int_inv; obtain rfl := ha.inv
    have pw' := List.pairwise_cons.mp pw
    have pw2 := List.pairwise_cons.mp pw'.2
    refine wpAny_setItem_list ⟨_, (N _ (.tail _ (.head _))).1, lc⟩ h0 (by omega) (by rw [List.size_toArray, I.length]; omega) fun h' hl hs => ?_
    obtain ⟨o', ho', lo'⟩ := hl
    rw [List.setIfInBounds_toArray] at lo'
    refine hQ _ _ k ⟨g, m, (c.jA, oj) :: (c.cA, o') :: _, G, F.update N (.tail _ (.head _)) hs, News.setAt (own := [(c.jA, oj)]) N (fun p hp => ?_) (fun p hp => ?_) hs ho', ⟨oj, o', t1, t2, vs.set kk.toNat (.int i t), ps1, ps2, rfl, lj, lo', ints_set I _ _ _, g1, g2, ?_, fun p hp q hq => ?_⟩, Rh, Rs⟩
    · rw [List.mem_singleton.mp hp]; exact pw'.1 _ (.head _)
    · rcases List.mem_append.mp hp with hp | hp
      · exact (pw2.1 p hp).symm
      · exact ap p hp _ (.tail _ (.head _))
    · refine List.pairwise_cons.mpr ⟨fun q hq => ?_, List.pairwise_cons.mpr pw2⟩
      rcases List.mem_cons.mp hq with rfl | hq
      · exact pw'.1 (c.cA, oc) (.head _)
      · exact pw'.1 _ (.tail _ hq)
    · rcases List.mem_cons.mp hq with rfl | hq
      · exact ap p hp _ (.head _)
      rcases List.mem_cons.mp hq with rfl | hq
      · exact ap p hp (c.cA, oc) (.tail _ (.head _))
      · exact ap p hp _ (.tail _ (.tail _ hq))
/-- with an iterator more, with it less -/
noncomputable abbrev Cx.with (c : Cx) (I : Addr) (o : Obj) : Cx := { c with its := (I, o) :: c.its }
theorem Hid.less {its : Led} {jA cA : Addr} {hd : Led} {p : Addr × Obj} (h : Hid (p :: its) jA cA J hd news) : ∃ hd', Hid its jA cA J hd' news ∧ (∀ q ∈ hd', q ∈ hd) ∧ p ∈ hd ∧ (∀ q ∈ hd', q.1 ≠ p.1) ∧ ∀ q ∈ news, q.1 ≠ p.1 := by
  obtain ⟨oj, oc, t1, t2, vs, ps1, ps2, rfl, lj, lc, i, g1, g2, n1, ha⟩ := h
  have hs : ∀ q, q ∈ (jA, oj) :: (cA, oc) :: (267, tabObj ps1) :: (220, tabObj ps2) :: its → q ∈ (jA, oj) :: (cA, oc) :: (267, tabObj ps1) :: (220, tabObj ps2) :: p :: its := fun q hq => by
    simp only [List.mem_cons] at hq ⊢
    rcases hq with h | h | h | h | h
    · exact .inl h
    · exact .inr (.inl h)
    · exact .inr (.inr (.inl h))
    · exact .inr (.inr (.inr (.inl h)))
    · exact .inr (.inr (.inr (.inr (.inr h))))
  have hp : p ∈ (jA, oj) :: (cA, oc) :: (267, tabObj ps1) :: (220, tabObj ps2) :: p :: its := .tail _ (.tail _ (.tail _ (.tail _ (.head _))))
  obtain ⟨a1, b1⟩ := List.pairwise_cons.mp n1
  obtain ⟨a2, b2⟩ := List.pairwise_cons.mp b1
  obtain ⟨a3, b3⟩ := List.pairwise_cons.mp b2
  obtain ⟨a4, b4⟩ := List.pairwise_cons.mp b3
  obtain ⟨a5, b5⟩ := List.pairwise_cons.mp b4
  refine ⟨_, ⟨oj, oc, t1, t2, vs, ps1, ps2, rfl, lj, lc, i, g1, g2, ?_, fun q hq x hx => ha q hq x (hs x hx)⟩, hs, hp, fun q hq => ?_, fun q hq => ha q hq p hp⟩
  · refine n1.sublist ?_
    exact .cons_cons _ (.cons_cons _ (.cons_cons _ (.cons_cons _ (.cons _ (List.Sublist.refl _)))))
  · simp only [List.mem_cons] at hq
    rcases hq with rfl | rfl | rfl | rfl | h
    · exact a1 _ (.tail _ (.tail _ (.tail _ (.head _))))
    · exact a2 _ (.tail _ (.tail _ (.head _)))
    · exact a3 _ (.tail _ (.head _))
    · exact a4 _ (.head _)
    · exact (a5 q h).symm
theorem Hid.plus {its : Led} {jA cA : Addr} {hd : Led} {p : Addr × Obj} (h : Hid its jA cA J hd news) (h1 : ∀ q ∈ hd, q.1 ≠ p.1) (h2 : ∀ q ∈ news, q.1 ≠ p.1) : ∃ hd', Hid (p :: its) jA cA J hd' news ∧ ∀ q ∈ hd', q ∈ p :: hd := by
  obtain ⟨oj, oc, t1, t2, vs, ps1, ps2, rfl, lj, lc, i, g1, g2, n1, ha⟩ := h
  obtain ⟨a1, b1⟩ := List.pairwise_cons.mp n1
  obtain ⟨a2, b2⟩ := List.pairwise_cons.mp b1
  obtain ⟨a3, b3⟩ := List.pairwise_cons.mp b2
  obtain ⟨a4, b4⟩ := List.pairwise_cons.mp b3
  have hs : ∀ q, q ∈ (jA, oj) :: (cA, oc) :: (267, tabObj ps1) :: (220, tabObj ps2) :: p :: its → q ∈ p :: (jA, oj) :: (cA, oc) :: (267, tabObj ps1) :: (220, tabObj ps2) :: its := fun q hq => by
    simp only [List.mem_cons] at hq ⊢
    rcases hq with h | h | h | h | h | h
    · exact .inr (.inl h)
    · exact .inr (.inr (.inl h))
    · exact .inr (.inr (.inr (.inl h)))
    · exact .inr (.inr (.inr (.inr (.inl h))))
    · exact .inl h
    · exact .inr (.inr (.inr (.inr (.inr h))))
  refine ⟨_, ⟨oj, oc, t1, t2, vs, ps1, ps2, rfl, lj, lc, i, g1, g2, ?_, fun q hq x hx => ?_⟩, hs⟩
  · refine List.pairwise_cons.mpr ⟨fun q hq => ?_, List.pairwise_cons.mpr ⟨fun q hq => ?_, List.pairwise_cons.mpr ⟨fun q hq => ?_, List.pairwise_cons.mpr ⟨fun q hq => ?_, List.pairwise_cons.mpr ⟨fun q hq => (h1 q (.tail _ (.tail _ (.tail _ (.tail _ hq))))).symm, b4⟩⟩⟩⟩⟩
    · simp only [List.mem_cons] at hq
      rcases hq with rfl | rfl | rfl | rfl | h
      · exact a1 _ (.head _)
      · exact a1 _ (.tail _ (.head _))
      · exact a1 _ (.tail _ (.tail _ (.head _)))
      · exact h1 _ (.head _)
      · exact a1 _ (.tail _ (.tail _ (.tail _ h)))
    · simp only [List.mem_cons] at hq
      rcases hq with rfl | rfl | rfl | h
      · exact a2 _ (.head _)
      · exact a2 _ (.tail _ (.head _))
      · exact h1 _ (.tail _ (.head _))
      · exact a2 _ (.tail _ (.tail _ h))
    · simp only [List.mem_cons] at hq
      rcases hq with rfl | rfl | h
      · exact a3 _ (.head _)
      · exact h1 _ (.tail _ (.tail _ (.head _)))
      · exact a3 _ (.tail _ h)
    · rcases List.mem_cons.mp hq with rfl | h
      · exact h1 _ (.tail _ (.tail _ (.tail _ (.head _))))
      · exact a4 _ h
  · rcases List.mem_cons.mp (hs x hx) with rfl | h
    · exact h2 q hq
    · exact ha q hq x h
theorem Here.less {I : Addr} {o : Obj} (H : Here (c.with I o) news ρ J s) : Here c news ρ J s ∧ s.heap.get? I = some o := by
  obtain ⟨g, m, hd, G, F, N, Hi, Rh, Rs⟩ := H
  obtain ⟨hd', Hi', hs, hp, _⟩ := Hi.less
  refine ⟨⟨g, m, hd', ⟨G.B, G.T0, G.D⟩, F, news_sub N fun q hq => ?_, Hi', Rh, Rs⟩, (N _ (List.mem_append_left _ hp)).1⟩
  rcases List.mem_append.mp hq with h | h
  · exact List.mem_append_left _ (hs q h)
  · exact List.mem_append_right _ h
theorem Here.forget {ρ₀ : Rho} (H : Here c news ρ J s) (h : Less ρ ρ₀) : Here c news ρ₀ J s := by
  obtain ⟨g, m, hd, G, F, N, Hi, Rh, Rs⟩ := H
  exact ⟨g, m, hd, G, F, N, Hi, fun x v e => Rh x v (h x v e), Rs⟩
theorem Fly.less {I C e : Addr} {o : Obj} (H : Fly (c.with I o) news ρ J C e s) : Fly c news ρ J C e s := by
  obtain ⟨g, m, hd, G, Hi, Rh, Rs, h⟩ := H
  obtain ⟨hd', Hi', hs, hp, _⟩ := Hi.less
  have hs' : ∀ q ∈ hd' ++ news, q ∈ hd ++ news := fun q hq => by
    rcases List.mem_append.mp hq with h | h
    · exact List.mem_append_left _ (hs q h)
    · exact List.mem_append_right _ h
  refine ⟨g, m, hd', ⟨G.B, G.T0, G.D⟩, Hi', Rh, Rs, ?_⟩
  rcases h with ⟨h, F, N, Mx⟩ | ⟨G', t, vs, F, Rz, U⟩
  · exact .inl ⟨h, F, news_sub N hs', Mx⟩
  · obtain ⟨⟨B, b1, b2, b3, b4⟩, b5⟩ := Rz
    exact .inr ⟨G', t, vs, F, ⟨⟨B, b1, b2, fun q hq => b3 q (hs' q hq), b4⟩, b5⟩, U⟩
/-- the iterator's turn: the frame with the iterator's new object -/
theorem Here.turn {I : Addr} {o o' : Obj} {h' : Heap} {tk : Nat} (H : Here (c.with I o) news ρ J s) (hk : ∀ b x, b ≠ I → s.heap.get? b = some x → h'.get? b = some x) (ho : h'.get? I = some o') : Here (c.with I o') news ρ J { s with heap := h', toks := tk } := by
  obtain ⟨g, m, hd, G, F, N, Hi, Rh, Rs⟩ := H
  obtain ⟨hd', Hi', hs, hp, h1, h2⟩ := Hi.less
  obtain ⟨hd2, Hi2, hs2⟩ := Hi'.plus (p := (I, o')) h1 h2
  have nI := (N _ (List.mem_append_left _ hp)).2
  obtain ⟨oL, es, ep, hL, r⟩ := F.ns
  refine ⟨g, m, hd2, ⟨G.B, G.T0, G.D⟩, ⟨⟨oL, es, ep, hk _ _ (Ne.symm nI.1) hL, r⟩, fun b x e => hk b x (fun q => by rw [q] at e; rw [nI.2] at e; cases e) (F.keep b x e), F.above⟩, fun q hq => ?_, Hi2, Rh, Rs⟩
  have old : ∀ q, q ∈ hd ++ news → q.1 ≠ I → h'.get? q.1 = some q.2 ∧ q.1 ≠ c.L ∧ g.get? q.1 = none := fun q hq hn => ⟨hk _ _ hn (N q hq).1, (N q hq).2⟩
  rcases List.mem_append.mp hq with h | h
  · rcases List.mem_cons.mp (hs2 q h) with rfl | h
    · exact ⟨ho, nI⟩
    · exact old q (List.mem_append_left _ (hs q h)) (h1 q h)
  · exact old q (List.mem_append_right _ h) (h2 q h)
/-- a new iterator is made -/
theorem Here.iter {I : Addr} {o : Obj} {h' : Heap} {tk : Nat} (H : Here c news ρ J s) (hn : s.heap.objs.size ≤ I) (hk : ∀ b x, s.heap.get? b = some x → h'.get? b = some x) (ho : h'.get? I = some o) : Here (c.with I o) news ρ J { s with heap := h', toks := tk } := by
  obtain ⟨g, m, hd, G, F, N, Hi, Rh, Rs⟩ := H
  have ne : ∀ q ∈ hd ++ news, q.1 ≠ I := fun q hq => Nat.ne_of_lt (Nat.lt_of_lt_of_le (Heap.lt_size (N q hq).1) hn)
  obtain ⟨hd2, Hi2, hs2⟩ := Hi.plus (p := (I, o)) (fun q hq => ne q (List.mem_append_left _ hq)) fun q hq => ne q (List.mem_append_right _ hq)
  obtain ⟨oL, es, ep, hL, r⟩ := F.ns
  have nL : I ≠ c.L := fun q => Nat.lt_irrefl _ (Nat.lt_of_lt_of_le (Heap.lt_size hL) (q ▸ hn))
  have nG : g.get? I = none := by
    cases q : g.get? I with
    | none => rfl
    | some x => exact absurd (Heap.lt_size (F.keep _ _ q)) (Nat.not_lt.mpr hn)
  refine ⟨g, m, hd2, ⟨G.B, G.T0, G.D⟩, ⟨⟨oL, es, ep, hk _ _ hL, r⟩, fun b x e => hk b x (F.keep b x e), F.above⟩, fun q hq => ?_, Hi2, Rh, Rs⟩
  have old : ∀ q, q ∈ hd ++ news → h'.get? q.1 = some q.2 ∧ q.1 ≠ c.L ∧ g.get? q.1 = none := fun q hq => ⟨hk _ _ (N q hq).1, (N q hq).2⟩
  rcases List.mem_append.mp hq with h | h
  · rcases List.mem_cons.mp (hs2 q h) with rfl | h
    · exact ⟨ho, nL, nG⟩
    · exact old q (List.mem_append_left _ h)
  · exact old q (List.mem_append_right _ h)
theorem Cx.Ok.with (ok : c.Ok n) (I : Addr) (o : Obj) : (c.with I o).Ok n := ⟨ok.fr, ok.sc, ok.hnd, ok.up, ok.dep, ok.uni, ok.nocl, ok.X, ok.T, ok.cd1, ok.cd2, ok.mk1, ok.mk2⟩
noncomputable def goOk (t : Expr) : Prop := (∃ x p, t = .Name x p) ∨ ∃ es k p, t = .Tuple es k p
/-- what the iterator's kind must be for the target -/
noncomputable def GoIt (I : Addr) (St : Nat → Heap → Prop) : Prop := ∀ i h, St i h → ∃ o nm vs, h.get? I = some o ∧ o.cls = .type nm ∧ o.data = .fields vs ∧ ["enumerate", "zip", "dict_itemiterator", "dict_reverseitemiterator", "odict_iterator", "itertools.zip_longest", "itertools.pairwise"].contains nm = false
theorem s_go {M : Model} {A : Around} {t : Expr} {I : Addr} {v : Value} {o : Obj} {nm : String} {vs : Array Value} {Q : Unit → Shared → Prop} (h : s.heap.get? I = some o) (hc : o.cls = .type nm) (hd : o.data = .fields vs)
    (hn : ["enumerate", "zip", "dict_itemiterator", "dict_reverseitemiterator", "odict_iterator", "itertools.zip_longest", "itertools.pairwise"].contains nm = false) (hQ : Q () s) : wpAny M A (letOwnedTupleGo t (.ref I) v) Q E s := by
  have go : wpAny M A (letOwnedTupleGo (.Tuple [] 0 default) (.ref I) v) Q E s := by
    unfold letOwnedTupleGo
    dsimp only
    cases v with
    | ref a =>
      refine wpAny_bind (wpAny_load h ?_)
      rw [hc, hd]
      simp only [hn, Bool.false_and, Bool.false_eq_true, if_false]
      exact wpAny_pure hQ
    | _ => exact wpAny_pure hQ
  unfold letOwnedTupleGo at go ⊢
  split
  · exact go
  · exact go
  · exact wpAny_pure hQ
theorem s_loop (S : SoundR w n r) (hw : c.w = w) (ok : c.Ok n) (hh : c.fi.hd = false) {t : Expr} {body : List Stmt} {K : KS} {Q : Flow → Shared → Prop} {items : List SV} {I : Addr} {fp : List Addr} {P : Nat → Value → Prop} {St : Nat → Heap → Prop} {o : Obj}
    (W : Walks pg w c.A I fp [I] items.length P St) (hP : ∀ i v, i < items.length → P i v → ∃ sv, items[i]? = some sv ∧ Rep c.jA c.cA news sv v) (hG : GoIt I St) (hfp : ∀ b ∈ fp, b = I ∨ ∃ x, (b, x) ∈ news)
    (h : loopV r c.fi t body items ρ J K X) (H : Here (c.with I o) news ρ J s) (hSt : St 0 s.heap) (hQ : PostS c news K Q) (hX : PostXS c news X E) (hE : PassesOwn (model pg w) c.A c.env E) :
    codeAny (model pg w) c.A (.forLoop t (.ref I) body [] c.env) (fun r s' => match r with | .ok f => Q f s' | .error e => cameBackBy (model pg w) c.A c.env E e s') s := by
  subst hw
  have note : ∀ {α : Type} {tr : Sem α} {Q' : α → Shared → Prop} {s' : Shared}, wpAny (model pg c.w) c.A tr Q' E s' → wpAny (model pg c.w) c.A tr Q' (notedBy (model pg c.w) c.A c.env fun e s' => cameBackBy (model pg c.w) c.A c.env E e s') s' := fun h => wpAny_passesOwn hE h
  refine codeAny_forLoop_any (fun k s' => ∃ i news₁ ρ₁ J₁ o, i ≤ items.length ∧ k = items.length - i ∧ (∀ p ∈ news, p ∈ news₁) ∧ Here (c.with I o) news₁ ρ₁ J₁ s' ∧ St i s'.heap ∧ loopV r c.fi t body (items.drop i) ρ₁ J₁ K X) ?_ items.length
    ⟨0, news, ρ, J, o, Nat.zero_le _, rfl, fun _ h => h, H, hSt, h⟩
  rintro k s' ⟨i, news₁, ρ₁, J₁, o, hi, rfl, hs, H', hst, hl⟩
  rcases Nat.lt_or_eq_of_le hi with lt | rfl
  · refine W.item i s' _ _ lt hst fun v h' tk hPv hst' hk => ?_
    obtain ⟨o', nm, vs, ho, hc, hd, hn⟩ := hG _ _ hst'
    have H2 : Here (c.with I o') news₁ ρ₁ J₁ { s' with heap := h', toks := tk } := H'.turn (fun b x hb e => hk b x (fun q => hb (List.mem_singleton.mp q)) e) ho
    refine s_go ho hc hd hn ?_
    obtain ⟨sv, hsv, R⟩ := hP i v lt hPv
    have hdrop : items.drop i = sv :: items.drop (i + 1) := by
      rw [List.drop_eq_getElem_cons lt]
      congr 1
      exact (Option.some.inj ((List.getElem?_eq_getElem lt).symm.trans hsv))
    rw [hdrop] at hl
    obtain ⟨ρ₀, hless, hl⟩ := hl
    refine note (s_storeTg (c := c.with I o') (ok.with I o') hh hl (R.mono hs) (H2.forget hless) fun ρ2 s2 h2 H3 => ?_)
    have hI : s2.heap.get? I = some o' := (Here.less H3).2
    refine note (S.st (c := c.with I o') rfl (ok.with I o') h2 H3 (fun news2 f fl ρ3 J3 s3 hs3 h3 hf H4 => ?_) (fun news2 C e J3 s3 hs3 h3 hF => hX _ _ _ _ _ (fun p hp => hs3 p (hs p hp)) h3 hF.less) hE)
    have again : loopV r c.fi t body (items.drop (i + 1)) ρ3 J3 K X → ∃ m, m < items.length - i ∧ ∃ i news₁ ρ₁ J₁ o, i ≤ items.length ∧ m = items.length - i ∧ (∀ p ∈ news, p ∈ news₁) ∧ Here (c.with I o) news₁ ρ₁ J₁ s3 ∧ St i s3.heap ∧ loopV r c.fi t body (items.drop i) ρ₁ J₁ K X := fun hl' => by
      refine ⟨_, ?_, i + 1, news2, ρ3, J3, o', lt, rfl, fun p hp => hs3 p (hs p hp), H4, ?_, hl'⟩
      · omega
      · refine W.frame (i + 1) h' s3.heap hst' fun b hb x e => ?_
        rcases hfp b hb with rfl | ⟨y, hy⟩
        · rw [ho] at e; cases e; exact (Here.less H4).2
        · have e1 := (Here.less H2).1.list (hs _ hy)
          have e2 := (Here.less H4).1.list (hs3 _ (hs _ hy))
          rw [show h'.get? b = some y from e1] at e; cases e
          exact e2
    cases hf with
    | next => exact again h3
    | cont => exact again h3
    | brk => obtain ⟨ρ₄, hl4, h3⟩ := h3; exact hQ _ _ _ _ _ _ (fun p hp => hs3 p (hs p hp)) h3 .next ((Here.less H4).1.forget hl4)
    | ret hr => exact hQ _ _ _ _ _ _ (fun p hp => hs3 p (hs p hp)) h3 (.ret hr) (Here.less H4).1
  · rw [List.drop_length] at hl
    obtain ⟨ρ₀, hless, hl⟩ := hl
    refine W.done s' _ _ hst fun h' tk hk => ?_
    have hb := (Here.less H').1
    refine wpAny_execs_nil (hQ _ _ _ _ _ _ hs hl .next ?_)
    obtain ⟨g, m, hd, G, F, N, Hi, Rh, Rs⟩ := H'.forget hless
    obtain ⟨hd', Hi', hs', hp, h1, h2⟩ := Hi.less
    have nI := (N _ (List.mem_append_left _ hp)).2
    obtain ⟨oL, es, ep, hL, rr⟩ := F.ns
    have hk' : ∀ b x, b ≠ I → s'.heap.get? b = some x → h'.get? b = some x := fun b x hb e => hk b x (fun q => hb (List.mem_singleton.mp q)) e
    refine ⟨g, m, hd', ⟨G.B, G.T0, G.D⟩, ⟨⟨oL, es, ep, hk' _ _ (Ne.symm nI.1) hL, rr⟩, fun b x e => hk' b x (fun q => by rw [q] at e; rw [nI.2] at e; cases e) (F.keep b x e), F.above⟩, fun q hq => ?_, Hi', Rh, Rs⟩
    rcases List.mem_append.mp hq with h | h
    · exact ⟨hk' _ _ (h1 q h) (N q (List.mem_append_left _ (hs' q h))).1, (N q (List.mem_append_left _ (hs' q h))).2⟩
    · exact ⟨hk' _ _ (h2 q h) (N q (List.mem_append_right _ h)).1, (N q (List.mem_append_right _ h)).2⟩
end
end Mine
namespace Mine
inductive HandV (r : R) (fi : FI) (C : Addr) (ρ : Rho) (J : JS) (K : KS) : List ExceptHandler → Prop
  | hit {x : Str} {np : Pos} {b : Stmt} {suite : List Stmt} {pos : Pos} {rest : List ExceptHandler} : fi.cs.names.lookup x = some .globalImplicit → excOf x = some C →
      r.st { fi with hd := true } (b :: suite) ρ J (fun fl ρ J => match fl with | .ret v => K (.ret v) ρ J | _ => False) (fun _ _ => False) → HandV r fi C ρ J K (.ExceptHandler (some (.Name x np)) none (b :: suite) pos :: rest)
  | pass {x : Str} {D : Addr} {np : Pos} {b : Stmt} {suite : List Stmt} {pos : Pos} {rest : List ExceptHandler} : fi.cs.names.lookup x = some .globalImplicit → excOf x = some D → C ≠ D → C = 45 ∨ C = 57 →
      HandV r fi C ρ J K rest → HandV r fi C ρ J K (.ExceptHandler (some (.Name x np)) none (b :: suite) pos :: rest)
inductive StmtV (r : R) (fi : FI) (ρ : Rho) (J : JS) (K : KS) (X : KX) : Stmt → Prop
  | ret {e : Expr} {p : Pos} : r.ev fi e ρ J (fun v J => K (.ret v) ρ J) X → StmtV r fi ρ J K X (.Return (some e) p)
  | assign {t v : Expr} {p : Pos} : noSwap v → assignV r fi t v ρ J K X → StmtV r fi ρ J K X (.Assign [t] v p)
  | aug {x : Str} {p p' : Pos} {v : Expr} {i : Int} : ρ.lookup x = some (.int i) → fi.cs.names.lookup x = some .local → r.ev fi v ρ J (fun b J => ∃ j, b = .int j ∧ storeV fi x (.int (i + j)) ρ (fun ρ => K .next ρ J)) X → StmtV r fi ρ J K X (.AugAssign (.Name x p) .Add v p')
  | ite {t : Expr} {b o : List Stmt} {p : Pos} : r.ts fi t ρ J (fun c J => (c = true → r.st fi b ρ J K X) ∧ (c = false → r.st fi o ρ J K X)) X → StmtV r fi ρ J K X (.If t b o p)
  | loop {t it : Expr} {b : List Stmt} {p : Pos} : fi.hd = false → (∀ env x, foldedSetIterable it env x = pure x) → r.ev fi it ρ J (fun v J => smallV v ∧ ∃ items, itemsV v = some items ∧ loopV r fi t b items ρ J K X) X → StmtV r fi ρ J K X (.For t it b [] p)
  | brk {p : Pos} : K .brk ρ J → StmtV r fi ρ J K X (.Break p)
  | raise {x m : Str} {kk : Nat} {p p2 p3 p4 : Pos} {C : Addr} : fi.hd = false → fi.cs.names.lookup x = some .globalImplicit → excOf x = some C → X C J → StmtV r fi ρ J K X (.Raise (some (.Call (.Name x p) [.Constant (.str m) kk p2] [] p3)) none p4)
  | tryA {t v : Expr} {p p2 : Pos} {h : ExceptHandler} {hs : List ExceptHandler} : fi.hd = false → fi.cells = false → noSwap v → assignV r fi t v ρ J K (fun C J => HandV r fi C ρ J K (h :: hs)) → StmtV r fi ρ J K X (.Try [.Assign [t] v p] (h :: hs) [] [] p2)
  | tryE {v : Expr} {p p2 : Pos} {h : ExceptHandler} {hs : List ExceptHandler} : fi.hd = false → fi.cells = false → noSwap v → r.ev fi v ρ J (fun _ J => K .next ρ J) (fun C J => HandV r fi C ρ J K (h :: hs)) → StmtV r fi ρ J K X (.Try [.Expr v p] (h :: hs) [] [] p2)
section
variable (call : CallT) (r : R) (fi : FI)
noncomputable def stepSt : List Stmt → Rho → JS → KS → KX → Prop
  | [], ρ, J, K, _ => K .next ρ J
  | s :: rest, ρ, J, K, X => StmtV r fi ρ J (fun fl ρ J => match fl with
    | .next => r.st fi rest ρ J K X
    | .brk => K .brk ρ J
    | .cont => K .cont ρ J
    | .ret v => K (.ret v) ρ J) X s
end
section
variable {w : World} {n : Nat} {r : R} {call : CallT} {c : Cx} {news : Led} {ρ : Rho} {J : JS} {s : Shared} {X : KX} {E : Value → Shared → Prop}
theorem PostS.next {K : KS} {Q : Flow → Shared → Prop} {news' : Led} {ρ' : Rho} {J' : JS} {s' : Shared} (hQ : PostS c news K Q) (hs : ∀ p ∈ news, p ∈ news') (k : K .next ρ' J') (H : Here c news' ρ' J' s') : Q .next s' := hQ _ _ _ _ _ _ hs k .next H
theorem s_assign (S : SoundR w n r) (hw : c.w = w) (ok : c.Ok n) {t v : Expr} {pos : Pos} {K : KS} {Q : Flow → Shared → Prop} (hs : noSwap v) (h : assignV r c.fi t v ρ J K X) (H : Here c news ρ J s) (hQ : PostS c news K Q) (hX : PostX c news ρ X E) :
    wpAny (model pg w) c.A (exec (.Assign [t] v pos) c.env) Q E s := by
  cases t with
  | Name x p =>
    refine wpAny_Assign_Name (S.ev hw ok h H (fun n1 v1 a J1 s1 hs1 h1 R1 H1 => ?_) hX) (hs _ _ _)
    subst hw
    exact s_store ok h1 R1 H1 fun ρ' s' k H' => hQ.next hs1 k H'
  | Tuple es k p =>
    obtain ⟨sw, hsw, h⟩ := h
    cases sw with
    | none =>
      refine Assign_Tuple (S.ev hw ok h H (fun n1 v1 a J1 s1 hs1 h1 R1 H1 => ?_) hX) (by exact hs (some (.Tuple es k p)) pos.line c.env) (hsw _ _ _ _)
      subst hw
      exact s_storeTg ok h1.1 h1.2 R1 H1 fun ρ' s' k H' => hQ.next hs1 k H'
    | some names =>
      refine Assign_Tuple_swapped (S.ev hw ok h H (fun n1 v1 a J1 s1 hs1 h1 R1 H1 => ?_) hX) (by exact hs (some (.Tuple es k p)) pos.line c.env) (hsw _ _ _ _)
      subst hw
      cases a with
      | tup vs =>
        obtain ⟨hh, hl, h1⟩ := h1
        obtain ⟨ad, xs, kk, rfl, hm, R⟩ := R1.inv
        refine H1.same fun g m hd F N kk => unpackItemsN_ F N ⟨_, H1.list hm, rfl, _, rfl⟩ (ok.hnd hh) (by rw [List.size_toArray, R.1, hl]) fun h' F' N' => ?_
        refine s_storeN ok h1 (ys := xs.reverse) ?_ (kk _ F' N' rfl rfl) fun ρ' s' k H' => hQ.next hs1 k H'
        refine ⟨by rw [List.length_reverse, List.length_reverse, R.1], fun i v x e1 e2 => ?_⟩
        have hi : i < xs.length := by have := (List.getElem?_eq_some_iff.mp e2).1; rwa [List.length_reverse] at this
        rw [List.getElem?_reverse hi] at e2
        rw [List.getElem?_reverse (by rw [← R.1]; exact hi), ← R.1] at e1
        exact R.2 _ v x e1 e2
      | _ => exact h1.elim
  | Subscript o i p =>
    refine wpAny_Assign_Subscript (S.ev hw ok h H (fun n1 v1 a J1 s1 hs1 h1 R1 H1 => ?_) hX) (hs _ _ _)
    refine S.ev hw ok h1 H1 (fun n2 v2 b J2 s2 hs2 h2 R2 H2 => ?_) (hX.mono hs1)
    refine S.ev hw ok h2 H2 (fun n3 v3 d J3 s3 hs3 h3 R3 H3 => ?_) ((hX.mono hs1).mono hs2)
    subst hw
    exact s_set h3 (R2.mono hs3) R3 (R1.mono fun p hp => hs3 p (hs2 p hp)) H3 fun J' s' k H' => hQ.next (fun p hp => hs3 p (hs2 p (hs1 p hp))) k H'
  | _ => exact h.elim
end
end Mine
namespace Mine
section
variable {w : World} {n : Nat} {r : R} {call : CallT} {c : Cx} {news : Led} {ρ : Rho} {J : JS} {s : Shared} {X : KX} {E : Value → Shared → Prop}
theorem s_iter (S : SoundR w n r) (hw : c.w = w) (ok : c.Ok n) (hh : c.fi.hd = false) {t : Expr} {body : List Stmt} {K : KS} {Q : Flow → Shared → Prop} {items : List SV} {sv : SV} {v : Value} (hsm : smallV sv) (hi : itemsV sv = some items) (R : Rep c.jA c.cA news sv v)
    (h : loopV r c.fi t body items ρ J K X) (H : Here c news ρ J s) (hQ : PostS c news K Q) (hX : PostXS c news X E) (hE : PassesOwn (model pg w) c.A c.env E) :
    wpAny (model pg w) c.A (pyIter v) (fun it s2 => codeAny (model pg w) c.A (.forLoop t it body [] c.env) (fun r s' => match r with | .ok f => Q f s' | .error e => cameBackBy (model pg w) c.A c.env E e s') s2) E s := by
  subst hw
  have kp : ∀ (o : Obj) b x, s.heap.get? b = some x → (s.heap.push o).get? b = some x := fun o b x e => Heap.get?_push_of_some _ e
  cases sv with
  | lst vs =>
    cases hi
    obtain ⟨a, xs, k, rfl, hm, R⟩ := R.inv
    have hl := H.isList hm
    have W := Walks.list (prog := pg) (w := c.w) (A := c.A) (ok.hnd hh) s.heap.objs.size a (Nat.ne_of_lt (Heap.lt_size (H.list hm))) xs.toArray
    have hlen : xs.toArray.size = _ := (by simp : xs.toArray.size = xs.length).trans R.1
    rw [hlen] at W
    refine wpAny_pyIter_list hl (s_loop S rfl ok hh W (fun i v hi e => ?_) (fun i h st => ?_) (fun b hb => ?_) h (Here.iter (tk := s.toks) H (Nat.le_refl _) (kp _) (Heap.get?_push_size _ rfl)) ⟨⟨_, Heap.get?_push_size _ rfl, rfl, rfl⟩, hl.at fun o e => kp _ _ _ e⟩ hQ hX hE)
    · have hx : xs[i]? = some v := by simpa using e
      exact ⟨_, List.getElem?_eq_getElem hi, R.2 i _ v (List.getElem?_eq_getElem hi) hx⟩
    · obtain ⟨o, h1, h2, h3⟩ := st.1; exact ⟨o, _, _, h1, h2, h3, by decide⟩
    · rcases List.mem_cons.mp hb with e | hb
      · exact .inl e
      · exact .inr ⟨_, (List.mem_singleton.mp hb) ▸ hm⟩
  | tup vs =>
    cases hi
    obtain ⟨a, xs, k, rfl, hm, R⟩ := R.inv
    have hl : s.heap.IsTuple a xs.toArray := ⟨_, H.list hm, rfl, _, rfl⟩
    have W := Walks.tuple (prog := pg) (w := c.w) (A := c.A) (ok.hnd hh) s.heap.objs.size a (Nat.ne_of_lt (Heap.lt_size (H.list hm))) xs.toArray
    have hlen : xs.toArray.size = _ := (by simp : xs.toArray.size = xs.length).trans R.1
    rw [hlen] at W
    refine wpAny_pyIter_tuple hl (s_loop S rfl ok hh W (fun i v hi e => ?_) (fun i h st => ?_) (fun b hb => ?_) h (Here.iter (tk := s.toks) H (Nat.le_refl _) (kp _) (Heap.get?_push_size _ rfl)) ⟨⟨_, Heap.get?_push_size _ rfl, rfl, rfl⟩, let ⟨o, ho, r⟩ := hl; ⟨o, kp _ _ _ ho, r⟩⟩ hQ hX hE)
    · have hx : xs[i]? = some v := by simpa using e
      exact ⟨_, List.getElem?_eq_getElem hi, R.2 i _ v (List.getElem?_eq_getElem hi) hx⟩
    · obtain ⟨o, h1, h2, h3⟩ := st.1; exact ⟨o, _, _, h1, h2, h3, by decide⟩
    · rcases List.mem_cons.mp hb with e | hb
      · exact .inl e
      · exact .inr ⟨_, (List.mem_singleton.mp hb) ▸ hm⟩
  | rng a b d =>
    cases hi
    obtain ⟨ad, t1, t2, t3, rfl, hm⟩ := R.inv
    have W := Walks.range (prog := pg) (w := c.w) (A := c.A) (ok.hnd hh) s.heap.objs.size a d (Builtin.Range.rangeSize a b d).toNat
    have hlen : ((List.range (Builtin.Range.rangeSize a b d).toNat).map fun i : Nat => SV.int (a + i * d)).length = (Builtin.Range.rangeSize a b d).toNat := by rw [List.length_map, List.length_range]
    rw [← hlen] at W
    refine wpAny_pyIter_range (H.list hm) hsm (s_loop S rfl ok hh W (fun i v hi e => ?_) (fun i h st => ?_) (fun b hb => .inl (List.mem_singleton.mp hb)) h (Here.iter (tk := s.toks) H (Nat.le_refl _) (kp _) (Heap.get?_push_size _ rfl)) ?_ hQ hX hE)
    · obtain ⟨t, rfl⟩ := e
      refine ⟨_, ?_, .int _ t⟩
      rw [hlen] at hi
      rw [List.getElem?_map, List.getElem?_range hi]; rfl
    · exact ⟨_, _, _, st, rfl, rfl, by decide⟩
    · have e : a + ((0 : Nat) : Int) * d = a := by simp
      have e2 : ((Builtin.Range.rangeSize a b d).toNat : Int) - ((0 : Nat) : Int) = Builtin.Range.rangeSize a b d := by have := rangeSize_toNat a b d; omega
      rw [hlen, e, e2]
      exact Heap.get?_push_size _ rfl
  | _ => cases hi
end
end Mine
namespace Mine
section
variable {prog : Program} {w : World} {A : Around} {E : Value → Shared → Prop} {h : Heap} {g : Array GenState} {d : Drawn} {t : Nat} {os : OsState}
variable {nm q : Str} {C N : Addr} {bs bm : List Value} {hdct : Bool} {sn : List Str} {sub : List Value} {ab : Bool} {col : Option Bool} {dd : Option Addr} {k0 k1 k2 k3 k5 : Option Value} {Bn newId inN : String} {bmN : List Value}
theorem x_check (Fn : ExcBaseFacts Bn newId inN bmN) (hcont : (Value.ref C :: bm).contains (.type Bn) = true) {M : Model} {rest : List Value} {Q : Unit → Shared → Prop} (hC : h.get? C = some (excClassObj nm q C N bs bm hdct sn sub ab col dd k0 k1 k2 k3 k5 newId))
    (hq : Q () ⟨h, g, d, t, os⟩) : wpAny M A (checkBuiltinCall newId ⟨.ref C :: rest, []⟩) Q E ⟨h, g, d, t, os⟩ := by
  have hstar := Fn.noStar
  simp only [checkBuiltinCall, Fn.newKind, Fn.newSplit, Fn.newRow]
  repeat (first | refine wpAny_loadPart_at hC ?_ | (refine wpAny_isSubtype_exc hC ?_; rw [hcont]) | refine wpAny_staticBase_exc hC ?_ | refine wpAny_madeBy_exc hC ?_ | simp only [bne_self_eq_false, Bool.false_eq_true, if_false] | wp_step)
  exact hq
theorem x_new (Fn : ExcBaseFacts Bn newId inN bmN) (hcB : (Value.ref C :: bm).contains (.type Bn) = true) (hcA : (Value.ref C :: bm).contains (.type "AttributeError") = false) (hcN : (Value.ref C :: bm).contains (.type "NameError") = false) {R : Result → Shared → Prop}
    {rest : List Value} (hC : h.get? C = some (excClassObj nm q C N bs bm hdct sn sub ab col dd k0 k1 k2 k3 k5 newId))
    (hq : R (.ok (.ret (.ref (h.objs.size + 1)))) ⟨(h.push { cls := .type "tuple", data := .seq rest.toArray }).push
      { cls := .ref C, data := .fields #[.ref h.objs.size, .none, .none, .none, .bool false, .none] }, g, d, t, os⟩) (hrest : rest.length ≤ sizeLine) :
    codeAny (model prog w) A (.builtin newId ⟨.ref C :: rest, []⟩) R ⟨h, g, d, t, os⟩ := by
  have hends := Fn.ends
  refine PySem.codeAny_builtinAt Fn.entry ?_
  unfold Builtin.«BaseException.__new__»
  refine PySem.wpAt_bind ?_
  show PySem.wpAt _ _ _ (stack >>= _) _ _ _
  refine PySem.wpAt_bind (PySem.wpAt_stack fun p below => PySem.wpAt_of_wpAny ?_)
  wp_walk
  refine PySem.wpAt_of_wpAny ?_
  rw [Fn.owner]
  repeat (first | with_reducible refine wpAny_madeHere_exc Fn.canon hC ?_ | with_reducible refine wpAny_loadPart_at hC ?_ | (with_reducible refine wpAny_isSubtype_exc hC ?_; first | rw [hcB] | rw [hcA] | rw [hcN]) | wp_step)
  show R _ _
  rw [Heap.size_push]
  exact hq
/-- the class is called: its `__init__` is a Python function that it has from its own base -/
theorem x_type_call (Fn : ExcBaseFacts Bn newId inN bmN) (hcB : (Value.ref C :: bm).contains (.type Bn) = true) (hcA : (Value.ref C :: bm).contains (.type "AttributeError") = false) (hcN : (Value.ref C :: bm).contains (.type "NameError") = false)
    {rest : List Value} {fI : Addr} {oI : Obj} {Q : Fin → Shared → Prop} (hC : h.get? C = some (excClassObj nm q C N bs bm hdct sn sub ab col dd k0 k1 k2 k3 k5 newId))
    (hi : ∀ h', (∀ b o, h.get? b = some o → h'.get? b = some o) → Looks (model prog w) h' (typeLookup (.ref C) "__init__") (some (.ref fI))) (hfI : h.get? fI = some oI) (hfc : oI.cls = .type "function")
    (hq : ∀ h' e, Heap.MadeExcOf h h' e (.ref C) rest → wpAny (model prog w) A (call (.ref fI) (.ref e :: rest)) (fun r s' => r = .none ∧ Q (.done (.ret (.ref e))) s') E ⟨h', g, d, t, os⟩) (hrest : rest.length ≤ sizeLine) :
    wpAny (model prog w) A (Builtin.«type.__call__» ⟨.ref C :: rest, []⟩) Q E ⟨h, g, d, t, os⟩ := by
  repeat (first | with_reducible refine wpAny_loadPart_at hC ?_ | with_reducible refine wpAny_madeBy_exc hC ?_ | wp_step)
  refine codeAny_call_builtin_code (Code.quiet_builtin _ Fn.quiet) (x_check Fn hcB hC ?_)
  refine x_new Fn hcB hcA hcN hC ?_ hrest
  show wpAny _ _ _ _ _ _
  have hC₁ := Heap.get?_push_of_some { cls := .ref C, data := .fields #[.ref h.objs.size, .none, .none, .none, .bool false, .none] }
    (Heap.get?_push_of_some { cls := .type "tuple", data := .seq rest.toArray } hC)
  have hfI₁ := Heap.get?_push_of_some { cls := .ref C, data := .fields #[.ref h.objs.size, .none, .none, .none, .bool false, .none] }
    (Heap.get?_push_of_some { cls := .type "tuple", data := .seq rest.toArray } hfI)
  have hget : ((h.push { cls := .type "tuple", data := .seq rest.toArray }).push
      { cls := .ref C, data := .fields #[.ref h.objs.size, .none, .none, .none, .bool false, .none] }).get? (h.objs.size + 1) = some
      { cls := .ref C, data := .fields #[.ref h.objs.size, .none, .none, .none, .bool false, .none] } := by heap_get
  have hcC : (Value.ref C :: bm).contains (.ref C) = true := by simp
  unfold isInstance
  repeat (first | with_reducible refine wpAny_loadPart_at hget ?_ | (with_reducible refine wpAny_isSubtype_exc hC₁ ?_; rw [hcC]) | wp_step)
  show wpAny _ _ (typeLookup (.ref C) _) _ _ _
  refine (hi _ fun b o e => Heap.get?_push_of_some _ (Heap.get?_push_of_some _ e)).here ?_
  refine wpAny_holding (wpAny_bind ?_)
  unfold bindSpecial
  refine wpAny_bind (wpAny_typeOf (T := "function") ⟨_, hfI₁, hfc⟩ ?_)
  rw [if_pos (by decide)]
  refine wpAny_pure (wpAny_bind (wpAny_mono (hq _ (h.objs.size + 1) ⟨fun b o hb => Heap.get?_push_of_some _ (Heap.get?_push_of_some _ hb), Heap.get?_none_of_le (Nat.le_succ _), h.objs.size, hget, Heap.get?_none_of_le (Nat.le_refl _), ?_⟩) (fun r s' hr => ?_) fun _ _ x => x))
  · exact Heap.get?_push_of_some _ (Heap.get?_push_at rfl rfl)
  · obtain ⟨rfl, hQ⟩ := hr
    wp_walk
    exact hQ
theorem x_call (Fn : ExcBaseFacts Bn newId inN bmN) (hcB : (Value.ref C :: bm).contains (.type Bn) = true) (hcA : (Value.ref C :: bm).contains (.type "AttributeError") = false) (hcN : (Value.ref C :: bm).contains (.type "NameError") = false)
    {rest : List Value} {fI : Addr} {oI : Obj} {Q : Value → Shared → Prop} (hC : h.get? C = some (excClassObj nm q C N bs bm hdct sn sub ab col dd k0 k1 k2 k3 k5 newId))
    (hi : ∀ h', (∀ b o, h.get? b = some o → h'.get? b = some o) → Looks (model prog w) h' (typeLookup (.ref C) "__init__") (some (.ref fI))) (hfI : h.get? fI = some oI) (hfc : oI.cls = .type "function")
    (hq : ∀ h' e, Heap.MadeExcOf h h' e (.ref C) rest →
      wpAny (model prog w) (A.under (.builtin "type.__call__" ⟨.ref C :: rest, []⟩)) (call (.ref fI) (.ref e :: rest)) (fun r s' => r = .none ∧ Q (.ref e) s') E ⟨h', g, d, t, os⟩) (hrest : rest.length ≤ sizeLine) :
    wpAny (model prog w) A (call (.ref C) rest) Q E ⟨h, g, d, t, os⟩ := by
  have f1 := tc_lookup
  have f2 := tc_bind (.ref C)
  have hT : (⟨h, g, d, t, os⟩ : Shared).TypeIs (.ref C) "type" := ⟨_, hC, rfl⟩
  refine wpAny_call (codeAny_of_tree ?_)
  show wpAny _ _ (callAny (.ref C) _) _ _ _
  repeat (any_goals (first | assumption | with_reducible refine wpAny_loadPart_at hC ?_ | wp_step))
  refine ⟨rfl, ?_⟩
  refine codeAny_call_builtin_at (Code.quiet_builtin _ (by decide +kernel)) entry_typeCall (wpAny_check_type_call_sub hC (x_type_call Fn hcB hcA hcN hC hi hfI hfc (fun h' e hm => ?_) hrest))
  exact hq h' e hm
theorem x_check_sa {B owner : String} {bmB : List Value} {P x : Addr} {o : Obj} {nameV v : Value} {M : Model} {Q : Unit → Shared → Prop} (SF : StoreFacts B bmB "object.__setattr__" owner)
    (hC : h.get? C = some (excClassObj nm q C N bs (.ref P :: bmB) true sn sub ab col dd k0 k1 k2 k3 k5 newId)) (hx : h.get? x = some o) (hc : o.cls = .ref C) (hq : Q () ⟨h, g, d, t, os⟩) :
    wpAny M A (checkBuiltinCall "object.__setattr__" ⟨[.ref x, nameV, v], []⟩) Q E ⟨h, g, d, t, os⟩ := by
  have hcB : (Value.ref C :: .ref P :: bmB).contains (.type owner) = true := by rw [List.contains_cons, List.contains_cons, SF.hasOwner, Bool.or_true, Bool.or_true]
  have ha := SF.args (.ref x) nameV v
  simp only [checkBuiltinCall, SF.kind, SF.split]
  refine wpAny_bind ?_
  · unfold isInstance
    repeat (first | (with_reducible refine wpAny_loadPart_at hx ?_; rw [hc]) | (with_reducible refine wpAny_isSubtype_exc hC ?_; rw [hcB]) | wp_step)
    exact hq
/-- the first store into an exception's attributes -/
theorem x_store {B owner : String} {bmB : List Value} {P x : Addr} {o : Obj} {name : Str} {v : Value} {tk : Tok} {R : Result → Shared → Prop} (SF : StoreFacts B bmB "object.__setattr__" owner)
    (hC : h.get? C = some (excClassObj nm q C N bs (.ref P :: bmB) true sn sub ab col dd k0 k1 k2 k3 k5 newId)) (hl : Looks (model prog w) h (typeLookup (.ref C) name) none)
    (hx : h.get? x = some o) (hc : o.cls = .ref C) (hdn : o.dict = none) (hnc : ∀ c, o.data ≠ .cls c) (hxC : x ≠ C)
    (hq : ∀ h' tk', (∀ b ob, b ≠ x → h.get? b = some ob → h'.get? b = some ob) → h'.get? x = some { cls := o.cls, dict := some h.objs.size, data := o.data, slots := o.slots } → R (.ok (.ret .none)) ⟨h', g, d, tk', os⟩) :
    codeAny (model prog w) A (.call (.builtin "object.__setattr__") ⟨[.ref x, .str name tk, v], []⟩) R ⟨h, g, d, t, os⟩ := by
  refine codeAny_call_builtin SF.slot.plain SF.entry (x_check_sa SF hC hx hc ?_)
  have hpass := SF.passes (.ref x)
  unfold Builtin.«object.__setattr__»
  repeat (first | rw [refuse_eq] | (rw [refuseLoop_ref, refuseLoop_ref, hpass]) | (with_reducible refine wpAny_loadPart_at hx ?_; rw [hc]) | with_reducible refine wpAny_mroOf_exc hC ?_ | (with_reducible refine hl.here ?_) | wp_step)
  rw [hdn, if_neg (by simp [typeHasDict])]
  split
  · rename_i hcd
    cases hcd
  split
  · rename_i c hcd
    exact absurd hcd (hnc c)
  · have hx₁ : (h.push { cls := .type "dict", data := .dict #[] }).get? x = some o := Heap.get?_push_of_some _ hx
    have hxs : x ≠ h.objs.size := Nat.ne_of_lt (Heap.lt_size hx)
    refine wpAny_bind (wpAny_alloc' ?_)
    refine wpAny_bind (wpAny_update' hx₁ ?_)
    refine wpAny_pure ?_
    have hgd : ((h.push { cls := .type "dict", data := .dict #[] }).update x fun o => { cls := o.cls, dict := some h.objs.size, data := o.data, slots := o.slots }).get? h.objs.size
        = some { cls := .type "dict", data := .dict #[] } :=
      (Heap.get?_update_ne _ _ _ _ hxs.symm).trans (Heap.get?_push_at rfl rfl)
    have hnd : ((h.push { cls := .type "dict", data := .dict #[] }).update x fun o => { cls := o.cls, dict := some h.objs.size, data := o.data, slots := o.slots }).Ns h.objs.size (fun _ => none) :=
      ⟨_, #[], _, hgd, rfl, fun e he => absurd he (by simp), fun _ => rfl⟩
    show wpAny _ _ (Builtin.ObjectAttr.storeInDict h.objs.size (.str name tk) name v) _ _ _
    unfold Builtin.ObjectAttr.storeInDict Builtin.ObjectAttr.newKeyGuard
    refine wpAny_bind (wpAny_pure (wpAny_bind (wpAny_nsSet1 (Heap.Ns1.of_empty hnd) fun h' hn' hs => ?_)))
    obtain ⟨oD, esD, epD, hoD, hdD, hcD⟩ := hn'.count (Within.cons name v Within.nil)
    refine wpAny_bind (wpAny_lookBehind hoD (by rw [hdD]; exact pastItsLine_dict (Nat.le_trans hcD (by rw [List.length_cons, List.length_nil, sizeLine_eq]; omega))) ?_)
    wp_walk
    refine hq h' _ (fun b ob hbx hb => ?_) ?_
    · exact (hs.2 b (Nat.ne_of_lt (Heap.lt_size hb))).trans ((Heap.get?_update_ne _ _ _ _ hbx).trans (Heap.get?_push_of_some _ hb))
    · refine (hs.2 x hxs).trans (Heap.get?_update_self _ hx₁ ?_)
      have hfr := (Heap.get?_some_iff.mp hx).2
      obtain ⟨oc, od, odt, osl⟩ := o
      cases odt <;> first | rfl | exact hfr
theorem x_raiseStmt {M : Model} {env : Env} {s : Shared} {x : Sem Value} {Q : Flow → Shared → Prop} (hcB : (Value.ref C :: bm).contains (.type "BaseException") = true) (hh : A.handled = none)
    (h : wpAny M A x (fun v s₁ => ∃ e dx tt sl, v = .ref e ∧ s₁.heap.get? C = some (excClassObj nm q C N bs bm hdct sn sub ab col dd k0 k1 k2 k3 k5 newId) ∧ s₁.heap.get? e = some { cls := .ref C, dict := dx, data := .fields #[.ref tt, .none, .none, .none, .bool false, .none], slots := sl } ∧ E (.ref e) s₁) E s) :
    wpAny M A (raiseStmt env (some x) none) Q E s := by
  unfold raiseStmt
  refine wpAny_bind (wpAny_mono h (fun v s₁ h₁ => ?_) fun _ _ x => x)
  obtain ⟨e, dx, tt, sl, rfl, hC, he, hE⟩ := h₁
  obtain ⟨hp, g, d, tk, os⟩ := s₁
  repeat (first | with_reducible refine wpAny_loadPart_at he ?_ | with_reducible refine wpAny_loadPart_at hC ?_ | (with_reducible refine wpAny_isSubtype_exc hC ?_; rw [hcB]) | wp_step)
  exact wpAny_raiseNew_none hh hE
end
noncomputable def exTail : List Value := [.type "ValueError", .type "Exception", .type "BaseException", .type "object"]
noncomputable def ExAt (w : World) (C : Addr) : Prop := ∃ nm q N bs sn sub ab col dd k0 k1 k2 k3 k5, (kf w).lookup C = some (excClassObj nm q C N bs (.ref 32 :: exTail) true sn sub ab col dd k0 k1 k2 k3 k5 "ValueError.__new__") ∧
  findIn (kf w) (.ref C) "__init__" = some (some (.ref 29)) ∧ findIn (kf w) (.ref C) "__setattr__" = some (some (.builtin "object.__setattr__")) ∧ findIn (kf w) (.ref C) "reason" = some none
theorem ex_of {w : World} {C : Addr} {nm q : Str} {N : Addr} {bs : List Value} {sn : List Str} {sub : List Value} {ab : Bool} {col : Option Bool} {dd : Option Addr} {k0 k1 k2 k3 k5 : Option Value}
    (h1 : (hd.heap_39 w.params).lookup C = some (excClassObj nm q C N bs [.ref 32, .type "ValueError", .type "Exception", .type "BaseException", .type "object"] true sn sub ab col dd k0 k1 k2 k3 k5 "ValueError.__new__"))
    (h2 : findIn (hd.heap_39 w.params) (.ref C) "__init__" = some (some (.ref 29))) (h3 : findIn (hd.heap_39 w.params) (.ref C) "__setattr__" = some (some (.builtin "object.__setattr__"))) (h4 : findIn (hd.heap_39 w.params) (.ref C) "reason" = some none) : ExAt w C :=
  ⟨_, _, _, _, _, _, _, _, _, _, _, _, _, _, h1, h2, h3, h4⟩
theorem ex45 (w : World) : ExAt w 45 := by
  refine' ex_of ?h1 ?h2 ?h3 ?h4
  case h1 => k_dflt k_is
  case h2 => k_dflt k_is
  case h3 => k_dflt k_is
  case h4 => k_dflt k_is
theorem ex57 (w : World) : ExAt w 57 := by
  refine' ex_of ?h1 ?h2 ?h3 ?h4
  case h1 => k_dflt k_is
  case h2 => k_dflt k_is
  case h3 => k_dflt k_is
  case h4 => k_dflt k_is
noncomputable def nSelf : Str := Str.ofString "self"
noncomputable def nReason : Str := Str.ofString "reason"
noncomputable def InitAt (w : World) : Prop := ∃ od name qual params scope dV kV doc pm an cdv ct osl p1 p2 p3 p4, (kf w).lookup 29 = some ⟨.type "function", od, .func (fnOf name qual params [.Assign [.Attribute (.Name nSelf p1) nReason p2] (.Name nReason p3) p4] scope dV kV doc pm an cdv ct), osl⟩ ∧
  codeIn (kf w) cdv qual = true ∧ (∀ s x y, (kf w).In s.heap → BindsTo s (fnOf name qual params [.Assign [.Attribute (.Name nSelf p1) nReason p2] (.Name nReason p3) p4] scope dV kV doc pm an cdv ct) ⟨[x, y], []⟩ [(nSelf, x), (nReason, y)]) ∧
  scopeOk scope ∧ (∀ x ∈ scope.names, x.2 ≠ .cell) ∧ scope.names.lookup nSelf = some .local ∧ scope.names.lookup nReason = some .local
theorem init_of {w : World} {od : Option Addr} {name qual : Str} {params : Arguments} {scope : Scope} {dV kV doc pm cdv ct : Value} {an : Option Addr} {osl : Array (Option Value)} {p1 p2 p3 p4 : Pos}
    (h1 : (hd.heap_39 w.params).lookup 29 = some ⟨.type "function", od, .func (fnOf name qual params [.Assign [.Attribute (.Name (Str.ofString "self") p1) (Str.ofString "reason") p2] (.Name (Str.ofString "reason") p3) p4] scope dV kV doc pm an cdv ct), osl⟩)
    (h2 : codeIn (hd.heap_39 w.params) cdv qual = true) (h3 : ∀ s x y, Frag.In (hd.heap_39 w.params) s.heap → BindsTo s (fnOf name qual params [.Assign [.Attribute (.Name nSelf p1) nReason p2] (.Name nReason p3) p4] scope dV kV doc pm an cdv ct) ⟨[x, y], []⟩ [(nSelf, x), (nReason, y)])
    (h4 : scopeOk scope) (h5 : ∀ x ∈ scope.names, x.2 ≠ .cell) (h6 : scope.names.lookup nSelf = some .local) (h7 : scope.names.lookup nReason = some .local) : InitAt w :=
  ⟨_, _, _, _, _, _, _, _, _, _, _, _, _, _, _, _, _, h1, h2, h3, h4, h5, h6, h7⟩
theorem init29 (w : World) : InitAt w := by
  refine' init_of ?h1 ?h2 ?h3 ?h4 ?h5 ?h6 ?h7
  case h1 => k_dflt k_is
  case h2 => k_dflt k_is
  case h3 =>
    intro s x y X
    first | exact .of_eq rfl | exact binds_K X rfl (by k_dflt k_is) rfl rfl rfl
  case h4 => exact ⟨rfl, rfl, rfl, rfl, rfl⟩
  case h5 => decide
  case h6 => rfl
  case h7 => rfl
theorem x_init {w : World} {A : Around} {E : Value → Shared → Prop} {s : Shared} {C e tt : Addr} {v : Value} {Q : Value → Shared → Prop} (hC45 : ExAt w C) (hroom : A.depth < recursionLimit) (hlim : s.heap.NoLimit) (X : (kf w).In s.heap) (hne : e ≠ C)
    (he : s.heap.get? e = some { cls := .ref C, data := .fields #[.ref tt, .none, .none, .none, .bool false, .none] })
    (hq : ∀ h' tk dx, (∀ b ob, b ≠ e → s.heap.get? b = some ob → h'.get? b = some ob) → h'.get? e = some { cls := .ref C, dict := some dx, data := .fields #[.ref tt, .none, .none, .none, .bool false, .none] } → Q .none { s with heap := h', toks := tk }) :
    wpAny (model pg w) A (PySem.call (.ref 29) [.ref e, v]) Q E s := by
  obtain ⟨od, name, qual, params, scope, dV, kV, doc, pm, an, cdv, ct, osl, p1, p2, p3, p4, ho, hcd, hb, hsc, hcell, l1, l2⟩ := init29 w
  obtain ⟨nm, q, N, bs, sn, sub, ab, col, dd, k0, k1, k2, k3, k5, hCl, hi, hs, hr⟩ := hC45
  refine wpAny_call (codeAny_call_def hroom (X _ _ ho) rfl hlim (codeRec_of X hcd) rfl (hb s _ _ X) hcell (fun y hy => ?_) (fun h₀ hns hk => ?_) hsc.2.1 hsc.2.2.1 hsc.1)
  · rcases List.mem_cons.mp hy with rfl | hy
    · exact l1
    · rw [List.mem_singleton.mp hy]; exact l2
  have he₀ := hk _ _ he
  have X₀ : (kf w).In h₀ := X.keeps hk
  refine wpAny_execs_cons (plainObj_wpAny_Assign_Attribute ?_ rfl)
  refine wpAny_Name (wpAny_loadName_local (v := v) hsc.1 l2 hns (by rfl) ?_) (not_dbg hsc l2)
  refine wpAny_Name (wpAny_loadName_local (v := .ref e) hsc.1 l1 hns (by rfl) ?_) (not_dbg hsc l1)
  refine set_plain (K := kf w) (C := C) (od := none) X₀ ⟨he₀, rfl, rfl, trivial⟩ hs ?_
  refine x_store PySem.F.store_ValueError (X₀ _ _ hCl) (looks_findIn X₀ hr) he₀ rfl rfl (fun c z => nomatch z) hne (fun h' tk' k1 k2 => ?_)
  exact wpAny_execs_nil (hq h' tk' _ (fun b ob hbe hb => k1 b ob hbe (hk b ob hb)) k2)
end Mine
namespace Mine
section
variable {w : World} {n : Nat} {r : R} {call : CallT} {c : Cx} {news : Led} {ρ : Rho} {J : JS} {s : Shared} {X : KX} {E : Value → Shared → Prop}
theorem ns_bad (w : World) : nsIn (hd.heap_39 w.params) mainGlobals (Str.ofString "BadArgument") = some (some (.ref 45)) := by k_dflt k_is
theorem ns_over (w : World) : nsIn (hd.heap_39 w.params) mainGlobals (Str.ofString "Overflow") = some (some (.ref 57)) := by k_dflt k_is
theorem exm_bb (w : World) : exmOne (hd.heap_39 w.params) (.ref 45) (.ref 45) = some true := by kts_exm
theorem exm_bo (w : World) : exmOne (hd.heap_39 w.params) (.ref 45) (.ref 57) = some false := by kts_exm
theorem exm_ob (w : World) : exmOne (hd.heap_39 w.params) (.ref 57) (.ref 45) = some false := by kts_exm
theorem exm_oo (w : World) : exmOne (hd.heap_39 w.params) (.ref 57) (.ref 57) = some true := by kts_exm
theorem excOf_ns {w : World} {x : Str} {D : Addr} (h : excOf x = some D) : nsIn (kf w) mainGlobals x = some (some (.ref D)) := by
  unfold excOf at h
  split at h
  · rename_i e; cases h; rw [e]; exact ns_bad w
  · split at h
    · rename_i e; cases h; rw [e]; exact ns_over w
    · cases h
theorem excOf_one {x : Str} {C : Addr} (h : excOf x = some C) : C = 45 ∨ C = 57 := by
  unfold excOf at h
  split at h
  · cases h; exact .inl rfl
  · split at h
    · cases h; exact .inr rfl
    · cases h
theorem s_raise (ok : c.Ok n) (hh : c.fi.hd = false) {x m : Str} {kk : Nat} {p p2 p3 p4 : Pos} {C : Addr} {Q : Flow → Shared → Prop} (hx : c.fi.cs.names.lookup x = some .globalImplicit) (hC : excOf x = some C) (h : X C J) (H : Here c news ρ J s) (hX : PostXS c news X E) :
    wpAny (model pg c.w) c.A (exec (.Raise (some (.Call (.Name x p) [.Constant (.str m) kk p2] [] p3)) none p4) c.env) Q E s := by
  have hex : ExAt c.w C := by
    rcases excOf_one hC with rfl | rfl
    · exact ex45 _
    · exact ex57 _
  obtain ⟨g, mm, hd, G, F, N, Hi, Rh, Rs⟩ := H
  have Xg : (kf c.w).In g := ok.X.keeps G.B.stays
  have Xs : (kf c.w).In s.heap := Xg.keeps F.keep
  obtain ⟨nm, q, NN, bs, sn, sub, ab, col, dd, k0, k1, k2, k3, k5, hCl, hi, hs, hr⟩ := id hex
  have hCs := Xs _ _ hCl
  rw [arm_exec_Raise]
  simp only [evalOpt, Option.map]
  refine wpAny_bind (wpAny_standAt (x_raiseStmt (C := C) (bm := .ref 32 :: exTail) (nm := nm) (q := q) (N := NN) (bs := bs) (hdct := true) (sn := sn) (sub := sub) (ab := ab) (col := col) (dd := dd) (k0 := k0) (k1 := k1) (k2 := k2) (k3 := k3) (k5 := k5) (newId := "ValueError.__new__") (by rw [List.contains_cons]; simp [exTail]) (ok.hnd hh) ?_))
  refine wpAny_bind (wpAny_mono (Q := fun v s₁ => ∃ e dx tt sl, v = .ref e ∧ s₁.heap.get? C = some (excClassObj nm q C NN bs (.ref 32 :: exTail) true sn sub ab col dd k0 k1 k2 k3 k5 "ValueError.__new__") ∧ s₁.heap.get? e = some { cls := .ref C, dict := dx, data := .fields #[.ref tt, .none, .none, .none, .bool false, .none], slots := sl } ∧ E (.ref e) s₁) ?_ (fun v s₃ h₃ => wpAny_bind (wpAny_standAt (wpAny_pure h₃))) fun _ _ x => x)
  refine Call_ (nameX_K F Xg (topRead_of (ok.T.keeps G.B.stays)) (excOf_ns hC) ?_ ok.sc.1 hx (not_dbg ok.sc hx))
  rw [show backTo p3 (starEach [.Constant (.str m) kk p2] c.env) = [(false, eval (.Constant (.str m) kk p2) c.env)] from rfl]
  refine callWith_of (P := fun h => h.get? C = some (excClassObj nm q C NN bs (.ref 32 :: exTail) true sn sub ab col dd k0 k1 k2 k3 k5 "ValueError.__new__")) rfl (fun h hP => ⟨.machine, .inr (.inl rfl), fun A Q E s k q => wpAny_keeperOf_exc (k _ _ hP) q⟩) ?_
  refine evalArgs_plain (Calls.spliced_cons (wpAny_Constant_str (Calls.spliced_nil ⟨hCs, ?_⟩)))
  have hlim : s.heap.NoLimit := ((ok.T.keeps G.B.stays).nolimit).keeps F.keep
  obtain ⟨od, name, qual, params, scope, dV, kV, doc, pm, an, cdv, ct, osl, _, _, _, _, ho, _⟩ := init29 c.w
  refine x_call (bm := .ref 32 :: exTail) PySem.F.excBase_ValueError (by rw [List.contains_cons]; simp [exTail]) (by simp [exTail]) (by simp [exTail]) hCs (fun h' k => looks_findIn (Xs.keeps k) hi) (Xs _ _ ho) rfl (fun h' e hm => ?_) (by rw [sizeLine_eq]; exact Nat.le_of_ble_eq_true rfl)
  obtain ⟨hkeep, hnew, tt, he, htn, htt⟩ := hm
  have hne : ∀ b o, s.heap.get? b = some o → b ≠ e := fun b o e1 e2 => by rw [e2, show s.heap.get? e = none from hnew] at e1; cases e1
  refine x_init (tt := tt) hex (by have := ok.dep; rw [depth_under_make]; omega) (hlim.keeps hkeep) (Xs.keeps hkeep) (hne C _ hCs).symm he (fun h2 tk dx k1 k2 => ⟨rfl, ?_⟩)
  refine ⟨e, some dx, tt, #[], rfl, k1 _ _ (hne C _ hCs) (hkeep _ _ hCs), k2, ?_⟩
  refine hX _ _ _ _ _ (fun _ h => h) h ⟨g, mm, hd, G, Hi, (fun _ _ z => nomatch z), Rs, .inl ⟨s.heap, F, N, fun b o e1 => k1 b o (hne b o e1) (hkeep b o e1), hnew, _, _, tt, _, k2, rfl, rfl, rfl, rfl, htn, ⟨_, 0, k1 _ _ (fun z => ?_) htt, rfl, rfl⟩⟩⟩
  rw [z, he] at htt
  cases htt
theorem s_ktest (ok : c.Ok n) {x : Str} {np : Pos} {C D : Addr} (hk : c.fi.cs.names.lookup x = some .globalImplicit) (hD : excOf x = some D) (hC : C = 45 ∨ C = 57) :
    KtsTest pg c.w (kf c.w) c.p c.loose c.mg c.mb c.fi.cn c.fi.cs c.L c.a c.ccd (.ref C) (.Name x np) (decide (C = D)) := by
  refine test_name (.inl (excOf_ns hD)) ?_ ok.sc.1 hk (not_dbg ok.sc hk)
  rcases hC with rfl | rfl <;> rcases excOf_one hD with rfl | rfl
  · exact exm_bb c.w
  · exact exm_bo c.w
  · exact exm_ob c.w
  · exact exm_oo c.w
/-- the frame with the handler's mark -/
noncomputable abbrev Cx.marked (c : Cx) (e : Addr) : Cx := { c with A := c.A.mark (some (.ref e)), fi := { c.fi with hd := true } }
theorem mark_depth (A : Around) (h : Option Value) : (A.mark h).depth = A.depth := rfl
theorem Cx.Ok.marked (ok : c.Ok n) (e : Addr) : (c.marked e).Ok n where
  fr := ok.fr
  sc := ok.sc
  hnd := fun z => nomatch z
  up := fun z => nomatch z
  dep := by have h := ok.dep; rw [← mark_depth c.A (some (.ref e))] at h; exact h
  uni := by have h := ok.uni; rw [← Around.mark_units c.A (some (.ref e))] at h; exact h
  nocl := ok.nocl
  X := ok.X
  T := ok.T
  cd1 := ok.cd1
  cd2 := ok.cd2
  mk1 := ok.mk1
  mk2 := ok.mk2
theorem Here.unmark {e : Addr} (H : Here (c.marked e) news ρ J s) : Here c news ρ J s := by
  obtain ⟨g, m, hd, G, F, N, Hi, Rh, Rs⟩ := H
  exact ⟨g, m, hd, ⟨G.B, G.T0, G.D⟩, F, N, Hi, Rh, Rs⟩
theorem Cx.env_of (h : c.cl = []) : c.env = envOf c.fi.cn c.fi.cs c.L c.a c.ccd := by rw [Cx.env, h]; rfl
/-- the handlers of a frame that has no cells, for an exception that came from a callee -/
theorem s_hands (S : SoundR c.w n r) (ok : c.Ok n) (hh : c.fi.hd = false) (hcl : c.fi.cells = false) {C e : Addr} {K : KS} {Q : Flow → Shared → Prop} (hQ : PostS c news K Q) {hs : List ExceptHandler} (h : HandV r c.fi C ρ J K hs) : ∀ {s : Shared}, FlyR c news ρ J C e s →
    wpAny (model pg c.w) c.A (handleBy (.ref e) c.env hs) Q (fun _ _ => False) s := by
  have up := ok.up hh
  have hN := Cx.env_of (ok.nocl hcl)
  rw [hN] at up ⊢
  rw [up]
  induction h with
  | hit hk hD h1 =>
    intro s hF
    obtain ⟨g, m, hdl, G, Hi, Rh, Rs, G', t, vs, F, R, U⟩ := hF
    rw [hN] at R
    rename_i np _ _ _ _
    have T := s_ktest (np := np) ok hk hD (excOf_one hD)
    rw [decide_eq_true rfl] at T
    refine hit_S0 R F G.B U ok.X ok.T G.D G.T0 T (fun h' g' news₂ T0' F' _ _ N' B' X' Tp' D' => ?_) PassesOwnAt.never
    rw [← up, ← hN]
    refine S.st (c := c.marked e) rfl (ok.marked e) h1 (news := news) ⟨g', m, hdl, ⟨B', T0', D'⟩, F', N', Hi, Rh, Rs⟩ (fun n2 f fl ρ2 J2 s2 hs2 k2 hf H2 => ?_) (fun _ _ _ _ _ _ z => z.elim) PassesOwn.never
    cases hf with
    | ret hr => exact hQ _ _ _ _ _ _ hs2 k2 (.ret hr) H2.unmark
    | _ => exact k2.elim
  | pass hk hD hne hC h2 ih =>
    intro s hF
    obtain ⟨g, m, hdl, G, Hi, Rh, Rs, G', t, vs, F, R, U⟩ := hF
    rw [hN] at R
    rename_i np _ _ _ _
    have T := s_ktest (np := np) ok hk hD hC
    rw [decide_eq_false hne] at T
    refine pass_S R F G.B U ok.X ok.T G.D T fun h' R' U' => ?_
    exact ih ⟨g, m, hdl, G, Hi, Rh, Rs, G', t, vs, F, hN ▸ R', U'⟩
theorem PostS.mono {l l' : Led} {K : KS} {Q : Flow → Shared → Prop} (h : ∀ p ∈ l, p ∈ l') (x : PostS c l K Q) : PostS c l' K Q := fun n f fl ρ J s hs => x n f fl ρ J s fun p hp => hs p (h p hp)
theorem s_flies (S : SoundR c.w n r) (ok : c.Ok n) (hh : c.fi.hd = false) (hcl : c.fi.cells = false) {K : KS} {Q : Flow → Shared → Prop} {hs : List ExceptHandler} (hQ : PostS c news K Q) :
    PostX c news ρ (fun C J => HandV r c.fi C ρ J K hs) (fun e s₁ => wpAny (model pg c.w) c.A (noteFrame e c.env) (fun _ s₂ => wpAny (model pg c.w) c.A (setFlight e none) (fun _ s₃ => wpAny (model pg c.w) c.A (handleBy e c.env hs) Q E s₃) E s₂) E s₁) := fun n1 C e J' s' hs1 hH hF => by
  have up := ok.up hh
  have hN := Cx.env_of (ok.nocl hcl)
  obtain ⟨g, m, hdl, G, Hi, Rh, Rs, G', t, vs, F, R, U⟩ := hF
  rw [hN] at R up ⊢
  rw [up]
  refine kts_lookS R F G.B U G.D fun h' R' U' => ?_
  rw [← up, ← hN]
  exact wpAny_mono (s_hands S ok hh hcl (hQ.mono hs1) hH ⟨g, m, hdl, G, Hi, Rh, Rs, G', t, vs, F, hN ▸ R', U'⟩) (fun _ _ x => x) fun _ _ z => z.elim
theorem s_stmt (S : SoundR c.w n r) (ok : c.Ok n) {st : Stmt} {K : KS} {Q : Flow → Shared → Prop} (h : StmtV r c.fi ρ J K X st) (H : Here c news ρ J s) (hQ : PostS c news K Q) (hX : PostXS c news X E) (hE : PassesOwn (model pg c.w) c.A c.env E) :
    wpAny (model pg c.w) c.A (exec st c.env) Q E s := by
  have hx0 : PostX c news ρ X E := hX.ev fun _ h => h
  cases h with
  | ret h => exact wpAny_Return_some (S.ev rfl ok h H (fun n1 v1 a J1 s1 hs1 h1 R1 H1 => hQ _ _ _ _ _ _ hs1 h1 (.ret R1) H1) hx0)
  | assign hs h => exact s_assign S rfl ok hs h H hQ hx0
  | aug hr hl h =>
    refine wpAny_AugAssign_Name ?_
    obtain ⟨g, m, hd, G, F, N, Hi, Rh, Rs⟩ := id H
    rcases Rh _ _ hr with ⟨_, v, hv, R1⟩ | ⟨hl' | hl', _⟩
    · refine wpAny_loadName_local ok.sc.1 hl F.ns hv ?_
      refine S.ev rfl ok h H (fun n2 v2 b J2 s2 hs2 h2 R2 H2 => ?_) hx0
      obtain ⟨j, rfl, h2⟩ := h2
      obtain ⟨t1, rfl⟩ := R1.int_inv; obtain ⟨t2, rfl⟩ := R2.int_inv
      exact iadd_int (s_store ok h2 (.int _ _) H2 fun ρ' s' k H' => hQ.next hs2 k H')
    · rw [hl] at hl'; cases hl'
    · rw [hl] at hl'; cases hl'
  | ite h =>
    refine wpAny_If (S.ts rfl ok h H (fun n1 b J1 s1 hs1 h1 H1 => ?_) hx0)
    cases b with
    | true => exact S.st rfl ok (h1.1 rfl) H1 (hQ.mono hs1) (hX.mono hs1) hE
    | false => exact S.st rfl ok (h1.2 rfl) H1 (hQ.mono hs1) (hX.mono hs1) hE
  | loop hh hf h =>
    refine wpAny_For (S.ev rfl ok h H (fun n1 v1 a J1 s1 hs1 h1 R1 H1 => ?_) hx0) (fun x => hf _ x)
    obtain ⟨hsm, items, hi, h1⟩ := h1
    exact s_iter S rfl ok hh hsm hi R1 h1 H1 (hQ.mono hs1) (hX.mono hs1) hE
  | brk h => exact wpAny_Break (hQ _ _ _ _ _ _ (fun _ h => h) h .brk H)
  | raise hh hx hC h => exact s_raise ok hh hx hC h H hX
  | tryA hh hcl hs h =>
    refine wpAny_Try_except (wpAny_execs_cons (s_assign S rfl ok hs h H (fun n1 f fl ρ1 J1 s1 hs1 k hf H1 => ?_) (s_flies S ok hh hcl hQ)))
    cases hf with
    | next => exact wpAny_execs_nil (wpAny_execs_nil (hQ _ _ _ _ _ _ hs1 k .next H1))
    | brk => exact hQ _ _ _ _ _ _ hs1 k .brk H1
    | cont => exact hQ _ _ _ _ _ _ hs1 k .cont H1
    | ret hr => exact hQ _ _ _ _ _ _ hs1 k (.ret hr) H1
  | tryE hh hcl hs h =>
    refine wpAny_Try_except (wpAny_execs_cons (wpAny_Expr_any (S.ev rfl ok h H (fun n1 v1 a J1 s1 hs1 h1 R1 H1 => ?_) (s_flies S ok hh hcl hQ)) ?_ (hs _ _ _)))
    · exact wpAny_execs_nil (wpAny_execs_nil (hQ _ _ _ _ _ _ hs1 h1 .next H1))
    · show (c.fi.cs.kind == .module && _) = false
      rw [ok.sc.1]; rfl
theorem s_st (S : SoundR c.w n r) (ok : c.Ok n) {b : List Stmt} {K : KS} {Q : Flow → Shared → Prop} (h : stepSt r c.fi b ρ J K X) (H : Here c news ρ J s) (hQ : PostS c news K Q) (hX : PostXS c news X E) (hE : PassesOwn (model pg c.w) c.A c.env E) :
    wpAny (model pg c.w) c.A (execs b c.env) Q E s := by
  cases b with
  | nil => exact wpAny_execs_nil (hQ _ _ _ _ _ _ (fun _ h => h) h .next H)
  | cons st rest =>
    refine wpAny_execs_cons (s_stmt S ok h H (fun n1 f fl ρ1 J1 s1 hs1 k hf H1 => ?_) hX hE)
    cases hf with
    | next => exact S.st rfl ok k H1 (hQ.mono hs1) (hX.mono hs1) hE
    | brk => exact hQ _ _ _ _ _ _ hs1 k .brk H1
    | cont => exact hQ _ _ _ _ _ _ hs1 k .cont H1
    | ret hr => exact hQ _ _ _ _ _ _ hs1 k (.ret hr) H1
end
end Mine
namespace Mine
noncomputable def frees : List (Str × NameKind) → List Str → List Str
  | [], acc => acc
  | (n, k) :: r, acc => frees r (if (k == NameKind.free) = true then n :: acc else acc)
noncomputable def lamV (fi : FI) (params : Arguments) (body : Expr) (scope : Scope) (ρ : Rho) (K : SV → Prop) : Prop :=
  (fi.lam = 1 ∨ fi.lam = 2) ∧ (∀ env, defaultsOf params env = ([], [])) ∧ ∃ fv : Rho, frees scope.names [] = fv.map (·.1) ∧ (∀ p ∈ fv, ρ.lookup p.1 = some p.2 ∧ fi.cs.names.lookup p.1 = some .cell) ∧ K (.clo (qLam fi.cn) params body scope fv)
theorem triples_snoc {l : List Value} (h : TriplesOk l) (a b : Int) (c : Value) : TriplesOk (l ++ [rawInt a, rawInt b, c]) := by
  fun_induction TriplesOk l with
  | case1 => exact trivial
  | case2 a t b u x rest ih => exact ih h
  | case3 l h1 h2 => exact h.elim
theorem among_snoc {l : List Value} (h : TriplesOk l) {a b : Int} {c v : Value} {pos : Pos} (e : codeAmong pos (l ++ [rawInt a, rawInt b, c]) = some v) : codeAmong pos l = some v ∨ v = c := by
  fun_induction TriplesOk l with
  | case1 =>
    simp only [List.nil_append, codeAmong, rawInt] at e
    split at e
    · cases e; exact .inr rfl
    · cases e
  | case2 a t b u x rest ih =>
    simp only [List.cons_append, codeAmong] at e ⊢
    split at e
    · rename_i q; rw [if_pos q]; exact .inl e
    · rename_i q; rw [if_neg q]; exact ih h e
  | case3 l h1 h2 => exact h.elim
theorem updF_at {P : Addr} {o : Obj} : ∀ {pre rest : Led}, (∀ p ∈ pre, p.1 ≠ P) → (∀ p ∈ rest, p.1 ≠ P) → UpdF P o (pre ++ (P, o) :: rest) (fun o' => pre ++ (P, o') :: rest)
  | [], _, _, h2 => .head h2
  | p :: pre, _, h1, h2 => .tail (h1 p (.head _)) (updF_at (fun q hq => h1 q (.tail _ hq)) h2)
theorem closure_go {env : Env} {cs : List (Str × Addr)} : ∀ {names : List (Str × NameKind)} {acc : List (Str × Addr)}, frees names (acc.map (·.1)) = cs.map (·.1) → (∀ p ∈ cs, env.cells.lookup p.1 = some p.2) → (∀ p ∈ acc, env.cells.lookup p.1 = some p.2) →
    (forIn names acc (fun (x : Str × NameKind) c => match x with | (name, kind) => if (kind == NameKind.free) = true then do let a ← cellOf env name; pure (ForInStep.yield ((name, a) :: c)) else pure (ForInStep.yield c)) : Sem (List (Str × Addr))) = pure cs
  | [], acc, e, h1, h2 => by
    simp only [List.forIn_nil]
    have : ∀ (l r : List (Str × Addr)), l.map (·.1) = r.map (·.1) → (∀ p ∈ l, env.cells.lookup p.1 = some p.2) → (∀ p ∈ r, env.cells.lookup p.1 = some p.2) → l = r := by
      intro l
      induction l with
      | nil => intro r e _ _; cases r with | nil => rfl | cons _ _ => cases e
      | cons p l ih =>
        intro r e k1 k2
        cases r with
        | nil => cases e
        | cons q r =>
          injection e with e1 e2
          have a1 := k1 p (.head _)
          have a2 := k2 q (.head _)
          simp only at e1
          rw [e1, a2] at a1
          rw [ih r e2 (fun x hx => k1 x (.tail _ hx)) fun x hx => k2 x (.tail _ hx)]
          congr 1
          exact Prod.ext e1 (Option.some.inj a1).symm
    rw [this acc cs e h2 h1]
  | (n, k) :: r, acc, e, h1, h2 => by
    rw [List.forIn_cons]
    unfold frees at e
    by_cases q : (k == NameKind.free) = true
    · rw [if_pos q] at e
      simp only [if_pos q]
      have : ∃ a, env.cells.lookup n = some a := by
        have mem : ∀ (l : List (Str × NameKind)) (acc : List Str), n ∈ acc → n ∈ frees l acc := by
          intro l
          induction l with
          | nil => intro acc h; exact h
          | cons x l ih => intro acc h; obtain ⟨y, k⟩ := x; unfold frees; exact ih _ (by split; exact .tail _ h; exact h)
        have m1 : n ∈ cs.map (·.1) := e ▸ mem r _ (.head _)
        obtain ⟨p, hp, rfl⟩ := List.mem_map.mp m1
        exact ⟨_, h1 p hp⟩
      obtain ⟨a, ha⟩ := this
      unfold cellOf
      rw [ha]
      simp only [pure_bind]
      exact closure_go (acc := (n, a) :: acc) e h1 fun p hp => by
        rcases List.mem_cons.mp hp with rfl | hp
        · exact ha
        · exact h2 p hp
    · rw [if_neg q] at e
      simp only [if_neg q, pure_bind]
      exact closure_go e h1 h2
theorem closure_eq {env : Env} {scope : Scope} {cs : List (Str × Addr)} (e : frees scope.names [] = cs.map (·.1)) (h : ∀ p ∈ cs, env.cells.lookup p.1 = some p.2) : closureFor scope env = pure cs := by
  unfold closureFor
  have := closure_go (env := env) (cs := cs) (names := scope.names) (acc := []) e h (fun _ q => nomatch q)
  show (forIn _ _ _ >>= _) = _
  rw [this]
  rfl
section
variable {w : World} {n : Nat} {r : R} {call : CallT} {c : Cx} {news : Led} {ρ : Rho} {J : JS} {s : Shared} {X : KX} {E : Value → Shared → Prop}
/-- the closure's cells, out of the frame's -/
theorem fv_cells {m : Str → Option Value} (Rh : RhoIs c m news ρ) : ∀ {fv : Rho}, (∀ p ∈ fv, ρ.lookup p.1 = some p.2 ∧ c.fi.cs.names.lookup p.1 = some .cell) →
    ∃ (cs : List (Str × Addr)) (xs : List Value), cs.map (·.1) = fv.map (·.1) ∧ xs.length = fv.length ∧ (∀ p ∈ cs, c.cl.lookup p.1 = some p.2) ∧
      (∀ (i : Nat) (n : Str) (a : Addr) (x : Value), cs[i]? = some (n, a) → xs[i]? = some x → ∃ o, (a, o) ∈ news ∧ o.data = .cell (some x)) ∧ (∀ (i : Nat) n v x, fv[i]? = some (n, v) → xs[i]? = some x → Rep c.jA c.cA news v x)
  | [], _ => ⟨[], [], rfl, rfl, fun _ h => (nomatch h), fun i _ _ _ e => by simp at e, fun i _ _ _ e => by simp at e⟩
  | (y, sv) :: fv, h => by
    obtain ⟨cs, xs, h1, h2, h3, h4, h5⟩ := fv_cells Rh fun p hp => h p (.tail _ hp)
    obtain ⟨k1, k2⟩ := h (y, sv) (.head _)
    rcases Rh _ _ k1 with ⟨q, _⟩ | ⟨_, a, o, v, q1, q2, q3, q4⟩
    · rw [k2] at q; cases q
    · refine ⟨(y, a) :: cs, v :: xs, by rw [List.map_cons, List.map_cons, h1], congrArg (· + 1) h2, fun p hp => ?_, fun i n a' x e1 e2 => ?_, fun i n v' x e1 e2 => ?_⟩
      · rcases List.mem_cons.mp hp with rfl | hp
        · exact q1
        · exact h3 p hp
      · cases i with
        | zero => cases e1; cases e2; exact ⟨o, q2, q3⟩
        | succ i => exact h4 i n a' x e1 e2
      · cases i with
        | zero => cases e1; cases e2; exact q4
        | succ i => exact h5 i n v' x e1 e2
theorem s_lam_at (ok : c.Ok n) {params : Arguments} {body : Expr} {scope : Scope} {pos : Pos} {fv : Rho} {K : KV} {Q : Value → Shared → Prop} {cc P : Addr} {g : Heap} {m : Str → Option Value} {pre post : Led} {ps : Array Value}
    (G : Gr c g) (F : Fr g c.L s.heap m) (N : News g c.L s.heap ((pre ++ (P, tabObj ps) :: post) ++ news)) (Rh : RhoIs c m news ρ) (Rs : Rest c s) (C : CodeHd c.base cc P) (hcd : c.ccd = .ref cc) (TG : TabGood (qLam c.fi.cn) ps news)
    (h1 : ∀ p ∈ pre, p.1 ≠ P) (h2 : ∀ p ∈ post ++ news, p.1 ≠ P)
    (hH : ∀ ps' news', (∀ p ∈ news, p ∈ news') → TabGood (qLam c.fi.cn) ps' news' → (∀ p ∈ news', ∀ q ∈ pre ++ (P, tabObj ps) :: post, p.1 ≠ q.1) → Hid c.its c.jA c.cA J (pre ++ (P, tabObj ps') :: post) news')
    (hap : ∀ p ∈ news, ∀ q ∈ pre ++ (P, tabObj ps) :: post, p.1 ≠ q.1)
    (hdef : ∀ env, defaultsOf params env = ([], [])) (hf : frees scope.names [] = fv.map (·.1)) (hfv : ∀ p ∈ fv, ρ.lookup p.1 = some p.2 ∧ c.fi.cs.names.lookup p.1 = some .cell) (h : K (.clo (qLam c.fi.cn) params body scope fv) J) (hQ : PostE c news ρ K Q) :
    wpAny (model pg c.w) c.A (eval (.Lambda params body scope pos) c.env) Q E s := by
  obtain ⟨cs, xs, c1, c2, c3, c4, c5⟩ := fv_cells Rh hfv
  have Tg := ok.T.keeps G.B.stays
  have Cg := C.keeps G.B.stays
  have hcl : closureFor scope (envX c.fi.cn c.fi.cs c.L c.a c.ccd c.cl) = pure cs := closure_eq (hf.trans c1.symm) c3
  refine kla_eval (hdef _) ?_
  cases q : codeAmong pos ps.toList with
  | none =>
    have U : UpdF P (tabObj ps) ((pre ++ (P, tabObj ps) :: post) ++ news) (fun o' => pre ++ (P, o') :: (post ++ news)) := by
      rw [List.append_assoc]; exact updF_at h1 h2
    refine kla_nest (p := c.p) (loose := c.loose) (mean := c.mean) (mb := c.mb) F N Tg Cg hcd U TG.1 q hcl fun f c' oc vs t ctv h' tk F' N' d1 d2 l1 l2 => ?_
    have sub : ∀ p ∈ news, p ∈ (f, kla_obj "<lambda>" (qLam c.fi.cn) params body scope cs ((c.mg "__name__").getD .none) c' ctv) :: (c', oc) :: news := fun p hp => .tail _ (.tail _ hp)
    refine hQ _ _ _ _ _ sub h ?_ ⟨g, m, pre ++ (P, tabObj (ps ++ #[rawInt pos.line, rawInt pos.col, .ref c'])) :: post, G, F', fun p hp => N' p ?_, hH _ _ sub ⟨?_, ?_⟩ ?_, Rh.mono sub, Rs⟩
    · exact .clo (.head _) (.tail _ (.head _)) d1 d2 c2 c1 (fun i n a x e1 e2 => let ⟨o, k1, k2⟩ := c4 i n a x e1 e2; ⟨o, sub _ k1, k2⟩) fun i n v x e1 e2 => (c5 i n v x e1 e2).mono sub
    · rcases List.mem_append.mp hp with hp | hp
      · refine .tail _ (.tail _ ?_)
        rcases List.mem_append.mp hp with hp | hp
        · exact List.mem_append_left _ hp
        · rcases List.mem_cons.mp hp with rfl | hp
          · exact List.mem_append_right _ (.head _)
          · exact List.mem_append_right _ (.tail _ (List.mem_append_left _ hp))
      · rcases List.mem_cons.mp hp with rfl | hp
        · exact .head _
        · rcases List.mem_cons.mp hp with rfl | hp
          · exact .tail _ (.head _)
          · exact .tail _ (.tail _ (List.mem_append_right _ (.tail _ (List.mem_append_right _ hp))))
    · rw [Array.toList_append]; exact triples_snoc TG.1 _ _ _
    · intro pos' v e
      rw [Array.toList_append] at e
      rcases among_snoc TG.1 e with e | rfl
      · obtain ⟨c₂, oc₂, vs₂, t₂, k1, k2, k3, k4⟩ := TG.2 pos' v e
        exact ⟨c₂, oc₂, vs₂, t₂, k1, sub _ k2, k3, k4⟩
      · exact ⟨c', oc, vs, t, rfl, .tail _ (.head _), d1, d2⟩
    · intro p hp q hq
      have l1' : q.1 < c' := l1 q (List.mem_append_left _ hq)
      rcases List.mem_cons.mp hp with rfl | hp
      · exact Nat.ne_of_gt (Nat.lt_trans l1' l2)
      · rcases List.mem_cons.mp hp with rfl | hp
        · exact Nat.ne_of_gt l1'
        · exact hap p hp q hq
  | some v =>
    obtain ⟨c', oc, vs, t, rfl, k2, d1, d2⟩ := TG.2 pos v q
    refine kla_hit (p := c.p) (loose := c.loose) (mean := c.mean) (mb := c.mb) (P := P) (ps := ps) F N Tg Cg hcd (List.mem_append_left _ (List.mem_append_right _ (.head _))) TG.1 q hcl fun f ctv h' tk F' N' l1 => ?_
    have sub : ∀ p ∈ news, p ∈ (f, kla_obj "<lambda>" (qLam c.fi.cn) params body scope cs ((c.mg "__name__").getD .none) c' ctv) :: news := fun p hp => .tail _ hp
    refine hQ _ _ _ _ _ sub h ?_ ⟨g, m, pre ++ (P, tabObj ps) :: post, G, F', fun p hp => N' p ?_, hH _ _ sub (TG.mono sub) ?_, Rh.mono sub, Rs⟩
    · exact .clo (.head _) (.tail _ k2) d1 d2 c2 c1 (fun i n a x e1 e2 => let ⟨o, k1, k2⟩ := c4 i n a x e1 e2; ⟨o, sub _ k1, k2⟩) fun i n v x e1 e2 => (c5 i n v x e1 e2).mono sub
    · rcases List.mem_append.mp hp with hp | hp
      · exact .tail _ (List.mem_append_left _ hp)
      · rcases List.mem_cons.mp hp with rfl | hp
        · exact .head _
        · exact .tail _ (List.mem_append_right _ hp)
    · intro p hp q hq
      rcases List.mem_cons.mp hp with rfl | hp
      · exact Nat.ne_of_gt (l1 q (List.mem_append_left _ hq))
      · exact hap p hp q hq
theorem s_lam (ok : c.Ok n) {params : Arguments} {body : Expr} {scope : Scope} {pos : Pos} {K : KV} {Q : Value → Shared → Prop} (h : lamV c.fi params body scope ρ (K · J)) (H : Here c news ρ J s) (hQ : PostE c news ρ K Q) :
    wpAny (model pg c.w) c.A (eval (.Lambda params body scope pos) c.env) Q E s := by
  obtain ⟨hl, hdef, fv, hf, hfv, h⟩ := h
  obtain ⟨g, m, hd, G, F, N, Hi, Rh, Rs⟩ := H
  obtain ⟨oj, oc, t1, t2, vs, ps1, ps2, rfl, lj, lc, I, g1, g2, pw, ap⟩ := id Hi
  have pw1 := List.pairwise_cons.mp pw
  have pw2 := List.pairwise_cons.mp pw1.2
  have pw3 := List.pairwise_cons.mp pw2.2
  have pw4 := List.pairwise_cons.mp pw3.2
  rcases hl with hl | hl
  · obtain ⟨hcd, hcn⟩ := ok.mk1 hl
    refine s_lam_at (pre := [(c.jA, oj), (c.cA, oc)]) (post := (220, tabObj ps2) :: c.its) ok G F N Rh Rs ok.cd1 hcd (hcn ▸ g1) (fun p hp => ?_) (fun p hp => ?_) (fun ps' news' sub TG apn => ?_) ap hdef hf hfv h hQ
    · rcases List.mem_cons.mp hp with rfl | hp
      · exact pw1.1 (267, tabObj ps1) (.tail _ (.head _))
      · rw [List.mem_singleton.mp hp]; exact pw2.1 (267, tabObj ps1) (.head _)
    · rcases List.mem_append.mp hp with hp | hp
      · exact (pw3.1 p hp).symm
      · exact ap p hp (267, tabObj ps1) (.tail _ (.tail _ (.head _)))
    · refine ⟨oj, oc, t1, t2, vs, ps', ps2, rfl, lj, lc, I, hcn ▸ TG, g2.mono sub, ?_, fun p hp q hq => ?_⟩
      · refine List.pairwise_cons.mpr ⟨fun q hq => ?_, List.pairwise_cons.mpr ⟨fun q hq => ?_, List.pairwise_cons.mpr ⟨fun q hq => ?_, pw3.2⟩⟩⟩
        · rcases List.mem_cons.mp hq with rfl | hq
          · exact pw1.1 (c.cA, oc) (.head _)
          rcases List.mem_cons.mp hq with rfl | hq
          · exact pw1.1 (267, tabObj ps1) (.tail _ (.head _))
          · exact pw1.1 q (.tail _ (.tail _ hq))
        · rcases List.mem_cons.mp hq with rfl | hq
          · exact pw2.1 (267, tabObj ps1) (.head _)
          · exact pw2.1 q (.tail _ hq)
        · exact pw3.1 q hq
      · rcases List.mem_cons.mp hq with rfl | hq
        · exact apn p hp (c.jA, oj) (.head _)
        rcases List.mem_cons.mp hq with rfl | hq
        · exact apn p hp (c.cA, oc) (.tail _ (.head _))
        rcases List.mem_cons.mp hq with rfl | hq
        · exact apn p hp (267, tabObj ps1) (.tail _ (.tail _ (.head _)))
        · exact apn p hp q (.tail _ (.tail _ (.tail _ hq)))
  · obtain ⟨hcd, hcn⟩ := ok.mk2 hl
    refine s_lam_at (pre := [(c.jA, oj), (c.cA, oc), (267, tabObj ps1)]) (post := c.its) ok G F N Rh Rs ok.cd2 hcd (hcn ▸ g2) (fun p hp => ?_) (fun p hp => ?_) (fun ps' news' sub TG apn => ?_) ap hdef hf hfv h hQ
    · rcases List.mem_cons.mp hp with rfl | hp
      · exact pw1.1 (220, tabObj ps2) (.tail _ (.tail _ (.head _)))
      rcases List.mem_cons.mp hp with rfl | hp
      · exact pw2.1 (220, tabObj ps2) (.tail _ (.head _))
      · rw [List.mem_singleton.mp hp]; exact pw3.1 (220, tabObj ps2) (.head _)
    · rcases List.mem_append.mp hp with hp | hp
      · exact (pw4.1 p hp).symm
      · exact ap p hp (220, tabObj ps2) (.tail _ (.tail _ (.tail _ (.head _))))
    · refine ⟨oj, oc, t1, t2, vs, ps1, ps', rfl, lj, lc, I, g1.mono sub, hcn ▸ TG, ?_, fun p hp q hq => ?_⟩
      · refine List.pairwise_cons.mpr ⟨fun q hq => ?_, List.pairwise_cons.mpr ⟨fun q hq => ?_, List.pairwise_cons.mpr ⟨fun q hq => ?_, List.pairwise_cons.mpr ⟨pw4.1, pw4.2⟩⟩⟩⟩
        · rcases List.mem_cons.mp hq with rfl | hq
          · exact pw1.1 (c.cA, oc) (.head _)
          rcases List.mem_cons.mp hq with rfl | hq
          · exact pw1.1 (267, tabObj ps1) (.tail _ (.head _))
          rcases List.mem_cons.mp hq with rfl | hq
          · exact pw1.1 (220, tabObj ps2) (.tail _ (.tail _ (.head _)))
          · exact pw1.1 q (.tail _ (.tail _ (.tail _ hq)))
        · rcases List.mem_cons.mp hq with rfl | hq
          · exact pw2.1 (267, tabObj ps1) (.head _)
          rcases List.mem_cons.mp hq with rfl | hq
          · exact pw2.1 (220, tabObj ps2) (.tail _ (.head _))
          · exact pw2.1 q (.tail _ (.tail _ hq))
        · rcases List.mem_cons.mp hq with rfl | hq
          · exact pw3.1 (220, tabObj ps2) (.head _)
          · exact pw3.1 q (.tail _ hq)
      · rcases List.mem_cons.mp hq with rfl | hq
        · exact apn p hp (c.jA, oj) (.head _)
        rcases List.mem_cons.mp hq with rfl | hq
        · exact apn p hp (c.cA, oc) (.tail _ (.head _))
        rcases List.mem_cons.mp hq with rfl | hq
        · exact apn p hp (267, tabObj ps1) (.tail _ (.tail _ (.head _)))
        rcases List.mem_cons.mp hq with rfl | hq
        · exact apn p hp (220, tabObj ps2) (.tail _ (.tail _ (.tail _ (.head _))))
        · exact apn p hp q (.tail _ (.tail _ (.tail _ (.tail _ hq))))
end
end Mine
namespace Mine
open PyProof.Rows.LCg
section
variable {w : World} {n : Nat} {r : R} {call : CallT} {c : Cx} {news : Led} {ρ : Rho} {J : JS} {s : Shared} {X : KX} {E : Value → Shared → Prop}
theorem Here.perm {its' : Led} (H : Here c news ρ J s) (hp : c.its.Perm its') : Here { c with its := its' } news ρ J s := by
  obtain ⟨g, m, hd, G, F, N, ⟨oj, oc, t1, t2, vs, ps1, ps2, rfl, lj, lc, i, g1, g2, n1, ha⟩, Rh, Rs⟩ := H
  have hp' : ((c.jA, oj) :: (c.cA, oc) :: (267, tabObj ps1) :: (220, tabObj ps2) :: c.its).Perm ((c.jA, oj) :: (c.cA, oc) :: (267, tabObj ps1) :: (220, tabObj ps2) :: its') := .cons _ (.cons _ (.cons _ (.cons _ hp)))
  refine ⟨g, m, _, ⟨G.B, G.T0, G.D⟩, F, fun p hp2 => N p ?_, ⟨oj, oc, t1, t2, vs, ps1, ps2, rfl, lj, lc, i, g1, g2, (hp'.pairwise_iff fun h => Ne.symm h).mp n1, fun p hp2 q hq => ha p hp2 q (hp'.mem_iff.mpr hq)⟩, Rh, Rs⟩
  rcases List.mem_append.mp hp2 with h | h
  · exact List.mem_append_left _ (hp'.mem_iff.mpr h)
  · exact List.mem_append_right _ h
/-- one hidden object is let go, and may be changed -/
theorem Here.leave {I : Addr} {o : Obj} {h' : Heap} {tk : Nat} (H : Here (c.with I o) news ρ J s) (hk' : ∀ b x, b ≠ I → s.heap.get? b = some x → h'.get? b = some x) : Here c news ρ J { s with heap := h', toks := tk } := by
  obtain ⟨g, m, hd, G, F, N, Hi, Rh, Rs⟩ := H
  obtain ⟨hd', Hi', hs', hp, h1, h2⟩ := Hi.less
  have nI := (N _ (List.mem_append_left _ hp)).2
  obtain ⟨oL, es, ep, hL, rr⟩ := F.ns
  refine ⟨g, m, hd', ⟨G.B, G.T0, G.D⟩, ⟨⟨oL, es, ep, hk' _ _ (Ne.symm nI.1) hL, rr⟩, fun b x e => hk' b x (fun q => by rw [q] at e; rw [nI.2] at e; cases e) (F.keep b x e), F.above⟩, fun q hq => ?_, Hi', Rh, Rs⟩
  rcases List.mem_append.mp hq with h | h
  · exact ⟨hk' _ _ (h1 q h) (N q (List.mem_append_left _ (hs' q h))).1, (N q (List.mem_append_left _ (hs' q h))).2⟩
  · exact ⟨hk' _ _ (h2 q h) (N q (List.mem_append_right _ h)).1, (N q (List.mem_append_right _ h)).2⟩
/-- a hidden object that is changed no more -/
theorem Here.settle {D : Addr} {o : Obj} (H : Here (c.with D o) news ρ J s) : Here c ((D, o) :: news) ρ J s := by
  obtain ⟨g, m, hd, G, F, N, Hi, Rh, Rs⟩ := H
  obtain ⟨hd', Hi', hs', hp, h1, h2⟩ := Hi.less
  refine ⟨g, m, hd', ⟨G.B, G.T0, G.D⟩, F, fun q hq => ?_, Hi'.push h1, Rh.mono fun _ hp => .tail _ hp, Rs⟩
  rcases List.mem_append.mp hq with h | h
  · exact N q (List.mem_append_left _ (hs' q h))
  · rcases List.mem_cons.mp h with rfl | h
    · exact N _ (List.mem_append_left _ hp)
    · exact N q (List.mem_append_right _ h)
/-- the three hidden objects of a comprehension: the iterator, the list, the names -/
noncomputable abbrev Cx.comp (c : Cx) (I : Addr) (oI : Obj) (D : Addr) (oD : Obj) (C : Addr) (oC : Obj) : Cx := ((c.with I oI).with D oD).with C oC
variable {I D C : Addr} {oI oD oC o' : Obj} {h' : Heap} {tk : Nat}
theorem Here.compC (H : Here (c.comp I oI D oD C oC) news ρ J s) (hk : ∀ b x, b ≠ C → s.heap.get? b = some x → h'.get? b = some x) (ho : h'.get? C = some o') : Here (c.comp I oI D oD C o') news ρ J { s with heap := h', toks := tk } := Here.turn (c := (c.with I oI).with D oD) H hk ho
theorem perm_I {o : Obj} {l : Led} : ((C, oC) :: (D, oD) :: (I, o) :: l).Perm ((I, o) :: (C, oC) :: (D, oD) :: l) := (List.Perm.cons _ (.swap ..)).trans (.swap ..)
theorem Here.compD (H : Here (c.comp I oI D oD C oC) news ρ J s) (hk : ∀ b x, b ≠ D → s.heap.get? b = some x → h'.get? b = some x) (ho : h'.get? D = some o') : Here (c.comp I oI D o' C oC) news ρ J { s with heap := h', toks := tk } :=
  Here.perm (c := ((c.with I oI).with C oC).with D o') (its' := (C, oC) :: (D, o') :: (I, oI) :: c.its) (Here.turn (c := (c.with I oI).with C oC) (Here.perm (c := c.comp I oI D oD C oC) (its' := (D, oD) :: (C, oC) :: (I, oI) :: c.its) H (.swap ..)) hk ho) (.swap ..)
theorem Here.compI (H : Here (c.comp I oI D oD C oC) news ρ J s) (hk : ∀ b x, b ≠ I → s.heap.get? b = some x → h'.get? b = some x) (ho : h'.get? I = some o') : Here (c.comp I o' D oD C oC) news ρ J { s with heap := h', toks := tk } :=
  Here.perm (c := ((c.with D oD).with C oC).with I o') (its' := (C, oC) :: (D, oD) :: (I, o') :: c.its) (Here.turn (c := (c.with D oD).with C oC) (Here.perm (c := c.comp I oI D oD C oC) (its' := (I, oI) :: (C, oC) :: (D, oD) :: c.its) H perm_I) hk ho) perm_I.symm
theorem Here.hidden {p : Addr × Obj} (H : Here c news ρ J s) (hm : p ∈ c.its) : s.heap.get? p.1 = some p.2 := by
  obtain ⟨g, m, hd, G, F, N, ⟨oj, oc, t1, t2, vs, ps1, ps2, rfl, _⟩, Rh, Rs⟩ := H
  exact (N p (List.mem_append_left _ (.tail _ (.tail _ (.tail _ (.tail _ hm)))))).1
theorem Here.apart3 (H : Here (c.comp I oI D oD C oC) news ρ J s) : C ≠ D ∧ C ≠ I ∧ D ≠ I := by
  obtain ⟨g, m, hd, G, F, N, ⟨oj, oc, t1, t2, vs, ps1, ps2, rfl, lj, lc, i, g1, g2, n1, ha⟩, Rh, Rs⟩ := H
  have h := (List.pairwise_cons.mp (List.pairwise_cons.mp (List.pairwise_cons.mp (List.pairwise_cons.mp n1).2).2).2).2
  have h1 := List.pairwise_cons.mp h
  have h2 := List.pairwise_cons.mp h1.2
  exact ⟨h1.1 (D, oD) (.head _), h1.1 (I, oI) (.tail _ (.head _)), h2.1 (I, oI) (.head _)⟩

/-- what the elements are, turn by turn -/
noncomputable abbrev ElT := SV → JS → (Option SV → JS → Prop) → Prop
noncomputable def compN (el : ElT) : List SV → List SV → JS → (List SV → JS → Prop) → Prop
  | [], acc, J, K => K acc J
  | v :: vs, acc, J, K => el v J (fun o J => compN el vs (match o with | some u => acc ++ [u] | none => acc) J K)
inductive RepO (jA cA : Addr) (news : Led) : Option SV → Option Value → Prop
  | none : RepO jA cA news none none
  | some {u : SV} {x : Value} : Rep jA cA news u x → RepO jA cA news (some u) (some x)
noncomputable def ElemOk (c : Cx) (ρ : Rho) (scope : Scope) (cl : List (Str × Addr)) (x : Str) (ifs : List Expr) (elt : Expr) (el : ElT) : Prop :=
  ∀ {I D C : Addr} {oI oD oC : Obj} {news J s} {m : Str → Option Value} {v : Value} {sv : SV} {K : Option SV → JS → Prop} {QQ : Option Value → Shared → Prop} {E' : Value → Shared → Prop}, NsObj oC m → m x = some v → Rep c.jA c.cA news sv v → el sv J K →
    Here (c.comp I oI D oD C oC) news ρ J s →
    (∀ news' o ov J' s', (∀ p ∈ news, p ∈ news') → K o J' → RepO c.jA c.cA news' o ov → Here (c.comp I oI D oD C oC) news' ρ J' s' → QQ ov s') →
    wpAny (model pg c.w) c.A (forIn ifs true fun t r => if r = true then do let ok ← isTrue t (compEnvC scope cl C c.env) (eval t (compEnvC scope cl C c.env)); pure (ForInStep.yield ok) else pure (ForInStep.yield r)) (fun ok s₃ =>
      if ok = true then wpAny (model pg c.w) c.A (eval elt (compEnvC scope cl C c.env)) (fun y s₄ => QQ (some y) s₄) E' s₃ else QQ none s₃) E' s

theorem comp_loop {elt iter : Expr} {x : Str} {px : Pos} {ifs : List Expr} {scope : Scope} {cl : List (Str × Addr)} {pos : Pos} {I : Addr} {fp : List Addr} {items : List SV} {P : Nat → Value → Prop} {St : Nat → Heap → Prop} {el : ElT} {K : List SV → JS → Prop}
    {RR : Value → Addr → Result → Shared → Prop} {oI : Obj}
    (W : Walks pg c.w c.A I fp [I] items.length P St) (hP : ∀ i v, i < items.length → P i v → ∃ sv, items[i]? = some sv ∧ Rep c.jA c.cA news sv v) (hIo : ∀ i h, St i h → ∃ o, h.get? I = some o) (hfp : ∀ b ∈ fp, b = I ∨ ∃ x, (b, x) ∈ news)
    (hsz : items.length ≤ 1000) (hcell : ∀ y ∈ scope.names, y.2 ≠ .cell) (hkind : scope.kind = .function) (hx : scope.names.lookup x = some .local) (hst : St 0 s.heap) (hel : ElemOk c ρ scope cl x ifs elt el)
    (h : compN el items [] J K) (H : Here (c.with I oI) news ρ J s)
    (hRR : ∀ D C n' vs ys J' s' oC m', (∀ p ∈ news, p ∈ n') → K vs J' → RepL c.jA c.cA n' vs ys → vs.length ≤ items.length → NsObj oC m' → Here ((c.with D (lst ys)).with C oC) n' ρ J' s' → RR (.ref D) C (.ok .next) s') :
    wpAny (model pg c.w) c.A (newList []) (fun acc s₃ => wpAny (model pg c.w) c.A (newFunctionEnv scope c.env.globals cl [] c.env.qual none .none (some c.env)) (fun cenv s₄ =>
      codeAny (model pg c.w) c.A (.compStart (.ListComp elt [⟨.Name x px, iter, ifs, 0⟩] scope pos) 0 (.ref I) acc { cenv with scope := relabel scope c.env }) (RR acc cenv.locals) s₄) E s₃) E s := by
  refine wpAny_newObj_type (wpAny_newFunctionEnv hcell (by intro y hy; simp at hy) (fun h₁ hns₁ hsb₁ => ?_) hkind)
  dsimp only at hns₁ hsb₁ ⊢
  have H1 : Here ((c.with I oI).with s.heap.objs.size (lst [])) news ρ J { s with heap := s.heap.push { cls := .type "list", dict := none, data := .seq ([] : List Value).toArray }, toks := s.toks } :=
    Here.iter (c := c.with I oI) H (Nat.le_refl _) (fun b o e => Heap.get?_push_of_some _ e) (Heap.get?_push_size _ rfl)
  generalize hH2 : s.heap.push { cls := .type "list", dict := none, data := .seq ([] : List Value).toArray } = H2 at hns₁ hsb₁ H1 ⊢
  obtain ⟨oC, hoC, nsC⟩ := ns_obj hns₁
  have old2 : ∀ b o, H2.get? b = some o → h₁.get? b = some o := fun b o e => hsb₁.extBut b o (Nat.ne_of_lt (Heap.lt_size e)) (Heap.get?_push_of_some _ e)
  have old : ∀ b o, s.heap.get? b = some o → h₁.get? b = some o := fun b o e => old2 b o (hH2 ▸ Heap.get?_push_of_some _ e)
  have Hc : Here (c.comp I oI s.heap.objs.size (lst []) H2.objs.size oC) news ρ J { s with heap := h₁, toks := s.toks + ([] : List (Str × Value)).length } :=
    Here.iter (c := (c.with I oI).with s.heap.objs.size (lst [])) (s := { s with heap := H2 }) H1 (Nat.le_refl _) old2 hoC
  generalize s.heap.objs.size = D at Hc ⊢
  generalize H2.objs.size = C at Hc hoC nsC ⊢
  have hst₁ : St 0 h₁ := W.frame _ _ _ hst fun b _ o e => old b o e
  clear hns₁ hsb₁ H1 old2 old
  have loop : ∀ s₃ : Shared, s₃ = { s with heap := h₁, toks := s.toks + ([] : List (Str × Value)).length } →
      codeAny (model pg c.w) c.A (.compLoop (.ListComp elt [⟨.Name x px, iter, ifs, 0⟩] scope pos) 0 (.ref I) (.ref D) (compEnvC scope cl C c.env)) (RR (.ref D) C) s₃ := by
    rintro s₃ rfl
    refine codeAny_compLoop_tests
      (fun k s' => ∃ i ys vs J' n' oI oC m', i ≤ items.length ∧ k = items.length + 1 - i ∧ vs.length ≤ i ∧ (∀ p ∈ news, p ∈ n') ∧ St i s'.heap ∧ NsObj oC m' ∧ RepL c.jA c.cA n' vs ys ∧ Here (c.comp I oI D (lst ys) C oC) n' ρ J' s' ∧ compN el (items.drop i) vs J' K) ?_ (items.length + 1)
      ⟨0, [], [], J, news, oI, oC, _, Nat.zero_le _, rfl, Nat.le_refl _, fun _ h => h, hst₁, nsC, RepL.nil, Hc, h⟩
    rintro k s' ⟨i, ys, vs, J', n', oI, oC, m', hi, rfl, hvl, hs, hst', hoC', Rl, H', hl⟩
    obtain ⟨aCD, aCI, aDI⟩ := H'.apart3
    rcases Nat.lt_or_eq_of_le hi with lt | rfl
    · refine W.item i s' _ _ lt hst' fun v h' tk hPv hst' hk => ?_
      obtain ⟨oI', hoI'⟩ := hIo _ _ hst'
      have H2 := H'.compI (tk := tk) (fun b x hb e => hk b x (fun q => hb (List.mem_singleton.mp q)) e) hoI'
      obtain ⟨sv, hsv, R⟩ := hP i v lt hPv
      have hdrop : items.drop i = sv :: items.drop (i + 1) := by
        rw [List.drop_eq_getElem_cons lt]
        congr 1
        exact (Option.some.inj ((List.getElem?_eq_getElem lt).symm.trans hsv))
      rw [hdrop] at hl
      have hCn : h'.Ns C m' := hoC'.ns (H2.hidden (p := (C, oC)) (.head _))
      refine wpAny_assign_Name (wpAny_storeName_local (lookup_relabel_local hx) hCn (fun h₃ hn₃ hs₃ => ?_) (by simp [compEnvC, relabel, hkind]))
      obtain ⟨oC3, hoC3, nsC3⟩ := ns_obj hn₃
      have H3 := H2.compC (tk := tk + 1) (h' := h₃) (fun b x hb e => hs₃.extBut b x hb e) hoC3
      have hst₃ : St (i + 1) h₃ := W.frame _ _ _ hst' fun b hb o e => hs₃.extBut b o (fun q => by
        rcases hfp b hb with z | ⟨y, hy⟩
        · exact aCI ((show b = C from q).symm.trans z)
        · have H2' := (Here.less (c := (c.with I oI').with D (lst ys)) H2).1
          obtain ⟨g, m, hd, G, F, N, Hi, _⟩ := H2
          have hC : (C, oC) ∈ hd := by obtain ⟨hd', _, _, hp, _⟩ := Hi.less; exact hp
          exact Hi.apart _ (hs _ hy) _ hC q) e
      refine wpAny_mono (hel (QQ := fun ov s₅ => ∃ n5 o J5, (∀ p ∈ n', p ∈ n5) ∧ compN el (items.drop (i + 1)) (match o with | some u => vs ++ [u] | none => vs) J5 K ∧ RepO c.jA c.cA n5 o ov ∧ Here (c.comp I oI' D (lst ys) C oC3) n5 ρ J5 s₅) nsC3 (by simp) (R.mono hs) hl H3
        fun n5 o ov J5 s5 k1 k2 k3 k4 => ⟨n5, o, J5, k1, k2, k3, k4⟩) (fun ok s₃ h₃' => ?_) fun _ _ e => e
      have again : ∀ {o : Option SV} {ys' : List Value} {n5 J5 s6}, (∀ p ∈ n', p ∈ n5) → compN el (items.drop (i + 1)) (match o with | some u => vs ++ [u] | none => vs) J5 K → RepL c.jA c.cA n5 (match o with | some u => vs ++ [u] | none => vs) ys' → Here (c.comp I oI' D (lst ys') C oC3) n5 ρ J5 s6 →
          ∃ m, m < items.length + 1 - i ∧ ∃ i ys vs J' n' oI oC m', i ≤ items.length ∧ m = items.length + 1 - i ∧ vs.length ≤ i ∧ (∀ p ∈ news, p ∈ n') ∧ St i s6.heap ∧ NsObj oC m' ∧ RepL c.jA c.cA n' vs ys ∧ Here (c.comp I oI D (lst ys) C oC) n' ρ J' s6 ∧ compN el (items.drop i) vs J' K := by
        intro o ys' n5 J5 s6 k1 k2 k3 k4
        refine ⟨_, ?_, i + 1, ys', _, J5, n5, oI', oC3, _, lt, rfl, ?_, fun p hp => k1 p (hs p hp), ?_, nsC3, k3, k4, k2⟩
        · omega
        · cases o with
          | none => exact Nat.le_succ_of_le hvl
          | some u => show (vs ++ [u]).length ≤ _; rw [List.length_append]; exact Nat.succ_le_succ hvl
        · refine W.frame (i + 1) h₃ s6.heap hst₃ fun b hb y e => ?_
          rcases hfp b hb with rfl | ⟨z, hz⟩
          · have e1 := H3.hidden (p := (b, oI')) (.tail _ (.tail _ (.head _)))
            rw [show h₃.get? b = some oI' from e1] at e; cases e
            exact k4.hidden (p := (b, oI')) (.tail _ (.tail _ (.head _)))
          · have e1 := H3.list (hs _ hz)
            rw [show h₃.get? b = some z from e1] at e; cases e
            exact k4.list (k1 _ (hs _ hz))
      cases ok with
      | false =>
        simp only [Bool.false_eq_true, if_false] at h₃' ⊢
        obtain ⟨n5, o, J5, k1, k2, k3, k4⟩ := h₃'
        cases k3
        exact again (o := none) k1 k2 (Rl.mono k1) k4
      | true =>
        simp only [if_true] at h₃' ⊢
        refine wpAny_mono h₃' (fun y s₅ h₅ => ?_) fun _ _ e => e
        obtain ⟨n5, o, J5, k1, k2, k3, k4⟩ := h₅
        cases k3 with
        | some hr =>
        have zD := k4.hidden (p := (D, lst ys)) (.tail _ (.head _))
        refine append_at (hsz := by rw [List.size_toArray, Rl.1, sizeLine_eq]; omega) zD fun h₆ hs₆ hD₆ => ?_
        refine again (o := some _) k1 k2 ((Rl.mono k1).app (RepL.cons hr RepL.nil)) (ys' := ys ++ [y]) (s6 := { s₅ with heap := h₆ }) ?_
        exact k4.compD (tk := s₅.toks) (fun b x hb e => hs₆.extBut b x hb e) (hD₆.trans (congrArg some (lst_snoc ys y)))
    · rw [List.drop_length] at hl
      refine W.done s' _ _ hst' fun h' tk hk => ?_
      have hC' : (c.its).Perm c.its := .refl _
      have H5 : Here ((c.with D (lst ys)).with C oC) n' ρ J' { s' with heap := h', toks := tk } :=
        Here.leave (c := (c.with D (lst ys)).with C oC) (I := I) (o := oI) (Here.perm (c := c.comp I oI D (lst ys) C oC) (its' := (I, oI) :: (C, oC) :: (D, lst ys) :: c.its) H' perm_I) fun b x hb e => hk b x (fun q => hb (List.mem_singleton.mp q)) e
      exact hRR D C n' vs ys J' _ oC m' hs hl Rl hvl hoC' H5
  exact codeAny_compStart_list (loop _ rfl) (W.self 0 _ _ _ hst₁ (loop _ rfl))
end
end Mine
namespace Mine
open PyProof.Rows.LCg
noncomputable def nMark : Str := Str.ofString "mark"
noncomputable def nDigit : Str := Str.ofString "digit"
noncomputable def nPlace : Str := Str.ofString "place"
noncomputable def nJar : Str := Str.ofString "jar"
noncomputable def scA : Scope := { kind := .function, names := [(Str.ofString ".0", .local), (Str.ofString "mark", .local), (Str.ofString "ord", .globalImplicit)], isGenerator := false, isCoroutine := false, more := [] }
noncomputable def scB : Scope := { kind := .function, names := [(Str.ofString ".0", .local), (Str.ofString "digit", .local)], isGenerator := false, isCoroutine := false, more := [] }
noncomputable def scC : Scope := { kind := .function, names := [(Str.ofString ".0", .local), (Str.ofString "place", .local), (Str.ofString "_law_take", .globalImplicit), (Str.ofString "jar", .free)], isGenerator := false, isCoroutine := false, more := [] }
/-- the text's three comprehensions, by their elements -/
inductive ElemV (call : CallT) (fi : FI) (ρ : Rho) : Str → List Expr → Expr → Scope → ElT → Prop
  | ord {k : Nat} {p1 p2 p3 p4 p5 : Pos} : ElemV call fi ρ (Str.ofString "mark") [] (.BinOp (.Call (.Name (Str.ofString "ord") p1) [.Name (Str.ofString "mark") p2] [] p3) .Sub (.Constant (.int 48) k p4) p5) scA (fun v J K => ∃ ch : Nat, v = .str ⟨#[ch]⟩ ∧ K (some (.int ((ch : Int) - 48))) J)
  | filt {k k2 : Nat} {p1 p2 p3 p4 p5 p6 : Pos} : ElemV call fi ρ (Str.ofString "digit") [.UnaryOp .Not (.Compare (.Constant (.int 0) k p1) [.LtE, .LtE] [.Name (Str.ofString "digit") p2, .Constant (.int 9) k2 p3] p4) p5] (.Name (Str.ofString "digit") p6) scB (fun v J K => ∃ i : Int, v = .int i ∧ K (if 0 ≤ i ∧ i ≤ 9 then none else some (.int i)) J)
  | take {k : Nat} {p1 p2 p3 p4 : Pos} {jv : SV} : ρ.lookup (Str.ofString "jar") = some jv → fi.cs.names.lookup (Str.ofString "jar") = some .cell → ElemV call fi ρ (Str.ofString "place") [] (.Call (.Name (Str.ofString "_law_take") p1) [.Name (Str.ofString "jar") p2, .Constant (.int 10) k p3] [] p4) scC (fun _ J K => call (.fn 169) [jv, .int 10] J (fun u J => K (some u) J) (fun _ _ => False))
noncomputable def itemsX : SV → Option (List SV)
  | .str x => some (x.cps.toList.map fun ch => .str ⟨#[ch]⟩)
  | .tup _ => none
  | v => itemsV v
noncomputable def listV (call : CallT) (r : R) (fi : FI) (elt : Expr) (gens : List Comprehension) (scope : Scope) (ρ : Rho) (J : JS) (K : KV) (X : KX) : Prop := match gens with
  | [⟨.Name x px, iter, ifs, 0⟩] => fi.hd = false ∧ ∃ el, ElemV call fi ρ x ifs elt scope el ∧ (∀ env y, foldedSetIterable iter env y = pure y) ∧
      r.ev fi iter ρ J (fun v J => smallV v ∧ ∃ items, itemsX v = some items ∧ items.length ≤ 1000 ∧ compN el items [] J (fun vs J => K (.lst vs) J)) X
  | _ => False
section
variable {w : World} {n : Nat} {r : R} {call : CallT} {c : Cx} {news : Led} {ρ : Rho} {J : JS} {s : Shared} {X : KX} {E : Value → Shared → Prop}
theorem cx_glob (ok : c.Ok n) {c' : Cx} (hc : ∃ its, c' = { c with its := its }) {scope : Scope} {cl : List (Str × Addr)} {C : Addr} {x : Str} {pos : Pos} {sv : SV} {Q : Value → Shared → Prop} (H : Here c' news ρ J s) (hk : scope.kind = .function) (hx : (compEnvC scope cl C c.env).kindOf x = some .globalImplicit)
    (hg : glook x gtab = some sv) (hd : (x == ("__debug__" : Str)) = false) (hQ : ∀ v, Rep c.jA c.cA news sv v → Q v s) : wpAny (model pg c.w) c.A (eval (.Name x pos) (compEnvC scope cl C c.env)) Q E s := by
  obtain ⟨its, rfl⟩ := hc
  obtain ⟨g, m, hdl, G, F, N, _, R, _⟩ := H
  obtain ⟨v, hv, hr⟩ := gtab_ok c.w x sv hg
  have Xg : (kf c.w).In g := ok.X.keeps G.B.stays
  have Tg := topRead_of (ok.T.keeps G.B.stays)
  rcases hv with hv | ⟨hv, hb, hn⟩
  · exact Name_function_global hk hx (loadGlobal_global (env := compEnvC scope cl C c.env) (Tg.g.keeps F.keep) (mg_of Xg Tg.g hv) (hQ v (hr _ _ _))) hd
  · exact Name_function_global hk hx (loadGlobal_builtin (env := compEnvC scope cl C c.env) (Tg.g.keeps F.keep) (mg_none_of Xg Tg.g hv) (Tg.b.keeps F.keep) ((Tg.builtins x hn).trans hb) (hQ v (hr _ _ _))) hd
theorem cx_loc {I D C : Addr} {oI oD oC : Obj} {scope : Scope} {cl : List (Str × Addr)} {x : Str} {pos : Pos} {v : Value} {m : Str → Option Value} {Q : Value → Shared → Prop} (H : Here (c.comp I oI D oD C oC) news ρ J s) (hC : NsObj oC m) (hm : m x = some v) (hk : scope.kind = .function) (hx : scope.names.lookup x = some .local)
    (hd : (x == ("__debug__" : Str)) = false) (hQ : Q v s) : wpAny (model pg c.w) c.A (eval (.Name x pos) (compEnvC scope cl C c.env)) Q E s :=
  wpAny_Name (wpAny_loadName_local hk (lookup_relabel_local hx) (hC.ns (H.hidden (p := (C, oC)) (.head _))) hm hQ) hd
theorem dbg_ne {x : Str} (h : (x == Str.ofString "__debug__") = false) : (x == ("__debug__" : Str)) = false := h
theorem el_ord (ok : c.Ok n) {k : Nat} {p1 p2 p3 p4 p5 : Pos} : ElemOk c ρ scA [] (Str.ofString "mark") [] (.BinOp (.Call (.Name (Str.ofString "ord") p1) [.Name (Str.ofString "mark") p2] [] p3) .Sub (.Constant (.int 48) k p4) p5) (fun v J K => ∃ ch : Nat, v = .str ⟨#[ch]⟩ ∧ K (some (.int ((ch : Int) - 48))) J) := by
  intro I D C oI oD oC news J s m v sv K QQ E' hC hm R h H hQ
  obtain ⟨ch, rfl, h⟩ := h
  obtain ⟨t, rfl⟩ := R.str_inv
  refine wpAny_tests_nil ?_
  simp only [if_true]
  refine wpAny_BinOp (Call_ (cx_glob (sv := .bi "ord") ok ⟨_, rfl⟩ H rfl rfl rfl (by decide) fun f Rf => ?_))
  obtain rfl := Rf.inv
  rw [show backTo p3 (starEach [.Name (Str.ofString "mark") p2] (compEnvC scA [] C c.env)) = [(false, eval (.Name (Str.ofString "mark") p2) (compEnvC scA [] C c.env))] from rfl]
  refine callWith_builtin rfl (evalArgs_plain (Calls.spliced_cons (cx_loc H hC hm rfl rfl (by decide) (Calls.spliced_nil ?_))))
  refine P.ord_of_char (wpAny_Constant_int (sub_int ?_))
  exact hQ _ _ _ _ _ (fun _ h => h) h (.some (.int _ _)) H
theorem el_filt (ok : c.Ok n) {k k2 : Nat} {p1 p2 p3 p4 p5 p6 : Pos} : ElemOk c ρ scB [] (Str.ofString "digit") [.UnaryOp .Not (.Compare (.Constant (.int 0) k p1) [.LtE, .LtE] [.Name (Str.ofString "digit") p2, .Constant (.int 9) k2 p3] p4) p5] (.Name (Str.ofString "digit") p6) (fun v J K => ∃ i : Int, v = .int i ∧ K (if 0 ≤ i ∧ i ≤ 9 then none else some (.int i)) J) := by
  intro I D C oI oD oC news J s m v sv K QQ E' hC hm R h H hQ
  obtain ⟨i, rfl, h⟩ := h
  obtain ⟨t, rfl⟩ := R.int_inv
  refine wpAny_tests_one (wpAny_isTrue_Not ?_)
  have no : ∀ {s'}, Here (c.comp I oI D oD C oC) news ρ J s' → ¬ (0 ≤ i ∧ i ≤ 9) → (if (!false) = true then wpAny (model pg c.w) c.A (eval (.Name (Str.ofString "digit") p6) (compEnvC scB [] C c.env)) (fun y s₄ => QQ (some y) s₄) E' s' else QQ none s') := fun H' hn => by
    rw [if_neg hn] at h
    simp only [Bool.not_false, if_true]
    exact cx_loc H' hC hm rfl rfl (by decide) (hQ _ _ _ _ _ (fun _ h => h) h (.some (.int _ _)) H')
  refine isTrue_chain (wpAny_Constant_int ?_) (by rfl)
  refine test_link (cx_loc H hC hm rfl rfl (by decide) (le_int (wpAny_truthy_bool ?_)))
  by_cases h0 : (0 : Int) ≤ i
  · rw [decide_eq_true h0]
    refine test_last (wpAny_Constant_int (le_int (wpAny_truthy_bool ?_)))
    by_cases h9 : i ≤ (9 : Int)
    · rw [decide_eq_true h9]
      rw [if_pos ⟨h0, h9⟩] at h
      exact hQ _ _ _ _ _ (fun _ h => h) h .none H
    · rw [decide_eq_false h9]
      exact no H fun q => h9 q.2
  · rw [decide_eq_false h0]
    exact no H fun q => h0 q.1
theorem el_take (SC : SoundC c.w n call) (ok : c.Ok n) (hh : c.fi.hd = false) {k : Nat} {p1 p2 p3 p4 : Pos} {jv : SV} {a : Addr} (hj : ρ.lookup (Str.ofString "jar") = some jv) (hk : c.fi.cs.names.lookup (Str.ofString "jar") = some .cell) (ha : c.cl.lookup (Str.ofString "jar") = some a) :
    ElemOk c ρ scC [(Str.ofString "jar", a)] (Str.ofString "place") [] (.Call (.Name (Str.ofString "_law_take") p1) [.Name (Str.ofString "jar") p2, .Constant (.int 10) k p3] [] p4) (fun _ J K => call (.fn 169) [jv, .int 10] J (fun u J => K (some u) J) (fun _ _ => False)) := by
  intro I D C oI oD oC news J s m v sv K QQ E' hC hm R h H hQ
  refine wpAny_tests_nil ?_
  simp only [if_true]
  refine Call_ (cx_glob (sv := .fn 169) ok ⟨_, rfl⟩ H rfl rfl rfl (by decide) fun f Rf => ?_)
  rw [show backTo p4 (starEach [.Name (Str.ofString "jar") p2, .Constant (.int 10) k p3] (compEnvC scC [(Str.ofString "jar", a)] C c.env)) = [(false, eval (.Name (Str.ofString "jar") p2) (compEnvC scC [(Str.ofString "jar", a)] C c.env)), (false, eval (.Constant (.int 10) k p3) (compEnvC scC [(Str.ofString "jar", a)] C c.env))] from rfl]
  obtain ⟨g, mm, hdl, G, F, N, Hi, Rh, Rs⟩ := id H
  rcases Rh _ _ hj with ⟨q, _⟩ | ⟨_, a', o, jx, q1, q2, q3, q4⟩
  · rw [show (c.comp I oI D oD C oC).fi.cs.names.lookup (Str.ofString "jar") = some .cell from hk] at q; cases q
  obtain rfl : a' = a := by rw [show c.cl.lookup (Str.ofString "jar") = some a' from q1] at ha; exact Option.some.inj ha
  have hrel : (compEnvC scC [(Str.ofString "jar", a')] C c.env).kindOf (Str.ofString "jar") = some .cell := by
    show List.lookup _ (List.map _ _) = _
    simp only [scC, List.map_cons, List.map_nil]
    rw [List.lookup_cons, List.lookup_cons, List.lookup_cons, List.lookup_cons]
    have e1 : (c.env.scope.kind == ScopeKind.function) = true := by rw [show c.env.scope.kind = .function from ok.sc.1]; rfl
    have e2 : (c.env.kindOf (Str.ofString "jar") == some NameKind.cell) = true := by rw [show c.env.kindOf (Str.ofString "jar") = some .cell from hk]; rfl
    rw [e1, e2]
    rfl
  have Hok := (((ok.with I oI).with D oD).with C oC)
  refine callWith_of (P := fun h => ∃ a, f = .ref a ∧ FnAt a h) rfl (fun h ⟨a, e, X⟩ => by rw [e]; exact keeps_F h X) ?_
  refine evalArgs_plain (Calls.spliced_cons (lcf_cell N (by rfl) (List.mem_append_right _ q2) q3 (Calls.spliced_cons (wpAny_Constant_int (Calls.spliced_nil ?_))) rfl hrel))
  refine SC (c := c.comp I oI D oD C oC) rfl Hok hh h H Rf (RepL.cons q4 (RepL.cons (.int _ _) RepL.nil)) (fun n' y u J' s' hs hK hR H' => ?_) fun _ _ _ _ _ _ z => z.elim
  exact hQ _ _ _ _ _ hs hK (.some hR) H'
theorem elem_ok (SC : SoundC c.w n call) (ok : c.Ok n) (hh : c.fi.hd = false) {x : Str} {ifs : List Expr} {elt : Expr} {scope : Scope} {el : ElT} (h : ElemV call c.fi ρ x ifs elt scope el) (H : Here c news ρ J s) :
    ∃ cl, closureFor scope c.env = pure cl ∧ ElemOk c ρ scope cl x ifs elt el ∧ (∀ y ∈ scope.names, y.2 ≠ .cell) ∧ scope.kind = .function ∧ (∀ y ∈ scope.names, y.2 = .local → scope.names.lookup y.1 = some .local) ∧ scope.names.lookup x = some .local := by
  cases h with
  | ord => exact ⟨[], rfl, el_ord ok, by decide, rfl, by decide, rfl⟩
  | filt => exact ⟨[], rfl, el_filt ok, by decide, rfl, by decide, rfl⟩
  | take hj hk =>
    obtain ⟨g, mm, hdl, G, F, N, Hi, Rh, Rs⟩ := id H
    rcases Rh _ _ hj with ⟨q, _⟩ | ⟨_, a', o, jx, q1, q2, q3, q4⟩
    · rw [hk] at q; cases q
    · exact ⟨[(Str.ofString "jar", a')], closure_eq rfl (fun p hp => by rw [List.mem_singleton.mp hp]; exact q1), el_take SC ok hh hj hk q1, by decide, rfl, by decide, rfl⟩
theorem comp_iter (ok : c.Ok n) (hh : c.fi.hd = false) {elt iter : Expr} {x : Str} {px : Pos} {ifs : List Expr} {scope : Scope} {cl : List (Str × Addr)} {pos : Pos} {items : List SV} {sv : SV} {v : Value} {el : ElT} {K : List SV → JS → Prop} {RR : Value → Addr → Result → Shared → Prop}
    (hsm : smallV sv) (hi : itemsX sv = some items) (R : Rep c.jA c.cA news sv v) (hsz : items.length ≤ 1000) (hcell : ∀ y ∈ scope.names, y.2 ≠ .cell) (hkind : scope.kind = .function) (hx : scope.names.lookup x = some .local) (hel : ElemOk c ρ scope cl x ifs elt el)
    (h : compN el items [] J K) (H : Here c news ρ J s)
    (hRR : ∀ D C n' vs ys J' s' oC m', (∀ p ∈ news, p ∈ n') → K vs J' → RepL c.jA c.cA n' vs ys → vs.length ≤ items.length → NsObj oC m' → Here ((c.with D (lst ys)).with C oC) n' ρ J' s' → RR (.ref D) C (.ok .next) s') :
    wpAny (model pg c.w) c.A (pyIter v) (fun it s₂ => wpAny (model pg c.w) c.A (newList []) (fun acc s₃ => wpAny (model pg c.w) c.A (newFunctionEnv scope c.env.globals cl [] c.env.qual none .none (some c.env)) (fun cenv s₄ =>
      codeAny (model pg c.w) c.A (.compStart (.ListComp elt [⟨.Name x px, iter, ifs, 0⟩] scope pos) 0 it acc { cenv with scope := relabel scope c.env }) (RR acc cenv.locals) s₄) E s₃) E s₂) E s := by
  have kp : ∀ (o : Obj) b x, s.heap.get? b = some x → (s.heap.push o).get? b = some x := fun o b x e => Heap.get?_push_of_some _ e
  cases sv with
  | str tx =>
    cases hi
    obtain ⟨t, rfl⟩ := R.str_inv
    have hlen : (tx.cps.toList.map fun ch => SV.str ⟨#[ch]⟩).length = tx.cps.size := by rw [List.length_map, Array.length_toList]
    have sign : ∀ i v, i < (tx.cps.toList.map fun ch => SV.str ⟨#[ch]⟩).length → SignAt tx i v → ∃ sv, (tx.cps.toList.map fun ch => SV.str ⟨#[ch]⟩)[i]? = some sv ∧ Rep c.jA c.cA news sv v := fun i v hi e => by
      obtain ⟨ch, u, e1, rfl⟩ := e
      refine ⟨_, ?_, .str _ u⟩
      rw [List.getElem?_map, Array.getElem?_toList, e1]; rfl
    have fpI : ∀ b ∈ [s.heap.objs.size], b = s.heap.objs.size ∨ ∃ x, (b, x) ∈ news := fun b hb => .inl (List.mem_singleton.mp hb)
    cases ha : tx.cps.all (· < 128)
    · have W := Walks.strWide (prog := pg) (w := c.w) (A := c.A) (ok.hnd hh) s.heap.objs.size tx t
      rw [← hlen] at W
      exact wpAny_pyIter_wide ha (comp_loop W sign (fun i h st => let ⟨o, e, _⟩ := st; ⟨o, e⟩) fpI hsz hcell hkind hx ⟨_, Heap.get?_push_size _ rfl, rfl, rfl⟩ hel h (Here.iter (tk := s.toks) H (Nat.le_refl _) (kp _) (Heap.get?_push_size _ rfl)) hRR)
    · have W := Walks.strAscii (prog := pg) (w := c.w) (A := c.A) (ok.hnd hh) s.heap.objs.size tx t
      rw [← hlen] at W
      exact wpAny_pyIter_ascii ha (comp_loop W sign (fun i h st => let ⟨o, e, _⟩ := st; ⟨o, e⟩) fpI hsz hcell hkind hx ⟨_, Heap.get?_push_size _ rfl, rfl, rfl⟩ hel h (Here.iter (tk := s.toks) H (Nat.le_refl _) (kp _) (Heap.get?_push_size _ rfl)) hRR)
  | lst vs =>
    cases hi
    obtain ⟨a, xs, k, rfl, hm, R⟩ := R.inv
    have hl := H.isList hm
    have W := Walks.list (prog := pg) (w := c.w) (A := c.A) (ok.hnd hh) s.heap.objs.size a (Nat.ne_of_lt (Heap.lt_size (H.list hm))) xs.toArray
    have hlen : xs.toArray.size = _ := (by simp : xs.toArray.size = xs.length).trans R.1
    rw [hlen] at W
    refine wpAny_pyIter_list hl (comp_loop W (fun i v hi e => ?_) (fun i h st => let ⟨o, e, _⟩ := st.1; ⟨o, e⟩) (fun b hb => ?_) hsz hcell hkind hx ⟨⟨_, Heap.get?_push_size _ rfl, rfl, rfl⟩, hl.at fun o e => kp _ _ _ e⟩ hel h (Here.iter (tk := s.toks) H (Nat.le_refl _) (kp _) (Heap.get?_push_size _ rfl)) hRR)
    · have hx : xs[i]? = some v := by simpa using e
      exact ⟨_, List.getElem?_eq_getElem hi, R.2 i _ v (List.getElem?_eq_getElem hi) hx⟩
    · rcases List.mem_cons.mp hb with e | hb
      · exact .inl e
      · exact .inr ⟨_, (List.mem_singleton.mp hb) ▸ hm⟩
  | rng a b d =>
    cases hi
    obtain ⟨ad, t1, t2, t3, rfl, hm⟩ := R.inv
    have W := Walks.range (prog := pg) (w := c.w) (A := c.A) (ok.hnd hh) s.heap.objs.size a d (Builtin.Range.rangeSize a b d).toNat
    have hlen : ((List.range (Builtin.Range.rangeSize a b d).toNat).map fun i : Nat => SV.int (a + i * d)).length = (Builtin.Range.rangeSize a b d).toNat := by rw [List.length_map, List.length_range]
    rw [← hlen] at W
    refine wpAny_pyIter_range (H.list hm) hsm (comp_loop W (fun i v hi e => ?_) (fun i h st => ⟨_, st⟩) (fun b hb => .inl (List.mem_singleton.mp hb)) hsz hcell hkind hx ?_ hel h (Here.iter (tk := s.toks) H (Nat.le_refl _) (kp _) (Heap.get?_push_size _ rfl)) hRR)
    · obtain ⟨t, rfl⟩ := e
      refine ⟨_, ?_, .int _ t⟩
      rw [hlen] at hi
      rw [List.getElem?_map, List.getElem?_range hi]; rfl
    · have e : a + ((0 : Nat) : Int) * d = a := by simp
      have e2 : ((Builtin.Range.rangeSize a b d).toNat : Int) - ((0 : Nat) : Int) = Builtin.Range.rangeSize a b d := by have := rangeSize_toNat a b d; omega
      rw [hlen, e, e2]
      exact Heap.get?_push_size _ rfl
  | _ => cases hi
theorem lst_rep {vs : List SV} {ys : List Value} {D : Addr} {l : Led} (R : RepL c.jA c.cA l vs ys) : Rep c.jA c.cA ((D, lst ys) :: l) (.lst vs) (.ref D) := .lst (n := ys.length) (.head _) R.1 (R.mono fun _ hp => .tail _ hp).2
theorem s_listV (SC : SoundC c.w n call) (S : SoundR c.w n r) (ok : c.Ok n) {elt : Expr} {gens : List Comprehension} {scope : Scope} {pos : Pos} {K : KV} {Q : Value → Shared → Prop} (h : listV call r c.fi elt gens scope ρ J K X) (H : Here c news ρ J s) (hQ : PostE c news ρ K Q) (hX : PostX c news ρ X E) :
    wpAny (model pg c.w) c.A (eval (.ListComp elt gens scope pos) c.env) Q E s := by
  unfold listV at h
  split at h
  · obtain ⟨hh, el, he, hf, h⟩ := h
    obtain ⟨cl, hcl, hel, h1, h2, h3, h4⟩ := elem_ok SC ok hh he H
    rw [eval_ListComp]
    refine wpAny_comprehension_free (use := none) rfl (fun x => hf _ x) hcl h2 h3 (S.ev rfl ok h H (fun n1 v a J1 s1 hs1 k R1 H1 => ?_) hX)
    obtain ⟨hsm, items, hi, hsz, k⟩ := k
    refine comp_iter (RR := fun acc C => compPost (model pg c.w) c.A E none Q acc C) ok hh hsm hi R1 hsz h1 h2 h4 hel k H1 fun D C n' vs ys J' s' oC m' hs' hK hR hl hN H' => ?_
    refine ⟨m', hN.ns (H'.hidden (p := (C, oC)) (.head _)), fun h' hb => ?_⟩
    have H2 := Here.settle (Here.leave (c := c.with D (lst ys)) (tk := s'.toks) H' fun b x hne e => hb.extBut b x hne e)
    exact hQ _ _ _ _ _ (fun p hp => .tail _ (hs' p (hs1 p hp))) hK (lst_rep hR) H2
  · exact h.elim
/-- a comprehension that is stored under a name -/
theorem s_listA (SC : SoundC c.w n call) (S : SoundR c.w n r) (ok : c.Ok n) {elt : Expr} {gens : List Comprehension} {scope : Scope} {pos py spos : Pos} {y : Str} {K : KS} {Q : Flow → Shared → Prop} (hsw : ∀ L a cd cl, swapsWith (.ListComp elt gens scope pos) (some (.Name y py)) spos.line (envX c.fi.cn c.fi.cs L a cd cl) = pure true)
    (h : listV call r c.fi elt gens scope ρ J (fun v J => storeV c.fi y v ρ (fun ρ => K .next ρ J)) X) (H : Here c news ρ J s) (hQ : PostS c news K Q) (hX : PostX c news ρ X E) :
    wpAny (model pg c.w) c.A (exec (.Assign [.Name y py] (.ListComp elt gens scope pos) spos) c.env) Q E s := by
  unfold listV at h
  split at h
  · rename_i x px iter ifs
    obtain ⟨hh, el, he, hf, h⟩ := h
    obtain ⟨cl, hcl, hel, h1, h2, h3, h4⟩ := elem_ok SC ok hh he H
    rw [exec_Assign_Name_used _ _ _ _ (hsw _ _ _ _)]
    refine wpAny_bind (wpAny_standAt (wpAny_bind ?_))
    show wpAny _ c.A (do let _ ← comprehension (.ListComp elt [⟨.Name x px, iter, ifs, 0⟩] scope pos) scope c.env _ (newList []) false (eval iter c.env) (some (assign (.Name y py) c.env))) _ _ s
    refine wpAny_bind (wpAny_mono (wpAny_comprehension_free (use := some (assign (.Name y py) c.env)) (Q := fun _ s' => Q .next s') rfl (fun x => hf _ x) hcl h2 h3 (S.ev rfl ok h H (fun n1 v a J1 s1 hs1 k R1 H1 => ?_) hX)) (fun _ s' hq => wpAny_pure (wpAny_pure hq)) fun _ _ e => e)
    obtain ⟨hsm, items, hi, hsz, k⟩ := k
    refine comp_iter (RR := fun acc C => compPost (model pg c.w) c.A E (some (assign (.Name y py) c.env)) (fun _ s' => Q .next s') acc C) ok hh hsm hi R1 hsz h1 h2 h4 hel k H1 fun D C n' vs ys J' s' oC m' hs' hK hR hl hN H' => ?_
    have H2 : Here (c.with C oC) ((D, lst ys) :: n') ρ J' s' := Here.settle (c := c.with C oC) (Here.perm (c := (c.with D (lst ys)).with C oC) (its' := (D, lst ys) :: (C, oC) :: c.its) H' (.swap ..))
    refine wpAny_assign_Name (s_store (c := c.with C oC) (ok.with C oC) hK (lst_rep hR) H2 fun ρ' s2 k2 H3 => ?_)
    refine ⟨m', hN.ns (H3.hidden (p := (C, oC)) (.head _)), fun h' hb => ?_⟩
    exact hQ.next (fun p hp => .tail _ (hs' p (hs1 p hp))) k2 (Here.leave (tk := s2.toks) H3 fun b x hne e => hb.extBut b x hne e)
  · exact h.elim
end
end Mine
namespace Mine
noncomputable def stepEx (call : CallT) (r : R) (fi : FI) (e : Expr) (ρ : Rho) (J : JS) (K : KV) (X : KX) : Prop := match e with
  | .Lambda ps body sc _ => lamV fi ps body sc ρ (K · J)
  | .ListComp elt gens sc _ => listV call r fi elt gens sc ρ J K X
  | e => stepEv call r fi e ρ J K X
/-- is the first statement a comprehension that is stored under a name? -/
noncomputable def asComp (s : Stmt) : Option (Str × Pos × Expr × List Comprehension × Scope × Pos × Pos) := match s with
  | .Assign [.Name y py] (.ListComp elt gens sc pos) spos => some (y, py, elt, gens, sc, pos, spos)
  | _ => none
noncomputable def stepSx (call : CallT) (r : R) (fi : FI) (b : List Stmt) (ρ : Rho) (J : JS) (K : KS) (X : KX) : Prop := match b with
  | [] => K .next ρ J
  | s :: rest => match asComp s with
    | some (y, py, elt, gens, sc, pos, spos) => (∀ L a cd cl, swapsWith (.ListComp elt gens sc pos) (some (.Name y py)) spos.line (envX fi.cn fi.cs L a cd cl) = pure true) ∧
        listV call r fi elt gens sc ρ J (fun v J => storeV fi y v ρ (fun ρ => r.st fi rest ρ J K X)) X
    | none => stepSt r fi (s :: rest) ρ J K X
noncomputable def stepR (call : CallT) (r : R) : R := ⟨fun fi e ρ J K X => stepEx call r fi e ρ J K X, fun fi e ρ J K X => stepTs r fi e ρ J K X, fun fi b ρ J K X => ∃ ρ₀, Less ρ ρ₀ ∧ stepSx call r fi b ρ₀ J K X⟩
noncomputable def noR : R := ⟨fun _ _ _ _ _ _ => False, fun _ _ _ _ _ _ => False, fun _ _ _ _ _ _ => False⟩
noncomputable def astR (call : CallT) : Nat → R
  | 0 => noR
  | k + 1 => stepR call (astR call k)
noncomputable def vcall (w : World) : Nat → CallT
  | 0 => fun _ _ _ _ _ => False
  | n + 1 => FnCall w (astR (vcall w n) 40)
section
variable {w : World} {n : Nat} {r : R} {call : CallT}
theorem asComp_eq {s : Stmt} {y : Str} {py : Pos} {elt : Expr} {gens : List Comprehension} {sc : Scope} {pos spos : Pos} (h : asComp s = some (y, py, elt, gens, sc, pos, spos)) : s = .Assign [.Name y py] (.ListComp elt gens sc pos) spos := by
  unfold asComp at h
  split at h
  · cases h; rfl
  · cases h
theorem s_ex (SC : SoundC w n call) (S : SoundR w n r) {c : Cx} {news ρ J s e K X Q E} (hw : c.w = w) (ok : c.Ok n) (h : stepEx call r c.fi e ρ J K X) (H : Here c news ρ J s) (hQ : PostE c news ρ K Q) (hX : PostX c news ρ X E) : wpAny (model pg w) c.A (eval e c.env) Q E s := by
  unfold stepEx at h
  split at h
  · subst hw; exact s_lam ok h H hQ
  · subst hw; exact s_listV SC S ok h H hQ hX
  · exact s_ev SC S hw ok h H hQ hX
theorem s_sx (SC : SoundC w n call) (S : SoundR w n r) {c : Cx} {news ρ J s b K X Q E} (hw : c.w = w) (ok : c.Ok n) (h : stepSx call r c.fi b ρ J K X) (H : Here c news ρ J s) (hQ : PostS c news K Q) (hX : PostXS c news X E) (hE : PassesOwn (model pg w) c.A c.env E) : wpAny (model pg w) c.A (execs b c.env) Q E s := by
  subst hw
  cases b with
  | nil => exact s_st (b := []) S ok h H hQ hX hE
  | cons st rest =>
    unfold stepSx at h
    dsimp only at h
    split at h
    · rename_i q
      obtain rfl := asComp_eq q
      refine wpAny_execs_cons (s_listA (K := fun fl ρ J => match fl with | .next => r.st c.fi rest ρ J K X | _ => False) SC S ok h.1 h.2 H (fun n1 f fl ρ1 J1 s1 hs1 k hf H1 => ?_) (hX.ev fun _ h => h))
      cases hf with
      | next => exact S.st rfl ok k H1 (hQ.mono hs1) (hX.mono hs1) hE
      | _ => exact k.elim
    · exact s_st S ok h H hQ hX hE
theorem s_step (SC : SoundC w n call) (S : SoundR w n r) : SoundR w n (stepR call r) where
  ev := fun hw ok h H hQ hX => s_ex SC S hw ok h H hQ hX
  ts := fun hw ok h H hQ hX => s_ts S hw ok h H hQ hX
  st := fun hw ok h H hQ hX hE => by obtain ⟨ρ₀, hl, h⟩ := h; exact s_sx SC S hw ok h (H.forget hl) hQ hX hE
theorem s_noR : SoundR w n noR where
  ev := fun _ _ h _ _ _ => h.elim
  ts := fun _ _ h _ _ _ => h.elim
  st := fun _ _ h _ _ _ _ => h.elim
theorem s_astR (SC : SoundC w n call) : ∀ k, SoundR w n (astR call k)
  | 0 => s_noR
  | k + 1 => s_step SC (s_astR SC k)
theorem s_vcall : ∀ n, SoundC w n (vcall w n)
  | 0 => fun _ _ _ h _ _ _ _ _ => h.elim
  | n + 1 => s_call (s_astR (s_vcall n) 40)
end
end Mine
namespace Mine
section
variable {call : CallT} {k : Nat} {fi : FI} {ρ : Rho} {J : JS} {K : KV} {X : KX} {B : Bool → JS → Prop} {Ks : KS} {P : List SV → JS → Prop}
theorem e_int {i : Int} {kk : Nat} {p : Pos} (h : K (.int i) J) : (astR call (k + 1)).ev fi (.Constant (.int i) kk p) ρ J K X := h
theorem e_bool {i : Bool} {kk : Nat} {p : Pos} (h : K (.bool i) J) : (astR call (k + 1)).ev fi (.Constant (.bool i) kk p) ρ J K X := h
theorem e_str {i : Str} {kk : Nat} {p : Pos} (h : K (.str i) J) : (astR call (k + 1)).ev fi (.Constant (.str i) kk p) ρ J K X := h
theorem e_none {kk : Nat} {p : Pos} (h : K .none J) : (astR call (k + 1)).ev fi (.Constant .none kk p) ρ J K X := h
theorem e_loc {x : Str} {p : Pos} {v : SV} (e : ρ.lookup x = some v) (h : K v J) : (astR call (k + 1)).ev fi (.Name x p) ρ J K X := by
  show nameV fi x ρ (K · J)
  unfold nameV
  rw [e]
  exact h
theorem e_glob {x : Str} {p : Pos} {v : SV} (e : ρ.lookup x = none) (e2 : fi.cs.names.lookup x = some .globalImplicit) (e3 : glook x gtab = some v) (h : K v J) : (astR call (k + 1)).ev fi (.Name x p) ρ J K X := by
  show nameV fi x ρ (K · J)
  unfold nameV
  rw [e, e2]
  dsimp only
  rw [e3]
  exact h
theorem e_bin {l e : Expr} {op : Operator} {p : Pos} (h : (astR call k).ev fi l ρ J (fun a J => (astR call k).ev fi e ρ J (fun b J => VBin op a b (K · J)) X) X) : (astR call (k + 1)).ev fi (.BinOp l op e p) ρ J K X := h
theorem e_neg {e : Expr} {p : Pos} (h : (astR call k).ev fi e ρ J (fun a J => match a with | .int i => K (.int (-i)) J | _ => False) X) : (astR call (k + 1)).ev fi (.UnaryOp .USub e p) ρ J K X := h
theorem e_not {e : Expr} {p : Pos} (h : (astR call k).ev fi e ρ J (fun a J => match a with | .bool i => K (.bool !i) J | _ => False) X) : (astR call (k + 1)).ev fi (.UnaryOp .Not e p) ρ J K X := h
theorem e_ite {t b o : Expr} {p : Pos} (h : (astR call k).ts fi t ρ J (fun c J => (c = true → (astR call k).ev fi b ρ J K X) ∧ (c = false → (astR call k).ev fi o ρ J K X)) X) : (astR call (k + 1)).ev fi (.IfExp t b o p) ρ J K X := h
theorem e_and {e e2 : Expr} {es : List Expr} {p : Pos} (h : (astR call k).ev fi e ρ J (fun v J => match truth v, BoolOp.And with | some b, .And => (b = true → boolE (astR call k) fi .And (e2 :: es) ρ J K X) ∧ (b = false → K v J) | some b, .Or => (b = true → K v J) ∧ (b = false → boolE (astR call k) fi .And (e2 :: es) ρ J K X) | none, _ => False) X) : (astR call (k + 1)).ev fi (.BoolOp .And (e :: e2 :: es) p) ρ J K X := h
theorem b_and {e e2 : Expr} {es : List Expr} (h : (astR call k).ev fi e ρ J (fun v J => match truth v, BoolOp.And with | some b, .And => (b = true → boolE (astR call k) fi .And (e2 :: es) ρ J K X) ∧ (b = false → K v J) | some b, .Or => (b = true → K v J) ∧ (b = false → boolE (astR call k) fi .And (e2 :: es) ρ J K X) | none, _ => False) X) : boolE (astR call k) fi .And (e :: e2 :: es) ρ J K X := h
theorem e_or {e e2 : Expr} {es : List Expr} {p : Pos} (h : (astR call k).ev fi e ρ J (fun v J => match truth v, BoolOp.Or with | some b, .And => (b = true → boolE (astR call k) fi .Or (e2 :: es) ρ J K X) ∧ (b = false → K v J) | some b, .Or => (b = true → K v J) ∧ (b = false → boolE (astR call k) fi .Or (e2 :: es) ρ J K X) | none, _ => False) X) : (astR call (k + 1)).ev fi (.BoolOp .Or (e :: e2 :: es) p) ρ J K X := h
theorem b_or {e e2 : Expr} {es : List Expr} (h : (astR call k).ev fi e ρ J (fun v J => match truth v, BoolOp.Or with | some b, .And => (b = true → boolE (astR call k) fi .Or (e2 :: es) ρ J K X) ∧ (b = false → K v J) | some b, .Or => (b = true → K v J) ∧ (b = false → boolE (astR call k) fi .Or (e2 :: es) ρ J K X) | none, _ => False) X) : boolE (astR call k) fi .Or (e :: e2 :: es) ρ J K X := h
theorem b_one {r : R} {op : BoolOp} {e : Expr} (h : r.ev fi e ρ J K X) : boolE r fi op [e] ρ J K X := by unfold boolE; exact h
theorem e_cmp1 {l e : Expr} {op : CmpOp} {p : Pos} (o : behindInMarks op e = false) (h : (astR call k).ev fi l ρ J (fun a J => (astR call k).ev fi e ρ J (fun b J => VCmp op a b (fun t => K (.bool t) J)) X) X) : (astR call (k + 1)).ev fi (.Compare l [op] [e] p) ρ J K X := ⟨o, h⟩
theorem e_cmp2 {l e1 e2 : Expr} {o1 o2 : CmpOp} {p : Pos} (o : lastMarks [o1, o2] [e1, e2] = false) (h : (astR call k).ev fi l ρ J (fun a J => (astR call k).ev fi e1 ρ J (fun b J => VCmp o1 a b (fun t =>
      (t = true → (astR call k).ev fi e2 ρ J (fun d J => VCmp o2 b d (fun t => K (.bool t) J)) X) ∧ (t = false → K (.bool false) J))) X) X) : (astR call (k + 1)).ev fi (.Compare l [o1, o2] [e1, e2] p) ρ J K X := ⟨o, h⟩
theorem e_call {x : Str} {p p2 : Pos} {as : List Expr} (hs : noStars as) (h : (astR call k).ev fi (.Name x p) ρ J (fun fv J => evs (astR call k) fi as ρ J (fun vs J => callV call fi fv vs J K X) X) X) : (astR call (k + 1)).ev fi (.Call (.Name x p) as [] p2) ρ J K X := ⟨rfl, rfl, hs, h⟩
theorem e_tup {es : List Expr} {kk : Nat} {p : Pos} (hs : noStars es) (h : evs (astR call k) fi es ρ J (fun vs J => vs.length ≤ 1000 ∧ K (.tup vs) J) X) : (astR call (k + 1)).ev fi (.Tuple es kk p) ρ J K X := ⟨hs, h⟩
theorem e_lst {es : List Expr} {p : Pos} (hs : noStars es) (h : evs (astR call k) fi es ρ J (fun vs J => vs.length ≤ 1000 ∧ K (.lst vs) J) X) : (astR call (k + 1)).ev fi (.List es p) ρ J K X := ⟨hs, h⟩
theorem e_sub {v i : Expr} {p : Pos} (h0 : asSlice i = none) (hp : plainIdx i) (h : (astR call k).ev fi v ρ J (fun a J => (astR call k).ev fi i ρ J (fun b J => ItemV J a b (K · J)) X) X) : (astR call (k + 1)).ev fi (.Subscript v i p) ρ J K X := by
  show stepEv call (astR call k) fi (.Subscript v i p) ρ J K X
  simp only [stepEv, h0]
  exact ⟨hp, h⟩
theorem e_sto {v e : Expr} {p p2 : Pos} (h : (astR call k).ev fi v ρ J (fun a J => (astR call k).ev fi e ρ J (fun b J => ((∃ s, a = .str s) ∨ noTemp v) ∧ SliceV none (some b) a (K · J)) X) X) : (astR call (k + 1)).ev fi (.Subscript v (.Slice none (some e) none p2) p) ρ J K X := h
theorem e_sfrom {v e : Expr} {p p2 : Pos} (h : (astR call k).ev fi v ρ J (fun a J => (astR call k).ev fi e ρ J (fun b J => ((∃ s, a = .str s) ∨ noTemp v) ∧ SliceV (some b) none a (K · J)) X) X) : (astR call (k + 1)).ev fi (.Subscript v (.Slice (some e) none none p2) p) ρ J K X := h
theorem e_lam {ps : Arguments} {body : Expr} {sc : Scope} {p : Pos} (h : lamV fi ps body sc ρ (K · J)) : (astR call (k + 1)).ev fi (.Lambda ps body sc p) ρ J K X := h
theorem e_list {elt : Expr} {gens : List Comprehension} {sc : Scope} {p : Pos} (h : listV call (astR call k) fi elt gens sc ρ J K X) : (astR call (k + 1)).ev fi (.ListComp elt gens sc p) ρ J K X := h
theorem l_comp {r : R} {elt iter : Expr} {x : Str} {px : Pos} {ifs : List Expr} {scope : Scope} {el : ElT} (hh : fi.hd = false) (he : ElemV call fi ρ x ifs elt scope el) (hf : ∀ env y, foldedSetIterable iter env y = pure y)
    (h : r.ev fi iter ρ J (fun v J => smallV v ∧ ∃ items, itemsX v = some items ∧ items.length ≤ 1000 ∧ compN el items [] J (fun vs J => K (.lst vs) J)) X) : listV call r fi elt [⟨.Name x px, iter, ifs, 0⟩] scope ρ J K X := ⟨hh, el, he, hf, h⟩

theorem t_not {e : Expr} {p : Pos} (h : (astR call k).ts fi e ρ J (fun b J => B (!b) J) X) : (astR call (k + 1)).ts fi (.UnaryOp .Not e p) ρ J B X := h
theorem t_bop {op : BoolOp} {es : List Expr} {p : Pos} (h : boolT (astR call k) fi op es ρ J B X) : (astR call (k + 1)).ts fi (.BoolOp op es p) ρ J B X := h
theorem bt_and {r : R} {e : Expr} {es : List Expr} (h : r.ts fi e ρ J (fun b J => (b = true → boolT r fi .And es ρ J B X) ∧ (b = false → B false J)) X) : boolT r fi .And (e :: es) ρ J B X := h
theorem bt_or {r : R} {e : Expr} {es : List Expr} (h : r.ts fi e ρ J (fun b J => (b = true → B true J) ∧ (b = false → boolT r fi .Or es ρ J B X)) X) : boolT r fi .Or (e :: es) ρ J B X := h
theorem bt_and0 {r : R} (h : B true J) : boolT r fi .And [] ρ J B X := h
theorem bt_or0 {r : R} (h : B false J) : boolT r fi .Or [] ρ J B X := h
theorem t_cmp1 {l e : Expr} {op : CmpOp} {p : Pos} (o : behindInMarks op e = false) (h : (astR call k).ev fi l ρ J (fun a J => (astR call k).ev fi e ρ J (fun b J => VCmp op a b (B · J)) X) X) : (astR call (k + 1)).ts fi (.Compare l [op] [e] p) ρ J B X := ⟨o, h⟩
theorem t_cmp2 {l e1 e2 : Expr} {o1 o2 : CmpOp} {p : Pos} (o : lastMarks [o1, o2] [e1, e2] = false) (h : (astR call k).ev fi l ρ J (fun a J => (astR call k).ev fi e1 ρ J (fun b J => VCmp o1 a b (fun t =>
      (t = true → (astR call k).ev fi e2 ρ J (fun d J => VCmp o2 b d (B · J)) X) ∧ (t = false → B false J))) X) X) : (astR call (k + 1)).ts fi (.Compare l [o1, o2] [e1, e2] p) ρ J B X := ⟨o, h⟩
theorem t_call {f : Expr} {as : List Expr} {kw : List Keyword} {p : Pos} (h : (astR call k).ev fi (.Call f as kw p) ρ J (fun v J => match truth v with | some b => B b J | none => False) X) : (astR call (k + 1)).ts fi (.Call f as kw p) ρ J B X := h
theorem t_name {x : Str} {p : Pos} (h : (astR call k).ev fi (.Name x p) ρ J (fun v J => match truth v with | some b => B b J | none => False) X) : (astR call (k + 1)).ts fi (.Name x p) ρ J B X := h
theorem a_nil {r : R} (h : P [] J) : evs r fi [] ρ J P X := h
theorem a_cons {r : R} {e : Expr} {es : List Expr} (h : r.ev fi e ρ J (fun v J => evs r fi es ρ J (fun vs J => P (v :: vs) J) X) X) : evs r fi (e :: es) ρ J P X := h
theorem v_fn {a : Addr} {vs : List SV} (hh : fi.hd = false) (h : call (.fn a) vs J K X) : callV call fi (.fn a) vs J K X := ⟨hh, h⟩
theorem v_clo {q : Str} {ps : Arguments} {b : Expr} {sc : Scope} {fv : List (Str × SV)} {vs : List SV} (hh : fi.hd = false) (h : call (.clo q ps b sc fv) vs J K X) : callV call fi (.clo q ps b sc fv) vs J K X := ⟨hh, h⟩
theorem v_bi {f : String} {vs : List SV} (h : CallB f vs (K · J)) : callV call fi (.bi f) vs J K X := .inl h
theorem v_len (hl : J.cells.length ≤ 1000) (h : K (.int J.cells.length) J) : callV call fi (.bi "len") [.cells] J K X := .inr (.mk hl h)
theorem v_ty {f : String} {vs : List SV} (h : CallTy f vs (K · J)) : callV call fi (.ty f) vs J K X := h
theorem Less.refl (ρ : Rho) : Less ρ ρ := fun _ _ h => h
theorem Less.nil {ρ : Rho} : Less ρ [] := fun _ _ h => nomatch h
theorem Less.cons {ρ l : Rho} {x : Str} {v : SV} (h : ρ.lookup x = some v) (h2 : Less ρ l) : Less ρ ((x, v) :: l) := fun y u e => by
  rw [List.lookup_cons] at e
  cases q : (y == x) with
  | true => rw [q] at e; cases e; obtain rfl := beq_iff_eq.mp q; exact h
  | false => rw [q] at e; exact h2 y u e
theorem st_nil (h : Ks .next ρ J) : (astR call (k + 1)).st fi [] ρ J Ks X := ⟨ρ, .refl _, h⟩
theorem st_forget {b : List Stmt} (ρ₀ : Rho) (hl : Less ρ ρ₀) (h : (astR call (k + 1)).st fi b ρ₀ J Ks X) : (astR call (k + 1)).st fi b ρ J Ks X := let ⟨ρ₁, h1, h2⟩ := h; ⟨ρ₁, fun x v e => hl x v (h1 x v e), h2⟩
noncomputable abbrev KN (call : CallT) (k : Nat) (fi : FI) (rest : List Stmt) (K : KS) (X : KX) : KS := fun fl ρ J => match fl with
    | .next => (astR call k).st fi rest ρ J K X
    | .brk => K .brk ρ J
    | .cont => K .cont ρ J
    | .ret v => K (.ret v) ρ J
theorem st_cons {s : Stmt} {rest : List Stmt} (hc : asComp s = none) (h : StmtV (astR call k) fi ρ J (KN call k fi rest Ks X) X s) : (astR call (k + 1)).st fi (s :: rest) ρ J Ks X := by
  refine ⟨ρ, .refl _, ?_⟩
  unfold stepSx
  dsimp only
  rw [hc]
  exact h
section
variable {rest : List Stmt}
theorem st_ret {e : Expr} {p : Pos} (h : (astR call k).ev fi e ρ J (fun v J => Ks (.ret v) ρ J) X) : (astR call (k + 1)).st fi (.Return (some e) p :: rest) ρ J Ks X := st_cons rfl (.ret h)
theorem st_name {x : Str} {v : Expr} {p p2 : Pos} (hc : asComp (.Assign [.Name x p2] v p) = none) (hn : noSwap v) (h : (astR call k).ev fi v ρ J (fun v J => storeV fi x v ρ (fun ρ => (astR call k).st fi rest ρ J Ks X)) X) : (astR call (k + 1)).st fi (.Assign [.Name x p2] v p :: rest) ρ J Ks X := st_cons hc (.assign hn h)
theorem st_tup {es : List Expr} {kk : Nat} {v : Expr} {p p2 : Pos} (hn : noSwap v) (hs : ∀ L a cd cl, swappedStores [.Tuple es kk p2] v (envX fi.cn fi.cs L a cd cl) = pure none) (hh : fi.hd = false)
    (h : (astR call k).ev fi v ρ J (fun tv J => storeTg fi (.Tuple es kk p2) tv ρ (fun ρ => (astR call k).st fi rest ρ J Ks X)) X) : (astR call (k + 1)).st fi (.Assign [.Tuple es kk p2] v p :: rest) ρ J Ks X :=
  st_cons rfl (.assign hn ⟨none, hs, Eq.mp (by congr 1; funext tv J; exact propext ⟨fun q => ⟨hh, q⟩, fun q => q.2⟩) h⟩)
theorem st_swap {es : List Expr} {kk : Nat} {v : Expr} {p p2 : Pos} (hn : noSwap v) (hs : ∀ L a cd cl, swappedStores [.Tuple es kk p2] v (envX fi.cn fi.cs L a cd cl) = pure (some (es.filterMap asName))) (hh : fi.hd = false)
    (h : (astR call k).ev fi v ρ J (fun tv J => ∃ vs, tv = .tup vs ∧ (es.filterMap asName).length = vs.length ∧ storeN fi (es.filterMap asName).reverse vs.reverse ρ (fun ρ => (astR call k).st fi rest ρ J Ks X)) X) : (astR call (k + 1)).st fi (.Assign [.Tuple es kk p2] v p :: rest) ρ J Ks X := by
  refine st_cons rfl (.assign hn ⟨some (es.filterMap asName), hs, Eq.mp ?_ h⟩)
  congr 1
  funext tv J
  refine propext ⟨?_, fun q => ?_⟩
  · rintro ⟨vs, rfl, h1, h2⟩; exact ⟨hh, h1, h2⟩
  · cases tv with
    | tup vs => exact ⟨vs, rfl, q.2.1, q.2.2⟩
    | _ => exact q.elim
theorem st_swap2 {x y : Str} {px py : Pos} {kk : Nat} {v : Expr} {p p2 : Pos} (hn : noSwap v) (hs : ∀ L a cd cl, swappedStores [.Tuple [.Name x px, .Name y py] kk p2] v (envX fi.cn fi.cs L a cd cl) = pure (some [x, y])) (hh : fi.hd = false)
    (h : (astR call k).ev fi v ρ J (fun tv J => match tv with | .tup [v1, v2] => storeV fi y v2 ρ (fun ρ => storeN fi [x] [v1] ρ (fun ρ => (astR call k).st fi rest ρ J Ks X)) | _ => False) X) : (astR call (k + 1)).st fi (.Assign [.Tuple [.Name x px, .Name y py] kk p2] v p :: rest) ρ J Ks X := by
  refine st_swap hn hs hh (Eq.mp ?_ h)
  congr 1
  funext tv J
  refine propext ⟨fun q => ?_, ?_⟩
  · match tv, q with
    | .tup [v1, v2], q => exact ⟨_, rfl, rfl, q⟩
  · rintro ⟨vs, rfl, h1, h2⟩
    match vs, h1, h2 with
    | [v1, v2], _, h2 => exact h2
theorem st_swap3 {x y z : Str} {px py pz : Pos} {kk : Nat} {v : Expr} {p p2 : Pos} (hn : noSwap v) (hs : ∀ L a cd cl, swappedStores [.Tuple [.Name x px, .Name y py, .Name z pz] kk p2] v (envX fi.cn fi.cs L a cd cl) = pure (some [x, y, z])) (hh : fi.hd = false)
    (h : (astR call k).ev fi v ρ J (fun tv J => match tv with | .tup [v1, v2, v3] => storeV fi z v3 ρ (fun ρ => storeV fi y v2 ρ (fun ρ => storeN fi [x] [v1] ρ (fun ρ => (astR call k).st fi rest ρ J Ks X))) | _ => False) X) : (astR call (k + 1)).st fi (.Assign [.Tuple [.Name x px, .Name y py, .Name z pz] kk p2] v p :: rest) ρ J Ks X := by
  refine st_swap hn hs hh (Eq.mp ?_ h)
  congr 1
  funext tv J
  refine propext ⟨fun q => ?_, ?_⟩
  · match tv, q with
    | .tup [v1, v2, v3], q => exact ⟨_, rfl, rfl, q⟩
  · rintro ⟨vs, rfl, h1, h2⟩
    match vs, h1, h2 with
    | [v1, v2, v3], _, h2 => exact h2
theorem st_set {o i v : Expr} {p p2 : Pos} (hn : noSwap v) (h : (astR call k).ev fi v ρ J (fun vv J => (astR call k).ev fi o ρ J (fun ov J => (astR call k).ev fi i ρ J (fun iv J => SetV J ov iv vv (fun J => (astR call k).st fi rest ρ J Ks X)) X) X) X) :
    (astR call (k + 1)).st fi (.Assign [.Subscript o i p2] v p :: rest) ρ J Ks X := st_cons rfl (.assign hn h)
theorem st_aug {x : Str} {p p' : Pos} {v : Expr} {i : Int} (hr : ρ.lookup x = some (.int i)) (hl : fi.cs.names.lookup x = some .local) (h : (astR call k).ev fi v ρ J (fun b J => ∃ j, b = .int j ∧ storeV fi x (.int (i + j)) ρ (fun ρ => (astR call k).st fi rest ρ J Ks X)) X) :
    (astR call (k + 1)).st fi (.AugAssign (.Name x p) .Add v p' :: rest) ρ J Ks X := st_cons rfl (.aug hr hl h)
theorem st_ite {t : Expr} {b o : List Stmt} {p : Pos} (h : (astR call k).ts fi t ρ J (fun c J => (c = true → (astR call k).st fi b ρ J (KN call k fi rest Ks X) X) ∧ (c = false → (astR call k).st fi o ρ J (KN call k fi rest Ks X) X)) X) : (astR call (k + 1)).st fi (.If t b o p :: rest) ρ J Ks X := st_cons rfl (.ite h)
theorem st_loop {t it : Expr} {b : List Stmt} {p : Pos} (hh : fi.hd = false) (hf : ∀ env x, foldedSetIterable it env x = pure x) (h : (astR call k).ev fi it ρ J (fun v J => smallV v ∧ ∃ items, itemsV v = some items ∧ loopV (astR call k) fi t b items ρ J (KN call k fi rest Ks X) X) X) :
    (astR call (k + 1)).st fi (.For t it b [] p :: rest) ρ J Ks X := st_cons rfl (.loop hh hf h)
theorem st_brk {p : Pos} (h : Ks .brk ρ J) : (astR call (k + 1)).st fi (.Break p :: rest) ρ J Ks X := st_cons rfl (.brk h)
theorem st_raise {x m : Str} {kk : Nat} {p p2 p3 p4 : Pos} {C : Addr} (hh : fi.hd = false) (hx : fi.cs.names.lookup x = some .globalImplicit) (hC : excOf x = some C) (h : X C J) : (astR call (k + 1)).st fi (.Raise (some (.Call (.Name x p) [.Constant (.str m) kk p2] [] p3)) none p4 :: rest) ρ J Ks X := st_cons rfl (.raise hh hx hC h)
theorem st_tryA {t v : Expr} {p p2 : Pos} {h : ExceptHandler} {hs : List ExceptHandler} (hh : fi.hd = false) (hc : fi.cells = false) (hn : noSwap v) (h1 : assignV (astR call k) fi t v ρ J (KN call k fi rest Ks X) (fun C J => HandV (astR call k) fi C ρ J (KN call k fi rest Ks X) (h :: hs))) :
    (astR call (k + 1)).st fi (.Try [.Assign [t] v p] (h :: hs) [] [] p2 :: rest) ρ J Ks X := st_cons rfl (.tryA hh hc hn h1)
theorem st_tryE {v : Expr} {p p2 : Pos} {h : ExceptHandler} {hs : List ExceptHandler} (hh : fi.hd = false) (hc : fi.cells = false) (hn : noSwap v) (h1 : (astR call k).ev fi v ρ J (fun _ J => (astR call k).st fi rest ρ J Ks X) (fun C J => HandV (astR call k) fi C ρ J (KN call k fi rest Ks X) (h :: hs))) :
    (astR call (k + 1)).st fi (.Try [.Expr v p] (h :: hs) [] [] p2 :: rest) ρ J Ks X := st_cons rfl (.tryE hh hc hn h1)
theorem st_comp {y : Str} {py pos spos : Pos} {elt : Expr} {gens : List Comprehension} {sc : Scope} (hs : ∀ L a cd cl, swapsWith (.ListComp elt gens sc pos) (some (.Name y py)) spos.line (envX fi.cn fi.cs L a cd cl) = pure true)
    (h : listV call (astR call k) fi elt gens sc ρ J (fun v J => storeV fi y v ρ (fun ρ => (astR call k).st fi rest ρ J Ks X)) X) : (astR call (k + 1)).st fi (.Assign [.Name y py] (.ListComp elt gens sc pos) spos :: rest) ρ J Ks X := ⟨ρ, .refl _, hs, h⟩
end
theorem ite_dec {p : Prop} [Decidable p] {A B : Prop} (h1 : p → A) (h2 : ¬ p → B) : (decide p = true → A) ∧ (decide p = false → B) := ⟨fun q => h1 (of_decide_eq_true q), fun q => h2 (of_decide_eq_false q)⟩
theorem ite_ndec {p : Prop} [Decidable p] {A B : Prop} (h1 : ¬ p → A) (h2 : p → B) : ((!decide p) = true → A) ∧ ((!decide p) = false → B) :=
  ⟨fun q => h1 (fun z => by rw [decide_eq_true z] at q; cases q), fun q => h2 (Decidable.byContradiction fun z => by rw [decide_eq_false z] at q; cases q)⟩
theorem ite_cl {c : Bool} {A B : Prop} (d : c = true) (h : A) : (c = true → A) ∧ (c = false → B) := ⟨fun _ => h, fun q => nomatch d.symm.trans q⟩
theorem ite_cf {c : Bool} {A B : Prop} (d : c = false) (h : B) : (c = true → A) ∧ (c = false → B) := ⟨(fun q => nomatch d.symm.trans q), fun _ => h⟩
theorem store_loc {x : Str} {v : SV} {Kr : Rho → Prop} (hl : fi.cs.names.lookup x = some .local) (h : put x v ρ Kr) : storeV fi x v ρ Kr := by unfold storeV; rw [hl]; exact h
theorem put_hit {x : Str} {v u : SV} {l : Rho} {Kr : Rho → Prop} (h : Kr ((x, v) :: l)) : put x v ((x, u) :: l) Kr := by unfold put; rw [if_pos rfl]; exact h
theorem put_miss {x y : Str} {v u : SV} {l : Rho} {Kr : Rho → Prop} (hn : (x == y) = false) (h : put x v l (fun l => Kr ((y, u) :: l))) : put x v ((y, u) :: l) Kr := by unfold put; rw [if_neg (beq_eq_false_iff_ne.mp hn)]; exact h
theorem put_end {x : Str} {v : SV} {Kr : Rho → Prop} (h : Kr [(x, v)]) : put x v [] Kr := h
end
theorem p2_30 {K : SV → Prop} (h : K (.int 1073741824)) : VBin .Pow (.int 2) (.int 30) K := .pow ⟨by decide, by decide⟩ ⟨by decide, by decide⟩ (by rw [show (2 : Int) ^ Int.toNat 30 = 1073741824 by decide]; exact h)
theorem p2_31 {K : SV → Prop} (h : K (.int 2147483648)) : VBin .Pow (.int 2) (.int 31) K := .pow ⟨by decide, by decide⟩ ⟨by decide, by decide⟩ (by rw [show (2 : Int) ^ Int.toNat 31 = 2147483648 by decide]; exact h)
theorem p2_17 {K : SV → Prop} (h : K (.int 131072)) : VBin .Pow (.int 2) (.int 17) K := .pow ⟨by decide, by decide⟩ ⟨by decide, by decide⟩ (by rw [show (2 : Int) ^ Int.toNat 17 = 131072 by decide]; exact h)
theorem p10_18 {K : SV → Prop} (h : K (.int 1000000000000000000)) : VBin .Pow (.int 10) (.int 18) K := .pow ⟨by decide, by decide⟩ ⟨by decide, by decide⟩ (by rw [show (10 : Int) ^ Int.toNat 18 = 1000000000000000000 by decide]; exact h)
theorem def_of {w : World} {a : Addr} {lam : Nat} {oc : Value} {od : Option Addr} {name qual : Str} {params : Arguments} {body : List Stmt} {scope : Scope} {dV kV doc pm cdv ct : Value} {an : Option Addr} {osl : Array (Option Value)} {ps : List Str}
    (h1 : (hd.heap_39 w.params).lookup a = some ⟨oc, od, .func (fnOf name qual params body scope dV kV doc pm an cdv ct), osl⟩) (h2 : codeIn (hd.heap_39 w.params) cdv qual = true)
    (h3 : ∀ xs : List Value, xs.length = ps.length → bindArgs (fnOf name qual params body scope dV kV doc pm an cdv ct) ⟨xs, []⟩ = pure (ps.zip xs)) (h4 : scopeOk scope) (h5 : lam = 1 → cdv = .ref 271 ∧ qual = nDoors) (h6 : lam = 2 → cdv = .ref 224 ∧ qual = nProds) :
    IsDef w a lam qual scope ps body := ⟨_, _, _, _, _, _, _, _, _, _, _, _, h1, h2, h3, h4, h5, h6⟩
theorem bind1 {fd : FuncData} {p : Str} (h : ∀ x, bindArgs fd ⟨[x], []⟩ = pure [(p, x)]) : ∀ xs : List Value, xs.length = [p].length → bindArgs fd ⟨xs, []⟩ = pure ([p].zip xs)
  | [x], _ => h x
theorem bind2 {fd : FuncData} {p q : Str} (h : ∀ x y, bindArgs fd ⟨[x, y], []⟩ = pure [(p, x), (q, y)]) : ∀ xs : List Value, xs.length = [p, q].length → bindArgs fd ⟨xs, []⟩ = pure ([p, q].zip xs)
  | [x, y], _ => h x y
theorem bind3 {fd : FuncData} {p q r : Str} (h : ∀ x y z, bindArgs fd ⟨[x, y, z], []⟩ = pure [(p, x), (q, y), (r, z)]) : ∀ xs : List Value, xs.length = [p, q, r].length → bindArgs fd ⟨xs, []⟩ = pure ([p, q, r].zip xs)
  | [x, y, z], _ => h x y z
theorem bind4 {fd : FuncData} {p q r t : Str} (h : ∀ x y z u, bindArgs fd ⟨[x, y, z, u], []⟩ = pure [(p, x), (q, y), (r, z), (t, u)]) : ∀ xs : List Value, xs.length = [p, q, r, t].length → bindArgs fd ⟨xs, []⟩ = pure ([p, q, r, t].zip xs)
  | [x, y, z, u], _ => h x y z u
end Mine
local macro_rules
  | `(tactic| walk_at "VSM") => `(tactic| first | exact Or.inl ⟨by omega, by omega⟩ | exact Or.inr ⟨by omega, by omega⟩)
  | `(tactic| walk_at "V1") => `(tactic| first
    | with_reducible first | refine Mine.e_bin ?_ | refine Mine.e_int ?_ | refine Mine.a_cons ?_ | refine Mine.a_nil ?_ | refine Mine.VBin.add ?_ | refine Mine.VBin.sub ?_ | refine Mine.p2_30 ?_ | refine Mine.p2_31 ?_ | refine Mine.p2_17 ?_ | refine Mine.p10_18 ?_ | refine Mine.VCmp.lt ?_ | refine Mine.VCmp.le ?_ | refine Mine.VCmp.eq ?_ | refine Mine.VCmp.ne ?_ | refine Mine.VCmp.gt ?_ | refine Mine.VCmp.ge ?_ | refine Mine.VCmp.neb ?_ | refine Mine.st_ret ?_ | refine Mine.st_nil ?_ | refine Mine.put_hit ?_ | refine Mine.put_end ?_ | refine Mine.t_not ?_ | refine Mine.t_bop ?_ | refine Mine.bt_and ?_ | refine Mine.bt_or ?_ | refine Mine.bt_and0 ?_ | refine Mine.bt_or0 ?_ | refine Mine.t_call ?_ | refine Mine.t_name ?_ | refine Mine.e_and ?_ | refine Mine.e_or ?_ | refine Mine.b_and ?_ | refine Mine.b_or ?_ | refine Mine.b_one ?_ | refine Mine.e_neg ?_ | refine Mine.e_not ?_ | refine Mine.e_ite ?_ | refine Mine.e_bool ?_ | refine Mine.e_none ?_ | refine Mine.e_str ?_ | refine Mine.v_bi (Mine.CallB.abs ?_)
    | ((with_reducible refine' Mine.e_loc ?e ?_); (case e => exact rfl))
    | ((with_reducible refine' Mine.e_glob ?e ?f ?g ?_); (case e => exact rfl); (case f => exact rfl); (case g => exact rfl))
    | ((with_reducible refine' Mine.e_call ?e ?_); (case e => exact fun _ => rfl))
    | ((with_reducible refine' Mine.v_fn ?e ?_); (case e => exact rfl))
    | ((with_reducible refine' Mine.VBin.mul ?e ?_); (case e => walk_at "VSM"))
    | ((with_reducible refine' Mine.VBin.div ?e ?f ?_); (case e => omega); (case f => exact ⟨by omega, by omega⟩))
    | ((with_reducible refine' Mine.VBin.mod ?e ?_); (case e => omega))
    | ((with_reducible refine' Mine.VBin.pow ?e ?f ?_); (case e => exact ⟨by omega, by omega⟩); (case f => omega))
    | ((with_reducible refine' Mine.t_cmp1 ?e ?_); (case e => exact rfl))
    | ((with_reducible refine' Mine.e_cmp1 ?e ?_); (case e => exact rfl))
    | ((with_reducible refine' Mine.t_cmp2 ?e ?_); (case e => exact rfl))
    | ((with_reducible refine' Mine.e_cmp2 ?e ?_); (case e => exact rfl))
    | ((with_reducible refine' Mine.st_name ?e ?f ?_); (case e => exact rfl); (case f => exact fun _ _ _ => rfl))
    | ((with_reducible refine' Mine.store_loc ?e ?_); (case e => exact rfl))
    | ((with_reducible refine' Mine.put_miss ?e ?_); (case e => exact rfl))
    | ((with_reducible refine' Mine.v_bi (Mine.CallB.isi (b := true) ?e ?f ?_)); (case e => exact rfl); (case f => first | exact Or.inl rfl | exact Or.inr rfl))
    | ((with_reducible refine' Mine.v_bi (Mine.CallB.isi (b := false) ?e ?f ?_)); (case e => exact rfl); (case f => first | exact Or.inl rfl | exact Or.inr rfl))
    | ((with_reducible refine' Mine.v_bi (Mine.CallB.divmod ?e ?f ?_)); (case e => omega); (case f => exact ⟨by omega, by omega⟩))
    | ((with_reducible refine' Mine.e_tup ?e ?_); (case e => exact fun _ => rfl))
    | ((with_reducible refine' Mine.e_lst ?e ?_); (case e => exact fun _ => rfl))
    | ((with_reducible refine' Mine.st_raise ?e ?f ?g ?_); (case e => exact rfl); (case f => exact rfl); (case g => exact rfl))
    | ((with_reducible refine' Mine.ite_cl ?e ?_); (case e => decide))
    | ((with_reducible refine' Mine.ite_cf ?e ?_); (case e => decide)))
  | `(tactic| walk_at "DEF") => `(tactic| (refine' Mine.def_of ?h1 ?h2 ?h3 ?h4 ?h5 ?h6; (case h1 => k_dflt k_is); (case h2 => k_dflt k_is); (case h3 => first | exact Mine.bind1 fun x => rfl | exact Mine.bind2 fun x y => rfl | exact Mine.bind3 fun x y z => rfl | exact Mine.bind4 fun x y z u => rfl); (case h4 => exact ⟨rfl, rfl, rfl, rfl, rfl⟩); (case h5 => intro z; first | exact ⟨rfl, rfl⟩ | cases z); (case h6 => intro z; first | exact ⟨rfl, rfl⟩ | cases z)))
namespace Mine
/-- what is no whole number -/
inductive Bad : SV → Prop
  | bool (b : Bool) : Bad (.bool b)
  | str (s : Str) : Bad (.str s)
  | none : Bad .none
section
variable {w : World} {n : Nat} {J : JS} {K : KV} {X : KX}
theorem sg_name {fi : FI} {x : Str} {p : Pos} {v : SV} {ρ : Rho} {K : Rho → Prop} (h : storeV fi x v ρ K) : storeTg fi (.Name x p) v ρ K := h
theorem sg_tup {fi : FI} {es : List Expr} {k : Nat} {p : Pos} {vs : List SV} {ρ : Rho} {K : Rho → Prop} (h1 : ∀ env, (assignEach es env) = es.map fun e => (false, assign e env)) (h2 : es.length = vs.length) (h : storeAll fi es vs ρ K) : storeTg fi (.Tuple es k p) (.tup vs) ρ K := ⟨h1, h2, h⟩
theorem sa_cons {fi : FI} {x : Str} {p : Pos} {ts : List Expr} {v : SV} {vs : List SV} {ρ : Rho} {K : Rho → Prop} (h : storeV fi x v ρ (fun ρ => storeAll fi ts vs ρ K)) : storeAll fi (.Name x p :: ts) (v :: vs) ρ K := h
theorem sa_nil {fi : FI} {ρ : Rho} {K : Rho → Prop} (h : K ρ) : storeAll fi [] [] ρ K := ⟨rfl, h⟩
theorem sn_cons {fi : FI} {x : Str} {xs : List Str} {v : SV} {vs : List SV} {ρ : Rho} {K : Rho → Prop} (h : storeV fi x v ρ (fun ρ => storeN fi xs vs ρ K)) : storeN fi (x :: xs) (v :: vs) ρ K := h
theorem sn_nil {fi : FI} {ρ : Rho} {K : Rho → Prop} (h : K ρ) : storeN fi [] [] ρ K := ⟨rfl, h⟩
theorem and_len {l : List SV} {P : Prop} (h1 : l.length ≤ 1000) (h : P) : l.length ≤ 1000 ∧ P := ⟨h1, h⟩
theorem abs_eq (a : Int) : (if a < 0 then -a else a) = (a.natAbs : Int) := by split <;> omega
theorem v_abs {call : CallT} {fi : FI} {a : Int} (h : K (.int (a.natAbs : Int)) J) : callV call fi (.bi "abs") [.int a] J K X := .inl (.abs (by rw [abs_eq]; exact h))
section
variable {r : R} {fi : FI} {t : Expr} {b : List Stmt} {ρ : Rho} {Ks : KS}
theorem st_ite_j {call : CallT} {k : Nat} {te : Expr} {o rest : List Stmt} {p : Pos} (P : Rho → JS → Prop)
    (h1 : ∀ Kn : KS, (∀ ρ J, P ρ J → Kn .next ρ J) → (∀ v ρ J, Ks (.ret v) ρ J → Kn (.ret v) ρ J) → (astR call k).ts fi te ρ J (fun c J => (c = true → (astR call k).st fi b ρ J Kn X) ∧ (c = false → (astR call k).st fi o ρ J Kn X)) X)
    (h2 : ∀ ρ J, P ρ J → (astR call k).st fi rest ρ J Ks X) : (astR call (k + 1)).st fi (.If te b o p :: rest) ρ J Ks X := st_ite (h1 _ h2 fun _ _ _ h => h)
theorem l_nil (ρ₀ : Rho) (hl : Less ρ ρ₀) (h : Ks .next ρ₀ J) : loopV r fi t b [] ρ J Ks X := ⟨ρ₀, hl, h⟩
theorem l_cons {v : SV} {vs : List SV} (ρ₀ : Rho) (hl : Less ρ ρ₀) (h : storeTg fi t v ρ₀ (fun ρ => r.st fi b ρ J (fun fl ρ J => match fl with
    | .next => loopV r fi t b vs ρ J Ks X
    | .cont => loopV r fi t b vs ρ J Ks X
    | .brk => ∃ ρ₀, Less ρ ρ₀ ∧ Ks .next ρ₀ J
    | .ret u => Ks (.ret u) ρ J) X)) : loopV r fi t b (v :: vs) ρ J Ks X := ⟨ρ₀, hl, h⟩
theorem l_ind (I : List SV → Rho → JS → Prop) (h0 : ∀ ρ J, I [] ρ J → loopV r fi t b [] ρ J Ks X) (h1 : ∀ v vs, (∀ ρ J, I vs ρ J → loopV r fi t b vs ρ J Ks X) → ∀ ρ J, I (v :: vs) ρ J → loopV r fi t b (v :: vs) ρ J Ks X) :
    ∀ items ρ J, I items ρ J → loopV r fi t b items ρ J Ks X
  | [], ρ, J, h => h0 ρ J h
  | v :: vs, ρ, J, h => h1 v vs (l_ind I h0 h1 vs) ρ J h
end
theorem c_is_whole {i lo hi : Int} (h : K (.bool (decide (lo ≤ i ∧ i ≤ hi))) J) : vcall w (n + 1) (.fn 66) [.int i, .int lo, .int hi] J K X := by
  refine' Mine.FnCall.fn (lam := 0) (ps := [Str.ofString "value", Str.ofString "low", Str.ofString "high"]) ?D rfl ?c ?l ?_
  case D => walk_at "DEF"
  case c => decide
  case l => decide
  dsimp only [Mine.zipR]
  (repeat (first | walk_at "V1" | with_reducible refine Mine.st_ite ?_))
  refine ite_dec (fun h1 => ?_) (fun h1 => ?_)
  · (repeat (first | walk_at "V1" | with_reducible refine Mine.st_ite ?_))
    rw [show decide (i ≤ hi) = decide (lo ≤ i ∧ i ≤ hi) by simp [h1]]
    exact h
  · rw [decide_eq_false (fun q => h1 q.1)] at h
    exact h
theorem c_is_whole_bad {v : SV} {lo hi : Int} (b : Bad v) (h : K (.bool false) J) : vcall w (n + 1) (.fn 66) [v, .int lo, .int hi] J K X := by
  cases b
  all_goals
    refine' Mine.FnCall.fn (lam := 0) (ps := [Str.ofString "value", Str.ofString "low", Str.ofString "high"]) ?D rfl ?c ?l ?_
    case D => walk_at "DEF"
    case c => decide
    case l => decide
    dsimp only [Mine.zipR]
    (repeat (first | walk_at "V1" | with_reducible refine Mine.st_ite ?_))
    try exact h
theorem c_check_whole {i : Int} (h : K (.int i) J) : vcall w (n + 1) (.fn 73) [.int i] J K X := by
  refine' Mine.FnCall.fn (lam := 0) (ps := [Str.ofString "value"]) ?D rfl ?c ?l ?_
  case D => walk_at "DEF"
  case c => decide
  case l => decide
  dsimp only [Mine.zipR]
  (repeat (first | walk_at "V1" | with_reducible refine Mine.st_ite ?_))
  exact h
theorem c_check_whole_bad {v : SV} (b : Bad v) (h : X 45 J) : vcall w (n + 1) (.fn 73) [v] J K X := by
  cases b
  all_goals
    refine' Mine.FnCall.fn (lam := 0) (ps := [Str.ofString "value"]) ?D rfl ?c ?l ?_
    case D => walk_at "DEF"
    case c => decide
    case l => decide
    dsimp only [Mine.zipR]
    (repeat (first | walk_at "V1" | with_reducible refine Mine.st_ite ?_))
    exact h
end
end Mine
local macro_rules
  | `(tactic| walk_at "V1") => `(tactic| first
    | with_reducible first | refine Mine.c_check_whole ?_ | refine Mine.c_is_whole ?_ | refine Mine.sg_name ?_ | refine Mine.sa_cons ?_ | refine Mine.sa_nil ?_ | refine Mine.sn_cons ?_ | refine Mine.sn_nil ?_ | refine Mine.v_abs ?_ | refine Mine.e_sto ?_ | refine Mine.e_sfrom ?_ | refine Mine.v_ty ?_
    | ((with_reducible refine' Mine.st_tup ?e ?f ?g ?_); (case e => exact fun _ _ _ => rfl); (case f => exact fun _ _ _ _ => rfl); (case g => exact rfl))
    | ((with_reducible refine' Mine.st_swap2 ?e ?f ?g ?_); (case e => exact fun _ _ _ => rfl); (case f => exact fun _ _ _ _ => rfl); (case g => exact rfl))
    | ((with_reducible refine' Mine.st_swap3 ?e ?f ?g ?_); (case e => exact fun _ _ _ => rfl); (case f => exact fun _ _ _ _ => rfl); (case g => exact rfl))
    | ((with_reducible refine' Mine.sg_tup ?e ?f ?_); (case e => exact fun _ => rfl); (case f => exact rfl))
    | ((with_reducible refine' Mine.and_len ?e ?_); (case e => exact Nat.le_of_ble_eq_true rfl))
    | ((with_reducible refine' Mine.e_sub ?e ?f ?_); (case e => exact rfl); (case f => exact fun _ _ _ => rfl))
    | ((with_reducible refine' Mine.st_loop ?e ?f ?_); (case e => exact rfl); (case f => exact fun _ _ => rfl))
    | ((with_reducible refine' Mine.st_aug ?e ?f ?_); (case e => exact rfl); (case f => exact rfl)))
namespace Mine
section
variable {w : World} {n : Nat} {J : JS} {K : KV} {X : KX}
theorem c_check_number {i : Int} (h1 : -2147483647 ≤ i → i ≤ 2147483647 → K (.int i) J) (h2 : ¬ (-2147483647 ≤ i ∧ i ≤ 2147483647) → X 57 J) : vcall w (n + 2) (.fn 80) [.int i] J K X := by
  refine' Mine.FnCall.fn (lam := 0) (ps := [Str.ofString "value"]) ?D rfl ?c ?l ?_
  case D => walk_at "DEF"
  case c => decide
  case l => decide
  dsimp only [Mine.zipR]
  (repeat (first | walk_at "V1" | with_reducible refine Mine.st_ite ?_))
  refine ite_dec (fun q1 => ?_) (fun q1 => ?_)
  · (repeat (first | walk_at "V1" | with_reducible refine Mine.st_ite ?_))
    refine ite_ndec (fun q2 => ?_) (fun q2 => ?_)
    · (repeat (first | walk_at "V1" | with_reducible refine Mine.st_ite ?_))
      exact h2 fun q => q2 q.2
    · (repeat (first | walk_at "V1" | with_reducible refine Mine.st_ite ?_))
      exact h1 q1 q2
  · (repeat (first | walk_at "V1" | with_reducible refine Mine.st_ite ?_))
    exact h2 fun q => q1 q.1
theorem c_check_dimen {i : Int} (h1 : -1073741823 ≤ i → i ≤ 1073741823 → K (.int i) J) (h2 : ¬ (-1073741823 ≤ i ∧ i ≤ 1073741823) → X 57 J) : vcall w (n + 2) (.fn 87) [.int i] J K X := by
  refine' Mine.FnCall.fn (lam := 0) (ps := [Str.ofString "value"]) ?D rfl ?c ?l ?_
  case D => walk_at "DEF"
  case c => decide
  case l => decide
  dsimp only [Mine.zipR]
  (repeat (first | walk_at "V1" | with_reducible refine Mine.st_ite ?_))
  refine ite_dec (fun q1 => ?_) (fun q1 => ?_)
  · (repeat (first | walk_at "V1" | with_reducible refine Mine.st_ite ?_))
    refine ite_ndec (fun q2 => ?_) (fun q2 => ?_)
    · (repeat (first | walk_at "V1" | with_reducible refine Mine.st_ite ?_))
      exact h2 fun q => q2 q.2
    · (repeat (first | walk_at "V1" | with_reducible refine Mine.st_ite ?_))
      exact h1 q1 q2
  · (repeat (first | walk_at "V1" | with_reducible refine Mine.st_ite ?_))
    exact h2 fun q => q1 q.1
theorem c_check_number_bad {v : SV} (b : Bad v) (h : X 45 J) : vcall w (n + 2) (.fn 80) [v] J K X := by
  refine' Mine.FnCall.fn (lam := 0) (ps := [Str.ofString "value"]) ?D rfl ?c ?l ?_
  case D => walk_at "DEF"
  case c => decide
  case l => decide
  dsimp only [Mine.zipR]
  (repeat (first | walk_at "V1" | with_reducible refine Mine.st_ite ?_))
  refine c_check_whole_bad b ?_
  exact h
theorem c_check_dimen_bad {v : SV} (b : Bad v) (h : X 45 J) : vcall w (n + 2) (.fn 87) [v] J K X := by
  refine' Mine.FnCall.fn (lam := 0) (ps := [Str.ofString "value"]) ?D rfl ?c ?l ?_
  case D => walk_at "DEF"
  case c => decide
  case l => decide
  dsimp only [Mine.zipR]
  (repeat (first | walk_at "V1" | with_reducible refine Mine.st_ite ?_))
  refine c_check_whole_bad b ?_
  exact h
theorem c_rounded {a b : Int} (sb : Small (2 * b)) (h0 : b ≤ 0 → X 45 J) (h1 : 0 < b → a < 0 → K (.int (-((b - 2 * a) / (2 * b)))) J) (h2 : 0 < b → 0 ≤ a → K (.int ((2 * a + b) / (2 * b))) J) : vcall w (n + 1) (.fn 94) [.int a, .int b] J K X := by
  have s1 := sb.1
  have s2 := sb.2
  refine' Mine.FnCall.fn (lam := 0) (ps := [Str.ofString "number", Str.ofString "by"]) ?D rfl ?c ?l ?_
  case D => walk_at "DEF"
  case c => decide
  case l => decide
  dsimp only [Mine.zipR]
  (repeat (first | walk_at "V1" | with_reducible refine Mine.st_ite ?_))
  refine ite_dec (fun q1 => ?_) (fun q1 => ?_)
  · (repeat (first | walk_at "V1" | with_reducible refine Mine.st_ite ?_))
    exact h0 q1
  · (repeat (first | walk_at "V1" | with_reducible refine Mine.st_ite ?_))
    refine ite_dec (fun q2 => ?_) (fun q2 => ?_)
    · (repeat (first | walk_at "V1" | with_reducible refine Mine.st_ite ?_))
      exact h1 (by omega) q2
    · (repeat (first | walk_at "V1" | with_reducible refine Mine.st_ite ?_))
      exact h2 (by omega) (by omega)
theorem c_halved {a : Int} (h : K (.int ((a + a % 2) / 2)) J) : vcall w (n + 1) (.fn 101) [.int a] J K X := by
  refine' Mine.FnCall.fn (lam := 0) (ps := [Str.ofString "value"]) ?D rfl ?c ?l ?_
  case D => walk_at "DEF"
  case c => decide
  case l => decide
  dsimp only [Mine.zipR]
  (repeat (first | walk_at "V1" | with_reducible refine Mine.st_ite ?_))
  exact h
theorem c_reading {a b : Int} (hb : 0 < b) (sb : Small b) (h : K (.int ((2 * 65536 * a / b + 1) / 2)) J) : vcall w (n + 1) (.fn 115) [.int a, .int b] J K X := by
  have s1 := sb.1
  have s2 := sb.2
  refine' Mine.FnCall.fn (lam := 0) (ps := [Str.ofString "whole", Str.ofString "scale"]) ?D rfl ?c ?l ?_
  case D => walk_at "DEF"
  case c => decide
  case l => decide
  dsimp only [Mine.zipR]
  (repeat (first | walk_at "V1" | with_reducible refine Mine.st_ite ?_))
  exact h
theorem c_times {a b c : Int} (sb : Small a) (h : vcall w (n + 2) (.fn 87) [.int (a * b + c)] J K X) : vcall w (n + 3) (.fn 129) [.int a, .int b, .int c] J K X := by
  have s1 := sb.1
  have s2 := sb.2
  refine' Mine.FnCall.fn (lam := 0) (ps := [Str.ofString "count", Str.ofString "value", Str.ofString "more"]) ?D rfl ?c ?l ?_
  case D => walk_at "DEF"
  case c => decide
  case l => decide
  dsimp only [Mine.zipR]
  (repeat (first | walk_at "V1" | with_reducible refine Mine.st_ite ?_))
  exact h
theorem c_times_bad {v : SV} {b c : Int} (hb : Bad v) (h : X 45 J) : vcall w (n + 3) (.fn 129) [v, .int b, .int c] J K X := by
  refine' Mine.FnCall.fn (lam := 0) (ps := [Str.ofString "count", Str.ofString "value", Str.ofString "more"]) ?D rfl ?c ?l ?_
  case D => walk_at "DEF"
  case c => decide
  case l => decide
  dsimp only [Mine.zipR]
  (repeat (first | walk_at "V1" | with_reducible refine Mine.st_ite ?_))
  refine c_check_whole_bad hb ?_
  exact h
theorem c_times_number {a b : Int} (sb : Small a) (h : vcall w (n + 2) (.fn 80) [.int (a * b)] J K X) : vcall w (n + 3) (.fn 136) [.int a, .int b] J K X := by
  have s1 := sb.1
  have s2 := sb.2
  refine' Mine.FnCall.fn (lam := 0) (ps := [Str.ofString "count", Str.ofString "value"]) ?D rfl ?c ?l ?_
  case D => walk_at "DEF"
  case c => decide
  case l => decide
  dsimp only [Mine.zipR]
  (repeat (first | walk_at "V1" | with_reducible refine Mine.st_ite ?_))
  exact h
theorem c_times_number_bad {v : SV} {a : Int} (hb : Bad v) (h : X 45 J) : vcall w (n + 3) (.fn 136) [.int a, v] J K X := by
  refine' Mine.FnCall.fn (lam := 0) (ps := [Str.ofString "count", Str.ofString "value"]) ?D rfl ?c ?l ?_
  case D => walk_at "DEF"
  case c => decide
  case l => decide
  dsimp only [Mine.zipR]
  (repeat (first | walk_at "V1" | with_reducible refine Mine.st_ite ?_))
  refine c_check_whole_bad hb ?_
  exact h
end
end Mine
namespace Mine
section
variable {w : World} {n : Nat} {J : JS} {K : KV} {X : KX}
theorem tdiv_pp {v b : Int} : (v.natAbs : Int) / (b.natAbs : Int) = ((v.natAbs / b.natAbs : Nat) : Int) := rfl
theorem ov_same {v b : Int} (h : (decide (v < 0) != decide (b < 0)) = false) : (v.natAbs : Int) / (b.natAbs : Int) = v.tdiv b := by
  obtain ⟨m, rfl | rfl⟩ := v.eq_nat_or_neg <;> obtain ⟨k, rfl | rfl⟩ := b.eq_nat_or_neg <;> simp only [Int.natAbs_neg, Int.natAbs_natCast, Int.neg_tdiv, Int.tdiv_neg, Int.neg_neg]
  · rfl
  · have h1 : ¬ ((m : Int) < 0) := by omega
    rw [decide_eq_false h1] at h
    have h2 : ¬ (-(k : Int) < 0) := fun q => by rw [decide_eq_true q] at h; cases h
    have : k = 0 := by omega
    subst this; simp
  · have h1 : ¬ ((k : Int) < 0) := by omega
    rw [decide_eq_false h1] at h
    have h2 : ¬ (-(m : Int) < 0) := fun q => by rw [decide_eq_true q] at h; cases h
    have : m = 0 := by omega
    subst this; simp
  · rfl
theorem ov_diff {v b : Int} (h : (decide (v < 0) != decide (b < 0)) = true) : -((v.natAbs : Int) / (b.natAbs : Int)) = v.tdiv b := by
  obtain ⟨m, rfl | rfl⟩ := v.eq_nat_or_neg <;> obtain ⟨k, rfl | rfl⟩ := b.eq_nat_or_neg <;> simp only [Int.natAbs_neg, Int.natAbs_natCast, Int.neg_tdiv, Int.tdiv_neg, Int.neg_neg]
  · have h1 : ¬ ((m : Int) < 0) := by omega
    have h2 : ¬ ((k : Int) < 0) := by omega
    rw [decide_eq_false h1, decide_eq_false h2] at h; cases h
  · rfl
  · rfl
  · by_cases h1 : -(m : Int) < 0
    · by_cases h2 : -(k : Int) < 0
      · rw [decide_eq_true h1, decide_eq_true h2] at h; cases h
      · have : k = 0 := by omega
        subst this; simp
    · have : m = 0 := by omega
      subst this; simp
theorem ov_neg {v b : Int} (h : v < 0) : -((v.natAbs : Int) % (b.natAbs : Int)) = v.tmod b := by
  obtain ⟨m, rfl | rfl⟩ := v.eq_nat_or_neg
  · omega
  · obtain ⟨k, rfl | rfl⟩ := b.eq_nat_or_neg <;> simp only [Int.natAbs_neg, Int.natAbs_natCast, Int.neg_tmod, Int.tmod_neg] <;> rfl
theorem ov_pos {v b : Int} (h : ¬ v < 0) : ((v.natAbs : Int) % (b.natAbs : Int)) = v.tmod b := by
  obtain ⟨m, rfl | rfl⟩ := v.eq_nat_or_neg
  · obtain ⟨k, rfl | rfl⟩ := b.eq_nat_or_neg <;> simp only [Int.natAbs_neg, Int.natAbs_natCast, Int.tmod_neg] <;> rfl
  · have : m = 0 := by omega
    subst this; simp
theorem c_over {v b : Int} (sb : Small b) (h0 : b = 0 → X 57 J) (h : b ≠ 0 → K (.tup [.int (v.tdiv b), .int (v.tmod b)]) J) : vcall w (n + 2) (.fn 143) [.int v, .int b] J K X := by
  have s1 := sb.1
  have s2 := sb.2
  refine' Mine.FnCall.fn (lam := 0) (ps := [Str.ofString "value", Str.ofString "by"]) ?D rfl ?c ?l ?_
  case D => walk_at "DEF"
  case c => decide
  case l => decide
  dsimp only [Mine.zipR]
  (repeat (first | walk_at "V1" | with_reducible refine Mine.st_ite ?_))
  refine ite_dec (fun q => ?_) (fun q => ?_)
  · (repeat (first | walk_at "V1" | with_reducible refine Mine.st_ite ?_))
    exact h0 q
  · (repeat (first | walk_at "V1" | with_reducible refine Mine.st_ite ?_))
    refine ⟨fun e1 => ?_, fun e1 => ?_⟩ <;> ((repeat (first | walk_at "V1" | with_reducible refine Mine.st_ite ?_)); refine ite_dec (fun e2 => ?_) (fun e2 => ?_)) <;> (repeat (first | walk_at "V1" | with_reducible refine Mine.st_ite ?_))
    · rw [ov_diff e1, ov_neg e2]; exact h q
    · rw [ov_diff e1, ov_pos e2]; exact h q
    · rw [ov_same e1, ov_neg e2]; exact h q
    · rw [ov_same e1, ov_pos e2]; exact h q
theorem c_over_bad1 {v : SV} {b : Int} (hb : Bad v) (b0 : b ≠ 0) (h : X 45 J) : vcall w (n + 2) (.fn 143) [v, .int b] J K X := by
  refine' Mine.FnCall.fn (lam := 0) (ps := [Str.ofString "value", Str.ofString "by"]) ?D rfl ?c ?l ?_
  case D => walk_at "DEF"
  case c => decide
  case l => decide
  dsimp only [Mine.zipR]
  (repeat (first | walk_at "V1" | with_reducible refine Mine.st_ite ?_))
  refine ite_dec (fun q => absurd q b0) (fun q => ?_)
  (repeat (first | walk_at "V1" | with_reducible refine Mine.st_ite ?_))
  refine c_check_whole_bad hb ?_
  exact h
theorem c_over_bad2 {v : SV} {a : Int} (hb : Bad v) (h : X 45 J) : vcall w (n + 2) (.fn 143) [.int a, v] J K X := by
  refine' Mine.FnCall.fn (lam := 0) (ps := [Str.ofString "value", Str.ofString "by"]) ?D rfl ?c ?l ?_
  case D => walk_at "DEF"
  case c => decide
  case l => decide
  dsimp only [Mine.zipR]
  (repeat (first | walk_at "V1" | with_reducible refine Mine.st_ite ?_))
  refine c_check_whole_bad hb ?_
  exact h
theorem c_fraction {v u d : Int} (h0 : ¬ ((0 ≤ u ∧ u ≤ 2147483647) ∧ (1 ≤ d ∧ d ≤ 2147483647)) → X 45 J)
    (h1 : 0 ≤ u → u ≤ 2147483647 → 1 ≤ d → d ≤ 2147483647 → -1073741823 ≤ (v * u).tdiv d → (v * u).tdiv d ≤ 1073741823 → K (.tup [.int ((v * u).tdiv d), .int ((v * u).tmod d)]) J)
    (h2 : 0 ≤ u → u ≤ 2147483647 → 1 ≤ d → d ≤ 2147483647 → ¬ (-1073741823 ≤ (v * u).tdiv d ∧ (v * u).tdiv d ≤ 1073741823) → X 57 J) : vcall w (n + 3) (.fn 150) [.int v, .int u, .int d] J K X := by
  refine' Mine.FnCall.fn (lam := 0) (ps := [Str.ofString "value", Str.ofString "up", Str.ofString "down"]) ?D rfl ?c ?l ?_
  case D => walk_at "DEF"
  case c => decide
  case l => decide
  dsimp only [Mine.zipR]
  (repeat (first | walk_at "V1" | with_reducible refine Mine.st_ite ?_))
  refine ite_ndec (fun q1 => ?_) (fun q1 => ?_)
  · (repeat (first | walk_at "V1" | with_reducible refine Mine.st_ite ?_))
    exact h0 fun z => q1 z.1
  · (repeat (first | walk_at "V1" | with_reducible refine Mine.st_ite ?_))
    refine ite_ndec (fun q2 => ?_) (fun q2 => ?_)
    · (repeat (first | walk_at "V1" | with_reducible refine Mine.st_ite ?_))
      exact h0 fun z => q2 z.2
    · (repeat (first | walk_at "V1" | with_reducible refine Mine.st_ite ?_))
      refine c_over ⟨by omega, by omega⟩ (fun z => by omega) fun _ => ?_
      (repeat (first | walk_at "V1" | with_reducible refine Mine.st_ite ?_))
      refine c_check_dimen (fun z1 z2 => ?_) (fun z => ?_)
      · (repeat (first | walk_at "V1" | with_reducible refine Mine.st_ite ?_))
        exact h1 q1.1 q1.2 q2.1 q2.2 z1 z2
      · exact h2 q1.1 q1.2 q2.1 q2.2 z
theorem c_fraction_bad1 {v d : Int} {u : SV} (h : Bad u) (k : X 45 J) : vcall w (n + 3) (.fn 150) [.int v, u, .int d] J K X := by
  refine' Mine.FnCall.fn (lam := 0) (ps := [Str.ofString "value", Str.ofString "up", Str.ofString "down"]) ?D rfl ?c ?l ?_
  case D => walk_at "DEF"
  case c => decide
  case l => decide
  dsimp only [Mine.zipR]
  (repeat (first | walk_at "V1" | with_reducible refine Mine.st_ite ?_))
  refine c_is_whole_bad h ?_
  (repeat (first | walk_at "V1" | with_reducible refine Mine.st_ite ?_))
  exact k
theorem c_fraction_bad2 {v : SV} (h : Bad v) (k : X 45 J) : vcall w (n + 3) (.fn 150) [v, .int 3, .int 3] J K X := by
  refine' Mine.FnCall.fn (lam := 0) (ps := [Str.ofString "value", Str.ofString "up", Str.ofString "down"]) ?D rfl ?c ?l ?_
  case D => walk_at "DEF"
  case c => decide
  case l => decide
  dsimp only [Mine.zipR]
  (repeat (first | walk_at "V1" | with_reducible refine Mine.st_ite ?_))
  refine c_check_whole_bad h ?_
  exact k
/-- the badness, as a plain function -/
noncomputable def badR (e t : Int) : Int := if e ≤ 7230584 then e * 297 / t else if 1663497 ≤ t then e / (t / 297) else e
theorem c_badness {e t : Int} (st : Small t) (h0 : e < 0 → X 45 J) (h1 : e = 0 → K (.int 0) J) (h2 : 0 < e → t ≤ 0 → K (.int 10000) J) (h3 : 0 < e → 0 < t → 1290 < badR e t → K (.int 10000) J)
    (h4 : 0 < e → 0 < t → badR e t ≤ 1290 → K (.int ((badR e t * badR e t * badR e t + 131072) / 262144)) J) : vcall w (n + 1) (.fn 157) [.int e, .int t] J K X := by
  have s1 := st.1
  have s2 := st.2
  refine' Mine.FnCall.fn (lam := 0) (ps := [Str.ofString "excess", Str.ofString "total"]) ?D rfl ?c ?l ?_
  case D => walk_at "DEF"
  case c => decide
  case l => decide
  dsimp only [Mine.zipR]
  (repeat (first | walk_at "V1" | with_reducible refine Mine.st_ite ?_))
  refine ite_dec (fun q1 => ?_) (fun q1 => ?_)
  · (repeat (first | walk_at "V1" | with_reducible refine Mine.st_ite ?_))
    exact h0 q1
  (repeat (first | walk_at "V1" | with_reducible refine Mine.st_ite ?_))
  refine ite_dec (fun q2 => ?_) (fun q2 => ?_)
  · (repeat (first | walk_at "V1" | with_reducible refine Mine.st_ite ?_))
    exact h1 q2
  (repeat (first | walk_at "V1" | with_reducible refine Mine.st_ite ?_))
  refine ite_dec (fun q3 => ?_) (fun q3 => ?_)
  · (repeat (first | walk_at "V1" | with_reducible refine Mine.st_ite ?_))
    exact h2 (by omega) q3
  have p1 : 0 < e := by omega
  have p2 : 0 < t := by omega
  replace h3 := h3 p1 p2
  replace h4 := h4 p1 p2
  (repeat (first | walk_at "V1" | with_reducible refine Mine.st_ite ?_))
  refine ite_dec (fun q4 => ?_) (fun q4 => ?_)
  · unfold badR at h3 h4
    rw [if_pos q4] at h3 h4
    generalize hr : e * 297 / t = r at h3 h4
    have r0 : 0 ≤ r := by rw [← hr]; exact Int.ediv_nonneg (by omega) (by omega)
    (repeat (first | walk_at "V1" | with_reducible refine Mine.st_ite ?_))
    rw [hr]
    refine ite_dec (fun q5 => ?_) (fun q5 => ?_)
    · (repeat (first | walk_at "V1" | with_reducible refine Mine.st_ite ?_))
      exact h3 q5
    · (repeat (first | walk_at "V1" | with_reducible refine Mine.st_ite ?_))
      exact h4 (by omega)
  · unfold badR at h3 h4
    rw [if_neg q4] at h3 h4
    (repeat (first | walk_at "V1" | with_reducible refine Mine.st_ite ?_))
    refine ite_dec (fun q6 => ?_) (fun q6 => ?_)
    · rw [if_pos q6] at h3 h4
      have t0 : 0 < t / 297 := by omega
      generalize hr : e / (t / 297) = r at h3 h4
      have r0 : 0 ≤ r := by rw [← hr]; exact Int.ediv_nonneg (by omega) (by omega)
      (repeat (first | walk_at "V1" | with_reducible refine Mine.st_ite ?_))
      rw [hr]
      refine ite_dec (fun q5 => ?_) (fun q5 => ?_)
      · (repeat (first | walk_at "V1" | with_reducible refine Mine.st_ite ?_))
        exact h3 q5
      · (repeat (first | walk_at "V1" | with_reducible refine Mine.st_ite ?_))
        exact h4 (by omega)
    · rw [if_neg q6] at h3 h4
      (repeat (first | walk_at "V1" | with_reducible refine Mine.st_ite ?_))
      refine ite_dec (fun q5 => ?_) (fun q5 => ?_)
      · (repeat (first | walk_at "V1" | with_reducible refine Mine.st_ite ?_))
        exact h3 q5
      · (repeat (first | walk_at "V1" | with_reducible refine Mine.st_ite ?_))
        exact h4 (by omega)
end
end Mine
local macro_rules
  | `(tactic| walk_at "V1") => `(tactic| first
    | with_reducible first | refine Mine.ItemV.jar0 ?_ | refine Mine.ItemV.jar1 ?_ | refine Mine.ItemV.jar2 ?_ | refine Mine.SetV.jar1 ?_
    | ((with_reducible refine' Mine.v_len ?e ?_); (case e => (try dsimp only); omega))
    | ((with_reducible refine' Mine.st_set ?e ?_); (case e => exact fun _ _ _ => rfl)))
namespace Mine
noncomputable def decV : Int → List Int → Int
  | a, [] => a
  | a, d :: ds => decV (10 * a + d) ds
noncomputable def Digs (ds : List Int) : Prop := ∀ d ∈ ds, 0 ≤ d ∧ d ≤ 9
/-- what is known of the jar -/
structure JI (J : JS) : Prop where
  pos : ∀ x ∈ J.cells, 0 ≤ x
  len : J.cells.length ≤ 60
  at0 : 0 ≤ J.at_
section
variable {w : World} {n : Nat} {J : JS} {K : KV} {X : KX}
theorem c_from_decimals {ds : List Int} (hd : Digs (ds.take 17)) (hl : ds.length ≤ 1000) (h : K (.int ((2 * 65536 * decV 0 (ds.take 17) / 10 ^ (ds.take 17).length + 1) / 2)) J) : vcall w (n + 2) (.fn 108) [.lst (ds.map .int)] J K X := by
  refine' Mine.FnCall.fn (lam := 0) (ps := [Str.ofString "digits"]) ?D rfl ?c ?l ?_
  case D => walk_at "DEF"
  case c => decide
  case l => decide
  dsimp only [Mine.zipR]
  (repeat (first | walk_at "V1" | with_reducible refine Mine.st_ite ?_))
  refine ⟨.inr fun _ _ => rfl, .lto (by decide) (by rw [List.length_map]; exact hl) ⟨trivial, _, rfl, ?_⟩⟩
  rw [show (ds.map SV.int).take (Int.toNat 17) = (ds.take 17).map SV.int from (List.map_take ..).symm]
  have hlen : (ds.take 17).length ≤ 17 := by rw [List.length_take]; omega
  refine l_ind (I := fun items ρ J' => J' = J ∧ ∃ es a s, items = es.map .int ∧ Less ρ [(Str.ofString "whole", .int a), (Str.ofString "scale", .int s)] ∧ Digs es ∧ decV a es = decV 0 (ds.take 17) ∧ s * 10 ^ es.length = 10 ^ (ds.take 17).length) (fun ρ J' hI => ?_) (fun v vs ih ρ J' hI => ?_) _ _ _ ⟨rfl, ds.take 17, 0, 1, rfl, by (repeat (first | exact Mine.Less.nil | refine Mine.Less.cons rfl ?_)), hd, rfl, by omega⟩
  · obtain ⟨rfl, es, a, s, he, hL, hD, h1, h2⟩ := hI
    cases es with
    | cons e es => cases he
    | nil =>
      have h1' : a = decV 0 (ds.take 17) := h1
      have h2' : s = 10 ^ (ds.take 17).length := by rw [← h2]; simp
      have hp : (0 : Int) < 10 ^ (ds.take 17).length := Int.pow_pos (by decide)
      have hq : (10 : Int) ^ (ds.take 17).length ≤ 10 ^ 17 := by
        have : (10 ^ (ds.take 17).length : Nat) ≤ 10 ^ 17 := Nat.pow_le_pow_right (by decide) hlen
        exact_mod_cast this
      refine l_nil _ hL ?_
      (repeat (first | walk_at "V1" | with_reducible refine Mine.st_ite ?_))
      refine c_reading (by rw [h2']; exact hp) ⟨by rw [h2']; omega, by rw [h2']; omega⟩ ?_
      rw [h1', h2']
      exact h
  · obtain ⟨rfl, es, a, s, he, hL, hD, h1, h2⟩ := hI
    cases es with
    | nil => cases he
    | cons e es =>
      cases he
      have d1 := hD e (.head _)
      refine l_cons _ hL ?_
      (repeat (first | walk_at "V1" | with_reducible refine Mine.st_ite ?_))
      refine ite_ndec (fun q => absurd d1 q) (fun q => ?_)
      (repeat (first | walk_at "V1" | with_reducible refine Mine.st_ite ?_))
      refine ih _ _ ⟨rfl, es, 10 * a + e, 10 * s, rfl, by (repeat (first | exact Mine.Less.nil | refine Mine.Less.cons rfl ?_)), fun d hd => hD d (.tail _ hd), h1, ?_⟩
      · rw [← h2, List.length_cons, Int.pow_succ]
        rw [Int.mul_comm 10 s, Int.mul_assoc, Int.mul_comm 10]
theorem c_from_decimals_bad1 (h : X 45 J) : vcall w (n + 2) (.fn 108) [.lst [.int 1, .bool true]] J K X := by
  refine' Mine.FnCall.fn (lam := 0) (ps := [Str.ofString "digits"]) ?D rfl ?c ?l ?_
  case D => walk_at "DEF"
  case c => decide
  case l => decide
  dsimp only [Mine.zipR]
  (repeat (first | walk_at "V1" | with_reducible refine Mine.st_ite ?_))
  refine ⟨.inr fun _ _ => rfl, .lto (by decide) (by decide) ⟨trivial, _, rfl, ?_⟩⟩
  refine l_cons _ (Less.refl _) ?_
  (repeat (first | walk_at "V1" | with_reducible refine Mine.st_ite ?_))
  refine l_cons _ (Less.refl _) ?_
  (repeat (first | walk_at "V1" | with_reducible refine Mine.st_ite ?_))
  refine c_is_whole_bad (.bool _) ?_
  (repeat (first | walk_at "V1" | with_reducible refine Mine.st_ite ?_))
  exact h
theorem c_from_decimals_bad2 (h : X 45 J) : vcall w (n + 2) (.fn 108) [.lst [.int 10]] J K X := by
  refine' Mine.FnCall.fn (lam := 0) (ps := [Str.ofString "digits"]) ?D rfl ?c ?l ?_
  case D => walk_at "DEF"
  case c => decide
  case l => decide
  dsimp only [Mine.zipR]
  (repeat (first | walk_at "V1" | with_reducible refine Mine.st_ite ?_))
  refine ⟨.inr fun _ _ => rfl, .lto (by decide) (by decide) ⟨trivial, _, rfl, ?_⟩⟩
  refine l_cons _ (Less.refl _) ?_
  (repeat (first | walk_at "V1" | with_reducible refine Mine.st_ite ?_))
  exact h
theorem c_take {m : Int} (hm : 0 < m) (hm2 : m < 1000000000) (j : JI J) (ha : J.at_ ≤ 1000000) (h : ∀ v J', 0 ≤ v → v < m → JI J' → J'.at_ ≤ J.at_ + 1 → K (.int v) J') : vcall w (n + 1) (.fn 169) [.jar, .int m] J K X := by
  obtain ⟨pos, len, at0⟩ := id j
  refine' Mine.FnCall.fn (lam := 0) (ps := [Str.ofString "jar", Str.ofString "many"]) ?D rfl ?c ?l ?_
  case D => walk_at "DEF"
  case c => decide
  case l => decide
  dsimp only [Mine.zipR]
  (repeat (first | walk_at "V1" | with_reducible refine Mine.st_ite ?_))
  have last : ∀ {K' : KV} {k k1 k2 k3 : Nat}, True := trivial
  have fin : ∀ v, 0 ≤ v → v < m → K (.int v) ⟨J.cells, J.at_ + 1, J.salt⟩ := fun v h1 h2 => h v _ h1 h2 ⟨pos, len, by show 0 ≤ J.at_ + 1; omega⟩ (Int.le_refl _)
  refine ite_dec (fun q1 => ?_) (fun q1 => ?_)
  · have hi : J.at_.toNat < J.cells.length := by omega
    have hc := List.getElem?_eq_getElem hi
    have hp := pos _ (List.getElem_mem hi)
    generalize J.cells[J.at_.toNat] = x at hc hp
    (repeat (first | walk_at "V1" | with_reducible refine Mine.st_ite ?_))
    refine .cell at0 (by omega) hc ?_
    (repeat (first | walk_at "V1" | with_reducible refine Mine.st_ite ?_))
    refine ite_dec (fun q2 => ?_) (fun q2 => ?_)
    · (repeat (first | walk_at "V1" | with_reducible refine Mine.st_ite ?_))
      refine .cell at0 (by omega) hc ?_
      (repeat (first | walk_at "V1" | with_reducible refine Mine.st_ite ?_))
      refine .cell at0 (by omega) hc ?_
      (repeat (first | walk_at "V1" | with_reducible refine Mine.st_ite ?_))
      refine .cell at0 q1 (by omega) ?_
      (repeat (first | walk_at "V1" | with_reducible refine Mine.st_ite ?_))
      refine h _ _ (Int.emod_nonneg _ (by omega)) (Int.emod_lt_of_pos _ hm) ⟨fun y hy => ?_, by rw [List.length_set]; exact len, at0⟩ (Int.le_add_one (Int.le_refl _))
      rcases List.mem_or_eq_of_mem_set hy with hy | rfl
      · exact pos y hy
      · exact Int.ediv_nonneg hp (by omega)
    · (repeat (first | walk_at "V1" | with_reducible refine Mine.st_ite ?_))
      refine ite_dec (fun _ => ?_) (fun q => absurd q1 q)
      (repeat (first | walk_at "V1" | with_reducible refine Mine.st_ite ?_))
      refine .cell at0 (by omega) hc ?_
      (repeat (first | walk_at "V1" | with_reducible refine Mine.st_ite ?_))
      exact fin _ (Int.emod_nonneg _ (by omega)) (Int.emod_lt_of_pos _ hm)
  · (repeat (first | walk_at "V1" | with_reducible refine Mine.st_ite ?_))
    refine ite_dec (fun q => absurd q q1) (fun _ => ?_)
    (repeat (first | walk_at "V1" | with_reducible refine Mine.st_ite ?_))
    exact fin _ (Int.emod_nonneg _ (by omega)) (Int.emod_lt_of_pos _ hm)
end
end Mine
namespace Mine
section
variable {w : World} {n : Nat} {J : JS} {K : KV} {X : KX}
theorem five {i : Int} (h0 : 0 ≤ i) (h1 : i < 5) : ∃ v, [SV.int 1073741824, SV.int 2147483648, SV.int 65536, SV.int 7230584, SV.int 1663497][i.toNat]? = some (.int v) ∧ 65536 ≤ v ∧ v ≤ 2147483648 := by
  rcases (by omega : i = 0 ∨ i = 1 ∨ i = 2 ∨ i = 3 ∨ i = 4) with rfl | rfl | rfl | rfl | rfl
  all_goals exact ⟨_, rfl, by decide, by decide⟩
theorem ten_pow {t : Int} (h0 : 0 ≤ t) (h1 : t < 9) : 1 ≤ (10 : Int) ^ t.toNat ∧ (10 : Int) ^ t.toNat ≤ 100000000 :=
  (by decide : ∀ k : Nat, k < 9 → 1 ≤ (10 : Int) ^ k ∧ (10 : Int) ^ k ≤ 100000000) t.toNat (by omega)
theorem c_number (j : JI J) (ha : J.at_ ≤ 900000) (h : ∀ v J', -3000000000 ≤ v → v ≤ 3000000000 → JI J' → J'.at_ ≤ J.at_ + 8 → K (.int v) J') : vcall w (n + 2) (.fn 176) [.jar] J K X := by
  refine' Mine.FnCall.fn (lam := 0) (ps := [Str.ofString "jar"]) ?D rfl ?c ?l ?_
  case D => walk_at "DEF"
  case c => decide
  case l => decide
  dsimp only [Mine.zipR]
  (repeat walk_at "V1")
  refine c_take (by decide) (by decide) j (by omega) (fun s J1 s0 s1 j1 a1 => ?_)
  (repeat walk_at "V1")
  refine c_take (by decide) (by decide) j1 (by omega) (fun f J2 f0 f1 j2 a2 => ?_)
  (repeat walk_at "V1")
  refine st_ite_j (P := fun ρ J' => ∃ f, ρ = [(Str.ofString "jar", .jar), (Str.ofString "sort", .int s), (Str.ofString "found", .int f)] ∧ (s = 1 → 0 ≤ f ∧ f ≤ 2147483652) ∧ (s ≠ 1 → 0 ≤ f ∧ f < 30) ∧ JI J' ∧ J'.at_ ≤ J.at_ + 4) (fun Kn hK _ => ?_) (fun ρ J3 hp => ?_)
  · (repeat (first | walk_at "V1" | with_reducible refine Mine.st_ite ?_))
    refine ite_dec (fun q => ?_) (fun q => ?_)
    · (repeat (first | walk_at "V1" | with_reducible refine Mine.st_ite ?_))
      refine c_take (by decide) (by decide) j2 (by omega) (fun i J3 i0 i1 j3 a3 => ?_)
      (repeat (first | walk_at "V1" | with_reducible refine Mine.st_ite ?_))
      obtain ⟨v, hv, v0, v1⟩ := five i0 i1
      refine .lst i0 (by omega) hv ?_
      (repeat (first | walk_at "V1" | with_reducible refine Mine.st_ite ?_))
      refine c_take (by decide) (by decide) j3 (by omega) (fun d J4 d0 d1 j4 a4 => ?_)
      (repeat (first | walk_at "V1" | with_reducible refine Mine.st_ite ?_))
      exact hK _ _ ⟨_, rfl, fun _ => by omega, fun z => absurd q z, j4, by omega⟩
    · (repeat (first | walk_at "V1" | with_reducible refine Mine.st_ite ?_))
      exact hK _ _ ⟨_, rfl, fun z => absurd z q, fun _ => by omega, j2, by omega⟩
  · obtain ⟨f, rfl, g1, g2, j3, a3⟩ := hp
    refine st_ite_j (P := fun ρ J' => ∃ f, ρ = [(Str.ofString "jar", .jar), (Str.ofString "sort", .int s), (Str.ofString "found", .int f)] ∧ 0 ≤ f ∧ f ≤ 2147483652 ∧ (2 < s → f < 30) ∧ JI J' ∧ J'.at_ ≤ J.at_ + 5) (fun Kn hK _ => ?_) (fun ρ J4 hp => ?_)
    · (repeat (first | walk_at "V1" | with_reducible refine Mine.st_ite ?_))
      refine ite_dec (fun q => ?_) (fun q => ?_)
      · have := g2 (by omega)
        (repeat (first | walk_at "V1" | with_reducible refine Mine.st_ite ?_))
        refine c_take (by decide) (by decide) j3 (by omega) (fun i J4 i0 i1 j4 a4 => ?_)
        (repeat (first | walk_at "V1" | with_reducible refine Mine.st_ite ?_))
        exact hK _ _ ⟨_, rfl, by omega, by omega, fun _ => by omega, j4, by omega⟩
      · (repeat (first | walk_at "V1" | with_reducible refine Mine.st_ite ?_))
        have : 0 ≤ f ∧ f ≤ 2147483652 := by by_cases z : s = 1; exact g1 z; have := g2 z; omega
        exact hK _ _ ⟨_, rfl, this.1, this.2, fun z => (g2 (by omega)).2, j3, by omega⟩
    · obtain ⟨f, rfl, k0, k1, k2, j4, a4⟩ := hp
      refine st_ite_j (P := fun ρ J' => ∃ f, ρ = [(Str.ofString "jar", .jar), (Str.ofString "sort", .int s), (Str.ofString "found", .int f)] ∧ 0 ≤ f ∧ f ≤ 3000000000 ∧ JI J' ∧ J'.at_ ≤ J.at_ + 7) (fun Kn hK _ => ?_) (fun ρ J5 hp => ?_)
      · (repeat (first | walk_at "V1" | with_reducible refine Mine.st_ite ?_))
        refine ite_dec (fun q => ?_) (fun q => ?_)
        · have k3 := k2 q
          (repeat (first | walk_at "V1" | with_reducible refine Mine.st_ite ?_))
          refine c_take (by decide) (by decide) j4 (by omega) (fun t J5 t0 t1 j5 a5 => ?_)
          have tp := ten_pow t0 t1
          (repeat (first | walk_at "V1" | with_reducible refine Mine.st_ite ?_))
          refine c_take (by decide) (by decide) j5 (by omega) (fun u J6 u0 u1 j6 a6 => ?_)
          have m0 : 0 ≤ f * 10 ^ t.toNat := Int.mul_nonneg k0 (by omega)
          have m1 : f * 10 ^ t.toNat ≤ 29 * 100000000 := Int.mul_le_mul (by omega) tp.2 (by omega) (by decide)
          (repeat (first | walk_at "V1" | with_reducible refine Mine.st_ite ?_))
          exact hK _ _ ⟨_, rfl, by omega, by omega, j6, by omega⟩
        · (repeat (first | walk_at "V1" | with_reducible refine Mine.st_ite ?_))
          exact hK _ _ ⟨_, rfl, k0, by omega, j4, by omega⟩
      · obtain ⟨f, rfl, k0, k1, j5, a5⟩ := hp
        (repeat (first | walk_at "V1" | with_reducible refine Mine.st_ite ?_))
        refine c_take (by decide) (by decide) j5 (by omega) (fun t J6 t0 t1 j6 a6 => ?_)
        (repeat (first | walk_at "V1" | with_reducible refine Mine.st_ite ?_))
        refine ite_dec (fun q => ?_) (fun q => ?_)
        · (repeat (first | walk_at "V1" | with_reducible refine Mine.st_ite ?_))
          exact h _ _ (by omega) (by omega) j6 (by omega)
        · (repeat (first | walk_at "V1" | with_reducible refine Mine.st_ite ?_))
          exact h _ _ (by omega) (by omega) j6 (by omega)
theorem c_plain {i : Int} (h : K (.bool true) J) : vcall w (n + 1) (.fn 183) [.int i] J K X := by
  refine' Mine.FnCall.fn (lam := 0) (ps := [Str.ofString "value"]) ?D rfl ?c ?l ?_
  case D => walk_at "DEF"
  case c => decide
  case l => decide
  dsimp only [Mine.zipR]
  (repeat (first | walk_at "V1" | with_reducible refine Mine.st_ite ?_))
  exact h
theorem c_law_halves {a : Int} (h : K (.bool true) J) : vcall w (n + 2) (.fn 197) [.int a] J K X := by
  refine' Mine.FnCall.fn (lam := 0) (ps := [Str.ofString "value"]) ?D rfl ?c ?l ?_
  case D => walk_at "DEF"
  case c => decide
  case l => decide
  dsimp only [Mine.zipR]
  (repeat (first | walk_at "V1" | with_reducible refine Mine.st_ite ?_))
  refine c_halved ?_
  (repeat (first | walk_at "V1" | with_reducible refine Mine.st_ite ?_))
  refine c_plain ?_
  (repeat (first | walk_at "V1" | with_reducible refine Mine.st_ite ?_))
  refine ite_dec (fun q => ?_) (fun q => absurd (by omega) q)
  (repeat (first | walk_at "V1" | with_reducible refine Mine.st_ite ?_))
  rw [decide_eq_true (by omega)]
  exact h
end
end Mine
local macro_rules
  | `(tactic| walk_at "V1") => `(tactic| first
    | with_reducible refine Mine.c_plain ?_
    | ((with_reducible refine' Mine.ItemV.lst ?e ?f ?g ?_); (case e => decide); (case f => decide); (case g => exact rfl)))
namespace Mine
section
variable {w : World} {n : Nat} {J : JS} {K : KV} {X : KX}
/-- f is the nearest whole number to a / b, of two the one farther from 0 -/
noncomputable def Nearest (a b f : Int) : Prop := 2 * ((a - f * b).natAbs : Int) < b ∨ (2 * ((a - f * b).natAbs : Int) = b ∧ (a.natAbs : Int) < (f.natAbs : Int) * b)
theorem nearest_pos {a b : Int} (hb : 0 < b) (ha : 0 ≤ a) : Nearest a b ((2 * a + b) / (2 * b)) := by
  have e := Int.mul_ediv_add_emod (2 * a + b) (2 * b)
  have r0 := Int.emod_nonneg (2 * a + b) (b := 2 * b) (by omega)
  have r1 := Int.emod_lt_of_pos (2 * a + b) (b := 2 * b) (by omega)
  have q0 : 0 ≤ (2 * a + b) / (2 * b) := Int.ediv_nonneg (by omega) (by omega)
  generalize (2 * a + b) / (2 * b) = q at *
  generalize (2 * a + b) % (2 * b) = r at *
  have e2 : 2 * b * q = 2 * (q * b) := by rw [Int.mul_assoc, Int.mul_comm b q]
  rw [e2] at e
  unfold Nearest
  have e3 : (q.natAbs : Int) * b = q * b := by rw [Int.natAbs_of_nonneg q0]
  rw [e3]
  generalize q * b = m at *
  omega
theorem nearest_neg {a b f : Int} (h : Nearest (-a) b f) : Nearest a b (-f) := by
  unfold Nearest at h ⊢
  have e : (a - -f * b).natAbs = (-a - f * b).natAbs := by rw [Int.neg_mul, ← Int.natAbs_neg]; congr 1; omega
  rw [e, Int.natAbs_neg f, ← Int.natAbs_neg a]
  exact h
theorem c_rounded_to {a b : Int} (hb : 0 < b) (sb : Small (2 * b)) (h : ∀ f, Nearest a b f → K (.int f) J) : vcall w (n + 1) (.fn 94) [.int a, .int b] J K X := by
  refine c_rounded sb (fun z => by omega) (fun _ z => h _ ?_) (fun _ z => h _ (nearest_pos hb z))
  have := nearest_pos (a := -a) hb (by omega)
  rw [show 2 * -a + b = b - 2 * a by omega] at this
  exact nearest_neg this
theorem c_law_rounds {a b : Int} (hb : 0 < b) (sb : b ≤ 10000000000) (h : K (.bool true) J) : vcall w (n + 2) (.fn 190) [.int a, .int b] J K X := by
  refine' Mine.FnCall.fn (lam := 0) (ps := [Str.ofString "amount", Str.ofString "by"]) ?D rfl ?c ?l ?_
  case D => walk_at "DEF"
  case c => decide
  case l => decide
  dsimp only [Mine.zipR]
  (repeat (first | walk_at "V1" | with_reducible refine Mine.st_ite ?_))
  refine c_rounded_to hb ⟨by omega, by omega⟩ fun f hf => ?_
  (repeat (first | walk_at "V1" | with_reducible refine Mine.st_ite ?_))
  refine ite_dec (fun q => ?_) (fun q => ?_)
  · (repeat (first | walk_at "V1" | with_reducible refine Mine.st_ite ?_))
    rw [decide_eq_true q]
    exact h
  · have h2 : _ ∧ _ := hf.resolve_left q
    (repeat (first | walk_at "V1" | with_reducible refine Mine.st_ite ?_))
    refine ite_dec (fun _ => ?_) (fun z => absurd h2.1 z)
    (repeat (first | walk_at "V1" | with_reducible refine Mine.st_ite ?_))
    rw [decide_eq_true h2.2]
    exact h
theorem st_tryN {call : CallT} {k : Nat} {fi : FI} {ρ : Rho} {Ks : KS} {rest : List Stmt} {x : Str} {v : Expr} {p p2 p3 : Pos} {h : ExceptHandler} {hs : List ExceptHandler} (hh : fi.hd = false) (hc : fi.cells = false) (hn : noSwap v)
    (h1 : (astR call k).ev fi v ρ J (fun v J => storeV fi x v ρ (fun ρ => (astR call k).st fi rest ρ J Ks X)) (fun C J => HandV (astR call k) fi C ρ J (KN call k fi rest Ks X) (h :: hs))) : (astR call (k + 1)).st fi (.Try [.Assign [.Name x p3] v p] (h :: hs) [] [] p2 :: rest) ρ J Ks X := st_tryA hh hc hn h1
theorem st_tryT {call : CallT} {k : Nat} {fi : FI} {ρ : Rho} {Ks : KS} {rest : List Stmt} {es : List Expr} {kk : Nat} {v : Expr} {p p2 p3 : Pos} {h : ExceptHandler} {hs : List ExceptHandler} (hh : fi.hd = false) (hc : fi.cells = false) (hn : noSwap v) (hsw : ∀ L a cd cl, swappedStores [.Tuple es kk p3] v (envX fi.cn fi.cs L a cd cl) = pure none)
    (h1 : (astR call k).ev fi v ρ J (fun tv J => storeTg fi (.Tuple es kk p3) tv ρ (fun ρ => (astR call k).st fi rest ρ J Ks X)) (fun C J => HandV (astR call k) fi C ρ J (KN call k fi rest Ks X) (h :: hs))) : (astR call (k + 1)).st fi (.Try [.Assign [.Tuple es kk p3] v p] (h :: hs) [] [] p2 :: rest) ρ J Ks X :=
  st_tryA hh hc hn ⟨none, hsw, Eq.mp (by congr 1; funext tv J; exact propext ⟨fun q => ⟨hh, q⟩, fun q => q.2⟩) h1⟩
theorem ev_join {r : R} {fi : FI} {e : Expr} {ρ : Rho} (P : SV → JS → Prop) (h1 : ∀ K' : KV, (∀ v J, P v J → K' v J) → r.ev fi e ρ J K' X) (h2 : ∀ v J, P v J → K v J) : r.ev fi e ρ J K X := h1 K h2
end
end Mine
local macro_rules
  | `(tactic| walk_at "V1") => `(tactic| first
    | ((with_reducible refine' Mine.st_tryN ?e ?f ?g ?_); (case e => exact rfl); (case f => exact rfl); (case g => exact fun _ _ _ => rfl))
    | ((with_reducible refine' Mine.st_tryT ?e ?f ?g ?i ?_); (case e => exact rfl); (case f => exact rfl); (case g => exact fun _ _ _ => rfl); (case i => exact fun _ _ _ _ => rfl)))
namespace Mine
section
variable {w : World} {n : Nat} {J : JS} {K : KV} {X : KX}
theorem tm_sign {v b : Int} : 0 ≤ v.tmod b * v := by
  by_cases h : 0 ≤ v
  · exact Int.mul_nonneg (Int.tmod_nonneg b h) h
  · have : v.tmod b ≤ 0 := by
      have := Int.tmod_nonneg b (a := -v) (by omega)
      rw [Int.neg_tmod] at this
      omega
    exact Int.mul_nonneg_of_nonpos_of_nonpos this (by omega)
theorem tm_lt {v b : Int} (h : b ≠ 0) : ((v.tmod b).natAbs : Int) < (b.natAbs : Int) := by
  rw [Int.natAbs_tmod]
  exact_mod_cast Nat.mod_lt _ (by omega)
theorem tm_eq {v b : Int} : v.tdiv b * b + v.tmod b = v := by
  have := Int.mul_tdiv_add_tmod v b
  rw [Int.mul_comm] at this
  exact this
theorem c_law_divides {v b : Int} (sb : Small b) (h : K (.bool true) J) : vcall w (n + 3) (.fn 204) [.int v, .int b] J K X := by
  have s1 := sb.1
  have s2 := sb.2
  refine' Mine.FnCall.fn (lam := 0) (ps := [Str.ofString "value", Str.ofString "by"]) ?D rfl ?c ?l ?_
  case D => walk_at "DEF"
  case c => decide
  case l => decide
  dsimp only [Mine.zipR]
  (repeat (first | walk_at "V1" | with_reducible refine Mine.st_ite ?_))
  refine c_over sb (fun z => ?_) (fun z => ?_)
  · refine .hit rfl rfl ?_
    (repeat (first | walk_at "V1" | with_reducible refine Mine.st_ite ?_))
    rw [decide_eq_true z]
    exact h
  · have e1 := tm_eq (v := v) (b := b)
    have e2 := tm_lt (v := v) z
    have e3 := tm_sign (v := v) (b := b)
    generalize v.tdiv b = q at *
    generalize v.tmod b = r at *
    (repeat (first | walk_at "V1" | with_reducible refine Mine.st_ite ?_))
    refine ite_ndec (fun _ => ?_) (fun q => absurd q z)
    (repeat (first | walk_at "V1" | with_reducible refine Mine.st_ite ?_))
    refine ite_dec (fun _ => ?_) (fun q => absurd e1 q)
    (repeat (first | walk_at "V1" | with_reducible refine Mine.st_ite ?_))
    refine ite_dec (fun _ => ?_) (fun q => absurd e2 q)
    (repeat (first | walk_at "V1" | with_reducible refine Mine.st_ite ?_))
    rw [decide_eq_true e3]
    exact h
theorem fr_big {x d : Int} (hd : 0 < d) (hx : ¬ (-1073741823 ≤ x.tdiv d ∧ x.tdiv d ≤ 1073741823)) : 1073741824 * d ≤ (x.natAbs : Int) := by
  have h1 : ((x.tdiv d).natAbs : Int) = (x.natAbs : Int) / (d.natAbs : Int) := by rw [Int.natAbs_tdiv]; rfl
  have h2 : 1073741824 ≤ (x.natAbs : Int) / (d.natAbs : Int) := by omega
  have h3 : (d.natAbs : Int) = d := by omega
  rw [h3] at h2
  have := (Int.le_ediv_iff_mul_le hd).mp h2
  exact this
theorem fr_small {x d : Int} (h1 : -1073741823 ≤ x.tdiv d) (h2 : x.tdiv d ≤ 1073741823) : ((x.tdiv d).natAbs : Int) < 1073741824 := by omega
theorem c_law_fractions {v u d : Int} (sv : Small v) (h : K (.bool true) J) : vcall w (n + 4) (.fn 211) [.int v, .int u, .int d] J K X := by
  have s1 := sv.1
  have s2 := sv.2
  refine' Mine.FnCall.fn (lam := 0) (ps := [Str.ofString "value", Str.ofString "up", Str.ofString "down"]) ?D rfl ?c ?l ?_
  case D => walk_at "DEF"
  case c => decide
  case l => decide
  dsimp only [Mine.zipR]
  refine' Mine.st_name ?e ?f ?_
  case e => exact rfl
  case f => exact fun _ _ _ => rfl
  refine ev_join (P := fun g J' => J' = J ∧ g = .bool (decide ((0 ≤ u ∧ u ≤ 2147483647) ∧ (1 ≤ d ∧ d ≤ 2147483647)))) (fun K' hK => ?_) ?_
  · (repeat (first | walk_at "V1" | with_reducible refine Mine.st_ite ?_))
    refine ite_dec (fun q1 => ?_) (fun q1 => ?_)
    · (repeat (first | walk_at "V1" | with_reducible refine Mine.st_ite ?_))
      refine ite_dec (fun q2 => ?_) (fun q2 => ?_)
      · (repeat (first | walk_at "V1" | with_reducible refine Mine.st_ite ?_))
        refine ite_dec (fun q3 => ?_) (fun q3 => ?_)
        · (repeat (first | walk_at "V1" | with_reducible refine Mine.st_ite ?_))
          refine hK _ _ ⟨rfl, congrArg _ (decide_eq_decide.mpr ?_)⟩
          omega
        · (repeat (first | walk_at "V1" | with_reducible refine Mine.st_ite ?_))
          refine hK _ _ ⟨rfl, congrArg _ (decide_eq_false ?_).symm⟩
          omega
      · (repeat (first | walk_at "V1" | with_reducible refine Mine.st_ite ?_))
        refine hK _ _ ⟨rfl, congrArg _ (decide_eq_decide.mpr ?_)⟩
        omega
    · (repeat (first | walk_at "V1" | with_reducible refine Mine.st_ite ?_))
      refine hK _ _ ⟨rfl, congrArg _ (decide_eq_false ?_).symm⟩
      omega
  · rintro g J' ⟨rfl, rfl⟩
    (repeat (first | walk_at "V1" | with_reducible refine Mine.st_ite ?_))
    refine c_fraction (fun z => ?_) (fun u0 u1 d0 d1 q0 q1 => ?_) (fun u0 u1 d0 d1 q => ?_)
    · refine .hit rfl rfl ?_
      rw [decide_eq_false z]
      (repeat (first | walk_at "V1" | with_reducible refine Mine.st_ite ?_))
      exact h
    · rw [decide_eq_true ⟨⟨u0, u1⟩, d0, d1⟩]
      have e0 := fr_small q0 q1
      have e1 := tm_eq (v := v * u) (b := d)
      have e2 := tm_lt (v := v * u) (b := d) (by omega)
      have e3 : 0 ≤ (v * u).tmod d * v := by
        by_cases z : u = 0
        · rw [z]; simp
        have := tm_sign (v := v * u) (b := d)
        rw [← Int.mul_assoc] at this
        exact Int.nonneg_of_mul_nonneg_left this (by omega)
      generalize (v * u).tdiv d = q at *
      generalize (v * u).tmod d = r at *
      (repeat (first | walk_at "V1" | with_reducible refine Mine.st_ite ?_))
      refine ite_dec (fun _ => ?_) (fun q => absurd e0 q)
      (repeat (first | walk_at "V1" | with_reducible refine Mine.st_ite ?_))
      refine ite_dec (fun _ => ?_) (fun q => absurd e1 q)
      (repeat (first | walk_at "V1" | with_reducible refine Mine.st_ite ?_))
      refine ite_dec (fun _ => ?_) (fun z => absurd (by omega) z)
      (repeat (first | walk_at "V1" | with_reducible refine Mine.st_ite ?_))
      rw [decide_eq_true e3]
      exact h
    · refine .pass rfl (by rfl) (by decide) (.inr rfl) (.hit rfl rfl ?_)
      rw [decide_eq_true ⟨⟨u0, u1⟩, d0, d1⟩]
      have big : 1073741824 * d ≤ (v.natAbs : Int) * u := by
        have := fr_big (by omega) q
        rw [Int.natAbs_mul, Int.natCast_mul, Int.natAbs_of_nonneg u0] at this
        exact this
      clear q
      (repeat (first | walk_at "V1" | with_reducible refine Mine.st_ite ?_))
      rw [decide_eq_true big]
      exact h
theorem bind0 {fd : FuncData} (h : bindArgs fd ⟨[], []⟩ = pure []) : ∀ xs : List Value, xs.length = ([] : List Str).length → bindArgs fd ⟨xs, []⟩ = pure (([] : List Str).zip xs)
  | [], _ => h
theorem all_nil {α : Type} {P : α → Prop} : ∀ p ∈ ([] : List α), P p := fun _ h => nomatch h
theorem all_cons {α : Type} {P : α → Prop} {a : α} {l : List α} (h : P a) (h2 : ∀ p ∈ l, P p) : ∀ p ∈ a :: l, P p := fun p hp => by
  rcases List.mem_cons.mp hp with rfl | hp
  · exact h
  · exact h2 p hp
theorem lam_nil {call : CallT} {k : Nat} {fi : FI} {ρ : Rho} {ps : Arguments} {body : Expr} {sc : Scope} {p : Pos} (h1 : fi.lam = 1 ∨ fi.lam = 2) (h2 : ∀ env, defaultsOf ps env = ([], [])) (h3 : frees sc.names [] = []) (h : K (.clo (qLam fi.cn) ps body sc []) J) : (astR call (k + 1)).ev fi (.Lambda ps body sc p) ρ J K X :=
  e_lam ⟨h1, h2, [], h3, all_nil, h⟩
end
end Mine
local macro_rules
  | `(tactic| walk_at "V1") => `(tactic| first
    | with_reducible refine Mine.st_brk ?_
    | ((with_reducible refine' Mine.v_clo ?e ?_); (case e => exact rfl))
    | ((with_reducible refine' Mine.VBin.addl ?e ?_); (case e => exact Nat.le_of_ble_eq_true rfl))
    | ((with_reducible refine' Mine.lam_nil ?e ?f ?g ?_); (case e => first | exact Or.inl rfl | exact Or.inr rfl); (case f => exact fun _ => rfl); (case g => exact rfl)))
namespace Mine
section
variable {w : World} {n : Nat} {J : JS} {K : KV} {X : KX}
theorem c_kept {wh bd : Int} {q : Str} {ps : Arguments} {b : Expr} {sc : Scope} {fv : Rho} {nums : List SV} (hd : ∀ (K' : KV) (X' : KX), (((wh.natAbs : Int) < bd) → K' (.int wh) J) → (bd ≤ (wh.natAbs : Int) → X' 57 J) → vcall w (n + 1) (.clo q ps b sc fv) [.lst nums] J K' X') (h : K (.bool true) J) :
    vcall w (n + 2) (.fn 218) [.int wh, .int bd, .clo q ps b sc fv, .lst nums] J K X := by
  refine' Mine.FnCall.fn (lam := 0) (ps := [Str.ofString "whole", Str.ofString "bound", Str.ofString "door", Str.ofString "numbers"]) ?D rfl ?c ?l ?_
  case D => walk_at "DEF"
  case c => decide
  case l => decide
  dsimp only [Mine.zipR]
  (repeat (first | walk_at "V1" | with_reducible refine Mine.st_ite ?_))
  refine hd _ _ (fun z => ?_) (fun z => ?_)
  · (repeat (first | walk_at "V1" | with_reducible refine Mine.st_ite ?_))
    refine ite_dec (fun _ => ?_) (fun q => absurd z q)
    (repeat (first | walk_at "V1" | with_reducible refine Mine.st_ite ?_))
    rw [decide_eq_true (rfl : wh = wh)]
    exact h
  · refine .hit rfl rfl ?_
    (repeat (first | walk_at "V1" | with_reducible refine Mine.st_ite ?_))
    rw [decide_eq_true z]
    exact h
theorem c_law_products {c v m : Int} (s1 : -3000000000 ≤ c) (s2 : c ≤ 3000000000) (h : K (.bool true) J) : vcall w (n + 6) (.fn 225) [.int c, .int v, .int m] J K X := by
  refine' Mine.FnCall.fn (lam := 2) (ps := [Str.ofString "count", Str.ofString "value", Str.ofString "more"]) ?D rfl ?c ?l ?_
  case D => walk_at "DEF"
  case c => decide
  case l => decide
  dsimp only [Mine.zipR]
  (repeat (first | walk_at "V1" | with_reducible refine Mine.st_ite ?_))
  refine ⟨trivial, _, rfl, ?_⟩
  refine l_cons _ (Less.refl _) ?_
  (repeat (first | walk_at "V1" | with_reducible refine Mine.st_ite ?_))
  refine c_kept (fun K' X' hk hx => ?_) ?_
  · skip
    refine' Mine.FnCall.clo (ps := [Str.ofString "three"]) ?hb rfl ?hs ?hc ?hp ?hf ?_
    case hb => exact fun _ _ _ _ _ => Mine.bind1 fun x0 => rfl
    case hs => exact ⟨rfl, rfl, rfl, rfl, rfl⟩
    case hc => decide
    case hp => decide
    case hf => repeat (first | exact Mine.all_nil | refine Mine.all_cons rfl ?_)
    dsimp only [Mine.zipR]
    (repeat (first | walk_at "V1" | with_reducible refine Mine.st_ite ?_))
    refine c_times ⟨by omega, by omega⟩ (c_check_dimen (fun h1 h2 => hk (by omega)) (fun z => hx (by omega)))
  (repeat (first | walk_at "V1" | with_reducible refine Mine.st_ite ?_))
  refine l_cons _ (Less.refl _) ?_
  (repeat (first | walk_at "V1" | with_reducible refine Mine.st_ite ?_))
  refine c_kept (fun K' X' hk hx => ?_) ?_
  · skip
    refine' Mine.FnCall.clo (ps := [Str.ofString "three"]) ?hb rfl ?hs ?hc ?hp ?hf ?_
    case hb => exact fun _ _ _ _ _ => Mine.bind1 fun x0 => rfl
    case hs => exact ⟨rfl, rfl, rfl, rfl, rfl⟩
    case hc => decide
    case hp => decide
    case hf => repeat (first | exact Mine.all_nil | refine Mine.all_cons rfl ?_)
    dsimp only [Mine.zipR]
    (repeat (first | walk_at "V1" | with_reducible refine Mine.st_ite ?_))
    refine c_times_number ⟨by omega, by omega⟩ (c_check_number (fun h1 h2 => hk (by omega)) (fun z => hx (by omega)))
  (repeat (first | walk_at "V1" | with_reducible refine Mine.st_ite ?_))
  refine l_cons _ (Less.refl _) ?_
  (repeat (first | walk_at "V1" | with_reducible refine Mine.st_ite ?_))
  refine c_kept (fun K' X' hk hx => ?_) ?_
  · skip
    refine' Mine.FnCall.clo (ps := [Str.ofString "three"]) ?hb rfl ?hs ?hc ?hp ?hf ?_
    case hb => exact fun _ _ _ _ _ => Mine.bind1 fun x0 => rfl
    case hs => exact ⟨rfl, rfl, rfl, rfl, rfl⟩
    case hc => decide
    case hp => decide
    case hf => repeat (first | exact Mine.all_nil | refine Mine.all_cons rfl ?_)
    dsimp only [Mine.zipR]
    (repeat (first | walk_at "V1" | with_reducible refine Mine.st_ite ?_))
    refine c_check_dimen (fun h1 h2 => hk (by omega)) (fun z => hx (by omega))
  (repeat (first | walk_at "V1" | with_reducible refine Mine.st_ite ?_))
  refine l_cons _ (Less.refl _) ?_
  (repeat (first | walk_at "V1" | with_reducible refine Mine.st_ite ?_))
  refine c_kept (fun K' X' hk hx => ?_) ?_
  · skip
    refine' Mine.FnCall.clo (ps := [Str.ofString "three"]) ?hb rfl ?hs ?hc ?hp ?hf ?_
    case hb => exact fun _ _ _ _ _ => Mine.bind1 fun x0 => rfl
    case hs => exact ⟨rfl, rfl, rfl, rfl, rfl⟩
    case hc => decide
    case hp => decide
    case hf => repeat (first | exact Mine.all_nil | refine Mine.all_cons rfl ?_)
    dsimp only [Mine.zipR]
    (repeat (first | walk_at "V1" | with_reducible refine Mine.st_ite ?_))
    refine c_check_number (fun h1 h2 => hk (by omega)) (fun z => hx (by omega))
  (repeat (first | walk_at "V1" | with_reducible refine Mine.st_ite ?_))
  refine l_nil _ (Less.refl _) ?_
  (repeat (first | walk_at "V1" | with_reducible refine Mine.st_ite ?_))
  exact h
end
end Mine
namespace Mine
section
variable {w : World} {n : Nat} {J : JS} {K : KV} {X : KX}
theorem asInts_map : ∀ ds : List Int, asInts (ds.map .int) = some ds
  | [] => rfl
  | d :: ds => by rw [List.map_cons, asInts, asInts_map ds]; rfl
noncomputable def Reads (n s p : Int) : Prop := (2 * p - 1) * s ≤ 131072 * n ∧ 131072 * n < (2 * p + 1) * s
theorem reads_of {W S : Int} (hS : 0 < S) : Reads W S ((2 * 65536 * W / S + 1) / 2) := by
  unfold Reads
  have e0 : (2 : Int) * 65536 * W = 131072 * W := by omega
  rw [e0]
  have e := Int.mul_ediv_add_emod (131072 * W) S
  have r0 := Int.emod_nonneg (131072 * W) (b := S) (by omega)
  have r1 := Int.emod_lt_of_pos (131072 * W) hS
  generalize 131072 * W / S = t at *
  generalize 131072 * W % S = r at *
  generalize hf : (t + 1) / 2 = f at *
  have h1 : 2 * f - 1 ≤ t := by omega
  have h2 : t + 1 ≤ 2 * f + 1 := by omega
  have m1 := Int.mul_le_mul_of_nonneg_right h1 (Int.le_of_lt hS)
  have m2 := Int.mul_le_mul_of_nonneg_right h2 (Int.le_of_lt hS)
  rw [Int.add_mul, Int.one_mul] at m2
  rw [Int.mul_comm S t] at e
  constructor <;> omega
theorem c_read {a s p : Int} (ss : Small s) (h : ∀ b : Bool, (b = true ↔ Reads a s p) → K (.bool b) J) : vcall w (n + 1) (.fn 239) [.int a, .int s, .int p] J K X := by
  have s1 := ss.1
  have s2 := ss.2
  refine' Mine.FnCall.fn (lam := 0) (ps := [Str.ofString "near", Str.ofString "scale", Str.ofString "part"]) ?D rfl ?c ?l ?_
  case D => walk_at "DEF"
  case c => decide
  case l => decide
  dsimp only [Mine.zipR]
  (repeat (first | walk_at "V1" | with_reducible refine Mine.st_ite ?_))
  refine ite_dec (fun q => ?_) (fun q => ?_)
  · (repeat (first | walk_at "V1" | with_reducible refine Mine.st_ite ?_))
    exact h _ ⟨fun z => ⟨q, of_decide_eq_true z⟩, fun z => decide_eq_true z.2⟩
  · (repeat (first | walk_at "V1" | with_reducible refine Mine.st_ite ?_))
    exact h _ ⟨(fun z => nomatch z), fun z => absurd z.1 q⟩
theorem c_read_yes {a s p : Int} (ss : Small s) (hr : Reads a s p) (h : K (.bool true) J) : vcall w (n + 1) (.fn 239) [.int a, .int s, .int p] J K X :=
  c_read ss fun b hb => by rw [hb.mpr hr]; exact h
theorem c_read_no {a s p : Int} (ss : Small s) (hr : ¬ Reads a s p) (h : K (.bool false) J) : vcall w (n + 1) (.fn 239) [.int a, .int s, .int p] J K X :=
  c_read ss fun b hb => by
    cases b with
    | true => exact absurd (hb.mp rfl) hr
    | false => exact h
theorem c_whole {ds : List Int} (h : K (.int (decV 0 ds)) J) : vcall w (n + 1) (.fn 246) [.lst (ds.map .int)] J K X := by
  refine' Mine.FnCall.fn (lam := 0) (ps := [Str.ofString "digits"]) ?D rfl ?c ?l ?_
  case D => walk_at "DEF"
  case c => decide
  case l => decide
  dsimp only [Mine.zipR]
  (repeat (first | walk_at "V1" | with_reducible refine Mine.st_ite ?_))
  refine ⟨trivial, _, rfl, ?_⟩
  refine l_ind (I := fun items ρ J' => J' = J ∧ ∃ es a, items = es.map .int ∧ Less ρ [(Str.ofString "found", .int a)] ∧ decV a es = decV 0 ds) (fun ρ J' hI => ?_) (fun v vs ih ρ J' hI => ?_) _ _ _ ⟨rfl, ds, 0, rfl, by (repeat (first | exact Mine.Less.nil | refine Mine.Less.cons rfl ?_)), rfl⟩
  · obtain ⟨rfl, es, a, he, hL, h1⟩ := hI
    cases es with
    | cons e es => cases he
    | nil =>
      have h1' : a = decV 0 ds := h1
      refine l_nil _ hL ?_
      (repeat (first | walk_at "V1" | with_reducible refine Mine.st_ite ?_))
      rw [h1']
      exact h
  · obtain ⟨rfl, es, a, he, hL, h1⟩ := hI
    cases es with
    | nil => cases he
    | cons e es =>
      cases he
      refine l_cons _ hL ?_
      (repeat (first | walk_at "V1" | with_reducible refine Mine.st_ite ?_))
      exact ih _ _ ⟨rfl, es, 10 * a + e, rfl, by (repeat (first | exact Mine.Less.nil | refine Mine.Less.cons rfl ?_)), h1⟩
theorem c_law_decimals {ds : List Int} (hD : Digs ds) (hl : ds.length ≤ 20) (h : K (.bool true) J) : vcall w (n + 3) (.fn 253) [.lst (ds.map .int)] J K X := by
  refine' Mine.FnCall.fn (lam := 0) (ps := [Str.ofString "digits"]) ?D rfl ?c ?l ?_
  case D => walk_at "DEF"
  case c => decide
  case l => decide
  dsimp only [Mine.zipR]
  (repeat (first | walk_at "V1" | with_reducible refine Mine.st_ite ?_))
  refine .list (by rw [List.length_map]; omega) ?_
  (repeat (first | walk_at "V1" | with_reducible refine Mine.st_ite ?_))
  refine c_from_decimals (fun d hd => hD d (List.mem_of_mem_take hd)) (by omega) ?_
  (repeat (first | walk_at "V1" | with_reducible refine Mine.st_ite ?_))
  refine ⟨.inr fun _ _ => rfl, .lto (by decide) (by rw [List.length_map]; omega) ?_⟩
  rw [show (ds.map SV.int).take (Int.toNat 17) = (ds.take 17).map SV.int from (List.map_take ..).symm]
  (repeat (first | walk_at "V1" | with_reducible refine Mine.st_ite ?_))
  refine .eql (asInts_map ds) (asInts_map ds) ?_
  rw [decide_eq_true (rfl : ds = ds)]
  (repeat (first | walk_at "V1" | with_reducible refine Mine.st_ite ?_))
  refine c_whole ?_
  (repeat (first | walk_at "V1" | with_reducible refine Mine.st_ite ?_))
  have hlen : (ds.take 17).length ≤ 17 := by rw [List.length_take]; omega
  refine v_bi (.lenl (by rw [List.length_map]; omega) ?_)
  rw [List.length_map]
  (repeat (first | walk_at "V1" | with_reducible refine Mine.st_ite ?_))
  rw [Int.toNat_natCast]
  have hp : (0 : Int) < 10 ^ (ds.take 17).length := Int.pow_pos (by decide)
  have hq : (10 : Int) ^ (ds.take 17).length ≤ 10 ^ 17 := by
    have : (10 ^ (ds.take 17).length : Nat) ≤ 10 ^ 17 := Nat.pow_le_pow_right (by decide) hlen
    exact_mod_cast this
  refine c_read_yes ⟨by omega, by omega⟩ (reads_of hp) ?_
  exact h
end
end Mine
namespace Mine
section
variable {w : World} {n : Nat} {J : JS} {K : KV} {X : KX}
noncomputable def bitsDown : Nat → List SV
  | 0 => []
  | k + 1 => .int (k : Int) :: bitsDown k
/-- what badness answers -/
structure BadIs (e t f : Int) : Prop where
  zero : e = 0 → f = 0
  neg : 0 < e → t ≤ 0 → f = 10000
  big : 0 < e → 0 < t → 1290 < badR e t → f = 10000
  mid : 0 < e → 0 < t → badR e t ≤ 1290 → f = (badR e t * badR e t * badR e t + 131072) / 262144
theorem c_badness_to {e t : Int} (st : Small t) (he : 0 ≤ e) (h : ∀ f, BadIs e t f → K (.int f) J) : vcall w (n + 1) (.fn 157) [.int e, .int t] J K X :=
  c_badness st (fun z => by omega) (fun z => h _ ⟨fun _ => rfl, fun _ _ => by omega, fun _ _ => by omega, fun _ _ => by omega⟩)
    (fun z1 z2 => h _ ⟨fun _ => by omega, fun _ _ => rfl, fun _ _ => by omega, fun _ _ => by omega⟩)
    (fun z1 z2 z3 => h _ ⟨fun _ => by omega, fun _ _ => rfl, fun _ _ _ => rfl, fun _ _ _ => by omega⟩)
    (fun z1 z2 z3 => h _ ⟨fun _ => by omega, fun _ _ => by omega, fun _ _ _ => by omega, fun _ _ _ => rfl⟩)
theorem cube_range {r f : Int} (r0 : 0 ≤ r) (r1 : r ≤ 1290) (hf : f = (r * r * r + 131072) / 262144) : 0 ≤ f ∧ f ≤ 10000 ∧ (2 * f - 1) * 131072 ≤ r ^ Int.toNat 3 ∧ r ^ Int.toNat 3 < (2 * f + 1) * 131072 := by
  have e : r ^ Int.toNat 3 = r * r * r := by rw [show Int.toNat 3 = 3 from rfl, Int.pow_succ, Int.pow_succ, Int.pow_succ, Int.pow_zero, Int.one_mul]
  have m1 : r * r ≤ 1290 * 1290 := Int.mul_le_mul r1 r1 r0 (by decide)
  have m0 : 0 ≤ r * r := Int.mul_nonneg r0 r0
  have m2 : r * r * r ≤ 1290 * 1290 * 1290 := Int.mul_le_mul m1 r1 r0 (by decide)
  have m3 : 0 ≤ r * r * r := Int.mul_nonneg m0 r0
  rw [e]
  generalize r * r * r = c at *
  omega
theorem bad_range {e t f : Int} (he : 0 ≤ e) (h : BadIs e t f) : 0 ≤ f ∧ f ≤ 10000 := by
  by_cases e0 : e = 0
  · have := h.zero e0; omega
  have e1 : 0 < e := by omega
  by_cases t0 : t ≤ 0
  · have := h.neg e1 t0; omega
  have t1 : 0 < t := by omega
  by_cases r : 1290 < badR e t
  · have := h.big e1 t1 r; omega
  have r0 : 0 ≤ badR e t := by
    unfold badR
    split
    · exact Int.ediv_nonneg (by omega) (by omega)
    · split
      · exact Int.ediv_nonneg (by omega) (by omega)
      · omega
  have := cube_range r0 (by omega) (h.mid e1 t1 (by omega))
  exact ⟨this.1, this.2.1⟩
/-- the last check: no more than a half above a hundred cubes -/
theorem cube_half {e t f r : Int} (ht : 0 < t) (r0 : 0 ≤ r) (hr : r * t ≤ 297 * e) (he : 0 ≤ e) (hf : f = (r * r * r + 131072) / 262144) : 2 * f * t ^ Int.toNat 3 ≤ 200 * e ^ Int.toNat 3 + t ^ Int.toNat 3 := by
  have cu : ∀ x : Int, x ^ Int.toNat 3 = x * x * x := fun x => by rw [show Int.toNat 3 = 3 from rfl, Int.pow_succ, Int.pow_succ, Int.pow_succ, Int.pow_zero, Int.one_mul]
  rw [cu, cu]
  have h1 : 262144 * f ≤ r * r * r + 131072 := by omega
  have rt0 : 0 ≤ r * t := Int.mul_nonneg r0 (by omega)
  have a0 : 0 ≤ 297 * e := by omega
  have h2 : r * t * (r * t) ≤ 297 * e * (297 * e) := Int.mul_le_mul hr hr rt0 a0
  have h3 : r * t * (r * t) * (r * t) ≤ 297 * e * (297 * e) * (297 * e) := Int.mul_le_mul h2 hr rt0 (Int.mul_nonneg a0 a0)
  have e1 : r * t * (r * t) * (r * t) = r * r * r * (t * t * t) := by
    simp only [Int.mul_assoc, Int.mul_left_comm, Int.mul_comm]
  have e2 : 297 * e * (297 * e) * (297 * e) = 26198073 * (e * e * e) := by
    rw [show (26198073 : Int) = 297 * 297 * 297 from rfl]
    simp only [Int.mul_assoc, Int.mul_left_comm, Int.mul_comm]
  rw [e1, e2] at h3
  have tt : 0 ≤ t * t * t := Int.mul_nonneg (Int.mul_nonneg (by omega) (by omega)) (by omega)
  have ee : 0 ≤ e * e * e := Int.mul_nonneg (Int.mul_nonneg he he) he
  have h4 := Int.mul_le_mul_of_nonneg_right h1 tt
  rw [Int.add_mul, Int.mul_assoc] at h4
  rw [Int.mul_assoc]
  generalize r * r * r * (t * t * t) = A at *
  generalize f * (t * t * t) = B at *
  generalize t * t * t = C at *
  generalize e * e * e = D at *
  omega
theorem div_unique {up down r : Int} (h1 : r * down ≤ up) (h2 : up < (r + 1) * down) (hd : 0 < down) : r = up / down := by
  have a : r ≤ up / down := (Int.le_ediv_iff_mul_le hd).mpr h1
  have b : up / down < r + 1 := (Int.ediv_lt_iff_lt_mul hd).mpr h2
  omega
end
end Mine
namespace Mine
section
variable {w : World} {n : Nat} {J : JS} {K : KV} {X : KX}
theorem badR_div {e t U D : Int} (h : ¬ (7230584 < e ∧ t < 1663497)) (hU : e ≤ 7230584 → U = 297 * e ∧ D = t) (hU2 : 7230584 < e → U = e ∧ D = t / 297) : badR e t = U / D := by
  unfold badR
  by_cases q : e ≤ 7230584
  · rw [if_pos q, (hU q).1, (hU q).2, Int.mul_comm]
  · rw [if_neg q, if_pos (by omega), (hU2 (by omega)).1, (hU2 (by omega)).2]
theorem two_nat (k : Nat) : (2 : Int) ^ Int.toNat (k : Int) = 2 ^ k := by rw [Int.toNat_natCast]
theorem c_law_bad {e t : Int} (he : 0 ≤ e) (he2 : e ≤ 10000000000) (st : Small t) (h : K (.bool true) J) : vcall w (n + 2) (.fn 232) [.int e, .int t] J K X := by
  have s1 := st.1
  have s2 := st.2
  refine' Mine.FnCall.fn (lam := 0) (ps := [Str.ofString "excess", Str.ofString "total"]) ?D rfl ?c ?l ?_
  case D => walk_at "DEF"
  case c => decide
  case l => decide
  dsimp only [Mine.zipR]
  (repeat walk_at "V1")
  refine c_badness_to st he fun f hf => ?_
  have hr := bad_range he hf
  (repeat (first | walk_at "V1" | with_reducible refine Mine.st_ite ?_))
  refine ite_dec (fun _ => ?_) (fun q => absurd hr.1 q)
  (repeat (first | walk_at "V1" | with_reducible refine Mine.st_ite ?_))
  refine ite_ndec (fun q => absurd hr.2 q) (fun _ => ?_)
  (repeat (first | walk_at "V1" | with_reducible refine Mine.st_ite ?_))
  refine ite_dec (fun q0 => ?_) (fun q0 => ?_)
  · (repeat (first | walk_at "V1" | with_reducible refine Mine.st_ite ?_))
    refine ite_dec (fun _ => ?_) (fun q => absurd q0 q)
    (repeat (first | walk_at "V1" | with_reducible refine Mine.st_ite ?_))
    rw [decide_eq_true (hf.zero q0)]
    exact h
  (repeat (first | walk_at "V1" | with_reducible refine Mine.st_ite ?_))
  refine ite_dec (fun q1 => ?_) (fun q1 => ?_)
  · (repeat (first | walk_at "V1" | with_reducible refine Mine.st_ite ?_))
    refine ite_dec (fun q => absurd q q0) (fun _ => ?_)
    (repeat (first | walk_at "V1" | with_reducible refine Mine.st_ite ?_))
    rw [decide_eq_true (hf.neg (by omega) q1)]
    exact h
  have e1 : 0 < e := by omega
  have t1 : 0 < t := by omega
  (repeat walk_at "V1")
  refine st_ite_j (P := fun ρ J' => J' = J ∧ ρ = [(Str.ofString "total", .int t), (Str.ofString "excess", .int e), (Str.ofString "found", .int f)] ∧ ¬ (7230584 < e ∧ t < 1663497)) (fun Kn hK hR => ?_) ?_
  · (repeat (first | walk_at "V1" | with_reducible refine Mine.st_ite ?_))
    refine ite_dec (fun q2 => ?_) (fun q2 => ?_)
    · (repeat (first | walk_at "V1" | with_reducible refine Mine.st_ite ?_))
      refine ite_dec (fun q3 => ?_) (fun q3 => ?_)
      · (repeat (first | walk_at "V1" | with_reducible refine Mine.st_ite ?_))
        refine hR _ _ _ ?_
        rw [decide_eq_true (hf.big e1 t1 (by unfold badR; rw [if_neg (by omega), if_neg (by omega)]; omega))]
        exact h
      · (repeat (first | walk_at "V1" | with_reducible refine Mine.st_ite ?_))
        exact hK _ _ ⟨rfl, rfl, fun z => q3 z.2⟩
    · (repeat (first | walk_at "V1" | with_reducible refine Mine.st_ite ?_))
      exact hK _ _ ⟨rfl, rfl, fun z => q2 z.1⟩
  rintro ρ J' ⟨rfl, rfl, hb⟩
  refine' Mine.st_tup ?e ?f ?g ?_
  case e => exact fun _ _ _ => rfl
  case f => exact fun _ _ _ _ => rfl
  case g => exact rfl
  refine ev_join (P := fun v J2 => J2 = J' ∧ ∃ U D : Int, v = .tup [.int U, .int D] ∧ (e ≤ 7230584 → U = 297 * e ∧ D = t) ∧ (7230584 < e → U = e ∧ D = t / 297)) (fun Kn hK => ?_) ?_
  · (repeat (first | walk_at "V1" | with_reducible refine Mine.st_ite ?_))
    refine ite_dec (fun q => ?_) (fun q => ?_)
    · (repeat (first | walk_at "V1" | with_reducible refine Mine.st_ite ?_))
      exact hK _ _ ⟨rfl, _, _, rfl, fun _ => ⟨rfl, rfl⟩, fun z => by omega⟩
    · (repeat (first | walk_at "V1" | with_reducible refine Mine.st_ite ?_))
      exact hK _ _ ⟨rfl, _, _, rfl, fun z => by omega, fun _ => ⟨rfl, rfl⟩⟩
  rintro v J2 ⟨rfl, U, D, rfl, hU1, hU2⟩
  have hD : 0 < D := by
    by_cases q : e ≤ 7230584
    · rw [(hU1 q).2]; exact t1
    · rw [(hU2 (by omega)).2]; omega
  have hD2 : D ≤ t := by
    by_cases q : e ≤ 7230584
    · rw [(hU1 q).2]; omega
    · rw [(hU2 (by omega)).2]; omega
  have hU : 0 ≤ U ∧ U < 17179869184 * D := by
    by_cases q : e ≤ 7230584
    · have := hU1 q; omega
    · have := hU2 (by omega); omega
  have hbr := badR_div hb hU1 hU2
  (repeat (first | walk_at "V1" | with_reducible refine Mine.st_ite ?_))
  refine .rng3 ⟨by decide, by decide⟩ ⟨by decide, by decide⟩ ⟨by decide, by decide⟩ (by decide) ⟨rfl, _, rfl, ?_⟩
  rw [show ((List.range (Builtin.Range.rangeSize 33 (-1) (-1)).toNat).map fun i : Nat => SV.int (33 + i * (-1))) = bitsDown 34 from rfl]
  refine l_ind (I := fun items ρ J' => J' = J2 ∧ ∃ (k : Nat) (r : Int), k ≤ 34 ∧ items = bitsDown k ∧ Less ρ [(Str.ofString "total", .int t), (Str.ofString "excess", .int e), (Str.ofString "found", .int f), (Str.ofString "up", .int U), (Str.ofString "down", .int D), (Str.ofString "ratio", .int r)] ∧ 0 ≤ r ∧ r * D ≤ U ∧ U < (r + 2 ^ k) * D)
    (fun ρ J' hI => ?_) (fun v vs ih ρ J' hI => ?_) _ _ _ ⟨rfl, 34, 0, Nat.le_refl _, rfl, by (repeat (first | exact Mine.Less.nil | refine Mine.Less.cons rfl ?_)), Int.le_refl _, by omega, by rw [show (0 : Int) + 2 ^ 34 = 17179869184 by decide]; exact hU.2⟩
  · obtain ⟨rfl, k, r, hk, hi, hL, r0, h1, h2⟩ := hI
    cases k with
    | succ k => cases hi
    | zero =>
    refine l_nil _ hL ?_
    have hrq := div_unique h1 h2 hD
    rw [← hrq] at hbr
    have hr40 : r ≤ 10000000000 := by
      have : r ≤ U := Int.le_trans (by have := Int.mul_le_mul_of_nonneg_left (show (1 : Int) ≤ D by omega) r0; omega) h1
      by_cases q : e ≤ 7230584
      · have := hU1 q; omega
      · have := hU2 (by omega); omega
    (repeat (first | walk_at "V1" | with_reducible refine Mine.st_ite ?_))
    refine ite_dec (fun q => ?_) (fun q => ?_)
    · (repeat (first | walk_at "V1" | with_reducible refine Mine.st_ite ?_))
      rw [decide_eq_true (hf.big e1 t1 (by omega))]
      exact h
    have hfm := hf.mid e1 t1 (by omega)
    rw [hbr] at hfm
    obtain ⟨c1, c2, c3, c4⟩ := cube_range r0 (by omega) hfm
    (repeat (first | walk_at "V1" | with_reducible refine Mine.st_ite ?_))
    refine ite_dec (fun _ => ?_) (fun q => absurd c3 q)
    (repeat (first | walk_at "V1" | with_reducible refine Mine.st_ite ?_))
    rw [decide_eq_true c4]
    (repeat (first | walk_at "V1" | with_reducible refine Mine.st_ite ?_))
    refine ite_dec (fun q => ?_) (fun q => ?_)
    · (repeat (first | walk_at "V1" | with_reducible refine Mine.st_ite ?_))
      rw [decide_eq_true q]
      exact h
    · have hu := hU1 (by omega)
      rw [hu.1, hu.2] at h1
      have c5 := cube_half t1 r0 h1 he hfm
      (repeat (first | walk_at "V1" | with_reducible refine Mine.st_ite ?_))
      rw [decide_eq_true c5]
      exact h
  · obtain ⟨rfl, k, r, hk, hi, hL, r0, h1, h2⟩ := hI
    cases k with
    | zero => cases hi
    | succ k =>
    cases hi
    refine l_cons _ hL ?_
    rw [Int.pow_succ] at h2
    have h2' : U < (r + 2 ^ k + 2 ^ k) * D := by
      rw [show r + 2 ^ k + 2 ^ k = r + 2 ^ k * 2 by omega]; exact h2
    have pk : (0 : Int) < 2 ^ k := Int.pow_pos (by decide)
    (repeat (first | walk_at "V1" | with_reducible refine Mine.st_ite ?_))
    rw [two_nat]
    refine ite_dec (fun q => ?_) (fun q => ?_)
    · (repeat (first | walk_at "V1" | with_reducible refine Mine.st_ite ?_))
      refine ⟨_, rfl, ?_⟩
      rw [two_nat]
      (repeat (first | walk_at "V1" | with_reducible refine Mine.st_ite ?_))
      exact ih _ _ ⟨rfl, k, r + 2 ^ k, by omega, rfl, by (repeat (first | exact Mine.Less.nil | refine Mine.Less.cons rfl ?_)), by omega, q, h2'⟩
    · (repeat (first | walk_at "V1" | with_reducible refine Mine.st_ite ?_))
      exact ih _ _ ⟨rfl, k, r, by omega, rfl, by (repeat (first | exact Mine.Less.nil | refine Mine.Less.cons rfl ?_)), r0, h1, Int.not_le.mp q⟩
end
end Mine
namespace Mine
theorem str_ext {a b : Str} (h : a.cps.toList = b.cps.toList) : a = b := by
  obtain ⟨⟨x⟩⟩ := a
  obtain ⟨⟨y⟩⟩ := b
  exact congrArg (fun l => (⟨⟨l⟩⟩ : Str)) h
theorem str_app (a b : Str) : (a ++ b).cps.toList = a.cps.toList ++ b.cps.toList := Array.toList_append
theorem str_len (a : Str) : a.length = a.cps.toList.length := Array.length_toList.symm
theorem str_len_app (a b : Str) : (a ++ b).length = a.length + b.length := by rw [str_len, str_app, List.length_append, ← str_len, ← str_len]
theorem slice_to_app (a b : Str) : Txt.slice (a ++ b) none (some ((a.length : Nat) : Int)) = a := by
  have h := eq_of_beq (slice_closes_toL (x := a ++ b) (j := ((a.length : Nat) : Int)) (by omega) (by rw [str_len_app]; omega))
  rw [h]
  refine str_ext ?_
  show List.take _ (List.drop _ (a ++ b).cps.toList) = _
  rw [str_app, show Int.toNat 0 = 0 from rfl, List.drop_zero, show (((a.length : Nat) : Int) - 0).toNat = a.cps.toList.length by rw [str_len]; omega, List.take_left]
theorem slice_from_app (a b : Str) : Txt.slice (a ++ b) (some ((a.length : Nat) : Int)) none = b := by
  have h := slice_from_eq (x := a ++ b) (i := ((a.length : Nat) : Int)) (by omega) (by rw [str_len_app]; omega) rfl
  rw [h]
  refine str_ext ?_
  show List.take _ (List.drop _ (a ++ b).cps.toList) = _
  rw [str_app, Int.toNat_natCast, str_len a, List.drop_left, List.take_of_length_le]
  rw [str_len_app, str_len, str_len]
  omega
/-- the last k digits -/
def pad : Nat → Nat → List Nat
  | 0, _ => []
  | k + 1, f => pad k (f / 10) ++ [48 + f % 10]
theorem pad_len : ∀ k f, (pad k f).length = k
  | 0, _ => rfl
  | k + 1, f => by rw [pad, List.length_append, pad_len]; rfl
theorem pad_digit : ∀ k f, ∀ c ∈ pad k f, 48 ≤ c ∧ c ≤ 57
  | 0, _, _, h => nomatch h
  | k + 1, f, c, h => by
    rw [pad] at h
    rcases List.mem_append.mp h with h | h
    · exact pad_digit k _ c h
    · rw [List.mem_singleton.mp h]; omega
theorem decV_snoc : ∀ (l : List Int) (a d : Int), decV a (l ++ [d]) = 10 * decV a l + d
  | [], _, _ => rfl
  | x :: l, a, d => decV_snoc l (10 * a + x) d
theorem pad_val : ∀ k f, f < 10 ^ k → decV 0 ((pad k f).map fun c : Nat => (c : Int) - 48) = (f : Int)
  | 0, f, h => by
    have : f = 0 := by simpa using h
    subst this; rfl
  | k + 1, f, h => by
    rw [pad, List.map_append]
    show decV 0 (List.map _ (pad k (f / 10)) ++ [(((48 + f % 10 : Nat)) : Int) - 48]) = _
    rw [decV_snoc, pad_val k (f / 10) (by rw [Nat.pow_succ] at h; omega)]
    omega
theorem digit_char {d : Nat} (h : d < 10) : (Nat.digitChar d).toNat = 48 + d := (by decide : ∀ d : Nat, d < 10 → (Nat.digitChar d).toNat = 48 + d) d h
theorem digits_pad : ∀ k f, f < 10 ^ k → (Nat.toDigits 10 (10 ^ k + f)).map Char.toNat = 49 :: pad k f
  | 0, f, h => by
    have : f = 0 := by simpa using h
    subst this; rfl
  | k + 1, f, h => by
    have p : 0 < 10 ^ k := Nat.pow_pos (by decide)
    rw [Nat.pow_succ] at h ⊢
    have t : Nat.toDigits 10 (10 ^ k + f / 10) ++ Nat.toDigits 10 (f % 10) = Nat.toDigits 10 (10 * (10 ^ k + f / 10) + f % 10) := Nat.toDigits_append_toDigits (by decide) (by omega) (by omega)
    rw [show 10 ^ k * 10 + f = 10 * (10 ^ k + f / 10) + f % 10 by omega, ← t, List.map_append, digits_pad k (f / 10) (by omega), Nat.toDigits_of_lt_base (by omega), pad]
    show 49 :: pad k (f / 10) ++ [(Nat.digitChar (f % 10)).toNat] = _
    rw [digit_char (by omega)]
    rfl
/-- the text of the part: its k digits -/
theorem tail_text {k f : Nat} (h : f < 10 ^ k) : Txt.slice (Str.ofString (toString ((10 ^ k + f : Nat) : Int))) (some 1) none = ⟨(pad k f).toArray⟩ := by
  have e : Str.ofString (toString ((10 ^ k + f : Nat) : Int)) = (⟨#[49]⟩ : Str) ++ ⟨(pad k f).toArray⟩ := by
    refine str_ext ?_
    rw [KIN.signs_num, digits_pad k f h, str_app]
    rfl
  rw [e]
  exact slice_from_app (⟨#[49]⟩ : Str) ⟨(pad k f).toArray⟩
end Mine
namespace Mine
noncomputable def nr (p s : Int) : Int := (2 * (p * s) + 65536) / (2 * 65536)
theorem reads_iff {n s p : Int} (hs : 0 < s) : (2 * 65536 * n / s + 1) / 2 = p ↔ Reads n s p := by
  constructor
  · rintro rfl; exact reads_of hs
  · intro h
    have h2 := reads_of (W := n) hs
    generalize (2 * 65536 * n / s + 1) / 2 = q at h2
    unfold Reads at h h2
    have a : (2 * p - 1) * s < (2 * q + 1) * s := by omega
    have b : (2 * q - 1) * s < (2 * p + 1) * s := by omega
    have a' := Int.lt_of_mul_lt_mul_right a (Int.le_of_lt hs)
    have b' := Int.lt_of_mul_lt_mul_right b (Int.le_of_lt hs)
    omega
/-- what decimal_text finds -/
structure DecT (p : Int) (k f : Nat) : Prop where
  k1 : 1 ≤ k
  k5 : k ≤ 5
  near : (f : Int) = nr p (10 ^ k)
  lt : f < 10 ^ k
  reads : Reads f (10 ^ k) p
  prev : 2 ≤ k → ¬ Reads (nr p (10 ^ (k - 1))) (10 ^ (k - 1)) p
theorem k_cases {k : Nat} (h1 : 1 ≤ k) (h5 : k ≤ 5) : k = 1 ∨ k = 2 ∨ k = 3 ∨ k = 4 ∨ k = 5 := by omega
theorem last_reads {p : Int} (h0 : 0 ≤ p) (h1 : p < 65536) : Reads (nr p (10 ^ 5)) (10 ^ 5) p := by
  unfold Reads nr
  omega
theorem reads_lt {p n s : Int} (h1 : p < 65536) (hs : 0 < s) (h : Reads n s p) : n < s := by
  have m := Int.mul_le_mul_of_nonneg_right (show 2 * p + 1 ≤ 131071 by omega) (Int.le_of_lt hs)
  have := h.2
  omega
theorem nr_nonneg {p s : Int} (h0 : 0 ≤ p) (hs : 0 < s) : 0 ≤ nr p s := by
  have := Int.mul_nonneg h0 (Int.le_of_lt hs)
  unfold nr
  omega
/-- the two neighbours are no nearer -/
theorem other_low {m f : Int} (hf : f = (2 * m + 65536) / (2 * 65536)) : ¬ ((((f - 1) * 65536 - m).natAbs : Int) < ((f * 65536 - m).natAbs : Int)) := by omega
theorem other_low2 {f : Int} : ¬ (f < f - 1) := by omega
theorem other_high {m f : Int} (hf : f = (2 * m + 65536) / (2 * 65536)) : ((f * 65536 - m).natAbs : Int) < (((f + 1) * 65536 - m).natAbs : Int) := by omega
theorem reads_at {n p s : Int} : Reads n s p ↔ (2 * (p * s) - s ≤ 131072 * n ∧ 131072 * n < 2 * (p * s) + s) := by
  unfold Reads
  rw [Int.sub_mul, Int.add_mul, Int.one_mul, Int.mul_assoc]
/-- no fewer digits are read back -/
theorem short_no {p s : Int} (hs : 0 < s) (hs2 : s ≤ 10000) (h : ¬ Reads (nr p s) s p) : ¬ Reads (p * s / 65536) s p ∧ ¬ Reads (p * s / 65536 + 1) s p := by
  rw [reads_at] at h
  rw [reads_at, reads_at]
  unfold nr at h
  generalize p * s = X at *
  by_cases r : X % 65536 < 32768
  · have e : (2 * X + 65536) / (2 * 65536) = X / 65536 := by omega
    rw [e] at h
    refine ⟨h, ?_⟩
    omega
  · have e : (2 * X + 65536) / (2 * 65536) = X / 65536 + 1 := by omega
    rw [e] at h
    refine ⟨?_, h⟩
    omega
theorem num_len {m : Nat} (h : m < 10 ^ 20) : (Str.ofString (toString (m : Int))).length ≤ 20 := by
  rw [str_len, KIN.signs_num, List.length_map]
  exact digits10_le (by decide) h
noncomputable def sgn (v : Int) : Str := if v < 0 then Str.ofString "-" else Str.ofString ""
theorem sgn_len (v : Int) : (sgn v).length ≤ 1 := by unfold sgn; split <;> decide
noncomputable def beg (v : Int) : Str := sgn v ++ Str.ofString (toString ((v.natAbs : Int) / 65536)) ++ Str.ofString "."
noncomputable def ups : Nat → List SV
  | 0 => []
  | k + 1 => .int (4 - (k : Int)) :: ups k
theorem pow_le4 {k : Nat} (h : k ≤ 4) : (1 : Int) ≤ 10 ^ k ∧ (10 : Int) ^ k ≤ 10000 := by
  rcases (by omega : k = 0 ∨ k = 1 ∨ k = 2 ∨ k = 3 ∨ k = 4) with rfl | rfl | rfl | rfl | rfl <;> decide
section
variable {w : World} {n : Nat} {J : JS} {K : KV} {X : KX}
theorem c_decimal_text {v : Int} (s1 : -100000000000000 < v) (s2 : v < 100000000000000) (h : ∀ k f, DecT ((v.natAbs : Int) % 65536) k f → K (.str (beg v ++ ⟨(pad k f).toArray⟩)) J) : vcall w (n + 2) (.fn 122) [.int v] J K X := by
  refine' Mine.FnCall.fn (lam := 0) (ps := [Str.ofString "value"]) ?D rfl ?c ?l ?_
  case D => walk_at "DEF"
  case c => decide
  case l => decide
  dsimp only [Mine.zipR]
  refine' Mine.st_name ?e ?f ?_
  case e => exact rfl
  case f => exact fun _ _ _ => rfl
  refine ev_join (P := fun u J' => J' = J ∧ u = .str (sgn v)) (fun K' hK => ?_) ?_
  · (repeat (first | walk_at "V1" | with_reducible refine Mine.st_ite ?_))
    refine ite_dec (fun q => ?_) (fun q => ?_)
    · (repeat (first | walk_at "V1" | with_reducible refine Mine.st_ite ?_))
      exact hK _ _ ⟨rfl, by unfold sgn; rw [if_pos q]⟩
    · (repeat (first | walk_at "V1" | with_reducible refine Mine.st_ite ?_))
      exact hK _ _ ⟨rfl, by unfold sgn; rw [if_neg q]⟩
  rintro u J' ⟨rfl, rfl⟩
  (repeat (first | walk_at "V1" | with_reducible refine Mine.st_ite ?_))
  have p0 : 0 ≤ (v.natAbs : Int) % 65536 := by omega
  have p1 : (v.natAbs : Int) % 65536 < 65536 := by omega
  generalize hp : (v.natAbs : Int) % 65536 = p at *
  refine .rng1 ⟨by decide, by decide⟩ ⟨rfl, _, rfl, ?_⟩
  rw [show ((List.range (Builtin.Range.rangeSize 0 5 1).toNat).map fun i : Nat => SV.int (0 + i * 1)) = ups 5 from rfl]
  refine l_ind (I := fun items ρ J2 => J2 = J' ∧ ∃ (k : Nat) (s f : Int), k ≤ 5 ∧ items = ups (5 - k) ∧ s = 10 ^ k ∧ Less ρ [(Str.ofString "value", .int v), (Str.ofString "sign", .str (sgn v)), (Str.ofString "points", .int ((v.natAbs : Int) / 65536)), (Str.ofString "part", .int p), (Str.ofString "scale", .int s), (Str.ofString "near", .int f)] ∧ (1 ≤ k → ¬ Reads (nr p s) s p))
    (fun ρ J2 hI => ?_) (fun it vs ih ρ J2 hI => ?_) _ _ _ ⟨rfl, 0, 1, 0, Nat.zero_le _, rfl, rfl, by (repeat (first | exact Mine.Less.nil | refine Mine.Less.cons rfl ?_)), fun z => by omega⟩
  · obtain ⟨rfl, k, s, f, hk, hi, rfl, hL, h1⟩ := hI
    have : k = 5 := by
      by_cases q : k = 5
      · exact q
      · obtain ⟨j, hj⟩ : ∃ j, 5 - k = j + 1 := ⟨4 - k, by omega⟩
        rw [hj] at hi; cases hi
    subst this
    exact absurd (last_reads p0 p1) (h1 (by decide))
  · obtain ⟨rfl, k, s, f, hk, hi, rfl, hL, h1⟩ := hI
    have k4 : k ≤ 4 := by
      by_cases q : k = 5
      · subst q; cases hi
      · omega
    obtain ⟨hs1, hs2⟩ := pow_le4 k4
    rw [show 5 - k = (4 - k) + 1 by omega] at hi
    cases hi
    have e10 : (10 : Int) * 10 ^ k = 10 ^ (k + 1) := by rw [Int.pow_succ, Int.mul_comm]
    have hpos : (0 : Int) < 10 ^ (k + 1) := Int.pow_pos (by decide)
    refine l_cons _ hL ?_
    (repeat (first | walk_at "V1" | with_reducible refine Mine.st_ite ?_))
    rw [e10]
    refine c_rounded ⟨by decide, by decide⟩ (fun z => by omega) (fun _ z => ?_) (fun _ _ => ?_)
    · exact absurd (Int.mul_nonneg p0 (Int.le_of_lt hpos)) (by omega)
    (repeat (first | walk_at "V1" | with_reducible refine Mine.st_ite ?_))
    refine c_reading hpos ⟨by omega, by omega⟩ ?_
    (repeat (first | walk_at "V1" | with_reducible refine Mine.st_ite ?_))
    have hn : (2 * (p * 10 ^ (k + 1)) + 65536) / (2 * 65536) = nr p (10 ^ (k + 1)) := rfl
    rw [hn]
    refine ite_dec (fun q => ?_) (fun q => ?_)
    · have hr := (reads_iff hpos).mp q
      have hlt := reads_lt p1 hpos hr
      obtain ⟨m, hm⟩ := Int.eq_ofNat_of_zero_le (nr_nonneg p0 hpos)
      rw [hm] at hr hlt
      have hd : DecT p (k + 1) m := by
        refine ⟨by omega, by omega, hm.symm, ?_, hr, fun z => ?_⟩
        · exact_mod_cast hlt
        · exact h1 (by omega)
      have hb := pow_le4 k4
      have big : (10 : Int) ^ (k + 1) ≤ 100000 := by omega
      have l1 := sgn_len v
      obtain ⟨V, hV⟩ : ∃ V : Nat, V = v.natAbs / 65536 := ⟨_, rfl⟩
      have eV : (v.natAbs : Int) / 65536 = (V : Int) := by rw [hV]; rfl
      have l2 : (Str.ofString (toString ((v.natAbs : Int) / 65536))).length ≤ 20 := by rw [eV]; exact num_len (by omega)
      have e3 : (10 : Int) ^ (k + 1) + nr p (10 ^ (k + 1)) = ((10 ^ (k + 1) + m : Nat) : Int) := by rw [hm]; norm_cast
      have l3 : (Str.ofString (toString ((10 ^ (k + 1) + m : Nat) : Int))).length ≤ 20 := num_len (by have := hd.lt; have : (10 ^ (k + 1) : Nat) ≤ 10 ^ 5 := Nat.pow_le_pow_right (by decide) (by omega); omega)
      (repeat (first | walk_at "V1" | with_reducible refine Mine.st_ite ?_))
      refine ⟨_, Less.refl _, ?_⟩
      (repeat (first | walk_at "V1" | with_reducible refine Mine.st_ite ?_))
      refine .str ⟨by omega, by omega⟩ ?_
      (repeat (first | walk_at "V1" | with_reducible refine Mine.st_ite ?_))
      refine .adds (by omega) ?_
      (repeat (first | walk_at "V1" | with_reducible refine Mine.st_ite ?_))
      refine .adds (by rw [str_len_app, show (Str.ofString ".").length = 1 by decide]; omega) ?_
      (repeat (first | walk_at "V1" | with_reducible refine Mine.st_ite ?_))
      rw [e3]
      refine .str ⟨by omega, by omega⟩ ?_
      (repeat (first | walk_at "V1" | with_reducible refine Mine.st_ite ?_))
      refine ⟨.inl ⟨_, rfl⟩, .sfrom (by omega) ?_⟩
      rw [tail_text hd.lt]
      (repeat (first | walk_at "V1" | with_reducible refine Mine.st_ite ?_))
      have l4 : ((⟨(pad (k + 1) m).toArray⟩ : Str)).length ≤ 5 := by rw [str_len]; show (pad (k + 1) m).length ≤ 5; rw [pad_len]; omega
      refine .adds (by rw [str_len_app, str_len_app, show (Str.ofString ".").length = 1 by decide]; omega) ?_
      exact h _ _ hd
    · (repeat (first | walk_at "V1" | with_reducible refine Mine.st_ite ?_))
      refine ih _ _ ⟨rfl, k + 1, _, _, by omega, ?_, rfl, by (repeat (first | exact Mine.Less.nil | refine Mine.Less.cons rfl ?_)), fun _ => fun z => q ((reads_iff hpos).mpr z)⟩
      rw [show 5 - (k + 1) = 4 - k by omega]
end
end Mine
namespace Mine
theorem compN_ord {K : List SV → JS → Prop} {J : JS} : ∀ (cs : List Nat) (acc : List SV), K (acc ++ cs.map fun c : Nat => SV.int ((c : Int) - 48)) J → compN (fun v J K => ∃ ch : Nat, v = .str ⟨#[ch]⟩ ∧ K (some (.int ((ch : Int) - 48))) J) (cs.map fun ch => .str ⟨#[ch]⟩) acc J K
  | [], acc, h => by rw [List.map_nil, List.append_nil] at h; exact h
  | c :: cs, acc, h => ⟨c, rfl, compN_ord cs _ (by rw [List.append_assoc]; exact h)⟩
theorem compN_filt {K : List SV → JS → Prop} {J : JS} {acc : List SV} (h : K acc J) : ∀ (ds : List Int), Digs ds → compN (fun v J K => ∃ i : Int, v = .int i ∧ K (if 0 ≤ i ∧ i ≤ 9 then none else some (.int i)) J) (ds.map .int) acc J K
  | [], _ => h
  | d :: ds, hd => ⟨d, rfl, by rw [if_pos (hd d (.head _))]; exact compN_filt h ds fun x hx => hd x (.tail _ hx)⟩
noncomputable def OtherOk (p s f o : Int) : Prop := ¬ (((o * 65536 - p * s).natAbs : Int) < ((f * 65536 - p * s).natAbs : Int)) ∧ (((o * 65536 - p * s).natAbs : Int) = ((f * 65536 - p * s).natAbs : Int) → ¬ f < o)
theorem ite_join {r : R} {fi : FI} {e1 e2 : Expr} {ρ : Rho} {J : JS} {K : KV} {X : KX} {c : Bool} (P : SV → JS → Prop) (h1 : ∀ K' : KV, (∀ v J, P v J → K' v J) → (c = true → r.ev fi e1 ρ J K' X) ∧ (c = false → r.ev fi e2 ρ J K' X)) (h2 : ∀ v J, P v J → K v J) :
    (c = true → r.ev fi e1 ρ J K X) ∧ (c = false → r.ev fi e2 ρ J K X) := h1 K h2
section
variable {w : World} {n : Nat} {J : JS} {K : KV} {X : KX}
theorem c_decimal_text_bad {v : SV} (hb : Bad v) (h : X 45 J) : vcall w (n + 2) (.fn 122) [v] J K X := by
  refine' Mine.FnCall.fn (lam := 0) (ps := [Str.ofString "value"]) ?D rfl ?c ?l ?_
  case D => walk_at "DEF"
  case c => decide
  case l => decide
  dsimp only [Mine.zipR]
  (repeat (first | walk_at "V1" | with_reducible refine Mine.st_ite ?_))
  refine c_check_whole_bad hb ?_
  exact h
theorem c_law_texts {v : Int} (s1 : -100000000000000 < v) (s2 : v < 100000000000000) (h : K (.bool true) J) : vcall w (n + 3) (.fn 258) [.int v] J K X := by
  refine' Mine.FnCall.fn (lam := 0) (ps := [Str.ofString "value"]) ?D rfl ?c ?l ?_
  case D => walk_at "DEF"
  case c => decide
  case l => decide
  dsimp only [Mine.zipR]
  (repeat (first | walk_at "V1" | with_reducible refine Mine.st_ite ?_))
  refine c_decimal_text s1 s2 (fun k f hd => ?_)
  (repeat (first | walk_at "V1" | with_reducible refine Mine.st_ite ?_))
  refine ite_join (P := fun u J' => J' = J ∧ u = .str (sgn v)) (fun K' hK => ?_) ?_
  · refine ite_dec (fun q => ?_) (fun q => ?_)
    · (repeat (first | walk_at "V1" | with_reducible refine Mine.st_ite ?_))
      exact hK _ _ ⟨rfl, by unfold sgn; rw [if_pos q]⟩
    · (repeat (first | walk_at "V1" | with_reducible refine Mine.st_ite ?_))
      exact hK _ _ ⟨rfl, by unfold sgn; rw [if_neg q]⟩
  rintro u J' ⟨rfl, rfl⟩
  have p0 : 0 ≤ (v.natAbs : Int) % 65536 := by omega
  have p1 : (v.natAbs : Int) % 65536 < 65536 := by omega
  have l1 := sgn_len v
  have eV : (v.natAbs : Int) / 65536 = ((v.natAbs / 65536 : Nat) : Int) := rfl
  have l2 : (Str.ofString (toString ((v.natAbs : Int) / 65536))).length ≤ 20 := by rw [eV]; exact num_len (by omega)
  have l3 : (beg v).length ≤ 30 := by unfold beg; rw [str_len_app, str_len_app, show (Str.ofString ".").length = 1 by decide]; omega
  have l4 : ((⟨(pad k f).toArray⟩ : Str)).length ≤ 5 := by rw [str_len]; show (pad k f).length ≤ 5; rw [pad_len]; exact hd.k5
  have l5 : (beg v ++ (⟨(pad k f).toArray⟩ : Str)).length ≤ 40 := by rw [str_len_app]; omega
  (repeat (first | walk_at "V1" | with_reducible refine Mine.st_ite ?_))
  refine .str ⟨by omega, by omega⟩ ?_
  (repeat (first | walk_at "V1" | with_reducible refine Mine.st_ite ?_))
  refine .adds (by omega) ?_
  (repeat (first | walk_at "V1" | with_reducible refine Mine.st_ite ?_))
  refine .adds (by rw [str_len_app, show (Str.ofString ".").length = 1 by decide]; omega) ?_
  rw [show sgn v ++ Str.ofString (toString ((v.natAbs : Int) / 65536)) ++ Str.ofString "." = beg v from rfl]
  generalize hp : (v.natAbs : Int) % 65536 = p at *
  (repeat (first | walk_at "V1" | with_reducible refine Mine.st_ite ?_))
  refine v_bi (.lens (by omega) ?_)
  refine ⟨.inl ⟨_, rfl⟩, .sto (by omega) ?_⟩
  rw [slice_to_app]
  (repeat (first | walk_at "V1" | with_reducible refine Mine.st_ite ?_))
  refine .nes ?_
  rw [show (beg v != beg v) = false by simp]
  (repeat (first | walk_at "V1" | with_reducible refine Mine.st_ite ?_))
  refine st_comp (fun _ _ _ _ => rfl) (l_comp rfl .ord (fun _ _ => rfl) ?_)
  (repeat (first | walk_at "V1" | with_reducible refine Mine.st_ite ?_))
  refine v_bi (.lens (by omega) ?_)
  refine ⟨.inl ⟨_, rfl⟩, .sfrom (by omega) ?_⟩
  rw [slice_from_app]
  refine ⟨trivial, _, rfl, by rw [List.length_map]; show (pad k f).length ≤ _; rw [pad_len]; have := hd.k5; omega, ?_⟩
  refine compN_ord (pad k f) [] ?_
  obtain ⟨ds, hds⟩ : ∃ ds : List Int, ds = (pad k f).map fun c : Nat => (c : Int) - 48 := ⟨_, rfl⟩
  rw [show ([] : List SV) ++ (pad k f).map (fun c : Nat => SV.int ((c : Int) - 48)) = ds.map .int from by rw [hds, List.map_map]; rfl]
  have hlen : ds.length = k := by rw [hds, List.length_map, pad_len]
  have hD : Digs ds := fun d hd => by
    rw [hds] at hd
    obtain ⟨c, hc, rfl⟩ := List.mem_map.mp hd
    have := pad_digit k f c hc
    omega
  have hval : decV 0 ds = (f : Int) := by rw [hds]; exact pad_val k f hd.lt
  have hml : (ds.map SV.int).length = k := by rw [List.length_map, hlen]
  have k1 := hd.k1
  have k5 := hd.k5
  (repeat (first | walk_at "V1" | with_reducible refine Mine.st_ite ?_))
  refine v_bi (.lenl (by omega) ?_)
  rw [hml]
  (repeat (first | walk_at "V1" | with_reducible refine Mine.st_ite ?_))
  refine ite_dec (fun _ => ?_) (fun q => absurd (by omega) q)
  (repeat (first | walk_at "V1" | with_reducible refine Mine.st_ite ?_))
  refine ite_ndec (fun q => absurd (by omega) q) (fun _ => ?_)
  (repeat (first | walk_at "V1" | with_reducible refine Mine.st_ite ?_))
  refine e_list (l_comp rfl .filt (fun _ _ => rfl) ?_)
  (repeat (first | walk_at "V1" | with_reducible refine Mine.st_ite ?_))
  refine ⟨trivial, _, rfl, by omega, ?_⟩
  refine compN_filt ?_ ds hD
  (repeat (first | walk_at "V1" | with_reducible refine Mine.st_ite ?_))
  refine .nel rfl rfl ?_
  (repeat (first | walk_at "V1" | with_reducible refine Mine.st_ite ?_))
  refine c_whole ?_
  rw [hval]
  (repeat (first | walk_at "V1" | with_reducible refine Mine.st_ite ?_))
  refine v_bi (.lenl (by omega) ?_)
  rw [hml]
  (repeat (first | walk_at "V1" | with_reducible refine Mine.st_ite ?_))
  rw [Int.toNat_natCast]
  have hpos : (0 : Int) < 10 ^ k := Int.pow_pos (by decide)
  have hbig : (10 : Int) ^ k ≤ 100000 := by rcases k_cases k1 k5 with rfl | rfl | rfl | rfl | rfl <;> decide
  have htake : ds.take 17 = ds := List.take_of_length_le (by omega)
  (repeat (first | walk_at "V1" | with_reducible refine Mine.st_ite ?_))
  refine c_read_yes ⟨by omega, by omega⟩ hd.reads ?_
  (repeat (first | walk_at "V1" | with_reducible refine Mine.st_ite ?_))
  refine c_from_decimals (by rw [htake]; exact hD) (by omega) ?_
  rw [htake, hval, hlen, (reads_iff hpos).mpr hd.reads]
  (repeat (first | walk_at "V1" | with_reducible refine Mine.st_ite ?_))
  refine ite_ndec (fun q => absurd rfl q) (fun _ => ?_)
  (repeat (first | walk_at "V1" | with_reducible refine Mine.st_ite ?_))
  refine ⟨trivial, _, rfl, ?_⟩
  have hnr : (f : Int) = (2 * (p * 10 ^ k) + 65536) / (2 * 65536) := hd.near
  refine l_ind (I := fun items ρ J2 => J2 = J' ∧ ∃ os : List Int, items = os.map .int ∧ (∀ o ∈ os, OtherOk p (10 ^ k) f o) ∧ Less ρ [(Str.ofString "digits", .lst (ds.map .int)), (Str.ofString "part", .int p), (Str.ofString "near", .int f), (Str.ofString "scale", .int (10 ^ k))])
    (fun ρ J2 hI => ?_) (fun it vs ih ρ J2 hI => ?_) _ _ _ ⟨rfl, [(f : Int) - 1, (f : Int) + 1], rfl, ?_, by (repeat (first | exact Mine.Less.nil | refine Mine.Less.cons rfl ?_))⟩
  · obtain ⟨rfl, os, _, _, hL⟩ := hI
    refine l_nil _ hL ?_
    (repeat (first | walk_at "V1" | with_reducible refine Mine.st_ite ?_))
    refine v_bi (.lenl (by omega) ?_)
    rw [hml]
    (repeat (first | walk_at "V1" | with_reducible refine Mine.st_ite ?_))
    refine ite_dec (fun q => ?_) (fun q => ?_)
    · (repeat (first | walk_at "V1" | with_reducible refine Mine.st_ite ?_))
      rw [decide_eq_true q]
      exact h
    · have k2 : 2 ≤ k := by omega
      have e10 : (10 : Int) ^ k / 10 = 10 ^ (k - 1) := by
        obtain ⟨j, rfl⟩ : ∃ j, k = j + 1 := ⟨k - 1, by omega⟩
        rw [Int.pow_succ, Nat.add_sub_cancel]
        omega
      rw [e10]
      have hq := pow_le4 (k := k - 1) (by omega)
      have hsh := short_no (p := p) (by omega) hq.2 (hd.prev k2)
      (repeat (first | walk_at "V1" | with_reducible refine Mine.st_ite ?_))
      rw [e10]
      refine c_read_no ⟨by omega, by omega⟩ hsh.1 ?_
      (repeat (first | walk_at "V1" | with_reducible refine Mine.st_ite ?_))
      rw [e10]
      refine c_read_no ⟨by omega, by omega⟩ hsh.2 ?_
      (repeat (first | walk_at "V1" | with_reducible refine Mine.st_ite ?_))
      exact h
  · obtain ⟨rfl, os, hi, ho, hL⟩ := hI
    cases os with
    | nil => cases hi
    | cons o os =>
    cases hi
    have hok := ho o (.head _)
    refine l_cons _ hL ?_
    (repeat walk_at "V1")
    refine st_ite_j (P := fun ρ' J3 => J3 = J2 ∧ Less ρ' [(Str.ofString "digits", .lst (ds.map .int)), (Str.ofString "part", .int p), (Str.ofString "near", .int f), (Str.ofString "scale", .int (10 ^ k))]) (fun Kn hK hR => ?_) ?_
    · (repeat (first | walk_at "V1" | with_reducible refine Mine.st_ite ?_))
      refine ite_dec (fun q => ?_) (fun q => ?_)
      · (repeat (first | walk_at "V1" | with_reducible refine Mine.st_ite ?_))
        refine ite_dec (fun q2 => ?_) (fun q2 => ?_)
        · (repeat (first | walk_at "V1" | with_reducible refine Mine.st_ite ?_))
          refine c_read ⟨by omega, by omega⟩ fun b hb => ?_
          (repeat (first | walk_at "V1" | with_reducible refine Mine.st_ite ?_))
          refine ⟨fun _ => ?_, fun _ => ?_⟩
          · (repeat (first | walk_at "V1" | with_reducible refine Mine.st_ite ?_))
            refine ite_dec (fun q3 => absurd q3 hok.1) (fun q3 => ?_)
            (repeat (first | walk_at "V1" | with_reducible refine Mine.st_ite ?_))
            refine ite_dec (fun q4 => ?_) (fun q4 => ?_)
            · (repeat (first | walk_at "V1" | with_reducible refine Mine.st_ite ?_))
              refine ite_dec (fun q5 => absurd q5 (hok.2 q4)) (fun q5 => ?_)
              (repeat (first | walk_at "V1" | with_reducible refine Mine.st_ite ?_))
              exact hK _ _ ⟨rfl, by (repeat (first | exact Mine.Less.nil | refine Mine.Less.cons rfl ?_))⟩
            · (repeat (first | walk_at "V1" | with_reducible refine Mine.st_ite ?_))
              exact hK _ _ ⟨rfl, by (repeat (first | exact Mine.Less.nil | refine Mine.Less.cons rfl ?_))⟩
          · (repeat (first | walk_at "V1" | with_reducible refine Mine.st_ite ?_))
            exact hK _ _ ⟨rfl, by (repeat (first | exact Mine.Less.nil | refine Mine.Less.cons rfl ?_))⟩
        · (repeat (first | walk_at "V1" | with_reducible refine Mine.st_ite ?_))
          exact hK _ _ ⟨rfl, by (repeat (first | exact Mine.Less.nil | refine Mine.Less.cons rfl ?_))⟩
      · (repeat (first | walk_at "V1" | with_reducible refine Mine.st_ite ?_))
        exact hK _ _ ⟨rfl, by (repeat (first | exact Mine.Less.nil | refine Mine.Less.cons rfl ?_))⟩
    · rintro ρ' J3 ⟨rfl, hL'⟩
      (repeat (first | walk_at "V1" | with_reducible refine Mine.st_ite ?_))
      exact ih _ _ ⟨rfl, os, rfl, fun o ho' => ho o (.tail _ ho'), hL'⟩
  · intro o ho
    generalize hm : p * 10 ^ k = m at hnr
    have a1 := other_low hnr
    have a2 := other_high hnr
    unfold OtherOk
    rw [hm]
    rcases List.mem_cons.mp ho with rfl | ho
    · exact ⟨a1, fun _ => by omega⟩
    · rw [List.mem_singleton.mp ho]
      exact ⟨by omega, fun z => by omega⟩
end
end Mine
namespace Mine
section
variable {w : World} {n : Nat} {J : JS} {K : KV} {X : KX}
theorem lam_one {call : CallT} {k : Nat} {fi : FI} {ρ : Rho} {ps : Arguments} {body : Expr} {sc : Scope} {p : Pos} {x : Str} {v : SV} (h1 : fi.lam = 1 ∨ fi.lam = 2) (h2 : ∀ env, defaultsOf ps env = ([], [])) (h3 : frees sc.names [] = [x]) (h4 : ρ.lookup x = some v) (h5 : fi.cs.names.lookup x = some .cell)
    (h : K (.clo (qLam fi.cn) ps body sc [(x, v)]) J) : (astR call (k + 1)).ev fi (.Lambda ps body sc p) ρ J K X :=
  e_lam ⟨h1, h2, [(x, v)], h3, all_cons ⟨h4, h5⟩ all_nil, h⟩
theorem lam_two {call : CallT} {k : Nat} {fi : FI} {ρ : Rho} {ps : Arguments} {body : Expr} {sc : Scope} {p : Pos} {x y : Str} {v u : SV} (h1 : fi.lam = 1 ∨ fi.lam = 2) (h2 : ∀ env, defaultsOf ps env = ([], [])) (h3 : frees sc.names [] = [x, y]) (h4 : ρ.lookup x = some v) (h5 : fi.cs.names.lookup x = some .cell)
    (h6 : ρ.lookup y = some u) (h7 : fi.cs.names.lookup y = some .cell) (h : K (.clo (qLam fi.cn) ps body sc [(x, v), (y, u)]) J) : (astR call (k + 1)).ev fi (.Lambda ps body sc p) ρ J K X :=
  e_lam ⟨h1, h2, [(x, v), (y, u)], h3, all_cons ⟨h4, h5⟩ (all_cons ⟨h6, h7⟩ all_nil), h⟩
/-- a door that refuses -/
noncomputable def Refuses (w : World) (n : Nat) (J : JS) (d : SV) : Prop := ∃ q ps b sc fv, d = .clo q ps b sc fv ∧ ∀ (K' : KV) (X' : KX), X' 45 J → vcall w n d [] J K' X'
theorem c_refused {q : Str} {ps : Arguments} {b : Expr} {sc : Scope} {fv : Rho} (hd : ∀ (K' : KV) (X' : KX), X' 45 J → vcall w n (.clo q ps b sc fv) [] J K' X') (h : K (.bool true) J) : vcall w (n + 1) (.fn 265) [.clo q ps b sc fv] J K X := by
  refine' Mine.FnCall.fn (lam := 0) (ps := [Str.ofString "door"]) ?D rfl ?c ?l ?_
  case D => walk_at "DEF"
  case c => decide
  case l => decide
  dsimp only [Mine.zipR]
  refine' Mine.st_tryE ?e ?f ?g ?_
  case e => exact rfl
  case f => exact rfl
  case g => exact fun _ _ _ => rfl
  (repeat (first | walk_at "V1" | with_reducible refine Mine.st_ite ?_))
  refine hd _ _ ?_
  refine .hit rfl rfl ?_
  (repeat (first | walk_at "V1" | with_reducible refine Mine.st_ite ?_))
  exact h
end
end Mine
local macro_rules
  | `(tactic| walk_at "V1") => `(tactic| first
    | ((with_reducible refine' Mine.lam_one ?e ?f ?g ?i ?j ?_); (case e => first | exact Or.inl rfl | exact Or.inr rfl); (case f => exact fun _ => rfl); (case g => exact rfl); (case i => exact rfl); (case j => exact rfl))
    | ((with_reducible refine' Mine.lam_two ?e ?f ?g ?i ?j ?l ?m ?_); (case e => first | exact Or.inl rfl | exact Or.inr rfl); (case f => exact fun _ => rfl); (case g => exact rfl); (case i => exact rfl); (case j => exact rfl); (case l => exact rfl); (case m => exact rfl)))
namespace Mine
section
variable {w : World} {n : Nat} {J : JS} {K : KV} {X : KX}
theorem c_law_doors {v lo hi : Int} (s1 : Small v) (s2 : -1000000000000 < lo ∧ lo < 1000000000000) (s3 : Small hi) (h : K (.bool true) J) : vcall w (n + 6) (.fn 272) [.int v, .int lo, .int hi] J K X := by
  refine' Mine.FnCall.fnC (lam := 1) (ps := [Str.ofString "value", Str.ofString "low", Str.ofString "high"]) ?D rfl ?c ?l ?_
  case D => walk_at "DEF"
  case c => decide
  case l => decide
  dsimp only [Mine.zipR]
  (repeat walk_at "V1")
  refine st_ite_j (P := fun ρ' J' => J' = J ∧ Less ρ' [(Str.ofString "value", .int v), (Str.ofString "low", .int lo), (Str.ofString "high", .int hi)]) (fun Kn hK hR => ?_) ?_
  · have fin : ∀ {b : Bool}, b = false → ∀ {A B : Prop}, B → (b = true → A) ∧ (b = false → B) := fun hb _ _ h => ⟨fun q => (by rw [hb] at q; cases q), fun _ => h⟩
    (repeat (first | walk_at "V1" | with_reducible refine Mine.st_ite ?_))
    refine ite_dec (fun q => ?_) (fun q => ?_)
    · (repeat (first | walk_at "V1" | with_reducible refine Mine.st_ite ?_))
      refine fin (by simp [q]) ?_
      (repeat (first | walk_at "V1" | with_reducible refine Mine.st_ite ?_))
      refine c_is_whole_bad (.bool _) ?_
      (repeat (first | walk_at "V1" | with_reducible refine Mine.st_ite ?_))
      refine c_is_whole_bad (.str _) ?_
      (repeat (first | walk_at "V1" | with_reducible refine Mine.st_ite ?_))
      exact hK _ _ ⟨rfl, by (repeat (first | exact Mine.Less.nil | refine Mine.Less.cons rfl ?_))⟩
    · (repeat (first | walk_at "V1" | with_reducible refine Mine.st_ite ?_))
      refine fin (by simp [q]) ?_
      (repeat (first | walk_at "V1" | with_reducible refine Mine.st_ite ?_))
      refine c_is_whole_bad (.bool _) ?_
      (repeat (first | walk_at "V1" | with_reducible refine Mine.st_ite ?_))
      refine c_is_whole_bad (.str _) ?_
      (repeat (first | walk_at "V1" | with_reducible refine Mine.st_ite ?_))
      exact hK _ _ ⟨rfl, by (repeat (first | exact Mine.Less.nil | refine Mine.Less.cons rfl ?_))⟩
  rintro ρ' J' ⟨rfl, hL⟩
  refine st_forget _ hL ?_
  (repeat (first | walk_at "V1" | with_reducible refine Mine.st_ite ?_))
  refine ⟨trivial, _, rfl, ?_⟩
  refine l_ind (I := fun items ρ J2 => J2 = J' ∧ ∀ d ∈ items, Refuses w (n + 4) J' d) (fun ρ J2 hI => ?_) (fun it vs ih ρ J2 hI => ?_) _ _ _ ⟨rfl, ?_⟩
  · obtain ⟨rfl, _⟩ := hI
    refine l_nil [] Less.nil ?_
    (repeat (first | walk_at "V1" | with_reducible refine Mine.st_ite ?_))
    exact h
  · obtain ⟨rfl, hall⟩ := hI
    obtain ⟨q, ps, b, sc, fv, rfl, hd⟩ := hall _ (.head _)
    refine l_cons [] Less.nil ?_
    (repeat (first | walk_at "V1" | with_reducible refine Mine.st_ite ?_))
    refine c_refused hd ?_
    (repeat (first | walk_at "V1" | with_reducible refine Mine.st_ite ?_))
    exact ih _ _ ⟨rfl, fun d hd => hall d (.tail _ hd)⟩
  · skip
    refine all_cons ⟨_, _, _, _, _, rfl, fun K' X' hx => ?_⟩ ?_
    · skip
      refine' Mine.FnCall.clo (ps := []) ?hb rfl ?hs ?hc ?hp ?hf ?_
      case hb => exact fun _ _ _ _ _ => Mine.bind0 rfl
      case hs => exact ⟨rfl, rfl, rfl, rfl, rfl⟩
      case hc => decide
      case hp => decide
      case hf => repeat (first | exact Mine.all_nil | refine Mine.all_cons rfl ?_)
      dsimp only [Mine.zipR]
      (repeat (first | walk_at "V1" | with_reducible refine Mine.st_ite ?_))
      refine c_check_dimen_bad (.bool _) ?_
      exact hx
    refine all_cons ⟨_, _, _, _, _, rfl, fun K' X' hx => ?_⟩ ?_
    · skip
      refine' Mine.FnCall.clo (ps := []) ?hb rfl ?hs ?hc ?hp ?hf ?_
      case hb => exact fun _ _ _ _ _ => Mine.bind0 rfl
      case hs => exact ⟨rfl, rfl, rfl, rfl, rfl⟩
      case hc => decide
      case hp => decide
      case hf => repeat (first | exact Mine.all_nil | refine Mine.all_cons rfl ?_)
      dsimp only [Mine.zipR]
      (repeat (first | walk_at "V1" | with_reducible refine Mine.st_ite ?_))
      refine c_check_number_bad (.str _) ?_
      exact hx
    refine all_cons ⟨_, _, _, _, _, rfl, fun K' X' hx => ?_⟩ ?_
    · skip
      refine' Mine.FnCall.clo (ps := []) ?hb rfl ?hs ?hc ?hp ?hf ?_
      case hb => exact fun _ _ _ _ _ => Mine.bind0 rfl
      case hs => exact ⟨rfl, rfl, rfl, rfl, rfl⟩
      case hc => decide
      case hp => decide
      case hf => repeat (first | exact Mine.all_nil | refine Mine.all_cons rfl ?_)
      dsimp only [Mine.zipR]
      (repeat (first | walk_at "V1" | with_reducible refine Mine.st_ite ?_))
      refine c_over_bad2 (.bool _) ?_
      exact hx
    refine all_cons ⟨_, _, _, _, _, rfl, fun K' X' hx => ?_⟩ ?_
    · skip
      refine' Mine.FnCall.clo (ps := []) ?hb rfl ?hs ?hc ?hp ?hf ?_
      case hb => exact fun _ _ _ _ _ => Mine.bind0 rfl
      case hs => exact ⟨rfl, rfl, rfl, rfl, rfl⟩
      case hc => decide
      case hp => decide
      case hf => repeat (first | exact Mine.all_nil | refine Mine.all_cons rfl ?_)
      dsimp only [Mine.zipR]
      (repeat (first | walk_at "V1" | with_reducible refine Mine.st_ite ?_))
      refine c_over_bad1 (.bool _) (by decide) ?_
      exact hx
    refine all_cons ⟨_, _, _, _, _, rfl, fun K' X' hx => ?_⟩ ?_
    · skip
      refine' Mine.FnCall.clo (ps := []) ?hb rfl ?hs ?hc ?hp ?hf ?_
      case hb => exact fun _ _ _ _ _ => Mine.bind0 rfl
      case hs => exact ⟨rfl, rfl, rfl, rfl, rfl⟩
      case hc => decide
      case hp => decide
      case hf => repeat (first | exact Mine.all_nil | refine Mine.all_cons rfl ?_)
      dsimp only [Mine.zipR]
      (repeat (first | walk_at "V1" | with_reducible refine Mine.st_ite ?_))
      refine c_times_bad (.bool _) ?_
      exact hx
    refine all_cons ⟨_, _, _, _, _, rfl, fun K' X' hx => ?_⟩ ?_
    · skip
      refine' Mine.FnCall.clo (ps := []) ?hb rfl ?hs ?hc ?hp ?hf ?_
      case hb => exact fun _ _ _ _ _ => Mine.bind0 rfl
      case hs => exact ⟨rfl, rfl, rfl, rfl, rfl⟩
      case hc => decide
      case hp => decide
      case hf => repeat (first | exact Mine.all_nil | refine Mine.all_cons rfl ?_)
      dsimp only [Mine.zipR]
      (repeat (first | walk_at "V1" | with_reducible refine Mine.st_ite ?_))
      refine c_times_number_bad .none ?_
      exact hx
    refine all_cons ⟨_, _, _, _, _, rfl, fun K' X' hx => ?_⟩ ?_
    · skip
      refine' Mine.FnCall.clo (ps := []) ?hb rfl ?hs ?hc ?hp ?hf ?_
      case hb => exact fun _ _ _ _ _ => Mine.bind0 rfl
      case hs => exact ⟨rfl, rfl, rfl, rfl, rfl⟩
      case hc => decide
      case hp => decide
      case hf => repeat (first | exact Mine.all_nil | refine Mine.all_cons rfl ?_)
      dsimp only [Mine.zipR]
      (repeat (first | walk_at "V1" | with_reducible refine Mine.st_ite ?_))
      refine c_from_decimals_bad1 ?_
      exact hx
    refine all_cons ⟨_, _, _, _, _, rfl, fun K' X' hx => ?_⟩ ?_
    · skip
      refine' Mine.FnCall.clo (ps := []) ?hb rfl ?hs ?hc ?hp ?hf ?_
      case hb => exact fun _ _ _ _ _ => Mine.bind0 rfl
      case hs => exact ⟨rfl, rfl, rfl, rfl, rfl⟩
      case hc => decide
      case hp => decide
      case hf => repeat (first | exact Mine.all_nil | refine Mine.all_cons rfl ?_)
      dsimp only [Mine.zipR]
      (repeat (first | walk_at "V1" | with_reducible refine Mine.st_ite ?_))
      refine c_from_decimals_bad2 ?_
      exact hx
    refine all_cons ⟨_, _, _, _, _, rfl, fun K' X' hx => ?_⟩ ?_
    · skip
      refine' Mine.FnCall.clo (ps := []) ?hb rfl ?hs ?hc ?hp ?hf ?_
      case hb => exact fun _ _ _ _ _ => Mine.bind0 rfl
      case hs => exact ⟨rfl, rfl, rfl, rfl, rfl⟩
      case hc => decide
      case hp => decide
      case hf => repeat (first | exact Mine.all_nil | refine Mine.all_cons rfl ?_)
      dsimp only [Mine.zipR]
      (repeat (first | walk_at "V1" | with_reducible refine Mine.st_ite ?_))
      refine c_decimal_text_bad (.bool _) ?_
      exact hx
    refine all_cons ⟨_, _, _, _, _, rfl, fun K' X' hx => ?_⟩ ?_
    · skip
      refine' Mine.FnCall.clo (ps := []) ?hb rfl ?hs ?hc ?hp ?hf ?_
      case hb => exact fun _ _ _ _ _ => Mine.bind0 rfl
      case hs => exact ⟨rfl, rfl, rfl, rfl, rfl⟩
      case hc => decide
      case hp => decide
      case hf => repeat (first | exact Mine.all_nil | refine Mine.all_cons rfl ?_)
      dsimp only [Mine.zipR]
      (repeat (first | walk_at "V1" | with_reducible refine Mine.st_ite ?_))
      refine c_rounded ⟨by omega, by omega⟩ (fun _ => hx) (fun z => by omega) (fun z => by omega)
    refine all_cons ⟨_, _, _, _, _, rfl, fun K' X' hx => ?_⟩ ?_
    · skip
      refine' Mine.FnCall.clo (ps := []) ?hb rfl ?hs ?hc ?hp ?hf ?_
      case hb => exact fun _ _ _ _ _ => Mine.bind0 rfl
      case hs => exact ⟨rfl, rfl, rfl, rfl, rfl⟩
      case hc => decide
      case hp => decide
      case hf => repeat (first | exact Mine.all_nil | refine Mine.all_cons rfl ?_)
      dsimp only [Mine.zipR]
      (repeat (first | walk_at "V1" | with_reducible refine Mine.st_ite ?_))
      refine c_badness s3 (fun _ => hx) (fun z => by omega) (fun z => by omega) (fun z => by omega) (fun z => by omega)
    refine all_cons ⟨_, _, _, _, _, rfl, fun K' X' hx => ?_⟩ ?_
    · skip
      refine' Mine.FnCall.clo (ps := []) ?hb rfl ?hs ?hc ?hp ?hf ?_
      case hb => exact fun _ _ _ _ _ => Mine.bind0 rfl
      case hs => exact ⟨rfl, rfl, rfl, rfl, rfl⟩
      case hc => decide
      case hp => decide
      case hf => repeat (first | exact Mine.all_nil | refine Mine.all_cons rfl ?_)
      dsimp only [Mine.zipR]
      (repeat (first | walk_at "V1" | with_reducible refine Mine.st_ite ?_))
      refine c_fraction_bad1 (.bool _) ?_
      exact hx
    refine all_cons ⟨_, _, _, _, _, rfl, fun K' X' hx => ?_⟩ ?_
    · skip
      refine' Mine.FnCall.clo (ps := []) ?hb rfl ?hs ?hc ?hp ?hf ?_
      case hb => exact fun _ _ _ _ _ => Mine.bind0 rfl
      case hs => exact ⟨rfl, rfl, rfl, rfl, rfl⟩
      case hc => decide
      case hp => decide
      case hf => repeat (first | exact Mine.all_nil | refine Mine.all_cons rfl ?_)
      dsimp only [Mine.zipR]
      (repeat (first | walk_at "V1" | with_reducible refine Mine.st_ite ?_))
      refine c_fraction_bad2 (.bool _) ?_
      exact hx
    exact all_nil
end
end Mine
namespace Mine
/-- the law's def: its scope, what stands behind its first statement -/
noncomputable def LawIs (w : World) (cs : Scope) (rest : List Stmt) : Prop :=
  ∃ oc od name qual params s0 dV kV doc pm an cdv ct osl, (kf w).lookup 277 = some ⟨oc, od, .func (fnOf name qual params (s0 :: rest) cs dV kV doc pm an cdv ct), osl⟩
theorem law_of {w : World} {oc : Value} {od : Option Addr} {name qual : Str} {params : Arguments} {s0 : Stmt} {rest : List Stmt} {cs : Scope} {dV kV doc pm cdv ct : Value} {an : Option Addr} {osl : Array (Option Value)}
    (h : (hd.heap_39 w.params).lookup 277 = some ⟨oc, od, .func (fnOf name qual params (s0 :: rest) cs dV kV doc pm an cdv ct), osl⟩) : LawIs w cs rest := ⟨_, _, _, _, _, _, _, _, _, _, _, _, _, _, h⟩
theorem compN_take {w : World} {n : Nat} {K : List SV → JS → Prop} : ∀ (items : List SV) (ds : List Int) (J : JS), Digs ds → JI J → J.at_ + items.length ≤ 1000000 →
    (∀ es J', Digs es → es.length = ds.length + items.length → JI J' → J'.at_ ≤ J.at_ + items.length → K (es.map .int) J') →
    compN (fun _ J K => vcall w (n + 1) (.fn 169) [.jar, .int 10] J (fun u J => K (some u) J) (fun _ _ => False)) items (ds.map .int) J K
  | [], ds, J, hD, j, ha, h => h ds J hD (by simp) j (by simp)
  | it :: items, ds, J, hD, j, ha, h => by
    rw [List.length_cons] at ha
    show vcall w (n + 1) (.fn 169) [.jar, .int 10] J _ _
    refine c_take (by decide) (by decide) j (by omega) fun v J' v0 v1 j' a' => ?_
    have e : ds.map SV.int ++ [SV.int v] = (ds ++ [v]).map SV.int := by rw [List.map_append]; rfl
    show compN _ items (ds.map SV.int ++ [SV.int v]) J' K
    rw [e]
    refine compN_take items (ds ++ [v]) J' (fun d hd => ?_) j' (by omega) fun es J2 h1 h2 h3 h4 => ?_
    · rcases List.mem_append.mp hd with hd | hd
      · exact hD d hd
      · rw [List.mem_singleton.mp hd]; omega
    · refine h es J2 h1 ?_ h3 ?_
      · simp only [List.length_append, List.length_cons, List.length_nil] at h2 ⊢; omega
      · rw [List.length_cons]; omega
theorem range_len {g : Int} (g0 : 0 ≤ g) : (Builtin.Range.rangeSize 0 g 1).toNat = g.toNat := by
  unfold Builtin.Range.rangeSize
  rw [if_pos (by decide)]
  split <;> omega
theorem range_small {g : Int} (g0 : 0 ≤ g) (g1 : g < 21) : Builtin.Range.small 0 g 1 = true := small_one (by decide) (by decide) (by omega) (by omega)
theorem law_vc (w : World) : ∃ cs rest, LawIs w cs rest ∧ ∀ J, JI J → J.at_ ≤ 0 → (astR (vcall w 10) 40).st ⟨Str.ofString "law", cs, false, 0, true⟩ rest [(Str.ofString "jar", .jar)] J (fun fl _ _ => fl = .ret (.bool true)) (fun _ _ => False) := by
  refine' ⟨_, _, law_of ?h1, fun J j ha => ?_⟩
  case h1 => k_dflt k_is
  (repeat (first | walk_at "V1" | with_reducible refine Mine.st_ite ?_))
  refine .rng1 ⟨by decide, by decide⟩ ⟨rfl, _, rfl, ?_⟩
  refine l_ind (I := fun items ρ J' => JI J' ∧ J'.at_ + 300 * items.length ≤ 900 ∧ Less ρ [(Str.ofString "jar", .jar)]) (fun ρ J' hI => ?_) (fun it vs ih ρ J' hI => ?_) _ _ _ ⟨j, by show J.at_ + 300 * ((3 : Nat) : Int) ≤ 900; omega, by (repeat (first | exact Mine.Less.nil | refine Mine.Less.cons rfl ?_))⟩
  · obtain ⟨_, _, hL⟩ := hI
    refine l_nil _ hL ?_
    (repeat (first | walk_at "V1" | with_reducible refine Mine.st_ite ?_))
    rfl
  · obtain ⟨j0, a0, hL⟩ := hI
    rw [List.length_cons] at a0
    refine l_cons _ hL ?_
    (repeat walk_at "V1")
    refine st_ite_j (P := fun ρ' J2 => ∃ by_ am : Int, Less ρ' [(Str.ofString "jar", .jar), (Str.ofString "by", .int by_), (Str.ofString "amount", .int am)] ∧ 0 < by_ ∧ by_ ≤ 3000000001 ∧ -3000000000 ≤ am ∧ am ≤ 3000000000 ∧ JI J2 ∧ J2.at_ ≤ J'.at_ + 20) (fun Kn hK hR => ?_) ?_
    · (repeat walk_at "V1")
      refine c_take (by decide) (by decide) j0 (by omega) (fun t J2 t0 t1 j2 a2 => ?_)
      (repeat (first | walk_at "V1" | with_reducible refine Mine.st_ite ?_))
      refine ite_dec (fun q => ?_) (fun q => ?_)
      · (repeat (first | walk_at "V1" | with_reducible refine Mine.st_ite ?_))
        refine c_take (by decide) (by decide) j2 (by omega) (fun h J3 h0 h1 j3 a3 => ?_)
        (repeat (first | walk_at "V1" | with_reducible refine Mine.st_ite ?_))
        refine c_take (by decide) (by decide) j3 (by omega) (fun u J4 u0 u1 j4 a4 => ?_)
        have p1 : (1 + h) * (2 * u + 1) ≤ 50 * 39 := Int.mul_le_mul (by omega) (by omega) (by omega) (by decide)
        have p0 : 0 ≤ (1 + h) * (2 * u + 1) := Int.mul_nonneg (by omega) (by omega)
        (repeat (first | walk_at "V1" | with_reducible refine Mine.st_ite ?_))
        refine c_take (by decide) (by decide) j4 (by omega) (fun z J5 z0 z1 j5 a5 => ?_)
        (repeat (first | walk_at "V1" | with_reducible refine Mine.st_ite ?_))
        refine ite_dec (fun q2 => ?_) (fun q2 => ?_)
        · (repeat (first | walk_at "V1" | with_reducible refine Mine.st_ite ?_))
          exact hK _ _ ⟨_, _, by (repeat (first | exact Mine.Less.nil | refine Mine.Less.cons rfl ?_)), by omega, by omega, by omega, by omega, j5, by omega⟩
        · (repeat (first | walk_at "V1" | with_reducible refine Mine.st_ite ?_))
          exact hK _ _ ⟨_, _, by (repeat (first | exact Mine.Less.nil | refine Mine.Less.cons rfl ?_)), by omega, by omega, by omega, by omega, j5, by omega⟩
      · (repeat (first | walk_at "V1" | with_reducible refine Mine.st_ite ?_))
        refine c_number j2 (by omega) (fun b J3 b0 b1 j3 a3 => ?_)
        (repeat (first | walk_at "V1" | with_reducible refine Mine.st_ite ?_))
        refine c_number j3 (by omega) (fun m J4 m0 m1 j4 a4 => ?_)
        (repeat (first | walk_at "V1" | with_reducible refine Mine.st_ite ?_))
        exact hK _ _ ⟨_, _, by (repeat (first | exact Mine.Less.nil | refine Mine.Less.cons rfl ?_)), by omega, by omega, by omega, by omega, j4, by omega⟩
    · rintro ρ' J2 ⟨b, am, hL2, b0, b1, m0, m1, j2, a2⟩
      refine st_forget _ hL2 ?_
      (repeat (first | walk_at "V1" | with_reducible refine Mine.st_ite ?_))
      refine c_law_rounds b0 (by omega) ?_
      (repeat (first | walk_at "V1" | with_reducible refine Mine.st_ite ?_))
      refine c_law_halves ?_
      (repeat (first | walk_at "V1" | with_reducible refine Mine.st_ite ?_))
      refine c_law_halves ?_
      (repeat (first | walk_at "V1" | with_reducible refine Mine.st_ite ?_))
      refine c_number j2 (by omega) (fun x J3 x0 x1 j3 a3 => ?_)
      (repeat (first | walk_at "V1" | with_reducible refine Mine.st_ite ?_))
      refine c_number j3 (by omega) (fun y J4 y0 y1 j4 a4 => ?_)
      (repeat (first | walk_at "V1" | with_reducible refine Mine.st_ite ?_))
      refine c_number j4 (by omega) (fun z J5 z0 z1 j5 a5 => ?_)
      (repeat (first | walk_at "V1" | with_reducible refine Mine.st_ite ?_))
      refine c_law_divides ⟨by omega, by omega⟩ ?_
      (repeat (first | walk_at "V1" | with_reducible refine Mine.st_ite ?_))
      refine c_law_divides ⟨by omega, by omega⟩ ?_
      (repeat (first | walk_at "V1" | with_reducible refine Mine.st_ite ?_))
      refine c_law_divides ⟨by decide, by decide⟩ ?_
      (repeat (first | walk_at "V1" | with_reducible refine Mine.st_ite ?_))
      refine c_law_texts (by omega) (by omega) ?_
      (repeat (first | walk_at "V1" | with_reducible refine Mine.st_ite ?_))
      refine c_law_fractions ⟨by omega, by omega⟩ ?_
      (repeat (first | walk_at "V1" | with_reducible refine Mine.st_ite ?_))
      refine c_law_fractions ⟨by omega, by omega⟩ ?_
      (repeat (first | walk_at "V1" | with_reducible refine Mine.st_ite ?_))
      refine c_law_products (by omega) (by omega) ?_
      (repeat (first | walk_at "V1" | with_reducible refine Mine.st_ite ?_))
      refine c_take (by decide) (by decide) j5 (by omega) (fun l J6 l0 l1 j6 a6 => ?_)
      (repeat (first | walk_at "V1" | with_reducible refine Mine.st_ite ?_))
      refine c_law_products (by omega) (by omega) ?_
      (repeat (first | walk_at "V1" | with_reducible refine Mine.st_ite ?_))
      refine c_take (by decide) (by decide) j6 (by omega) (fun u J7 u0 u1 j7 a7 => ?_)
      (repeat (first | walk_at "V1" | with_reducible refine Mine.st_ite ?_))
      refine c_law_texts (by omega) (by omega) ?_
      (repeat (first | walk_at "V1" | with_reducible refine Mine.st_ite ?_))
      refine c_law_texts (by omega) (by omega) ?_
      (repeat (first | walk_at "V1" | with_reducible refine Mine.st_ite ?_))
      refine c_law_bad (by omega) (by omega) ⟨by omega, by omega⟩ ?_
      (repeat (first | walk_at "V1" | with_reducible refine Mine.st_ite ?_))
      refine c_law_bad (by omega) (by omega) ⟨by omega, by omega⟩ ?_
      (repeat (first | walk_at "V1" | with_reducible refine Mine.st_ite ?_))
      have p1 : l * (y.natAbs : Int) ≤ 39 * 3000000000 := Int.mul_le_mul (by omega) (by omega) (by omega) (by decide)
      have p0 : 0 ≤ l * (y.natAbs : Int) := Int.mul_nonneg l0 (by omega)
      refine c_law_bad (by omega) (by omega) ⟨by omega, by omega⟩ ?_
      (repeat (first | walk_at "V1" | with_reducible refine Mine.st_ite ?_))
      refine e_list (l_comp rfl (.take rfl rfl) (fun _ _ => rfl) ?_)
      (repeat (first | walk_at "V1" | with_reducible refine Mine.st_ite ?_))
      refine c_take (by decide) (by decide) j7 (by omega) (fun g J8 g0 g1 j8 a8 => ?_)
      (repeat (first | walk_at "V1" | with_reducible refine Mine.st_ite ?_))
      have hlen : ((List.range (Builtin.Range.rangeSize 0 g 1).toNat).map fun i : Nat => SV.int (0 + i * 1)).length = g.toNat := by rw [List.length_map, List.length_range, range_len g0]
      refine .rng1 ⟨by omega, by omega⟩ ⟨range_small g0 g1, _, rfl, by omega, ?_⟩
      refine compN_take _ [] J8 (fun _ h => nomatch h) j8 (by omega) (fun es J9 e1 e2 j9 a9 => ?_)
      rw [hlen] at e2 a9
      rw [List.length_nil] at e2
      (repeat (first | walk_at "V1" | with_reducible refine Mine.st_ite ?_))
      refine c_law_decimals e1 (by omega) ?_
      (repeat (first | walk_at "V1" | with_reducible refine Mine.st_ite ?_))
      refine c_law_doors ⟨by omega, by omega⟩ ⟨by omega, by omega⟩ ⟨by omega, by omega⟩ ?_
      (repeat (first | walk_at "V1" | with_reducible refine Mine.st_ite ?_))
      exact ih _ _ ⟨j9, by omega, by (repeat (first | exact Mine.Less.nil | refine Mine.Less.cons rfl ?_))⟩
end Mine
namespace Mine
theorem hide_post {M : Model} {A : Around} {E : Value → Shared → Prop} {s : Shared} {t : Sem Flow} {Q0 : Flow → Shared → Prop} (h : ∀ Q : Flow → Shared → Prop, (∀ f s', Q0 f s' → Q f s') → wpAny M A t Q E s) : wpAny M A t Q0 E s := h Q0 fun _ _ h => h
theorem Here.ends {c : Cx} {news : Led} {ρ : Rho} {J : JS} {s' : Shared} (H : Here c news ρ J s') : (∀ b o, c.base.get? b = some o → s'.heap.get? b = some o) ∧ s'.gens = c.s0.gens ∧ s'.os = c.s0.os ∧ GrownAt 267 s'.heap ∧ GrownAt 220 s'.heap := by
  obtain ⟨g, m, hd, G, F, N, ⟨oj, oc, t1, t2, vs, ps1, ps2, rfl, _⟩, Rh, Rs⟩ := H
  exact ⟨fun b o e => F.keep _ _ (G.B.stays _ _ e), Rs.1, Rs.2, ⟨ps1, (N (267, tabObj ps1) (List.mem_append_left _ (.tail _ (.tail _ (.head _))))).1⟩, ⟨ps2, (N (220, tabObj ps2) (List.mem_append_left _ (.tail _ (.tail _ (.tail _ (.head _)))))).1⟩⟩
theorem LawIs.one {w : World} {cs cs' : Scope} {rest rest' : List Stmt} (h : LawIs w cs rest) (h' : LawIs w cs' rest') : cs = cs' ∧ rest = rest' := by
  obtain ⟨oc, od, name, qual, params, s0, dV, kV, doc, pm, an, cdv, ct, osl, e⟩ := h
  obtain ⟨oc', od', name', qual', params', s0', dV', kV', doc', pm', an', cdv', ct', osl', e'⟩ := h'
  rw [e] at e'
  injection e' with e'
  injection e' with _ _ e2 _
  injection e2 with e3
  injection e3 with _ _ _ e4 e5
  injection e4 with e6
  injection e6 with _ e7
  exact ⟨e5, e7⟩
theorem law_end {w : World} {p : Program} {loose : List Str} {mean : ExcName → Option Value} {mg mb : Str → Option Value} {base : Heap} {L fa : Addr} {cd : Value} {s : Shared} {m : Str → Option Value} {cs : Scope} {rest : List Stmt} {l' D2 : Addr} {p2 p3 p5 : Addr × Obj}
    {t1 t2 : Tok} {sal : Int} {ys : List Value} {oj : Obj} {sc : List Int} {cl : List (Str × Addr)} {Q : Flow → Shared → Prop} {E : Value → Shared → Prop} {q1 q2 q3 : Addr}
    (F : Fr base L s.heap m) (N : News base L s.heap [(l', W.listOf #[.ref D2, .int 0 t1, .int sal t2] 0), p2, p3, (D2, PyProof.Rows.LCg.lst ys), p5, (L + 1, oj), (267, tabObj #[]), (220, tabObj #[])])
    (B : Below callerA base [] base) (X : (kf w).In base) (T : Top p loose mean mg mb base) (cd1 : CodeHd base 271 267) (cd2 : CodeHd base 224 220) (I : IntsAre ys ((List.take 60 sc).map fun k' => if k' < 0 then -k' else k')) (d : oj.data = .cell (some (.ref l')))
    (l1 : q1 < l' ∧ q2 < l' ∧ D2 < l' ∧ q3 < l' ∧ L + 1 < l' ∧ 267 < l' ∧ 220 < l') (o1 : q3 ≠ D2 ∧ L + 1 ≠ D2 ∧ 267 ≠ D2 ∧ 220 ≠ D2) (l0 : 267 < L ∧ 220 < L) (hsc : scopeOk cs) (hk : cs.names.lookup (Str.ofString "jar") = some .cell) (hcl : cl.lookup (Str.ofString "jar") = some (L + 1))
    (hv : LawIs w cs rest) (hQ : ∀ s', (∀ b o, base.get? b = some o → s'.heap.get? b = some o) → s'.gens = s.gens → s'.os = s.os → GrownAt 267 s'.heap → GrownAt 220 s'.heap → Q (.ret (.bool true)) s') :
    wpAny (model pg w) (callerA.deeper (envX (Str.ofString "law") cs L fa cd cl)) (execs rest (envX (Str.ofString "law") cs L fa cd cl)) Q E s := by
  obtain ⟨cs', rest', h', v⟩ := law_vc w
  obtain ⟨rfl, rfl⟩ := hv.one h'
  have v' := v ⟨(List.take 60 sc).map fun k' => if k' < 0 then -k' else k', 0, sal⟩ ⟨fun x hx => by
    obtain ⟨k', _, rfl⟩ := List.mem_map.mp hx
    split <;> omega, by
    show (List.map _ (List.take 60 sc)).length ≤ 60
    rw [List.length_map, List.length_take]; omega, Int.le_refl _⟩ (Int.le_refl _)
  let c : Cx := { w := w, p := p, loose := loose, mean := mean, mg := mg, mb := mb, A := callerA.deeper (envX (Str.ofString "law") cs L fa cd cl), A₀ := callerA, fi := ⟨Str.ofString "law", cs, false, 0, true⟩, L := L, a := fa, ccd := cd, cl := cl, outer := [], base := base, g₀ := base, jA := l', cA := D2, s0 := s, its := [] }
  have ok : c.Ok 10 := {
    fr := rfl
    sc := hsc
    hnd := fun _ => rfl
    up := fun _ => rfl
    dep := by show callerA.depth + 1 + 10 + 5 < recursionLimit; decide
    uni := by show callerA.units + 3 + 3 * 10 + 64 < cLine; decide
    nocl := fun z => nomatch z
    X := X
    T := T
    cd1 := cd1
    cd2 := cd2
    mk1 := fun z => nomatch z
    mk2 := fun z => nomatch z }
  have tg : ∀ q l, TabGood q #[] l := fun q l => ⟨trivial, fun pos v e => nomatch e⟩
  have H : Here c [(L + 1, oj)] [(Str.ofString "jar", .jar)] ⟨(List.take 60 sc).map fun k' => if k' < 0 then -k' else k', 0, sal⟩ s := by
    refine ⟨base, m, (l', W.listOf #[.ref D2, .int 0 t1, .int sal t2] 0) :: (D2, PyProof.Rows.LCg.lst ys) :: (267, tabObj #[]) :: (220, tabObj #[]) :: [], ⟨B, .refl, fun b hb => nomatch hb⟩, F, news_sub N fun q hq => ?_,
      ⟨_, _, t1, t2, ys, #[], #[], rfl, ⟨rfl, _, rfl⟩, ⟨rfl, _, rfl⟩, I, tg _ _, tg _ _, ?_, fun q hq r hr => ?_⟩, fun x sv e => ?_, rfl, rfl⟩
    · rcases List.mem_cons.mp hq with rfl | hq
      · exact .head _
      rcases List.mem_cons.mp hq with rfl | hq
      · exact .tail _ (.tail _ (.tail _ (.head _)))
      rcases List.mem_cons.mp hq with rfl | hq
      · exact .tail _ (.tail _ (.tail _ (.tail _ (.tail _ (.tail _ (.head _))))))
      rcases List.mem_cons.mp hq with rfl | hq
      · exact .tail _ (.tail _ (.tail _ (.tail _ (.tail _ (.tail _ (.tail _ (.head _)))))))
      · rw [List.mem_singleton.mp hq]
        exact .tail _ (.tail _ (.tail _ (.tail _ (.tail _ (.head _)))))
    · obtain ⟨_, _, a1, _, a2, a3, a4⟩ := l1
      obtain ⟨_, b1, b2, b3⟩ := o1
      refine List.pairwise_cons.mpr ⟨fun q hq => ?_, List.pairwise_cons.mpr ⟨fun q hq => ?_, List.pairwise_cons.mpr ⟨fun q hq => ?_, List.pairwise_cons.mpr ⟨fun q hq => (nomatch hq), .nil⟩⟩⟩⟩
      · rcases List.mem_cons.mp hq with rfl | hq
        · exact Nat.ne_of_gt a1
        rcases List.mem_cons.mp hq with rfl | hq
        · exact Nat.ne_of_gt a3
        · rw [List.mem_singleton.mp hq]; exact Nat.ne_of_gt a4
      · rcases List.mem_cons.mp hq with rfl | hq
        · exact Ne.symm b2
        · rw [List.mem_singleton.mp hq]; exact Ne.symm b3
      · rw [List.mem_singleton.mp hq]; show (267 : Nat) ≠ 220; decide
    · rw [List.mem_singleton.mp hq]
      obtain ⟨_, _, a1, _, a2, a3, a4⟩ := l1
      obtain ⟨_, b1, b2, b3⟩ := o1
      rcases List.mem_cons.mp hr with rfl | hr
      · exact Nat.ne_of_lt a2
      rcases List.mem_cons.mp hr with rfl | hr
      · exact b1
      rcases List.mem_cons.mp hr with rfl | hr
      · exact Nat.ne_of_gt (Nat.lt_succ_of_lt l0.1)
      · rw [List.mem_singleton.mp hr]; exact Nat.ne_of_gt (Nat.lt_succ_of_lt l0.2)
    · rw [List.lookup_cons] at e
      cases z : (x == Str.ofString "jar") with
      | false => rw [z] at e; cases e
      | true =>
        rw [z] at e; cases e
        obtain rfl := beq_iff_eq.mp z
        exact .inr ⟨.inl hk, L + 1, oj, _, hcl, .head _, d, .jar⟩
  refine wpAny_mono ((s_astR (s_vcall 10) 40).st (c := c) (E := fun _ _ => False) rfl ok v' H (fun n' f fl ρ' J' s' hs hK hF H' => ?_) (fun _ _ _ _ _ _ z => z.elim) PassesOwn.never) (fun _ _ h => h) fun _ _ h => h.elim
  subst hK
  cases hF with
  | ret hr =>
    obtain rfl := hr.bool_inv
    obtain ⟨e1, e2, e3, e4, e5⟩ := H'.ends
    exact hQ s' e1 e2 e3 e4 e5
end Mine
set_option maxHeartbeats 8000000 in
theorem PySem.Challenge.cw_rg0152_01_holds : PySem.Challenge.rw_rg0152_01.Holds :=
  hd (by
  k_go0
  refine wpAny_execs_cons (Mine.hide_post fun Q hQ => ?_)
  k_steps
  refine hQ _ _ ?_
  refine' Mine.law_end ?F ?N ?B ?X ?T ?c1 ?c2 ?I ?d ?l1 ?o1 ?l0 ?hsc ?hk ?hcl ?hv ?hQ
  case F => assumption
  case N => assumption
  case B => assumption
  case X => assumption
  case T => assumption
  case c1 => assumption
  case c2 => assumption
  case I => assumption
  case d => assumption
  case l1 => assumption
  case o1 => assumption
  case l0 => assumption
  case hsc => exact ⟨rfl, rfl, rfl, rfl, rfl⟩
  case hk => rfl
  case hcl => rfl
  case hv =>
    refine' Mine.law_of ?h
    case h => k_dflt k_is
  case hQ =>
    intro s' k g o g1 g2
    exact ⟨⟨.inl ⟨.bool true, .bool true, [], rfl, fun _ => rfl, .bool true, by first | kc_post | wrow_post, unshared_nil⟩, k, o, g.trans (by assumption)⟩, g1, g2, trivial⟩)
