import PyProof.Rows.All
import HandS.ForMost
import HandS.IsInst
import HandS.SortInts
import HandS.Wide
import HandS.Deep
import HandS.NoneIn
import HandS.Codes
import HandS.Style
import HandS.Conv
import HandS.SortKw
import HandS.SetFor
import HandS.More
import HandS.Strs
import HandS.Lambda
import HandS.WordsExc
import HandS.ExcOwn
import HandS.TryOnly
import HandS.ExcIs
import HandS.EndTab
import KE.DataMinMax
import KE.SortData
import KE.KDictKeyed
import PySem.Challenge.RW_meanloom_k40_whole_handed
open scoped BitVec
local macro_rules
 | `(#v[$xs,*]) => do
  let mut r ← `(.nil)
  for x in xs.getElems.reverse do r ← `(.cons $x $r)
  return r
local macro_rules
 | `($i:num#$n) => match i.getNat with | 0 => `(.var $n) | 1 => `(.cint $n) | 2 => `(.glob $n) | _ => `(.nm $n)
set_option Elab.async false
namespace PySem.W.Fast
def tw15704020484433388770 := 0
def tw1859053207103195050 := 0
def tw6689728515556146697 := 0
def tw1321956794233499242 := 0
def tw2295132707521893470 := 0
def tw14340960246610466588 := 0
def tw16606986903063597932 := 0
def tw5409726858156912184 := 0
def tw16422806625788133913 := 0
def tw15301836306819998568 := 0
def tw10934565254233316681 := 0
def tw17705555913446285957 := 0
def tw14935637383394065557 := 0
def tw9580154141741985944 := 0
def tw14944996853976109963 := 0
def tw17283396034477380101 := 0
def tw4464484147537191494 := 0
def tw16459592686061800333 := 0
def tw2421372313047448235 := 0
def tw17942300194461552985 := 0
def tw16515840542129341523 := 0
def tw5201083902755509414 := 0
def tw16741078889653505419 := 0
def tw13551991626661760416 := 0
def tw2305383834283813815 := 0
def tw9079196015028851825 := 0
def tw430915755290800839 := 0
end PySem.W.Fast
set_option maxRecDepth 100000 in set_option maxHeartbeats 0 in open PySem PySem.W PyProof.Rows in open_top top40 for PySem.Challenge.rw_meanloom_k40_whole_handed
set_option linter.all false
set_option maxRecDepth 100000
set_option maxHeartbeats 2000000
namespace VM
open PySem PySem.Spec PyProof.Rows L2
abbrev Mono := List Nat
abbrev Poly := List (Mono × Int)
def mmul : Mono → Mono → Mono
 | [], b => b
 | a, [] => a
 | x :: a, y :: b => (x + y) :: mmul a b
def ltM : Mono → Mono → Bool
 | [], [] => false
 | [], _ :: _ => true
 | _ :: _, [] => false
 | x :: a, y :: b => if Nat.beq x y then ltM a b else Nat.blt x y
def insT (t : Mono × Int) : Poly → Poly
 | [] => [t]
 | u :: p => if t.1 = u.1 then (u.1, t.2 + u.2) :: p else if ltM t.1 u.1 then t :: u :: p else u :: insT t p
def padd : Poly → Poly → Poly
 | [], q => q
 | t :: p, q => insT t (padd p q)
def ptm (t : Mono × Int) : Poly → Poly
 | [] => []
 | u :: p => (mmul t.1 u.1, t.2 * u.2) :: ptm t p
def pneg (p : Poly) : Poly := ptm ([], -1) p
def psub (p q : Poly) : Poly := padd p (pneg q)
def pcst (c : Int) : Poly := [([], c)]
def eqM : Mono → Mono → Bool
 | [], [] => true
 | [], _ :: _ => false
 | _ :: _, [] => false
 | x :: a, y :: b => Nat.beq x y && eqM a b
def eqP : Poly → Poly → Bool
 | [], [] => true
 | [], _ :: _ => false
 | _ :: _, [] => false
 | t :: p, u :: q => eqM t.1 u.1 && decide (t.2 = u.2) && eqP p q
def psame (p q : Poly) : Bool := eqP p q || (psub p q).all fun t => decide (t.2 = 0)
def cmpM : Mono → Mono → Nat
 | [], [] => 0
 | [], _ :: _ => 1
 | _ :: _, [] => 2
 | x :: a, y :: b => if Nat.beq x y then cmpM a b else if Nat.blt x y then 1 else 2
def pmg : Nat → Poly → Poly → Poly
 | 0, p, q => padd p q
 | _ + 1, [], q => q
 | _ + 1, t :: p, [] => t :: p
 | n + 1, t :: p, u :: q => match cmpM t.1 u.1 with
  | 0 => match t.2 + u.2 with
   | .ofNat 0 => pmg n p q
   | c => (t.1, c) :: pmg n p q
  | 1 => t :: pmg n p (u :: q)
  | _ => u :: pmg n (t :: p) q
def pad (p q : Poly) : Poly := pmg (p.length + q.length) p q
def pml : Poly → Poly → Poly
 | [], _ => []
 | t :: p, q => pad (ptm t q) (pml p q)
def psb (p q : Poly) : Poly := pad p (pneg q)
inductive Sym where
 | sh (m A : Nat) (p : List (List Nat × Int))
 | ip (A : Nat) (p : List (List Nat × Int))
 | op (n : Nat)
 | fn (f : Nat)
 | lm (f : Nat)
 deriving Inhabited
inductive Val where
 | non
 | bl (b : Bool)
 | int (i : Int)
 | str (s : Str)
 | tup (xs : List Val)
 | lst (xs : List Val)
 | dic (t : Bool) (ks vs : List Val)
 | scr (ns : List Int)
 | sym (s : Sym)
 | ins (c : Nat) (ns : List Str) (vs : List Val)
 deriving Inhabited
def dnR (p : NestedKey × Addr × V) (q : NestedKey × Addr × Value) : Prop := p.1 = q.1 ∧ p.2.1 = q.2.1 ∧ RelV p.2.2 q.2.2
def dnP (w : World) (a : Addr) (kvs : List (NestedKey × Addr × V)) (h : Heap) : Prop :=
 kvs.length ≤ sizeLine ∧ (a == sysModules) = false ∧ ∃ xs : List (NestedKey × Addr × Value), Paired dnR kvs xs ∧
  ∃ o es ep, h.get? a = some o ∧ o.ExactDict ∧ o.data = .dict es ep ∧ es.toList = xs.map (fun x => (⟨x.1.hash w, .ref x.2.1, x.2.2⟩ : DictEntry)) ∧ (xs.map (·.1)).Nodup
def DN (w : World) (a : Addr) (kvs : List (NestedKey × Addr × V)) : HO := .ext (dnP w a kvs)
def fillC (ob : Obj) : Nat → Heap
 | 0 => { objs := #[] }
 | n + 1 => (fillC ob n).push ob
theorem fillC_size (ob : Obj) : ∀ n, (fillC ob n).objs.size = n
 | 0 => rfl
 | n + 1 => by unfold fillC; rw [Heap.objs_push, Array.size_push, fillC_size ob n]
theorem fillC_get {ob : Obj} : ∀ {n b : Nat} {o : Obj}, (fillC ob n).get? b = some o → o = ob
 | 0, b, o, h => by simp [fillC, Heap.get?] at h
 | n + 1, b, o, h => by
  rcases Heap.get?_push_cases h with ⟨_, e⟩ | e
  ·exact e
  ·exact fillC_get e
theorem code_dn {c : Addr} {q : Str} {w : World} {a : Addr} {kvs : List (NestedKey × Addr × V)} (h : LamX.CodeO c q = DN w a kvs) : False := by
 have e : (fun h : Heap => ∃ (oc : Obj) (vs : Array Value) (t : Tok), h.get? c = some oc ∧ oc.data = .fields vs ∧ vs[1]? = some (.str q t)) = dnP w a kvs := by
  injection h
 have t0 : Tok := default
 have hp : (fun h : Heap => ∃ (oc : Obj) (vs : Array Value) (t : Tok), h.get? c = some oc ∧ oc.data = .fields vs ∧ vs[1]? = some (.str q t)) (fillC { cls := .none, data := .fields #[.none, .str q t0] } (c + 1)) := by
  refine ⟨{ cls := .none, data := .fields #[.none, .str q t0] }, #[.none, .str q t0], t0, ?_, rfl, rfl⟩
  have := Heap.get?_push_size (fillC { cls := .none, data := .fields #[.none, .str q t0] } c) (o := { cls := .none, data := .fields #[.none, .str q t0] }) rfl
  rwa [fillC_size] at this
 rw [e] at hp
 obtain ⟨_, _, xs, _, o, es, ep, h1, _, h2, _⟩ := hp
 have := fillC_get h1
 subst this
 cases h2
def lamP (a c : Addr) (q : Str) (ps : Arguments) (bd : Expr) (sc : Scope) (h : Heap) : Prop := ∃ pm ct : Value, h.get? a = some (PySem.W.kla_obj "<lambda>" q ps bd sc [] pm c ct)
def LamO (a c : Addr) (q : Str) (ps : Arguments) (bd : Expr) (sc : Scope) : HO := .ext (lamP a c q ps bd sc)
theorem lam_dn {a c : Addr} {q : Str} {ps : Arguments} {bd : Expr} {sc : Scope} {w : World} {b : Addr} {kvs : List (NestedKey × Addr × V)} (h : lamP a c q ps bd sc = dnP w b kvs) : False := by
 have hp : lamP a c q ps bd sc (fillC (PySem.W.kla_obj "<lambda>" q ps bd sc [] .none c .none) (a + 1)) := by
  refine ⟨.none, .none, ?_⟩
  have := Heap.get?_push_size (fillC (PySem.W.kla_obj "<lambda>" q ps bd sc [] .none c .none) a) (o := PySem.W.kla_obj "<lambda>" q ps bd sc [] .none c .none) rfl
  rwa [fillC_size] at this
 rw [h] at hp
 obtain ⟨_, _, xs, _, o, es, ep, h1, _, h2, _⟩ := hp
 have := fillC_get h1
 subst this
 cases h2
def MutO : HO → Prop
 | .ext φ => ∃ w a kvs, φ = dnP w a kvs
 | .lst _ => True
 | .dK _ => True
 | .dT _ => True
 | .ins _ _ _ => True
 | _ => False
def NT : HO → Prop
 | .tbl _ => False
 | _ => True
def NE : HO → Prop
 | .tbl _ => False
 | .ext φ => ∃ w a kvs, φ = dnP w a kvs
 | _ => True
theorem lam_mut {a c : Addr} {q : Str} {ps : Arguments} {bd : Expr} {sc : Scope} (m : MutO (LamO a c q ps bd sc)) : False := by
 obtain ⟨w, b, kvs, e⟩ := m
 exact lam_dn e
theorem codeo_mut {c : Addr} {q : Str} (m : MutO (LamX.CodeO c q)) : False := by
 obtain ⟨w, b, kvs, e⟩ := m
 exact code_dn (c := c) (q := q) (w := w) (a := b) (kvs := kvs) (congrArg HO.ext e)
theorem MutO.ne {o : HO} (h : MutO o) : NE o := by cases o <;> first | exact True.intro | exact h | exact h.elim
theorem code_ne {c : Addr} {q : Str} {o : HO} (n : NE o) : LamX.CodeO c q ≠ o := fun z => by
 subst z
 obtain ⟨w, a, kvs, e⟩ := n
 exact code_dn (c := c) (q := q) (w := w) (a := a) (kvs := kvs) (congrArg HO.ext e)
class Tbl where
 T : List (Addr × Str)
 w : World
 C : Nat → Option Addr
 F : Nat → Option Addr
 L : Nat → Arguments → Expr → Scope → Bool
def symRep [Tbl] (H : Hp) : Sym → V → Prop
 | .fn f, x => ∃ a, Tbl.F f = some a ∧ x = .ref a
 | .lm f, x => ∃ a c q ps bd sc, Tbl.L f ps bd sc = true ∧ x = .ref a ∧ H a = some (LamO a c q ps bd sc) ∧ H c = some (LamX.CodeO c q)
 | _, _ => False
theorem Tabs.upd {T : List (Addr × Str)} {H : Hp} {a : Addr} {o u : HO} (t : LamX.Tabs T H) (h : H a = some o) (n : NE o) : LamX.Tabs T (L2.upd H a u) := fun p hp => by
 obtain ⟨ps, h1, h2, h3⟩ := t p hp
 refine ⟨ps, ?_, h2, fun pos cv hc => ?_⟩
 ·rw [upd_ne (ne_of h1 h (fun z => by rw [← z] at n; exact n))]; exact h1
 ·obtain ⟨c, e1, e2⟩ := h3 pos cv hc
  refine ⟨c, e1, ?_⟩
  rw [upd_ne (ne_of e2 h (code_ne n))]; exact e2
theorem Tabs.new {T : List (Addr × Str)} {H : Hp} {a : Addr} {u : HO} (t : LamX.Tabs T H) (h : H a = none) : LamX.Tabs T (L2.upd H a u) :=
 t.ext fun b o e => by rw [upd_ne (ne_of_none e h)]; exact e
abbrev Hid := Addr → Prop
def ofKey : Key → Val
 | .inl i => .int i
 | .inr s => .str s
mutual
def valOf : NestedKey → Val
 | .none => .non
 | .num i => .int i
 | .text s => .str s
 | .tup ks => .tup (valsOf ks)
def valsOf : List NestedKey → List Val
 | [] => []
 | k :: ks => valOf k :: valsOf ks
end
mutual
def Rep [Tbl] (K : PySem.W.Frag) (H : Hp) (O : Hid) : Val → V → Prop
 | .non, x => x = .non
 | .bl b, x => x = .bl b
 | .int i, x => x = .int i
 | .str s, x => x = .str s
 | .tup vs, x => ∃ a xs, x = .ref a ∧ SqT K H a xs ∧ Reps K H O vs xs
 | .lst vs, x => ∃ a xs, x = .ref a ∧ ¬ O a ∧ H a = some (.lst xs) ∧ Reps K H O vs xs
 | .scr ns, x => ∃ a, x = .ref a ∧ ((∃ ob, H a = some (.frz ob (.lst (ns.map V.int)))) ∨ (∃ (o : Obj) (its : Array Value) (n : Nat), K.lookup a = some o ∧ o.cls = .type "list" ∧ o.dict = none ∧
   o.data = .seq its n ∧ its.size ≤ sizeLine ∧ Vals (ns.map V.int) its.toList))
 | .sym s, x => symRep H s x
 | .ins c ns vs, x => ∃ (a C dx : Addr) (kvs : List (Str × V)), x = .ref a ∧ ¬ O a ∧ Tbl.C c = some C ∧ H a = some (.ins C dx kvs) ∧ kvs.map (·.1) = ns ∧ Reps K H O vs (kvs.map (·.2))
 | .dic false ks vs, x => ∃ (a : Addr) (kvs : List (Key × V)), x = .ref a ∧ ¬ O a ∧ Rd H a (.dK kvs) ∧
   ks = kvs.map (fun p => ofKey p.1) ∧ (kvs.map (·.1)).Nodup ∧ Reps K H O vs (kvs.map (·.2))
 | .dic true ks vs, x => ∃ (a : Addr) (kvs : List (NestedKey × Addr × V)), x = .ref a ∧ ¬ O a ∧ H a = some (DN Tbl.w a kvs) ∧
   ks = kvs.map (fun p => valOf p.1) ∧ ((kvs.map (·.1)).Nodup ∧ ∀ p ∈ kvs, p.1.depth ≤ 8) ∧ Reps K H O ks (kvs.map fun p => V.ref p.2.1) ∧ Reps K H O vs (kvs.map (·.2.2))
def Reps [Tbl] (K : PySem.W.Frag) (H : Hp) (O : Hid) : List Val → List V → Prop
 | [], xs => xs = []
 | v :: vs, xs => ∃ x r, xs = x :: r ∧ Rep K H O v x ∧ Reps K H O vs r
end
mutual
def flat : Val → Bool
 | .tup vs => flats vs
 | .lst _ => false
 | .dic _ _ _ => false
 | .sym (.op _) => false
 | .ins _ _ _ => false
 | _ => true
def flats : List Val → Bool
 | [] => true
 | v :: vs => flat v && flats vs
end
section
variable [Tbl] {K : PySem.W.Frag} {H H' : Hp} {O O' : Hid} {v : Val} {vs ws : List Val} {x : V} {xs ys : List V} {a : Addr}
structure WF (H : Hp) (O : Hid) : Prop where
 hid : ∀ a, O a → ∃ o, H a = some o ∧ MutO o
 tabs : LamX.Tabs Tbl.T H
instance : CoeFun (WF H O) (fun _ => ∀ a, O a → ∃ o, H a = some o ∧ MutO o) := ⟨WF.hid⟩
structure Keep (H : Hp) (O : Hid) (H' : Hp) (O' : Hid) : Prop where
 vis : ∀ a o, H a = some o → ¬ O a → (nt : NT o := by first | exact True.intro | assumption) → H' a = some o
 dom : ∀ a, ¬ O a → H' a = none → H a = none
 tabs : LamX.Tabs Tbl.T H → LamX.Tabs Tbl.T H'
 new : ∀ a, O' a → O a ∨ H a = none
theorem Keep.refl : Keep H O H O := ⟨fun _ _ h _ _ => h, fun _ _ h => h, id, fun _ h => .inl h⟩
theorem Keep.trans {H1 H2 H3 : Hp} {O1 O2 O3 : Hid} (a : Keep H1 O1 H2 O2) (b : Keep H2 O2 H3 O3) : Keep H1 O1 H3 O3 := by
 refine ⟨fun c o h n nt => b.vis c o (a.vis c o h n) (fun z => ?_), fun c n h => ?_, fun t => b.tabs (a.tabs t), fun c h => ?_⟩
 ·rcases a.new c z with q | q
  ·exact n q
  ·rw [h] at q; cases q
 ·by_cases hc : O2 c
  ·exact (a.new c hc).resolve_left n
  ·exact a.dom c n (b.dom c hc h)
 ·by_cases hc : O1 c
  ·exact .inl hc
  ·right
   rcases b.new c h with q | q
   ·exact (a.new c q).resolve_left hc
   ·exact a.dom c hc q
theorem rd_keep {u : HO} (k : Keep H O H' O') (n : ¬ O a) (h : Rd H a u) (nt : NT u := by first | exact True.intro | assumption) : Rd H' a u := by
 rcases h with h | ⟨o, h⟩
 ·exact .inl (k.vis _ _ h n)
 ·exact .inr ⟨o, k.vis _ _ h n⟩
theorem tup_vis (w : WF H O) (h : Rd H a (.tup xs)) : ¬ O a := fun z => by
 obtain ⟨o, e, m⟩ := w a z
 rcases h with h | ⟨ob, h⟩
 ·rw [h] at e; cases e; exact m
 ·rw [h] at e; cases e; exact m
theorem sqT_keep (w : WF H O) (k : Keep H O H' O') (h : SqT K H a xs) : SqT K H' a xs := by
 rcases h with h | h
 ·exact .inl (rd_keep k (tup_vis w h) h)
 ·exact .inr h
theorem frz_vis {ob : Obj} {u : HO} (w : WF H O) (h : H a = some (.frz ob u)) : ¬ O a := fun z => by
 obtain ⟨o, e, m⟩ := w a z
 rw [h] at e; cases e; exact m
theorem vis_keep {o : HO} (k : Keep H O H' O') (n : ¬ O a) (h : H a = some o) (nt : NT o := by first | exact True.intro | assumption) : ¬ O' a ∧ H' a = some o := by
 refine ⟨fun z => ?_, k.vis _ _ h n⟩
 rcases k.new a z with q | q
 ·exact n q
 ·rw [h] at q; cases q
theorem lam_vis {c : Addr} {q : Str} {ps : Arguments} {bd : Expr} {sc : Scope} (w : WF H O) (h : H a = some (LamO a c q ps bd sc)) : ¬ O a := fun z => by
 obtain ⟨o, e, m⟩ := w a z
 rw [h] at e; cases e; exact lam_mut m
theorem codeo_vis {c : Addr} {q : Str} (w : WF H O) (h : H c = some (LamX.CodeO c q)) : ¬ O c := fun z => by
 obtain ⟨o, e, m⟩ := w c z
 rw [h] at e; cases e; exact codeo_mut m
theorem symRep.keep (w : WF H O) (k : Keep H O H' O') {s : Sym} (h : symRep H s x) : symRep H' s x := by
 cases s with
 | lm f =>
  obtain ⟨a, c, q, ps, bd, sc, e, rfl, h1, h2⟩ := h
  exact ⟨a, c, q, ps, bd, sc, e, rfl, k.vis _ _ h1 (lam_vis w h1), k.vis _ _ h2 (codeo_vis w h2)⟩
 | _ => exact h
mutual
theorem Rep.keep (w : WF H O) (k : Keep H O H' O') : ∀ {v : Val} {x : V}, Rep K H O v x → Rep K H' O' v x
 | .non, _, h => by simpa only [Rep] using h
 | .bl _, _, h => by simpa only [Rep] using h
 | .int _, _, h => by simpa only [Rep] using h
 | .str _, _, h => by simpa only [Rep] using h
 | .tup vs, _, h => by
  simp only [Rep] at h ⊢
  obtain ⟨a, xs, e, s, r⟩ := h
  exact ⟨a, xs, e, sqT_keep w k s, Reps.keep w k r⟩
 | .lst vs, _, h => by
  simp only [Rep] at h ⊢
  obtain ⟨a, xs, e, n, s, r⟩ := h
  obtain ⟨n', s'⟩ := vis_keep k n s
  exact ⟨a, xs, e, n', s', Reps.keep w k r⟩
 | .sym _, _, h => by
  simp only [Rep] at h ⊢
  exact symRep.keep w k h
 | .ins c ns vs, _, h => by
  simp only [Rep] at h ⊢
  obtain ⟨a, C, dx, kvs, e, n, hc, s, q, r⟩ := h
  obtain ⟨n', s'⟩ := vis_keep k n s
  exact ⟨a, C, dx, kvs, e, n', hc, s', q, Reps.keep w k r⟩
 | .scr ns, _, h => by
  simp only [Rep] at h ⊢
  obtain ⟨a, e, s⟩ := h
  refine ⟨a, e, ?_⟩
  rcases s with ⟨ob, s⟩ | s
  ·exact .inl ⟨ob, k.vis _ _ s (frz_vis w s)⟩
  ·exact .inr s
 | .dic false ks vs, _, h => by
  simp only [Rep] at h ⊢
  obtain ⟨a, kvs, e, n, s, q, nd, r⟩ := h
  rcases s with s | ⟨ob, s⟩
  ·obtain ⟨n', s'⟩ := vis_keep k n s
   exact ⟨a, kvs, e, n', .inl s', q, nd, Reps.keep w k r⟩
  ·obtain ⟨n', s'⟩ := vis_keep k n s
   exact ⟨a, kvs, e, n', .inr ⟨ob, s'⟩, q, nd, Reps.keep w k r⟩
 | .dic true ks vs, _, h => by
  simp only [Rep] at h ⊢
  obtain ⟨a, kvs, e, n, s, q, nd, g, r⟩ := h
  obtain ⟨n', s'⟩ := vis_keep k n s
  exact ⟨a, kvs, e, n', s', q, nd, Reps.keep w k g, Reps.keep w k r⟩
theorem Reps.keep (w : WF H O) (k : Keep H O H' O') : ∀ {vs : List Val} {xs : List V}, Reps K H O vs xs → Reps K H' O' vs xs
 | [], _, h => by simpa only [Reps] using h
 | v :: vs, _, h => by
  simp only [Reps] at h ⊢
  obtain ⟨x, r, e, p, q⟩ := h
  exact ⟨x, r, e, Rep.keep w k p, Reps.keep w k q⟩
end
mutual
theorem Rep.flat : ∀ {v : Val} {x : V}, flat v = true → Rep K H O v x → Rep K H O' v x
 | .non, _, _, h => by simpa only [Rep] using h
 | .bl _, _, _, h => by simpa only [Rep] using h
 | .int _, _, _, h => by simpa only [Rep] using h
 | .str _, _, _, h => by simpa only [Rep] using h
 | .tup vs, _, f, h => by
  simp only [Rep] at h ⊢
  obtain ⟨a, xs, e, s, r⟩ := h
  simp only [VM.flat] at f
  exact ⟨a, xs, e, s, Reps.flat f r⟩
 | .sym _, _, _, h => by simpa only [Rep] using h
 | .scr ns, _, _, h => by simpa only [Rep] using h
 | .lst vs, _, f, h => by simp [VM.flat] at f
 | .dic _ ks vs, _, f, h => by simp [VM.flat] at f
 | .ins _ _ _, _, f, h => by simp [VM.flat] at f
theorem Reps.flat : ∀ {vs : List Val} {xs : List V}, flats vs = true → Reps K H O vs xs → Reps K H O' vs xs
 | [], _, _, h => by simpa only [Reps] using h
 | v :: vs, _, f, h => by
  simp only [Reps] at h ⊢
  simp only [flats, Bool.and_eq_true] at f
  obtain ⟨x, r, e, p, q⟩ := h
  exact ⟨x, r, e, Rep.flat f.1 p, Reps.flat f.2 q⟩
end
theorem Reps.length : ∀ {vs : List Val} {xs : List V}, Reps K H O vs xs → xs.length = vs.length
 | [], _, h => by simp only [Reps] at h; subst h; rfl
 | v :: vs, _, h => by
  simp only [Reps] at h
  obtain ⟨x, r, rfl, _, q⟩ := h
  simp [Reps.length q]
theorem Reps.nil : Reps K H O [] [] := by simp only [Reps]
theorem Reps.cons (h : Rep K H O v x) (t : Reps K H O vs xs) : Reps K H O (v :: vs) (x :: xs) := by
 simp only [Reps]; exact ⟨x, xs, rfl, h, t⟩
theorem Reps.get : ∀ {vs : List Val} {xs : List V} {i : Nat} {v : Val}, Reps K H O vs xs → vs[i]? = some v → ∃ x, xs[i]? = some x ∧ Rep K H O v x
 | [], _, _, _, _, e => by simp at e
 | v :: vs, _, 0, u, h, e => by
  simp only [Reps] at h
  obtain ⟨x, r, rfl, p, _⟩ := h
  simp at e; subst e
  exact ⟨x, rfl, p⟩
 | v :: vs, _, i + 1, u, h, e => by
  simp only [Reps] at h
  obtain ⟨x, r, rfl, _, q⟩ := h
  obtain ⟨y, e1, e2⟩ := Reps.get q (by simpa using e)
  exact ⟨y, by simpa using e1, e2⟩
theorem Reps.append : ∀ {vs ws : List Val} {xs ys : List V}, Reps K H O vs xs → Reps K H O ws ys → Reps K H O (vs ++ ws) (xs ++ ys)
 | [], _, _, _, h, g => by simp only [Reps] at h; subst h; exact g
 | v :: vs, ws, _, ys, h, g => by
  simp only [Reps] at h
  obtain ⟨x, r, rfl, p, q⟩ := h
  exact Reps.cons p (Reps.append q g)
theorem Reps.set : ∀ {vs : List Val} {xs : List V} (i : Nat), Reps K H O vs xs → Rep K H O v x → Reps K H O (vs.set i v) (xs.set i x)
 | [], _, _, h, _ => by simp only [Reps] at h; subst h; exact Reps.nil
 | u :: vs, _, 0, h, g => by
  simp only [Reps] at h
  obtain ⟨y, r, rfl, p, q⟩ := h
  exact Reps.cons g q
 | u :: vs, _, i + 1, h, g => by
  simp only [Reps] at h
  obtain ⟨y, r, rfl, p, q⟩ := h
  exact Reps.cons p (Reps.set i q g)
theorem Reps.take : ∀ {vs : List Val} {xs : List V} (i : Nat), Reps K H O vs xs → Reps K H O (vs.take i) (xs.take i)
 | _, _, 0, _ => by simp [Reps]
 | [], _, i + 1, h => by simp only [Reps] at h; subst h; exact Reps.nil
 | u :: vs, _, i + 1, h => by
  simp only [Reps] at h
  obtain ⟨y, r, rfl, p, q⟩ := h
  exact Reps.cons p (Reps.take i q)
theorem Reps.drop : ∀ {vs : List Val} {xs : List V} (i : Nat), Reps K H O vs xs → Reps K H O (vs.drop i) (xs.drop i)
 | _, _, 0, h => h
 | [], _, i + 1, h => by simp only [Reps] at h; subst h; exact Reps.nil
 | u :: vs, _, i + 1, h => by
  simp only [Reps] at h
  obtain ⟨y, r, rfl, p, q⟩ := h
  exact Reps.drop i q
theorem Reps.rev (h : Reps K H O vs xs) : Reps K H O vs.reverse xs.reverse := by
 induction vs generalizing xs with
 | nil => simp only [Reps] at h; subst h; exact Reps.nil
 | cons v vs ih =>
  simp only [Reps] at h
  obtain ⟨x, r, rfl, p, q⟩ := h
  rw [List.reverse_cons, List.reverse_cons]
  exact Reps.append (ih q) (Reps.cons p Reps.nil)
theorem Reps.ints (ns : List Int) : Reps K H O (ns.map Val.int) (ns.map V.int) := by
 induction ns with
 | nil => exact Reps.nil
 | cons n ns ih => exact Reps.cons (by simp only [Rep]) ih
theorem Reps.of_ints : ∀ {ns : List Int} {xs : List V}, Reps K H O (ns.map Val.int) xs → xs = ns.map V.int
 | [], _, h => by simpa only [List.map_nil, Reps] using h
 | n :: ns, _, h => by
  simp only [List.map_cons, Reps, Rep] at h
  obtain ⟨x, r, rfl, rfl, q⟩ := h
  rw [Reps.of_ints q]; rfl
theorem Reps.of_bls : ∀ {ns : List Bool} {xs : List V}, Reps K H O (ns.map Val.bl) xs → xs = ns.map V.bl
 | [], _, h => by simpa only [List.map_nil, Reps] using h
 | n :: ns, _, h => by
  simp only [List.map_cons, Reps, Rep] at h
  obtain ⟨x, r, rfl, rfl, q⟩ := h
  rw [Reps.of_bls q]; rfl
end
mutual
def py : Val → PyData
 | .non => .none
 | .bl b => .bool b
 | .int i => .int i
 | .str s => .str s
 | .tup vs => .tuple (pys vs)
 | .lst vs => .list (pys vs)
 | .dic _ _ _ => .dict []
 | .scr _ => .dict []
 | .sym _ => .dict []
 | .ins _ _ _ => .dict []
def pys : List Val → List PyData
 | [] => []
 | v :: vs => py v :: pys vs
end
def okD : Nat → Val → Bool
 | 0, _ => false
 | n + 1, .tup vs => vs.all (okD n)
 | n + 1, .lst vs => vs.all (okD n)
 | _ + 1, .dic _ _ _ => false
 | _ + 1, .scr _ => false
 | _ + 1, .sym _ => false
 | _ + 1, .ins _ _ _ => false
 | _ + 1, .str s => PyData.strOk s
 | _ + 1, _ => true
def intEq : Int → Int → Bool
 | .ofNat a, .ofNat b => Nat.beq a b
 | .negSucc a, .negSucc b => Nat.beq a b
 | _, _ => false
theorem intEq_eq (a b : Int) : intEq a b = (a == b) := by
 cases a <;> cases b <;> simp [intEq, Bool.beq_eq_decide_eq] <;> exact Bool.eq_iff_iff.mpr (by simp <;> omega)
def nlEq : List Nat → List Nat → Bool
 | [], [] => true
 | x :: a, y :: b => Nat.beq x y && nlEq a b
 | _, _ => false
theorem nlEq_eq : ∀ a b : List Nat, nlEq a b = decide (a = b)
 | [], [] => by simp [nlEq]
 | [], _ :: _ => by simp [nlEq]
 | _ :: _, [] => by simp [nlEq]
 | x :: a, y :: b => by
  simp only [nlEq, nlEq_eq a b]
  rw [Bool.eq_iff_iff]
  simp
def strEq (a b : Str) : Bool := nlEq a.cps.toList b.cps.toList
theorem strEq_eq (a b : Str) : strEq a b = (a == b) := by
 unfold strEq
 rw [nlEq_eq, Bool.eq_iff_iff]
 cases a with | mk a => cases b with | mk b => simp [Array.toList_inj]
def keqs (f : Val → Val → Bool) : List Val → List Val → Bool
 | [], [] => true
 | x :: xs, y :: ys => f x y && keqs f xs ys
 | _, _ => false
def keq : Nat → Val → Val → Bool
 | 0, a, b => PyData.eqv (py a) (py b)
 | n + 1, a, b => match a with
  | .int i => match b with
   | .int j => intEq i j
   | b => PyData.eqv (py a) (py b)
  | .str s => match b with
   | .str t => strEq s t
   | b => PyData.eqv (py a) (py b)
  | .tup xs => match b with
   | .tup ys => keqs (keq n) xs ys
   | b => PyData.eqv (py a) (py b)
  | .lst xs => match b with
   | .lst ys => keqs (keq n) xs ys
   | b => PyData.eqv (py a) (py b)
  | a => PyData.eqv (py a) (py b)
theorem keqs_eq {f : Val → Val → Bool} (h : ∀ a b, f a b = PyData.eqv (py a) (py b)) : ∀ xs ys, keqs f xs ys = PyData.eqvAll (pys xs) (pys ys)
 | [], [] => rfl
 | [], _ :: _ => rfl
 | _ :: _, [] => rfl
 | x :: xs, y :: ys => by simp only [keqs, pys, PyData.eqvAll, h, keqs_eq h xs ys]
theorem keq_eq : ∀ n a b, keq n a b = PyData.eqv (py a) (py b)
 | 0, _, _ => rfl
 | n + 1, a, b => by
  unfold keq
  cases a <;> cases b <;> simp only [py, PyData.eqv, intEq_eq, strEq_eq, keqs_eq (keq_eq n)]
def veq (v w : Val) : Bool := keq 61 v w
theorem veq_def (v w : Val) : veq v w = PyData.eqv (py v) (py w) := keq_eq 61 v w
def okS : Nat → Val → Bool
 | 0, _ => false
 | n + 1, .tup vs => vs.all (okS n)
 | n + 1, .lst vs => vs.all (okS n)
 | _ + 1, .dic _ _ _ => false
 | _ + 1, .scr _ => false
 | _ + 1, .ins _ _ _ => false
 | n + 1, .sym (.sh _ _ _) => decide (1 ≤ n)
 | _ + 1, .sym (.ip _ _) => true
 | n + 1, .sym (.op k) => decide (50 ≤ n + 1) && decide (1000 ≤ k)
 | _ + 1, .sym (.fn _) => false
 | _ + 1, .sym (.lm _) => false
 | _ + 1, .str s => PyData.strOk s
 | _ + 1, _ => true
def eqAll (f : Val → Val → Option Bool) : List Val → List Val → Option Bool
 | [], [] => some true
 | [], _ :: _ => some false
 | _ :: _, [] => some false
 | x :: xs, y :: ys => match f x y with
  | some true => eqAll f xs ys
  | o => o
def cstEq (p : Poly) (t u : Int) : Option Bool := if decide (0 < u) && decide (Int.gcd t u = 1) && psame (ptm ([], u) p) (pcst t) then some true else none
def eqSy : Nat → Val → Val → Option Bool
 | 0, _, _ => none
 | n + 1, a, b => match a, b with
  | .sym (.sh _ _ p), .sym (.sh _ _ q) => if psame p q then some true else none
  | .sym (.sh _ _ p), .tup [.int t, .int u] => cstEq p t u
  | .tup [.int t, .int u], .sym (.sh _ _ p) => cstEq p t u
  | .sym (.ip _ p), .sym (.ip _ q) => if psame p q then some true else none
  | .sym (.ip _ p), .int t => if psame p (pcst t) then some true else none
  | .int t, .sym (.ip _ p) => if psame p (pcst t) then some true else none
  | .tup xs, .tup ys => eqAll (eqSy n) xs ys
  | .lst xs, .lst ys => eqAll (eqSy n) xs ys
  | .sym (.op i), .sym (.op j) => if decide (i = j) && decide (1000 ≤ i) then some true else none
  | a, b => if okD 1 a && okD 1 b then some (veq a b) else none
mutual
theorem flat_key : ∀ k : NestedKey, flat (valOf k) = true
 | .none => rfl
 | .num _ => rfl
 | .text _ => rfl
 | .tup ks => by rw [valOf, flat]; exact flats_keys ks
theorem flats_keys : ∀ ks : List NestedKey, flats (valsOf ks) = true
 | [] => rfl
 | k :: ks => by rw [valsOf, flats, flat_key k, flats_keys ks]; rfl
end
theorem flats_key {α : Type} : ∀ kvs : List (NestedKey × α), flats (kvs.map fun p => valOf p.1) = true
 | [] => rfl
 | p :: r => by rw [List.map_cons, flats, flat_key, flats_key r]; rfl
mutual
theorem py_key : ∀ k : NestedKey, py (valOf k) = k.data
 | .none => rfl
 | .num _ => rfl
 | .text _ => rfl
 | .tup ks => by rw [valOf, py, NestedKey.data, pys_keys ks]
theorem pys_keys : ∀ ks : List NestedKey, pys (valsOf ks) = NestedKey.datas ks
 | [] => rfl
 | k :: ks => by rw [valsOf, pys, NestedKey.datas, py_key k, pys_keys ks]
end
mutual
theorem eqv_key : ∀ a b : NestedKey, PyData.eqv a.data b.data = NestedKey.beq a b
 | .none, b => by cases b <;> simp [NestedKey.data, NestedKey.beq, PyData.eqv]
 | .num i, b => by cases b <;> simp [NestedKey.data, NestedKey.beq, PyData.eqv, Bool.beq_eq_decide_eq]
 | .text s, b => by cases b <;> simp [NestedKey.data, NestedKey.beq, PyData.eqv, Bool.beq_eq_decide_eq]
 | .tup ks, b => by
  cases b with
  | tup ls => rw [NestedKey.data, NestedKey.data, PyData.eqv, NestedKey.beq]; exact eqv_keys ks ls
  | _ => simp [NestedKey.data, NestedKey.beq, PyData.eqv]
theorem eqv_keys : ∀ a b : List NestedKey, PyData.eqvAll (NestedKey.datas a) (NestedKey.datas b) = NestedKey.beqAll a b
 | [], [] => rfl
 | [], _ :: _ => rfl
 | _ :: _, [] => rfl
 | x :: a, y :: b => by rw [NestedKey.datas, NestedKey.datas, PyData.eqvAll, NestedKey.beqAll, eqv_key x y, eqv_keys a b]
end
theorem veq_N (a k : NestedKey) : veq (valOf a) (valOf k) = decide (a = k) := by
 rw [veq_def, py_key, py_key, eqv_key, NestedKey.decide_eq]
variable [Tbl]
theorem Rep.scr_sq {K : PySem.W.Frag} {H : Hp} {O : Hid} {ns : List Int} {x : V} (h : Rep K H O (.scr ns) x) : ∃ a, x = .ref a ∧ SqL K H a (ns.map V.int) := by
 simp only [Rep] at h
 obtain ⟨a, e, s⟩ := h
 refine ⟨a, e, ?_⟩
 rcases s with ⟨ob, s⟩ | s
 ·exact .inl (.inr ⟨ob, s⟩)
 ·exact .inr s
section
variable {K : PySem.W.Frag} {H : Hp} {O : Hid}
mutual
theorem Rep.okS : ∀ (n : Nat) {v : Val} {x : V}, VM.okS n v = true → Rep K H O v x → okD n v = true
 | 0, v, _, f, _ => by simp [VM.okS] at f
 | n + 1, .non, _, f, _ => rfl
 | n + 1, .bl b, _, f, _ => rfl
 | n + 1, .int b, _, f, _ => rfl
 | n + 1, .str b, _, f, _ => by simpa [VM.okS, okD] using f
 | n + 1, .tup vs, _, f, h => by
  simp only [Rep] at h
  obtain ⟨a, xs, _, _, r⟩ := h
  exact Reps.okS n (by simpa only [VM.okS] using f) r
 | n + 1, .lst vs, _, f, h => by
  simp only [Rep] at h
  obtain ⟨a, xs, _, _, _, r⟩ := h
  exact Reps.okS n (by simpa only [VM.okS] using f) r
 | n + 1, .dic _ _ _, _, f, _ => by simp [VM.okS] at f
 | n + 1, .scr _, _, f, _ => by simp [VM.okS] at f
 | n + 1, .sym s, _, f, h => by cases s <;> first | (simp only [Rep, symRep] at h; done) | (simp [VM.okS] at f)
 | n + 1, .ins _ _ _, _, f, _ => by simp [VM.okS] at f
theorem Reps.okS : ∀ (n : Nat) {vs : List Val} {xs : List V}, vs.all (VM.okS n) = true → Reps K H O vs xs → vs.all (okD n) = true
 | _, [], _, _, _ => rfl
 | n, v :: vs, _, f, h => by
  simp only [Reps] at h
  obtain ⟨x, r, _, p, q⟩ := h
  simp only [List.all_cons, Bool.and_eq_true] at f ⊢
  exact ⟨Rep.okS n f.1 p, Reps.okS n f.2 q⟩
end
mutual
theorem Rep.dp : ∀ (n : Nat) {v : Val} {x : V}, okD n v = true → Rep K H O v x → Dp K H x (py v)
 | 0, v, _, f, _ => by simp [okD] at f
 | n + 1, .non, _, _, h => by simp only [Rep] at h; subst h; exact .non
 | n + 1, .bl b, _, _, h => by simp only [Rep] at h; subst h; exact .bl b
 | n + 1, .int b, _, _, h => by simp only [Rep] at h; subst h; exact .int b
 | n + 1, .str b, _, _, h => by simp only [Rep] at h; subst h; exact .str b
 | n + 1, .tup vs, _, f, h => by
  simp only [Rep] at h
  obtain ⟨a, xs, rfl, s, r⟩ := h
  simp only [okD] at f
  exact .tup s (Reps.dp n f r)
 | n + 1, .lst vs, _, f, h => by
  simp only [Rep] at h
  obtain ⟨a, xs, rfl, _, s, r⟩ := h
  simp only [okD] at f
  exact .lst (SqL.of s) (Reps.dp n f r)
 | n + 1, .dic _ _ _, _, f, _ => by simp [okD] at f
 | n + 1, .scr _, _, f, _ => by simp [okD] at f
 | n + 1, .sym _, _, f, _ => by simp [okD] at f
 | n + 1, .ins _ _ _, _, f, _ => by simp [okD] at f
theorem Reps.dp : ∀ (n : Nat) {vs : List Val} {xs : List V}, vs.all (okD n) = true → Reps K H O vs xs → DpAll K H xs (pys vs)
 | _, [], _, _, h => by simp only [Reps] at h; subst h; exact .nil
 | n, v :: vs, _, f, h => by
  simp only [Reps] at h
  obtain ⟨x, r, rfl, p, q⟩ := h
  simp only [List.all_cons, Bool.and_eq_true] at f
  exact .cons (Rep.dp n f.1 p) (Reps.dp n f.2 q)
end
mutual
theorem okD_lay : ∀ (n : Nat) {v : Val}, okD n v = true → (py v).canLay0 = true ∧ (py v).depth ≤ n
 | 0, v, f => by simp [okD] at f
 | n + 1, .non, _ => by simp [py, PyData.canLay0, PyData.depth]
 | n + 1, .bl b, _ => by simp [py, PyData.canLay0, PyData.depth]
 | n + 1, .int b, _ => by simp [py, PyData.canLay0, PyData.depth]
 | n + 1, .str b, f => by simp only [okD] at f; simp [py, PyData.canLay0, PyData.depth, f]
 | n + 1, .tup vs, f => by
  simp only [okD] at f
  obtain ⟨h1, h2⟩ := okD_lays n f
  simp only [py, PyData.canLay0, PyData.depth]
  exact ⟨h1, by omega⟩
 | n + 1, .lst vs, f => by
  simp only [okD] at f
  obtain ⟨h1, h2⟩ := okD_lays n f
  simp only [py, PyData.canLay0, PyData.depth]
  exact ⟨h1, by omega⟩
 | n + 1, .dic _ _ _, f => by simp [okD] at f
 | n + 1, .scr _, f => by simp [okD] at f
 | n + 1, .sym _, f => by simp [okD] at f
 | n + 1, .ins _ _ _, f => by simp [okD] at f
theorem okD_lays : ∀ (n : Nat) {vs : List Val}, vs.all (okD n) = true → PyData.canLayAll0 (pys vs) = true ∧ PyData.depthAll (pys vs) ≤ n
 | _, [], _ => by simp [pys, PyData.canLayAll0, PyData.depthAll]
 | n, v :: vs, f => by
  simp only [List.all_cons, Bool.and_eq_true] at f
  obtain ⟨h1, h2⟩ := okD_lay n f.1
  obtain ⟨h3, h4⟩ := okD_lays n f.2
  simp only [pys, PyData.canLayAll0, PyData.depthAll, h1, h3]
  exact ⟨rfl, by omega⟩
end
theorem okD_shaped {v : Val} (f : okD 60 v = true) : SeqAt.shaped (py v) = true := by
 obtain ⟨h1, h2⟩ := okD_lay 60 f
 unfold SeqAt.shaped
 rw [h1, Bool.true_and]
 exact decide_eq_true (by omega)
end
end VM
namespace VM
open PySem
inductive Err where
 | stuck
 | exc (c : Nat)
 deriving DecidableEq
abbrev R (α : Type) := Except Err α
abbrev stk {α : Type} : R α := .error .stuck
inductive Op2 where
 | add | sub | mul | fdiv | mod | pow | shl | shr | band
 | eq | ne | lt | le | gt | ge | inn | nin | is | isn
 deriving DecidableEq
inductive Bi where
 | len | abs | sum | all | any | max2 | min2 | max1 | min1 | maxd | sorted | sortL | list | tuple | int | lenS | sortS
 deriving DecidableEq
inductive Ty where
 | int | bool | tuple | list | str
 deriving DecidableEq
mutual
inductive Tg where
 | nm (i : Nat)
 | tp (ts : Tgs)
inductive Tgs where
 | nil
 | cons (t : Tg) (r : Tgs)
end
mutual
inductive SE where
 | var (i : Nat)
 | cint (n : Int)
 | cbl (b : Bool)
 | cnon
 | cstr (s : String)
 | glob (g : Nat)
 | op (o : Op2) (a b : SE)
 | neg (a : SE)
 | not1 (a : SE)
 | bop (an : Bool) (es : SEs)
 | chain (o o' : Op2) (a b c : SE)
 | ite (c a b : SE)
 | tup (es : SEs)
 | lst (es : SEs)
 | ix (a b : SE)
 | sl (a : SE) (lo hi : SO)
 | rev (a : SE)
 | call (f : Nat) (es : SEs)
 | bi (b : Bi) (es : SEs)
 | isi (a : SE) (t : Ty)
 | comp (own : List Nat) (tg : Tg) (it : SI) (c : SO) (el : SE)
 | lrng (es : SEs)
 | dget (d k : SE)
 | dgetd (d k e : SE)
 | cnt (a b : SE)
 | mxd (a b : SE)
 | mk (c : Nat) (ns : List String) (es : SEs)
 | make (f : Nat) (es : SEs)
 | fld (a : SE) (f : String)
 | isc (a : SE) (c : Nat)
 | dsp (k : String) (a : SE)
 | mth (m : String) (ids : List (Nat × Nat)) (a : SE) (es : SEs)
inductive SEs where
 | nil
 | cons (e : SE) (r : SEs)
inductive SO where
 | none
 | some (e : SE)
inductive SI where
 | seq (e : SE)
 | rng1 (a : SE)
 | rng2 (a b : SE)
 | rng3 (a b c : SE)
 | enum (e : SE)
 | zip (a b : SE)
 | keys (e : SE)
end
mutual
inductive SS where
 | asg (m : List Nat) (tg : Tg) (e : SE)
 | par (m : List Nat) (i j : Nat) (a b : SE)
 | parO (m : List Nat) (i j : Nat) (a b : SE)
 | own (m : List Nat) (i : Nat) (e : SE)
 | ownd (i : Nat) (t : Bool)
 | app (m : List Nat) (i : Nat) (e : SE)
 | ext (m : List Nat) (i : Nat) (e : SE)
 | seti (m : List Nat) (i : Nat) (k e : SE)
 | dput (m : List Nat) (i : Nat) (k e : SE)
 | iff (m : List Nat) (c : SE) (a b : SB)
 | loop (m : List Nat) (tg : Tg) (it : SI) (b : SB)
 | whl (m : List Nat) (μ : SE) (c : SE) (b : SB)
 | ret (m : List Nat) (e : SE)
 | retv (i : Nat)
 | expr (m : List Nat) (e : SE)
 | raise (c : Nat)
inductive SB where
 | nil
 | cons (s : SS) (r : SB)
end
abbrev VE := List (Option Val)
def lineN : Nat := 16777216
def tru (v : Val) : R Bool := match v with
 | .bl b => .ok b
 | _ => stk
def asInt (v : Val) : R Int := match v with
 | .int i => .ok i
 | _ => stk
def asInts : List Val → R (List Int)
 | [] => .ok []
 | .int i :: r => do let s ← asInts r; .ok (i :: s)
 | _ :: _ => stk
def asBls : List Val → R (List Bool)
 | [] => .ok []
 | .bl i :: r => do let s ← asBls r; .ok (i :: s)
 | _ :: _ => stk
def mulOk (a b : Int) : Bool := decide (a.natAbs.log2 + b.natAbs.log2 < 100000000)
def divOk (b : Int) : Bool := decide (b ≠ 0 ∧ b.natAbs.log2 < 9000)
def powOk (a b : Int) : Bool := decide (0 ≤ b ∧ b ≤ 1000000 ∧ a.natAbs < 2 ^ 64)
def cmpI (o : Op2) (a b : Int) : R Val := match o with
 | .lt => .ok (.bl (decide (a < b)))
 | .le => .ok (.bl (decide (a ≤ b)))
 | .gt => .ok (.bl (decide (b < a)))
 | .ge => .ok (.bl (decide (b ≤ a)))
 | _ => stk
def isVal (a b : Val) : R Bool := match b with
 | .bl y => match a with
  | .bl x => .ok (x == y)
  | _ => stk
 | .non => match a with
  | .non => .ok true
  | _ => .ok false
 | _ => stk
def lookD (ks vs : List Val) (k : Val) : Option Val := match ks, vs with
 | x :: ks, y :: vs => if veq x k then some y else lookD ks vs k
 | _, _ => none
def putD (ks vs : List Val) (k v : Val) : List Val × List Val := match ks, vs with
 | x :: ks, y :: vs => if veq x k then (x :: ks, v :: vs) else ((x :: (putD ks vs k v).1), (y :: (putD ks vs k v).2))
 | _, _ => ([k], [v])
def keyN : Nat → Val → Bool
 | _, .int _ => true
 | _, .str _ => true
 | n + 1, .tup vs => vs.all (keyN n)
 | _, _ => false
def keyOk : Bool → Val → Bool
 | false, .int _ => true
 | false, .str _ => true
 | true, .tup vs => keyN 8 (.tup vs)
 | _, _ => false
def scal : Val → Bool
 | .non => true
 | .bl _ => true
 | .int _ => true
 | .str _ => true
 | _ => false
def inVal (x : Val) (c : Val) : R Bool := match c with
 | .lst vs => if okD 60 x && okD 60 c then .ok (vs.any fun y => veq y x) else stk
 | .tup vs => if scal x && vs.all scal then .ok (vs.any fun y => veq y x) else stk
 | .dic t ks vs => if keyOk t x then .ok (lookD ks vs x).isSome else stk
 | _ => stk
def ltL : List Int → List Int → Bool
 | [], [] => false
 | [], _ :: _ => true
 | _ :: _, [] => false
 | x :: xs, y :: ys => if x = y then ltL xs ys else decide (x < y)
def isSym : Val → Bool
 | .sym (.fn _) => false
 | .sym (.lm _) => false
 | .sym _ => true
 | _ => false
def rdI : Val → Option (Nat × Poly)
 | .int i => some (i.natAbs.log2, pcst i)
 | .sym (.ip A p) => some (A, p)
 | _ => none
def ipOp (aa : Nat → Nat → Nat) (g : Poly → Poly → Poly) (a b : Val) : R Val := if isSym a || isSym b then match rdI a with
 | some (A, p) => match rdI b with
  | some (B, q) => if Nat.ble A 100000 && Nat.ble B 100000 then .ok (.sym (.ip (aa A B) (g p q))) else stk
  | none => stk
 | none => stk
 else stk
def op2 (o : Op2) (a b : Val) : R Val := match o with
 | .add => match a, b with
  | .int x, .int y => .ok (.int (x + y))
  | .lst x, .lst y => if x.length + y.length ≤ lineN then .ok (.lst (x ++ y)) else stk
  | a, b => ipOp (fun A B => max A B + 1) pad a b
 | .sub => match a, b with
  | .int x, .int y => .ok (.int (x - y))
  | a, b => ipOp (fun A B => max A B + 1) psb a b
 | .mul => match a, b with
  | .int x, .int y => if mulOk x y then .ok (.int (x * y)) else stk
  | .lst x, .int k => if decide (-(2 ^ 63) ≤ k ∧ k < 2 ^ 63 ∧ x.length * k.toNat ≤ lineN) then .ok (.lst (List.replicate k.toNat x).flatten) else stk
  | a, b => ipOp (fun A B => A + B + 1) pml a b
 | .fdiv => match a, b with
  | .int x, .int y => if divOk y then .ok (.int (x.fdiv y)) else stk
  | _, _ => stk
 | .mod => match a, b with
  | .int x, .int y => if y = 0 then stk else .ok (.int (x.fmod y))
  | _, _ => stk
 | .pow => match a, b with
  | .int x, .int y => if powOk x y then .ok (.int (x ^ y.toNat)) else stk
  | _, _ => stk
 | .shl => match a, b with
  | .int x, .int y => if powOk x y then .ok (.int (x * 2 ^ y.toNat)) else stk
  | _, _ => stk
 | .shr => match a, b with
  | .int x, .int y => if 0 ≤ y then .ok (.int (x / 2 ^ y.toNat)) else stk
  | _, _ => stk
 | .band => match a, b with
  | .int x, .int y => .ok (.int (Builtin.bitAnd x y))
  | _, _ => stk
 | .eq => if okD 60 a && okD 60 b then .ok (.bl (veq a b)) else if okS 60 a && okS 60 b then (match eqSy 60 a b with | some r => .ok (.bl r) | none => stk) else stk
 | .ne => if okD 60 a && okD 60 b then .ok (.bl (!veq a b)) else if okS 60 a && okS 60 b then (match eqSy 60 a b with | some r => .ok (.bl (!r)) | none => stk) else stk
 | .inn => do let r ← inVal a b; .ok (.bl r)
 | .nin => do let r ← inVal a b; .ok (.bl (!r))
 | .is => do let r ← isVal a b; .ok (.bl r)
 | .isn => do let r ← isVal a b; .ok (.bl (!r))
 | .ge => match a, b with
  | .int x, .int y => cmpI .ge x y
  | .lst xs, .lst ys => do let ns ← asInts xs; let ms ← asInts ys; .ok (.bl (!ltL ns ms))
  | _, _ => stk
 | o => match a, b with
  | .int x, .int y => cmpI o x y
  | _, _ => stk
def ofO {α : Type} : Option α → R α
 | some v => .ok v
 | none => stk
def ixV (a b : Val) : R Val := match a, b with
 | .lst vs, .int i => ofO (L2.atI vs i)
 | .tup vs, .int i => ofO (L2.atI vs i)
 | .scr ns, .int i => do let n ← ofO (L2.atI ns i); .ok (.int n)
 | .dic t ks vs, k => if keyOk t k then ofO (lookD ks vs k) else stk
 | _, _ => stk
def cutL (xs : List Val) (lo hi : Option Int) : List Val :=
 (xs.drop (HT.sIx xs.length 0 lo)).take (HT.sIx xs.length xs.length hi - HT.sIx xs.length 0 lo)
def insI (x : Int) : List Int → List Int
 | [] => [x]
 | y :: r => if x ≤ y then x :: y :: r else y :: insI x r
def sortI : List Int → List Int
 | [] => []
 | x :: r => insI x (sortI r)
def maxI : List Int → R Int
 | [] => stk
 | x :: r => .ok (r.foldl (fun a b => if a < b then b else a) x)
def minI : List Int → R Int
 | [] => stk
 | x :: r => .ok (r.foldl (fun a b => if b < a then b else a) x)
def dedI (ns : List Int) : List Int := ns.foldl (fun ls a => if a ∈ ls then ls else ls ++ [a]) []
def asLLs : List Val → R (List (List Int))
 | [] => .ok []
 | .lst us :: vs => do let l ← asInts us; let ls ← asLLs vs; .ok (l :: ls)
 | _ => stk
def insL (x : List Int) : List (List Int) → List (List Int)
 | [] => [x]
 | y :: r => if ltL y x then y :: insL x r else x :: y :: r
def sortLL : List (List Int) → List (List Int)
 | [] => []
 | x :: r => insL x (sortLL r)
def sumS : List Val → R Val
 | [] => .ok (.sym (.ip 0 (pcst 0)))
 | v :: vs => sumS vs >>= fun w => ipOp (fun A B => max A B + 1) pad v w
def bi1 (b : Bi) (vs : List Val) : R Val := match b, vs with
 | .len, [.lst xs] => .ok (.int xs.length)
 | .len, [.scr ns] => .ok (.int ns.length)
 | .len, [.tup xs] => .ok (.int xs.length)
 | .len, [.dic false ks _] => .ok (.int ks.length)
 | .abs, [.int i] => .ok (.int (if i < 0 then -i else i))
 | .sum, [.lst xs] => if xs.any isSym then sumS xs else do let ns ← asInts xs; .ok (.int ns.sum)
 | .all, [.lst xs] => do let ns ← asBls xs; .ok (.bl (ns.all id))
 | .any, [.lst xs] => do let ns ← asBls xs; .ok (.bl (ns.any id))
 | .max2, [.int i, .int j] => .ok (.int (if j > i then j else i))
 | .min2, [.int i, .int j] => .ok (.int (if j < i then j else i))
 | .max1, [.lst xs] => do let ns ← asInts xs; let m ← maxI ns; .ok (.int m)
 | .max1, [.tup xs] => do let ns ← asInts xs; let m ← maxI ns; .ok (.int m)
 | .min1, [.lst xs] => do let ns ← asInts xs; let m ← minI ns; .ok (.int m)
 | .maxd, [.lst xs, .int d] => do let ns ← asInts xs; if ns = [] then .ok (.int d) else do let m ← maxI ns; .ok (.int m)
 | .sorted, [.lst xs] => do let ns ← asInts xs; .ok (.lst ((sortI ns).map Val.int))
 | .sorted, [.dic false ks _] => do let ns ← asInts ks; if ns.length < 64 then .ok (.lst ((sortI ns).map Val.int)) else stk
 | .sortL, [.lst xs] => do let ls ← asLLs xs; .ok (.lst ((sortLL ls).map fun l => .lst (l.map Val.int)))
 | .lenS, [.lst xs] => do let ns ← asInts xs; if ns.length < 60 then .ok (.int (dedI ns).length) else stk
 | .sortS, [.lst xs] => do let ns ← asInts xs; if ns.length < 60 then .ok (.lst ((sortI (dedI ns)).map Val.int)) else stk
 | .list, [.lst xs] => .ok (.lst xs)
 | .list, [.tup xs] => .ok (.lst xs)
 | .tuple, [.lst xs] => .ok (.tup xs)
 | .tuple, [.tup xs] => .ok (.tup xs)
 | .int, [.int i] => .ok (.int i)
 | .int, [.bl k] => .ok (.int (if k then 1 else 0))
 | _, _ => stk
def isiV (v : Val) (t : Ty) : R Bool := match v, t with
 | .int _, .int => .ok true
 | .bl _, .int => .ok true
 | .bl _, .bool => .ok true
 | .tup _, .tuple => .ok true
 | .lst _, .list => .ok true
 | .str _, .str => .ok true
 | .dic false _ _, _ => .ok false
 | .dic true _ _, _ => stk
 | .scr _, _ => stk
 | .ins _ _ _, _ => stk
 | .sym (.ip _ _), .int => .ok true
 | .sym (.ip _ _), _ => .ok false
 | .sym _, _ => stk
 | .non, _ => .ok false
 | .int _, _ => .ok false
 | .bl _, _ => .ok false
 | .tup _, _ => .ok false
 | .lst _, _ => .ok false
 | .str _, _ => .ok false
def rngC (lo c : Int) (n : Nat) : List Val := (List.range n).map fun (i : Nat) => Val.int (lo + (i : Int) * c)
def smallR (i j : Int) : Bool := decide (-(2 ^ 60) ≤ i ∧ i < 2 ^ 60 ∧ -(2 ^ 60) ≤ j ∧ j < 2 ^ 60)
def rngN (i j c : Int) : Nat := ((j - i + (c - 1)) / c).toNat
def zipV : List Val → List Val → List Val
 | a :: as, b :: bs => .tup [a, b] :: zipV as bs
 | _, _ => []
def enumV : Nat → List Val → List Val
 | _, [] => []
 | n, v :: r => .tup [.int n, v] :: enumV (n + 1) r
def slV (x : Val) (l h : Option Int) : R Val := match x with
 | .lst vs => .ok (.lst (cutL vs l h))
 | .scr ns => .ok (.lst (cutL (ns.map Val.int) l h))
 | _ => stk
def revV (x : Val) : R Val := match x with
 | .lst vs => .ok (.lst vs.reverse)
 | _ => stk
def lrngV (vs : List Val) : R Val := match vs with
 | [.int j] => if smallR 0 j && decide (j.toNat ≤ lineN) then .ok (.lst (rngC 0 1 j.toNat)) else stk
 | [.int i, .int j] => if smallR i j && decide ((j - i).toNat ≤ lineN) then .ok (.lst (rngC i 1 (j - i).toNat)) else stk
 | _ => stk
def dgetdV (x y z : Val) : R Val := match x with
 | .dic t ks vs => if keyOk t y then .ok ((lookD ks vs y).getD z) else stk
 | _ => stk
def cntV (x y : Val) : R Val := match x, y with
 | .lst vs, .int k => do let ns ← asInts vs; .ok (.int (ns.count k))
 | _, _ => stk
def idxV (x y : Val) : R Val := match x, y with
 | .lst vs, .int k => do let ns ← asInts vs; if k ∈ ns then .ok (.int (ns.idxOf k : Nat)) else stk
 | _, _ => stk
def seqV (x : Val) : R (List Val) := match x with
 | .lst vs => .ok vs
 | .tup vs => .ok vs
 | _ => stk
def enmV (x : Val) : R (List Val) := match x with
 | .lst vs => .ok (enumV 0 vs)
 | _ => stk
def zpV (x y : Val) : R (List Val) := match x, y with
 | .lst vs, .lst ws => .ok (zipV vs ws)
 | _, _ => stk
def keysV (x : Val) : R (List Val) := match x with
 | .dic false ks _ => .ok ks
 | _ => stk
def lookF : List Str → List Val → Str → Option Val
 | x :: ns, v :: vs, f => if strEq x f then some v else lookF ns vs f
 | _, _, _ => none
def fldV (x : Val) (f : Str) : R Val := match x with
 | .ins _ ns vs => ofO (lookF ns vs f)
 | _ => stk
def subC (c d : Nat) : Bool := Nat.beq d 0 || Nat.beq c d
def iscV (x : Val) (d : Nat) : R Bool := match x with
 | .ins c _ _ => .ok (subC c d)
 | _ => stk
def lookCl : List (Nat × Nat) → Nat → Option Nat
 | [], _ => none
 | p :: l, c => if Nat.beq p.1 c then some p.2 else lookCl l c
def mthV (m : Str) (ids : List (Nat × Nat)) (x : Val) : R Nat := match x with
 | .ins c ns _ => if ns.any (fun y => strEq y m) then stk else ofO (lookCl ids c)
 | _ => stk
def mkV (c : Nat) (ns : List Str) (vs : List Val) : R Val := if Nat.beq vs.length ns.length then .ok (.ins c ns vs) else stk
mutual
def flatT : Tg → Val → R (List (Nat × Val))
 | .nm i, v => .ok [(i, v)]
 | .tp ts, v => match v with
  | .tup vs => flatTs ts vs
  | .lst vs => flatTs ts vs
  | _ => stk
def flatTs : Tgs → List Val → R (List (Nat × Val))
 | .nil, [] => .ok []
 | .nil, _ :: _ => stk
 | .cons _ _, [] => stk
 | .cons t r, v :: vs => do
  let a ← flatT t v
  let b ← flatTs r vs
  .ok (a ++ b)
end
def setsE (ρ : VE) : List (Nat × Val) → VE
 | [] => ρ
 | (i, v) :: r => setsE (ρ.set i (some v)) r
def bindE (t : Tg) (ρ : VE) (v : Val) : R VE := do
 let bs ← flatT t v
 .ok (setsE ρ bs)
def compGo (bind : VE → Val → R VE) (c : VE → R Bool) (e : VE → R Val) (ρ : VE) : List Val → R (List Val)
 | [] => .ok []
 | v :: r => do
  let ρ1 ← bind ρ v
  let b ← c ρ1
  if b = true then do
   let y ← e ρ1
   let ys ← compGo bind c e ρ r
   .ok (y :: ys)
  else compGo bind c e ρ r
def wipeE (ρ : VE) : List Nat → VE
 | [] => ρ
 | v :: vs => (wipeE ρ vs).set v none
def getE (ρ : VE) (i : Nat) : R Val := match ρ[i]? with
 | some (some v) => .ok v
 | _ => stk
inductive HV where
 | p (v : Val)
 | r (n : Nat)
 | t (xs : List HV)
 deriving Inhabited
inductive HOb where
 | lst (xs : List HV)
 | dic (t : Bool) (ks : List Val) (vs : List HV)
 | ins (c : Nat) (ns : List Str) (vs : List HV)
 deriving Inhabited
abbrev HHp := List HOb
structure Tab where
 G : Nat → Option Val
 C : Nat → List Val → R Val
 H : Nat → List HV → HHp → R (HV × HHp)
mutual
def ev (T : Tab) : SE → VE → R Val
 | .var i, ρ => getE ρ i
 | .cint n, _ => .ok (.int n)
 | .cbl b, _ => .ok (.bl b)
 | .cnon, _ => .ok .non
 | .cstr s, _ => .ok (.str (Str.ofString s))
 | .glob g, _ => ofO (T.G g)
 | .op o a b, ρ => do let x ← ev T a ρ; let y ← ev T b ρ; op2 o x y
 | .neg a, ρ => do let x ← ev T a ρ; let i ← asInt x; .ok (.int (-i))
 | .not1 a, ρ => do let x ← ev T a ρ; let b ← tru x; .ok (.bl (!b))
 | .bop an es, ρ => evB T an es ρ
 | .chain o o' a b c, ρ => do
  let x ← ev T a ρ
  let y ← ev T b ρ
  let r ← op2 o x y
  let k ← tru r
  if k = true then do let z ← ev T c ρ; op2 o' y z else .ok (.bl false)
 | .ite c a b, ρ => do let x ← ev T c ρ; let k ← tru x; if k = true then ev T a ρ else ev T b ρ
 | .tup es, ρ => do let vs ← evs T es ρ; if vs.length ≤ lineN then .ok (.tup vs) else stk
 | .lst es, ρ => do let vs ← evs T es ρ; if vs.length ≤ lineN then .ok (.lst vs) else stk
 | .ix a b, ρ => do let x ← ev T a ρ; let y ← ev T b ρ; ixV x y
 | .sl a lo hi, ρ => do
  let x ← ev T a ρ
  let l ← evO T lo ρ
  let h ← evO T hi ρ
  slV x l h
 | .rev a, ρ => do let x ← ev T a ρ; revV x
 | .call f es, ρ => do let vs ← evs T es ρ; T.C f vs
 | .bi b es, ρ => do let vs ← evs T es ρ; bi1 b vs
 | .isi a t, ρ => do let x ← ev T a ρ; let r ← isiV x t; .ok (.bl r)
 | .comp own tg it c el, ρ => do
  let items ← evI T it ρ
  if items.length ≤ lineN then do
   let ys ← compGo (bindE tg) (evC T c) (ev T el) (wipeE ρ own) items
   .ok (.lst ys)
  else stk
 | .lrng es, ρ => do
  let vs ← evs T es ρ
  lrngV vs
 | .dget d k, ρ => do let x ← ev T d ρ; let y ← ev T k ρ; idxV x y
 | .dgetd d k e, ρ => do
  let x ← ev T d ρ
  let y ← ev T k ρ
  let z ← ev T e ρ
  dgetdV x y z
 | .cnt a b, ρ => do
  let x ← ev T a ρ
  let y ← ev T b ρ
  cntV x y
 | .mxd a b, ρ => do
  let x ← ev T a ρ
  let y ← ev T b ρ
  bi1 .maxd [x, y]
 | .mk c ns es, ρ => do let vs ← evs T es (ρ.set 0 none); mkV c (ns.map Str.ofString) vs
 | .make f es, ρ => do let vs ← evs T es ρ; T.C f (.non :: vs)
 | .fld a f, ρ => do let x ← ev T a ρ; fldV x (Str.ofString f)
 | .isc a c, ρ => do let x ← ev T a ρ; let b ← iscV x c; .ok (.bl b)
 | .dsp k a, ρ => do let x ← ev T a ρ; .ok (.dic false [.str (Str.ofString k)] [x])
 | .mth m ids a es, ρ => do let x ← ev T a ρ; let f ← mthV (Str.ofString m) ids x; let vs ← evs T es ρ; T.C f (x :: vs)
def evs (T : Tab) : SEs → VE → R (List Val)
 | .nil, _ => .ok []
 | .cons e r, ρ => do let v ← ev T e ρ; let vs ← evs T r ρ; .ok (v :: vs)
def evB (T : Tab) (an : Bool) : SEs → VE → R Val
 | .nil, _ => stk
 | .cons e .nil, ρ => ev T e ρ
 | .cons e r, ρ => do
  let x ← ev T e ρ
  let k ← tru x
  if k = an then evB T an r ρ else .ok (.bl (!an))
def evO (T : Tab) : SO → VE → R (Option Int)
 | .none, _ => .ok none
 | .some e, ρ => do let x ← ev T e ρ; let i ← asInt x; .ok (some i)
def evC (T : Tab) : SO → VE → R Bool
 | .none, _ => .ok true
 | .some e, ρ => do let x ← ev T e ρ; tru x
def evI (T : Tab) : SI → VE → R (List Val)
 | .seq e, ρ => do
  let x ← ev T e ρ
  seqV x
 | .rng1 a, ρ => do
  let x ← ev T a ρ
  let j ← asInt x
  if smallR 0 j then .ok (rngC 0 1 j.toNat) else stk
 | .rng2 a b, ρ => do
  let x ← ev T a ρ
  let y ← ev T b ρ
  let i ← asInt x
  let j ← asInt y
  if smallR i j then .ok (rngC i 1 (j - i).toNat) else stk
 | .rng3 a b c, ρ => do
  let x ← ev T a ρ
  let y ← ev T b ρ
  let z ← ev T c ρ
  let i ← asInt x
  let j ← asInt y
  let k ← asInt z
  if smallR i j && decide (0 < k ∧ k < 1073741824) then .ok (rngC i k (rngN i j k)) else stk
 | .enum e, ρ => do
  let x ← ev T e ρ
  enmV x
 | .zip a b, ρ => do
  let x ← ev T a ρ
  let y ← ev T b ρ
  zpV x y
 | .keys e, ρ => do
  let x ← ev T e ρ
  keysV x
end
inductive Slot where
 | no
 | sh (v : Val)
 | ow (vs : List Val)
 | od (t : Bool) (ks vs : List Val)
 deriving Inhabited
abbrev SEnv := List Slot
def Slot.isOwn : Slot → Bool
 | .ow _ => true
 | .od _ _ _ => true
 | _ => false
def Slot.val : Slot → Option Val
 | .no => none
 | .sh v => some v
 | .ow vs => some (.lst vs)
 | .od t ks vs => some (.dic t ks vs)
def visG (m : List Nat) : Nat → SEnv → VE
 | _, [] => []
 | i, s :: r => (if s.isOwn && !m.contains i then none else s.val) :: visG m (i + 1) r
abbrev vis (m : List Nat) (ρ : SEnv) : VE := visG m 0 ρ
def frz1 (i : Nat) (ρ : SEnv) : SEnv := match ρ[i]? with
 | some (.ow vs) => ρ.set i (.sh (.lst vs))
 | some (.od t ks vs) => ρ.set i (.sh (.dic t ks vs))
 | _ => ρ
def frzs : List Nat → SEnv → SEnv
 | [], ρ => ρ
 | i :: r, ρ => frzs r (frz1 i ρ)
def kept (m : List Nat) (fl : Bool) (ρ : SEnv) : SEnv := match m with
 | [] => ρ
 | _ => if fl = true then ρ else frzs m ρ
def setsS (ρ : SEnv) : List (Nat × Val) → SEnv
 | [] => ρ
 | (i, v) :: r => setsS (ρ.set i (.sh v)) r
def bindS (t : Tg) (ρ : SEnv) (v : Val) : R SEnv := do
 let bs ← flatT t v
 .ok (setsS ρ bs)
inductive Fl where
 | nx
 | rt (v : Val)
def forGo (bind : SEnv → Val → R SEnv) (body : SEnv → R (Fl × SEnv)) : List Val → SEnv → R (Fl × SEnv)
 | [], ρ => .ok (.nx, ρ)
 | v :: r, ρ => do
  let ρ1 ← bind ρ v
  let q ← body ρ1
  match q with
  | (.nx, ρ2) => forGo bind body r ρ2
  | (.rt v, ρ2) => .ok (.rt v, ρ2)
def whGo (c : SEnv → R Bool) (body : SEnv → R (Fl × SEnv)) : Nat → SEnv → R (Fl × SEnv)
 | 0, _ => stk
 | n + 1, ρ => do
  let b ← c ρ
  if b = true then do
   let q ← body ρ
   match q with
   | (.nx, ρ2) => whGo c body n ρ2
   | (.rt v, ρ2) => .ok (.rt v, ρ2)
  else .ok (.nx, ρ)
def ixL (n : Nat) (i : Int) : Option Nat := L2.ixN n i
mutual
def ex (T : Tab) : SS → SEnv → R (Fl × SEnv)
 | .asg m tg e, ρ => do
  let v ← ev T e (vis m ρ)
  let ρ1 ← bindS tg (kept m (flat v) ρ) v
  .ok (.nx, ρ1)
 | .par m i j a b, ρ => do
  let v ← ev T a (vis m ρ)
  let w ← ev T b (vis m ρ)
  .ok (.nx, ((kept m (flat v && flat w) ρ).set i (.sh v)).set j (.sh w))
 | .parO m i j a b, ρ => do
  let v ← ev T a (vis m ρ)
  let w ← ev T b (vis m ρ)
  match v with
  | .lst vs => if i < ρ.length then .ok (.nx, ((kept m (flats vs && flat w) ρ).set i (.ow vs)).set j (.sh w)) else stk
  | _ => stk
 | .own m i e, ρ => do
  let v ← ev T e (vis m ρ)
  match v with
  | .lst vs => if i < ρ.length then .ok (.nx, (kept m (flats vs) ρ).set i (.ow vs)) else stk
  | _ => stk
 | .ownd i t, ρ => if i < ρ.length then .ok (.nx, ρ.set i (.od t [] [])) else stk
 | .app m i e, ρ => do
  let v ← ev T e (vis m ρ)
  if m.contains i && !flat v then stk else
   match (kept m (flat v) ρ)[i]? with
   | some (.ow vs) => if vs.length < lineN then .ok (.nx, (kept m (flat v) ρ).set i (.ow (vs ++ [v]))) else stk
   | _ => stk
 | .ext m i e, ρ => do
  let v ← ev T e (vis m ρ)
  match v with
  | .lst ws => if m.contains i && !flats ws then stk else
   match (kept m (flats ws) ρ)[i]? with
   | some (.ow vs) => if vs.length + ws.length ≤ lineN then .ok (.nx, (kept m (flats ws) ρ).set i (.ow (vs ++ ws))) else stk
   | _ => stk
  | _ => stk
 | .seti m i k e, ρ => do
  let v ← ev T e (vis m ρ)
  let kv ← ev T k (vis m ρ)
  let z ← asInt kv
  if m.contains i && !flat v then stk else
   match (kept m (flat v) ρ)[i]? with
   | some (.ow vs) => match ixL vs.length z with
    | some j => .ok (.nx, (kept m (flat v) ρ).set i (.ow (vs.set j v)))
    | none => stk
   | _ => stk
 | .dput m i k e, ρ => do
  let v ← ev T e (vis m ρ)
  let kv ← ev T k (vis m ρ)
  if m.contains i && !flat v then stk else
   match (kept m (flat v) ρ)[i]? with
   | some (.od t ks vs) => if keyOk t kv && decide (ks.length < lineN) then .ok (.nx, (kept m (flat v) ρ).set i (.od t (putD ks vs kv v).1 (putD ks vs kv v).2)) else stk
   | _ => stk
 | .iff m c a b, ρ => do
  let v ← ev T c (vis m ρ)
  let k ← tru v
  if k = true then exs T a ρ else exs T b ρ
 | .loop m tg it b, ρ => do
  let items ← evI T it (vis m ρ)
  forGo (bindS tg) (exs T b) items (kept m false ρ)
 | .whl m μ c b, ρ => do
  let v ← ev T μ (vis m ρ)
  let z ← asInt v
  whGo (fun ρ => do let x ← ev T c (vis m ρ); tru x) (exs T b) (z.toNat + 1) ρ
 | .retv i, ρ => match ρ[i]? with
  | some (.ow vs) => .ok (.rt (.lst vs), ρ)
  | _ => stk
 | .ret m e, ρ => do
  let v ← ev T e (vis m ρ)
  .ok (.rt v, ρ)
 | .expr m e, ρ => do
  let v ← ev T e (vis m ρ)
  .ok (.nx, ρ)
 | .raise c, ρ => .error (.exc c)
def exs (T : Tab) : SB → SEnv → R (Fl × SEnv)
 | .nil, ρ => .ok (.nx, ρ)
 | .cons s r, ρ => do
  let q ← ex T s ρ
  match q with
  | (.nx, ρ1) => exs T r ρ1
  | (.rt v, ρ1) => .ok (.rt v, ρ1)
end
structure SD where
 np : Nat
 ns : Nat
 body : SB
def runD (T : Tab) (d : SD) (args : List Val) : R Val :=
 if args.length = d.np then do
  let q ← exs T d.body (args.map Slot.sh ++ List.replicate (d.ns - d.np) Slot.no)
  match q.1 with
  | .nx => .ok .non
  | .rt v => .ok v
 else stk
end VM
namespace VM
open PySem
mutual
inductive HE where
 | pu (m : List Nat) (e : SE)
 | puF (m : List Nat) (e : SE)
 | var (i : Nat)
 | ix (a : HE) (m : List Nat) (k : SE)
 | lst (es : HEs)
 | tup (es : HEs)
 | lof (a : HE)
 | cat (a b : HE)
 | sl (a : HE) (m : List Nat) (lo hi : SO)
 | comp (own : List Nat) (tg : Tg) (it : HI) (m : List Nat) (c : SO) (el : HE)
 | call (f : Nat) (es : HEs)
 | dnew (t : Bool)
 | pcl (f : Nat) (es : HEs)
 | rev (a : HE)
 | mk (c : Nat) (ns : List String) (es : HEs)
 | make (f : Nat) (es : HEs)
 | fld (a : HE) (f : String)
 | pop (a : HE)
 | pop0 (a : HE)
 | callS (f : Nat) (m : List Nat) (es : SEs)
 | puI (m : List Nat) (e : SE)
 | tol (a : HE)
 | calld (i : Nat) (a : HE)
inductive HEs where
 | nil
 | cons (e : HE) (r : HEs)
inductive HI where
 | seq (e : HE)
 | pu (m : List Nat) (it : SI)
 | rng (m : List Nat) (it : SI)
 | enum (e : HE)
 | zip (a b : HE)
end
mutual
inductive HS where
 | asg (tg : Tg) (e : HE)
 | par (i j : Nat) (a b : HE)
 | par3 (i j l : Nat) (a b c : HE)
 | app (a e : HE)
 | ext (a e : HE)
 | set (a : HE) (m : List Nat) (k : SE) (e : HE)
 | dset (a : HE) (m : List Nat) (k : SE) (e : HE)
 | iff (m : List Nat) (c : SE) (a b : HB)
 | loop (tg : Tg) (it : HI) (b : HB)
 | loopw (W : List Nat) (tg : Tg) (it : HI) (b : HB)
 | whl (m : List Nat) (μ : SE) (c : SE) (b : HB)
 | ret (e : HE)
 | expr (e : HE)
 | raise (c : Nat)
 | rvs (a : HE)
inductive HB where
 | nil
 | cons (s : HS) (r : HB)
end
abbrev HEnv := List (Option HV)
def omap {α β : Type} (f : α → Option β) : List α → Option (List β)
 | [] => some []
 | x :: r => match f x with
  | some v => match omap f r with
   | some vs => some (v :: vs)
   | none => none
  | none => none
def deref (h : HHp) : Nat → HV → Option Val
 | 0, _ => none
 | _ + 1, .p v => some v
 | k + 1, .r n => match h[n]? with
  | some (.lst xs) => (omap (deref h k) xs).map Val.lst
  | some (.dic t ks vs) => (omap (deref h k) vs).map (Val.dic t ks)
  | some (.ins c ns vs) => (omap (deref h k) vs).map (Val.ins c ns)
  | _ => none
 | k + 1, .t xs => (omap (deref h k) xs).map Val.tup
def seeG (m : List Nat) (h : HHp) : Nat → HEnv → VE
 | _, [] => []
 | i, o :: r => (if m.contains i then o.bind (deref h 60) else none) :: seeG m h (i + 1) r
abbrev seeH (m : List Nat) (h : HHp) (ρ : HEnv) : VE := seeG m h 0 ρ
def isP : Option HV → Bool
 | some (.p _) => true
 | some _ => false
 | none => true
def onlyP (m : List Nat) (ρ : HEnv) : Bool := m.all fun i => isP (ρ[i]?.getD none)
def lookDH (ks : List Val) (vs : List HV) (k : Val) : Option HV := match ks, vs with
 | x :: ks, y :: vs => if veq x k then some y else lookDH ks vs k
 | _, _ => none
def putDH (ks : List Val) (vs : List HV) (k : Val) (v : HV) : List Val × List HV := match ks, vs with
 | x :: ks, y :: vs => if veq x k then (x :: ks, v :: vs) else ((x :: (putDH ks vs k v).1), (y :: (putDH ks vs k v).2))
 | _, _ => ([k], [v])
def ixH (h : HHp) (x : HV) (k : Val) : R HV := match x with
 | .p v => do let u ← ixV v k; .ok (.p u)
 | .r n => match h[n]? with
  | some (.lst xs) => match k with
   | .int i => ofO (L2.atI xs i)
   | _ => stk
  | some (.dic t ks vs) => if keyOk t k then ofO (lookDH ks vs k) else stk
  | _ => stk
 | .t xs => match k with
  | .int i => ofO (L2.atI xs i)
  | _ => stk
def itemsH (h : HHp) (x : HV) : R (List HV) := match x with
 | .p (.lst vs) => .ok (vs.map HV.p)
 | .p (.tup vs) => .ok (vs.map HV.p)
 | .r n => match h[n]? with
  | some (.lst xs) => .ok xs
  | _ => stk
 | .t xs => .ok xs
 | _ => stk
def lstH (h : HHp) (x : HV) : R (List HV) := match x with
 | .p (.lst vs) => .ok (vs.map HV.p)
 | .r n => match h[n]? with
  | some (.lst xs) => .ok xs
  | _ => stk
 | _ => stk
mutual
def flatH (h : HHp) : Tg → HV → R (List (Nat × HV))
 | .nm i, v => .ok [(i, v)]
 | .tp ts, v => do
  let vs ← itemsH h v
  flatHs h ts vs
def flatHs (h : HHp) : Tgs → List HV → R (List (Nat × HV))
 | .nil, [] => .ok []
 | .nil, _ :: _ => stk
 | .cons _ _, [] => stk
 | .cons t r, v :: vs => do
  let a ← flatH h t v
  let b ← flatHs h r vs
  .ok (a ++ b)
end
def setsH (ρ : HEnv) : List (Nat × HV) → HEnv
 | [] => ρ
 | (i, v) :: r => setsH (ρ.set i (some v)) r
def bindH (h : HHp) (t : Tg) (ρ : HEnv) (v : HV) : R HEnv := do
 let bs ← flatH h t v
 .ok (setsH ρ bs)
def wipeH (ρ : HEnv) : List Nat → HEnv
 | [] => ρ
 | v :: vs => (wipeH ρ vs).set v none
inductive HIt where
 | fx (xs : List HV)
 | ls (n : Nat)
 | en (J : HIt)
 | zp (J J' : HIt)
def HIt.at (h : HHp) : HIt → Nat → R (Option HV)
 | .fx xs, i => .ok xs[i]?
 | .ls n, i => match h[n]? with
  | some (.lst ys) => .ok ys[i]?
  | _ => stk
 | .en J, i => do
  let o ← HIt.at h J i
  .ok (o.map fun v => .t [.p (.int i), v])
 | .zp J J', i => do
  let o ← HIt.at h J i
  let o' ← HIt.at h J' i
  match o, o' with
  | some a, some b => .ok (some (.t [a, b]))
  | _, _ => .ok none
def HIt.many (h : HHp) : HIt → Nat
 | .fx xs => xs.length
 | .ls n => match h[n]? with
  | some (.lst ys) => ys.length
  | _ => 0
 | .en J => HIt.many h J
 | .zp J _ => HIt.many h J
def itL (h : HHp) (x : HV) : R HIt := match x with
 | .p (.lst vs) => .ok (.fx (vs.map HV.p))
 | .r n => match h[n]? with
  | some (.lst _) => .ok (.ls n)
  | _ => stk
 | _ => stk
def itS (h : HHp) (x : HV) : R HIt := match x with
 | .p (.tup vs) => .ok (.fx (vs.map HV.p))
 | .t xs => .ok (.fx xs)
 | x => itL h x
def compH (bind : HHp → HEnv → HV → R HEnv) (c : HEnv → HHp → R Bool) (el : HEnv → HHp → R (HV × HHp)) (J : HIt) (ρ : HEnv) : Nat → Nat → HHp → R (List HV × HHp)
 | 0, _, _ => stk
 | k + 1, i, h => do
  let o ← J.at h i
  match o with
  | none => .ok ([], h)
  | some v => do
   let ρ1 ← bind h ρ v
   let b ← c ρ1 h
   if b = true then do
    let q ← el ρ1 h
    let z ← compH bind c el J ρ k (i + 1) q.2
    .ok (q.1 :: z.1, z.2)
   else compH bind c el J ρ k (i + 1) h
def plHV : HV → Option Val
 | .p v => some v
 | _ => none
def pclK (T : Tab) (f : Nat) (q : List HV × HHp) : R (HV × HHp) := match omap plHV q.1 with
 | some vs => T.C f vs >>= fun v => .ok (.p v, q.2)
 | none => stk
def heldK (T : Tab) (o : Option HV) (q : HV × HHp) : R (HV × HHp) := match o with
 | some (.p (.sym (.lm f))) => T.H f [q.1] q.2
 | _ => stk
inductive HFl where
 | nx
 | rt (v : HV)
def lookFH : List Str → List HV → Str → Option HV
 | x :: ns, v :: vs, f => if strEq x f then some v else lookFH ns vs f
 | _, _, _ => none
def fldH (h : HHp) (x : HV) (f : Str) : R HV := match x with
 | .p v => do let u ← fldV v f; .ok (.p u)
 | .r n => match h[n]? with
  | some (.ins _ ns vs) => ofO (lookFH ns vs f)
  | _ => stk
 | _ => stk
def mkH (c : Nat) (ns : List Str) (q : List HV × HHp) : R (HV × HHp) := if Nat.beq q.1.length ns.length then .ok (.r q.2.length, q.2 ++ [.ins c ns q.1]) else stk
def popH (q : HV × HHp) : R (HV × HHp) := match q.1 with
 | .r n => match q.2[n]? with
  | some (.lst ys) => match ys[ys.length - 1]? with
   | some v => .ok (v, q.2.set n (.lst ys.dropLast))
   | none => stk
  | _ => stk
 | _ => stk
def pop0H (q : HV × HHp) : R (HV × HHp) := match q.1 with
 | .r n => match q.2[n]? with
  | some (.lst (v :: ys)) => .ok (v, q.2.set n (.lst ys))
  | _ => stk
 | _ => stk
def insOk (h : HHp) (v : Val) : Bool := match v with
 | .ins _ _ vs => flats vs && h.all fun o => match o with
  | .ins _ _ _ => false
  | _ => true
 | _ => false
mutual
def shHV (lo s : Nat) : HV → HV
 | .p v => .p v
 | .r n => .r (n - lo + s)
 | .t xs => .t (shHVs lo s xs)
def shHVs (lo s : Nat) : List HV → List HV
 | [] => []
 | v :: r => shHV lo s v :: shHVs lo s r
end
mutual
def flHV (lo : Nat) : HV → Bool
 | .p v => flat v
 | .r n => Nat.ble lo n
 | .t xs => flHVs lo xs
def flHVs (lo : Nat) : List HV → Bool
 | [] => true
 | v :: r => flHV lo v && flHVs lo r
end
def shOb (lo s : Nat) : HOb → HOb
 | .lst vs => .lst (shHVs lo s vs)
 | .dic t ks vs => .dic t ks (shHVs lo s vs)
 | .ins c ns vs => .ins c ns (shHVs lo s vs)
def flOb (lo : Nat) : HOb → Bool
 | .lst vs => flHVs lo vs
 | .dic t _ vs => !t && flHVs lo vs
 | .ins _ _ vs => flHVs lo vs
def okFrom (q : HV × HHp) (lo : Nat) : Bool := flHV lo q.1 && (q.2.drop lo).all (flOb lo)
def findLo (q : HV × HHp) : Nat → Option Nat
 | 0 => if okFrom q 0 = true then some 0 else none
 | n + 1 => if okFrom q (n + 1) = true then some (n + 1) else findLo q n
theorem findLo_ok {q : HV × HHp} : ∀ {n lo : Nat}, findLo q n = some lo → okFrom q lo = true
 | 0, lo, h => by
  simp only [findLo] at h
  split at h
  ·cases h; assumption
  ·cases h
 | n + 1, lo, h => by
  simp only [findLo] at h
  split at h
  ·cases h; assumption
  ·exact findLo_ok h
def snapH (h : HHp) (q : HV × HHp) : R (HV × HHp) := match findLo q q.2.length with
 | some lo => .ok (shHV lo h.length q.1, h ++ (q.2.drop lo).map (shOb lo h.length))
 | none => stk
def rvsH (ρ : HEnv) (q : HV × HHp) : R (HFl × HEnv × HHp) := match q.1 with
 | .r n => match q.2[n]? with
  | some (.lst ys) => .ok (.nx, ρ, q.2.set n (.lst ys.reverse))
  | _ => stk
 | _ => stk
mutual
def evH (T : Tab) : HE → HEnv → HHp → R (HV × HHp)
 | .pu m e, ρ, h => do
  let v ← ev T e (seeH m h ρ)
  if (flat v || onlyP m ρ) = true then .ok (.p v, h) else stk
 | .puF m e, ρ, h => do
  let v ← ev T e (seeH m h ρ)
  match v with
  | .lst vs => if (flats vs || onlyP m ρ) = true then .ok (.r h.length, h ++ [.lst (vs.map HV.p)]) else stk
  | _ => stk
 | .var i, ρ, h => match ρ[i]? with
  | some (some v) => .ok (v, h)
  | _ => stk
 | .ix a m k, ρ, h => do
  let q ← evH T a ρ h
  let kv ← ev T k (seeH m q.2 ρ)
  if flat kv = true then do
   let v ← ixH q.2 q.1 kv
   .ok (v, q.2)
  else stk
 | .lst es, ρ, h => do
  let q ← evHs T es ρ h
  if q.1.length ≤ lineN then .ok (.r q.2.length, q.2 ++ [.lst q.1]) else stk
 | .tup es, ρ, h => do
  let q ← evHs T es ρ h
  if q.1.length ≤ lineN then .ok (.t q.1, q.2) else stk
 | .lof a, ρ, h => do
  let q ← evH T a ρ h
  let xs ← itemsH q.2 q.1
  .ok (.r q.2.length, q.2 ++ [.lst xs])
 | .cat a b, ρ, h => do
  let q ← evH T a ρ h
  let z ← evH T b ρ q.2
  let xs ← lstH z.2 q.1
  let ys ← lstH z.2 z.1
  if xs.length + ys.length ≤ lineN then .ok (.r z.2.length, z.2 ++ [.lst (xs ++ ys)]) else stk
 | .sl a m lo hi, ρ, h => do
  let q ← evH T a ρ h
  let l ← evO T lo (seeH m q.2 ρ)
  let u ← evO T hi (seeH m q.2 ρ)
  let xs ← lstH q.2 q.1
  .ok (.r q.2.length, q.2 ++ [.lst ((xs.drop (HT.sIx xs.length 0 l)).take (HT.sIx xs.length xs.length u - HT.sIx xs.length 0 l))])
 | .comp own tg it m c el, ρ, h => do
  let q ← evHI T it ρ h
  if q.1.many q.2 ≤ lineN then do
   let z ← compH (fun h ρ v => bindH h tg ρ v) (fun ρ h => evC T c (seeH m h ρ)) (fun ρ h => evH T el ρ h) q.1 (wipeH ρ own) (q.1.many q.2 + 1) 0 q.2
   .ok (.r z.2.length, z.2 ++ [.lst z.1])
  else stk
 | .call f es, ρ, h => do
  let q ← evHs T es ρ h
  T.H f q.1 q.2
 | .dnew t, _, h => .ok (.r h.length, h ++ [.dic t [] []])
 | .pcl f es, ρ, h => do
  let q ← evHs T es ρ h
  pclK T f q
 | .rev a, ρ, h => do
  let q ← evH T a ρ h
  let xs ← lstH q.2 q.1
  .ok (.r q.2.length, q.2 ++ [.lst xs.reverse])
 | .mk c ns es, ρ, h => do
  let q ← evHs T es (ρ.set 0 none) h
  mkH c (ns.map Str.ofString) q
 | .make f es, ρ, h => do
  let q ← evHs T es ρ h
  T.H f (.p .non :: q.1) q.2
 | .fld a f, ρ, h => do
  let q ← evH T a ρ h
  let v ← fldH q.2 q.1 (Str.ofString f)
  .ok (v, q.2)
 | .pop a, ρ, h => do
  let q ← evH T a ρ h
  popH q
 | .pop0 a, ρ, h => do
  let q ← evH T a ρ h
  pop0H q
 | .callS f m es, ρ, h => do
  let vs ← evs T es (seeH m h ρ)
  let q ← T.H f (vs.map HV.p) []
  snapH h q
 | .puI m e, ρ, h => do
  let v ← ev T e (seeH m h ρ)
  if insOk h v = true then .ok (.p v, h) else stk
 | .tol a, ρ, h => do
  let q ← evH T a ρ h
  let xs ← itemsH q.2 q.1
  .ok (.t xs, q.2)
 | .calld i a, ρ, h => do
  let q ← evH T a ρ h
  heldK T (ρ[i]?.getD none) q
def evHs (T : Tab) : HEs → HEnv → HHp → R (List HV × HHp)
 | .nil, _, h => .ok ([], h)
 | .cons e r, ρ, h => do
  let q ← evH T e ρ h
  let z ← evHs T r ρ q.2
  .ok (q.1 :: z.1, z.2)
def evHI (T : Tab) : HI → HEnv → HHp → R (HIt × HHp)
 | .seq e, ρ, h => do
  let q ← evH T e ρ h
  let J ← itS q.2 q.1
  .ok (J, q.2)
 | .pu m it, ρ, h => do
  let vs ← evI T it (seeH m h ρ)
  if onlyP m ρ = true then .ok (.fx (vs.map HV.p), h) else stk
 | .rng m it, ρ, h => do
  let vs ← evI T it (seeH m h ρ)
  .ok (.fx (vs.map HV.p), h)
 | .enum e, ρ, h => do
  let q ← evH T e ρ h
  let J ← itL q.2 q.1
  .ok (.en J, q.2)
 | .zip a b, ρ, h => do
  let q ← evH T a ρ h
  let z ← evH T b ρ q.2
  let J ← itL z.2 q.1
  let J' ← itL z.2 z.1
  .ok (.zp J J', z.2)
end
def forH (bind : HHp → HEnv → HV → R HEnv) (body : HEnv → HHp → R (HFl × HEnv × HHp)) (J : HIt) : Nat → Nat → HEnv → HHp → R (HFl × HEnv × HHp)
 | 0, _, _, _ => stk
 | k + 1, i, ρ, h => do
  let o ← J.at h i
  match o with
  | none => .ok (.nx, ρ, h)
  | some v => do
   let ρ1 ← bind h ρ v
   let q ← body ρ1 h
   match q with
   | (.nx, ρ2, h2) => forH bind body J k (i + 1) ρ2 h2
   | (.rt v, ρ2, h2) => .ok (.rt v, ρ2, h2)
def whH (c : HEnv → HHp → R Bool) (body : HEnv → HHp → R (HFl × HEnv × HHp)) : Nat → HEnv → HHp → R (HFl × HEnv × HHp)
 | 0, _, _ => stk
 | n + 1, ρ, h => do
  let b ← c ρ h
  if b = true then do
   let q ← body ρ h
   match q with
   | (.nx, ρ2, h2) => whH c body n ρ2 h2
   | (.rt v, ρ2, h2) => .ok (.rt v, ρ2, h2)
  else .ok (.nx, ρ, h)
mutual
def exH (T : Tab) : HS → HEnv → HHp → R (HFl × HEnv × HHp)
 | .asg tg e, ρ, h => do
  let q ← evH T e ρ h
  let ρ1 ← bindH q.2 tg ρ q.1
  .ok (.nx, ρ1, q.2)
 | .par i j a b, ρ, h => do
  let q ← evH T a ρ h
  let z ← evH T b ρ q.2
  .ok (.nx, (ρ.set i (some q.1)).set j (some z.1), z.2)
 | .par3 i j l a b c, ρ, h => do
  let q ← evH T a ρ h
  let z ← evH T b ρ q.2
  let y ← evH T c ρ z.2
  .ok (.nx, ((ρ.set i (some q.1)).set j (some z.1)).set l (some y.1), y.2)
 | .app a e, ρ, h => do
  let q ← evH T a ρ h
  let _ ← lstH q.2 q.1
  let z ← evH T e ρ q.2
  match q.1 with
  | .r n => match z.2[n]? with
   | some (.lst ys) => if ys.length < lineN then .ok (.nx, ρ, z.2.set n (.lst (ys ++ [z.1]))) else stk
   | _ => stk
  | _ => stk
 | .ext a e, ρ, h => do
  let q ← evH T a ρ h
  let _ ← lstH q.2 q.1
  let z ← evH T e ρ q.2
  let zs ← lstH z.2 z.1
  match q.1 with
  | .r n => match z.2[n]? with
   | some (.lst ys) => if ys.length + zs.length ≤ lineN then .ok (.nx, ρ, z.2.set n (.lst (ys ++ zs))) else stk
   | _ => stk
  | _ => stk
 | .set a m k e, ρ, h => do
  let z ← evH T e ρ h
  let q ← evH T a ρ z.2
  let kv ← ev T k (seeH m q.2 ρ)
  match q.1 with
  | .r n => match q.2[n]? with
   | some (.lst ys) => match kv with
    | .int i => match L2.ixN ys.length i with
     | some j => .ok (.nx, ρ, q.2.set n (.lst (ys.set j z.1)))
     | none => stk
    | _ => stk
   | _ => stk
  | _ => stk
 | .dset a m k e, ρ, h => do
  let z ← evH T e ρ h
  let q ← evH T a ρ z.2
  let kv ← ev T k (seeH m q.2 ρ)
  match q.1 with
  | .r n => match q.2[n]? with
   | some (.dic t ks vs) => if keyOk t kv && decide (ks.length < lineN) then .ok (.nx, ρ, q.2.set n (.dic t (putDH ks vs kv z.1).1 (putDH ks vs kv z.1).2)) else stk
   | _ => stk
  | _ => stk
 | .iff m c a b, ρ, h => do
  let v ← ev T c (seeH m h ρ)
  let k ← tru v
  if k = true then exHs T a ρ h else exHs T b ρ h
 | .loop tg it b, ρ, h => do
  let q ← evHI T it ρ h
  forH (fun h ρ v => bindH h tg ρ v) (fun ρ h => exHs T b ρ h) q.1 (q.1.many q.2 + 1) 0 ρ q.2
 | .loopw W tg it b, ρ, h => do
  let q ← evHI T it ρ h
  forH (fun h ρ v => bindH h tg (wipeH ρ W) v) (fun ρ h => exHs T b ρ h) q.1 (q.1.many q.2 + 1) 0 ρ q.2
 | .whl m μ c b, ρ, h => do
  let v ← ev T μ (seeH m h ρ)
  let z ← asInt v
  whH (fun ρ h => do let x ← ev T c (seeH m h ρ); tru x) (fun ρ h => exHs T b ρ h) (z.toNat + 1) ρ h
 | .ret e, ρ, h => do
  let q ← evH T e ρ h
  .ok (.rt q.1, ρ, q.2)
 | .expr e, ρ, h => do
  let q ← evH T e ρ h
  .ok (.nx, ρ, q.2)
 | .raise c, _, _ => .error (.exc c)
 | .rvs a, ρ, h => do
  let q ← evH T a ρ h
  rvsH ρ q
def exHs (T : Tab) : HB → HEnv → HHp → R (HFl × HEnv × HHp)
 | .nil, ρ, h => .ok (.nx, ρ, h)
 | .cons s r, ρ, h => do
  let q ← exH T s ρ h
  match q with
  | (.nx, ρ1, h1) => exHs T r ρ1 h1
  | (.rt v, ρ1, h1) => .ok (.rt v, ρ1, h1)
end
structure HD where
 np : Nat
 ns : Nat
 body : HB
def runH (T : Tab) (d : HD) (args : List HV) (h : HHp) : R (HV × HHp) :=
 if args.length = d.np then do
  let q ← exHs T d.body (args.map some ++ List.replicate (d.ns - d.np) none) h
  match q.1 with
  | .nx => .ok (.p .non, q.2.2)
  | .rt v => .ok (v, q.2.2)
 else stk
def pureH (g : List HV → HHp → R (HV × HHp)) (args : List Val) : R Val := do
 let q ← g (args.map HV.p) []
 ofO (deref q.2 60 q.1)
structure Prog where
 G : Nat → Option Val
 F : Nat → Option SD
 HF : Nat → Option HD
def dynId : Nat := 100000
def dynC (g : Nat → List Val → R Val) (f : Nat) (args : List Val) : R Val := match args with
 | .sym (.fn k) :: vs => if f = dynId then g k vs else stk
 | _ => stk
def calls (P : Prog) : Nat → (Nat → List Val → R Val) × (Nat → List HV → HHp → R (HV × HHp))
 | 0 => (fun _ _ => stk, fun _ _ _ => stk)
 | n + 1 => (fun f args => match P.F f with
   | some d => runD ⟨P.G, (calls P n).1, (calls P n).2⟩ d args
   | none => match P.HF f with
    | some d => pureH (runH ⟨P.G, (calls P n).1, (calls P n).2⟩ d) args
    | none => dynC (calls P n).1 f args,
  fun f args h => match P.HF f with
   | some d => runH ⟨P.G, (calls P n).1, (calls P n).2⟩ d args h
   | none => stk)
def callP (P : Prog) (n : Nat) : Nat → List Val → R Val := (calls P n).1
def callH (P : Prog) (n : Nat) : Nat → List HV → HHp → R (HV × HHp) := (calls P n).2
abbrev Prog.tab (P : Prog) (n : Nat) : Tab := ⟨P.G, callP P n, callH P n⟩
theorem callP_succ (P : Prog) (n f : Nat) (args : List Val) {d : SD} (h : P.F f = some d) : callP P (n + 1) f args = runD (P.tab n) d args := by
 simp only [callP, callH, calls, h]; rfl
theorem callP_heap (P : Prog) (n f : Nat) (args : List Val) {d : HD} (h : P.F f = none) (g : P.HF f = some d) : callP P (n + 1) f args = pureH (runH (P.tab n) d) args := by
 simp only [callP, callH, calls, h, g]; rfl
theorem callH_succ (P : Prog) (n f : Nat) (args : List HV) (hp : HHp) {d : HD} (h : P.HF f = some d) : callH P (n + 1) f args hp = runH (P.tab n) d args hp := by
 simp only [callP, callH, calls, h]; rfl
end VM
namespace VM
open PySem PySem.Spec PyProof.Rows L2
variable [Tbl]
theorem bok {α β : Type} {x : R α} {f : α → R β} {v : β} (h : (x >>= f) = .ok v) : ∃ a, x = .ok a ∧ f a = .ok v := by
 cases x with
 | error e => exact nomatch (show (Except.error e : R β) = .ok v from h)
 | ok a => exact ⟨a, rfl, h⟩
theorem okI {α : Type} {a b : α} (h : (Except.ok a : R α) = .ok b) : a = b := by cases h; rfl
theorem iok {α : Type} {c : Prop} [Decidable c] {a b : α} (h : (if c then (Except.ok a : R α) else .error .stuck) = .ok b) : c ∧ a = b := by
 split at h
 ·cases h; exact ⟨by assumption, rfl⟩
 ·cases h
structure Ext (H H' : Hp) : Prop where
 vis : ∀ a o, H a = some o → (nt : NT o := by first | exact True.intro | assumption) → H' a = some o
 dom : ∀ a, H' a = none → H a = none
 tabs : LamX.Tabs Tbl.T H → LamX.Tabs Tbl.T H'
section
variable {K : PySem.W.Frag} {H H' H1 H2 : Hp} {O : Hid} {p : Addr} {o : HO} {v u : Val} {x : V} {vs : List Val} {xs : List V}
theorem Ext.refl : Ext H H := ⟨fun _ _ h _ => h, fun _ h => h, id⟩
theorem Ext.trans (a : Ext H H1) (b : Ext H1 H2) : Ext H H2 := ⟨fun c o h n => b.vis c o (a.vis c o h), fun c h => a.dom c (b.dom c h), fun t => b.tabs (a.tabs t)⟩
theorem Ext.of (e : ∀ a o, H a = some o → H' a = some o) : Ext H H' := by
 refine ⟨fun a o h _ => e a o h, fun a h => ?_, fun t => LamX.Tabs.ext t e⟩
 cases q : H a with
 | none => rfl
 | some o => rw [e a o q] at h; cases h
theorem Ext.upd (n : H p = none) : Ext H (L2.upd H p o) := .of fun b u e => by
 rw [upd_ne (ne_of_none e n)]; exact e
theorem MutO.nt {o : HO} (h : MutO o) : NT o := by cases o <;> first | exact True.intro | exact h.elim
theorem Ext.wr {u : HO} (e : Ext H H') (n : H p = none) (h : H' p = some o) (ne : NE o) : Ext H (L2.upd H' p u) :=
 ⟨fun b v hb nt => by rw [upd_ne (ne_of_none hb n)]; exact e.vis b v hb, fun b hb => e.dom b (by
  unfold L2.upd at hb
  split at hb
  ·cases hb
  ·exact hb), fun t => Tabs.upd (e.tabs t) h ne⟩
theorem Ext.keep (e : Ext H H') : Keep H O H' O := ⟨fun a o h _ _ => e.vis a o h, fun a _ h => e.dom a h, e.tabs, fun _ h => .inl h⟩
theorem WF.ext (w : WF H O) (e : Ext H H') : WF H' O := ⟨fun a h => let ⟨o, h1, h2⟩ := w a h; ⟨o, e.vis a o h1 h2.nt, h2⟩, e.tabs w.tabs⟩
theorem WF.new (w : WF H O) (n : H p = none) : ¬ O p := fun z => by
 obtain ⟨o, e, _⟩ := w p z
 rw [n] at e; cases e
theorem Rep.ext (w : WF H O) (e : Ext H H') (r : Rep K H O v x) : Rep K H' O v x := Rep.keep w e.keep r
theorem Reps.ext (w : WF H O) (e : Ext H H') (r : Reps K H O vs xs) : Reps K H' O vs xs := Reps.keep w e.keep r
theorem Rep.lst_new (w : WF H O) (n : H p = none) (r : Reps K H O vs xs) : Rep K (L2.upd H p (.lst xs)) O (.lst vs) (.ref p) := by
 simp only [Rep]
 exact ⟨p, xs, rfl, w.new n, upd_same, Reps.ext w (Ext.upd n) r⟩
theorem Rep.tup_new (w : WF H O) (n : H p = none) (r : Reps K H O vs xs) : Rep K (L2.upd H p (.tup xs)) O (.tup vs) (.ref p) := by
 simp only [Rep]
 exact ⟨p, xs, rfl, SqT.of upd_same, Reps.ext w (Ext.upd n) r⟩
def Post (K : PySem.W.Frag) (H : Hp) (O : Hid) (v : Val) (Q : VK) : Prop := ∀ x H', Ext H H' → Rep K H' O v x → Q x H'
theorem Post.ext {Q : VK} (h : Post K H O v Q) (e : Ext H H1) : Post K H1 O v Q := fun x H' e' r => h x H' (e.trans e') r
theorem Post.at {Q : VK} (h : Post K H O v Q) (r : Rep K H O v x) : Q x H := h x H Ext.refl r
structure EOk (K : PySem.W.Frag) (H : Hp) (O : Hid) (σ : L2.St) (ρ : VE) : Prop where
 len : ρ.length ≤ σ.length
 get : ∀ (i : Nat) (v : Val), ρ[i]? = some (some v) → ∃ x, σ[i]? = some (some x) ∧ Rep K H O v x
theorem EOk.keep {σ : L2.St} {ρ : VE} {O' : Hid} (h : EOk K H O σ ρ) (w : WF H O) (k : Keep H O H' O') : EOk K H' O' σ ρ :=
 ⟨h.len, fun i v e => let ⟨x, h1, h2⟩ := h.get i v e; ⟨x, h1, Rep.keep w k h2⟩⟩
theorem EOk.ext {σ : L2.St} {ρ : VE} (h : EOk K H O σ ρ) (w : WF H O) (e : Ext H H') : EOk K H' O σ ρ := h.keep w e.keep
theorem EOk.set {σ : L2.St} {ρ : VE} {i : Nat} (h : EOk K H O σ ρ) (r : Rep K H O v x) : EOk K H O (σ.set i (some x)) (ρ.set i (some v)) := by
 refine ⟨by simpa using h.len, fun j u e => ?_⟩
 by_cases hj : i = j
 ·subst hj
  by_cases hl : i < ρ.length
  ·rw [List.getElem?_set_self hl] at e
   cases e
   exact ⟨x, List.getElem?_set_self (Nat.lt_of_lt_of_le hl h.len), r⟩
  ·rw [List.getElem?_eq_none (by simpa using hl)] at e; cases e
 ·rw [List.getElem?_set_ne hj] at e
  obtain ⟨y, h1, h2⟩ := h.get j u e
  exact ⟨y, by rw [List.getElem?_set_ne hj]; exact h1, h2⟩
def tE (K : PySem.W.Frag) (T : Tab) (s : SE) : TE := fun σ H Q => ∃ O ρ v, WF H O ∧ EOk K H O σ ρ ∧ ev T s ρ = .ok v ∧ Post K H O v Q
def tA (K : PySem.W.Frag) (T : Tab) (s : SEs) : TA := fun σ H Q => ∃ O ρ vs, WF H O ∧ EOk K H O σ ρ ∧ evs T s ρ = .ok vs ∧ ∀ xs H', Ext H H' → Reps K H' O vs xs → Q xs H'
def tT (K : PySem.W.Frag) (T : Tab) (s : SE) : TT := fun σ H Q => ∃ O ρ b, WF H O ∧ EOk K H O σ ρ ∧ ev T s ρ = .ok (.bl b) ∧ ∀ H', Ext H H' → Q b H'
def rV (K : PySem.W.Frag) (g : Val → Val → R Val) : R2 := fun x y H Q => ∃ O a b r, WF H O ∧ Rep K H O a x ∧ Rep K H O b y ∧ g a b = .ok r ∧ Post K H O r Q
def rVs (K : PySem.W.Frag) (g : List Val → R Val) : List V → Hp → VK → Prop := fun xs H Q => ∃ O as r, WF H O ∧ Reps K H O as xs ∧ g as = .ok r ∧ Post K H O r Q
end
theorem PE.imp {X : Cx} {e : Expr} {t t' : TE} (h : PE X e t) (i : ∀ σ H Q, t' σ H Q → t σ H Q) : PE X e t' := ⟨fun pins s σ H Q I q => h.run pins s σ H Q I (i σ H Q q)⟩
theorem PT.imp {X : Cx} {e : Expr} {t t' : TT} (h : PT X e t) (i : ∀ σ H Q, t' σ H Q → t σ H Q) : PT X e t' := ⟨fun pins s σ H Q I q => h.run pins s σ H Q I (i σ H Q q)⟩
theorem PW.imp {X : Cx} {e : Expr} {t t' : TT} (h : PW X e t) (i : ∀ σ H Q, t' σ H Q → t σ H Q) : PW X e t' := ⟨fun wh pins s σ H Q I q => h.run wh pins s σ H Q I (i σ H Q q)⟩
theorem PA.imp {X : Cx} {e : List Expr} {t t' : TA} (h : PA X e t) (i : ∀ σ H Q, t' σ H Q → t σ H Q) : PA X e t' := ⟨fun pos pins s σ H Q I q => h.run pos pins s σ H Q I (i σ H Q q)⟩
theorem PS.imp {X : Cx} {e : Stmt} {t t' : TS} (h : PS X e t) (i : ∀ D σ H, t' D σ H → t D σ H) : PS X e t' := ⟨fun pins s σ H D I q => h.run pins s σ H D I (i D σ H q)⟩
theorem PSs.imp {X : Cx} {e : List Stmt} {t t' : TS} (h : PSs X e t) (i : ∀ D σ H, t' D σ H → t D σ H) : PSs X e t' := ⟨fun pins s σ H D I q => h.run pins s σ H D I (i D σ H q)⟩
section
variable {X : Cx}
theorem intBits_le (x : Int) : Builtin.Int.intBits x ≤ x.natAbs.log2 + 1 := by
 unfold Builtin.Int.intBits
 split <;> omega
theorem mulOk_fits {i j : Int} (h : mulOk i j = true) : IntMulOk i j := by
 have h1 := intBits_le i
 have h2 := intBits_le j
 have h3 : i.natAbs.log2 + j.natAbs.log2 < 100000000 := of_decide_eq_true h
 have e : bitsLine = 134217728 := by decide
 unfold IntMulOk
 intro z
 rw [Bool.and_eq_true] at z
 have z2 := of_decide_eq_true (show decide _ = true from z.2)
 omega
theorem lineN_eq : lineN = sizeLine := by unfold lineN; rw [sizeLine_eq]
theorem ipOp_no {K : PySem.W.Frag} {H : Hp} {O : Hid} {aa : Nat → Nat → Nat} {g : Poly → Poly → Poly} {a b r : Val} {x y : V} (e : ipOp aa g a b = .ok r) (ra : Rep K H O a x) (rb : Rep K H O b y) : False := by
 unfold ipOp at e
 split at e
 ·rename_i h
  rw [Bool.or_eq_true] at h
  rcases h with h | h
  ·cases a <;> first | (simp [isSym] at h; done) | (rename_i s; cases s <;> first | (simp [isSym] at h; done) | (simp only [Rep, symRep] at ra))
  ·cases b <;> first | (simp [isSym] at h; done) | (rename_i s; cases s <;> first | (simp [isSym] at h; done) | (simp only [Rep, symRep] at rb))
 ·cases e
theorem sop_add : OpR X (binaryOp .Add) (rV X.K (op2 .add)) := by
 intro pins s σ H x y v u Q I rx ry ⟨O, a, b, r, w, ra, rb, e, q⟩
 simp only [op2] at e
 split at e
 ·cases e
  simp only [Rep] at ra rb
  exact op_add pins s σ H x y v u Q I rx ry ⟨_, _, ra, rb, q.at (by simp only [Rep])⟩
 ·obtain ⟨hl, e⟩ := iok e
  subst e
  simp only [Rep] at ra rb
  obtain ⟨p, xs, rfl, n1, h1, r1⟩ := ra
  obtain ⟨p', ys, rfl, n2, h2, r2⟩ := rb
  refine op_cat pins s σ H _ _ v u Q I rx ry ⟨p, p', xs, ys, rfl, rfl, h1, h2, ?_, fun l n => ?_⟩
  ·rw [r1.length, r2.length, ← lineN_eq]; exact hl
  ·exact q _ _ (Ext.upd n) (Rep.lst_new w n (r1.append r2))
 ·exact (ipOp_no e ra rb).elim
theorem sop_sub : OpR X (binaryOp .Sub) (rV X.K (op2 .sub)) := by
 intro pins s σ H x y v u Q I rx ry ⟨O, a, b, r, w, ra, rb, e, q⟩
 simp only [op2] at e
 split at e
 ·cases e
  simp only [Rep] at ra rb
  exact op_sub pins s σ H x y v u Q I rx ry ⟨_, _, ra, rb, q.at (by simp only [Rep])⟩
 ·exact (ipOp_no e ra rb).elim
theorem Reps.repl {K : PySem.W.Frag} {H : Hp} {O : Hid} {vs : List Val} {xs : List V} (h : Reps K H O vs xs) : ∀ n : Nat, Reps K H O (List.replicate n vs).flatten (List.replicate n xs).flatten
 | 0 => by simp [Reps]
 | n + 1 => by
  rw [List.replicate_succ, List.replicate_succ, List.flatten_cons, List.flatten_cons]
  exact h.append (Reps.repl h n)
theorem sop_mul : OpR X (binaryOp .Mult) (rV X.K (op2 .mul)) := by
 intro pins s σ H x y v u Q I rx ry ⟨O, a, b, r, w, ra, rb, e, q⟩
 simp only [op2] at e
 split at e
 ·obtain ⟨hm, e⟩ := iok e
  subst e
  simp only [Rep] at ra rb
  subst ra rb
  obtain ⟨t, rfl⟩ := rx
  obtain ⟨t', rfl⟩ := ry
  exact mul_int ⟨.int _, H, I.tok _, ⟨_, rfl⟩, q.at (by simp only [Rep])⟩ (mulOk_fits hm)
 ·obtain ⟨hm, e⟩ := iok e
  subst e
  obtain ⟨h1, h2, h3⟩ := of_decide_eq_true hm
  simp only [Rep] at ra rb
  obtain ⟨p, xs, rfl, n1, hp, r1⟩ := ra
  subst rb
  refine op_rep pins s σ H _ _ v u Q I rx ry ⟨p, _, xs, rfl, rfl, hp, h1, h2, ?_, fun l n => ?_⟩
  ·rw [r1.length, ← lineN_eq]; exact h3
  ·exact q _ _ (Ext.upd n) (Rep.lst_new w n (r1.repl _))
 ·exact (ipOp_no e ra rb).elim
theorem sop_fdiv : OpR X (binaryOp .FloorDiv) (rV X.K (op2 .fdiv)) := by
 intro pins s σ H x y v u Q I rx ry ⟨O, a, b, r, w, ra, rb, e, q⟩
 simp only [op2] at e
 split at e
 ·obtain ⟨hm, e⟩ := iok e
  subst e
  obtain ⟨h1, h2⟩ := of_decide_eq_true hm
  simp only [Rep] at ra rb
  subst ra rb
  obtain ⟨t, rfl⟩ := rx
  obtain ⟨t', rfl⟩ := ry
  exact floordiv_int h1 ⟨.int _, H, I.tok _, ⟨_, rfl⟩, q.at (by simp only [Rep])⟩ (.inl (PyProof.noPylong_of_log2 h2))
 ·cases e
theorem sop_mod : OpR X (binaryOp .Mod) (rV X.K (op2 .mod)) := by
 intro pins s σ H x y v u Q I rx ry ⟨O, a, b, r, w, ra, rb, e, q⟩
 simp only [op2] at e
 split at e
 ·split at e
  ·cases e
  ·cases e
   simp only [Rep] at ra rb
   exact op_modN pins s σ H x y v u Q I rx ry ⟨_, _, ra, rb, by assumption, q.at (by simp only [Rep])⟩
 ·cases e
theorem sop_pow : OpR X (binaryOp .Pow) (rV X.K (op2 .pow)) := by
 intro pins s σ H x y v u Q I rx ry ⟨O, a, b, r, w, ra, rb, e, q⟩
 simp only [op2] at e
 split at e
 ·obtain ⟨hm, e⟩ := iok e
  subst e
  simp only [Rep] at ra rb
  have hm' := of_decide_eq_true hm
  exact op_pow pins s σ H x y v u Q I rx ry ⟨_, _, ra, rb, hm', q.at (by simp only [Rep])⟩
 ·cases e
theorem sop_shl : OpR X (binaryOp .LShift) (rV X.K (op2 .shl)) := by
 intro pins s σ H x y v u Q I rx ry ⟨O, a, b, r, w, ra, rb, e, q⟩
 simp only [op2] at e
 split at e
 ·obtain ⟨hm, e⟩ := iok e
  subst e
  simp only [Rep] at ra rb
  have hm' := of_decide_eq_true hm
  exact op_shl pins s σ H x y v u Q I rx ry ⟨_, _, ra, rb, hm', q.at (by simp only [Rep])⟩
 ·cases e
theorem sop_shr : OpR X (binaryOp .RShift) (rV X.K (op2 .shr)) := by
 intro pins s σ H x y v u Q I rx ry ⟨O, a, b, r, w, ra, rb, e, q⟩
 simp only [op2] at e
 split at e
 ·obtain ⟨hm, e⟩ := iok e
  subst e
  simp only [Rep] at ra rb
  exact op_shr pins s σ H x y v u Q I rx ry ⟨_, _, ra, rb, hm, q.at (by simp only [Rep])⟩
 ·cases e
theorem sop_band : OpR X (binaryOp .BitAnd) (rV X.K (op2 .band)) := by
 intro pins s σ H x y v u Q I rx ry ⟨O, a, b, r, w, ra, rb, e, q⟩
 simp only [op2] at e
 split at e
 ·cases e
  simp only [Rep] at ra rb
  exact op_and pins s σ H x y v u Q I rx ry ⟨_, _, ra, rb, q.at (by simp only [Rep])⟩
 ·cases e
theorem firstLt_succ {e r : Nat → Bool} {fin : Bool} : ∀ l : List Nat, PySem.SeqAt.firstLt e r fin (l.map Nat.succ) = PySem.SeqAt.firstLt (fun j => e (j + 1)) (fun j => r (j + 1)) fin l
 | [] => rfl
 | j :: l => by
  show (if e (j + 1) = true then PySem.SeqAt.firstLt e r fin (l.map Nat.succ) else r (j + 1)) = _
  rw [firstLt_succ l]; rfl
theorem firstLt_ge : ∀ ns ms : List Int, PySem.SeqAt.firstLt (fun j => decide (ns.getD j 0 = ms.getD j 0)) (fun j => decide (ms.getD j 0 ≤ ns.getD j 0)) (decide (ns.length ≥ ms.length)) (List.range (min ns.length ms.length)) = !ltL ns ms
 | [], [] => rfl
 | [], m :: ms => by simp [ltL, PySem.SeqAt.firstLt]
 | n :: ns, [] => by simp [ltL, PySem.SeqAt.firstLt]
 | n :: ns, m :: ms => by
  have ih := firstLt_ge ns ms
  rw [show min (n :: ns).length (m :: ms).length = min ns.length ms.length + 1 by simp, List.range_succ_eq_map]
  show (if decide (n = m) = true then PySem.SeqAt.firstLt _ _ _ ((List.range (min ns.length ms.length)).map Nat.succ) else decide (m ≤ n)) = _
  rw [firstLt_succ]
  simp only [List.getD_cons_succ, List.length_cons]
  rw [show (decide (ns.length + 1 ≥ ms.length + 1)) = decide (ns.length ≥ ms.length) by congr 1; simp, ih]
  simp only [ltL]
  by_cases h : n = m
  ·simp [h]
  ·simp only [h, decide_false, Bool.false_eq_true, if_false]
   by_cases h2 : n < m
   ·rw [decide_eq_true h2, decide_eq_false (by omega)]; rfl
   ·rw [decide_eq_false h2, decide_eq_true (by omega)]; rfl
theorem asInts_lst : ∀ {vs : List Val} {ns : List Int}, asInts vs = .ok ns → vs = ns.map Val.int
 | [], ns, h => by simp only [asInts] at h; cases h; rfl
 | v :: vs, ns, h => by
  cases v <;> simp only [asInts] at h <;> first | (cases h; done) | skip
  obtain ⟨s, h1, h⟩ := bok h
  cases h
  rw [asInts_lst h1]; rfl
def rGeL (K : PySem.W.Frag) : R2 := fun x y H Q => ∃ (a b : Addr) (ns ms : List Int), x = .ref a ∧ y = .ref b ∧ SqL K H a (ns.map V.int) ∧ SqL K H b (ms.map V.int) ∧ Q (.bl (!ltL ns ms)) H
theorem op_geL (hu : X.A.units < cLine) : OpR X (compareOp .GtE) (rGeL X.K) := by
 intro pins s σ H x y v u Q I rx ry h
 obtain ⟨a, b, ns, ms, rfl, rfl, ha, hb, q⟩ := h
 cases rx
 cases ry
 obtain ⟨its, r1, p1, _⟩ := I.list ha
 obtain ⟨its2, r2, p2, _⟩ := I.list hb
 have i1 : IntsAre its ns := Vals.ints r1
 have i2 : IntsAre its2 ms := Vals.ints r2
 have e1 : its.toArray.size = ns.length := by rw [List.size_toArray]; exact i1.length
 have e2 : its2.toArray.size = ms.length := by rw [List.size_toArray]; exact i2.length
 have at1 : ∀ j (h1 : j < its.toArray.size), ∃ t, its.toArray[j] = .int (ns.getD j 0) t := fun j h1 => PyProof.Rows.IntsAre.int_at i1 _ _ (by simp at h1; simp [h1])
 have at2 : ∀ j (h1 : j < its2.toArray.size), ∃ t, its2.toArray[j] = .int (ms.getD j 0) t := fun j h1 => PyProof.Rows.IntsAre.int_at i2 _ _ (by simp at h1; simp [h1])
 have R := PySem.SeqAt.RcOp.lists_ge (A := X.A) (s := s) (e := fun j => decide (ns.getD j 0 = ms.getD j 0)) (r := fun j => decide (ms.getD j 0 ≤ ns.getD j 0)) p1.isList p2.isList hu (fun j h1 h2 => by
  obtain ⟨t, et⟩ := at1 j h1
  obtain ⟨t', et'⟩ := at2 j h2
  rw [et, et']
  have z : (ns.getD j 0 == ms.getD j 0) = decide (ns.getD j 0 = ms.getD j 0) := by
   by_cases q : ns.getD j 0 = ms.getD j 0
   ·rw [decide_eq_true q]; exact beq_iff_eq.mpr q
   ·rw [decide_eq_false q]; exact beq_eq_false_iff_ne.mpr q
  rw [← z]
  exact SeqAt.EqAt.int_int _ _ _ _) (fun j h1 h2 _ => by
  obtain ⟨t, et⟩ := at1 j h1
  obtain ⟨t', et'⟩ := at2 j h2
  rw [et, et']
  exact fun _ _ _ _ h => PyProof.Rows.ge_int h)
 rw [e1, e2, firstLt_ge] at R
 have z : wpAny (model X.prog X.w) X.A (compareOp .GtE (.ref a) (.ref b)) (EP X pins σ Q) X.xe s := R X.prog X.w X.xe (EP X pins σ Q) ⟨.bl _, H, I, rfl, q⟩
 exact z
theorem sop_cmp (hu : X.A.units < cLine) {o : Op2} {c : CmpOp} (hc : (o = .lt ∧ c = .Lt) ∨ (o = .le ∧ c = .LtE) ∨ (o = .gt ∧ c = .Gt) ∨ (o = .ge ∧ c = .GtE)) : OpR X (compareOp c) (rV X.K (op2 o)) := by
 intro pins s σ H x y v u Q I rx ry ⟨O, a, b, r, w, ra, rb, e, q⟩
 rcases hc with ⟨rfl, rfl⟩ | ⟨rfl, rfl⟩ | ⟨rfl, rfl⟩ | ⟨rfl, rfl⟩
 ·simp only [op2] at e
  split at e <;> first | (cases e; done) | skip
  simp only [cmpI] at e; cases e; simp only [Rep] at ra rb
  exact op_lt pins s σ H x y v u Q I rx ry ⟨_, _, ra, rb, q.at (by simp only [Rep])⟩
 ·simp only [op2] at e
  split at e <;> first | (cases e; done) | skip
  simp only [cmpI] at e; cases e; simp only [Rep] at ra rb
  exact op_le pins s σ H x y v u Q I rx ry ⟨_, _, ra, rb, q.at (by simp only [Rep])⟩
 ·simp only [op2] at e
  split at e <;> first | (cases e; done) | skip
  simp only [cmpI] at e; cases e; simp only [Rep] at ra rb
  exact op_gt pins s σ H x y v u Q I rx ry ⟨_, _, ra, rb, q.at (by simp only [Rep])⟩
 ·simp only [op2] at e
  split at e <;> first | (cases e; done) | skip
  ·simp only [cmpI] at e; cases e; simp only [Rep] at ra rb
   exact op_ge pins s σ H x y v u Q I rx ry ⟨_, _, ra, rb, q.at (by simp only [Rep])⟩
  ·obtain ⟨ns, h1, e⟩ := bok e
   obtain ⟨ms, h2, e⟩ := bok e
   cases e
   have e1 := asInts_lst h1
   have e2 := asInts_lst h2
   subst e1 e2
   simp only [Rep] at ra rb
   obtain ⟨p, xs, rfl, _, sq, rr⟩ := ra
   obtain ⟨p', ys, rfl, _, sq', rr'⟩ := rb
   rw [Reps.of_ints rr] at sq
   rw [Reps.of_ints rr'] at sq'
   exact op_geL hu pins s σ H _ _ v u Q I rx ry ⟨p, p', ns, ms, rfl, rfl, SqL.of sq, SqL.of sq', q.at (by simp only [Rep])⟩
theorem sop_eq (hu : X.A.units + 64 < cLine) : OpR X (compareOp .Eq) (rV X.K (op2 .eq)) := by
 intro pins s σ H x y v u Q I rx ry ⟨O, a, b, r, w, ra, rb, e, q⟩
 simp only [op2] at e
 by_cases hm : (okD 60 a && okD 60 b) = true
 case neg =>
  rw [if_neg hm] at e
  split at e
  ·rename_i hs
   rw [Bool.and_eq_true] at hs
   exact absurd (by rw [Bool.and_eq_true]; exact ⟨ra.okS 60 hs.1, rb.okS 60 hs.2⟩) hm
  ·cases e
 rw [if_pos hm] at e
 cases e
 rw [Bool.and_eq_true] at hm
 exact op_eqD hu pins s σ H x y v u Q I rx ry ⟨_, _, ra.dp 60 hm.1, rb.dp 60 hm.2, okD_shaped hm.1, okD_shaped hm.2, q.at (by simp only [Rep, veq_def])⟩
theorem sop_ne (hu : X.A.units + 64 < cLine) : OpR X (compareOp .NotEq) (rV X.K (op2 .ne)) := by
 intro pins s σ H x y v u Q I rx ry ⟨O, a, b, r, w, ra, rb, e, q⟩
 simp only [op2] at e
 by_cases hm : (okD 60 a && okD 60 b) = true
 case neg =>
  rw [if_neg hm] at e
  split at e
  ·rename_i hs
   rw [Bool.and_eq_true] at hs
   exact absurd (by rw [Bool.and_eq_true]; exact ⟨ra.okS 60 hs.1, rb.okS 60 hs.2⟩) hm
  ·cases e
 rw [if_pos hm] at e
 cases e
 rw [Bool.and_eq_true] at hm
 exact op_neD hu pins s σ H x y v u Q I rx ry ⟨_, _, ra.dp 60 hm.1, rb.dp 60 hm.2, okD_shaped hm.1, okD_shaped hm.2, q.at (by simp only [Rep, veq_def])⟩
theorem scal_V {K : PySem.W.Frag} {H : Hp} {O : Hid} {v : Val} {x : V} (h : scal v = true) (r : Rep K H O v x) : flatV x = true := by
 cases v <;> simp [scal] at h <;> simp only [Rep] at r <;> subst r <;> rfl
theorem scal_eq {K : PySem.W.Frag} {H : Hp} {O : Hid} {v w : Val} {x y : V} (h : scal v = true) (h' : scal w = true) (r : Rep K H O v x) (r' : Rep K H O w y) : eqV x y = veq v w := by
 cases v <;> simp [scal] at h <;> cases w <;> simp [scal] at h' <;> simp only [Rep] at r r' <;> subst r r' <;> first | rfl | (simp only [veq_def, py, PyData.eqv, eqV]; done) | (simp [veq_def, py, PyData.eqv, eqV, Bool.beq_eq_decide_eq])
theorem scal_any {K : PySem.W.Frag} {H : Hp} {O : Hid} {v : Val} {x : V} (h : scal v = true) (r : Rep K H O v x) : ∀ {vs : List Val} {xs : List V}, vs.all scal = true → Reps K H O vs xs → xs.all flatV = true ∧ inV x xs = vs.any (fun y => veq y v)
 | [], _, _, q => by simp only [Reps] at q; subst q; exact ⟨rfl, rfl⟩
 | u :: vs, _, hv, q => by
  simp only [Reps] at q
  obtain ⟨y, t, rfl, p, q⟩ := q
  simp only [List.all_cons, Bool.and_eq_true] at hv
  obtain ⟨h1, h2⟩ := scal_any h r hv.2 q
  refine ⟨?_, ?_⟩
  ·simp only [List.all_cons, Bool.and_eq_true]; exact ⟨scal_V hv.1 p, h1⟩
  ·unfold inV at h2 ⊢
   rw [List.any_cons, List.any_cons, h2, scal_eq hv.1 h p r]
end
end VM
namespace VM
open PySem PySem.Spec PyProof.Rows L2
variable [Tbl]
def nst : Expr → Bool
 | .Starred _ _ => false
 | _ => true
theorem star_cons {e : Expr} {es : List Expr} {env : Env} (h : nst e = true) : starEach (e :: es) env = (false, eval e env) :: starEach es env := by
 cases e <;> first | rfl | cases h
theorem star_any {env : Env} {pos : Pos} : ∀ {es : List Expr}, es.all nst = true → (backTo pos (starEach es env)).any (·.1) = false
 | [], _ => rfl
 | e :: es, h => by
  simp only [List.all_cons, Bool.and_eq_true] at h
  rw [star_cons h.1]
  show (false || (backTo pos (starEach es env)).any (·.1)) = false
  rw [star_any h.2]; rfl
theorem asg_cons {e : Expr} {es : List Expr} {env : Env} (h : nst e = true) : assignEach (e :: es) env = (false, assign e env) :: assignEach es env := by
 cases e <;> first | rfl | cases h
theorem asg_len {env : Env} : ∀ {es : List Expr}, es.all nst = true → (assignEach es env).length = es.length
 | [], _ => rfl
 | e :: es, h => by
  simp only [List.all_cons, Bool.and_eq_true] at h
  rw [asg_cons h.1, List.length_cons, asg_len h.2, List.length_cons]
theorem asg_star {env : Env} : ∀ {es : List Expr}, es.all nst = true → (assignEach es env).findIdx? (·.1) = none
 | [], _ => rfl
 | e :: es, h => by
  simp only [List.all_cons, Bool.and_eq_true] at h
  rw [asg_cons h.1, List.findIdx?_cons, asg_star h.2]; rfl
section
variable {X : Cx} {T : Tab} {e : Expr} {es : List Expr} {s : SE} {r : SEs}
theorem sA_nil : PA X [] (tA X.K T .nil) := PA.imp pa_nil (fun σ H Q ⟨O, ρ, vs, w, eo, h, q⟩ => by
 simp only [evs] at h; cases h
 exact q [] H Ext.refl Reps.nil)
theorem sA_cons (ha : PE X e (tE X.K T s)) (hr : PA X es (tA X.K T r)) (n : nst e = true) : PA X (e :: es) (tA X.K T (.cons s r)) :=
 PA.imp (pa_cons ha hr (star_cons n)) (fun σ H Q ⟨O, ρ, vs, w, eo, h, q⟩ => by
  simp only [evs] at h
  obtain ⟨v, h1, h⟩ := bok h
  obtain ⟨us, h2, h⟩ := bok h
  cases h
  refine ⟨O, ρ, v, w, eo, h1, fun x H1 e1 r1 => ⟨O, ρ, us, w.ext e1, eo.ext w e1, h2, fun xs H2 e2 r2 => ?_⟩⟩
  exact q _ _ (e1.trans e2) (Reps.cons (r1.ext (w.ext e1) e2) r2))
end
def setsV (σ : L2.St) : List Nat → List V → L2.St
 | i :: is, x :: xs => setsV (σ.set i (some x)) is xs
 | _, _ => σ
section
variable {K : PySem.W.Frag} {H : Hp} {O : Hid}
theorem Reps.split {vs ws : List Val} : ∀ {xs : List V}, Reps K H O (vs ++ ws) xs → ∃ ys zs, xs = ys ++ zs ∧ Reps K H O vs ys ∧ Reps K H O ws zs := by
 induction vs with
 | nil => exact fun {xs} h => ⟨[], xs, rfl, Reps.nil, h⟩
 | cons v vs ih =>
  intro xs h
  simp only [List.cons_append, Reps] at h
  obtain ⟨x, r, rfl, p, q⟩ := h
  obtain ⟨ys, zs, rfl, h1, h2⟩ := ih q
  exact ⟨x :: ys, zs, rfl, Reps.cons p h1, h2⟩
theorem setsV_append : ∀ {is js : List Nat} {xs ys : List V} {σ : L2.St}, is.length = xs.length → setsV σ (is ++ js) (xs ++ ys) = setsV (setsV σ is xs) js ys
 | [], _, [], _, _, _ => rfl
 | [], _, _ :: _, _, _, h => by simp at h
 | _ :: _, _, [], _, _, h => by simp at h
 | i :: is, js, x :: xs, ys, σ, h => by
  show setsV (σ.set i (some x)) (is ++ js) (xs ++ ys) = _
  rw [setsV_append (by simpa using h)]; rfl
theorem EOk.sets : ∀ {bs : List (Nat × Val)} {xs : List V} {σ : L2.St} {ρ : VE}, EOk K H O σ ρ → Reps K H O (bs.map (·.2)) xs → EOk K H O (setsV σ (bs.map (·.1)) xs) (setsE ρ bs)
 | [], _, _, _, h, _ => h
 | (i, v) :: bs, _, σ, ρ, h, r => by
  simp only [List.map_cons, Reps] at r
  obtain ⟨x, t, rfl, p, q⟩ := r
  show EOk K H O (setsV (σ.set i (some x)) (bs.map (·.1)) t) (setsE (ρ.set i (some v)) bs)
  exact EOk.sets (h.set p) q
def gR (K : PySem.W.Frag) (tg : Tg) : TG := fun x σ H Q => ∃ O u bs, WF H O ∧ Rep K H O u x ∧ flatT tg u = .ok bs ∧ ∀ xs, Reps K H O (bs.map (·.2)) xs → Q (setsV σ (bs.map (·.1)) xs) H
def gRs (K : PySem.W.Frag) (tg : Tgs) : TGs := fun ys σ H Q => ∃ O us bs, WF H O ∧ Reps K H O us ys ∧ flatTs tg us = .ok bs ∧ ∀ xs, Reps K H O (bs.map (·.2)) xs → Q (setsV σ (bs.map (·.1)) xs) H
end
theorem PG.imp {X : Cx} {e : Expr} {t t' : TG} (h : PG X e t) (i : ∀ v σ H Q, t' v σ H Q → t v σ H Q) : PG X e t' := ⟨fun pins s σ H v u Q I r q => h.run pins s σ H v u Q I r (i v σ H Q q)⟩
theorem PGs.imp {X : Cx} {e : List Expr} {t t' : TGs} (h : PGs X e t) (i : ∀ v σ H Q, t' v σ H Q → t v σ H Q) : PGs X e t' := ⟨fun pins s σ H v u Q I r q => h.run pins s σ H v u Q I r (i v σ H Q q)⟩
section
variable {X : Cx} {e : Expr} {es : List Expr} {x : Str} {pos : Pos}
theorem sG_nm {i : Nat} (hN : X.N.Nodup) (hi : X.N[i]? = some x) (hx : Loc X.env.scope x) (hf : X.fn x = true ∨ X.env.scope.names.lookup x = some .local) : PG X (.Name x pos) (gR X.K (.nm i)) :=
 PG.imp (pg_name hN hi hx hf) (fun v σ H Q ⟨O, u, bs, w, r, h, q⟩ => by
  simp only [flatT] at h; cases h
  exact q [v] (Reps.cons r Reps.nil))
theorem sGs_nil : PGs X [] (gRs X.K .nil) := PGs.imp pgs_nil (fun v σ H Q ⟨O, u, bs, w, r, h, q⟩ => by
 cases u with
 | nil => simp only [flatTs] at h; cases h; simp only [Reps] at r; exact ⟨r, q [] Reps.nil⟩
 | cons a b => simp only [flatTs] at h; cases h)
theorem sGs_cons {t : Tg} {r : Tgs} (h1 : PG X e (gR X.K t)) (h2 : PGs X es (gRs X.K r)) (n : nst e = true) : PGs X (e :: es) (gRs X.K (.cons t r)) :=
 PGs.imp (pgs_cons h1 h2 (by rw [asg_cons n]; rfl)) (fun v σ H Q ⟨O, us, bs, w, rp, h, q⟩ => by
  cases us with
  | nil => simp only [flatTs] at h; cases h
  | cons a b =>
   simp only [flatTs] at h
   obtain ⟨b1, e1, h⟩ := bok h
   obtain ⟨b2, e2, h⟩ := bok h
   cases h
   simp only [Reps] at rp
   obtain ⟨y, ys, rfl, p, rp⟩ := rp
   refine ⟨y, ys, rfl, O, a, b1, w, p, e1, fun xs hx => ⟨O, b, b2, w, rp, e2, fun zs hz => ?_⟩⟩
   have := q (xs ++ zs) (by rw [List.map_append]; exact hx.append hz)
   rw [List.map_append, setsV_append (by rw [hx.length]; simp)] at this
   exact this)
theorem sG_tp {k : Nat} {ts : Tgs} (hc : X.calm = true) (h : PGs X es (gRs X.K ts)) (n : es.all nst = true) (hl : ∀ us bs, flatTs ts us = .ok bs → us.length = es.length) : PG X (.Tuple es k pos) (gR X.K (.tp ts)) := by
 refine ⟨fun pins s σ H v u Q I r ⟨O, w0, bs, w, rp, hf, q⟩ => ?_⟩
 cases w0 with
 | tup vs =>
  simp only [flatT] at hf
  simp only [Rep] at rp
  obtain ⟨a, xs, rfl, sq, rr⟩ := rp
  refine (pg_tup hc h (n := es.length) (asg_len n) (asg_star n)).run pins s σ H _ u Q I r ⟨a, xs, rfl, sq, ?_, O, vs, bs, w, rr, hf, q⟩
  rw [rr.length]; exact hl _ _ hf
 | lst vs =>
  simp only [flatT] at hf
  simp only [Rep] at rp
  obtain ⟨a, xs, rfl, _, sq, rr⟩ := rp
  refine (pg_unl hc h (n := es.length) (asg_len n) (asg_star n)).run pins s σ H _ u Q I r ⟨a, xs, rfl, SqL.of sq, ?_, O, vs, bs, w, rr, hf, q⟩
  rw [rr.length]; exact hl _ _ hf
 | _ => simp only [flatT] at hf; cases hf
end
def ItOk (K : PySem.W.Frag) (J : It) (H : Hp) (O : Hid) (vs : List Val) : Prop :=
 ∀ (i : Nat) (H' : Hp) (O' : Hid), WF H' O' → Keep H O H' O' → (vs.length ≤ i → J.stop i H') ∧
  ∀ v, vs[i]? = some v → J.go i H' ∧ ∀ x H'', J.yld i H' x H'' → Ext H' H'' ∧ Rep K H'' O' v x
def tI (K : PySem.W.Frag) (T : Tab) (it : SI) : TI := fun σ H Rr => ∃ O ρ vs, WF H O ∧ EOk K H O σ ρ ∧ evI T it ρ = .ok vs ∧ ∀ J H', Ext H H' → ItOk K J H' O vs → Rr J H'
theorem PI.imp {X : Cx} {tg e : Expr} {t t' : TI} (h : PI X tg e t) (i : ∀ σ H Q, t' σ H Q → t σ H Q) : PI X tg e t' := ⟨fun pins s σ H Q I q => h.run pins s σ H Q I (i σ H Q q)⟩
section
variable {K : PySem.W.Frag} {H : Hp} {O : Hid} {a b : Addr} {vs ws : List Val} {xs ys : List V}
theorem it_lst (w : WF H O) (n : ¬ O a) (h : H a = some (.lst xs)) (r : Reps K H O vs xs) : ItOk K (Itl K a) H O vs := by
 intro i H' O' w' k
 obtain ⟨n', h'⟩ := vis_keep k n h
 have r' := Reps.keep w k r
 refine ⟨fun hi => ⟨xs, SqL.of h', by rw [r.length]; exact hi⟩, fun v hv => ?_⟩
 obtain ⟨x, hx, rx⟩ := r'.get hv
 refine ⟨⟨xs, x, SqL.of h', hx⟩, fun y H'' hy => ?_⟩
 obtain ⟨rfl, f⟩ := hy
 have e := f xs (SqL.of h')
 rw [hx] at e; cases e
 exact ⟨Ext.refl, rx⟩
theorem it_tup (w : WF H O) (h : SqT K H a xs) (r : Reps K H O vs xs) : ItOk K (Itt K a) H O vs := by
 intro i H' O' w' k
 have h' := sqT_keep w k h
 have r' := Reps.keep w k r
 refine ⟨fun hi => ⟨xs, h', by rw [r.length]; exact hi⟩, fun v hv => ?_⟩
 obtain ⟨x, hx, rx⟩ := r'.get hv
 refine ⟨⟨xs, x, h', hx⟩, fun y H'' hy => ?_⟩
 obtain ⟨rfl, f⟩ := hy
 have e := f xs h'
 rw [hx] at e; cases e
 exact ⟨Ext.refl, rx⟩
theorem rngC_len (lo c : Int) (n : Nat) : (rngC lo c n).length = n := by simp [rngC]
theorem rngC_get {lo c : Int} {n i : Nat} {v : Val} (h : (rngC lo c n)[i]? = some v) : i < n ∧ v = .int (lo + (i : Int) * c) := by
 unfold rngC at h
 rw [List.getElem?_map] at h
 by_cases hi : i < n
 ·rw [List.getElem?_range hi] at h
  cases h; exact ⟨hi, rfl⟩
 ·rw [List.getElem?_eq_none (by simpa using hi)] at h; cases h
theorem it_rng (lo : Int) (n : Nat) : ItOk K (Itr lo n) H O (rngC lo 1 n) := by
 intro i H' O' w' k
 refine ⟨fun hi => by rw [rngC_len] at hi; exact hi, fun v hv => ?_⟩
 obtain ⟨hi, rfl⟩ := rngC_get hv
 refine ⟨hi, fun y H'' hy => ?_⟩
 obtain ⟨rfl, rfl⟩ := hy
 exact ⟨Ext.refl, by simp only [Rep, Int.mul_one]⟩
theorem it_rngC (lo c : Int) (n : Nat) : ItOk K (Itc lo c n) H O (rngC lo c n) := by
 intro i H' O' w' k
 refine ⟨fun hi => by rw [rngC_len] at hi; exact hi, fun v hv => ?_⟩
 obtain ⟨hi, rfl⟩ := rngC_get hv
 refine ⟨hi, fun y H'' hy => ?_⟩
 obtain ⟨rfl, rfl⟩ := hy
 exact ⟨Ext.refl, by simp only [Rep]⟩
theorem enumV_len : ∀ {vs : List Val} {n : Nat}, (enumV n vs).length = vs.length
 | [], _ => rfl
 | v :: vs, n => by simp [enumV, enumV_len]
theorem enumV_get : ∀ {vs : List Val} {n i : Nat} {v : Val}, (enumV n vs)[i]? = some v → ∃ u, vs[i]? = some u ∧ v = .tup [.int ((n + i : Nat) : Int), u]
 | [], _, _, _, h => by simp [enumV] at h
 | u :: vs, n, 0, v, h => by simp [enumV] at h; exact ⟨u, rfl, h.symm⟩
 | u :: vs, n, i + 1, v, h => by
  simp only [enumV, List.getElem?_cons_succ] at h
  obtain ⟨w, h1, h2⟩ := enumV_get h
  refine ⟨w, by simpa using h1, ?_⟩
  rw [h2]; congr 4 <;> omega
theorem zipV_len : ∀ {vs ws : List Val}, (zipV vs ws).length = min vs.length ws.length
 | [], _ => by simp [zipV]
 | _ :: _, [] => by simp [zipV]
 | v :: vs, w :: ws => by simp only [zipV, List.length_cons, zipV_len]; omega
theorem zipV_get : ∀ {vs ws : List Val} {i : Nat} {v : Val}, (zipV vs ws)[i]? = some v → ∃ x y, vs[i]? = some x ∧ ws[i]? = some y ∧ v = .tup [x, y]
 | [], _, _, _, h => by simp [zipV] at h
 | _ :: _, [], _, _, h => by simp [zipV] at h
 | v :: vs, w :: ws, 0, u, h => by simp [zipV] at h; exact ⟨v, w, rfl, rfl, h.symm⟩
 | v :: vs, w :: ws, i + 1, u, h => by
  simp only [zipV, List.getElem?_cons_succ] at h
  obtain ⟨x, y, h1, h2, h3⟩ := zipV_get h
  exact ⟨x, y, by simpa using h1, by simpa using h2, h3⟩
theorem it_enum (w : WF H O) (n : ¬ O a) (h : H a = some (.lst xs)) (r : Reps K H O vs xs) : ItOk K (Ite K a) H O (enumV 0 vs) := by
 intro i H' O' w' k
 obtain ⟨n', h'⟩ := vis_keep k n h
 have r' := Reps.keep w k r
 refine ⟨fun hi => ⟨xs, SqL.of h', by rw [r.length]; rw [enumV_len] at hi; exact hi⟩, fun v hv => ?_⟩
 obtain ⟨u, hu, rfl⟩ := enumV_get hv
 obtain ⟨x, hx, rx⟩ := r'.get hu
 refine ⟨⟨xs, x, SqL.of h', hx⟩, fun y H'' hy => ?_⟩
 obtain ⟨Ta, x', rfl, nT, rfl, f⟩ := hy
 have e := f xs (SqL.of h')
 rw [hx] at e; cases e
 refine ⟨Ext.upd nT, Rep.tup_new w' nT (Reps.cons (by simp only [Rep, Nat.zero_add]) (Reps.cons rx Reps.nil))⟩
theorem it_zip (w : WF H O) (n : ¬ O a) (h : H a = some (.lst xs)) (r : Reps K H O vs xs) (n2 : ¬ O b) (h2 : H b = some (.lst ys)) (r2 : Reps K H O ws ys) : ItOk K (Itz K a b) H O (zipV vs ws) := by
 intro i H' O' w' k
 obtain ⟨n', h'⟩ := vis_keep k n h
 obtain ⟨n2', h2'⟩ := vis_keep k n2 h2
 have r' := Reps.keep w k r
 have r2' := Reps.keep w k r2
 refine ⟨fun hi => ⟨xs, ys, SqL.of h', SqL.of h2', ?_⟩, fun v hv => ?_⟩
 ·rw [zipV_len] at hi
  rw [r.length, r2.length]; omega
 ·obtain ⟨u1, u2, hu1, hu2, rfl⟩ := zipV_get hv
  obtain ⟨x, hx, rx⟩ := r'.get hu1
  obtain ⟨y, hy, ry⟩ := r2'.get hu2
  refine ⟨⟨xs, ys, x, y, SqL.of h', SqL.of h2', hx, hy⟩, fun z H'' hz => ?_⟩
  obtain ⟨Ta, x', y', rfl, nT, rfl, f1, f2⟩ := hz
  have e := f1 xs (SqL.of h')
  rw [hx] at e; cases e
  have e := f2 ys (SqL.of h2')
  rw [hy] at e; cases e
  exact ⟨Ext.upd nT, Rep.tup_new w' nT (Reps.cons rx (Reps.cons ry Reps.nil))⟩
end
section
variable {X : Cx} {T : Tab} {tg e e2 e3 : Expr} {s s2 s3 : SE}
theorem sI_seq (h : PE X e (tE X.K T s)) : PI X tg e (tI X.K T (.seq s)) := by
 refine ⟨fun pins st σ H Rr I ⟨O, ρ, vs, w, eo, hv, q⟩ => ?_⟩
 simp only [evI] at hv
 obtain ⟨u, hu, hv⟩ := bok hv
 cases u with
 | lst us =>
  simp only [seqV] at hv; cases hv
  refine (pi_list (tg := tg) h).run pins st σ H Rr I ⟨O, ρ, _, w, eo, hu, fun x H1 e1 r1 => ?_⟩
  simp only [Rep] at r1
  obtain ⟨a, xs, rfl, n, ha, r⟩ := r1
  exact ⟨a, rfl, ⟨xs, SqL.of ha⟩, q _ _ e1 (it_lst (w.ext e1) n ha r)⟩
 | tup us =>
  simp only [seqV] at hv; cases hv
  refine (pi_tup (tg := tg) h).run pins st σ H Rr I ⟨O, ρ, _, w, eo, hu, fun x H1 e1 r1 => ?_⟩
  simp only [Rep] at r1
  obtain ⟨a, xs, rfl, ha, r⟩ := r1
  exact ⟨a, rfl, ⟨xs, ha⟩, q _ _ e1 (it_tup (w.ext e1) ha r)⟩
 | _ => simp only [seqV] at hv; cases hv
theorem asInt_ok {v : Val} {i : Int} (h : asInt v = .ok i) : v = .int i := by
 cases v <;> simp only [asInt] at h <;> cases h; rfl
theorem sI_rng1 {p pos : Pos} (hg : Gl X "range") (hm : X.mg "range" = none) (h : PE X e (tE X.K T s)) (n : nst e = true) : PI X tg (.Call (.Name "range" p) [e] [] pos) (tI X.K T (.rng1 s)) :=
 PI.imp (pi_range1 hg hm (sA_cons h sA_nil n) (by rw [star_cons n]; rfl)) (fun σ H Rr ⟨O, ρ, vs, w, eo, hv, q⟩ => by
  simp only [evI] at hv
  obtain ⟨u, hu, hv⟩ := bok hv
  obtain ⟨j, hj, hv⟩ := bok hv
  obtain rfl := asInt_ok hj
  obtain ⟨hs, hv⟩ := iok hv
  subst hv
  refine ⟨O, ρ, [.int j], w, eo, by simp only [evs, hu]; rfl, fun xs H1 e1 r1 => ?_⟩
  simp only [Reps, Rep] at r1
  obtain ⟨x, r, rfl, rfl, rfl⟩ := r1
  have hs' := of_decide_eq_true hs
  exact ⟨j, rfl, by omega, by omega, q _ _ e1 (it_rng 0 _)⟩)
theorem sI_rng2 {p pos : Pos} (hg : Gl X "range") (hm : X.mg "range" = none) (h : PE X e (tE X.K T s)) (n : nst e = true) (h2 : PE X e2 (tE X.K T s2)) (n2 : nst e2 = true) : PI X tg (.Call (.Name "range" p) [e, e2] [] pos) (tI X.K T (.rng2 s s2)) :=
 PI.imp (pi_range2 hg hm (sA_cons h (sA_cons h2 sA_nil n2) n) (by rw [star_cons n, star_cons n2]; rfl) (by rw [star_cons n2]; rfl)) (fun σ H Rr ⟨O, ρ, vs, w, eo, hv, q⟩ => by
  simp only [evI] at hv
  obtain ⟨u, hu, hv⟩ := bok hv
  obtain ⟨u2, hu2, hv⟩ := bok hv
  obtain ⟨i, hi, hv⟩ := bok hv
  obtain ⟨j, hj, hv⟩ := bok hv
  obtain rfl := asInt_ok hj
  obtain rfl := asInt_ok hi
  obtain ⟨hs, hv⟩ := iok hv
  subst hv
  refine ⟨O, ρ, [.int i, .int j], w, eo, by simp only [evs, hu, hu2]; rfl, fun xs H1 e1 r1 => ?_⟩
  simp only [Reps, Rep] at r1
  obtain ⟨x, r, rfl, rfl, y, r', rfl, rfl, rfl⟩ := r1
  have hs' := of_decide_eq_true hs
  exact ⟨i, j, rfl, by omega, q _ _ e1 (it_rng i _)⟩)
theorem rng_size {i j k : Int} (hk : 0 < k) : Builtin.Range.rangeSize i j k = ((rngN i j k : Nat) : Int) := by
 unfold Builtin.Range.rangeSize rngN
 by_cases hij : i < j
 ·have h1 : 0 ≤ j - i + (k - 1) := by omega
  have h2 : 0 ≤ (j - i + (k - 1)) / k := Int.ediv_nonneg h1 (by omega)
  have h3 : (j - i + (k - 1)) / k = (j - i - 1) / k + 1 := by
   rw [show j - i + (k - 1) = (j - i - 1) + k * 1 by omega, Int.add_mul_ediv_left _ _ (by omega)]
  simp [hk, hij]
  rw [Int.max_eq_left (by omega)]
  first
   | omega
   | (rw [Int.fdiv_eq_ediv_of_nonneg _ (by omega)]; omega)
 ·have h1 : (j - i + (k - 1)) / k ≤ 0 := by
   have : (j - i + (k - 1)) / k < 1 := Int.ediv_lt_of_lt_mul hk (by omega)
   omega
  simp [hk, hij]
  omega
theorem small_pos {i j k : Int} (h : smallR i j = true) (hk : 0 < k ∧ k < 1073741824) : Builtin.Range.small i j k = true := by
 have h' := of_decide_eq_true h
 have hsz := rng_size (i := i) (j := j) hk.1
 unfold Builtin.Range.small
 rw [hsz]
 have hn : ((rngN i j k : Nat) : Int) * k ≤ (if i < j then j - i + (k - 1) else 0) := by
  unfold rngN
  have h1 := Int.ediv_mul_le (j - i + (k - 1)) (show k ≠ 0 by omega)
  by_cases hij : i < j
  ·rw [if_pos hij]
   have h2 : 0 ≤ (j - i + (k - 1)) / k := Int.ediv_nonneg (by omega) (by omega)
   rw [Int.toNat_of_nonneg h2]; exact h1
  ·rw [if_neg hij]
   have : (j - i + (k - 1)) / k < 1 := Int.ediv_lt_of_lt_mul hk.1 (by omega)
   have h3 : ((j - i + (k - 1)) / k).toNat = 0 := by omega
   rw [h3]; simp
 have hn0 : 0 ≤ ((rngN i j k : Nat) : Int) * k := Int.mul_nonneg (by omega) (by omega)
 have hn1 : ((rngN i j k : Nat) : Int) ≤ ((rngN i j k : Nat) : Int) * k := by
  have := Int.mul_le_mul_of_nonneg_left (show (1 : Int) ≤ k by omega) (show (0 : Int) ≤ ((rngN i j k : Nat) : Int) by omega)
  omega
 have hN0 : (0 : Int) ≤ ((rngN i j k : Nat) : Int) := by omega
 generalize ((rngN i j k : Nat) : Int) = N at *
 generalize hM : N * k = M at *
 simp only [Builtin.Range.rangeFitsLong, Bool.and_eq_true, Bool.or_eq_true, decide_eq_true_eq, beq_iff_eq, show k > 0 by omega, if_true]
 have e1 : (N - 1) * k = M - k := by rw [Int.sub_mul, hM]; omega
 split at hn <;> (try rw [e1]) <;> (try (simp only [e1])) <;> omega
theorem sI_rng3 {p pos : Pos} (hg : Gl X "range") (hm : X.mg "range" = none) (h : PE X e (tE X.K T s)) (n : nst e = true) (h2 : PE X e2 (tE X.K T s2)) (n2 : nst e2 = true) (h3 : PE X e3 (tE X.K T s3)) (n3 : nst e3 = true) :
  PI X tg (.Call (.Name "range" p) [e, e2, e3] [] pos) (tI X.K T (.rng3 s s2 s3)) :=
 PI.imp (pi_range3 hg hm (sA_cons h (sA_cons h2 (sA_cons h3 sA_nil n3) n2) n) (star_cons n) (star_any (by simp [n2, n3]))) (fun σ H Rr ⟨O, ρ, vs, w, eo, hv, q⟩ => by
  simp only [evI] at hv
  obtain ⟨u, hu, hv⟩ := bok hv
  obtain ⟨u2, hu2, hv⟩ := bok hv
  obtain ⟨u3, hu3, hv⟩ := bok hv
  obtain ⟨i, hi, hv⟩ := bok hv
  obtain ⟨j, hj, hv⟩ := bok hv
  obtain ⟨k, hk, hv⟩ := bok hv
  obtain rfl := asInt_ok hj
  obtain rfl := asInt_ok hi
  obtain rfl := asInt_ok hk
  obtain ⟨hs, hv⟩ := iok hv
  subst hv
  rw [Bool.and_eq_true] at hs
  have hk := of_decide_eq_true hs.2
  refine ⟨O, ρ, [.int i, .int j, .int k], w, eo, by simp only [evs, hu, hu2, hu3]; rfl, fun xs H1 e1 r1 => ?_⟩
  simp only [Reps, Rep] at r1
  obtain ⟨x, r, rfl, rfl, y, r', rfl, rfl, z, r'', rfl, rfl, rfl⟩ := r1
  exact ⟨i, j, k, rngN i j k, rfl, ⟨by omega, by omega, small_pos hs.1 hk, rng_size hk.1⟩, q _ _ e1 (it_rngC i k _)⟩)
theorem sI_enum {p pos tpos : Pos} {elts : List Expr} {kk : Nat} (hg : Gl X "enumerate") (hm : X.mg "enumerate" = none) (h : PE X e (tE X.K T s)) (n : nst e = true) :
  PI X (.Tuple elts kk tpos) (.Call (.Name "enumerate" p) [e] [] pos) (tI X.K T (.enum s)) :=
 PI.imp (pi_enum hg hm (sA_cons h sA_nil n) (by rw [star_cons n]; rfl)) (fun σ H Rr ⟨O, ρ, vs, w, eo, hv, q⟩ => by
  simp only [evI] at hv
  obtain ⟨u, hu, hv⟩ := bok hv
  cases u <;> simp only [enmV] at hv <;> first | (cases hv; done) | skip
  cases hv
  refine ⟨O, ρ, [_], w, eo, by simp only [evs, hu]; rfl, fun xs H1 e1 r1 => ?_⟩
  simp only [Reps, Rep] at r1
  obtain ⟨x, r, rfl, ⟨a, ys, rfl, na, ha, rr⟩, rfl⟩ := r1
  exact ⟨a, ys, rfl, SqL.of ha, q _ _ e1 (it_enum (w.ext e1) na ha rr)⟩)
theorem sI_zip {p pos tpos : Pos} {elts : List Expr} {kk : Nat} (hg : Gl X "zip") (hm : X.mg "zip" = none) (h : PE X e (tE X.K T s)) (n : nst e = true) (h2 : PE X e2 (tE X.K T s2)) (n2 : nst e2 = true) :
  PI X (.Tuple elts kk tpos) (.Call (.Name "zip" p) [e, e2] [] pos) (tI X.K T (.zip s s2)) :=
 PI.imp (pi_zip hg hm (sA_cons h (sA_cons h2 sA_nil n2) n) (star_cons n) (star_any (by simp [n2]))) (fun σ H Rr ⟨O, ρ, vs, w, eo, hv, q⟩ => by
  simp only [evI] at hv
  obtain ⟨u, hu, hv⟩ := bok hv
  obtain ⟨u2, hu2, hv⟩ := bok hv
  cases u <;> simp only [zpV] at hv <;> first | (cases hv; done) | skip
  cases u2 <;> simp only at hv <;> first | (cases hv; done) | skip
  cases hv
  refine ⟨O, ρ, [_, _], w, eo, by simp only [evs, hu, hu2]; rfl, fun xs H1 e1 r1 => ?_⟩
  simp only [Reps, Rep] at r1
  obtain ⟨x, r, rfl, ⟨a, ys, rfl, na, ha, ra⟩, y, r', rfl, ⟨b, zs, rfl, nb, hb, rb⟩, rfl⟩ := r1
  exact ⟨a, b, ys, zs, rfl, SqL.of ha, SqL.of hb, q _ _ e1 (it_zip (w.ext e1) na ha ra nb hb rb)⟩)
end
end VM
set_option maxHeartbeats 4000000
namespace VM
open PySem PySem.Spec PyProof.Rows L2
variable [Tbl]
def Oh (O : Hid) (φ : List Addr) : Hid := fun a => O a ∨ a ∈ φ
mutual
def RepH (K : PySem.W.Frag) (H : Hp) (O : Hid) (φ : List Addr) : HV → V → Prop
 | .p v, x => Rep K H (Oh O φ) v x
 | .r n, x => ∃ a, φ[n]? = some a ∧ x = .ref a
 | .t vs, x => ∃ a xs, x = .ref a ∧ SqT K H a xs ∧ RepHs K H O φ vs xs
def RepHs (K : PySem.W.Frag) (H : Hp) (O : Hid) (φ : List Addr) : List HV → List V → Prop
 | [], xs => xs = []
 | v :: vs, xs => ∃ x r, xs = x :: r ∧ RepH K H O φ v x ∧ RepHs K H O φ vs r
end
def ObH (K : PySem.W.Frag) (H : Hp) (O : Hid) (φ : List Addr) (a : Addr) : HOb → Prop
 | .lst vs => ∃ xs, H a = some (.lst xs) ∧ RepHs K H O φ vs xs
 | .dic false ks vs => ∃ (kvs : List (Key × V)), H a = some (.dK kvs) ∧ ks = kvs.map (fun p => ofKey p.1) ∧ (kvs.map (·.1)).Nodup ∧ RepHs K H O φ vs (kvs.map (·.2))
 | .dic true ks vs => ∃ (kvs : List (NestedKey × Addr × V)), H a = some (DN Tbl.w a kvs) ∧ ks = kvs.map (fun p => valOf p.1) ∧ ((kvs.map (·.1)).Nodup ∧ ∀ p ∈ kvs, p.1.depth ≤ 8) ∧ RepHs K H O φ (ks.map HV.p) (kvs.map fun p => V.ref p.2.1) ∧ RepHs K H O φ vs (kvs.map (·.2.2))
 | .ins c ns vs => ∃ (C dx : Addr) (kvs : List (Str × V)), Tbl.C c = some C ∧ H a = some (.ins C dx kvs) ∧ kvs.map (·.1) = ns ∧ RepHs K H O φ vs (kvs.map (·.2))
structure KeepH (H : Hp) (φ : List Addr) (H' : Hp) (φ' : List Addr) : Prop where
 k : Keep H (fun a => a ∈ φ) H' (fun a => a ∈ φ')
 pre : φ <+: φ'
structure RelH (K : PySem.W.Frag) (H : Hp) (O : Hid) (φ : List Addr) (h : HHp) : Prop where
 wf : WF H O
 len : φ.length = h.length
 nd : φ.Nodup
 out : ∀ a ∈ φ, ¬ O a
 obj : ∀ (n : Nat) (a : Addr) (o : HOb), φ[n]? = some a → h[n]? = some o → ObH K H O φ a o
structure EnvH (K : PySem.W.Frag) (H : Hp) (O : Hid) (φ : List Addr) (σ : L2.St) (ρ : HEnv) : Prop where
 len : ρ.length ≤ σ.length
 get : ∀ (i : Nat) (v : HV), ρ[i]? = some (some v) → ∃ x, σ[i]? = some (some x) ∧ RepH K H O φ v x
section
variable {K : PySem.W.Frag} {H H' H1 : Hp} {O : Hid} {φ φ' φ1 : List Addr} {h h' : HHp} {v : HV} {x : V} {vs ws : List HV} {xs ys : List V} {a p : Addr} {o : HOb} {σ : L2.St} {ρ : HEnv} {n : Nat}
theorem KeepH.refl : KeepH H φ H φ := ⟨Keep.refl, List.prefix_refl _⟩
theorem KeepH.trans (a : KeepH H φ H1 φ1) (b : KeepH H1 φ1 H' φ') : KeepH H φ H' φ' := ⟨a.k.trans b.k, a.pre.trans b.pre⟩
theorem KeepH.ext (e : Ext H H') : KeepH H φ H' φ := ⟨e.keep, List.prefix_refl _⟩
theorem KeepH.oh (k : KeepH H φ H' φ') : Keep H (Oh O φ) H' (Oh O φ') :=
 ⟨fun a o h n nt => k.k.vis a o h (fun z => n (.inr z)) nt, fun a n h => k.k.dom a (fun z => n (.inr z)) h, k.k.tabs, fun a h => h.elim (fun z => .inl (.inl z)) (fun z => (k.k.new a z).imp .inr id)⟩
theorem pre_get (k : φ <+: φ') (h : φ[n]? = some a) : φ'[n]? = some a := by
 obtain ⟨t, rfl⟩ := k
 rw [List.getElem?_append_left (List.getElem?_eq_some_iff.mp h).1]; exact h
theorem ObH.mut (h : ObH K H O φ a o) : ∃ u, H a = some u ∧ MutO u := by
 cases o with
 | lst vs => obtain ⟨xs, h, _⟩ := h; exact ⟨_, h, True.intro⟩
 | dic t ks vs =>
  cases t <;> obtain ⟨kvs, h, _⟩ := h
  ·exact ⟨_, h, True.intro⟩
  ·exact ⟨_, h, _, _, _, rfl⟩
 | ins => obtain ⟨C, dx, kvs, _, h, _⟩ := h; exact ⟨_, h, True.intro⟩
theorem RelH.ob (r : RelH K H O φ h) (h1 : φ[n]? = some a) : ∃ o, h[n]? = some o ∧ ObH K H O φ a o := by
 have hl : n < h.length := by rw [← r.len]; exact (List.getElem?_eq_some_iff.mp h1).1
 exact ⟨h[n], List.getElem?_eq_getElem hl, r.obj n a _ h1 (List.getElem?_eq_getElem hl)⟩
theorem RelH.wfo (r : RelH K H O φ h) : WF H (Oh O φ) := by
 refine ⟨fun a ha => ?_, r.wf.tabs⟩
 rcases ha with ha | ha
 ·exact r.wf a ha
 ·obtain ⟨n, hn, rfl⟩ := List.mem_iff_getElem.mp ha
  obtain ⟨o, _, ho⟩ := r.ob (List.getElem?_eq_getElem hn)
  exact ho.mut
structure KeepO (H : Hp) (O : Hid) (φ : List Addr) (H' : Hp) (O' : Hid) (φ' : List Addr) : Prop where
 k : Keep H (Oh O φ) H' (Oh O' φ')
 pre : φ <+: φ'
theorem KeepH.toO (k : KeepH H φ H' φ') : KeepO H O φ H' O φ' := ⟨k.oh, k.pre⟩
theorem KeepO.trans {O1 O' : Hid} (a : KeepO H O φ H1 O1 φ1) (b : KeepO H1 O1 φ1 H' O' φ') : KeepO H O φ H' O' φ' := ⟨a.k.trans b.k, a.pre.trans b.pre⟩
mutual
theorem RepH.keepO {O' : Hid} (w : WF H (Oh O φ)) (k : KeepO H O φ H' O' φ') : ∀ {v : HV} {x : V}, RepH K H O φ v x → RepH K H' O' φ' v x
 | .p v, _, h => by
  simp only [RepH] at h ⊢
  exact Rep.keep w k.k h
 | .r n, _, h => by
  simp only [RepH] at h ⊢
  obtain ⟨a, h1, h2⟩ := h
  exact ⟨a, pre_get k.pre h1, h2⟩
 | .t vs, _, h => by
  simp only [RepH] at h ⊢
  obtain ⟨a, xs, e, s, r⟩ := h
  exact ⟨a, xs, e, sqT_keep w k.k s, RepHs.keepO w k r⟩
theorem RepHs.keepO {O' : Hid} (w : WF H (Oh O φ)) (k : KeepO H O φ H' O' φ') : ∀ {vs : List HV} {xs : List V}, RepHs K H O φ vs xs → RepHs K H' O' φ' vs xs
 | [], _, h => by simpa only [RepHs] using h
 | v :: vs, _, h => by
  simp only [RepHs] at h ⊢
  obtain ⟨x, r, e, p, q⟩ := h
  exact ⟨x, r, e, RepH.keepO w k p, RepHs.keepO w k q⟩
end
theorem RepH.keep (w : WF H (Oh O φ)) (k : KeepH H φ H' φ') (h : RepH K H O φ v x) : RepH K H' O φ' v x := RepH.keepO w k.toO h
theorem RepHs.keep (w : WF H (Oh O φ)) (k : KeepH H φ H' φ') (h : RepHs K H O φ vs xs) : RepHs K H' O φ' vs xs := RepHs.keepO w k.toO h
theorem RepHs.nil : RepHs K H O φ [] [] := by simp only [RepHs]
theorem RepHs.cons (p : RepH K H O φ v x) (q : RepHs K H O φ vs xs) : RepHs K H O φ (v :: vs) (x :: xs) := by
 simp only [RepHs]; exact ⟨x, xs, rfl, p, q⟩
theorem RepHs.length : ∀ {vs : List HV} {xs : List V}, RepHs K H O φ vs xs → xs.length = vs.length
 | [], _, h => by simp only [RepHs] at h; subst h; rfl
 | v :: vs, _, h => by
  simp only [RepHs] at h
  obtain ⟨x, r, rfl, _, q⟩ := h
  simp [RepHs.length q]
theorem RepHs.get : ∀ {vs : List HV} {xs : List V} {i : Nat} {v : HV}, RepHs K H O φ vs xs → vs[i]? = some v → ∃ x, xs[i]? = some x ∧ RepH K H O φ v x
 | [], _, _, _, _, e => by simp at e
 | v :: vs, _, 0, u, h, e => by
  simp only [RepHs] at h
  obtain ⟨x, r, rfl, p, _⟩ := h
  simp at e; subst e
  exact ⟨x, rfl, p⟩
 | v :: vs, _, i + 1, u, h, e => by
  simp only [RepHs] at h
  obtain ⟨x, r, rfl, _, q⟩ := h
  obtain ⟨y, e1, e2⟩ := RepHs.get q (by simpa using e)
  exact ⟨y, by simpa using e1, e2⟩
theorem RepHs.append : ∀ {vs ws : List HV} {xs ys : List V}, RepHs K H O φ vs xs → RepHs K H O φ ws ys → RepHs K H O φ (vs ++ ws) (xs ++ ys)
 | [], _, _, _, h, g => by simp only [RepHs] at h; subst h; exact g
 | v :: vs, ws, _, ys, h, g => by
  simp only [RepHs] at h
  obtain ⟨x, r, rfl, p, q⟩ := h
  exact RepHs.cons p (RepHs.append q g)
theorem RepHs.set : ∀ {vs : List HV} {xs : List V} (i : Nat), RepHs K H O φ vs xs → RepH K H O φ v x → RepHs K H O φ (vs.set i v) (xs.set i x)
 | [], _, _, h, _ => by simp only [RepHs] at h; subst h; exact RepHs.nil
 | u :: vs, _, 0, h, g => by
  simp only [RepHs] at h
  obtain ⟨y, r, rfl, p, q⟩ := h
  exact RepHs.cons g q
 | u :: vs, _, i + 1, h, g => by
  simp only [RepHs] at h
  obtain ⟨y, r, rfl, p, q⟩ := h
  exact RepHs.cons p (RepHs.set i q g)
theorem RepHs.take : ∀ {vs : List HV} {xs : List V} (i : Nat), RepHs K H O φ vs xs → RepHs K H O φ (vs.take i) (xs.take i)
 | _, _, 0, _ => by simp [RepHs]
 | [], _, i + 1, h => by simp only [RepHs] at h; subst h; exact RepHs.nil
 | u :: vs, _, i + 1, h => by
  simp only [RepHs] at h
  obtain ⟨y, r, rfl, p, q⟩ := h
  exact RepHs.cons p (RepHs.take i q)
theorem RepHs.drop : ∀ {vs : List HV} {xs : List V} (i : Nat), RepHs K H O φ vs xs → RepHs K H O φ (vs.drop i) (xs.drop i)
 | _, _, 0, h => h
 | [], _, i + 1, h => by simp only [RepHs] at h; subst h; exact RepHs.nil
 | u :: vs, _, i + 1, h => by
  simp only [RepHs] at h
  obtain ⟨y, r, rfl, p, q⟩ := h
  exact RepHs.drop i q
theorem RepHs.ofP : ∀ {vs : List Val} {xs : List V}, Reps K H (Oh O φ) vs xs → RepHs K H O φ (vs.map HV.p) xs
 | [], _, h => by simp only [Reps] at h; subst h; exact RepHs.nil
 | v :: vs, _, h => by
  simp only [Reps] at h
  obtain ⟨x, r, rfl, p, q⟩ := h
  exact RepHs.cons (by simp only [RepH]; exact p) (RepHs.ofP q)
theorem RepHs.toP : ∀ {vs : List Val} {xs : List V}, RepHs K H O φ (vs.map HV.p) xs → Reps K H (Oh O φ) vs xs
 | [], _, h => by simpa only [List.map_nil, RepHs, Reps] using h
 | v :: vs, _, h => by
  simp only [List.map_cons, RepHs] at h
  obtain ⟨x, r, rfl, p, q⟩ := h
  exact Reps.cons (by simpa only [RepH] using p) (RepHs.toP q)
theorem ObH.keepO {O' : Hid} (w : WF H (Oh O φ)) (k : KeepO H O φ H' O' φ') (ha : ∀ u, H a = some u → NT u → H' a = some u) (b : ObH K H O φ a o) : ObH K H' O' φ' a o := by
 cases o with
 | lst vs => obtain ⟨xs, h, r⟩ := b; exact ⟨xs, ha _ h True.intro, RepHs.keepO w k r⟩
 | dic t ks vs =>
  cases t
  ·obtain ⟨kvs, h, e, nd, r⟩ := b; exact ⟨kvs, ha _ h True.intro, e, nd, RepHs.keepO w k r⟩
  ·obtain ⟨kvs, h, e, nd, g, r⟩ := b; exact ⟨kvs, ha _ h True.intro, e, nd, RepHs.keepO w k g, RepHs.keepO w k r⟩
 | ins => obtain ⟨C, dx, kvs, hc, h, e, r⟩ := b; exact ⟨C, dx, kvs, hc, ha _ h True.intro, e, RepHs.keepO w k r⟩
theorem ObH.keep (w : WF H (Oh O φ)) (k : KeepH H φ H' φ') (ha : ∀ u, H a = some u → NT u → H' a = some u) (b : ObH K H O φ a o) : ObH K H' O φ' a o := by
 cases o with
 | lst vs => obtain ⟨xs, h, r⟩ := b; exact ⟨xs, ha _ h True.intro, RepHs.keep w k r⟩
 | dic t ks vs =>
  cases t
  ·obtain ⟨kvs, h, e, nd, r⟩ := b; exact ⟨kvs, ha _ h True.intro, e, nd, RepHs.keep w k r⟩
  ·obtain ⟨kvs, h, e, nd, g, r⟩ := b; exact ⟨kvs, ha _ h True.intro, e, nd, RepHs.keep w k g, RepHs.keep w k r⟩
 | ins => obtain ⟨C, dx, kvs, hc, h, e, r⟩ := b; exact ⟨C, dx, kvs, hc, ha _ h True.intro, e, RepHs.keep w k r⟩
theorem RelH.ext (r : RelH K H O φ h) (e : Ext H H') : RelH K H' O φ h :=
 ⟨r.wf.ext e, r.len, r.nd, r.out, fun n a o h1 h2 => (r.obj n a o h1 h2).keep r.wfo (.ext e) (fun u h nt => e.vis a u h nt)⟩
theorem EnvH.keepO {O' : Hid} (g : EnvH K H O φ σ ρ) (w : WF H (Oh O φ)) (k : KeepO H O φ H' O' φ') : EnvH K H' O' φ' σ ρ :=
 ⟨g.len, fun i v e => let ⟨x, h1, h2⟩ := g.get i v e; ⟨x, h1, RepH.keepO w k h2⟩⟩
theorem EnvH.keep (g : EnvH K H O φ σ ρ) (w : WF H (Oh O φ)) (k : KeepH H φ H' φ') : EnvH K H' O φ' σ ρ :=
 ⟨g.len, fun i v e => let ⟨x, h1, h2⟩ := g.get i v e; ⟨x, h1, RepH.keep w k h2⟩⟩
theorem EnvH.set {i : Nat} (g : EnvH K H O φ σ ρ) (r : RepH K H O φ v x) : EnvH K H O φ (σ.set i (some x)) (ρ.set i (some v)) := by
 refine ⟨by simpa using g.len, fun j u e => ?_⟩
 by_cases hj : i = j
 ·subst hj
  by_cases hl : i < ρ.length
  ·rw [List.getElem?_set_self hl] at e
   cases e
   exact ⟨x, List.getElem?_set_self (Nat.lt_of_lt_of_le hl g.len), r⟩
  ·rw [List.getElem?_eq_none (by simpa using hl)] at e; cases e
 ·rw [List.getElem?_set_ne hj] at e
  obtain ⟨y, h1, h2⟩ := g.get j u e
  exact ⟨y, by rw [List.getElem?_set_ne hj]; exact h1, h2⟩
theorem EnvH.sets : ∀ {bs : List (Nat × HV)} {xs : List V} {σ : L2.St} {ρ : HEnv}, EnvH K H O φ σ ρ → RepHs K H O φ (bs.map (·.2)) xs → EnvH K H O φ (setsV σ (bs.map (·.1)) xs) (setsH ρ bs)
 | [], _, _, _, h, _ => h
 | (i, v) :: bs, _, σ, ρ, h, r => by
  simp only [List.map_cons, RepHs] at r
  obtain ⟨x, t, rfl, p, q⟩ := r
  show EnvH K H O φ (setsV (σ.set i (some x)) (bs.map (·.1)) t) (setsH (ρ.set i (some v)) bs)
  exact EnvH.sets (h.set p) q
theorem RelH.alloc (r : RelH K H O φ h) (np : H p = none) (e : Ext H H') (b : ObH K H' O (φ ++ [p]) p o) : RelH K H' O (φ ++ [p]) (h ++ [o]) ∧ KeepH H φ H' (φ ++ [p]) := by
 have np' : p ∉ φ := fun z => by
  obtain ⟨u, e1, _⟩ := r.wfo p (.inr z)
  rw [np] at e1; cases e1
 have k : KeepH H φ H' (φ ++ [p]) := ⟨⟨fun a u hu _ nt => e.vis a u hu nt, fun a _ h => e.dom a h, e.tabs, fun a ha => by
  rw [List.mem_append, List.mem_singleton] at ha
  rcases ha with ha | rfl
  ·exact .inl ha
  ·exact .inr np⟩, List.prefix_append _ _⟩
 refine ⟨⟨r.wf.ext e, by simp [r.len], ?_, fun a ha => ?_, fun n a u h1 h2 => ?_⟩, k⟩
 ·rw [List.nodup_append]
  refine ⟨r.nd, by simp, fun a ha b hb => ?_⟩
  rw [List.mem_singleton] at hb
  subst hb
  exact fun z => np' (z ▸ ha)
 ·rw [List.mem_append, List.mem_singleton] at ha
  rcases ha with ha | rfl
  ·exact r.out a ha
  ·exact r.wf.new np
 ·by_cases hn : n < φ.length
  ·rw [List.getElem?_append_left hn] at h1
   rw [List.getElem?_append_left (by rw [← r.len]; exact hn)] at h2
   exact (r.obj n a u h1 h2).keep r.wfo k (fun z h nt => e.vis a z h nt)
  ·have hl := (List.getElem?_eq_some_iff.mp h1).1
   have hn2 : n = φ.length := by simp at hl; omega
   subst hn2
   rw [List.getElem?_append_right (Nat.le_refl _)] at h1
   rw [List.getElem?_append_right (by rw [r.len]; exact Nat.le_refl _)] at h2
   simp [r.len] at h1 h2
   subst h1 h2
   exact b
theorem nd_inj {l : List Addr} (nd : l.Nodup) {i j : Nat} {a : Addr} (h1 : l[i]? = some a) (h2 : l[j]? = some a) : i = j := by
 exact (List.getElem?_inj (List.getElem?_eq_some_iff.mp h1).1 nd).mp (h1.trans h2.symm)
theorem upd_nn {H : Hp} {a b : Addr} {u : HO} (h : L2.upd H a u b = none) : H b = none := by
 unfold L2.upd at h
 split at h
 ·cases h
 ·exact h
theorem KeepH.upd {u : HO} (ha : a ∈ φ) (hm : ∃ w, H a = some w ∧ MutO w) : KeepH H φ (upd H a u) φ :=
 ⟨⟨fun b w hb nb _ => by rw [upd_ne (show b ≠ a from fun z => nb (by rw [z]; exact ha))]; exact hb, fun b _ h => upd_nn h, fun t => (let ⟨_, h1, h2⟩ := hm; Tabs.upd t h1 h2.ne), fun b hb => .inl hb⟩, List.prefix_refl _⟩
theorem RelH.change {u : HO} {o' : HOb} (r : RelH K H O φ h) (hn : φ[n]? = some a) (ho : h[n]? = some o') (b : ObH K (upd H a u) O φ a o) :
  RelH K (upd H a u) O φ (h.set n o) ∧ KeepH H φ (upd H a u) φ := by
 have hl : n < h.length := (List.getElem?_eq_some_iff.mp ho).1
 have ha : a ∈ φ := List.mem_iff_getElem?.mpr ⟨n, hn⟩
 have hm := r.wfo a (.inr ha)
 have k : KeepH H φ (upd H a u) φ := .upd ha hm
 refine ⟨⟨⟨fun c hc => ?_, k.k.tabs r.wf.tabs⟩, by simpa using r.len, r.nd, r.out, fun m c w h1 h2 => ?_⟩, k⟩
 ·obtain ⟨w, e, m⟩ := r.wf c hc
  exact ⟨w, by rw [upd_ne (show c ≠ a from fun z => r.out a ha (z ▸ hc))]; exact e, m⟩
 ·by_cases hm : n = m
  ·subst hm
   rw [List.getElem?_set_self hl] at h2
   rw [hn] at h1
   cases h1; cases h2
   exact b
  ·rw [List.getElem?_set_ne hm] at h2
   have hne : c ≠ a := fun z => hm (nd_inj r.nd hn (z ▸ h1))
   exact (r.obj m c w h1 h2).keep r.wfo k (fun z hz _ => by rw [upd_ne hne]; exact hz)
theorem KeepO.adopt : KeepO H (fun a => O a ∨ a = p) φ H O (φ ++ [p]) := ⟨⟨fun _ _ h _ _ => h, fun _ _ h => h, id, fun a ha => .inl (by
  rcases ha with ha | ha
  ·exact .inl (.inl ha)
  ·rw [List.mem_append, List.mem_singleton] at ha
   rcases ha with ha | ha
   ·exact .inr ha
   ·exact .inl (.inr ha))⟩, List.prefix_append _ _⟩
theorem RelH.touch {u : HO} (r : RelH K H O φ h) (hp : O p) (m : MutO u) : RelH K (upd H p u) O φ h ∧ KeepO H O φ (upd H p u) O φ := by
 have k : KeepO H O φ (upd H p u) O φ := ⟨⟨fun a w h n _ => by rw [upd_ne (show a ≠ p from fun z => n (.inl (z ▸ hp)))]; exact h, fun b _ h => upd_nn h, fun t => (let ⟨_, h1, h2⟩ := r.wf p hp; Tabs.upd t h1 h2.ne), fun a h => .inl h⟩, List.prefix_refl _⟩
 refine ⟨⟨⟨fun a ha => ?_, k.k.tabs r.wf.tabs⟩, r.len, r.nd, r.out, fun n a o h1 h2 => ?_⟩, k⟩
 ·by_cases e : a = p
  ·subst e; exact ⟨u, upd_same, m⟩
  ·rw [upd_ne e]; exact r.wf a ha
 ·have hne : a ≠ p := fun z => r.out a (List.mem_iff_getElem?.mpr ⟨n, h1⟩) (z ▸ hp)
  exact (r.obj n a o h1 h2).keepO r.wfo k (fun z hz _ => by rw [upd_ne hne]; exact hz)
theorem RelH.adopt (r : RelH K H (fun a => O a ∨ a = p) φ h) (no : ¬ O p) (b : ObH K H O (φ ++ [p]) p o) : RelH K H O (φ ++ [p]) (h ++ [o]) := by
 have w : WF H O := ⟨fun a ha => r.wf a (.inl ha), r.wf.tabs⟩
 have k : KeepO H (fun a => O a ∨ a = p) φ H O (φ ++ [p]) := ⟨⟨fun _ _ h _ _ => h, fun _ _ h => h, id, fun a ha => .inl (by
  rcases ha with ha | ha
  ·exact .inl (.inl ha)
  ·rw [List.mem_append, List.mem_singleton] at ha
   rcases ha with ha | ha
   ·exact .inr ha
   ·exact .inl (.inr ha))⟩, List.prefix_append _ _⟩
 have np : p ∉ φ := fun z => r.out p z (.inr rfl)
 refine ⟨w, by simp [r.len], ?_, fun a ha => ?_, fun n a u h1 h2 => ?_⟩
 ·rw [List.nodup_append]
  refine ⟨r.nd, by simp, fun a ha b hb => ?_⟩
  rw [List.mem_singleton] at hb
  subst hb
  exact fun z => np (z ▸ ha)
 ·rw [List.mem_append, List.mem_singleton] at ha
  rcases ha with ha | rfl
  ·exact fun z => r.out a ha (.inl z)
  ·exact no
 ·by_cases hn : n < φ.length
  ·rw [List.getElem?_append_left hn] at h1
   rw [List.getElem?_append_left (by rw [← r.len]; exact hn)] at h2
   exact (r.obj n a u h1 h2).keepO r.wfo k (fun z e _ => e)
  ·have hl := (List.getElem?_eq_some_iff.mp h1).1
   have hn2 : n = φ.length := by simp at hl; omega
   subst hn2
   rw [List.getElem?_append_right (Nat.le_refl _)] at h1
   rw [List.getElem?_append_right (by rw [r.len]; exact Nat.le_refl _)] at h2
   simp [r.len] at h1 h2
   subst h1 h2
   exact b
theorem RelH.hide {u : HO} (r : RelH K H O φ h) (np : H p = none) (m : MutO u) : RelH K (upd H p u) (fun a => O a ∨ a = p) φ h := by
 have e : Ext H (upd H p u) := Ext.upd np
 have np' : p ∉ φ := fun z => by
  obtain ⟨u, e1, _⟩ := r.wfo p (.inr z)
  rw [np] at e1; cases e1
 have k : KeepO H O φ (upd H p u) (fun a => O a ∨ a = p) φ := ⟨⟨fun a o h _ nt => e.vis a o h nt, fun a _ h => e.dom a h, e.tabs, fun a ha => by
  rcases ha with (ha | rfl) | ha
  ·exact .inl (.inl ha)
  ·exact .inr np
  ·exact .inl (.inr ha)⟩, List.prefix_refl _⟩
 refine ⟨⟨fun a ha => ?_, e.tabs r.wf.tabs⟩, r.len, r.nd, fun a ha z => ?_, fun n a o h1 h2 => (r.obj n a o h1 h2).keepO r.wfo k (fun z h nt => e.vis a z h nt)⟩
 ·rcases ha with ha | rfl
  ·exact r.wf.ext e a ha
  ·exact ⟨u, upd_same, m⟩
 ·rcases z with z | rfl
  ·exact r.out a ha z
  ·exact np' ha
theorem omap_reps {f : HV → Option Val} {O' : Hid} (hf : ∀ v x u, RepH K H O φ v x → f v = some u → Rep K H O' u x) : ∀ {vs : List HV} {xs : List V} {us : List Val}, RepHs K H O φ vs xs → omap f vs = some us → Reps K H O' us xs
 | [], _, us, h, e => by
  simp only [RepHs] at h; simp only [omap] at e; cases e; subst h; exact Reps.nil
 | v :: vs, _, us, h, e => by
  simp only [RepHs] at h
  obtain ⟨x, r, rfl, p, q⟩ := h
  simp only [omap] at e
  split at e
  ·rename_i u hu
   split at e
   ·rename_i us' hus
    cases e
    exact Reps.cons (hf v x u p hu) (omap_reps hf q hus)
   ·cases e
  ·cases e
theorem RelH.deref (r : RelH K H O φ h) : ∀ (k : Nat) (v : HV) (x : V) (u : Val), RepH K H O φ v x → VM.deref h k v = some u → Rep K H O u x
 | 0, _, _, _, _, e => by simp [VM.deref] at e
 | k + 1, .p v, x, u, p, e => by
  simp only [VM.deref] at e; cases e
  simp only [RepH] at p
  exact Rep.keep r.wfo ⟨fun _ _ h _ _ => h, fun _ _ h => h, id, fun _ h => .inl (.inl h)⟩ p
 | k + 1, .r n, x, u, p, e => by
  simp only [RepH] at p
  obtain ⟨a, h1, rfl⟩ := p
  have no : ¬ O a := r.out a (List.mem_iff_getElem?.mpr ⟨n, h1⟩)
  simp only [VM.deref] at e
  split at e
  ·rename_i vs hv
   obtain ⟨xs, hx, rx⟩ := r.obj n a _ h1 hv
   cases hm : omap (VM.deref h k) vs with
   | none => rw [hm] at e; cases e
   | some us =>
    rw [hm] at e; cases e
    simp only [Rep]
    exact ⟨a, xs, rfl, no, hx, omap_reps (fun v x u => r.deref k v x u) rx hm⟩
  ·rename_i t ks vs hv
   cases hm : omap (VM.deref h k) vs with
   | none => rw [hm] at e; cases e
   | some us =>
    rw [hm] at e; cases e
    cases t with
    | false => obtain ⟨kvs, hx, ek, nd, rx⟩ := r.obj n a _ h1 hv; simp only [Rep]; exact ⟨a, kvs, rfl, no, .inl hx, ek, nd, omap_reps (fun v x u => r.deref k v x u) rx hm⟩
    | true => obtain ⟨kvs, hx, ek, nd, gx, rx⟩ := r.obj n a _ h1 hv; simp only [Rep]; exact ⟨a, kvs, rfl, no, hx, ek, nd, Reps.flat (by rw [ek]; exact flats_key kvs) (RepHs.toP gx), omap_reps (fun v x u => r.deref k v x u) rx hm⟩
  ·rename_i c ns vs hv
   cases hm : omap (VM.deref h k) vs with
   | none => rw [hm] at e; cases e
   | some us =>
    rw [hm] at e; cases e
    obtain ⟨C, dx, kvs, hc, hx, ek, rx⟩ := r.obj n a _ h1 hv
    simp only [Rep]
    exact ⟨a, C, dx, kvs, rfl, no, hc, hx, ek, omap_reps (fun v x u => r.deref k v x u) rx hm⟩
  ·cases e
 | k + 1, .t vs, x, u, p, e => by
  simp only [RepH] at p
  obtain ⟨a, xs, rfl, s, rx⟩ := p
  simp only [VM.deref] at e
  cases hm : omap (VM.deref h k) vs with
  | none => rw [hm] at e; cases e
  | some us =>
   rw [hm] at e; cases e
   simp only [Rep]
   exact ⟨a, xs, rfl, s, omap_reps (fun v x u => r.deref k v x u) rx hm⟩
theorem seeG_get {m : List Nat} : ∀ {ρ : HEnv} {k i : Nat}, (seeG m h k ρ)[i]? = (ρ[i]?).map fun o => if m.contains (k + i) then o.bind (VM.deref h 60) else none
 | [], k, i => by simp [seeG]
 | o :: r, k, 0 => by simp [seeG]
 | o :: r, k, i + 1 => by
  simp only [seeG, List.getElem?_cons_succ]
  rw [seeG_get, show k + 1 + i = k + (i + 1) by omega]
theorem seeG_len {m : List Nat} : ∀ {ρ : HEnv} {k : Nat}, (seeG m h k ρ).length = ρ.length
 | [], _ => rfl
 | _ :: r, k => by simp only [seeG, List.length_cons, seeG_len]
theorem EnvH.see (g : EnvH K H O φ σ ρ) (r : RelH K H O φ h) (m : List Nat) : EOk K H O σ (seeH m h ρ) := by
 refine ⟨by rw [seeG_len]; exact g.len, fun i v e => ?_⟩
 rw [seeG_get, Nat.zero_add] at e
 cases hs : ρ[i]? with
 | none => rw [hs] at e; cases e
 | some o =>
  rw [hs] at e
  simp only [Option.map_some, Option.some.injEq] at e
  split at e
  ·cases o with
   | none => cases e
   | some u =>
    obtain ⟨x, h1, h2⟩ := g.get i u hs
    exact ⟨x, h1, r.deref 60 u x v h2 e⟩
  ·cases e
theorem EnvH.seeP (g : EnvH K H O φ σ ρ) {m : List Nat} (hp : onlyP m ρ = true) : EOk K H (Oh O φ) σ (seeH m h ρ) := by
 refine ⟨by rw [seeG_len]; exact g.len, fun i v e => ?_⟩
 rw [seeG_get, Nat.zero_add] at e
 cases hs : ρ[i]? with
 | none => rw [hs] at e; cases e
 | some o =>
  rw [hs] at e
  simp only [Option.map_some, Option.some.injEq] at e
  split at e
  ·rename_i hm
   have := List.all_eq_true.mp hp i (by simpa using hm)
   rw [hs] at this
   cases o with
   | none => cases e
   | some u =>
    cases u with
    | p w =>
     obtain ⟨x, h1, h2⟩ := g.get i _ hs
     simp only [RepH] at h2
     have e' : some w = some v := e
     cases e'
     exact ⟨x, h1, h2⟩
    | r n => cases this
    | t xs => cases this
  ·cases e
end
theorem see_pu {K : PySem.W.Frag} {T : Tab} {H : Hp} {O : Hid} {φ : List Addr} {h : HHp} {σ : L2.St} {ρ : HEnv} {m : List Nat} {s : SE} {v : Val} {Q : VK} (r : RelH K H O φ h) (g : EnvH K H O φ σ ρ) (e : ev T s (seeH m h ρ) = .ok v)
  (hf : (flat v || onlyP m ρ) = true) (q : ∀ x H1, Ext H H1 → RelH K H1 O φ h → RepH K H1 O φ (.p v) x → Q x H1) : tE K T s σ H Q := by
 by_cases hp : onlyP m ρ = true
 ·refine ⟨Oh O φ, _, v, r.wfo, g.seeP hp, e, fun x H1 e1 rx => q x H1 e1 (r.ext e1) ?_⟩
  simp only [RepH]; exact rx
 ·have hfl : flat v = true := by
   rw [Bool.or_eq_true] at hf
   exact hf.resolve_right hp
  refine ⟨O, _, v, r.wf, g.see r m, e, fun x H1 e1 rx => q x H1 e1 (r.ext e1) ?_⟩
  simp only [RepH]; exact Rep.flat hfl rx
theorem see_t {K : PySem.W.Frag} {T : Tab} {H : Hp} {O : Hid} {φ : List Addr} {h : HHp} {σ : L2.St} {ρ : HEnv} {m : List Nat} {s : SE} {b : Bool} {Q : Bool → Hp → Prop} (r : RelH K H O φ h) (g : EnvH K H O φ σ ρ) (e : ev T s (seeH m h ρ) = .ok (.bl b))
  (q : ∀ H1, Ext H H1 → RelH K H1 O φ h → Q b H1) : tT K T s σ H Q :=
 ⟨O, _, b, r.wf, g.see r m, e, fun H1 e1 => q H1 e1 (r.ext e1)⟩
end VM
namespace VM
open PySem PySem.Spec PyProof.Rows L2
variable [Tbl]
theorem keyN_of : ∀ (n : Nat) (v : Val), keyN n v = true → ∃ k : NestedKey, v = valOf k ∧ k.depth ≤ n
 | n, .int i, _ => ⟨.num i, rfl, Nat.zero_le _⟩
 | n, .str s, _ => ⟨.text s, rfl, Nat.zero_le _⟩
 | n + 1, .tup vs, h => by
  have key : ∀ vs : List Val, vs.all (keyN n) = true → ∃ ks : List NestedKey, vs = valsOf ks ∧ NestedKey.depthAll ks ≤ n := by
   intro vs
   induction vs with
   | nil => intro _; exact ⟨[], rfl, Nat.zero_le _⟩
   | cons v vs ih =>
    intro h
    rw [List.all_cons, Bool.and_eq_true] at h
    obtain ⟨k, rfl, hk⟩ := keyN_of n v h.1
    obtain ⟨ks, rfl, hks⟩ := ih h.2
    exact ⟨k :: ks, rfl, by rw [NestedKey.depthAll]; exact Nat.max_le.mpr ⟨hk, hks⟩⟩
  simp only [keyN] at h
  obtain ⟨ks, rfl, hk⟩ := key vs h
  exact ⟨.tup ks, rfl, by rw [NestedKey.depth]; omega⟩
 | 0, .tup _, h => by simp [keyN] at h
 | 0, .non, h => by simp [keyN] at h
 | 0, .bl _, h => by simp [keyN] at h
 | 0, .lst _, h => by simp [keyN] at h
 | 0, .dic _ _ _, h => by simp [keyN] at h
 | 0, .scr _, h => by simp [keyN] at h
 | 0, .sym _, h => by simp [keyN] at h
 | 0, .ins _ _ _, h => by simp [keyN] at h
 | n + 1, .non, h => by simp [keyN] at h
 | n + 1, .bl _, h => by simp [keyN] at h
 | n + 1, .lst _, h => by simp [keyN] at h
 | n + 1, .dic _ _ _, h => by simp [keyN] at h
 | n + 1, .scr _, h => by simp [keyN] at h
 | n + 1, .sym _, h => by simp [keyN] at h
 | n + 1, .ins _ _ _, h => by simp [keyN] at h
theorem keyOk_N {v : Val} (h : keyOk true v = true) : ∃ ks : List NestedKey, v = valOf (.tup ks) ∧ (NestedKey.tup ks).depth ≤ 8 := by
 cases v <;> simp only [keyOk] at h <;> try (cases h; done)
 obtain ⟨k, e, hd⟩ := keyN_of 8 _ h
 cases k <;> simp only [valOf] at e <;> cases e
 exact ⟨_, rfl, hd⟩
section
variable {P : Program} {w : World} {K : PySem.W.Frag} {H : Hp} {O : Hid} {h : Heap}
theorem sqT_tup {a : Addr} {xs : List V} (hok : HOk P w H h) (hk : K.In h) (t : SqT K H a xs) : ∃ o vs n, h.get? a = some o ∧ o.cls = .type "tuple" ∧ o.data = .seq vs n ∧ Vals xs vs.toList := by
 rcases t with t | ⟨o, its, n, h1, h2, h3, _, h4⟩
 ·obtain ⟨_, its, r, o, h1, h2, n, h3⟩ := (show ObjOk P w H h a (.tup xs) from t.ok hok)
  exact ⟨o, its.toArray, n, h1, h2, h3, by simpa using r⟩
 ·exact ⟨o, its, n, hk _ _ h1, h2, h3, h4⟩
mutual
theorem rep_is (hok : HOk P w H h) (hk : K.In h) : ∀ (k : NestedKey) {x : V} {u : Value}, Rep K H O (valOf k) x → RelV x u → NestedIs h k u
 | .none, x, u, r, q => by
  simp only [valOf, Rep] at r; subst r
  cases (show u = .none from q); exact .none
 | .num i, x, u, r, q => by
  simp only [valOf, Rep] at r; subst r
  obtain ⟨t, rfl⟩ := (show ∃ t, u = Value.int i t from q)
  exact .int i t
 | .text s, x, u, r, q => by
  simp only [valOf, Rep] at r; subst r
  obtain ⟨t, rfl⟩ := (show ∃ t, u = Value.str s t from q)
  exact .text s t
 | .tup ks, x, u, r, q => by
  simp only [valOf, Rep] at r
  obtain ⟨a, xs, rfl, t, rr⟩ := r
  cases (show u = Value.ref a from q)
  obtain ⟨o, vs, n, h1, h2, h3, h4⟩ := sqT_tup hok hk t
  exact .tup h1 h2 h3 (reps_is hok hk ks rr h4)
theorem reps_is (hok : HOk P w H h) (hk : K.In h) : ∀ (ks : List NestedKey) {xs : List V} {us : List Value}, Reps K H O (valsOf ks) xs → Vals xs us → NestedAll h ks us
 | [], xs, us, r, q => by
  simp only [valsOf, Reps] at r; subst r
  cases q; exact .nil
 | k :: ks, xs, us, r, q => by
  simp only [valsOf, Reps] at r
  obtain ⟨x, l, rfl, r1, r2⟩ := r
  cases q with
  | cons q1 q2 => exact .cons (rep_is hok hk k r1 q1) (reps_is hok hk ks r2 q2)
end
theorem keys_is (hok : HOk P w H h) (hk : K.In h) : ∀ {kvs : List (NestedKey × Addr × V)}, Reps K H O (kvs.map fun p => valOf p.1) (kvs.map fun p => V.ref p.2.1) → ∀ p ∈ kvs, NestedIs h p.1 (.ref p.2.1)
 | [], _, p, hp => by cases hp
 | q :: r, h, p, hp => by
  simp only [List.map_cons, Reps] at h
  obtain ⟨x, l, e, r1, r2⟩ := h
  cases e
  rcases List.mem_cons.mp hp with rfl | hp
  ·exact rep_is hok hk _ r1 rfl
  ·exact keys_is hok hk r2 p hp
end
section
variable {X : Cx} {pins : List (Addr × Obj)} {σ : L2.St} {H : Hp} {s : Shared} {a b : Addr} {kvs : List (NestedKey × Addr × V)} {k : NestedKey} {v : V} {A : Around} {E : Value → Shared → Prop}
theorem inK (I : Inv X pins σ H s) : X.K.In s.heap := fun b o e => I.bk b o (I.mod.kin b o e)
structure DnOk (X : Cx) (H : Hp) (s : Shared) (a : Addr) (kvs : List (NestedKey × Addr × V)) : Prop where
 at_ : H a = some (DN X.w a kvs)
 is : ∀ p ∈ kvs, (nestedKind X.prog X.w).is s.heap p.1 p.2.1
theorem DnOk.dict (I : Inv X pins σ H s) (d : DnOk X H s a kvs) : kvs.length ≤ sizeLine ∧ (a == sysModules) = false ∧ ∃ xs : List (NestedKey × Addr × Value), Paired dnR kvs xs ∧ s.heap.DictOfH (nestedKind X.prog X.w) a xs := by
 obtain ⟨z, hs, xs, r, o, es, ep, h1, h2, h3, h4, h5⟩ := (show ObjOk X.prog X.w H s.heap a (DN X.w a kvs) from I.hok _ _ d.at_).1
 refine ⟨z, hs, xs, r, o, es, ep, h1, h2, h3, h4, ?_, h5⟩
 have key : ∀ {l : List (NestedKey × Addr × V)} {m : List (NestedKey × Addr × Value)}, Paired dnR l m → (∀ p ∈ l, (nestedKind X.prog X.w).is s.heap p.1 p.2.1) → ∀ x ∈ m, (nestedKind X.prog X.w).is s.heap x.1 x.2.1 := by
  intro l m q
  induction q with
  | nil => intro _ x hx; cases hx
  | @cons p q ps qs hq t ih =>
   intro g x hx
   rcases List.mem_cons.mp hx with rfl | hx
   ·have := g p (List.mem_cons_self ..)
    rw [hq.1, hq.2.1] at this
    exact this
   ·exact ih (fun p hp => g p (List.mem_cons_of_mem _ hp)) x hx
 exact key r d.is
theorem dn_rel {xs : List (NestedKey × Addr × Value)} (r : Paired dnR kvs xs) (k : NestedKey) : RelO (valV (kvs.map fun p => (p.1, p.2.2)) k) ((atKey xs k).map (·.2)) := by
 induction r with
 | nil => exact True.intro
 | @cons p q ps qs hq t ih =>
  obtain ⟨h1, h2, h3⟩ := hq
  by_cases e : p.1 = k
  ·rw [List.map_cons, valV_pos (show ((p.1, p.2.2) : NestedKey × V).1 = k from e)]
   have : atKey (q :: qs) k = some q.2 := by
    unfold atKey
    rw [List.find?_cons_of_pos (by simp [← h1, e])]; rfl
   rw [this]
   exact h3
  ·rw [List.map_cons, valV_neg (show ¬ ((p.1, p.2.2) : NestedKey × V).1 = k from e)]
   have : atKey (q :: qs) k = atKey qs k := by
    unfold atKey
    rw [List.find?_cons_of_neg (by simp [← h1, e])]
   rw [this]
   exact ih
theorem dn_room (hu : A.units + 65 < cLine) : (nestedKind X.prog X.w).room A.in1 := by
 show A.units + 1 + 8 < cLine
 omega
theorem dn_getItem {Q : Value → Shared → Prop} (hu : A.units + 65 < cLine) (I : Inv X pins σ H s) (d : DnOk X H s a kvs) (hk : (nestedKind X.prog X.w).is s.heap k b) (l : valV (kvs.map fun p => (p.1, p.2.2)) k = some v)
  (h : ∀ w' s', Inv X pins σ H s' → RelV v w' → Q w' s') : wpAny (model X.prog X.w) A (getItem (.ref a) (.ref b)) Q E s := by
 obtain ⟨z, hd, xs, rel, dd⟩ := d.dict I
 obtain ⟨w', hw, rw'⟩ := RelO.some_of (v := v) (o := (atKey xs k).map (·.2)) (by rw [← l]; exact dn_rel rel k)
 obtain ⟨p, hp, hp2⟩ := Option.map_eq_some_iff.mp hw
 refine wpAny_getItem_heap (dn_room hu) hk dd hp ?_
 rw [hp2]
 exact h w' _ (I.tok _) rw'
theorem dn_in {Q : Value → Shared → Prop} (hu : A.units + 65 < cLine) (I : Inv X pins σ H s) (d : DnOk X H s a kvs) (hk : (nestedKind X.prog X.w).is s.heap k b)
  (h : ∀ s', Inv X pins σ H s' → Q (.bool (valV (kvs.map fun p => (p.1, p.2.2)) k).isSome) s') : wpAny (model X.prog X.w) A (compareOp .In (.ref b) (.ref a)) Q E s := by
 obtain ⟨z, hd, xs, rel, dd⟩ := d.dict I
 refine wpAny_in_heap (dn_room hu) hk hd dd ?_
 have q := (dn_rel rel k).isSome_eq
 rw [Option.isSome_map] at q
 rw [← q]
 exact h _ (I.tok _)
theorem dn_notIn {Q : Value → Shared → Prop} (hu : A.units + 65 < cLine) (I : Inv X pins σ H s) (d : DnOk X H s a kvs) (hk : (nestedKind X.prog X.w).is s.heap k b)
  (h : ∀ s', Inv X pins σ H s' → Q (.bool (!(valV (kvs.map fun p => (p.1, p.2.2)) k).isSome)) s') : wpAny (model X.prog X.w) A (compareOp .NotIn (.ref b) (.ref a)) Q E s := by
 obtain ⟨z, hd, xs, rel, dd⟩ := d.dict I
 refine wpAny_notIn_heap (dn_room hu) hk hd dd ?_
 have q := (dn_rel rel k).isSome_eq
 rw [Option.isSome_map] at q
 rw [← q]
 exact h _ (I.tok _)
def putN (kvs : List (NestedKey × Addr × V)) (k : NestedKey) (b : Addr) (y : V) : List (NestedKey × Addr × V) :=
 if kvs.any (fun p => decide (p.1 = k)) then kvs.map (fun p => if p.1 = k then (p.1, p.2.1, y) else p) else kvs ++ [(k, b, y)]
theorem putN_len (kvs : List (NestedKey × Addr × V)) (k : NestedKey) (b : Addr) (y : V) : (putN kvs k b y).length ≤ kvs.length + 1 := by
 unfold putN; split <;> simp
theorem putN_rel {xs : List (NestedKey × Addr × Value)} {y : V} {r : Value} (rel : Paired dnR kvs xs) (ry : RelV y r) : Paired dnR (putN kvs k b y) (storedH xs k b r) := by
 have ha : (atKey xs k).isSome = kvs.any (fun p => decide (p.1 = k)) := by
  induction rel with
  | nil => rfl
  | @cons p q ps qs hq t ih =>
   rw [List.any_cons, ← ih]
   unfold atKey
   by_cases e : p.1 = k
   ·rw [List.find?_cons_of_pos (by simp [← hq.1, e])]; simp [e]
   ·rw [List.find?_cons_of_neg (by simp [← hq.1, e])]; simp [e]
 unfold putN storedH
 rw [ha]
 split
 ·clear ha
  rename_i h0
  clear h0
  induction rel with
  | nil => exact .nil
  | @cons p q ps qs hq t ih =>
   refine .cons ?_ ih
   obtain ⟨h1, h2, h3⟩ := hq
   unfold putAt
   by_cases e : p.1 = k
   ·show dnR (if p.1 = k then (p.1, p.2.1, y) else p) (if q.1 = k then (q.1, q.2.1, r) else q)
    rw [if_pos e, if_pos (h1 ▸ e)]; exact ⟨h1, h2, ry⟩
   ·show dnR (if p.1 = k then (p.1, p.2.1, y) else p) (if q.1 = k then (q.1, q.2.1, r) else q)
    rw [if_neg e, if_neg (h1 ▸ e)]; exact ⟨h1, h2, h3⟩
 ·exact rel.snoc ⟨rfl, rfl, ry⟩
theorem dnP_stay {w : World} {h1 h2 : Heap} (x : dnP w a kvs h1) (k : ∀ o, h1.get? a = some o → h2.get? a = some o) : dnP w a kvs h2 := by
 obtain ⟨z, hs, xs, r, o, es, ep, e, t⟩ := x
 exact ⟨z, hs, xs, r, o, es, ep, k _ e, t⟩
theorem dn_ok {P : Program} {w : World} {H' : Hp} {h' : Heap} (x : dnP w a kvs h') : ObjOk P w H' h' a (DN w a kvs) :=
 ⟨x, let ⟨_, _, _, _, o, _, _, e, _⟩ := x; ⟨o, e⟩, fun _ _ y k => dnP_stay y k⟩
theorem dn_setItem {y : V} {r : Value} {Q : Unit → Shared → Prop} (hu : A.units + 65 < cLine) (I : Inv X pins σ H s) (d : DnOk X H s a kvs) (hk : (nestedKind X.prog X.w).is s.heap k b) (hl : kvs.length < sizeLine) (ry : RelV y r)
  (h : ∀ s', Inv X pins σ (upd H a (DN X.w a (putN kvs k b y))) s' → Q () s') : wpAny (model X.prog X.w) A (setItem (.ref a) (.ref b) r) Q E s := by
 obtain ⟨z, hd, xs, rel, dd⟩ := d.dict I
 have hz : xs.length ≤ sizeLine := by rw [← Paired.length rel]; exact z
 refine wpAny_setItem_heap (hsz := hz) (dn_room hu) hk dd fun h' dd' hs => h _ ?_
 obtain ⟨q, es, ep, hq, h2, h3, h4, _, h5⟩ := dd'
 refine d_write I (by rw [d.at_]; exact True.intro) hs ⟨q, hq⟩ (dn_ok ⟨?_, hd, _, putN_rel rel ry, q, es, ep, hq, h2, h3, h4, h5⟩)
 have := putN_len kvs k b y
 omega
theorem dn_empty {w : World} (h : Heap) (hb : sysModules < h.objs.size) : dnP w h.objs.size [] (h.push { cls := .type "dict", data := .dict #[] }) :=
 ⟨Nat.zero_le _, beq_eq_false_iff_ne.mpr (Ne.symm (Nat.ne_of_lt hb)), [], .nil, _, #[], 0, Heap.get?_push_size _ rfl, ⟨rfl, rfl, rfl⟩, rfl, rfl, List.nodup_nil⟩
def tDNewN (w : World) : TE := fun _ H Q => ∀ p, H p = none → Q (.ref p) (upd H p (DN w p []))
theorem pe_dnewN {pos : Pos} : PE X (.Dict [] [] pos) (tDNewN X.w) := ⟨fun pins s σ H Q I h =>
 wpAny_Dict_empty ⟨.ref s.heap.objs.size, _, I.laid (a := s.heap.objs.size) (o := DN X.w s.heap.objs.size []) (t' := s.toks) (fun _ _ q => Heap.get?_push_of_some _ q) (Nat.le_refl _) (dn_ok (dn_empty s.heap I.big)), rfl, h _ (I.hok.fresh (Nat.le_refl _))⟩⟩
theorem DnOk.typeIs (I : Inv X pins σ H s) (d : DnOk X H s a kvs) : s.TypeIs (.ref a) "dict" := by
 obtain ⟨_, _, xs, _, dd⟩ := d.dict I
 exact dd.typeIs
def StR (X : Cx) (rd : V → V → V → Hp → (Hp → Prop) → Prop) : Prop :=
 ∀ (pins : List (Addr × Obj)) (s : Shared) (σ : L2.St) (H : Hp) (x y v : V) (u i r : Value) (Q : Hp → Prop), Inv X pins σ H s → RelV x u → RelV y i → RelV v r → rd x y v H Q →
  wpAny (model X.prog X.w) X.A (setItem u i r) (fun _ s' => ∃ H', Inv X pins σ H' s' ∧ Q H') X.xe s
theorem ps_store {rd : V → V → V → Hp → (Hp → Prop) → Prop} (hst : StR X rd) {o i value : Expr} {pos pos' : Pos} {td ty tv : TE} (ho : PE X o td) (hi : PE X i ty) (hv : PE X value tv) (hs : swapsWith value (some (.Subscript o i pos')) pos.line X.env = pure false) :
  PS X (.Assign [.Subscript o i pos'] value pos) (fun D σ H => tv σ H fun v H1 => td σ H1 fun x H2 => ty σ H2 fun y H3 => rd x y v H3 fun H4 => D.nx σ H4) := by
 refine ⟨fun pins s σ H D I h => ?_⟩
 refine wpAny_Assign_Subscript (thn (hv.run pins s σ H _ I h) fun r s1 ⟨v, H1, I1, rv, q1⟩ => thn (ho.run pins s1 σ H1 _ I1 q1) fun u s2 ⟨x, H2, I2, rx, q2⟩ => thn (hi.run pins s2 σ H2 _ I2 q2) fun iv s3 ⟨y, H3, I3, ry, q3⟩ => ?_) hs
 exact wpAny_mono (hst pins s3 σ H3 x y v u iv r _ I3 rx ry rv q3) (fun _ s4 ⟨H4, I4, q⟩ => ⟨σ, H4, I4, q⟩) fun _ _ e => e
def rdSt (K : PySem.W.Frag) (x y v : V) (H : Hp) (Q : Hp → Prop) : Prop :=
 (∃ a H', x = .ref a ∧ DPut H a y v H' ∧ Q H') ∨
 ∃ (a b : Addr) (kvs : List (NestedKey × Addr × V)) (k : NestedKey) (O O' : Hid), x = .ref a ∧ y = .ref b ∧ H a = some (DN Tbl.w a kvs) ∧ (∀ p ∈ kvs, p.1.depth ≤ 8) ∧ Reps K H O (kvs.map fun p => valOf p.1) (kvs.map fun p => V.ref p.2.1) ∧
  Rep K H O' (valOf k) (.ref b) ∧ k.depth ≤ 8 ∧ kvs.length < sizeLine ∧ Q (upd H a (DN Tbl.w a (putN kvs k b v)))
theorem dn_of {O : Hid} (hw : X.w = Tbl.w) (I : Inv X pins σ H s) (ha : H a = some (DN Tbl.w a kvs)) (hd : ∀ p ∈ kvs, p.1.depth ≤ 8) (hr : Reps X.K H O (kvs.map fun p => valOf p.1) (kvs.map fun p => V.ref p.2.1)) : DnOk X H s a kvs :=
 ⟨by rw [hw]; exact ha, fun p hp => ⟨keys_is I.hok (inK I) hr p hp, hd p hp⟩⟩
theorem str_ok (hw : X.w = Tbl.w) (hu : X.A.units + 65 < cLine) : StR X (rdSt X.K) := by
 intro pins s σ H x y v u i r Q I rx ry rv h
 rcases h with ⟨a, H', rfl, g, q⟩ | ⟨a, b, kvs, k, O, O', rfl, rfl, ha, hd, hr, hk, hkd, hl, q⟩
 ·obtain rfl : u = Value.ref a := rx
  exact d_setItem (by omega) I g ry rv fun s4 I4 => ⟨_, I4, q⟩
 ·obtain rfl : u = Value.ref a := rx
  obtain rfl : i = Value.ref b := ry
  exact dn_setItem hu I (dn_of hw I ha hd hr) ⟨rep_is I.hok (inK I) k hk rfl, hkd⟩ hl rv fun s4 I4 => ⟨_, I4, by rw [hw]; exact q⟩
theorem putN_putK (kvs : List (NestedKey × Addr × V)) (k : NestedKey) (b : Addr) (y : V) : (putN kvs k b y).map (fun p => (p.1, p.2.2)) = putK (kvs.map fun p => (p.1, p.2.2)) k y := by
 unfold putN putK
 rw [List.any_map]
 have : (fun kv : NestedKey × V => decide (kv.1 = k)) ∘ (fun p : NestedKey × Addr × V => (p.1, p.2.2)) = fun p => decide (p.1 = k) := rfl
 rw [this]
 split
 ·rw [List.map_map, List.map_map]
  refine List.map_congr_left fun p _ => ?_
  by_cases e : p.1 = k <;> simp [e]
 ·simp
theorem putN_keys {K : PySem.W.Frag} {O : Hid} {y : V} (hk : Rep K H O (valOf k) (.ref b)) : ∀ {kvs : List (NestedKey × Addr × V)}, Reps K H O (kvs.map fun p => valOf p.1) (kvs.map fun p => V.ref p.2.1) →
  Reps K H O ((putN kvs k b y).map fun p => valOf p.1) ((putN kvs k b y).map fun p => V.ref p.2.1) := by
 intro kvs h
 unfold putN
 split
 ·rw [List.map_map, List.map_map]
  have e1 : kvs.map ((fun p => valOf p.1) ∘ fun p => if p.1 = k then (p.1, p.2.1, y) else p) = kvs.map fun p => valOf p.1 := List.map_congr_left fun p _ => by
   by_cases e : p.1 = k <;> simp [e]
  have e2 : kvs.map ((fun p => V.ref p.2.1) ∘ fun p => if p.1 = k then (p.1, p.2.1, y) else p) = kvs.map fun p => V.ref p.2.1 := List.map_congr_left fun p _ => by
   by_cases e : p.1 = k <;> simp [e]
  rw [e1, e2]; exact h
 ·rw [List.map_append, List.map_append]
  exact Reps.append h (Reps.cons hk Reps.nil)
theorem putN_depth {y : V} (hk : k.depth ≤ 8) (h : ∀ p ∈ kvs, p.1.depth ≤ 8) : ∀ p ∈ putN kvs k b y, p.1.depth ≤ 8 := by
 unfold putN
 split
 ·intro p hp
  obtain ⟨q, hq, rfl⟩ := List.mem_map.mp hp
  by_cases e : q.1 = k
  ·rw [if_pos e]; exact h q hq
  ·rw [if_neg e]; exact h q hq
 ·intro p hp
  rcases List.mem_append.mp hp with hp | hp
  ·exact h p hp
  ·rw [List.mem_singleton] at hp; subst hp; exact hk
end
end VM
namespace VM
open PySem PySem.Spec PyProof.Rows L2
variable [Tbl]
section
variable {X : Cx}
theorem valV_rep {K : PySem.W.Frag} {H : Hp} {O : Hid} {κ : Type} [DecidableEq κ] (f : κ → Val) (k : κ) (hf : ∀ a, veq (f a) (f k) = decide (a = k)) : ∀ {kvs : List (κ × V)} {vs : List Val}, Reps K H O vs (kvs.map (·.2)) →
  (match lookD (kvs.map (fun p => f p.1)) vs (f k) with
   | some v => ∃ x, valV kvs k = some x ∧ Rep K H O v x
   | none => valV kvs k = none)
 | [], vs, h => by
  cases vs with
  | nil => rfl
  | cons v vs => simp only [List.map_nil, Reps] at h; obtain ⟨_, _, e, _⟩ := h; cases e
 | p :: kvs, [], h => by simp only [List.map_cons, Reps] at h; cases h
 | p :: kvs, v :: vs, h => by
  simp only [List.map_cons, Reps] at h
  obtain ⟨x, r, e, rv, q⟩ := h
  cases e
  have ih := valV_rep f k hf q
  simp only [List.map_cons, lookD]
  rw [hf p.1]
  by_cases e : p.1 = k
  ·simp only [decide_eq_true e, if_true]
   exact ⟨p.2, valV_pos e, rv⟩
  ·simp only [decide_eq_false e, Bool.false_eq_true, if_false]
   rw [valV_neg e]
   exact ih
theorem veq_key (a k : Key) : veq (ofKey a) (ofKey k) = decide (a = k) := by
 cases a <;> cases k <;> simp [ofKey, veq_def, py, PyData.eqv, Bool.beq_eq_decide_eq]
theorem keyOk_F {v : Val} (h : keyOk false v = true) : ∃ k : Key, v = ofKey k := by
 cases v <;> simp [keyOk] at h
 ·exact ⟨.inl _, rfl⟩
 ·exact ⟨.inr _, rfl⟩
theorem rep_key {K : PySem.W.Frag} {H : Hp} {O : Hid} {k : Key} {x : V} (r : Rep K H O (ofKey k) x) : x = kV k := by
 cases k <;> simp only [ofKey, Rep] at r <;> exact r
theorem dk_get {K : PySem.W.Frag} {H : Hp} {O : Hid} {ks vs : List Val} {x : V} {k : Key} (r : Rep K H O (.dic false ks vs) x) :
  ∃ a o, x = .ref a ∧ DGet H a (kV k) o ∧ (match lookD ks vs (ofKey k) with
   | some v => ∃ y, o = some y ∧ Rep K H O v y
   | none => o = none) := by
 simp only [Rep] at r
 obtain ⟨a, kvs, rfl, n, ha, rfl, nd, rr⟩ := r
 exact ⟨a, valV kvs k, rfl, .inl ⟨kvs, k, ha, rfl, rfl⟩, valV_rep ofKey k (fun a => veq_key a k) rr⟩
theorem sin_core (hw : X.w = Tbl.w) (hu : X.A.units + 65 < cLine) (neg : Bool) : OpR X (compareOp (if neg then .NotIn else .In)) (fun x y H Q => ∃ O a b r, WF H O ∧ Rep X.K H O a x ∧ Rep X.K H O b y ∧ inVal a b = .ok r ∧ Q (.bl (if neg then !r else r)) H) := by
 intro pins s σ H x y v u Q I rx ry ⟨O, a, b, r, w, ra, rb, e, q⟩
 cases b with
 | lst vs =>
  simp only [inVal] at e
  obtain ⟨hm, e⟩ := iok e
  subst e
  rw [Bool.and_eq_true] at hm
  have d2 := rb.dp 60 hm.2
  have da := ra.dp 60 hm.1
  simp only [py] at d2
  have ea : ((pys vs).any fun z => PyData.eqv z (py a)) = vs.any fun y => veq y a := by
   have : ∀ l : List Val, ((pys l).any fun z => PyData.eqv z (py a)) = l.any fun y => veq y a := fun l => by
    induction l with
    | nil => rfl
    | cons z l ih => simp only [pys, List.any_cons, ih, veq_def]
   exact this vs
  have s2 : SeqAt.shaped (.list (pys vs)) = true := okD_shaped hm.2
  cases neg with
  | false =>
   refine op_inD hu pins s σ H x y v u Q I rx ry ⟨_, _, da, d2, okD_shaped hm.1, s2, ?_⟩
   rw [ea]; exact q
  | true =>
   refine op_notInD hu pins s σ H x y v u Q I rx ry ⟨_, _, da, d2, okD_shaped hm.1, s2, ?_⟩
   rw [ea]; exact q
 | tup vs =>
  simp only [inVal] at e
  obtain ⟨hm, e⟩ := iok e
  subst e
  rw [Bool.and_eq_true] at hm
  simp only [Rep] at rb
  obtain ⟨p, xs, rfl, sq, rr⟩ := rb
  obtain ⟨h1, h2⟩ := scal_any hm.1 ra hm.2 rr
  rw [← h2] at q
  cases neg with
  | false => exact op_in_seq pins s σ H x _ v u Q I rx ry ⟨p, xs, rfl, .inr sq, scal_V hm.1 ra, h1, q⟩
  | true => exact op_notIn_seq pins s σ H x _ v u Q I rx ry ⟨p, xs, rfl, .inr sq, scal_V hm.1 ra, h1, q⟩
 | dic t ks vs =>
  simp only [inVal] at e
  obtain ⟨hm, e⟩ := iok e
  subst e
  cases t with
  | true =>
   obtain ⟨kl, rfl, hdk⟩ := keyOk_N hm
   simp only [Rep] at rb
   obtain ⟨p, kvs, rfl, n, ha, rfl, nd, gk, rr⟩ := rb
   have ra0 := ra
   simp only [valOf, Rep] at ra
   obtain ⟨b, xs, rfl, _, _⟩ := ra
   cases (show u = Value.ref p from ry)
   cases (show v = Value.ref b from rx)
   have hl := valV_rep (kvs := kvs.map fun p => (p.1, p.2.2)) valOf (.tup kl) (fun a => veq_N a _) (by rw [List.map_map]; exact rr)
   rw [List.map_map] at hl
   have es : (valV (kvs.map fun p => (p.1, p.2.2)) (.tup kl)).isSome = (lookD (kvs.map fun p => valOf p.1) vs (valOf (.tup kl))).isSome := by
    revert hl
    show (match lookD (kvs.map fun p => valOf p.1) vs (valOf (.tup kl)) with
     | some v => ∃ x, valV (kvs.map fun p => (p.1, p.2.2)) (.tup kl) = some x ∧ Rep X.K H O v x
     | none => valV (kvs.map fun p => (p.1, p.2.2)) (.tup kl) = none) → _
    intro hl
    split at hl
    ·rename_i h; obtain ⟨y, h2, _⟩ := hl; rw [h, h2]; rfl
    ·rename_i h; rw [hl, h]; rfl
   rw [← es] at q
   have d := dn_of hw I ha nd.2 gk
   have hk : (nestedKind X.prog X.w).is s.heap (.tup kl) b := ⟨rep_is I.hok (inK I) (.tup kl) ra0 rfl, hdk⟩
   cases neg with
   | false => exact dn_in hu I d hk fun s3 I3 => ⟨V.bl (valV (kvs.map fun p : NestedKey × Addr × V => (p.1, p.2.2)) (NestedKey.tup kl)).isSome, H, I3, rfl, q⟩
   | true => exact dn_notIn hu I d hk fun s3 I3 => ⟨V.bl (!(valV (kvs.map fun p : NestedKey × Addr × V => (p.1, p.2.2)) (NestedKey.tup kl)).isSome), H, I3, rfl, q⟩
  | false =>
   obtain ⟨k, rfl⟩ := keyOk_F hm
   have ex := rep_key ra
   subst ex
   obtain ⟨p, o, rfl, g, hl⟩ := dk_get (k := k) rb
   have es : o.isSome = (lookD ks vs (ofKey k)).isSome := by
    split at hl
    ·rename_i h; obtain ⟨y, rfl, _⟩ := hl; rw [h]; rfl
    ·rename_i h; subst hl; rw [h]; rfl
   rw [← es] at q
   cases (show u = Value.ref p from ry)
   cases neg with
   | false => exact d_in (by omega) I g rx fun s3 I3 => ⟨.bl o.isSome, H, I3, rfl, q⟩
   | true => exact d_notIn (by omega) I g rx fun s3 I3 => ⟨.bl (!o.isSome), H, I3, rfl, q⟩
 | _ => simp only [inVal] at e; cases e
theorem sop_in (hw : X.w = Tbl.w) (hu : X.A.units + 65 < cLine) : OpR X (compareOp .In) (rV X.K (op2 .inn)) := by
 intro pins s σ H x y v u Q I rx ry ⟨O, a, b, r, w, ra, rb, e, q⟩
 simp only [op2] at e
 obtain ⟨k, h1, e⟩ := bok e
 cases e
 exact sin_core hw hu false pins s σ H x y v u Q I rx ry ⟨O, a, b, k, w, ra, rb, h1, q.at (by simp only [Rep]; rfl)⟩
theorem sop_nin (hw : X.w = Tbl.w) (hu : X.A.units + 65 < cLine) : OpR X (compareOp .NotIn) (rV X.K (op2 .nin)) := by
 intro pins s σ H x y v u Q I rx ry ⟨O, a, b, r, w, ra, rb, e, q⟩
 simp only [op2] at e
 obtain ⟨k, h1, e⟩ := bok e
 cases e
 exact sin_core hw hu true pins s σ H x y v u Q I rx ry ⟨O, a, b, k, w, ra, rb, h1, q.at (by simp only [Rep]; rfl)⟩
theorem atI_rep {K : PySem.W.Frag} {H : Hp} {O : Hid} {vs : List Val} {xs : List V} {i : Int} {v : Val} (r : Reps K H O vs xs) (h : atI vs i = some v) : ∃ x, atI xs i = some x ∧ Rep K H O v x := by
 unfold atI at h ⊢
 rw [r.length]
 cases e : ixN vs.length i with
 | none => rw [e] at h; cases h
 | some j =>
  rw [e] at h
  obtain ⟨x, h1, h2⟩ := r.get (show vs[j]? = some v from h)
  exact ⟨x, h1, h2⟩
theorem ofO_ok {α : Type} {o : Option α} {r : α} (h : ofO o = .ok r) : o = some r := by
 cases o with
 | none => cases h
 | some v => cases h; rfl
theorem ixn_get (hu : X.A.units + 65 < cLine) (hw : X.w = Tbl.w) {value slice : Expr} {pins : List (Addr × Obj)} {s : Shared} {σ : L2.St} {H : Hp} {p b : Addr} {kvs : List (NestedKey × Addr × V)} {k : NestedKey} {t : V} {Q : VK} (I : Inv X pins σ H s) (d : DnOk X H s p kvs)
  (hk : (nestedKind X.prog X.w).is s.heap k b) (l : valV (kvs.map fun p => (p.1, p.2.2)) k = some t) (q : Q t H)
  (hs : subscripted slice false (.ref p) (.ref b) = operate [.ref p, .ref b] (getItem (.ref p) (.ref b))) : wpAny (model X.prog X.w) X.A (subscriptTail value slice (.ref p) (.ref b)) (EP X pins σ Q) X.xe s := by
 have hT := d.typeIs I
 unfold subscriptTail
 refine wpAny_bind ?_
 rw [getitemInPython_of_ne hT.not_modules]
 refine wpAny_bind (wpAny_specialOf hT PySem.F.slot_dict_getitem.lookup ?_)
 have fin : wpAny (model X.prog X.w) X.A (subscripted slice false (.ref p) (.ref b)) (fun r s₃ => wpAny (model X.prog X.w) X.A (letTemporaryGo value (.ref p) r >>= fun _ => pure r) (EP X pins σ Q) X.xe s₃) X.xe s := by
  rw [hs]
  exact wpAny_operating (dn_getItem hu I d hk l fun w' s3 I3 rw' => wpAny_bind (wpAny_letTemporaryGo (wpAny_pure ⟨t, H, I3, rw', q⟩)))
 first
  | exact wpAny_pure (wpAny_bind fin)
  | exact wpAny_bind (wpAny_pure (wpAny_bind fin))
  | exact wpAny_bind fin
theorem six (hw : X.w = Tbl.w) (hu : X.A.units + 65 < cLine) : IxR X (rV X.K ixV) := by
 intro value slice pins s σ H x y v u Q I rx ry ⟨O, a, b, r, w, ra, rb, e, q⟩ hs
 cases a with
 | lst vs =>
  cases b <;> simp only [ixV] at e <;> first | (cases e; done) | skip
  have h1 := ofO_ok e
  simp only [Rep] at ra rb
  obtain ⟨p, xs, rfl, _, sq, rr⟩ := ra
  obtain ⟨t, h2, h3⟩ := atI_rep rr h1
  exact ix_list value slice pins s σ H _ y v u Q I rx ry ⟨p, xs, _, t, rfl, rb, SqL.of sq, h2, q.at h3⟩ hs
 | tup vs =>
  cases b <;> simp only [ixV] at e <;> first | (cases e; done) | skip
  have h1 := ofO_ok e
  simp only [Rep] at ra rb
  obtain ⟨p, xs, rfl, sq, rr⟩ := ra
  obtain ⟨t, h2, h3⟩ := atI_rep rr h1
  exact ix_tup value slice pins s σ H _ y v u Q I rx ry ⟨p, xs, _, t, rfl, rb, sq, h2, q.at h3⟩ hs
 | scr ns =>
  cases b <;> simp only [ixV] at e <;> first | (cases e; done) | skip
  obtain ⟨z, h1, e⟩ := bok e
  have h1 := ofO_ok h1
  cases e
  obtain ⟨p, rfl, sq⟩ := ra.scr_sq
  simp only [Rep] at rb
  refine ix_list value slice pins s σ H _ y v u Q I rx ry ⟨p, _, _, .int z, rfl, rb, sq, ?_, q.at (by simp only [Rep])⟩ hs
  unfold atI at h1 ⊢
  rw [List.length_map]
  cases e2 : ixN ns.length _ with
  | none => rw [e2] at h1; cases h1
  | some j =>
   rw [e2] at h1
   show (ns.map V.int)[j]? = _
   rw [List.getElem?_map, show ns[j]? = some z from h1]; rfl
 | dic t ks vs =>
  have e' : keyOk t b = true ∧ ∃ z, lookD ks vs b = some z ∧ z = r := by
   cases b <;> simp only [ixV] at e <;> (split at e) <;> first | (cases e; done) | exact ⟨by assumption, r, ofO_ok e, rfl⟩
  obtain ⟨hm, z, hz, rfl⟩ := e'
  cases t with
  | true =>
   obtain ⟨kl, rfl, hdk⟩ := keyOk_N hm
   simp only [Rep] at ra
   obtain ⟨p, kvs, rfl, n, ha, rfl, nd, gk, rr⟩ := ra
   have rb0 := rb
   simp only [valOf, Rep] at rb
   obtain ⟨b, xs, rfl, _, _⟩ := rb
   have hl := valV_rep (kvs := kvs.map fun p => (p.1, p.2.2)) valOf (.tup kl) (fun a => veq_N a _) (by rw [List.map_map]; exact rr)
   rw [List.map_map] at hl
   have hl' : ∃ x, valV (kvs.map fun p => (p.1, p.2.2)) (.tup kl) = some x ∧ Rep X.K H O z x := by
    revert hl
    show (match lookD (kvs.map fun p => valOf p.1) vs (valOf (.tup kl)) with
     | some v => ∃ x, valV (kvs.map fun p => (p.1, p.2.2)) (.tup kl) = some x ∧ Rep X.K H O v x
     | none => valV (kvs.map fun p => (p.1, p.2.2)) (.tup kl) = none) → _
    rw [hz]
    exact fun h => h
   obtain ⟨t, ht, rt⟩ := hl'
   cases (show v = Value.ref p from rx)
   cases (show u = Value.ref b from ry)
   have d := dn_of hw I ha nd.2 gk
   have hk : (nestedKind X.prog X.w).is s.heap (.tup kl) b := ⟨rep_is I.hok (inK I) (.tup kl) rb0 rfl, hdk⟩
   exact ixn_get hu hw I d hk ht (q.at rt) hs
  | false =>
   obtain ⟨k, rfl⟩ := keyOk_F hm
   have ex := rep_key rb
   subst ex
   obtain ⟨p, o, rfl, g, hl⟩ := dk_get (k := k) ra
   rw [hz] at hl
   obtain ⟨t, rfl, rt⟩ := hl
   cases (show v = Value.ref p from rx)
   have hT := dict_typeIs I g
   unfold subscriptTail
   refine wpAny_bind ?_
   rw [getitemInPython_of_ne hT.not_modules]
   refine wpAny_bind (wpAny_specialOf hT PySem.F.slot_dict_getitem.lookup ?_)
   have fin : wpAny (model X.prog X.w) X.A (subscripted slice false (.ref p) u) (fun r s₃ => wpAny (model X.prog X.w) X.A (letTemporaryGo value (.ref p) r >>= fun _ => pure r) (EP X pins σ Q) X.xe s₃) X.xe s := by
    rw [hs]
    exact wpAny_operating (d_getItem (by omega) I g ry fun w' s3 I3 rw' => wpAny_bind (wpAny_letTemporaryGo (wpAny_pure ⟨t, H, I3, rw', q.at rt⟩)))
   first
    | exact wpAny_pure (wpAny_bind fin)
    | exact wpAny_bind (wpAny_pure (wpAny_bind fin))
    | exact wpAny_bind fin
 | _ => cases b <;> simp only [ixV] at e <;> cases e
theorem cutL_rep {K : PySem.W.Frag} {H : Hp} {O : Hid} {vs : List Val} {xs : List V} {lo hi : Option Int} (r : Reps K H O vs xs) : Reps K H O (cutL vs lo hi) (cutV xs lo hi) := by
 unfold cutL cutV
 rw [r.length]
 exact (r.drop _).take _
theorem ssl : SlR X (fun x lo hi H Q => ∃ O a r, WF H O ∧ Rep X.K H O a x ∧ slV a lo hi = .ok r ∧ Post X.K H O r Q) := by
 have key : ∀ x lo hi H Q, (∃ O a r, WF H O ∧ Rep X.K H O a x ∧ slV a lo hi = .ok r ∧ Post X.K H O r Q) → rSlL X.K x lo hi H Q := by
  intro x lo hi H Q ⟨O, a, r, w, ra, e, q⟩
  cases a with
  | lst vs =>
   simp only [slV] at e; cases e
   simp only [Rep] at ra
   obtain ⟨p, xs, rfl, n, hp, rr⟩ := ra
   exact ⟨p, xs, rfl, SqL.of hp, fun l nl => q _ _ (Ext.upd nl) (Rep.lst_new w nl (cutL_rep rr))⟩
  | scr ns =>
   simp only [slV] at e; cases e
   obtain ⟨p, rfl, sq⟩ := ra.scr_sq
   exact ⟨p, _, rfl, sq, fun l nl => q _ _ (Ext.upd nl) (Rep.lst_new w nl (cutL_rep (Reps.ints ns)))⟩
  | _ => simp only [slV] at e; cases e
 have h0 := sl_list (X := X)
 unfold SlR at h0 ⊢
 intros
 apply h0 <;> first | assumption | (apply key; assumption)
theorem asInts_ok : ∀ {vs : List Val} {ns : List Int}, asInts vs = .ok ns → vs = ns.map Val.int
 | [], ns, h => by simp only [asInts] at h; cases h; rfl
 | v :: vs, ns, h => by
  cases v <;> simp only [asInts] at h <;> first | (cases h; done) | skip
  obtain ⟨s, h1, h⟩ := bok h
  cases h
  rw [asInts_ok h1]; rfl
theorem asBls_ok : ∀ {vs : List Val} {ns : List Bool}, asBls vs = .ok ns → vs = ns.map Val.bl
 | [], ns, h => by simp only [asBls] at h; cases h; rfl
 | v :: vs, ns, h => by
  cases v <;> simp only [asBls] at h <;> first | (cases h; done) | skip
  obtain ⟨s, h1, h⟩ := bok h
  cases h
  rw [asBls_ok h1]; rfl
theorem rep_ints {K : PySem.W.Frag} {H : Hp} {O : Hid} {ns : List Int} {x : V} (h : Rep K H O (.lst (ns.map Val.int)) x) : ∃ a, x = .ref a ∧ SqL K H a (ns.map V.int) := by
 simp only [Rep] at h
 obtain ⟨a, xs, rfl, _, sq, r⟩ := h
 rw [Reps.of_ints r] at sq
 exact ⟨a, rfl, SqL.of sq⟩
theorem rep_bls {K : PySem.W.Frag} {H : Hp} {O : Hid} {ns : List Bool} {x : V} (h : Rep K H O (.lst (ns.map Val.bl)) x) : ∃ a, x = .ref a ∧ SqL K H a (ns.map V.bl) := by
 simp only [Rep] at h
 obtain ⟨a, xs, rfl, _, sq, r⟩ := h
 rw [Reps.of_bls r] at sq
 exact ⟨a, rfl, SqL.of sq⟩
theorem reps1 {K : PySem.W.Frag} {H : Hp} {O : Hid} {v : Val} {xs : List V} (h : Reps K H O [v] xs) : ∃ x, xs = [x] ∧ Rep K H O v x := by
 simp only [Reps] at h
 obtain ⟨x, r, rfl, p, rfl⟩ := h
 exact ⟨x, rfl, p⟩
theorem reps2 {K : PySem.W.Frag} {H : Hp} {O : Hid} {v v' : Val} {xs : List V} (h : Reps K H O [v, v'] xs) : ∃ x x', xs = [x, x'] ∧ Rep K H O v x ∧ Rep K H O v' x' := by
 simp only [Reps] at h
 obtain ⟨x, r, rfl, p, y, r', rfl, p', rfl⟩ := h
 exact ⟨x, y, rfl, p, p'⟩
theorem insI_perm (x : Int) : ∀ l : List Int, (insI x l).Perm (x :: l)
 | [] => List.Perm.refl _
 | y :: r => by
  unfold insI
  split
  ·exact List.Perm.refl _
  ·exact ((insI_perm x r).cons y).trans (List.Perm.swap x y r)
theorem sortI_perm : ∀ l : List Int, (sortI l).Perm l
 | [] => List.Perm.refl _
 | x :: r => (insI_perm x _).trans ((sortI_perm r).cons x)
theorem insI_sorted (x : Int) : ∀ {l : List Int}, l.Pairwise (· ≤ ·) → (insI x l).Pairwise (· ≤ ·)
 | [], _ => by simp [insI]
 | y :: r, h => by
  unfold insI
  rw [List.pairwise_cons] at h
  split
  ·rename_i hxy
   refine List.pairwise_cons.mpr ⟨fun z hz => ?_, List.pairwise_cons.mpr h⟩
   rcases List.mem_cons.mp hz with rfl | hz
   ·exact hxy
   ·exact Int.le_trans hxy (h.1 z hz)
  ·rename_i hxy
   refine List.pairwise_cons.mpr ⟨fun z hz => ?_, insI_sorted x h.2⟩
   rcases List.mem_cons.mp ((insI_perm x r).mem_iff.mp hz) with rfl | hz
   ·omega
   ·exact h.1 z hz
theorem sortI_sorted : ∀ l : List Int, (sortI l).Pairwise (· ≤ ·)
 | [] => List.Pairwise.nil
 | x :: r => insI_sorted x (sortI_sorted r)
theorem foldmax (r : List Int) : ∀ x : Int, (r.foldl (fun a b => if a < b then b else a) x ∈ x :: r) ∧ ∀ y ∈ x :: r, y ≤ r.foldl (fun a b => if a < b then b else a) x := by
 induction r with
 | nil => intro x; simp
 | cons z r ih =>
  intro x
  simp only [List.foldl_cons]
  by_cases c : x < z
  all_goals (simp only [c, if_true, if_false])
  ·obtain ⟨h1, h2⟩ := ih z
   refine ⟨List.mem_cons_of_mem _ h1, fun y hy => ?_⟩
   have hx := h2 z (List.mem_cons_self ..)
   rcases List.mem_cons.mp hy with e | hy
   ·subst e; omega
   ·exact h2 y hy
  ·obtain ⟨h1, h2⟩ := ih x
   refine ⟨?_, fun y hy => ?_⟩
   ·rcases List.mem_cons.mp h1 with e | e
    ·rw [e]; exact List.mem_cons_self ..
    ·exact List.mem_cons_of_mem _ (List.mem_cons_of_mem _ e)
   have hx := h2 x (List.mem_cons_self ..)
   rcases List.mem_cons.mp hy with e | hy
   ·subst e; omega
   ·rcases List.mem_cons.mp hy with e | hy
    ·subst e; omega
    ·exact h2 y (List.mem_cons_of_mem _ hy)
theorem foldmin (r : List Int) : ∀ x : Int, (r.foldl (fun a b => if b < a then b else a) x ∈ x :: r) ∧ ∀ y ∈ x :: r, r.foldl (fun a b => if b < a then b else a) x ≤ y := by
 induction r with
 | nil => intro x; simp
 | cons z r ih =>
  intro x
  simp only [List.foldl_cons]
  by_cases c : z < x
  all_goals (simp only [c, if_true, if_false])
  ·obtain ⟨h1, h2⟩ := ih z
   refine ⟨List.mem_cons_of_mem _ h1, fun y hy => ?_⟩
   have hx := h2 z (List.mem_cons_self ..)
   rcases List.mem_cons.mp hy with e | hy
   ·subst e; omega
   ·exact h2 y hy
  ·obtain ⟨h1, h2⟩ := ih x
   refine ⟨?_, fun y hy => ?_⟩
   ·rcases List.mem_cons.mp h1 with e | e
    ·rw [e]; exact List.mem_cons_self ..
    ·exact List.mem_cons_of_mem _ (List.mem_cons_of_mem _ e)
   have hx := h2 x (List.mem_cons_self ..)
   rcases List.mem_cons.mp hy with e | hy
   ·subst e; omega
   ·rcases List.mem_cons.mp hy with e | hy
    ·subst e; omega
    ·exact h2 y (List.mem_cons_of_mem _ hy)
theorem cb_len : CallR X (.builtin "len") (rVs X.K (bi1 .len)) := by
 intro pins s σ H xs us Q I rx ⟨O, as, r, w, ra, e, q⟩
 unfold bi1 at e
 split at e <;> first | (cases e; done) | skip
 all_goals (try (rename_i hh; cases hh))
 all_goals (try (cases e; obtain ⟨x, rfl, p⟩ := reps1 ra))
 ·simp only [Rep] at p
  obtain ⟨a, ys, rfl, _, sq, rr⟩ := p
  exact call_len_seq pins s σ H _ us Q I rx ⟨a, ys, rfl, .inl (SqL.of sq), q.at (by simp only [Rep]; rw [rr.length])⟩
 ·obtain ⟨a, rfl, sq⟩ := p.scr_sq
  exact call_len_seq pins s σ H _ us Q I rx ⟨a, _, rfl, .inl sq, q.at (by simp only [Rep, List.length_map])⟩
 ·simp only [Rep] at p
  obtain ⟨a, ys, rfl, sq, rr⟩ := p
  exact call_len_seq pins s σ H _ us Q I rx ⟨a, ys, rfl, .inr sq, q.at (by simp only [Rep]; rw [rr.length])⟩
 ·simp only [Rep] at p
  obtain ⟨a, kvs, rfl, n, ha, rfl, nd, rr⟩ := p
  obtain ⟨u, rfl, ru⟩ := vals1 rx
  cases (show u = Value.ref a from ru)
  exact d_len I ha fun t s' I' => ⟨.int kvs.length, H, I', ⟨t, rfl⟩, q.at (by simp only [Rep, List.length_map])⟩
theorem cb_abs : CallR X (.builtin "abs") (rVs X.K (bi1 .abs)) := by
 intro pins s σ H xs us Q I rx ⟨O, as, r, w, ra, e, q⟩
 unfold bi1 at e
 split at e <;> first | (cases e; done) | skip
 all_goals (try (rename_i hh; cases hh))
 cases e
 obtain ⟨x, rfl, p⟩ := reps1 ra
 simp only [Rep] at p
 exact call_abs pins s σ H _ us Q I rx ⟨_, by rw [p], q.at (by simp only [Rep])⟩
theorem reps_nosym {K : PySem.W.Frag} {H : Hp} {O : Hid} : ∀ {vs : List Val} {xs : List V}, Reps K H O vs xs → vs.any isSym = true → False
 | [], _, _, h => by simp at h
 | v :: vs, _, r, h => by
  simp only [Reps] at r
  obtain ⟨x, l, rfl, p, q⟩ := r
  rw [List.any_cons, Bool.or_eq_true] at h
  rcases h with h | h
  ·cases v <;> first | (simp [isSym] at h; done) | (rename_i s; cases s <;> first | (simp [isSym] at h; done) | (simp only [Rep, symRep] at p))
  ·exact reps_nosym q h
theorem cb_sum (hc : X.calm = true) : CallR X (.builtin "sum") (rVs X.K (bi1 .sum)) := by
 intro pins s σ H xs us Q I rx ⟨O, as, r, w, ra, e, q⟩
 unfold bi1 at e
 split at e <;> first | (cases e; done) | skip
 all_goals (try (rename_i hh; cases hh))
 split at e
 ·rename_i hs
  obtain ⟨x, rfl, p⟩ := reps1 ra
  simp only [Rep] at p
  obtain ⟨_, ys, _, _, _, rr⟩ := p
  exact (reps_nosym rr hs).elim
 obtain ⟨ns, h1, e⟩ := bok e
 cases e
 obtain rfl := asInts_ok h1
 obtain ⟨x, rfl, p⟩ := reps1 ra
 obtain ⟨a, rfl, sq⟩ := rep_ints p
 exact cr_sum hc pins s σ H _ us Q I rx ⟨a, ns, rfl, sq, q.at (by simp only [Rep])⟩
theorem cb_all (hc : X.calm = true) : CallR X (.builtin "all") (rVs X.K (bi1 .all)) := by
 intro pins s σ H xs us Q I rx ⟨O, as, r, w, ra, e, q⟩
 unfold bi1 at e
 split at e <;> first | (cases e; done) | skip
 all_goals (try (rename_i hh; cases hh))
 obtain ⟨ns, h1, e⟩ := bok e
 cases e
 obtain rfl := asBls_ok h1
 obtain ⟨x, rfl, p⟩ := reps1 ra
 obtain ⟨a, rfl, sq⟩ := rep_bls p
 exact cr_all hc pins s σ H _ us Q I rx ⟨a, ns, rfl, sq, q.at (by simp only [Rep])⟩
theorem cb_any (hc : X.calm = true) : CallR X (.builtin "any") (rVs X.K (bi1 .any)) := by
 intro pins s σ H xs us Q I rx ⟨O, as, r, w, ra, e, q⟩
 unfold bi1 at e
 split at e <;> first | (cases e; done) | skip
 all_goals (try (rename_i hh; cases hh))
 obtain ⟨ns, h1, e⟩ := bok e
 cases e
 obtain rfl := asBls_ok h1
 obtain ⟨x, rfl, p⟩ := reps1 ra
 obtain ⟨a, rfl, sq⟩ := rep_bls p
 exact cr_any hc pins s σ H _ us Q I rx ⟨a, ns, rfl, sq, q.at (by simp only [Rep])⟩
theorem cb_max2 (hc : X.calm = true) : CallR X (.builtin "max") (rVs X.K (bi1 .max2)) := by
 intro pins s σ H xs us Q I rx ⟨O, as, r, w, ra, e, q⟩
 unfold bi1 at e
 split at e <;> first | (cases e; done) | skip
 all_goals (try (rename_i hh; cases hh))
 cases e
 obtain ⟨x, y, rfl, p, p'⟩ := reps2 ra
 simp only [Rep] at p p'
 subst p p'
 exact call_max2 hc pins s σ H _ us Q I rx ⟨_, _, rfl, q.at (by simp only [Rep])⟩
theorem cb_min2 (hc : X.calm = true) : CallR X (.builtin "min") (rVs X.K (bi1 .min2)) := by
 intro pins s σ H xs us Q I rx ⟨O, as, r, w, ra, e, q⟩
 unfold bi1 at e
 split at e <;> first | (cases e; done) | skip
 all_goals (try (rename_i hh; cases hh))
 cases e
 obtain ⟨x, y, rfl, p, p'⟩ := reps2 ra
 simp only [Rep] at p p'
 subst p p'
 exact call_min2 hc pins s σ H _ us Q I rx ⟨_, _, rfl, q.at (by simp only [Rep])⟩
theorem maxI_ok {ns : List Int} {m : Int} (h : maxI ns = .ok m) : 0 < ns.length ∧ m ∈ ns ∧ ∀ y ∈ ns, y ≤ m := by
 cases ns with
 | nil => simp only [maxI] at h; cases h
 | cons x r =>
  simp only [maxI] at h
  cases h
  exact ⟨by simp, (foldmax r x).1, (foldmax r x).2⟩
theorem minI_ok {ns : List Int} {m : Int} (h : minI ns = .ok m) : 0 < ns.length ∧ m ∈ ns ∧ ∀ y ∈ ns, m ≤ y := by
 cases ns with
 | nil => simp only [minI] at h; cases h
 | cons x r =>
  simp only [minI] at h
  cases h
  exact ⟨by simp, (foldmin r x).1, (foldmin r x).2⟩
theorem alike_ints (ns : List Int) : PySem.W.AlikeAll (ns.map PyData.int) := by
 constructor
 ·intro x hx y hy
  obtain ⟨a, _, rfl⟩ := List.mem_map.mp hx
  obtain ⟨b, _, rfl⟩ := List.mem_map.mp hy
  rfl
 ·intro x hx
  obtain ⟨a, _, rfl⟩ := List.mem_map.mp hx
  exact fun z => nomatch z
theorem depth_ints : ∀ ns : List Int, PyData.depthAll (ns.map PyData.int) ≤ 1
 | [] => by simp [PyData.depthAll]
 | n :: ns => by
  have := depth_ints ns
  simp only [List.map_cons, PyData.depthAll, PyData.depth]
  omega
theorem foldl_max (x : Int) : ∀ r : List Int, r.foldl max x = r.foldl (fun a b => if a < b then b else a) x := by
 intro r
 have : (max : Int → Int → Int) = fun a b => if a < b then b else a := by
  funext a b
  split <;> omega
 rw [this]
theorem cb_max1 (hc : X.calm = true) (hu : X.A.units + 65 < cLine) : CallR X (.builtin "max") (rVs X.K (bi1 .max1)) := by
 intro pins s σ H xs us Q I rx ⟨O, as, r, w, ra, e, q⟩
 unfold bi1 at e
 split at e <;> first | (cases e; done) | skip
 all_goals (try (rename_i hh; cases hh))
 ·obtain ⟨ns, h1, e⟩ := bok e
  obtain ⟨m, h2, e⟩ := bok e
  cases e
  obtain rfl := asInts_ok h1
  obtain ⟨hl, h3, h4⟩ := maxI_ok h2
  obtain ⟨x, rfl, p⟩ := reps1 ra
  obtain ⟨a, rfl, sq⟩ := rep_ints p
  refine cr_max hc pins s σ H _ us Q I rx ⟨a, ns, rfl, sq, hl, fun k hk hle => ?_⟩
  have e : k = m := Int.le_antisymm (h4 k hk) (hle m h3)
  subst e
  exact q.at (by simp only [Rep])
 ·obtain ⟨ns, h1, e⟩ := bok e
  obtain ⟨m, h2, e⟩ := bok e
  cases e
  obtain rfl := asInts_ok h1
  obtain ⟨x, rfl, p⟩ := reps1 ra
  simp only [Rep] at p
  obtain ⟨a, ys, rfl, sq, rr⟩ := p
  obtain rfl := Reps.of_ints rr
  obtain ⟨its, rv, hl, _⟩ := I.tuple sq
  rw [Vals.ref1 rx]
  cases ns with
  | nil => simp only [maxI] at h2; cases h2
  | cons k ms =>
   have hd : PyData.depthAll ((k :: ms).map PyData.int) ≤ 1 := depth_ints _
   refine PySem.W.max_tuple_data (x := .int k) (xs := ms.map PyData.int) (I.ok.hd hc) (by exact hl) (rv.ints.reads _) (alike_ints (k :: ms)) (by rw [List.map_cons] at hd; omega) (fun i v h' tk bs hv hr hk => ?_)
   rw [PySem.W.maxD_ints] at hr
   cases hr
   simp only [maxI] at h2
   cases h2
   refine ⟨.int _, H, I.kept hk, ⟨_, rfl⟩, q.at ?_⟩
   simp only [Rep]
   rw [foldl_max]
theorem cb_min1 (hc : X.calm = true) : CallR X (.builtin "min") (rVs X.K (bi1 .min1)) := by
 intro pins s σ H xs us Q I rx ⟨O, as, r, w, ra, e, q⟩
 unfold bi1 at e
 split at e <;> first | (cases e; done) | skip
 all_goals (try (rename_i hh; cases hh))
 obtain ⟨ns, h1, e⟩ := bok e
 obtain ⟨m, h2, e⟩ := bok e
 cases e
 obtain rfl := asInts_ok h1
 obtain ⟨hl, h3, h4⟩ := minI_ok h2
 obtain ⟨x, rfl, p⟩ := reps1 ra
 obtain ⟨a, rfl, sq⟩ := rep_ints p
 refine cr_min hc pins s σ H _ us Q I rx ⟨a, ns, rfl, sq, hl, fun k hk hle => ?_⟩
 have e : k = m := Int.le_antisymm (hle m h3) (h4 k hk)
 subst e
 exact q.at (by simp only [Rep])
theorem keys_inl : ∀ {kvs : List (Key × V)} {ns : List Int}, kvs.map (fun p => ofKey p.1) = ns.map Val.int → kvs.map (·.1) = ns.map Sum.inl
 | [], [], _ => rfl
 | [], _ :: _, h => by simp at h
 | _ :: _, [], h => by simp at h
 | p :: kvs, n :: ns, h => by
  simp only [List.map_cons, List.cons.injEq] at h ⊢
  refine ⟨?_, keys_inl h.2⟩
  have h1 := h.1
  revert h1
  cases p.1 with
  | inl i => intro h1; simp only [ofKey] at h1; cases h1; rfl
  | inr s => intro h1; simp only [ofKey] at h1; cases h1
theorem cb_sorted (hc : X.calm = true) : CallR X (.builtin "sorted") (rVs X.K (bi1 .sorted)) := by
 intro pins s σ H xs us Q I rx ⟨O, as, r, w, ra, e, q⟩
 unfold bi1 at e
 split at e <;> first | (cases e; done) | skip
 all_goals (try (rename_i hh; cases hh))
 ·obtain ⟨ns, h1, e⟩ := bok e
  cases e
  obtain rfl := asInts_ok h1
  obtain ⟨x, rfl, p⟩ := reps1 ra
  obtain ⟨a, rfl, sq⟩ := rep_ints p
  refine cr_sortedI pins s σ H _ us Q I rx ⟨a, ns, rfl, sq, fun ns' p hp hs nl => ?_⟩
  have e : ns' = sortI ns := List.Perm.eq_of_pairwise (fun x y _ _ h1 h2 => Int.le_antisymm h1 h2) hs (sortI_sorted ns) (hp.trans (sortI_perm ns).symm)
  subst e
  exact q _ _ (Ext.upd nl) (Rep.lst_new w nl (Reps.ints _))
 ·obtain ⟨ns, h1, e⟩ := bok e
  split at e
  ·rename_i hlen
   cases e
   have h1 := asInts_ok h1
   obtain ⟨x, rfl, p⟩ := reps1 ra
   simp only [Rep] at p
   obtain ⟨a, kvs, rfl, _, rd, hk, _, _⟩ := p
   refine call_sortedDI hc pins s σ H _ us Q I rx ⟨a, kvs, ns, rfl, rd, keys_inl (hk.symm.trans h1), hlen, fun ns' p hp hs nl => ?_⟩
   have e : ns' = sortI ns := List.Perm.eq_of_pairwise (fun x y _ _ h1 h2 => Int.le_antisymm h1 h2) hs (sortI_sorted ns) (hp.trans (sortI_perm ns).symm)
   subst e
   exact q _ _ (Ext.upd nl) (Rep.lst_new w nl (Reps.ints _))
  ·cases e
theorem cb_list : CallR X (.type "list") (rVs X.K (bi1 .list)) := by
 intro pins s σ H xs us Q I rx ⟨O, as, r, w, ra, e, q⟩
 unfold bi1 at e
 split at e <;> first | (cases e; done) | skip
 all_goals (try (rename_i hh; cases hh))
 all_goals (cases e; obtain ⟨x, rfl, p⟩ := reps1 ra; simp only [Rep] at p)
 ·obtain ⟨a, ys, rfl, _, sq, rr⟩ := p
  exact call_list_of pins s σ H _ us Q I rx ⟨a, ys, rfl, .inl (SqL.of sq), fun l nl => q _ _ (Ext.upd nl) (Rep.lst_new w nl rr)⟩
 ·obtain ⟨a, ys, rfl, sq, rr⟩ := p
  exact call_list_of pins s σ H _ us Q I rx ⟨a, ys, rfl, .inr sq, fun l nl => q _ _ (Ext.upd nl) (Rep.lst_new w nl rr)⟩
theorem cb_tuple : CallR X (.type "tuple") (rVs X.K (bi1 .tuple)) := by
 intro pins s σ H xs us Q I rx ⟨O, as, r, w, ra, e, q⟩
 unfold bi1 at e
 split at e <;> first | (cases e; done) | skip
 all_goals (try (rename_i hh; cases hh))
 all_goals (cases e; obtain ⟨x, rfl, p⟩ := reps1 ra; simp only [Rep] at p)
 ·obtain ⟨a, ys, rfl, _, sq, rr⟩ := p
  exact call_tuple_of pins s σ H _ us Q I rx ⟨a, ys, rfl, .inl ⟨SqL.of sq, fun l nl => q _ _ (Ext.upd nl) (Rep.tup_new w nl rr)⟩⟩
 ·obtain ⟨a, ys, rfl, sq, rr⟩ := p
  exact call_tuple_of pins s σ H _ us Q I rx ⟨a, ys, rfl, .inr ⟨sq, q.at (by simp only [Rep]; exact ⟨a, ys, rfl, sq, rr⟩)⟩⟩
theorem cb_int : CallR X (.type "int") (rVs X.K (bi1 .int)) := by
 intro pins s σ H xs us Q I rx ⟨O, as, r, w, ra, e, q⟩
 unfold bi1 at e
 split at e <;> first | (cases e; done) | skip
 all_goals (try (rename_i hh; cases hh))
 all_goals (cases e; obtain ⟨x, rfl, p⟩ := reps1 ra; simp only [Rep] at p; subst p)
 ·exact call_int1 pins s σ H _ us Q I rx (.inl ⟨_, rfl, q.at (by simp only [Rep])⟩)
 ·exact call_int1 pins s σ H _ us Q I rx (.inr ⟨_, rfl, q.at (by simp only [Rep])⟩)
theorem rep_non {K : PySem.W.Frag} {H : Hp} {O : Hid} {a : Val} {x : V} {v : Value} (r : Rep K H O a x) (rx : RelV x v) : (v == Value.none) = (match a with | .non => true | _ => false) := by
 rw [rx.none_iff]
 cases a with
 | dic t ks vs => cases t <;> simp only [Rep] at r <;> obtain ⟨a, _, rfl, _⟩ := r <;> rfl
 | tup vs => simp only [Rep] at r; obtain ⟨a, _, rfl, _⟩ := r; rfl
 | lst vs => simp only [Rep] at r; obtain ⟨a, _, rfl, _⟩ := r; rfl
 | scr vs => simp only [Rep] at r; obtain ⟨a, rfl, _⟩ := r; rfl
 | sym s => cases s <;> first | (simp only [Rep, symRep] at r; done) | (simp only [Rep, symRep] at r; obtain ⟨a, _, rfl⟩ := r; rfl) | (simp only [Rep, symRep] at r; obtain ⟨a, c, q, ps, bd, sc, _, rfl, _⟩ := r; rfl)
 | ins _ _ _ => simp only [Rep] at r; obtain ⟨a, _, _, _, rfl, _⟩ := r; rfl
 | _ => simp only [Rep] at r; subst r; rfl
theorem sop_is : OpR X (compareOp .Is) (rV X.K (op2 .is)) := by
 intro pins s σ H x y v u Q I rx ry ⟨O, a, b, r, w, ra, rb, e, q⟩
 simp only [op2] at e
 obtain ⟨k, h1, e⟩ := bok e
 cases e
 have fin : ∀ k', k' = k → EP X pins σ Q (.bool k') s := fun k' hk => ⟨.bl k, H, I, by rw [hk]; rfl, q.at (by simp only [Rep])⟩
 cases b <;> simp only [isVal] at h1 <;> first | (cases h1; done) | skip
 ·simp only [Rep] at rb
  subst rb
  cases (show u = Value.none from ry)
  refine is_none_gen (fin _ ?_)
  rw [rep_non ra rx]
  cases a <;> simp only at h1 <;> cases h1 <;> rfl
 ·simp only [Rep] at rb
  subst rb
  cases (show u = Value.bool _ from ry)
  cases a <;> simp only at h1 <;> first | (cases h1; done) | skip
  cases h1
  simp only [Rep] at ra
  subst ra
  cases (show v = Value.bool _ from rx)
  exact is_bool (fin _ rfl)
theorem sop_isn : OpR X (compareOp .IsNot) (rV X.K (op2 .isn)) := by
 intro pins s σ H x y v u Q I rx ry ⟨O, a, b, r, w, ra, rb, e, q⟩
 simp only [op2] at e
 obtain ⟨k, h1, e⟩ := bok e
 cases e
 have fin : ∀ k', k' = (!k) → EP X pins σ Q (.bool k') s := fun k' hk => ⟨.bl (!k), H, I, by rw [hk]; rfl, q.at (by simp only [Rep])⟩
 cases b <;> simp only [isVal] at h1 <;> first | (cases h1; done) | skip
 ·simp only [Rep] at rb
  subst rb
  cases (show u = Value.none from ry)
  refine isnot_none_gen (fin _ ?_)
  rw [rep_non ra rx]
  cases a <;> simp only at h1 <;> cases h1 <;> rfl
 ·simp only [Rep] at rb
  subst rb
  cases (show u = Value.bool _ from ry)
  cases a <;> simp only at h1 <;> first | (cases h1; done) | skip
  cases h1
  simp only [Rep] at ra
  subst ra
  cases (show v = Value.bool _ from rx)
  refine isnot_bool (fin _ ?_)
  rfl
def tyName : Ty → String
 | .int => "int"
 | .bool => "bool"
 | .tuple => "tuple"
 | .list => "list"
 | .str => "str"
def valTy : Val → String
 | .non => "NoneType"
 | .bl _ => "bool"
 | .int _ => "int"
 | .str _ => "str"
 | .tup _ => "tuple"
 | .lst _ => "list"
 | .dic _ _ _ => "dict"
 | .scr _ => "list"
 | .sym _ => "int"
 | .ins _ _ _ => "object"
theorem rep_ty {K : PySem.W.Frag} {H : Hp} {O : Hid} {a : Val} {x : V} (r : Rep K H O a x) (hs : (∀ ns, a ≠ .scr ns) ∧ (∀ ks vs, a ≠ .dic true ks vs) ∧ (∀ c ns vs, a ≠ .ins c ns vs) ∧ (∀ f, a ≠ .sym (.fn f)) ∧ ∀ f, a ≠ .sym (.lm f)) : TyX K H x (.type (valTy a)) := by
 cases a with
 | non => simp only [Rep] at r; subst r; exact .base .non
 | bl b => simp only [Rep] at r; subst r; exact .base (.bl b)
 | int b => simp only [Rep] at r; subst r; exact .base (.int b)
 | str b => simp only [Rep] at r; subst r; exact .base (.str b)
 | tup vs =>
  simp only [Rep] at r
  obtain ⟨a, xs, rfl, sq, _⟩ := r
  rcases sq with (h | ⟨o, h⟩) | ⟨o, its, n, h1, h2, _⟩
  ·exact .base (.tup h)
  ·exact .fTuple h
  ·exact .kTuple h1 h2
 | lst vs =>
  simp only [Rep] at r
  obtain ⟨a, xs, rfl, _, sq, _⟩ := r
  exact .base (.lst sq)
 | dic t ks vs =>
  cases t <;> simp only [Rep] at r <;> obtain ⟨a, kvs, rfl, _, sq, _⟩ := r
  ·rcases sq with sq | ⟨o, sq⟩
   ·exact .base (.dK sq)
   ·exact .fDict sq
  ·exact absurd rfl (hs.2.1 _ _)
 | scr ns => exact absurd rfl (hs.1 ns)
 | ins c ns vs => exact absurd rfl (hs.2.2.1 _ _ _)
 | sym s => cases s <;> first | (simp only [Rep, symRep] at r; done) | exact absurd rfl (hs.2.2.2.1 _) | exact absurd rfl (hs.2.2.2.2 _)
theorem isi_kit {K : PySem.W.Frag} {v : Val} {t : Ty} {r : Bool} (h : isiV v t = .ok r) : PySem.W.kitOne K (.type (valTy v)) (.type (tyName t)) = some r := by
 cases v
 case sym s => cases s <;> cases t <;> simp only [isiV] at h <;> cases h <;> simp only [valTy, tyName] <;> exact kit_ty (by decide +kernel)
 case dic b _ _ => cases b <;> cases t <;> simp only [isiV] at h <;> cases h <;> simp only [valTy, tyName] <;> exact kit_ty (by decide +kernel)
 all_goals (cases t <;> simp only [isiV] at h <;> cases h <;> simp only [valTy, tyName] <;> exact kit_ty (by decide +kernel))
theorem isi_scr {v : Val} {t : Ty} {r : Bool} (h : isiV v t = .ok r) : (∀ ns, v ≠ .scr ns) ∧ (∀ ks vs, v ≠ .dic true ks vs) ∧ (∀ c ns vs, v ≠ .ins c ns vs) ∧ (∀ f, v ≠ .sym (.fn f)) ∧ ∀ f, v ≠ .sym (.lm f) := by
 refine ⟨fun ns e => ?_, fun ks vs e => ?_, fun c ns vs e => ?_, fun f e => ?_, fun f e => ?_⟩ <;> subst e <;> cases t <;> simp only [isiV] at h <;> cases h
end
end VM
namespace VM
open PySem PySem.Spec PyProof.Rows L2
variable [Tbl]
theorem ltL_iff : ∀ (a b : List Int), ltL a b = true ↔ a < b
 | [], [] => by simp [ltL]
 | [], _ :: _ => by simp [ltL]
 | _ :: _, [] => by simp [ltL]
 | x :: a, y :: b => by
  simp only [ltL]
  rw [List.cons_lt_cons_iff]
  by_cases e : x = y
  ·subst e
   rw [if_pos rfl, ltL_iff a b]; simp
  ·rw [if_neg e]; simp [e]
theorem ltL_anti : ∀ (a b : List Int), ltL a b = false → ltL b a = false → a = b
 | [], [], _, _ => rfl
 | [], _ :: _, h, _ => by simp [ltL] at h
 | _ :: _, [], _, h => by simp [ltL] at h
 | x :: a, y :: b, h, g => by
  simp only [ltL] at h g
  by_cases e : x = y
  ·subst e
   rw [if_pos rfl] at h g
   rw [ltL_anti a b h g]
  ·rw [if_neg e] at h
   rw [if_neg (Ne.symm e)] at g
   simp at h g
   omega
theorem ltL_asymm : ∀ (a b : List Int), ltL a b = true → ltL b a = false
 | [], [], h => by simp [ltL] at h
 | [], _ :: _, h => by simp [ltL]
 | _ :: _, [], h => by simp [ltL] at h
 | x :: a, y :: b, h => by
  simp only [ltL] at h ⊢
  by_cases e : x = y
  ·subst e
   rw [if_pos rfl] at h ⊢
   exact ltL_asymm a b h
  ·rw [if_neg e] at h
   rw [if_neg (Ne.symm e)]
   simp at h ⊢
   omega
theorem ltL_trans : ∀ (a b c : List Int), ltL b a = false → ltL c b = false → ltL c a = false
 | [], _, [], _, _ => by simp [ltL]
 | [], [], _ :: _, _, _ => by simp [ltL]
 | [], _ :: _, _ :: _, _, _ => by simp [ltL]
 | _ :: _, [], _, h, _ => by simp [ltL] at h
 | _ :: _, _ :: _, [], _, h => by simp [ltL] at h
 | x :: a, y :: b, z :: c, h, g => by
  simp only [ltL] at h g ⊢
  by_cases e1 : y = x
  ·subst e1
   rw [if_pos rfl] at h
   by_cases e2 : z = y
   ·subst e2
    rw [if_pos rfl] at g ⊢
    exact ltL_trans a b c h g
   ·rw [if_neg e2] at g ⊢
    exact g
  ·rw [if_neg e1] at h
   simp at h
   by_cases e2 : z = y
   ·subst e2
    rw [if_neg (by omega)]
    simp; omega
   ·rw [if_neg e2] at g
    simp at g
    rw [if_neg (by omega)]
    simp; omega
theorem insL_perm (x : List Int) : ∀ l, (insL x l).Perm (x :: l)
 | [] => List.Perm.refl _
 | y :: r => by
  unfold insL
  split
  ·exact ((insL_perm x r).cons y).trans (List.Perm.swap x y r)
  ·exact List.Perm.refl _
theorem sortLL_perm : ∀ l, (sortLL l).Perm l
 | [] => List.Perm.refl _
 | x :: r => (insL_perm x _).trans ((sortLL_perm r).cons x)
theorem insL_srt (x : List Int) : ∀ {l : List (List Int)}, l.Pairwise (fun a b => ltL b a = false) → (insL x l).Pairwise (fun a b => ltL b a = false)
 | [], _ => by simp [insL]
 | y :: r, h => by
  rw [List.pairwise_cons] at h
  unfold insL
  split
  ·rename_i c
   refine List.pairwise_cons.mpr ⟨fun z hz => ?_, insL_srt x h.2⟩
   rcases List.mem_cons.mp ((insL_perm x r).mem_iff.mp hz) with rfl | hz
   ·exact ltL_asymm _ _ c
   ·exact h.1 z hz
  ·rename_i c
   have c : ltL y x = false := by simpa using c
   refine List.pairwise_cons.mpr ⟨fun z hz => ?_, List.pairwise_cons.mpr h⟩
   rcases List.mem_cons.mp hz with rfl | hz
   ·exact c
   ·exact ltL_trans _ _ _ c (h.1 z hz)
theorem sortLL_srt : ∀ l, (sortLL l).Pairwise (fun a b => ltL b a = false)
 | [] => List.Pairwise.nil
 | x :: r => insL_srt x (sortLL_srt r)
theorem asLLs_ok : ∀ {vs : List Val} {ls : List (List Int)}, asLLs vs = .ok ls → vs = ls.map fun l => .lst (l.map Val.int)
 | [], _, h => by simp only [asLLs] at h; cases h; rfl
 | v :: vs, ls, h => by
  cases v with
  | lst us =>
   simp only [asLLs] at h
   obtain ⟨l, h1, h⟩ := bok h
   obtain ⟨ls, h2, h⟩ := bok h
   cases h
   obtain rfl := asInts_ok h1
   rw [asLLs_ok h2]; rfl
  | _ => simp only [asLLs] at h; cases h
theorem okD_ints (n : Nat) (l : List Int) : okD (n + 2) (.lst (l.map Val.int)) = true := by
 simp [okD]
theorem py_ints (l : List Int) : py (.lst (l.map Val.int)) = .list (l.map PyData.int) := by
 simp only [py]
 congr 1
 induction l with
 | nil => rfl
 | cons x l ih => simp only [List.map_cons, pys, ih, py]
inductive LLs (K : PySem.W.Frag) (H : Hp) : List V → List (List Int) → Prop
 | nil : LLs K H [] []
 | cons {x : V} {l : List Int} {xs : List V} {ls : List (List Int)} : Dp K H x (.list (l.map PyData.int)) → LLs K H xs ls → LLs K H (x :: xs) (l :: ls)
theorem LLs.len {K : PySem.W.Frag} {H : Hp} {xs : List V} {ls : List (List Int)} (h : LLs K H xs ls) : xs.length = ls.length := by
 induction h with
 | nil => rfl
 | cons _ _ ih => simp [ih]
theorem alike_lls : ∀ (a b : List Int), PySem.W.alikeAll (a.map PyData.int) (b.map PyData.int) = true
 | [], _ => by simp [PySem.W.alikeAll]
 | _ :: _, [] => by simp [PySem.W.alikeAll]
 | x :: a, y :: b => by simp only [List.map_cons, PySem.W.alikeAll, PySem.W.alike, alike_lls a b]; rfl
def encL (b : V × List Int) : PyData := .list (b.2.map PyData.int)
variable {X : Cx}
theorem cr_sortedLL (hu : X.A.units + 65 < cLine) : CallR X (.builtin "sorted") (fun vs H Q => ∃ (a : Addr) (xs : List V) (ls : List (List Int)), vs = [V.ref a] ∧ SqL X.K H a xs ∧ LLs X.K H xs ls ∧
  ∀ (ps : List (V × List Int)) (p : Addr), ps.Perm (xs.zip ls) → ps.Pairwise (fun p q => ltL q.2 p.2 = false) → H p = none → Q (.ref p) (upd H p (.lst (ps.map (·.1))))) := by
 intro pins s σ H vs us Q I r h
 obtain ⟨a, xs, ls, rfl, hs, hll, q⟩ := h
 obtain ⟨its, rv, hl, hz⟩ := I.list hs
 rw [Vals.ref1 r]
 have key : ∀ {xs : List V} {ls : List (List Int)} {its : List Value}, Vals xs its → LLs X.K H xs ls → PySem.W.EachIs (fun (u : Value) (b : V × List Int) => RelV b.1 u) its (xs.zip ls) ∧ PySem.W.EachIs (fun (u : Value) (b : V × List Int) => ∃ as, Reads s.heap u (encL b) as) its (xs.zip ls) := by
  intro xs ls its rv hll
  induction hll generalizing its with
  | nil => cases rv; exact ⟨.nil, .nil⟩
  | @cons x l xs ls d _ ih =>
   cases rv with
   | cons rx rr =>
    obtain ⟨i1, i2⟩ := ih rr
    exact ⟨.cons rx i1, .cons (Dp.reads I _ _ _ d rx) i2⟩
 obtain ⟨e1, e2⟩ := key rv hll
 have hlen : (xs.zip ls).length = xs.length := by rw [List.length_zip, ← hll.len]; omega
 have hal : PySem.W.AllAlike ((xs.zip ls).map encL) := fun d hd d' hd' => by
  obtain ⟨b, _, rfl⟩ := List.mem_map.mp hd
  obtain ⟨b', _, rfl⟩ := List.mem_map.mp hd'
  simp only [encL, PySem.W.alike]; exact alike_lls _ _
 have hk : PySem.W.Sortable ((xs.zip ls).map encL) := .inr fun d hd => by
  obtain ⟨b, _, rfl⟩ := List.mem_map.mp hd
  exact ⟨(fun z => nomatch z), (fun _ z => nomatch z)⟩
 refine PySem.W.sorted_data (enc := encL) hl.isList e1 e2 hal hk (by rw [hlen]; exact hz) (fun b hb => ?_) (fun out ho eo => ?_)
 ·have hd : (encL b).depth ≤ 2 := by
   have := (okD_lay 2 (v := .lst (b.2.map Val.int)) (okD_ints 0 b.2)).2
   rw [py_ints] at this
   exact this
  omega
 ·have hle : PySem.W.dataLe false encL = fun p q => decide (p.2 ≤ q.2) := PySem.W.dataLe_rows (fun b : V × List Int => b.2)
  rw [hle] at eo
  have tl : PySem.W.TotalLe (fun p q : V × List Int => decide (p.2 ≤ q.2)) := ⟨fun a b c h1 h2 => by
   simp only [decide_eq_true_eq] at h1 h2 ⊢
   exact List.le_trans h1 h2, fun a b => by
   simp only [decide_eq_true_eq]
   exact List.le_total a.2 b.2⟩
  have hp := PySem.W.sort_pairwise tl (xs.zip ls)
  have hperm := List.mergeSort_perm (xs.zip ls) (fun p q : V × List Int => decide (p.2 ≤ q.2))
  generalize (xs.zip ls).mergeSort (fun p q : V × List Int => decide (p.2 ≤ q.2)) = ps at *
  have hv : Vals (ps.map (·.1)) out := by
   clear hp hperm ho
   induction eo with
   | nil => exact .nil
   | cons h _ ih => exact .cons h ih
  obtain ⟨ep, he'⟩ := PyProof.Rows.sortedAll_at s.heap its out.toArray
  have hlp : (ps.map (·.1)).length ≤ sizeLine := by rw [List.length_map, hperm.length_eq, hlen]; exact hz
  refine ⟨.ref _, upd H (s.heap.objs.size + 1) (.lst (ps.map (·.1))), I.laid (t' := s.toks) (fun _ _ => PyProof.Rows.sortedAll_old) (Nat.le_succ _) ⟨hlp, out, ep, hv, he'⟩, rfl, q ps _ hperm (hp.imp fun {a b} h => ?_) (I.hok.fresh (Nat.le_succ _))⟩
  have h := of_decide_eq_true h
  cases hb : ltL b.2 a.2 with
  | false => rfl
  | true => exact absurd ((ltL_iff _ _).mp hb) (List.not_lt.mpr h)
theorem rep_lls {K : PySem.W.Frag} {H : Hp} {O : Hid} : ∀ {ls : List (List Int)} {xs : List V}, Reps K H O (ls.map fun l => Val.lst (l.map Val.int)) xs → LLs K H xs ls
 | [], _, h => by simp only [List.map_nil, Reps] at h; subst h; exact .nil
 | l :: ls, _, h => by
  simp only [List.map_cons, Reps] at h
  obtain ⟨x, r, rfl, p, q⟩ := h
  have d := Rep.dp 2 (okD_ints 0 l) p
  rw [py_ints] at d
  exact .cons d (rep_lls q)
theorem reps_zip {K : PySem.W.Frag} {H : Hp} {O : Hid} : ∀ {ls : List (List Int)} {xs : List V}, Reps K H O (ls.map fun l => Val.lst (l.map Val.int)) xs → ∀ p ∈ xs.zip ls, Rep K H O (.lst (p.2.map Val.int)) p.1
 | [], _, h, p, hp => by simp at hp
 | l :: ls, _, h, p, hp => by
  simp only [List.map_cons, Reps] at h
  obtain ⟨x, r, rfl, a, q⟩ := h
  rw [List.zip_cons_cons] at hp
  rcases List.mem_cons.mp hp with rfl | hp
  ·exact a
  ·exact reps_zip q p hp
theorem reps_of {K : PySem.W.Frag} {H : Hp} {O : Hid} : ∀ {ps : List (V × List Int)}, (∀ p ∈ ps, Rep K H O (.lst (p.2.map Val.int)) p.1) → Reps K H O ((ps.map (·.2)).map fun l => Val.lst (l.map Val.int)) (ps.map (·.1))
 | [], _ => by simp only [List.map_nil, Reps]
 | p :: ps, h => by
  simp only [List.map_cons, Reps]
  exact ⟨_, _, rfl, h p (List.mem_cons_self ..), reps_of fun q hq => h q (List.mem_cons_of_mem _ hq)⟩
theorem cb_sortL (hu : X.A.units + 65 < cLine) : CallR X (.builtin "sorted") (rVs X.K (bi1 .sortL)) := by
 intro pins s σ H xs us Q I rx ⟨O, as, r, w, ra, e, q⟩
 unfold bi1 at e
 split at e <;> first | (cases e; done) | skip
 all_goals (try (rename_i hh; cases hh))
 obtain ⟨ls, h1, e⟩ := bok e
 cases e
 obtain rfl := asLLs_ok h1
 obtain ⟨x, rfl, p⟩ := reps1 ra
 simp only [Rep] at p
 obtain ⟨a, ys, rfl, na, ha, rr⟩ := p
 refine cr_sortedLL hu pins s σ H _ us Q I rx ⟨a, ys, ls, rfl, SqL.of ha, rep_lls rr, fun ps p hperm hsrt np => ?_⟩
 have hz := reps_zip rr
 have h2 : ps.map (·.2) = sortLL ls := by
  refine List.Perm.eq_of_pairwise (fun x y _ _ h1 h2 => ltL_anti x y h2 h1) (List.pairwise_map.mpr hsrt) (sortLL_srt ls) ?_
  have := (hperm.map (·.2)).trans (by rw [List.map_snd_zip (by rw [(rep_lls rr).len]; omega)])
  exact this.trans (sortLL_perm ls).symm
 have rp := reps_of fun p hp => hz p (hperm.mem_iff.mp hp)
 rw [h2] at rp
 exact q _ _ (Ext.upd np) (Rep.lst_new w np rp)
end VM
set_option maxHeartbeats 8000000
namespace VM
open PySem PySem.Spec PyProof.Rows L2
section
variable {X : Cx} {CX : CXT} {k : Nat} {C : Addr} {x m : Str} {p pos apos : Pos} {e o : Expr} {es : List Expr} {ta : TE} {t : TA}
def tMethX (X : Cx) (n : Nat) (m : Str) (ta : TE) (t : TA) : TE := fun σ H Q => ta σ H fun x H1 => ∃ a C dx fs fa fd ps sp, x = .ref a ∧ H1 a = some (.ins C dx fs) ∧ fs.lookup m = none ∧ Cls X.K C ∧ Meth X.K C m fa ∧
 FnOk X.prog X.w X.K X.mg X.base CX0 n fa fd ps sp ∧ Binds X.K fd ps [] ∧ t σ H1 fun vs H2 => sp (x :: vs) H2 Q E0
theorem pe_methX {n : Nat} {pl : Sem Bool} (he : PE X o ta) (hr : Room n X.A) (hx : Passes CX0 X E0) (ha : PA X (e :: es) t)
  (hst : starEach (e :: es) X.env = (false, eval e X.env) :: starEach es X.env) (hpl : (backTo pos (starEach es X.env)).any (·.1) = false)
  (ht : eval (.Call (.Attribute o m apos) (e :: es) [] pos) X.env = (do
   let ov ← eval o X.env
   standAt apos.atName
   let (f, first) ← holding [ov] (getMethod ov m pl)
   callWith pos f first (backTo pos (starEach (e :: es) X.env)) (backToKw pos (keywordEach [] X.env)))) :
  PE X (.Call (.Attribute o m apos) (e :: es) [] pos) (tMethX X n m ta t) := by
 refine ⟨fun pins s σ H Q I h => ?_⟩
 refine PySem.W.methodCall_KW (pl := pl) (thn (he.run pins s σ H _ I h) fun u s1 ⟨x, H1, I1, rx, a, C, dx, fs, fa, fd, ps, sp, ex, ea, l, c, hm, F, hb, q⟩ => ?_) ht
 subst ex
 obtain rfl : u = Value.ref a := rx
 refine getmeth_ok I1 ea c hm l ?_
 refine PySem.W.callWith_K (first := [.ref a]) (h₀ := X.base) I.ok.mod.kin hm.kp (thn (ha.run pos pins s1 σ H1 _ I1 q) fun us s2 ⟨vs, H2, I2, r, q2⟩ => ⟨I2.kIn, ?_⟩) hst hpl
 exact run_fn (us := .ref a :: us) (vs := .ref a :: vs) (dvs := []) (ds := []) F hr hb .nil hx I2 (.cons rfl r) (by rw [List.append_nil]; exact q2)
structure Bare (K : PySem.W.Frag) (C : Addr) : Prop where
 makes : PySem.W.makesIn K C = true
 init : PySem.W.findIn K (.ref C) "__init__" = some (some (.builtin "object.__init__"))
 kp : PySem.W.keepIn K (.ref C) = true
def tMakeB (C : Addr) : TE := fun σ H Q => ∀ x dx, H x = none → H dx = none → dx ≠ x → Q (.ref x) (upd (upd H dx (.own x)) x (.ins C dx []))
theorem run_makeB {pins : List (Addr × Obj)} {σ : L2.St} {H : Hp} {s : Shared} {Q : VK} (M : Bare X.K C) (I : Inv X pins σ H s)
  (h : ∀ x dx, H x = none → H dx = none → dx ≠ x → Q (.ref x) (upd (upd H dx (.own x)) x (.ins C dx []))) :
  wpAny (model X.prog X.w) X.A (call (.ref C) []) (EP X pins σ Q) X.xe s := by
 have hq := h (s.heap.objs.size + 1) s.heap.objs.size (I.hok.fresh (Nat.le_succ _)) (I.hok.fresh (Nat.le_refl _)) (Nat.ne_of_lt (Nat.lt_succ_self _))
 have I2 := Inv.made (C := C) I
 have Y := PySem.W.makes_of (M := model X.prog X.w) I.kIn M.makes
 have hx : ((s.heap.push PySem.W.emptyDict).push (PySem.W.instObj C s.heap.objs.size)).get? (s.heap.objs.size + 1) = some (PySem.W.instObj C s.heap.objs.size) := by
  have := Heap.get?_push_size (s.heap.push PySem.W.emptyDict) (o := PySem.W.instObj C s.heap.objs.size) rfl
  rwa [Heap.size_push] at this
 have t1 : PySem.W.Looks (model X.prog X.w) ((s.heap.push PySem.W.emptyDict).push (PySem.W.instObj C s.heap.objs.size)) (typeOf (.ref (s.heap.objs.size + 1))) (.ref C) := (PySem.W.Looks.ld hx).andThen .now
 have t2 : PySem.W.Looks (model X.prog X.w) ((s.heap.push PySem.W.emptyDict).push (PySem.W.instObj C s.heap.objs.size)) (isInstance (.ref (s.heap.objs.size + 1)) (.type "object")) true := t1.andThen (Y.top.keeps fun b o e => Heap.get?_push_of_some _ (Heap.get?_push_of_some _ e))
 refine wpAny_call (make_map0 I.kIn M.makes M.init (fun self => PySem.W.Looks.of_pure (PySem.W.oi_bind self)) ?_)
 refine codeAny_call_builtin PySem.W.oi_plain PySem.W.entry_oi (@PySem.W.check_slot (model X.prog X.w) _ _ _ "object.__init__" "object" "__init__" (.ref (s.heap.objs.size + 1)) [] [] _ PySem.W.oi_kind PySem.W.oi_split t2 (PySem.W.oi_args (.ref (s.heap.objs.size + 1))) ?_)
 rw [PySem.W.oi_run]
 exact wpAny_pure (And.intro rfl (show EP X pins σ Q _ _ from ⟨V.ref (s.heap.objs.size + 1), _, I2, rfl, hq⟩))
theorem pe_makeB (M : Bare X.K C) (hg : Gl X x) (hm : X.mg x = some (.ref C)) (hdb : (x == ("__debug__" : Str)) = false) : PE X (.Call (.Name x p) [] [] pos) (tMakeB C) := by
 refine ⟨fun pins s σ H Q I h => ?_⟩
 refine wpAny_Call_Name_kw (ld_glob I hg hm ?_ hdb)
 exact PySem.W.callWith_K0 I.kIn M.kp (run_makeB M I h)
theorem mth_eq [Tbl] {env : Env} {o : Expr} {m : Str} {apos pos : Pos} {args : List Expr} (hbase : attributeBase o m env (eval o env) = eval o env) (hs : args.all nst = true) (hl : args.length < 29) (hline : (apos.endLine == pos.line) = true) :
  eval (.Call (.Attribute o m apos) args [] pos) env = (do
   let ov ← eval o env
   standAt apos.atName
   let (f, first) ← holding [ov] (getMethod ov m (do return (← importBound o env).getD true))
   callWith pos f first (backTo pos (starEach args env)) (backToKw pos (keywordEach [] env))) := by
 have hform : methodCallForm (args.length + ([] : List Keyword).length) (backTo pos (starEach args env)) (backToKw pos (keywordEach [] env)) = true := by
  unfold methodCallForm
  have h1 := star_any (env := env) (pos := pos) hs
  have h2 : (backTo pos (starEach args env)).all (fun x => !x.1) = true := by
   rw [List.all_eq_true]
   intro x hx
   have := (List.any_eq_false.mp h1) x hx
   simpa using this
  rw [h2]
  show (true && true && decide (args.length + 0 + 0 < 30)) = true
  simp only [Bool.true_and, decide_eq_true_eq]
  omega
 have hpos : methodCallPos true o env apos pos = pure pos := by unfold methodCallPos; simp [hline]
 rw [arm_eval_Call, hbase]
 unfold methodCall calleeOf
 rw [hform, hpos]
 rfl
theorem base_name {x : Str} {p : Pos} {m : Str} {env : Env} : attributeBase (.Name x p) m env (eval (.Name x p) env) = eval (.Name x p) env := rfl
theorem base_call {x : Str} {p q : Pos} {as : List Expr} {m : Str} {env : Env} (h : x ≠ "super") : attributeBase (.Call (.Name x p) as [] q) m env (eval (.Call (.Name x p) as [] q) env) = eval (.Call (.Name x p) as [] q) env := by
 unfold attributeBase
 cases as with
 | nil =>
  simp only
  rw [if_pos (by simp [h])]
 | cons a as => rfl
end
end VM
namespace PySem
open PySem PySem.Spec PyProof.Rows L2
section
variable {pr : Program} {wd : World} {ar : Around} {er : Value → Shared → Prop} {sh : Shared}
abbrev voidS (wd : World) : Obj := { cls := .type "set", dict := none, data := .set #[] 0 (.fresh 0 0 (!wd.params.followText "set-order")) }
set_option maxRecDepth 100000 in
set_option maxHeartbeats 3200000 in
theorem set_of_list {lst : Addr} {xs : Array Value} (ks : List Int) {Qs : Value → Shared → Prop} (none1 : ar.handled = none) (isl : sh.heap.IsList lst xs) (are : IntsAre xs.toList ks) (few : ks.length + 1 < scanBound)
  (fin : ∀ (h2 : Heap) (tk n : Nat), SetR wd h2 sh.heap.objs.size (fun j => decide (j ∈ ks)) n → n ≤ ks.length → (∀ b o, sh.heap.get? b = some o → h2.get? b = some o) → Qs (.ref sh.heap.objs.size) { sh with heap := h2, toks := tk }) :
  wpAny (model pr wd) ar (call (.type "set") [.ref lst]) Qs er sh := by
 have size_eq : xs.size = ks.length := by have z := IntsAre.length are; rwa [Array.length_toList] at z
 obtain ⟨c0, tl0, way⟩ := F.called_set.mro
 have made0 := F.called_set.made; have sub0 := F.called_set.sub
 apply wpAny_call; apply codeAny_of_tree
 show wpAny _ _ (callAny (Value.type "set") _) _ _ _
 apply wpAny_pure; refine ⟨Code.quiet_builtin _ (by decide +kernel), codeAny_builtin F.entry_type_call ?q0⟩
 case q0 =>
 rw [Around.under_plain (weight_type_call_type "set" [Value.ref lst] []) rfl]
 have nty := F.called_set.notType; have can := F.called_set.canCreate; have tc := F.typeCall_set_1 (.ref lst)
 repeat (any_goals (first | assumption | wp_step)); skip
 refine codeAny_mono (code_set_led1 (.ref lst) (E := er) (Q₁ := fun x s1 => x = .ref sh.heap.objs.size ∧ s1 = { sh with heap := sh.heap.push (voidS wd) }) ⟨rfl, rfl⟩) fun res s1 got => ?_
 rcases res with e | fl
 ·exact got
 cases fl with
 | ret x =>
  obtain ⟨rfl, rfl⟩ := got
  have at0 : (sh.heap.push (voidS wd)).get? sh.heap.objs.size = some (voidS wd) := Heap.get?_push_size _ rfl
  have ty0 : Shared.TypeIs { sh with heap := sh.heap.push (voidS wd) } (.ref sh.heap.objs.size) "set" := ⟨_, at0, rfl⟩
  have look0 := F.called_set.init.lookup; have bind0 := F.called_set.init.bind (.ref sh.heap.objs.size)
  repeat (any_goals (first | assumption | wp_step)); skip
  refine codeAny_mono (codeAny_call_builtin (R := wants (fun y s2 => y = .none ∧ ∃ h2 tk n, s2 = { sh with heap := h2, toks := tk } ∧ SetR wd h2 sh.heap.objs.size (fun j => decide (j ∈ ks)) n ∧ n ≤ ks.length ∧ (∀ b o, sh.heap.get? b = some o → h2.get? b = some o)) er) F.called_set.init.plain F.entry_set_init (check_set_init_1 ty0 ?body)) fun res2 s2 got2 => ?rest
  case body =>
   obtain ⟨⟨ocl, odi, oda, osl⟩, at1, cl1, n1, da1⟩ := isl
   simp only at cl1 da1; subst cl1; subst da1
   have at2 : (sh.heap.push (voidS wd)).get? lst = some { cls := .type "list", dict := odi, data := .seq xs n1, slots := osl } := Heap.get?_push_of_some _ at1
   have sb1 := F.sub_list_set; have sb2 := F.sub_list_frozenset; have nd : (Value.type "list" == Value.type "dict") = false := by decide
   have isl2 : (sh.heap.push (voidS wd)).IsList lst xs := ⟨_, at2, rfl, n1, rfl⟩
   unfold Builtin.«set.__init__» noKeywords Builtin.Frozenset.updateFrom; generalize hPI : pyIter = PI
   wp_walk; subst hPI
   refine wpAny_pyIter_list isl2 (wpAny_bind (wpAny_runValue ?_))
   have lt1 : lst < sh.heap.objs.size := Heap.lt_size at1
   have none3 : ar.in1.in1.in1.handled = none := by simp [none1]
   have ne1 : lst ≠ (sh.heap.push (voidS wd)).objs.size := fun z => by rw [Heap.size_push] at z; exact absurd lt1 (by rw [z]; exact Nat.not_lt.mpr (Nat.le_succ _))
   have ne2 : sh.heap.objs.size ∉ [(sh.heap.push (voidS wd)).objs.size, lst] := by
    rw [Heap.size_push]; simp only [List.mem_cons, List.not_mem_nil, or_false, not_or]
    exact ⟨fun z => absurd z (Nat.ne_of_lt (Nat.lt_succ_self _)), fun z => absurd lt1 (by rw [← z]; exact Nat.lt_irrefl _)⟩
   have each : ∀ (i : Nat) (v : Value), xs[i]? = some v → ∃ k t, ks[i]? = some k ∧ v = .int k t := fun i v hv => by
    have li : i < ks.length := by have := (Array.getElem?_eq_some_iff.mp hv).1; omega
    obtain ⟨t, e⟩ := IntsAre.int_at are i v (by rw [Array.getElem?_toList]; exact hv)
    exact ⟨ks[i], t, List.getElem?_eq_getElem li, by rw [e, List.getD_eq_getElem?_getD, List.getElem?_eq_getElem li]; rfl⟩
   refine set_update_ints ((Walks.list none3 _ lst ne1 xs).toS) sh.heap.objs.size ne2 ks size_eq few each (xs.size - 0) 0 _ (by omega) (Nat.zero_le _) ⟨⟨_, Heap.get?_push_size _ rfl, rfl, rfl⟩, isl2.push _⟩ ⟨0, Nat.le_refl 0, setR_new_at (Heap.get?_push_of_some _ at0)⟩ (fun s3 n3 mv le3 set3 => ?_)
   obtain ⟨h3, g3, d3, tk3, os3⟩ := s3
   obtain rfl : g3 = sh.gens := mv.gens
   obtain rfl : d3 = sh.drawn := mv.drawn
   obtain rfl : os3 = sh.os := mv.os
   show wpAny _ _ _ _ _ _; refine wpAny_pure ?_
   show wpAny _ _ (ret Value.none) _ _ _; rw [size_eq] at le3
   refine wpAny_pure ⟨rfl, h3, tk3, n3, rfl, set3, le3, fun b o e => mv.heap b o ?_ (Heap.get?_push_of_some _ (Heap.get?_push_of_some _ e))⟩
   have lb : b < sh.heap.objs.size := Heap.lt_size e
   rw [Heap.size_push]; simp only [List.mem_cons, List.not_mem_nil, or_false, not_or]
   exact ⟨fun z => absurd lb (by rw [z]; exact Nat.lt_irrefl _), fun z => absurd lb (by rw [z]; exact Nat.not_lt.mpr (Nat.le_succ _))⟩
  case rest =>
   rcases res2 with e | fl2
   ·exact got2
   cases fl2 with
   | ret y =>
    obtain ⟨rfl, h2, tk2, n2, rfl, q1, q2, q3⟩ := got2
    repeat (any_goals (first | assumption | wp_step)); skip
    exact fin _ _ _ q1 q2 q3
   | _ => exact got2.elim
 | _ => exact got.elim
end
end PySem
namespace VM
open PySem PySem.Spec PyProof.Rows L2
theorem ded_in (x : Int) : ∀ (ns ls : List Int), x ∈ ns.foldl (fun ls a => if a ∈ ls then ls else ls ++ [a]) ls ↔ x ∈ ls ∨ x ∈ ns
 | [], ls => by simp
 | a :: ns, ls => by
  rw [List.foldl_cons, ded_in x ns, List.mem_cons]
  by_cases ha : a ∈ ls
  ·rw [if_pos ha]
   constructor
   ·rintro (h | h)
    ·exact .inl h
    ·exact .inr (.inr h)
   ·rintro (h | rfl | h)
    ·exact .inl h
    ·exact .inl ha
    ·exact .inr h
  ·rw [if_neg ha, List.mem_append, List.mem_singleton]
   constructor
   ·rintro ((h | h) | h)
    ·exact .inl h
    ·exact .inr (.inl h)
    ·exact .inr (.inr h)
   ·rintro (h | h | h)
    ·exact .inl (.inl h)
    ·exact .inl (.inr h)
    ·exact .inr h
theorem ded_nd : ∀ (ns ls : List Int), ls.Nodup → (ns.foldl (fun ls a => if a ∈ ls then ls else ls ++ [a]) ls).Nodup
 | [], _, h => h
 | a :: ns, ls, h => by
  rw [List.foldl_cons]
  refine ded_nd ns _ ?_
  by_cases ha : a ∈ ls
  ·rw [if_pos ha]; exact h
  ·rw [if_neg ha, List.nodup_append]
   refine ⟨h, by simp, fun x hx y hy e => ?_⟩
   rw [List.mem_singleton] at hy
   subst hy; subst e
   exact ha hx
theorem ded_mem {x : Int} {ns : List Int} : x ∈ dedI ns ↔ x ∈ ns := by unfold dedI; rw [ded_in]; simp
theorem ded_nodup (ns : List Int) : (dedI ns).Nodup := ded_nd ns [] List.nodup_nil
theorem ded_len {ks ns : List Int} (nd : ks.Nodup) (h : ∀ x, x ∈ ks ↔ x ∈ ns) : ks.length = (dedI ns).length :=
 ((List.perm_ext_iff_of_nodup nd (ded_nodup ns)).mpr fun x => (h x).trans ded_mem.symm).length_eq
variable [Tbl]
section
variable {X : Cx} {n : Nat}
def rSetL (K : PySem.W.Frag) (w : World) : List V → Hp → VK → Prop := fun vs H Q => ∃ (l : Addr) (ns : List Int), vs = [V.ref l] ∧ SqL K H l (ns.map V.int) ∧ ns.length < 60 ∧
 ∀ p, H p = none → Q (.ref p) (L2.upd H p (SetO w p (fun j => decide (j ∈ ns)) (dedI ns).length))
theorem cr_setL (hc : X.calm = true) : CallR X (.type "set") (rSetL X.K X.w) := by
 intro pins s σ H vs us Q I r ⟨l, ns, e, sq, few, q⟩
 subst e
 obtain ⟨its, rv, pl, _⟩ := I.list sq
 rw [Vals.ref1 r]
 refine PySem.set_of_list ns (I.ok.hd hc) pl.isList (by simpa using rv.ints) (by unfold scanBound; omega) fun h2 tk m R le kp => ?_
 have em : m = (dedI ns).length := by
  obtain ⟨o, es, ep, t, ho, hex, hd, g, nd, hm, hb, hf, hn, hr, hl⟩ := R
  rw [← hn, ← ded_len (ks := es.toList.map keyOf) nd (fun x => by rw [← hm x]; simp), List.length_map, Array.length_toList]
 rw [em] at R
 exact ⟨.ref _, L2.upd H s.heap.objs.size (SetO X.w s.heap.objs.size (fun j => decide (j ∈ ns)) (dedI ns).length), I.laid kp (Nat.le_refl _) (setO_new R), rfl, q _ (I.hok.fresh (Nat.le_refl _))⟩
def rLenSet (w : World) : List V → Hp → VK → Prop := fun vs H Q => ∃ (a : Addr) (S : Int → Bool) (m : Nat), vs = [V.ref a] ∧ H a = some (SetO w a S m) ∧ m < 60 ∧ Q (.int m) H
theorem cr_lenSet : CallR X (.builtin "len") (rLenSet X.w) := by
 intro pins s σ H vs us Q I r ⟨a, S, m, e, ha, few, q⟩
 subst e
 obtain ⟨o, es, ep, t, ho, hex, hd, _, _, _, _, hf, hn, _, _⟩ := setO_get I ha
 rw [Vals.ref1 r]
 exact call_len_set ho hex hd hf (by rw [hn]; omega) ⟨.int m, H, I.tok _, ⟨_, by rw [hn]⟩, q⟩
theorem ded_few (ns : List Int) (h : ns.length < 60) : (dedI ns).length < 60 := by
 have key : ∀ (ns ls : List Int), (ns.foldl (fun ls a => if a ∈ ls then ls else ls ++ [a]) ls).length ≤ ls.length + ns.length := by
  intro ns
  induction ns with
  | nil => intro ls; simp
  | cons a ns ih =>
   intro ls
   rw [List.foldl_cons]
   have := ih (if a ∈ ls then ls else ls ++ [a])
   have h2 : (if a ∈ ls then ls else ls ++ [a]).length ≤ ls.length + 1 := by split <;> simp
   simp only [List.length_cons]
   omega
 have := key ns []
 unfold dedI
 simp at this
 omega
end
end VM
namespace VM
open PySem PySem.Spec PyProof.Rows L2
variable [Tbl]
structure Nm where
 fn : Nat → Option Str
 gl : Nat → Option Str
 fr : Nat → Bool := fun _ => false
 hn : Nat → Option Str := fun _ => none
 cn : Nat → Option Str := fun _ => none
 ct : Nat → Option Str := fun _ => none
 fl : List Str := []
 mt : List (Nat × Str × Nat) := []
 lm : List Str → Nat → SEs → Scope → Expr → Bool := fun _ _ _ _ _ => false
 ch : Nat → Option Str := fun _ => none
def visB (sc : Scope) (x : Str) : Bool := match sc.names.lookup x with
 | some .local => true
 | some .cell => true
 | some .free => true
 | _ => false
def glB (sc : Scope) (x : Str) : Bool := match sc.names.lookup x with
 | some .globalImplicit => true
 | _ => false
def locB (sc : Scope) (x : Str) : Bool := match sc.names.lookup x with
 | some .local => true
 | some .cell => true
 | _ => false
def dbg (x : Str) : Bool := !(x == ("__debug__" : Str)) && !(x == ("__classdict__" : Str))
def biName : Bi → String
 | .len => "len" | .abs => "abs" | .sum => "sum" | .all => "all" | .any => "any"
 | .max2 => "max" | .min2 => "min" | .max1 => "max" | .min1 => "min" | .maxd => "max"
 | .sorted => "sorted" | .sortL => "sorted" | .list => "list" | .tuple => "tuple" | .int => "int" | .lenS => "len" | .sortS => "sorted"
def biSet : Bi → Bool
 | .lenS => true
 | .sortS => true
 | _ => false
def biOk : Bi → Bool
 | .maxd => false
 | .lenS => false
 | .sortS => false
 | _ => true
def opBin : Op2 → Option Operator
 | .add => some .Add | .sub => some .Sub | .mul => some .Mult | .fdiv => some .FloorDiv | .mod => some .Mod
 | .pow => some .Pow | .shl => some .LShift | .shr => some .RShift | .band => some .BitAnd
 | _ => none
def opCmp : Op2 → Option CmpOp
 | .eq => some .Eq | .ne => some .NotEq | .lt => some .Lt | .le => some .LtE | .gt => some .Gt | .ge => some .GtE
 | .inn => some .In | .nin => some .NotIn | .is => some .Is | .isn => some .IsNot
 | _ => none
def ixOk : Expr → Bool
 | .Slice _ _ _ _ => false
 | _ => true
def noSet : Expr → Bool
 | .Set _ _ _ => false
 | _ => true
def opEqB (a b : Operator) : Bool := match a, b with
 | .Add, .Add => true | .Sub, .Sub => true | .Mult, .Mult => true | .FloorDiv, .FloorDiv => true | .Mod, .Mod => true
 | .Pow, .Pow => true | .LShift, .LShift => true | .RShift, .RShift => true | .BitAnd, .BitAnd => true
 | _, _ => false
def cmpEqB (a b : CmpOp) : Bool := match a, b with
 | .Eq, .Eq => true | .NotEq, .NotEq => true | .Lt, .Lt => true | .LtE, .LtE => true | .Gt, .Gt => true | .GtE, .GtE => true
 | .In, .In => true | .NotIn, .NotIn => true | .Is, .Is => true | .IsNot, .IsNot => true
 | _, _ => false
theorem opEqB_eq {a b : Operator} (h : opEqB a b = true) : a = b := by cases a <;> cases b <;> first | rfl | cases h
theorem cmpEqB_eq {a b : CmpOp} (h : cmpEqB a b = true) : a = b := by cases a <;> cases b <;> first | rfl | cases h
mutual
def tgIx : Tg → List Nat
 | .nm i => [i]
 | .tp ts => tgsIx ts
def tgsIx : Tgs → List Nat
 | .nil => []
 | .cons t r => tgIx t ++ tgsIx r
end
mutual
def chkG (N : List Str) (sc : Scope) (fn : Str → Bool) : Tg → Expr → Bool
 | .nm i, e => match e with
  | .Name x _ => decide (N[i]? = some x) && ((match sc.names.lookup x with | some .local => true | _ => false) || ((match sc.names.lookup x with | some .cell => true | _ => false) && fn x))
  | _ => false
 | .tp ts, e => match e with
  | .Tuple es _ _ => chkGs N sc fn ts es
  | _ => false
def chkGs (N : List Str) (sc : Scope) (fn : Str → Bool) : Tgs → List Expr → Bool
 | .nil, es => es.isEmpty
 | .cons t r, es => match es with
  | e :: es => nst e && chkG N sc fn t e && chkGs N sc fn r es
  | [] => false
end
def notKeys : SI → Bool
 | .keys _ => false
 | _ => true
def chkKeys (N : List Str) : SI → Scope → Expr → Bool
 | .keys (.var i), sc, .Name x _ => decide (N[i]? = some x) && visB sc x && dbg x
 | _, _, _ => false
def recB : Expr → Bool
 | .Name _ _ => true
 | .Call (.Name x _) _ [] _ => !decide (x = ("super" : Str))
 | _ => false
def plainT : Expr → Bool
 | .UnaryOp .Not _ _ => false
 | .BoolOp _ _ _ => false
 | .IfExp _ _ _ _ => false
 | .Compare _ _ _ _ => false
 | _ => true
mutual
def chkE (M : Nm) (N : List Str) : SE → Scope → Expr → Bool
 | .var i, sc, e => match e with
  | .Name x _ => decide (N[i]? = some x) && visB sc x && dbg x
  | _ => false
 | .cint n, _, e => match e with
  | .Constant (.int m) _ _ => decide (n = m)
  | _ => false
 | .cbl b, _, e => match e with
  | .Constant (.bool c) _ _ => b == c
  | _ => false
 | .cnon, _, e => match e with
  | .Constant .none _ _ => true
  | _ => false
 | .cstr s, _, e => match e with
  | .Constant (.str x) _ _ => decide (x = Str.ofString s)
  | _ => false
 | .glob g, sc, e => match e with
  | .Name x _ => decide (M.gl g = some x) && glB sc x && dbg x
  | _ => false
 | .op o a b, sc, e => match e with
  | .BinOp x p y _ => (match opBin o with | some q => opEqB q p | none => false) && chkE M N a sc x && chkE M N b sc y
  | .Compare x [p] [y] _ => (match opCmp o with | some q => cmpEqB q p | none => false) && noSet y && chkE M N a sc x && chkE M N b sc y
  | _ => false
 | .neg a, sc, e => match e with
  | .UnaryOp .USub x _ => chkE M N a sc x
  | _ => false
 | .not1 a, sc, e => match e with
  | .UnaryOp .Not x _ => chkE M N a sc x
  | _ => false
 | .bop an es, sc, e => match e with
  | .BoolOp .And xs _ => an && chkEs M N es sc xs && !xs.isEmpty
  | .BoolOp .Or xs _ => !an && chkEs M N es sc xs && !xs.isEmpty
  | _ => false
 | .chain o o' a b c, sc, e => match e with
  | .Compare x [p, p'] [y, z] _ => (match opCmp o with | some q => cmpEqB q p | none => false) && (match opCmp o' with | some q => cmpEqB q p' | none => false) && noSet y && noSet z && chkE M N a sc x && chkE M N b sc y && chkE M N c sc z
  | _ => false
 | .ite c a b, sc, e => match e with
  | .IfExp x y z _ => tOk c && chkE M N c sc x && chkE M N a sc y && chkE M N b sc z
  | _ => false
 | .tup es, sc, e => match e with
  | .Tuple xs _ _ => chkEs M N es sc xs
  | _ => false
 | .lst es, sc, e => match e with
  | .List xs _ => chkEs M N es sc xs
  | _ => false
 | .ix a b, sc, e => match e with
  | .Subscript x y _ => ixOk y && chkE M N a sc x && chkE M N b sc y
  | _ => false
 | .sl a lo hi, sc, e => match e with
  | .Subscript x (.Slice l h none _) _ => chkE M N a sc x && chkO M N lo sc l && chkO M N hi sc h
  | _ => false
 | .rev a, sc, e => match e with
  | .Subscript x (.Slice none none (some (.UnaryOp .USub (.Constant (.int 1) _ _) _)) _) _ => chkE M N a sc x
  | _ => false
 | .call f es, sc, e => (match e with
  | .Call (.Name x _) xs [] _ => decide (M.fn f = some x) && glB sc x && dbg x && chkEs M N es sc xs
  | _ => false) || (M.lm N f es sc e && plainT e)
 | .bi b es, sc, e => match e with
  | .Call (.Name x _) (y :: xs) [] _ => (biOk b && decide (x = Str.ofString (biName b)) && glB sc x && chkEs M N es sc (y :: xs)) || (match y with
   | .Call (.Name s _) [z] [] _ => biSet b && xs.isEmpty && decide (x = Str.ofString (biName b)) && decide (s = ("set" : Str)) && glB sc x && glB sc s && chkEs M N es sc [z]
   | _ => false)
  | _ => false
 | .isi a t, sc, e => match e with
  | .Call (.Name f _) [x, .Name y _] [] _ => decide (f = ("isinstance" : Str)) && decide (y = Str.ofString (tyName t)) && glB sc f && glB sc y && nst x && chkE M N a sc x
  | _ => false
 | .comp own tg it c el, sc, e => match e with
  | .ListComp x [⟨tgE, iter, ifs, 0⟩] scope _ => blkC N sc scope (own.map fun i => (N.getD i "", i)) && (tgIx tg).all (own.contains ·) &&
    (chkI M N it sc tgE iter || chkKeys N it sc iter) && noSet iter && chkG N (relS scope sc) (fun y => scope.names.lookup y == some .cell) tg tgE &&
    chkC M N c (relS scope sc) ifs && chkE M N el (relS scope sc) x
  | _ => false
 | .lrng es, sc, e => match es with
  | .cons a .nil => (match e with
   | .Call (.Name f _) [.Call (.Name g _) [x] [] _] [] _ => decide (f = ("list" : Str)) && decide (g = ("range" : Str)) && glB sc f && glB sc g && nst x && chkE M N a sc x
   | _ => false)
  | .cons a #v[b] => (match e with
   | .Call (.Name f _) [.Call (.Name g _) [x, y] [] _] [] _ => decide (f = ("list" : Str)) && decide (g = ("range" : Str)) && glB sc f && glB sc g && nst x && chkE M N a sc x && nst y && chkE M N b sc y
   | _ => false)
  | _ => false
 | .dget a b, sc, e => match e with
  | .Call (.Attribute (.Name x px) f apos) [y] [] cpos => decide (f = ("index" : Str)) && nst y && (apos.endLine == cpos.line) && chkE M N a sc (.Name x px) && chkE M N b sc y
  | _ => false
 | .dgetd a b c, sc, e => match e with
  | .Call (.Attribute (.Name x px) f apos) [y, z] [] cpos => decide (f = ("get" : Str)) && nst y && nst z && (apos.endLine == cpos.line) && chkE M N a sc (.Name x px) && chkE M N b sc y && chkE M N c sc z
  | _ => false
 | .cnt a b, sc, e => match e with
  | .Call (.Attribute (.Name x px) f apos) [y] [] cpos => decide (f = ("count" : Str)) && nst y && (apos.endLine == cpos.line) && chkE M N a sc (.Name x px) && chkE M N b sc y
  | _ => false
 | .mxd a b, sc, e => match e with
  | .Call (.Name f _) [x] [⟨some k, y, _⟩] _ => decide (f = ("max" : Str)) && decide (k = Str.ofString "default") && glB sc f && nst x && chkE M N a sc x && chkE M N b sc y
  | _ => false
 | .mk _ _ _, _, _ => false
 | .make f es, sc, e => match e with
  | .Call (.Name x _) xs [] _ => decide (M.ct f = some x) && glB sc x && dbg x && chkEs M N es sc xs
  | _ => false
 | .fld a f, sc, e => match e with
  | .Attribute (.Name x px) g _ => decide (g = Str.ofString f) && decide (g ∈ M.fl) && chkE M N a sc (.Name x px)
  | _ => false
 | .dsp k a, sc, e => match e with
  | .Dict [some (.Constant (.str s) _ _)] [x] _ => decide (s = Str.ofString k) && chkE M N a sc x
  | _ => false
 | .isc a c, sc, e => match e with
  | .Call (.Name f _) [x, .Name y _] [] _ => decide (f = ("isinstance" : Str)) && decide (M.cn c = some y) && glB sc f && glB sc y && dbg y && nst x && chkE M N a sc x
  | _ => false
 | .mth m ids a es, sc, e => match e with
  | .Call (.Attribute o g apos) (y :: ys) [] cpos => decide (g = Str.ofString m) && ids.all (fun p => decide ((p.1, g, p.2) ∈ M.mt)) && recB o && decide ((y :: ys).length < 29) && (apos.endLine == cpos.line) && chkE M N a sc o && chkEs M N es sc (y :: ys)
  | _ => false
def chkEs (M : Nm) (N : List Str) : SEs → Scope → List Expr → Bool
 | .nil, _, xs => xs.isEmpty
 | .cons e r, sc, xs => match xs with
  | x :: xs => nst x && chkE M N e sc x && chkEs M N r sc xs
  | [] => false
def chkO (M : Nm) (N : List Str) : SO → Scope → Option Expr → Bool
 | .none, _, x => x.isNone
 | .some e, sc, x => match x with
  | some y => chkE M N e sc y
  | none => false
def chkC (M : Nm) (N : List Str) : SO → Scope → List Expr → Bool
 | .none, _, xs => xs.isEmpty
 | .some e, sc, xs => match xs with
  | [x] => tOk e && chkE M N e sc x
  | _ => false
def chkI (M : Nm) (N : List Str) : SI → Scope → Expr → Expr → Bool
 | .seq e, sc, _, x => chkE M N e sc x
 | .rng1 a, sc, _, e => match e with
  | .Call (.Name f _) [x] [] _ => decide (f = ("range" : Str)) && glB sc f && nst x && chkE M N a sc x
  | _ => false
 | .rng2 a b, sc, _, e => match e with
  | .Call (.Name f _) [x, y] [] _ => decide (f = ("range" : Str)) && glB sc f && nst x && chkE M N a sc x && nst y && chkE M N b sc y
  | _ => false
 | .rng3 a b c, sc, _, e => match e with
  | .Call (.Name f _) [x, y, z] [] _ => decide (f = ("range" : Str)) && glB sc f && nst x && chkE M N a sc x && nst y && chkE M N b sc y && nst z && chkE M N c sc z
  | _ => false
 | .enum a, sc, tg, e => match tg with
  | .Tuple _ _ _ => (match e with
   | .Call (.Name f _) [x] [] _ => decide (f = ("enumerate" : Str)) && glB sc f && nst x && chkE M N a sc x
   | _ => false)
  | _ => false
 | .zip a b, sc, tg, e => match tg with
  | .Tuple _ _ _ => (match e with
   | .Call (.Name f _) [x, y] [] _ => decide (f = ("zip" : Str)) && glB sc f && nst x && chkE M N a sc x && nst y && chkE M N b sc y
   | _ => false)
  | _ => false
 | .keys _, _, _, _ => false
def tOk : SE → Bool
 | .ite _ _ _ => false
 | .not1 a => tOk a
 | .bop _ es => tOks es
 | _ => true
def tOks : SEs → Bool
 | .nil => true
 | .cons e r => tOk e && tOks r
end
def spC (K : PySem.W.Frag) (np : Nat) (g : List Val → R Val) : Sp := fun xs H Q _ => ∃ O as r, WF H O ∧ Reps K H O as xs ∧ as.length = np ∧ g as = .ok r ∧ Post K H O r Q
def spF (K : PySem.W.Frag) (np : Nat) (g : List Val → R Val) : Sp := fun xs H Q _ => ∃ O as vs, WF H O ∧ Reps K H O as xs ∧ as.length = np ∧ g as = .ok (.lst vs) ∧
 ∀ p H' ys, H p = none → Ext H H' → H' p = some (.lst ys) → Reps K H' (fun a => O a ∨ a = p) vs ys → Q (.ref p) H'
def spH (K : PySem.W.Frag) (np : Nat) (g : List HV → HHp → R (HV × HHp)) : Sp := fun xs H Q _ => ∃ O φ h as q, RelH K H O φ h ∧ RepHs K H O φ as xs ∧ as.length = np ∧ g as h = .ok q ∧
 ∀ x H' φ', KeepH H φ H' φ' → RelH K H' O φ' q.2 → RepH K H' O φ' q.1 x → Q x H'
def spI (K : PySem.W.Frag) (np : Nat) (C : Addr) (g : List Val → R Val) : Sp := fun xs H Q _ => ∃ H1 O as r self dx xs', xs = .ref self :: xs' ∧ H1 self = none ∧ H1 dx = none ∧ dx ≠ self ∧ H = upd (upd H1 dx (.own self)) self (.ins C dx []) ∧ WF H1 O ∧ Reps K H1 O as xs' ∧
 as.length = np ∧ g (.non :: as) = .ok r ∧ ∀ H', Ext H1 H' → Rep K H' O r (.ref self) → Q .non H'
def MkOk (P : Program) (w : World) (K : PySem.W.Frag) (mg : Str → Option Value) (base : Heap) (n : Nat) (C : Addr) (g : List Val → R Val) : Prop :=
 (∀ vs v, g vs = .ok v → False) ∨ (∃ fi fd ps np k, k + 1 ≤ n ∧ ps.length = np + 1 ∧ Mk K C fi ∧ Binds K fd ps [] ∧ FnOk P w K mg base CX0 k fi fd ps (spI K np C g) ∧ ∀ vs v, g vs = .ok v → vs.length = np + 1) ∨
 (Bare K C ∧ ∃ c, Tbl.C c = some C ∧ ∀ vs v, g (.non :: vs) = .ok v → vs = [] ∧ v = .ins c [] [])
def spIH (K : PySem.W.Frag) (np : Nat) (C : Addr) (g : List HV → HHp → R (HV × HHp)) : Sp := fun xs H Q _ => ∃ H1 O φ h as q self dx xs', xs = .ref self :: xs' ∧ H1 self = none ∧ H1 dx = none ∧ dx ≠ self ∧ H = upd (upd H1 dx (.own self)) self (.ins C dx []) ∧
 RelH K H1 O φ h ∧ RepHs K H1 O φ as xs' ∧ as.length = np ∧ g (.p .non :: as) h = .ok q ∧ ∀ H' φ', KeepH H1 φ H' φ' → RelH K H' O φ' q.2 → RepH K H' O φ' q.1 (.ref self) → Q .non H'
def MkOkH (P : Program) (w : World) (K : PySem.W.Frag) (mg : Str → Option Value) (base : Heap) (n : Nat) (C : Addr) (g : List HV → HHp → R (HV × HHp)) : Prop :=
 (∀ vs h q, g vs h = .ok q → False) ∨ (∃ fi fd ps np k, k + 1 ≤ n ∧ ps.length = np + 1 ∧ Mk K C fi ∧ Binds K fd ps [] ∧ FnOk P w K mg base CX0 k fi fd ps (spIH K np C g) ∧ ∀ vs h q, g vs h = .ok q → vs.length = np + 1)
structure ClsT (K : PySem.W.Frag) (C : Addr) : Prop where
 ha : PySem.W.findIn K (.ref C) "__class__" = some (some (.builtin "object.__class__"))
 hn : PySem.W.specialIn K (.builtin "object.__class__") "__get__" = some (some (.builtin "getset_descriptor.__get__"))
 htk : PySem.W.takesIn K (.builtin "object.__class__") = some true
 hm : PySem.W.mroIn K C (.type "object") = some true
def LamFn (P : Program) (w : World) (K : PySem.W.Frag) (mg : Str → Option Value) (base : Heap) (n : Nat) (g : List HV → HHp → R (HV × HHp)) (q : Str) (ps : Arguments) (bd : Expr) (sc : Scope) : Prop :=
 ∀ (A : Around) (outer : List Env) (s : Shared) (H : Hp) (a c : Addr) (u : Value) (v : V) (Q : VK) (E : XK), Room n A → Env0 P w K mg base A outer s H → H a = some (LamO a c q ps bd sc) → H c = some (LamX.CodeO c q) → L2.RelV v u → spH K 1 g [v] H Q E →
  codeAny (model P w) A (.call (.ref a) ⟨[u], []⟩) (CR CX0 outer P w H s Q E) s
structure ClFacts (M : Nm) (T : Tab) (P : Program) (w : World) (K : PySem.W.Frag) (mg : Str → Option Value) (base : Heap) (n : Nat) : Prop where
 cls : ∀ c C, Tbl.C c = some C → Cls K C ∧ ClsT K C ∧ ∀ f ∈ M.fl, NoAttr K C f
 iss : ∀ d y, M.cn d = some y → ∃ D, mg y = some (.ref D) ∧ ∀ c C, Tbl.C c = some C → PySem.W.kitOne K (.ref C) (.ref D) = some (subC c d)
 mks : ∀ f y, M.ct f = some y → ∃ C, mg y = some (.ref C) ∧ MkOk P w K mg base n C (T.C f)
 mts : ∀ c m f, (c, m, f) ∈ M.mt → ∃ C fa fd ps, Tbl.C c = some C ∧ Meth K C m fa ∧ Binds K fd ps [] ∧ FnOk P w K mg base CX0 n fa fd ps (spC K ps.length (T.C f)) ∧ ∀ vs v, T.C f vs = .ok v → vs.length = ps.length
 mkh : ∀ f y, M.ch f = some y → ∃ C, mg y = some (.ref C) ∧ MkOkH P w K mg base n C (T.H f)
 lms : ∀ f ps bd sc, Tbl.L f ps bd sc = true → ∀ q, LamFn P w K mg base n (T.H f) q ps bd sc
def biNames : List String := ["len", "abs", "sum", "all", "any", "max", "min", "sorted", "list", "tuple", "int", "bool", "str", "isinstance", "range", "enumerate", "zip", "set"]
structure Facts (M : Nm) (T : Tab) (P : Program) (w : World) (K : PySem.W.Frag) (mg : Str → Option Value) (base : Heap) (n : Nat) : Prop where
 fns : ∀ f x, M.fn f = some x → ∃ fa fd ps, mg x = some (.ref fa) ∧ PySem.W.keepIn K (.ref fa) = true ∧ Binds K fd ps [] ∧ FnOk P w K mg base CX0 n fa fd ps (spC K ps.length (T.C f)) ∧
  (∀ vs v, T.C f vs = .ok v → vs.length = ps.length) ∧ (M.fr f = true → FnOk P w K mg base CX0 n fa fd ps (spF K ps.length (T.C f)))
 hw : w = Tbl.w
 gls : ∀ g x v, M.gl g = some x → T.G g = some v → ∃ u y, mg x = some u ∧ RelV y u ∧ ∀ H O, Rep K H O v y
 bis : ∀ x ∈ biNames, mg (Str.ofString x) = none
 hns : ∀ f x, M.hn f = some x → ∃ fa fd ps, mg x = some (.ref fa) ∧ PySem.W.keepIn K (.ref fa) = true ∧ Binds K fd ps [] ∧ FnOk P w K mg base CX0 n fa fd ps (spH K ps.length (T.H f)) ∧
  (∀ vs h q, T.H f vs h = .ok q → vs.length = ps.length)
 cl : ClFacts M T P w K mg base n
inductive Reach : Cx → Cx → Prop
 | refl {X : Cx} : Reach X X
 | blk {X Y : Cx} (s : Shared) (H : Hp) (scope : Scope) (cl : List (Str × Addr)) (C : Addr) (fp : List Addr) (r : Reach (X.blk s H scope (compEnvC scope cl C X.env) fp) Y) : Reach X Y
structure Ctx (X : Cx) (n : Nat) (M : Nm) (T : Tab) (N : List Str) : Prop where
 facts : Facts M T X.prog X.w X.K X.mg X.base n
 hN : X.N = N
 nd : X.N.Nodup
 calm : X.calm = true
 room : Room n X.A
 lam : ∀ Y, Reach X Y → ∀ f es e, M.lm N f es Y.env.scope e = true → PE Y e (tE Y.K T (.call f es))
theorem noLm {M : Nm} (hl : ∀ N f es sc e, M.lm N f es sc e = false) {X : Cx} {T : Tab} {N : List Str} : ∀ Y, Reach X Y → ∀ f es e, M.lm N f es Y.env.scope e = true → PE Y e (tE Y.K T (.call f es)) := fun Y _ f es e h => by
 rw [hl] at h; cases h
theorem Ctx.blk {X : Cx} {n : Nat} {M : Nm} {T : Tab} {N : List Str} (c : Ctx X n M T N) (s : Shared) (H : Hp) (scope : Scope) (cl : List (Str × Addr)) (C : Addr) (fp : List Addr) : Ctx (X.blk s H scope (compEnvC scope cl C X.env) fp) n M T N :=
 ⟨c.facts, c.hN, c.nd, c.calm, c.room, fun Y r => c.lam Y (.blk s H scope cl C fp r)⟩
section
variable {X : Cx} {n : Nat} {M : Nm} {T : Tab} {N : List Str}
theorem visB_vis {sc : Scope} {x : Str} (h : visB sc x = true) : Vis sc x := by
 unfold visB at h
 split at h <;> first | exact .inl (by assumption) | exact .inr (.inl (by assumption)) | exact .inr (.inr (by assumption)) | cases h
theorem glB_gl {x : Str} (h : glB X.env.scope x = true) : Gl X x := by
 unfold glB at h
 split at h
 ·assumption
 ·cases h
theorem dbg_1 {x : Str} (h : dbg x = true) : (x == ("__debug__" : Str)) = false := by
 unfold dbg at h
 rw [Bool.and_eq_true] at h
 simpa using h.1
theorem dbg_2 {x : Str} (h : dbg x = true) : (x == ("__classdict__" : Str)) = false := by
 unfold dbg at h
 rw [Bool.and_eq_true] at h
 simpa using h.2
theorem noSet_mark {op : CmpOp} {b : Expr} (h : noSet b = true) : behindInMarks op b = false := by
 cases b <;> first | rfl | cases h
theorem noSet_fold {b : Expr} {env : Env} (h : noSet b = true) (x : Value) : foldedSetIterable b env x = pure x := by
 cases b <;> first | rfl | cases h
theorem Ctx.u64 (c : Ctx X n M T N) : X.A.units + 64 < cLine := c.room.units
theorem Ctx.hw (c : Ctx X n M T N) : X.w = Tbl.w := c.facts.hw
theorem Ctx.u65 (c : Ctx X n M T N) : X.A.units + 65 < cLine := by have := c.room.un; omega
theorem getE_ok {ρ : VE} {i : Nat} {v : Val} (h : getE ρ i = .ok v) : ρ[i]? = some (some v) := by
 unfold getE at h
 split at h
 ·cases h; assumption
 ·cases h
theorem sE_var {i : Nat} {x : Str} {pos : Pos} (hN : X.N[i]? = some x) (hv : Vis X.env.scope x) (h1 : dbg x = true) : PE X (.Name x pos) (tE X.K T (.var i)) :=
 PE.imp (pe_var hN hv (dbg_1 h1) (dbg_2 h1)) (fun σ H Q ⟨O, ρ, v, w, eo, h, q⟩ => by
  simp only [ev] at h
  obtain ⟨x, h1, h2⟩ := eo.get _ _ (getE_ok h)
  exact ⟨x, h1, q.at h2⟩)
theorem sE_int {i : Int} {k pos} : PE X (.Constant (.int i) k pos) (tE X.K T (.cint i)) :=
 PE.imp pe_int (fun σ H Q ⟨O, ρ, v, w, eo, h, q⟩ => by simp only [ev] at h; cases h; exact q.at (by simp only [Rep]))
theorem sE_bl {i : Bool} {k pos} : PE X (.Constant (.bool i) k pos) (tE X.K T (.cbl i)) :=
 PE.imp pe_bl (fun σ H Q ⟨O, ρ, v, w, eo, h, q⟩ => by simp only [ev] at h; cases h; exact q.at (by simp only [Rep]))
theorem sE_non {k pos} : PE X (.Constant .none k pos) (tE X.K T .cnon) :=
 PE.imp pe_non (fun σ H Q ⟨O, ρ, v, w, eo, h, q⟩ => by simp only [ev] at h; cases h; exact q.at (by simp only [Rep]))
theorem sE_str {s : String} {k pos} : PE X (.Constant (.str (Str.ofString s)) k pos) (tE X.K T (.cstr s)) :=
 PE.imp pe_str (fun σ H Q ⟨O, ρ, v, w, eo, h, q⟩ => by simp only [ev] at h; cases h; exact q.at (by simp only [Rep]))
theorem sE_glob {g : Nat} {x : Str} {pos : Pos} (c : Ctx X n M T N) (hm : M.gl g = some x) (hg : Gl X x) (h1 : dbg x = true) : PE X (.Name x pos) (tE X.K T (.glob g)) := by
 refine ⟨fun pins s σ H Q I ⟨O, ρ, v, w, eo, h, q⟩ => ?_⟩
 simp only [ev] at h
 obtain ⟨u, y, m, r, rp⟩ := c.facts.gls g x v hm (ofO_ok h)
 exact (pe_glob hg m r (dbg_1 h1)).run pins s σ H Q I (q.at (rp H O))
variable {a b c e : Expr} {sa sb sc se : SE} {pos : Pos}
theorem tE_op {o : Op2} {K : PySem.W.Frag} : ∀ σ H Q, tE K T (.op o sa sb) σ H Q → tOp (rV K (op2 o)) (tE K T sa) (tE K T sb) σ H Q := fun σ H Q ⟨O, ρ, v, w, eo, h, q⟩ => by
 simp only [ev] at h
 obtain ⟨x, h1, h⟩ := bok h
 obtain ⟨y, h2, h⟩ := bok h
 exact ⟨O, ρ, x, w, eo, h1, fun x1 H1 e1 r1 => ⟨O, ρ, y, w.ext e1, eo.ext w e1, h2, fun y1 H2 e2 r2 => ⟨O, x, y, v, (w.ext e1).ext e2, r1.ext (w.ext e1) e2, r2, h, q.ext (e1.trans e2)⟩⟩⟩
theorem sE_bin {o : Op2} {p : Operator} (ho : opBin o = some p) (ha : PE X a (tE X.K T sa)) (hb : PE X b (tE X.K T sb)) : PE X (.BinOp a p b pos) (tE X.K T (.op o sa sb)) := by
 have key : OpR X (binaryOp p) (rV X.K (op2 o)) := by
  cases o <;> simp only [opBin] at ho <;> cases ho
  ·exact sop_add
  ·exact sop_sub
  ·exact sop_mul
  ·exact sop_fdiv
  ·exact sop_mod
  ·exact sop_pow
  ·exact sop_shl
  ·exact sop_shr
  ·exact sop_band
 exact PE.imp (pe_op key ha hb) tE_op
theorem cmp_key (cx : Ctx X n M T N) {o : Op2} {p : CmpOp} (ho : opCmp o = some p) : OpR X (compareOp p) (rV X.K (op2 o)) := by
 cases o <;> simp only [opCmp] at ho <;> cases ho
 ·exact sop_eq cx.u64
 ·exact sop_ne cx.u64
 ·exact sop_cmp (by have := cx.u64; omega) (by simp)
 ·exact sop_cmp (by have := cx.u64; omega) (by simp)
 ·exact sop_cmp (by have := cx.u64; omega) (by simp)
 ·exact sop_cmp (by have := cx.u64; omega) (by simp)
 ·exact sop_in cx.hw cx.u65
 ·exact sop_nin cx.hw cx.u65
 ·exact sop_is
 ·exact sop_isn
theorem sE_cmp (cx : Ctx X n M T N) {o : Op2} {p : CmpOp} (ho : opCmp o = some p) (hm : noSet b = true) (ha : PE X a (tE X.K T sa)) (hb : PE X b (tE X.K T sb)) : PE X (.Compare a [p] [b] pos) (tE X.K T (.op o sa sb)) :=
 PE.imp (pe_cmpR (cmp_key cx ho) ha hb (noSet_mark hm)) tE_op
theorem tT_E {K : PySem.W.Frag} : ∀ σ H Q, tT K T se σ H Q → tE K T se σ H (fun x H1 => ∃ k, x = .bl k ∧ Q k H1) := fun σ H Q ⟨O, ρ, v, w, eo, h, q⟩ =>
 ⟨O, ρ, .bl v, w, eo, h, fun x H' e r => by simp only [Rep] at r; exact ⟨v, r, q H' e⟩⟩
theorem sT_cmp (cx : Ctx X n M T N) {o : Op2} {p : CmpOp} (ho : opCmp o = some p) (hm : noSet b = true) (ha : PE X a (tE X.K T sa)) (hb : PE X b (tE X.K T sb)) : PT X (.Compare a [p] [b] pos) (tT X.K T (.op o sa sb)) :=
 PT.imp (pt_cmpR (cmp_key cx ho) ha hb (noSet_mark hm)) (fun σ H Q h => tE_op σ H _ (tT_E σ H Q h))
theorem plainT_ok {env : Env} (h : plainT e = true) (whole : Sem Value) : isTrue e env whole = (do let v ← whole; standAt e.pos; holding [v] (truthy v)) := by
 cases e with
 | UnaryOp op x p => cases op <;> first | rfl | cases h
 | BoolOp => cases h
 | IfExp => cases h
 | Compare => cases h
 | _ => rfl
theorem sT_val (h : PE X e (tE X.K T se)) (hp : plainT e = true) : PT X e (tT X.K T se) := PT.imp (pt_val h (plainT_ok hp)) tT_E
theorem sE_neg (ha : PE X a (tE X.K T sa)) : PE X (.UnaryOp .USub a pos) (tE X.K T (.neg sa)) :=
 PE.imp (pe_un un_neg ha) (fun σ H Q ⟨O, ρ, v, w, eo, h, q⟩ => by
  simp only [ev] at h
  obtain ⟨x, h1, h⟩ := bok h
  obtain ⟨i, h2, h⟩ := bok h
  cases h
  obtain rfl := asInt_ok h2
  refine ⟨O, ρ, _, w, eo, h1, fun x1 H1 e1 r1 => ?_⟩
  simp only [Rep] at r1
  exact ⟨i, r1, q _ _ e1 (by simp only [Rep])⟩)
theorem tru_ok {v : Val} {b : Bool} (h : tru v = .ok b) : v = .bl b := by
 cases v <;> simp only [tru] at h <;> cases h; rfl
theorem sE_not (ha : PE X a (tE X.K T sa)) : PE X (.UnaryOp .Not a pos) (tE X.K T (.not1 sa)) :=
 PE.imp (pe_not ha) (fun σ H Q ⟨O, ρ, v, w, eo, h, q⟩ => by
  simp only [ev] at h
  obtain ⟨x, h1, h⟩ := bok h
  obtain ⟨i, h2, h⟩ := bok h
  cases h
  obtain rfl := tru_ok h2
  refine ⟨O, ρ, _, w, eo, h1, fun x1 H1 e1 r1 => ?_⟩
  simp only [Rep] at r1
  exact ⟨i, r1, q _ _ e1 (by simp only [Rep])⟩)
theorem sT_not (ha : PT X a (tT X.K T sa)) : PT X (.UnaryOp .Not a pos) (tT X.K T (.not1 sa)) :=
 PT.imp (pt_not ha) (fun σ H Q ⟨O, ρ, v, w, eo, h, q⟩ => by
  simp only [ev] at h
  obtain ⟨x, h1, h⟩ := bok h
  obtain ⟨i, h2, h⟩ := bok h
  cases h
  obtain rfl := tru_ok h2
  exact ⟨O, ρ, i, w, eo, h1, fun H1 e1 => q H1 e1⟩)
theorem tE_chain {o o' : Op2} {K : PySem.W.Frag} : ∀ σ H Q, tE K T (.chain o o' sa sb sc) σ H Q → tChain (rV K (op2 o)) (rV K (op2 o')) (tE K T sa) (tE K T sb) (tE K T sc) σ H Q := fun σ H Q ⟨O, ρ, v, w, eo, h, q⟩ => by
 simp only [ev] at h
 obtain ⟨x, h1, h⟩ := bok h
 obtain ⟨y, h2, h⟩ := bok h
 obtain ⟨r, h3, h⟩ := bok h
 obtain ⟨k, h4, hK⟩ := bok h
 obtain rfl := tru_ok h4
 replace h := hK
 refine ⟨O, ρ, x, w, eo, h1, fun x1 H1 e1 r1 => ⟨O, ρ, y, w.ext e1, eo.ext w e1, h2, fun y1 H2 e2 r2 => ⟨O, x, y, .bl k, (w.ext e1).ext e2, r1.ext (w.ext e1) e2, r2, h3, fun z H3 e3 r3 => ?_⟩⟩⟩
 simp only [Rep] at r3
 refine ⟨k, r3, ?_⟩
 cases k with
 | false =>
  simp only [Bool.false_eq_true, if_false] at h ⊢
  cases h
  exact q _ _ ((e1.trans e2).trans e3) (by simp only [Rep])
 | true =>
  simp only [if_true] at h ⊢
  obtain ⟨z, h5, h⟩ := bok h
  have w2 := ((w.ext e1).ext e2)
  exact ⟨O, ρ, z, w2.ext e3, eo.ext w ((e1.trans e2).trans e3), h5, fun z1 H4 e4 r4 => ⟨O, y, z, v, (w2.ext e3).ext e4, r2.ext w2 (e3.trans e4), r4, h, q.ext (((e1.trans e2).trans e3).trans e4)⟩⟩
theorem sE_chain (cx : Ctx X n M T N) {o o' : Op2} {p p' : CmpOp} (ho : opCmp o = some p) (ho' : opCmp o' = some p') (hm : noSet c = true)
  (ha : PE X a (tE X.K T sa)) (hb : PE X b (tE X.K T sb)) (hc : PE X c (tE X.K T sc)) : PE X (.Compare a [p, p'] [b, c] pos) (tE X.K T (.chain o o' sa sb sc)) :=
 PE.imp (pe_chain (cmp_key cx ho) (cmp_key cx ho') ha hb hc (noSet_mark hm)) tE_chain
theorem sT_chain (cx : Ctx X n M T N) {o o' : Op2} {p p' : CmpOp} (ho : opCmp o = some p) (ho' : opCmp o' = some p') (hm : noSet c = true)
  (ha : PE X a (tE X.K T sa)) (hb : PE X b (tE X.K T sb)) (hc : PE X c (tE X.K T sc)) : PT X (.Compare a [p, p'] [b, c] pos) (tT X.K T (.chain o o' sa sb sc)) :=
 PT.imp (pt_chain (cmp_key cx ho) (cmp_key cx ho') ha hb hc (noSet_mark hm)) (fun σ H Q h => tE_chain σ H _ (tT_E σ H Q h))
theorem sE_ite (hc : PT X c (tT X.K T sc)) (ha : PE X a (tE X.K T sa)) (hb : PE X b (tE X.K T sb)) : PE X (.IfExp c a b pos) (tE X.K T (.ite sc sa sb)) :=
 PE.imp (pe_ifExp hc ha hb) (fun σ H Q ⟨O, ρ, v, w, eo, h, q⟩ => by
  simp only [ev] at h
  obtain ⟨x, h1, h⟩ := bok h
  obtain ⟨k, h2, hK⟩ := bok h
  obtain rfl := tru_ok h2
  replace h := hK
  refine ⟨O, ρ, k, w, eo, h1, fun H1 e1 => ?_⟩
  cases k with
  | true =>
   simp only [if_true] at h ⊢
   exact ⟨O, ρ, v, w.ext e1, eo.ext w e1, h, q.ext e1⟩
  | false =>
   simp only [Bool.false_eq_true, if_false] at h ⊢
   exact ⟨O, ρ, v, w.ext e1, eo.ext w e1, h, q.ext e1⟩)
variable {es : List Expr} {ses : SEs}
theorem sE_tup {k : Nat} (h : PA X es (tA X.K T ses)) : PE X (.Tuple es k pos) (tE X.K T (.tup ses)) :=
 PE.imp (pe_tup h) (fun σ H Q ⟨O, ρ, v, w, eo, h, q⟩ => by
  simp only [ev] at h
  obtain ⟨vs, h1, h⟩ := bok h
  obtain ⟨hl, h⟩ := iok h
  subst h
  refine ⟨O, ρ, vs, w, eo, h1, fun xs H1 e1 r1 => ⟨by rw [r1.length, ← lineN_eq]; exact hl, fun p np => ?_⟩⟩
  exact q _ _ (e1.trans (Ext.upd np)) (Rep.tup_new (w.ext e1) np r1))
theorem sE_lst (h : PA X es (tA X.K T ses)) : PE X (.List es pos) (tE X.K T (.lst ses)) :=
 PE.imp (pe_lst h) (fun σ H Q ⟨O, ρ, v, w, eo, h, q⟩ => by
  simp only [ev] at h
  obtain ⟨vs, h1, h⟩ := bok h
  obtain ⟨hl, h⟩ := iok h
  subst h
  refine ⟨O, ρ, vs, w, eo, h1, fun xs H1 e1 r1 => ⟨by rw [r1.length, ← lineN_eq]; exact hl, fun p np => ?_⟩⟩
  exact q _ _ (e1.trans (Ext.upd np)) (Rep.lst_new (w.ext e1) np r1))
theorem ixOk_plain (h : ixOk b = true) : PlainIx b := by
 intro o i
 cases b <;> first | rfl | cases h
theorem sE_ix (cx : Ctx X n M T N) (ha : PE X a (tE X.K T sa)) (hb : PE X b (tE X.K T sb)) (h : ixOk b = true) : PE X (.Subscript a b pos) (tE X.K T (.ix sa sb)) :=
 PE.imp (pe_ix (six cx.hw cx.u65) ha hb (ixOk_plain h)) (fun σ H Q ⟨O, ρ, v, w, eo, h, q⟩ => by
  simp only [ev] at h
  obtain ⟨x, h1, h⟩ := bok h
  obtain ⟨y, h2, h⟩ := bok h
  exact ⟨O, ρ, x, w, eo, h1, fun x1 H1 e1 r1 => ⟨O, ρ, y, w.ext e1, eo.ext w e1, h2, fun y1 H2 e2 r2 => ⟨O, x, y, v, (w.ext e1).ext e2, r1.ext (w.ext e1) e2, r2, h, q.ext (e1.trans e2)⟩⟩⟩)
def tO (K : PySem.W.Frag) (T : Tab) (s : SO) : TO := fun σ H Q => ∃ O ρ r, WF H O ∧ EOk K H O σ ρ ∧ evO T s ρ = .ok r ∧ ∀ H', Ext H H' → Q r H'
theorem PO.imp {e : Option Expr} {t t' : TO} (h : PO X e t) (i : ∀ σ H Q, t' σ H Q → t σ H Q) : PO X e t' := by
 refine ⟨?_⟩
 intros
 apply h.run <;> first | assumption | (apply i; assumption)
theorem sO_none : PO X none (tO X.K T .none) := PO.imp po_none (fun σ H Q ⟨O, ρ, r, w, eo, h, q⟩ => by simp only [evO] at h; cases h; exact q H Ext.refl)
theorem sO_some (ha : PE X a (tE X.K T sa)) : PO X (some a) (tO X.K T (.some sa)) := PO.imp (po_some ha) (fun σ H Q ⟨O, ρ, r, w, eo, h, q⟩ => by
 simp only [evO] at h
 obtain ⟨x, h1, h⟩ := bok h
 obtain ⟨k, h2, h⟩ := bok h
 cases h
 obtain rfl := asInt_ok h2
 refine ⟨O, ρ, _, w, eo, h1, fun x1 H1 e1 r1 => ?_⟩
 simp only [Rep] at r1
 exact ⟨k, r1, q H1 e1⟩)
theorem sE_sl {l u : Option Expr} {sl su : SO} {p2 : Pos} (ha : PE X a (tE X.K T sa)) (hl : PO X l (tO X.K T sl)) (hu : PO X u (tO X.K T su)) : PE X (.Subscript a (.Slice l u none p2) pos) (tE X.K T (.sl sa sl su)) :=
 PE.imp (pe_slice ssl ha hl hu) (fun σ H Q ⟨O, ρ, v, w, eo, h, q⟩ => by
  simp only [ev] at h
  obtain ⟨x, h1, h⟩ := bok h
  obtain ⟨y, h2, h⟩ := bok h
  obtain ⟨z, h3, h⟩ := bok h
  exact ⟨O, ρ, x, w, eo, h1, fun x1 H1 e1 r1 => ⟨O, ρ, y, w.ext e1, eo.ext w e1, h2, fun H2 e2 => ⟨O, ρ, z, w.ext (e1.trans e2), eo.ext w (e1.trans e2), h3, fun H3 e3 =>
   ⟨O, x, v, w.ext ((e1.trans e2).trans e3), r1.ext (w.ext e1) (e2.trans e3), h, q.ext ((e1.trans e2).trans e3)⟩⟩⟩⟩)
theorem sE_rev {k : Nat} {p1 p2 p3 : Pos} (ha : PE X a (tE X.K T sa)) : PE X (.Subscript a (.Slice none none (some (.UnaryOp .USub (.Constant (.int 1) k p1) p2)) p3) pos) (tE X.K T (.rev sa)) :=
 PE.imp (pe_revL ha) (fun σ H Q ⟨O, ρ, v, w, eo, h, q⟩ => by
  simp only [ev] at h
  obtain ⟨x, h1, h⟩ := bok h
  cases x with
  | lst vs =>
   simp only [revV] at h; cases h
   refine ⟨O, ρ, _, w, eo, h1, fun x1 H1 e1 r1 => ?_⟩
   simp only [Rep] at r1
   obtain ⟨p, xs, rfl, n, hp, rr⟩ := r1
   exact ⟨p, xs, rfl, SqL.of hp, fun l nl => q _ _ (e1.trans (Ext.upd nl)) (Rep.lst_new (w.ext e1) nl rr.rev)⟩
  | _ => simp only [revV] at h; cases h)
theorem rgV_reps {K : PySem.W.Frag} {H : Hp} {O : Hid} {i j : Int} : Reps K H O (rngC i 1 (j - i).toNat) (rgV i j) := by
 have := Reps.ints (K := K) (H := H) (O := O) ((List.range (j - i).toNat).map fun (k : Nat) => i + (k : Int) * 1)
 rw [List.map_map, List.map_map] at this
 have e : rgV i j = List.map (V.int ∘ fun (k : Nat) => i + (k : Int) * 1) (List.range (j - i).toNat) := by
  unfold rgV
  refine List.map_congr_left fun k _ => ?_
  simp only [Function.comp, Int.mul_one]
 rw [e]
 exact this
theorem rgOk_small {i j : Int} (h : smallR i j = true) (h2 : (j - i).toNat ≤ lineN) : RgOk i j := by
 unfold smallR at h
 have h := of_decide_eq_true h
 unfold lineN at h2
 exact ⟨by omega, by omega, by omega, by omega, by omega⟩
theorem sE_lrng1 {f g : Str} {p p2 p3 : Pos} (cx : Ctx X n M T N) (hg : Gl X "list") (hg2 : Gl X "range") (ha : PE X a (tE X.K T sa)) (n1 : nst a = true) : PE X (.Call (.Name "list" p) [.Call (.Name "range" p2) [a] [] p3] [] pos) (tE X.K T (.lrng #v[sa])) :=
 PE.imp (pe_listRg cx.calm hg (cx.facts.bis "list" (by decide)) (prg_1 hg2 (cx.facts.bis "range" (by decide)) ha (star_cons n1)) rfl) (fun σ H Q ⟨O, ρ, v, w, eo, h, q⟩ => by
  simp only [ev, evs] at h
  obtain ⟨vs, g1, h⟩ := bok h
  obtain ⟨x, h1, h2⟩ := bok g1
  obtain rfl : [x] = vs := by cases h2; rfl
  clear g1 h2
  cases x with
  | int j =>
   simp only [lrngV] at h
   obtain ⟨hc, h⟩ := iok h
   subst h
   rw [Bool.and_eq_true] at hc
   refine ⟨O, ρ, _, w, eo, h1, fun x1 H1 e1 r1 => ?_⟩
   simp only [Rep] at r1
   have hj : (j - 0).toNat = j.toNat := by rw [Int.sub_zero]
   refine ⟨j, r1, rgOk_small hc.1 (by rw [hj]; exact of_decide_eq_true hc.2), fun l nl => q _ _ (e1.trans (Ext.upd nl)) (Rep.lst_new (w.ext e1) nl ?_)⟩
   have := rgV_reps (K := X.K) (H := H1) (O := O) (i := 0) (j := j)
   rw [hj] at this
   exact this
  | _ => simp only [lrngV] at h; cases h)
theorem sE_lrng2 {f g : Str} {p p2 p3 : Pos} (cx : Ctx X n M T N) (hg : Gl X "list") (hg2 : Gl X "range") (ha : PE X a (tE X.K T sa)) (n1 : nst a = true) (hb : PE X b (tE X.K T sb)) (n2 : nst b = true) : PE X (.Call (.Name "list" p) [.Call (.Name "range" p2) [a, b] [] p3] [] pos) (tE X.K T (.lrng #v[sa, sb])) :=
 PE.imp (pe_listRg cx.calm hg (cx.facts.bis "list" (by decide)) (prg_2 hg2 (cx.facts.bis "range" (by decide)) ha hb (star_cons n1) (star_cons n2) (by rw [star_cons n2]; rfl)) rfl) (fun σ H Q ⟨O, ρ, v, w, eo, h, q⟩ => by
  simp only [ev, evs] at h
  obtain ⟨vs, g1, h⟩ := bok h
  obtain ⟨x, h1, h2⟩ := bok g1
  obtain ⟨us, g3, h2⟩ := bok h2
  obtain ⟨y, h3, h4⟩ := bok g3
  obtain rfl : [y] = us := by cases h4; rfl
  obtain rfl : [x, y] = vs := by cases h2; rfl
  clear g1 g3 h2 h4
  refine ⟨O, ρ, x, w, eo, h1, fun x1 H1 e1 r1 => ⟨O, ρ, y, w.ext e1, eo.ext w e1, h3, fun x2 H2 e2 r2 => ?_⟩⟩
  cases x with
  | int i =>
   cases y with
   | int j =>
    simp only [lrngV] at h
    obtain ⟨hc, h⟩ := iok h
    subst h
    rw [Bool.and_eq_true] at hc
    simp only [Rep] at r1 r2
    exact ⟨i, j, r1, r2, rgOk_small hc.1 (of_decide_eq_true hc.2), fun l nl => q _ _ ((e1.trans e2).trans (Ext.upd nl)) (Rep.lst_new ((w.ext e1).ext e2) nl rgV_reps)⟩
   | _ => simp only [lrngV] at h; cases h
  | _ => simp only [lrngV] at h; cases h)
theorem sE_call {f : Nat} {x : Str} {p : Pos} (cx : Ctx X n M T N) (hf : M.fn f = some x) (hg : Gl X x) (hd : dbg x = true) (ha : PA X es (tA X.K T ses)) (hs : es.all nst = true) (hn : es = [] → ses = .nil) : PE X (.Call (.Name x p) es [] pos) (tE X.K T (.call f ses)) := by
 obtain ⟨fa, fd, ps, m, kp, hb, F, hl, _⟩ := cx.facts.fns f x hf
 have key : ∀ σ H Q, tE X.K T (.call f ses) σ H Q → tCall (spC X.K ps.length (T.C f)) [] E0 (tA X.K T ses) σ H Q := fun σ H Q ⟨O, ρ, v, w, eo, h, q⟩ => by
  simp only [ev] at h
  obtain ⟨vs, h1, h⟩ := bok h
  exact ⟨O, ρ, vs, w, eo, h1, fun xs H1 e1 r1 => ⟨O, vs, v, w.ext e1, by rw [List.append_nil]; exact r1, hl _ _ h, h, q.ext e1⟩⟩
 cases es with
 | nil =>
  refine PE.imp (pe_call0 F cx.room hg m kp hb .nil pass0 (dbg_1 hd)) (fun σ H Q h => ?_)
  obtain ⟨O, ρ, vs, w, eo, h1, q⟩ := key σ H Q h
  have : vs = [] := by
   rw [hn rfl] at h1
   simp only [evs] at h1; cases h1; rfl
  subst this
  exact q [] H Ext.refl Reps.nil
 | cons e es =>
  simp only [List.all_cons, Bool.and_eq_true] at hs
  exact PE.imp (pe_call F cx.room hg m kp hb .nil pass0 ha (dbg_1 hd) (star_cons hs.1) (star_any hs.2)) key
theorem sE_make {f : Nat} {x : Str} {p : Pos} (cx : Ctx X n M T N) (hf : M.ct f = some x) (hg : Gl X x) (hd : dbg x = true) (ha : PA X es (tA X.K T ses)) (hs : es.all nst = true) (hn : es = [] → ses = .nil) (hnn : ∀ e es', es = e :: es' → ∃ s r, ses = .cons s r) : PE X (.Call (.Name x p) es [] pos) (tE X.K T (.make f ses)) := by
 obtain ⟨C, m, h | ⟨fi, fd, ps, np, k, hk, hp, M', hb, F, hl⟩ | ⟨B, c, hc, hB⟩⟩ := cx.facts.cl.mks f x hf
 ·refine ⟨fun pins s σ H Q I ⟨O, ρ, v, w, eo, h0, q⟩ => ?_⟩
  simp only [ev] at h0
  obtain ⟨vs, h1, h0⟩ := bok h0
  exact (h _ _ h0).elim
 ·have key : ∀ σ H Q, tE X.K T (.make f ses) σ H Q → tMake C (spI X.K np C (T.C f)) [] E0 (tA X.K T ses) σ H Q := fun σ H Q ⟨O, ρ, v, w, eo, h, q⟩ => by
   simp only [ev] at h
   obtain ⟨ws, h2, h⟩ := bok h
   refine ⟨O, ρ, ws, w, eo, h2, fun xs H1 e1 r1 y dx n1 n2 ne => ⟨H1, O, ws, v, y, dx, xs, by rw [List.append_nil], n1, n2, ne, rfl, w.ext e1, r1, ?_, h, fun H' e' r' => ⟨rfl, q _ _ (e1.trans e') r'⟩⟩⟩
   have := hl _ _ h
   simpa using this
  cases es with
  | nil =>
   refine PE.imp (pe_make0 M' F (cx.room.mono hk) hg m hb .nil pass0 (dbg_1 hd)) (fun σ H Q h => ?_)
   obtain ⟨O, ρ, vs, w, eo, h1, q⟩ := key σ H Q h
   have : vs = [] := by
    rw [hn rfl] at h1
    simp only [evs] at h1; cases h1; rfl
   subst this
   exact q [] H Ext.refl Reps.nil
  | cons e es =>
   simp only [List.all_cons, Bool.and_eq_true] at hs
   exact PE.imp (pe_make M' F (cx.room.mono hk) hg m hb .nil pass0 ha (dbg_1 hd) (star_cons hs.1) (star_any hs.2)) key
 ·cases es with
  | nil =>
   refine PE.imp (pe_makeB B hg m (dbg_1 hd)) (fun σ H Q ⟨O, ρ, v, w, eo, h, q⟩ y dx n1 n2 ne => ?_)
   simp only [ev] at h
   obtain ⟨vs, h1, h⟩ := bok h
   obtain ⟨_, rfl⟩ := hB _ _ h
   have e1 : Ext H (upd (upd H dx (.own y)) y (.ins C dx [])) := (Ext.upd n2).trans (Ext.upd (by rw [upd_ne ne.symm]; exact n1))
   refine q _ _ e1 ?_
   simp only [Rep]
   exact ⟨y, C, dx, [], rfl, w.new n1, hc, upd_same, rfl, by simp [Reps]⟩
  | cons e es =>
   refine ⟨fun pins s σ H Q I ⟨O, ρ, v, w, eo, h, q⟩ => ?_⟩
   simp only [ev] at h
   obtain ⟨ws, h3, h⟩ := bok h
   obtain ⟨rfl, rfl⟩ := hB _ _ h
   obtain ⟨s1, r1, rfl⟩ := hnn _ _ rfl
   simp only [evs] at h3
   obtain ⟨y1, g1, h3⟩ := bok h3
   obtain ⟨y2, g2, h3⟩ := bok h3
   cases h3
theorem lookF_get {K : PySem.W.Frag} {H : Hp} {O : Hid} {f : Str} : ∀ {kvs : List (Str × V)} {vs : List Val} {v : Val}, Reps K H O vs (kvs.map (·.2)) → lookF (kvs.map (·.1)) vs f = some v → ∃ y, kvs.lookup f = some y ∧ Rep K H O v y
 | [], vs, v, r, h => by simp only [List.map_nil, lookF] at h; cases h
 | (k, x) :: kvs, [], v, r, h => by simp only [List.map_cons, lookF] at h; cases h
 | (k, x) :: kvs, u :: vs, v, r, h => by
  simp only [List.map_cons, lookF] at h
  simp only [List.map_cons, Reps] at r
  obtain ⟨y, ys, e, r1, r2⟩ := r
  cases e
  rw [List.lookup_cons]
  rw [strEq_eq] at h
  by_cases hk : k = f
  ·subst hk
   simp only [beq_self_eq_true, if_true] at h ⊢
   cases h
   exact ⟨_, rfl, r1⟩
  ·have h1 : (k == f) = false := by simpa using hk
   have h2 : (f == k) = false := by simpa using Ne.symm hk
   rw [h1] at h
   rw [h2]
   exact lookF_get r2 h
theorem look_not {f : Str} : ∀ {kvs : List (Str × V)}, (kvs.map (·.1)).any (fun y => strEq y f) = false → kvs.lookup f = none
 | [], _ => rfl
 | (k, x) :: kvs, h => by
  simp only [List.map_cons, List.any_cons, Bool.or_eq_false_iff] at h
  rw [strEq_eq] at h
  have h1 : (f == k) = false := by
   have := h.1
   simp at this
   simpa using Ne.symm this
  rw [List.lookup_cons, h1]
  exact look_not h.2
theorem lookCl_mem : ∀ {l : List (Nat × Nat)} {c f : Nat}, lookCl l c = some f → (c, f) ∈ l
 | [], _, _, h => by simp only [lookCl] at h; cases h
 | p :: l, c, f, h => by
  simp only [lookCl] at h
  split at h
  ·rename_i e
   have e := Nat.eq_of_beq_eq_true e
   cases h
   subst e
   exact List.mem_cons_self ..
  ·exact List.mem_cons_of_mem _ (lookCl_mem h)
theorem sE_fld {x : Str} {px : Pos} {f : String} (cx : Ctx X n M T N) (hf : Str.ofString f ∈ M.fl) (ha : PE X (.Name x px) (tE X.K T sa)) : PE X (.Attribute (.Name x px) (Str.ofString f) pos) (tE X.K T (.fld sa f)) :=
 PE.imp (pe_fld ha rfl) (fun σ H Q ⟨O, ρ, v, w, eo, h, q⟩ => by
  simp only [ev] at h
  obtain ⟨u, h1, h⟩ := bok h
  refine ⟨O, ρ, u, w, eo, h1, fun y H1 e1 r1 => ?_⟩
  unfold fldV at h
  split at h
  ·rename_i c ns vs
   have h := ofO_ok h
   simp only [Rep] at r1
   obtain ⟨a, C, dx, kvs, rfl, na, hc, hp, rfl, rr⟩ := r1
   obtain ⟨z, hz, rz⟩ := lookF_get rr h
   obtain ⟨c1, c2, c3⟩ := cx.facts.cl.cls c C hc
   exact ⟨a, C, dx, kvs, z, rfl, hp, c1, c3 _ hf, hz, q _ _ e1 rz⟩
  ·cases h)
theorem keep_or0 {H H' : Hp} {O : Hid} {p : Addr} (np : H p = none) (e : Ext H H') : Keep H O H' (fun a => O a ∨ a = p) := ⟨fun a o h _ nt => e.vis a o h nt, fun a _ h => e.dom a h, e.tabs, fun a h => h.elim .inl (fun z => .inr (z ▸ np))⟩
theorem pe_dsp1 {k : String} {e : Expr} {kp : Pos} {ku : Nat} (ha : PE X e (tE X.K T sa)) :
  PE X (.Dict [some (.Constant (.str (Str.ofString k)) ku kp)] [e] pos) (fun σ H Q => ∃ O ρ v, WF H O ∧ EOk X.K H O σ ρ ∧ ev T sa ρ = .ok v ∧ Post X.K H O (.dic false [.str (Str.ofString k)] [v]) Q) := by
 refine PE.imp (pe_disp (pps_cons (tk := tE X.K T (.cstr k)) (tv := tE X.K T sa) sE_str ha pps_nil) rfl rfl (by simp) (Nat.le_of_ble_eq_true rfl)) (fun σ H Q ⟨O, ρ, v, w, eo, h1, q⟩ => ?_)
 intro p np
 have nO : ¬ O p := fun z => by obtain ⟨o, h, _⟩ := w.hid p z; rw [np] at h; cases h
 have w1 : WF (upd H p (.dK [])) (fun a => O a ∨ a = p) := by
  refine ⟨fun a z => ?_, (Ext.upd np).tabs w.tabs⟩
  rcases z with z | rfl
  ·exact (w.ext (Ext.upd np)).hid a z
  ·exact ⟨_, upd_same, trivial⟩
 have eo1 : EOk X.K (upd H p (.dK [])) (fun a => O a ∨ a = p) σ ρ := eo.keep w (keep_or0 np (Ext.upd np))
 refine ⟨_, ρ, .str (Str.ofString k), w1, eo1, by simp only [ev], fun x1 H2 e1 r1 => ?_⟩
 simp only [Rep] at r1
 subst r1
 refine ⟨_, ρ, v, w1.ext e1, eo1.ext w1 e1, h1, fun y H3 e2 r2 => ?_⟩
 have e12 := e1.trans e2
 have hp : H3 p = some (.dK []) := e12.vis p _ upd_same
 have e3 : Ext H H3 := (Ext.upd np).trans e12
 refine ⟨hp, [(.inr (Str.ofString k), y)], rfl, Nat.le_of_ble_eq_true rfl, ?_⟩
 have e4 : Ext H (upd H3 p (.dK (mergeK [] [(.inr (Str.ofString k), y)]))) := e3.wr np hp trivial
 refine q _ _ e4 ?_
 have kp : Keep H3 (fun a => O a ∨ a = p) (upd H3 p (.dK (mergeK [] [(.inr (Str.ofString k), y)]))) O := by
  refine ⟨fun a o h z _ => ?_, fun a z h => ?_, fun _ => e4.tabs w.tabs, fun a z => .inl (.inl z)⟩
  ·have : a ≠ p := fun z' => z (.inr z')
   rw [upd_ne this]; exact h
  ·have : a ≠ p := fun z' => z (.inr z')
   rwa [upd_ne this] at h
 have r3 := Rep.keep (w1.ext e12) kp r2
 simp only [Rep]
 exact ⟨p, [(.inr (Str.ofString k), y)], rfl, nO, .inl upd_same, rfl, by simp, ⟨_, _, rfl, r3, rfl⟩⟩
theorem sE_dsp {k : String} {e : Expr} {kp : Pos} {ku : Nat} (ha : PE X e (tE X.K T sa)) : PE X (.Dict [some (.Constant (.str (Str.ofString k)) ku kp)] [e] pos) (tE X.K T (.dsp k sa)) :=
 PE.imp (pe_dsp1 ha) (fun σ H Q ⟨O, ρ, v, w, eo, h, q⟩ => by
  simp only [ev] at h
  obtain ⟨x, h1, h⟩ := bok h
  cases h
  exact ⟨O, ρ, x, w, eo, h1, q⟩)
theorem sE_isc {c : Nat} {y : Str} {p p2 : Pos} (cx : Ctx X n M T N) (hc : M.cn c = some y) (hg : Gl X "isinstance") (hg2 : Gl X y) (hd : dbg y = true) (ha : PE X a (tE X.K T sa)) (h1 : nst a = true) :
  PE X (.Call (.Name "isinstance" p) [a, .Name y p2] [] pos) (tE X.K T (.isc sa c)) := by
 have hm : X.mg "isinstance" = none := cx.facts.bis "isinstance" (by decide)
 obtain ⟨D, mD, hD⟩ := cx.facts.cl.iss c y hc
 have ht : PE X (.Name y p2) (tC (.ref D)) := ⟨fun pins s σ H Q I q => (pe_glob (v := .ref D) hg2 mD rfl (dbg_1 hd)).run pins s σ H Q I q⟩
 refine PE.imp (pe_callB call_isi hg hm boot_isinstance (pa_cons ha (pa_cons ht pa_nil rfl) (star_cons h1)) (by decide) (by decide) (star_cons h1) rfl) (fun σ H Q ⟨O, ρ, v, w, eo, h, q⟩ => ?_)
 simp only [ev] at h
 obtain ⟨x, h1, h⟩ := bok h
 obtain ⟨r, h2, h⟩ := bok h
 cases h
 refine ⟨O, ρ, x, w, eo, h1, fun x1 H1 e1 r1 => ?_⟩
 unfold iscV at h2
 split at h2
 ·rename_i k ns vs
  cases h2
  simp only [Rep] at r1
  obtain ⟨a, C, dx, kvs, rfl, na, hk, hp, _, rr⟩ := r1
  obtain ⟨c1, c2, _⟩ := cx.facts.cl.cls k C hk
  exact ⟨.ref a, .ref D, .ref C, .ref D, _, rfl, .own D, .base (.ins hp c1 c2.ha c2.hn c2.htk c2.hm), hD k C hk, q _ _ e1 (by simp only [Rep])⟩
 ·cases h2
theorem sE_mth {m : String} {ids : List (Nat × Nat)} {o : Expr} {apos cpos : Pos} (cx : Ctx X n M T N) (hids : ids.all (fun p => decide ((p.1, Str.ofString m, p.2) ∈ M.mt)) = true) (ho : recB o = true) (hl : (e :: es).length < 29) (hline : (apos.endLine == cpos.line) = true)
  (ha : PE X o (tE X.K T sa)) (hes : PA X (e :: es) (tA X.K T ses)) (hs : (e :: es).all nst = true) : PE X (.Call (.Attribute o (Str.ofString m) apos) (e :: es) [] cpos) (tE X.K T (.mth m ids sa ses)) := by
 have hbase : attributeBase o (Str.ofString m) X.env (eval o X.env) = eval o X.env := by
  unfold recB at ho
  split at ho
  ·exact base_name
  ·rename_i x p as q
   exact base_call (by simpa using ho)
  ·cases ho
 have hs2 := hs
 simp only [List.all_cons, Bool.and_eq_true] at hs2
 refine PE.imp (pe_methX ha cx.room pass0 hes (star_cons hs2.1) (star_any hs2.2) (mth_eq hbase hs hl hline)) (fun σ H Q ⟨O, ρ, v, w, eo, h, q⟩ => ?_)
 simp only [ev] at h
 obtain ⟨u, h1, h⟩ := bok h
 obtain ⟨f, h2, h⟩ := bok h
 obtain ⟨vs, h3, h⟩ := bok h
 refine ⟨O, ρ, u, w, eo, h1, fun y H1 e1 r1 => ?_⟩
 cases u with
 | ins c ns ws =>
  simp only [mthV] at h2
  by_cases hn : (ns.any fun y => strEq y (Str.ofString m)) = true
  ·rw [if_pos hn] at h2; cases h2
  ·rw [if_neg hn] at h2
   have h2 := lookCl_mem (ofO_ok h2)
   have hmem := of_decide_eq_true (List.all_eq_true.mp hids _ h2)
   obtain ⟨C, fa, fd, ps, hC, hM, hb, F, hln⟩ := cx.facts.cl.mts _ _ _ hmem
   have r0 := r1
   simp only [Rep] at r1
   obtain ⟨a, C', dx, kvs, rfl, na, hc, hp, rfl, rr⟩ := r1
   rw [hC] at hc
   cases hc
   obtain ⟨c1, c2, _⟩ := cx.facts.cl.cls c C hC
   refine ⟨a, C, dx, kvs, fa, fd, ps, _, rfl, hp, look_not (by simpa using hn), c1, hM, F, hb, O, ρ, vs, w.ext e1, eo.ext w e1, h3, fun xs H2 e2 r2 => ?_⟩
   exact ⟨O, _ :: vs, v, (w.ext e1).ext e2, Reps.cons (r0.ext (w.ext e1) e2) r2, hln _ _ h, h, q.ext (e1.trans e2)⟩
 | _ => simp only [mthV] at h2; cases h2
theorem biCallB {id : String} {b : Bi} {x : Str} {p : Pos} (hc : CallR X (.builtin id) (rVs X.K (bi1 b))) (hg : Gl X x) (hm : X.mg x = none) (hv : bootBuiltins x = some (.builtin id)) (hn : x ≠ "__name__") (hd : (x == ("__debug__" : Str)) = false)
  (ha : PA X (e :: es) (tA X.K T ses)) (h1 : nst e = true) (h2 : es.all nst = true) : PE X (.Call (.Name x p) (e :: es) [] pos) (tE X.K T (.bi b ses)) :=
 PE.imp (pe_callB hc hg hm hv ha hn hd (star_cons h1) (star_any h2)) (fun σ H Q ⟨O, ρ, v, w, eo, h, q⟩ => by
  simp only [ev] at h
  obtain ⟨vs, h1, h⟩ := bok h
  exact ⟨O, ρ, vs, w, eo, h1, fun xs H1 e1 r1 => ⟨O, vs, v, w.ext e1, r1, h, q.ext e1⟩⟩)
theorem biCallT {id : String} {b : Bi} {x : Str} {p : Pos} (hc : CallR X (.type id) (rVs X.K (bi1 b))) (hg : Gl X x) (hm : X.mg x = none) (hv : bootBuiltins x = some (.type id)) (hn : x ≠ "__name__") (hd : (x == ("__debug__" : Str)) = false)
  (ha : PA X (e :: es) (tA X.K T ses)) (h1 : nst e = true) (h2 : es.all nst = true) : PE X (.Call (.Name x p) (e :: es) [] pos) (tE X.K T (.bi b ses)) :=
 PE.imp (pe_callTy hc hg hm hv ha hn hd (star_cons h1) (star_any h2)) (fun σ H Q ⟨O, ρ, v, w, eo, h, q⟩ => by
  simp only [ev] at h
  obtain ⟨vs, h1, h⟩ := bok h
  exact ⟨O, ρ, vs, w, eo, h1, fun xs H1 e1 r1 => ⟨O, vs, v, w.ext e1, r1, h, q.ext e1⟩⟩)
theorem sE_bi {b : Bi} {p : Pos} (cx : Ctx X n M T N) (hb : biOk b = true) (hg : Gl X (Str.ofString (biName b))) (ha : PA X (e :: es) (tA X.K T ses)) (h1 : nst e = true) (h2 : es.all nst = true) :
  PE X (.Call (.Name (Str.ofString (biName b)) p) (e :: es) [] pos) (tE X.K T (.bi b ses)) := by
 have hm : X.mg (Str.ofString (biName b)) = none := cx.facts.bis _ (by cases b <;> decide)
 cases b <;> simp only [biOk] at hb <;> first | (cases hb; done) | skip
 ·exact biCallB cb_len hg hm boot_len (by decide) (by decide) ha h1 h2
 ·exact biCallB cb_abs hg hm (by decide +kernel) (by decide) (by decide) ha h1 h2
 ·exact biCallB (cb_sum cx.calm) hg hm (by decide +kernel) (by decide) (by decide) ha h1 h2
 ·exact biCallB (cb_all cx.calm) hg hm (by decide +kernel) (by decide) (by decide) ha h1 h2
 ·exact biCallB (cb_any cx.calm) hg hm (by decide +kernel) (by decide) (by decide) ha h1 h2
 ·exact biCallB (cb_max2 cx.calm) hg hm (by decide +kernel) (by decide) (by decide) ha h1 h2
 ·exact biCallB (cb_min2 cx.calm) hg hm (by decide +kernel) (by decide) (by decide) ha h1 h2
 ·exact biCallB (cb_max1 cx.calm cx.u65) hg hm (by decide +kernel) (by decide) (by decide) ha h1 h2
 ·exact biCallB (cb_min1 cx.calm) hg hm (by decide +kernel) (by decide) (by decide) ha h1 h2
 ·exact biCallB (cb_sorted cx.calm) hg hm (by decide +kernel) (by decide) (by decide) ha h1 h2
 ·exact biCallB (cb_sortL cx.u65) hg hm (by decide +kernel) (by decide) (by decide) ha h1 h2
 ·exact biCallT cb_list hg hm (by decide +kernel) (by decide) (by decide) ha h1 h2
 ·exact biCallT cb_tuple hg hm (by decide +kernel) (by decide) (by decide) ha h1 h2
 ·exact biCallT cb_int hg hm (by decide +kernel) (by decide) (by decide) ha h1 h2
theorem sE_setL {p p2 pos2 : Pos} (cx : Ctx X n M T N) (hg : Gl X "set") (ha : PA X [e] (tA X.K T ses)) (h1 : nst e = true) : PE X (.Call (.Name "set" p2) [e] [] pos2) (tCB (rSetL X.K X.w) (tA X.K T ses)) :=
 pe_callTy (cr_setL cx.calm) hg (cx.facts.bis "set" (by decide)) (by decide +kernel) ha (by decide) (by decide) (star_cons h1) (star_any rfl)
theorem sE_lenS {p p2 pos2 : Pos} (cx : Ctx X n M T N) (hg : Gl X "len") (hg2 : Gl X "set") (ha : PA X [e] (tA X.K T ses)) (h1 : nst e = true) : PE X (.Call (.Name "len" p) [.Call (.Name "set" p2) [e] [] pos2] [] pos) (tE X.K T (.bi .lenS ses)) :=
 PE.imp (pe_callB cr_lenSet hg (cx.facts.bis "len" (by decide)) boot_len (pa_cons (sE_setL (p := p) cx hg2 ha h1) pa_nil (star_cons rfl)) (by decide) (by decide) (star_cons rfl) (star_any rfl)) (fun σ H Q ⟨O, ρ, v, w, eo, h, q⟩ => by
  simp only [ev] at h
  obtain ⟨vs, h1, h⟩ := bok h
  refine ⟨O, ρ, vs, w, eo, h1, fun xs H1 e1 r1 => ?_⟩
  unfold bi1 at h
  split at h <;> first | (cases h; done) | skip
  all_goals (try (rename_i hh; cases hh))
  obtain ⟨ns, h2, h⟩ := bok h
  split at h
  ·rename_i hl
   cases h
   obtain rfl := asInts_ok h2
   obtain ⟨x, rfl, px⟩ := reps1 r1
   obtain ⟨a, rfl, sq⟩ := rep_ints px
   exact ⟨a, ns, rfl, sq, hl, fun pp np => ⟨pp, _, _, rfl, upd_same, ded_few ns hl, q _ _ (e1.trans (Ext.upd np)) (by simp only [Rep])⟩⟩
  ·cases h)
theorem sE_sortS {p p2 pos2 : Pos} (cx : Ctx X n M T N) (hg : Gl X "sorted") (hg2 : Gl X "set") (ha : PA X [e] (tA X.K T ses)) (h1 : nst e = true) : PE X (.Call (.Name "sorted" p) [.Call (.Name "set" p2) [e] [] pos2] [] pos) (tE X.K T (.bi .sortS ses)) :=
 PE.imp (pe_callB (cr_sortedSet cx.calm) hg (cx.facts.bis "sorted" (by decide)) (by decide +kernel) (pa_cons (sE_setL (p := p) cx hg2 ha h1) pa_nil (star_cons rfl)) (by decide) (by decide) (star_cons rfl) (star_any rfl)) (fun σ H Q ⟨O, ρ, v, w, eo, h, q⟩ => by
  simp only [ev] at h
  obtain ⟨vs, h1, h⟩ := bok h
  refine ⟨O, ρ, vs, w, eo, h1, fun xs H1 e1 r1 => ?_⟩
  unfold bi1 at h
  split at h <;> first | (cases h; done) | skip
  all_goals (try (rename_i hh; cases hh))
  obtain ⟨ns, h2, h⟩ := bok h
  split at h
  ·rename_i hl
   cases h
   obtain rfl := asInts_ok h2
   obtain ⟨x, rfl, px⟩ := reps1 r1
   obtain ⟨a, rfl, sq⟩ := rep_ints px
   refine ⟨a, ns, rfl, sq, hl, fun pp np => ⟨pp, _, _, rfl, upd_same, by have := ded_few ns hl; omega, fun ms pl hs hm hlen npl => ?_⟩⟩
   have em : ms = sortI (dedI ns) := List.Perm.eq_of_pairwise (fun x y _ _ h1 h2 => Int.le_antisymm h1 h2) (hs.imp fun h => Int.le_of_lt h) (sortI_sorted _) (((List.perm_ext_iff_of_nodup (hs.imp fun h z => absurd h (by rw [z]; exact Int.lt_irrefl _)) (ded_nodup ns)).mpr fun x => by rw [hm x, ded_mem]; simp).trans (sortI_perm _).symm)
   subst em
   exact q _ _ ((e1.trans (Ext.upd np)).trans (Ext.upd npl)) (Rep.lst_new ((w.ext e1).ext (Ext.upd np)) npl (Reps.ints _))
  ·cases h)
theorem sE_isi {t : Ty} {p p2 : Pos} (cx : Ctx X n M T N) (hg : Gl X "isinstance") (hg2 : Gl X (Str.ofString (tyName t))) (ha : PE X a (tE X.K T sa)) (h1 : nst a = true) :
  PE X (.Call (.Name "isinstance" p) [a, .Name (Str.ofString (tyName t)) p2] [] pos) (tE X.K T (.isi sa t)) := by
 have hm : X.mg "isinstance" = none := cx.facts.bis "isinstance" (by decide)
 have hm2 : X.mg (Str.ofString (tyName t)) = none := cx.facts.bis _ (by cases t <;> decide)
 have ht : PE X (.Name (Str.ofString (tyName t)) p2) (tC (.ty (tyName t))) := by
  refine pe_bltn (u := .type (tyName t)) hg2 hm2 ?_ rfl ?_ ?_
  ·cases t <;> decide +kernel
  ·cases t <;> decide
  ·cases t <;> decide
 refine PE.imp (pe_callB call_isi hg hm boot_isinstance (pa_cons ha (pa_cons ht pa_nil rfl) (star_cons h1)) (by decide) (by decide) (star_cons h1) rfl) (fun σ H Q ⟨O, ρ, v, w, eo, h, q⟩ => ?_)
 simp only [ev] at h
 obtain ⟨x, h1, h⟩ := bok h
 obtain ⟨r, h2, h⟩ := bok h
 cases h
 exact ⟨O, ρ, x, w, eo, h1, fun x1 H1 e1 r1 => ⟨x1, .ty (tyName t), .type (valTy x), .type (tyName t), r, rfl, .ty _, rep_ty r1 (isi_scr h2), isi_kit h2, q _ _ e1 (by simp only [Rep])⟩⟩
theorem evB_two {an : Bool} {e : SE} {e' : SE} {r : SEs} {ρ : VE} : evB T an (.cons e (.cons e' r)) ρ = (do let x ← ev T e ρ; let k ← tru x; if k = an then evB T an (.cons e' r) ρ else .ok (.bl (!an))) := by
 simp only [evB]
def tBo (K : PySem.W.Frag) (T : Tab) (an : Bool) (s : SEs) : TE := fun σ H Q => ∃ O ρ v, WF H O ∧ EOk K H O σ ρ ∧ evB T an s ρ = .ok v ∧ Post K H O v Q
def tBT (K : PySem.W.Frag) (T : Tab) (an : Bool) (s : SEs) : TT := fun σ H Q => ∃ O ρ b, WF H O ∧ EOk K H O σ ρ ∧ evB T an s ρ = .ok (.bl b) ∧ ∀ H', Ext H H' → Q b H'
def bop (an : Bool) : PySem.BoolOp := if an then .And else .Or
theorem sB_one {an : Bool} (ha : PE X a (tE X.K T sa)) : PE X (.BoolOp (bop an) [a] pos) (tBo X.K T an #v[sa]) :=
 PE.imp (pe_one ha) (fun σ H Q ⟨O, ρ, v, w, eo, h, q⟩ => by simp only [evB] at h; exact ⟨O, ρ, v, w, eo, h, q⟩)
theorem sBT_one {an : Bool} (ha : PT X a (tT X.K T sa)) : PW X (.BoolOp (bop an) [a] pos) (tBT X.K T an #v[sa]) := by
 cases an with
 | true => exact PW.imp (pw_and1 ha) (fun σ H Q ⟨O, ρ, v, w, eo, h, q⟩ => by simp only [evB] at h; exact ⟨O, ρ, v, w, eo, h, q⟩)
 | false => exact PW.imp (pw_or1 ha) (fun σ H Q ⟨O, ρ, v, w, eo, h, q⟩ => by simp only [evB] at h; exact ⟨O, ρ, v, w, eo, h, q⟩)
theorem sB_cons {an : Bool} {s2 : SE} {r2 : SEs} (ha : PE X a (tE X.K T sa)) (hb : PE X (.BoolOp (bop an) (b :: es) pos) (tBo X.K T an (.cons s2 r2))) : PE X (.BoolOp (bop an) (a :: b :: es) pos) (tBo X.K T an (.cons sa (.cons s2 r2))) := by
 cases an with
 | true =>
  refine PE.imp (pe_and ha hb) (fun σ H Q ⟨O, ρ, v, w, eo, h, q⟩ => ?_)
  rw [evB_two] at h
  obtain ⟨x, h1, h⟩ := bok h
  obtain ⟨k, h2, hK⟩ := bok h
  obtain rfl := tru_ok h2
  replace h := hK
  refine ⟨O, ρ, _, w, eo, h1, fun x1 H1 e1 r1 => ?_⟩
  simp only [Rep] at r1
  refine ⟨k, r1, ?_⟩
  cases k with
  | true => simp only [if_true] at h ⊢; exact ⟨O, ρ, v, w.ext e1, eo.ext w e1, h, q.ext e1⟩
  | false => simp only [Bool.false_eq_true, if_false] at h ⊢; cases h; exact q _ _ e1 (by simp only [Rep]; rfl)
 | false =>
  refine PE.imp (pe_or ha hb) (fun σ H Q ⟨O, ρ, v, w, eo, h, q⟩ => ?_)
  rw [evB_two] at h
  obtain ⟨x, h1, h⟩ := bok h
  obtain ⟨k, h2, hK⟩ := bok h
  obtain rfl := tru_ok h2
  replace h := hK
  refine ⟨O, ρ, _, w, eo, h1, fun x1 H1 e1 r1 => ?_⟩
  simp only [Rep] at r1
  refine ⟨k, r1, ?_⟩
  cases k with
  | false => rw [if_pos rfl] at h; rw [if_neg (by decide)]; exact ⟨O, ρ, v, w.ext e1, eo.ext w e1, h, q.ext e1⟩
  | true => rw [if_neg (by decide)] at h; cases h; rw [if_pos rfl]; exact q _ _ e1 (by simp only [Rep]; rfl)
theorem sBT_cons {an : Bool} {s2 : SE} {r2 : SEs} (ha : PT X a (tT X.K T sa)) (hb : PW X (.BoolOp (bop an) (b :: es) pos) (tBT X.K T an (.cons s2 r2))) : PW X (.BoolOp (bop an) (a :: b :: es) pos) (tBT X.K T an (.cons sa (.cons s2 r2))) := by
 cases an with
 | true =>
  refine PW.imp (pw_and ha hb) (fun σ H Q ⟨O, ρ, v, w, eo, h, q⟩ => ?_)
  rw [evB_two] at h
  obtain ⟨x, h1, h⟩ := bok h
  obtain ⟨k, h2, hK⟩ := bok h
  obtain rfl := tru_ok h2
  replace h := hK
  refine ⟨O, ρ, k, w, eo, h1, fun H1 e1 => ?_⟩
  cases k with
  | true => simp only [if_true] at h ⊢; exact ⟨O, ρ, v, w.ext e1, eo.ext w e1, h, fun H2 e2 => q _ (e1.trans e2)⟩
  | false => simp only [Bool.false_eq_true, if_false] at h ⊢; cases h; exact q _ e1
 | false =>
  refine PW.imp (pw_or ha hb) (fun σ H Q ⟨O, ρ, v, w, eo, h, q⟩ => ?_)
  rw [evB_two] at h
  obtain ⟨x, h1, h⟩ := bok h
  obtain ⟨k, h2, hK⟩ := bok h
  obtain rfl := tru_ok h2
  replace h := hK
  refine ⟨O, ρ, k, w, eo, h1, fun H1 e1 => ?_⟩
  cases k with
  | false => rw [if_pos rfl] at h; rw [if_neg (by decide)]; exact ⟨O, ρ, v, w.ext e1, eo.ext w e1, h, fun H2 e2 => q _ (e1.trans e2)⟩
  | true => rw [if_neg (by decide)] at h; cases h; rw [if_pos rfl]; exact q _ e1
end
end VM
set_option maxHeartbeats 4000000
namespace VM
open PySem PySem.Spec PyProof.Rows L2
variable [Tbl]
section
variable {X : Cx}
def rMaxd (K : PySem.W.Frag) : List V → List V → Hp → VK → Prop := fun xs zs H Q => ∃ x y, xs = [x] ∧ zs = [y] ∧ rVs K (bi1 .maxd) [x, y] H Q
theorem cb_maxd (hc : X.calm = true) (hu : X.A.units + 65 < cLine) : CallRK X (.builtin "max") [Str.ofString "default"] (rMaxd X.K) := by
 intro pins s σ H xs zs us ws Q I rx rz ⟨x, y, ex, ez, O, as, r, w, ra, e, q⟩
 subst ex ez
 unfold bi1 at e
 split at e <;> first | (cases e; done) | skip
 all_goals (try (rename_i hh; cases hh))
 obtain ⟨ns, h1, e2⟩ := bok e
 clear e
 obtain rfl := asInts_ok h1
 obtain ⟨x', y', exy, p, p'⟩ := reps2 ra
 cases exy
 simp only [Rep] at p'
 subst p'
 obtain ⟨a, rfl, sq⟩ := rep_ints p
 obtain ⟨its, rv, hl, _⟩ := I.list sq
 rw [Vals.ref1 rx]
 obtain ⟨u, rfl, ru⟩ := rz.one
 obtain ⟨t, rfl⟩ := ru
 have hd : PyData.depthAll (ns.map PyData.int) ≤ 1 := depth_ints ns
 show wpAny _ _ (call (.builtin "max") [.ref a] [(Str.ofString "default", _)]) _ _ _
 refine PySem.W.max_list_default (xs := ns.map PyData.int) (I.ok.hd hc) hl.isList (rv.ints.reads _) (alike_ints ns) (by omega) (fun h0 h' tk hk => ?_) (fun y ys i v h' tk bs hxs hv hr hk => ?_)
 ·have hn : ns = [] := List.map_eq_nil_iff.mp h0
  rw [if_pos hn] at e2
  cases e2
  exact ⟨.int _, H, I.kept hk, ⟨_, rfl⟩, q.at (by simp only [Rep])⟩
 ·cases ns with
  | nil => cases hxs
  | cons m ms =>
   rw [if_neg (by simp)] at e2
   obtain ⟨z, h2, e3⟩ := bok e2
   clear e2
   cases e3
   cases hxs
   rw [PySem.W.maxD_ints] at hr
   cases hr
   simp only [maxI] at h2
   cases h2
   refine ⟨.int _, H, I.kept hk, ⟨_, rfl⟩, q.at ?_⟩
   simp only [Rep]
   rw [foldl_max]
variable {n : Nat} {M : Nm} {T : Tab} {N : List Str} {a b : Expr} {sa sb : SE} {pos : Pos}
theorem sE_mxd {p kp : Pos} (cx : Ctx X n M T N) (hg : Gl X "max") (ha : PE X a (tE X.K T sa)) (n1 : nst a = true) (hb : PE X b (tE X.K T sb)) :
  PE X (.Call (.Name "max" p) [a] [⟨some (Str.ofString "default"), b, kp⟩] pos) (tE X.K T (.mxd sa sb)) :=
 PE.imp (pe_callBK (cb_maxd cx.calm cx.u65) hg (cx.facts.bis "max" (by decide)) boot_max (sA_cons ha sA_nil n1) (pk_cons hb pk_nil) (by decide) (by decide) (by rw [star_cons n1]; rfl) (by rw [star_cons n1]; rfl)) (fun σ H Q ⟨O, ρ, v, w, eo, h, q⟩ => by
  simp only [ev] at h
  obtain ⟨x, h1, h⟩ := bok h
  obtain ⟨y, h2, h⟩ := bok h
  refine ⟨O, ρ, [x], w, eo, by simp only [evs, h1]; rfl, fun xs H1 e1 r1 => ?_⟩
  refine ⟨O, ρ, y, w.ext e1, eo.ext w e1, h2, fun y1 H2 e2 r2 => ?_⟩
  obtain ⟨x1, rfl, rx⟩ := reps1 r1
  exact ⟨x1, y1, rfl, rfl, O, [x, y], v, (w.ext e1).ext e2, Reps.cons (rx.ext (w.ext e1) e2) (Reps.cons r2 Reps.nil), h, q.ext (e1.trans e2)⟩)
end
end VM
namespace VM
open PySem PySem.Spec PyProof.Rows L2
variable [Tbl]
section
variable {X : Cx} {n : Nat} {M : Nm} {T : Tab} {N : List Str} {e : Expr}
theorem few1 {env : Env} {cpos : Pos} (h : nst e = true) : ((backTo cpos (starEach (e :: []) env)).all (fun x => !x.1) && (backToKw cpos (keywordEach [] env)).all (fun x => x.1.isSome)
   && decide ((e :: []).length + ([] : List Keyword).length + (if ([] : List Keyword).isEmpty then 0 else 1) < 30)) = true := by
 rw [star_cons h]; rfl
theorem few2 {env : Env} {cpos : Pos} {f : Expr} (h : nst e = true) (h2 : nst f = true) : ((backTo cpos (starEach [e, f] env)).all (fun x => !x.1) && (backToKw cpos (keywordEach [] env)).all (fun x => x.1.isSome)
   && decide (([e, f] : List Expr).length + ([] : List Keyword).length + (if ([] : List Keyword).isEmpty then 0 else 1) < 30)) = true := by
 rw [star_cons h, star_cons h2]; rfl
variable {x : Str} {px apos cpos : Pos} {sa sb sc : SE} {b c : Expr}
theorem sE_cnt (ha : PE X (.Name x px) (tE X.K T sa)) (hb : PE X b (tE X.K T sb)) (hs : nst b = true) (hline : (apos.endLine == cpos.line) = true) : PE X (.Call (.Attribute (.Name x px) "count" apos) [b] [] cpos) (tE X.K T (.cnt sa sb)) :=
 PE.imp (pe_bm PySem.F.plainAttrs_list PySem.F.slot_list_count PySem.F.type_list_count mt_lcount ha (sA_cons hb sA_nil hs) rfl (few1 hs) hline (star_cons hs) rfl) (fun σ H Q ⟨O, ρ, v, w, eo, h, q⟩ => by
  simp only [ev] at h
  obtain ⟨u, h1, hA⟩ := bok h
  obtain ⟨y, h2, hB⟩ := bok hA
  unfold cntV at hB
  split at hB
  case h_2 => cases hB
  rename_i vs k
  obtain ⟨ns, h3, hC⟩ := bok hB
  cases hC
  have hns := asInts_lst h3
  subst hns
  refine ⟨O, ρ, _, w, eo, h1, fun x1 H1 e1 r1 => ?_⟩
  simp only [Rep] at r1
  obtain ⟨a, xs, rfl, na, ha, ra⟩ := r1
  have hxs := Reps.of_ints ra
  subst hxs
  refine ⟨.inl ⟨rfl, _, .inl (.inl ha)⟩, O, ρ, [.int k], w.ext e1, eo.ext w e1, by simp only [evs, h2]; rfl, fun ys H2 e2 r2 => ?_⟩
  obtain ⟨y1, rfl, ry⟩ := reps1 r2
  simp only [Rep] at ry
  subst ry
  exact ⟨a, ns, k, rfl, rfl, .inl (.inl (e2.vis _ _ ha)), q _ H2 (e1.trans e2) (by simp only [Rep])⟩)
theorem eqV_int (i j : Int) : eqV (V.int i) (V.int j) = decide (i = j) := by
 simp [eqV, Bool.beq_eq_decide_eq]
theorem sE_idx (ha : PE X (.Name x px) (tE X.K T sa)) (hb : PE X b (tE X.K T sb)) (hs : nst b = true) (hline : (apos.endLine == cpos.line) = true) : PE X (.Call (.Attribute (.Name x px) "index" apos) [b] [] cpos) (tE X.K T (.dget sa sb)) :=
 PE.imp (pe_bm PySem.F.plainAttrs_list PySem.F.slot_list_index PySem.F.type_list_index mt_index ha (sA_cons hb sA_nil hs) rfl (few1 hs) hline (star_cons hs) rfl) (fun σ H Q ⟨O, ρ, v, w, eo, h, q⟩ => by
  simp only [ev] at h
  obtain ⟨u, h1, hA⟩ := bok h
  obtain ⟨y, h2, hB⟩ := bok hA
  unfold idxV at hB
  split at hB
  case h_2 => cases hB
  rename_i vs k
  obtain ⟨ns, h3, hC⟩ := bok hB
  obtain ⟨hk, hC⟩ := iok hC
  subst hC
  have hns := asInts_lst h3
  subst hns
  refine ⟨O, ρ, _, w, eo, h1, fun x1 H1 e1 r1 => ?_⟩
  simp only [Rep] at r1
  obtain ⟨a, xs, rfl, na, ha, ra⟩ := r1
  have hxs := Reps.of_ints ra
  subst hxs
  refine ⟨.inl ⟨rfl, _, .inl (.inl ha)⟩, O, ρ, [.int k], w.ext e1, eo.ext w e1, by simp only [evs, h2]; rfl, fun ys H2 e2 r2 => ?_⟩
  obtain ⟨y1, rfl, ry⟩ := reps1 r2
  simp only [Rep] at ry
  subst ry
  have hl : ns.idxOf k < ns.length := List.idxOf_lt_length_iff.mpr hk
  refine ⟨a, ns.map V.int, .int k, ns.idxOf k, .int k, rfl, rfl, .inl (.inl (e2.vis _ _ ha)), rfl, by simp [flatV], ?_, by simp [eqV_int], fun m z' hm hz => ?_, q _ H2 (e1.trans e2) (by simp only [Rep])⟩
  ·rw [List.getElem?_map, List.getElem?_eq_getElem hl, List.getElem_idxOf hl]; rfl
  ·rw [List.getElem?_map, List.getElem?_eq_getElem (Nat.lt_trans hm hl)] at hz
   cases hz
   rw [eqV_int]
   have := List.not_of_lt_findIdx (p := fun i => i == k) (show m < ns.findIdx (· == k) from hm)
   simpa using this)
theorem PEor {X : Cx} {e : Expr} {t u : TE} (h : PE X e t) (g : PE X e u) : PE X e (fun σ H Q => t σ H Q ∨ u σ H Q) := ⟨fun pins s σ H Q I q => q.elim (h.run pins s σ H Q I) (g.run pins s σ H Q I)⟩
theorem dn_get2 {pins : List (Addr × Obj)} {σ : L2.St} {H : Hp} {s : Shared} {p b : Addr} {kvs : List (NestedKey × Addr × V)} {k : NestedKey} {z : V} {x : Value} {A : Around} {E : Value → Shared → Prop} {Q : Value → Shared → Prop} (hu : A.units + 65 < cLine) (I : Inv X pins σ H s) (d : DnOk X H s p kvs)
  (hk : (nestedKind X.prog X.w).is s.heap k b) (rz : RelV z x) (h : ∀ w' s', Inv X pins σ H s' → RelV ((valV (kvs.map fun p => (p.1, p.2.2)) k).getD z) w' → Q w' s') : wpAny (model X.prog X.w) A (call (.builtin "dict.get") [.ref p, .ref b, x]) Q E s := by
 obtain ⟨zz, hd, xs, rel, dd⟩ := d.dict I
 refine call_meetsIn PySem.F.slot_dict_get dd.typeIs PySem.F.entry_dict_get (PySem.F.args_dict_get_3 _ _ _) (meetsH_dict_get_default (nestedKind X.prog X.w) p b hd x) ⟨dn_room hu, k, xs, hk, dd, ?_⟩
 have q := dn_rel rel k
 refine h _ _ (I.tok _) ?_
 cases e1 : valV (kvs.map fun p => (p.1, p.2.2)) k with
 | none =>
  rw [e1] at q
  rw [RelO.none_of q]
  exact rz
 | some v =>
  rw [e1] at q
  obtain ⟨w', hw, rw'⟩ := RelO.some_of q
  rw [hw]
  exact rw'
def tDGetN (K : PySem.W.Frag) (td ty tx : TE) : TE := fun σ H Q => td σ H fun x H1 => ∃ (p : Addr) (kvs : List (NestedKey × Addr × V)) (O : Hid), x = .ref p ∧ H1 p = some (DN Tbl.w p kvs) ∧ (∀ q ∈ kvs, q.1.depth ≤ 8) ∧ Reps K H1 O (kvs.map fun q => valOf q.1) (kvs.map fun q => V.ref q.2.1) ∧
 ty σ H1 fun y H2 => tx σ H2 fun z H3 => ∃ (b : Addr) (k : NestedKey) (kvs' : List (NestedKey × Addr × V)) (O' O'' : Hid), y = .ref b ∧ H3 p = some (DN Tbl.w p kvs') ∧ (∀ q ∈ kvs', q.1.depth ≤ 8) ∧ Reps K H3 O' (kvs'.map fun q => valOf q.1) (kvs'.map fun q => V.ref q.2.1) ∧
  Rep K H3 O'' (valOf k) (.ref b) ∧ k.depth ≤ 8 ∧ Q ((valV (kvs'.map fun q => (q.1, q.2.2)) k).getD z) H3
theorem pe_dgetN {o e f : Expr} {td ty tx : TE} (hw : X.w = Tbl.w) (hu : X.A.units + 65 < cLine) (ho : PE X o td) (he : PE X e ty) (hf : PE X f tx) (m : M2 X o "get" apos e f cpos) : PE X (.Call (.Attribute o "get" apos) [e, f] [] cpos) (tDGetN X.K td ty tx) := by
 refine ⟨fun pins s σ H Q I h => ?_⟩
 refine wpAny_Call_method m.base m.few m.line PySem.F.plainAttrs_dict PySem.F.slot_dict_get PySem.F.type_dict_get (thn (ho.run pins s σ H _ I h) fun u s1 ⟨x, H1, I1, rx, p, kvs, O, ex, ha, hd, hr, q1⟩ => ?_)
 subst ex
 obtain rfl : u = Value.ref p := rx
 have d := dn_of hw I1 ha hd hr
 obtain ⟨_, _, xs, _, dd⟩ := d.dict I1
 refine ⟨dd.typeIs, dictOfH_noDict dd, ?_⟩
 rw [m.trees]
 refine Calls.callWith_builtin rfl (Calls.evalArgs_plain (Calls.spliced_cons (thn (he.run pins s1 σ H1 _ I1 q1) fun iv s2 ⟨y, H2, I2, ry, q2⟩ =>
  Calls.spliced_cons (thn (hf.run pins s2 σ H2 _ I2 q2) fun fv s3 ⟨z, H3, I3, rz, b, k, kvs', O', O'', ey, ha', hd', hr', hk, hkd, q3⟩ => Calls.spliced_nil ?_))))
 subst ey
 obtain rfl : iv = Value.ref b := ry
 exact dn_get2 hu I3 (dn_of hw I3 ha' hd' hr') ⟨rep_is I3.hok (inK I3) k hk rfl, hkd⟩ rz fun w' s4 I4 rw' => ⟨_, H3, I4, rw', q3⟩
theorem sE_dgetd (cx : Ctx X n M T N) (ha : PE X (.Name x px) (tE X.K T sa)) (hb : PE X b (tE X.K T sb)) (hc : PE X c (tE X.K T sc)) (hs : nst b = true) (hs2 : nst c = true) (hline : (apos.endLine == cpos.line) = true) :
    PE X (.Call (.Attribute (.Name x px) "get" apos) [b, c] [] cpos) (tE X.K T (.dgetd sa sb sc)) :=
  have mm : M2 X (.Name x px) "get" apos b c cpos := ⟨rfl, few2 hs hs2, hline, by rw [star_cons hs, star_cons hs2]; rfl⟩
  PE.imp (PEor (pe_dget2 (hu_of cx.room) ha hb hc mm) (pe_dgetN cx.hw cx.u65 ha hb hc mm)) (fun σ H Q ⟨O, ρ, v, w, eo, h, q⟩ => by
    simp only [ev] at h
    obtain ⟨u, h1, hA⟩ := bok h
    obtain ⟨y, h2, hB⟩ := bok hA
    obtain ⟨z, h3, hC⟩ := bok hB
    unfold dgetdV at hC
    split at hC
    case h_2 => cases hC
    rename_i t ks vs
    obtain ⟨hk, hC⟩ := iok hC
    subst hC
    cases t with
    | true =>
      right
      obtain ⟨kl, rfl, hdk⟩ := keyOk_N hk
      refine ⟨O, ρ, _, w, eo, h1, fun x1 H1 e1 r1 => ?_⟩
      have r1' := r1
      simp only [Rep] at r1'
      obtain ⟨p, kvs, rfl, na, ha, rfl, nd, gk, rr⟩ := r1'
      refine ⟨p, kvs, O, rfl, ha, nd.2, gk, O, ρ, _, w.ext e1, eo.ext w e1, h2, fun y1 H2 e2 r2 => ?_⟩
      refine ⟨O, ρ, _, (w.ext e1).ext e2, (eo.ext w e1).ext (w.ext e1) e2, h3, fun z1 H3 e3 r3 => ?_⟩
      have r4 : Rep X.K H3 O (valOf (.tup kl)) y1 := r2.ext ((w.ext e1).ext e2) e3
      have r5 := r4
      simp only [valOf, Rep] at r4
      obtain ⟨b, xs, rfl, _, _⟩ := r4
      have e23 := e2.trans e3
      have gk3 := Reps.ext (w.ext e1) e23 gk
      have rr3 := Reps.ext (w.ext e1) e23 rr
      have ha3 : H3 p = some (DN Tbl.w p kvs) := e23.vis _ _ ha
      refine ⟨b, .tup kl, kvs, O, O, rfl, ha3, nd.2, gk3, r5, hdk, q _ H3 ((e1.trans e2).trans e3) ?_⟩
      have hl := valV_rep (kvs := kvs.map fun p => (p.1, p.2.2)) valOf (.tup kl) (fun a => veq_N a _) (by rw [List.map_map]; exact rr3)
      rw [List.map_map] at hl
      have hl' : (match lookD (kvs.map fun p => valOf p.1) vs (valOf (.tup kl)) with
          | some v => ∃ x, valV (kvs.map fun p => (p.1, p.2.2)) (.tup kl) = some x ∧ Rep X.K H3 O v x
          | none => valV (kvs.map fun p => (p.1, p.2.2)) (.tup kl) = none) := hl
      cases hz : lookD (kvs.map fun p => valOf p.1) vs (valOf (.tup kl)) with
      | none =>
        rw [hz] at hl'
        simp only at hl'
        rw [hl']
        exact r3
      | some v0 =>
        rw [hz] at hl'
        obtain ⟨y0, e, ry⟩ := hl'
        rw [e]
        exact ry
    | false =>
      left
      have hk : keyOk false y = true := hk
      obtain ⟨key, hkey⟩ := keyOk_F hk
      subst hkey
      refine ⟨O, ρ, _, w, eo, h1, fun x1 H1 e1 r1 => ?_⟩
      have r1' := r1
      simp only [Rep] at r1'
      obtain ⟨a, kvs, rfl, na, ha, _⟩ := r1'
      refine ⟨a, rfl, .inl ⟨kvs, ha⟩, O, ρ, _, w.ext e1, eo.ext w e1, h2, fun y1 H2 e2 r2 => ?_⟩
      obtain rfl := rep_key r2
      refine ⟨O, ρ, _, (w.ext e1).ext e2, (eo.ext w e1).ext (w.ext e1) e2, h3, fun z1 H3 e3 r3 => ?_⟩
      have r4 : Rep X.K H3 O (.dic false ks vs) (.ref a) := (r1.ext (w.ext e1) e2).ext ((w.ext e1).ext e2) e3
      obtain ⟨a', o, ea, g, hm⟩ := dk_get (k := key) r4
      cases ea
      refine ⟨o, g, q _ H3 ((e1.trans e2).trans e3) ?_⟩
      cases hl : lookD ks vs (ofKey key) with
      | none =>
        rw [hl] at hm
        simp only at hm
        subst hm
        exact r3
      | some v0 =>
        rw [hl] at hm
        obtain ⟨y0, rfl, ry⟩ := hm
        exact ry)
end
end VM
set_option maxHeartbeats 8000000
namespace VM
open PySem PySem.Spec PyProof.Rows L2
variable [Tbl]
theorem wipe_get : ∀ {vs : List Nat} {σ : L2.St} {j : Nat}, (wipe σ vs)[j]? = if j ∈ vs then (if j < σ.length then some none else none) else σ[j]?
 | [], σ, j => by simp [wipe]
 | v :: vs, σ, j => by
  have ih := @wipe_get vs σ j
  show ((wipe σ vs).set v none)[j]? = _
  by_cases h : v = j
  ·subst h
   by_cases hl : v < σ.length
   ·rw [List.getElem?_set_self (by rw [wipe_length]; exact hl)]; simp [hl]
   ·rw [List.getElem?_eq_none (by rw [List.length_set, wipe_length]; omega)]; simp [hl]
  ·rw [List.getElem?_set_ne h, ih]
   have : (j ∈ v :: vs) ↔ j ∈ vs := by simp [List.mem_cons, Ne.symm h]
   simp only [this]
theorem wipe_set {vs : List Nat} {σ : L2.St} {i : Nat} {x : Option V} (h : i ∈ vs) : wipe (σ.set i x) vs = wipe σ vs := by
 apply List.ext_getElem?
 intro j
 rw [wipe_get, wipe_get, List.length_set]
 by_cases hj : j ∈ vs
 ·simp [hj]
 ·simp only [hj, if_false]
  rw [List.getElem?_set_ne]
  intro e; subst e; exact hj h
theorem wipe_setsV {vs : List Nat} : ∀ {is : List Nat} {xs : List V} {σ : L2.St}, (∀ i ∈ is, i ∈ vs) → wipe (setsV σ is xs) vs = wipe σ vs
 | [], _, _, _ => rfl
 | _ :: _, [], _, _ => rfl
 | i :: is, x :: xs, σ, h => by
  show wipe (setsV (σ.set i (some x)) is xs) vs = _
  rw [wipe_setsV (fun j hj => h j (List.mem_cons_of_mem _ hj)), wipe_set (h i (List.mem_cons_self ..))]
theorem wipe_wipe {vs : List Nat} {σ : L2.St} : wipe (wipe σ vs) vs = wipe σ vs := by
 apply List.ext_getElem?
 intro j
 rw [wipe_get, wipe_length]
 by_cases hj : j ∈ vs
 ·simp [hj, wipe_get]
 ·simp only [hj, if_false]
mutual
theorem flatT_ix : ∀ {t : Tg} {v : Val} {bs : List (Nat × Val)}, flatT t v = .ok bs → bs.map (·.1) = tgIx t
 | .nm i, v, bs, h => by simp only [flatT] at h; cases h; rfl
 | .tp ts, v, bs, h => by
  cases v <;> simp only [flatT] at h <;> first | (cases h; done) | exact flatTs_ix h
theorem flatTs_ix : ∀ {t : Tgs} {v : List Val} {bs : List (Nat × Val)}, flatTs t v = .ok bs → bs.map (·.1) = tgsIx t
 | .nil, [], bs, h => by simp only [flatTs] at h; cases h; rfl
 | .nil, _ :: _, bs, h => by simp only [flatTs] at h; cases h
 | .cons _ _, [], bs, h => by simp only [flatTs] at h; cases h
 | .cons t r, v :: vs, bs, h => by
  simp only [flatTs] at h
  obtain ⟨b1, h1, h⟩ := bok h
  obtain ⟨b2, h2, h⟩ := bok h
  cases h
  rw [List.map_append, flatT_ix h1, flatTs_ix h2]; rfl
end
theorem wipeE_len (ρ : VE) : ∀ own : List Nat, (wipeE ρ own).length = ρ.length
 | [] => rfl
 | v :: vs => by unfold wipeE; rw [List.length_set, wipeE_len ρ vs]
theorem EOk.wipe {K : PySem.W.Frag} {H : Hp} {O : Hid} {σ : L2.St} {ρ : VE} (h : EOk K H O σ ρ) : ∀ own : List Nat, EOk K H O (wipe σ own) (wipeE ρ own)
 | [] => h
 | v :: vs => by
  have ih := EOk.wipe h vs
  refine ⟨by rw [wipeE_len, wipe_length]; exact h.len, fun j u e => ?_⟩
  unfold wipeE at e
  by_cases hj : v = j
  ·subst hj
   by_cases hl : v < (wipeE ρ vs).length
   ·rw [List.getElem?_set_self hl] at e; cases e
   ·rw [List.getElem?_eq_none (by rw [List.length_set]; omega)] at e; cases e
  ·rw [List.getElem?_set_ne hj] at e
   obtain ⟨x, h1, h2⟩ := ih.get j u e
   refine ⟨x, ?_, h2⟩
   show ((L2.wipe σ vs).set v none)[j]? = _
   rw [List.getElem?_set_ne hj]; exact h1
def tCo (K : PySem.W.Frag) (T : Tab) (c : SO) : TT := fun σ H Q => ∃ O ρ b, WF H O ∧ EOk K H O σ ρ ∧ evC T c ρ = .ok b ∧ ∀ H', Ext H H' → Q b H'
section
variable {X : Cx} {n : Nat} {M : Nm} {T : Tab} {N : List Str}
theorem PTs.imp {es : List Expr} {t t' : TT} (h : PTs X es t) (i : ∀ σ H Q, t' σ H Q → t σ H Q) : PTs X es t' := ⟨fun pins s σ H Q I q => h.run pins s σ H Q I (i σ H Q q)⟩
theorem sC_nil : PTs X [] (tCo X.K T .none) := PTs.imp pts_nil (fun σ H Q ⟨O, ρ, b, w, eo, h, q⟩ => by simp only [evC] at h; cases h; exact q H Ext.refl)
theorem sC_one {e : Expr} {s : SE} (h : PT X e (tT X.K T s)) : PTs X [e] (tCo X.K T (.some s)) := PTs.imp (pts_one h) (fun σ H Q ⟨O, ρ, b, w, eo, h, q⟩ => by
 simp only [evC] at h
 obtain ⟨x, h1, h⟩ := bok h
 obtain rfl := tru_ok h
 exact ⟨O, ρ, b, w, eo, h1, q⟩)
theorem tE_comp {K : PySem.W.Frag} {own : List Nat} {tg : Tg} {it : SI} {c : SO} {el : SE} (hown : ∀ i ∈ tgIx tg, i ∈ own) : ∀ σ H Q, tE K T (.comp own tg it c el) σ H Q →
  tLc (tI K T it) (gR K tg) (tCo K T c) (tE K T el) own σ H Q := by
 intro σ H Q ⟨O, ρ, v, w, eo, h, q⟩
 simp only [ev] at h
 obtain ⟨items, h1, h⟩ := bok h
 by_cases hlen : items.length ≤ lineN
 case neg => rw [if_neg hlen] at h; cases h
 rw [if_pos hlen] at h
 obtain ⟨ys, h2, h⟩ := bok h
 cases h
 refine ⟨O, ρ, items, w, eo, h1, fun J H1 e1 hit => ?_⟩
 intro D nD
 have w1 : WF H1 O := w.ext e1
 refine ⟨fun i m H2 => m = items.length - i ∧ i ≤ items.length ∧ ∃ acc xs ys', H2 D = some (.lst xs) ∧ Reps K H2 (fun a => O a ∨ a = D) acc xs ∧
  compGo (bindE tg) (evC T c) (ev T el) (wipeE ρ own) (items.drop i) = .ok ys' ∧ acc ++ ys' = ys ∧ xs.length ≤ i ∧ Ext H1 H2,
  ⟨items.length, by omega, Nat.zero_le _, [], [], ys, upd_same, Reps.nil, by simpa using h2, rfl, Nat.zero_le _, Ext.upd nD⟩, ?_⟩
 rintro i m H2 ⟨rfl, hi, acc, xs, ys', hD, hr, hgo, hcat, hxl, e2⟩
 have w2 : WF H2 (fun a => O a ∨ a = D) := by
  refine ⟨fun a ha => ?_, WF.tabs (w1.ext e2)⟩
  rcases ha with ha | rfl
  ·exact (w1.ext e2) a ha
  ·exact ⟨_, hD, True.intro⟩
 have k2 : Keep H1 O H2 (fun a => O a ∨ a = D) := ⟨fun a o h _ nt => e2.vis a o h nt, fun a _ h => e2.dom a h, e2.tabs, fun a h => h.elim .inl (fun e => .inr (e ▸ nD))⟩
 obtain ⟨stop, go⟩ := hit i H2 _ w2 k2
 by_cases hlt : i < items.length
 ·obtain ⟨g, y⟩ := go items[i] (List.getElem?_eq_getElem hlt)
  refine .inr ⟨g, fun H' => i + 1 ≤ items.length ∧ ∃ acc xs ys', H' D = some (.lst xs) ∧ Reps K H' (fun a => O a ∨ a = D) acc xs ∧
   compGo (bindE tg) (evC T c) (ev T el) (wipeE ρ own) (items.drop (i + 1)) = .ok ys' ∧ acc ++ ys' = ys ∧ xs.length ≤ i + 1 ∧ Ext H1 H',
   fun H' nx => ⟨items.length - (i + 1), by omega, rfl, nx⟩, fun x H3 hy => ?_⟩
  obtain ⟨e3, rx⟩ := y x H3 hy
  rw [List.drop_eq_getElem_cons hlt] at hgo
  simp only [compGo] at hgo
  obtain ⟨ρ1, hb, hgo⟩ := bok hgo
  simp only [bindE] at hb
  obtain ⟨bs, hf, hb⟩ := bok hb
  cases hb
  obtain ⟨b, hc, hgo⟩ := bok hgo
  have w3 := w2.ext e3
  have eo3 : EOk K H3 (fun a => O a ∨ a = D) (wipe σ own) (wipeE ρ own) := (((eo.ext w e1).keep w1 k2).ext w2 e3).wipe own
  refine ⟨_, items[i], bs, w3, rx, hf, fun zs hz => ⟨?_, ?_⟩⟩
  ·rw [wipe_setsV (fun j hj => hown j (by rw [← flatT_ix hf]; exact hj)), wipe_wipe]
  ·refine ⟨_, setsE (wipeE ρ own) bs, b, w3, eo3.sets hz, hc, fun H4 e4 => ?_⟩
   cases b with
   | false =>
    simp only [Bool.false_eq_true, if_false] at hgo ⊢
    exact ⟨hlt, acc, xs, ys', e4.vis _ _ (e3.vis _ _ hD), (hr.ext w2 e3).ext w3 e4, hgo, hcat, Nat.le_succ_of_le hxl, (e2.trans e3).trans e4⟩
   | true =>
    simp only [if_true] at hgo ⊢
    obtain ⟨yv, hy1, hgo⟩ := bok hgo
    obtain ⟨ys2, hy2, hgo⟩ := bok hgo
    cases hgo
    have w4 := w3.ext e4
    refine ⟨_, setsE (wipeE ρ own) bs, yv, w4, (eo3.sets hz).ext w3 e4, hy1, fun z H5 e5 rz => ?_⟩
    have hD5 : H5 D = some (.lst xs) := e5.vis _ _ (e4.vis _ _ (e3.vis _ _ hD))
    refine ⟨xs, hD5, by rw [← lineN_eq]; omega, hlt, acc ++ [yv], xs ++ [z], ys2, upd_same, ?_, hy2, by rw [List.append_assoc]; exact hcat, by simp; omega, ?_⟩
    ·have w5 := w4.ext e5
     refine Reps.keep w5 (O' := fun a => O a ∨ a = D) ⟨fun a o ha na _ => ?_, fun b _ h => upd_nn h, fun t => Tabs.upd t hD5 True.intro, fun a ha => .inl ha⟩ (((((hr.ext w2 e3).ext w3 e4).ext w4 e5)).append (Reps.cons rz Reps.nil))
     rw [upd_ne (fun e => na (.inr e))]; exact ha
    ·exact ((e2.trans e3).trans (e4.trans e5)).wr nD hD5 True.intro
 ·have hie : i = items.length := by omega
  subst hie
  rw [List.drop_length] at hgo
  simp only [compGo] at hgo
  cases hgo
  rw [List.append_nil] at hcat
  subst hcat
  refine .inl ⟨stop (Nat.le_refl _), q _ _ (e1.trans e2) ?_⟩
  simp only [Rep]
  exact ⟨D, xs, rfl, w1.new nD, hD, Reps.keep w2 ⟨fun a o ha _ _ => ha, fun _ _ h => h, id, fun a ha => .inl (.inl ha)⟩ hr⟩
theorem PE.or {X : Cx} {e : Expr} {t u : TE} (h : PE X e t) (g : PE X e u) : PE X e (fun σ H Q => t σ H Q ∨ u σ H Q) := ⟨fun pins s σ H Q I q => q.elim (h.run pins s σ H Q I) (g.run pins s σ H Q I)⟩
structure Swap (d : Addr) (kvs : List (Key × V)) (H H' : Hp) : Prop where
 one : Rd H d (.dK kvs)
 two : Rd H' d (.dK kvs)
 oth : ∀ b o, b ≠ d → H b = some o → H' b = some o
section
variable {K : PySem.W.Frag} {H H' : Hp} {O : Hid} {d : Addr} {kvs kvs' : List (Key × V)}
theorem rd_inj (h : Rd H d (.dK kvs)) (g : Rd H d (.dK kvs')) : kvs' = kvs := by
 rcases h with h | ⟨o, h⟩ <;> rcases g with g | ⟨p, g⟩ <;> rw [h] at g <;> cases g <;> rfl
theorem Swap.ne (s : Swap d kvs H H') {b : Addr} {o : HO} (h : H b = some o) (h1 : o ≠ .dK kvs) (h2 : ∀ x, o ≠ .frz x (.dK kvs)) : b ≠ d := fun z => by
 subst z
 rcases s.one with e | ⟨x, e⟩ <;> rw [h] at e <;> cases e
 ·exact h1 rfl
 ·exact h2 _ rfl
theorem Swap.lst (s : Swap d kvs H H') {b : Addr} {xs : List V} (h : H b = some (.lst xs)) : H' b = some (.lst xs) := s.oth _ _ (s.ne h (fun z => nomatch z) (fun _ z => nomatch z)) h
theorem Swap.tup (s : Swap d kvs H H') {b : Addr} {xs : List V} (h : SqT K H b xs) : SqT K H' b xs := by
 rcases h with (h | ⟨o, h⟩) | h
 ·exact .inl (.inl (s.oth _ _ (s.ne h (fun z => nomatch z) (fun _ z => nomatch z)) h))
 ·exact .inl (.inr ⟨o, s.oth _ _ (s.ne h (fun z => nomatch z) (fun _ z => nomatch z)) h⟩)
 ·exact .inr h
mutual
theorem Rep.swap (s : Swap d kvs H H') : ∀ {v : Val} {x : V}, Rep K H O v x → Rep K H' O v x
 | .non, _, h => by simpa only [Rep] using h
 | .bl _, _, h => by simpa only [Rep] using h
 | .int _, _, h => by simpa only [Rep] using h
 | .str _, _, h => by simpa only [Rep] using h
 | .tup vs, _, h => by
  simp only [Rep] at h ⊢
  obtain ⟨a, xs, e, q, r⟩ := h
  exact ⟨a, xs, e, s.tup q, Reps.swap s r⟩
 | .lst vs, _, h => by
  simp only [Rep] at h ⊢
  obtain ⟨a, xs, e, n, q, r⟩ := h
  exact ⟨a, xs, e, n, s.lst q, Reps.swap s r⟩
 | .sym s', _, h => by
  simp only [Rep] at h ⊢
  cases s' with
  | lm f =>
   obtain ⟨a, c, q, ps, bd, sc, e, rfl, h1, h2⟩ := h
   exact ⟨a, c, q, ps, bd, sc, e, rfl, s.oth _ _ (s.ne h1 (fun z => by unfold LamO at z; cases z) (fun _ z => by unfold LamO at z; cases z)) h1, s.oth _ _ (s.ne h2 (fun z => by unfold LamX.CodeO at z; cases z) (fun _ z => by unfold LamX.CodeO at z; cases z)) h2⟩
  | _ => exact h
 | .ins c ns vs, _, h => by
  simp only [Rep] at h ⊢
  obtain ⟨a, C, dx, kvs2, e, n, hc, q, hk, r⟩ := h
  exact ⟨a, C, dx, kvs2, e, n, hc, s.oth _ _ (s.ne q (fun z => nomatch z) (fun _ z => nomatch z)) q, hk, Reps.swap s r⟩
 | .scr ns, _, h => by
  simp only [Rep] at h ⊢
  obtain ⟨a, e, q⟩ := h
  refine ⟨a, e, ?_⟩
  rcases q with ⟨ob, q⟩ | q
  ·exact .inl ⟨ob, s.oth _ _ (s.ne q (fun z => nomatch z) (fun _ z => nomatch z)) q⟩
  ·exact .inr q
 | .dic false ks vs, _, h => by
  simp only [Rep] at h ⊢
  obtain ⟨a, kvs2, e, n, q, hk, nd, r⟩ := h
  refine ⟨a, kvs2, e, n, ?_, hk, nd, Reps.swap s r⟩
  by_cases ha : a = d
  ·subst ha
   rw [rd_inj s.one q]; exact s.two
  ·rcases q with q | ⟨ob, q⟩
   ·exact .inl (s.oth _ _ ha q)
   ·exact .inr ⟨ob, s.oth _ _ ha q⟩
 | .dic true ks vs, _, h => by
  simp only [Rep] at h ⊢
  obtain ⟨a, kvs2, e, n, q, hk, nd, g, r⟩ := h
  exact ⟨a, kvs2, e, n, s.oth _ _ (s.ne q (fun z => nomatch z) (fun _ z => nomatch z)) q, hk, nd, Reps.swap s g, Reps.swap s r⟩
theorem Reps.swap (s : Swap d kvs H H') : ∀ {vs : List Val} {xs : List V}, Reps K H O vs xs → Reps K H' O vs xs
 | [], _, h => by simpa only [Reps] using h
 | v :: vs, _, h => by
  simp only [Reps] at h ⊢
  obtain ⟨x, r, e, p, q⟩ := h
  exact ⟨x, r, e, Rep.swap s p, Reps.swap s q⟩
end
end
theorem rep_ofKey {K : PySem.W.Frag} {H : Hp} {O : Hid} (k : Key) : Rep K H O (ofKey k) (kV k) := by cases k <;> simp only [ofKey, Rep, kV]
def tIK (K : PySem.W.Frag) (T : Tab) (i : Nat) : TI := fun σ H R => (∃ a od kvs, σ[i]? = some (some (.ref a)) ∧ H a = some (.frz od (.dK kvs))) ∧ tI K T (.keys (.var i)) σ H R
theorem keys_at {K : PySem.W.Frag} {T : Tab} {H : Hp} {O : Hid} {σ : L2.St} {ρ : VE} {i : Nat} {items : List Val} (eo : EOk K H O σ ρ) (h : evI T (.keys (.var i)) ρ = .ok items) :
  ∃ a kvs vs, ρ[i]? = some (some (.dic false items vs)) ∧ σ[i]? = some (some (.ref a)) ∧ ¬ O a ∧ Rd H a (.dK kvs) ∧ items = kvs.map (fun p => ofKey p.1) := by
 simp only [evI, ev] at h
 obtain ⟨x, h1, h2⟩ := bok h
 have hx := getE_ok h1
 unfold keysV at h2
 split at h2
 ·rename_i ks vs
  cases h2
  obtain ⟨y, hy, ry⟩ := eo.get i _ hx
  simp only [Rep] at ry
  obtain ⟨a, kvs, rfl, na, hd, hk, _⟩ := ry
  exact ⟨a, kvs, vs, hx, hy, na, hd, hk⟩
 ·cases h2
theorem pi_keysI {X : Cx} {T : Tab} {tg : Expr} {i : Nat} {x : Str} {px : Pos} (hi : X.N[i]? = some x) (hv : Vis X.env.scope x) (hd : dbg x = true) : PI X tg (.Name x px) (tIK X.K T i) :=
 PI.imp (pi_keys (pe_var hi hv (dbg_1 hd) (dbg_2 hd))) (fun σ H R ⟨⟨a, od, kvs, hσ, hd⟩, O, ρ, vs, w, eo, e, f⟩ => by
  obtain ⟨a', kvs', us, _, hσ', na, hd', rfl⟩ := keys_at eo e
  rw [hσ] at hσ'
  cases hσ'
  obtain rfl := rd_inj (.inr ⟨od, hd⟩) hd'
  refine ⟨.ref a, hσ, a, od, rfl, .inl ⟨kvs', hd, f _ H Ext.refl ?_⟩⟩
  intro j H' O' w' k
  obtain ⟨n', h'⟩ := vis_keep k na hd
  refine ⟨fun hl => ⟨h', by simpa using hl⟩, fun v hv => ?_⟩
  rw [List.getElem?_map] at hv
  obtain ⟨p, hp, rfl⟩ := Option.map_eq_some_iff.mp hv
  refine ⟨⟨h', (List.getElem?_eq_some_iff.mp hp).1⟩, fun x H'' hy => ?_⟩
  obtain ⟨rfl, k, u, hk, rfl⟩ := hy
  rw [hp] at hk
  cases hk
  exact ⟨Ext.refl, rep_ofKey _⟩)
theorem tE_keys {K : PySem.W.Frag} {T : Tab} {own : List Nat} {tg : Tg} {i : Nat} {c : SO} {el : SE} (hown : ∀ i ∈ tgIx tg, i ∈ own) : ∀ σ H Q, tE K T (.comp own tg (.keys (.var i)) c el) σ H Q →
  tLockE (tLc (tIK K T i) (gR K tg) (tCo K T c) (tE K T el) own) σ H Q ∨ tLc (tIK K T i) (gR K tg) (tCo K T c) (tE K T el) own σ H Q := by
 intro σ H Q ⟨O, ρ, v, w, eo, h, q⟩
 have h' := h
 simp only [ev] at h'
 obtain ⟨items, h1, _⟩ := bok h'
 obtain ⟨a, kvs, us, _, hσ, na, hd, _⟩ := keys_at eo h1
 rcases hd with hd | ⟨od, hd⟩
 ·refine .inl ⟨a, .dK kvs, hd, trivial, fun od => ?_⟩
  have sw : Swap a kvs H (upd H a (.frz od (.dK kvs))) := ⟨.inl hd, .inr ⟨od, upd_same⟩, fun b o nb hb => by rw [upd_ne nb]; exact hb⟩
  have w' : WF (upd H a (.frz od (.dK kvs))) O := by
   refine ⟨fun b hb => ?_, Tabs.upd w.tabs hd True.intro⟩
   obtain ⟨o, ho, m⟩ := w b hb
   exact ⟨o, by rw [upd_ne (show b ≠ a from fun z => na (by rw [← z]; exact hb))]; exact ho, m⟩
  have eo' : EOk K (upd H a (.frz od (.dK kvs))) O σ ρ := ⟨eo.len, fun j u hj => let ⟨x, e1, e2⟩ := eo.get j u hj; ⟨x, e1, Rep.swap sw e2⟩⟩
  refine ⟨⟨a, od, kvs, hσ, upd_same⟩, tE_comp hown σ (upd H a (.frz od (.dK kvs))) (fun x H' => H' a = some (.frz od (.dK kvs)) ∧ Q x (upd H' a (.dK kvs))) ⟨O, ρ, v, w', eo', h, fun x H' e r => ?_⟩⟩
  have ha := e.vis _ _ (upd_same (H := H) (a := a))
  have sw2 : Swap a kvs H' (upd H' a (.dK kvs)) := ⟨.inr ⟨od, ha⟩, .inl upd_same, fun b o nb hb => by rw [upd_ne nb]; exact hb⟩
  refine ⟨ha, q x _ ⟨fun b o hb nt => ?_, fun b hb => ?_, fun t => Tabs.upd (e.tabs (Tabs.upd t hd True.intro)) ha True.intro⟩ (Rep.swap sw2 r)⟩
  ·by_cases hba : b = a
   ·subst hba
    rw [hd] at hb
    cases hb
    exact upd_same
   ·rw [upd_ne hba]
    exact e.vis b o (by rw [upd_ne hba]; exact hb) nt
  ·exact upd_nn (e.dom b (upd_nn hb))
 ·exact .inr ⟨⟨a, od, kvs, hσ, hd⟩, tE_comp hown σ H Q ⟨O, ρ, v, w, eo, h, q⟩⟩
theorem notKeys_ok {N : List Str} {it : SI} {sc : Scope} {e : Expr} (h : notKeys it = true) : chkKeys N it sc e = false := by
 cases it <;> first | rfl | cases h
theorem chkKeys_ok {N : List Str} {it : SI} {sc : Scope} {e : Expr} (h : chkKeys N it sc e = true) : ∃ i x px, it = .keys (.var i) ∧ e = .Name x px ∧ N[i]? = some x ∧ visB sc x = true ∧ dbg x = true := by
 unfold chkKeys at h
 split at h
 ·simp only [Bool.and_eq_true] at h
  exact ⟨_, _, _, rfl, rfl, of_decide_eq_true h.1.1, h.1.2, h.2⟩
 ·cases h
theorem own_snd (N : List Str) (own : List Nat) : (own.map fun i => (N.getD i "", i)).map (·.2) = own := by
 rw [List.map_map]
 exact List.map_id own
theorem chkGs_nst {sc : Scope} {fn : Str → Bool} : ∀ {ts : Tgs} {es : List Expr}, chkGs N sc fn ts es = true → es.all nst = true ∧ ∀ us bs, flatTs ts us = .ok bs → us.length = es.length
 | .nil, es, h => by
  simp only [chkGs] at h
  cases es with
  | nil =>
   refine ⟨rfl, fun us bs hf => ?_⟩
   cases us with
   | nil => rfl
   | cons => simp only [flatTs] at hf; cases hf
  | cons => cases h
 | .cons t r, [], h => by simp only [chkGs] at h; cases h
 | .cons t r, e :: es, h => by
  simp only [chkGs, Bool.and_eq_true] at h
  obtain ⟨h1, h2⟩ := chkGs_nst h.2
  refine ⟨by simp only [List.all_cons, h.1.1, h1, Bool.and_self], fun us bs hf => ?_⟩
  cases us with
  | nil => simp only [flatTs] at hf; cases hf
  | cons u us =>
   simp only [flatTs] at hf
   obtain ⟨b1, _, hf⟩ := bok hf
   obtain ⟨b2, hf2, hf⟩ := bok hf
   rw [List.length_cons, List.length_cons, h2 us b2 hf2]
mutual
theorem sndG : ∀ (t : Tg) {X : Cx} {fn : Str → Bool} {e : Expr}, X.N = N → X.N.Nodup → X.calm = true → (∀ x, fn x = true → X.fn x = true) → chkG N X.env.scope fn t e = true → PG X e (gR X.K t)
 | .nm i, X, fn, e, hN, nd, cm, hf, h => by
  simp only [chkG] at h
  split at h
  ·rename_i x p
   rw [Bool.and_eq_true] at h
   have hi : X.N[i]? = some x := by rw [hN]; exact of_decide_eq_true h.1
   have h2 := h.2
   rw [Bool.or_eq_true, Bool.and_eq_true] at h2
   rcases h2 with h2 | ⟨h2, h3⟩
   ·split at h2
    ·rename_i hl; exact sG_nm nd hi (.inl hl) (.inr hl)
    ·cases h2
   ·split at h2
    ·rename_i hl; exact sG_nm nd hi (.inr hl) (.inl (hf _ h3))
    ·cases h2
  ·cases h
 | .tp ts, X, fn, e, hN, nd, cm, hf, h => by
  simp only [chkG] at h
  split at h
  ·obtain ⟨h1, h2⟩ := chkGs_nst h
   exact sG_tp cm (sndGs ts hN nd cm hf h) h1 h2
  ·cases h
theorem sndGs : ∀ (t : Tgs) {X : Cx} {fn : Str → Bool} {es : List Expr}, X.N = N → X.N.Nodup → X.calm = true → (∀ x, fn x = true → X.fn x = true) → chkGs N X.env.scope fn t es = true → PGs X es (gRs X.K t)
 | .nil, X, fn, es, hN, nd, cm, hf, h => by
  simp only [chkGs] at h
  cases es with
  | nil => exact sGs_nil
  | cons => cases h
 | .cons t r, X, fn, [], hN, nd, cm, hf, h => by simp only [chkGs] at h; cases h
 | .cons t r, X, fn, e :: es, hN, nd, cm, hf, h => by
  simp only [chkGs, Bool.and_eq_true] at h
  exact sGs_cons (sndG t hN nd cm hf h.1.2) (sndGs r hN nd cm hf h.2) h.1.1
end
theorem chkEs_nst {sc : Scope} : ∀ {s : SEs} {es : List Expr}, chkEs M N s sc es = true → es.all nst = true
 | .nil, es, h => by
  simp only [chkEs] at h
  cases es with
  | nil => rfl
  | cons => cases h
 | .cons e r, [], h => by rfl
 | .cons e r, x :: es, h => by
  simp only [chkEs, Bool.and_eq_true] at h
  simp only [List.all_cons, h.1.1, chkEs_nst h.2, Bool.and_self]
theorem chkEs_nil {sc : Scope} {s : SEs} {es : List Expr} (h : chkEs M N s sc es = true) : es = [] → s = .nil := by
 intro e
 subst e
 cases s with
 | nil => rfl
 | cons => simp only [chkEs] at h; cases h
theorem chkEs_cons {sc : Scope} {s : SEs} {es : List Expr} (h : chkEs M N s sc es = true) : ∀ e es', es = e :: es' → ∃ t r, s = .cons t r := by
 intro e es' he
 subst he
 cases s with
 | nil => simp only [chkEs] at h; cases h
 | cons t r => exact ⟨t, r, rfl⟩
theorem opBin_of {o : Op2} {p : Operator} (h : (match opBin o with | some q => opEqB q p | none => false) = true) : opBin o = some p := by
 split at h
 ·rename_i q e; rw [e, opEqB_eq h]
 ·cases h
theorem opCmp_of {o : Op2} {p : CmpOp} (h : (match opCmp o with | some q => cmpEqB q p | none => false) = true) : opCmp o = some p := by
 split at h
 ·rename_i q e; rw [e, cmpEqB_eq h]
 ·cases h
mutual
theorem sndE : ∀ (s : SE) {X : Cx} {e : Expr}, Ctx X n M T N → chkE M N s X.env.scope e = true → PE X e (tE X.K T s) ∧ (tOk s = true → PT X e (tT X.K T s))
 | .var i, X, e, cx, h => by
  simp only [chkE] at h
  split at h
  ·simp only [Bool.and_eq_true] at h
   refine ⟨?_, fun _ => sT_val ?_ rfl⟩ <;> exact sE_var (T := T) (by rw [cx.hN]; exact of_decide_eq_true h.1.1) (visB_vis h.1.2) h.2
  ·cases h
 | .cint m, X, e, cx, h => by
  simp only [chkE] at h
  split at h
  ·have := of_decide_eq_true h
   subst this
   exact ⟨sE_int, fun _ => sT_val sE_int rfl⟩
  ·cases h
 | .cbl b, X, e, cx, h => by
  simp only [chkE] at h
  split at h
  ·have := eq_of_beq h
   subst this
   exact ⟨sE_bl, fun _ => sT_val sE_bl rfl⟩
  ·cases h
 | .cnon, X, e, cx, h => by
  simp only [chkE] at h
  split at h
  ·exact ⟨sE_non, fun _ => sT_val sE_non rfl⟩
  ·cases h
 | .cstr s, X, e, cx, h => by
  simp only [chkE] at h
  split at h
  ·have := of_decide_eq_true h
   subst this
   exact ⟨sE_str, fun _ => sT_val sE_str rfl⟩
  ·cases h
 | .glob g, X, e, cx, h => by
  simp only [chkE] at h
  split at h
  ·simp only [Bool.and_eq_true] at h
   refine ⟨?_, fun _ => sT_val ?_ rfl⟩ <;> exact sE_glob cx (of_decide_eq_true h.1.1) (glB_gl h.1.2) h.2
  ·cases h
 | .op o a b, X, e, cx, h => by
  simp only [chkE] at h
  split at h
  ·simp only [Bool.and_eq_true] at h
   refine ⟨?_, fun _ => sT_val ?_ rfl⟩ <;> exact sE_bin (opBin_of h.1.1) (sndE a cx h.1.2).1 (sndE b cx h.2).1
  ·simp only [Bool.and_eq_true] at h
   exact ⟨sE_cmp cx (opCmp_of h.1.1.1) h.1.1.2 (sndE a cx h.1.2).1 (sndE b cx h.2).1, fun _ => sT_cmp cx (opCmp_of h.1.1.1) h.1.1.2 (sndE a cx h.1.2).1 (sndE b cx h.2).1⟩
  ·cases h
 | .neg a, X, e, cx, h => by
  simp only [chkE] at h
  split at h
  ·refine ⟨?_, fun _ => sT_val ?_ rfl⟩ <;> exact sE_neg (sndE a cx h).1
  ·cases h
 | .not1 a, X, e, cx, h => by
  simp only [chkE] at h
  split at h
  ·exact ⟨sE_not (sndE a cx h).1, fun t => sT_not ((sndE a cx h).2 (by simpa only [tOk] using t))⟩
  ·cases h
 | .bop an es, X, e, cx, h => by
  simp only [chkE] at h
  split at h
  ·simp only [Bool.and_eq_true] at h
   obtain ⟨⟨rfl, h2⟩, h3⟩ := h
   have p := sndB es true cx h2 (by simpa using h3)
   refine ⟨PE.imp (p.1 _) (fun σ H Q ⟨O, ρ, v, w, eo, h, q⟩ => by simp only [ev] at h; exact ⟨O, ρ, v, w, eo, h, q⟩), fun t => PT.imp (p.2 (by simpa only [tOk] using t) _).pt (fun σ H Q ⟨O, ρ, v, w, eo, h, q⟩ => by simp only [ev] at h; exact ⟨O, ρ, v, w, eo, h, q⟩)⟩
  ·simp only [Bool.and_eq_true, Bool.not_eq_true'] at h
   obtain ⟨⟨rfl, h2⟩, h3⟩ := h
   have p := sndB es false cx h2 (by simpa using h3)
   refine ⟨PE.imp (p.1 _) (fun σ H Q ⟨O, ρ, v, w, eo, h, q⟩ => by simp only [ev] at h; exact ⟨O, ρ, v, w, eo, h, q⟩), fun t => PT.imp (p.2 (by simpa only [tOk] using t) _).pt (fun σ H Q ⟨O, ρ, v, w, eo, h, q⟩ => by simp only [ev] at h; exact ⟨O, ρ, v, w, eo, h, q⟩)⟩
  ·cases h
 | .chain o o' a b c, X, e, cx, h => by
  simp only [chkE] at h
  split at h
  ·simp only [Bool.and_eq_true] at h
   obtain ⟨⟨⟨⟨⟨⟨h1, h2⟩, h3⟩, h4⟩, h5⟩, h6⟩, h7⟩ := h
   exact ⟨sE_chain cx (opCmp_of h1) (opCmp_of h2) h4 (sndE a cx h5).1 (sndE b cx h6).1 (sndE c cx h7).1, fun _ => sT_chain cx (opCmp_of h1) (opCmp_of h2) h4 (sndE a cx h5).1 (sndE b cx h6).1 (sndE c cx h7).1⟩
  ·cases h
 | .ite c a b, X, e, cx, h => by
  simp only [chkE] at h
  split at h
  ·simp only [Bool.and_eq_true] at h
   obtain ⟨⟨⟨h1, h2⟩, h3⟩, h4⟩ := h
   exact ⟨sE_ite ((sndE c cx h2).2 h1) (sndE a cx h3).1 (sndE b cx h4).1, fun t => by simp only [tOk] at t; cases t⟩
  ·cases h
 | .tup es, X, e, cx, h => by
  simp only [chkE] at h
  split at h
  ·refine ⟨?_, fun _ => sT_val ?_ rfl⟩ <;> exact sE_tup (sndA es cx h)
  ·cases h
 | .lst es, X, e, cx, h => by
  simp only [chkE] at h
  split at h
  ·refine ⟨?_, fun _ => sT_val ?_ rfl⟩ <;> exact sE_lst (sndA es cx h)
  ·cases h
 | .ix a b, X, e, cx, h => by
  simp only [chkE] at h
  split at h
  ·simp only [Bool.and_eq_true] at h
   refine ⟨?_, fun _ => sT_val ?_ rfl⟩ <;> exact sE_ix cx (sndE a cx h.1.2).1 (sndE b cx h.2).1 h.1.1
  ·cases h
 | .sl a lo hi, X, e, cx, h => by
  simp only [chkE] at h
  split at h
  ·simp only [Bool.and_eq_true] at h
   refine ⟨?_, fun _ => sT_val ?_ rfl⟩ <;> exact sE_sl (sndE a cx h.1.1).1 (sndO lo cx h.1.2) (sndO hi cx h.2)
  ·cases h
 | .rev a, X, e, cx, h => by
  simp only [chkE] at h
  split at h
  ·exact ⟨sE_rev (sndE a cx h).1, fun _ => sT_val (sE_rev (sndE a cx h).1) rfl⟩
  ·cases h
 | .call f es, X, e, cx, h => by
  simp only [chkE] at h
  rw [Bool.or_eq_true] at h
  rcases h with h | h
  rotate_left
  ·rw [Bool.and_eq_true] at h
   exact ⟨cx.lam X .refl f es e h.1, fun _ => sT_val (cx.lam X .refl f es e h.1) h.2⟩
  split at h
  ·simp only [Bool.and_eq_true] at h
   refine ⟨?_, fun _ => sT_val ?_ rfl⟩ <;> exact sE_call cx (of_decide_eq_true h.1.1.1) (glB_gl h.1.1.2) h.1.2 (sndA es cx h.2) (chkEs_nst h.2) (chkEs_nil h.2)
  ·cases h
 | .bi b es, X, e, cx, h => by
  simp only [chkE] at h
  split at h
  ·rw [Bool.or_eq_true] at h
   rcases h with h | h
   ·simp only [Bool.and_eq_true] at h
    obtain ⟨⟨⟨h1, h2⟩, h3⟩, h4⟩ := h
    have hx := of_decide_eq_true h2
    subst hx
    have hn := chkEs_nst h4
    simp only [List.all_cons, Bool.and_eq_true] at hn
    refine ⟨?_, fun _ => sT_val ?_ rfl⟩ <;> exact sE_bi cx h1 (glB_gl h3) (sndA es cx h4) hn.1 hn.2
   ·split at h
    ·simp only [Bool.and_eq_true] at h
     obtain ⟨⟨⟨⟨⟨⟨h1, h2⟩, h3⟩, h4⟩, h5⟩, h6⟩, h7⟩ := h
     have hx := of_decide_eq_true h3
     subst hx
     have hs := of_decide_eq_true h4
     subst hs
     have hn := chkEs_nst h7
     simp only [List.all_cons, Bool.and_eq_true] at hn
     obtain rfl := List.isEmpty_iff.mp h2
     cases b <;> simp only [biSet] at h1 <;> first | (cases h1; done) | skip
     ·refine ⟨?_, fun _ => sT_val ?_ rfl⟩ <;> exact sE_lenS cx (glB_gl h5) (glB_gl h6) (sndA es cx h7) hn.1
     ·refine ⟨?_, fun _ => sT_val ?_ rfl⟩ <;> exact sE_sortS cx (glB_gl h5) (glB_gl h6) (sndA es cx h7) hn.1
    ·cases h
  ·cases h
 | .isi a t, X, e, cx, h => by
  simp only [chkE] at h
  split at h
  ·simp only [Bool.and_eq_true] at h
   obtain ⟨⟨⟨⟨⟨h1, h2⟩, h3⟩, h4⟩, h5⟩, h6⟩ := h
   have hx := of_decide_eq_true h1
   have hy := of_decide_eq_true h2
   subst hx hy
   refine ⟨?_, fun _ => sT_val ?_ rfl⟩ <;> exact sE_isi cx (glB_gl h3) (glB_gl h4) (sndE a cx h6).1 h5
  ·cases h
 | .comp own tg it c el, X, e, cx, h => by
  simp only [chkE] at h
  split at h
  ·rename_i x tgE iter ifs scope pos
   simp only [Bool.and_eq_true] at h
   obtain ⟨⟨⟨⟨⟨⟨h1, h2⟩, h3⟩, h4⟩, h5⟩, h6⟩, h7⟩ := h
   have hb : BlkOk X.N X.env.scope scope (own.map fun i => (N.getD i "", i)) := by rw [cx.hN]; exact blkOk_by h1
   rw [Bool.or_eq_true] at h3
   rcases h3 with h3 | h3
   ·have p := pe_lc (elt := x) (pos := pos) (scope := scope) cx.calm cx.nd (sndI it cx h3) hb (g := gR X.K tg) (tt := tCo X.K T c) (te := tE X.K T el)
     (fun s H C cl fp => sndG (N := N) tg (X := X.blk s H scope (compEnvC scope cl C X.env) fp) cx.hN cx.nd cx.calm (fun y hy => hy) h5)
     (fun s H C cl fp => sndC c (cx.blk s H scope cl C fp) h6)
     (fun s H C cl fp => (sndE el (cx.blk s H scope cl C fp) h7).1)
     (noSet_fold h4)
    rw [own_snd] at p
    have p' := PE.imp p (tE_comp (T := T) (own := own) (tg := tg) (it := it) (c := c) (el := el) (fun i hi => by simpa using List.all_eq_true.mp h2 i hi))
    exact ⟨p', fun _ => sT_val p' rfl⟩
   ·obtain ⟨ik, xk, pk, rfl, rfl, k1, k2, k3⟩ := chkKeys_ok h3
    have p := pe_lc (elt := x) (pos := pos) (scope := scope) cx.calm cx.nd (pi_keysI (T := T) (i := ik) (px := pk) (by rw [cx.hN]; exact k1) (visB_vis k2) k3) hb (g := gR X.K tg) (tt := tCo X.K T c) (te := tE X.K T el)
     (fun s H C cl fp => sndG (N := N) tg (X := X.blk s H scope (compEnvC scope cl C X.env) fp) cx.hN cx.nd cx.calm (fun y hy => hy) h5)
     (fun s H C cl fp => sndC c (cx.blk s H scope cl C fp) h6)
     (fun s H C cl fp => (sndE el (cx.blk s H scope cl C fp) h7).1)
     (noSet_fold h4)
    rw [own_snd] at p
    have p' := PE.imp (PE.or (pe_lock p) p) (tE_keys (T := T) (own := own) (tg := tg) (i := ik) (c := c) (el := el) (fun i hi => by simpa using List.all_eq_true.mp h2 i hi))
    exact ⟨p', fun _ => sT_val p' rfl⟩
  ·cases h
 | .lrng .nil, X, e, cx, h => by simp only [chkE] at h; cases h
 | .lrng #v[a], X, e, cx, h => by
  simp only [chkE] at h
  split at h
  ·simp only [Bool.and_eq_true] at h
   obtain ⟨⟨⟨⟨⟨h1, h2⟩, h3⟩, h4⟩, h5⟩, h6⟩ := h
   obtain rfl := of_decide_eq_true h1
   obtain rfl := of_decide_eq_true h2
   exact ⟨sE_lrng1 (f := "") (g := "") cx (glB_gl h3) (glB_gl h4) (sndE a cx h6).1 h5, fun _ => sT_val (sE_lrng1 (f := "") (g := "") cx (glB_gl h3) (glB_gl h4) (sndE a cx h6).1 h5) rfl⟩
  ·cases h
 | .lrng #v[a, b], X, e, cx, h => by
  simp only [chkE] at h
  split at h
  ·simp only [Bool.and_eq_true] at h
   obtain ⟨⟨⟨⟨⟨⟨⟨h1, h2⟩, h3⟩, h4⟩, h5⟩, h6⟩, h7⟩, h8⟩ := h
   obtain rfl := of_decide_eq_true h1
   obtain rfl := of_decide_eq_true h2
   exact ⟨sE_lrng2 (f := "") (g := "") cx (glB_gl h3) (glB_gl h4) (sndE a cx h6).1 h5 (sndE b cx h8).1 h7, fun _ => sT_val (sE_lrng2 (f := "") (g := "") cx (glB_gl h3) (glB_gl h4) (sndE a cx h6).1 h5 (sndE b cx h8).1 h7) rfl⟩
  ·cases h
 | .lrng (.cons _ (.cons _ (.cons _ _))), X, e, cx, h => by simp only [chkE] at h; cases h
 | .dget a b, X, e, cx, h => by
  simp only [chkE] at h
  split at h
  ·simp only [Bool.and_eq_true] at h
   obtain ⟨⟨⟨⟨h1, h2⟩, h3⟩, h4⟩, h5⟩ := h
   obtain rfl := of_decide_eq_true h1
   exact ⟨sE_idx (sndE a cx h4).1 (sndE b cx h5).1 h2 h3, fun _ => sT_val (sE_idx (sndE a cx h4).1 (sndE b cx h5).1 h2 h3) rfl⟩
  ·cases h
 | .dgetd a b c, X, e, cx, h => by
  simp only [chkE] at h
  split at h
  ·simp only [Bool.and_eq_true] at h
   obtain ⟨⟨⟨⟨⟨⟨h1, h2⟩, h2'⟩, h3⟩, h4⟩, h5⟩, h6⟩ := h
   obtain rfl := of_decide_eq_true h1
   exact ⟨sE_dgetd cx (sndE a cx h4).1 (sndE b cx h5).1 (sndE c cx h6).1 h2 h2' h3, fun _ => sT_val (sE_dgetd cx (sndE a cx h4).1 (sndE b cx h5).1 (sndE c cx h6).1 h2 h2' h3) rfl⟩
  ·cases h
 | .cnt a b, X, e, cx, h => by
  simp only [chkE] at h
  split at h
  ·simp only [Bool.and_eq_true] at h
   obtain ⟨⟨⟨⟨h1, h2⟩, h3⟩, h4⟩, h5⟩ := h
   obtain rfl := of_decide_eq_true h1
   exact ⟨sE_cnt (sndE a cx h4).1 (sndE b cx h5).1 h2 h3, fun _ => sT_val (sE_cnt (sndE a cx h4).1 (sndE b cx h5).1 h2 h3) rfl⟩
  ·cases h
 | .mxd a b, X, e, cx, h => by
  simp only [chkE] at h
  split at h
  ·simp only [Bool.and_eq_true] at h
   obtain ⟨⟨⟨⟨⟨h1, h2⟩, h3⟩, h4⟩, h5⟩, h6⟩ := h
   obtain rfl := of_decide_eq_true h1
   obtain rfl := of_decide_eq_true h2
   exact ⟨sE_mxd cx (glB_gl h3) (sndE a cx h5).1 h4 (sndE b cx h6).1, fun _ => sT_val (sE_mxd cx (glB_gl h3) (sndE a cx h5).1 h4 (sndE b cx h6).1) rfl⟩
  ·cases h
 | .mk _ _ _, X, e, cx, h => by simp only [chkE] at h; cases h
 | .make f es, X, e, cx, h => by
  simp only [chkE] at h
  split at h
  ·simp only [Bool.and_eq_true] at h
   refine ⟨?_, fun _ => sT_val ?_ rfl⟩ <;> exact sE_make cx (of_decide_eq_true h.1.1.1) (glB_gl h.1.1.2) h.1.2 (sndA es cx h.2) (chkEs_nst h.2) (chkEs_nil h.2) (chkEs_cons h.2)
  ·cases h
 | .fld a f, X, e, cx, h => by
  simp only [chkE] at h
  split at h
  ·simp only [Bool.and_eq_true] at h
   obtain ⟨⟨h1, h2⟩, h3⟩ := h
   obtain rfl := of_decide_eq_true h1
   exact ⟨sE_fld cx (of_decide_eq_true h2) (sndE a cx h3).1, fun _ => sT_val (sE_fld cx (of_decide_eq_true h2) (sndE a cx h3).1) rfl⟩
  ·cases h
 | .dsp k a, X, e, cx, h => by
  simp only [chkE] at h
  split at h
  ·simp only [Bool.and_eq_true] at h
   obtain ⟨h1, h2⟩ := h
   obtain rfl := of_decide_eq_true h1
   exact ⟨sE_dsp (sndE a cx h2).1, fun _ => sT_val (sE_dsp (sndE a cx h2).1) rfl⟩
  ·cases h
 | .isc a c, X, e, cx, h => by
  simp only [chkE] at h
  split at h
  ·simp only [Bool.and_eq_true] at h
   obtain ⟨⟨⟨⟨⟨⟨h1, h2⟩, h3⟩, h4⟩, h5⟩, h6⟩, h7⟩ := h
   obtain rfl := of_decide_eq_true h1
   exact ⟨sE_isc cx (of_decide_eq_true h2) (glB_gl h3) (glB_gl h4) h5 (sndE a cx h7).1 h6, fun _ => sT_val (sE_isc cx (of_decide_eq_true h2) (glB_gl h3) (glB_gl h4) h5 (sndE a cx h7).1 h6) rfl⟩
  ·cases h
 | .mth m ids a es, X, e, cx, h => by
  simp only [chkE] at h
  split at h
  ·simp only [Bool.and_eq_true] at h
   obtain ⟨⟨⟨⟨⟨⟨h1, h2⟩, h3⟩, h4⟩, h5⟩, h6⟩, h7⟩ := h
   obtain rfl := of_decide_eq_true h1
   exact ⟨sE_mth cx h2 h3 (of_decide_eq_true h4) h5 (sndE a cx h6).1 (sndA es cx h7) (chkEs_nst h7), fun _ => sT_val (sE_mth cx h2 h3 (of_decide_eq_true h4) h5 (sndE a cx h6).1 (sndA es cx h7) (chkEs_nst h7)) rfl⟩
  ·cases h
theorem sndA : ∀ (s : SEs) {X : Cx} {es : List Expr}, Ctx X n M T N → chkEs M N s X.env.scope es = true → PA X es (tA X.K T s)
 | .nil, X, es, cx, h => by
  simp only [chkEs] at h
  cases es with
  | nil => exact sA_nil
  | cons => cases h
 | .cons e r, X, [], cx, h => by simp only [chkEs] at h; cases h
 | .cons e r, X, x :: es, cx, h => by
  simp only [chkEs, Bool.and_eq_true] at h
  exact sA_cons (sndE e cx h.1.2).1 (sndA r cx h.2) h.1.1
theorem sndB : ∀ (s : SEs) (an : Bool) {X : Cx} {es : List Expr}, Ctx X n M T N → chkEs M N s X.env.scope es = true → es ≠ [] → (∀ pos, PE X (.BoolOp (bop an) es pos) (tBo X.K T an s)) ∧ (tOks s = true → ∀ pos, PW X (.BoolOp (bop an) es pos) (tBT X.K T an s))
 | .nil, an, X, es, cx, h, ne => by
  simp only [chkEs] at h
  cases es with
  | nil => exact absurd rfl ne
  | cons => cases h
 | .cons e r, an, X, [], cx, h, ne => by simp only [chkEs] at h; cases h
 | .cons e .nil, an, X, x :: es, cx, h, ne => by
  simp only [chkEs, Bool.and_eq_true] at h
  obtain ⟨⟨_, h1⟩, h2⟩ := h
  cases es with
  | nil => exact ⟨fun pos => sB_one (sndE e cx h1).1, fun t pos => sBT_one ((sndE e cx h1).2 (by simp only [tOks, Bool.and_eq_true] at t; exact t.1))⟩
  | cons => cases h2
 | .cons e (.cons e2 r), an, X, x :: es, cx, h, ne => by
  unfold chkEs at h
  simp only [Bool.and_eq_true] at h
  obtain ⟨⟨_, h1⟩, h2⟩ := h
  cases es with
  | nil => simp only [chkEs] at h2; cases h2
  | cons y es =>
   have p := sndB (.cons e2 r) an cx h2 (by simp)
   refine ⟨fun pos => sB_cons (sndE e cx h1).1 (p.1 pos), fun t pos => ?_⟩
   have t' : tOk e = true ∧ tOks (.cons e2 r) = true := by unfold tOks at t; simpa only [Bool.and_eq_true] using t
   exact sBT_cons ((sndE e cx h1).2 t'.1) (p.2 t'.2 pos)
theorem sndO : ∀ (s : SO) {X : Cx} {e : Option Expr}, Ctx X n M T N → chkO M N s X.env.scope e = true → PO X e (tO X.K T s)
 | .none, X, e, cx, h => by
  simp only [chkO] at h
  cases e with
  | none => exact sO_none
  | some => cases h
 | .some s, X, none, cx, h => by simp only [chkO] at h; cases h
 | .some s, X, some e, cx, h => by simp only [chkO] at h; exact sO_some (sndE s cx h).1
theorem sndC : ∀ (s : SO) {X : Cx} {es : List Expr}, Ctx X n M T N → chkC M N s X.env.scope es = true → PTs X es (tCo X.K T s)
 | .none, X, es, cx, h => by
  simp only [chkC] at h
  cases es with
  | nil => exact sC_nil
  | cons => cases h
 | .some s, X, es, cx, h => by
  simp only [chkC] at h
  split at h
  ·rw [Bool.and_eq_true] at h
   exact sC_one ((sndE s cx h.2).2 h.1)
  ·cases h
theorem sndI : ∀ (s : SI) {X : Cx} {tg e : Expr}, Ctx X n M T N → chkI M N s X.env.scope tg e = true → PI X tg e (tI X.K T s)
 | .seq s, X, tg, e, cx, h => by simp only [chkI] at h; exact sI_seq (sndE s cx h).1
 | .rng1 a, X, tg, e, cx, h => by
  simp only [chkI] at h
  split at h
  ·simp only [Bool.and_eq_true] at h
   obtain ⟨⟨⟨h1, h2⟩, h3⟩, h4⟩ := h
   have hx := of_decide_eq_true h1
   subst hx
   exact sI_rng1 (glB_gl h2) (cx.facts.bis "range" (by decide)) (sndE a cx h4).1 h3
  ·cases h
 | .rng2 a b, X, tg, e, cx, h => by
  simp only [chkI] at h
  split at h
  ·simp only [Bool.and_eq_true] at h
   obtain ⟨⟨⟨⟨⟨h1, h2⟩, h3⟩, h4⟩, h5⟩, h6⟩ := h
   have hx := of_decide_eq_true h1
   subst hx
   exact sI_rng2 (glB_gl h2) (cx.facts.bis "range" (by decide)) (sndE a cx h4).1 h3 (sndE b cx h6).1 h5
  ·cases h
 | .rng3 a b c, X, tg, e, cx, h => by
  simp only [chkI] at h
  split at h
  ·simp only [Bool.and_eq_true] at h
   obtain ⟨⟨⟨⟨⟨⟨⟨h1, h2⟩, h3⟩, h4⟩, h5⟩, h6⟩, h7⟩, h8⟩ := h
   have hx := of_decide_eq_true h1
   subst hx
   exact sI_rng3 (glB_gl h2) (cx.facts.bis "range" (by decide)) (sndE a cx h4).1 h3 (sndE b cx h6).1 h5 (sndE c cx h8).1 h7
  ·cases h
 | .enum a, X, tg, e, cx, h => by
  simp only [chkI] at h
  split at h
  ·split at h
   ·simp only [Bool.and_eq_true] at h
    obtain ⟨⟨⟨h1, h2⟩, h3⟩, h4⟩ := h
    have hx := of_decide_eq_true h1
    subst hx
    exact sI_enum (glB_gl h2) (cx.facts.bis "enumerate" (by decide)) (sndE a cx h4).1 h3
   ·cases h
  ·cases h
 | .zip a b, X, tg, e, cx, h => by
  simp only [chkI] at h
  split at h
  ·split at h
   ·simp only [Bool.and_eq_true] at h
    obtain ⟨⟨⟨⟨⟨h1, h2⟩, h3⟩, h4⟩, h5⟩, h6⟩ := h
    have hx := of_decide_eq_true h1
    subst hx
    exact sI_zip (glB_gl h2) (cx.facts.bis "zip" (by decide)) (sndE a cx h4).1 h3 (sndE b cx h6).1 h5
   ·cases h
  ·cases h
 | .keys _, X, tg, e, cx, h => by simp only [chkI] at h; cases h
end
end
end VM
namespace VM
open PySem PySem.Spec PyProof.Rows L2
variable [Tbl]
def OwnH (O0 : Hid) (σ : L2.St) (m : List Nat) (ρ : SEnv) : Hid := fun a => O0 a ∨ ∃ (i : Nat) (s : Slot), ρ[i]? = some s ∧ s.isOwn = true ∧ i ∉ m ∧ σ[i]? = some (some (.ref a))
def SRep (K : PySem.W.Frag) (H : Hp) (O : Hid) (a : Addr) : Slot → Prop
 | .ow vs => ∃ xs, H a = some (.lst xs) ∧ Reps K H O vs xs
 | .od false ks vs => ∃ (kvs : List (Key × V)), H a = some (.dK kvs) ∧ ks = kvs.map (fun p => ofKey p.1) ∧ (kvs.map (·.1)).Nodup ∧ Reps K H O vs (kvs.map (·.2))
 | .od true ks vs => ∃ (kvs : List (NestedKey × Addr × V)), H a = some (DN Tbl.w a kvs) ∧ ks = kvs.map (fun p => valOf p.1) ∧ ((kvs.map (·.1)).Nodup ∧ ∀ p ∈ kvs, p.1.depth ≤ 8) ∧ Reps K H O ks (kvs.map fun p => V.ref p.2.1) ∧ Reps K H O vs (kvs.map (·.2.2))
 | _ => False
structure SOk (K : PySem.W.Frag) (H0 : Hp) (O0 : Hid) (H : Hp) (σ : L2.St) (ρ : SEnv) : Prop where
 len : ρ.length ≤ σ.length
 wf0 : WF H0 O0
 ext : Ext H0 H
 own : ∀ (i : Nat) (s : Slot), ρ[i]? = some s → s.isOwn = true → ∃ a, σ[i]? = some (some (.ref a)) ∧ H0 a = none ∧ SRep K H (OwnH O0 σ [] ρ) a s
 inj : ∀ (i j : Nat) (s t : Slot) (a : Addr), ρ[i]? = some s → s.isOwn = true → ρ[j]? = some t → t.isOwn = true → σ[i]? = some (some (.ref a)) → σ[j]? = some (some (.ref a)) → i = j
 sh : ∀ (i : Nat) (v : Val), ρ[i]? = some (.sh v) → ∃ x, σ[i]? = some (some x) ∧ Rep K H (OwnH O0 σ [] ρ) v x
section
variable {K : PySem.W.Frag} {H0 H H' : Hp} {O0 O O' : Hid} {σ : L2.St} {ρ : SEnv} {m : List Nat} {a : Addr} {s : Slot}
theorem SRep.some (h : SRep K H O a s) : ∃ o, H a = some o ∧ MutO o := by
 cases s with
 | no => exact h.elim
 | sh v => exact h.elim
 | ow vs => obtain ⟨xs, h, _⟩ := h; exact ⟨_, h, True.intro⟩
 | od t ks vs =>
  cases t <;> obtain ⟨kvs, h, _⟩ := h
  ·exact ⟨_, h, True.intro⟩
  ·exact ⟨_, h, _, _, _, rfl⟩
theorem SRep.keep (w : WF H O) (k : Keep H O H' O') (ha : ∀ o, H a = Option.some o → NT o → H' a = Option.some o) (h : SRep K H O a s) : SRep K H' O' a s := by
 cases s with
 | no => exact h.elim
 | sh v => exact h.elim
 | ow vs => obtain ⟨xs, h, r⟩ := h; exact ⟨xs, ha _ h True.intro, Reps.keep w k r⟩
 | od t ks vs =>
  cases t
  ·obtain ⟨kvs, h, e, nd, r⟩ := h; exact ⟨kvs, ha _ h True.intro, e, nd, Reps.keep w k r⟩
  ·obtain ⟨kvs, h, e, nd, g, r⟩ := h; exact ⟨kvs, ha _ h True.intro, e, nd, Reps.keep w k g, Reps.keep w k r⟩
theorem SRep.rep (n : ¬ O a) (h : SRep K H O a s) : ∃ v, s.val = Option.some v ∧ Rep K H O v (.ref a) := by
 cases s with
 | no => exact h.elim
 | sh v => exact h.elim
 | ow vs => obtain ⟨xs, h, r⟩ := h; exact ⟨_, rfl, by simp only [Rep]; exact ⟨a, xs, rfl, n, h, r⟩⟩
 | od t ks vs =>
  cases t with
  | false => obtain ⟨kvs, h, e, nd, r⟩ := h; exact ⟨_, rfl, by simp only [Rep]; exact ⟨a, kvs, rfl, n, .inl h, e, nd, r⟩⟩
  | true => obtain ⟨kvs, h, e, nd, g, r⟩ := h; exact ⟨_, rfl, by simp only [Rep]; exact ⟨a, kvs, rfl, n, h, e, nd, g, r⟩⟩
theorem SOk.wf (h : SOk K H0 O0 H σ ρ) (m : List Nat) : WF H (OwnH O0 σ m ρ) := by
 refine ⟨fun a ha => ?_, (h.wf0.ext h.ext).tabs⟩
 rcases ha with ha | ⟨i, s, h1, h2, _, h3⟩
 ·exact (h.wf0.ext h.ext) a ha
 ·obtain ⟨b, e, _, r⟩ := h.own i s h1 h2
  rw [h3] at e; cases e
  exact r.some
theorem OwnH.mono {a : Addr} (h : OwnH O0 σ m ρ a) : OwnH O0 σ [] ρ a := h.elim .inl (fun ⟨i, s, h1, h2, _, h3⟩ => .inr ⟨i, s, h1, h2, by simp, h3⟩)
theorem own_keep : Keep H (OwnH O0 σ [] ρ) H (OwnH O0 σ m ρ) := ⟨fun _ _ h _ _ => h, fun _ _ h => h, id, fun _ h => .inl h.mono⟩
theorem SOk.extend (h : SOk K H0 O0 H σ ρ) (e : Ext H H') : SOk K H0 O0 H' σ ρ :=
 ⟨h.len, h.wf0, h.ext.trans e, fun i s h1 h2 => let ⟨a, h3, h4, h5⟩ := h.own i s h1 h2; ⟨a, h3, h4, h5.keep (h.wf []) e.keep (fun o h n => e.vis a o h n)⟩, h.inj, fun i v h1 => let ⟨x, h2, h3⟩ := h.sh i v h1; ⟨x, h2, h3.ext (h.wf []) e⟩⟩
theorem visG_get : ∀ {ρ : SEnv} {k i : Nat}, (visG m k ρ)[i]? = (ρ[i]?).map fun s => if s.isOwn && !m.contains (k + i) then none else s.val
 | [], k, i => by simp [visG]
 | s :: r, k, 0 => by simp [visG]
 | s :: r, k, i + 1 => by
  simp only [visG, List.getElem?_cons_succ]
  rw [visG_get, show k + 1 + i = k + (i + 1) by omega]
theorem visG_len : ∀ {ρ : SEnv} {k : Nat}, (visG m k ρ).length = ρ.length
 | [], _ => rfl
 | _ :: r, k => by simp only [visG, List.length_cons, visG_len]
theorem SOk.own_vis (h : SOk K H0 O0 H σ ρ) {i : Nat} {s : Slot} {a : Addr} (h1 : ρ[i]? = some s) (h2 : s.isOwn = true) (h3 : σ[i]? = some (some (.ref a))) (hn : H0 a = none) (him : i ∈ m) : ¬ OwnH O0 σ m ρ a := fun z => by
 rcases z with z | ⟨j, t, e1, e2, e3, e4⟩
 ·obtain ⟨o, e, _⟩ := h.wf0 a z
  rw [hn] at e; cases e
 ·have := h.inj i j s t a h1 h2 e1 e2 h3 e4
  subst this
  exact e3 him
theorem SOk.eok (h : SOk K H0 O0 H σ ρ) (m : List Nat) : EOk K H (OwnH O0 σ m ρ) σ (vis m ρ) := by
 refine ⟨by rw [visG_len]; exact h.len, fun i v e => ?_⟩
 rw [visG_get, Nat.zero_add] at e
 cases hs : ρ[i]? with
 | none => rw [hs] at e; cases e
 | some s =>
  rw [hs] at e
  simp only [Option.map_some, Option.some.injEq] at e
  split at e
  ·cases e
  ·rename_i hc
   by_cases ho : s.isOwn = true
   ·have him : i ∈ m := by
     simp only [ho, Bool.true_and, Bool.not_eq_true', Bool.not_eq_false, List.contains_iff_mem] at hc
     simpa using hc
    obtain ⟨a, h3, h4, h5⟩ := h.own i s hs ho
    obtain ⟨v', e', r⟩ := (h5.keep (h.wf []) own_keep (fun o q _ => q) : SRep K H (OwnH O0 σ m ρ) a s).rep (h.own_vis hs ho h3 h4 him)
    rw [e] at e'; cases e'
    exact ⟨_, h3, r⟩
   ·cases s with
    | sh u =>
     cases e
     obtain ⟨x, h2, h3⟩ := h.sh i _ hs
     exact ⟨x, h2, Rep.keep (h.wf []) own_keep h3⟩
    | no => cases e
    | ow => exact absurd rfl ho
    | od => exact absurd rfl ho
theorem frz1_get {i j : Nat} : (frz1 i ρ)[j]? = if i = j then (ρ[j]?).map (fun s => match s with | .ow vs => .sh (.lst vs) | .od t ks vs => .sh (.dic t ks vs) | s => s) else ρ[j]? := by
 unfold frz1
 by_cases hij : i = j
 ·subst hij
  rw [if_pos rfl]
  split
  ·rename_i vs h
   rw [List.getElem?_set_self (List.getElem?_eq_some_iff.mp h).1, h]; rfl
  ·rename_i t ks vs h
   rw [List.getElem?_set_self (List.getElem?_eq_some_iff.mp h).1, h]; rfl
  ·rename_i h1 h2
   cases hs : ρ[i]? with
   | none => rfl
   | some s =>
    cases s with
    | ow vs => exact absurd hs (h1 vs)
    | od t ks vs => exact absurd hs (h2 t ks vs)
    | _ => rfl
 ·rw [if_neg hij]
  split
  ·rw [List.getElem?_set_ne hij]
  ·rw [List.getElem?_set_ne hij]
  ·rfl
theorem frz1_len {i : Nat} : (frz1 i ρ).length = ρ.length := by
 unfold frz1; split <;> simp
theorem frz1_own {i j : Nat} {s : Slot} (h : (frz1 i ρ)[j]? = some s) (ho : s.isOwn = true) : ρ[j]? = some s ∧ j ≠ i := by
 rw [frz1_get] at h
 split at h
 ·rename_i e
  subst e
  cases hs : ρ[i]? with
  | none => rw [hs] at h; cases h
  | some t =>
   rw [hs] at h
   cases t <;> simp at h <;> subst h <;> cases ho
 ·rename_i e
  exact ⟨h, fun z => e z.symm⟩
theorem frz1_hid {i : Nat} {a : Addr} (h : OwnH O0 σ m (frz1 i ρ) a) : OwnH O0 σ (i :: m) ρ a := by
 rcases h with h | ⟨j, s, h1, h2, h3, h4⟩
 ·exact .inl h
 ·obtain ⟨e1, e2⟩ := frz1_own h1 h2
  exact .inr ⟨j, s, e1, h2, by simp [h3, e2], h4⟩
theorem SOk.frz1 (h : SOk K H0 O0 H σ ρ) (i : Nat) : SOk K H0 O0 H σ (VM.frz1 i ρ) := by
 have k1 : Keep H (OwnH O0 σ [] ρ) H (OwnH O0 σ [] (VM.frz1 i ρ)) := ⟨fun _ _ h _ _ => h, fun _ _ h => h, id, fun a ha => .inl (frz1_hid ha).mono⟩
 refine ⟨by rw [frz1_len]; exact h.len, h.wf0, h.ext, fun j s h1 h2 => ?_, fun j k s t a h1 h2 h3 h4 h5 h6 => ?_, fun j v h1 => ?_⟩
 ·obtain ⟨e1, e2⟩ := frz1_own h1 h2
  obtain ⟨a, h3, h4, h5⟩ := h.own j s e1 h2
  exact ⟨a, h3, h4, h5.keep (h.wf []) k1 (fun o q _ => q)⟩
 ·exact h.inj j k s t a (frz1_own h1 h2).1 h2 (frz1_own h3 h4).1 h4 h5 h6
 ·rw [frz1_get] at h1
  split at h1
  ·rename_i e
   subst e
   cases hs : ρ[i]? with
   | none => rw [hs] at h1; cases h1
   | some t =>
    rw [hs] at h1
    have go : t.isOwn = true → t.val = some v → ∃ x, σ[i]? = some (some x) ∧ Rep K H (OwnH O0 σ [] (VM.frz1 i ρ)) v x := fun ho hv => by
     obtain ⟨a, h3, h4, h5⟩ := h.own i t hs ho
     have n : ¬ OwnH O0 σ [] (VM.frz1 i ρ) a := fun z => h.own_vis (m := [i]) hs ho h3 h4 (by simp) (frz1_hid z)
     obtain ⟨u, e, r⟩ := (h5.keep (h.wf []) k1 (fun o q _ => q) : SRep K H (OwnH O0 σ [] (VM.frz1 i ρ)) a t).rep n
     rw [hv] at e; cases e
     exact ⟨_, h3, r⟩
    cases t with
    | no => cases h1
    | sh u =>
     simp at h1; subst h1
     obtain ⟨x, h2, h3⟩ := h.sh i _ hs
     exact ⟨x, h2, Rep.keep (h.wf []) k1 h3⟩
    | ow vs => simp at h1; subst h1; exact go rfl rfl
    | od t ks vs => simp at h1; subst h1; exact go rfl rfl
  ·obtain ⟨x, h2, h3⟩ := h.sh j v h1
   exact ⟨x, h2, Rep.keep (h.wf []) k1 h3⟩
theorem frzs_hid : ∀ {l : List Nat} {ρ : SEnv} {m : List Nat} {a : Addr}, OwnH O0 σ m (frzs l ρ) a → OwnH O0 σ (l ++ m) ρ a
 | [], _, _, _, h => h
 | i :: l, ρ, m, a, h => by
  have h1 := frz1_hid (frzs_hid (ρ := VM.frz1 i ρ) h)
  rcases h1 with h1 | ⟨j, s, e1, e2, e3, e4⟩
  ·exact .inl h1
  ·exact .inr ⟨j, s, e1, e2, by simpa using e3, e4⟩
theorem SOk.frzs : ∀ (l : List Nat) {ρ : SEnv}, SOk K H0 O0 H σ ρ → SOk K H0 O0 H σ (VM.frzs l ρ)
 | [], _, h => h
 | i :: l, _, h => SOk.frzs l (h.frz1 i)
theorem frzs_len : ∀ {l : List Nat} {ρ : SEnv}, (VM.frzs l ρ).length = ρ.length
 | [], _ => rfl
 | i :: l, ρ => by show (VM.frzs l (VM.frz1 i ρ)).length = _; rw [frzs_len, frz1_len]
theorem SOk.kept (h : SOk K H0 O0 H σ ρ) (m : List Nat) (fl : Bool) : SOk K H0 O0 H σ (VM.kept m fl ρ) := by
 unfold VM.kept
 split
 ·exact h
 ·split
  ·exact h
  ·exact h.frzs _
theorem kept_hid {fl : Bool} (hf : fl = false) (h : OwnH O0 σ [] (VM.kept m fl ρ) a) : OwnH O0 σ m ρ a := by
 subst hf
 unfold VM.kept at h
 split at h
 ·exact h
 ·simp only [Bool.false_eq_true, if_false] at h
  have := frzs_hid h
  rwa [List.append_nil] at this
theorem kept_sub {fl : Bool} (h : OwnH O0 σ [] (VM.kept m fl ρ) a) : OwnH O0 σ [] ρ a := by
 unfold VM.kept at h
 split at h
 ·exact h
 ·split at h
  ·exact h
  ·exact (frzs_hid h).mono
theorem kept_keep {fl : Bool} : Keep H (OwnH O0 σ [] ρ) H (OwnH O0 σ [] (VM.kept m fl ρ)) := ⟨fun _ _ h _ _ => h, fun _ _ h => h, id, fun _ h => .inl (kept_sub h)⟩
theorem kept_rep {fl : Bool} {v : Val} {x : V} (w : WF H (OwnH O0 σ m ρ)) (hf : fl = true → flat v = true) (r : Rep K H (OwnH O0 σ m ρ) v x) : Rep K H (OwnH O0 σ [] (VM.kept m fl ρ)) v x := by
 cases fl with
 | true => exact Rep.flat (hf rfl) r
 | false => exact Rep.keep w ⟨fun _ _ h _ _ => h, fun _ _ h => h, id, fun _ h => .inl (kept_hid rfl h)⟩ r
theorem kept_reps {fl : Bool} {v : List Val} {x : List V} (w : WF H (OwnH O0 σ m ρ)) (hf : fl = true → flats v = true) (r : Reps K H (OwnH O0 σ m ρ) v x) : Reps K H (OwnH O0 σ [] (VM.kept m fl ρ)) v x := by
 cases fl with
 | true => exact Reps.flat (hf rfl) r
 | false => exact Reps.keep w ⟨fun _ _ h _ _ => h, fun _ _ h => h, id, fun _ h => .inl (kept_hid rfl h)⟩ r
theorem own_set_sh {i : Nat} {v : Val} {x : V} {a : Addr} (h : OwnH O0 (σ.set i (some x)) [] (ρ.set i (.sh v)) a) : OwnH O0 σ [] ρ a := by
 rcases h with h | ⟨j, s, h1, h2, _, h4⟩
 ·exact .inl h
 ·by_cases hij : i = j
  ·subst hij
   by_cases hl : i < ρ.length
   ·rw [List.getElem?_set_self hl] at h1; cases h1; cases h2
   ·rw [List.getElem?_eq_none (by simpa using hl)] at h1; cases h1
  ·rw [List.getElem?_set_ne hij] at h1 h4
   exact .inr ⟨j, s, h1, h2, by simp, h4⟩
theorem SOk.set_sh (h : SOk K H0 O0 H σ ρ) {i : Nat} {v : Val} {x : V} (r : Rep K H (OwnH O0 σ [] ρ) v x) : SOk K H0 O0 H (σ.set i (some x)) (ρ.set i (.sh v)) := by
 have k1 : Keep H (OwnH O0 σ [] ρ) H (OwnH O0 (σ.set i (some x)) [] (ρ.set i (.sh v))) := ⟨fun _ _ h _ _ => h, fun _ _ h => h, id, fun a ha => .inl (own_set_sh ha)⟩
 have neo : ∀ {j : Nat} {s : Slot}, (ρ.set i (.sh v))[j]? = some s → s.isOwn = true → i ≠ j ∧ ρ[j]? = some s := fun {j s} h1 h2 => by
  by_cases hij : i = j
  ·subst hij
   by_cases hl : i < ρ.length
   ·rw [List.getElem?_set_self hl] at h1; cases h1; cases h2
   ·rw [List.getElem?_eq_none (by simpa using hl)] at h1; cases h1
  ·rw [List.getElem?_set_ne hij] at h1; exact ⟨hij, h1⟩
 refine ⟨by simpa using h.len, h.wf0, h.ext, fun j s h1 h2 => ?_, fun j k s t a h1 h2 h3 h4 h5 h6 => ?_, fun j u h1 => ?_⟩
 ·obtain ⟨e1, e2⟩ := neo h1 h2
  obtain ⟨a, h3, h4, h5⟩ := h.own j s e2 h2
  exact ⟨a, by rw [List.getElem?_set_ne e1]; exact h3, h4, h5.keep (h.wf []) k1 (fun o q _ => q)⟩
 ·obtain ⟨e1, e2⟩ := neo h1 h2
  obtain ⟨e3, e4⟩ := neo h3 h4
  rw [List.getElem?_set_ne e1] at h5
  rw [List.getElem?_set_ne e3] at h6
  exact h.inj j k s t a e2 h2 e4 h4 h5 h6
 ·by_cases hij : i = j
  ·subst hij
   by_cases hl : i < ρ.length
   ·rw [List.getElem?_set_self hl] at h1; cases h1
    exact ⟨x, List.getElem?_set_self (Nat.lt_of_lt_of_le hl h.len), Rep.keep (h.wf []) k1 r⟩
   ·rw [List.getElem?_eq_none (by simpa using hl)] at h1; cases h1
  ·rw [List.getElem?_set_ne hij] at h1
   obtain ⟨y, h2, h3⟩ := h.sh j u h1
   exact ⟨y, by rw [List.getElem?_set_ne hij]; exact h2, Rep.keep (h.wf []) k1 h3⟩
theorem SOk.sets : ∀ {bs : List (Nat × Val)} {xs : List V} {σ : L2.St} {ρ : SEnv}, SOk K H0 O0 H σ ρ → Reps K H (OwnH O0 σ [] ρ) (bs.map (·.2)) xs →
  SOk K H0 O0 H (setsV σ (bs.map (·.1)) xs) (setsS ρ bs) ∧ Keep H (OwnH O0 σ [] ρ) H (OwnH O0 (setsV σ (bs.map (·.1)) xs) [] (setsS ρ bs))
 | [], _, _, _, h, _ => ⟨h, Keep.refl⟩
 | (i, v) :: bs, _, σ, ρ, h, r => by
  simp only [List.map_cons, Reps] at r
  obtain ⟨x, t, rfl, p, q⟩ := r
  have k1 : Keep H (OwnH O0 σ [] ρ) H (OwnH O0 (σ.set i (some x)) [] (ρ.set i (.sh v))) := ⟨fun _ _ h _ _ => h, fun _ _ h => h, id, fun a ha => .inl (own_set_sh ha)⟩
  obtain ⟨g1, g2⟩ := SOk.sets (h.set_sh (i := i) p) (Reps.keep (h.wf []) k1 q)
  exact ⟨g1, k1.trans g2⟩
theorem SOk.set_own (h : SOk K H0 O0 H σ ρ) {i : Nat} {s : Slot} {p : Addr} (hs : s.isOwn = true) (hp : H p = none) (h' : Hp) (e : Ext H h') (r : SRep K h' (fun a => OwnH O0 σ [] ρ a ∨ a = p) p s) (hl : i < ρ.length) :
  SOk K H0 O0 h' (σ.set i (some (.ref p))) (ρ.set i s) ∧ Keep H (OwnH O0 σ [] ρ) h' (OwnH O0 (σ.set i (some (.ref p))) [] (ρ.set i s)) := by
 have w := h.wf []
 have npO : ¬ OwnH O0 σ [] ρ p := w.new hp
 have hid : ∀ a, OwnH O0 (σ.set i (some (.ref p))) [] (ρ.set i s) a → OwnH O0 σ [] ρ a ∨ a = p := fun a ha => by
  rcases ha with ha | ⟨j, t, h1, h2, _, h4⟩
  ·exact .inl (.inl ha)
  ·by_cases hij : i = j
   ·subst hij
    rw [List.getElem?_set_self (Nat.lt_of_lt_of_le hl h.len)] at h4
    cases h4; exact .inr rfl
   ·rw [List.getElem?_set_ne hij] at h1 h4
    exact .inl (.inr ⟨j, t, h1, h2, by simp, h4⟩)
 have k1 : Keep H (OwnH O0 σ [] ρ) h' (OwnH O0 (σ.set i (some (.ref p))) [] (ρ.set i s)) := ⟨fun a o ha _ nt => e.vis a o ha nt, fun a _ h => e.dom a h, e.tabs, fun a ha => (hid a ha).elim .inl (fun q => .inr (q ▸ hp))⟩
 have w' : WF h' (fun a => OwnH O0 σ [] ρ a ∨ a = p) := by
  refine ⟨fun a ha => ?_, WF.tabs ((w.ext e))⟩
  rcases ha with ha | rfl
  ·exact ((w.ext e)) a ha
  ·exact r.some
 have k2 : Keep h' (fun a => OwnH O0 σ [] ρ a ∨ a = p) h' (OwnH O0 (σ.set i (some (.ref p))) [] (ρ.set i s)) := ⟨fun _ _ h _ _ => h, fun _ _ h => h, id, fun a ha => .inl (hid a ha)⟩
 refine ⟨⟨by simpa using h.len, h.wf0, h.ext.trans e, fun j t h1 h2 => ?_, fun j k t u a h1 h2 h3 h4 h5 h6 => ?_, fun j u h1 => ?_⟩, k1⟩
 ·by_cases hij : i = j
  ·subst hij
   rw [List.getElem?_set_self hl] at h1; cases h1
   refine ⟨p, List.getElem?_set_self (Nat.lt_of_lt_of_le hl h.len), ?_, r.keep w' k2 (fun o q _ => q)⟩
   exact h.ext.dom p hp
  ·rw [List.getElem?_set_ne hij] at h1
   obtain ⟨a, h3, h4, h5⟩ := h.own j t h1 h2
   exact ⟨a, by rw [List.getElem?_set_ne hij]; exact h3, h4, h5.keep w k1 (fun o q n => e.vis a o q n)⟩
 ·by_cases hij : i = j
  ·subst hij
   rw [List.getElem?_set_self (Nat.lt_of_lt_of_le hl h.len)] at h5
   cases h5
   by_cases hik : i = k
   ·exact hik
   ·rw [List.getElem?_set_ne hik] at h3 h6
    exact absurd (show OwnH O0 σ [] ρ p from .inr ⟨k, u, h3, h4, by simp, h6⟩) npO
  ·rw [List.getElem?_set_ne hij] at h1 h5
   by_cases hik : i = k
   ·subst hik
    rw [List.getElem?_set_self (Nat.lt_of_lt_of_le hl h.len)] at h6
    cases h6
    exact absurd (show OwnH O0 σ [] ρ p from .inr ⟨j, t, h1, h2, by simp, h5⟩) npO
   ·rw [List.getElem?_set_ne hik] at h3 h6
    exact h.inj j k t u a h1 h2 h3 h4 h5 h6
 ·by_cases hij : i = j
  ·subst hij
   rw [List.getElem?_set_self hl] at h1; cases h1; cases hs
  ·rw [List.getElem?_set_ne hij] at h1
   obtain ⟨y, h2, h3⟩ := h.sh j u h1
   exact ⟨y, by rw [List.getElem?_set_ne hij]; exact h2, Rep.keep w k1 h3⟩
theorem SOk.change (h : SOk K H0 O0 H σ ρ) {i : Nat} {s t : Slot} {a : Addr} {o : HO} (hs : ρ[i]? = some s) (ho : s.isOwn = true) (hσ : σ[i]? = some (some (.ref a))) (ht : t.isOwn = true)
  (r : SRep K (upd H a o) (OwnH O0 σ [] ρ) a t) : SOk K H0 O0 (upd H a o) σ (ρ.set i t) ∧ Keep H (OwnH O0 σ [] ρ) (upd H a o) (OwnH O0 σ [] (ρ.set i t)) := by
 have hl : i < ρ.length := (List.getElem?_eq_some_iff.mp hs).1
 obtain ⟨b, e1, hn, r0⟩ := h.own i s hs ho
 rw [hσ] at e1; cases e1
 have hO : OwnH O0 σ [] ρ a := .inr ⟨i, s, hs, ho, by simp, hσ⟩
 have hid : ∀ c, OwnH O0 σ [] (ρ.set i t) c ↔ OwnH O0 σ [] ρ c := fun c => by
  constructor
  ·rintro (hc | ⟨j, u, h1, h2, _, h4⟩)
   ·exact .inl hc
   ·by_cases hij : i = j
    ·subst hij; rw [hσ] at h4; cases h4; exact hO
    ·rw [List.getElem?_set_ne hij] at h1; exact .inr ⟨j, u, h1, h2, by simp, h4⟩
  ·rintro (hc | ⟨j, u, h1, h2, _, h4⟩)
   ·exact .inl hc
   ·by_cases hij : i = j
    ·subst hij; exact .inr ⟨i, t, List.getElem?_set_self hl, ht, by simp, h4⟩
    ·exact .inr ⟨j, u, by rw [List.getElem?_set_ne hij]; exact h1, h2, by simp, h4⟩
 have w := h.wf []
 have k1 : Keep H (OwnH O0 σ [] ρ) (upd H a o) (OwnH O0 σ [] (ρ.set i t)) := ⟨fun c u hc nc _ => by rw [upd_ne (show c ≠ a from fun z => nc (by rw [z]; exact hO))]; exact hc, fun c _ h => upd_nn h, fun t => (let ⟨_, h1, h2⟩ := w a hO; Tabs.upd t h1 h2.ne), fun c hc => .inl ((hid c).mp hc)⟩
 have k2 : Keep (upd H a o) (OwnH O0 σ [] ρ) (upd H a o) (OwnH O0 σ [] (ρ.set i t)) := ⟨fun _ _ h _ _ => h, fun _ _ h => h, id, fun c hc => .inl ((hid c).mp hc)⟩
 have w2 : WF (upd H a o) (OwnH O0 σ [] ρ) := by
  refine ⟨fun c hc => ?_, k1.tabs w.tabs⟩
  by_cases e : c = a
  ·subst e; exact r.some
  ·rw [upd_ne e]; exact w c hc
 refine ⟨⟨by simpa using h.len, h.wf0, (let ⟨_, h1, h2⟩ := w a hO; h.ext.wr hn h1 h2.ne), fun j u h1 h2 => ?_, fun j k u v c h1 h2 h3 h4 h5 h6 => ?_, fun j u h1 => ?_⟩, k1⟩
 ·by_cases hij : i = j
  ·subst hij
   rw [List.getElem?_set_self hl] at h1; cases h1
   exact ⟨a, hσ, hn, r.keep w2 k2 (fun o q _ => q)⟩
  ·rw [List.getElem?_set_ne hij] at h1
   obtain ⟨c, h3, h4, h5⟩ := h.own j u h1 h2
   refine ⟨c, h3, h4, h5.keep w k1 (fun o' q _ => ?_)⟩
   rw [upd_ne]; exact q
   intro z
   subst z
   exact hij (h.inj i j s u c hs ho h1 h2 hσ h3)
 ·have e1 : ∃ u', ρ[j]? = some u' ∧ u'.isOwn = true := by
   by_cases hij : i = j
   ·subst hij; exact ⟨s, hs, ho⟩
   ·rw [List.getElem?_set_ne hij] at h1; exact ⟨u, h1, h2⟩
  have e2 : ∃ u', ρ[k]? = some u' ∧ u'.isOwn = true := by
   by_cases hik : i = k
   ·subst hik; exact ⟨s, hs, ho⟩
   ·rw [List.getElem?_set_ne hik] at h3; exact ⟨v, h3, h4⟩
  obtain ⟨u1, a1, a2⟩ := e1
  obtain ⟨u2, b1, b2⟩ := e2
  exact h.inj j k u1 u2 c a1 a2 b1 b2 h5 h6
 ·by_cases hij : i = j
  ·subst hij
   rw [List.getElem?_set_self hl] at h1; cases h1; cases ht
  ·rw [List.getElem?_set_ne hij] at h1
   obtain ⟨y, h2, h3⟩ := h.sh j u h1
   exact ⟨y, h2, Rep.keep w k1 h3⟩
end
end VM
namespace VM
open PySem PySem.Spec PyProof.Rows L2
variable [Tbl]
def Fin (fr : Bool) (K : PySem.W.Frag) (H0 : Hp) (O0 : Hid) (σ : L2.St) (ρ : SEnv) (H : Hp) (q : Fl × SEnv) (D : Ends) : Prop := match q with
 | (.nx, ρ') => ∀ σ' H', SOk K H0 O0 H' σ' ρ' → Keep H (OwnH O0 σ [] ρ) H' (OwnH O0 σ' [] ρ') → D.nx σ' H'
 | (.rt v, _) => match fr with
  | false => ∀ x H', Ext H0 H' → Rep K H' O0 v x → D.rt x H'
  | true => ∃ vs, v = .lst vs ∧ ∀ p H' ys, H0 p = none → Ext H0 H' → H' p = some (.lst ys) → Reps K H' (fun a => O0 a ∨ a = p) vs ys → D.rt (.ref p) H'
def tS (fr : Bool) (K : PySem.W.Frag) (T : Tab) (s : SS) : TS := fun D σ H => ∃ H0 O0 ρ q, SOk K H0 O0 H σ ρ ∧ ex T s ρ = .ok q ∧ Fin fr K H0 O0 σ ρ H q D
def tB (fr : Bool) (K : PySem.W.Frag) (T : Tab) (s : SB) : TS := fun D σ H => ∃ H0 O0 ρ q, SOk K H0 O0 H σ ρ ∧ exs T s ρ = .ok q ∧ Fin fr K H0 O0 σ ρ H q D
section
variable {fr : Bool} {X : Cx} {n : Nat} {M : Nm} {T : Tab} {N : List Str} {e : Expr} {s : SE} {pos : Pos}
theorem Fin.keep {K : PySem.W.Frag} {H0 H H1 : Hp} {O0 : Hid} {σ σ1 : L2.St} {ρ ρ1 : SEnv} {q : Fl × SEnv} {D : Ends} (f : Fin fr K H0 O0 σ ρ H q D) (k : Keep H (OwnH O0 σ [] ρ) H1 (OwnH O0 σ1 [] ρ1)) : Fin fr K H0 O0 σ1 ρ1 H1 q D := by
 obtain ⟨fl, ρ'⟩ := q
 cases fl with
 | nx => exact fun σ' H' h k' => f σ' H' h (k.trans k')
 | rt v => exact f
theorem sB_nil : PSs X [] (tB fr X.K T .nil) := PSs.imp pss_nil (fun D σ H ⟨H0, O0, ρ, q, so, h, f⟩ => by
 simp only [exs] at h; cases h
 exact f σ H so Keep.refl)
theorem sB_seq {st : Stmt} {rest : List Stmt} {a : SS} {b : SB} (h1 : PS X st (tS fr X.K T a)) (h2 : PSs X rest (tB fr X.K T b)) : PSs X (st :: rest) (tB fr X.K T (.cons a b)) :=
 PSs.imp (pss_cons h1 h2) (fun D σ H ⟨H0, O0, ρ, q, so, h, f⟩ => by
  simp only [exs] at h
  obtain ⟨⟨fl, ρ1⟩, h1, h⟩ := bok h
  cases fl with
  | nx =>
   simp only at h
   exact ⟨H0, O0, ρ, (.nx, ρ1), so, h1, fun σ1 H1 so1 k1 => ⟨H0, O0, ρ1, q, so1, h, f.keep k1⟩⟩
  | rt v =>
   simp only at h
   cases h
   exact ⟨H0, O0, ρ, (.rt v, ρ1), so, h1, f⟩)
theorem seeE {K : PySem.W.Frag} {H0 H : Hp} {O0 : Hid} {σ : L2.St} {ρ : SEnv} {v : Val} {m : List Nat} {Q : VK} (so : SOk K H0 O0 H σ ρ) (h : ev T s (vis m ρ) = .ok v)
  (q : ∀ x H1, Ext H H1 → SOk K H0 O0 H1 σ ρ → Rep K H1 (OwnH O0 σ m ρ) v x → Q x H1) : tE K T s σ H Q :=
 ⟨OwnH O0 σ m ρ, vis m ρ, v, so.wf m, so.eok m, h, fun x H1 e1 r => q x H1 e1 (so.extend e1) r⟩
theorem seeT {K : PySem.W.Frag} {H0 H : Hp} {O0 : Hid} {σ : L2.St} {ρ : SEnv} {b : Bool} {m : List Nat} {Q : Bool → Hp → Prop} (so : SOk K H0 O0 H σ ρ) (h : ev T s (vis m ρ) = .ok (.bl b))
  (q : ∀ H1, Ext H H1 → SOk K H0 O0 H1 σ ρ → Q b H1) : tT K T s σ H Q :=
 ⟨OwnH O0 σ m ρ, vis m ρ, b, so.wf m, so.eok m, h, fun H1 e1 => q H1 e1 (so.extend e1)⟩
theorem ext_own {K : PySem.W.Frag} {H0 H H1 : Hp} {O0 : Hid} {σ : L2.St} {ρ : SEnv} {m : List Nat} {fl : Bool} (e : Ext H H1) : Keep H (OwnH O0 σ [] ρ) H1 (OwnH O0 σ [] (kept m fl ρ)) :=
 e.keep.trans kept_keep
theorem sS_asg_core {m : List Nat} {tg : Tg} : ∀ D σ H, tS fr X.K T (.asg m tg s) D σ H → tAsg (tE X.K T s) (gR X.K tg) D σ H := fun D σ H ⟨H0, O0, ρ, q, so, h, f⟩ => by
 simp only [ex] at h
 obtain ⟨v, h1, h⟩ := bok h
 obtain ⟨ρ1, h2, h⟩ := bok h
 cases h
 simp only [bindS] at h2
 obtain ⟨bs, h3, h2⟩ := bok h2
 cases h2
 refine seeE so h1 (fun x H1 e1 so1 r => ?_)
 have so2 := so1.kept m (flat v)
 have r2 := kept_rep (fl := flat v) (so1.wf m) (fun h => h) r
 refine ⟨_, v, bs, so2.wf [], r2, h3, fun xs hx => ?_⟩
 obtain ⟨so3, k3⟩ := so2.sets hx
 exact f _ _ so3 ((ext_own (K := X.K) (H0 := H0) e1).trans k3)
def noComp : Expr → Bool
 | .ListComp _ _ _ _ => false
 | .SetComp _ _ _ _ => false
 | .DictComp _ _ _ _ _ => false
 | _ => true
theorem noComp_sw {t : Option Expr} {l : Nat} {env : Env} (h : noComp e = true) : swapsWith e t l env = pure false := by
 cases e <;> first | rfl | cases h
def swB (sc : Scope) (x : Str) (px : Pos) (v : Expr) : Bool := match v with
 | .ListComp _ _ scope p => (match sc.names.lookup x with | some .local => true | _ => false) && (px.line == p.line) && !(scope.names.any fun (n, k) => n == x && (k == .local || k == .cell))
 | _ => false
theorem kind_block {env : Env} (h : env.scope.kind = .function) : env.blockKind = .function := by unfold Env.blockKind; rw [h]; rfl
theorem swB_false {x : Str} {px : Pos} {l : Nat} (hk : X.env.scope.kind = .function) (h : swB X.env.scope x px e = false) (hn : noComp e = true ∨ ∃ a b c d, e = .ListComp a b c d) : swapsWith e (some (.Name x px)) l X.env = pure false := by
 rcases hn with hn | ⟨a, b, c, d, rfl⟩
 ·exact noComp_sw hn
 ·unfold swB at h
  have hb := kind_block hk
  unfold swapsWith
  simp only [hb, Expr.pos]
  have e2 : (X.env.kindOf x == some NameKind.local) = (match X.env.scope.names.lookup x with | some .local => true | _ => false) := by
   show (X.env.scope.names.lookup x == some NameKind.local) = _
   cases X.env.scope.names.lookup x with
   | none => rfl
   | some k => cases k <;> rfl
  rw [e2]
  show pure (_ && _ && _ && _) = pure false
  congr 1
theorem tE.mono {K : PySem.W.Frag} {σ : L2.St} {H : Hp} {Q Q' : VK} (h : tE K T s σ H Q) (i : ∀ x H1, Q x H1 → Q' x H1) : tE K T s σ H Q' := by
 obtain ⟨O, ρ, v, w, eo, h1, q⟩ := h
 exact ⟨O, ρ, v, w, eo, h1, fun x H' e r => i _ _ (q x H' e r)⟩
theorem gR_nm {K : PySem.W.Frag} {i : Nat} {x : V} {σ : L2.St} {H : Hp} {Q : L2.St → Hp → Prop} (h : gR K (.nm i) x σ H Q) : Q (σ.set i (some x)) H := by
 obtain ⟨O, u, bs, w, r, hf, q⟩ := h
 simp only [flatT] at hf
 cases hf
 exact q [x] (Reps.cons r Reps.nil)
theorem sS_set {m : List Nat} {i : Nat} {x : Str} {px : Pos} (cx : Ctx X n M T N) (hk : X.env.scope.kind = .function) (hi : X.N[i]? = some x) (hx : Loc X.env.scope x) (hf : X.fn x = true ∨ X.env.scope.names.lookup x = some .local)
  (he : PE X e (tE X.K T s)) (hsw : swB X.env.scope x px e = false) (hn : noComp e = true ∨ ∃ a b c d, e = .ListComp a b c d) : PS X (.Assign [.Name x px] e pos) (tS fr X.K T (.asg m (.nm i) s)) :=
 PS.imp (ps_set cx.nd hi hx he (swB_false hk hsw hn) hf) (fun D σ H h => (sS_asg_core (X := X) (T := T) D σ H h).mono fun x H1 g => gR_nm g)
theorem sS_setLc {m : List Nat} {i : Nat} {x : Str} {px : Pos} {own : List Nat} {tg : Tg} {it : SI} {c : SO} {el : SE} {elt tgE iter : Expr} {ifs : List Expr} {scope : Scope} {p2 : Pos} (cx : Ctx X n M T N) (hk : X.env.scope.kind = .function) (hi : X.N[i]? = some x)
  (hnk : notKeys it = true) (hc : chkE M N (.comp own tg it c el) X.env.scope (.ListComp elt [⟨tgE, iter, ifs, 0⟩] scope p2) = true) (hsw : swB X.env.scope x px (.ListComp elt [⟨tgE, iter, ifs, 0⟩] scope p2) = true) :
  PS X (.Assign [.Name x px] (.ListComp elt [⟨tgE, iter, ifs, 0⟩] scope p2) pos) (tS fr X.K T (.asg m (.nm i) (.comp own tg it c el))) := by
 simp only [chkE, Bool.and_eq_true] at hc
 obtain ⟨⟨⟨⟨⟨⟨h1, h2⟩, h3⟩, h4⟩, h5⟩, h6⟩, h7⟩ := hc
 rw [notKeys_ok hnk, Bool.or_false] at h3
 have hb : BlkOk X.N X.env.scope scope (own.map fun i => (N.getD i "", i)) := by rw [cx.hN]; exact blkOk_by h1
 unfold swB at hsw
 simp only [Bool.and_eq_true, Bool.not_eq_true'] at hsw
 obtain ⟨⟨s1, s2⟩, s3⟩ := hsw
 have hl : X.env.scope.names.lookup x = some .local := by
  split at s1
  ·assumption
  ·cases s1
 have p := ps_setLc (i := i) (py := px) (spos := pos) (elt := elt) (pos := p2) (scope := scope) cx.calm cx.nd hi hl (sw_true hk hl s2 s3) (sndI it cx h3) hb (g := gR X.K tg) (tt := tCo X.K T c) (te := tE X.K T el)
  (fun s H C cl fp => sndG (N := N) tg (X := X.blk s H scope (compEnvC scope cl C X.env) fp) cx.hN cx.nd cx.calm (fun y hy => hy) h5)
  (fun s H C cl fp => sndC c (cx.blk s H scope cl C fp) h6)
  (fun s H C cl fp => (sndE el (cx.blk s H scope cl C fp) h7).1)
  (noSet_fold h4)
 rw [own_snd] at p
 refine PS.imp p (fun D σ H h => ?_)
 have h := sS_asg_core (X := X) (T := T) D σ H h
 exact tE_comp (fun i hi => by simpa using List.all_eq_true.mp h2 i hi) σ H _ (tE.mono h fun x H1 g => gR_nm g)
theorem sS_tup {m : List Nat} {ts : Tgs} {es : List Expr} {k : Nat} {pt : Pos} (he : PE X e (tE X.K T s)) (hg : PG X (.Tuple es k pt) (gR X.K (.tp ts))) (hw : swappedStores [.Tuple es k pt] e X.env = pure none) :
  PS X (.Assign [.Tuple es k pt] e pos) (tS fr X.K T (.asg m (.tp ts) s)) := by
 refine PS.imp (ps_asg he hg ?_ hw rfl) (sS_asg_core (X := X) (T := T))
 show swapsWith e (some (.Tuple es k pt)) pos.line X.env = pure false
 cases e <;> rfl
def swNames (sc : Scope) (ts : List Expr) : List Str :=
 ts.filterMap fun
  | .Name id pos => if (match sc.names.lookup id with | some .local => true | _ => false) && pos.line == (ts.head?.map (·.pos.line)).getD 0 then some id else none
  | _ => none
def swN (sc : Scope) (ts vs : List Expr) : Bool :=
 (!(ts.length == 2 || ts.length == 3) || vs.length != ts.length) || (vs.any fun | .Starred .. => true | _ => false) ||
  ((swNames sc ts).length != ts.length || (swNames sc ts).eraseDups.length != (swNames sc ts).length) || vs.all (foldedForSure 8)
theorem swNames_eq {env : Env} {ts : List Expr} : (ts.filterMap fun
  | .Name id pos => if env.kindOf id == some .local && pos.line == (ts.head?.map (·.pos.line)).getD 0 then some id else none
  | _ => none) = swNames env.scope ts := by
 unfold swNames
 congr 1
 funext e
 cases e <;> try rfl
 rename_i id p
 have e2 : (env.kindOf id == some NameKind.local) = (match env.scope.names.lookup id with | some .local => true | _ => false) := by
  show (env.scope.names.lookup id == some NameKind.local) = _
  cases env.scope.names.lookup id with
  | none => rfl
  | some k => cases k <;> rfl
 simp only [e2]
theorem sw_none {env : Env} {ts vs : List Expr} {k k2 : Nat} {p p2 : Pos} (hk : env.scope.kind = .function) (h : swN env.scope ts vs = true) : swappedStores [.Tuple ts k p] (.Tuple vs k2 p2) env = pure none := by
 have hb := kind_block hk
 unfold swappedStores
 simp only [hb, bne_self_eq_false, Bool.or_false, swNames_eq]
 unfold swN at h
 simp only [Bool.or_eq_true] at h
 split
 ·rfl
 ·rename_i n1
  split
  ·rfl
  ·rename_i n2
   split
   ·rfl
   ·rename_i n3
    have n3' : ¬ ((swNames env.scope ts).length != ts.length || (swNames env.scope ts).eraseDups.length != (swNames env.scope ts).length) = true := by rw [← swNames_eq]; exact n3
    split
    ·rfl
    ·rename_i n4
     rcases h with ((h | h) | h) | h
     ·exact absurd (by simpa using h) (by simpa using n1)
     ·exact absurd h n2
     ·exact absurd (by rw [Bool.or_eq_true]; exact h) n3'
     ·exact absurd h n4
def parB (sc : Scope) (x : Str) (px : Pos) (y : Str) (py : Pos) (a b : Expr) : Bool :=
 (match sc.names.lookup x with | some .local => true | _ => false) && (match sc.names.lookup y with | some .local => true | _ => false) && !(y == x) && (py.line == px.line) && nst a && nst b &&
  !(foldedForSure 8 a && foldedForSure 8 b) && !(constantsAlone 8 a && constantsAlone 8 b)
theorem isStar {a : Expr} (h : nst a = true) : (match (generalizing := false) a with | .Starred .. => true | _ => false) = false := by
 cases a <;> first | rfl | cases h
theorem sw_par {env : Env} {x y : Str} {px py p p2 : Pos} {a b : Expr} {k k2 : Nat} (hk : env.scope.kind = .function) (h : parB env.scope x px y py a b = true) :
  swappedStores [.Tuple [.Name x px, .Name y py] k p] (.Tuple [a, b] k2 p2) env = pure (some [x, y]) := by
 have hb := kind_block hk
 unfold parB at h
 simp only [Bool.and_eq_true, Bool.not_eq_true'] at h
 obtain ⟨⟨⟨⟨⟨⟨⟨h1, h2⟩, h3⟩, h4⟩, h5⟩, h6⟩, h7⟩, h8⟩ := h
 have l1 : env.kindOf x = some .local := by
  split at h1
  ·assumption
  ·cases h1
 have l2 : env.kindOf y = some .local := by
  split at h2
  ·assumption
  ·cases h2
 have s1 := isStar h5
 have s2 := isStar h6
 unfold swappedStores
 simp only [hb, bne_self_eq_false, Bool.or_false, List.length_cons, List.length_nil, List.any_cons, List.any_nil, s1, s2, List.head?_cons, Option.map_some, Option.getD_some, List.filterMap_cons, List.filterMap_nil, l1, l2, beq_self_eq_true, Bool.true_and, if_true,
  show (Expr.Name x px).pos = px from rfl, h4, List.all_cons, List.all_nil, Bool.and_true, h7, h8]
 have e1 : [x, y].eraseDups.length = 2 := by
  simp [List.eraseDups_cons, h3]
 simp [e1]
 intro hh
 rcases hh with hh | hh
 ·exact nomatch (show false = true from s1.symm.trans hh)
 ·exact nomatch (show false = true from s2.symm.trans hh)
theorem sS_par {m : List Nat} {i j : Nat} {x y : Str} {px py pt pt2 : Pos} {kt k2 : Nat} {a b : Expr} {sa sb : SE} (cx : Ctx X n M T N) (hk : X.env.scope.kind = .function) (hi : X.N[i]? = some x) (hj : X.N[j]? = some y) (hij : i ≠ j)
  (hp : parB X.env.scope x px y py a b = true) (ha : PE X a (tE X.K T sa)) (hb : PE X b (tE X.K T sb)) : PS X (.Assign [.Tuple [.Name x px, .Name y py] kt pt] (.Tuple [a, b] k2 pt2) pos) (tS fr X.K T (.par m i j sa sb)) := by
 have hp' := hp
 unfold parB at hp'
 simp only [Bool.and_eq_true] at hp'
 obtain ⟨⟨⟨⟨⟨⟨⟨h1, h2⟩, h3⟩, h4⟩, h5⟩, h6⟩, h7⟩, h8⟩ := hp'
 have l1 : X.env.scope.names.lookup x = some .local := by
  split at h1
  ·assumption
  ·cases h1
 have l2 : X.env.scope.names.lookup y = some .local := by
  split at h2
  ·assumption
  ·cases h2
 refine PS.imp (ps_par cx.calm cx.nd hi hj hij l1 l2 (sA_cons ha (sA_cons hb sA_nil h6) h5) (sw_par hk hp) rfl) (fun D σ H ⟨H0, O0, ρ, q, so, h, f⟩ => ?_)
 simp only [ex] at h
 obtain ⟨v, e1, h⟩ := bok h
 obtain ⟨w, e2, h⟩ := bok h
 cases h
 refine ⟨OwnH O0 σ m ρ, vis m ρ, [v, w], so.wf m, so.eok m, by simp only [evs, e1, e2]; rfl, fun xs H1 x1 r1 => ?_⟩
 obtain ⟨y1, y2, rfl, r, r'⟩ := reps2 r1
 refine ⟨y1, y2, rfl, ?_⟩
 have so1 := so.extend x1
 have so2 := so1.kept m (flat v && flat w)
 have ra := kept_rep (fl := flat v && flat w) (so1.wf m) (fun h => (Bool.and_eq_true_iff.mp h).1) r
 have rb := kept_rep (fl := flat v && flat w) (so1.wf m) (fun h => (Bool.and_eq_true_iff.mp h).2) r'
 obtain ⟨so3, k3⟩ := so2.sets (bs := [(i, v), (j, w)]) (xs := [y1, y2]) (Reps.cons ra (Reps.cons rb Reps.nil))
 exact f _ _ so3 ((ext_own (K := X.K) (H0 := H0) x1).trans k3)
theorem sS_ret {m : List Nat} (he : PE X e (tE X.K T s)) : PS X (.Return (some e) pos) (tS false X.K T (.ret m s)) :=
 PS.imp (ps_ret he) (fun D σ H ⟨H0, O0, ρ, q, so, h, f⟩ => by
  simp only [ex] at h
  obtain ⟨v, h1, h⟩ := bok h
  cases h
  exact seeE so h1 fun x H1 e1 so1 r => f x H1 so1.ext (Rep.keep (so1.wf m) ⟨fun _ _ h _ _ => h, fun _ _ h => h, id, fun _ h => .inl (.inl h)⟩ r))
theorem sS_expr {m : List Nat} (he : PE X e (tE X.K T s)) (hn : noComp e = true) : PS X (.Expr e pos) (tS fr X.K T (.expr m s)) :=
 PS.imp (ps_expr he (noComp_sw hn)) (fun D σ H ⟨H0, O0, ρ, q, so, h, f⟩ => by
  simp only [ex] at h
  obtain ⟨v, h1, h⟩ := bok h
  cases h
  exact seeE so h1 fun x H1 e1 so1 r => f σ H1 so1 e1.keep)
theorem sS_if {m : List Nat} {c : Expr} {a b : List Stmt} {sa sb : SB} (hc : PT X c (tT X.K T s)) (ha : PSs X a (tB fr X.K T sa)) (hb : PSs X b (tB fr X.K T sb)) : PS X (.If c a b pos) (tS fr X.K T (.iff m s sa sb)) :=
 PS.imp (ps_if hc ha hb) (fun D σ H ⟨H0, O0, ρ, q, so, h, f⟩ => by
  simp only [ex] at h
  obtain ⟨v, h1, h⟩ := bok h
  obtain ⟨k, h2, hK⟩ := bok h
  obtain rfl := tru_ok h2
  replace h := hK
  refine seeT so h1 fun H1 e1 so1 => ?_
  cases k with
  | true => simp only [if_true] at h ⊢; exact ⟨H0, O0, ρ, q, so1, h, f.keep e1.keep⟩
  | false => simp only [Bool.false_eq_true, if_false] at h ⊢; exact ⟨H0, O0, ρ, q, so1, h, f.keep e1.keep⟩)
theorem sS_raise {c : Nat} {st : Stmt} : PS X st (tS fr X.K T (.raise c)) :=
 PS.imp ps_never (fun D σ H ⟨H0, O0, ρ, q, so, h, f⟩ => by simp only [ex] at h; cases h)
theorem sS_while {m : List Nat} {μ : SE} {c : Expr} {b : List Stmt} {sb : SB} (hp : PassesOwn (model X.prog X.w) X.A X.env X.xe) (hc : PT X c (tT X.K T s)) (hb : PSs X b (tB fr X.K T sb)) : PS X (.While c b [] pos) (tS fr X.K T (.whl m μ s sb)) :=
 PS.imp (ps_while hp hc hb) (fun D σ H ⟨H0, O0, ρ, q, so, h, f⟩ => by
  simp only [ex] at h
  obtain ⟨v, _, h⟩ := bok h
  obtain ⟨z, _, h⟩ := bok h
  refine ⟨fun k σ2 H2 => ∃ ρ2, SOk X.K H0 O0 H2 σ2 ρ2 ∧ Keep H (OwnH O0 σ [] ρ) H2 (OwnH O0 σ2 [] ρ2) ∧ whGo (fun ρ => do let x ← ev T s (vis m ρ); tru x) (exs T sb) k ρ2 = .ok q, ⟨z.toNat + 1, ρ, so, Keep.refl, h⟩, ?_⟩
  rintro k σ2 H2 ⟨ρ2, so2, k2, hg⟩
  cases k with
  | zero => simp only [whGo] at hg; cases hg
  | succ k =>
   simp only [whGo] at hg
   obtain ⟨t, h1, hg⟩ := bok hg
   obtain ⟨x, h2, h1⟩ := bok h1
   obtain rfl := tru_ok h1
   refine seeT so2 h2 fun H3 e3 so3 => ?_
   cases t with
   | false =>
    simp only [Bool.false_eq_true, if_false] at hg ⊢
    cases hg
    exact f σ2 H3 so3 (k2.trans e3.keep)
   | true =>
    simp only [if_true] at hg ⊢
    obtain ⟨⟨fl, ρ3⟩, h3, hg⟩ := bok hg
    refine ⟨fun σ' H' => ∃ ρ', SOk X.K H0 O0 H' σ' ρ' ∧ Keep H (OwnH O0 σ [] ρ) H' (OwnH O0 σ' [] ρ') ∧ whGo (fun ρ => do let x ← ev T s (vis m ρ); tru x) (exs T sb) k ρ' = .ok q, fun σ' H' nx => ⟨k, by omega, nx⟩, ?_⟩
    refine ⟨H0, O0, ρ2, (fl, ρ3), so3, h3, ?_⟩
    cases fl with
    | nx =>
     simp only at hg
     exact fun σ' H' so' k' => ⟨ρ3, so', (k2.trans e3.keep).trans k', hg⟩
    | rt v =>
     simp only at hg
     cases hg
     exact f)
theorem ItOk.mono {K : PySem.W.Frag} {J : It} {H : Hp} {O O' : Hid} {vs : List Val} (h : ItOk K J H O vs) (i : ∀ a, O' a → O a) : ItOk K J H O' vs :=
 fun k H' O2 w kp => h k H' O2 w ⟨fun a o ha n nt => kp.vis a o ha (fun z => n (i a z)) nt, fun a n h => kp.dom a (fun z => n (i a z)) h, kp.tabs, fun a ha => (kp.new a ha).imp (i a) (fun q => q)⟩
theorem sS_for {m : List Nat} {tg : Tg} {it : SI} {tgE iter : Expr} {b : List Stmt} {sb : SB} (cx : Ctx X n M T N) (hp : PassesOwn (model X.prog X.w) X.A X.env X.xe) (hi : PI X tgE iter (tI X.K T it)) (hg : PG X tgE (gR X.K tg)) (hb : PSs X b (tB fr X.K T sb))
  (hs : noSet iter = true) : PS X (.For tgE iter b [] pos) (tS fr X.K T (.loop m tg it sb)) :=
 PS.imp (ps_for hp cx.calm hi hg hb (noSet_fold hs)) (fun D σ H ⟨H0, O0, ρ, q, so, h, f⟩ => by
  simp only [ex] at h
  obtain ⟨items, h1, h⟩ := bok h
  refine ⟨OwnH O0 σ m ρ, vis m ρ, items, so.wf m, so.eok m, h1, fun J H1 e1 hit => ?_⟩
  have so1 := (so.extend e1).kept m false
  have hit1 := hit.mono (O' := OwnH O0 σ [] (kept m false ρ)) (fun a ha => kept_hid rfl ha)
  have k1 : Keep H (OwnH O0 σ [] ρ) H1 (OwnH O0 σ [] (kept m false ρ)) := ext_own (K := X.K) (H0 := H0) e1
  refine ⟨fun i k σ2 H2 => k = items.length - i ∧ i ≤ items.length ∧ ∃ ρ2, SOk X.K H0 O0 H2 σ2 ρ2 ∧ Keep H1 (OwnH O0 σ [] (kept m false ρ)) H2 (OwnH O0 σ2 [] ρ2) ∧ forGo (bindS tg) (exs T sb) (items.drop i) ρ2 = .ok q,
   ⟨items.length, by omega, Nat.zero_le _, _, so1, Keep.refl, by simpa using h⟩, ?_⟩
  rintro i k σ2 H2 ⟨rfl, hi, ρ2, so2, k2, hgo⟩
  obtain ⟨stop, go⟩ := hit1 i H2 _ (so2.wf []) k2
  by_cases hlt : i < items.length
  ·obtain ⟨g, y⟩ := go items[i] (List.getElem?_eq_getElem hlt)
   refine .inr ⟨g, fun σ' H' => i + 1 ≤ items.length ∧ ∃ ρ', SOk X.K H0 O0 H' σ' ρ' ∧ Keep H1 (OwnH O0 σ [] (kept m false ρ)) H' (OwnH O0 σ' [] ρ') ∧ forGo (bindS tg) (exs T sb) (items.drop (i + 1)) ρ' = .ok q,
    fun σ' H' nx => ⟨items.length - (i + 1), by omega, rfl, nx⟩, fun x H3 hy => ?_⟩
   obtain ⟨e3, rx⟩ := y x H3 hy
   rw [List.drop_eq_getElem_cons hlt] at hgo
   simp only [forGo] at hgo
   obtain ⟨ρ3, hb, hgo⟩ := bok hgo
   simp only [bindS] at hb
   obtain ⟨bs, hf, hb⟩ := bok hb
   cases hb
   obtain ⟨⟨fl, ρ4⟩, h4, hgo⟩ := bok hgo
   have so3 := so2.extend e3
   refine ⟨_, items[i], bs, so3.wf [], rx, hf, fun zs hz => ?_⟩
   obtain ⟨so5, k5⟩ := so3.sets hz
   refine ⟨H0, O0, _, (fl, ρ4), so5, h4, ?_⟩
   cases fl with
   | nx =>
    simp only at hgo
    exact fun σ' H' so' k' => ⟨hlt, ρ4, so', ((k2.trans e3.keep).trans k5).trans k', hgo⟩
   | rt v =>
    simp only at hgo
    cases hgo
    exact f
  ·have hie : i = items.length := by omega
   subst hie
   rw [List.drop_length] at hgo
   simp only [forGo] at hgo
   cases hgo
   exact .inl ⟨stop (Nat.le_refl _), f σ2 H2 so2 (k1.trans k2)⟩)
end
end VM
namespace VM
open PySem PySem.Spec PyProof.Rows L2
variable [Tbl]
def tF (K : PySem.W.Frag) (T : Tab) (s : SE) : TE := fun σ H Q => ∃ O ρ vs, WF H O ∧ EOk K H O σ ρ ∧ ev T s ρ = .ok (.lst vs) ∧
 ∀ p H' xs, H p = none → Ext H H' → H' p = some (.lst xs) → Reps K H' (fun a => O a ∨ a = p) vs xs → Q (.ref p) H'
section
variable {fr : Bool} {X : Cx} {n : Nat} {M : Nm} {T : Tab} {N : List Str} {e : Expr} {s : SE} {ses : SEs} {es : List Expr} {pos : Pos}
theorem tF.mono {K : PySem.W.Frag} {σ : L2.St} {H : Hp} {Q Q' : VK} (h : tF K T s σ H Q) (i : ∀ x H1, Q x H1 → Q' x H1) : tF K T s σ H Q' := by
 obtain ⟨O, ρ, vs, w, eo, h1, q⟩ := h
 exact ⟨O, ρ, vs, w, eo, h1, fun p H' xs a b c d => i _ _ (q p H' xs a b c d)⟩
theorem keep_or {H H' : Hp} {O : Hid} {p : Addr} (np : H p = none) (e : Ext H H') : Keep H O H' (fun a => O a ∨ a = p) := ⟨fun a o h _ nt => e.vis a o h nt, fun a _ h => e.dom a h, e.tabs, fun a h => h.elim .inl (fun z => .inr (z ▸ np))⟩
theorem sF_lst (h : PA X es (tA X.K T ses)) : PE X (.List es pos) (tF X.K T (.lst ses)) :=
 PE.imp (pe_lst h) (fun σ H Q ⟨O, ρ, vs, w, eo, h, q⟩ => by
  simp only [ev] at h
  obtain ⟨us, h1, h⟩ := bok h
  obtain ⟨hl, h⟩ := iok h
  cases h
  refine ⟨O, ρ, vs, w, eo, h1, fun xs H1 e1 r1 => ⟨by rw [r1.length, ← lineN_eq]; exact hl, fun p np => ?_⟩⟩
  have np0 : H p = none := e1.dom p np
  exact q p _ xs np0 (e1.trans (Ext.upd np)) upd_same (Reps.keep (w.ext e1) (keep_or np (Ext.upd np)) r1))
def FreshK (O : Hid) (H : Hp) (K : PySem.W.Frag) (vs : List Val) (Q : VK) : Prop := ∀ p H' xs, H p = none → Ext H H' → H' p = some (.lst xs) → Reps K H' (fun a => O a ∨ a = p) vs xs → Q (.ref p) H'
theorem none_of_ext {H H' : Hp} {p : Addr} (e : Ext H H') (np : H' p = none) : H p = none := e.dom p np
theorem FreshK.ext {O : Hid} {H H1 : Hp} {K : PySem.W.Frag} {vs : List Val} {Q : VK} (h : FreshK O H K vs Q) (e : Ext H H1) : FreshK O H1 K vs Q :=
 fun p H' xs np e1 hp r => h p H' xs (none_of_ext e np) (e.trans e1) hp r
theorem FreshK.lay {O : Hid} {H : Hp} {K : PySem.W.Frag} {vs : List Val} {xs : List V} {Q : VK} {p : Addr} (h : FreshK O H K vs Q) (w : WF H O) (np : H p = none) (r : Reps K H O vs xs) : Q (.ref p) (upd H p (.lst xs)) :=
 h p _ xs np (Ext.upd np) upd_same (Reps.keep w (keep_or np (Ext.upd np)) r)
def fV (K : PySem.W.Frag) (g : Val → Val → R Val) : R2 := fun x y H Q => ∃ O a b vs, WF H O ∧ Rep K H O a x ∧ Rep K H O b y ∧ g a b = .ok (.lst vs) ∧ FreshK O H K vs Q
theorem sFop_add : OpR X (binaryOp .Add) (fV X.K (op2 .add)) := by
 intro pins s σ H x y v u Q I rx ry ⟨O, a, b, r, w, ra, rb, e, q⟩
 simp only [op2] at e
 split at e
 ·cases e
 ·obtain ⟨hl, e⟩ := iok e
  cases e
  simp only [Rep] at ra rb
  obtain ⟨p, xs, rfl, n1, h1, r1⟩ := ra
  obtain ⟨p', ys, rfl, n2, h2, r2⟩ := rb
  refine op_cat pins s σ H _ _ v u Q I rx ry ⟨p, p', xs, ys, rfl, rfl, h1, h2, ?_, fun l n => q.lay w n (r1.append r2)⟩
  rw [r1.length, r2.length, ← lineN_eq]; exact hl
 ·exact (ipOp_no e ra rb).elim
theorem sFop_mul : OpR X (binaryOp .Mult) (fV X.K (op2 .mul)) := by
 intro pins s σ H x y v u Q I rx ry ⟨O, a, b, r, w, ra, rb, e, q⟩
 simp only [op2] at e
 split at e
 ·obtain ⟨hm, e⟩ := iok e
  cases e
 ·obtain ⟨hm, e⟩ := iok e
  cases e
  obtain ⟨h1, h2, h3⟩ := of_decide_eq_true hm
  simp only [Rep] at ra rb
  obtain ⟨p, xs, rfl, n1, hp, r1⟩ := ra
  subst rb
  refine op_rep pins s σ H _ _ v u Q I rx ry ⟨p, _, xs, rfl, rfl, hp, h1, h2, ?_, fun l n => q.lay w n (r1.repl _)⟩
  rw [r1.length, ← lineN_eq]; exact h3
 ·exact (ipOp_no e ra rb).elim
theorem tF_op {o : Op2} {K : PySem.W.Frag} {sa sb : SE} : ∀ σ H Q, tF K T (.op o sa sb) σ H Q → tOp (fV K (op2 o)) (tE K T sa) (tE K T sb) σ H Q := fun σ H Q ⟨O, ρ, v, w, eo, h, q⟩ => by
 simp only [ev] at h
 obtain ⟨x, h1, h⟩ := bok h
 obtain ⟨y, h2, h⟩ := bok h
 exact ⟨O, ρ, x, w, eo, h1, fun x1 H1 e1 r1 => ⟨O, ρ, y, w.ext e1, eo.ext w e1, h2, fun y1 H2 e2 r2 => ⟨O, x, y, v, (w.ext e1).ext e2, r1.ext (w.ext e1) e2, r2, h, FreshK.ext q (e1.trans e2)⟩⟩⟩
theorem sF_add {a b : Expr} {sa sb : SE} (ha : PE X a (tE X.K T sa)) (hb : PE X b (tE X.K T sb)) : PE X (.BinOp a .Add b pos) (tF X.K T (.op .add sa sb)) := PE.imp (pe_op sFop_add ha hb) tF_op
theorem sF_mul {a b : Expr} {sa sb : SE} (ha : PE X a (tE X.K T sa)) (hb : PE X b (tE X.K T sb)) : PE X (.BinOp a .Mult b pos) (tF X.K T (.op .mul sa sb)) := PE.imp (pe_op sFop_mul ha hb) tF_op
def fVs (K : PySem.W.Frag) (g : List Val → R Val) : List V → Hp → VK → Prop := fun xs H Q => ∃ O as vs, WF H O ∧ Reps K H O as xs ∧ g as = .ok (.lst vs) ∧ FreshK O H K vs Q
theorem cF_list : CallR X (.type "list") (fVs X.K (bi1 .list)) := by
 intro pins s σ H xs us Q I rx ⟨O, as, r, w, ra, e, q⟩
 unfold bi1 at e
 split at e <;> first | (cases e; done) | skip
 all_goals (try (rename_i hh; cases hh))
 all_goals (cases e; obtain ⟨x, rfl, p⟩ := reps1 ra; simp only [Rep] at p)
 ·obtain ⟨a, ys, rfl, _, sq, rr⟩ := p
  exact call_list_of pins s σ H _ us Q I rx ⟨a, ys, rfl, .inl (SqL.of sq), fun l nl => q.lay w nl rr⟩
 ·obtain ⟨a, ys, rfl, sq, rr⟩ := p
  exact call_list_of pins s σ H _ us Q I rx ⟨a, ys, rfl, .inr sq, fun l nl => q.lay w nl rr⟩
theorem sF_list {a : Expr} {es : List Expr} {p : Pos} (cx : Ctx X n M T N) (hg : Gl X "list") (ha : PA X (a :: es) (tA X.K T ses)) (h1 : nst a = true) (h2 : es.all nst = true) : PE X (.Call (.Name "list" p) (a :: es) [] pos) (tF X.K T (.bi .list ses)) :=
 PE.imp (pe_callTy cF_list hg (cx.facts.bis "list" (by decide)) boot_list ha (by decide) (by decide) (star_cons h1) (star_any h2)) (fun σ H Q ⟨O, ρ, v, w, eo, h, q⟩ => by
  simp only [ev] at h
  obtain ⟨vs, h1, h⟩ := bok h
  exact ⟨O, ρ, vs, w, eo, h1, fun xs H1 e1 r1 => ⟨O, vs, v, w.ext e1, r1, h, FreshK.ext q e1⟩⟩)
theorem sS_own_core {m : List Nat} {i : Nat} : ∀ D σ H, tS fr X.K T (.own m i s) D σ H → tF X.K T s σ H (fun x H1 => D.nx (σ.set i (some x)) H1) := fun D σ H ⟨H0, O0, ρ, q, so, h, f⟩ => by
 simp only [ex] at h
 obtain ⟨v, h1, h⟩ := bok h
 split at h
 ·rename_i vs
  obtain ⟨hl, h⟩ := iok h
  subst h
  refine ⟨OwnH O0 σ m ρ, vis m ρ, vs, so.wf m, so.eok m, h1, fun p H' xs np e1 hp r => ?_⟩
  have so2 := so.kept m (flats vs)
  have hl2 : i < (VM.kept m (flats vs) ρ).length := by unfold VM.kept; split; exact hl; split; exact hl; rw [frzs_len]; exact hl
  have r2 : Reps X.K H' (fun a => OwnH O0 σ [] (VM.kept m (flats vs) ρ) a ∨ a = p) vs xs := by
   have w' : WF H' (fun a => OwnH O0 σ m ρ a ∨ a = p) := by
    refine ⟨fun a ha => ?_, WF.tabs (((so.wf m).ext e1))⟩
    rcases ha with ha | rfl
    ·exact (((so.wf m).ext e1)) a ha
    ·exact ⟨_, hp, True.intro⟩
   cases hf : flats vs with
   | true => exact Reps.flat hf r
   | false => exact Reps.keep w' ⟨fun _ _ h _ _ => h, fun _ _ h => h, id, fun a ha => .inl (ha.imp (fun z => kept_hid rfl z) id)⟩ r
  obtain ⟨so3, k3⟩ := so2.set_own (i := i) (s := .ow vs) rfl np H' e1 ⟨xs, hp, r2⟩ hl2
  exact f _ _ so3 (kept_keep.trans k3)
 ·cases h
theorem sS_own {m : List Nat} {i : Nat} {x : Str} {px : Pos} (cx : Ctx X n M T N) (hk : X.env.scope.kind = .function) (hi : X.N[i]? = some x) (hx : Loc X.env.scope x) (hf : X.fn x = true)
  (he : PE X e (tF X.K T s)) (hsw : swB X.env.scope x px e = false) (hn : noComp e = true ∨ ∃ a b c d, e = .ListComp a b c d) : PS X (.Assign [.Name x px] e pos) (tS fr X.K T (.own m i s)) :=
 PS.imp (ps_set cx.nd hi hx he (swB_false hk hsw hn) (.inl hf)) (fun D σ H h => sS_own_core (X := X) (T := T) D σ H h)
theorem tF_comp {K : PySem.W.Frag} {own : List Nat} {tg : Tg} {it : SI} {c : SO} {el : SE} (hown : ∀ i ∈ tgIx tg, i ∈ own) : ∀ σ H Q, tF K T (.comp own tg it c el) σ H Q →
  tLc (tI K T it) (gR K tg) (tCo K T c) (tE K T el) own σ H Q := by
 intro σ H Q ⟨O, ρ, ys, w, eo, h, q⟩
 simp only [ev] at h
 obtain ⟨items, h1, h⟩ := bok h
 by_cases hlen : items.length ≤ lineN
 case neg => rw [if_neg hlen] at h; cases h
 rw [if_pos hlen] at h
 obtain ⟨ys0, h2, h⟩ := bok h
 have e0 : ys0 = ys := by cases h; rfl
 rw [e0] at h2
 refine ⟨O, ρ, items, w, eo, h1, fun J H1 e1 hit => ?_⟩
 intro D nD
 have w1 : WF H1 O := w.ext e1
 refine ⟨fun i m H2 => m = items.length - i ∧ i ≤ items.length ∧ ∃ acc xs ys', H2 D = some (.lst xs) ∧ Reps K H2 (fun a => O a ∨ a = D) acc xs ∧
  compGo (bindE tg) (evC T c) (ev T el) (wipeE ρ own) (items.drop i) = .ok ys' ∧ acc ++ ys' = ys ∧ xs.length ≤ i ∧ Ext H1 H2,
  ⟨items.length, by omega, Nat.zero_le _, [], [], ys, upd_same, Reps.nil, by simpa using h2, rfl, Nat.zero_le _, Ext.upd nD⟩, ?_⟩
 rintro i m H2 ⟨rfl, hi, acc, xs, ys', hD, hr, hgo, hcat, hxl, e2⟩
 have w2 : WF H2 (fun a => O a ∨ a = D) := by
  refine ⟨fun a ha => ?_, WF.tabs (w1.ext e2)⟩
  rcases ha with ha | rfl
  ·exact (w1.ext e2) a ha
  ·exact ⟨_, hD, True.intro⟩
 have k2 : Keep H1 O H2 (fun a => O a ∨ a = D) := ⟨fun a o h _ nt => e2.vis a o h nt, fun a _ h => e2.dom a h, e2.tabs, fun a h => h.elim .inl (fun e => .inr (e ▸ nD))⟩
 obtain ⟨stop, go⟩ := hit i H2 _ w2 k2
 by_cases hlt : i < items.length
 ·obtain ⟨g, y⟩ := go items[i] (List.getElem?_eq_getElem hlt)
  refine .inr ⟨g, fun H' => i + 1 ≤ items.length ∧ ∃ acc xs ys', H' D = some (.lst xs) ∧ Reps K H' (fun a => O a ∨ a = D) acc xs ∧
   compGo (bindE tg) (evC T c) (ev T el) (wipeE ρ own) (items.drop (i + 1)) = .ok ys' ∧ acc ++ ys' = ys ∧ xs.length ≤ i + 1 ∧ Ext H1 H',
   fun H' nx => ⟨items.length - (i + 1), by omega, rfl, nx⟩, fun x H3 hy => ?_⟩
  obtain ⟨e3, rx⟩ := y x H3 hy
  rw [List.drop_eq_getElem_cons hlt] at hgo
  simp only [compGo] at hgo
  obtain ⟨ρ1, hb, hgo⟩ := bok hgo
  simp only [bindE] at hb
  obtain ⟨bs, hf, hb⟩ := bok hb
  cases hb
  obtain ⟨b, hc, hgo⟩ := bok hgo
  have w3 := w2.ext e3
  have eo3 : EOk K H3 (fun a => O a ∨ a = D) (wipe σ own) (wipeE ρ own) := (((eo.ext w e1).keep w1 k2).ext w2 e3).wipe own
  refine ⟨_, items[i], bs, w3, rx, hf, fun zs hz => ⟨?_, ?_⟩⟩
  ·rw [wipe_setsV (fun j hj => hown j (by rw [← flatT_ix hf]; exact hj)), wipe_wipe]
  ·refine ⟨_, setsE (wipeE ρ own) bs, b, w3, eo3.sets hz, hc, fun H4 e4 => ?_⟩
   cases b with
   | false =>
    simp only [Bool.false_eq_true, if_false] at hgo ⊢
    exact ⟨hlt, acc, xs, ys', e4.vis _ _ (e3.vis _ _ hD), (hr.ext w2 e3).ext w3 e4, hgo, hcat, Nat.le_succ_of_le hxl, (e2.trans e3).trans e4⟩
   | true =>
    simp only [if_true] at hgo ⊢
    obtain ⟨yv, hy1, hgo⟩ := bok hgo
    obtain ⟨ys2, hy2, hgo⟩ := bok hgo
    cases hgo
    have w4 := w3.ext e4
    refine ⟨_, setsE (wipeE ρ own) bs, yv, w4, (eo3.sets hz).ext w3 e4, hy1, fun z H5 e5 rz => ?_⟩
    have hD5 : H5 D = some (.lst xs) := e5.vis _ _ (e4.vis _ _ (e3.vis _ _ hD))
    refine ⟨xs, hD5, by rw [← lineN_eq]; omega, hlt, acc ++ [yv], xs ++ [z], ys2, upd_same, ?_, hy2, by rw [List.append_assoc]; exact hcat, by simp; omega, ?_⟩
    ·have w5 := w4.ext e5
     refine Reps.keep w5 (O' := fun a => O a ∨ a = D) ⟨fun a o ha na _ => ?_, fun b _ h => upd_nn h, fun t => Tabs.upd t hD5 True.intro, fun a ha => .inl ha⟩ (((((hr.ext w2 e3).ext w3 e4).ext w4 e5)).append (Reps.cons rz Reps.nil))
     rw [upd_ne (fun e => na (.inr e))]; exact ha
    ·exact ((e2.trans e3).trans (e4.trans e5)).wr nD hD5 True.intro
 ·have hie : i = items.length := by omega
  subst hie
  rw [List.drop_length] at hgo
  simp only [compGo] at hgo
  cases hgo
  rw [List.append_nil] at hcat
  subst hcat
  have nD0 : H D = none := e1.dom D nD
  exact .inl ⟨stop (Nat.le_refl _), q D _ xs nD0 (e1.trans e2) hD hr⟩
theorem sF_comp {own : List Nat} {tg : Tg} {it : SI} {c : SO} {el : SE} {elt tgE iter : Expr} {ifs : List Expr} {scope : Scope} {p2 : Pos} (cx : Ctx X n M T N)
  (hnk : notKeys it = true)
  (hc : chkE M N (.comp own tg it c el) X.env.scope (.ListComp elt [⟨tgE, iter, ifs, 0⟩] scope p2) = true) : PE X (.ListComp elt [⟨tgE, iter, ifs, 0⟩] scope p2) (tF X.K T (.comp own tg it c el)) := by
 simp only [chkE, Bool.and_eq_true] at hc
 obtain ⟨⟨⟨⟨⟨⟨h1, h2⟩, h3⟩, h4⟩, h5⟩, h6⟩, h7⟩ := hc
 rw [notKeys_ok hnk, Bool.or_false] at h3
 have hb : BlkOk X.N X.env.scope scope (own.map fun i => (N.getD i "", i)) := by rw [cx.hN]; exact blkOk_by h1
 have p := pe_lc (elt := elt) (pos := p2) (scope := scope) cx.calm cx.nd (sndI it cx h3) hb (g := gR X.K tg) (tt := tCo X.K T c) (te := tE X.K T el)
  (fun s H C cl fp => sndG (N := N) tg (X := X.blk s H scope (compEnvC scope cl C X.env) fp) cx.hN cx.nd cx.calm (fun y hy => hy) h5)
  (fun s H C cl fp => sndC c (cx.blk s H scope cl C fp) h6)
  (fun s H C cl fp => (sndE el (cx.blk s H scope cl C fp) h7).1)
  (noSet_fold h4)
 rw [own_snd] at p
 exact PE.imp p (tF_comp (T := T) (own := own) (tg := tg) (it := it) (c := c) (el := el) (fun i hi => by simpa using List.all_eq_true.mp h2 i hi))
theorem sS_ownLc {m : List Nat} {i : Nat} {x : Str} {px : Pos} {own : List Nat} {tg : Tg} {it : SI} {c : SO} {el : SE} {elt tgE iter : Expr} {ifs : List Expr} {scope : Scope} {p2 : Pos} (cx : Ctx X n M T N) (hk : X.env.scope.kind = .function) (hi : X.N[i]? = some x)
  (hnk : notKeys it = true) (hc : chkE M N (.comp own tg it c el) X.env.scope (.ListComp elt [⟨tgE, iter, ifs, 0⟩] scope p2) = true) (hsw : swB X.env.scope x px (.ListComp elt [⟨tgE, iter, ifs, 0⟩] scope p2) = true) :
  PS X (.Assign [.Name x px] (.ListComp elt [⟨tgE, iter, ifs, 0⟩] scope p2) pos) (tS fr X.K T (.own m i (.comp own tg it c el))) := by
 simp only [chkE, Bool.and_eq_true] at hc
 obtain ⟨⟨⟨⟨⟨⟨h1, h2⟩, h3⟩, h4⟩, h5⟩, h6⟩, h7⟩ := hc
 rw [notKeys_ok hnk, Bool.or_false] at h3
 have hb : BlkOk X.N X.env.scope scope (own.map fun i => (N.getD i "", i)) := by rw [cx.hN]; exact blkOk_by h1
 unfold swB at hsw
 simp only [Bool.and_eq_true, Bool.not_eq_true'] at hsw
 obtain ⟨⟨s1, s2⟩, s3⟩ := hsw
 have hl : X.env.scope.names.lookup x = some .local := by
  split at s1
  ·assumption
  ·cases s1
 have p := ps_setLc (i := i) (py := px) (spos := pos) (elt := elt) (pos := p2) (scope := scope) cx.calm cx.nd hi hl (sw_true hk hl s2 s3) (sndI it cx h3) hb (g := gR X.K tg) (tt := tCo X.K T c) (te := tE X.K T el)
  (fun s H C cl fp => sndG (N := N) tg (X := X.blk s H scope (compEnvC scope cl C X.env) fp) cx.hN cx.nd cx.calm (fun y hy => hy) h5)
  (fun s H C cl fp => sndC c (cx.blk s H scope cl C fp) h6)
  (fun s H C cl fp => (sndE el (cx.blk s H scope cl C fp) h7).1)
  (noSet_fold h4)
 rw [own_snd] at p
 refine PS.imp p (fun D σ H h => ?_)
 exact tF_comp (fun i hi => by simpa using List.all_eq_true.mp h2 i hi) σ H _ (sS_own_core (X := X) (T := T) D σ H h)
theorem sS_retF {m : List Nat} (he : PE X e (tF X.K T s)) : PS X (.Return (some e) pos) (tS true X.K T (.ret m s)) :=
 PS.imp (ps_ret he) (fun D σ H ⟨H0, O0, ρ, q, so, h, f⟩ => by
  simp only [ex] at h
  obtain ⟨v, h1, h⟩ := bok h
  cases h
  obtain ⟨vs, rfl, f⟩ := f
  refine ⟨OwnH O0 σ m ρ, vis m ρ, vs, so.wf m, so.eok m, h1, fun p H' xs np e1 hp r => f p H' xs ?_ (so.ext.trans e1) hp ?_⟩
  ·exact none_of_ext so.ext np
  ·have w' : WF H' (fun a => OwnH O0 σ m ρ a ∨ a = p) := by
    refine ⟨fun a ha => ?_, WF.tabs (((so.wf m).ext e1))⟩
    rcases ha with ha | rfl
    ·exact (((so.wf m).ext e1)) a ha
    ·exact ⟨_, hp, True.intro⟩
   exact Reps.keep w' ⟨fun _ _ h _ _ => h, fun _ _ h => h, id, fun a ha => .inl (ha.imp (fun z => .inl z) id)⟩ r)
theorem sS_retv {i : Nat} {x : Str} {px : Pos} (hi : X.N[i]? = some x) (hv : Vis X.env.scope x) (hd : dbg x = true) : PS X (.Return (some (.Name x px)) pos) (tS fr X.K T (.retv i)) :=
 PS.imp (ps_ret (pe_var hi hv (dbg_1 hd) (dbg_2 hd))) (fun D σ H ⟨H0, O0, ρ, q, so, h, f⟩ => by
  simp only [ex] at h
  split at h
  ·rename_i vs hs
   cases h
   obtain ⟨a, hσ, hn, xs, hxs, rxs⟩ := so.own i _ hs rfl
   have hO : OwnH O0 σ [] ρ a := .inr ⟨i, _, hs, rfl, by simp, hσ⟩
   refine ⟨_, hσ, ?_⟩
   cases fr with
   | false =>
    have nO : ¬ O0 a := fun z => by
     obtain ⟨o, e, _⟩ := so.wf0 a z
     rw [hn] at e; cases e
    refine f _ _ so.ext ?_
    simp only [Rep]
    exact ⟨a, xs, rfl, nO, hxs, Reps.keep (so.wf []) ⟨fun _ _ h _ _ => h, fun _ _ h => h, id, fun c hc => .inl (.inl hc)⟩ rxs⟩
   | true =>
    obtain ⟨us, e, f⟩ := f
    cases e
    exact f a H xs hn so.ext hxs (Reps.keep (so.wf []) ⟨fun _ _ h _ _ => h, fun _ _ h => h, id, fun c hc => .inl (hc.elim .inl (fun z => z ▸ hO))⟩ rxs)
  ·cases h)
theorem sF_call {f : Nat} {x : Str} {p : Pos} (cx : Ctx X n M T N) (hf : M.fn f = some x) (hfr : M.fr f = true) (hg : Gl X x) (hd : dbg x = true) (ha : PA X es (tA X.K T ses)) (hs : es.all nst = true) (hn : es = [] → ses = .nil) : PE X (.Call (.Name x p) es [] pos) (tF X.K T (.call f ses)) := by
 obtain ⟨fa, fd, ps, m, kp, hb, _, hl, F⟩ := cx.facts.fns f x hf
 have F := F hfr
 have key : ∀ σ H Q, tF X.K T (.call f ses) σ H Q → tCall (spF X.K ps.length (T.C f)) [] E0 (tA X.K T ses) σ H Q := fun σ H Q ⟨O, ρ, v, w, eo, h, q⟩ => by
  simp only [ev] at h
  obtain ⟨vs, h1, h⟩ := bok h
  exact ⟨O, ρ, vs, w, eo, h1, fun xs H1 e1 r1 => ⟨O, vs, v, w.ext e1, by rw [List.append_nil]; exact r1, hl _ _ h, h, FreshK.ext q e1⟩⟩
 cases es with
 | nil =>
  refine PE.imp (pe_call0 F cx.room hg m kp hb .nil pass0 (dbg_1 hd)) (fun σ H Q h => ?_)
  obtain ⟨O, ρ, vs, w, eo, h1, q⟩ := key σ H Q h
  have : vs = [] := by
   rw [hn rfl] at h1
   simp only [evs] at h1; cases h1; rfl
  subst this
  exact q [] H Ext.refl Reps.nil
 | cons e es =>
  simp only [List.all_cons, Bool.and_eq_true] at hs
  exact PE.imp (pe_call F cx.room hg m kp hb .nil pass0 ha (dbg_1 hd) (star_cons hs.1) (star_any hs.2)) key
theorem sS_parO {m : List Nat} {i j : Nat} {x y : Str} {px py pt pt2 : Pos} {kt k2 : Nat} {a b : Expr} {sa sb : SE} (cx : Ctx X n M T N) (hk : X.env.scope.kind = .function) (hi : X.N[i]? = some x) (hj : X.N[j]? = some y) (hij : i ≠ j)
  (hp : parB X.env.scope x px y py a b = true) (ha : PE X a (tF X.K T sa)) (hb : PE X b (tE X.K T sb)) : PS X (.Assign [.Tuple [.Name x px, .Name y py] kt pt] (.Tuple [a, b] k2 pt2) pos) (tS fr X.K T (.parO m i j sa sb)) := by
 have hp' := hp
 unfold parB at hp'
 simp only [Bool.and_eq_true] at hp'
 obtain ⟨⟨⟨⟨⟨⟨⟨h1, h2⟩, h3⟩, h4⟩, h5⟩, h6⟩, h7⟩, h8⟩ := hp'
 have l1 : X.env.scope.names.lookup x = some .local := by
  split at h1
  ·assumption
  ·cases h1
 have l2 : X.env.scope.names.lookup y = some .local := by
  split at h2
  ·assumption
  ·cases h2
 refine PS.imp (ps_par cx.calm cx.nd hi hj hij l1 l2 (pa_cons ha (pa_cons hb pa_nil (star_cons h6)) (star_cons h5)) (sw_par hk hp) rfl) (fun D σ H ⟨H0, O0, ρ, q, so, h, f⟩ => ?_)
 simp only [ex] at h
 obtain ⟨v, g1, h⟩ := bok h
 obtain ⟨w, g2, h⟩ := bok h
 cases v with
 | lst vs =>
  simp only at h
  obtain ⟨hl, h⟩ := iok h
  subst h
  have w0 := so.wf m
  refine ⟨OwnH O0 σ m ρ, vis m ρ, vs, w0, so.eok m, g1, fun p H1 xs np e1 hp1 r1 => ?_⟩
  have k1 : Keep H (OwnH O0 σ m ρ) H1 (fun a => OwnH O0 σ m ρ a ∨ a = p) := keep_or np e1
  have w1 : WF H1 (fun a => OwnH O0 σ m ρ a ∨ a = p) := by
   refine ⟨fun a ha => ?_, WF.tabs ((w0.ext e1))⟩
   rcases ha with ha | rfl
   ·exact ((w0.ext e1)) a ha
   ·exact ⟨_, hp1, True.intro⟩
  refine ⟨_, vis m ρ, w, w1, (so.eok m).keep w0 k1, g2, fun y2 H2 e2 r2 => ⟨_, _, rfl, ?_⟩⟩
  have w2 : WF H2 (fun a => OwnH O0 σ m ρ a ∨ a = p) := w1.ext e2
  have e12 := e1.trans e2
  have so2 := so.kept m (flats vs && flat w)
  have hl2 : i < (VM.kept m (flats vs && flat w) ρ).length := by unfold VM.kept; split; exact hl; split; exact hl; rw [frzs_len]; exact hl
  have rx : Reps X.K H2 (fun a => OwnH O0 σ [] (VM.kept m (flats vs && flat w) ρ) a ∨ a = p) vs xs := by
   have r1' := Reps.ext w1 e2 r1
   cases hf : (flats vs && flat w) with
   | true => exact Reps.flat (Bool.and_eq_true_iff.mp hf).1 r1'
   | false => exact Reps.keep w2 ⟨fun _ _ h _ _ => h, fun _ _ h => h, id, fun a ha => .inl (ha.imp (fun z => kept_hid rfl z) id)⟩ r1'
  have ry : Rep X.K H2 (fun a => OwnH O0 σ [] (VM.kept m (flats vs && flat w) ρ) a ∨ a = p) w y2 := by
   cases hf : (flats vs && flat w) with
   | true => exact Rep.flat (Bool.and_eq_true_iff.mp hf).2 r2
   | false => exact Rep.keep w2 ⟨fun _ _ h _ _ => h, fun _ _ h => h, id, fun a ha => .inl (ha.imp (fun z => kept_hid rfl z) id)⟩ r2
  obtain ⟨so3, k3⟩ := so2.set_own (i := i) (s := .ow vs) rfl np H2 e12 ⟨xs, e2.vis _ _ hp1, rx⟩ hl2
  have w3 : WF H2 (fun a => OwnH O0 σ [] (VM.kept m (flats vs && flat w) ρ) a ∨ a = p) := by
   refine ⟨fun a ha => ?_, WF.tabs (((so2.wf []).ext e12))⟩
   rcases ha with ha | rfl
   ·exact (((so2.wf []).ext e12)) a ha
   ·exact ⟨_, e2.vis _ _ hp1, True.intro⟩
  have hid : ∀ a, OwnH O0 (σ.set i (some (.ref p))) [] ((VM.kept m (flats vs && flat w) ρ).set i (.ow vs)) a → OwnH O0 σ [] (VM.kept m (flats vs && flat w) ρ) a ∨ a = p := fun a ha => by
   rcases ha with ha | ⟨jj, t, z1, z2, _, z4⟩
   ·exact .inl (.inl ha)
   ·by_cases hij : i = jj
    ·subst hij
     rw [List.getElem?_set_self (Nat.lt_of_lt_of_le hl2 so2.len)] at z4
     cases z4; exact .inr rfl
    ·rw [List.getElem?_set_ne hij] at z1 z4
     exact .inl (.inr ⟨jj, t, z1, z2, by simp, z4⟩)
  have ry3 := Rep.keep w3 (O' := OwnH O0 (σ.set i (some (.ref p))) [] ((VM.kept m (flats vs && flat w) ρ).set i (.ow vs))) ⟨fun _ _ h _ _ => h, fun _ _ h => h, id, fun a ha => .inl (hid a ha)⟩ ry
  have so4 := so3.set_sh (i := j) ry3
  have k4 : Keep H2 (OwnH O0 (σ.set i (some (.ref p))) [] ((VM.kept m (flats vs && flat w) ρ).set i (.ow vs))) H2 (OwnH O0 ((σ.set i (some (.ref p))).set j (some y2)) [] (((VM.kept m (flats vs && flat w) ρ).set i (.ow vs)).set j (.sh w))) :=
   ⟨fun _ _ h _ _ => h, fun _ _ h => h, id, fun a ha => .inl (own_set_sh ha)⟩
  exact f _ _ so4 ((kept_keep.trans k3).trans k4)
 | _ => cases h
theorem sS_app {m : List Nat} {i : Nat} {x : Str} {px apos cpos : Pos} (hi : X.N[i]? = some x) (hv : Vis X.env.scope x) (hd : dbg x = true) (he : PE X e (tE X.K T s)) (hs : nst e = true) (hline : (apos.endLine == cpos.line) = true) :
  PS X (.Expr (.Call (.Attribute (.Name x px) "append" apos) [e] [] cpos) pos) (tS fr X.K T (.app m i s)) :=
 PS.imp (ps_expr (pe_bm PySem.F.plainAttrs_list PySem.F.slot_list_append PySem.F.type_list_append mt_append (pe_var hi hv (dbg_1 hd) (dbg_2 hd)) (sA_cons he sA_nil hs) rfl (few1 hs) hline (star_cons hs) rfl)) (fun D σ H ⟨H0, O0, ρ, q, so, h, f⟩ => by
  simp only [ex] at h
  obtain ⟨v, h1, h⟩ := bok h
  split at h
  ·cases h
  split at h
  ·rename_i vs hvs
   obtain ⟨hl, h⟩ := iok h
   subst h
   have so1 := so.kept m (flat v)
   obtain ⟨a, hσ, _, xs, hxs, rxs⟩ := so1.own i _ hvs rfl
   refine ⟨_, hσ, .inl ⟨rfl, _, .inl (.inl hxs)⟩, OwnH O0 σ m ρ, vis m ρ, [v], so.wf m, so.eok m, by simp only [evs, h1]; rfl, fun ys H1 e1 r => ?_⟩
   obtain ⟨y, t, rfl, ry, rt⟩ := (by simpa only [Reps] using r)
   obtain rfl := rt
   have so2 := so.extend e1
   have so3 := so2.kept m (flat v)
   have ry3 : Rep X.K H1 (OwnH O0 σ [] (VM.kept m (flat v) ρ)) v y := kept_rep (fl := flat v) (so2.wf m) (fun h => h) ry
   have w3 := so3.wf []
   have hO : OwnH O0 σ [] (VM.kept m (flat v) ρ) a := .inr ⟨i, _, hvs, rfl, by simp, hσ⟩
   have r4 : Reps X.K H1 (OwnH O0 σ [] (VM.kept m (flat v) ρ)) (vs ++ [v]) (xs ++ [y]) := (Reps.ext (so1.wf []) e1 rxs).append (Reps.cons ry3 Reps.nil)
   have r5 : Reps X.K (upd H1 a (.lst (xs ++ [y]))) (OwnH O0 σ [] (VM.kept m (flat v) ρ)) (vs ++ [v]) (xs ++ [y]) :=
    Reps.keep w3 ⟨fun b o hb nb _ => by rw [upd_ne (show b ≠ a from fun z => nb (z ▸ hO))]; exact hb, fun b _ h => upd_nn h, fun t => (let ⟨_, h1, h2⟩ := w3 a hO; Tabs.upd t h1 h2.ne), fun _ h => .inl h⟩ r4
   refine ⟨a, xs, y, rfl, rfl, e1.vis _ _ hxs, by rw [rxs.length, ← lineN_eq]; exact hl, ?_⟩
   obtain ⟨so6, k6⟩ := so3.change (t := .ow (vs ++ [v])) hvs rfl hσ rfl ⟨_, upd_same, r5⟩
   exact f _ _ so6 ((ext_own (K := X.K) (H0 := H0) e1).trans k6)
  ·cases h)
theorem sS_ext {m : List Nat} {i : Nat} {x : Str} {px apos cpos : Pos} (hi : X.N[i]? = some x) (hv : Vis X.env.scope x) (hd : dbg x = true) (he : PE X e (tE X.K T s)) (hs : nst e = true) (hline : (apos.endLine == cpos.line) = true) :
  PS X (.Expr (.Call (.Attribute (.Name x px) "extend" apos) [e] [] cpos) pos) (tS fr X.K T (.ext m i s)) :=
 PS.imp (ps_expr (pe_bm PySem.F.plainAttrs_list PySem.F.slot_list_extend PySem.F.type_list_extend mt_extend (pe_var hi hv (dbg_1 hd) (dbg_2 hd)) (sA_cons he sA_nil hs) rfl (few1 hs) hline (star_cons hs) rfl)) (fun D σ H ⟨H0, O0, ρ, q, so, h, f⟩ => by
  simp only [ex] at h
  obtain ⟨v, h1, h⟩ := bok h
  split at h
  case h_2 => cases h
  rename_i ws
  split at h
  ·cases h
  split at h
  ·rename_i vs hvs
   obtain ⟨hl, h⟩ := iok h
   subst h
   have so1 := so.kept m (flats ws)
   obtain ⟨a, hσ, _, xs, hxs, rxs⟩ := so1.own i _ hvs rfl
   refine ⟨_, hσ, .inl ⟨rfl, _, .inl (.inl hxs)⟩, OwnH O0 σ m ρ, vis m ρ, [.lst ws], so.wf m, so.eok m, by simp only [evs, h1]; rfl, fun ys H1 e1 r => ?_⟩
   obtain ⟨y, t, rfl, ry, rt⟩ := (by simpa only [Reps] using r)
   obtain rfl := rt
   simp only [Rep] at ry
   obtain ⟨b, zs, rfl, nb, hb, rz⟩ := ry
   have so2 := so.extend e1
   have so3 := so2.kept m (flats ws)
   have rz3 : Reps X.K H1 (OwnH O0 σ [] (VM.kept m (flats ws) ρ)) ws zs := kept_reps (fl := flats ws) (so2.wf m) (fun h => h) rz
   have w3 := so3.wf []
   have hO : OwnH O0 σ [] (VM.kept m (flats ws) ρ) a := .inr ⟨i, _, hvs, rfl, by simp, hσ⟩
   have r4 : Reps X.K H1 (OwnH O0 σ [] (VM.kept m (flats ws) ρ)) (vs ++ ws) (xs ++ zs) := (Reps.ext (so1.wf []) e1 rxs).append rz3
   have r5 : Reps X.K (upd H1 a (.lst (xs ++ zs))) (OwnH O0 σ [] (VM.kept m (flats ws) ρ)) (vs ++ ws) (xs ++ zs) :=
    Reps.keep w3 ⟨fun b o hb nb _ => by rw [upd_ne (show b ≠ a from fun z => nb (z ▸ hO))]; exact hb, fun b _ h => upd_nn h, fun t => (let ⟨_, h1, h2⟩ := w3 a hO; Tabs.upd t h1 h2.ne), fun _ h => .inl h⟩ r4
   refine ⟨a, b, xs, zs, rfl, rfl, e1.vis _ _ hxs, hb, by rw [rxs.length, rz.length, ← lineN_eq]; exact hl, ?_⟩
   obtain ⟨so6, k6⟩ := so3.change (t := .ow (vs ++ ws)) hvs rfl hσ rfl ⟨_, upd_same, r5⟩
   exact f _ _ so6 ((ext_own (K := X.K) (H0 := H0) e1).trans k6)
  ·cases h)
end
end VM
namespace VM
open PySem PySem.Spec PyProof.Rows L2
variable [Tbl]
section
variable {fr : Bool} {X : Cx} {n : Nat} {M : Nm} {T : Tab} {N : List Str} {e : Expr} {s : SE} {pos : Pos}
theorem sS_seti {m : List Nat} {i : Nat} {x : Str} {px p2 : Pos} {ik : Expr} {k : SE} (hi : X.N[i]? = some x) (hv : Vis X.env.scope x) (hd : dbg x = true) (he : PE X e (tE X.K T s)) (hk : PE X ik (tE X.K T k)) (hix : ixOk ik = true) :
  PS X (.Assign [.Subscript (.Name x px) ik p2] e pos) (tS fr X.K T (.seti m i k s)) := by
 refine PS.imp (ps_asg he (pg_sub (pe_var hi hv (dbg_1 hd) (dbg_2 hd)) hk set_list (fun v => by cases ik <;> first | rfl | cases hix)) ?_ (by cases e <;> rfl) rfl) (fun D σ H ⟨H0, O0, ρ, q, so, h, f⟩ => ?_)
 ·show swapsWith e (some (.Subscript (.Name x px) ik p2)) pos.line X.env = pure false
  cases e <;> rfl
 ·simp only [ex] at h
  obtain ⟨v, h1, hA⟩ := bok h
  obtain ⟨kv, h2, hB⟩ := bok hA
  obtain ⟨z, h3, hC⟩ := bok hB
  have hz := asInt_ok h3
  subst hz
  clear h hA hB
  split at hC
  ·cases hC
  split at hC
  ·rename_i vs hvs
   split at hC
   ·rename_i j hj
    cases hC
    refine seeE so h1 (fun y H1 e1 so1 ry => ?_)
    have so1' := so1.kept m (flat v)
    obtain ⟨a, hσ, _, xs, hxs, rxs⟩ := so1'.own i _ hvs rfl
    refine ⟨_, hσ, seeE so1 h2 (fun w H2 e2 so2 rw => ?_)⟩
    simp only [Rep] at rw
    subst rw
    have so3 := so2.kept m (flat v)
    have ry2 : Rep X.K H2 (OwnH O0 σ m ρ) v y := ry.ext (so1.wf m) e2
    have ry3 : Rep X.K H2 (OwnH O0 σ [] (VM.kept m (flat v) ρ)) v y := kept_rep (fl := flat v) (so2.wf m) (fun h => h) ry2
    have hO : OwnH O0 σ [] (VM.kept m (flat v) ρ) a := .inr ⟨i, _, hvs, rfl, by simp, hσ⟩
    have r4 : Reps X.K H2 (OwnH O0 σ [] (VM.kept m (flat v) ρ)) vs xs := Reps.ext (so1'.wf []) e2 rxs
    have r5 : Reps X.K (upd H2 a (.lst (xs.set j y))) (OwnH O0 σ [] (VM.kept m (flat v) ρ)) (vs.set j v) (xs.set j y) :=
     Reps.keep (so3.wf []) ⟨fun b o hb nb _ => by rw [upd_ne (show b ≠ a from fun z => nb (z ▸ hO))]; exact hb, fun b _ h => upd_nn h, fun t => (let ⟨_, h1, h2⟩ := (so3.wf []) a hO; Tabs.upd t h1 h2.ne), fun _ h => .inl h⟩ (Reps.set j r4 ry3)
    refine ⟨a, xs, z, j, rfl, rfl, e2.vis _ _ hxs, by rw [rxs.length]; exact hj, ?_⟩
    obtain ⟨so6, k6⟩ := so3.change (t := .ow (vs.set j v)) hvs rfl hσ rfl ⟨_, upd_same, r5⟩
    exact f _ _ so6 ((e1.keep.trans (ext_own (K := X.K) (H0 := H0) e2)).trans k6)
   ·cases hC
  ·cases hC
theorem sS_ownd {i : Nat} {t : Bool} {x : Str} {px dp : Pos} (cx : Ctx X n M T N) (hk : X.env.scope.kind = .function) (hi : X.N[i]? = some x) (hx : Loc X.env.scope x) (hf : X.fn x = true) :
  PS X (.Assign [.Name x px] (.Dict [] [] dp) pos) (tS fr X.K T (.ownd i t)) := by
 cases t with
 | false =>
  refine PS.imp (ps_set cx.nd hi hx pe_dnewK (noComp_sw rfl) (.inl hf)) (fun D σ H ⟨H0, O0, ρ, q, so, h, f⟩ => ?_)
  simp only [ex] at h
  obtain ⟨hl, h⟩ := iok h
  subst h
  intro p np
  obtain ⟨so3, k3⟩ := so.set_own (i := i) (s := .od false [] []) rfl np _ (Ext.upd np) ⟨[], upd_same, rfl, List.nodup_nil, Reps.nil⟩ hl
  exact f _ _ so3 k3
 | true =>
  refine PS.imp (ps_set cx.nd hi hx pe_dnewN (noComp_sw rfl) (.inl hf)) (fun D σ H ⟨H0, O0, ρ, q, so, h, f⟩ => ?_)
  simp only [ex] at h
  obtain ⟨hl, h⟩ := iok h
  subst h
  intro p np
  rw [cx.hw]
  obtain ⟨so3, k3⟩ := so.set_own (i := i) (s := .od true [] []) rfl np _ (Ext.upd np) ⟨[], upd_same, rfl, ⟨List.nodup_nil, fun _ h => by cases h⟩, Reps.nil, Reps.nil⟩ hl
  exact f _ _ so3 k3
theorem putK_nil {κ : Type} [DecidableEq κ] {k : κ} {y : V} : putK ([] : List (κ × V)) k y = [(k, y)] := rfl
theorem putK_neg {κ : Type} [DecidableEq κ] {p : κ × V} {r : List (κ × V)} {k : κ} {y : V} (h : ¬ p.1 = k) : putK (p :: r) k y = p :: putK r k y := by
 unfold putK
 have hd : decide (p.1 = k) = false := decide_eq_false h
 have hi : (if p.1 = k then (p.1, y) else p) = p := if_neg h
 simp only [List.any_cons, hd, Bool.false_or, List.map_cons, hi]
 by_cases hc : (r.any fun kv => decide (kv.1 = k)) = true
 ·rw [if_pos hc, if_pos hc]
 ·rw [if_neg hc, if_neg hc]; rfl
theorem putK_pos {κ : Type} [DecidableEq κ] {p : κ × V} {r : List (κ × V)} {k : κ} {y : V} (h : p.1 = k) (nd : k ∉ r.map (·.1)) : putK (p :: r) k y = (p.1, y) :: r := by
 unfold putK
 have hd : decide (p.1 = k) = true := decide_eq_true h
 have hi : (if p.1 = k then (p.1, y) else p) = (p.1, y) := if_pos h
 simp only [List.any_cons, hd, Bool.true_or, if_true, List.map_cons, hi]
 congr 1
 have : ∀ q ∈ r, (if q.1 = k then (q.1, y) else q) = q := fun q hq => by
  rw [if_neg (fun z => nd (by rw [← z]; exact List.mem_map_of_mem hq))]
 exact (List.map_congr_left this).trans (List.map_id _)
theorem put_rep {K : PySem.W.Frag} {H : Hp} {O : Hid} {κ : Type} [DecidableEq κ] (f : κ → Val) (k : κ) (hf : ∀ a, veq (f a) (f k) = decide (a = k)) {v : Val} {y : V} (ry : Rep K H O v y) : ∀ {kvs : List (κ × V)} {vs : List Val}, Reps K H O vs (kvs.map (·.2)) → (kvs.map (·.1)).Nodup →
  (putD (kvs.map (fun p => f p.1)) vs (f k) v).1 = (putK kvs k y).map (fun p => f p.1) ∧ Reps K H O (putD (kvs.map (fun p => f p.1)) vs (f k) v).2 ((putK kvs k y).map (·.2)) ∧ ((putK kvs k y).map (·.1)).Nodup ∧ ∀ a, a ∈ (putK kvs k y).map (·.1) → a = k ∨ a ∈ kvs.map (·.1)
 | [], vs, h, nd => by
  rw [putK_nil]
  cases vs with
  | nil => exact ⟨rfl, Reps.cons ry Reps.nil, by simp, by simp⟩
  | cons v vs => simp only [List.map_nil, Reps] at h; obtain ⟨_, _, e, _⟩ := h; cases e
 | p :: kvs, [], h, nd => by simp only [List.map_cons, Reps] at h; cases h
 | p :: kvs, v0 :: vs, h, nd => by
  simp only [List.map_cons, Reps] at h
  obtain ⟨x, r, e, rv, q⟩ := h
  cases e
  rw [List.map_cons, List.nodup_cons] at nd
  simp only [List.map_cons, putD]
  rw [hf p.1]
  by_cases e : p.1 = k
  ·rw [putK_pos e (by rw [← e]; exact nd.1)]
   simp only [decide_eq_true e, if_true, List.map_cons]
   exact ⟨by simp, Reps.cons ry q, List.nodup_cons.mpr nd, fun a ha => .inr ha⟩
  ·obtain ⟨i1, i2, i3, i4⟩ := put_rep f k hf ry q nd.2
   rw [putK_neg e]
   simp only [decide_eq_false e, Bool.false_eq_true, if_false, List.map_cons]
   refine ⟨by rw [i1], Reps.cons rv i2, List.nodup_cons.mpr ⟨fun z => ?_, i3⟩, fun a ha => ?_⟩
   ·rcases i4 _ z with z | z
    ·exact e z
    ·exact nd.1 z
   ·rcases List.mem_cons.mp ha with z | z
    ·exact .inr (z ▸ List.mem_cons_self ..)
    ·exact (i4 a z).imp id (List.mem_cons_of_mem _)
theorem sS_dput {m : List Nat} {i : Nat} {x : Str} {px p2 : Pos} {ik : Expr} {k : SE} (cx : Ctx X n M T N) (hi : X.N[i]? = some x) (hv : Vis X.env.scope x) (hd : dbg x = true) (he : PE X e (tE X.K T s)) (hk : PE X ik (tE X.K T k)) :
  PS X (.Assign [.Subscript (.Name x px) ik p2] e pos) (tS fr X.K T (.dput m i k s)) := by
 refine PS.imp (ps_store (str_ok cx.hw cx.u65) (pe_var hi hv (dbg_1 hd) (dbg_2 hd)) hk he ?_) (fun D σ H ⟨H0, O0, ρ, q, so, h, f⟩ => ?_)
 ·show swapsWith e (some (.Subscript (.Name x px) ik p2)) pos.line X.env = pure false
  cases e <;> rfl
 ·simp only [ex] at h
  obtain ⟨v, h1, hA⟩ := bok h
  obtain ⟨kv, h2, h⟩ := bok hA
  clear hA
  split at h
  ·cases h
  split at h
  ·rename_i t ks vs hvs
   obtain ⟨hl, h⟩ := iok h
   subst h
   rw [Bool.and_eq_true] at hl
   obtain ⟨hk1, hl⟩ := hl
   have hl := of_decide_eq_true hl
   refine seeE so h1 (fun y H1 e1 so1 ry => ?_)
   have so1' := so1.kept m (flat v)
   cases t with
   | true =>
    obtain ⟨kl, rfl, hdk⟩ := keyOk_N hk1
    obtain ⟨a, hσ, _, kvs, hxs, rfl, nd, rks, rxs⟩ := so1'.own i _ hvs rfl
    refine ⟨_, hσ, seeE so1 h2 (fun w H2 e2 so2 rw => ?_)⟩
    have rw0 := rw
    simp only [valOf, Rep] at rw
    obtain ⟨b, ys, rfl, _, _⟩ := rw
    have so3 := so2.kept m (flat v)
    have ry2 : Rep X.K H2 (OwnH O0 σ m ρ) v y := ry.ext (so1.wf m) e2
    have ry3 : Rep X.K H2 (OwnH O0 σ [] (VM.kept m (flat v) ρ)) v y := kept_rep (fl := flat v) (so2.wf m) (fun h => h) ry2
    have hO : OwnH O0 σ [] (VM.kept m (flat v) ρ) a := .inr ⟨i, _, hvs, rfl, by simp, hσ⟩
    have r4 : Reps X.K H2 (OwnH O0 σ [] (VM.kept m (flat v) ρ)) vs ((kvs.map fun p => (p.1, p.2.2)).map (·.2)) := by rw [List.map_map]; exact Reps.ext (so1'.wf []) e2 rxs
    have k4 : Reps X.K H2 (OwnH O0 σ [] (VM.kept m (flat v) ρ)) (kvs.map fun p => valOf p.1) (kvs.map fun p => V.ref p.2.1) := Reps.ext (so1'.wf []) e2 rks
    obtain ⟨i1, i2, i3, _⟩ := put_rep valOf (.tup kl) (fun a => veq_N a _) ry3 r4 (by rw [List.map_map]; exact nd.1)
    rw [← putN_putK kvs (.tup kl) b y] at i1 i2 i3
    rw [List.map_map, List.map_map] at i1
    rw [List.map_map] at i2 i3
    have rb : Rep X.K H2 (OwnH O0 σ [] (VM.kept m (flat v) ρ)) (valOf (.tup kl)) (.ref b) := Rep.flat (flat_key _) rw0
    have kp : Keep H2 (OwnH O0 σ [] (VM.kept m (flat v) ρ)) (upd H2 a (DN Tbl.w a (putN kvs (.tup kl) b y))) (OwnH O0 σ [] (VM.kept m (flat v) ρ)) := ⟨fun b o hb nb _ => by rw [upd_ne (show b ≠ a from fun z => nb (z ▸ hO))]; exact hb, fun b _ h => upd_nn h, fun t => (let ⟨_, h1, h2⟩ := (so3.wf []) a hO; Tabs.upd t h1 h2.ne), fun _ h => .inl h⟩
    have r5 := Reps.keep (so3.wf []) kp i2
    have k5 := Reps.keep (so3.wf []) kp (putN_keys (y := y) rb k4)
    refine .inr ⟨a, b, kvs, .tup kl, _, _, rfl, rfl, e2.vis _ _ hxs, nd.2, k4, rb, hdk, by rw [List.length_map] at hl; rw [← lineN_eq]; exact hl, ?_⟩
    obtain ⟨so6, k6⟩ := so3.change (t := .od true _ _) hvs rfl hσ rfl ⟨_, upd_same, i1, ⟨i3, putN_depth hdk nd.2⟩, by rw [i1]; exact k5, by rw [List.map_map] at r5; exact r5⟩
    exact f _ _ so6 ((e1.keep.trans (ext_own (K := X.K) (H0 := H0) e2)).trans k6)
   | false =>
    obtain ⟨key, rfl⟩ := keyOk_F hk1
    obtain ⟨a, hσ, _, kvs, hxs, rfl, nd, rxs⟩ := so1'.own i _ hvs rfl
    refine ⟨_, hσ, seeE so1 h2 (fun w H2 e2 so2 rw => ?_)⟩
    obtain rfl := rep_key rw
    have so3 := so2.kept m (flat v)
    have ry2 : Rep X.K H2 (OwnH O0 σ m ρ) v y := ry.ext (so1.wf m) e2
    have ry3 : Rep X.K H2 (OwnH O0 σ [] (VM.kept m (flat v) ρ)) v y := kept_rep (fl := flat v) (so2.wf m) (fun h => h) ry2
    have hO : OwnH O0 σ [] (VM.kept m (flat v) ρ) a := .inr ⟨i, _, hvs, rfl, by simp, hσ⟩
    have r4 : Reps X.K H2 (OwnH O0 σ [] (VM.kept m (flat v) ρ)) vs (kvs.map (·.2)) := Reps.ext (so1'.wf []) e2 rxs
    obtain ⟨i1, i2, i3, _⟩ := put_rep ofKey key (fun a => veq_key a key) ry3 r4 nd
    have r5 := Reps.keep (H' := upd H2 a (.dK (putK kvs key y))) (O' := OwnH O0 σ [] (VM.kept m (flat v) ρ)) (so3.wf []) ⟨fun b o hb nb _ => by rw [upd_ne (show b ≠ a from fun z => nb (z ▸ hO))]; exact hb, fun b _ h => upd_nn h, fun t => (let ⟨_, h1, h2⟩ := (so3.wf []) a hO; Tabs.upd t h1 h2.ne), fun _ h => .inl h⟩ i2
    refine .inl ⟨a, _, rfl, DPut.k (e2.vis _ _ hxs) (by rw [List.length_map] at hl; rw [← lineN_eq]; exact hl), ?_⟩
    obtain ⟨so6, k6⟩ := so3.change (t := .od false _ _) hvs rfl hσ rfl ⟨_, upd_same, i1, i3, r5⟩
    exact f _ _ so6 ((e1.keep.trans (ext_own (K := X.K) (H0 := H0) e2)).trans k6)
  ·cases h
end
end VM
namespace VM
open PySem PySem.Spec PyProof.Rows L2
variable [Tbl]
theorem Tabs.upd2 {T : List (Addr × Str)} {H : Hp} {a : Addr} {u : HO} (t : LamX.Tabs T H) (h1 : ∀ p ∈ T, p.1 ≠ a) (h2 : ∀ c q, H a ≠ some (LamX.CodeO c q)) : LamX.Tabs T (L2.upd H a u) := fun p hp => by
 obtain ⟨ps, g1, g2, g3⟩ := t p hp
 refine ⟨ps, ?_, g2, fun pos cv hc => ?_⟩
 ·rw [upd_ne (h1 p hp)]; exact g1
 ·obtain ⟨c, e1, e2⟩ := g3 pos cv hc
  refine ⟨c, e1, ?_⟩
  rw [upd_ne (fun z => h2 _ _ (by rw [← z]; exact e2))]; exact e2
section
variable {K : PySem.W.Frag} {H0 H H' : Hp} {O0 O : Hid} {σ : L2.St} {ρ : SEnv} {d : Addr} {kvs : List (Key × V)} {od : Obj}
theorem SRep.swap {s : Slot} {a : Addr} (w : Swap d kvs H H') (ha : a ≠ d) (r : SRep K H O a s) : SRep K H' O a s := by
 cases s with
 | no => exact r.elim
 | sh v => exact r.elim
 | ow vs => obtain ⟨xs, h, q⟩ := r; exact ⟨xs, w.oth _ _ ha h, Reps.swap w q⟩
 | od t ks vs =>
  cases t with
  | false => obtain ⟨kv, h, e, nd, q⟩ := r; exact ⟨kv, w.oth _ _ ha h, e, nd, Reps.swap w q⟩
  | true => obtain ⟨kv, h, e, nd, g, q⟩ := r; exact ⟨kv, w.oth _ _ ha h, e, nd, Reps.swap w g, Reps.swap w q⟩
theorem SOk.lock (so : SOk K H0 O0 H σ ρ) (hd : H d = some (.dK kvs)) (nd : ¬ OwnH O0 σ [] ρ d) : SOk K (L2.upd H0 d (.frz od (.dK kvs))) O0 (L2.upd H d (.frz od (.dK kvs))) σ ρ := by
 have sw : Swap d kvs H (L2.upd H d (.frz od (.dK kvs))) := ⟨.inl hd, .inr ⟨od, upd_same⟩, fun b o nb hb => by rw [upd_ne nb]; exact hb⟩
 have n0 : ¬ O0 d := fun z => nd (.inl z)
 have tabs := (so.wf []).tabs
 refine ⟨so.len, ⟨fun a ha => ?_, ?_⟩, ⟨fun a o ha nt => ?_, fun a ha => ?_, fun _ => Tabs.upd tabs hd True.intro⟩, fun i s h1 h2 => ?_, so.inj, fun i v h1 => ?_⟩
 ·obtain ⟨o, ho, m⟩ := so.wf0 a ha
  exact ⟨o, by rw [upd_ne (fun z => n0 (by rw [← z]; exact ha))]; exact ho, m⟩
 ·refine Tabs.upd2 so.wf0.tabs (fun p hp z => ?_) (fun c q z => ?_)
  ·obtain ⟨ps, g1, _⟩ := tabs p hp
   rw [z, hd] at g1
   cases g1
  ·have := so.ext.vis d _ z (nt := True.intro)
   rw [hd] at this
   cases this
 ·by_cases hz : a = d
  ·subst hz
   rw [upd_same] at ha
   rw [upd_same]; exact ha
  ·rw [upd_ne hz] at ha
   rw [upd_ne hz]; exact so.ext.vis a o ha
 ·by_cases hz : a = d
  ·subst hz; rw [upd_same] at ha; cases ha
  ·rw [upd_ne hz] at ha
   rw [upd_ne hz]; exact so.ext.dom a ha
 ·obtain ⟨a, e1, e2, e3⟩ := so.own i s h1 h2
  have ha : a ≠ d := fun z => nd (.inr ⟨i, s, h1, h2, by simp, by rw [← z]; exact e1⟩)
  exact ⟨a, e1, by rw [upd_ne ha]; exact e2, SRep.swap sw ha e3⟩
 ·obtain ⟨x, e1, e2⟩ := so.sh i v h1
  exact ⟨x, e1, Rep.swap sw e2⟩
theorem SOk.free (so : SOk K (L2.upd H0 d (.frz od (.dK kvs))) O0 H σ ρ) (w0 : WF H0 O0) (hd : H d = some (.frz od (.dK kvs))) (h0 : ∀ o, H0 d = some o → NT o → o = .dK kvs) : SOk K H0 O0 (L2.upd H d (.dK kvs)) σ ρ := by
 have sw : Swap d kvs H (L2.upd H d (.dK kvs)) := ⟨.inr ⟨od, hd⟩, .inl upd_same, fun b o nb hb => by rw [upd_ne nb]; exact hb⟩
 have tabs := (so.wf []).tabs
 refine ⟨so.len, w0, ⟨fun a o ha nt => ?_, fun a ha => ?_, fun _ => Tabs.upd tabs hd True.intro⟩, fun i s h1 h2 => ?_, so.inj, fun i v h1 => ?_⟩
 ·by_cases hz : a = d
  ·subst hz
   rw [upd_same, h0 o ha nt]
  ·rw [upd_ne hz]
   exact so.ext.vis a o (by rw [upd_ne hz]; exact ha)
 ·by_cases hz : a = d
  ·subst hz; rw [upd_same] at ha; cases ha
  ·rw [upd_ne hz] at ha
   have := so.ext.dom a ha
   rwa [upd_ne hz] at this
 ·obtain ⟨a, e1, e2, e3⟩ := so.own i s h1 h2
  have ha : a ≠ d := fun z => by subst z; rw [upd_same] at e2; cases e2
  exact ⟨a, e1, by rw [upd_ne ha] at e2; exact e2, SRep.swap sw ha e3⟩
 ·obtain ⟨x, e1, e2⟩ := so.sh i v h1
  exact ⟨x, e1, Rep.swap sw e2⟩
end
section
variable {fr : Bool} {X : Cx} {n : Nat} {M : Nm} {T : Tab} {N : List Str} {pos : Pos}
theorem PS.or {st : Stmt} {t u : TS} (h : PS X st t) (g : PS X st u) : PS X st (fun D σ H => t D σ H ∨ u D σ H) := ⟨fun pins s σ H D I q => q.elim (h.run pins s σ H D I) (g.run pins s σ H D I)⟩
theorem sS_forC {C : L2.St → Hp → Prop} {m : List Nat} {tg : Tg} {it : SI} {tgE iter : Expr} {b : List Stmt} {sb : SB} (cx : Ctx X n M T N) (hp : PassesOwn (model X.prog X.w) X.A X.env X.xe) (hi : PI X tgE iter (fun σ H R => C σ H ∧ tI X.K T it σ H R)) (hg : PG X tgE (gR X.K tg)) (hb : PSs X b (tB fr X.K T sb))
  (hs : noSet iter = true) : PS X (.For tgE iter b [] pos) (fun D σ H => C σ H ∧ tS fr X.K T (.loop m tg it sb) D σ H) :=
 PS.imp (ps_for hp cx.calm hi hg hb (noSet_fold hs)) (fun D σ H ⟨hC, H0, O0, ρ, q, so, h, f⟩ => by
  simp only [ex] at h
  obtain ⟨items, h1, h⟩ := bok h
  refine ⟨hC, OwnH O0 σ m ρ, vis m ρ, items, so.wf m, so.eok m, h1, fun J H1 e1 hit => ?_⟩
  have so1 := (so.extend e1).kept m false
  have hit1 := hit.mono (O' := OwnH O0 σ [] (kept m false ρ)) (fun a ha => kept_hid rfl ha)
  have k1 : Keep H (OwnH O0 σ [] ρ) H1 (OwnH O0 σ [] (kept m false ρ)) := ext_own (K := X.K) (H0 := H0) e1
  refine ⟨fun i k σ2 H2 => k = items.length - i ∧ i ≤ items.length ∧ ∃ ρ2, SOk X.K H0 O0 H2 σ2 ρ2 ∧ Keep H1 (OwnH O0 σ [] (kept m false ρ)) H2 (OwnH O0 σ2 [] ρ2) ∧ forGo (bindS tg) (exs T sb) (items.drop i) ρ2 = .ok q,
   ⟨items.length, by omega, Nat.zero_le _, _, so1, Keep.refl, by simpa using h⟩, ?_⟩
  rintro i k σ2 H2 ⟨rfl, hi, ρ2, so2, k2, hgo⟩
  obtain ⟨stop, go⟩ := hit1 i H2 _ (so2.wf []) k2
  by_cases hlt : i < items.length
  ·obtain ⟨g, y⟩ := go items[i] (List.getElem?_eq_getElem hlt)
   refine .inr ⟨g, fun σ' H' => i + 1 ≤ items.length ∧ ∃ ρ', SOk X.K H0 O0 H' σ' ρ' ∧ Keep H1 (OwnH O0 σ [] (kept m false ρ)) H' (OwnH O0 σ' [] ρ') ∧ forGo (bindS tg) (exs T sb) (items.drop (i + 1)) ρ' = .ok q,
    fun σ' H' nx => ⟨items.length - (i + 1), by omega, rfl, nx⟩, fun x H3 hy => ?_⟩
   obtain ⟨e3, rx⟩ := y x H3 hy
   rw [List.drop_eq_getElem_cons hlt] at hgo
   simp only [forGo] at hgo
   obtain ⟨ρ3, hb, hgo⟩ := bok hgo
   simp only [bindS] at hb
   obtain ⟨bs, hf, hb⟩ := bok hb
   cases hb
   obtain ⟨⟨fl, ρ4⟩, h4, hgo⟩ := bok hgo
   have so3 := so2.extend e3
   refine ⟨_, items[i], bs, so3.wf [], rx, hf, fun zs hz => ?_⟩
   obtain ⟨so5, k5⟩ := so3.sets hz
   refine ⟨H0, O0, _, (fl, ρ4), so5, h4, ?_⟩
   cases fl with
   | nx =>
    simp only at hgo
    exact fun σ' H' so' k' => ⟨hlt, ρ4, so', ((k2.trans e3.keep).trans k5).trans k', hgo⟩
   | rt v =>
    simp only at hgo
    cases hgo
    exact f
  ·have hie : i = items.length := by omega
   subst hie
   rw [List.drop_length] at hgo
   simp only [forGo] at hgo
   cases hgo
   exact .inl ⟨stop (Nat.le_refl _), f σ2 H2 so2 (k1.trans k2)⟩)
theorem sS_forK {i : Nat} {tg : Tg} {tgE : Expr} {x : Str} {px : Pos} {b : List Stmt} {sb : SB} (cx : Ctx X n M T N) (hp : PassesOwn (model X.prog X.w) X.A X.env X.xe) (hi : X.N[i]? = some x) (hv : Vis X.env.scope x) (hd : dbg x = true) (hg : PG X tgE (gR X.K tg)) (hb : PSs X b (tB fr X.K T sb)) :
  PS X (.For tgE (.Name x px) b [] pos) (tS fr X.K T (.loop [] tg (.keys (.var i)) sb)) := by
 have p := sS_forC (C := fun σ H => ∃ a od kvs, σ[i]? = some (some (.ref a)) ∧ H a = some (.frz od (.dK kvs))) (m := []) (it := .keys (.var i)) (pos := pos) cx hp (pi_keysI (T := T) (i := i) (px := px) hi hv hd) hg hb rfl
 refine PS.imp (PS.or (ps_lock p) p) (fun D σ H ⟨H0, O0, ρ, q, so, h, f⟩ => ?_)
 have h' := h
 simp only [ex] at h'
 obtain ⟨items, h1, _⟩ := bok h'
 obtain ⟨a, kvs, us, _, hσ, na, hda, _⟩ := keys_at (so.eok []) h1
 rcases hda with hda | ⟨od, hda⟩
 ·refine .inl ⟨a, .dK kvs, hda, trivial, fun od => ?_⟩
  have h0 : ∀ o, H0 a = some o → NT o → o = .dK kvs := fun o ho nt => by
   have := so.ext.vis a o ho nt
   rw [hda] at this
   cases this; rfl
  have sw2 : ∀ H', H' a = some (.frz od (.dK kvs)) → Swap a kvs H' (upd H' a (.dK kvs)) := fun H' ha => ⟨.inr ⟨od, ha⟩, .inl upd_same, fun b o nb hb => by rw [upd_ne nb]; exact hb⟩
  refine ⟨⟨a, od, kvs, hσ, upd_same⟩, _, O0, ρ, q, so.lock hda na, h, ?_⟩
  obtain ⟨fl, ρ'⟩ := q
  have xt : ∀ {H'}, Ext (upd H0 a (.frz od (.dK kvs))) H' → H' a = some (.frz od (.dK kvs)) ∧ Ext H0 (upd H' a (.dK kvs)) := fun {H'} e => by
   have ha := e.vis a _ upd_same
   refine ⟨ha, ⟨fun b o hb nt => ?_, fun b hb => ?_, fun t => Tabs.upd (e.tabs (Tabs.upd2 t (fun p hp z => ?_) (fun c q z => ?_))) ha True.intro⟩⟩
   ·by_cases hz : b = a
    ·subst hz; rw [upd_same, h0 o hb nt]
    ·rw [upd_ne hz]; exact e.vis b o (by rw [upd_ne hz]; exact hb)
   ·exact upd_nn (e.dom b (upd_nn hb))
   ·obtain ⟨ps, g1, _⟩ := (so.wf []).tabs p hp
    rw [z, hda] at g1; cases g1
   ·have := h0 _ z True.intro
    cases this
  cases fl with
  | nx =>
   intro σ' H' so' k'
   have ha : H' a = some (.frz od (.dK kvs)) := so'.ext.vis a _ upd_same
   refine ⟨ha, f σ' _ (so'.free so.wf0 ha h0) ⟨fun b o hb nb nt => ?_, fun b nb hb => ?_, fun t => Tabs.upd (k'.tabs (Tabs.upd t hda True.intro)) ha True.intro, fun b hb => ?_⟩⟩
   ·by_cases hz : b = a
    ·subst hz
     rw [hda] at hb; cases hb
     exact upd_same
    ·rw [upd_ne hz]
     exact k'.vis b o (by rw [upd_ne hz]; exact hb) nb
   ·exact upd_nn (k'.dom b nb (upd_nn hb))
   ·rcases k'.new b hb with z | z
    ·exact .inl z
    ·exact .inr (upd_nn z)
  | rt v =>
   cases fr with
   | false =>
    intro x H' e r
    obtain ⟨ha, e'⟩ := xt e
    exact ⟨ha, f x _ e' (Rep.swap (sw2 H' ha) r)⟩
   | true =>
    obtain ⟨vs, rfl, f⟩ := f
    refine ⟨vs, rfl, fun p H' ys np e hpl r => ?_⟩
    obtain ⟨ha, e'⟩ := xt e
    have npa : p ≠ a := fun z => by subst z; rw [upd_same] at np; cases np
    exact ⟨ha, f p _ ys (by rwa [upd_ne npa] at np) e' (by rw [upd_ne npa]; exact hpl) (Reps.swap (sw2 H' ha) r)⟩
 ·exact .inr ⟨⟨a, od, kvs, hσ, hda⟩, H0, O0, ρ, q, so, h, f⟩
end
end VM
namespace VM
open PySem PySem.Spec PyProof.Rows L2
variable [Tbl]
def isLC : Expr → Bool
 | .ListComp _ _ _ _ => true
 | _ => false
def isComp : SE → Bool
 | .comp _ _ it _ _ => notKeys it
 | _ => false
theorem isLC_ok {e : Expr} (h : isLC e = true) : ∃ a b c d, e = .ListComp a b c d := by
 cases e <;> first | exact ⟨_, _, _, _, rfl⟩ | cases h
def chkSet (M : Nm) (N : List Str) (i : Nat) (s : SE) (sc : Scope) (x : Str) (px : Pos) (e : Expr) : Bool :=
 decide (N[i]? = some x) && locB sc x && chkE M N s sc e && (if swB sc x px e then isComp s else (noComp e || isLC e))
def chkF (M : Nm) (N : List Str) (s : SE) (sc : Scope) (e : Expr) : Bool := match s with
 | .lst ses => match e with
  | .List es _ => chkEs M N ses sc es
  | _ => false
 | .comp own tg it c el => match e with
  | .ListComp x [⟨tgE, iter, ifs, 0⟩] scope p => notKeys it && chkE M N (.comp own tg it c el) sc (.ListComp x [⟨tgE, iter, ifs, 0⟩] scope p)
  | _ => false
 | .op .add a b => match e with
  | .BinOp x .Add y _ => chkE M N a sc x && chkE M N b sc y
  | _ => false
 | .op .mul a b => match e with
  | .BinOp x .Mult y _ => chkE M N a sc x && chkE M N b sc y
  | _ => false
 | .call f es => match e with
  | .Call (.Name x _) xs [] _ => M.fr f && decide (M.fn f = some x) && glB sc x && dbg x && chkEs M N es sc xs
  | _ => false
 | .bi .list es => match e with
  | .Call (.Name x _) (y :: xs) [] _ => decide (x = ("list" : Str)) && glB sc x && chkEs M N es sc (y :: xs)
  | _ => false
 | _ => false
def chkOwn (M : Nm) (N : List Str) (i : Nat) (s : SE) (sc : Scope) (x : Str) (px : Pos) (e : Expr) : Bool :=
 decide (N[i]? = some x) && locB sc x && chkF M N s sc e && (if swB sc x px e then isComp s else (noComp e || isLC e))
def chkMt (M : Nm) (N : List Str) (nm : Str) (i : Nat) (s : SE) (sc : Scope) (x : Str) (f : Str) (e : Expr) (apos cpos : Pos) : Bool :=
 decide (f = nm) && decide (N[i]? = some x) && visB sc x && dbg x && chkE M N s sc e && nst e && (apos.endLine == cpos.line)
mutual
def chkS (fr : Bool) (M : Nm) (N : List Str) : SS → Scope → Stmt → Bool
 | .asg m tg s, sc, st => match st with
  | .Assign [.Name x px] e _ => (match tg with
   | .nm i => chkSet M N i s sc x px e
   | .tp _ => false)
  | .Assign [.Tuple es k pt] e _ => (match tg with
   | .nm _ => false
   | .tp _ => chkG N sc (fun _ => true) tg (.Tuple es k pt) && chkE M N s sc e && (match e with
    | .Tuple vs _ _ => swN sc es vs
    | _ => true))
  | _ => false
 | .par m i j a b, sc, st => match st with
  | .Assign [.Tuple [.Name x px, .Name y py] _ _] (.Tuple [ea, eb] _ _) _ => decide (N[i]? = some x) && decide (N[j]? = some y) && decide (i ≠ j) && parB sc x px y py ea eb && chkE M N a sc ea && chkE M N b sc eb
  | _ => false
 | .parO m i j a b, sc, st => match st with
  | .Assign [.Tuple [.Name x px, .Name y py] _ _] (.Tuple [ea, eb] _ _) _ => decide (N[i]? = some x) && decide (N[j]? = some y) && decide (i ≠ j) && parB sc x px y py ea eb && chkF M N a sc ea && chkE M N b sc eb
  | _ => false
 | .own m i s, sc, st => match st with
  | .Assign [.Name x px] e _ => chkOwn M N i s sc x px e
  | _ => false
 | .ownd i _, sc, st => match st with
  | .Assign [.Name x _] (.Dict [] [] _) _ => decide (N[i]? = some x) && locB sc x
  | _ => false
 | .app m i s, sc, st => match st with
  | .Expr (.Call (.Attribute (.Name x px) f apos) [e] [] cpos) _ => chkMt M N "append" i s sc x f e apos cpos
  | _ => false
 | .ext m i s, sc, st => match st with
  | .Expr (.Call (.Attribute (.Name x px) f apos) [e] [] cpos) _ => chkMt M N "extend" i s sc x f e apos cpos
  | _ => false
 | .seti m i k s, sc, st => match st with
  | .Assign [.Subscript (.Name x _) ik _] e _ => decide (N[i]? = some x) && visB sc x && dbg x && chkE M N s sc e && chkE M N k sc ik && ixOk ik
  | _ => false
 | .dput m i k s, sc, st => match st with
  | .Assign [.Subscript (.Name x _) ik _] e _ => decide (N[i]? = some x) && visB sc x && dbg x && chkE M N s sc e && chkE M N k sc ik
  | _ => false
 | .iff m c a b, sc, st => match st with
  | .If ce as bs _ => tOk c && chkE M N c sc ce && chkB fr M N a sc as && chkB fr M N b sc bs
  | _ => false
 | .loop m tg it b, sc, st => match st with
  | .For tgE iter body [] _ => (chkI M N it sc tgE iter || (m.isEmpty && chkKeys N it sc iter)) && chkG N sc (fun _ => true) tg tgE && chkB fr M N b sc body && noSet iter
  | _ => false
 | .whl m μ c b, sc, st => match st with
  | .While ce body [] _ => tOk c && chkE M N c sc ce && chkB fr M N b sc body
  | _ => false
 | .ret m s, sc, st => match st with
  | .Return (some e) _ => if fr then chkF M N s sc e else chkE M N s sc e
  | _ => false
 | .retv i, sc, st => match st with
  | .Return (some (.Name x _)) _ => decide (N[i]? = some x) && visB sc x && dbg x
  | _ => false
 | .expr m s, sc, st => match st with
  | .Expr e _ => chkE M N s sc e && noComp e
  | _ => false
 | .raise _, _, _ => true
def chkB (fr : Bool) (M : Nm) (N : List Str) : SB → Scope → List Stmt → Bool
 | .nil, _, sts => sts.isEmpty
 | .cons s r, sc, sts => match sts with
  | st :: sts => chkS fr M N s sc st && chkB fr M N r sc sts
  | [] => false
end
section
variable {fr : Bool} {X : Cx} {n : Nat} {M : Nm} {T : Tab} {N : List Str}
theorem locB_loc {sc : Scope} {x : Str} (h : locB sc x = true) : Loc sc x := by
 unfold locB at h
 split at h <;> first | exact .inl (by assumption) | exact .inr (by assumption) | cases h
structure Ctx2 (X : Cx) (n : Nat) (M : Nm) (T : Tab) (N : List Str) : Prop extends Ctx X n M T N where
 kind : X.env.scope.kind = .function
 own : PassesOwn (model X.prog X.w) X.A X.env X.xe
 fn : ∀ x, X.fn x = true
theorem sndSet {m : List Nat} {i : Nat} {s : SE} {x : Str} {px pos : Pos} {e : Expr} (cx : Ctx2 X n M T N) (h : chkSet M N i s X.env.scope x px e = true) : PS X (.Assign [.Name x px] e pos) (tS fr X.K T (.asg m (.nm i) s)) := by
 unfold chkSet at h
 simp only [Bool.and_eq_true] at h
 obtain ⟨⟨⟨h1, h2⟩, h3⟩, h4⟩ := h
 have hi : X.N[i]? = some x := by rw [cx.hN]; exact of_decide_eq_true h1
 split at h4
 ·rename_i hsw
  cases s with
  | comp own tg it c el =>
   have h3' := h3
   simp only [chkE] at h3'
   split at h3'
   ·exact sS_setLc cx.toCtx cx.kind hi h4 h3 hsw
   ·cases h3'
  | _ => cases h4
 ·rename_i hsw
  refine sS_set cx.toCtx cx.kind hi (locB_loc h2) (.inl (cx.fn x)) (sndE s cx.toCtx h3).1 (by simpa using hsw) ?_
  rw [Bool.or_eq_true] at h4
  exact h4.imp id isLC_ok
theorem sndF {s : SE} {e : Expr} (cx : Ctx X n M T N) (h : chkF M N s X.env.scope e = true) : PE X e (tF X.K T s) := by
 unfold chkF at h
 split at h
 ·split at h
  ·exact sF_lst (sndA _ cx h)
  ·cases h
 ·split at h
  ·rw [Bool.and_eq_true] at h
   exact sF_comp cx h.1 h.2
  ·cases h
 ·split at h
  ·simp only [Bool.and_eq_true] at h
   exact sF_add (sndE _ cx h.1).1 (sndE _ cx h.2).1
  ·cases h
 ·split at h
  ·simp only [Bool.and_eq_true] at h
   exact sF_mul (sndE _ cx h.1).1 (sndE _ cx h.2).1
  ·cases h
 ·split at h
  ·simp only [Bool.and_eq_true] at h
   obtain ⟨⟨⟨⟨h0, h1⟩, h2⟩, h3⟩, h4⟩ := h
   exact sF_call cx (of_decide_eq_true h1) h0 (glB_gl h2) h3 (sndA _ cx h4) (chkEs_nst h4) (chkEs_nil h4)
  ·cases h
 ·split at h
  ·simp only [Bool.and_eq_true] at h
   obtain ⟨⟨h1, h2⟩, h3⟩ := h
   obtain rfl := of_decide_eq_true h1
   have g2 := chkEs_nst h3
   simp only [List.all_cons, Bool.and_eq_true] at g2
   exact sF_list cx (glB_gl h2) (sndA _ cx h3) g2.1 g2.2
  ·cases h
 ·cases h
theorem sndOwn {m : List Nat} {i : Nat} {s : SE} {x : Str} {px pos : Pos} {e : Expr} (cx : Ctx2 X n M T N) (h : chkOwn M N i s X.env.scope x px e = true) : PS X (.Assign [.Name x px] e pos) (tS fr X.K T (.own m i s)) := by
 unfold chkOwn at h
 simp only [Bool.and_eq_true] at h
 obtain ⟨⟨⟨h1, h2⟩, h3⟩, h4⟩ := h
 have hi : X.N[i]? = some x := by rw [cx.hN]; exact of_decide_eq_true h1
 split at h4
 ·rename_i hsw
  cases s with
  | comp own tg it c el =>
   have h3' := h3
   simp only [chkF] at h3'
   split at h3'
   ·rw [Bool.and_eq_true] at h3'
    exact sS_ownLc cx.toCtx cx.kind hi h4 h3'.2 hsw
   ·cases h3'
  | _ => cases h4
 ·rename_i hsw
  refine sS_own cx.toCtx cx.kind hi (locB_loc h2) (cx.fn x) (sndF cx.toCtx h3) (by simpa using hsw) ?_
  rw [Bool.or_eq_true] at h4
  exact h4.imp id isLC_ok
theorem sw_other {es : List Expr} {k : Nat} {p : Pos} {e : Expr} {env : Env} (h : ∀ vs k2 p2, e ≠ .Tuple vs k2 p2) : swappedStores [.Tuple es k p] e env = pure none := by
 cases e <;> first | rfl | exact absurd rfl (h _ _ _)
mutual
theorem sndS : ∀ (s : SS) {X : Cx} {st : Stmt}, Ctx2 X n M T N → chkS fr M N s X.env.scope st = true → PS X st (tS fr X.K T s)
 | .asg m tg s, X, st, cx, h => by
  simp only [chkS] at h
  split at h
  ·split at h
   ·exact sndSet cx h
   ·cases h
  ·split at h
   ·cases h
   ·rename_i es k pt e p _ ts
    simp only [Bool.and_eq_true] at h
    obtain ⟨⟨h1, h2⟩, h3⟩ := h
    refine sS_tup (sndE s cx.toCtx h2).1 (sndG (N := N) _ cx.hN cx.nd cx.calm (fun x _ => cx.fn x) h1) ?_
    split at h3
    ·exact sw_none cx.kind h3
    ·rename_i hne
     exact sw_other (fun vs k2 p2 e => hne vs k2 p2 e)
  ·cases h
 | .par m i j a b, X, st, cx, h => by
  simp only [chkS] at h
  split at h
  ·simp only [Bool.and_eq_true] at h
   obtain ⟨⟨⟨⟨⟨h1, h2⟩, h3⟩, h4⟩, h5⟩, h6⟩ := h
   exact sS_par cx.toCtx cx.kind (by rw [cx.hN]; exact of_decide_eq_true h1) (by rw [cx.hN]; exact of_decide_eq_true h2) (of_decide_eq_true h3) h4 (sndE a cx.toCtx h5).1 (sndE b cx.toCtx h6).1
  ·cases h
 | .parO m i j a b, X, st, cx, h => by
  simp only [chkS] at h
  split at h
  ·simp only [Bool.and_eq_true] at h
   obtain ⟨⟨⟨⟨⟨h1, h2⟩, h3⟩, h4⟩, h5⟩, h6⟩ := h
   exact sS_parO cx.toCtx cx.kind (by rw [cx.hN]; exact of_decide_eq_true h1) (by rw [cx.hN]; exact of_decide_eq_true h2) (of_decide_eq_true h3) h4 (sndF cx.toCtx h5) (sndE b cx.toCtx h6).1
  ·cases h
 | .own m i s, X, st, cx, h => by
  simp only [chkS] at h
  split at h
  ·exact sndOwn cx h
  ·cases h
 | .ownd i _, X, st, cx, h => by
  simp only [chkS] at h
  split at h
  ·simp only [Bool.and_eq_true] at h
   obtain ⟨h1, h2⟩ := h
   exact sS_ownd cx.toCtx cx.kind (by rw [cx.hN]; exact of_decide_eq_true h1) (locB_loc h2) (cx.fn _)
  ·cases h
 | .app m i s, X, st, cx, h => by
  simp only [chkS] at h
  split at h
  ·unfold chkMt at h
   simp only [Bool.and_eq_true] at h
   obtain ⟨⟨⟨⟨⟨⟨h0, h1⟩, h2⟩, h3⟩, h4⟩, h5⟩, h6⟩ := h
   obtain rfl := of_decide_eq_true h0
   exact sS_app (by rw [cx.hN]; exact of_decide_eq_true h1) (visB_vis h2) h3 (sndE s cx.toCtx h4).1 h5 h6
  ·cases h
 | .ext m i s, X, st, cx, h => by
  simp only [chkS] at h
  split at h
  ·unfold chkMt at h
   simp only [Bool.and_eq_true] at h
   obtain ⟨⟨⟨⟨⟨⟨h0, h1⟩, h2⟩, h3⟩, h4⟩, h5⟩, h6⟩ := h
   obtain rfl := of_decide_eq_true h0
   exact sS_ext (by rw [cx.hN]; exact of_decide_eq_true h1) (visB_vis h2) h3 (sndE s cx.toCtx h4).1 h5 h6
  ·cases h
 | .seti m i k s, X, st, cx, h => by
  simp only [chkS] at h
  split at h
  ·simp only [Bool.and_eq_true] at h
   obtain ⟨⟨⟨⟨⟨h1, h2⟩, h3⟩, h4⟩, h5⟩, h6⟩ := h
   exact sS_seti (by rw [cx.hN]; exact of_decide_eq_true h1) (visB_vis h2) h3 (sndE s cx.toCtx h4).1 (sndE k cx.toCtx h5).1 h6
  ·cases h
 | .dput m i k s, X, st, cx, h => by
  simp only [chkS] at h
  split at h
  ·simp only [Bool.and_eq_true] at h
   obtain ⟨⟨⟨⟨h1, h2⟩, h3⟩, h4⟩, h5⟩ := h
   exact sS_dput cx.toCtx (by rw [cx.hN]; exact of_decide_eq_true h1) (visB_vis h2) h3 (sndE s cx.toCtx h4).1 (sndE k cx.toCtx h5).1
  ·cases h
 | .iff m c a b, X, st, cx, h => by
  simp only [chkS] at h
  split at h
  ·simp only [Bool.and_eq_true] at h
   obtain ⟨⟨⟨h1, h2⟩, h3⟩, h4⟩ := h
   exact sS_if ((sndE c cx.toCtx h2).2 h1) (sndBl a cx h3) (sndBl b cx h4)
  ·cases h
 | .loop m tg it b, X, st, cx, h => by
  simp only [chkS] at h
  split at h
  ·simp only [Bool.and_eq_true] at h
   obtain ⟨⟨⟨h1, h2⟩, h3⟩, h4⟩ := h
   rw [Bool.or_eq_true] at h1
   rcases h1 with h1 | h1
   ·exact sS_for cx.toCtx cx.own (sndI it cx.toCtx h1) (sndG (N := N) tg cx.hN cx.nd cx.calm (fun x _ => cx.fn x) h2) (sndBl b cx h3) h4
   ·rw [Bool.and_eq_true, List.isEmpty_iff] at h1
    obtain ⟨i, x, px, rfl, rfl, hi, hv, hd⟩ := chkKeys_ok h1.2
    obtain rfl := h1.1
    exact sS_forK cx.toCtx cx.own (by rw [cx.hN]; exact hi) (visB_vis hv) hd (sndG (N := N) tg cx.hN cx.nd cx.calm (fun x _ => cx.fn x) h2) (sndBl b cx h3)
  ·cases h
 | .whl m μ c b, X, st, cx, h => by
  simp only [chkS] at h
  split at h
  ·simp only [Bool.and_eq_true] at h
   obtain ⟨⟨h1, h2⟩, h3⟩ := h
   exact sS_while cx.own ((sndE c cx.toCtx h2).2 h1) (sndBl b cx h3)
  ·cases h
 | .ret m s, X, st, cx, h => by
  simp only [chkS] at h
  split at h
  ·cases fr with
   | false => exact sS_ret (sndE s cx.toCtx (by simpa using h)).1
   | true => exact sS_retF (sndF cx.toCtx (by simpa using h))
  ·cases h
 | .retv i, X, st, cx, h => by
  simp only [chkS] at h
  split at h
  ·simp only [Bool.and_eq_true] at h
   obtain ⟨⟨h1, h2⟩, h3⟩ := h
   exact sS_retv (by rw [cx.hN]; exact of_decide_eq_true h1) (visB_vis h2) h3
  ·cases h
 | .expr m s, X, st, cx, h => by
  simp only [chkS] at h
  split at h
  ·rw [Bool.and_eq_true] at h
   exact sS_expr (sndE s cx.toCtx h.1).1 h.2
  ·cases h
 | .raise _, X, st, cx, h => sS_raise
theorem sndBl : ∀ (s : SB) {X : Cx} {sts : List Stmt}, Ctx2 X n M T N → chkB fr M N s X.env.scope sts = true → PSs X sts (tB fr X.K T s)
 | .nil, X, sts, cx, h => by
  simp only [chkB] at h
  cases sts with
  | nil => exact sB_nil
  | cons => cases h
 | .cons s r, X, [], cx, h => by simp only [chkB] at h; cases h
 | .cons s r, X, st :: sts, cx, h => by
  simp only [chkB, Bool.and_eq_true] at h
  exact sB_seq (sndS s cx h.1) (sndBl r cx h.2)
end
end
def scopeB (N P : List Str) (sc : Scope) : Bool :=
 decide (sc.kind = .function) && !sc.isCoroutine && !sc.isGenerator && decide N.Nodup && decide (N.take P.length = P) && P.all (fun x => decide (sc.names.lookup x = some .local) || decide (sc.names.lookup x = some .cell)) && sc.names.all (fun y => !decide (y.2 = .free))
theorem scope_by {N P : List Str} {sc : Scope} (h : scopeB N P sc = true) : FnScope N P sc := by
 unfold scopeB at h
 simp only [Bool.and_eq_true, Bool.not_eq_true', decide_eq_true_eq, List.all_eq_true, Bool.or_eq_true, decide_eq_false_iff_not] at h
 obtain ⟨⟨⟨⟨⟨⟨h1, h2⟩, h3⟩, h4⟩, h5⟩, h6⟩, h7⟩ := h
 exact ⟨h1, h2, h3, h4, h5, h6, h7⟩
def chkDr (fr : Bool) (M : Nm) (N ps : List Str) (d : SD) (st : Stmt) : Bool :=
 scopeB N ps (defScope st) && decide (d.np = ps.length) && decide (d.ns = N.length) && chkB fr M N d.body (defScope st) (defBody st)
def chkD (M : Nm) (N ps : List Str) (d : SD) (st : Stmt) : Bool := chkDr false M N ps d st
section
variable {P : Program} {w : World} {K : PySem.W.Frag} {mg : Str → Option Value} {base : Heap}
theorem start_get {N : List Str} {vs : List V} {i : Nat} {x : V} (h : vs[i]? = some x) : (start N vs)[i]? = some (some x) := by
 unfold L2.start
 have hl : i < vs.length := (List.getElem?_eq_some_iff.mp h).1
 rw [List.getElem?_append_left (by simpa using hl), List.getElem?_map, h]; rfl
theorem sok_start {H : Hp} {O : Hid} {N : List Str} {as : List Val} {vs : List V} {k : Nat} (w : WF H O) (r : Reps K H O as vs) (hk : as.length + k ≤ N.length) :
  SOk K H O H (start N vs) (as.map Slot.sh ++ List.replicate k Slot.no) := by
 have noOwn : ∀ (i : Nat) (s : Slot), (as.map Slot.sh ++ List.replicate k Slot.no)[i]? = some s → s.isOwn = false := fun i s h => by
  by_cases hi : i < as.length
  ·rw [List.getElem?_append_left (by simpa using hi), List.getElem?_map] at h
   cases e : as[i]? with
   | none => rw [e] at h; cases h
   | some a => rw [e] at h; cases h; rfl
  ·rw [List.getElem?_append_right (by simpa using hi), List.getElem?_replicate] at h
   split at h <;> cases h; rfl
 have hid : ∀ a, OwnH O (start N vs) [] (as.map Slot.sh ++ List.replicate k Slot.no) a → O a := fun a ha => by
  rcases ha with ha | ⟨i, s, h1, h2, _⟩
  ·exact ha
  ·rw [noOwn i s h1] at h2; cases h2
 refine ⟨?_, w, Ext.refl, fun i s h1 h2 => ?_, fun i j s t a h1 h2 => ?_, fun i v h1 => ?_⟩
 ·unfold L2.start
  rw [List.length_append, List.length_append, List.length_map, List.length_map, List.length_replicate, List.length_replicate, r.length]; omega
 ·rw [noOwn i s h1] at h2; cases h2
 ·rw [noOwn i s h1] at h2; cases h2
 ·by_cases hi : i < as.length
  ·rw [List.getElem?_append_left (by simpa using hi), List.getElem?_map] at h1
   cases e : as[i]? with
   | none => rw [e] at h1; cases h1
   | some a =>
    rw [e] at h1; cases h1
    obtain ⟨x, hx, rx⟩ := r.get e
    exact ⟨x, start_get hx, Rep.keep w ⟨fun _ _ h _ _ => h, fun _ _ h => h, id, fun a ha => .inl (hid a ha)⟩ rx⟩
  ·rw [List.getElem?_append_right (by simpa using hi), List.getElem?_replicate] at h1
   split at h1 <;> cases h1
theorem fn_ok {M : Nm} {T : Tab} {N ps : List Str} {d : SD} {x qual : Str} {st : Stmt} {f : Addr} {fd : FuncData} {n : Nat} (F : Fun K x qual st f fd) (hd : chkD M N ps d st = true) (fc : Facts M T P w K mg base n) (hlm : ∀ N f es sc e, M.lm N f es sc e = false := by intros; rfl) :
  FnOk P w K mg base CX0 (n + 1) f fd ps (spC K ps.length (runD T d)) := by
 unfold chkD chkDr at hd
 simp only [Bool.and_eq_true] at hd
 obtain ⟨⟨⟨h1, h2⟩, h3⟩, h4⟩ := hd
 have S := scope_by h1
 have hnp := of_decide_eq_true h2
 have hns := of_decide_eq_true h3
 refine F.ok S (fun vs H Q E ⟨O, as, r, w, ra, hl, _⟩ => by rw [ra.length]; exact hl) (fun cdv A outer s H vs Q E hr ⟨O, as, r, w, ra, hl, e, q⟩ => ?_)
 have hpl : ps.length ≤ N.length := by have := congrArg List.length S.pre; rw [List.length_take] at this; omega
 refine ⟨tB false K T d.body, sndBl (n := n) (M := M) (N := N) d.body ⟨⟨fc, rfl, S.nd, rfl, hr, noLm hlm⟩, S.kind, PassesOwn.never, fun _ => rfl⟩ h4, ?_⟩
 unfold runD at e
 by_cases hlen : as.length = d.np
 ·rw [if_pos hlen] at e
  obtain ⟨qq, h5, e⟩ := bok e
  refine ⟨H, O, _, qq, sok_start w ra (by omega), h5, ?_⟩
  obtain ⟨fl, ρ'⟩ := qq
  cases fl with
  | nx =>
   simp only at e
   cases e
   exact fun σ' H' so _ => q _ _ so.ext (by simp only [Rep])
  | rt v =>
   simp only at e
   cases e
   exact fun x H' ex r => q x H' ex r
 ·rw [if_neg hlen] at e; cases e
theorem fn_okF {M : Nm} {T : Tab} {N ps : List Str} {d : SD} {x : Str} {st : Stmt} {f : Addr} {fd : FuncData} {n : Nat} (F : Fun K x x st f fd) (hd : chkDr true M N ps d st = true) (fc : Facts M T P w K mg base n) (hlm : ∀ N f es sc e, M.lm N f es sc e = false := by intros; rfl) :
  FnOk P w K mg base CX0 (n + 1) f fd ps (spF K ps.length (runD T d)) := by
 unfold chkDr at hd
 simp only [Bool.and_eq_true] at hd
 obtain ⟨⟨⟨h1, h2⟩, h3⟩, h4⟩ := hd
 have S := scope_by h1
 have hnp := of_decide_eq_true h2
 have hns := of_decide_eq_true h3
 refine F.ok S (fun vs H Q E ⟨O, as, r, w, ra, hl, _⟩ => by rw [ra.length]; exact hl) (fun cdv A outer s H vs Q E hr ⟨O, as, r, w, ra, hl, e, q⟩ => ?_)
 have hpl : ps.length ≤ N.length := by have := congrArg List.length S.pre; rw [List.length_take] at this; omega
 refine ⟨tB true K T d.body, sndBl (n := n) (M := M) (N := N) d.body ⟨⟨fc, rfl, S.nd, rfl, hr, noLm hlm⟩, S.kind, PassesOwn.never, fun _ => rfl⟩ h4, ?_⟩
 unfold runD at e
 by_cases hlen : as.length = d.np
 ·rw [if_pos hlen] at e
  obtain ⟨qq, h5, e⟩ := bok e
  refine ⟨H, O, _, qq, sok_start w ra (by omega), h5, ?_⟩
  obtain ⟨fl, ρ'⟩ := qq
  cases fl with
  | nx =>
   simp only at e
   cases e
  | rt v =>
   simp only at e
   cases e
   exact ⟨_, rfl, q⟩
 ·rw [if_neg hlen] at e; cases e
end
end VM
namespace VM
open PySem PySem.Spec PyProof.Rows L2
variable [Tbl]
def tH (K : PySem.W.Frag) (T : Tab) (s : HE) : TE := fun σ H Q => ∃ O φ h ρ q, RelH K H O φ h ∧ EnvH K H O φ σ ρ ∧ evH T s ρ h = .ok q ∧
 ∀ x H' φ', KeepH H φ H' φ' → RelH K H' O φ' q.2 → RepH K H' O φ' q.1 x → Q x H'
def tHA (K : PySem.W.Frag) (T : Tab) (s : HEs) : TA := fun σ H Q => ∃ O φ h ρ q, RelH K H O φ h ∧ EnvH K H O φ σ ρ ∧ evHs T s ρ h = .ok q ∧
 ∀ xs H' φ', KeepH H φ H' φ' → RelH K H' O φ' q.2 → RepHs K H' O φ' q.1 xs → Q xs H'
def ItH (K : PySem.W.Frag) (J : HIt) (JJ : It) (H : Hp) (O : Hid) (φ : List Addr) : Prop :=
 ∀ (i : Nat) (H' : Hp) (O' : Hid) (φ' : List Addr) (h' : HHp), KeepO H O φ H' O' φ' → RelH K H' O' φ' h' → ∀ o, J.at h' i = .ok o →
  (o = none → JJ.stop i H') ∧ ∀ v, o = some v → JJ.go i H' ∧ ∀ x H'', JJ.yld i H' x H'' → Ext H' H'' ∧ RepH K H'' O' φ' v x
def tHI (K : PySem.W.Frag) (T : Tab) (s : HI) : TI := fun σ H Rr => ∃ O φ h ρ q, RelH K H O φ h ∧ EnvH K H O φ σ ρ ∧ evHI T s ρ h = .ok q ∧
 ∀ J H' φ', KeepH H φ H' φ' → RelH K H' O φ' q.2 → ItH K q.1 J H' O φ' → Rr J H'
section
variable {K : PySem.W.Frag} {H H' H1 : Hp} {O : Hid} {φ φ' φ1 : List Addr} {h h' : HHp} {a p : Addr} {σ : L2.St} {ρ : HEnv}
def Src (K : PySem.W.Frag) (J : HIt) (a : Addr) (H : Hp) (O : Hid) (φ : List Addr) : Prop :=
 ∀ (H' : Hp) (O' : Hid) (φ' : List Addr) (h' : HHp), KeepO H O φ H' O' φ' → RelH K H' O' φ' h' → ∀ i o, J.at h' i = .ok o → ∃ xs, SqL K H' a xs ∧ (o = none → xs.length ≤ i) ∧ ∀ v, o = some v → ∃ x, xs[i]? = some x ∧ RepH K H' O' φ' v x
theorem get_none {α : Type} {l : List α} {i : Nat} (e : l[i]? = none) : l.length ≤ i := List.getElem?_eq_none_iff.mp e
theorem src_itL {v : HV} {x : V} {J : HIt} (r : RelH K H O φ h) (rv : RepH K H O φ v x) (e : itL h v = .ok J) : ∃ a xs, x = .ref a ∧ SqL K H a xs ∧ Src K J a H O φ := by
 unfold itL at e
 split at e
 ·rename_i vs
  cases e
  simp only [RepH, Rep] at rv
  obtain ⟨a, xs, rfl, na, ha, rr⟩ := rv
  refine ⟨a, xs, rfl, SqL.of ha, fun H' O' φ' h' k r' i o eo => ?_⟩
  obtain ⟨n', h2⟩ := vis_keep k.k na ha
  have rr' := RepHs.ofP (Reps.keep r.wfo k.k rr)
  cases eo
  refine ⟨xs, SqL.of h2, fun z => ?_, fun u hu => rr'.get hu⟩
  rw [rr'.length]; exact get_none z
 ·rename_i n
  split at e
  ·rename_i ys hn
   cases e
   simp only [RepH] at rv
   obtain ⟨a, ha, rfl⟩ := rv
   obtain ⟨xs, hx, rx⟩ := r.obj n a _ ha hn
   refine ⟨a, xs, rfl, SqL.of hx, fun H' O' φ' h' k r' i o eo => ?_⟩
   simp only [HIt.at] at eo
   split at eo
   ·rename_i zs hz
    cases eo
    obtain ⟨ws, hw, rw'⟩ := r'.obj n a _ (pre_get k.pre ha) hz
    refine ⟨ws, SqL.of hw, fun z => ?_, fun u hu => rw'.get hu⟩
    rw [rw'.length]; exact get_none z
   ·cases eo
  ·cases e
 ·cases e
theorem itH_l {J : HIt} (s : Src K J a H O φ) : ItH K J (Itl K a) H O φ := fun i H' O' φ' h' k r o eo => by
 obtain ⟨xs, sq, h1, h2⟩ := s H' O' φ' h' k r i o eo
 refine ⟨fun z => ⟨xs, sq, h1 z⟩, fun v hv => ?_⟩
 obtain ⟨x, hx, rx⟩ := h2 v hv
 refine ⟨⟨xs, x, sq, hx⟩, fun y H'' hy => ?_⟩
 obtain ⟨rfl, f⟩ := hy
 have e := f xs sq
 rw [hx] at e; cases e
 exact ⟨Ext.refl, rx⟩
theorem itH_e {J : HIt} (s : Src K J a H O φ) : ItH K (.en J) (Ite K a) H O φ := fun i H' O' φ' h' k r o eo => by
 simp only [HIt.at] at eo
 obtain ⟨o1, e1, eo⟩ := bok eo
 cases eo
 obtain ⟨xs, sq, h1, h2⟩ := s H' O' φ' h' k r i o1 e1
 refine ⟨fun z => ⟨xs, sq, h1 (by cases o1 <;> first | rfl | cases z)⟩, fun v hv => ?_⟩
 cases o1 with
 | none => cases hv
 | some u =>
  cases hv
  obtain ⟨x, hx, rx⟩ := h2 u rfl
  refine ⟨⟨xs, x, sq, hx⟩, fun y H'' hy => ?_⟩
  obtain ⟨Ta, x', rfl, nT, rfl, f⟩ := hy
  have e := f xs sq
  rw [hx] at e; cases e
  refine ⟨Ext.upd nT, ?_⟩
  have k2 : KeepH H' φ' (upd H' Ta (.tup [.int i, x])) φ' := .ext (Ext.upd nT)
  simp only [RepH]
  exact ⟨Ta, _, rfl, SqT.of upd_same, RepHs.cons (by simp only [RepH, Rep]) (RepHs.cons (RepH.keep r.wfo k2 rx) RepHs.nil)⟩
theorem itH_z {J J' : HIt} {b : Addr} (s : Src K J a H O φ) (s' : Src K J' b H O φ) : ItH K (.zp J J') (Itz K a b) H O φ := fun i H' O' φ' h' k r o eo => by
 simp only [HIt.at] at eo
 obtain ⟨o1, e1, eo⟩ := bok eo
 obtain ⟨o2, e2, eo⟩ := bok eo
 obtain ⟨xs, sq, h1, h2⟩ := s H' O' φ' h' k r i o1 e1
 obtain ⟨ys, sq2, h3, h4⟩ := s' H' O' φ' h' k r i o2 e2
 cases o1 with
 | none =>
  cases eo
  have := h1 rfl
  exact ⟨fun z => ⟨xs, ys, sq, sq2, by omega⟩, fun v hv => by cases hv⟩
 | some u1 =>
  cases o2 with
  | none =>
   cases eo
   have := h3 rfl
   exact ⟨fun z => ⟨xs, ys, sq, sq2, by omega⟩, fun v hv => by cases hv⟩
  | some u2 =>
   cases eo
   refine ⟨fun z => (nomatch z), fun v hv => ?_⟩
   cases hv
   obtain ⟨x, hx, rx⟩ := h2 u1 rfl
   obtain ⟨y, hy, ry⟩ := h4 u2 rfl
   refine ⟨⟨xs, ys, x, y, sq, sq2, hx, hy⟩, fun z H'' hz => ?_⟩
   obtain ⟨Ta, x', y', rfl, nT, rfl, f1, f2⟩ := hz
   have e := f1 xs sq
   rw [hx] at e; cases e
   have e := f2 ys sq2
   rw [hy] at e; cases e
   refine ⟨Ext.upd nT, ?_⟩
   have k2 : KeepH H' φ' (upd H' Ta (.tup [x, y])) φ' := .ext (Ext.upd nT)
   simp only [RepH]
   exact ⟨Ta, _, rfl, SqT.of upd_same, RepHs.cons (RepH.keep r.wfo k2 rx) (RepHs.cons (RepH.keep r.wfo k2 ry) RepHs.nil)⟩
theorem itH_t {vs : List HV} {xs : List V} (r0 : RelH K H O φ h) (s : SqT K H a xs) (rr : RepHs K H O φ vs xs) : ItH K (.fx vs) (Itt K a) H O φ := fun i H' O' φ' h' k r o eo => by
 cases eo
 have sq := sqT_keep r0.wfo k.k s
 have rr' := RepHs.keepO r0.wfo k rr
 refine ⟨fun z => ⟨xs, sq, by rw [rr'.length]; exact get_none z⟩, fun v hv => ?_⟩
 obtain ⟨x, hx, rx⟩ := rr'.get hv
 refine ⟨⟨xs, x, sq, hx⟩, fun y H'' hy => ?_⟩
 obtain ⟨rfl, f⟩ := hy
 have e := f xs sq
 rw [hx] at e; cases e
 exact ⟨Ext.refl, rx⟩
theorem itH_p {J : It} {vs : List Val} (w : ItOk K J H (Oh O φ) vs) : ItH K (.fx (vs.map HV.p)) J H O φ := fun i H' O' φ' h' k r o eo => by
 cases eo
 obtain ⟨h1, h2⟩ := w i H' (Oh O' φ') r.wfo k.k
 refine ⟨fun z => h1 (by have := get_none z; rwa [List.length_map] at this), fun v hv => ?_⟩
 rw [List.getElem?_map] at hv
 cases e : vs[i]? with
 | none => rw [e] at hv; cases hv
 | some u =>
  rw [e] at hv
  cases hv
  obtain ⟨h3, h4⟩ := h2 u e
  exact ⟨h3, fun x H'' hy => by simp only [RepH]; exact h4 x H'' hy⟩
theorem itH_r {J : It} {vs : List Val} (w : ∀ H2 O2, ItOk K J H2 O2 vs) : ItH K (.fx (vs.map HV.p)) J H O φ := itH_p (w H (Oh O φ))
end
def tIR (K : PySem.W.Frag) (T : Tab) (it : SI) : TI := fun σ H Rr => ∃ O ρ vs, WF H O ∧ EOk K H O σ ρ ∧ evI T it ρ = .ok vs ∧ ∀ J H', Ext H H' → (∀ H2 O2, ItOk K J H2 O2 vs) → Rr J H'
section
variable {X : Cx} {n : Nat} {M : Nm} {T : Tab} {N : List Str} {e e2 e3 a b : Expr} {s s2 s3 : SE} {ha hb he : HE} {hes : HEs} {es : List Expr} {tg : Expr} {pos : Pos}
theorem rI_rng1 {p pos : Pos} (hg : Gl X "range") (hm : X.mg "range" = none) (h : PE X e (tE X.K T s)) (n : nst e = true) : PI X tg (.Call (.Name "range" p) [e] [] pos) (tIR X.K T (.rng1 s)) :=
 PI.imp (pi_range1 hg hm (sA_cons h sA_nil n) (by rw [star_cons n]; rfl)) (fun σ H Rr ⟨O, ρ, vs, w, eo, hv, q⟩ => by
  simp only [evI] at hv
  obtain ⟨u, hu, hv⟩ := bok hv
  obtain ⟨j, hj, hv⟩ := bok hv
  obtain rfl := asInt_ok hj
  obtain ⟨hs, hv⟩ := iok hv
  subst hv
  refine ⟨O, ρ, [.int j], w, eo, by simp only [evs, hu]; rfl, fun xs H1 e1 r1 => ?_⟩
  simp only [Reps, Rep] at r1
  obtain ⟨x, r, rfl, rfl, rfl⟩ := r1
  have hs' := of_decide_eq_true hs
  exact ⟨j, rfl, by omega, by omega, q _ _ e1 (fun _ _ => it_rng 0 _)⟩)
theorem rI_rng2 {p pos : Pos} (hg : Gl X "range") (hm : X.mg "range" = none) (h : PE X e (tE X.K T s)) (n : nst e = true) (h2 : PE X e2 (tE X.K T s2)) (n2 : nst e2 = true) : PI X tg (.Call (.Name "range" p) [e, e2] [] pos) (tIR X.K T (.rng2 s s2)) :=
 PI.imp (pi_range2 hg hm (sA_cons h (sA_cons h2 sA_nil n2) n) (by rw [star_cons n, star_cons n2]; rfl) (by rw [star_cons n2]; rfl)) (fun σ H Rr ⟨O, ρ, vs, w, eo, hv, q⟩ => by
  simp only [evI] at hv
  obtain ⟨u, hu, hv⟩ := bok hv
  obtain ⟨u2, hu2, hv⟩ := bok hv
  obtain ⟨i, hi, hv⟩ := bok hv
  obtain ⟨j, hj, hv⟩ := bok hv
  obtain rfl := asInt_ok hj
  obtain rfl := asInt_ok hi
  obtain ⟨hs, hv⟩ := iok hv
  subst hv
  refine ⟨O, ρ, [.int i, .int j], w, eo, by simp only [evs, hu, hu2]; rfl, fun xs H1 e1 r1 => ?_⟩
  simp only [Reps, Rep] at r1
  obtain ⟨x, r, rfl, rfl, y, r', rfl, rfl, rfl⟩ := r1
  have hs' := of_decide_eq_true hs
  exact ⟨i, j, rfl, by omega, q _ _ e1 (fun _ _ => it_rng i _)⟩)
theorem rI_rng3 {p pos : Pos} (hg : Gl X "range") (hm : X.mg "range" = none) (h : PE X e (tE X.K T s)) (n : nst e = true) (h2 : PE X e2 (tE X.K T s2)) (n2 : nst e2 = true) (h3 : PE X e3 (tE X.K T s3)) (n3 : nst e3 = true) :
  PI X tg (.Call (.Name "range" p) [e, e2, e3] [] pos) (tIR X.K T (.rng3 s s2 s3)) :=
 PI.imp (pi_range3 hg hm (sA_cons h (sA_cons h2 (sA_cons h3 sA_nil n3) n2) n) (star_cons n) (star_any (by simp [n2, n3]))) (fun σ H Rr ⟨O, ρ, vs, w, eo, hv, q⟩ => by
  simp only [evI] at hv
  obtain ⟨u, hu, hv⟩ := bok hv
  obtain ⟨u2, hu2, hv⟩ := bok hv
  obtain ⟨u3, hu3, hv⟩ := bok hv
  obtain ⟨i, hi, hv⟩ := bok hv
  obtain ⟨j, hj, hv⟩ := bok hv
  obtain ⟨k, hk, hv⟩ := bok hv
  obtain rfl := asInt_ok hj
  obtain rfl := asInt_ok hi
  obtain rfl := asInt_ok hk
  obtain ⟨hs, hv⟩ := iok hv
  subst hv
  rw [Bool.and_eq_true] at hs
  have hk := of_decide_eq_true hs.2
  refine ⟨O, ρ, [.int i, .int j, .int k], w, eo, by simp only [evs, hu, hu2, hu3]; rfl, fun xs H1 e1 r1 => ?_⟩
  simp only [Reps, Rep] at r1
  obtain ⟨x, r, rfl, rfl, y, r', rfl, rfl, z, r'', rfl, rfl, rfl⟩ := r1
  exact ⟨i, j, k, rngN i j k, rfl, ⟨by omega, by omega, small_pos hs.1 hk, rng_size hk.1⟩, q _ _ e1 (fun _ _ => it_rngC i k _)⟩)
theorem hE_pu {m : List Nat} (h : PE X e (tE X.K T s)) : PE X e (tH X.K T (.pu m s)) := PE.imp h (fun σ H Q ⟨O, φ, h, ρ, q, r, g, e, f⟩ => by
 simp only [evH] at e
 obtain ⟨v, e1, e⟩ := bok e
 obtain ⟨hf, e⟩ := iok e
 subst e
 exact see_pu r g e1 hf (fun x H1 x1 r1 p1 => f x H1 φ (.ext x1) r1 p1))
theorem hE_puI {m : List Nat} (h : PE X e (tE X.K T s)) : PE X e (tH X.K T (.puI m s)) := PE.imp h (fun σ H Q ⟨O, φ, h, ρ, q, r, g, e, f⟩ => by
 simp only [evH] at e
 obtain ⟨v, e1, e⟩ := bok e
 split at e
 ·rename_i hi
  cases e
  refine ⟨O, seeH m h ρ, v, r.wf, g.see r m, e1, fun x H1 x1 rx => f x H1 φ (.ext x1) (r.ext x1) ?_⟩
  unfold insOk at hi
  split at hi
  ·rename_i c ns vs
   rw [Bool.and_eq_true] at hi
   simp only [RepH]
   simp only [Rep] at rx ⊢
   obtain ⟨a, C, dx, kvs, rfl, no, hc, hx, ek, rr⟩ := rx
   refine ⟨a, C, dx, kvs, rfl, fun z => z.elim no fun z => ?_, hc, hx, ek, Reps.flat hi.1 rr⟩
   obtain ⟨n, hn, he⟩ := List.mem_iff_getElem.mp z
   obtain ⟨o, ho, hb⟩ := (r.ext x1).ob (a := a) (n := n) (by rw [List.getElem?_eq_getElem hn, he])
   have hk := List.all_eq_true.mp hi.2 o (List.mem_of_getElem? ho)
   cases o with
   | lst vs => obtain ⟨xs, hb, _⟩ := hb; rw [hx] at hb; cases hb
   | dic t ks vs =>
    cases t <;> obtain ⟨kk, hb, _⟩ := hb <;> rw [hx] at hb <;> cases hb
   | ins c ns vs => cases hk
  ·cases hi
 ·cases e)
theorem hE_puF {m : List Nat} (h : PE X e (tF X.K T s)) : PE X e (tH X.K T (.puF m s)) := PE.imp h (fun σ H Q ⟨O, φ, h, ρ, q, r, g, e, f⟩ => by
 simp only [evH] at e
 obtain ⟨v, e1, e⟩ := bok e
 cases v with
 | lst vs =>
  simp only at e
  obtain ⟨hf, e⟩ := iok e
  subst e
  have fin : ∀ p H' xs, H p = none → Ext H H' → H' p = some (.lst xs) → Reps X.K H' (Oh O (φ ++ [p])) vs xs → Q (.ref p) H' := fun p H' xs np x1 hp rr => by
   obtain ⟨r', k'⟩ := r.alloc (o := .lst (vs.map HV.p)) np x1 ⟨xs, hp, RepHs.ofP rr⟩
   exact f _ _ _ k' r' (by simp only [RepH]; exact ⟨p, by rw [← r.len]; simp, rfl⟩)
  have oh : ∀ {p : Addr}, ∀ a, Oh O (φ ++ [p]) a → Oh O φ a ∨ a = p := fun {p} a ha => by
   rcases ha with ha | ha
   ·exact .inl (.inl ha)
   ·rw [List.mem_append, List.mem_singleton] at ha
    exact ha.imp .inr id
  by_cases hp : onlyP m ρ = true
  ·refine ⟨Oh O φ, _, vs, r.wfo, g.seeP hp, e1, fun p H' xs np x1 hpp rr => fin p H' xs np x1 hpp ?_⟩
   have w' : WF H' (fun a => Oh O φ a ∨ a = p) := by
    refine ⟨fun a ha => ?_, WF.tabs (r.wfo.ext x1)⟩
    rcases ha with ha | rfl
    ·exact (r.wfo.ext x1) a ha
    ·exact ⟨_, hpp, True.intro⟩
   exact Reps.keep w' ⟨fun _ _ h _ _ => h, fun _ _ h => h, id, fun a ha => .inl (oh a ha)⟩ rr
  ·have hfl : flats vs = true := by
    rw [Bool.or_eq_true] at hf
    exact hf.resolve_right hp
   exact ⟨O, _, vs, r.wf, g.see r m, e1, fun p H' xs np x1 hpp rr => fin p H' xs np x1 hpp (Reps.flat hfl rr)⟩
 | _ => cases e)
theorem hE_var {i : Nat} {x : Str} (hN : X.N[i]? = some x) (hv : Vis X.env.scope x) (h1 : dbg x = true) : PE X (.Name x pos) (tH X.K T (.var i)) :=
 PE.imp (pe_var hN hv (dbg_1 h1) (dbg_2 h1)) (fun σ H Q ⟨O, φ, h, ρ, q, r, g, e, f⟩ => by
  simp only [evH] at e
  split at e
  ·rename_i v hv
   cases e
   obtain ⟨x, h1, h2⟩ := g.get _ _ hv
   exact ⟨x, h1, f x H φ .refl r h2⟩
  ·cases e)
theorem hA_nil : PA X [] (tHA X.K T .nil) := PA.imp pa_nil (fun σ H Q ⟨O, φ, h, ρ, q, r, g, e, f⟩ => by
 simp only [evHs] at e; cases e
 exact f [] H φ .refl r RepHs.nil)
theorem hA_cons (h1 : PE X e (tH X.K T he)) (h2 : PA X es (tHA X.K T hes)) (n : nst e = true) : PA X (e :: es) (tHA X.K T (.cons he hes)) :=
 PA.imp (pa_cons h1 h2 (star_cons n)) (fun σ H Q ⟨O, φ, h, ρ, q, r, g, e, f⟩ => by
  simp only [evHs] at e
  obtain ⟨q1, e1, e⟩ := bok e
  obtain ⟨q2, e2, e⟩ := bok e
  cases e
  exact ⟨O, φ, h, ρ, q1, r, g, e1, fun x H1 φ1 k1 r1 p1 => ⟨O, φ1, q1.2, ρ, q2, r1, g.keep r.wfo k1, e2, fun xs H2 φ2 k2 r2 p2 => f _ _ _ (k1.trans k2) r2 (RepHs.cons (RepH.keep r1.wfo k2 p1) p2)⟩⟩)
theorem hE_lst (h : PA X es (tHA X.K T hes)) : PE X (.List es pos) (tH X.K T (.lst hes)) :=
 PE.imp (pe_lst h) (fun σ H Q ⟨O, φ, h, ρ, q, r, g, e, f⟩ => by
  simp only [evH] at e
  obtain ⟨q1, e1, e⟩ := bok e
  obtain ⟨hl, e⟩ := iok e
  subst e
  refine ⟨O, φ, h, ρ, q1, r, g, e1, fun xs H1 φ1 k1 r1 p1 => ⟨by rw [p1.length, ← lineN_eq]; exact hl, fun p np => ?_⟩⟩
  have x1 : Ext H1 (upd H1 p (.lst xs)) := Ext.upd np
  have k2 : KeepH H1 φ1 (upd H1 p (.lst xs)) (φ1 ++ [p]) := ⟨⟨fun a u hu _ nt => x1.vis a u hu nt, fun a _ h => x1.dom a h, x1.tabs, fun a ha => by
   rw [List.mem_append, List.mem_singleton] at ha
   rcases ha with ha | rfl
   ·exact .inl ha
   ·exact .inr np⟩, List.prefix_append _ _⟩
  obtain ⟨r', k'⟩ := r1.alloc (o := .lst q1.1) np x1 ⟨xs, upd_same, RepHs.keep r1.wfo k2 p1⟩
  exact f _ _ _ (k1.trans k') r' (by simp only [RepH]; exact ⟨p, by rw [← r1.len]; simp, rfl⟩))
theorem hE_dnew : PE X (.Dict [] [] pos) (tH X.K T (.dnew false)) :=
 PE.imp pe_dnewK (fun σ H Q ⟨O, φ, h, ρ, q, r, g, e, f⟩ => by
  simp only [evH] at e
  cases e
  intro p np
  have x1 : Ext H (upd H p (.dK [])) := Ext.upd np
  obtain ⟨r', k'⟩ := r.alloc (o := .dic false [] []) np x1 ⟨[], upd_same, rfl, List.nodup_nil, RepHs.nil⟩
  exact f _ _ _ k' r' (by simp only [RepH]; exact ⟨p, by rw [← r.len]; simp, rfl⟩))
theorem hE_dnewN (hw : X.w = Tbl.w) : PE X (.Dict [] [] pos) (tH X.K T (.dnew true)) :=
 PE.imp pe_dnewN (fun σ H Q ⟨O, φ, h, ρ, q, r, g, e, f⟩ => by
  simp only [evH] at e
  cases e
  intro p np
  rw [hw]
  have x1 : Ext H (upd H p (DN Tbl.w p [])) := Ext.upd np
  obtain ⟨r', k'⟩ := r.alloc (o := .dic true [] []) np x1 ⟨[], upd_same, rfl, ⟨List.nodup_nil, fun _ h => by cases h⟩, RepHs.nil, RepHs.nil⟩
  exact f _ _ _ k' r' (by simp only [RepH]; exact ⟨p, by rw [← r.len]; simp, rfl⟩))
theorem hE_tup {k : Nat} (h : PA X es (tHA X.K T hes)) : PE X (.Tuple es k pos) (tH X.K T (.tup hes)) :=
 PE.imp (pe_tup h) (fun σ H Q ⟨O, φ, h, ρ, q, r, g, e, f⟩ => by
  simp only [evH] at e
  obtain ⟨q1, e1, e⟩ := bok e
  obtain ⟨hl, e⟩ := iok e
  subst e
  refine ⟨O, φ, h, ρ, q1, r, g, e1, fun xs H1 φ1 k1 r1 p1 => ⟨by rw [p1.length, ← lineN_eq]; exact hl, fun p np => ?_⟩⟩
  have x1 : Ext H1 (upd H1 p (.tup xs)) := Ext.upd np
  have k2 : KeepH H1 φ1 (upd H1 p (.tup xs)) φ1 := .ext x1
  exact f _ _ _ (k1.trans k2) (r1.ext x1) (by simp only [RepH]; exact ⟨p, xs, rfl, SqT.of upd_same, RepHs.keep r1.wfo k2 p1⟩))
theorem atI_repH {K : PySem.W.Frag} {H : Hp} {O : Hid} {φ : List Addr} {vs : List HV} {xs : List V} {i : Int} {v : HV} (r : RepHs K H O φ vs xs) (h : atI vs i = some v) : ∃ x, atI xs i = some x ∧ RepH K H O φ v x := by
 unfold atI at h ⊢
 rw [r.length]
 cases e : ixN vs.length i with
 | none => rw [e] at h; cases h
 | some j =>
  rw [e] at h
  obtain ⟨x, h1, h2⟩ := r.get (show vs[j]? = some v from h)
  exact ⟨x, h1, h2⟩
theorem valV_repH {K : PySem.W.Frag} {H : Hp} {O : Hid} {φ : List Addr} {κ : Type} [DecidableEq κ] (f : κ → Val) (k : κ) (hf : ∀ a, veq (f a) (f k) = decide (a = k)) : ∀ {kvs : List (κ × V)} {vs : List HV}, RepHs K H O φ vs (kvs.map (·.2)) →
  (match lookDH (kvs.map (fun p => f p.1)) vs (f k) with
   | some v => ∃ x, valV kvs k = some x ∧ RepH K H O φ v x
   | none => valV kvs k = none)
 | [], vs, h => by
  cases vs with
  | nil => rfl
  | cons v vs => simp only [List.map_nil, RepHs] at h; obtain ⟨_, _, e, _⟩ := h; cases e
 | p :: kvs, [], h => by simp only [List.map_cons, RepHs] at h; cases h
 | p :: kvs, v :: vs, h => by
  simp only [List.map_cons, RepHs] at h
  obtain ⟨x, r, e, rv, q⟩ := h
  cases e
  have ih := valV_repH f k hf q
  simp only [List.map_cons, lookDH]
  rw [hf p.1]
  by_cases e : p.1 = k
  ·simp only [decide_eq_true e, if_true]
   exact ⟨p.2, valV_pos e, rv⟩
  ·simp only [decide_eq_false e, Bool.false_eq_true, if_false]
   rw [valV_neg e]
   exact ih
theorem ixr_dget (hu : X.A.units + 65 < cLine) {value slice : Expr} {pins : List (Addr × Obj)} {s : Shared} {σ : L2.St} {H : Hp} {y : V} {v u : Value} {Q : VK} {p : Addr} {t : V} (I : Inv X pins σ H s) (rx : RelV (.ref p) v) (ry : RelV y u) (g : DGet H p y (some t)) (q : Q t H)
  (hs : subscripted slice false v u = operate [v, u] (getItem v u)) : wpAny (model X.prog X.w) X.A (subscriptTail value slice v u) (EP X pins σ Q) X.xe s := by
 cases (show v = Value.ref p from rx)
 have hT := dict_typeIs I g
 unfold subscriptTail
 refine wpAny_bind ?_
 rw [getitemInPython_of_ne hT.not_modules]
 refine wpAny_bind (wpAny_specialOf hT PySem.F.slot_dict_getitem.lookup ?_)
 have fin : wpAny (model X.prog X.w) X.A (subscripted slice false (.ref p) u) (fun r s₃ => wpAny (model X.prog X.w) X.A (letTemporaryGo value (.ref p) r >>= fun _ => pure r) (EP X pins σ Q) X.xe s₃) X.xe s := by
  rw [hs]
  exact wpAny_operating (d_getItem (by omega) I g ry fun w' s3 I3 rw' => wpAny_bind (wpAny_letTemporaryGo (wpAny_pure ⟨t, H, I3, rw', q⟩)))
 first
  | exact wpAny_pure (wpAny_bind fin)
  | exact wpAny_bind (wpAny_pure (wpAny_bind fin))
  | exact wpAny_bind fin
theorem hix (hw : X.w = Tbl.w) (hu : X.A.units + 65 < cLine) : IxR X (fun x y H Q => ∃ O φ h a b v, RelH X.K H O φ h ∧ RepH X.K H O φ a x ∧ Rep X.K H (Oh O φ) b y ∧ ixH h a b = .ok v ∧ ∀ z H', Ext H H' → RepH X.K H' O φ v z → Q z H') := by
 intro value slice pins s σ H x y v' u Q I rx ry ⟨O, φ, h, a, b, v, w, ra, rb, e, q⟩ hs
 unfold ixH at e
 split at e
 ·rename_i pv
  obtain ⟨z, e1, e⟩ := bok e
  cases e
  simp only [RepH] at ra
  exact six hw hu value slice pins s σ H x y v' u Q I rx ry ⟨Oh O φ, pv, b, z, w.wfo, ra, rb, e1, fun z' H' x' r' => q z' H' x' (by simp only [RepH]; exact r')⟩ hs
 ·rename_i n
  simp only [RepH] at ra
  obtain ⟨p, hp, rfl⟩ := ra
  split at e
  ·rename_i xs hn
   split at e
   ·have h1 := ofO_ok e
    obtain ⟨ys, hy, ry'⟩ := w.obj n p _ hp hn
    obtain ⟨t, h2, h3⟩ := atI_repH ry' h1
    simp only [Rep] at rb
    exact ix_list value slice pins s σ H _ y v' u Q I rx ry ⟨p, ys, _, t, rfl, rb, SqL.of hy, h2, q t H Ext.refl h3⟩ hs
   ·cases e
  ·rename_i t ks vs hn
   split at e
   ·rename_i hk
    have h1 := ofO_ok e
    cases t with
    | true =>
     obtain ⟨kl, rfl, hdk⟩ := keyOk_N hk
     have rb0 := rb
     simp only [valOf, Rep] at rb
     obtain ⟨b, xs, rfl, _, _⟩ := rb
     obtain ⟨kvs, hd, rfl, nd, gk, rr⟩ := w.obj n p _ hp hn
     have hl := valV_repH (kvs := kvs.map fun p => (p.1, p.2.2)) valOf (.tup kl) (fun a => veq_N a _) (by rw [List.map_map]; exact rr)
     rw [List.map_map] at hl
     have hl' : ∃ x, valV (kvs.map fun p => (p.1, p.2.2)) (.tup kl) = some x ∧ RepH X.K H O φ v x := by
      revert hl
      show (match lookDH (kvs.map fun p => valOf p.1) vs (valOf (.tup kl)) with
       | some v => ∃ x, valV (kvs.map fun p => (p.1, p.2.2)) (.tup kl) = some x ∧ RepH X.K H O φ v x
       | none => valV (kvs.map fun p => (p.1, p.2.2)) (.tup kl) = none) → _
      rw [h1]
      exact fun h => h
     obtain ⟨t, ht, rt⟩ := hl'
     cases (show v' = Value.ref p from rx)
     cases (show u = Value.ref b from ry)
     exact ixn_get hu hw I (dn_of hw I hd nd.2 (RepHs.toP gk)) ⟨rep_is I.hok (inK I) (.tup kl) rb0 rfl, hdk⟩ ht (q t H Ext.refl rt) hs
    | false =>
    obtain ⟨k, rfl⟩ := keyOk_F hk
    have ex := rep_key rb
    subst ex
    obtain ⟨kvs, hd, rfl, nd, rr⟩ := w.obj n p _ hp hn
    have g := valV_repH ofKey k (fun a => veq_key a k) rr
    rw [h1] at g
    obtain ⟨t, ht, rt⟩ := g
    exact ixr_dget hu I rx ry (by rw [← ht]; exact DGet.k hd) (q t H Ext.refl rt) hs
   ·cases e
  ·cases e
 ·rename_i xs
  simp only [RepH] at ra
  obtain ⟨p, ys, rfl, sq, rr⟩ := ra
  split at e
  ·have h1 := ofO_ok e
   obtain ⟨t, h2, h3⟩ := atI_repH rr h1
   simp only [Rep] at rb
   exact ix_tup value slice pins s σ H _ y v' u Q I rx ry ⟨p, ys, _, t, rfl, rb, sq, h2, q t H Ext.refl h3⟩ hs
  ·cases e
theorem hE_ix {m : List Nat} (cx : Ctx X n M T N) (h1 : PE X a (tH X.K T ha)) (h2 : PE X b (tE X.K T s)) (hp : ixOk b = true) : PE X (.Subscript a b pos) (tH X.K T (.ix ha m s)) :=
 PE.imp (pe_ix (hix cx.hw cx.u65) h1 h2 (ixOk_plain hp)) (fun σ H Q ⟨O, φ, h, ρ, q, r, g, e, f⟩ => by
  simp only [evH] at e
  obtain ⟨q1, e1, e⟩ := bok e
  obtain ⟨kv, e2, e⟩ := bok e
  split at e
  ·rename_i hfl
   obtain ⟨v, e3, e⟩ := bok e
   cases e
   refine ⟨O, φ, h, ρ, q1, r, g, e1, fun x H1 φ1 k1 r1 p1 => ?_⟩
   have g1 := g.keep r.wfo k1
   refine see_pu r1 g1 e2 (by rw [hfl]; rfl) (fun y H2 x2 r2 p2 => ?_)
   simp only [RepH] at p2
   exact ⟨O, φ1, q1.2, q1.1, kv, v, r2, RepH.keep r1.wfo (.ext x2) p1, p2, e3, fun z H3 x3 p3 => f z H3 φ1 ((k1.trans (.ext x2)).trans (.ext x3)) (r2.ext x3) p3⟩
  ·cases e)
theorem lstH_ok {K : PySem.W.Frag} {H : Hp} {O : Hid} {φ : List Addr} {h : HHp} {v : HV} {x : V} {vs : List HV} (r : RelH K H O φ h) (p : RepH K H O φ v x) (e : lstH h v = .ok vs) : ∃ a xs, x = .ref a ∧ H a = some (.lst xs) ∧ RepHs K H O φ vs xs := by
 unfold lstH at e
 split at e
 ·cases e
  simp only [RepH, Rep] at p
  obtain ⟨a, xs, rfl, na, ha, rr⟩ := p
  exact ⟨a, xs, rfl, ha, RepHs.ofP rr⟩
 ·rename_i n
  split at e
  ·rename_i xs hn
   cases e
   simp only [RepH] at p
   obtain ⟨a, ha, rfl⟩ := p
   obtain ⟨ys, hy, ry⟩ := r.obj n a _ ha hn
   exact ⟨a, ys, rfl, hy, ry⟩
  ·cases e
 ·cases e
theorem itemsH_ok {K : PySem.W.Frag} {H : Hp} {O : Hid} {φ : List Addr} {h : HHp} {v : HV} {x : V} {vs : List HV} (r : RelH K H O φ h) (p : RepH K H O φ v x) (e : itemsH h v = .ok vs) : ∃ a xs, x = .ref a ∧ (SqL K H a xs ∨ SqT K H a xs) ∧ RepHs K H O φ vs xs := by
 unfold itemsH at e
 split at e
 ·cases e
  simp only [RepH, Rep] at p
  obtain ⟨a, xs, rfl, na, ha, rr⟩ := p
  exact ⟨a, xs, rfl, .inl (SqL.of ha), RepHs.ofP rr⟩
 ·cases e
  simp only [RepH, Rep] at p
  obtain ⟨a, xs, rfl, ha, rr⟩ := p
  exact ⟨a, xs, rfl, .inr ha, RepHs.ofP rr⟩
 ·rename_i n
  split at e
  ·rename_i xs hn
   cases e
   simp only [RepH] at p
   obtain ⟨a, ha, rfl⟩ := p
   obtain ⟨ys, hy, ry⟩ := r.obj n a _ ha hn
   exact ⟨a, ys, rfl, .inl (SqL.of hy), ry⟩
  ·cases e
 ·cases e
  simp only [RepH] at p
  obtain ⟨a, ys, rfl, sq, rr⟩ := p
  exact ⟨a, ys, rfl, .inr sq, rr⟩
 ·cases e
theorem RelH.lay {K : PySem.W.Frag} {H : Hp} {O : Hid} {φ : List Addr} {h : HHp} {p : Addr} {vs : List HV} {xs : List V} (r : RelH K H O φ h) (np : H p = none) (rr : RepHs K H O φ vs xs) :
  KeepH H φ (upd H p (.lst xs)) (φ ++ [p]) ∧ RelH K (upd H p (.lst xs)) O (φ ++ [p]) (h ++ [.lst vs]) ∧ RepH K (upd H p (.lst xs)) O (φ ++ [p]) (.r h.length) (.ref p) := by
 have x1 : Ext H (upd H p (.lst xs)) := Ext.upd np
 have k2 : KeepH H φ (upd H p (.lst xs)) (φ ++ [p]) := ⟨⟨fun a u hu _ nt => x1.vis a u hu nt, fun a _ h => x1.dom a h, x1.tabs, fun a ha => by
  rw [List.mem_append, List.mem_singleton] at ha
  rcases ha with ha | rfl
  ·exact .inl ha
  ·exact .inr np⟩, List.prefix_append _ _⟩
 obtain ⟨r', k'⟩ := r.alloc (o := .lst vs) np x1 ⟨xs, upd_same, RepHs.keep r.wfo k2 rr⟩
 exact ⟨k2, r', by simp only [RepH]; exact ⟨p, by rw [← r.len]; simp, rfl⟩⟩
theorem hE_lof {p : Pos} (cx : Ctx X n M T N) (hg : Gl X "list") (h1 : PE X a (tH X.K T ha)) (n1 : nst a = true) : PE X (.Call (.Name "list" p) [a] [] pos) (tH X.K T (.lof ha)) :=
 PE.imp (pe_callTy call_list_of hg (cx.facts.bis "list" (by decide)) boot_list (pa_cons h1 pa_nil (star_cons n1)) (by decide) (by decide) (star_cons n1) rfl) (fun σ H Q ⟨O, φ, h, ρ, q, r, g, e, f⟩ => by
  simp only [evH] at e
  obtain ⟨q1, e1, e⟩ := bok e
  obtain ⟨vs, e2, e⟩ := bok e
  cases e
  refine ⟨O, φ, h, ρ, q1, r, g, e1, fun x H1 φ1 k1 r1 p1 => ?_⟩
  obtain ⟨a, xs, rfl, sq, rr⟩ := itemsH_ok r1 p1 e2
  refine ⟨a, xs, rfl, sq, fun l nl => ?_⟩
  obtain ⟨k2, r2, p2⟩ := r1.lay nl rr
  exact f _ _ _ (k1.trans k2) r2 p2)
theorem hE_tol {p : Pos} (cx : Ctx X n M T N) (hg : Gl X "tuple") (h1 : PE X a (tH X.K T ha)) (n1 : nst a = true) : PE X (.Call (.Name "tuple" p) [a] [] pos) (tH X.K T (.tol ha)) :=
 PE.imp (pe_callTy call_tuple_of hg (cx.facts.bis "tuple" (by decide)) boot_tuple (pa_cons h1 pa_nil (star_cons n1)) (by decide) (by decide) (star_cons n1) rfl) (fun σ H Q ⟨O, φ, h, ρ, q, r, g, e, f⟩ => by
  simp only [evH] at e
  obtain ⟨q1, e1, e⟩ := bok e
  obtain ⟨vs, e2, e⟩ := bok e
  cases e
  refine ⟨O, φ, h, ρ, q1, r, g, e1, fun x H1 φ1 k1 r1 p1 => ?_⟩
  obtain ⟨a, xs, rfl, sq, rr⟩ := itemsH_ok r1 p1 e2
  refine ⟨a, xs, rfl, ?_⟩
  rcases sq with sq | sq
  ·refine .inl ⟨sq, fun l nl => ?_⟩
   have x1 : Ext H1 (upd H1 l (.tup xs)) := Ext.upd nl
   have k2 : KeepH H1 φ1 (upd H1 l (.tup xs)) φ1 := .ext x1
   exact f _ _ _ (k1.trans k2) (r1.ext x1) (by simp only [RepH]; exact ⟨l, xs, rfl, SqT.of upd_same, RepHs.keep r1.wfo k2 rr⟩)
  ·exact .inr ⟨sq, f _ _ _ k1 r1 (by simp only [RepH]; exact ⟨a, xs, rfl, sq, rr⟩)⟩)
theorem hE_calld {i : Nat} {x : Str} {p1 p2 : Pos} (cx : Ctx X n M T N) (hN : X.N[i]? = some x) (hv : Vis X.env.scope x) (hd : dbg x = true) (he : PE X a (tH X.K T ha)) (hn : nst a = true) : PE X (.Call (.Name x p1) [a] [] p2) (tH X.K T (.calld i ha)) := by
 refine ⟨fun pins s σ H Q I ⟨O, φ, h, ρ, q, r, g, e, f⟩ => ?_⟩
 simp only [evH] at e
 obtain ⟨z, e1, e2⟩ := bok e
 unfold heldK at e2
 split at e2
 ·rename_i k hk
  have hk : ρ[i]? = some (some (.p (.sym (.lm k)))) := by
   cases e3 : ρ[i]? with
   | none => rw [e3] at hk; cases hk
   | some o => rw [e3] at hk; exact congrArg some hk
  obtain ⟨y, hy, ry⟩ := g.get _ _ hk
  simp only [RepH, Rep, symRep] at ry
  obtain ⟨fa, c, qn, ps, bd, sc, eL, rfl, hf, hc⟩ := ry
  have LF := cx.facts.cl.lms k ps bd sc eL qn
  refine wpAny_Call_Name_kw (thn ((pe_var (pos := p1) (i := i) hN hv (dbg_1 hd) (dbg_2 hd)).run pins s σ H (fun x HY => x = .ref fa ∧ HY = H) I ⟨.ref fa, hy, rfl, rfl⟩) fun fv s1 ⟨x, HY, I1, rx, isF, isH⟩ => ?_)
  subst isF
  rw [isH] at I1
  obtain rfl : fv = Value.ref fa := rx
  obtain ⟨pm0, ct0, hg0⟩ := (I1.hok fa _ hf).1
  refine PySem.W.callWith_F (first := []) ⟨_, _, _, _, hg0⟩ (thn ((pa_cons he pa_nil (star_cons hn)).run p2 pins s1 σ H (fun vs HY => match vs with | [v] => ∃ φ1, KeepH H φ HY φ1 ∧ RelH X.K HY O φ1 z.2 ∧ RepH X.K HY O φ1 z.1 v | _ => False) I1 ⟨O, φ, h, ρ, z, r, g, e1, fun v H1 φ1 k1 r1 q1 => ⟨φ1, k1, r1, q1⟩⟩) fun us s2 ⟨vs, H2, I2, rv, h1⟩ => ?_) (star_cons hn) rfl
  refine match vs, us, rv, h1 with
   | [v], _, .cons (b := u) rv .nil, h1 => ?_
  obtain ⟨φ1, k1, r1, q1⟩ := h1
  have lmK := symRep.keep (s := .lm k) r.wfo k1.oh (x := .ref fa) ⟨fa, c, qn, ps, bd, sc, eL, rfl, hf, hc⟩
  obtain ⟨fa', c', qn', ps', bd', sc', eL', ea, hf', hc'⟩ := lmK
  cases ea
  have LF := cx.facts.cl.lms k ps' bd' sc' eL' qn'
  obtain ⟨pm1, ct1, hg1⟩ := (I2.hok fa _ hf').1
  refine ⟨⟨_, _, _, _, hg1⟩, ?_⟩
  show wpAny _ _ (call (.ref fa) [u]) _ _ _
  have rc := LF X.A X.stack s2 H2 fa c' u v Q E0 cx.room I2.env0 hf' hc' rv ⟨O, φ1, z.2, [z.1], q, r1, by simp only [RepHs]; exact ⟨v, [], rfl, q1, rfl⟩, rfl, e2, fun x H' φ' k' r' p' => f x H' φ' (k1.trans k') r' p'⟩
  refine wpAny_call (codeAny_mono rc fun res sE hq => ?_)
  cases res with
  | error _ => exact (show False from hq).elim
  | ok fl =>
   cases fl with
   | ret u => exact I2.after hq
   | next => exact False.elim hq
   | brk => exact False.elim hq
   | cont => exact False.elim hq
 ·cases e2
theorem hE_cat (h1 : PE X a (tH X.K T ha)) (h2 : PE X b (tH X.K T hb)) : PE X (.BinOp a .Add b pos) (tH X.K T (.cat ha hb)) :=
 PE.imp (pe_op op_cat h1 h2) (fun σ H Q ⟨O, φ, h, ρ, q, r, g, e, f⟩ => by
  simp only [evH] at e
  obtain ⟨q1, e1, e⟩ := bok e
  obtain ⟨q2, e2, e⟩ := bok e
  obtain ⟨xs, e3, e⟩ := bok e
  obtain ⟨ys, e4, e⟩ := bok e
  obtain ⟨hl, e⟩ := iok e
  subst e
  refine ⟨O, φ, h, ρ, q1, r, g, e1, fun x H1 φ1 k1 r1 p1 => ⟨O, φ1, q1.2, ρ, q2, r1, g.keep r.wfo k1, e2, fun y H2 φ2 k2 r2 p2 => ?_⟩⟩
  obtain ⟨a1, zs, rfl, h1, rr1⟩ := lstH_ok r2 (RepH.keep r1.wfo k2 p1) e3
  obtain ⟨a2, ws, rfl, h2, rr2⟩ := lstH_ok r2 p2 e4
  refine ⟨a1, a2, zs, ws, rfl, rfl, h1, h2, by rw [rr1.length, rr2.length, ← lineN_eq]; exact hl, fun p np => ?_⟩
  obtain ⟨k3, r3, p3⟩ := r2.lay np (rr1.append rr2)
  exact f _ _ _ ((k1.trans k2).trans k3) r3 p3)
theorem cutH_rep {K : PySem.W.Frag} {H : Hp} {O : Hid} {φ : List Addr} {vs : List HV} {xs : List V} {lo hi : Option Int} (r : RepHs K H O φ vs xs) : RepHs K H O φ ((vs.drop (HT.sIx vs.length 0 lo)).take (HT.sIx vs.length vs.length hi - HT.sIx vs.length 0 lo)) (cutV xs lo hi) := by
 unfold cutV
 rw [r.length]
 exact (r.drop _).take _
theorem hE_sl {l u : Option Expr} {sl su : SO} {p2 : Pos} {m : List Nat} (h1 : PE X a (tH X.K T ha)) (h2 : PO X l (tO X.K T sl)) (h3 : PO X u (tO X.K T su)) : PE X (.Subscript a (.Slice l u none p2) pos) (tH X.K T (.sl ha m sl su)) :=
 PE.imp (pe_slice sl_list h1 h2 h3) (fun σ H Q ⟨O, φ, h, ρ, q, r, g, e, f⟩ => by
  simp only [evH] at e
  obtain ⟨q1, e1, e⟩ := bok e
  obtain ⟨lo, e2, e⟩ := bok e
  obtain ⟨hi, e3, e⟩ := bok e
  obtain ⟨xs, e4, e⟩ := bok e
  cases e
  refine ⟨O, φ, h, ρ, q1, r, g, e1, fun x H1 φ1 k1 r1 p1 => ?_⟩
  have g1 := g.keep r.wfo k1
  refine ⟨O, _, lo, r1.wf, g1.see r1 m, e2, fun H2 x2 => ?_⟩
  have r2 := r1.ext x2
  have g2 := g1.keep r1.wfo (.ext x2)
  refine ⟨O, _, hi, r2.wf, g2.see r2 m, e3, fun H3 x3 => ?_⟩
  have r3 := r2.ext x3
  have k3 : KeepH H1 φ1 H3 φ1 := .ext (x2.trans x3)
  obtain ⟨a1, zs, rfl, hz, rr⟩ := lstH_ok r3 (RepH.keep r1.wfo k3 p1) e4
  refine ⟨a1, zs, rfl, SqL.of hz, fun p np => ?_⟩
  obtain ⟨k4, r4, p4⟩ := r3.lay np (cutH_rep rr)
  exact f _ _ _ ((k1.trans k3).trans k4) r4 p4)
theorem hE_call {f : Nat} {x : Str} {p : Pos} (cx : Ctx X n M T N) (hf : M.hn f = some x) (hg : Gl X x) (hd : dbg x = true) (h1 : PA X es (tHA X.K T hes)) (hs : es.all nst = true) (hn : es = [] → hes = .nil) : PE X (.Call (.Name x p) es [] pos) (tH X.K T (.call f hes)) := by
 obtain ⟨fa, fd, ps, m, kp, hb, F, hl⟩ := cx.facts.hns f x hf
 have key : ∀ σ H Q, tH X.K T (.call f hes) σ H Q → tCall (spH X.K ps.length (T.H f)) [] E0 (tHA X.K T hes) σ H Q := fun σ H Q ⟨O, φ, h, ρ, q, r, g, e, f⟩ => by
  simp only [evH] at e
  obtain ⟨q1, e1, e⟩ := bok e
  exact ⟨O, φ, h, ρ, q1, r, g, e1, fun xs H1 φ1 k1 r1 p1 => ⟨O, φ1, q1.2, q1.1, q, r1, by rw [List.append_nil]; exact p1, hl _ _ _ e, e, fun x H' φ' k' r' p' => f x H' φ' (k1.trans k') r' p'⟩⟩
 cases es with
 | nil =>
  refine PE.imp (pe_call0 F cx.room hg m kp hb .nil pass0 (dbg_1 hd)) (fun σ H Q h => ?_)
  obtain ⟨O, φ, h, ρ, q1, r, g, e1, q⟩ := key σ H Q h
  have : q1 = ([], h) := by
   rw [hn rfl] at e1
   simp only [evHs] at e1; cases e1; rfl
  subst this
  exact q [] H φ .refl r RepHs.nil
 | cons e es =>
  simp only [List.all_cons, Bool.and_eq_true] at hs
  exact PE.imp (pe_call F cx.room hg m kp hb .nil pass0 h1 (dbg_1 hd) (star_cons hs.1) (star_any hs.2)) key
theorem omap_pl {K : PySem.W.Frag} {H : Hp} {O : Hid} {φ : List Addr} : ∀ {vs : List HV} {us : List Val} {xs : List V}, omap plHV vs = some us → RepHs K H O φ vs xs → Reps K H (Oh O φ) us xs
 | [], us, xs, h, r => by simp only [omap] at h; cases h; simp only [RepHs] at r; subst r; exact Reps.nil
 | v :: vs, us, xs, h, r => by
  simp only [RepHs] at r
  obtain ⟨x, l, rfl, p, q⟩ := r
  simp only [omap] at h
  cases v with
  | p w =>
   simp only [plHV] at h
   cases hm : omap plHV vs with
   | none => rw [hm] at h; cases h
   | some ws =>
    rw [hm] at h; cases h
    simp only [RepH] at p
    exact Reps.cons p (omap_pl hm q)
  | r n => simp only [plHV] at h; cases h
  | t ws => simp only [plHV] at h; cases h
theorem rep_any {K : PySem.W.Frag} {H : Hp} {O O' : Hid} {v : Val} {x : V} (hf : flat v = true) (h : Rep K H O v x) : Rep K H O' v x := Rep.flat hf h
mutual
theorem RepH.shift {K : PySem.W.Frag} {H : Hp} {O : Hid} {φ φ1 : List Addr} {lo : Nat} : ∀ {v : HV} {x : V}, flHV lo v = true → RepH K H O φ1 v x → RepH K H O (φ ++ φ1.drop lo) (shHV lo φ.length v) x
 | .p v, _, hf, h => by
  simp only [RepH] at h
  simp only [shHV, RepH]
  simp only [flHV] at hf
  exact rep_any hf h
 | .r n, _, hf, h => by
  simp only [RepH] at h
  obtain ⟨a, h1, h2⟩ := h
  simp only [flHV, Nat.ble_eq] at hf
  simp only [shHV, RepH]
  refine ⟨a, ?_, h2⟩
  rw [List.getElem?_append_right (by omega), Nat.add_sub_cancel, List.getElem?_drop, show lo + (n - lo) = n by omega]; exact h1
 | .t vs, _, hf, h => by
  simp only [RepH] at h
  obtain ⟨a, xs, e, s, r⟩ := h
  simp only [flHV] at hf
  simp only [shHV, RepH]
  exact ⟨a, xs, e, s, RepHs.shift hf r⟩
theorem RepHs.shift {K : PySem.W.Frag} {H : Hp} {O : Hid} {φ φ1 : List Addr} {lo : Nat} : ∀ {vs : List HV} {xs : List V}, flHVs lo vs = true → RepHs K H O φ1 vs xs → RepHs K H O (φ ++ φ1.drop lo) (shHVs lo φ.length vs) xs
 | [], _, _, h => by simpa only [shHVs, RepHs] using h
 | v :: vs, _, hf, h => by
  simp only [RepHs] at h
  obtain ⟨x, r, e, p, q⟩ := h
  simp only [flHVs, Bool.and_eq_true] at hf
  simp only [shHVs, RepHs]
  exact ⟨x, r, e, RepH.shift hf.1 p, RepHs.shift hf.2 q⟩
end
theorem ObH.shift {K : PySem.W.Frag} {H : Hp} {O : Hid} {φ φ1 : List Addr} {a : Addr} {o : HOb} {lo : Nat} (hf : flOb lo o = true) (h : ObH K H O φ1 a o) : ObH K H O (φ ++ φ1.drop lo) a (shOb lo φ.length o) := by
 cases o with
 | lst vs =>
  obtain ⟨xs, h1, h2⟩ := h
  exact ⟨xs, h1, h2.shift hf⟩
 | dic t ks vs =>
  cases t with
  | true => simp [flOb] at hf
  | false =>
   obtain ⟨kvs, h1, h2, h3, h4⟩ := h
   exact ⟨kvs, h1, h2, h3, h4.shift (by simpa [flOb] using hf)⟩
 | ins c ns vs =>
  obtain ⟨C, dx, kvs, h1, h2, h3, h4⟩ := h
  exact ⟨C, dx, kvs, h1, h2, h3, h4.shift hf⟩
theorem RelH.nil0 {K : PySem.W.Frag} {H : Hp} {O : Hid} (w : WF H O) : RelH K H O [] [] := ⟨w, rfl, List.nodup_nil, fun a ha => (nomatch ha), fun n a o h => by simp at h⟩
theorem RelH.join {K : PySem.W.Frag} {H H' : Hp} {O : Hid} {φ φ1 : List Addr} {h h1 : HHp} {lo : Nat} (r : RelH K H O φ h) (k : KeepH H [] H' φ1) (r1 : RelH K H' O φ1 h1) (hf : (h1.drop lo).all (flOb lo) = true) :
  KeepH H φ H' (φ ++ φ1.drop lo) ∧ RelH K H' O (φ ++ φ1.drop lo) (h ++ (h1.drop lo).map (shOb lo φ.length)) := by
 have new : ∀ a ∈ φ1.drop lo, H a = none := fun a ha => (k.k.new a (List.mem_of_mem_drop ha)).elim (fun z => (nomatch z)) id
 have dj : ∀ a ∈ φ, ∀ b ∈ φ1.drop lo, a ≠ b := fun a ha b hb e => by
  subst e
  obtain ⟨u, e1, _⟩ := r.wfo a (.inr ha)
  rw [new a hb] at e1; cases e1
 have kk : KeepH H φ H' (φ ++ φ1.drop lo) := ⟨⟨fun a o ho n nt => k.k.vis a o ho (fun z => (nomatch z)) nt, fun a n ho => k.k.dom a (fun z => (nomatch z)) ho, k.k.tabs, fun a ha => by
  rcases List.mem_append.mp ha with ha | ha
  ·exact .inl ha
  ·exact .inr (new a ha)⟩, List.prefix_append _ _⟩
 refine ⟨kk, ⟨r1.wf, by simp [r.len, r1.len], ?_, fun a ha => ?_, fun n a o h2 h3 => ?_⟩⟩
 ·rw [List.nodup_append]
  exact ⟨r.nd, r1.nd.sublist (List.drop_sublist _ _), dj⟩
 ·rcases List.mem_append.mp ha with ha | ha
  ·exact r.out a ha
  ·exact r1.out a (List.mem_of_mem_drop ha)
 ·by_cases hn : n < φ.length
  ·rw [List.getElem?_append_left hn] at h2
   rw [List.getElem?_append_left (by rw [← r.len]; exact hn)] at h3
   exact (r.obj n a o h2 h3).keepO r.wfo kk.toO (fun z hz nt => k.k.vis a z hz (fun z => (nomatch z)) nt)
  ·rw [List.getElem?_append_right (by omega)] at h2
   rw [List.getElem?_append_right (by rw [← r.len]; omega), ← r.len, List.getElem?_map] at h3
   cases ho : (h1.drop lo)[n - φ.length]? with
   | none => rw [ho] at h3; cases h3
   | some u =>
    rw [ho] at h3
    simp only [Option.map_some, Option.some.injEq] at h3
    subst h3
    have hm := List.mem_of_getElem? ho
    rw [List.getElem?_drop] at ho h2
    exact (r1.obj _ a u h2 ho).shift (List.all_eq_true.mp hf u hm)
theorem reps_repHs {K : PySem.W.Frag} {H : Hp} {O : Hid} : ∀ {vs : List Val} {xs : List V}, Reps K H O vs xs → RepHs K H O [] (vs.map HV.p) xs
 | [], xs, h => by
  simp only [Reps] at h
  simp only [List.map_nil, RepHs]; exact h
 | v :: vs, xs, h => by
  simp only [Reps] at h
  obtain ⟨x, r, e, p, q⟩ := h
  simp only [List.map_cons, RepHs, RepH]
  refine ⟨x, r, e, ?_, reps_repHs q⟩
  have : Oh O ([] : List Addr) = O := by
   funext a
   simp [Oh]
  rw [this]; exact p
theorem hE_callS {f : Nat} {x : Str} {p : Pos} {m : List Nat} {ses : SEs} (cx : Ctx X n M T N) (hf : M.hn f = some x) (hg : Gl X x) (hd : dbg x = true) (h1 : PA X es (tA X.K T ses)) (hs : es.all nst = true) (hn : es = [] → ses = .nil) : PE X (.Call (.Name x p) es [] pos) (tH X.K T (.callS f m ses)) := by
 obtain ⟨fa, fd, ps, mm, kp, hb, F, hl⟩ := cx.facts.hns f x hf
 have key : ∀ σ H Q, tH X.K T (.callS f m ses) σ H Q → tCall (spH X.K ps.length (T.H f)) [] E0 (tA X.K T ses) σ H Q := fun σ H Q ⟨O, φ, h, ρ, q, r, g, e, fq⟩ => by
  simp only [evH] at e
  obtain ⟨vs, e1, e⟩ := bok e
  obtain ⟨q1, e2, e⟩ := bok e
  unfold snapH at e
  split at e
  ·rename_i lo hlo
   cases e
   have hfl := findLo_ok hlo
   unfold okFrom at hfl
   rw [Bool.and_eq_true] at hfl
   refine ⟨O, seeH m h ρ, vs, r.wf, g.see r m, e1, fun xs H1 x1 r1 => ⟨O, [], [], vs.map HV.p, q1, .nil0 (r.wf.ext x1), by rw [List.append_nil]; exact reps_repHs r1, hl _ _ _ e2, e2, fun y H' φ1 k1 r2 p2 => ?_⟩⟩
   obtain ⟨k2, r3⟩ := (r.ext x1).join k1 r2 hfl.2
   refine fq y H' (φ ++ φ1.drop lo) ((KeepH.ext x1).trans k2) ?_ ?_
   ·rw [← r.len]; exact r3
   ·rw [← r.len]; exact p2.shift hfl.1
  ·cases e
 cases es with
 | nil =>
  refine PE.imp (pe_call0 F cx.room hg mm kp hb .nil pass0 (dbg_1 hd)) (fun σ H Q h => ?_)
  obtain ⟨O, ρ, vs, w, eo, e1, q⟩ := key σ H Q h
  have : vs = [] := by
   rw [hn rfl] at e1
   simp only [evs] at e1; cases e1; rfl
  subst this
  exact q [] H .refl Reps.nil
 | cons e es =>
  simp only [List.all_cons, Bool.and_eq_true] at hs
  exact PE.imp (pe_call F cx.room hg mm kp hb .nil pass0 h1 (dbg_1 hd) (star_cons hs.1) (star_any hs.2)) key
theorem hE_pcall {f : Nat} {x : Str} {p : Pos} (cx : Ctx X n M T N) (hf : M.fn f = some x) (hg : Gl X x) (hd : dbg x = true) (h1 : PA X es (tHA X.K T hes)) (hs : es.all nst = true) (hn : es = [] → hes = .nil) : PE X (.Call (.Name x p) es [] pos) (tH X.K T (.pcl f hes)) := by
 obtain ⟨fa, fd, ps, m, kp, hb, F, hl, _⟩ := cx.facts.fns f x hf
 have key : ∀ σ H Q, tH X.K T (.pcl f hes) σ H Q → tCall (spC X.K ps.length (T.C f)) [] E0 (tHA X.K T hes) σ H Q := fun σ H Q ⟨O, φ, h, ρ, q, r, g, e, f⟩ => by
  simp only [evH] at e
  obtain ⟨q1, e1, e⟩ := bok e
  unfold pclK at e
  split at e
  ·rename_i vs hm
   obtain ⟨v, hC, e⟩ := bok e
   cases e
   exact ⟨O, φ, h, ρ, q1, r, g, e1, fun xs H1 φ1 k1 r1 p1 => ⟨Oh O φ1, vs, v, r1.wfo, by rw [List.append_nil]; exact omap_pl hm p1, hl _ _ hC, hC, fun y H' x' r' => f y H' φ1 (k1.trans (.ext x')) (r1.ext x') (by simp only [RepH]; exact r')⟩⟩
  ·cases e
 cases es with
 | nil =>
  refine PE.imp (pe_call0 F cx.room hg m kp hb .nil pass0 (dbg_1 hd)) (fun σ H Q h => ?_)
  obtain ⟨O, φ, h, ρ, q1, r, g, e1, q⟩ := key σ H Q h
  have : q1 = ([], h) := by
   rw [hn rfl] at e1
   simp only [evHs] at e1; cases e1; rfl
  subst this
  exact q [] H φ .refl r RepHs.nil
 | cons e es =>
  simp only [List.all_cons, Bool.and_eq_true] at hs
  exact PE.imp (pe_call F cx.room hg m kp hb .nil pass0 h1 (dbg_1 hd) (star_cons hs.1) (star_any hs.2)) key
theorem RepHs.rev {K : PySem.W.Frag} {H : Hp} {O : Hid} {φ : List Addr} {vs : List HV} {xs : List V} (h : RepHs K H O φ vs xs) : RepHs K H O φ vs.reverse xs.reverse := by
 induction vs generalizing xs with
 | nil => simp only [RepHs] at h; subst h; exact RepHs.nil
 | cons v vs ih =>
  simp only [RepHs] at h
  obtain ⟨x, r, rfl, p, q⟩ := h
  rw [List.reverse_cons, List.reverse_cons]
  exact RepHs.append (ih q) (RepHs.cons p RepHs.nil)
theorem hE_rev {k : Nat} {p1 p2 p3 : Pos} (h1 : PE X a (tH X.K T ha)) : PE X (.Subscript a (.Slice none none (some (.UnaryOp .USub (.Constant (.int 1) k p1) p2)) p3) pos) (tH X.K T (.rev ha)) :=
 PE.imp (pe_revL h1) (fun σ H Q ⟨O, φ, h, ρ, q, r, g, e, f⟩ => by
  simp only [evH] at e
  obtain ⟨q1, e1, e⟩ := bok e
  obtain ⟨xs, e2, e⟩ := bok e
  cases e
  refine ⟨O, φ, h, ρ, q1, r, g, e1, fun x H1 φ1 k1 r1 p1 => ?_⟩
  obtain ⟨a1, zs, rfl, hz, rr⟩ := lstH_ok r1 p1 e2
  refine ⟨a1, zs, rfl, SqL.of hz, fun p np => ?_⟩
  obtain ⟨k2, r2, p2⟩ := r1.lay np rr.rev
  exact f _ _ _ (k1.trans k2) r2 p2)
theorem lookFH_get {K : PySem.W.Frag} {H : Hp} {O : Hid} {φ : List Addr} {f : Str} : ∀ {kvs : List (Str × V)} {vs : List HV} {v : HV}, RepHs K H O φ vs (kvs.map (·.2)) → lookFH (kvs.map (·.1)) vs f = some v → ∃ y, kvs.lookup f = some y ∧ RepH K H O φ v y
 | [], vs, v, r, h => by simp only [List.map_nil, lookFH] at h; cases h
 | (k, x) :: kvs, [], v, r, h => by simp only [List.map_cons, lookFH] at h; cases h
 | (k, x) :: kvs, u :: vs, v, r, h => by
  simp only [List.map_cons, lookFH] at h
  simp only [List.map_cons, RepHs] at r
  obtain ⟨y, ys, e, r1, r2⟩ := r
  cases e
  rw [List.lookup_cons]
  rw [strEq_eq] at h
  by_cases hk : k = f
  ·subst hk
   simp only [beq_self_eq_true, if_true] at h ⊢
   cases h
   exact ⟨_, rfl, r1⟩
  ·have h1 : (k == f) = false := by simpa using hk
   have h2 : (f == k) = false := by simpa using Ne.symm hk
   rw [h1] at h
   rw [h2]
   exact lookFH_get r2 h
theorem hE_fld {x : Str} {px : Pos} {f : String} (cx : Ctx X n M T N) (hf : Str.ofString f ∈ M.fl) (h1 : PE X (.Name x px) (tH X.K T ha)) : PE X (.Attribute (.Name x px) (Str.ofString f) pos) (tH X.K T (.fld ha f)) :=
 PE.imp (pe_fld h1 rfl) (fun σ H Q ⟨O, φ, h, ρ, q, r, g, e, fq⟩ => by
  simp only [evH] at e
  obtain ⟨q1, e1, e⟩ := bok e
  obtain ⟨v, e2, e⟩ := bok e
  cases e
  refine ⟨O, φ, h, ρ, q1, r, g, e1, fun x H1 φ1 k1 r1 p1 => ?_⟩
  obtain ⟨q1v, q1h⟩ := q1
  simp only at e2 r1 p1 fq
  cases q1v with
  | p v =>
   simp only [fldH] at e2
   obtain ⟨u, e3, e2⟩ := bok e2
   cases e2
   simp only [RepH] at p1
   cases v with
   | ins c ns vs =>
    simp only [fldV] at e3
    have e3 := ofO_ok e3
    simp only [Rep] at p1
    obtain ⟨a, C, dx, kvs, rfl, na, hc, hp, rfl, rr⟩ := p1
    obtain ⟨z, hz, rz⟩ := lookF_get rr e3
    obtain ⟨c1, c2, c3⟩ := cx.facts.cl.cls c C hc
    exact ⟨a, C, dx, kvs, z, rfl, hp, c1, c3 _ hf, hz, fq _ _ _ k1 r1 (by simp only [RepH]; exact rz)⟩
   | _ => simp only [fldV] at e3; cases e3
  | r k =>
   simp only [fldH] at e2
   cases hk : q1h[k]? with
   | none => rw [hk] at e2; cases e2
   | some o =>
    rw [hk] at e2
    cases o with
    | ins c ns vs =>
     simp only at e2
     have e2 := ofO_ok e2
     simp only [RepH] at p1
     obtain ⟨a, hp, rfl⟩ := p1
     obtain ⟨C, dx, kvs, hc, hx, rfl, rr⟩ := r1.obj k a _ hp hk
     obtain ⟨z, hz, rz⟩ := lookFH_get rr e2
     obtain ⟨c1, c2, c3⟩ := cx.facts.cl.cls c C hc
     exact ⟨a, C, dx, kvs, z, rfl, hx, c1, c3 _ hf, hz, fq _ _ _ k1 r1 rz⟩
    | _ => cases e2
  | t xs => simp only [fldH] at e2; cases e2)
theorem RepHs.getLast {K : PySem.W.Frag} {H : Hp} {O : Hid} {φ : List Addr} {vs : List HV} {xs : List V} {v : HV} (r : RepHs K H O φ vs xs) (h : vs[vs.length - 1]? = some v) : ∃ y, xs[xs.length - 1]? = some y ∧ RepH K H O φ v y := by
 rw [r.length]; exact r.get h
theorem hE_pop {apos cpos : Pos} (h1 : PE X a (tH X.K T ha)) (hline : (apos.endLine == cpos.line) = true) (hbase : attributeBase a "pop" X.env (eval a X.env) = eval a X.env) :
  PE X (.Call (.Attribute a "pop" apos) [] [] cpos) (tH X.K T (.pop ha)) :=
 PE.imp (pe_bm0 PySem.F.plainAttrs_list PySem.F.slot_list_pop PySem.F.type_list_pop mt_pop h1 hbase hline) (fun σ H Q ⟨O, φ, h, ρ, q, r, g, e, fq⟩ => by
  simp only [evH] at e
  obtain ⟨q1, e1, e⟩ := bok e
  refine ⟨O, φ, h, ρ, q1, r, g, e1, fun x H1 φ1 k1 r1 p1 => ?_⟩
  obtain ⟨q1v, q1h⟩ := q1
  unfold popH at e
  simp only at e r1 p1
  split at e
  ·rename_i k
   split at e
   ·rename_i ys hk
    split at e
    ·rename_i v hv
     cases e
     simp only [RepH] at p1
     obtain ⟨p, hp, rfl⟩ := p1
     obtain ⟨xs, hx, rr⟩ := r1.obj k p _ hp hk
     obtain ⟨y, hy, ry⟩ := rr.getLast hv
     have ka : KeepH H1 φ1 (upd H1 p (.lst xs.dropLast)) φ1 := .upd (List.mem_iff_getElem?.mpr ⟨k, hp⟩) (r1.wfo p (.inr (List.mem_iff_getElem?.mpr ⟨k, hp⟩)))
     have rd : RepHs X.K H1 O φ1 ys.dropLast xs.dropLast := by
      rw [List.dropLast_eq_take, List.dropLast_eq_take, rr.length]
      exact rr.take _
     obtain ⟨r3, k3⟩ := r1.change (o := .lst ys.dropLast) hp hk ⟨_, upd_same, RepHs.keep r1.wfo ka rd⟩
     exact ⟨.inl ⟨rfl, _, SqL.of hx⟩, p, xs, y, rfl, rfl, hx, hy, fq _ _ _ (k1.trans k3) r3 (RepH.keep r1.wfo ka ry)⟩
    ·cases e
   ·cases e
  ·cases e)
theorem hE_pop0 {apos cpos p2 : Pos} {k : Nat} (h1 : PE X a (tH X.K T ha)) (hline : (apos.endLine == cpos.line) = true) (hbase : attributeBase a "pop" X.env (eval a X.env) = eval a X.env) :
  PE X (.Call (.Attribute a "pop" apos) [.Constant (.int 0) k p2] [] cpos) (tH X.K T (.pop0 ha)) :=
 PE.imp (pe_bm PySem.F.plainAttrs_list PySem.F.slot_list_pop PySem.F.type_list_pop mt_popAt h1 (pa_cons pe_int pa_nil rfl) hbase (few1 rfl) hline rfl rfl) (fun σ H Q ⟨O, φ, h, ρ, q, r, g, e, fq⟩ => by
  simp only [evH] at e
  obtain ⟨q1, e1, e⟩ := bok e
  refine ⟨O, φ, h, ρ, q1, r, g, e1, fun x H1 φ1 k1 r1 p1 => ?_⟩
  obtain ⟨q1v, q1h⟩ := q1
  unfold pop0H at e
  simp only at e r1 p1
  split at e
  ·rename_i k
   split at e
   ·rename_i v ys hk
    cases e
    simp only [RepH] at p1
    obtain ⟨p, hp, rfl⟩ := p1
    obtain ⟨xs, hx, rr⟩ := r1.obj k p _ hp hk
    have rr0 := rr
    simp only [RepHs] at rr
    obtain ⟨y, t, rfl, ry, rt⟩ := rr
    have ka : KeepH H1 φ1 (upd H1 p (.lst t)) φ1 := .upd (List.mem_iff_getElem?.mpr ⟨k, hp⟩) (r1.wfo p (.inr (List.mem_iff_getElem?.mpr ⟨k, hp⟩)))
    obtain ⟨r3, k3⟩ := r1.change (o := .lst ys) hp hk ⟨_, upd_same, RepHs.keep r1.wfo ka rt⟩
    exact ⟨.inl ⟨rfl, _, SqL.of hx⟩, p, y :: t, 0, 0, y, rfl, rfl, hx, by decide, by decide, by simp [seqIndex?], rfl, fq _ _ _ (k1.trans k3) r3 (RepH.keep r1.wfo ka ry)⟩
   ·cases e
  ·cases e)
theorem hE_make {f : Nat} {x : Str} {p : Pos} (cx : Ctx X n M T N) (hf : M.ch f = some x) (hg : Gl X x) (hd : dbg x = true) (h1 : PA X es (tHA X.K T hes)) (hs : es.all nst = true) (hn : es = [] → hes = .nil) : PE X (.Call (.Name x p) es [] pos) (tH X.K T (.make f hes)) := by
 obtain ⟨C, m, hno | ⟨fi, fd, ps, np, k, hk, hp, M', hb, F, hl⟩⟩ := cx.facts.cl.mkh f x hf
 ·refine ⟨fun pins s σ H Q I ⟨O, φ, h, ρ, q, r, g, e, fq⟩ => ?_⟩
  simp only [evH] at e
  obtain ⟨q1, e1, e⟩ := bok e
  exact (hno _ _ _ e).elim
 ·have key : ∀ σ H Q, tH X.K T (.make f hes) σ H Q → tMake C (spIH X.K np C (T.H f)) [] E0 (tHA X.K T hes) σ H Q := fun σ H Q ⟨O, φ, h, ρ, q, r, g, e, fq⟩ => by
   simp only [evH] at e
   obtain ⟨q1, e1, e⟩ := bok e
   refine ⟨O, φ, h, ρ, q1, r, g, e1, fun xs H1 φ1 k1 r1 p1 y dx n1 n2 ne => ⟨H1, O, φ1, q1.2, q1.1, q, y, dx, xs, by rw [List.append_nil], n1, n2, ne, rfl, r1, p1, ?_, e, fun H' φ' k' r' p' => ⟨rfl, fq _ _ _ (k1.trans k') r' p'⟩⟩⟩
   have := hl _ _ _ e
   simpa using this
  cases es with
  | nil =>
   refine PE.imp (pe_make0 M' F (cx.room.mono hk) hg m hb .nil pass0 (dbg_1 hd)) (fun σ H Q h => ?_)
   obtain ⟨O, φ, h, ρ, q1, r, g, e1, q⟩ := key σ H Q h
   have : q1 = ([], h) := by
    rw [hn rfl] at e1
    simp only [evHs] at e1; cases e1; rfl
   subst this
   exact q [] H φ .refl r RepHs.nil
  | cons e es =>
   simp only [List.all_cons, Bool.and_eq_true] at hs
   exact PE.imp (pe_make M' F (cx.room.mono hk) hg m hb .nil pass0 h1 (dbg_1 hd) (star_cons hs.1) (star_any hs.2)) key
end
end VM
namespace VM
open PySem PySem.Spec PyProof.Rows L2
variable [Tbl]
section
variable {X : Cx} {n : Nat} {M : Nm} {T : Tab} {N : List Str} {e e2 a b tg : Expr} {ha hb he : HE} {pos : Pos}
theorem hI_seq (h1 : PE X e (tH X.K T he)) : PI X tg e (tHI X.K T (.seq he)) := by
 refine ⟨fun pins st σ H Rr I ⟨O, φ, h, ρ, q, r, g, ee, f⟩ => ?_⟩
 simp only [evHI] at ee
 obtain ⟨q1, e1, ee⟩ := bok ee
 obtain ⟨J, e2, ee⟩ := bok ee
 cases ee
 have viaL : itL q1.2 q1.1 = .ok J → wpAny (model X.prog X.w) X.A _ _ X.xe st := fun hl =>
  (pi_list (tg := tg) h1).run pins st σ H Rr I ⟨O, φ, h, ρ, q1, r, g, e1, fun x H1 φ1 k1 r1 p1 => by
   obtain ⟨a, xs, rfl, sq, src⟩ := src_itL r1 p1 hl
   exact ⟨a, rfl, ⟨xs, sq⟩, f _ _ _ k1 r1 (itH_l src)⟩⟩
 have viaT : ∀ vs, (∀ H1 φ1 x, RelH X.K H1 O φ1 q1.2 → RepH X.K H1 O φ1 q1.1 x → ∃ a xs, x = .ref a ∧ SqT X.K H1 a xs ∧ RepHs X.K H1 O φ1 vs xs) → J = .fx vs → wpAny (model X.prog X.w) X.A _ _ X.xe st := fun vs hv hJ =>
  (pi_tup (tg := tg) h1).run pins st σ H Rr I ⟨O, φ, h, ρ, q1, r, g, e1, fun x H1 φ1 k1 r1 p1 => by
   obtain ⟨a, xs, rfl, sq, rr⟩ := hv H1 φ1 x r1 p1
   subst hJ
   exact ⟨a, rfl, ⟨xs, sq⟩, f _ _ _ k1 r1 (itH_t r1 sq rr)⟩⟩
 obtain ⟨q1v, q1h⟩ := q1
 cases q1v with
 | p v =>
  cases v with
  | tup vs =>
   refine viaT (vs.map HV.p) (fun H1 φ1 x r1 p1 => ?_) (by simp only [itS] at e2; cases e2; rfl)
   simp only [RepH, Rep] at p1
   obtain ⟨a, xs, rfl, sq, rr⟩ := p1
   exact ⟨a, xs, rfl, sq, RepHs.ofP rr⟩
  | _ => exact viaL e2
 | r k => exact viaL e2
 | t xs =>
  refine viaT xs (fun H1 φ1 x r1 p1 => ?_) (by simp only [itS] at e2; cases e2; rfl)
  simp only [RepH] at p1
  exact p1
theorem hI_pu {m : List Nat} {it : SI} (h1 : PI X tg e (tI X.K T it)) : PI X tg e (tHI X.K T (.pu m it)) := PI.imp h1 (fun σ H Rr ⟨O, φ, h, ρ, q, r, g, ee, f⟩ => by
 simp only [evHI] at ee
 obtain ⟨vs, e1, ee⟩ := bok ee
 obtain ⟨hp, ee⟩ := iok ee
 subst ee
 exact ⟨Oh O φ, _, vs, r.wfo, g.seeP hp, e1, fun J H' x1 hit => f J H' φ (.ext x1) (r.ext x1) (itH_p hit)⟩)
theorem hI_rng {m : List Nat} {it : SI} (h1 : PI X tg e (tIR X.K T it)) : PI X tg e (tHI X.K T (.rng m it)) := PI.imp h1 (fun σ H Rr ⟨O, φ, h, ρ, q, r, g, ee, f⟩ => by
 simp only [evHI] at ee
 obtain ⟨vs, e1, ee⟩ := bok ee
 cases ee
 exact ⟨O, _, vs, r.wf, g.see r m, e1, fun J H' x1 hit => f J H' φ (.ext x1) (r.ext x1) (itH_r hit)⟩)
theorem hI_enum {p pos tpos : Pos} {elts : List Expr} {kk : Nat} (hg : Gl X "enumerate") (hm : X.mg "enumerate" = none) (h1 : PE X e (tH X.K T he)) (n : nst e = true) :
  PI X (.Tuple elts kk tpos) (.Call (.Name "enumerate" p) [e] [] pos) (tHI X.K T (.enum he)) :=
 PI.imp (pi_enum hg hm (pa_cons h1 pa_nil (star_cons n)) (by rw [star_cons n]; rfl)) (fun σ H Rr ⟨O, φ, h, ρ, q, r, g, ee, f⟩ => by
  simp only [evHI] at ee
  obtain ⟨q1, e1, ee⟩ := bok ee
  obtain ⟨J, e2, ee⟩ := bok ee
  cases ee
  refine ⟨O, φ, h, ρ, q1, r, g, e1, fun x H1 φ1 k1 r1 p1 => ?_⟩
  obtain ⟨a, xs, rfl, sq, src⟩ := src_itL r1 p1 e2
  exact ⟨a, xs, rfl, sq, f _ _ _ k1 r1 (itH_e src)⟩)
theorem Src.keep {K : PySem.W.Frag} {J : HIt} {a : Addr} {H H1 : Hp} {O : Hid} {φ φ1 : List Addr} (s : Src K J a H O φ) (k : KeepH H φ H1 φ1) : Src K J a H1 O φ1 :=
 fun H' O' φ' h' k' r' i o eo => s H' O' φ' h' (k.toO.trans k') r' i o eo
theorem itL_later {K : PySem.W.Frag} {H H1 : Hp} {O : Hid} {φ φ1 : List Addr} {h h1 : HHp} {v : HV} {x : V} {J : HIt} (r : RelH K H O φ h) (r1 : RelH K H1 O φ1 h1) (k : KeepH H φ H1 φ1) (rv : RepH K H O φ v x) (e : itL h1 v = .ok J) : ∃ a xs, x = .ref a ∧ SqL K H1 a xs ∧ Src K J a H1 O φ1 :=
 src_itL r1 (RepH.keep r.wfo k rv) e
theorem hI_zip {p pos tpos : Pos} {elts : List Expr} {kk : Nat} (hg : Gl X "zip") (hm : X.mg "zip" = none) (h1 : PE X a (tH X.K T ha)) (n : nst a = true) (h2 : PE X b (tH X.K T hb)) (n2 : nst b = true) :
  PI X (.Tuple elts kk tpos) (.Call (.Name "zip" p) [a, b] [] pos) (tHI X.K T (.zip ha hb)) :=
 PI.imp (pi_zip hg hm (pa_cons h1 (pa_cons h2 pa_nil (star_cons n2)) (star_cons n)) (star_cons n) (star_any (by simp [n2]))) (fun σ H Rr ⟨O, φ, h, ρ, q, r, g, ee, f⟩ => by
  simp only [evHI] at ee
  obtain ⟨q1, e1, ee⟩ := bok ee
  obtain ⟨q2, e2, ee⟩ := bok ee
  obtain ⟨J, e3, ee⟩ := bok ee
  obtain ⟨J', e4, ee⟩ := bok ee
  cases ee
  refine ⟨O, φ, h, ρ, q1, r, g, e1, fun x H1 φ1 k1 r1 p1 => ⟨O, φ1, q1.2, ρ, q2, r1, g.keep r.wfo k1, e2, fun y H2 φ2 k2 r2 p2 => ?_⟩⟩
  obtain ⟨a1, xs, rfl, sq, src⟩ := itL_later r1 r2 k2 p1 e3
  obtain ⟨a2, ys, rfl, sq2, src2⟩ := src_itL r2 p2 e4
  exact ⟨a1, a2, xs, ys, rfl, sq, sq2, f _ _ _ (k1.trans k2) r2 (itH_z src src2)⟩)
def gH (K : PySem.W.Frag) (tg : Tg) : TG := fun x σ H Q => ∃ O φ h v bs, RelH K H O φ h ∧ RepH K H O φ v x ∧ flatH h tg v = .ok bs ∧ ∀ xs, RepHs K H O φ (bs.map (·.2)) xs → Q (setsV σ (bs.map (·.1)) xs) H
def gHs (K : PySem.W.Frag) (tg : Tgs) : TGs := fun ys σ H Q => ∃ O φ h vs bs, RelH K H O φ h ∧ RepHs K H O φ vs ys ∧ flatHs h tg vs = .ok bs ∧ ∀ xs, RepHs K H O φ (bs.map (·.2)) xs → Q (setsV σ (bs.map (·.1)) xs) H
variable {es : List Expr} {x : Str}
theorem hG_nm {i : Nat} (hN : X.N.Nodup) (hi : X.N[i]? = some x) (hx : Loc X.env.scope x) (hf : X.fn x = true ∨ X.env.scope.names.lookup x = some .local) : PG X (.Name x pos) (gH X.K (.nm i)) :=
 PG.imp (pg_name hN hi hx hf) (fun v σ H Q ⟨O, φ, h, u, bs, r, rv, e, q⟩ => by
  simp only [flatH] at e; cases e
  exact q [v] (RepHs.cons rv RepHs.nil))
theorem hGs_nil : PGs X [] (gHs X.K .nil) := PGs.imp pgs_nil (fun v σ H Q ⟨O, φ, h, u, bs, r, rv, e, q⟩ => by
 cases u with
 | nil => simp only [flatHs] at e; cases e; simp only [RepHs] at rv; exact ⟨rv, q [] RepHs.nil⟩
 | cons a b => simp only [flatHs] at e; cases e)
theorem hGs_cons {t : Tg} {r : Tgs} (h1 : PG X e (gH X.K t)) (h2 : PGs X es (gHs X.K r)) (n : nst e = true) : PGs X (e :: es) (gHs X.K (.cons t r)) :=
 PGs.imp (pgs_cons h1 h2 (by rw [asg_cons n]; rfl)) (fun v σ H Q ⟨O, φ, h, us, bs, r, rv, e, q⟩ => by
  cases us with
  | nil => simp only [flatHs] at e; cases e
  | cons a b =>
   simp only [flatHs] at e
   obtain ⟨b1, e1, e⟩ := bok e
   obtain ⟨b2, e2, e⟩ := bok e
   cases e
   simp only [RepHs] at rv
   obtain ⟨y, ys, rfl, p, rp⟩ := rv
   refine ⟨y, ys, rfl, O, φ, h, a, b1, r, p, e1, fun xs hx => ⟨O, φ, h, b, b2, r, rp, e2, fun zs hz => ?_⟩⟩
   have := q (xs ++ zs) (by rw [List.map_append]; exact hx.append hz)
   rw [List.map_append, setsV_append (by rw [hx.length]; simp)] at this
   exact this)
theorem hG_tp {k : Nat} {ts : Tgs} (hc : X.calm = true) (h1 : PGs X es (gHs X.K ts)) (n : es.all nst = true) (hl : ∀ h us bs, flatHs h ts us = .ok bs → us.length = es.length) : PG X (.Tuple es k pos) (gH X.K (.tp ts)) := by
 refine ⟨fun pins s σ H v u Q I rv ⟨O, φ, h, w0, bs, r, rp, hf, q⟩ => ?_⟩
 simp only [flatH] at hf
 obtain ⟨vs, e1, hf⟩ := bok hf
 obtain ⟨a, xs, rfl, sq, rr⟩ := itemsH_ok r rp e1
 have hlen : xs.length = es.length := by rw [rr.length]; exact hl _ _ _ hf
 rcases sq with sq | sq
 ·exact (pg_unl hc h1 (n := es.length) (asg_len n) (asg_star n)).run pins s σ H _ u Q I rv ⟨a, xs, rfl, sq, hlen, O, φ, h, vs, bs, r, rr, hf, q⟩
 ·exact (pg_tup hc h1 (n := es.length) (asg_len n) (asg_star n)).run pins s σ H _ u Q I rv ⟨a, xs, rfl, sq, hlen, O, φ, h, vs, bs, r, rr, hf, q⟩
theorem chkGs_nstH {sc : Scope} {fn : Str → Bool} : ∀ {ts : Tgs} {es : List Expr}, chkGs N sc fn ts es = true → ∀ h us bs, flatHs h ts us = .ok bs → us.length = es.length
 | .nil, es, h => by
  simp only [chkGs] at h
  cases es with
  | nil =>
   intro hh us bs hf
   cases us with
   | nil => rfl
   | cons => simp only [flatHs] at hf; cases hf
  | cons => cases h
 | .cons t r, [], h => by simp only [chkGs] at h; cases h
 | .cons t r, e :: es, h => by
  simp only [chkGs, Bool.and_eq_true] at h
  intro hh us bs hf
  cases us with
  | nil => simp only [flatHs] at hf; cases hf
  | cons u us =>
   simp only [flatHs] at hf
   obtain ⟨b1, _, hf⟩ := bok hf
   obtain ⟨b2, hf2, hf⟩ := bok hf
   rw [List.length_cons, List.length_cons, chkGs_nstH h.2 hh us b2 hf2]
mutual
theorem sndGH : ∀ (t : Tg) {X : Cx} {fn : Str → Bool} {e : Expr}, X.N = N → X.N.Nodup → X.calm = true → (∀ x, fn x = true → X.fn x = true) → chkG N X.env.scope fn t e = true → PG X e (gH X.K t)
 | .nm i, X, fn, e, hN, nd, cm, hf, h => by
  simp only [chkG] at h
  split at h
  ·rename_i x p
   rw [Bool.and_eq_true] at h
   have hi : X.N[i]? = some x := by rw [hN]; exact of_decide_eq_true h.1
   have h2 := h.2
   rw [Bool.or_eq_true, Bool.and_eq_true] at h2
   rcases h2 with h2 | ⟨h2, h3⟩
   ·split at h2
    ·rename_i hl; exact hG_nm nd hi (.inl hl) (.inr hl)
    ·cases h2
   ·split at h2
    ·rename_i hl; exact hG_nm nd hi (.inr hl) (.inl (hf _ h3))
    ·cases h2
  ·cases h
 | .tp ts, X, fn, e, hN, nd, cm, hf, h => by
  simp only [chkG] at h
  split at h
  ·exact hG_tp cm (sndGsH ts hN nd cm hf h) (chkGs_nst h).1 (chkGs_nstH h)
  ·cases h
theorem sndGsH : ∀ (t : Tgs) {X : Cx} {fn : Str → Bool} {es : List Expr}, X.N = N → X.N.Nodup → X.calm = true → (∀ x, fn x = true → X.fn x = true) → chkGs N X.env.scope fn t es = true → PGs X es (gHs X.K t)
 | .nil, X, fn, es, hN, nd, cm, hf, h => by
  simp only [chkGs] at h
  cases es with
  | nil => exact hGs_nil
  | cons => cases h
 | .cons t r, X, fn, [], hN, nd, cm, hf, h => by simp only [chkGs] at h; cases h
 | .cons t r, X, fn, e :: es, hN, nd, cm, hf, h => by
  simp only [chkGs, Bool.and_eq_true] at h
  exact hGs_cons (sndGH t hN nd cm hf h.1.2) (sndGsH r hN nd cm hf h.2) h.1.1
end
mutual
theorem flatH_ix {h : HHp} : ∀ {t : Tg} {v : HV} {bs : List (Nat × HV)}, flatH h t v = .ok bs → bs.map (·.1) = tgIx t
 | .nm i, v, bs, e => by simp only [flatH] at e; cases e; rfl
 | .tp ts, v, bs, e => by
  simp only [flatH] at e
  obtain ⟨vs, _, e⟩ := bok e
  exact flatHs_ix e
theorem flatHs_ix {h : HHp} : ∀ {t : Tgs} {v : List HV} {bs : List (Nat × HV)}, flatHs h t v = .ok bs → bs.map (·.1) = tgsIx t
 | .nil, [], bs, e => by simp only [flatHs] at e; cases e; rfl
 | .nil, _ :: _, bs, e => by simp only [flatHs] at e; cases e
 | .cons _ _, [], bs, e => by simp only [flatHs] at e; cases e
 | .cons t r, v :: vs, bs, e => by
  simp only [flatHs] at e
  obtain ⟨b1, h1, e⟩ := bok e
  obtain ⟨b2, h2, e⟩ := bok e
  cases e
  rw [List.map_append, flatH_ix h1, flatHs_ix h2]; rfl
end
theorem wipeH_len (ρ : HEnv) : ∀ own : List Nat, (wipeH ρ own).length = ρ.length
 | [] => rfl
 | v :: vs => by unfold wipeH; rw [List.length_set, wipeH_len ρ vs]
theorem EnvH.wipe {K : PySem.W.Frag} {H : Hp} {O : Hid} {φ : List Addr} {σ : L2.St} {ρ : HEnv} (g : EnvH K H O φ σ ρ) : ∀ own : List Nat, EnvH K H O φ (wipe σ own) (wipeH ρ own)
 | [] => g
 | v :: vs => by
  have ih := EnvH.wipe g vs
  refine ⟨by rw [wipeH_len, wipe_length]; exact g.len, fun j u e => ?_⟩
  unfold wipeH at e
  by_cases hj : v = j
  ·subst hj
   by_cases hl : v < (wipeH ρ vs).length
   ·rw [List.getElem?_set_self hl] at e; cases e
   ·rw [List.getElem?_eq_none (by rw [List.length_set]; omega)] at e; cases e
  ·rw [List.getElem?_set_ne hj] at e
   obtain ⟨x, h1, h2⟩ := ih.get j u e
   refine ⟨x, ?_, h2⟩
   show ((L2.wipe σ vs).set v none)[j]? = _
   rw [List.getElem?_set_ne hj]; exact h1
def tHC (K : PySem.W.Frag) (T : Tab) (m : List Nat) (c : SO) : TT := fun σ H Q => ∃ O φ h ρ b, RelH K H O φ h ∧ EnvH K H O φ σ ρ ∧ evC T c (seeH m h ρ) = .ok b ∧ ∀ H', Ext H H' → RelH K H' O φ h → Q b H'
theorem hC {m : List Nat} {c : SO} (h1 : PTs X es (tCo X.K T c)) : PTs X es (tHC X.K T m c) := PTs.imp h1 (fun σ H Q ⟨O, φ, h, ρ, b, r, g, e, q⟩ => ⟨O, _, b, r.wf, g.see r m, e, fun H' x1 => q H' x1 (r.ext x1)⟩)
theorem tH_comp {K : PySem.W.Frag} {own : List Nat} {tg : Tg} {it : HI} {m : List Nat} {c : SO} {el : HE} (hown : ∀ i ∈ tgIx tg, i ∈ own) : ∀ σ H Q, tH K T (.comp own tg it m c el) σ H Q →
  tLc (tHI K T it) (gH K tg) (tHC K T m c) (tH K T el) own σ H Q := by
 intro σ H Q ⟨O, φ, h, ρ, q, r, g, e, f⟩
 simp only [evH] at e
 obtain ⟨qi, e1, e⟩ := bok e
 by_cases hlen : qi.1.many qi.2 ≤ lineN
 case neg => rw [if_neg hlen] at e; cases e
 rw [if_pos hlen] at e
 obtain ⟨z, e2, e⟩ := bok e
 cases e
 refine ⟨O, φ, h, ρ, qi, r, g, e1, fun J H1 φ1 k1 r1 hit => ?_⟩
 intro D nD
 have nOD : ¬ O D := r1.wf.new nD
 refine ⟨fun i k H2 => i + k = qi.1.many qi.2 + 1 ∧ ∃ φ2 h2 acc xs ys', H2 D = some (.lst xs) ∧ RelH K H2 (fun a => O a ∨ a = D) φ2 h2 ∧ RepHs K H2 (fun a => O a ∨ a = D) φ2 acc xs ∧ KeepH H1 φ1 H2 φ2 ∧
  compH (fun h ρ v => bindH h tg ρ v) (fun ρ h => evC T c (seeH m h ρ)) (fun ρ h => evH T el ρ h) qi.1 (wipeH ρ own) k i h2 = .ok (ys', z.2) ∧ acc ++ ys' = z.1 ∧ xs.length ≤ i,
  ⟨qi.1.many qi.2 + 1, by omega, φ1, qi.2, [], [], z.1, upd_same, r1.hide nD True.intro, RepHs.nil, .ext (Ext.upd nD), e2, rfl, Nat.zero_le _⟩, ?_⟩
 rintro i k H2 ⟨hik, φ2, h2, acc, xs, ys', hD, r2, rr, k2, hgo, hcat, hxl⟩
 cases k with
 | zero => simp only [compH] at hgo; cases hgo
 | succ k =>
  simp only [compH] at hgo
  obtain ⟨o, ho, hgo⟩ := bok hgo
  have kO : KeepO H1 O φ1 H2 (fun a => O a ∨ a = D) φ2 := ⟨⟨fun a u hu na nt => k2.k.vis a u hu (fun z => na (.inr z)) nt, fun a na h => k2.k.dom a (fun z => na (.inr z)) h, k2.k.tabs, fun a ha => by
   rcases ha with (ha | rfl) | ha
   ·exact .inl (.inl ha)
   ·exact .inr nD
   ·exact (k2.k.new a ha).imp .inr id⟩, k2.pre⟩
  obtain ⟨stop, go⟩ := hit i H2 _ φ2 h2 kO r2 o ho
  have nDφ : D ∉ φ2 := fun z => r2.out D z (.inr rfl)
  cases o with
  | none =>
   simp only at hgo
   cases hgo
   rw [List.append_nil] at hcat
   subst hcat
   refine .inl ⟨stop rfl, f (.ref D) H2 (φ2 ++ [D]) (k1.trans ⟨⟨fun a u h n nt => k2.k.vis a u h n nt, k2.k.dom, k2.k.tabs, fun a ha => ?_⟩, k2.pre.trans (List.prefix_append _ _)⟩) (r2.adopt nOD ⟨xs, hD, RepHs.keepO r2.wfo .adopt rr⟩) ?_⟩
   ·rw [List.mem_append, List.mem_singleton] at ha
    rcases ha with ha | rfl
    ·exact k2.k.new a ha
    ·exact .inr nD
   ·simp only [RepH]; exact ⟨D, by rw [← r2.len]; simp, rfl⟩
  | some v =>
   simp only at hgo
   obtain ⟨g1, y⟩ := go v rfl
   refine .inr ⟨g1, fun H' => ∃ φ2 h2 acc xs ys', H' D = some (.lst xs) ∧ RelH K H' (fun a => O a ∨ a = D) φ2 h2 ∧ RepHs K H' (fun a => O a ∨ a = D) φ2 acc xs ∧ KeepH H1 φ1 H' φ2 ∧
    compH (fun h ρ v => bindH h tg ρ v) (fun ρ h => evC T c (seeH m h ρ)) (fun ρ h => evH T el ρ h) qi.1 (wipeH ρ own) k (i + 1) h2 = .ok (ys', z.2) ∧ acc ++ ys' = z.1 ∧ xs.length ≤ i + 1,
    fun H' nx => ⟨k, by omega, by omega, nx⟩, fun x H3 hy => ?_⟩
   obtain ⟨x3, rx⟩ := y x H3 hy
   obtain ⟨ρ1, hb, hgo⟩ := bok hgo
   simp only [bindH] at hb
   obtain ⟨bs, hf, hb⟩ := bok hb
   cases hb
   obtain ⟨b, hc, hgo⟩ := bok hgo
   have r3 := r2.ext x3
   have g3 : EnvH K H3 (fun a => O a ∨ a = D) φ2 (L2.wipe σ own) (wipeH ρ own) := ((g.keepO r.wfo ((k1.toO.trans kO).trans (KeepH.ext x3).toO)).wipe own)
   refine ⟨_, φ2, h2, v, bs, r3, rx, hf, fun zs hz => ⟨?_, ?_⟩⟩
   ·rw [wipe_setsV (fun j hj => hown j (by rw [← flatH_ix hf]; exact hj)), wipe_wipe]
   ·refine ⟨_, φ2, h2, setsH (wipeH ρ own) bs, b, r3, g3.sets hz, hc, fun H4 x4 r4 => ?_⟩
    cases b with
    | false =>
     simp only [Bool.false_eq_true, if_false] at hgo ⊢
     exact ⟨φ2, h2, acc, xs, ys', x4.vis _ _ (x3.vis _ _ hD), r4, RepHs.keep r2.wfo (.ext (x3.trans x4)) rr, k2.trans (.ext (x3.trans x4)), hgo, hcat, by omega⟩
    | true =>
     simp only [if_true] at hgo ⊢
     obtain ⟨q5, hy1, hgo⟩ := bok hgo
     obtain ⟨z6, hy2, hgo⟩ := bok hgo
     obtain ⟨e5, e6⟩ := Prod.mk.inj (okI hgo)
     subst e5
     refine ⟨_, φ2, h2, setsH (wipeH ρ own) bs, q5, r4, (g3.sets hz).keep r3.wfo (.ext x4), hy1, fun y5 H5 φ5 k5 r5 ry => ?_⟩
     have hD5 : H5 D = some (.lst xs) := k5.k.vis D _ (x4.vis _ _ (x3.vis _ _ hD)) nDφ
     have hk0 : 0 < k := by
      cases k with
      | zero => simp only [compH] at hy2; cases hy2
      | succ k => omega
     obtain ⟨r6, k6⟩ := r5.touch (p := D) (u := .lst (xs ++ [y5])) (.inr rfl) True.intro
     have rr5 : RepHs K H5 (fun a => O a ∨ a = D) φ5 (acc ++ [q5.1]) (xs ++ [y5]) := (RepHs.keep r4.wfo k5 (RepHs.keep r2.wfo (.ext (x3.trans x4)) rr)).append (RepHs.cons ry RepHs.nil)
     have k15 : KeepH H1 φ1 H5 φ5 := (k2.trans (.ext (x3.trans x4))).trans k5
     refine ⟨xs, hD5, by rw [← lineN_eq]; omega, φ5, q5.2, acc ++ [q5.1], xs ++ [y5], z6.1, upd_same, r6, RepHs.keepO r5.wfo k6 rr5, ⟨⟨fun a u hu na nt => ?_, fun a na h => k15.k.dom a na (upd_nn h), fun t => Tabs.upd (k15.k.tabs t) hD5 True.intro, k15.k.new⟩, k15.pre⟩, by rw [← e6]; exact hy2, by rw [List.append_assoc]; exact hcat, by simp; omega⟩
     rw [upd_ne (ne_of_none hu nD)]
     exact k15.k.vis a u hu na nt
end
end VM
namespace VM
open PySem PySem.Spec PyProof.Rows L2
variable [Tbl]
def FinH (K : PySem.W.Frag) (O : Hid) (φ : List Addr) (H : Hp) (q : HFl × HEnv × HHp) (D : Ends) : Prop := match q with
 | (.nx, ρ', h') => ∀ σ' H' φ', KeepH H φ H' φ' → RelH K H' O φ' h' → EnvH K H' O φ' σ' ρ' → D.nx σ' H'
 | (.rt v, _, h') => ∀ x H' φ', KeepH H φ H' φ' → RelH K H' O φ' h' → RepH K H' O φ' v x → D.rt x H'
def tHS (K : PySem.W.Frag) (T : Tab) (s : HS) : TS := fun D σ H => ∃ O φ h ρ q, RelH K H O φ h ∧ EnvH K H O φ σ ρ ∧ exH T s ρ h = .ok q ∧ FinH K O φ H q D
def tHB (K : PySem.W.Frag) (T : Tab) (s : HB) : TS := fun D σ H => ∃ O φ h ρ q, RelH K H O φ h ∧ EnvH K H O φ σ ρ ∧ exHs T s ρ h = .ok q ∧ FinH K O φ H q D
section
variable {X : Cx} {n : Nat} {M : Nm} {T : Tab} {N : List Str} {e a b tg : Expr} {ha hb he : HE} {es : List Expr} {hes : HEs} {pos : Pos}
theorem FinH.keep {K : PySem.W.Frag} {O : Hid} {φ φ1 : List Addr} {H H1 : Hp} {q : HFl × HEnv × HHp} {D : Ends} (f : FinH K O φ H q D) (k : KeepH H φ H1 φ1) : FinH K O φ1 H1 q D := by
 obtain ⟨fl, ρ', h'⟩ := q
 cases fl with
 | nx => exact fun σ' H' φ' k' r g => f σ' H' φ' (k.trans k') r g
 | rt v => exact fun x H' φ' k' r p => f x H' φ' (k.trans k') r p
theorem hB_nil : PSs X [] (tHB X.K T .nil) := PSs.imp pss_nil (fun D σ H ⟨O, φ, h, ρ, q, r, g, e, f⟩ => by
 simp only [exHs] at e; cases e
 exact f σ H φ .refl r g)
theorem hB_seq {st : Stmt} {rest : List Stmt} {s : HS} {t : HB} (h1 : PS X st (tHS X.K T s)) (h2 : PSs X rest (tHB X.K T t)) : PSs X (st :: rest) (tHB X.K T (.cons s t)) :=
 PSs.imp (pss_cons h1 h2) (fun D σ H ⟨O, φ, h, ρ, q, r, g, e, f⟩ => by
  simp only [exHs] at e
  obtain ⟨⟨fl, ρ1, h1⟩, e1, e⟩ := bok e
  cases fl with
  | nx =>
   simp only at e
   exact ⟨O, φ, h, ρ, (.nx, ρ1, h1), r, g, e1, fun σ1 H1 φ1 k1 r1 g1 => ⟨O, φ1, h1, ρ1, q, r1, g1, e, f.keep k1⟩⟩
  | rt v =>
   simp only at e
   cases e
   exact ⟨O, φ, h, ρ, (.rt v, ρ1, h1), r, g, e1, f⟩)
theorem tH.mono {K : PySem.W.Frag} {s : HE} {σ : L2.St} {H : Hp} {Q Q' : VK} (t : tH K T s σ H Q) (i : ∀ x H1, Q x H1 → Q' x H1) : tH K T s σ H Q' := by
 obtain ⟨O, φ, h, ρ, q, r, g, e, f⟩ := t
 exact ⟨O, φ, h, ρ, q, r, g, e, fun x H' φ' k r' p => i _ _ (f x H' φ' k r' p)⟩
theorem hS_asg_core {tg : Tg} : ∀ D σ H, tHS X.K T (.asg tg he) D σ H → tAsg (tH X.K T he) (gH X.K tg) D σ H := fun D σ H ⟨O, φ, h, ρ, q, r, g, e, f⟩ => by
 simp only [exH] at e
 obtain ⟨q1, e1, e⟩ := bok e
 obtain ⟨ρ1, e2, e⟩ := bok e
 cases e
 simp only [bindH] at e2
 obtain ⟨bs, e3, e2⟩ := bok e2
 cases e2
 exact ⟨O, φ, h, ρ, q1, r, g, e1, fun x H1 φ1 k1 r1 p1 => ⟨O, φ1, q1.2, q1.1, bs, r1, p1, e3, fun xs hx => f _ _ _ k1 r1 ((g.keep r.wfo k1).sets hx)⟩⟩
theorem gH_nm {K : PySem.W.Frag} {i : Nat} {x : V} {σ : L2.St} {H : Hp} {Q : L2.St → Hp → Prop} (h : gH K (.nm i) x σ H Q) : Q (σ.set i (some x)) H := by
 obtain ⟨O, φ, h, u, bs, r, p, e, q⟩ := h
 simp only [flatH] at e
 cases e
 exact q [x] (RepHs.cons p RepHs.nil)
theorem hS_set {i : Nat} {x : Str} {px : Pos} (cx : Ctx X n M T N) (hk : X.env.scope.kind = .function) (hi : X.N[i]? = some x) (hx : Loc X.env.scope x) (hf : X.fn x = true ∨ X.env.scope.names.lookup x = some .local)
  (h1 : PE X e (tH X.K T he)) (hsw : swB X.env.scope x px e = false) (hn : noComp e = true ∨ ∃ a b c d, e = .ListComp a b c d) : PS X (.Assign [.Name x px] e pos) (tHS X.K T (.asg (.nm i) he)) :=
 PS.imp (ps_set cx.nd hi hx h1 (swB_false hk hsw hn) hf) (fun D σ H h => (hS_asg_core (X := X) (T := T) D σ H h).mono fun x H1 g => gH_nm g)
theorem hS_tup {ts : Tgs} {k : Nat} {pt : Pos} (h1 : PE X e (tH X.K T he)) (hg : PG X (.Tuple es k pt) (gH X.K (.tp ts))) (hw : swappedStores [.Tuple es k pt] e X.env = pure none) :
  PS X (.Assign [.Tuple es k pt] e pos) (tHS X.K T (.asg (.tp ts) he)) := by
 refine PS.imp (ps_asg h1 hg ?_ hw rfl) (hS_asg_core (X := X) (T := T))
 show swapsWith e (some (.Tuple es k pt)) pos.line X.env = pure false
 cases e <;> rfl
theorem hS_par {i j : Nat} {x y : Str} {px py pt pt2 : Pos} {kt k2 : Nat} (cx : Ctx X n M T N) (hk : X.env.scope.kind = .function) (hi : X.N[i]? = some x) (hj : X.N[j]? = some y) (hij : i ≠ j)
  (hp : parB X.env.scope x px y py a b = true) (h1 : PE X a (tH X.K T ha)) (h2 : PE X b (tH X.K T hb)) : PS X (.Assign [.Tuple [.Name x px, .Name y py] kt pt] (.Tuple [a, b] k2 pt2) pos) (tHS X.K T (.par i j ha hb)) := by
 have hp' := hp
 unfold parB at hp'
 simp only [Bool.and_eq_true] at hp'
 obtain ⟨⟨⟨⟨⟨⟨⟨h3, h4⟩, _⟩, _⟩, h5⟩, h6⟩, _⟩, _⟩ := hp'
 have l1 : X.env.scope.names.lookup x = some .local := by
  split at h3
  ·assumption
  ·cases h3
 have l2 : X.env.scope.names.lookup y = some .local := by
  split at h4
  ·assumption
  ·cases h4
 refine PS.imp (ps_par cx.calm cx.nd hi hj hij l1 l2 (hA_cons h1 (hA_cons h2 hA_nil h6) h5) (sw_par hk hp) rfl) (fun D σ H ⟨O, φ, h, ρ, q, r, g, e, f⟩ => ?_)
 simp only [exH] at e
 obtain ⟨q1, e1, e⟩ := bok e
 obtain ⟨q2, e2, e⟩ := bok e
 cases e
 refine ⟨O, φ, h, ρ, ([q1.1, q2.1], q2.2), r, g, by simp only [evHs, e1]; show ((evH T hb ρ q1.2 >>= _) >>= _) = _; rw [e2]; rfl, fun xs H1 φ1 k1 r1 p1 => ?_⟩
 simp only [RepHs] at p1
 obtain ⟨y1, t1, rfl, p1, y2, t2, rfl, p2, rfl⟩ := p1
 exact ⟨y1, y2, rfl, f _ _ _ k1 r1 (((g.keep r.wfo k1).set p1).set p2)⟩
def par3B (sc : Scope) (x : Str) (px : Pos) (y : Str) (py : Pos) (z : Str) (pz : Pos) (a b c : Expr) : Bool :=
 (match sc.names.lookup x with | some .local => true | _ => false) && ((match sc.names.lookup y with | some .local => true | _ => false) && ((match sc.names.lookup z with | some .local => true | _ => false) && (!(y == x) && (!(z == x) && (!(z == y) && ((py.line == px.line) && ((pz.line == px.line) && (nst a && (nst b && (nst c &&
  (!foldedForSure 8 a && !constantsAlone 8 a)))))))))))
theorem sw_par3 {env : Env} {x y z : Str} {px py pz p p2 : Pos} {a b c : Expr} {k k2 : Nat} (hk : env.scope.kind = .function) (h : par3B env.scope x px y py z pz a b c = true) :
  swappedStores [.Tuple [.Name x px, .Name y py, .Name z pz] k p] (.Tuple [a, b, c] k2 p2) env = pure (some [x, y, z]) := by
 have hb := kind_block hk
 unfold par3B at h
 simp only [Bool.and_eq_true, Bool.not_eq_true'] at h
 obtain ⟨h1, h2, h3, h4, h5, h6, h7, h8, h9, h10, h11, h12, h13⟩ := h
 have l1 : env.kindOf x = some .local := by
  split at h1
  ·assumption
  ·cases h1
 have l2 : env.kindOf y = some .local := by
  split at h2
  ·assumption
  ·cases h2
 have l3 : env.kindOf z = some .local := by
  split at h3
  ·assumption
  ·cases h3
 have s1 := isStar h9
 have s2 := isStar h10
 have s3 := isStar h11
 unfold swappedStores
 simp only [hb, bne_self_eq_false, Bool.or_false, List.length_cons, List.length_nil, List.any_cons, List.any_nil, s1, s2, s3, List.head?_cons, Option.map_some, Option.getD_some, List.filterMap_cons, List.filterMap_nil, l1, l2, l3, beq_self_eq_true, Bool.true_and, if_true,
  show (Expr.Name x px).pos = px from rfl, h7, h8, List.all_cons, List.all_nil, Bool.and_true, h12, h13, Bool.false_and]
 have e1 : [x, y, z].eraseDups.length = 3 := by
  simp [List.eraseDups_cons, h4, h5, h6]
 simp [e1]
 intro hh
 rcases hh with hh | hh | hh
 ·exact nomatch (show false = true from s1.symm.trans hh)
 ·exact nomatch (show false = true from s2.symm.trans hh)
 ·exact nomatch (show false = true from s3.symm.trans hh)
theorem hS_par3 {i j l : Nat} {x y z : Str} {px py pz pt pt2 : Pos} {kt k2 : Nat} {c : Expr} {hc' : HE} (cx : Ctx X n M T N) (hk : X.env.scope.kind = .function) (hi : X.N[i]? = some x) (hj : X.N[j]? = some y) (hl : X.N[l]? = some z) (hij : i ≠ j) (hil : i ≠ l) (hjl : j ≠ l)
  (hp : par3B X.env.scope x px y py z pz a b c = true) (h1 : PE X a (tH X.K T ha)) (h2 : PE X b (tH X.K T hb)) (h3' : PE X c (tH X.K T hc')) : PS X (.Assign [.Tuple [.Name x px, .Name y py, .Name z pz] kt pt] (.Tuple [a, b, c] k2 pt2) pos) (tHS X.K T (.par3 i j l ha hb hc')) := by
 have hp' := hp
 unfold par3B at hp'
 simp only [Bool.and_eq_true] at hp'
 obtain ⟨h3, h4, h5, _, _, _, _, _, h9, h10, h11, _, _⟩ := hp'
 have l1 : X.env.scope.names.lookup x = some .local := by
  split at h3
  ·assumption
  ·cases h3
 have l2 : X.env.scope.names.lookup y = some .local := by
  split at h4
  ·assumption
  ·cases h4
 have l3 : X.env.scope.names.lookup z = some .local := by
  split at h5
  ·assumption
  ·cases h5
 refine PS.imp (ps_par3 cx.calm cx.nd hi hj hl hij hil hjl l1 l2 l3 (hA_cons h1 (hA_cons h2 (hA_cons h3' hA_nil h11) h10) h9) (sw_par3 hk hp) rfl) (fun D σ H ⟨O, φ, h, ρ, q, r, g, e, f⟩ => ?_)
 simp only [exH] at e
 obtain ⟨q1, e1, e⟩ := bok e
 obtain ⟨q2, e2, e⟩ := bok e
 obtain ⟨q3, e3, e⟩ := bok e
 cases e
 refine ⟨O, φ, h, ρ, ([q1.1, q2.1, q3.1], q3.2), r, g, ?_, fun xs H1 φ1 k1 r1 p1 => ?_⟩
 ·simp only [evHs, e1]
  show ((evH T hb ρ q1.2 >>= _) >>= _) = _
  rw [e2]
  show (((evH T hc' ρ q2.2 >>= _) >>= _) >>= _) = _
  rw [e3]; rfl
 ·simp only [RepHs] at p1
  obtain ⟨y1, t1, rfl, p1, y2, t2, rfl, p2, y3, t3, rfl, p3, rfl⟩ := p1
  exact ⟨y1, y2, y3, rfl, f _ _ _ k1 r1 ((((g.keep r.wfo k1).set p1).set p2).set p3)⟩
theorem tyL {K : PySem.W.Frag} {H : Hp} {O : Hid} {φ : List Addr} {h : HHp} {v : HV} {x : V} {vs : List HV} (r : RelH K H O φ h) (p : RepH K H O φ v x) (e : lstH h v = .ok vs) : tyV K "list" x H := by
 obtain ⟨a, xs, rfl, hx, _⟩ := lstH_ok r p e
 exact .inl ⟨rfl, _, .inl (.inl hx)⟩
theorem hS_app {apos cpos : Pos} (h1 : PE X a (tH X.K T ha)) (h2 : PE X e (tH X.K T he)) (hs : nst e = true) (hline : (apos.endLine == cpos.line) = true) (hbase : attributeBase a "append" X.env (eval a X.env) = eval a X.env) :
  PS X (.Expr (.Call (.Attribute a "append" apos) [e] [] cpos) pos) (tHS X.K T (.app ha he)) :=
 PS.imp (ps_expr (pe_bm PySem.F.plainAttrs_list PySem.F.slot_list_append PySem.F.type_list_append mt_append h1 (pa_cons h2 pa_nil (star_cons hs)) hbase (few1 hs) hline (star_cons hs) rfl)) (fun D σ H ⟨O, φ, h, ρ, q, r, g, e, f⟩ => by
  simp only [exH] at e
  obtain ⟨q1, e1, e⟩ := bok e
  obtain ⟨l0, e0, e⟩ := bok e
  obtain ⟨q2, e2, e⟩ := bok e
  refine ⟨O, φ, h, ρ, q1, r, g, e1, fun x H1 φ1 k1 r1 p1 => ⟨tyL r1 p1 e0, O, φ1, q1.2, ρ, q2, r1, g.keep r.wfo k1, e2, fun y H2 φ2 k2 r2 p2 => ?_⟩⟩
  have p1' := RepH.keep r1.wfo k2 p1
  split at e
  ·rename_i k hk
   split at e
   ·rename_i ys hy
    obtain ⟨hl, e⟩ := iok e
    subst e
    rw [hk] at p1'
    simp only [RepH] at p1'
    obtain ⟨p, hp, rfl⟩ := p1'
    obtain ⟨xs, hx, rx⟩ := r2.obj k p _ hp hy
    have ka : KeepH H2 φ2 (upd H2 p (.lst (xs ++ [y]))) φ2 := (fun hm => .upd hm ((RelH.wfo (by assumption : RelH X.K H2 O φ2 _)) p (.inr hm))) (List.mem_iff_getElem?.mpr ⟨k, hp⟩)
    obtain ⟨r3, k3⟩ := r2.change (o := .lst (ys ++ [q2.1])) hp hy ⟨_, upd_same, RepHs.keep r2.wfo ka (rx.append (RepHs.cons p2 RepHs.nil))⟩
    exact ⟨p, xs, y, rfl, rfl, hx, by rw [rx.length, ← lineN_eq]; exact hl, f _ _ _ ((k1.trans k2).trans k3) r3 (g.keep r.wfo ((k1.trans k2).trans k3))⟩
   ·cases e
  ·cases e)
theorem hS_ext {apos cpos : Pos} (h1 : PE X a (tH X.K T ha)) (h2 : PE X e (tH X.K T he)) (hs : nst e = true) (hline : (apos.endLine == cpos.line) = true) (hbase : attributeBase a "extend" X.env (eval a X.env) = eval a X.env) :
  PS X (.Expr (.Call (.Attribute a "extend" apos) [e] [] cpos) pos) (tHS X.K T (.ext ha he)) :=
 PS.imp (ps_expr (pe_bm PySem.F.plainAttrs_list PySem.F.slot_list_extend PySem.F.type_list_extend mt_extend h1 (pa_cons h2 pa_nil (star_cons hs)) hbase (few1 hs) hline (star_cons hs) rfl)) (fun D σ H ⟨O, φ, h, ρ, q, r, g, e, f⟩ => by
  simp only [exH] at e
  obtain ⟨q1, e1, e⟩ := bok e
  obtain ⟨l0, e0, e⟩ := bok e
  obtain ⟨q2, e2, e⟩ := bok e
  obtain ⟨zs, e3, e⟩ := bok e
  refine ⟨O, φ, h, ρ, q1, r, g, e1, fun x H1 φ1 k1 r1 p1 => ⟨tyL r1 p1 e0, O, φ1, q1.2, ρ, q2, r1, g.keep r.wfo k1, e2, fun y H2 φ2 k2 r2 p2 => ?_⟩⟩
  have p1' := RepH.keep r1.wfo k2 p1
  split at e
  ·rename_i k hk
   split at e
   ·rename_i ys hy
    obtain ⟨hl, e⟩ := iok e
    subst e
    rw [hk] at p1'
    simp only [RepH] at p1'
    obtain ⟨p, hp, rfl⟩ := p1'
    obtain ⟨xs, hx, rx⟩ := r2.obj k p _ hp hy
    obtain ⟨b2, ws, rfl, hw, rw2⟩ := lstH_ok r2 p2 e3
    have ka : KeepH H2 φ2 (upd H2 p (.lst (xs ++ ws))) φ2 := (fun hm => .upd hm ((RelH.wfo (by assumption : RelH X.K H2 O φ2 _)) p (.inr hm))) (List.mem_iff_getElem?.mpr ⟨k, hp⟩)
    obtain ⟨r3, k3⟩ := r2.change (o := .lst (ys ++ zs)) hp hy ⟨_, upd_same, RepHs.keep r2.wfo ka (rx.append rw2)⟩
    exact ⟨p, b2, xs, ws, rfl, rfl, hx, hw, by rw [rx.length, rw2.length, ← lineN_eq]; exact hl, f _ _ _ ((k1.trans k2).trans k3) r3 (g.keep r.wfo ((k1.trans k2).trans k3))⟩
   ·cases e
  ·cases e)
theorem hS_set1 {m : List Nat} {k : SE} {i : Expr} {p2 : Pos} (h1 : PE X a (tH X.K T ha)) (h2 : PE X i (tE X.K T k)) (h3 : PE X e (tH X.K T he)) (hi : ixOk i = true) :
  PS X (.Assign [.Subscript a i p2] e pos) (tHS X.K T (.set ha m k he)) := by
 refine PS.imp (ps_asg h3 (pg_sub h1 h2 set_list (fun v => by cases i <;> first | rfl | cases hi)) ?_ (by cases e <;> rfl) rfl) (fun D σ H ⟨O, φ, h, ρ, q, r, g, e, f⟩ => ?_)
 ·show swapsWith e (some (.Subscript a i p2)) pos.line X.env = pure false
  cases e <;> rfl
 ·simp only [exH] at e
  obtain ⟨q1, e1, e⟩ := bok e
  obtain ⟨q2, e2, e⟩ := bok e
  obtain ⟨kv, e3, e⟩ := bok e
  refine ⟨O, φ, h, ρ, q1, r, g, e1, fun x H1 φ1 k1 r1 p1 => ⟨O, φ1, q1.2, ρ, q2, r1, g.keep r.wfo k1, e2, fun y H2 φ2 k2 r2 p2 => ?_⟩⟩
  split at e
  ·rename_i nn hk
   split at e
   ·rename_i ys hy
    split at e
    ·rename_i z
     split at e
     ·rename_i j hj
      cases e
      have g2 := g.keep r.wfo (k1.trans k2)
      refine see_pu r2 g2 e3 rfl (fun w H3 x3 r3 p3 => ?_)
      simp only [RepH, Rep] at p3
      subst p3
      rw [hk] at p2
      simp only [RepH] at p2
      obtain ⟨p, hp, rfl⟩ := p2
      obtain ⟨xs, hx, rx⟩ := r3.obj nn p _ hp hy
      have ka : KeepH H3 φ2 (upd H3 p (.lst (xs.set j x))) φ2 := (fun hm => .upd hm ((RelH.wfo (by assumption : RelH X.K H3 O φ2 _)) p (.inr hm))) (List.mem_iff_getElem?.mpr ⟨nn, hp⟩)
      have px : RepH X.K H3 O φ2 q1.1 x := RepH.keep r1.wfo (k2.trans (.ext x3)) p1
      obtain ⟨r4, k4⟩ := r3.change (o := .lst (ys.set j q1.1)) hp hy ⟨_, upd_same, RepHs.keep r3.wfo ka (rx.set j px)⟩
      have kk := ((k1.trans k2).trans (.ext x3)).trans k4
      exact ⟨p, xs, z, j, rfl, rfl, hx, by rw [rx.length]; exact hj, f _ _ _ kk r4 (g.keep r.wfo kk)⟩
     ·cases e
    ·cases e
   ·cases e
  ·cases e
theorem put_repH {K : PySem.W.Frag} {H : Hp} {O : Hid} {φ : List Addr} {κ : Type} [DecidableEq κ] (f : κ → Val) (k : κ) (hf : ∀ a, veq (f a) (f k) = decide (a = k)) {v : HV} {y : V} (ry : RepH K H O φ v y) : ∀ {kvs : List (κ × V)} {vs : List HV}, RepHs K H O φ vs (kvs.map (·.2)) → (kvs.map (·.1)).Nodup →
  (putDH (kvs.map (fun p => f p.1)) vs (f k) v).1 = (putK kvs k y).map (fun p => f p.1) ∧ RepHs K H O φ (putDH (kvs.map (fun p => f p.1)) vs (f k) v).2 ((putK kvs k y).map (·.2)) ∧ ((putK kvs k y).map (·.1)).Nodup ∧ ∀ a, a ∈ (putK kvs k y).map (·.1) → a = k ∨ a ∈ kvs.map (·.1)
 | [], vs, h, nd => by
  rw [putK_nil]
  cases vs with
  | nil => exact ⟨rfl, RepHs.cons ry RepHs.nil, by simp, by simp⟩
  | cons v vs => simp only [List.map_nil, RepHs] at h; obtain ⟨_, _, e, _⟩ := h; cases e
 | p :: kvs, [], h, nd => by simp only [List.map_cons, RepHs] at h; cases h
 | p :: kvs, v0 :: vs, h, nd => by
  simp only [List.map_cons, RepHs] at h
  obtain ⟨x, r, e, rv, q⟩ := h
  cases e
  rw [List.map_cons, List.nodup_cons] at nd
  simp only [List.map_cons, putDH]
  rw [hf p.1]
  by_cases e : p.1 = k
  ·rw [putK_pos e (by rw [← e]; exact nd.1)]
   simp only [decide_eq_true e, if_true, List.map_cons]
   exact ⟨by simp, RepHs.cons ry q, List.nodup_cons.mpr nd, fun a ha => .inr ha⟩
  ·obtain ⟨i1, i2, i3, i4⟩ := put_repH f k hf ry q nd.2
   rw [putK_neg e]
   simp only [decide_eq_false e, Bool.false_eq_true, if_false, List.map_cons]
   refine ⟨by rw [i1], RepHs.cons rv i2, List.nodup_cons.mpr ⟨fun z => ?_, i3⟩, fun a ha => ?_⟩
   ·rcases i4 _ z with z | z
    ·exact e z
    ·exact nd.1 z
   ·rcases List.mem_cons.mp ha with z | z
    ·exact .inr (z ▸ List.mem_cons_self ..)
    ·exact (i4 a z).imp id (List.mem_cons_of_mem _)
theorem hS_dset {n : Nat} {M : Nm} {N : List Str} {m : List Nat} {k : SE} {i : Expr} {p2 : Pos} (cx : Ctx X n M T N) (h1 : PE X a (tH X.K T ha)) (h2 : PE X i (tE X.K T k)) (h3 : PE X e (tH X.K T he)) :
  PS X (.Assign [.Subscript a i p2] e pos) (tHS X.K T (.dset ha m k he)) := by
 refine PS.imp (ps_store (str_ok cx.hw cx.u65) h1 h2 h3 ?_) (fun D σ H ⟨O, φ, h, ρ, q, r, g, e, f⟩ => ?_)
 ·show swapsWith e (some (.Subscript a i p2)) pos.line X.env = pure false
  cases e <;> rfl
 ·simp only [exH] at e
  obtain ⟨q1, e1, e⟩ := bok e
  obtain ⟨q2, e2, e⟩ := bok e
  obtain ⟨kv, e3, e⟩ := bok e
  refine ⟨O, φ, h, ρ, q1, r, g, e1, fun x H1 φ1 k1 r1 p1 => ⟨O, φ1, q1.2, ρ, q2, r1, g.keep r.wfo k1, e2, fun y H2 φ2 k2 r2 p2 => ?_⟩⟩
  split at e
  ·rename_i nn hk
   split at e
   ·rename_i t ks vs hy
    obtain ⟨hl, e⟩ := iok e
    subst e
    rw [Bool.and_eq_true] at hl
    obtain ⟨hk1, hl⟩ := hl
    have hl := of_decide_eq_true hl
    have g2 := g.keep r.wfo (k1.trans k2)
    cases t with
    | true =>
     obtain ⟨kl, rfl, hdk⟩ := keyOk_N hk1
     refine see_pu r2 g2 e3 (by rw [flat_key]; rfl) (fun w H3 x3 r3 p3 => ?_)
     simp only [RepH] at p3
     have p30 := p3
     simp only [valOf, Rep] at p3
     obtain ⟨b, ys, rfl, _, _⟩ := p3
     rw [hk] at p2
     simp only [RepH] at p2
     obtain ⟨p, hp, rfl⟩ := p2
     obtain ⟨kvs, hx, rfl, nd, gk, rx⟩ := r3.obj nn p _ hp hy
     have px : RepH X.K H3 O φ2 q1.1 x := RepH.keep r1.wfo (k2.trans (.ext x3)) p1
     obtain ⟨i1, i2, i3, _⟩ := put_repH (kvs := kvs.map fun p => (p.1, p.2.2)) valOf (.tup kl) (fun a => veq_N a _) px (by rw [List.map_map]; exact rx) (by rw [List.map_map]; exact nd.1)
     rw [← putN_putK kvs (.tup kl) b x] at i1 i2 i3
     rw [List.map_map, List.map_map] at i1
     rw [List.map_map] at i2 i3
     rw [List.map_map] at i2
     have ka : KeepH H3 φ2 (upd H3 p (DN Tbl.w p (putN kvs (.tup kl) b x))) φ2 := (fun hm => .upd hm ((RelH.wfo (by assumption : RelH X.K H3 O φ2 _)) p (.inr hm))) (List.mem_iff_getElem?.mpr ⟨nn, hp⟩)
     have gk' : Reps X.K H3 (Oh O φ2) ((putN kvs (.tup kl) b x).map fun p => valOf p.1) ((putN kvs (.tup kl) b x).map fun p => V.ref p.2.1) := putN_keys p30 (RepHs.toP gk)
     have i1' : (putDH (kvs.map fun p : NestedKey × Addr × V => valOf p.1) vs (valOf (NestedKey.tup kl)) q1.1).1 = (putN kvs (.tup kl) b x).map fun p : NestedKey × Addr × V => valOf p.1 := i1
     have i2' : RepHs X.K H3 O φ2 (putDH (kvs.map fun p : NestedKey × Addr × V => valOf p.1) vs (valOf (NestedKey.tup kl)) q1.1).2 ((putN kvs (.tup kl) b x).map (·.2.2)) := i2
     clear i1 i2
     obtain ⟨r4, k4⟩ := r3.change (o := .dic true (putDH (kvs.map fun p : NestedKey × Addr × V => valOf p.1) vs (valOf (NestedKey.tup kl)) q1.1).1 (putDH (kvs.map fun p : NestedKey × Addr × V => valOf p.1) vs (valOf (NestedKey.tup kl)) q1.1).2) hp hy ⟨_, upd_same, i1', ⟨i3, putN_depth hdk nd.2⟩, by rw [i1']; exact RepHs.keep r3.wfo ka (RepHs.ofP gk'), RepHs.keep r3.wfo ka i2'⟩
     have kk := ((k1.trans k2).trans (.ext x3)).trans k4
     exact .inr ⟨p, b, kvs, .tup kl, _, _, rfl, rfl, hx, nd.2, RepHs.toP gk, p30, hdk, by rw [List.length_map] at hl; rw [← lineN_eq]; exact hl, f _ _ _ kk r4 (g.keep r.wfo kk)⟩
    | false =>
     obtain ⟨key, rfl⟩ := keyOk_F hk1
     refine see_pu r2 g2 e3 (by cases key <;> rfl) (fun w H3 x3 r3 p3 => ?_)
     simp only [RepH] at p3
     obtain rfl := rep_key p3
     rw [hk] at p2
     simp only [RepH] at p2
     obtain ⟨p, hp, rfl⟩ := p2
     obtain ⟨kvs, hx, rfl, nd, rx⟩ := r3.obj nn p _ hp hy
     have px : RepH X.K H3 O φ2 q1.1 x := RepH.keep r1.wfo (k2.trans (.ext x3)) p1
     obtain ⟨i1, i2, i3, _⟩ := put_repH ofKey key (fun a => veq_key a key) px rx nd
     have ka : KeepH H3 φ2 (upd H3 p (.dK (putK kvs key x))) φ2 := (fun hm => .upd hm ((RelH.wfo (by assumption : RelH X.K H3 O φ2 _)) p (.inr hm))) (List.mem_iff_getElem?.mpr ⟨nn, hp⟩)
     obtain ⟨r4, k4⟩ := r3.change (o := .dic false (putDH (kvs.map fun p => ofKey p.1) vs (ofKey key) q1.1).1 (putDH (kvs.map fun p => ofKey p.1) vs (ofKey key) q1.1).2) hp hy ⟨_, upd_same, i1, i3, RepHs.keep r3.wfo ka i2⟩
     have kk := ((k1.trans k2).trans (.ext x3)).trans k4
     exact .inl ⟨p, _, rfl, DPut.k hx (by rw [List.length_map] at hl; rw [← lineN_eq]; exact hl), f _ _ _ kk r4 (g.keep r.wfo kk)⟩
   ·cases e
  ·cases e
theorem hS_ret (h1 : PE X e (tH X.K T he)) : PS X (.Return (some e) pos) (tHS X.K T (.ret he)) :=
 PS.imp (ps_ret h1) (fun D σ H ⟨O, φ, h, ρ, q, r, g, e, f⟩ => by
  simp only [exH] at e
  obtain ⟨q1, e1, e⟩ := bok e
  cases e
  exact ⟨O, φ, h, ρ, q1, r, g, e1, fun x H1 φ1 k1 r1 p1 => f x H1 φ1 k1 r1 p1⟩)
theorem hS_rvs {apos cpos : Pos} (h1 : PE X a (tH X.K T ha)) (hline : (apos.endLine == cpos.line) = true) (hbase : attributeBase a "reverse" X.env (eval a X.env) = eval a X.env) :
  PS X (.Expr (.Call (.Attribute a "reverse" apos) [] [] cpos) pos) (tHS X.K T (.rvs ha)) :=
 PS.imp (ps_expr (pe_bm0 PySem.F.plainAttrs_list PySem.F.slot_list_reverse PySem.F.type_list_reverse mt_reverse h1 hbase hline) rfl) (fun D σ H ⟨O, φ, h, ρ, q, r, g, e, f⟩ => by
  simp only [exH] at e
  obtain ⟨q1, e1, e⟩ := bok e
  refine ⟨O, φ, h, ρ, q1, r, g, e1, fun x H1 φ1 k1 r1 p1 => ?_⟩
  obtain ⟨q1v, q1h⟩ := q1
  unfold rvsH at e
  simp only at e r1 p1
  split at e
  ·rename_i k
   split at e
   ·rename_i ys hk
    cases e
    simp only [RepH] at p1
    obtain ⟨p, hp, rfl⟩ := p1
    obtain ⟨xs, hx, rr⟩ := r1.obj k p _ hp hk
    have ka : KeepH H1 φ1 (upd H1 p (.lst xs.reverse)) φ1 := .upd (List.mem_iff_getElem?.mpr ⟨k, hp⟩) (r1.wfo p (.inr (List.mem_iff_getElem?.mpr ⟨k, hp⟩)))
    obtain ⟨r3, k3⟩ := r1.change (o := .lst ys.reverse) hp hk ⟨_, upd_same, RepHs.keep r1.wfo ka rr.rev⟩
    exact ⟨.inl ⟨rfl, _, SqL.of hx⟩, p, xs, rfl, rfl, hx, f _ _ _ (k1.trans k3) r3 (g.keep r.wfo (k1.trans k3))⟩
   ·cases e
  ·cases e)
theorem hS_expr (h1 : PE X e (tH X.K T he)) (hn : noComp e = true) : PS X (.Expr e pos) (tHS X.K T (.expr he)) :=
 PS.imp (ps_expr h1 (noComp_sw hn)) (fun D σ H ⟨O, φ, h, ρ, q, r, g, e, f⟩ => by
  simp only [exH] at e
  obtain ⟨q1, e1, e⟩ := bok e
  cases e
  exact ⟨O, φ, h, ρ, q1, r, g, e1, fun x H1 φ1 k1 r1 p1 => f σ H1 φ1 k1 r1 (g.keep r.wfo k1)⟩)
theorem hS_if {m : List Nat} {c : Expr} {s : SE} {as bs : List Stmt} {sa sb : HB} (hc : PT X c (tT X.K T s)) (h1 : PSs X as (tHB X.K T sa)) (h2 : PSs X bs (tHB X.K T sb)) : PS X (.If c as bs pos) (tHS X.K T (.iff m s sa sb)) :=
 PS.imp (ps_if hc h1 h2) (fun D σ H ⟨O, φ, h, ρ, q, r, g, e, f⟩ => by
  simp only [exH] at e
  obtain ⟨v, e1, e⟩ := bok e
  obtain ⟨k, e2, hK⟩ := bok e
  obtain rfl := tru_ok e2
  replace e := hK
  refine see_t r g e1 fun H1 x1 r1 => ?_
  cases k with
  | true => simp only [if_true] at e ⊢; exact ⟨O, φ, h, ρ, q, r1, g.keep r.wfo (.ext x1), e, f.keep (.ext x1)⟩
  | false => simp only [Bool.false_eq_true, if_false] at e ⊢; exact ⟨O, φ, h, ρ, q, r1, g.keep r.wfo (.ext x1), e, f.keep (.ext x1)⟩)
theorem hS_raise {c : Nat} {st : Stmt} : PS X st (tHS X.K T (.raise c)) :=
 PS.imp ps_never (fun D σ H ⟨O, φ, h, ρ, q, r, g, e, f⟩ => by simp only [exH] at e; cases e)
theorem hS_while {m : List Nat} {μ s : SE} {c : Expr} {bs : List Stmt} {sb : HB} (hp : PassesOwn (model X.prog X.w) X.A X.env X.xe) (hc : PT X c (tT X.K T s)) (h2 : PSs X bs (tHB X.K T sb)) : PS X (.While c bs [] pos) (tHS X.K T (.whl m μ s sb)) :=
 PS.imp (ps_while hp hc h2) (fun D σ H ⟨O, φ, h, ρ, q, r, g, e, f⟩ => by
  simp only [exH] at e
  obtain ⟨v, _, e⟩ := bok e
  obtain ⟨z, _, e⟩ := bok e
  refine ⟨fun k σ2 H2 => ∃ φ2 h2 ρ2, RelH X.K H2 O φ2 h2 ∧ EnvH X.K H2 O φ2 σ2 ρ2 ∧ KeepH H φ H2 φ2 ∧ whH (fun ρ h => do let x ← ev T s (seeH m h ρ); tru x) (fun ρ h => exHs T sb ρ h) k ρ2 h2 = .ok q, ⟨z.toNat + 1, φ, h, ρ, r, g, .refl, e⟩, ?_⟩
  rintro k σ2 H2 ⟨φ2, h2, ρ2, r2, g2, k2, hg⟩
  cases k with
  | zero => simp only [whH] at hg; cases hg
  | succ k =>
   simp only [whH] at hg
   obtain ⟨t, h1, hg⟩ := bok hg
   obtain ⟨x, h3, h1⟩ := bok h1
   obtain rfl := tru_ok h1
   refine see_t r2 g2 h3 fun H3 x3 r3 => ?_
   have k3 := k2.trans (KeepH.ext x3)
   have g3 := g2.keep r2.wfo (.ext x3)
   cases t with
   | false =>
    simp only [Bool.false_eq_true, if_false] at hg ⊢
    cases hg
    exact f σ2 H3 φ2 k3 r3 g3
   | true =>
    simp only [if_true] at hg ⊢
    obtain ⟨⟨fl, ρ3, h3'⟩, h4, hg⟩ := bok hg
    refine ⟨fun σ' H' => ∃ φ2 h2 ρ2, RelH X.K H' O φ2 h2 ∧ EnvH X.K H' O φ2 σ' ρ2 ∧ KeepH H φ H' φ2 ∧ whH (fun ρ h => do let x ← ev T s (seeH m h ρ); tru x) (fun ρ h => exHs T sb ρ h) k ρ2 h2 = .ok q, fun σ' H' nx => ⟨k, by omega, nx⟩, ?_⟩
    refine ⟨O, φ2, h2, ρ2, (fl, ρ3, h3'), r3, g3, h4, ?_⟩
    cases fl with
    | nx =>
     simp only at hg
     exact fun σ' H' φ' k' r' g' => ⟨φ', h3', ρ3, r', g', k3.trans k', hg⟩
    | rt v =>
     simp only at hg
     cases hg
     exact fun x H' φ' k' r' p' => f x H' φ' (k3.trans k') r' p')
theorem EnvH.forget {K : PySem.W.Frag} {H : Hp} {O : Hid} {φ : List Addr} {σ : L2.St} {ρ : HEnv} (g : EnvH K H O φ σ ρ) : ∀ W, EnvH K H O φ σ (wipeH ρ W)
 | [] => g
 | w :: W => by
  have ih := g.forget W
  refine ⟨by simp only [wipeH, List.length_set]; exact ih.len, fun i u e => ?_⟩
  simp only [wipeH] at e
  by_cases hi : w = i
  ·subst hi
   rw [List.getElem?_set] at e
   split at e
   ·split at e <;> cases e
   ·exact ih.get _ _ e
  ·rw [List.getElem?_set_ne hi] at e
   exact ih.get _ _ e
theorem hS_for {tg : Tg} {it : HI} {tgE iter : Expr} {bs : List Stmt} {sb : HB} (cx : Ctx X n M T N) (hp : PassesOwn (model X.prog X.w) X.A X.env X.xe) (hi : PI X tgE iter (tHI X.K T it)) (hg : PG X tgE (gH X.K tg)) (h2 : PSs X bs (tHB X.K T sb))
  (hs : noSet iter = true) : PS X (.For tgE iter bs [] pos) (tHS X.K T (.loop tg it sb)) :=
 PS.imp (ps_for hp cx.calm hi hg h2 (noSet_fold hs)) (fun D σ H ⟨O, φ, h, ρ, q, r, g, e, f⟩ => by
  simp only [exH] at e
  obtain ⟨qi, e1, e⟩ := bok e
  refine ⟨O, φ, h, ρ, qi, r, g, e1, fun J H1 φ1 k1 r1 hit => ?_⟩
  refine ⟨fun i k σ2 H2 => ∃ φ2 h2 ρ2, RelH X.K H2 O φ2 h2 ∧ EnvH X.K H2 O φ2 σ2 ρ2 ∧ KeepH H1 φ1 H2 φ2 ∧ forH (fun h ρ v => bindH h tg ρ v) (fun ρ h => exHs T sb ρ h) qi.1 k i ρ2 h2 = .ok q,
   ⟨qi.1.many qi.2 + 1, φ1, qi.2, ρ, r1, g.keep r.wfo k1, .refl, e⟩, ?_⟩
  rintro i k σ2 H2 ⟨φ2, h2, ρ2, r2, g2, k2, hgo⟩
  cases k with
  | zero => simp only [forH] at hgo; cases hgo
  | succ k =>
   simp only [forH] at hgo
   obtain ⟨o, ho, hgo⟩ := bok hgo
   obtain ⟨stop, go⟩ := hit i H2 O φ2 h2 k2.toO r2 o ho
   cases o with
   | none =>
    simp only at hgo
    cases hgo
    exact .inl ⟨stop rfl, f σ2 H2 φ2 (k1.trans k2) r2 g2⟩
   | some v =>
    simp only at hgo
    obtain ⟨g1, y⟩ := go v rfl
    refine .inr ⟨g1, fun σ' H' => ∃ φ2 h2 ρ2, RelH X.K H' O φ2 h2 ∧ EnvH X.K H' O φ2 σ' ρ2 ∧ KeepH H1 φ1 H' φ2 ∧ forH (fun h ρ v => bindH h tg ρ v) (fun ρ h => exHs T sb ρ h) qi.1 k (i + 1) ρ2 h2 = .ok q,
     fun σ' H' nx => ⟨k, by omega, nx⟩, fun x H3 hy => ?_⟩
    obtain ⟨x3, rx⟩ := y x H3 hy
    obtain ⟨ρ3, hb, hgo⟩ := bok hgo
    simp only [bindH] at hb
    obtain ⟨bs, hf, hb⟩ := bok hb
    cases hb
    obtain ⟨⟨fl, ρ4, h4⟩, h5, hgo⟩ := bok hgo
    have r3 := r2.ext x3
    have g3 := g2.keep r2.wfo (.ext x3)
    refine ⟨O, φ2, h2, v, bs, r3, rx, hf, fun zs hz => ?_⟩
    refine ⟨O, φ2, h2, _, (fl, ρ4, h4), r3, g3.sets hz, h5, ?_⟩
    cases fl with
    | nx =>
     simp only at hgo
     exact fun σ' H' φ' k' r' g' => ⟨φ', h4, ρ4, r', g', (k2.trans (.ext x3)).trans k', hgo⟩
    | rt v =>
     simp only at hgo
     cases hgo
     exact fun x H' φ' k' r' p' => f x H' φ' (((k1.trans k2).trans (.ext x3)).trans k') r' p')
theorem hS_forw {W : List Nat} {tg : Tg} {it : HI} {tgE iter : Expr} {bs : List Stmt} {sb : HB} (cx : Ctx X n M T N) (hp : PassesOwn (model X.prog X.w) X.A X.env X.xe) (hi : PI X tgE iter (tHI X.K T it)) (hg : PG X tgE (gH X.K tg)) (h2 : PSs X bs (tHB X.K T sb))
  (hs : noSet iter = true) : PS X (.For tgE iter bs [] pos) (tHS X.K T (.loopw W tg it sb)) :=
 PS.imp (ps_for hp cx.calm hi hg h2 (noSet_fold hs)) (fun D σ H ⟨O, φ, h, ρ, q, r, g, e, f⟩ => by
  simp only [exH] at e
  obtain ⟨qi, e1, e⟩ := bok e
  refine ⟨O, φ, h, ρ, qi, r, g, e1, fun J H1 φ1 k1 r1 hit => ?_⟩
  refine ⟨fun i k σ2 H2 => ∃ φ2 h2 ρ2, RelH X.K H2 O φ2 h2 ∧ EnvH X.K H2 O φ2 σ2 ρ2 ∧ KeepH H1 φ1 H2 φ2 ∧ forH (fun h ρ v => bindH h tg (wipeH ρ W) v) (fun ρ h => exHs T sb ρ h) qi.1 k i ρ2 h2 = .ok q,
   ⟨qi.1.many qi.2 + 1, φ1, qi.2, ρ, r1, g.keep r.wfo k1, .refl, e⟩, ?_⟩
  rintro i k σ2 H2 ⟨φ2, h2, ρ2, r2, g2, k2, hgo⟩
  cases k with
  | zero => simp only [forH] at hgo; cases hgo
  | succ k =>
   simp only [forH] at hgo
   obtain ⟨o, ho, hgo⟩ := bok hgo
   obtain ⟨stop, go⟩ := hit i H2 O φ2 h2 k2.toO r2 o ho
   cases o with
   | none =>
    simp only at hgo
    cases hgo
    exact .inl ⟨stop rfl, f σ2 H2 φ2 (k1.trans k2) r2 g2⟩
   | some v =>
    simp only at hgo
    obtain ⟨g1, y⟩ := go v rfl
    refine .inr ⟨g1, fun σ' H' => ∃ φ2 h2 ρ2, RelH X.K H' O φ2 h2 ∧ EnvH X.K H' O φ2 σ' ρ2 ∧ KeepH H1 φ1 H' φ2 ∧ forH (fun h ρ v => bindH h tg (wipeH ρ W) v) (fun ρ h => exHs T sb ρ h) qi.1 k (i + 1) ρ2 h2 = .ok q,
     fun σ' H' nx => ⟨k, by omega, nx⟩, fun x H3 hy => ?_⟩
    obtain ⟨x3, rx⟩ := y x H3 hy
    obtain ⟨ρ3, hb, hgo⟩ := bok hgo
    simp only [bindH] at hb
    obtain ⟨bs, hf, hb⟩ := bok hb
    cases hb
    obtain ⟨⟨fl, ρ4, h4⟩, h5, hgo⟩ := bok hgo
    have r3 := r2.ext x3
    have g3 := g2.keep r2.wfo (.ext x3)
    refine ⟨O, φ2, h2, v, bs, r3, rx, hf, fun zs hz => ?_⟩
    refine ⟨O, φ2, h2, _, (fl, ρ4, h4), r3, (g3.forget W).sets hz, h5, ?_⟩
    cases fl with
    | nx =>
     simp only at hgo
     exact fun σ' H' φ' k' r' g' => ⟨φ', h4, ρ4, r', g', (k2.trans (.ext x3)).trans k', hgo⟩
    | rt v =>
     simp only at hgo
     cases hgo
     exact fun x H' φ' k' r' p' => f x H' φ' (((k1.trans k2).trans (.ext x3)).trans k') r' p')
end
end VM
namespace VM
open PySem PySem.Spec PyProof.Rows L2
variable [Tbl]
def chkFlds (M : Nm) (N : List Str) (sc : Scope) : List String → SEs → List Stmt → Bool
 | [], s, sts => (match s with | .nil => true | _ => false) && sts.isEmpty
 | f :: fs, s, sts => match s, sts with
  | .cons e r, .Assign [.Attribute (.Name x _) g _] v _ :: sts => decide (N[0]? = some x) && visB sc x && dbg x && decide (g = Str.ofString f) && decide (g ∈ M.fl) && chkE M N e sc v && chkFlds M N sc fs r sts
  | _, _ => false
def chkInit (M : Nm) (N ps : List Str) (fs : List String) (es : SEs) (st : Stmt) : Bool :=
 scopeB N ps (defScope st) && decide ((fs.map Str.ofString).Nodup) && decide (fs.length < 1000) && chkFlds M N (defScope st) fs es (defBody st)
theorem sw_attr {v o : Expr} {g : Str} {p : Pos} {l : Nat} {env : Env} : swapsWith v (some (.Attribute o g p)) l env = pure false := by cases v <;> rfl
theorem putF_new {f : Str} {y : V} : ∀ {kvs : List (Str × V)}, f ∉ kvs.map (·.1) → putF f y kvs = kvs ++ [(f, y)]
 | [], _ => rfl
 | (k, x) :: kvs, h => by
  simp only [List.map_cons, List.mem_cons, not_or] at h
  show (if k = f then (k, y) :: kvs else (k, x) :: putF f y kvs) = _
  rw [if_neg (fun z => h.1 z.symm), putF_new h.2]
  rfl
theorem Keep.hid {H : Hp} {O : Hid} {p : Addr} {o u : HO} (h : H p = some o) (hO : O p) (ne : NE o) : Keep H O (L2.upd H p u) O :=
 ⟨fun a v ha na _ => by rw [upd_ne (fun z => na (by rw [z]; exact hO))]; exact ha, fun a na ha => by
  by_cases hap : a = p
  ·subst hap; exact absurd hO na
  ·rwa [upd_ne hap] at ha, fun t => Tabs.upd t h ne, fun a ha => .inl ha⟩
theorem Keep.one {H H' : Hp} {O : Hid} {p : Addr} (k : Keep H (fun a => a = p) H' (fun a => a = p)) (hO : O p) : Keep H O H' O :=
 ⟨fun a o h na nt => k.vis a o h (fun z => na (by rw [z]; exact hO)) nt, fun a na h => k.dom a (fun z => na (by rw [z]; exact hO)) h, k.tabs, fun _ h => .inl h⟩
theorem eok_self {K : PySem.W.Frag} {H : Hp} {O : Hid} {N : List Str} {as : List Val} {self : V} {xs : List V} {k : Nat} (ra : Reps K H O as xs) (hk : as.length + 1 + k ≤ N.length) :
  EOk K H O (start N (self :: xs)) ((vis [] ((Val.non :: as).map Slot.sh ++ List.replicate k Slot.no)).set 0 none) := by
 refine ⟨?_, fun i v hv => ?_⟩
 ·unfold L2.start vis
  rw [List.length_set, visG_len, List.length_append, List.length_append, List.length_map, List.length_map, List.length_replicate, List.length_replicate, List.length_cons, List.length_cons, ra.length]; omega
 ·cases i with
  | zero =>
   unfold vis at hv
   rw [List.getElem?_set_self (by rw [visG_len]; simp)] at hv
   cases hv
  | succ j =>
   unfold vis at hv
   rw [List.getElem?_set_ne (by omega), visG_get] at hv
   simp only [List.map_cons, List.cons_append, List.getElem?_cons_succ] at hv
   by_cases hj : j < as.length
   ·rw [List.getElem?_append_left (by simpa using hj), List.getElem?_map] at hv
    cases e : as[j]? with
    | none => rw [e] at hv; cases hv
    | some a =>
     rw [e] at hv
     cases hv
     obtain ⟨x, hx, rx⟩ := ra.get e
     exact ⟨x, start_get (by simpa using hx), rx⟩
   ·rw [List.getElem?_append_right (by simpa using hj), List.getElem?_replicate] at hv
    split at hv <;> cases hv
section
variable {X : Cx} {n : Nat} {M : Nm} {T : Tab} {N : List Str} {C : Addr}
def tFl (K : PySem.W.Frag) (T : Tab) (C : Addr) (fs : List String) (es : SEs) : TS := fun D σ H => ∃ O ρ self dx kvs vs, σ[0]? = some (some (.ref self)) ∧ H self = some (.ins C dx kvs) ∧ O self ∧ WF H O ∧ EOk K H O σ ρ ∧ evs T es ρ = .ok vs ∧
 kvs.length + fs.length < 1000 ∧ (kvs.map (·.1) ++ fs.map Str.ofString).Nodup ∧ ∀ H' xs, Keep H (fun a => a = self) H' (fun a => a = self) → WF H' O → H' self = some (.ins C dx (kvs ++ (fs.map Str.ofString).zip xs)) → Reps K H' O vs xs → D.nx σ H'
theorem flds_ok (cx : Ctx X n M T N) (cl : Cls X.K C) (na : ∀ f ∈ M.fl, NoAttr X.K C f) : ∀ (fs : List String) (es : SEs) (sts : List Stmt), chkFlds M N X.env.scope fs es sts = true → PSs X sts (tFl X.K T C fs es)
 | [], es, sts, h => by
  simp only [chkFlds, Bool.and_eq_true] at h
  obtain ⟨h1, h2⟩ := h
  cases sts with
  | cons => cases h2
  | nil =>
   cases es with
   | cons => cases h1
   | nil =>
    refine PSs.imp pss_nil (fun D σ H ⟨O, ρ, self, dx, kvs, vs, hs, hp, hO, w, eo, he, hl, nd, q⟩ => ?_)
    simp only [evs] at he
    cases he
    exact q H [] Keep.refl w (by simpa using hp) (by simp [Reps])
 | f :: fs, es, sts, h => by
  simp only [chkFlds] at h
  split at h
  ·rename_i e r x px g pa v p sts
   simp only [Bool.and_eq_true] at h
   obtain ⟨⟨⟨⟨⟨⟨h1, h2⟩, h3⟩, h4⟩, h5⟩, h6⟩, h7⟩ := h
   obtain rfl := of_decide_eq_true h4
   have hi : X.N[0]? = some x := by rw [cx.hN]; exact of_decide_eq_true h1
   refine PSs.imp (pss_cons (ps_fld (pe_var hi (visB_vis h2) (dbg_1 h3) (dbg_2 h3)) (sndE e cx h6).1 sw_attr) (flds_ok cx cl na fs r sts h7)) (fun D σ H ⟨O, ρ, self, dx, kvs, vs, hs, hp, hO, w, eo, he, hl, nd, q⟩ => ?_)
   simp only [evs] at he
   obtain ⟨y, k1, he⟩ := bok he
   obtain ⟨ys, k2, he⟩ := bok he
   cases he
   refine ⟨O, ρ, y, w, eo, k1, fun z H1 e1 r1 => ⟨_, hs, ?_⟩⟩
   have hp1 : H1 self = some (.ins C dx kvs) := e1.vis _ _ hp
   simp only [List.length_cons, List.map_cons] at hl nd
   have nf : Str.ofString f ∉ kvs.map (·.1) := fun z => by
    have := (List.nodup_append.mp nd).2.2 _ z _ (List.mem_cons_self ..)
    exact this rfl
   refine ⟨self, C, dx, kvs, rfl, hp1, cl, na _ (of_decide_eq_true h5), by omega, ?_⟩
   rw [putF_new nf]
   have k : Keep H1 O (L2.upd H1 self (.ins C dx (kvs ++ [(Str.ofString f, z)]))) O := Keep.hid hp1 hO True.intro
   have w1 := w.ext e1
   have w2 : WF (L2.upd H1 self (.ins C dx (kvs ++ [(Str.ofString f, z)]))) O := by
    refine ⟨fun a ha => ?_, k.tabs w1.tabs⟩
    by_cases hap : a = self
    ·subst hap; exact ⟨_, upd_same, True.intro⟩
    ·rw [upd_ne hap]; exact w1 a ha
   have ks : Keep H1 (fun a => a = self) (L2.upd H1 self (.ins C dx (kvs ++ [(Str.ofString f, z)]))) (fun a => a = self) := Keep.hid hp1 rfl True.intro
   refine ⟨O, ρ, self, dx, _, ys, hs, upd_same, hO, w2, (eo.ext w e1).keep w1 k, k2, ?_, ?_, fun H' xs k' w' hp' r' => ?_⟩
   ·rw [List.length_append]; simp only [List.length_cons, List.length_nil]; omega
   ·rw [List.map_append, List.append_assoc]; exact nd
   ·refine q H' (z :: xs) ((Ext.keep e1).trans (ks.trans k')) w' ?_ (Reps.cons (Rep.keep w1 ((ks.trans k').one hO) r1) r')
    rw [hp', List.append_assoc]
    rfl
  ·cases h
end
section
variable {P : Program} {w : World} {K : PySem.W.Frag} {mg : Str → Option Value} {base : Heap}
theorem fnI_ok {M : Nm} {T : Tab} {N ps : List Str} {fs : List String} {es : SEs} {x qual : Str} {st : Stmt} {f C : Addr} {fd : FuncData} {n c np : Nat} (F : Fun K x qual st f fd) (hd : chkInit M N ps fs es st = true) (hp : ps.length = np + 1) (fc : Facts M T P w K mg base n) (hc : Tbl.C c = some C) (hlm : ∀ N f es sc e, M.lm N f es sc e = false := by intros; rfl) :
  FnOk P w K mg base CX0 (n + 1) f fd ps (spI K np C (runD T ⟨np + 1, N.length, .cons (.ret [] (.mk c fs es)) .nil⟩)) := by
 unfold chkInit at hd
 simp only [Bool.and_eq_true] at hd
 obtain ⟨⟨⟨h1, h2⟩, h3⟩, h4⟩ := hd
 have S := scope_by h1
 obtain ⟨cl, _, na⟩ := fc.cl.cls c C hc
 refine F.ok S (fun vs H Q E ⟨H1, O, as, r, self, dx, xs', hv, _, _, _, _, _, ra, hl, _⟩ => by rw [hv, List.length_cons, ra.length, hl, hp]) (fun cdv A outer s H vs Q E hr ⟨H1, O, as, r, self, dx, xs', hv, n1, n2, ne, hH, wf, ra, hl, e, q⟩ => ?_)
 subst hv hH
 have hpl : ps.length ≤ N.length := by have := congrArg List.length S.pre; rw [List.length_take] at this; omega
 refine ⟨tFl K T C fs es, flds_ok (n := n) (M := M) (N := N) ⟨fc, rfl, S.nd, rfl, hr, noLm hlm⟩ cl na fs es _ h4, ?_⟩
 unfold runD at e
 rw [if_pos (by simp [hl])] at e
 obtain ⟨qq, h5, e⟩ := bok e
 simp only [exs, ex] at h5
 obtain ⟨fl, h6, h5⟩ := bok h5
 obtain ⟨v, h7, h6⟩ := bok h6
 cases h6
 simp only at h5
 cases h5
 simp only at e
 cases e
 simp only [ev] at h7
 obtain ⟨vs, h8, h9⟩ := bok h7
 unfold mkV at h9
 split at h9
 rotate_left
 ·cases h9
 rename_i hlen
 cases h9
 have hlen := Nat.eq_of_beq_eq_true hlen
 have e1 : Ext H1 (L2.upd H1 dx (.own self)) := Ext.upd n2
 have n3 : (L2.upd H1 dx (.own self)) self = none := by rw [upd_ne ne.symm]; exact n1
 have e2 : Ext H1 (L2.upd (L2.upd H1 dx (.own self)) self (.ins C dx [])) := e1.trans (Ext.upd n3)
 have w2 : WF (L2.upd (L2.upd H1 dx (.own self)) self (.ins C dx [])) (fun a => O a ∨ a = self) := by
  refine ⟨fun a ha => ?_, e2.tabs wf.tabs⟩
  rcases ha with ha | rfl
  ·exact (wf.ext e2) a ha
  ·exact ⟨_, upd_same, True.intro⟩
 have k2 : Keep H1 O (L2.upd (L2.upd H1 dx (.own self)) self (.ins C dx [])) (fun a => O a ∨ a = self) := ⟨fun a o h _ nt => e2.vis a o h nt, fun a _ h => e2.dom a h, e2.tabs, fun a h => h.elim .inl (fun z => .inr (z ▸ n1))⟩
 refine ⟨fun a => O a ∨ a = self, _, self, dx, [], vs, rfl, upd_same, .inr rfl, w2, eok_self (Reps.keep wf k2 ra) (by rw [hl]; omega), h8, by simpa using of_decide_eq_true h3, by simpa using of_decide_eq_true h2, fun H' xs k' w' hp' r' => ?_⟩
 have e3 : Ext H1 H' := by
  refine ⟨fun a o h nt => ?_, fun a h => ?_, fun t => k'.tabs (e2.tabs t)⟩
  ·have ha : a ≠ self := ne_of_none h n1
   exact k'.vis a o (e2.vis a o h) ha nt
  ·by_cases ha : a = self
   ·subst ha; rw [hp'] at h; cases h
   ·exact e2.dom a (k'.dom a ha h)
 refine q H' e3 ?_
 have hx : xs.length = (fs.map Str.ofString).length := by rw [r'.length]; exact hlen
 simp only [Rep]
 refine ⟨self, C, dx, _, rfl, wf.new n1, hc, hp', ?_, ?_⟩
 ·rw [List.nil_append, List.map_fst_zip (by omega)]
 ·rw [List.nil_append, List.map_snd_zip (by omega)]
  exact Reps.keep w' ⟨fun a o ha _ _ => ha, fun _ _ h => h, id, fun a ha => .inl (.inl ha)⟩ r'
end
end VM
set_option maxHeartbeats 4000000
namespace VM
open PySem PySem.Spec PyProof.Rows L2
def argsB (p : Arguments) (ps : List Str) : Bool :=
 p.posonlyargs.isEmpty && (p.kwonlyargs.isEmpty && (p.vararg.isNone && (p.kwarg.isNone && (decide (p.args.map (·.arg) = ps) && decide ps.Nodup))))
theorem fm_congr {α β : Type} {f g : α → Option β} : ∀ {l : List α}, (∀ x ∈ l, f x = g x) → l.filterMap f = l.filterMap g
 | [], _ => rfl
 | a :: l, h => by
  rw [List.filterMap_cons, List.filterMap_cons, h a (List.mem_cons_self ..), fm_congr fun x hx => h x (List.mem_cons_of_mem _ hx)]
theorem zip_look : ∀ {ps : List Str} {us : List Value}, us.length = ps.length → ps.Nodup → ps.filterMap (fun n => ((ps.zip us).lookup n).map (n, ·)) = ps.zip us
 | [], _, _, _ => rfl
 | p :: t, [], h, _ => nomatch h
 | p :: t, u :: us, h, hn => by
  obtain ⟨h1, h2⟩ := List.nodup_cons.mp hn
  have ih := zip_look (ps := t) (us := us) (by simpa using h) h2
  rw [List.zip_cons_cons, List.filterMap_cons]
  simp only [List.lookup, beq_self_eq_true, Option.map_some]
  congr 1
  refine Eq.trans (fm_congr fun n hm => ?_) ih
  have : (n == p) = false := by
   cases e : n == p with
   | false => rfl
   | true => exact absurd (beq_iff_eq.mp e ▸ hm) h1
  rw [this]
theorem zip_miss : ∀ {ps : List Str} {us : List Value}, us.length = ps.length → ∀ n ∈ ps, ((ps.zip us).lookup n).isNone = false
 | p :: t, [], h, _, _ => nomatch h
 | p :: t, u :: us, h, n, hm => by
  rw [List.zip_cons_cons]
  simp only [List.lookup]
  cases e : n == p with
  | true => rfl
  | false =>
   rcases List.mem_cons.mp hm with rfl | hm
   ·simp at e
   ·exact zip_miss (by simpa using h) n hm
theorem bind_plain {fd : FuncData} {ps : List Str} (h : argsB fd.params ps = true) (hd : fd.defaults = .none) {us : List Value} (hl : us.length = ps.length) : bindArgs fd ⟨us, []⟩ = pure (ps.zip us) := by
 obtain ⟨name, qual, params, body, scope, gl, clo, dfl, kwd, doc, pm, an, cd, ct, bi⟩ := fd
 obtain ⟨po, ar, va, ko, kd, kw, df⟩ := params
 unfold argsB at h
 simp only [Bool.and_eq_true, List.isEmpty_iff, Option.isNone_iff_eq_none, decide_eq_true_eq] at h
 obtain ⟨rfl, rfl, rfl, rfl, rfl, hn⟩ := h
 cases hd
 have hm : ((ar.map (·.arg)).filter fun n => (((ar.map (·.arg)).zip us).lookup n).isNone) = [] := by
  rw [List.filter_eq_nil_iff]
  intro n hx
  rw [zip_miss hl n hx]
  decide
 have hg : ¬ us.length > (ar.map (·.arg)).length := by omega
 have hz := zip_look hl hn
 unfold bindArgs
 simp only [List.map_nil, List.nil_append, List.append_nil, List.forIn_nil, seqItems?, notAStandIn, pure_bind, bind_assoc, Option.getD_none, hg, decide_false, Bool.false_and, Bool.false_eq_true, if_false, List.length_nil, Nat.zero_sub, List.drop_nil, Nat.sub_zero, List.take_length, hm, List.isEmpty_nil, Bool.not_true, List.zip_nil_right, hz]
end VM
set_option maxHeartbeats 8000000
namespace VM
open PySem PySem.Spec PyProof.Rows L2
variable [Tbl]
def baseOk : Expr → Bool
 | .Name _ _ => true
 | .Subscript _ _ _ => true
 | .Attribute _ _ _ => true
 | _ => false
theorem base_ok {a : Expr} {f : Str} {env : Env} (h : baseOk a = true) : attributeBase a f env (eval a env) = eval a env := by
 cases a <;> first | rfl | cases h
mutual
def chkHE (M : Nm) (N : List Str) : HE → Scope → Expr → Bool
 | .pu _ s, sc, e => chkE M N s sc e
 | .puF _ s, sc, e => chkF M N s sc e
 | .var i, sc, e => match e with
  | .Name x _ => decide (N[i]? = some x) && visB sc x && dbg x
  | _ => false
 | .ix a _ k, sc, e => match e with
  | .Subscript x y _ => ixOk y && chkHE M N a sc x && chkE M N k sc y
  | _ => false
 | .lst es, sc, e => match e with
  | .List xs _ => chkHEs M N es sc xs
  | _ => false
 | .tup es, sc, e => match e with
  | .Tuple xs _ _ => chkHEs M N es sc xs
  | _ => false
 | .lof a, sc, e => match e with
  | .Call (.Name f _) [x] [] _ => decide (f = ("list" : Str)) && glB sc f && nst x && chkHE M N a sc x
  | _ => false
 | .cat a b, sc, e => match e with
  | .BinOp x .Add y _ => chkHE M N a sc x && chkHE M N b sc y
  | _ => false
 | .sl a _ lo hi, sc, e => match e with
  | .Subscript x (.Slice l h none _) _ => chkHE M N a sc x && chkO M N lo sc l && chkO M N hi sc h
  | _ => false
 | .comp own tg it _ c el, sc, e => match e with
  | .ListComp x [⟨tgE, iter, ifs, 0⟩] scope _ => blkC N sc scope (own.map fun i => (N.getD i "", i)) && (tgIx tg).all (own.contains ·) &&
    chkHI M N it sc tgE iter && noSet iter && chkG N (relS scope sc) (fun y => scope.names.lookup y == some .cell) tg tgE &&
    chkC M N c (relS scope sc) ifs && chkHE M N el (relS scope sc) x
  | _ => false
 | .call f es, sc, e => match e with
  | .Call (.Name x _) xs [] _ => decide (M.hn f = some x) && glB sc x && dbg x && chkHEs M N es sc xs
  | _ => false
 | .pcl f es, sc, e => match e with
  | .Call (.Name x _) xs [] _ => decide (M.fn f = some x) && glB sc x && dbg x && chkHEs M N es sc xs
  | _ => false
 | .dnew t, _, e => match e with
  | .Dict [] [] _ => true
  | _ => false
 | .rev a, sc, e => match e with
  | .Subscript x (.Slice none none (some (.UnaryOp .USub (.Constant (.int 1) _ _) _)) _) _ => chkHE M N a sc x
  | _ => false
 | .mk _ _ _, _, _ => false
 | .make f es, sc, e => match e with
  | .Call (.Name x _) xs [] _ => decide (M.ch f = some x) && glB sc x && dbg x && chkHEs M N es sc xs
  | _ => false
 | .fld a f, sc, e => match e with
  | .Attribute (.Name x px) g _ => decide (g = Str.ofString f) && decide (g ∈ M.fl) && chkHE M N a sc (.Name x px)
  | _ => false
 | .pop a, sc, e => match e with
  | .Call (.Attribute o g apos) [] [] cpos => decide (g = ("pop" : Str)) && baseOk o && chkHE M N a sc o && (apos.endLine == cpos.line)
  | _ => false
 | .pop0 a, sc, e => match e with
  | .Call (.Attribute o g apos) [.Constant (.int 0) _ _] [] cpos => decide (g = ("pop" : Str)) && baseOk o && chkHE M N a sc o && (apos.endLine == cpos.line)
  | _ => false
 | .puI _ a, sc, e => chkE M N a sc e
 | .callS f _ es, sc, e => match e with
  | .Call (.Name x _) xs [] _ => decide (M.hn f = some x) && glB sc x && dbg x && chkEs M N es sc xs
  | _ => false
 | .tol a, sc, e => match e with
  | .Call (.Name f _) [x] [] _ => decide (f = ("tuple" : Str)) && glB sc f && nst x && chkHE M N a sc x
  | _ => false
 | .calld i a, sc, e => match e with
  | .Call (.Name x _) [y] [] _ => decide (N[i]? = some x) && visB sc x && dbg x && nst y && chkHE M N a sc y
  | _ => false
def chkHEs (M : Nm) (N : List Str) : HEs → Scope → List Expr → Bool
 | .nil, _, xs => xs.isEmpty
 | .cons e r, sc, xs => match xs with
  | x :: xs => nst x && chkHE M N e sc x && chkHEs M N r sc xs
  | [] => false
def chkHI (M : Nm) (N : List Str) : HI → Scope → Expr → Expr → Bool
 | .seq e, sc, _, x => chkHE M N e sc x
 | .pu _ it, sc, tg, x => chkI M N it sc tg x
 | .rng _ it, sc, tg, x => (match it with | .rng1 _ => true | .rng2 _ _ => true | .rng3 _ _ _ => true | _ => false) && chkI M N it sc tg x
 | .enum a, sc, tg, e => match tg with
  | .Tuple _ _ _ => (match e with
   | .Call (.Name f _) [x] [] _ => decide (f = ("enumerate" : Str)) && glB sc f && nst x && chkHE M N a sc x
   | _ => false)
  | _ => false
 | .zip a b, sc, tg, e => match tg with
  | .Tuple _ _ _ => (match e with
   | .Call (.Name f _) [x, y] [] _ => decide (f = ("zip" : Str)) && glB sc f && nst x && chkHE M N a sc x && nst y && chkHE M N b sc y
   | _ => false)
  | _ => false
end
def isCompH : HE → Bool
 | .comp _ _ _ _ _ _ => true
 | .pu _ (.comp _ _ it _ _) => notKeys it
 | _ => false
def chkSetH (M : Nm) (N : List Str) (i : Nat) (s : HE) (sc : Scope) (x : Str) (px : Pos) (e : Expr) : Bool :=
 decide (N[i]? = some x) && locB sc x && chkHE M N s sc e && (if swB sc x px e then isCompH s else (noComp e || isLC e))
mutual
def chkHS (M : Nm) (N : List Str) : HS → Scope → Stmt → Bool
 | .asg tg s, sc, st => match st with
  | .Assign [.Name x px] e _ => (match tg with
   | .nm i => chkSetH M N i s sc x px e
   | .tp _ => false)
  | .Assign [.Tuple es k pt] e _ => (match tg with
   | .nm _ => false
   | .tp _ => chkG N sc (fun _ => true) tg (.Tuple es k pt) && chkHE M N s sc e && (match e with
    | .Tuple vs _ _ => swN sc es vs
    | _ => true))
  | _ => false
 | .par i j a b, sc, st => match st with
  | .Assign [.Tuple [.Name x px, .Name y py] _ _] (.Tuple [ea, eb] _ _) _ => decide (N[i]? = some x) && decide (N[j]? = some y) && decide (i ≠ j) && parB sc x px y py ea eb && chkHE M N a sc ea && chkHE M N b sc eb
  | _ => false
 | .par3 i j l a b c, sc, st => match st with
  | .Assign [.Tuple [.Name x px, .Name y py, .Name z pz] _ _] (.Tuple [ea, eb, ec] _ _) _ => decide (N[i]? = some x) && (decide (N[j]? = some y) && (decide (N[l]? = some z) && (decide (i ≠ j) && (decide (i ≠ l) && (decide (j ≠ l) && (par3B sc x px y py z pz ea eb ec && (chkHE M N a sc ea && (chkHE M N b sc eb && chkHE M N c sc ec))))))))
  | _ => false
 | .app a s, sc, st => match st with
  | .Expr (.Call (.Attribute o f apos) [e] [] cpos) _ => decide (f = ("append" : Str)) && baseOk o && chkHE M N a sc o && chkHE M N s sc e && nst e && (apos.endLine == cpos.line)
  | _ => false
 | .ext a s, sc, st => match st with
  | .Expr (.Call (.Attribute o f apos) [e] [] cpos) _ => decide (f = ("extend" : Str)) && baseOk o && chkHE M N a sc o && chkHE M N s sc e && nst e && (apos.endLine == cpos.line)
  | _ => false
 | .set a _ k s, sc, st => match st with
  | .Assign [.Subscript o i _] e _ => ixOk i && chkHE M N a sc o && chkE M N k sc i && chkHE M N s sc e
  | _ => false
 | .dset a _ k s, sc, st => match st with
  | .Assign [.Subscript o i _] e _ => chkHE M N a sc o && chkE M N k sc i && chkHE M N s sc e
  | _ => false
 | .iff _ c a b, sc, st => match st with
  | .If ce as bs _ => tOk c && chkE M N c sc ce && chkHB M N a sc as && chkHB M N b sc bs
  | _ => false
 | .loop tg it b, sc, st => match st with
  | .For tgE iter body [] _ => chkHI M N it sc tgE iter && chkG N sc (fun _ => true) tg tgE && chkHB M N b sc body && noSet iter
  | _ => false
 | .loopw _ tg it b, sc, st => match st with
  | .For tgE iter body [] _ => chkHI M N it sc tgE iter && chkG N sc (fun _ => true) tg tgE && chkHB M N b sc body && noSet iter
  | _ => false
 | .whl _ _ c b, sc, st => match st with
  | .While ce body [] _ => tOk c && chkE M N c sc ce && chkHB M N b sc body
  | _ => false
 | .ret s, sc, st => match st with
  | .Return (some e) _ => chkHE M N s sc e
  | _ => false
 | .expr s, sc, st => match st with
  | .Expr e _ => chkHE M N s sc e && noComp e
  | _ => false
 | .raise _, _, _ => true
 | .rvs a, sc, st => match st with
  | .Expr (.Call (.Attribute o f apos) [] [] cpos) _ => decide (f = ("reverse" : Str)) && baseOk o && chkHE M N a sc o && (apos.endLine == cpos.line)
  | _ => false
def chkHB (M : Nm) (N : List Str) : HB → Scope → List Stmt → Bool
 | .nil, _, sts => sts.isEmpty
 | .cons s r, sc, sts => match sts with
  | st :: sts => chkHS M N s sc st && chkHB M N r sc sts
  | [] => false
end
section
variable {X : Cx} {n : Nat} {M : Nm} {T : Tab} {N : List Str}
theorem chkHEs_nst {sc : Scope} : ∀ {s : HEs} {es : List Expr}, chkHEs M N s sc es = true → es.all nst = true
 | .nil, es, h => by
  simp only [chkHEs] at h
  cases es with
  | nil => rfl
  | cons => cases h
 | .cons e r, [], h => by rfl
 | .cons e r, x :: es, h => by
  simp only [chkHEs, Bool.and_eq_true] at h
  simp only [List.all_cons, h.1.1, chkHEs_nst h.2, Bool.and_self]
theorem chkHEs_nil {sc : Scope} {s : HEs} {es : List Expr} (h : chkHEs M N s sc es = true) : es = [] → s = .nil := by
 intro e
 subst e
 cases s with
 | nil => rfl
 | cons => simp only [chkHEs] at h; cases h
theorem sndR : ∀ (s : SI) {X : Cx} {tg e : Expr}, Ctx X n M T N → (match s with | .rng1 _ => true | .rng2 _ _ => true | .rng3 _ _ _ => true | _ => false) = true → chkI M N s X.env.scope tg e = true → PI X tg e (tIR X.K T s)
 | .rng1 a, X, tg, e, cx, _, h => by
  simp only [chkI] at h
  split at h
  ·simp only [Bool.and_eq_true] at h
   obtain ⟨⟨⟨h1, h2⟩, h3⟩, h4⟩ := h
   have hx := of_decide_eq_true h1
   subst hx
   exact rI_rng1 (glB_gl h2) (cx.facts.bis "range" (by decide)) (sndE a cx h4).1 h3
  ·cases h
 | .rng2 a b, X, tg, e, cx, _, h => by
  simp only [chkI] at h
  split at h
  ·simp only [Bool.and_eq_true] at h
   obtain ⟨⟨⟨⟨⟨h1, h2⟩, h3⟩, h4⟩, h5⟩, h6⟩ := h
   have hx := of_decide_eq_true h1
   subst hx
   exact rI_rng2 (glB_gl h2) (cx.facts.bis "range" (by decide)) (sndE a cx h4).1 h3 (sndE b cx h6).1 h5
  ·cases h
 | .rng3 a b c, X, tg, e, cx, _, h => by
  simp only [chkI] at h
  split at h
  ·simp only [Bool.and_eq_true] at h
   obtain ⟨⟨⟨⟨⟨⟨⟨h1, h2⟩, h3⟩, h4⟩, h5⟩, h6⟩, h7⟩, h8⟩ := h
   have hx := of_decide_eq_true h1
   subst hx
   exact rI_rng3 (glB_gl h2) (cx.facts.bis "range" (by decide)) (sndE a cx h4).1 h3 (sndE b cx h6).1 h5 (sndE c cx h8).1 h7
  ·cases h
 | .seq _, _, _, _, _, hr, _ => by cases hr
 | .enum _, _, _, _, _, hr, _ => by cases hr
 | .zip _ _, _, _, _, _, hr, _ => by cases hr
 | .keys _, _, _, _, _, hr, _ => by cases hr
mutual
theorem sndHE : ∀ (s : HE) {X : Cx} {e : Expr}, Ctx X n M T N → chkHE M N s X.env.scope e = true → PE X e (tH X.K T s)
 | .pu m s, X, e, cx, h => by simp only [chkHE] at h; exact hE_pu (sndE s cx h).1
 | .puF m s, X, e, cx, h => by simp only [chkHE] at h; exact hE_puF (sndF cx h)
 | .var i, X, e, cx, h => by
  simp only [chkHE] at h
  split at h
  ·simp only [Bool.and_eq_true] at h
   exact hE_var (by rw [cx.hN]; exact of_decide_eq_true h.1.1) (visB_vis h.1.2) h.2
  ·cases h
 | .ix a m k, X, e, cx, h => by
  simp only [chkHE] at h
  split at h
  ·simp only [Bool.and_eq_true] at h
   exact hE_ix cx (sndHE a cx h.1.2) (sndE k cx h.2).1 h.1.1
  ·cases h
 | .lst es, X, e, cx, h => by
  simp only [chkHE] at h
  split at h
  ·exact hE_lst (sndHA es cx h)
  ·cases h
 | .tup es, X, e, cx, h => by
  simp only [chkHE] at h
  split at h
  ·exact hE_tup (sndHA es cx h)
  ·cases h
 | .lof a, X, e, cx, h => by
  simp only [chkHE] at h
  split at h
  ·simp only [Bool.and_eq_true] at h
   obtain ⟨⟨⟨h1, h2⟩, h3⟩, h4⟩ := h
   obtain rfl := of_decide_eq_true h1
   exact hE_lof cx (glB_gl h2) (sndHE a cx h4) h3
  ·cases h
 | .cat a b, X, e, cx, h => by
  simp only [chkHE] at h
  split at h
  ·rw [Bool.and_eq_true] at h
   exact hE_cat (sndHE a cx h.1) (sndHE b cx h.2)
  ·cases h
 | .sl a m lo hi, X, e, cx, h => by
  simp only [chkHE] at h
  split at h
  ·simp only [Bool.and_eq_true] at h
   exact hE_sl (sndHE a cx h.1.1) (sndO lo cx h.1.2) (sndO hi cx h.2)
  ·cases h
 | .comp own tg it m c el, X, e, cx, h => by
  simp only [chkHE] at h
  split at h
  ·rename_i x tgE iter ifs scope pos
   simp only [Bool.and_eq_true] at h
   obtain ⟨⟨⟨⟨⟨⟨h1, h2⟩, h3⟩, h4⟩, h5⟩, h6⟩, h7⟩ := h
   have hb : BlkOk X.N X.env.scope scope (own.map fun i => (N.getD i "", i)) := by rw [cx.hN]; exact blkOk_by h1
   have p := pe_lc (elt := x) (pos := pos) (scope := scope) cx.calm cx.nd (sndHI it cx h3) hb (g := gH X.K tg) (tt := tHC X.K T m c) (te := tH X.K T el)
    (fun s H C cl fp => sndGH (N := N) tg (X := X.blk s H scope (compEnvC scope cl C X.env) fp) cx.hN cx.nd cx.calm (fun y hy => hy) h5)
    (fun s H C cl fp => hC (sndC c (cx.blk s H scope cl C fp) h6))
    (fun s H C cl fp => sndHE el (cx.blk s H scope cl C fp) h7)
    (noSet_fold h4)
   rw [own_snd] at p
   exact PE.imp p (tH_comp (fun i hi => by simpa using List.all_eq_true.mp h2 i hi))
  ·cases h
 | .call f es, X, e, cx, h => by
  simp only [chkHE] at h
  split at h
  ·simp only [Bool.and_eq_true] at h
   obtain ⟨⟨⟨h1, h2⟩, h3⟩, h4⟩ := h
   exact hE_call cx (of_decide_eq_true h1) (glB_gl h2) h3 (sndHA es cx h4) (chkHEs_nst h4) (chkHEs_nil h4)
  ·cases h
 | .pcl f es, X, e, cx, h => by
  simp only [chkHE] at h
  split at h
  ·simp only [Bool.and_eq_true] at h
   obtain ⟨⟨⟨h1, h2⟩, h3⟩, h4⟩ := h
   exact hE_pcall cx (of_decide_eq_true h1) (glB_gl h2) h3 (sndHA es cx h4) (chkHEs_nst h4) (chkHEs_nil h4)
  ·cases h
 | .dnew t, X, e, cx, h => by
  simp only [chkHE] at h
  split at h
  ·cases t with
   | false => exact hE_dnew
   | true => exact hE_dnewN cx.hw
  ·cases h
 | .rev a, X, e, cx, h => by
  simp only [chkHE] at h
  split at h
  ·exact hE_rev (sndHE a cx h)
  ·cases h
 | .mk _ _ _, X, e, cx, h => by simp only [chkHE] at h; cases h
 | .make f es, X, e, cx, h => by
  simp only [chkHE] at h
  split at h
  ·simp only [Bool.and_eq_true] at h
   obtain ⟨⟨⟨h1, h2⟩, h3⟩, h4⟩ := h
   exact hE_make cx (of_decide_eq_true h1) (glB_gl h2) h3 (sndHA es cx h4) (chkHEs_nst h4) (chkHEs_nil h4)
  ·cases h
 | .fld a f, X, e, cx, h => by
  simp only [chkHE] at h
  split at h
  ·simp only [Bool.and_eq_true] at h
   obtain ⟨⟨h1, h2⟩, h3⟩ := h
   obtain rfl := of_decide_eq_true h1
   exact hE_fld cx (of_decide_eq_true h2) (sndHE a cx h3)
  ·cases h
 | .pop a, X, e, cx, h => by
  simp only [chkHE] at h
  split at h
  ·simp only [Bool.and_eq_true] at h
   obtain ⟨⟨⟨h1, h2⟩, h3⟩, h4⟩ := h
   obtain rfl := of_decide_eq_true h1
   exact hE_pop (sndHE a cx h3) h4 (base_ok h2)
  ·cases h
 | .pop0 a, X, e, cx, h => by
  simp only [chkHE] at h
  split at h
  ·simp only [Bool.and_eq_true] at h
   obtain ⟨⟨⟨h1, h2⟩, h3⟩, h4⟩ := h
   obtain rfl := of_decide_eq_true h1
   exact hE_pop0 (sndHE a cx h3) h4 (base_ok h2)
  ·cases h
 | .puI m a, X, e, cx, h => by
  simp only [chkHE] at h
  exact hE_puI (sndE a cx h).1
 | .callS f m es, X, e, cx, h => by
  simp only [chkHE] at h
  split at h
  ·simp only [Bool.and_eq_true] at h
   obtain ⟨⟨⟨h1, h2⟩, h3⟩, h4⟩ := h
   exact hE_callS cx (of_decide_eq_true h1) (glB_gl h2) h3 (sndA es cx h4) (chkEs_nst h4) (chkEs_nil h4)
  ·cases h
 | .tol a, X, e, cx, h => by
  simp only [chkHE] at h
  split at h
  ·simp only [Bool.and_eq_true] at h
   obtain ⟨⟨⟨h1, h2⟩, h3⟩, h4⟩ := h
   obtain rfl := of_decide_eq_true h1
   exact hE_tol cx (glB_gl h2) (sndHE a cx h4) h3
  ·cases h
 | .calld i a, X, e, cx, h => by
  simp only [chkHE] at h
  split at h
  ·simp only [Bool.and_eq_true] at h
   obtain ⟨⟨⟨⟨h1, h2⟩, h3⟩, h4⟩, h5⟩ := h
   exact hE_calld cx (by rw [cx.hN]; exact of_decide_eq_true h1) (visB_vis h2) h3 (sndHE a cx h5) h4
  ·cases h
theorem sndHA : ∀ (s : HEs) {X : Cx} {es : List Expr}, Ctx X n M T N → chkHEs M N s X.env.scope es = true → PA X es (tHA X.K T s)
 | .nil, X, es, cx, h => by
  simp only [chkHEs] at h
  cases es with
  | nil => exact hA_nil
  | cons => cases h
 | .cons e r, X, [], cx, h => by simp only [chkHEs] at h; cases h
 | .cons e r, X, x :: es, cx, h => by
  simp only [chkHEs, Bool.and_eq_true] at h
  exact hA_cons (sndHE e cx h.1.2) (sndHA r cx h.2) h.1.1
theorem sndHI : ∀ (s : HI) {X : Cx} {tg e : Expr}, Ctx X n M T N → chkHI M N s X.env.scope tg e = true → PI X tg e (tHI X.K T s)
 | .seq s, X, tg, e, cx, h => by simp only [chkHI] at h; exact hI_seq (sndHE s cx h)
 | .pu m it, X, tg, e, cx, h => by simp only [chkHI] at h; exact hI_pu (sndI it cx h)
 | .rng m it, X, tg, e, cx, h => by
  simp only [chkHI, Bool.and_eq_true] at h
  exact hI_rng (sndR it cx h.1 h.2)
 | .enum a, X, tg, e, cx, h => by
  simp only [chkHI] at h
  split at h
  ·split at h
   ·simp only [Bool.and_eq_true] at h
    obtain ⟨⟨⟨h1, h2⟩, h3⟩, h4⟩ := h
    have hx := of_decide_eq_true h1
    subst hx
    exact hI_enum (glB_gl h2) (cx.facts.bis "enumerate" (by decide)) (sndHE a cx h4) h3
   ·cases h
  ·cases h
 | .zip a b, X, tg, e, cx, h => by
  simp only [chkHI] at h
  split at h
  ·split at h
   ·simp only [Bool.and_eq_true] at h
    obtain ⟨⟨⟨⟨⟨h1, h2⟩, h3⟩, h4⟩, h5⟩, h6⟩ := h
    have hx := of_decide_eq_true h1
    subst hx
    exact hI_zip (glB_gl h2) (cx.facts.bis "zip" (by decide)) (sndHE a cx h4) h3 (sndHE b cx h6) h5
   ·cases h
  ·cases h
end
theorem hS_setLc {i : Nat} {x : Str} {px pos p2 : Pos} {own : List Nat} {tg : Tg} {it : HI} {m : List Nat} {c : SO} {el : HE} {elt tgE iter : Expr} {ifs : List Expr} {scope : Scope} (cx : Ctx X n M T N) (hk : X.env.scope.kind = .function) (hi : X.N[i]? = some x)
  (hc : chkHE M N (.comp own tg it m c el) X.env.scope (.ListComp elt [⟨tgE, iter, ifs, 0⟩] scope p2) = true) (hsw : swB X.env.scope x px (.ListComp elt [⟨tgE, iter, ifs, 0⟩] scope p2) = true) :
  PS X (.Assign [.Name x px] (.ListComp elt [⟨tgE, iter, ifs, 0⟩] scope p2) pos) (tHS X.K T (.asg (.nm i) (.comp own tg it m c el))) := by
 simp only [chkHE, Bool.and_eq_true] at hc
 obtain ⟨⟨⟨⟨⟨⟨h1, h2⟩, h3⟩, h4⟩, h5⟩, h6⟩, h7⟩ := hc
 have hb : BlkOk X.N X.env.scope scope (own.map fun i => (N.getD i "", i)) := by rw [cx.hN]; exact blkOk_by h1
 unfold swB at hsw
 simp only [Bool.and_eq_true, Bool.not_eq_true'] at hsw
 obtain ⟨⟨s1, s2⟩, s3⟩ := hsw
 have hl : X.env.scope.names.lookup x = some .local := by
  split at s1
  ·assumption
  ·cases s1
 have p := ps_setLc (i := i) (py := px) (spos := pos) (elt := elt) (pos := p2) (scope := scope) cx.calm cx.nd hi hl (sw_true hk hl s2 s3) (sndHI it cx h3) hb (g := gH X.K tg) (tt := tHC X.K T m c) (te := tH X.K T el)
  (fun s H C cl fp => sndGH (N := N) tg (X := X.blk s H scope (compEnvC scope cl C X.env) fp) cx.hN cx.nd cx.calm (fun y hy => hy) h5)
  (fun s H C cl fp => hC (sndC c (cx.blk s H scope cl C fp) h6))
  (fun s H C cl fp => sndHE el (cx.blk s H scope cl C fp) h7)
  (noSet_fold h4)
 rw [own_snd] at p
 refine PS.imp p (fun D σ H h => ?_)
 have h := hS_asg_core (X := X) (T := T) D σ H h
 exact tH_comp (fun i hi => by simpa using List.all_eq_true.mp h2 i hi) σ H _ (tH.mono h fun x H1 g => gH_nm g)
theorem tH_pu {K : PySem.W.Frag} {m : List Nat} {s : SE} {σ : L2.St} {H : Hp} {Q : VK} (h : tH K T (.pu m s) σ H Q) : tE K T s σ H Q := by
 obtain ⟨O, φ, h, ρ, q, r, g, e, f⟩ := h
 simp only [evH] at e
 obtain ⟨v, e1, e⟩ := bok e
 obtain ⟨hf, e⟩ := iok e
 subst e
 exact see_pu r g e1 hf (fun x H1 x1 r1 p1 => f x H1 φ (.ext x1) r1 p1)
theorem hS_setPc {i : Nat} {x : Str} {px pos p2 : Pos} {own : List Nat} {tg : Tg} {it : SI} {m : List Nat} {c : SO} {el : SE} {elt tgE iter : Expr} {ifs : List Expr} {scope : Scope} (cx : Ctx X n M T N) (hk : X.env.scope.kind = .function) (hi : X.N[i]? = some x)
  (hnk : notKeys it = true) (hc : chkE M N (.comp own tg it c el) X.env.scope (.ListComp elt [⟨tgE, iter, ifs, 0⟩] scope p2) = true) (hsw : swB X.env.scope x px (.ListComp elt [⟨tgE, iter, ifs, 0⟩] scope p2) = true) :
  PS X (.Assign [.Name x px] (.ListComp elt [⟨tgE, iter, ifs, 0⟩] scope p2) pos) (tHS X.K T (.asg (.nm i) (.pu m (.comp own tg it c el)))) := by
 simp only [chkE, Bool.and_eq_true] at hc
 obtain ⟨⟨⟨⟨⟨⟨h1, h2⟩, h3⟩, h4⟩, h5⟩, h6⟩, h7⟩ := hc
 rw [notKeys_ok hnk, Bool.or_false] at h3
 have hb : BlkOk X.N X.env.scope scope (own.map fun i => (N.getD i "", i)) := by rw [cx.hN]; exact blkOk_by h1
 unfold swB at hsw
 simp only [Bool.and_eq_true, Bool.not_eq_true'] at hsw
 obtain ⟨⟨s1, s2⟩, s3⟩ := hsw
 have hl : X.env.scope.names.lookup x = some .local := by
  split at s1
  ·assumption
  ·cases s1
 have p := ps_setLc (i := i) (py := px) (spos := pos) (elt := elt) (pos := p2) (scope := scope) cx.calm cx.nd hi hl (sw_true hk hl s2 s3) (sndI it cx h3) hb (g := gR X.K tg) (tt := tCo X.K T c) (te := tE X.K T el)
  (fun s H C cl fp => sndG (N := N) tg (X := X.blk s H scope (compEnvC scope cl C X.env) fp) cx.hN cx.nd cx.calm (fun y hy => hy) h5)
  (fun s H C cl fp => sndC c (cx.blk s H scope cl C fp) h6)
  (fun s H C cl fp => (sndE el (cx.blk s H scope cl C fp) h7).1)
  (noSet_fold h4)
 rw [own_snd] at p
 refine PS.imp p (fun D σ H h => ?_)
 have h := tH_pu (hS_asg_core (X := X) (T := T) D σ H h)
 exact tE_comp (fun i hi => by simpa using List.all_eq_true.mp h2 i hi) σ H _ (tE.mono h fun x H1 g => gH_nm g)
theorem sndSetH {i : Nat} {s : HE} {x : Str} {px pos : Pos} {e : Expr} (cx : Ctx2 X n M T N) (h : chkSetH M N i s X.env.scope x px e = true) : PS X (.Assign [.Name x px] e pos) (tHS X.K T (.asg (.nm i) s)) := by
 unfold chkSetH at h
 simp only [Bool.and_eq_true] at h
 obtain ⟨⟨⟨h1, h2⟩, h3⟩, h4⟩ := h
 have hi : X.N[i]? = some x := by rw [cx.hN]; exact of_decide_eq_true h1
 split at h4
 ·rename_i hsw
  cases s with
  | comp own tg it m c el =>
   have h3' := h3
   simp only [chkHE] at h3'
   split at h3'
   ·exact hS_setLc cx.toCtx cx.kind hi h3 hsw
   ·cases h3'
  | pu m s =>
   cases s with
   | comp own tg it c el =>
    simp only [chkHE] at h3
    have h3' := h3
    simp only [chkE] at h3'
    split at h3'
    ·exact hS_setPc cx.toCtx cx.kind hi h4 h3 hsw
    ·cases h3'
   | _ => cases h4
  | _ => cases h4
 ·rename_i hsw
  refine hS_set cx.toCtx cx.kind hi (locB_loc h2) (.inl (cx.fn x)) (sndHE s cx.toCtx h3) (by simpa using hsw) ?_
  rw [Bool.or_eq_true] at h4
  exact h4.imp id isLC_ok
mutual
theorem sndHS : ∀ (s : HS) {X : Cx} {st : Stmt}, Ctx2 X n M T N → chkHS M N s X.env.scope st = true → PS X st (tHS X.K T s)
 | .asg tg s, X, st, cx, h => by
  simp only [chkHS] at h
  split at h
  ·split at h
   ·exact sndSetH cx h
   ·cases h
  ·split at h
   ·cases h
   ·rename_i es k pt e p _ ts
    simp only [Bool.and_eq_true] at h
    obtain ⟨⟨h1, h2⟩, h3⟩ := h
    refine hS_tup (sndHE s cx.toCtx h2) (sndGH (N := N) _ cx.hN cx.nd cx.calm (fun x _ => cx.fn x) h1) ?_
    split at h3
    ·exact sw_none cx.kind h3
    ·rename_i hne
     exact sw_other (fun vs k2 p2 e => hne vs k2 p2 e)
  ·cases h
 | .par i j a b, X, st, cx, h => by
  simp only [chkHS] at h
  split at h
  ·simp only [Bool.and_eq_true] at h
   obtain ⟨⟨⟨⟨⟨h1, h2⟩, h3⟩, h4⟩, h5⟩, h6⟩ := h
   exact hS_par cx.toCtx cx.kind (by rw [cx.hN]; exact of_decide_eq_true h1) (by rw [cx.hN]; exact of_decide_eq_true h2) (of_decide_eq_true h3) h4 (sndHE a cx.toCtx h5) (sndHE b cx.toCtx h6)
  ·cases h
 | .par3 i j l a b c, X, st, cx, h => by
  simp only [chkHS] at h
  split at h
  ·simp only [Bool.and_eq_true] at h
   obtain ⟨h1, h2, h3, h4, h5, h6, h7, h8, h9, h10⟩ := h
   exact hS_par3 cx.toCtx cx.kind (by rw [cx.hN]; exact of_decide_eq_true h1) (by rw [cx.hN]; exact of_decide_eq_true h2) (by rw [cx.hN]; exact of_decide_eq_true h3) (of_decide_eq_true h4) (of_decide_eq_true h5) (of_decide_eq_true h6) h7 (sndHE a cx.toCtx h8) (sndHE b cx.toCtx h9) (sndHE c cx.toCtx h10)
  ·cases h
 | .app a s, X, st, cx, h => by
  simp only [chkHS] at h
  split at h
  ·simp only [Bool.and_eq_true] at h
   obtain ⟨⟨⟨⟨⟨h1, h2⟩, h3⟩, h4⟩, h5⟩, h6⟩ := h
   obtain rfl := of_decide_eq_true h1
   exact hS_app (sndHE a cx.toCtx h3) (sndHE s cx.toCtx h4) h5 h6 (base_ok h2)
  ·cases h
 | .ext a s, X, st, cx, h => by
  simp only [chkHS] at h
  split at h
  ·simp only [Bool.and_eq_true] at h
   obtain ⟨⟨⟨⟨⟨h1, h2⟩, h3⟩, h4⟩, h5⟩, h6⟩ := h
   obtain rfl := of_decide_eq_true h1
   exact hS_ext (sndHE a cx.toCtx h3) (sndHE s cx.toCtx h4) h5 h6 (base_ok h2)
  ·cases h
 | .set a m k s, X, st, cx, h => by
  simp only [chkHS] at h
  split at h
  ·simp only [Bool.and_eq_true] at h
   obtain ⟨⟨⟨h1, h2⟩, h3⟩, h4⟩ := h
   exact hS_set1 (sndHE a cx.toCtx h2) (sndE k cx.toCtx h3).1 (sndHE s cx.toCtx h4) h1
  ·cases h
 | .dset a m k s, X, st, cx, h => by
  simp only [chkHS] at h
  split at h
  ·simp only [Bool.and_eq_true] at h
   obtain ⟨⟨h2, h3⟩, h4⟩ := h
   exact hS_dset cx.toCtx (sndHE a cx.toCtx h2) (sndE k cx.toCtx h3).1 (sndHE s cx.toCtx h4)
  ·cases h
 | .iff m c a b, X, st, cx, h => by
  simp only [chkHS] at h
  split at h
  ·simp only [Bool.and_eq_true] at h
   obtain ⟨⟨⟨h1, h2⟩, h3⟩, h4⟩ := h
   exact hS_if ((sndE c cx.toCtx h2).2 h1) (sndHB a cx h3) (sndHB b cx h4)
  ·cases h
 | .loop tg it b, X, st, cx, h => by
  simp only [chkHS] at h
  split at h
  ·simp only [Bool.and_eq_true] at h
   obtain ⟨⟨⟨h1, h2⟩, h3⟩, h4⟩ := h
   exact hS_for cx.toCtx cx.own (sndHI it cx.toCtx h1) (sndGH (N := N) tg cx.hN cx.nd cx.calm (fun x _ => cx.fn x) h2) (sndHB b cx h3) h4
  ·cases h
 | .loopw W tg it b, X, st, cx, h => by
  simp only [chkHS] at h
  split at h
  ·simp only [Bool.and_eq_true] at h
   obtain ⟨⟨⟨h1, h2⟩, h3⟩, h4⟩ := h
   exact hS_forw cx.toCtx cx.own (sndHI it cx.toCtx h1) (sndGH (N := N) tg cx.hN cx.nd cx.calm (fun x _ => cx.fn x) h2) (sndHB b cx h3) h4
  ·cases h
 | .whl m μ c b, X, st, cx, h => by
  simp only [chkHS] at h
  split at h
  ·simp only [Bool.and_eq_true] at h
   obtain ⟨⟨h1, h2⟩, h3⟩ := h
   exact hS_while cx.own ((sndE c cx.toCtx h2).2 h1) (sndHB b cx h3)
  ·cases h
 | .ret s, X, st, cx, h => by
  simp only [chkHS] at h
  split at h
  ·exact hS_ret (sndHE s cx.toCtx h)
  ·cases h
 | .expr s, X, st, cx, h => by
  simp only [chkHS] at h
  split at h
  ·rw [Bool.and_eq_true] at h
   exact hS_expr (sndHE s cx.toCtx h.1) h.2
  ·cases h
 | .raise _, X, st, cx, h => hS_raise
 | .rvs a, X, st, cx, h => by
  simp only [chkHS] at h
  split at h
  ·simp only [Bool.and_eq_true] at h
   obtain ⟨⟨⟨h1, h2⟩, h3⟩, h4⟩ := h
   obtain rfl := of_decide_eq_true h1
   exact hS_rvs (sndHE a cx.toCtx h3) h4 (base_ok h2)
  ·cases h
theorem sndHB : ∀ (s : HB) {X : Cx} {sts : List Stmt}, Ctx2 X n M T N → chkHB M N s X.env.scope sts = true → PSs X sts (tHB X.K T s)
 | .nil, X, sts, cx, h => by
  simp only [chkHB] at h
  cases sts with
  | nil => exact hB_nil
  | cons => cases h
 | .cons s r, X, [], cx, h => by simp only [chkHB] at h; cases h
 | .cons s r, X, st :: sts, cx, h => by
  simp only [chkHB, Bool.and_eq_true] at h
  exact hB_seq (sndHS s cx h.1) (sndHB r cx h.2)
end
end
def chkFldsH (M : Nm) (N : List Str) (sc : Scope) : List String → HEs → List Stmt → Bool
 | [], s, sts => (match s with | .nil => true | _ => false) && sts.isEmpty
 | f :: fs, s, sts => match s, sts with
  | .cons e r, .Assign [.Attribute (.Name x _) g _] v _ :: sts => decide (N[0]? = some x) && visB sc x && dbg x && decide (g = Str.ofString f) && decide (g ∈ M.fl) && chkHE M N e sc v && chkFldsH M N sc fs r sts
  | _, _ => false
def chkInitH (M : Nm) (N ps : List Str) (fs : List String) (es : HEs) (st : Stmt) : Bool :=
 scopeB N ps (defScope st) && decide ((fs.map Str.ofString).Nodup) && decide (fs.length < 1000) && chkFldsH M N (defScope st) fs es (defBody st)
structure KeepHS (H : Hp) (φ : List Addr) (H' : Hp) (φ' : List Addr) (p : Addr) : Prop where
 k : Keep H (fun a => a ∈ φ ∨ a = p) H' (fun a => a ∈ φ' ∨ a = p)
 pre : φ <+: φ'
section
variable {H H' H1 : Hp} {O : Hid} {φ φ' φ1 : List Addr} {p : Addr}
theorem KeepHS.refl : KeepHS H φ H φ p := ⟨Keep.refl, List.prefix_refl _⟩
theorem KeepHS.trans (a : KeepHS H φ H1 φ1 p) (b : KeepHS H1 φ1 H' φ' p) : KeepHS H φ H' φ' p := ⟨a.k.trans b.k, a.pre.trans b.pre⟩
theorem KeepH.toS (k : KeepH H φ H' φ') : KeepHS H φ H' φ' p :=
 ⟨⟨fun a o h n nt => k.k.vis a o h (fun z => n (.inl z)) nt, fun a n h => k.k.dom a (fun z => n (.inl z)) h, k.k.tabs, fun a h => h.elim (fun z => (k.k.new a z).imp .inl id) (fun z => .inl (.inr z))⟩, k.pre⟩
theorem KeepHS.toO (k : KeepHS H φ H' φ' p) (hO : O p) : KeepO H O φ H' O φ' :=
 ⟨⟨fun a o h n nt => k.k.vis a o h (fun z => n (z.elim .inr (fun e => .inl (e ▸ hO)))) nt, fun a n h => k.k.dom a (fun z => n (z.elim .inr (fun e => .inl (e ▸ hO)))) h, k.k.tabs, fun a h => h.elim (fun z => .inl (.inl z)) (fun z => (k.k.new a (.inl z)).imp (fun y => y.elim .inr (fun e => .inl (e ▸ hO))) id)⟩, k.pre⟩
theorem KeepHS.upd {o u : HO} (h : H p = some o) (ne : NE o) : KeepHS H φ (L2.upd H p u) φ p := ⟨Keep.hid h (.inr rfl) ne, List.prefix_refl _⟩
end
section
variable {X : Cx} {n : Nat} {M : Nm} {T : Tab} {N : List Str} {C : Addr}
def tFlH (K : PySem.W.Frag) (T : Tab) (C : Addr) (fs : List String) (es : HEs) : TS := fun D σ H => ∃ O φ h ρ self dx kvs q, σ[0]? = some (some (.ref self)) ∧ H self = some (.ins C dx kvs) ∧ O self ∧ RelH K H O φ h ∧ EnvH K H O φ σ ρ ∧ evHs T es ρ h = .ok q ∧
 kvs.length + fs.length < 1000 ∧ (kvs.map (·.1) ++ fs.map Str.ofString).Nodup ∧ ∀ H' φ' xs, KeepHS H φ H' φ' self → RelH K H' O φ' q.2 → H' self = some (.ins C dx (kvs ++ (fs.map Str.ofString).zip xs)) → RepHs K H' O φ' q.1 xs → D.nx σ H'
theorem fldsH_ok (cx : Ctx X n M T N) (cl : Cls X.K C) (na : ∀ f ∈ M.fl, NoAttr X.K C f) : ∀ (fs : List String) (es : HEs) (sts : List Stmt), chkFldsH M N X.env.scope fs es sts = true → PSs X sts (tFlH X.K T C fs es)
 | [], es, sts, h => by
  simp only [chkFldsH, Bool.and_eq_true] at h
  obtain ⟨h1, h2⟩ := h
  cases sts with
  | cons => cases h2
  | nil =>
   cases es with
   | cons => cases h1
   | nil =>
    refine PSs.imp pss_nil (fun D σ H ⟨O, φ, h, ρ, self, dx, kvs, q, hs, hp, hO, r, g, he, hl, nd, f⟩ => ?_)
    simp only [evHs] at he
    cases he
    exact f H φ [] .refl r (by simpa using hp) RepHs.nil
 | f :: fs, es, sts, h => by
  simp only [chkFldsH] at h
  split at h
  ·rename_i e r x px g pa v p sts
   simp only [Bool.and_eq_true] at h
   obtain ⟨⟨⟨⟨⟨⟨h1, h2⟩, h3⟩, h4⟩, h5⟩, h6⟩, h7⟩ := h
   obtain rfl := of_decide_eq_true h4
   have hi : X.N[0]? = some x := by rw [cx.hN]; exact of_decide_eq_true h1
   refine PSs.imp (pss_cons (ps_fld (pe_var hi (visB_vis h2) (dbg_1 h3) (dbg_2 h3)) (sndHE e cx h6) sw_attr) (fldsH_ok cx cl na fs r sts h7)) (fun D σ H ⟨O, φ, h, ρ, self, dx, kvs, q, hs, hp, hO, rr, gg, he, hl, nd, f'⟩ => ?_)
   simp only [evHs] at he
   obtain ⟨q1, e1, he⟩ := bok he
   obtain ⟨q2, e2, he⟩ := bok he
   cases he
   refine ⟨O, φ, h, ρ, q1, rr, gg, e1, fun z H1 φ1 k1 r1 p1 => ⟨_, hs, ?_⟩⟩
   have nf0 : self ∉ φ := fun z => rr.out self z hO
   have hp1 : H1 self = some (.ins C dx kvs) := k1.k.vis _ _ hp nf0
   simp only [List.length_cons, List.map_cons] at hl nd
   have nf : Str.ofString f ∉ kvs.map (·.1) := fun z => by
    have := (List.nodup_append.mp nd).2.2 _ z _ (List.mem_cons_self ..)
    exact this rfl
   refine ⟨self, C, dx, kvs, rfl, hp1, cl, na _ (of_decide_eq_true h5), by omega, ?_⟩
   rw [putF_new nf]
   obtain ⟨r2, kO⟩ := r1.touch (u := .ins C dx (kvs ++ [(Str.ofString f, z)])) hO True.intro
   have ks : KeepHS H1 φ1 (L2.upd H1 self (.ins C dx (kvs ++ [(Str.ofString f, z)]))) φ1 self := .upd hp1 True.intro
   have g2 := (gg.keep rr.wfo k1).keepO r1.wfo kO
   refine ⟨O, φ1, _, ρ, self, dx, _, q2, hs, upd_same, hO, r2, g2, e2, ?_, ?_, fun H' φ' xs k' r' hp' p' => ?_⟩
   ·rw [List.length_append]; simp only [List.length_cons, List.length_nil]; omega
   ·rw [List.map_append, List.append_assoc]; exact nd
   ·refine f' H' φ' (z :: xs) (k1.toS.trans (ks.trans k')) r' ?_ (RepHs.cons (RepH.keepO r1.wfo ((ks.trans k').toO hO) p1) p')
    rw [hp', List.append_assoc]
    rfl
  ·cases h
end
theorem envH_self {K : PySem.W.Frag} {H : Hp} {O : Hid} {φ : List Addr} {N : List Str} {as : List HV} {self : V} {xs : List V} {k : Nat} (ra : RepHs K H O φ as xs) (hk : as.length + 1 + k ≤ N.length) :
  EnvH K H O φ (start N (self :: xs)) (((HV.p .non :: as).map some ++ List.replicate k none).set 0 none) := by
 refine ⟨?_, fun i v hv => ?_⟩
 ·unfold L2.start
  rw [List.length_set, List.length_append, List.length_append, List.length_map, List.length_map, List.length_replicate, List.length_replicate, List.length_cons, List.length_cons, ra.length]; omega
 ·cases i with
  | zero => simp at hv
  | succ j =>
   rw [List.getElem?_set_ne (by omega)] at hv
   simp only [List.map_cons, List.cons_append, List.getElem?_cons_succ] at hv
   by_cases hj : j < as.length
   ·rw [List.getElem?_append_left (by simpa using hj), List.getElem?_map] at hv
    cases e : as[j]? with
    | none => rw [e] at hv; cases hv
    | some a =>
     rw [e] at hv
     cases hv
     obtain ⟨x, hx, rx⟩ := ra.get e
     exact ⟨x, start_get (by simpa using hx), rx⟩
   ·rw [List.getElem?_append_right (by simpa using hj), List.getElem?_replicate] at hv
    split at hv <;> cases hv
section
variable {P : Program} {w : World} {K : PySem.W.Frag} {mg : Str → Option Value} {base : Heap}
theorem fnIH_ok {M : Nm} {T : Tab} {N ps : List Str} {fs : List String} {es : HEs} {x qual : Str} {st : Stmt} {f C : Addr} {fd : FuncData} {n c np : Nat} (F : Fun K x qual st f fd) (hd : chkInitH M N ps fs es st = true) (hp : ps.length = np + 1) (fc : Facts M T P w K mg base n) (hc : Tbl.C c = some C) (hlm : ∀ N f es sc e, M.lm N f es sc e = false := by intros; rfl) :
  FnOk P w K mg base CX0 (n + 1) f fd ps (spIH K np C (runH T ⟨np + 1, N.length, .cons (.ret (.mk c fs es)) .nil⟩)) := by
 unfold chkInitH at hd
 simp only [Bool.and_eq_true] at hd
 obtain ⟨⟨⟨h1, h2⟩, h3⟩, h4⟩ := hd
 have S := scope_by h1
 obtain ⟨cl, _, na⟩ := fc.cl.cls c C hc
 refine F.ok S (fun vs H Q E ⟨H1, O, φ, h, as, q, self, dx, xs', hv, _, _, _, _, _, ra, hl, _⟩ => by rw [hv, List.length_cons, ra.length, hl, hp]) (fun cdv A outer s H vs Q E hr ⟨H1, O, φ, h, as, q, self, dx, xs', hv, n1, n2, ne, hH, rr, ra, hl, e, fq⟩ => ?_)
 subst hv hH
 have hpl : ps.length ≤ N.length := by have := congrArg List.length S.pre; rw [List.length_take] at this; omega
 refine ⟨tFlH K T C fs es, fldsH_ok (n := n) (M := M) (N := N) ⟨fc, rfl, S.nd, rfl, hr, noLm hlm⟩ cl na fs es _ h4, ?_⟩
 unfold runH at e
 rw [if_pos (by simp [hl])] at e
 obtain ⟨qq, h5, e⟩ := bok e
 simp only [exHs, exH] at h5
 obtain ⟨fl, h6, h5⟩ := bok h5
 obtain ⟨v, h7, h6⟩ := bok h6
 cases h6
 simp only at h5
 cases h5
 simp only at e
 cases e
 simp only [evH] at h7
 obtain ⟨q0, h8, h9⟩ := bok h7
 unfold mkH at h9
 split at h9
 rotate_left
 ·cases h9
 rename_i hlen
 cases h9
 have hlen := Nat.eq_of_beq_eq_true hlen
 have e1 : Ext H1 (L2.upd H1 dx (.own self)) := Ext.upd n2
 have n3 : (L2.upd H1 dx (.own self)) self = none := by rw [upd_ne ne.symm]; exact n1
 have e2 : Ext H1 (L2.upd (L2.upd H1 dx (.own self)) self (.ins C dx [])) := e1.trans (Ext.upd n3)
 have r2 := (rr.ext e1).hide (u := .ins C dx []) n3 True.intro
 have nO : ¬ O self := rr.wf.new n1
 have kO : KeepO H1 O φ (L2.upd (L2.upd H1 dx (.own self)) self (.ins C dx [])) (fun a => O a ∨ a = self) φ := ⟨⟨fun a o h _ nt => e2.vis a o h nt, fun a _ h => e2.dom a h, e2.tabs, fun a ha => by
  rcases ha with (ha | rfl) | ha
  ·exact .inl (.inl ha)
  ·exact .inr n1
  ·exact .inl (.inr ha)⟩, List.prefix_refl _⟩
 refine ⟨fun a => O a ∨ a = self, φ, h, _, self, dx, [], q0, rfl, upd_same, .inr rfl, r2, envH_self (RepHs.keepO rr.wfo kO ra) (by rw [hl]; omega), h8, by simpa using of_decide_eq_true h3, by simpa using of_decide_eq_true h2, fun H' φ' xs k' r' hp' p' => ?_⟩
 have hx : xs.length = (fs.map Str.ofString).length := by rw [p'.length]; exact hlen
 have kf : KeepH H1 φ H' (φ' ++ [self]) := by
  refine ⟨⟨fun a o h n nt => ?_, fun a n h => ?_, fun t => k'.k.tabs (e2.tabs t), fun a ha => ?_⟩, k'.pre.trans (List.prefix_append _ _)⟩
  ·have ha : a ≠ self := ne_of_none h n1
   exact k'.k.vis a o (e2.vis a o h) (fun z => z.elim n ha) nt
  ·by_cases ha : a = self
   ·subst ha; rw [hp'] at h; cases h
   ·exact e2.dom a (k'.k.dom a (fun z => z.elim n ha) h)
  ·rw [List.mem_append, List.mem_singleton] at ha
   rcases ha with ha | rfl
   ·rcases k'.k.new a (.inl ha) with (z | rfl) | z
    ·exact .inl z
    ·exact .inr n1
    ·exact .inr (e2.dom a z)
   ·exact .inr n1
 have r3 : RelH K H' O (φ' ++ [self]) (q0.2 ++ [.ins c (fs.map Str.ofString) q0.1]) := by
  refine r'.adopt nO ⟨C, dx, _, hc, hp', ?_, ?_⟩
  ·rw [List.nil_append, List.map_fst_zip (by omega)]
  ·rw [List.nil_append, List.map_snd_zip (by omega)]
   exact RepHs.keepO r'.wfo KeepO.adopt p'
 refine fq H' (φ' ++ [self]) kf r3 ?_
 simp only [RepH]
 exact ⟨self, by rw [← r'.len]; simp, rfl⟩
end
def chkHD (M : Nm) (N ps : List Str) (d : HD) (st : Stmt) : Bool :=
 scopeB N ps (defScope st) && decide (d.np = ps.length) && decide (d.ns = N.length) && chkHB M N d.body (defScope st) (defBody st)
structure Lam0 (inner : Scope) (p : Str) : Prop where
 kind : inner.kind = .function
 co : inner.isCoroutine = false
 gen : inner.isGenerator = false
 par : inner.names.lookup p = some .local
 own : ∀ n ∈ inner.names, (n.2 = .local → n.1 = p) ∧ n.2 ≠ .cell ∧ n.2 ≠ .free
def lam0B (scope : Scope) (p : Str) : Bool :=
 decide (scope.kind = .function) && !scope.isCoroutine && !scope.isGenerator && decide (scope.names.lookup p = some .local) && scope.names.all fun y => (!decide (y.2 = .local) || decide (y.1 = p)) && !decide (y.2 = .cell) && !decide (y.2 = .free)
theorem lam0_by {scope : Scope} {p : Str} (h : lam0B scope p = true) : Lam0 scope p := by
 unfold lam0B at h
 simp only [Bool.and_eq_true, Bool.or_eq_true, List.all_eq_true, Bool.not_eq_true', decide_eq_false_iff_not, decide_eq_true_eq] at h
 obtain ⟨⟨⟨⟨h1, h2⟩, h3⟩, h4⟩, h5⟩ := h
 refine ⟨h1, h2, h3, h4, fun y hy => ⟨fun e => ?_, (h5 y hy).1.2, (h5 y hy).2⟩⟩
 rcases (h5 y hy).1.1 with z | z
 ·exact absurd e z
 ·exact z
abbrev lamEnv0 (q : Str) (sc : Scope) (L a c : Addr) : Env := PySem.W.envX q sc L a (.ref c) []
section
variable {P : Program} {w : World} {K : PySem.W.Frag} {mg : Str → Option Value} {base : Heap}
def lamCx0 (P : Program) (w : World) (K : PySem.W.Frag) (mg : Str → Option Value) (base : Heap) (A : Around) (outer : List Env) (s : Shared) (H : Hp) (q : Str) (sc : Scope) (a c : Addr) (p : Str) : Cx where
 prog := P
 w := w
 K := K
 mg := mg
 base := base
 A := A.deeper (lamEnv0 q sc s.heap.objs.size a c)
 N := [p]
 s_0 := s
 H_0 := H
 env := lamEnv0 q sc s.heap.objs.size a c
 outer := outer
 stack := lamEnv0 q sc s.heap.objs.size a c :: outer
 ex := []
 fn := fun _ => false
 calm := true
 pn := []
 xe := fun e s' => wpAny (model P w) (A.deeper (lamEnv0 q sc s.heap.objs.size a c)) (leaving (lamEnv0 q sc s.heap.objs.size a c) e) (fun _ _ => False) (fun _ _ => False) s'
theorem lam_start0 {A : Around} {outer : List Env} {sc : Scope} {a c : Addr} {hN : Heap} {tk : Nat} {p q : Str} {v0 : V} {u0 : Value} {s1 : Shared} {HZ : Hp} (L : Lam0 sc p) (e0 : Env0 P w K mg base A outer s1 HZ)
  (hd : A.handled = none) (hns : hN.Ns s1.heap.objs.size fun y => ([(p, u0)] : List (Str × Value)).reverse.lookup y) (kp : ∀ b o, s1.heap.get? b = some o → hN.get? b = some o) (rv : L2.RelV v0 u0) :
  Inv (lamCx0 P w K mg base A outer s1 HZ q sc a c p) [] [some v0] HZ { s1 with heap := hN, toks := tk } := by
 have noEx : ∀ b : Addr, b ∉ (lamCx0 P w K mg base A outer s1 HZ q sc a c p).ex := fun b z => by cases z
 have noC : ∀ {nm : Str} {cc : Addr}, ([] : List (Str × Addr)).lookup nm = some cc → False := fun z => by cases z
 have nok : ∀ {nm : Str}, sc.names.lookup nm = some .cell ∨ sc.names.lookup nm = some .free → False := fun hk => by
  rcases hk with hk | hk
  ·exact (L.own _ (PySem.mem_of_lookup hk)).2.1 rfl
  ·exact (L.own _ (PySem.mem_of_lookup hk)).2.2 rfl
 have okc : (lamCx0 P w K mg base A outer s1 HZ q sc a c p).Ok := by
  refine { mod := e0.mod, kind := L.kind, glob := rfl, blt := rfl, above := Nat.le_refl _, inj := ?_, has := ?_, cab := ?_, hd := fun _ => hd, frames := Around.frames_deeper e0.frames, stk := .inr ⟨rfl, rfl⟩, exf := ?_, bs := e0.bs, bsz := e0.bsz, noex := ?_, exfs := ?_, funs := e0.funs, frf := e0.frf }
  ·exact fun m1 m2 cc q1 q2 => (noC q1).elim
  ·exact fun nm hk => (nok hk).elim
  ·exact fun _ _ z _ => by cases z
  ·exact fun b z => absurd z (noEx b)
  ·exact fun b _ _ => noEx b
  ·exact fun b z => absurd z (noEx b)
 refine { ok := okc, os := rfl, bare := e0.bare, base := Un.kept kp, loc := ⟨_, hns, ?_⟩, cell := fun nm cc hc => (noC hc).elim, free := e0.hok.fresh (Nat.le_refl _), freeC := fun nm cc hc => (noC hc).elim, pin := (fun _ z => nomatch z), hok := e0.hok.kept kp, len := rfl }
 intro i nm v q1 q2 q3
 have q1 : ([p] : List Str)[i]? = some nm := q1
 cases i with
 | succ i => simp at q1
 | zero =>
  have isP : p = nm := Option.some.inj q1
  have isV : some v0 = some v := Option.some.inj q2
  cases isV
  subst isP
  exact ⟨u0, rv, .inl ⟨L.par, by
   show ([(p, u0)] : List (Str × Value)).reverse.lookup p = some u0
   simp [List.lookup]⟩⟩
theorem lamFn_ok {M : Nm} {T : Tab} {n : Nat} {p q : Str} {ps : Arguments} {bd : Expr} {sc : Scope} {s : HE} (hb : ∀ (u : Value) (pm cv ctv : Value), bindArgs (PySem.W.kla_fn "<lambda>" q ps bd sc [] pm cv ctv) ⟨[u], []⟩ = pure [(p, u)])
  (hL : lam0B sc p = true) (hc : chkHE M [p] s sc bd = true) (fc : Facts M T P w K mg base n) (hlm : ∀ N f es sc e, M.lm N f es sc e = false) : LamFn P w K mg base (n + 1) (runH T ⟨1, 1, .cons (.ret s) .nil⟩) q ps bd sc := by
 have L := lam0_by hL
 intro A outer s0 H a c u v Q E hr e0 hf hcd rv ⟨O, φ, h, as, z, r, ra, hl, e, f⟩
 obtain ⟨pm, ct, hg⟩ := (e0.hok a _ hf).1
 obtain ⟨⟨oc, vs', t, hoc, hdc, hvc⟩, _, _⟩ := e0.hok c _ hcd
 have lim : s0.heap.NoLimit := e0.mod.nolimit.keeps fun b o e => (e0.bs b o e).1
 refine PySem.W.kla_callFunE hr.depth hg rfl L.co L.gen rfl ⟨c, oc, vs', t, rfl, hoc, hdc, hvc⟩ ?_
 rw [hb]
 refine wpAny_pure (wpAny_newFunctionEnv (fun y hy => (L.own y hy).2.1) (fun y hy => by
  rw [List.mem_singleton] at hy; subst hy; exact L.par) (fun h₁ hns hsb => ⟨lim.fresh _ hsb, ?_⟩) L.kind)
 show codeAny _ _ (.expr bd (lamEnv0 q sc s0.heap.objs.size a c)) _ _
 have kp : ∀ b o, s0.heap.get? b = some o → h₁.get? b = some o := fun b o e => hsb.extBut b o (Nat.ne_of_lt (Heap.lt_size e)) (Heap.get?_push_of_some _ e)
 have J : Inv (lamCx0 P w K mg base A outer s0 H q sc a c p) [] [some v] H { s0 with heap := h₁, toks := s0.toks + ([(p, u)] : List (Str × Value)).length } := lam_start0 L e0 hr.hd hns kp rv
 have cx : Ctx (lamCx0 P w K mg base A outer s0 H q sc a c p) n M T [p] := ⟨fc, rfl, by show ([p] : List Str).Nodup; simp, rfl, hr.deeper _, noLm hlm⟩
 have hp : tH K T s [some v] H Q := by
  unfold runH at e
  rw [if_pos hl] at e
  obtain ⟨qq, h5, e⟩ := bok e
  match as, hl, ra with
  | [y], _, ra =>
   simp only [RepHs] at ra
   obtain ⟨x, l, hx, ry, _⟩ := ra
   cases hx
   simp only [exHs, exH] at h5
   obtain ⟨fl, h6, h7⟩ := bok h5
   obtain ⟨q1, h8, h9⟩ := bok h6
   cases h9
   simp only at h7
   cases h7
   simp only at e
   cases e
   refine ⟨O, φ, h, [some y], q1, r, ⟨Nat.le_refl 1, fun i w hw => ?_⟩, h8, f⟩
   cases i with
   | zero => cases hw; exact ⟨v, rfl, ry⟩
   | succ i => simp at hw
 refine PySem.W.kla_codeExpr (wpAny_mono ((sndHE s cx hc).run [] _ _ H Q J hp) (fun v s' hq => ?_) fun e s' hq => ?_)
 ·obtain ⟨res, HE, JE, rr, qq⟩ := hq
  exact ⟨res, HE, JE.os, JE.bare, JE.base, JE.hok, rr, qq⟩
 ·exact wpAny_mono hq (fun _ _ z => z.elim) (fun _ _ z => z.elim)
theorem LamFn.mono {j k : Nat} {g : List HV → HHp → R (HV × HHp)} {q : Str} {ps : Arguments} {bd : Expr} {sc : Scope} (F : LamFn P w K mg base j g q ps bd sc) (h : j ≤ k) : LamFn P w K mg base k g q ps bd sc :=
 fun A outer s H a c u v Q E hr => F A outer s H a c u v Q E (hr.mono h)
def lmB (M : Nm) (Pr : Prog) (f : Nat) (ps : Arguments) (bd : Expr) (sc : Scope) : Bool := match Pr.HF f with
 | some ⟨1, 1, .cons (.ret s) .nil⟩ => match ps.args with
  | [p] => argsB ps [p.arg] && (lam0B sc p.arg && chkHE M [p.arg] s sc bd)
  | _ => false
 | _ => false
theorem lm_zero {Pr : Prog} {f : Nat} {q : Str} {ps : Arguments} {bd : Expr} {sc : Scope} : LamFn P w K mg base 0 ((Pr.tab 0).H f) q ps bd sc := fun A outer s H a c u v Q E hr e0 hf hcd rv ⟨O, φ, h, as, z, r, ra, hl, e, _⟩ => by
 simp only [callH, calls] at e; cases e
theorem lm_succ {M : Nm} {Pr : Prog} {n k f : Nat} {q : Str} {ps : Arguments} {bd : Expr} {sc : Scope} (h : lmB M Pr f ps bd sc = true) (fc : Facts M (Pr.tab n) P w K mg base k) (hlm : ∀ N f es sc e, M.lm N f es sc e = false) : LamFn P w K mg base (k + 1) ((Pr.tab (n + 1)).H f) q ps bd sc := by
 unfold lmB at h
 split at h
 ·rename_i s hF
  split at h
  ·rename_i p hp
   rw [Bool.and_eq_true, Bool.and_eq_true] at h
   have e : (Pr.tab (n + 1)).H f = runH (Pr.tab n) ⟨1, 1, .cons (.ret s) .nil⟩ := by funext args; funext hp; exact callH_succ Pr n f args hp hF
   rw [e]
   exact lamFn_ok (fun u pm cv ctv => bind_plain (ps := [p.arg]) h.1 rfl rfl) h.2.1 h.2.2 fc hlm
  ·cases h
 ·cases h
end
section
variable {P : Program} {w : World} {K : PySem.W.Frag} {mg : Str → Option Value} {base : Heap}
theorem envH_start {H : Hp} {O : Hid} {φ : List Addr} {N : List Str} {as : List HV} {vs : List V} {k : Nat} (r : RepHs K H O φ as vs) (hk : as.length + k ≤ N.length) : EnvH K H O φ (start N vs) (as.map some ++ List.replicate k none) := by
 refine ⟨?_, fun i v h1 => ?_⟩
 ·unfold L2.start
  rw [List.length_append, List.length_append, List.length_map, List.length_map, List.length_replicate, List.length_replicate, r.length]; omega
 ·by_cases hi : i < as.length
  ·rw [List.getElem?_append_left (by simpa using hi), List.getElem?_map] at h1
   cases e : as[i]? with
   | none => rw [e] at h1; cases h1
   | some a =>
    rw [e] at h1; cases h1
    obtain ⟨x, hx, rx⟩ := r.get e
    exact ⟨x, start_get hx, rx⟩
  ·rw [List.getElem?_append_right (by simpa using hi), List.getElem?_replicate] at h1
   split at h1 <;> cases h1
theorem fnH_ok {M : Nm} {T : Tab} {N ps : List Str} {d : HD} {x : Str} {st : Stmt} {f : Addr} {fd : FuncData} {n : Nat} (F : Fun K x x st f fd) (hd : chkHD M N ps d st = true) (fc : Facts M T P w K mg base n) (hlm : ∀ N f es sc e, M.lm N f es sc e = false := by intros; rfl) :
  FnOk P w K mg base CX0 (n + 1) f fd ps (spH K ps.length (runH T d)) := by
 unfold chkHD at hd
 simp only [Bool.and_eq_true] at hd
 obtain ⟨⟨⟨h1, h2⟩, h3⟩, h4⟩ := hd
 have S := scope_by h1
 have hnp := of_decide_eq_true h2
 have hns := of_decide_eq_true h3
 refine F.ok S (fun vs H Q E ⟨O, φ, h, as, q, r, ra, hl, _⟩ => by rw [ra.length]; exact hl) (fun cdv A outer s H vs Q E hr ⟨O, φ, h, as, q, r, ra, hl, e, f⟩ => ?_)
 have hpl : ps.length ≤ N.length := by have := congrArg List.length S.pre; rw [List.length_take] at this; omega
 refine ⟨tHB K T d.body, sndHB (n := n) (M := M) (N := N) d.body ⟨⟨fc, rfl, S.nd, rfl, hr, noLm hlm⟩, S.kind, PassesOwn.never, fun _ => rfl⟩ h4, ?_⟩
 unfold runH at e
 by_cases hlen : as.length = d.np
 ·rw [if_pos hlen] at e
  obtain ⟨qq, h5, e⟩ := bok e
  refine ⟨O, φ, h, _, qq, r, envH_start ra (by omega), h5, ?_⟩
  obtain ⟨fl, ρ', h'⟩ := qq
  cases fl with
  | nx =>
   simp only at e
   cases e
   exact fun σ' H' φ' k' r' _ => f _ _ _ k' r' (by simp only [RepH, Rep])
  | rt v =>
   simp only at e
   cases e
   exact fun x H' φ' k' r' p' => f x H' φ' k' r' p'
 ·rw [if_neg hlen] at e; cases e
theorem FnOk.imp {n : Nat} {f : Addr} {fd : FuncData} {ps : List Str} {sp sp' : Sp} (F : FnOk P w K mg base CX0 n f fd ps sp) (i : ∀ vs H Q E, sp' vs H Q E → sp vs H Q E) : FnOk P w K mg base CX0 n f fd ps sp' :=
 ⟨fun vs H Q E h => F.1 vs H Q E (i _ _ _ _ h), fun A outer s H args us vs Q E a b c d h => F.2 A outer s H args us vs Q E a b c d (i _ _ _ _ h)⟩
theorem sp_pure {np : Nat} {g : List HV → HHp → R (HV × HHp)} : ∀ xs H Q E, spC K np (pureH g) xs H Q E → spH K np g xs H Q E := by
 intro xs H Q E ⟨O, as, r, w, ra, hl, e, q⟩
 unfold pureH at e
 obtain ⟨q1, e1, e⟩ := bok e
 have e2 := ofO_ok e
 have r0 : RelH K H O [] [] := ⟨w, rfl, List.nodup_nil, fun a ha => (nomatch ha), fun n a o h1 => by simp at h1⟩
 refine ⟨O, [], [], as.map HV.p, q1, r0, RepHs.ofP (Reps.keep w ⟨fun _ _ h _ _ => h, fun _ _ h => h, id, fun a ha => .inl (by rcases ha with ha | ha; exact ha; exact nomatch ha)⟩ ra), by simpa using hl, e1, fun x H' φ' k r' p' => ?_⟩
 exact q x H' ⟨fun a o h nt => k.k.vis a o h (fun z => nomatch z) nt, fun a h => k.k.dom a (fun z => nomatch z) h, k.k.tabs⟩ (r'.deref 60 _ x r p' e2)
structure DefOk (M : Nm) (Pr : Prog) (K : PySem.W.Frag) (mg : Str → Option Value) (f : Nat) (x : Str) : Prop where
 ex : ∃ (N ps : List Str) (st : Stmt) (fa : Addr) (fd : FuncData), Fun K x x st fa fd ∧ mg x = some (.ref fa) ∧ Binds K fd ps [] ∧
  ((∃ d, Pr.F f = some d ∧ chkD M N ps d st = true ∧ (M.fr f = true → chkDr true M N ps d st = true)) ∨ (∃ d, Pr.F f = none ∧ Pr.HF f = some d ∧ chkHD M N ps d st = true ∧ M.fr f = false))
structure DefOkH (M : Nm) (Pr : Prog) (K : PySem.W.Frag) (mg : Str → Option Value) (f : Nat) (x : Str) : Prop where
 ex : ∃ (N ps : List Str) (d : HD) (st : Stmt) (fa : Addr) (fd : FuncData), Pr.HF f = some d ∧ Fun K x x st fa fd ∧ mg x = some (.ref fa) ∧ Binds K fd ps [] ∧ chkHD M N ps d st = true
structure MtOk (M : Nm) (Pr : Prog) (K : PySem.W.Frag) (c : Nat) (m : Str) (f : Nat) : Prop where
 ex : ∃ (C : Addr) (N ps : List Str) (d : SD) (qual : Str) (st : Stmt) (fa : Addr) (fd : FuncData), Tbl.C c = some C ∧ Meth K C m fa ∧ Binds K fd ps [] ∧ Fun K m qual st fa fd ∧ Pr.F f = some d ∧ chkD M N ps d st = true
structure CtOk (M : Nm) (Pr : Prog) (K : PySem.W.Frag) (mg : Str → Option Value) (f : Nat) (y : Str) : Prop where
 ex : ∃ C : Addr, mg y = some (.ref C) ∧ ((∃ (c : Nat) (N ps : List Str) (np : Nat) (fs : List String) (es : SEs) (qual : Str) (st : Stmt) (fi : Addr) (fd : FuncData), Tbl.C c = some C ∧ Mk K C fi ∧ Binds K fd ps [] ∧ Fun K "__init__" qual st fi fd ∧
  ps.length = np + 1 ∧ Pr.F f = some ⟨np + 1, N.length, .cons (.ret [] (.mk c fs es)) .nil⟩ ∧ chkInit M N ps fs es st = true) ∨ (Bare K C ∧ ∃ c, Tbl.C c = some C ∧ Pr.F f = some ⟨1, 1, .cons (.ret [] (.mk c [] .nil)) .nil⟩))
structure CtOkH (M : Nm) (Pr : Prog) (K : PySem.W.Frag) (mg : Str → Option Value) (f : Nat) (y : Str) : Prop where
 ex : ∃ (C : Addr) (c : Nat) (N ps : List Str) (np : Nat) (fs : List String) (es : HEs) (qual : Str) (st : Stmt) (fi : Addr) (fd : FuncData), mg y = some (.ref C) ∧ Tbl.C c = some C ∧ Mk K C fi ∧ Binds K fd ps [] ∧ Fun K "__init__" qual st fi fd ∧
  ps.length = np + 1 ∧ Pr.HF f = some ⟨np + 1, N.length, .cons (.ret (.mk c fs es)) .nil⟩ ∧ chkInitH M N ps fs es st = true
structure LamOkC (M : Nm) (Pr : Prog) (P : Program) (w : World) (K : PySem.W.Frag) (mg : Str → Option Value) (base : Heap) (f : Nat) (x : Str) : Prop where
 ex : ∃ (ps : List Str) (st : Stmt) (fa : Addr) (fd : FuncData) (d : SD), Fun K x x st fa fd ∧ mg x = some (.ref fa) ∧ Binds K fd ps [] ∧ Pr.F f = some d ∧ M.fr f = false ∧ d.np = ps.length ∧
  ∀ n, (∀ m, m ≤ n → Facts M (Pr.tab m) P w K mg base (2 * m)) → FnOk P w K mg base CX0 (2 * n + 2) fa fd ps (spC K ps.length (runD (Pr.tab n) d))
theorem prog_factsCL {M : Nm} {Pr : Prog} (defs : ∀ f x, M.fn f = some x → DefOk M Pr K mg f x ∨ LamOkC M Pr P w K mg base f x) (defsH : ∀ f x, M.hn f = some x → DefOkH M Pr K mg f x) (hw : w = Tbl.w)
  (gls : ∀ g x v, M.gl g = some x → Pr.G g = some v → ∃ u y, mg x = some u ∧ RelV y u ∧ ∀ H O, Rep K H O v y) (bis : ∀ x ∈ biNames, mg (Str.ofString x) = none)
  (cls : ∀ c C, Tbl.C c = some C → Cls K C ∧ ClsT K C ∧ ∀ f ∈ M.fl, NoAttr K C f)
  (iss : ∀ d y, M.cn d = some y → ∃ D, mg y = some (.ref D) ∧ ∀ c C, Tbl.C c = some C → PySem.W.kitOne K (.ref C) (.ref D) = some (subC c d))
  (cts : ∀ f y, M.ct f = some y → CtOk M Pr K mg f y) (mts : ∀ c m f, (c, m, f) ∈ M.mt → MtOk M Pr K c m f) (n : Nat) (cth : ∀ f y, M.ch f = some y → CtOkH M Pr K mg f y := by intro f y h; exact nomatch (show (none : Option Str) = some y from h)) (hlm : ∀ N f es sc e, M.lm N f es sc e = false := by intros; rfl) (lmok : ∀ f ps bd sc, Tbl.L f ps bd sc = true → lmB M Pr f ps bd sc = true := by intro f ps bd sc h; exact nomatch (show false = true from h)) : Facts M (Pr.tab n) P w K mg base (2 * n) := by
 have lenD : ∀ {n : Nat} {N ps : List Str} {d : SD} {st : Stmt} {vs : List Val} {v : Val}, chkD M N ps d st = true → runD (Pr.tab n) d vs = .ok v → vs.length = ps.length := fun {n N ps d st vs v} hc h => by
  unfold runD at h
  split at h
  ·rename_i hl
   unfold chkD chkDr at hc
   simp only [Bool.and_eq_true] at hc
   rw [hl]; exact of_decide_eq_true hc.1.1.2
  ·cases h
 have lenH : ∀ {n : Nat} {N ps : List Str} {d : HD} {st : Stmt} {vs : List HV} {hp : HHp} {q : HV × HHp}, chkHD M N ps d st = true → runH (Pr.tab n) d vs hp = .ok q → vs.length = ps.length := fun {n N ps d st vs hp q} hc h => by
  unfold runH at h
  split at h
  ·rename_i hl
   unfold chkHD at hc
   simp only [Bool.and_eq_true] at hc
   rw [hl]; exact of_decide_eq_true hc.1.1.2
  ·cases h
 induction n using Nat.strongRecOn with
 | _ n ihs =>
 cases n with
 | zero =>
  have no : ∀ f vs v, (Pr.tab 0).C f vs = .ok v → False := fun f vs v h => by simp only [callP, calls] at h; cases h
  refine ⟨fun f x hf => ?_, hw, gls, bis, fun f x hf => ?_, ⟨cls, iss, fun f y hf => ?_, fun c m f hm => ?_, fun f y hf => ?_, fun f ps bd sc hL q => ?_⟩⟩
  ·have ok : ∀ {st : Stmt} {fa : Addr} {fd : FuncData} (ps : List Str), Fun K x x st fa fd → mg x = some (.ref fa) → Binds K fd ps [] → ∃ fa fd ps, mg x = some (.ref fa) ∧ PySem.W.keepIn K (.ref fa) = true ∧ Binds K fd ps [] ∧ FnOk P w K mg base CX0 (2 * 0) fa fd ps (spC K ps.length ((Pr.tab 0).C f)) ∧
    (∀ vs v, (Pr.tab 0).C f vs = .ok v → vs.length = ps.length) ∧ (M.fr f = true → FnOk P w K mg base CX0 (2 * 0) fa fd ps (spF K ps.length ((Pr.tab 0).C f))) := fun {st fa fd} ps F m b =>
    ⟨fa, fd, ps, m, F.kp, b, ⟨fun vs H Q E ⟨O, as, r, _, _, _, e, _⟩ => (no _ _ _ e).elim, fun A outer s H args us vs Q E _ _ _ _ ⟨O, as, r, _, _, _, e, _⟩ => (no _ _ _ e).elim⟩, fun vs v h => (no _ _ _ h).elim,
    fun _ => ⟨fun vs H Q E ⟨O, as, r, _, _, _, e, _⟩ => (no _ _ _ e).elim, fun A outer s H args us vs Q E _ _ _ _ ⟨O, as, r, _, _, _, e, _⟩ => (no _ _ _ e).elim⟩⟩
   rcases defs f x hf with hd | hd
   ·obtain ⟨N, ps, st, fa, fd, F, m, b, _⟩ := hd.ex
    exact ok ps F m b
   ·obtain ⟨ps, st, fa, fd, d, F, m, b, _⟩ := hd.ex
    exact ok ps F m b
  ·obtain ⟨N, ps, d, st, fa, fd, _, F, m, b, _⟩ := (defsH f x hf).ex
   have no : ∀ vs h q, (Pr.tab 0).H f vs h = .ok q → False := fun vs h q e => by simp only [callH, calls] at e; cases e
   exact ⟨fa, fd, ps, m, F.kp, b, ⟨fun vs H Q E ⟨O, φ, h, as, q, _, _, _, e, _⟩ => (no _ _ _ e).elim, fun A outer s H args us vs Q E _ _ _ _ ⟨O, φ, h, as, q, _, _, _, e, _⟩ => (no _ _ _ e).elim⟩, fun vs h q e => (no _ _ _ e).elim⟩
  ·obtain ⟨C, m, _⟩ := (cts f y hf).ex
   exact ⟨C, m, .inl (no f)⟩
  ·obtain ⟨C, N, ps, d, qual, st, fa, fd, hC, hM, b, F, hF, hc⟩ := (mts c m f hm).ex
   exact ⟨C, fa, fd, ps, hC, hM, b, ⟨fun vs H Q E ⟨O, as, r, _, _, _, e, _⟩ => (no _ _ _ e).elim, fun A outer s H args us vs Q E _ _ _ _ ⟨O, as, r, _, _, _, e, _⟩ => (no _ _ _ e).elim⟩, fun vs v h => (no _ _ _ h).elim⟩
  ·obtain ⟨C, c, N, ps, np, fs, es, qual, st, fi, fd, m, _⟩ := (cth f y hf).ex
   exact ⟨C, m, .inl fun vs h q e => by simp only [callH, calls] at e; cases e⟩
  ·exact lm_zero
 | succ n =>
  have ih := ihs n (Nat.lt_succ_self n)
  refine ⟨fun f x hf => ?_, hw, gls, bis, fun f x hf => ?_, ⟨cls, iss, fun f y hf => ?_, fun c m f hm => ?_, fun f y hf => ?_, fun f ps bd sc hL q => ?_⟩⟩
  ·rcases defs f x hf with hdef | hdef
   rotate_left
   ·obtain ⟨ps, st, fa, fd, d, F, m, b, hF, hnf, hnp, hok⟩ := hdef.ex
    have e : (Pr.tab (n + 1)).C f = runD (Pr.tab n) d := by funext args; exact callP_succ Pr n f args hF
    refine ⟨fa, fd, ps, m, F.kp, b, ?_, fun vs v h => ?_, fun hfr => ?_⟩
    ·rw [e]; exact (hok n fun k hk => ihs k (by omega)).mono (by omega)
    ·rw [e] at h
     unfold runD at h
     split at h
     ·rename_i hl
      rw [hl]; exact hnp
     ·cases h
    ·rw [hnf] at hfr; cases hfr
   obtain ⟨N, ps, st, fa, fd, F, m, b, hd⟩ := hdef.ex
   rcases hd with ⟨d, hF, hc, hcf⟩ | ⟨d, hF, hH, hc, hnf⟩
   ·have e : (Pr.tab (n + 1)).C f = runD (Pr.tab n) d := by funext args; exact callP_succ Pr n f args hF
    refine ⟨fa, fd, ps, m, F.kp, b, ?_, fun vs v h => ?_, fun hfr => ?_⟩
    ·rw [e]; exact (fn_ok F hc ih hlm).mono (by omega)
    ·rw [e] at h; exact lenD hc h
    ·rw [e]; exact (fn_okF F (hcf hfr) ih hlm).mono (by omega)
   ·have e : (Pr.tab (n + 1)).C f = pureH (runH (Pr.tab n) d) := by funext args; exact callP_heap Pr n f args hF hH
    refine ⟨fa, fd, ps, m, F.kp, b, ?_, fun vs v h => ?_, fun hfr => ?_⟩
    ·rw [e]; exact (FnOk.imp (fnH_ok F hc ih hlm) sp_pure).mono (by omega)
    ·rw [e] at h
     unfold pureH at h
     obtain ⟨q1, e1, _⟩ := bok h
     have := lenH hc e1
     simpa using this
    ·rw [hnf] at hfr; cases hfr
  ·obtain ⟨N, ps, d, st, fa, fd, hH, F, m, b, hc⟩ := (defsH f x hf).ex
   have e : (Pr.tab (n + 1)).H f = runH (Pr.tab n) d := by funext args; funext hp; exact callH_succ Pr n f args hp hH
   refine ⟨fa, fd, ps, m, F.kp, b, ?_, fun vs hp q h => ?_⟩
   ·rw [e]; exact (fnH_ok F hc ih hlm).mono (by omega)
   ·rw [e] at h; exact lenH hc h
  ·obtain ⟨C, m, h⟩ := (cts f y hf).ex
   refine ⟨C, m, ?_⟩
   rcases h with ⟨c, N, ps, np, fs, es, qual, st, fi, fd, hC, hM, b, F, hp, hF, hd⟩ | ⟨B, c, hC, hF⟩
   ·have e : (Pr.tab (n + 1)).C f = runD (Pr.tab n) ⟨np + 1, N.length, .cons (.ret [] (.mk c fs es)) .nil⟩ := by funext args; exact callP_succ Pr n f args hF
    refine .inr (.inl ⟨fi, fd, ps, np, 2 * n + 1, by omega, hp, hM, b, ?_, fun vs v h => ?_⟩)
    ·rw [e]; exact fnI_ok F hd hp ih hC hlm
    ·rw [e] at h
     unfold runD at h
     split at h
     ·rename_i hl
      exact hl
     ·cases h
   ·have e : (Pr.tab (n + 1)).C f = runD (Pr.tab n) ⟨1, 1, .cons (.ret [] (.mk c [] .nil)) .nil⟩ := by funext args; exact callP_succ Pr n f args hF
    refine .inr (.inr ⟨B, c, hC, fun vs v h => ?_⟩)
    rw [e] at h
    unfold runD at h
    split at h
    ·rename_i hl
     obtain ⟨qq, h5, h⟩ := bok h
     simp only [exs, ex] at h5
     obtain ⟨fl, h6, h5⟩ := bok h5
     obtain ⟨u, h7, h6⟩ := bok h6
     cases h6
     simp only at h5
     cases h5
     simp only at h
     cases h
     simp only [ev, evs] at h7
     obtain ⟨ws, h8, h9⟩ := bok h7
     cases h8
     cases h9
     exact ⟨by simpa using hl, rfl⟩
    ·cases h
  ·obtain ⟨C, N, ps, d, qual, st, fa, fd, hC, hM, b, F, hF, hc⟩ := (mts c m f hm).ex
   have e : (Pr.tab (n + 1)).C f = runD (Pr.tab n) d := by funext args; exact callP_succ Pr n f args hF
   refine ⟨C, fa, fd, ps, hC, hM, b, ?_, fun vs v h => ?_⟩
   ·rw [e]; exact (fn_ok F hc ih hlm).mono (by omega)
   ·rw [e] at h; exact lenD hc h
  ·obtain ⟨C, c, N, ps, np, fs, es, qual, st, fi, fd, m, hC, hM, b, F, hp, hH, hd⟩ := (cth f y hf).ex
   have e : (Pr.tab (n + 1)).H f = runH (Pr.tab n) ⟨np + 1, N.length, .cons (.ret (.mk c fs es)) .nil⟩ := by funext args; funext hp; exact callH_succ Pr n f args hp hH
   refine ⟨C, m, .inr ⟨fi, fd, ps, np, 2 * n + 1, by omega, hp, hM, b, ?_, fun vs h q g => ?_⟩⟩
   ·rw [e]; exact fnIH_ok F hd hp ih hC hlm
   ·rw [e] at g
    unfold runH at g
    split at g
    ·rename_i hl
     exact hl
    ·cases g
  ·exact (lm_succ (lmok f ps bd sc hL) ih hlm).mono (by omega)
end
end VM
set_option maxHeartbeats 4000000
namespace VM
open PySem PySem.Spec PyProof.Rows L2
variable [Tbl]
structure Lam1 (made inner : Scope) (p : Str) : Prop where
 kind : inner.kind = .function
 co : inner.isCoroutine = false
 gen : inner.isGenerator = false
 par : inner.names.lookup p = some .local
 own : ∀ n ∈ inner.names, (n.2 = .local → n.1 = p) ∧ n.2 ≠ .cell
 free : ∀ n ∈ inner.names, n.2 = .free → made.names.lookup n.1 = some .cell ∨ made.names.lookup n.1 = some .free
def lam1B (sc scope : Scope) (p : Str) : Bool :=
 decide (scope.kind = .function) && !scope.isCoroutine && !scope.isGenerator && decide (scope.names.lookup p = some .local) && scope.names.all fun y => (!decide (y.2 = .local) || decide (y.1 = p)) && !decide (y.2 = .cell) && (!decide (y.2 = .free) || decide (sc.names.lookup y.1 = some .cell) || decide (sc.names.lookup y.1 = some .free))
theorem lam1_by {sc scope : Scope} {p : Str} (h : lam1B sc scope p = true) : Lam1 sc scope p := by
 unfold lam1B at h
 simp only [Bool.and_eq_true, Bool.or_eq_true, List.all_eq_true, Bool.not_eq_true', decide_eq_false_iff_not, decide_eq_true_eq] at h
 obtain ⟨⟨⟨⟨h1, h2⟩, h3⟩, h4⟩, h5⟩ := h
 refine ⟨h1, h2, h3, h4, fun y hy => ⟨fun e => ?_, (h5 y hy).1.2⟩, fun y hy e => ?_⟩
 ·rcases (h5 y hy).1.1 with z | z
  ·exact absurd e z
  ·exact z
 ·rcases (h5 y hy).2 with (z | z) | z
  ·exact absurd e z
  ·exact .inl z
  ·exact .inr z
theorem Lam1.has {X : Cx} {scope : Scope} {p : Str} (L : Lam1 X.env.scope scope p) (ok : X.Ok) : ∀ y ∈ scope.names, y.2 = .free → ∃ c, X.env.cells.lookup y.1 = some c := fun y hy e => by
 exact (L.free y hy e).elim (fun k => ok.has _ (.inl k)) fun k => ok.has _ (.inr k)
def lamCx1 (X : Cx) (A : Around) (outer : List Env) (s : Shared) (H : Hp) (scope : Scope) (f c' : Addr) (p : Str) : Cx where
 prog := X.prog
 w := X.w
 K := X.K
 mg := X.mg
 base := X.base
 A := A.deeper (LamX.lamEnv X scope s.heap.objs.size f c')
 N := X.N ++ [p]
 s_0 := s
 H_0 := H
 env := LamX.lamEnv X scope s.heap.objs.size f c'
 outer := outer
 stack := LamX.lamEnv X scope s.heap.objs.size f c' :: outer
 ex := []
 fn := fun _ => false
 calm := true
 pn := []
 xe := fun e s' => wpAny (model X.prog X.w) (A.deeper (LamX.lamEnv X scope s.heap.objs.size f c')) (leaving (LamX.lamEnv X scope s.heap.objs.size f c') e) (fun _ _ => False) (fun _ _ => False) s'
section
variable {X : Cx} {pins : List (Addr × Obj)} {σ : L2.St} {H HZ : Hp} {s s1 : Shared}
theorem lam_start3 {A : Around} {outer : List Env} {scope : Scope} {f c' : Addr} {hN : Heap} {tk : Nat} {p : Str} {v0 : V} {u0 : Value} (I : Inv X pins σ H s) (L : Lam1 X.env.scope scope p) (hp : p ∉ X.N) (e0 : Env0 X.prog X.w X.K X.mg X.base A outer s1 HZ)
  (hd : A.handled = none) (un : Un (frs X.stack) [] H HZ s.heap s1.heap) (hns : hN.Ns s1.heap.objs.size fun y => ([(p, u0)] : List (Str × Value)).reverse.lookup y) (kp : ∀ b o, s1.heap.get? b = some o → hN.get? b = some o) (rv : L2.RelV v0 u0) :
  Inv (lamCx1 X A outer s1 HZ scope f c' p) [] (σ ++ [some v0]) HZ { s1 with heap := hN, toks := tk } := by
 have caught := L.has I.ok
 -- a cell that the lambda has is the maker's
 have toX : ∀ {nm cc}, (cloFrom X.env.cells scope.names []).lookup nm = some cc → X.env.cells.lookup nm = some cc := by
  intro nm cc hc
  rcases cloFrom_mem (PySem.mem_of_lookup hc) with bad | ⟨fr, eq⟩
  ·cases bad
  ·obtain ⟨own, ho⟩ := caught _ fr rfl
   have ho : X.env.cells.lookup nm = some own := ho
   have same : cc = own := by
    rw [eq, ho] <;> rfl
   rw [same]; exact ho
 have cap : ∀ {nm}, scope.names.lookup nm = some .free → ∃ cc, (cloFrom X.env.cells scope.names []).lookup nm = some cc := by
  intro nm hfree
  exact mem_lookup (cloFrom_has (cells := X.env.cells) (acc := []) (show (nm, NameKind.free) ∈ scope.names from PySem.mem_of_lookup hfree))
 have cellStay : ∀ {cc : Addr} {z : Option Value}, H cc = none → s.heap.IsCell cc z → hN.IsCell cc z := by
  rintro cc z nn ⟨ob, at1, dt⟩
  obtain ⟨slots', at2⟩ := un.any at1 nn (by simp)
  exact ⟨_, kp _ _ at2, dt⟩
 have noEx : ∀ b : Addr, b ∉ (lamCx1 X A outer s1 HZ scope f c' p).ex := fun b z => by cases z
 have okc : (lamCx1 X A outer s1 HZ scope f c' p).Ok := by
  refine { mod := e0.mod, kind := L.kind, glob := rfl, blt := rfl, above := Nat.le_refl _, inj := ?_, has := ?_, cab := ?_, hd := fun _ => hd, frames := Around.frames_deeper e0.frames, stk := .inr ⟨rfl, rfl⟩, exf := ?_, bs := e0.bs, bsz := e0.bsz, noex := ?_, exfs := ?_, funs := e0.funs, frf := e0.frf }
  ·exact fun m1 m2 cc q1 q2 => I.ok.inj m1 m2 cc (toX q1) (toX q2)
  ·intro nm hk
   rcases (show scope.names.lookup nm = some .cell ∨ scope.names.lookup nm = some .free from hk) with hk | hk
   ·exact absurd rfl (L.own (nm, NameKind.cell) (PySem.mem_of_lookup hk)).2
   ·exact cap hk
  ·exact fun _ _ z _ => by cases z
  ·exact fun b z => absurd z (noEx b)
  ·exact fun b _ _ => noEx b
  ·exact fun b z => absurd z (noEx b)
 refine { ok := okc, os := rfl, bare := e0.bare, base := Un.kept kp, loc := ⟨_, hns, ?_⟩, cell := ?_, free := e0.hok.fresh (Nat.le_refl _), freeC := ?_, pin := (fun _ z => nomatch z), hok := e0.hok.kept kp, len := ?_ }
 ·intro i nm v q1 q2 q3
  have q1 : (X.N ++ [p])[i]? = some nm := q1
  have q3 : Vis scope nm := q3
  by_cases hi : i < X.N.length
  ·rw [List.getElem?_append_left hi] at q1
   rw [List.getElem?_append_left (by rw [I.len]; exact hi)] at q2
   rcases q3 with kl | kc | kf
   ·have isP : nm = p := (L.own _ (PySem.mem_of_lookup kl)).1 rfl
    exact absurd (List.mem_of_getElem? q1) (by rw [isP]; exact hp)
   ·exact absurd rfl (L.own (nm, NameKind.cell) (PySem.mem_of_lookup kc)).2
   ·obtain ⟨m, _, told⟩ := I.loc
    have kk := L.free (nm, NameKind.free) (PySem.mem_of_lookup kf) rfl
    obtain ⟨u, ru, where_⟩ := told i nm v q1 q2 (kk.elim (fun z => .inr (.inl z)) (fun z => .inr (.inr z)))
    obtain ⟨cc, hc⟩ := cap kf
    refine ⟨u, ru, .inr ⟨.inr kf, cc, hc, ?_⟩⟩
    have inX := toX hc
    rcases where_ with ⟨loc', _⟩ | ⟨_, cc3, hc3, isC⟩
    ·have loc' : X.env.scope.names.lookup nm = some .local := loc'
     rcases kk with z | z <;> rw [show X.env.scope.names.lookup nm = _ from z] at loc' <;> cases loc'
    ·rw [inX] at hc3
     cases hc3
     exact cellStay (I.freeC nm _ inX) isC
  ·rw [List.getElem?_append_right (by omega)] at q1
   have last : i - X.N.length = 0 := by
    cases q : i - X.N.length with
    | zero => rfl
    | succ k => rw [q] at q1; simp at q1
   rw [last] at q1
   have isP : p = nm := Option.some.inj q1
   rw [List.getElem?_append_right (by rw [I.len]; omega), I.len, last] at q2
   have isV : some v0 = some v := Option.some.inj q2
   cases isV
   subst isP
   exact ⟨u0, rv, .inl ⟨L.par, by
    show ([(p, u0)] : List (Str × Value)).reverse.lookup p = some u0
    simp [List.lookup]⟩⟩
 ·intro nm cc hc
  obtain ⟨z, isC⟩ := I.cell nm cc (toX hc)
  exact ⟨z, cellStay (I.freeC nm cc (toX hc)) isC⟩
 ·intro nm cc hc
  obtain ⟨z, ob, at1, _⟩ := I.cell nm cc (toX hc)
  exact un.free cc ob at1 (I.freeC nm cc (toX hc)) (by simp)
 ·show (σ ++ [some v0]).length = (X.N ++ [p]).length
  rw [List.length_append, List.length_append, I.len]; rfl
structure LamAt (X : Cx) (pins : List (Addr × Obj)) (σ : L2.St) (H : Hp) (s : Shared) (f c' : Addr) (params : Arguments) (body : Expr) (scope : Scope) (p : Str) : Prop where
 inv : Inv X pins σ H s
 sc : Lam1 X.env.scope scope p
 par : p ∉ X.N
 obj : ∃ pm ctv, s.heap.get? f = some (PySem.W.kla_obj "<lambda>" (X.env.qual ++ "<lambda>") params body scope (cloFrom X.env.cells scope.names []) pm c' ctv)
 none : H f = none
 out : f ∉ frs X.stack
 bind : ∀ (u : Value) (q : Str) (cl : List (Str × Addr)) (pm cv ctv : Value), bindArgs (PySem.W.kla_fn "<lambda>" q params body scope cl pm cv ctv) ⟨[u], []⟩ = pure [(p, u)]
abbrev codeL (X : Cx) (c' : Addr) : HO := LamX.CodeO c' (X.env.qual ++ "<lambda>")
abbrev lamZ (X : Cx) (Ng : List Str) (qg : Str) (sg : Scope) (g : Addr) (cdg : Value) (s : Shared) (H : Hp) (E : XK) : Cx := (cxOf CX0 X.prog X.w X.K X.mg X.base Ng qg sg g cdg X.A X.stack s H E).nox
theorem pe_act1 {Ng : List Str} {qg : Str} {sg : Scope} {g f c' : Addr} {cdg : Value} {params : Arguments} {body e : Expr} {scope : Scope} {k i : Nat} {a p : Str} {te tb : TE} {p1 p2 : Pos} {E : XK}
  (M : LamAt X pins σ H s f c' params body scope p) (hr : Room (k + 1) (X.A.deeper (envOfC qg sg s.heap.objs.size g cdg)))
  (hbody : ∀ (A : Around) (outer : List Env) (s1 : Shared) (H1 : Hp), Room k (A.deeper (LamX.lamEnv X scope s1.heap.objs.size f c')) → PE (lamCx1 X A outer s1 H1 scope f c' p) body tb)
  (hN : Ng[i]? = some a) (hv : Vis sg a) (he : PE (lamZ X Ng qg sg g cdg s H E) e te) (hn : nst e = true) (hd : (a == ("__debug__" : Str)) = false := by decide) (hcd : (a == ("__classdict__" : Str)) = false := by decide) :
  PE (lamZ X Ng qg sg g cdg s H E) (.Call (.Name a p1) [e] [] p2)
   (fun σZ HZ Q => σZ[i]? = some (some (.ref f)) ∧ te σZ HZ fun v HY => HY c' = some (codeL X c') ∧ tb (σ ++ [some v]) HY Q) := by
 obtain ⟨I, L, hp, ⟨pm, ctv, hf⟩, hfn, hfr, hbind⟩ := M
 refine ⟨fun pinsZ sZ σZ HZ Q IZ hpre => ?_⟩
 obtain ⟨hs, ht⟩ := hpre
 refine wpAny_Call_Name_kw (thn ((pe_var (pos := p1) (i := i) hN hv hd hcd).run pinsZ sZ σZ HZ (fun x HY => x = .ref f ∧ HY = HZ) IZ ⟨.ref f, hs, rfl, rfl⟩) fun fv s1 ⟨x, HY, I1, rx, isF, isH⟩ => ?_)
 subst isF
 rw [isH] at I1
 obtain rfl : fv = Value.ref f := rx
 have at_ : ∀ {pinsY σY HY sY}, Inv (lamZ X Ng qg sg g cdg s H E) pinsY σY HY sY → sY.heap.get? f = some (PySem.W.kla_obj "<lambda>" (X.env.qual ++ "<lambda>") params body scope (cloFrom X.env.cells scope.names []) pm c' ctv) :=
  fun IY => IY.base.keep f _ hf hfn hfr (fun z => nomatch (show f ∈ ([] : List Addr) from z))
 refine PySem.W.callWith_F (first := []) ⟨_, _, _, _, at_ I1⟩ (thn ((pa_cons he pa_nil (star_cons hn)).run p2 pinsZ s1 σZ HZ (fun vs HY => match vs with | [v] => HY c' = some (codeL X c') ∧ tb (σ ++ [some v]) HY Q | _ => False) I1 ht) fun us s2 ⟨vs, H2, I2, r, h1⟩ => ⟨⟨_, _, _, _, at_ I2⟩, ?_⟩) (star_cons hn) rfl
 refine match vs, us, r, h1 with
  | [v], _, .cons (b := u) rv .nil, h1 => ?_
 obtain ⟨hc, hb⟩ := h1
 show wpAny _ _ (call (.ref f) [u]) _ _ _
 have of2 := at_ I2
 have un : Un (frs X.stack) [] H H2 s.heap s2.heap := I2.base
 obtain ⟨⟨oc, vs', t, hoc, hdc, hvc⟩, _, _⟩ := I2.hok c' _ hc
 have rc : codeAny (model X.prog X.w) (X.A.deeper (envOfC qg sg s.heap.objs.size g cdg)) (.call (.ref f) ⟨[u], []⟩) (CR CX0 (envOfC qg sg s.heap.objs.size g cdg :: X.stack) X.prog X.w H2 s2 Q E) s2 := by
  refine PySem.W.kla_callFunE hr.depth of2 rfl L.co L.gen rfl ⟨c', oc, vs', t, rfl, hoc, hdc, hvc⟩ ?_
  rw [hbind]
  refine wpAny_pure (wpAny_newFunctionEnv (fun y hy => (L.own y hy).2) (fun y hy => by
   rw [List.mem_singleton] at hy; subst hy; exact L.par) (fun h₁ hns hsb => ⟨I2.nolimit.fresh _ hsb, ?_⟩) L.kind)
  show codeAny _ _ (.expr body (LamX.lamEnv X scope s2.heap.objs.size f c')) _ _
  have kp : ∀ b o, s2.heap.get? b = some o → h₁.get? b = some o := fun b o e => hsb.extBut b o (Nat.ne_of_lt (Heap.lt_size e)) (Heap.get?_push_of_some _ e)
  have J : Inv (lamCx1 X (X.A.deeper (envOfC qg sg s.heap.objs.size g cdg)) (envOfC qg sg s.heap.objs.size g cdg :: X.stack) s2 H2 scope f c' p) [] (σ ++ [some v]) H2 { s2 with heap := h₁, toks := s2.toks + ([(p, u)] : List (Str × Value)).length } :=
   lam_start3 I L hp I2.env0 hr.hd un hns kp rv
  refine PySem.W.kla_codeExpr (wpAny_mono ((hbody _ _ s2 H2 (hr.deeper _)).run [] _ _ H2 Q J hb) (fun v s' hq => ?_) fun e s' hq => ?_)
  ·obtain ⟨res, HE, JE, rr, qq⟩ := hq
   exact ⟨res, HE, JE.os, JE.bare, JE.base, JE.hok, rr, qq⟩
  ·exact wpAny_mono hq (fun _ _ z => z.elim) (fun _ _ z => z.elim)
 refine wpAny_call (codeAny_mono rc fun res sE hq => ?_)
 cases res with
 | error _ => exact (show False from hq).elim
 | ok fl =>
  cases fl with
  | ret u => exact I2.after hq
  | next => exact False.elim hq
  | brk => exact False.elim hq
  | cont => exact False.elim hq
theorem lam_make3 {c P : Addr} {params : Arguments} {body : Expr} {scope : Scope} {pos : Pos} {E : Value → Shared → Prop} {Q : Value → Shared → Prop} (I : Inv X pins σ H s) (B : LamX.TabB X.base X.mg c P) (hc : X.env.code = .ref c)
  (hm : (P, X.env.qual ++ "<lambda>") ∈ Tbl.T) (hu : ∀ p ∈ Tbl.T, p.1 = P → p.2 = X.env.qual ++ "<lambda>") (tt : LamX.Tabs Tbl.T H) (hd : defaultsOf params X.env = ([], [])) (hf : ∀ y ∈ scope.names, y.2 = .free → ∃ c, X.env.cells.lookup y.1 = some c)
  (k : ∀ (f c' : Addr) (pm ctv : Value) (H1 : Hp) (s' : Shared), Inv X pins σ H1 s' → Ext H H1 → H1 f = none → f ∉ frs X.stack → H1 c' = some (codeL X c') →
   s'.heap.get? f = some (PySem.W.kla_obj "<lambda>" (X.env.qual ++ "<lambda>") params body scope (cloFrom X.env.cells scope.names []) pm c' ctv) → Q (.ref f) s') :
  wpAny (model X.prog X.w) X.A
   (eval (.Lambda params body scope pos) X.env) Q E s := by
 obtain ⟨ps, atP, tri, codes⟩ := tt _ hm
 have tabP : s.heap.get? P = some { cls := .none, data := .fields ps } := I.hok P _ atP
 have outF : ∀ a, s.heap.objs.size ≤ a → a ∉ frs X.stack := fun a ha z => (List.mem_cons.mp (I.stkSub _ z)).elim (fun e => by
  rw [e] at ha
  exact Nat.lt_irrefl _ (Nat.lt_of_lt_of_le I.lt ha)) (I.nofs ha)
 have blt := B.bm.keeps I.bk
 have glo := I.mod.glob.keeps I.bk
 have cod := B.code.keeps I.bk
 apply PySem.W.kla_eval hd
 cases q : codeAmong pos ps.toList with
 | some cv =>
  obtain ⟨c', rfl, known⟩ := codes pos cv q
  apply PySem.W.kla_makeFunctionHit (closure_ok hf) I.ok.glob glo hc cod tabP tri q blt
  intro ctv h' tk kp big
  exact k _ c' _ ctv H _ (I.kept fun b o e => Heap.get?_push_of_some _ (kp b o e)) Ext.refl (I.hok.fresh big) (outF _ big) known (Heap.get?_push_size _ rfl)
 | none =>
  apply PySem.W.kla_makeFunction (closure_ok hf) I.ok.glob glo hc cod tabP tri q B.gP blt
  intro c' ctv h' tk kp big lt rec_ tab'
  obtain ⟨_, oc, vs, t, e2, at1, at2, at3⟩ := rec_
  cases e2
  have newC : H c' = none := I.hok.fresh big
  have bigF : s.heap.objs.size ≤ h'.objs.size := Nat.le_trans big (Nat.le_of_lt lt)
  have neP : P ≠ c' := ne_of_none atP newC
  have J := LamX.inv_table (q := X.env.qual ++ "<lambda>") (t' := tk) (more := #[rawInt pos.line, rawInt pos.col, .ref c']) (h' := h'.push (PySem.W.kla_obj "<lambda>" (X.env.qual ++ "<lambda>") params body scope (cloFrom X.env.cells scope.names []) ((X.mg "__name__").getD .none) c' ctv))
   I atP (fun b o hb e => Heap.get?_push_of_some _ (kp b o hb e)) (Heap.get?_push_of_some _ tab') big ⟨oc, vs, t, Heap.get?_push_of_some _ at1, at2, at3⟩
  have vis' : ∀ a o, H a = some o → NT o → upd (upd H P (.tbl (ps ++ #[rawInt pos.line, rawInt pos.col, .ref c']))) c' (codeL X c') a = some o := fun a o e nt => by
   have n1 : a ≠ c' := ne_of_none e newC
   have n2 : a ≠ P := fun z => by
    rw [z, atP] at e
    rw [← Option.some.inj e] at nt
    exact nt
   rw [upd_ne n1, upd_ne n2]
   exact e
  refine k _ c' _ ctv _ _ J ⟨fun a o e nt => vis' a o e nt, fun a e => upd_nn (upd_nn e), fun _ p hp => ?_⟩ ?_ (outF _ bigF) upd_same (Heap.get?_push_size _ rfl)
  ·have inL : (ps ++ #[rawInt pos.line, rawInt pos.col, Value.ref c']).toList = ps.toList ++ [rawInt pos.line, rawInt pos.col, Value.ref c'] := by simp
   by_cases e : p.1 = P
   ·refine ⟨ps ++ #[rawInt pos.line, rawInt pos.col, .ref c'], ?_, ?_, fun p' cv h => ?_⟩
    ·rw [e, upd_ne neP]
     exact upd_same
    ·rw [inL]
     exact PySem.TriplesOk_snoc _ _ _ _ tri
    ·rw [hu p hp e]
     rw [inL] at h
     rcases LamX.among_app _ tri h with z | rfl
     ·obtain ⟨d, z1, z2⟩ := codes p' cv z
      exact ⟨d, z1, vis' _ _ z2 True.intro⟩
     ·exact ⟨c', rfl, upd_same⟩
   ·obtain ⟨qs, b1, b2, b3⟩ := tt p hp
    refine ⟨qs, ?_, b2, fun p' cv h => ?_⟩
    ·rw [upd_ne (ne_of_none b1 newC), upd_ne e]
     exact b1
    ·obtain ⟨d, z1, z2⟩ := b3 p' cv h
     exact ⟨d, z1, vis' _ _ z2 True.intro⟩
  ·have n1 : h'.objs.size ≠ c' := Nat.ne_of_gt lt
   have n2 : h'.objs.size ≠ P := Nat.ne_of_gt (Nat.lt_of_lt_of_le (Heap.lt_size tabP) bigF)
   refine (upd_ne n1).trans ((upd_ne n2).trans ?_)
   exact I.hok.fresh bigF
end
end VM
namespace VM
open PySem PySem.Spec PyProof.Rows L2
def lamL2 (T : Tab) (fg : Nat) (lam : Val → R Val) : List Val → Val → R Val
 | [], gain => .ok gain
 | g :: r, gain => do let m ← lam g; let x ← T.C fg [gain, m]; lamL2 T fg lam r x
def lamL1 (T : Tab) (fm fg fa : Nat) (kind : Val) (lam : Val → R Val) : List Val → Val → R Val
 | [], found => .ok found
 | gp :: r, found => do
  let mk ← T.C fm [gp, kind]
  let gs ← seqV gp
  let gain ← lamL2 T fg lam gs (.tup [mk, .int 1])
  let f2 ← T.C fa [found, gain]
  lamL1 T fm fg fa kind lam r f2
def lamSum (T : Tab) (gn fr fm fg fa : Nat) (kind many : Val) (lam : Val → R Val) : R Val := do
 let n ← ofO (T.G gn)
 let v ← T.C fr [many, kind]
 let gps ← seqV v
 lamL1 T fm fg fa kind lam gps n
section
variable [Tbl]
abbrev R7 (kv mv : Val) (fo gp ga gr : Option Val) : VE := [some kv, some mv, none, fo, gp, ga, gr]
structure SBI (K : PySem.W.Frag) (O : Hid) (H1 : Hp) (f : Addr) (σ : L2.St) (H : Hp) (ρ : VE) : Prop where
 wf : WF H O
 eo : EOk K H O σ ρ
 fn : σ[2]? = some (some (.ref f))
 ext : Ext H1 H
theorem SBI.later {K : PySem.W.Frag} {O : Hid} {H1 H H' : Hp} {f : Addr} {σ : L2.St} {ρ : VE} (h : SBI K O H1 f σ H ρ) (e : Ext H H') : SBI K O H1 f σ H' ρ :=
 ⟨h.wf.ext e, h.eo.ext h.wf e, h.fn, h.ext.trans e⟩
theorem SBI.put {K : PySem.W.Frag} {O : Hid} {H1 H : Hp} {f : Addr} {σ : L2.St} {ρ : VE} {i : Nat} {v : Val} {x : V} (h : SBI K O H1 f σ H ρ) (hi : i ≠ 2) (r : Rep K H O v x) : SBI K O H1 f (σ.set i (some x)) H (ρ.set i (some v)) :=
 ⟨h.wf, h.eo.set r, by rw [List.getElem?_set_ne hi]; exact h.fn, h.ext⟩
def LamOkS (K : PySem.W.Frag) (O : Hid) (H1 : Hp) (f c' : Addr) (q : HO) (tL : V → Hp → VK → Prop) (lam : Val → R Val) : Prop :=
 ∀ (H : Hp) (x : V) (g r : Val) (Q : VK), WF H O → Ext H1 H → Rep K H O g x → lam g = .ok r → Post K H O r Q → H c' = some q ∧ tL x H Q
def tMean (f c' : Addr) (q : HO) (tL : V → Hp → VK → Prop) : TE := fun σ H Q => σ[2]? = some (some (.ref f)) ∧ ∃ x, σ[6]? = some (some x) ∧ H c' = some q ∧ tL x H Q
section
variable {X : Cx} {n : Nat} {M : Nm} {T : Tab} {N : List Str} {O : Hid} {H1 : Hp} {f c' : Addr} {q : HO} {tL : V → Hp → VK → Prop} {lam : Val → R Val} {fr fm fg fa gn : Nat}
def tGain (K : PySem.W.Frag) (T : Tab) (O : Hid) (H1 : Hp) (f : Addr) (fg : Nat) (lam : Val → R Val) : TS := fun D σ H => ∃ kv mv fo gp ga g m r, SBI K O H1 f σ H (R7 kv mv fo gp (some ga) (some g)) ∧ lam g = .ok m ∧ T.C fg [ga, m] = .ok r ∧
 ∀ x H', Ext H H' → SBI K O H1 f (σ.set 5 (some x)) H' (R7 kv mv fo gp (some r) (some g)) → D.nx (σ.set 5 (some x)) H'
theorem ps_gain {p1 p2 p3 p4 p5 : Pos} {eM : Expr} {x5 xg : Str} (cx : Ctx X n M T N) (hok : LamOkS X.K O H1 f c' q tL lam) (hM : PE X eM (tMean f c' q tL)) (hnM : nst eM = true) (h5 : X.N[5]? = some x5) (v5 : Vis X.env.scope x5) (l5 : X.env.scope.names.lookup x5 = some .local) (d5 : dbg x5 = true)
  (hf : M.fn fg = some xg) (hg : Gl X xg) (hd : dbg xg = true) :
  PS X (.Assign [.Name x5 p1] (.Call (.Name xg p2) [.Name x5 p3, eM] [] p4) p5) (tGain X.K T O H1 f fg lam) := by
 obtain ⟨fa, fd, ps, m, kp, hb, F, hl, _⟩ := cx.facts.fns fg xg hf
 refine PS.imp (ps_set cx.nd h5 (.inl l5) (pe_call F cx.room hg m kp hb .nil pass0 (pa_cons (pe_var h5 v5 (dbg_1 d5) (dbg_2 d5)) (pa_cons hM pa_nil (star_cons hnM)) (star_cons rfl)) (dbg_1 hd) (star_cons rfl) (star_any (by simp [hnM]))) (noComp_sw rfl) (.inr l5)) (fun D σ H ⟨kv, mv, fo, gp, ga, g, m', r, hs, h1, h2, k⟩ => ?_)
 obtain ⟨x5v, e5, r5⟩ := hs.eo.get 5 ga rfl
 obtain ⟨x6v, e6, r6⟩ := hs.eo.get 6 g rfl
 refine ⟨x5v, e5, hs.fn, x6v, e6, hok H x6v g m' _ hs.wf hs.ext r6 h1 fun y H' e' ry => ?_⟩
 have hs' := hs.later e'
 refine ⟨O, [ga, m'], r, hs'.wf, ?_, hl _ _ h2, h2, fun z H2 e2 rz => ?_⟩
 ·exact Reps.cons (Rep.ext hs.wf e' r5) (Reps.cons ry Reps.nil)
 ·exact k z H2 (e'.trans e2) ((hs'.later e2).put (by decide) rz)
def tLoopG (K : PySem.W.Frag) (T : Tab) (O : Hid) (H1 : Hp) (f : Addr) (fg : Nat) (lam : Val → R Val) : TS := fun D σ H => ∃ kv mv fo gp ga gr gs gfin, SBI K O H1 f σ H (R7 kv mv fo (some gp) (some ga) gr) ∧ seqV gp = .ok gs ∧ lamL2 T fg lam gs ga = .ok gfin ∧
 ∀ σ' H' gr', Ext H H' → SBI K O H1 f σ' H' (R7 kv mv fo (some gp) (some gfin) gr') → D.nx σ' H'
theorem ps_loopG {st : Stmt} {tgE itE : Expr} {pos : Pos} (cx : Ctx X n M T N) (hp : PassesOwn (model X.prog X.w) X.A X.env X.xe) (hi : PI X tgE itE (tI X.K T (.seq 0#4))) (hg : PG X tgE (gR X.K 3#6)) (hb : PS X st (tGain X.K T O H1 f fg lam)) (hs : noSet itE = true) :
  PS X (.For tgE itE [st] [] pos) (tLoopG X.K T O H1 f fg lam) := by
 refine PS.imp (ps_for hp cx.calm hi hg (pss_one hb) (noSet_fold hs)) (fun D σ H ⟨kv, mv, fo, gp, ga, gr, gs, gfin, hs, h1, h2, k⟩ => ?_)
 refine ⟨O, _, gs, hs.wf, hs.eo, by show (do let x ← getE _ 4; seqV x) = _; exact h1, fun J HA eA hit => ?_⟩
 refine ⟨fun i m σ2 H2 => m = gs.length - i ∧ i ≤ gs.length ∧ ∃ ga2 gr2, SBI X.K O H1 f σ2 H2 (R7 kv mv fo (some gp) (some ga2) gr2) ∧ lamL2 T fg lam (gs.drop i) ga2 = .ok gfin ∧ Ext HA H2,
  ⟨gs.length, by omega, Nat.zero_le _, ga, gr, hs.later eA, by simpa using h2, Ext.refl⟩, ?_⟩
 rintro i m σ2 H2 ⟨rfl, hle, ga2, gr2, hs2, hgo, e2⟩
 obtain ⟨stop, go⟩ := hit i H2 O hs2.wf e2.keep
 by_cases hlt : i < gs.length
 ·obtain ⟨g0, y⟩ := go gs[i] (List.getElem?_eq_getElem hlt)
  rw [List.drop_eq_getElem_cons hlt] at hgo
  simp only [lamL2] at hgo
  obtain ⟨mm, hm, hgo⟩ := bok hgo
  obtain ⟨xx, hx, hgo⟩ := bok hgo
  refine .inr ⟨g0, fun σ' H' => i + 1 ≤ gs.length ∧ ∃ gr3, SBI X.K O H1 f σ' H' (R7 kv mv fo (some gp) (some xx) gr3) ∧ Ext HA H', fun σ' H' ⟨a, gr3, b, c⟩ => ⟨gs.length - (i + 1), by omega, rfl, a, xx, gr3, b, hgo, c⟩, fun x H3 hy => ?_⟩
  obtain ⟨e3, rx⟩ := y x H3 hy
  have hs3 := hs2.later e3
  refine ⟨O, gs[i], [(6, gs[i])], hs3.wf, rx, rfl, fun zs hz => ?_⟩
  simp only [List.map_cons, List.map_nil, Reps] at hz
  obtain ⟨z, _, rfl, rz, rfl⟩ := hz
  show tGain X.K T O H1 f fg lam _ (σ2.set 6 (some z)) H3
  exact ⟨kv, mv, fo, some gp, ga2, gs[i], mm, xx, hs3.put (by decide) rz, hm, hx, fun x' H' e' hs' => ⟨hlt, _, hs', (e2.trans e3).trans e'⟩⟩
 ·have hie : i = gs.length := by omega
  subst hie
  rw [List.drop_length] at hgo
  simp only [lamL2] at hgo
  cases hgo
  exact .inl ⟨stop (Nat.le_refl _), k σ2 H2 gr2 (eA.trans e2) hs2⟩
def tTurn (K : PySem.W.Frag) (T : Tab) (O : Hid) (H1 : Hp) (f : Addr) (fm fg fa : Nat) (lam : Val → R Val) : TS := fun D σ H => ∃ kv mv fo gp ga gr f2, SBI K O H1 f σ H (R7 kv mv (some fo) (some gp) ga gr) ∧
 (do let mk ← T.C fm [gp, kv]; let gs ← seqV gp; let gain ← lamL2 T fg lam gs (.tup [mk, .int 1]); T.C fa [fo, gain]) = .ok f2 ∧
 ∀ σ' H' ga' gr', Ext H H' → SBI K O H1 f σ' H' (R7 kv mv (some f2) (some gp) ga' gr') → D.nx σ' H'
theorem pss_turn {st2 : Stmt} {p1 p2 p3 p4 : Pos} {eT eA : Expr} {x3 x5 : Str} (cx : Ctx X n M T N) (nT : noComp eT = true) (nA : noComp eA = true) (hT : PE X eT (tE X.K T (.tup #v[.call fm #v[0#4, 0#0], 1#1]))) (h2 : PS X st2 (tLoopG X.K T O H1 f fg lam))
  (hA : PE X eA (tE X.K T (.call fa #v[0#3, 0#5]))) (h3 : X.N[3]? = some x3) (l3 : X.env.scope.names.lookup x3 = some .local) (h5 : X.N[5]? = some x5) (l5 : X.env.scope.names.lookup x5 = some .local) :
  PSs X [.Assign [.Name x5 p1] eT p2, st2, .Assign [.Name x3 p3] eA p4] (tTurn X.K T O H1 f fm fg fa lam) := by
 refine PSs.imp (pss_cons (ps_set cx.nd h5 (.inl l5) hT (noComp_sw nT) (.inr l5)) (pss_cons h2 (pss_one (ps_set cx.nd h3 (.inl l3) hA (noComp_sw nA) (.inr l3))))) (fun D σ H ⟨kv, mv, fo, gp, ga, gr, f2, hs, h, k⟩ => ?_)
 obtain ⟨mk, e1, h⟩ := bok h
 obtain ⟨gs, e2, h⟩ := bok h
 obtain ⟨gain, e3, h⟩ := bok h
 refine ⟨O, _, .tup [mk, .int 1], hs.wf, hs.eo, ?_, fun x H2 x2 r2 => ?_⟩
 ·simp only [ev, evs, getE]
  show ((T.C fm [gp, kv] >>= fun x => Except.ok [x, Val.int 1]) >>= fun vs => if vs.length ≤ lineN then Except.ok (Val.tup vs) else stk) = _
  rw [e1]; rfl
 have hs2 := (hs.later x2).put (i := 5) (by decide) r2
 refine ⟨kv, mv, some fo, gp, _, gr, gs, gain, hs2, e2, e3, fun σ3 H3 gr3 x3 hs3 => ?_⟩
 refine ⟨O, _, f2, hs3.wf, hs3.eo, ?_, fun y H4 x4 r4 => ?_⟩
 ·simp only [ev, evs, getE]; exact h
 exact k _ _ _ _ ((x2.trans x3).trans x4) ((hs3.later x4).put (by decide) r4)
end
end
end VM
namespace VM
open PySem PySem.Spec PyProof.Rows L2
section
variable [Tbl]
section
variable {X : Cx} {n : Nat} {M : Nm} {T : Tab} {N : List Str} {O : Hid} {H1 : Hp} {f c' : Addr} {q : HO} {tL : V → Hp → VK → Prop} {lam : Val → R Val} {fr fm fg fa gn : Nat}
def tOuter (K : PySem.W.Frag) (T : Tab) (O : Hid) (H1 : Hp) (f : Addr) (fr fm fg fa : Nat) (lam : Val → R Val) : TS := fun D σ H => ∃ kv mv fo gp ga gr v gps r, SBI K O H1 f σ H (R7 kv mv (some fo) gp ga gr) ∧ T.C fr [mv, kv] = .ok v ∧ seqV v = .ok gps ∧
 lamL1 T fm fg fa kv lam gps fo = .ok r ∧ ∀ σ' H' gp' ga' gr', Ext H H' → SBI K O H1 f σ' H' (R7 kv mv (some r) gp' ga' gr') → D.nx σ' H'
theorem ps_outer {sts : List Stmt} {tgE itE : Expr} {pos : Pos} (cx : Ctx X n M T N) (hp : PassesOwn (model X.prog X.w) X.A X.env X.xe) (hi : PI X tgE itE (tI X.K T (.seq (.call fr #v[0#1, 0#0])))) (hg : PG X tgE (gR X.K 3#4))
  (hb : PSs X sts (tTurn X.K T O H1 f fm fg fa lam)) (hs : noSet itE = true) : PS X (.For tgE itE sts [] pos) (tOuter X.K T O H1 f fr fm fg fa lam) := by
 refine PS.imp (ps_for hp cx.calm hi hg hb (noSet_fold hs)) (fun D σ H ⟨kv, mv, fo, gp, ga, gr, v, gps, r, hs, hv, h1, h2, k⟩ => ?_)
 refine ⟨O, _, gps, hs.wf, hs.eo, ?_, fun J HA eA hit => ?_⟩
 ·simp only [evI, ev, evs, getE]
  show (T.C fr [mv, kv] >>= seqV) = _
  rw [hv]; exact h1
 refine ⟨fun i m σ2 H2 => m = gps.length - i ∧ i ≤ gps.length ∧ ∃ fo2 gp2 ga2 gr2, SBI X.K O H1 f σ2 H2 (R7 kv mv (some fo2) gp2 ga2 gr2) ∧ lamL1 T fm fg fa kv lam (gps.drop i) fo2 = .ok r ∧ Ext HA H2,
  ⟨gps.length, by omega, Nat.zero_le _, fo, gp, ga, gr, hs.later eA, by simpa using h2, Ext.refl⟩, ?_⟩
 rintro i m σ2 H2 ⟨rfl, hle, fo2, gp2, ga2, gr2, hs2, hgo, e2⟩
 obtain ⟨stop, go⟩ := hit i H2 O hs2.wf e2.keep
 by_cases hlt : i < gps.length
 ·obtain ⟨g0, y⟩ := go gps[i] (List.getElem?_eq_getElem hlt)
  rw [List.drop_eq_getElem_cons hlt] at hgo
  simp only [lamL1] at hgo
  obtain ⟨mk, b1, hgo⟩ := bok hgo
  obtain ⟨gs, b2, hgo⟩ := bok hgo
  obtain ⟨gain, b3, hgo⟩ := bok hgo
  obtain ⟨f2, b4, hgo⟩ := bok hgo
  refine .inr ⟨g0, fun σ' H' => i + 1 ≤ gps.length ∧ ∃ gp3 ga3 gr3, SBI X.K O H1 f σ' H' (R7 kv mv (some f2) gp3 ga3 gr3) ∧ Ext HA H', fun σ' H' ⟨a, gp3, ga3, gr3, b, c⟩ => ⟨gps.length - (i + 1), by omega, rfl, a, f2, gp3, ga3, gr3, b, hgo, c⟩, fun x H3 hy => ?_⟩
  obtain ⟨e3, rx⟩ := y x H3 hy
  have hs3 := hs2.later e3
  refine ⟨O, gps[i], [(4, gps[i])], hs3.wf, rx, rfl, fun zs hz => ?_⟩
  simp only [List.map_cons, List.map_nil, Reps] at hz
  obtain ⟨z, _, rfl, rz, rfl⟩ := hz
  show tTurn X.K T O H1 f fm fg fa lam _ (σ2.set 4 (some z)) H3
  refine ⟨kv, mv, fo2, gps[i], ga2, gr2, f2, hs3.put (by decide) rz, ?_, fun σ' H' ga' gr' e' hs' => ⟨hlt, _, _, _, hs', (e2.trans e3).trans e'⟩⟩
  rw [b1]; show (seqV gps[i] >>= _) = _
  rw [b2]; show (lamL2 T fg lam gs (.tup [mk, .int 1]) >>= _) = _
  rw [b3]; exact b4
 ·have hie : i = gps.length := by omega
  subst hie
  rw [List.drop_length] at hgo
  simp only [lamL1] at hgo
  cases hgo
  exact .inl ⟨stop (Nat.le_refl _), k σ2 H2 _ _ _ (eA.trans e2) hs2⟩
def tSumBy (K : PySem.W.Frag) (T : Tab) (O : Hid) (H1 : Hp) (f : Addr) (gn fr fm fg fa : Nat) (lam : Val → R Val) : TS := fun D σ H => ∃ kv mv r, SBI K O H1 f σ H (R7 kv mv none none none none) ∧ lamSum T gn fr fm fg fa kv mv lam = .ok r ∧
 ∀ x H', Ext H H' → Rep K H' O r x → D.rt x H'
theorem pss_sumby {st2 : Stmt} {p1 p2 p3 p4 : Pos} {eN : Expr} {x3 : Str} (cx : Ctx X n M T N) (nN : noComp eN = true) (hN : PE X eN (tE X.K T (.glob gn))) (h2 : PS X st2 (tOuter X.K T O H1 f fr fm fg fa lam)) (h3 : X.N[3]? = some x3) (l3 : X.env.scope.names.lookup x3 = some .local) (d3 : dbg x3 = true) :
  PSs X [.Assign [.Name x3 p1] eN p2, st2, .Return (some (.Name x3 p3)) p4] (tSumBy X.K T O H1 f gn fr fm fg fa lam) := by
 refine PSs.imp (pss_cons (ps_set cx.nd h3 (.inl l3) hN (noComp_sw nN) (.inr l3)) (pss_cons h2 (pss_one (ps_ret (pe_var h3 (.inl l3) (dbg_1 d3) (dbg_2 d3)))))) (fun D σ H ⟨kv, mv, r, hs, h, k⟩ => ?_)
 unfold lamSum at h
 obtain ⟨nv, e1, h⟩ := bok h
 obtain ⟨v, e2, h⟩ := bok h
 obtain ⟨gps, e3, h⟩ := bok h
 refine ⟨O, _, nv, hs.wf, hs.eo, by simp only [ev]; exact e1, fun x H2 x2 r2 => ?_⟩
 have hs2 := (hs.later x2).put (i := 3) (by decide) r2
 refine ⟨kv, mv, nv, none, none, none, v, gps, r, hs2, e2, e3, h, fun σ3 H3 gp3 ga3 gr3 x3 hs3 => ?_⟩
 obtain ⟨y, e4, r4⟩ := hs3.eo.get 3 r rfl
 exact ⟨y, e4, k y H3 (x2.trans x3) r4⟩
end
def vLam (k : Nat) (t w g : Val) : VE := [some t, some w] ++ List.replicate k none ++ [some g]
theorem bindsTo_of {K : PySem.W.Frag} {fd : FuncData} {ps : List Str} (hb : Binds K fd ps []) {s : Shared} {us : List Value} (hk : K.In s.heap) (hl : us.length = ps.length) : BindsTo s fd ⟨us, []⟩ (ps.zip us) := by
 have b := hb s us hk (by rw [List.append_nil]; exact hl)
 rwa [List.append_nil] at b
section
variable {X : Cx} {k z : Nat} {M : Nm} {T T1 T0 : Tab} {NS Ng ps3 : List Str} {a0 a1 lbody eM : Expr} {s0 s1 seL : SE} {params : Arguments} {lscope : Scope} {lpos p1 pos : Pos} {xs p xm : Str} {g c P : Addr} {stg : Stmt} {fd : FuncData} {fsb gn fr fm fg fa : Nat}
theorem pe_sumby (cx : Ctx X (k + 2) M T NS) (h0 : PE X a0 (tE X.K T s0)) (n0 : nst a0 = true) (h1 : PE X a1 (tE X.K T s1)) (n1 : nst a1 = true) (hNS : NS.length = z + 2)
  (F : Fun X.K xs xs stg g fd) (hmg : X.mg xs = some (.ref g)) (hgl : Gl X xs) (hdx : dbg xs = true) (hb : Binds X.K fd ps3 []) (h3 : ps3.length = 3) (h7 : Ng.length = 7) (Sg : FnScope Ng ps3 (defScope stg))
  (hg : ∀ (f c' : Addr) (s : Shared) (H : Hp) (E : XK) (cdg : Value) (O : Hid) (lam : Val → R Val) (tL : V → Hp → VK → Prop), Room (k + 1) (X.A.deeper (envOfC xs (defScope stg) s.heap.objs.size g cdg)) → LamOkS X.K O H f c' (codeL X c') tL lam →
   PE (lamZ X Ng xs (defScope stg) g cdg s H E) eM (tMean f c' (codeL X c') tL) → PSs (lamZ X Ng xs (defScope stg) g cdg s H E) (defBody stg) (tSumBy X.K T1 O H f gn fr fm fg fa lam))
  {pm pg pq : Pos} {xg : Str} (hM : eM = .Call (.Name xm pm) [.Name xg pg] [] pq) (hm2 : Ng[2]? = some xm) (vm : Vis (defScope stg) xm) (dm : dbg xm = true) (hm6 : Ng[6]? = some xg) (vg : Vis (defScope stg) xg) (dg : dbg xg = true)
  (TB : LamX.TabB X.base X.mg c P) (hcode : X.env.code = .ref c) (hm : (P, X.env.qual ++ "<lambda>") ∈ Tbl.T) (hu : ∀ p ∈ Tbl.T, p.1 = P → p.2 = X.env.qual ++ "<lambda>") (L : Lam1 X.env.scope lscope p) (hpN : p ∉ X.N) (hdef : defaultsOf params X.env = ([], []))
  (hbind : ∀ (u : Value) (q : Str) (cl : List (Str × Addr)) (pm cv ctv : Value), bindArgs (PySem.W.kla_fn "<lambda>" q params lbody lscope cl pm cv ctv) ⟨[u], []⟩ = pure [(p, u)])
  (hlb : ∀ (A : Around) (outer : List Env) (s : Shared) (H : Hp) (f c' : Addr), Room k (A.deeper (LamX.lamEnv X lscope s.heap.objs.size f c')) → PE (lamCx1 X A outer s H lscope f c' p) lbody (tE X.K T0 seL))
  (hsb : ∀ kv mv t w r, T.C fsb [kv, mv, t, w] = .ok r → lamSum T1 gn fr fm fg fa kv mv (fun gv => ev T0 seL (vLam z t w gv)) = .ok r) :
  PE X (.Call (.Name xs p1) [a0, a1, .Lambda params lbody lscope lpos] [] pos) (tE X.K T (.call fsb #v[s0, s1, 0#0, 0#1])) := by
 refine ⟨fun pins s σ H Q I hpre => ?_⟩
 obtain ⟨O, ρ, v, w, eo, he, q⟩ := hpre
 simp only [ev, evs] at he
 obtain ⟨vs, he0, he⟩ := bok he
 obtain ⟨kv, ek, he0⟩ := bok he0
 obtain ⟨vs1, he1, he0⟩ := bok he0
 obtain ⟨mv, em, he1⟩ := bok he1
 obtain ⟨vs2, he2, he1⟩ := bok he1
 obtain ⟨tv, et, he2⟩ := bok he2
 obtain ⟨vs3, he3, he2⟩ := bok he2
 obtain ⟨wv, ew, he3⟩ := bok he3
 cases he3; cases he2; cases he1; cases he0
 have hsum := hsb kv mv tv wv v he
 have gt : ρ[0]? = some (some tv) := by
  unfold getE at et; split at et
  ·rename_i hh; cases et; exact hh
  ·cases et
 have gw : ρ[1]? = some (some wv) := by
  unfold getE at ew; split at ew
  ·rename_i hh; cases ew; exact hh
  ·cases ew
 refine wpAny_Call_Name_kw (ld_glob I hgl hmg ?_ (dbg_1 hdx))
 refine PySem.W.callWith_K (h₀ := X.base) I.ok.mod.kin F.kp ?_ (star_cons n0) (by rw [star_cons n1] <;> rfl)
 rw [star_cons n0, star_cons n1]
 show wpAny _ _ (spliced ((false, eval a0 X.env) :: (false, eval a1 X.env) :: (false, eval (.Lambda params lbody lscope lpos) X.env) :: backTo pos (starEach [] X.env))) _ _ s
 refine Calls.spliced_cons (thn (h0.run pins s σ H _ I ⟨O, ρ, kv, w, eo, ek, fun x H' e' r' => (⟨e', r'⟩ : Ext H H' ∧ Rep X.K H' O kv x)⟩) fun u0 t1 ⟨x0, H1, I1, rv0, e1, r0⟩ => ?_)
 refine Calls.spliced_cons (thn (h1.run pins t1 σ H1 _ I1 ⟨O, ρ, mv, w.ext e1, eo.ext w e1, em, fun x H' e' r' => (⟨e', r'⟩ : Ext H1 H' ∧ Rep X.K H' O mv x)⟩) fun u1 t2 ⟨x1, H2, I2, rv1, e2, r1⟩ => ?_)
 have w2 := (w.ext e1).ext e2
 refine Calls.spliced_cons (lam_make3 I2 TB hcode hm hu w2.tabs hdef (L.has I2.ok) fun f c' pmv ctv H3 t3 I3 e3 hfn hfr hco hobj => ?_)
 refine Calls.spliced_nil ⟨I3.kIn, ?_⟩
 have w3 := w2.ext e3
 have eo3 := ((eo.ext w e1).ext (w.ext e1) e2).ext w2 e3
 have r0' := Rep.ext w2 e3 (Rep.ext (w.ext e1) e2 r0)
 have r1' := Rep.ext w2 e3 r1
 have A3 : LamAt X pins σ H3 t3 f c' params lbody lscope p := ⟨I3, L, hpN, ⟨pmv, ctv, hobj⟩, hfn, hfr, hbind⟩
 obtain ⟨xt, et', rt'⟩ := eo3.get 0 tv gt
 obtain ⟨xw, ew', rw'⟩ := eo3.get 1 wv gw
 have hlen : σ.length = z + 2 := by rw [I3.len, cx.hN]; exact hNS
 have hok : LamOkS X.K O H3 f c' (codeL X c') (fun x HY Q => tE X.K T0 seL (σ ++ [some x]) HY Q) (fun gv => ev T0 seL (vLam z tv wv gv)) := fun HY x gv r QY wY eY rY hr pY => by
  refine ⟨eY.vis _ _ hco, O, vLam z tv wv gv, r, wY, ⟨by (unfold vLam; simp [hlen]) <;> omega, fun i u hi => ?_⟩, hr, pY⟩
  unfold vLam at hi
  by_cases h2 : i < z + 2
  ·rw [List.getElem?_append_left (by simp <;> omega)] at hi
   rw [List.getElem?_append_left (by rw [hlen]; exact h2)]
   match i, hi with
   | 0, hi => cases hi; exact ⟨xt, et', Rep.ext w3 eY rt'⟩
   | 1, hi => cases hi; exact ⟨xw, ew', Rep.ext w3 eY rw'⟩
   | i + 2, hi =>
    rw [List.getElem?_append_right (by simp)] at hi
    simp only [List.length_cons, List.length_nil, List.getElem?_replicate] at hi
    split at hi <;> cases hi
  ·have hi2 : i = z + 2 := by
    have hl := (List.getElem?_eq_some_iff.mp hi).1
    simp at hl; omega
   subst hi2
   rw [List.getElem?_append_right (by simp <;> omega)] at hi
   rw [List.getElem?_append_right (by rw [hlen]; exact Nat.le_refl _)]
   have z0 : z + 2 - ([some tv, some wv] ++ List.replicate z (none : Option Val)).length = 0 := by simp <;> omega
   rw [z0] at hi
   rw [show z + 2 - σ.length = 0 by omega]
   cases hi
   exact ⟨x, rfl, rY⟩
 obtain ⟨oc, od, kV, doc, pmm, an, cdv, ct, osl, hfd, lk, hcd⟩ := F.ex
 subst hfd
 have rc : codeAny (model X.prog X.w) X.A (.call (.ref g) ⟨[u0, u1, .ref f], []⟩) (CR CX0 X.stack X.prog X.w H3 t3 Q E0) t3 := by
  refine LamX.run_ofS (N := Ng) (ps := ps3) (us := [u0, u1, .ref f]) (vs := [x0, x1, .ref f]) lk hcd Sg cx.room I3.env0 (bindsTo_of hb I3.kIn (by rw [h3]; rfl)) #v[rv0, rv1, rfl] (by rw [h3]; rfl) fun hr' => ?_
  have hPM : PE (lamZ X Ng xs (defScope stg) g cdv t3 H3 E0) eM (tMean f c' (codeL X c') (fun x HY Q => tE X.K T0 seL (σ ++ [some x]) HY Q)) := by
   subst hM
   exact pe_act1 A3 hr' (fun A outer s1 H1 hr2 => hlb A outer s1 H1 f c' hr2) hm2 vm (pe_var hm6 vg (dbg_1 dg) (dbg_2 dg)) rfl (dbg_1 dm) (dbg_2 dm)
  refine ⟨_, (hg f c' t3 H3 E0 cdv O _ _ hr' hok hPM).nox, kv, mv, v, ⟨w3, ⟨?_, fun i u hi => ?_⟩, start_get (i := 2) rfl, Ext.refl⟩, hsum, fun x H' e' r' => q x H' (((e1.trans e2).trans e3).trans e') r'⟩
  ·unfold L2.start; simp [h7]
  ·match i, hi with
   | 0, hi => cases hi; exact ⟨x0, start_get (i := 0) rfl, r0'⟩
   | 1, hi => cases hi; exact ⟨x1, start_get (i := 1) rfl, r1'⟩
   | 2, hi => cases hi
   | 3, hi => cases hi
   | 4, hi => cases hi
   | 5, hi => cases hi
   | 6, hi => cases hi
   | i + 7, hi => cases hi
 refine wpAny_call (codeAny_mono rc fun res sE hq => ?_)
 cases res with
 | error _ => exact (show False from hq).elim
 | ok fl =>
  cases fl with
  | ret u => exact I3.after hq
  | next => exact False.elim hq
  | brk => exact False.elim hq
  | cont => exact False.elim hq
end
end
end VM
namespace VM
open PySem
def sumD (gn fr fm fg fa fl : Nat) : SD := ⟨4, 8,
 .cons (.asg [] 3#4 (.glob gn)) #v[.loop [] 3#5 (.seq (.call fr #v[0#1, 0#0])) #v[.asg [] 3#6 (.tup #v[.call fm #v[0#5, 0#0], 1#1]), .loop [] 3#7 (.seq 0#5) #v[.asg [] 3#6 (.call fg #v[0#6, .call fl #v[0#2, 0#3, 0#7]])], .asg [] 3#4 (.call fa #v[0#4, 0#6])], .ret [] 0#4]⟩
def lamD (e : SE) : SD := { np := 3, ns := 3, body := .cons (.ret [] e) .nil }
end VM
set_option maxHeartbeats 2000000
namespace VM
open PySem
@[simp] theorem okb {α β : Type} {a : α} {f : α → R β} : ((Except.ok a : R α) >>= f) = f a := id rfl
@[simp] theorem erb {α β : Type} {e : Err} {f : α → R β} : ((Except.error e : R α) >>= f) = Except.error e := id rfl
@[simp] theorem iteb {α β : Type} {c : Prop} [Decidable c] {x y : R α} {f : α → R β} : ((if c then x else y) >>= f) = if c then x >>= f else y >>= f := by split <;> rfl
def seqF (q : R (Fl × SEnv)) (k : SEnv → R (Fl × SEnv)) : R (Fl × SEnv) := match q with
 | .ok (.nx, ρ) => k ρ
 | .ok (.rt v, ρ) => .ok (.rt v, ρ)
 | .error e => .error e
def finD (q : R (Fl × SEnv)) : R Val := match q with
 | .ok (.nx, _) => .ok .non
 | .ok (.rt v, _) => .ok v
 | .error e => .error e
@[simp] theorem seqF_nx {ρ : SEnv} {k : SEnv → R (Fl × SEnv)} : seqF (.ok (.nx, ρ)) k = k ρ := id rfl
@[simp] theorem seqF_rt {ρ : SEnv} {v : Val} {k : SEnv → R (Fl × SEnv)} : seqF (.ok (.rt v, ρ)) k = .ok (.rt v, ρ) := id rfl
@[simp] theorem seqF_er {e : Err} {k : SEnv → R (Fl × SEnv)} : seqF (.error e) k = .error e := id rfl
@[simp] theorem seqF_ite {c : Prop} [Decidable c] {x y : R (Fl × SEnv)} {k : SEnv → R (Fl × SEnv)} : seqF (if c then x else y) k = if c then seqF x k else seqF y k := by split <;> rfl
@[simp] theorem finD_nx {ρ : SEnv} : finD (.ok (.nx, ρ)) = .ok .non := id rfl
@[simp] theorem finD_rt {ρ : SEnv} {v : Val} : finD (.ok (.rt v, ρ)) = .ok v := id rfl
@[simp] theorem finD_er {e : Err} : finD (.error e) = .error e := id rfl
@[simp] theorem finD_ite {c : Prop} [Decidable c] {x y : R (Fl × SEnv)} : finD (if c then x else y) = if c then finD x else finD y := by split <;> rfl
variable {T : Tab} {ρ : SEnv} {e : VE}
@[simp] theorem exs_nil : exs T .nil ρ = .ok (.nx, ρ) := by simp only [exs]
@[simp] theorem exs_cons {s : SS} {r : SB} : exs T (.cons s r) ρ = seqF (ex T s ρ) (exs T r) := by
  simp only [exs]
  cases h : ex T s ρ with
  | error e => rfl
  | ok q =>
    obtain ⟨fl, ρ1⟩ := q
    cases fl <;> rfl
theorem runD_eq {d : SD} {args : List Val} (h : args.length = d.np) : runD T d args = finD (exs T d.body (args.map Slot.sh ++ List.replicate (d.ns - d.np) Slot.no)) := by
 unfold runD
 rw [if_pos h]
 cases h : exs T d.body (args.map Slot.sh ++ List.replicate (d.ns - d.np) Slot.no) with
 | error e => rfl
 | ok q =>
  obtain ⟨fl, ρ1⟩ := q
  cases fl <;> rfl
theorem call_eq {P : Prog} {n f : Nat} {args : List Val} {d : SD} (h : P.F f = some d) (hl : args.length = d.np) :
  callP P (n + 1) f args = finD (exs (P.tab n) d.body (args.map Slot.sh ++ List.replicate (d.ns - d.np) Slot.no)) := by
 rw [callP_succ P n f args h, runD_eq hl]
@[simp] theorem forGo_nil {bind : SEnv → Val → R SEnv} {body : SEnv → R (Fl × SEnv)} : forGo bind body [] ρ = .ok (.nx, ρ) := id rfl
@[simp] theorem forGo_cons {bind : SEnv → Val → R SEnv} {body : SEnv → R (Fl × SEnv)} {v : Val} {r : List Val} : forGo bind body (v :: r) ρ = seqF (bind ρ v >>= body) (forGo bind body r) := by
  simp only [forGo]
  cases h : bind ρ v with
  | error e => rfl
  | ok ρ1 =>
    simp only [okb]
    cases h2 : body ρ1 with
    | error e => rfl
    | ok q =>
      obtain ⟨fl, ρ2⟩ := q
      cases fl <;> rfl
-- what is seen
@[simp] theorem visG_nil {m : List Nat} {k : Nat} : visG m k [] = [] := id rfl
@[simp] theorem visG_sh {m : List Nat} {k : Nat} {v : Val} {r : SEnv} : visG m k (.sh v :: r) = some v :: visG m (k + 1) r := id rfl
@[simp] theorem visG_no {m : List Nat} {k : Nat} {r : SEnv} : visG m k (.no :: r) = none :: visG m (k + 1) r := id rfl
theorem visG_cons {m : List Nat} {k : Nat} {s : Slot} {r : SEnv} : visG m k (s :: r) = (if s.isOwn && !m.contains k then none else s.val) :: visG m (k + 1) r := rfl
@[simp] theorem getE_zero {v : Val} {r : VE} : getE (some v :: r) 0 = .ok v := id rfl
@[simp] theorem getE_succ {o : Option Val} {r : VE} {i : Nat} : getE (o :: r) (i + 1) = getE r i := by
  unfold getE
  rw [List.getElem?_cons_succ]
@[simp] theorem kept_nil {fl : Bool} : kept [] fl ρ = ρ := id rfl
-- expressions
@[simp] theorem ev_var {i : Nat} : ev T (.var i) e = getE e i := by simp only [ev]
@[simp] theorem ev_int {i : Int} : ev T (.cint i) e = .ok (.int i) := by simp only [ev]
@[simp] theorem ev_bl {i : Bool} : ev T (.cbl i) e = .ok (.bl i) := by simp only [ev]
@[simp] theorem ev_non : ev T .cnon e = .ok .non := by simp only [ev]
@[simp] theorem ev_str {s : String} : ev T (.cstr s) e = .ok (.str (Str.ofString s)) := by simp only [ev]
@[simp] theorem ev_glob {g : Nat} : ev T (.glob g) e = ofO (T.G g) := by simp only [ev]
@[simp] theorem ev_op {o : Op2} {a b : SE} : ev T (.op o a b) e = ev T a e >>= fun x => ev T b e >>= fun y => op2 o x y := by simp only [ev]
@[simp] theorem ev_neg {a : SE} : ev T (.neg a) e = ev T a e >>= fun x => asInt x >>= fun i => .ok (.int (-i)) := by simp only [ev]
@[simp] theorem ev_not {a : SE} : ev T (.not1 a) e = ev T a e >>= fun x => tru x >>= fun b => .ok (.bl (!b)) := by simp only [ev]
@[simp] theorem ev_bop {an : Bool} {es : SEs} : ev T (.bop an es) e = evB T an es e := by simp only [ev]
@[simp] theorem ev_chain {o o' : Op2} {a b c : SE} : ev T (.chain o o' a b c) e = ev T a e >>= fun x => ev T b e >>= fun y => op2 o x y >>= fun r => tru r >>= fun k => if k = true then ev T c e >>= fun z => op2 o' y z else .ok (.bl false) := by simp only [ev]
@[simp] theorem ev_ite {c a b : SE} : ev T (.ite c a b) e = ev T c e >>= fun x => tru x >>= fun k => if k = true then ev T a e else ev T b e := by simp only [ev]
@[simp] theorem ev_tup {es : SEs} : ev T (.tup es) e = evs T es e >>= fun vs => if vs.length ≤ lineN then .ok (.tup vs) else stk := by simp only [ev]
@[simp] theorem ev_lst {es : SEs} : ev T (.lst es) e = evs T es e >>= fun vs => if vs.length ≤ lineN then .ok (.lst vs) else stk := by simp only [ev]
@[simp] theorem ev_ix {a b : SE} : ev T (.ix a b) e = ev T a e >>= fun x => ev T b e >>= fun y => ixV x y := by simp only [ev]
@[simp] theorem ev_sl {a : SE} {lo hi : SO} : ev T (.sl a lo hi) e = ev T a e >>= fun x => evO T lo e >>= fun l => evO T hi e >>= fun h => slV x l h := by simp only [ev]
@[simp] theorem ev_rev {a : SE} : ev T (.rev a) e = ev T a e >>= revV := by simp only [ev]
@[simp] theorem ev_call {f : Nat} {es : SEs} : ev T (.call f es) e = evs T es e >>= fun vs => T.C f vs := by simp only [ev]
@[simp] theorem ev_bi {b : Bi} {es : SEs} : ev T (.bi b es) e = evs T es e >>= fun vs => bi1 b vs := by simp only [ev]
@[simp] theorem ev_isi {a : SE} {t : Ty} : ev T (.isi a t) e = ev T a e >>= fun x => isiV x t >>= fun r => .ok (.bl r) := by simp only [ev]
@[simp] theorem ev_comp {own : List Nat} {tg : Tg} {it : SI} {c : SO} {el : SE} : ev T (.comp own tg it c el) e = evI T it e >>= fun items => if items.length ≤ lineN then compGo (bindE tg) (evC T c) (ev T el) (wipeE e own) items >>= fun ys => .ok (.lst ys) else stk := by simp only [ev]
@[simp] theorem ev_lrng {es : SEs} : ev T (.lrng es) e = evs T es e >>= lrngV := by simp only [ev]
@[simp] theorem ev_mxd {a b : SE} : ev T (.mxd a b) e = ev T a e >>= fun x => ev T b e >>= fun y => bi1 .maxd [x, y] := by simp only [ev]
@[simp] theorem ev_mk {c : Nat} {ns : List String} {es : SEs} : ev T (.mk c ns es) e = evs T es (e.set 0 none) >>= fun vs => mkV c (ns.map Str.ofString) vs := by simp only [ev]
@[simp] theorem ev_make {f : Nat} {es : SEs} : ev T (.make f es) e = evs T es e >>= fun vs => T.C f (.non :: vs) := by simp only [ev]
@[simp] theorem ev_fld {a : SE} {f : String} : ev T (.fld a f) e = ev T a e >>= fun x => fldV x (Str.ofString f) := by simp only [ev]
@[simp] theorem ev_dsp {k : String} {a : SE} : ev T (.dsp k a) e = ev T a e >>= fun x => .ok (.dic false [.str (Str.ofString k)] [x]) := by simp only [ev]
@[simp] theorem ev_isc {a : SE} {c : Nat} : ev T (.isc a c) e = ev T a e >>= fun x => iscV x c >>= fun b => .ok (.bl b) := by simp only [ev]
@[simp] theorem ev_mth {m : String} {ids : List (Nat × Nat)} {a : SE} {es : SEs} : ev T (.mth m ids a es) e = ev T a e >>= fun x => mthV (Str.ofString m) ids x >>= fun f => evs T es e >>= fun vs => T.C f (x :: vs) := by simp only [ev]
@[simp] theorem evs_nil : evs T .nil e = .ok [] := by simp only [evs]
@[simp] theorem evs_cons {a : SE} {r : SEs} : evs T (.cons a r) e = ev T a e >>= fun v => evs T r e >>= fun vs => .ok (v :: vs) := by simp only [evs]
@[simp] theorem evB_one {an : Bool} {a : SE} : evB T an #v[a] e = ev T a e := by simp only [evB]
@[simp] theorem evB_more {an : Bool} {a b : SE} {r : SEs} : evB T an (.cons a (.cons b r)) e = ev T a e >>= fun x => tru x >>= fun k => if k = an then evB T an (.cons b r) e else .ok (.bl (!an)) := by simp only [evB]
@[simp] theorem evO_none : evO T .none e = .ok none := by simp only [evO]
@[simp] theorem evO_some {a : SE} : evO T (.some a) e = ev T a e >>= fun x => asInt x >>= fun i => .ok (some i) := by simp only [evO]
@[simp] theorem evC_none : evC T .none e = .ok true := by simp only [evC]
@[simp] theorem evC_some {a : SE} : evC T (.some a) e = ev T a e >>= tru := by simp only [evC]
@[simp] theorem evI_seq {a : SE} : evI T (.seq a) e = ev T a e >>= seqV := by simp only [evI]
@[simp] theorem evI_rng1 {a : SE} : evI T (.rng1 a) e = ev T a e >>= fun x => asInt x >>= fun j => if smallR 0 j then .ok (rngC 0 1 j.toNat) else stk := by simp only [evI]
@[simp] theorem evI_rng2 {a b : SE} : evI T (.rng2 a b) e = ev T a e >>= fun x => ev T b e >>= fun y => asInt x >>= fun i => asInt y >>= fun j => if smallR i j then .ok (rngC i 1 (j - i).toNat) else stk := by simp only [evI]
@[simp] theorem evI_rng3 {a b c : SE} : evI T (.rng3 a b c) e = ev T a e >>= fun x => ev T b e >>= fun y => ev T c e >>= fun z => asInt x >>= fun i => asInt y >>= fun j => asInt z >>= fun k => if smallR i j && decide (0 < k ∧ k < 1073741824) then .ok (rngC i k (rngN i j k)) else stk := by simp only [evI]
@[simp] theorem evI_enum {a : SE} : evI T (.enum a) e = ev T a e >>= enmV := by simp only [evI]
@[simp] theorem evI_zip {a b : SE} : evI T (.zip a b) e = ev T a e >>= fun x => ev T b e >>= fun y => zpV x y := by simp only [evI]
-- operations
@[simp] theorem asInt_int {i : Int} : asInt (.int i) = .ok i := id rfl
@[simp] theorem tru_bl {b : Bool} : tru (.bl b) = .ok b := id rfl
@[simp] theorem op_add_i {x y : Int} : op2 .add (.int x) (.int y) = .ok (.int (x + y)) := id rfl
@[simp] theorem op_sub_i {x y : Int} : op2 .sub (.int x) (.int y) = .ok (.int (x - y)) := id rfl
@[simp] theorem op_mul_i {x y : Int} : op2 .mul (.int x) (.int y) = if mulOk x y then .ok (.int (x * y)) else stk := id rfl
@[simp] theorem op_fdiv_i {x y : Int} : op2 .fdiv (.int x) (.int y) = if divOk y then .ok (.int (x.fdiv y)) else stk := id rfl
@[simp] theorem op_mod_i {x y : Int} : op2 .mod (.int x) (.int y) = if y = 0 then stk else .ok (.int (x.fmod y)) := id rfl
@[simp] theorem op_pow_i {x y : Int} : op2 .pow (.int x) (.int y) = if powOk x y then .ok (.int (x ^ y.toNat)) else stk := id rfl
@[simp] theorem op_shl_i {x y : Int} : op2 .shl (.int x) (.int y) = if powOk x y then .ok (.int (x * 2 ^ y.toNat)) else stk := id rfl
@[simp] theorem op_shr_i {x y : Int} : op2 .shr (.int x) (.int y) = if 0 ≤ y then .ok (.int (x / 2 ^ y.toNat)) else stk := id rfl
@[simp] theorem op_lt_i {x y : Int} : op2 .lt (.int x) (.int y) = .ok (.bl (decide (x < y))) := id rfl
@[simp] theorem op_le_i {x y : Int} : op2 .le (.int x) (.int y) = .ok (.bl (decide (x ≤ y))) := id rfl
@[simp] theorem op_gt_i {x y : Int} : op2 .gt (.int x) (.int y) = .ok (.bl (decide (y < x))) := id rfl
@[simp] theorem op_ge_i {x y : Int} : op2 .ge (.int x) (.int y) = .ok (.bl (decide (y ≤ x))) := id rfl
theorem veq_ii {x y : Int} : veq (.int x) (.int y) = decide (x = y) := by simp [veq_def, py, PyData.eqv, Bool.beq_eq_decide_eq]
@[simp] theorem op_eq_i {x y : Int} : op2 .eq (.int x) (.int y) = .ok (.bl (decide (x = y))) := by
  rw [← veq_ii]; rfl
@[simp] theorem op_ne_i {x y : Int} : op2 .ne (.int x) (.int y) = .ok (.bl (!decide (x = y))) := by
  rw [← veq_ii]; rfl
@[simp] theorem op_add_l {x y : List Val} : op2 .add (.lst x) (.lst y) = if x.length + y.length ≤ lineN then .ok (.lst (x ++ y)) else stk := id rfl
@[simp] theorem isi_ii {i : Int} : isiV (.int i) .int = .ok true := id rfl
@[simp] theorem isi_ib {i : Int} : isiV (.int i) .bool = .ok false := id rfl
@[simp] theorem isi_tt {i : List Val} : isiV (.tup i) .tuple = .ok true := id rfl
@[simp] theorem isi_ll {i : List Val} : isiV (.lst i) .list = .ok true := id rfl
@[simp] theorem isi_bi {i : Bool} : isiV (.bl i) .int = .ok true := id rfl
@[simp] theorem isi_bb {i : Bool} : isiV (.bl i) .bool = .ok true := id rfl
@[simp] theorem isi_ss {i : Str} : isiV (.str i) .str = .ok true := id rfl
@[simp] theorem seqV_l {i : List Val} : seqV (.lst i) = .ok i := id rfl
@[simp] theorem seqV_t {i : List Val} : seqV (.tup i) = .ok i := id rfl
@[simp] theorem enmV_l {i : List Val} : enmV (.lst i) = .ok (enumV 0 i) := id rfl
@[simp] theorem zpV_l {i j : List Val} : zpV (.lst i) (.lst j) = .ok (zipV i j) := id rfl
@[simp] theorem ix_t0 {a : Val} {r : List Val} : ixV (.tup (a :: r)) (.int 0) = .ok a := by
  simp [ixV, ofO, L2.atI, L2.ixN]
@[simp] theorem ix_t1 {a b : Val} {r : List Val} : ixV (.tup (a :: b :: r)) (.int 1) = .ok b := by
  have : (1 : Int) < (r.length : Int) + 1 + 1 := by omega
  simp [ixV, ofO, L2.atI, L2.ixN, this]
@[simp] theorem ix_l0 {a : Val} {r : List Val} : ixV (.lst (a :: r)) (.int 0) = .ok a := by
  simp [ixV, ofO, L2.atI, L2.ixN]
@[simp] theorem ix_l1 {a b : Val} {r : List Val} : ixV (.lst (a :: b :: r)) (.int 1) = .ok b := by
  have : (1 : Int) < (r.length : Int) + 1 + 1 := by omega
  simp [ixV, ofO, L2.atI, L2.ixN, this]
@[simp] theorem bi_len_l {x : List Val} : bi1 .len [.lst x] = .ok (.int x.length) := id rfl
@[simp] theorem bi_len_t {x : List Val} : bi1 .len [.tup x] = .ok (.int x.length) := id rfl
@[simp] theorem bi_len_s {x : List Int} : bi1 .len [.scr x] = .ok (.int x.length) := id rfl
@[simp] theorem bi_abs_i {x : Int} : bi1 .abs [.int x] = .ok (.int (if x < 0 then -x else x)) := id rfl
@[simp] theorem bi_max2_i {x y : Int} : bi1 .max2 [.int x, .int y] = .ok (.int (if y > x then y else x)) := id rfl
@[simp] theorem bi_min2_i {x y : Int} : bi1 .min2 [.int x, .int y] = .ok (.int (if y < x then y else x)) := id rfl
@[simp] theorem bi_list_l {x : List Val} : bi1 .list [.lst x] = .ok (.lst x) := id rfl
@[simp] theorem bi_list_t {x : List Val} : bi1 .list [.tup x] = .ok (.lst x) := id rfl
-- statements
@[simp] theorem ex_asg {m : List Nat} {tg : Tg} {s : SE} : ex T (.asg m tg s) ρ = ev T s (vis m ρ) >>= fun v => bindS tg (kept m (flat v) ρ) v >>= fun ρ1 => .ok (.nx, ρ1) := by simp only [ex]
@[simp] theorem ex_par {m : List Nat} {i j : Nat} {a b : SE} : ex T (.par m i j a b) ρ = ev T a (vis m ρ) >>= fun v => ev T b (vis m ρ) >>= fun w => .ok (.nx, ((kept m (flat v && flat w) ρ).set i (.sh v)).set j (.sh w)) := by simp only [ex]
@[simp] theorem ex_iff {m : List Nat} {c : SE} {a b : SB} : ex T (.iff m c a b) ρ = ev T c (vis m ρ) >>= fun v => tru v >>= fun k => if k = true then exs T a ρ else exs T b ρ := by simp only [ex]
@[simp] theorem ex_loop {m : List Nat} {tg : Tg} {it : SI} {b : SB} : ex T (.loop m tg it b) ρ = evI T it (vis m ρ) >>= fun items => forGo (bindS tg) (exs T b) items (kept m false ρ) := by simp only [ex]
@[simp] theorem ex_ret {m : List Nat} {s : SE} : ex T (.ret m s) ρ = ev T s (vis m ρ) >>= fun v => .ok (.rt v, ρ) := by simp only [ex]
def asLst : Val → R (List Val)
 | .lst vs => .ok vs
 | _ => stk
def asOw : Option Slot → R (List Val)
 | some (.ow vs) => .ok vs
 | _ => stk
@[simp] theorem asLst_l {vs : List Val} : asLst (.lst vs) = .ok vs := id rfl
@[simp] theorem asOw_o {vs : List Val} : asOw (some (.ow vs)) = .ok vs := id rfl
@[simp] theorem ex_parO {m : List Nat} {i j : Nat} {a b : SE} : ex T (.parO m i j a b) ρ = ev T a (vis m ρ) >>= fun v => ev T b (vis m ρ) >>= fun w => asLst v >>= fun vs =>
    if i < ρ.length then .ok (.nx, ((kept m (flats vs && flat w) ρ).set i (.ow vs)).set j (.sh w)) else stk := by
  simp only [ex]; congr 1; funext v; congr 1; funext w; cases v <;> rfl
@[simp] theorem ex_retv {i : Nat} : ex T (.retv i) ρ = asOw ρ[i]? >>= fun vs => .ok (.rt (.lst vs), ρ) := by
  simp only [ex]; split
  · rename_i h; rw [h]; rfl
  · rename_i h
    cases e : ρ[i]? with
    | none => rfl
    | some s => cases s with
      | ow vs => exact absurd e (h vs)
      | _ => rfl
@[simp] theorem ex_ownE {m : List Nat} {i : Nat} {s : SE} : ex T (.own m i s) ρ = ev T s (vis m ρ) >>= fun v => asLst v >>= fun vs => if i < ρ.length then .ok (.nx, (kept m (flats vs) ρ).set i (.ow vs)) else stk := by
  simp only [ex]; congr 1; funext v; cases v <;> rfl
@[simp] theorem ex_extE {m : List Nat} {i : Nat} {s : SE} : ex T (.ext m i s) ρ = ev T s (vis m ρ) >>= fun v => asLst v >>= fun ws => if (m.contains i && !flats ws) = true then stk else
    asOw (kept m (flats ws) ρ)[i]? >>= fun vs => if vs.length + ws.length ≤ lineN then .ok (.nx, (kept m (flats ws) ρ).set i (.ow (vs ++ ws))) else stk := by
  simp only [ex]; congr 1; funext v; cases v <;> first | rfl | skip
  rename_i ws
  show (if (m.contains i && !flats ws) = true then stk else _) = (if (m.contains i && !flats ws) = true then stk else _)
  split
  · rfl
  · split
    · rename_i h; rw [h]; rfl
    · rename_i h
      cases e : (kept m (flats ws) ρ)[i]? with
      | none => rfl
      | some s => cases s with
        | ow vs => exact absurd e (h vs)
        | _ => rfl
@[simp] theorem ex_expr {m : List Nat} {s : SE} : ex T (.expr m s) ρ = ev T s (vis m ρ) >>= fun v => .ok (.nx, ρ) := by simp only [ex]
@[simp] theorem ex_raise {c : Nat} : ex T (.raise c) ρ = .error (.exc c) := by simp only [ex]
@[simp] theorem bindS_nm {i : Nat} {v : Val} : bindS (.nm i) ρ v = .ok (ρ.set i (.sh v)) := by simp [bindS, flatT, setsS]
@[simp] theorem bindS_tp {ts : Tgs} {v : Val} : bindS (.tp ts) ρ v = flatT (.tp ts) v >>= fun bs => .ok (setsS ρ bs) := by simp only [bindS]
@[simp] theorem bindE_nm {i : Nat} {v : Val} {e : VE} : bindE (.nm i) e v = .ok (e.set i (some v)) := by simp [bindE, flatT, setsE]
@[simp] theorem bindE_tp {ts : Tgs} {v : Val} {e : VE} : bindE (.tp ts) e v = flatT (.tp ts) v >>= fun bs => .ok (setsE e bs) := by simp only [bindE]
@[simp] theorem flatT_nm {i : Nat} {v : Val} : flatT (.nm i) v = .ok [(i, v)] := by simp only [flatT]
@[simp] theorem flatT_t {ts : Tgs} {vs : List Val} : flatT (.tp ts) (.tup vs) = flatTs ts vs := by simp only [flatT]
@[simp] theorem flatT_l {ts : Tgs} {vs : List Val} : flatT (.tp ts) (.lst vs) = flatTs ts vs := by simp only [flatT]
@[simp] theorem flatTs_nil : flatTs .nil [] = .ok [] := by simp only [flatTs]
@[simp] theorem flatTs_cons {t : Tg} {r : Tgs} {v : Val} {vs : List Val} : flatTs (.cons t r) (v :: vs) = flatT t v >>= fun a => flatTs r vs >>= fun b => .ok (a ++ b) := by simp only [flatTs]
@[simp] theorem setsS_nil : setsS ρ [] = ρ := id rfl
@[simp] theorem setsS_cons {i : Nat} {v : Val} {r : List (Nat × Val)} : setsS ρ ((i, v) :: r) = setsS (ρ.set i (.sh v)) r := id rfl
@[simp] theorem setsE_nil {e : VE} : setsE e [] = e := id rfl
@[simp] theorem setsE_cons {e : VE} {i : Nat} {v : Val} {r : List (Nat × Val)} : setsE e ((i, v) :: r) = setsE (e.set i (some v)) r := id rfl
@[simp] theorem compGo_nil {bind : VE → Val → R VE} {c : VE → R Bool} {el : VE → R Val} : compGo bind c el e [] = .ok [] := id rfl
@[simp] theorem compGo_cons {bind : VE → Val → R VE} {c : VE → R Bool} {el : VE → R Val} {v : Val} {r : List Val} : compGo bind c el e (v :: r) = bind e v >>= fun ρ1 => c ρ1 >>= fun b => if b = true then el ρ1 >>= fun y => compGo bind c el e r >>= fun ys => .ok (y :: ys) else compGo bind c el e r := id rfl
@[simp] theorem wipeE_nil {e : VE} : wipeE e [] = e := id rfl
@[simp] theorem wipeE_cons {e : VE} {v : Nat} {vs : List Nat} : wipeE e (v :: vs) = (wipeE e vs).set v none := id rfl
end VM
namespace VM
open PySem
def SB.at : SB → Nat → SS
 | .nil, _ => .raise 0
 | .cons s _, 0 => s
 | .cons _ r, i + 1 => SB.at r i
def SS.inner : SS → SB
 | .loop _ _ _ b => b
 | .whl _ _ _ b => b
 | .iff _ _ a _ => a
 | _ => .nil
theorem vis_any {m : List Nat} {k : Nat} {s : Slot} {r : SEnv} (h : m = []) : visG m k (s :: r) = (if s.isOwn then none else s.val) :: visG m (k + 1) r := by
 subst h; simp [visG]
@[simp] theorem vis_nil {k : Nat} {s : Slot} {r : SEnv} : visG [] k (s :: r) = (if s.isOwn then none else s.val) :: visG [] (k + 1) r := vis_any rfl
@[simp] theorem isOwn_sh {v : Val} : (Slot.sh v).isOwn = false := id rfl
@[simp] theorem isOwn_no : (Slot.no).isOwn = false := id rfl
@[simp] theorem val_sh {v : Val} : (Slot.sh v).val = some v := id rfl
@[simp] theorem val_no : (Slot.no).val = none := id rfl
end VM
namespace VM
open PySem
variable {T : Tab} {ρ : SEnv} {e : VE}
@[simp] theorem visG_ow {m : List Nat} {k : Nat} {vs : List Val} {r : SEnv} : visG m k (.ow vs :: r) = (if m.contains k then some (.lst vs) else none) :: visG m (k + 1) r := by
  simp only [visG, Slot.isOwn, Slot.val, Bool.true_and]
  congr 1
  cases m.contains k <;> rfl
@[simp] theorem ex_app' {m : List Nat} {i : Nat} {s : SE} : ex T (.app m i s) ρ = ev T s (vis m ρ) >>= fun v => if (m.contains i && !flat v) = true then stk else
    asOw (kept m (flat v) ρ)[i]? >>= fun vs => if vs.length < lineN then .ok (.nx, (kept m (flat v) ρ).set i (.ow (vs ++ [v]))) else stk := by
  simp only [ex]; congr 1; funext v
  split
  · rfl
  · split
    · rename_i h; rw [h]; rfl
    · rename_i h
      cases e : (kept m (flat v) ρ)[i]? with
      | none => rfl
      | some s => cases s with
        | ow vs => exact absurd e (h vs)
        | _ => rfl
@[simp] theorem val_ow {vs : List Val} : (Slot.ow vs).val = some (.lst vs) := id rfl
@[simp] theorem isOwn_ow {vs : List Val} : (Slot.ow vs).isOwn = true := id rfl
@[simp] theorem visG_c {m : List Nat} {k : Nat} {s : Slot} {r : SEnv} : visG m k (s :: r) = (if s.isOwn && !m.contains k then none else s.val) :: visG m (k + 1) r := id rfl
@[simp] theorem flat_int {i : Int} : flat (.int i) = true := rfl
end VM
set_option maxHeartbeats 4000000
namespace VM
open PySem
theorem lamD_run {T : Tab} {e : SE} {t w g : Val} : runD T (lamD e) [t, w, g] = ev T e [some t, some w, some g] := by
 rw [runD_eq rfl]
 simp only [lamD]
 rw [exs_cons, ex_ret]
 simp only [List.map_cons, List.map_nil, List.replicate_zero, List.append_nil, Nat.sub_self, visG_sh, visG_nil]
 cases ev T e [some t, some w, some g] <;> rfl
abbrev R8 (k m t w : Val) (f g p r : Slot) : SEnv := [.sh k, .sh m, .sh t, .sh w, f, g, p, r]
theorem sumD_in {T : Tab} {fg fl : Nat} {k m t w fo gp : Val} : ∀ (gs : List Val) (ga : Val) (r : Slot) (q : Fl × SEnv), r.isOwn = false →
  forGo (bindS 3#7) (exs T #v[.asg [] 3#6 (.call fg #v[0#6, .call fl #v[0#2, 0#3, 0#7]])]) gs (R8 k m t w (.sh fo) (.sh gp) (.sh ga) r) = .ok q →
  ∃ gf r', r'.isOwn = false ∧ lamL2 T fg (fun g => T.C fl [t, w, g]) gs ga = .ok gf ∧ q = (.nx, R8 k m t w (.sh fo) (.sh gp) (.sh gf) r')
 | [], ga, r, q, hr, h => by
  rw [forGo_nil] at h
  cases h
  exact ⟨ga, r, hr, rfl, rfl⟩
 | g :: gs, ga, r, q, hr, h => by
  rw [forGo_cons] at h
  simp only [bindS, flatT, okb, setsS, List.set_cons_succ, List.set_cons_zero] at h
  rw [exs_cons, ex_asg] at h
  simp only [visG_sh, visG_nil, ev_call, evs_cons, evs_nil, ev_var, getE_zero, getE_succ, okb] at h
  cases e1 : T.C fl [t, w, g] with
  | error e => rw [e1] at h; simp only [erb, seqF_er] at h; cases h
  | ok mv =>
   rw [e1] at h
   simp only [okb] at h
   cases e2 : T.C fg [ga, mv] with
   | error e => rw [e2] at h; simp only [erb, seqF_er] at h; cases h
   | ok xv =>
    rw [e2] at h
    simp only [okb, bindS, flatT, kept_nil, setsS, List.set_cons_succ, List.set_cons_zero, seqF_nx, exs_nil] at h
    obtain ⟨gf, r', h1, h2, h3⟩ := sumD_in gs xv (.sh g) q rfl h
    exact ⟨gf, r', h1, by simp only [lamL2, e1, okb, e2]; exact h2, h3⟩
theorem sumD_out {T : Tab} {fm fg fa fl : Nat} {k m t w : Val} : ∀ (gps : List Val) (fo : Val) (gp ga r : Slot) (q : Fl × SEnv), gp.isOwn = false → ga.isOwn = false → r.isOwn = false →
  forGo (bindS 3#5) (exs T #v[.asg [] 3#6 (.tup #v[.call fm #v[0#5, 0#0], 1#1]), .loop [] 3#7 (.seq 0#5) #v[.asg [] 3#6 (.call fg #v[0#6, .call fl #v[0#2, 0#3, 0#7]])], .asg [] 3#4 (.call fa #v[0#4, 0#6])]) gps (R8 k m t w (.sh fo) gp ga r) = .ok q →
  ∃ ff gp' ga' r', lamL1 T fm fg fa k (fun g => T.C fl [t, w, g]) gps fo = .ok ff ∧ q = (.nx, R8 k m t w (.sh ff) gp' ga' r')
 | [], fo, gp, ga, r, q, h1, h2, h3, h => by
  rw [forGo_nil] at h
  cases h
  exact ⟨fo, gp, ga, r, rfl, rfl⟩
 | g :: gps, fo, gp, ga, r, q, h1, h2, h3, h => by
  rw [forGo_cons] at h
  simp only [bindS, flatT, okb, setsS, List.set_cons_succ, List.set_cons_zero] at h
  have na : ∀ {s : Slot} {l : SEnv} {j : Nat}, s.isOwn = false → visG [] j (s :: l) = s.val :: visG [] (j + 1) l := fun {s l j} hs => by rw [visG_cons, hs]; rfl
  rw [exs_cons, ex_asg] at h
  simp only [visG_sh, visG_nil, na h2, na h3, ev_tup, evs_cons, evs_nil, ev_call, ev_var, ev_int, getE_zero, getE_succ, okb] at h
  cases e1 : T.C fm [g, k] with
  | error e => rw [e1] at h; simp only [erb, seqF_er] at h; cases h
  | ok mk =>
   rw [e1] at h
   simp only [okb] at h
   rw [if_pos (show ([mk, Val.int 1] : List Val).length ≤ lineN from (by decide : 2 ≤ lineN))] at h
   simp only [okb, bindS, flatT, kept_nil, setsS, List.set_cons_succ, List.set_cons_zero, seqF_nx] at h
   rw [exs_cons, ex_loop] at h
   simp only [visG_sh, visG_nil, na h3, evI_seq, ev_var, getE_zero, getE_succ, okb, kept_nil] at h
   cases e2 : seqV g with
   | error e => rw [e2] at h; simp only [erb, seqF_er] at h; cases h
   | ok gs =>
    rw [e2] at h
    simp only [okb] at h
    cases e3 : forGo (bindS 3#7) (exs T #v[.asg [] 3#6 (.call fg #v[0#6, .call fl #v[0#2, 0#3, 0#7]])]) gs (R8 k m t w (.sh fo) (.sh g) (.sh (.tup [mk, .int 1])) r) with
    | error e => rw [e3] at h; simp only [erb, seqF_er] at h; cases h
    | ok q1 =>
     obtain ⟨gf, r', c1, c2, rfl⟩ := sumD_in gs _ r q1 h3 e3
     rw [e3] at h
     simp only [seqF_nx] at h
     rw [exs_cons, ex_asg] at h
     simp only [visG_sh, visG_nil, na c1, ev_call, evs_cons, evs_nil, ev_var, getE_zero, getE_succ, okb] at h
     cases e4 : T.C fa [fo, gf] with
     | error e => rw [e4] at h; simp only [erb, seqF_er] at h; cases h
     | ok f2 =>
      rw [e4] at h
      simp only [okb, bindS, flatT, kept_nil, setsS, List.set_cons_succ, List.set_cons_zero, seqF_nx, exs_nil] at h
      obtain ⟨ff, gp', ga', r2, d1, d2⟩ := sumD_out gps f2 (.sh g) (.sh gf) r' q rfl rfl c1 h
      exact ⟨ff, gp', ga', r2, by simp only [lamL1, e1, okb, e2, c2, e4]; exact d1, d2⟩
theorem sumD_run {T : Tab} {gn fr fm fg fa fl : Nat} {k m t w v : Val} (h : runD T (sumD gn fr fm fg fa fl) [k, m, t, w] = .ok v) : lamSum T gn fr fm fg fa k m (fun g => T.C fl [t, w, g]) = .ok v := by
 rw [runD_eq rfl] at h
 simp only [sumD, List.map_cons, List.map_nil] at h
 have e0 : ([Slot.sh k, .sh m, .sh t, .sh w] ++ List.replicate (8 - 4) Slot.no) = R8 k m t w .no .no .no .no := rfl
 rw [e0] at h
 rw [exs_cons, ex_asg, ev_glob] at h
 cases e1 : ofO (T.G gn) with
 | error e => rw [e1] at h; simp only [erb, seqF_er, finD_er] at h; cases h
 | ok n =>
  rw [e1] at h
  simp only [okb, bindS, flatT, kept_nil, setsS, List.set_cons_succ, List.set_cons_zero, seqF_nx] at h
  rw [exs_cons, ex_loop] at h
  simp only [visG_sh, visG_no, visG_nil, evI_seq, ev_call, evs_cons, evs_nil, ev_var, getE_zero, getE_succ, okb, kept_nil] at h
  cases e2 : T.C fr [m, k] with
  | error e => rw [e2] at h; simp only [erb, seqF_er, finD_er] at h; cases h
  | ok vv =>
   rw [e2] at h
   simp only [okb] at h
   cases e3 : seqV vv with
   | error e => rw [e3] at h; simp only [erb, seqF_er, finD_er] at h; cases h
   | ok gps =>
    rw [e3] at h
    simp only [okb] at h
    generalize e4 : forGo _ _ gps _ = q4 at h
    cases q4 with
    | error e => simp only [seqF_er, finD_er] at h; cases h
    | ok q =>
     obtain ⟨ff, gp', ga', r', d1, rfl⟩ := sumD_out gps n .no .no .no q rfl rfl rfl e4
     simp only [seqF_nx] at h
     rw [exs_cons, ex_ret] at h
     have hv : vis [] (R8 k m t w (.sh ff) gp' ga' r') = some k :: some m :: some t :: some w :: some ff :: visG [] 5 [gp', ga', r'] := rfl
     rw [hv] at h
     simp only [ev_var, getE_zero, getE_succ, okb, seqF_rt, finD_rt] at h
     unfold lamSum
     rw [e1]
     simp only [okb, e2, e3]
     rw [d1]; exact h
end VM
namespace VM
open PySem PySem.Spec PyProof.Rows L2
abbrev eT7 (fm : Nat) : SE := .tup #v[.call fm #v[0#4, 0#0], 1#1]
abbrev eI7 (fr : Nat) : SI := .seq (.call fr #v[0#1, 0#0])
abbrev eA7 (fa : Nat) : SE := .call fa #v[0#3, 0#5]
def lclB (N : List Str) (sc : Scope) (i : Nat) (x : Str) : Bool := decide (N[i]? = some x) && decide (sc.names.lookup x = some .local) && dbg x
theorem lclB_ok {N : List Str} {sc : Scope} {i : Nat} {x : Str} (h : lclB N sc i x = true) : N[i]? = some x ∧ sc.names.lookup x = some .local ∧ dbg x = true := by
 unfold lclB at h
 simp only [Bool.and_eq_true, decide_eq_true_eq] at h
 exact ⟨h.1.1, h.1.2, h.2⟩
def chkSumBy (M : Nm) (N : List Str) (gn fr fm fg fa : Nat) (st : Stmt) : Bool :=
 scopeB N (N.take 3) (defScope st) && decide (N.length = 7) && (match defBody st with
 | [.Assign [.Name x3 _] eN _, .For tg4 it4 [.Assign [.Name x5 _] eT _, .For tg6 it6 [.Assign [.Name y5 _] (.Call (.Name xg _) [.Name z5 _, .Call (.Name xm _) [.Name xr _] [] _] [] _) _] [] _, .Assign [.Name y3 _] eA _] [] _, .Return (some (.Name z3 _)) _] =>
  (lclB N (defScope st) 3 x3 && noComp eN && chkE M N (.glob gn) (defScope st) eN && decide (y3 = x3) && decide (z3 = x3))
  && (chkI M N (eI7 fr) (defScope st) tg4 it4 && chkG N (defScope st) (fun _ => false) 3#4 tg4 && noSet it4)
  && (lclB N (defScope st) 5 x5 && noComp eT && chkE M N (eT7 fm) (defScope st) eT && decide (y5 = x5) && decide (z5 = x5))
  && (chkI M N (.seq 0#4) (defScope st) tg6 it6 && chkG N (defScope st) (fun _ => false) 3#6 tg6 && noSet it6)
  && (decide (M.fn fg = some xg) && glB (defScope st) xg && dbg xg && lclB N (defScope st) 2 xm && lclB N (defScope st) 6 xr)
  && (noComp eA && chkE M N (eA7 fa) (defScope st) eA)
 | _ => false)
def SB.app : SB → SB → SB
 | .nil, t => t
 | .cons s r, t => .cons s (r.app t)
section
variable [Tbl]
theorem sndApp {M : Nm} {T : Tab} {N : List Str} {n : Nat} {tail : SB} {rest : List Stmt} : ∀ (s : SB) {X : Cx} {sts : List Stmt}, Ctx2 X n M T N → chkB false M N s X.env.scope sts = true → PSs X rest (tB false X.K T tail) → PSs X (sts ++ rest) (tB false X.K T (s.app tail))
 | .nil, X, sts, cx, h, ht => by
  simp only [chkB] at h
  cases sts with
  | nil => exact ht
  | cons => cases h
 | .cons s r, X, [], cx, h, ht => by simp only [chkB] at h; cases h
 | .cons s r, X, st :: sts, cx, h, ht => by
  simp only [chkB, Bool.and_eq_true] at h
  exact sB_seq (sndS s cx h.1) (sndApp r cx h.2 ht)
end
def lamPar (params : Arguments) (p : Str) : Bool := match params with
 | ⟨[], [⟨q, none, _⟩], none, [], [], none, []⟩ => decide (q = p)
 | _ => false
def chkLam (M : Nm) (N ps : List Str) (pre : SB) (j : Nat) (s0 s1 seL : SE) (xs p : Str) (st : Stmt) : Bool :=
 scopeB N ps (defScope st) && chkB false M N pre (defScope st) ((defBody st).take j) && (match (defBody st).drop j with
 | [.Return (some (.Call (.Name x _) [a0, a1, .Lambda params lbody lscope _] [] _)) _] =>
  decide (x = xs) && glB (defScope st) x && dbg x && nst a0 && nst a1 && chkE M N s0 (defScope st) a0 && chkE M N s1 (defScope st) a1 && lam1B (defScope st) lscope p && decide (p ∉ N) && lamPar params p && chkE M (N ++ [p]) seL lscope lbody && nst lbody
 | _ => false)
def tabName (x : Str) : Str := (envOfC x (default : Scope) 0 0 .none).qual ++ "<lambda>"
section
variable [Tbl] {P : Program} {w : World} {K : PySem.W.Frag} {mg : Str → Option Value} {base : Heap}
abbrev N_of {X : Cx} {n : Nat} {M : Nm} {T : Tab} {N : List Str} (_ : Ctx2 X n M T N) : List Str := N
theorem sumby_look {M : Nm} {Ng : List Str} {gn fr fm fg fa : Nat} {stg : Stmt} (h : chkSumBy M Ng gn fr fm fg fa stg = true) :
  FnScope Ng (Ng.take 3) (defScope stg) ∧ Ng.length = 7 ∧ ∃ (xm xr : Str) (pm pr pq : Pos), lclB Ng (defScope stg) 2 xm = true ∧ lclB Ng (defScope stg) 6 xr = true ∧
   ∀ {Z : Cx} {n : Nat} {T : Tab} {O : Hid} {H1 : Hp} {f c' : Addr} {q : HO} {tL : V → Hp → VK → Prop} {lam : Val → R Val}, Ctx2 Z n M T Ng → Z.env.scope = defScope stg → LamOkS Z.K O H1 f c' q tL lam →
    PE Z (.Call (.Name xm pm) [.Name xr pr] [] pq) (tMean f c' q tL) → PSs Z (defBody stg) (tSumBy Z.K T O H1 f gn fr fm fg fa lam) := by
 unfold chkSumBy at h
 simp only [Bool.and_eq_true] at h
 obtain ⟨⟨h1, h2⟩, h⟩ := h
 split at h
 ·rename_i x3 p1 eN p2 tg4 it4 x5 p3 eT p4 tg6 it6 y5 p5 xg p6 z5 p7 xm p8 xr p9 p10 p11 p12 p13 y3 p14 eA p15 p16 z3 p17 p18 heq
  simp only [Bool.and_eq_true, decide_eq_true_eq] at h
  obtain ⟨⟨⟨⟨⟨⟨⟨⟨⟨a1, a2⟩, a3⟩, rfl⟩, rfl⟩, ⟨b1, b2⟩, b3⟩, ⟨⟨⟨c1, c2⟩, c3⟩, rfl⟩, rfl⟩, ⟨d1, d2⟩, d3⟩, ⟨⟨⟨e1, e2⟩, e3⟩, e4⟩, e5⟩, f1, f2⟩ := h
  refine ⟨scope_by h1, of_decide_eq_true h2, xm, xr, p8, p9, p10, e4, e5, fun {Z n T O H1 f c' q tL lam} cx hs hok hM => ?_⟩
  rw [← hs] at a1 a3 b1 b2 c1 c3 d1 d2 e2 e4 e5 f2
  obtain ⟨i3, l3, g3⟩ := lclB_ok a1
  obtain ⟨i5, l5, g5⟩ := lclB_ok c1
  rw [← cx.hN] at i3 i5
  rw [heq]
  have c0 := cx.toCtx
  have inner := ps_gain (p1 := p5) (p2 := p6) (p3 := p7) (p4 := p11) (p5 := p12) (fg := fg) c0 hok hM rfl i5 (.inl l5) l5 g5 e1 (glB_gl e2) e3
  have loop6 := ps_loopG (pos := p13) c0 cx.own (sndI _ c0 d1) (sndG (N := N_of cx) (fn := fun _ => false) _ cx.hN cx.nd cx.calm (fun _ z => nomatch z) d2) inner d3
  have turn := pss_turn (p1 := p3) (p2 := p4) (p3 := p14) (p4 := p15) c0 c2 f1 (sndE _ c0 c3).1 loop6 (sndE _ c0 f2).1 i3 l3 i5 l5
  have outer := ps_outer (pos := p16) c0 cx.own (sndI _ c0 b1) (sndG (N := N_of cx) (fn := fun _ => false) _ cx.hN cx.nd cx.calm (fun _ z => nomatch z) b2) turn b3
  exact pss_sumby c0 a2 (sndE _ c0 a3).1 outer i3 l3 g3
 ·cases h
theorem no_sum {Pr : Prog} {k gn fr fm fg fa fsb fl : Nat} {a b c d r : Val} (hsd : Pr.F fsb = some (sumD gn fr fm fg fa fl)) (hk : k ≤ 1) (h : (Pr.tab k).C fsb [a, b, c, d] = .ok r) : False := by
 match k, hk with
 | 0, _ => simp only [callP, calls] at h; cases h
 | 1, _ =>
  have h : callP Pr (0 + 1) fsb [a, b, c, d] = .ok r := h
  rw [callP_succ Pr 0 fsb _ hsd] at h
  have h2 := sumD_run h
  unfold lamSum at h2
  obtain ⟨_, _, h2⟩ := bok h2
  obtain ⟨v, h3, _⟩ := bok h2
  simp only [callP, calls] at h3; cases h3
theorem lamPar_ok {params : Arguments} {p : Str} (h : lamPar params p = true) : ∃ q : Pos, params = ⟨[], [⟨p, none, q⟩], none, [], [], none, []⟩ := by
 unfold lamPar at h
 split at h
 ·rename_i q pos
  have e := of_decide_eq_true h
  subst e
  exact ⟨_, rfl⟩
 ·cases h
theorem bind_group (u : Value) (q0 : Pos) (q : Str) (lbody : Expr) (lscope : Scope) (cl : List (Str × Addr)) (pm cv ctv : Value) :
  bindArgs (PySem.W.kla_fn "<lambda>" q ⟨[], [⟨"group", none, q0⟩], none, [], [], none, []⟩ lbody lscope cl pm cv ctv) ⟨[u], []⟩ = pure [(("group" : Str), u)] := rfl
end
end VM
set_option maxHeartbeats 8000000
namespace VM
open PySem PySem.Spec PyProof.Rows L2
instance (priority := low) noTbl : Tbl := ⟨[], { draws := fun _ _ => 0, params := { strHash := fun _ => 0, shareClass := fun a => a, mergeTok := fun t => t, idOf := fun _ => 0, idOfShared := fun _ _ => 0, followText := fun _ => false, idOfImm := fun _ => 0 } }, fun _ => none, fun _ => none, fun _ _ _ _ => false⟩
def Small (ns : List Int) : Prop := ns.length ≤ 63 ∧ ∀ i ∈ ns, Builtin.Int.intBits i ≤ 1048576
theorem look_mem {α : Type} : ∀ {l : List (Nat × α)} {f : Nat} {x : α}, l.lookup f = some x → (f, x) ∈ l
 | [], _, _, h => by cases h
 | (g, y) :: r, f, x, h => by
  rw [List.lookup_cons] at h
  by_cases e : f = g
  ·subst e
   simp only [beq_self_eq_true] at h
   cases h; exact List.mem_cons_self ..
  ·rw [show (f == g) = false by simpa using e] at h
   exact List.mem_cons_of_mem _ (look_mem h)
end VM
set_option maxHeartbeats 4000000
namespace VM
open PySem PySem.Spec PyProof.Rows L2
theorem reps_ints [Tbl] {K : PySem.W.Frag} {H : Hp} {O : Hid} : ∀ ns : List Int, Reps K H O (ns.map Val.int) (ns.map V.int)
 | [] => by simp [Reps]
 | n :: ns => by
  simp only [List.map_cons, Reps, Rep]
  exact ⟨_, _, rfl, rfl, reps_ints ns⟩
theorem walk_plainT {l : PySem.W.OpenLaw} {k : Nat} {q : Program} {loose : List Str} {XP : (Str → Option Value) → Heap → Prop} {YP : World → Heap → Prop} {d : DefRec} {Kf : Params → PySem.W.Frag} {x : Str} {g : List Val → R Val}
  (hn : l.most = some 63) (hdf : d.params.defaults = []) (hr : Room k callerA) {ts : List Addr} (hY : ∀ (w : World) (h : Heap), YP w h → (Kf w.params).In h) (hT : ∀ (w : World) (h : Heap), YP w h → ∀ P ∈ ts, h.get? P = some (PySem.W.tabObj #[]))
  (F : ∀ (w : World) (mg : Str → Option Value) (fa : Addr) (h : Heap), (Kf w.params).In h → h.Ns mainGlobals mg → mg d.name = some (.ref fa) →
   ∃ (cs : List (Addr × Addr × Str)) (Cl Fl : Nat → Option Addr) (Ll : Nat → Arguments → Expr → Scope → Bool) (fd : FuncData), (∀ p ∈ cs, PySem.W.codeHdIn (Kf w.params) p.1 p.2.1 = true ∧ p.2.1 ∈ ts ∧ (Kf w.params).lookup p.2.1 = none) ∧ (∀ (s : Shared) (u : Value), BindsTo s fd ⟨[u], []⟩ [(x, u)]) ∧
    ∀ base : Heap, (Kf w.params).In base → base.Ns mainGlobals mg → (∀ p ∈ cs, LamX.TabB base mg p.1 p.2.1) → FnOk l.prog w (Kf w.params) mg base CX0 k fa fd [x] (@spC ⟨cs.map (·.2), w, Cl, Fl, Ll⟩ (Kf w.params) 1 g))
  (law : ∀ ns, Small ns → g [.scr ns] = .ok (.bl true)) (law2 : ∀ ns, g [.lst (ns.map Val.int)] = g [.scr ns]) :
  PySem.W.WalkO q loose XP YP l.row.toRowW d [] (fun f vs => PySem.call f vs) := by
 refine LamX.walk_ofTs (n := 63) (k := k) (K := Kf) (CX := fun _ => CX0) (x := x) hn (by rw [sizeLine_eq]; decide) hdf hr hY (fun w mg fa h Y _ G hmg => ?_) (fun _ _ _ _ _ z => z)
 have KX := hY w h Y
 obtain ⟨cs, Cl, Fl, Ll, fd, h1, h2, h3⟩ := F w mg fa h KX G hmg
 refine ⟨fd, cs.map fun p => (p.1, p.2.1), @spC ⟨cs.map (·.2), w, Cl, Fl, Ll⟩ (Kf w.params) 1 g, ?_, ?_, ?_, h2, ?_, fun base KB GB TB => h3 base KB GB fun p hp => TB (p.1, p.2.1) (List.mem_map.mpr ⟨p, hp, rfl⟩)⟩
 ·intro p hp
  obtain ⟨r, hr', rfl⟩ := List.mem_map.mp hp
  exact hT w h Y _ (h1 r hr').2.1
 ·intro p hp
  obtain ⟨r, hr', rfl⟩ := List.mem_map.mp hp
  exact (h1 r hr').2.2
 ·intro p hp
  obtain ⟨r, hr', rfl⟩ := List.mem_map.mp hp
  exact PySem.W.codeHd_of_K KX (h1 r hr').1
 ·intro H a ns hl hb hT hS
  letI : Tbl := ⟨cs.map (·.2), w, Cl, Fl, Ll⟩
  have tabs : LamX.Tabs (cs.map (·.2)) H := fun p hp => by
   obtain ⟨r, hr', rfl⟩ := List.mem_map.mp hp
   exact LamX.TabS.nil (hT (r.1, r.2.1) (List.mem_map.mpr ⟨r, hr', rfl⟩))
  have wf : WF H (fun _ => False) := ⟨fun _ h => h.elim, tabs⟩
  rcases hS with (hx | ⟨ob, hx⟩) | hx
  ·refine ⟨fun _ => False, [.lst (ns.map Val.int)], .bl true, wf, Reps.cons ?_ Reps.nil, rfl, (law2 ns).trans (law ns ⟨hl, hb⟩), fun y H' _ r => by simpa only [Rep] using r⟩
   simp only [Rep]
   exact ⟨a, ns.map V.int, rfl, fun z => z, hx, reps_ints ns⟩
  ·refine ⟨fun _ => False, [.scr ns], .bl true, wf, Reps.cons ?_ Reps.nil, rfl, law ns ⟨hl, hb⟩, fun y H' _ r => by simpa only [Rep] using r⟩
   simp only [Rep]
   exact ⟨a, rfl, .inl ⟨ob, hx⟩⟩
  ·refine ⟨fun _ => False, [.scr ns], .bl true, wf, Reps.cons ?_ Reps.nil, rfl, law ns ⟨hl, hb⟩, fun y H' _ r => by simpa only [Rep] using r⟩
   simp only [Rep]
   exact ⟨a, rfl, .inr hx⟩
end VM
namespace VM
open PySem PySem.Spec PyProof.Rows L2
theorem tab_unique {l : List (Addr × Addr × Str)} (nd : (l.map (·.2.1)).Nodup) {q : Addr × Addr × Str} (hq : q ∈ l) : ∀ p ∈ l.map (·.2), p.1 = q.2.1 → p.2 = q.2.2 := by
 intro p hp e
 obtain ⟨r, hr, rfl⟩ := List.mem_map.mp hp
 induction l with
 | nil => cases hq
 | cons x l ih =>
  rw [List.map_cons, List.nodup_cons] at nd
  rcases List.mem_cons.mp hq with rfl | hq'
  ·rcases List.mem_cons.mp hr with rfl | hr'
   ·rfl
   ·exact absurd (List.mem_map.mpr ⟨r, hr', e⟩) nd.1
  ·rcases List.mem_cons.mp hr with rfl | hr'
   ·exact absurd (List.mem_map.mpr ⟨q, hq', e.symm⟩) nd.1
   ·exact ih nd.2 hq' hr' (List.mem_map.mpr ⟨r, hr', rfl⟩)
section
variable [Tbl] {P : Program} {w : World} {K : PySem.W.Frag} {mg : Str → Option Value} {base : Heap}
theorem fnL_okC {M : Nm} {Pr : Prog} {N ps Ng : List Str} {x xs p : Str} {st stg : Stmt} {f g : Addr} {fd fdg : FuncData} {n z j : Nat} {pre : SB} {s0 s1 seL seL2 : SE} {gn fr fm fg fa fsb fl : Nat} {c Pa : Addr}
  (F : Fun K x x st f fd) (Fg : Fun K xs xs stg g fdg) (hmg : mg xs = some (.ref g)) (hbg : Binds K fdg (Ng.take 3) [])
  (hd : chkLam M N ps pre j s0 s1 seL xs p st = true) (hg : chkSumBy M Ng gn fr fm fg fa stg = true) (hz : N.length = z + 2)
  (hbind : ∀ (u : Value) (q0 : Pos) (q : Str) (lbody : Expr) (lscope : Scope) (cl : List (Str × Addr)) (pm cv ctv : Value), bindArgs (PySem.W.kla_fn "<lambda>" q ⟨[], [⟨p, none, q0⟩], none, [], [], none, []⟩ lbody lscope cl pm cv ctv) ⟨[u], []⟩ = pure [(p, u)])
  (hsd : Pr.F fsb = some (sumD gn fr fm fg fa fl)) (hld : Pr.F fl = some (lamD seL2)) (hsl : ∀ (T : Tab) (t w g : Val), ev T seL2 [some t, some w, some g] = ev T seL (vLam z t w g))
  (fcs : ∀ m, m ≤ n → Facts M (Pr.tab m) P w K mg base (2 * m)) (TB : LamX.TabB base mg c Pa) (hcode : fd.code = .ref c) (hm : (Pa, tabName x) ∈ Tbl.T) (hu : ∀ p ∈ Tbl.T, p.1 = Pa → p.2 = tabName x) (hlm : ∀ N f es sc e, M.lm N f es sc e = false := by intros; rfl) :
  FnOk P w K mg base CX0 (2 * n + 2) f fd ps (spC K ps.length (runD (Pr.tab n) ⟨ps.length, N.length, pre.app #v[.ret [] (.call fsb #v[s0, s1, 0#0, 0#1])]⟩)) := by
 obtain ⟨Sg, h7, xm, xr, pm, pr, pq, e4, e5, hbody⟩ := sumby_look hg
 unfold chkLam at hd
 simp only [Bool.and_eq_true] at hd
 obtain ⟨⟨h1, h2⟩, hd⟩ := hd
 have S := scope_by h1
 have hpl : ps.length ≤ N.length := by have := congrArg List.length S.pre; rw [List.length_take] at this; omega
 split at hd
 ·rename_i xs' p1 a0 a1 params lbody lscope p2 p3 p4 heq
  simp only [Bool.and_eq_true, decide_eq_true_eq] at hd
  obtain ⟨⟨⟨⟨⟨⟨⟨⟨⟨⟨⟨rfl, b1⟩, b2⟩, b3⟩, b4⟩, b5⟩, b6⟩, b7⟩, b8⟩, b9⟩, b10⟩, b11⟩ := hd
  obtain ⟨oc, od, kV, doc, pmm, an, cdv, ct, osl, rfl, lk, hcd⟩ := F.ex
  have hcode : cdv = .ref c := hcode
  refine fn_of lk hcd S (fun vs H Q E ⟨O, as, r, w, ra, hl, _⟩ => by rw [ra.length]; exact hl) (fun A outer s H vs Q E hr ⟨O, as, r, w, ra, hl, e, q⟩ => ?_)
  have cx : Ctx2 (cxOf CX0 P _ K mg base N x (defScope st) f cdv A outer s H E).nox (2 * n) M (Pr.tab n) N := ⟨⟨fcs n (Nat.le_refl _), rfl, S.nd, rfl, hr.mono (by omega), noLm hlm⟩, S.kind, PassesOwn.never, fun _ => rfl⟩
  generalize hX : (cxOf CX0 P _ K mg base N x (defScope st) f cdv A outer s H E).nox = X at cx
  have xs1 : X.env.scope = defScope st := by rw [← hX]; rfl
  have xK : X.K = K := by rw [← hX]; rfl
  have hPE : PE X (.Call (.Name xs' p1) [a0, a1, .Lambda params lbody lscope p2] [] p3) (tE X.K (Pr.tab n) (.call fsb #v[s0, s1, 0#0, 0#1])) := by
   by_cases hn : n ≤ 1
   ·refine ⟨fun pins s σ H Q I ⟨O, ρ, v, w, eo, he, q⟩ => ?_⟩
    simp only [ev, evs] at he
    obtain ⟨vs, he0, he⟩ := bok he
    obtain ⟨kv, ek, he0⟩ := bok he0
    obtain ⟨vs1, he1, he0⟩ := bok he0
    obtain ⟨mv, em, he1⟩ := bok he1
    obtain ⟨vs2, he2, he1⟩ := bok he1
    obtain ⟨tv, et, he2⟩ := bok he2
    obtain ⟨vs3, he3, he2⟩ := bok he2
    obtain ⟨wv, ew, he3⟩ := bok he3
    cases he3; cases he2; cases he1; cases he0
    exact (no_sum hsd hn he).elim
   ·obtain ⟨k, rfl⟩ : ∃ k, n = k + 2 := ⟨n - 2, by omega⟩
    obtain ⟨i2, l2, g2⟩ := lclB_ok e4
    obtain ⟨i6, l6, g6⟩ := lclB_ok e5
    obtain ⟨q0, hpar⟩ := lamPar_ok b9
    subst hpar
    have f1 := fcs (k + 1) (by omega)
    have f0 := fcs k (by omega)
    subst hX
    refine pe_sumby (gn := gn) (fr := fr) (fm := fm) (fg := fg) (fa := fa) (seL := seL) (k := 2 * (k + 1)) (z := z) (T := Pr.tab (k + 2)) (T1 := Pr.tab (k + 1)) (T0 := Pr.tab k) (stg := stg) (Ng := Ng) (ps3 := Ng.take 3) (xm := xm) (eM := .Call (.Name xm pm) [.Name xr pr] [] pq) cx.toCtx (sndE s0 cx.toCtx b5).1 b3 (sndE s1 cx.toCtx b6).1 b4 hz
     Fg hmg (glB_gl b1) b2 hbg (by rw [List.length_take]; omega) h7 Sg ?_ rfl i2 (.inl l2) g2 i6 (.inl l6) g6 TB hcode hm hu (lam1_by b7) b8 rfl (fun u qq cl pm' cv ctv => hbind u q0 qq lbody lscope cl pm' cv ctv) ?_ ?_
    ·intro f' c' s' H' E' cdg O' lam tL hr' hok hPM
     exact hbody (Z := lamZ _ Ng xs' (defScope stg) g cdg s' H' E') (n := 2 * (k + 1)) ⟨⟨f1, rfl, Sg.nd, rfl, hr'.mono (by omega), noLm hlm⟩, Sg.kind, PassesOwn.never, fun _ => rfl⟩ rfl hok hPM
    ·intro A' outer' s' H' f' c' hr'
     have ndL : (N ++ [p]).Nodup := by
      rw [List.nodup_append]
      exact ⟨S.nd, by simp, fun a ha b hb e => by rw [List.mem_singleton] at hb; subst hb; subst e; exact b8 ha⟩
     exact (sndE (n := 2 * k) (M := M) (N := N ++ [p]) seL ⟨f0, rfl, ndL, rfl, hr'.mono (by omega), noLm hlm⟩ b10).1
    ·intro kv mv t w r' h
     have h : callP Pr ((k + 1) + 1) fsb [kv, mv, t, w] = .ok r' := h
     rw [callP_succ Pr (k + 1) fsb _ hsd] at h
     have h5 := sumD_run h
     have e6 : (fun g => (Pr.tab (k + 1)).C fl [t, w, g]) = fun gv => ev (Pr.tab k) seL (vLam z t w gv) := by
      funext gv
      show callP Pr (k + 1) fl [t, w, gv] = _
      rw [callP_succ Pr k fl _ hld, lamD_run, hsl]
     rw [← e6]; exact h5
  have hB : PSs X (defBody st) (tB false X.K (Pr.tab n) (pre.app #v[.ret [] (.call fsb #v[s0, s1, 0#0, 0#1])])) := by
   rw [← List.take_append_drop j (defBody st), heq]
   exact sndApp pre cx (by rw [xs1]; exact h2) (sB_seq (sS_ret hPE) sB_nil)
  refine ⟨_, PSs.nox (by rw [hX]; exact hB), ?_⟩
  unfold runD at e
  by_cases hlen : as.length = ps.length
  ·rw [if_pos hlen] at e
   obtain ⟨qq, h5, e⟩ := bok e
   refine ⟨H, O, _, qq, ?_, h5, ?_⟩
   ·rw [xK]; exact sok_start w ra (by show as.length + (N.length - ps.length) ≤ N.length; omega)
   ·rw [xK]
    obtain ⟨fl, ρ'⟩ := qq
    cases fl with
    | nx =>
     simp only at e
     cases e
     exact fun σ' H' so _ => q _ _ so.ext (by simp only [Rep])
    | rt v =>
     simp only at e
     cases e
     exact fun x H' ex r => q x H' ex r
  ·rw [if_neg hlen] at e; cases e
 ·cases hd
end
end VM
namespace VM
open PySem PySem.Spec PyProof.Rows L2
theorem clo_nil {cells : List (Str × Addr)} {names : List (Str × NameKind)} (h : ∀ y ∈ names, y.2 ≠ .free) : cloFrom cells names [] = [] := by
 cases e : cloFrom cells names [] with
 | nil => rfl
 | cons x l =>
  obtain ⟨nm, cc⟩ := x
  have m : (nm, cc) ∈ cloFrom cells names [] := by rw [e]; exact List.mem_cons_self ..
  rcases cloFrom_mem m with bad | ⟨fr, _⟩
  ·cases bad
  ·exact absurd rfl (h _ fr)
section
variable [Tbl] {X : Cx} {pins : List (Addr × Obj)} {σ : L2.St} {H HZ : Hp} {s s1 : Shared}
theorem inv_lam {c' : Addr} {q : Str} {ps : Arguments} {bd : Expr} {sc : Scope} {pm ct : Value} {t' : Nat} (I : Inv X pins σ H s) :
  Inv X pins σ (upd H s.heap.objs.size (LamO s.heap.objs.size c' q ps bd sc)) { s with heap := s.heap.push (PySem.W.kla_obj "<lambda>" q ps bd sc [] pm c' ct), toks := t' } := by
 refine I.laid (a := s.heap.objs.size) (fun b u e => Heap.get?_push_of_some _ e) (Nat.le_refl _) ?_
 have e : (s.heap.push (PySem.W.kla_obj "<lambda>" q ps bd sc [] pm c' ct)).get? s.heap.objs.size = some (PySem.W.kla_obj "<lambda>" q ps bd sc [] pm c' ct) := Heap.get?_push_size _ rfl
 exact ⟨⟨pm, ct, e⟩, ⟨_, e⟩, fun h1 h2 ⟨p, t, z⟩ st => ⟨p, t, st _ z⟩⟩
theorem lam_makeV {c P : Addr} {params : Arguments} {body : Expr} {scope : Scope} {pos : Pos} {E : Value → Shared → Prop} {Q : Value → Shared → Prop} (I : Inv X pins σ H s) (B : LamX.TabB X.base X.mg c P) (hc : X.env.code = .ref c)
  (hm : (P, X.env.qual ++ "<lambda>") ∈ Tbl.T) (hu : ∀ p ∈ Tbl.T, p.1 = P → p.2 = X.env.qual ++ "<lambda>") (tt : LamX.Tabs Tbl.T H) (hd : defaultsOf params X.env = ([], [])) (hfr : ∀ y ∈ scope.names, y.2 ≠ .free)
  (k : ∀ (f c' : Addr) (H1 : Hp) (s' : Shared), Inv X pins σ H1 s' → Ext H H1 → H1 f = some (LamO f c' (X.env.qual ++ "<lambda>") params body scope) → H1 c' = some (codeL X c') → Q (.ref f) s') :
  wpAny (model X.prog X.w) X.A
   (eval (.Lambda params body scope pos) X.env) Q E s := by
 have hf : ∀ y ∈ scope.names, y.2 = .free → ∃ c, X.env.cells.lookup y.1 = some c := fun y hy e => absurd e (hfr y hy)
 obtain ⟨ps, atP, tri, codes⟩ := tt _ hm
 have tabP : s.heap.get? P = some { cls := .none, data := .fields ps } := I.hok P _ atP
 have blt := B.bm.keeps I.bk
 have glo := I.mod.glob.keeps I.bk
 have cod := B.code.keeps I.bk
 apply PySem.W.kla_eval hd
 cases q : codeAmong pos ps.toList with
 | some cv =>
  obtain ⟨c', rfl, known⟩ := codes pos cv q
  apply PySem.W.kla_makeFunctionHit (closure_ok hf) I.ok.glob glo hc cod tabP tri q blt
  intro ctv h' tk kp big
  rw [clo_nil hfr]
  have J : Inv X pins σ H { s with heap := h', toks := tk } := I.kept fun b o e => kp b o e
  have nf : H h'.objs.size = none := I.hok.fresh big
  refine k _ c' _ _ (inv_lam (t' := tk) J) (Ext.upd nf) upd_same ?_
  rw [upd_ne (ne_of_none known nf)]; exact known
 | none =>
  apply PySem.W.kla_makeFunction (closure_ok hf) I.ok.glob glo hc cod tabP tri q B.gP blt
  intro c' ctv h' tk kp big lt rec_ tab'
  rw [clo_nil hfr]
  obtain ⟨_, oc, vs, t, e2, at1, at2, at3⟩ := rec_
  cases e2
  have newC : H c' = none := I.hok.fresh big
  have bigF : s.heap.objs.size ≤ h'.objs.size := Nat.le_trans big (Nat.le_of_lt lt)
  have neP : P ≠ c' := ne_of_none atP newC
  have J := LamX.inv_table (q := X.env.qual ++ "<lambda>") (t' := tk) (more := #[rawInt pos.line, rawInt pos.col, .ref c']) (h' := h') I atP (fun b o hb e => kp b o hb e) tab' big ⟨oc, vs, t, at1, at2, at3⟩
  have vis' : ∀ a o, H a = some o → NT o → upd (upd H P (.tbl (ps ++ #[rawInt pos.line, rawInt pos.col, .ref c']))) c' (codeL X c') a = some o := fun a o e nt => by
   have n1 : a ≠ c' := ne_of_none e newC
   have n2 : a ≠ P := fun z => by
    rw [z, atP] at e
    rw [← Option.some.inj e] at nt
    exact nt
   rw [upd_ne n1, upd_ne n2]
   exact e
  have x1 : Ext H (upd (upd H P (.tbl (ps ++ #[rawInt pos.line, rawInt pos.col, .ref c']))) c' (codeL X c')) := ⟨fun a o e nt => vis' a o e nt, fun a e => upd_nn (upd_nn e), fun _ p hp => by
   have inL : (ps ++ #[rawInt pos.line, rawInt pos.col, Value.ref c']).toList = ps.toList ++ [rawInt pos.line, rawInt pos.col, Value.ref c'] := by simp
   by_cases e : p.1 = P
   ·refine ⟨ps ++ #[rawInt pos.line, rawInt pos.col, .ref c'], ?_, ?_, fun p' cv h => ?_⟩
    ·rw [e, upd_ne neP]
     exact upd_same
    ·rw [inL]
     exact PySem.TriplesOk_snoc _ _ _ _ tri
    ·rw [hu p hp e]
     rw [inL] at h
     rcases LamX.among_app _ tri h with z | rfl
     ·obtain ⟨d, z1, z2⟩ := codes p' cv z
      exact ⟨d, z1, vis' _ _ z2 True.intro⟩
     ·exact ⟨c', rfl, upd_same⟩
   ·obtain ⟨qs, b1, b2, b3⟩ := tt p hp
    refine ⟨qs, ?_, b2, fun p' cv h => ?_⟩
    ·rw [upd_ne (ne_of_none b1 newC), upd_ne e]
     exact b1
    ·obtain ⟨d, z1, z2⟩ := b3 p' cv h
     exact ⟨d, z1, vis' _ _ z2 True.intro⟩⟩
  have nf : upd (upd H P (.tbl (ps ++ #[rawInt pos.line, rawInt pos.col, .ref c']))) c' (codeL X c') h'.objs.size = none := by
   have n1 : h'.objs.size ≠ c' := Nat.ne_of_gt lt
   have n2 : h'.objs.size ≠ P := Nat.ne_of_gt (Nat.lt_of_lt_of_le (Heap.lt_size tabP) bigF)
   refine (upd_ne n1).trans ((upd_ne n2).trans ?_)
   exact I.hok.fresh bigF
  refine k _ c' _ _ (inv_lam (t' := tk) J) (x1.trans (Ext.upd nf)) upd_same ?_
  rw [upd_ne (ne_of_none upd_same nf)]; exact upd_same
theorem pe_lamv {T : Tab} {f g : Nat} {c P : Addr} {ps : Arguments} {bd : Expr} {sc : Scope} {pos : Pos} (B : LamX.TabB X.base X.mg c P) (hc : X.env.code = .ref c)
  (hm : (P, X.env.qual ++ "<lambda>") ∈ Tbl.T) (hu : ∀ p ∈ Tbl.T, p.1 = P → p.2 = X.env.qual ++ "<lambda>") (hd : defaultsOf ps X.env = ([], [])) (hfr : ∀ y ∈ sc.names, y.2 ≠ .free) (hL : Tbl.L f ps bd sc = true)
  (hT : ∀ v, T.C g [] = .ok v → v = .sym (.lm f)) : PE X (.Lambda ps bd sc pos) (tE X.K T (.call g .nil)) := by
 refine ⟨fun pins s σ H Q I ⟨O, ρ, v, w, eo, hv, q⟩ => ?_⟩
 simp only [ev, evs] at hv
 obtain ⟨vs, h1, h2⟩ := bok hv
 cases h1
 obtain rfl := hT v h2
 refine lam_makeV I B hc hm hu w.tabs hd hfr fun fa c' H1 s' I1 x1 hf' hc' => ?_
 exact ⟨.ref fa, H1, I1, rfl, q _ _ x1 (by simp only [Rep, symRep]; exact ⟨fa, c', _, ps, bd, sc, hL, rfl, hf', hc'⟩)⟩
end
end VM
namespace VM
open PySem PySem.Spec PyProof.Rows L2
def noDfl : Arguments → Bool
 | ⟨_, _, _, _, kwd, _, d⟩ => kwd.isEmpty && d.isEmpty
theorem noDfl_ok {ps : Arguments} {env : Env} (h : noDfl ps = true) : defaultsOf ps env = ([], []) := by
 obtain ⟨a, b, c, d, kwd, f, dd⟩ := ps
 simp only [noDfl, Bool.and_eq_true, List.isEmpty_iff] at h
 obtain ⟨rfl, rfl⟩ := h
 simp only [defaultsOf, evalEach, evalEachOpt]
def lvLook (M : Nm) (Pr : Prog) (zv : Nat → Option Nat) (f : Nat) (es : SEs) (e : Expr) : Bool := match es with
 | .nil => match e with
  | .Lambda ps bd sc _ => match zv f with
   | some g => lmB M Pr g ps bd sc && noDfl ps
   | none => false
  | _ => false
 | _ => false
abbrev withLv (M : Nm) (Pr : Prog) (zv : Nat → Option Nat) : Nm := { M with lm := fun _ f es _ e => lvLook M Pr zv f es e }
theorem lmB_free [Tbl] {M : Nm} {Pr : Prog} {g : Nat} {ps : Arguments} {bd : Expr} {sc : Scope} (h : lmB M Pr g ps bd sc = true) : ∀ y ∈ sc.names, y.2 ≠ .free := by
 unfold lmB at h
 split at h
 ·split at h
  ·rw [Bool.and_eq_true, Bool.and_eq_true] at h
   exact fun y hy => ((lam0_by h.2.1).own y hy).2.2
  ·cases h
 ·cases h
structure LvH [Tbl] (X : Cx) (c Pa : Addr) : Prop where
 TB : LamX.TabB X.base X.mg c Pa
 code : X.env.code = .ref c
 hm : (Pa, X.env.qual ++ "<lambda>") ∈ Tbl.T
 hu : ∀ p ∈ Tbl.T, p.1 = Pa → p.2 = X.env.qual ++ "<lambda>"
theorem LvH.reach [Tbl] {c Pa : Addr} : ∀ {X Y : Cx}, Reach X Y → LvH X c Pa → LvH Y c Pa := by
 intro X Y r
 induction r with
 | refl => exact id
 | blk s H scope cl C fp r ih => exact fun h => ih ⟨h.TB, h.code, h.hm, h.hu⟩
section
variable [Tbl] {P : Program} {w : World} {K : PySem.W.Frag} {mg : Str → Option Value} {base : Heap}
theorem facts_lv {M : Nm} {T : Tab} {n : Nat} {lm : List Str → Nat → SEs → Scope → Expr → Bool} (f : Facts M T P w K mg base n) : Facts { M with lm := lm } T P w K mg base n :=
 ⟨f.fns, f.hw, f.gls, f.bis, f.hns, ⟨f.cl.cls, f.cl.iss, f.cl.mks, f.cl.mts, f.cl.mkh, f.cl.lms⟩⟩
def ZvOk (Pr : Prog) (zv : Nat → Option Nat) : Prop := ∀ f g, zv f = some g → ∃ g0, Pr.F f = some ⟨0, 0, .cons (.ret [] (.glob g0)) .nil⟩ ∧ Pr.G g0 = some (.sym (.lm g))
theorem zv_run {Pr : Prog} {zv : Nat → Option Nat} (z : ZvOk Pr zv) {n f g : Nat} (h : zv f = some g) {v : Val} (e : (Pr.tab n).C f [] = .ok v) : v = .sym (.lm g) := by
 obtain ⟨g0, hF, hG⟩ := z f g h
 cases n with
 | zero => simp only [callP, calls] at e; cases e
 | succ n =>
  rw [show (Pr.tab (n + 1)).C f [] = runD (Pr.tab n) ⟨0, 0, .cons (.ret [] (.glob g0)) .nil⟩ [] from callP_succ Pr n f [] hF] at e
  have e2 : (Except.ok (Val.sym (.lm g)) : R Val) = .ok v := by
   rw [← e]
   simp [runD, exs, ex, ev, ofO, hG, Bind.bind, Except.bind, vis]
  cases e2; rfl
theorem fnV_ok {M : Nm} {Pr : Prog} {zv : Nat → Option Nat} {N ps : List Str} {x : Str} {st : Stmt} {f c Pa : Addr} {fd : FuncData} {d : SD} {n k : Nat} (z : ZvOk Pr zv)
  (hL : ∀ g ps bd sc, lmB M Pr g ps bd sc = true → Tbl.L g ps bd sc = true)
  (F : Fun K x x st f fd) (hd : chkD (withLv M Pr zv) N ps d st = true) (fc : Facts M (Pr.tab n) P w K mg base k) (TB : LamX.TabB base mg c Pa) (hcode : fd.code = .ref c) (hm : (Pa, tabName x) ∈ Tbl.T) (hu : ∀ p ∈ Tbl.T, p.1 = Pa → p.2 = tabName x) :
  FnOk P w K mg base CX0 (k + 1) f fd ps (spC K ps.length (runD (Pr.tab n) d)) := by
 unfold chkD chkDr at hd
 simp only [Bool.and_eq_true] at hd
 obtain ⟨⟨⟨h1, h2⟩, h3⟩, h4⟩ := hd
 have S := scope_by h1
 have hnp := of_decide_eq_true h2
 have hns := of_decide_eq_true h3
 have hpl : ps.length ≤ N.length := by have := congrArg List.length S.pre; rw [List.length_take] at this; omega
 obtain ⟨oc, od, kV, doc, pmm, an, cdv, ct, osl, rfl, lk, hcd⟩ := F.ex
 have hcode : cdv = .ref c := hcode
 refine fn_of lk hcd S (fun vs H Q E ⟨O, as, r, w, ra, hl, _⟩ => by rw [ra.length]; exact hl) (fun A outer s H vs Q E hr ⟨O, as, r, wf, ra, hl, e, q⟩ => ?_)
 have hook : LvH (cxOf CX0 P w K mg base N x (defScope st) f cdv A outer s H E).nox c Pa := ⟨TB, hcode, hm, hu⟩
 have cx : Ctx2 (cxOf CX0 P w K mg base N x (defScope st) f cdv A outer s H E).nox k (withLv M Pr zv) (Pr.tab n) N := by
  refine ⟨⟨facts_lv fc, rfl, S.nd, rfl, hr, fun Y' r f' es e he => ?_⟩, S.kind, PassesOwn.never, fun _ => rfl⟩
  have he : lvLook M Pr zv f' es e = true := he
  unfold lvLook at he
  split at he
  ·split at he
   ·split at he
    ·rename_i g hg
     rw [Bool.and_eq_true] at he
     have h := hook.reach r
     exact pe_lamv h.TB h.code h.hm h.hu (noDfl_ok he.2) (lmB_free he.1) (hL _ _ _ _ he.1) fun v ev => zv_run z hg ev
    ·cases he
   ·cases he
  ·cases he
 refine ⟨_, PSs.nox (sndBl (n := k) (M := withLv M Pr zv) (N := N) d.body cx h4), ?_⟩
 unfold runD at e
 by_cases hlen : as.length = d.np
 ·rw [if_pos hlen] at e
  obtain ⟨qq, h5, e⟩ := bok e
  refine ⟨H, O, _, qq, sok_start wf ra (by show as.length + (d.ns - d.np) ≤ N.length; omega), h5, ?_⟩
  obtain ⟨fl, ρ'⟩ := qq
  cases fl with
  | nx =>
   simp only at e
   cases e
   exact fun σ' H' so _ => q _ _ so.ext (by simp only [Rep])
  | rt v =>
   simp only at e
   cases e
   exact fun x H' ex r => q x H' ex r
 ·rw [if_neg hlen] at e; cases e
theorem lamOkV_of {M : Nm} {Pr : Prog} {zv : Nat → Option Nat} {N ps : List Str} {x : Str} {st : Stmt} {f c Pa : Addr} {fd : FuncData} {d : SD} {i : Nat} (z : ZvOk Pr zv)
  (hL : ∀ g ps bd sc, lmB M Pr g ps bd sc = true → Tbl.L g ps bd sc = true)
  (F : Fun K x x st f fd) (hd : chkD (withLv M Pr zv) N ps d st = true) (hmx : mg x = some (.ref f)) (hb : Binds K fd ps []) (hF : Pr.F i = some d) (hfr : M.fr i = false) (TB : LamX.TabB base mg c Pa) (hcode : fd.code = .ref c) (hm : (Pa, tabName x) ∈ Tbl.T) (hu : ∀ p ∈ Tbl.T, p.1 = Pa → p.2 = tabName x) :
  LamOkC M Pr P w K mg base i x := by
 refine ⟨ps, st, f, fd, d, F, hmx, hb, hF, hfr, ?_, fun n fcs => (fnV_ok z hL F hd (fcs n (Nat.le_refl _)) TB hcode hm hu).mono (by omega)⟩
 unfold chkD chkDr at hd
 simp only [Bool.and_eq_true] at hd
 exact of_decide_eq_true hd.1.1.2
end
end VM
namespace VM
open PySem
def Le {α : Type} (x y : R α) : Prop := ∀ v, x = .ok v → y = .ok v
theorem Le.refl {α : Type} {x : R α} : Le x x := fun _ h => h
theorem Le.stk {α : Type} {y : R α} : Le (VM.stk : R α) y := fun _ h => nomatch h
theorem Le.bind {α β : Type} {x y : R α} {f g : α → R β} (h : Le x y) (k : ∀ a, Le (f a) (g a)) : Le (x >>= f) (y >>= g) := fun v e => by
 cases x with
 | error er => exact nomatch (show (Except.error er : R β) = .ok v from e)
 | ok a =>
  have : y = .ok a := h a rfl
  subst this
  exact k a v e
theorem Le.ite {α : Type} {c : Prop} [Decidable c] {x y x' y' : R α} (h1 : Le x x') (h2 : Le y y') : Le (if c then x else y) (if c then x' else y') := by
 split
 ·exact h1
 ·exact h2
structure TLe (T T' : Tab) : Prop where
 G : T.G = T'.G
 C : ∀ f vs, Le (T.C f vs) (T'.C f vs)
 H : ∀ f vs h, Le (T.H f vs h) (T'.H f vs h)
def tupK (vs : List Val) : R Val := if vs.length ≤ lineN then .ok (.tup vs) else stk
def lstK (vs : List Val) : R Val := if vs.length ≤ lineN then .ok (.lst vs) else stk
def evsK (f : SE → VE → R Val) : Nat → SEs → VE → R (List Val)
 | 0, _, _ => stk
 | k + 1, es, ρ => match es with
  | .nil => .ok []
  | .cons e r => f e ρ >>= fun v => evsK f k r ρ >>= fun vs => .ok (v :: vs)
def evBK (f : SE → VE → R Val) (an : Bool) : Nat → SEs → VE → R Val
 | 0, _, _ => stk
 | k + 1, es, ρ => match es with
  | .nil => stk
  | .cons e r => match r with
   | .nil => f e ρ
   | .cons e2 r2 => f e ρ >>= fun x => tru x >>= fun b => if b = an then evBK f an k (.cons e2 r2) ρ else .ok (.bl (!an))
def evOK (f : SE → VE → R Val) (s : SO) (ρ : VE) : R (Option Int) := match s with
 | .none => .ok none
 | .some e => f e ρ >>= fun x => asInt x >>= fun i => .ok (some i)
def evCK (f : SE → VE → R Val) (s : SO) (ρ : VE) : R Bool := match s with
 | .none => .ok true
 | .some e => f e ρ >>= tru
def rng1K (j : Int) : R (List Val) := if smallR 0 j then .ok (rngC 0 1 j.toNat) else stk
def rng2K (i j : Int) : R (List Val) := if smallR i j then .ok (rngC i 1 (j - i).toNat) else stk
def rng3K (i j k : Int) : R (List Val) := if smallR i j && decide (0 < k ∧ k < 1073741824) then .ok (rngC i k (rngN i j k)) else stk
def evIK (f : SE → VE → R Val) (s : SI) (ρ : VE) : R (List Val) := match s with
 | .seq e => f e ρ >>= seqV
 | .rng1 a => f a ρ >>= fun x => asInt x >>= rng1K
 | .rng2 a b => f a ρ >>= fun x => f b ρ >>= fun y => asInt x >>= fun i => asInt y >>= rng2K i
 | .rng3 a b c => f a ρ >>= fun x => f b ρ >>= fun y => f c ρ >>= fun z => asInt x >>= fun i => asInt y >>= fun j => asInt z >>= rng3K i j
 | .enum e => f e ρ >>= enmV
 | .zip a b => f a ρ >>= fun x => f b ρ >>= fun y => zpV x y
 | .keys e => f e ρ >>= keysV
def compK (f : SE → VE → R Val) (own : List Nat) (tg : Tg) (c : SO) (el : SE) (ρ : VE) (items : List Val) : R Val :=
 if items.length ≤ lineN then compGo (bindE tg) (evCK f c) (f el) (wipeE ρ own) items >>= fun ys => .ok (.lst ys) else stk
def chainK (f : SE → VE → R Val) (o' : Op2) (c : SE) (ρ : VE) (y : Val) (k : Bool) : R Val := if k = true then f c ρ >>= fun z => op2 o' y z else .ok (.bl false)
def iteK (f : SE → VE → R Val) (a b : SE) (ρ : VE) (k : Bool) : R Val := if k = true then f a ρ else f b ρ
def evK (T : Tab) : Nat → SE → VE → R Val
 | 0, _, _ => stk
 | k + 1, e, ρ => match e with
  | .var i => getE ρ i
  | .cint n => .ok (.int n)
  | .cbl b => .ok (.bl b)
  | .cnon => .ok .non
  | .cstr s => .ok (.str (Str.ofString s))
  | .glob g => ofO (T.G g)
  | .op o a b => evK T k a ρ >>= fun x => evK T k b ρ >>= fun y => op2 o x y
  | .neg a => evK T k a ρ >>= fun x => asInt x >>= fun i => .ok (.int (-i))
  | .not1 a => evK T k a ρ >>= fun x => tru x >>= fun b => .ok (.bl (!b))
  | .bop an es => evBK (evK T k) an k es ρ
  | .chain o o' a b c => evK T k a ρ >>= fun x => evK T k b ρ >>= fun y => op2 o x y >>= fun r => tru r >>= chainK (evK T k) o' c ρ y
  | .ite c a b => evK T k c ρ >>= fun x => tru x >>= iteK (evK T k) a b ρ
  | .tup es => evsK (evK T k) k es ρ >>= tupK
  | .lst es => evsK (evK T k) k es ρ >>= lstK
  | .ix a b => evK T k a ρ >>= fun x => evK T k b ρ >>= fun y => ixV x y
  | .sl a lo hi => evK T k a ρ >>= fun x => evOK (evK T k) lo ρ >>= fun l => evOK (evK T k) hi ρ >>= fun h => slV x l h
  | .rev a => evK T k a ρ >>= revV
  | .call f es => evsK (evK T k) k es ρ >>= T.C f
  | .bi b es => evsK (evK T k) k es ρ >>= bi1 b
  | .isi a t => evK T k a ρ >>= fun x => isiV x t >>= fun r => .ok (.bl r)
  | .comp own tg it c el => evIK (evK T k) it ρ >>= compK (evK T k) own tg c el ρ
  | .lrng es => evsK (evK T k) k es ρ >>= lrngV
  | .dget d x => evK T k d ρ >>= fun u => evK T k x ρ >>= fun v => idxV u v
  | .dgetd d x y => evK T k d ρ >>= fun u => evK T k x ρ >>= fun v => evK T k y ρ >>= fun w => dgetdV u v w
  | .cnt a b => evK T k a ρ >>= fun x => evK T k b ρ >>= fun y => cntV x y
  | .mxd a b => evK T k a ρ >>= fun x => evK T k b ρ >>= fun y => bi1 .maxd [x, y]
  | .mk c ns es => evsK (evK T k) k es (ρ.set 0 none) >>= mkV c (ns.map Str.ofString)
  | .make f es => evsK (evK T k) k es ρ >>= fun vs => T.C f (.non :: vs)
  | .fld a f => evK T k a ρ >>= fun x => fldV x (Str.ofString f)
  | .isc a c => evK T k a ρ >>= fun x => iscV x c >>= fun b => .ok (.bl b)
  | .dsp k2 a => evK T k a ρ >>= fun x => .ok (.dic false [.str (Str.ofString k2)] [x])
  | .mth m ids a es => evK T k a ρ >>= fun x => mthV (Str.ofString m) ids x >>= fun f => evsK (evK T k) k es ρ >>= fun vs => T.C f (x :: vs)
theorem compGo_le {bind : VE → Val → R VE} {c c' : VE → R Bool} {e e' : VE → R Val} (hc : ∀ ρ, Le (c ρ) (c' ρ)) (he : ∀ ρ, Le (e ρ) (e' ρ)) (ρ : VE) : ∀ l, Le (compGo bind c e ρ l) (compGo bind c' e' ρ l)
 | [] => Le.refl
 | v :: r => by
  have ih := compGo_le (bind := bind) hc he ρ r
  show Le (bind ρ v >>= fun ρ1 => c ρ1 >>= fun b => if b = true then e ρ1 >>= fun y => compGo bind c e ρ r >>= fun ys => .ok (y :: ys) else compGo bind c e ρ r)
   (bind ρ v >>= fun ρ1 => c' ρ1 >>= fun b => if b = true then e' ρ1 >>= fun y => compGo bind c' e' ρ r >>= fun ys => .ok (y :: ys) else compGo bind c' e' ρ r)
  exact Le.bind Le.refl fun ρ1 => Le.bind (hc ρ1) fun b => Le.ite (Le.bind (he ρ1) fun y => Le.bind ih fun _ => Le.refl) ih
section
variable {T T' : Tab} {f : SE → VE → R Val}
theorem evsK_le (hf : ∀ e ρ, Le (f e ρ) (ev T' e ρ)) : ∀ (k : Nat) (es : SEs) (ρ : VE), Le (evsK f k es ρ) (evs T' es ρ)
 | 0, _, _ => Le.stk
 | k + 1, .nil, ρ => by simp only [evsK, evs]; exact Le.refl
 | k + 1, .cons e r, ρ => by simp only [evsK, evs]; exact Le.bind (hf e ρ) fun v => Le.bind (evsK_le hf k r ρ) fun _ => Le.refl
theorem evBK_le (hf : ∀ e ρ, Le (f e ρ) (ev T' e ρ)) (an : Bool) : ∀ (k : Nat) (es : SEs) (ρ : VE), Le (evBK f an k es ρ) (evB T' an es ρ)
 | 0, _, _ => Le.stk
 | k + 1, .nil, ρ => Le.stk
 | k + 1, .cons e .nil, ρ => by simp only [evBK, evB]; exact hf e ρ
 | k + 1, .cons e (.cons e2 r2), ρ => by
  simp only [evBK, evB]
  exact Le.bind (hf e ρ) fun x => Le.bind Le.refl fun b => Le.ite (evBK_le hf an k (.cons e2 r2) ρ) Le.refl
theorem evOK_le (hf : ∀ e ρ, Le (f e ρ) (ev T' e ρ)) (s : SO) (ρ : VE) : Le (evOK f s ρ) (evO T' s ρ) := by
 cases s <;> simp only [evOK, evO]
 ·exact Le.refl
 ·exact Le.bind (hf _ ρ) fun _ => Le.refl
theorem evCK_le (hf : ∀ e ρ, Le (f e ρ) (ev T' e ρ)) (s : SO) (ρ : VE) : Le (evCK f s ρ) (evC T' s ρ) := by
 cases s <;> simp only [evCK, evC]
 ·exact Le.refl
 ·exact Le.bind (hf _ ρ) fun _ => Le.refl
theorem evIK_le (hf : ∀ e ρ, Le (f e ρ) (ev T' e ρ)) (s : SI) (ρ : VE) : Le (evIK f s ρ) (evI T' s ρ) := by
 cases s <;> simp only [evIK, evI]
 ·exact Le.bind (hf _ ρ) fun _ => Le.refl
 ·exact Le.bind (hf _ ρ) fun _ => Le.refl
 ·exact Le.bind (hf _ ρ) fun _ => Le.bind (hf _ ρ) fun _ => Le.refl
 ·exact Le.bind (hf _ ρ) fun _ => Le.bind (hf _ ρ) fun _ => Le.bind (hf _ ρ) fun _ => Le.refl
 ·exact Le.bind (hf _ ρ) fun _ => Le.refl
 ·exact Le.bind (hf _ ρ) fun _ => Le.bind (hf _ ρ) fun _ => Le.refl
 ·exact Le.bind (hf _ ρ) fun _ => Le.refl
theorem evK_le (t : TLe T T') : ∀ (k : Nat) (e : SE) (ρ : VE), Le (evK T k e ρ) (ev T' e ρ)
 | 0, _, _ => Le.stk
 | k + 1, e, ρ => by
  have ih := evK_le t k
  cases e <;> simp only [evK, ev]
  case var => exact Le.refl
  case cint => exact Le.refl
  case cbl => exact Le.refl
  case cnon => exact Le.refl
  case cstr => exact Le.refl
  case glob => rw [t.G]; exact Le.refl
  case op => exact Le.bind (ih _ ρ) fun _ => Le.bind (ih _ ρ) fun _ => Le.refl
  case neg => exact Le.bind (ih _ ρ) fun _ => Le.refl
  case not1 => exact Le.bind (ih _ ρ) fun _ => Le.refl
  case bop => exact evBK_le ih _ _ _ ρ
  case chain => exact Le.bind (ih _ ρ) fun _ => Le.bind (ih _ ρ) fun _ => Le.bind Le.refl fun _ => Le.bind Le.refl fun b => Le.ite (Le.bind (ih _ ρ) fun _ => Le.refl) Le.refl
  case ite => exact Le.bind (ih _ ρ) fun _ => Le.bind Le.refl fun b => Le.ite (ih _ ρ) (ih _ ρ)
  case tup => exact Le.bind (evsK_le ih _ _ ρ) fun _ => Le.refl
  case lst => exact Le.bind (evsK_le ih _ _ ρ) fun _ => Le.refl
  case ix => exact Le.bind (ih _ ρ) fun _ => Le.bind (ih _ ρ) fun _ => Le.refl
  case sl => exact Le.bind (ih _ ρ) fun _ => Le.bind (evOK_le ih _ ρ) fun _ => Le.bind (evOK_le ih _ ρ) fun _ => Le.refl
  case rev => exact Le.bind (ih _ ρ) fun _ => Le.refl
  case call f es => exact Le.bind (evsK_le ih _ _ ρ) fun vs => t.C f vs
  case bi => exact Le.bind (evsK_le ih _ _ ρ) fun _ => Le.refl
  case isi => exact Le.bind (ih _ ρ) fun _ => Le.refl
  case comp => exact Le.bind (evIK_le ih _ ρ) fun _ => Le.ite (Le.bind (compGo_le (fun ρ => evCK_le ih _ ρ) (fun ρ => ih _ ρ) _ _) fun _ => Le.refl) Le.stk
  case lrng => exact Le.bind (evsK_le ih _ _ ρ) fun _ => Le.refl
  case dget => exact Le.bind (ih _ ρ) fun _ => Le.bind (ih _ ρ) fun _ => Le.refl
  case dgetd => exact Le.bind (ih _ ρ) fun _ => Le.bind (ih _ ρ) fun _ => Le.bind (ih _ ρ) fun _ => Le.refl
  case cnt => exact Le.bind (ih _ ρ) fun _ => Le.bind (ih _ ρ) fun _ => Le.refl
  case mxd => exact Le.bind (ih _ ρ) fun _ => Le.bind (ih _ ρ) fun _ => Le.refl
  case mk => exact Le.bind (evsK_le ih _ _ _) fun _ => Le.refl
  case make => exact Le.bind (evsK_le ih _ _ ρ) fun vs => t.C _ _
  case fld => exact Le.bind (ih _ ρ) fun _ => Le.refl
  case isc => exact Le.bind (ih _ ρ) fun _ => Le.refl
  case dsp => exact Le.bind (ih _ ρ) fun _ => Le.refl
  case mth => exact Le.bind (ih _ ρ) fun _ => Le.bind Le.refl fun _ => Le.bind (evsK_le ih _ _ ρ) fun vs => t.C _ _
end
end VM
namespace VM
open PySem
def ownK (m : List Nat) (i : Nat) (ρ : SEnv) (v : Val) : R (Fl × SEnv) := match v with
 | .lst vs => if i < ρ.length then .ok (.nx, (kept m (flats vs) ρ).set i (.ow vs)) else stk
 | _ => stk
def parOK (m : List Nat) (i j : Nat) (ρ : SEnv) (v w : Val) : R (Fl × SEnv) := match v with
 | .lst vs => if i < ρ.length then .ok (.nx, ((kept m (flats vs && flat w) ρ).set i (.ow vs)).set j (.sh w)) else stk
 | _ => stk
def appK (m : List Nat) (i : Nat) (ρ : SEnv) (v : Val) : R (Fl × SEnv) := if m.contains i && !flat v then stk else
 match (kept m (flat v) ρ)[i]? with
 | some (.ow vs) => if vs.length < lineN then .ok (.nx, (kept m (flat v) ρ).set i (.ow (vs ++ [v]))) else stk
 | _ => stk
def extK (m : List Nat) (i : Nat) (ρ : SEnv) (v : Val) : R (Fl × SEnv) := match v with
 | .lst ws => if m.contains i && !flats ws then stk else
  match (kept m (flats ws) ρ)[i]? with
  | some (.ow vs) => if vs.length + ws.length ≤ lineN then .ok (.nx, (kept m (flats ws) ρ).set i (.ow (vs ++ ws))) else stk
  | _ => stk
 | _ => stk
def setiK (m : List Nat) (i : Nat) (ρ : SEnv) (v : Val) (z : Int) : R (Fl × SEnv) := if m.contains i && !flat v then stk else
 match (kept m (flat v) ρ)[i]? with
 | some (.ow vs) => match ixL vs.length z with
  | some j => .ok (.nx, (kept m (flat v) ρ).set i (.ow (vs.set j v)))
  | none => stk
 | _ => stk
def dputK (m : List Nat) (i : Nat) (ρ : SEnv) (v kv : Val) : R (Fl × SEnv) := if m.contains i && !flat v then stk else
 match (kept m (flat v) ρ)[i]? with
 | some (.od t ks vs) => if keyOk t kv && decide (ks.length < lineN) then .ok (.nx, (kept m (flat v) ρ).set i (.od t (putD ks vs kv v).1 (putD ks vs kv v).2)) else stk
 | _ => stk
def retvK (i : Nat) (ρ : SEnv) : R (Fl × SEnv) := match ρ[i]? with
 | some (.ow vs) => .ok (.rt (.lst vs), ρ)
 | _ => stk
def seqK (q : Fl × SEnv) (k : SEnv → R (Fl × SEnv)) : R (Fl × SEnv) := match q with
 | (.nx, ρ1) => k ρ1
 | (.rt v, ρ1) => .ok (.rt v, ρ1)
def exsK (f : SS → SEnv → R (Fl × SEnv)) : Nat → SB → SEnv → R (Fl × SEnv)
 | 0, _, _ => stk
 | k + 1, b, ρ => match b with
  | .nil => .ok (.nx, ρ)
  | .cons s r => f s ρ >>= fun q => seqK q (exsK f k r)
def exK (T : Tab) (d : Nat) : Nat → SS → SEnv → R (Fl × SEnv)
 | 0, _, _ => stk
 | k + 1, s, ρ => match s with
  | .asg m tg e => evK T d e (vis m ρ) >>= fun v => bindS tg (kept m (flat v) ρ) v >>= fun ρ1 => .ok (.nx, ρ1)
  | .par m i j a b => evK T d a (vis m ρ) >>= fun v => evK T d b (vis m ρ) >>= fun w => .ok (.nx, ((kept m (flat v && flat w) ρ).set i (.sh v)).set j (.sh w))
  | .parO m i j a b => evK T d a (vis m ρ) >>= fun v => evK T d b (vis m ρ) >>= parOK m i j ρ v
  | .own m i e => evK T d e (vis m ρ) >>= ownK m i ρ
  | .ownd i t => if i < ρ.length then .ok (.nx, ρ.set i (.od t [] [])) else stk
  | .app m i e => evK T d e (vis m ρ) >>= appK m i ρ
  | .ext m i e => evK T d e (vis m ρ) >>= extK m i ρ
  | .seti m i k e => evK T d e (vis m ρ) >>= fun v => evK T d k (vis m ρ) >>= fun kv => asInt kv >>= setiK m i ρ v
  | .dput m i k e => evK T d e (vis m ρ) >>= fun v => evK T d k (vis m ρ) >>= dputK m i ρ v
  | .iff m c a b => evK T d c (vis m ρ) >>= fun v => tru v >>= fun b' => if b' = true then exsK (exK T d k) d a ρ else exsK (exK T d k) d b ρ
  | .loop m tg it b => evIK (evK T d) it (vis m ρ) >>= fun items => forGo (bindS tg) (exsK (exK T d k) d b) items (kept m false ρ)
  | .whl m μ c b => evK T d μ (vis m ρ) >>= fun v => asInt v >>= fun z => whGo (fun ρ => evK T d c (vis m ρ) >>= tru) (exsK (exK T d k) d b) (z.toNat + 1) ρ
  | .ret m e => evK T d e (vis m ρ) >>= fun v => .ok (.rt v, ρ)
  | .retv i => retvK i ρ
  | .expr m e => evK T d e (vis m ρ) >>= fun v => .ok (.nx, ρ)
  | .raise c => .error (.exc c)
theorem forGo_le {bind : SEnv → Val → R SEnv} {b b' : SEnv → R (Fl × SEnv)} (hb : ∀ ρ, Le (b ρ) (b' ρ)) : ∀ l ρ, Le (forGo bind b l ρ) (forGo bind b' l ρ)
 | [], ρ => Le.refl
 | v :: r, ρ => by
  show Le (bind ρ v >>= fun ρ1 => b ρ1 >>= fun q => match q with | (.nx, ρ2) => forGo bind b r ρ2 | (.rt v, ρ2) => .ok (.rt v, ρ2)) (bind ρ v >>= fun ρ1 => b' ρ1 >>= fun q => match q with | (.nx, ρ2) => forGo bind b' r ρ2 | (.rt v, ρ2) => .ok (.rt v, ρ2))
  refine Le.bind Le.refl fun ρ1 => Le.bind (hb ρ1) fun q => ?_
  obtain ⟨fl, ρ2⟩ := q
  cases fl with
  | nx => exact forGo_le hb r ρ2
  | rt v => exact Le.refl
theorem whGo_le {c c' : SEnv → R Bool} {b b' : SEnv → R (Fl × SEnv)} (hc : ∀ ρ, Le (c ρ) (c' ρ)) (hb : ∀ ρ, Le (b ρ) (b' ρ)) : ∀ n ρ, Le (whGo c b n ρ) (whGo c' b' n ρ)
 | 0, ρ => Le.stk
 | n + 1, ρ => by
  show Le (c ρ >>= fun k => if k = true then b ρ >>= fun q => match q with | (.nx, ρ2) => whGo c b n ρ2 | (.rt v, ρ2) => .ok (.rt v, ρ2) else .ok (.nx, ρ)) (c' ρ >>= fun k => if k = true then b' ρ >>= fun q => match q with | (.nx, ρ2) => whGo c' b' n ρ2 | (.rt v, ρ2) => .ok (.rt v, ρ2) else .ok (.nx, ρ))
  refine Le.bind (hc ρ) fun k => Le.ite (Le.bind (hb ρ) fun q => ?_) Le.refl
  obtain ⟨fl, ρ2⟩ := q
  cases fl with
  | nx => exact whGo_le hc hb n ρ2
  | rt v => exact Le.refl
section
variable {T T' : Tab}
theorem exsK_le {f : SS → SEnv → R (Fl × SEnv)} (hf : ∀ s ρ, Le (f s ρ) (ex T' s ρ)) : ∀ (k : Nat) (b : SB) (ρ : SEnv), Le (exsK f k b ρ) (exs T' b ρ)
 | 0, _, _ => Le.stk
 | k + 1, .nil, ρ => by simp only [exsK, exs]; exact Le.refl
 | k + 1, .cons s r, ρ => by
  simp only [exsK, exs]
  refine Le.bind (hf s ρ) fun q => ?_
  obtain ⟨fl, ρ1⟩ := q
  cases fl with
  | nx => exact exsK_le hf k r ρ1
  | rt v => exact Le.refl
theorem exK_le (t : TLe T T') (d : Nat) : ∀ (k : Nat) (s : SS) (ρ : SEnv), Le (exK T d k s ρ) (ex T' s ρ)
 | 0, _, _ => Le.stk
 | k + 1, s, ρ => by
  have ih := exK_le t d k
  have he := evK_le t d
  cases s <;> simp only [exK, ex]
  case asg => exact Le.bind (he _ _) fun _ => Le.refl
  case par => exact Le.bind (he _ _) fun _ => Le.bind (he _ _) fun _ => Le.refl
  case parO => exact Le.bind (he _ _) fun v => Le.bind (he _ _) fun w => by cases v <;> exact Le.refl
  case own => exact Le.bind (he _ _) fun v => by cases v <;> exact Le.refl
  case ownd => exact Le.refl
  case app => exact Le.bind (he _ _) fun v => Le.refl
  case ext => exact Le.bind (he _ _) fun v => by cases v <;> exact Le.refl
  case seti => exact Le.bind (he _ _) fun v => Le.bind (he _ _) fun kv => Le.bind Le.refl fun z => Le.refl
  case dput => exact Le.bind (he _ _) fun v => Le.bind (he _ _) fun kv => Le.refl
  case iff => exact Le.bind (he _ _) fun v => Le.bind Le.refl fun b => Le.ite (exsK_le ih _ _ _) (exsK_le ih _ _ _)
  case loop => exact Le.bind (evIK_le he _ _) fun items => forGo_le (fun ρ => exsK_le ih _ _ _) _ _
  case whl => exact Le.bind (he _ _) fun v => Le.bind Le.refl fun z => whGo_le (fun ρ => Le.bind (he _ _) fun _ => Le.refl) (fun ρ => exsK_le ih _ _ _) _ _
  case ret => exact Le.bind (he _ _) fun v => Le.refl
  case retv => exact Le.refl
  case expr => exact Le.bind (he _ _) fun v => Le.refl
  case raise => exact Le.refl
end
def finK (q : Fl × SEnv) : R Val := match q.1 with
 | .nx => .ok .non
 | .rt v => .ok v
def runK (T : Tab) (dp : Nat) (d : SD) (args : List Val) : R Val :=
 if args.length = d.np then exsK (exK T dp dp) dp d.body (args.map Slot.sh ++ List.replicate (d.ns - d.np) Slot.no) >>= finK else stk
theorem runK_le {T T' : Tab} (t : TLe T T') (dp : Nat) (d : SD) (args : List Val) : Le (runK T dp d args) (runD T' d args) :=
 Le.ite (Le.bind (exsK_le (exK_le t dp dp) _ _ _) fun q => Le.refl) Le.stk
def puK (h : HHp) (ρ : HEnv) (m : List Nat) (v : Val) : R (HV × HHp) := if (flat v || onlyP m ρ) = true then .ok (.p v, h) else stk
def puFK (h : HHp) (ρ : HEnv) (m : List Nat) (v : Val) : R (HV × HHp) := match v with
 | .lst vs => if (flats vs || onlyP m ρ) = true then .ok (.r h.length, h ++ [.lst (vs.map HV.p)]) else stk
 | _ => stk
def varK (ρ : HEnv) (i : Nat) (h : HHp) : R (HV × HHp) := match ρ[i]? with
 | some (some v) => .ok (v, h)
 | _ => stk
def newLK (q : List HV × HHp) : R (HV × HHp) := if q.1.length ≤ lineN then .ok (.r q.2.length, q.2 ++ [.lst q.1]) else stk
def newTK (q : List HV × HHp) : R (HV × HHp) := if q.1.length ≤ lineN then .ok (.t q.1, q.2) else stk
def catK (h : HHp) (xs ys : List HV) : R (HV × HHp) := if xs.length + ys.length ≤ lineN then .ok (.r h.length, h ++ [.lst (xs ++ ys)]) else stk
def evHsK (f : HE → HEnv → HHp → R (HV × HHp)) : Nat → HEs → HEnv → HHp → R (List HV × HHp)
 | 0, _, _, _ => stk
 | k + 1, es, ρ, h => match es with
  | .nil => .ok ([], h)
  | .cons e r => f e ρ h >>= fun q => evHsK f k r ρ q.2 >>= fun z => .ok (q.1 :: z.1, z.2)
def evHIK (T : Tab) (d : Nat) (f : HE → HEnv → HHp → R (HV × HHp)) (s : HI) (ρ : HEnv) (h : HHp) : R (HIt × HHp) := match s with
 | .seq e => f e ρ h >>= fun q => itS q.2 q.1 >>= fun J => .ok (J, q.2)
 | .pu m it => evIK (evK T d) it (seeH m h ρ) >>= fun vs => if onlyP m ρ = true then .ok (.fx (vs.map HV.p), h) else stk
 | .rng m it => evIK (evK T d) it (seeH m h ρ) >>= fun vs => .ok (.fx (vs.map HV.p), h)
 | .enum e => f e ρ h >>= fun q => itL q.2 q.1 >>= fun J => .ok (.en J, q.2)
 | .zip a b => f a ρ h >>= fun q => f b ρ q.2 >>= fun z => itL z.2 q.1 >>= fun J => itL z.2 z.1 >>= fun J' => .ok (.zp J J', z.2)
def compHK (T : Tab) (d : Nat) (f : HE → HEnv → HHp → R (HV × HHp)) (own : List Nat) (tg : Tg) (m : List Nat) (c : SO) (el : HE) (ρ : HEnv) (q : HIt × HHp) : R (HV × HHp) :=
 if q.1.many q.2 ≤ lineN then compH (fun h ρ v => bindH h tg ρ v) (fun ρ h => evCK (evK T d) c (seeH m h ρ)) (fun ρ h => f el ρ h) q.1 (wipeH ρ own) (q.1.many q.2 + 1) 0 q.2 >>= fun z => .ok (.r z.2.length, z.2 ++ [.lst z.1]) else stk
def evHK (T : Tab) (d : Nat) : Nat → HE → HEnv → HHp → R (HV × HHp)
 | 0, _, _, _ => stk
 | k + 1, e, ρ, h => match e with
  | .pu m e => evK T d e (seeH m h ρ) >>= puK h ρ m
  | .puF m e => evK T d e (seeH m h ρ) >>= puFK h ρ m
  | .var i => varK ρ i h
  | .ix a m x => evHK T d k a ρ h >>= fun q => evK T d x (seeH m q.2 ρ) >>= fun kv => if flat kv = true then ixH q.2 q.1 kv >>= fun v => .ok (v, q.2) else stk
  | .lst es => evHsK (evHK T d k) k es ρ h >>= newLK
  | .tup es => evHsK (evHK T d k) k es ρ h >>= newTK
  | .lof a => evHK T d k a ρ h >>= fun q => itemsH q.2 q.1 >>= fun xs => .ok (.r q.2.length, q.2 ++ [.lst xs])
  | .cat a b => evHK T d k a ρ h >>= fun q => evHK T d k b ρ q.2 >>= fun z => lstH z.2 q.1 >>= fun xs => lstH z.2 z.1 >>= fun ys => catK z.2 xs ys
  | .sl a m lo hi => evHK T d k a ρ h >>= fun q => evOK (evK T d) lo (seeH m q.2 ρ) >>= fun l => evOK (evK T d) hi (seeH m q.2 ρ) >>= fun u => lstH q.2 q.1 >>= fun xs =>
   .ok (.r q.2.length, q.2 ++ [.lst ((xs.drop (HT.sIx xs.length 0 l)).take (HT.sIx xs.length xs.length u - HT.sIx xs.length 0 l))])
  | .comp own tg it m c el => evHIK T d (evHK T d k) it ρ h >>= compHK T d (evHK T d k) own tg m c el ρ
  | .call f es => evHsK (evHK T d k) k es ρ h >>= fun q => T.H f q.1 q.2
  | .dnew t => .ok (.r h.length, h ++ [.dic t [] []])
  | .pcl f es => evHsK (evHK T d k) k es ρ h >>= pclK T f
  | .rev a => evHK T d k a ρ h >>= fun q => lstH q.2 q.1 >>= fun xs => .ok (.r q.2.length, q.2 ++ [.lst xs.reverse])
  | .mk c ns es => evHsK (evHK T d k) k es (ρ.set 0 none) h >>= mkH c (ns.map Str.ofString)
  | .make f es => evHsK (evHK T d k) k es ρ h >>= fun q => T.H f (.p .non :: q.1) q.2
  | .fld a f => evHK T d k a ρ h >>= fun q => fldH q.2 q.1 (Str.ofString f) >>= fun v => .ok (v, q.2)
  | .pop a => evHK T d k a ρ h >>= popH
  | .pop0 a => evHK T d k a ρ h >>= pop0H
  | .callS f m es => evsK (evK T d) d es (seeH m h ρ) >>= fun vs => T.H f (vs.map HV.p) [] >>= fun q => snapH h q
  | .puI _ _ => stk
  | .tol a => evHK T d k a ρ h >>= fun q => itemsH q.2 q.1 >>= fun xs => .ok (.t xs, q.2)
  | .calld i a => evHK T d k a ρ h >>= fun q => heldK T (ρ[i]?.getD none) q
theorem compH_le {bind : HHp → HEnv → HV → R HEnv} {c c' : HEnv → HHp → R Bool} {e e' : HEnv → HHp → R (HV × HHp)} (hc : ∀ ρ h, Le (c ρ h) (c' ρ h)) (he : ∀ ρ h, Le (e ρ h) (e' ρ h)) (J : HIt) (ρ : HEnv) : ∀ k i h, Le (compH bind c e J ρ k i h) (compH bind c' e' J ρ k i h)
 | 0, i, h => Le.stk
 | k + 1, i, h => by
  simp only [compH]
  refine Le.bind Le.refl fun o => ?_
  cases o with
  | none => exact Le.refl
  | some v => exact Le.bind Le.refl fun ρ1 => Le.bind (hc ρ1 h) fun b => Le.ite (Le.bind (he ρ1 h) fun q => Le.bind (compH_le hc he J ρ k (i + 1) _) fun _ => Le.refl) (compH_le hc he J ρ k (i + 1) h)
section
variable {T T' : Tab} (t : TLe T T') (d : Nat) {f : HE → HEnv → HHp → R (HV × HHp)} (hf : ∀ e ρ h, Le (f e ρ h) (evH T' e ρ h))
include hf
theorem evHsK_le : ∀ (k : Nat) (es : HEs) (ρ : HEnv) (h : HHp), Le (evHsK f k es ρ h) (evHs T' es ρ h)
 | 0, _, _, _ => Le.stk
 | k + 1, .nil, ρ, h => by simp only [evHsK, evHs]; exact Le.refl
 | k + 1, .cons e r, ρ, h => by simp only [evHsK, evHs]; exact Le.bind (hf e ρ h) fun q => Le.bind (evHsK_le k r ρ q.2) fun _ => Le.refl
include t
theorem evHIK_le (s : HI) (ρ : HEnv) (h : HHp) : Le (evHIK T d f s ρ h) (evHI T' s ρ h) := by
 have he := evK_le t d
 cases s <;> simp only [evHIK, evHI]
 ·exact Le.bind (hf _ ρ h) fun _ => Le.refl
 ·exact Le.bind (evIK_le he _ _) fun _ => Le.refl
 ·exact Le.bind (evIK_le he _ _) fun _ => Le.refl
 ·exact Le.bind (hf _ ρ h) fun _ => Le.refl
 ·exact Le.bind (hf _ ρ h) fun _ => Le.bind (hf _ ρ _) fun _ => Le.refl
end
theorem heldK_le {T T' : Tab} (t : TLe T T') (o : Option HV) (q : HV × HHp) : Le (heldK T o q) (heldK T' o q) := by
 unfold heldK
 split
 ·exact t.H _ _ _
 ·exact Le.stk
theorem pclK_le {T T' : Tab} (t : TLe T T') (f : Nat) (q : List HV × HHp) : Le (pclK T f q) (pclK T' f q) := by
 unfold pclK
 cases omap plHV q.1 with
 | none => exact Le.stk
 | some vs => exact Le.bind (t.C f vs) fun _ => Le.refl
section
variable {T T' : Tab}
theorem evHK_le (t : TLe T T') (d : Nat) : ∀ (k : Nat) (e : HE) (ρ : HEnv) (h : HHp), Le (evHK T d k e ρ h) (evH T' e ρ h)
 | 0, _, _, _ => Le.stk
 | k + 1, e, ρ, h => by
  have ih := evHK_le t d k
  have he := evK_le t d
  cases e <;> simp only [evHK, evH]
  case pu => exact Le.bind (he _ _) fun _ => Le.refl
  case puF => exact Le.bind (he _ _) fun v => by cases v <;> exact Le.refl
  case var => exact Le.refl
  case ix => exact Le.bind (ih _ ρ h) fun q => Le.bind (he _ _) fun _ => Le.refl
  case lst => exact Le.bind (evHsK_le ih _ _ ρ h) fun _ => Le.refl
  case tup => exact Le.bind (evHsK_le ih _ _ ρ h) fun _ => Le.refl
  case lof => exact Le.bind (ih _ ρ h) fun _ => Le.refl
  case cat => exact Le.bind (ih _ ρ h) fun _ => Le.bind (ih _ ρ _) fun _ => Le.refl
  case sl => exact Le.bind (ih _ ρ h) fun _ => Le.bind (evOK_le he _ _) fun _ => Le.bind (evOK_le he _ _) fun _ => Le.refl
  case comp => exact Le.bind (evHIK_le t d ih _ ρ h) fun q => Le.ite (Le.bind (compH_le (fun ρ h => evCK_le he _ _) (fun ρ h => ih _ ρ h) _ _ _ _ _) fun _ => Le.refl) Le.stk
  case call => exact Le.bind (evHsK_le ih _ _ ρ h) fun q => t.H _ _ _
  case dnew => exact Le.refl
  case pcl => exact Le.bind (evHsK_le ih _ _ ρ h) fun q => pclK_le t _ q
  case rev => exact Le.bind (ih _ ρ h) fun _ => Le.refl
  case mk => exact Le.bind (evHsK_le ih _ _ _ h) fun _ => Le.refl
  case make => exact Le.bind (evHsK_le ih _ _ ρ h) fun q => t.H _ _ _
  case fld => exact Le.bind (ih _ ρ h) fun _ => Le.refl
  case pop => exact Le.bind (ih _ ρ h) fun _ => Le.refl
  case pop0 => exact Le.bind (ih _ ρ h) fun _ => Le.refl
  case callS => exact Le.bind (evsK_le he _ _ _) fun vs => Le.bind (t.H _ _ _) fun _ => Le.refl
  case puI => exact Le.stk
  case tol => exact Le.bind (ih _ ρ h) fun _ => Le.refl
  case calld => exact Le.bind (ih _ ρ h) fun _ => heldK_le t _ _
end
def appHK (ρ : HEnv) (n : HV) (v : HV) (h : HHp) : R (HFl × HEnv × HHp) := match n with
 | .r n => match h[n]? with
  | some (.lst ys) => if ys.length < lineN then .ok (.nx, ρ, h.set n (.lst (ys ++ [v]))) else stk
  | _ => stk
 | _ => stk
def extHK (ρ : HEnv) (n : HV) (zs : List HV) (h : HHp) : R (HFl × HEnv × HHp) := match n with
 | .r n => match h[n]? with
  | some (.lst ys) => if ys.length + zs.length ≤ lineN then .ok (.nx, ρ, h.set n (.lst (ys ++ zs))) else stk
  | _ => stk
 | _ => stk
def setHK (ρ : HEnv) (n : HV) (kv : Val) (v : HV) (h : HHp) : R (HFl × HEnv × HHp) := match n with
 | .r n => match h[n]? with
  | some (.lst ys) => match kv with
   | .int i => match L2.ixN ys.length i with
    | some j => .ok (.nx, ρ, h.set n (.lst (ys.set j v)))
    | none => stk
   | _ => stk
  | _ => stk
 | _ => stk
def dsetHK (ρ : HEnv) (n : HV) (kv : Val) (v : HV) (h : HHp) : R (HFl × HEnv × HHp) := match n with
 | .r n => match h[n]? with
  | some (.dic t ks vs) => if keyOk t kv && decide (ks.length < lineN) then .ok (.nx, ρ, h.set n (.dic t (putDH ks vs kv v).1 (putDH ks vs kv v).2)) else stk
  | _ => stk
 | _ => stk
def seqHK (q : HFl × HEnv × HHp) (k : HEnv → HHp → R (HFl × HEnv × HHp)) : R (HFl × HEnv × HHp) := match q with
 | (.nx, ρ1, h1) => k ρ1 h1
 | (.rt v, ρ1, h1) => .ok (.rt v, ρ1, h1)
def exHsK (f : HS → HEnv → HHp → R (HFl × HEnv × HHp)) : Nat → HB → HEnv → HHp → R (HFl × HEnv × HHp)
 | 0, _, _, _ => stk
 | k + 1, b, ρ, h => match b with
  | .nil => .ok (.nx, ρ, h)
  | .cons s r => f s ρ h >>= fun q => seqHK q (exHsK f k r)
def exHK (T : Tab) (d : Nat) : Nat → HS → HEnv → HHp → R (HFl × HEnv × HHp)
 | 0, _, _, _ => stk
 | k + 1, s, ρ, h => match s with
  | .asg tg e => evHK T d d e ρ h >>= fun q => bindH q.2 tg ρ q.1 >>= fun ρ1 => .ok (.nx, ρ1, q.2)
  | .par i j a b => evHK T d d a ρ h >>= fun q => evHK T d d b ρ q.2 >>= fun z => .ok (.nx, (ρ.set i (some q.1)).set j (some z.1), z.2)
  | .par3 i j l a b c => evHK T d d a ρ h >>= fun q => evHK T d d b ρ q.2 >>= fun z => evHK T d d c ρ z.2 >>= fun y => .ok (.nx, ((ρ.set i (some q.1)).set j (some z.1)).set l (some y.1), y.2)
  | .app a e => evHK T d d a ρ h >>= fun q => lstH q.2 q.1 >>= fun _ => evHK T d d e ρ q.2 >>= fun z => appHK ρ q.1 z.1 z.2
  | .ext a e => evHK T d d a ρ h >>= fun q => lstH q.2 q.1 >>= fun _ => evHK T d d e ρ q.2 >>= fun z => lstH z.2 z.1 >>= fun zs => extHK ρ q.1 zs z.2
  | .set a m x e => evHK T d d e ρ h >>= fun z => evHK T d d a ρ z.2 >>= fun q => evK T d x (seeH m q.2 ρ) >>= fun kv => setHK ρ q.1 kv z.1 q.2
  | .dset a m x e => evHK T d d e ρ h >>= fun z => evHK T d d a ρ z.2 >>= fun q => evK T d x (seeH m q.2 ρ) >>= fun kv => dsetHK ρ q.1 kv z.1 q.2
  | .iff m c a b => evK T d c (seeH m h ρ) >>= fun v => tru v >>= fun b' => if b' = true then exHsK (exHK T d k) d a ρ h else exHsK (exHK T d k) d b ρ h
  | .loop tg it b => evHIK T d (evHK T d d) it ρ h >>= fun q => forH (fun h ρ v => bindH h tg ρ v) (fun ρ h => exHsK (exHK T d k) d b ρ h) q.1 (q.1.many q.2 + 1) 0 ρ q.2
  | .loopw W tg it b => evHIK T d (evHK T d d) it ρ h >>= fun q => forH (fun h ρ v => bindH h tg (wipeH ρ W) v) (fun ρ h => exHsK (exHK T d k) d b ρ h) q.1 (q.1.many q.2 + 1) 0 ρ q.2
  | .whl m μ c b => evK T d μ (seeH m h ρ) >>= fun v => asInt v >>= fun z => whH (fun ρ h => evK T d c (seeH m h ρ) >>= tru) (fun ρ h => exHsK (exHK T d k) d b ρ h) (z.toNat + 1) ρ h
  | .ret e => evHK T d d e ρ h >>= fun q => .ok (.rt q.1, ρ, q.2)
  | .expr e => evHK T d d e ρ h >>= fun q => .ok (.nx, ρ, q.2)
  | .raise c => .error (.exc c)
  | .rvs a => evHK T d d a ρ h >>= rvsH ρ
theorem forH_le {bind : HHp → HEnv → HV → R HEnv} {b b' : HEnv → HHp → R (HFl × HEnv × HHp)} (hb : ∀ ρ h, Le (b ρ h) (b' ρ h)) (J : HIt) : ∀ k i ρ h, Le (forH bind b J k i ρ h) (forH bind b' J k i ρ h)
 | 0, i, ρ, h => Le.stk
 | k + 1, i, ρ, h => by
  simp only [forH]
  refine Le.bind Le.refl fun o => ?_
  cases o with
  | none => exact Le.refl
  | some v =>
   refine Le.bind Le.refl fun ρ1 => Le.bind (hb ρ1 h) fun q => ?_
   obtain ⟨fl, ρ2, h2⟩ := q
   cases fl with
   | nx => exact forH_le hb J k (i + 1) ρ2 h2
   | rt v => exact Le.refl
theorem whH_le {c c' : HEnv → HHp → R Bool} {b b' : HEnv → HHp → R (HFl × HEnv × HHp)} (hc : ∀ ρ h, Le (c ρ h) (c' ρ h)) (hb : ∀ ρ h, Le (b ρ h) (b' ρ h)) : ∀ n ρ h, Le (whH c b n ρ h) (whH c' b' n ρ h)
 | 0, ρ, h => Le.stk
 | n + 1, ρ, h => by
  simp only [whH]
  refine Le.bind (hc ρ h) fun k => Le.ite (Le.bind (hb ρ h) fun q => ?_) Le.refl
  obtain ⟨fl, ρ2, h2⟩ := q
  cases fl with
  | nx => exact whH_le hc hb n ρ2 h2
  | rt v => exact Le.refl
section
variable {T T' : Tab}
theorem exHsK_le {f : HS → HEnv → HHp → R (HFl × HEnv × HHp)} (hf : ∀ s ρ h, Le (f s ρ h) (exH T' s ρ h)) : ∀ (k : Nat) (b : HB) (ρ : HEnv) (h : HHp), Le (exHsK f k b ρ h) (exHs T' b ρ h)
 | 0, _, _, _ => Le.stk
 | k + 1, .nil, ρ, h => by simp only [exHsK, exHs]; exact Le.refl
 | k + 1, .cons s r, ρ, h => by
  simp only [exHsK, exHs]
  refine Le.bind (hf s ρ h) fun q => ?_
  obtain ⟨fl, ρ1, h1⟩ := q
  cases fl with
  | nx => exact exHsK_le hf k r ρ1 h1
  | rt v => exact Le.refl
theorem exHK_le (t : TLe T T') (d : Nat) : ∀ (k : Nat) (s : HS) (ρ : HEnv) (h : HHp), Le (exHK T d k s ρ h) (exH T' s ρ h)
 | 0, _, _, _ => Le.stk
 | k + 1, s, ρ, h => by
  have ih := exHK_le t d k
  have he := evK_le t d
  have hh := evHK_le t d d
  cases s <;> simp only [exHK, exH]
  case asg => exact Le.bind (hh _ _ _) fun _ => Le.refl
  case par => exact Le.bind (hh _ _ _) fun _ => Le.bind (hh _ _ _) fun _ => Le.refl
  case par3 => exact Le.bind (hh _ _ _) fun _ => Le.bind (hh _ _ _) fun _ => Le.bind (hh _ _ _) fun _ => Le.refl
  case app => exact Le.bind (hh _ _ _) fun _ => Le.bind Le.refl fun _ => Le.bind (hh _ _ _) fun _ => Le.refl
  case ext => exact Le.bind (hh _ _ _) fun _ => Le.bind Le.refl fun _ => Le.bind (hh _ _ _) fun _ => Le.refl
  case set => exact Le.bind (hh _ _ _) fun _ => Le.bind (hh _ _ _) fun _ => Le.bind (he _ _) fun _ => Le.refl
  case dset => exact Le.bind (hh _ _ _) fun _ => Le.bind (hh _ _ _) fun _ => Le.bind (he _ _) fun _ => Le.refl
  case iff => exact Le.bind (he _ _) fun v => Le.bind Le.refl fun b => Le.ite (exHsK_le ih _ _ _ _) (exHsK_le ih _ _ _ _)
  case loop => exact Le.bind (evHIK_le t d hh _ _ _) fun q => forH_le (fun ρ h => exHsK_le ih _ _ _ _) _ _ _ _ _
  case loopw => exact Le.bind (evHIK_le t d hh _ _ _) fun q => forH_le (fun ρ h => exHsK_le ih _ _ _ _) _ _ _ _ _
  case whl => exact Le.bind (he _ _) fun v => Le.bind Le.refl fun z => whH_le (fun ρ h => Le.bind (he _ _) fun _ => Le.refl) (fun ρ h => exHsK_le ih _ _ _ _) _ _ _
  case ret => exact Le.bind (hh _ _ _) fun _ => Le.refl
  case expr => exact Le.bind (hh _ _ _) fun _ => Le.refl
  case raise => exact Le.refl
  case rvs => exact Le.bind (hh _ _ _) fun _ => Le.refl
end
def finHK (q : HFl × HEnv × HHp) : R (HV × HHp) := match q.1 with
 | .nx => .ok (.p .non, q.2.2)
 | .rt v => .ok (v, q.2.2)
def runHK (T : Tab) (dp : Nat) (d : HD) (args : List HV) (h : HHp) : R (HV × HHp) :=
 if args.length = d.np then exHsK (exHK T dp dp) dp d.body (args.map some ++ List.replicate (d.ns - d.np) none) h >>= finHK else stk
theorem runHK_le {T T' : Tab} (t : TLe T T') (dp : Nat) (d : HD) (args : List HV) (h : HHp) : Le (runHK T dp d args h) (runH T' d args h) :=
 Le.ite (Le.bind (exHsK_le (exHK_le t dp dp) _ _ _ _) fun q => Le.refl) Le.stk
def callsK (P : Prog) : Nat → (Nat → List Val → R Val) × (Nat → List HV → HHp → R (HV × HHp))
 | 0 => (fun _ _ => stk, fun _ _ _ => stk)
 | n + 1 => (fun f args => match P.F f with
   | some d => runK ⟨P.G, (callsK P n).1, (callsK P n).2⟩ 30 d args
   | none => match P.HF f with
    | some d => pureH (runHK ⟨P.G, (callsK P n).1, (callsK P n).2⟩ 30 d) args
    | none => dynC (callsK P n).1 f args,
  fun f args h => match P.HF f with
   | some d => runHK ⟨P.G, (callsK P n).1, (callsK P n).2⟩ 30 d args h
   | none => stk)
theorem dynC_le {g g' : Nat → List Val → R Val} (h : ∀ k vs, Le (g k vs) (g' k vs)) (f : Nat) (args : List Val) : Le (dynC g f args) (dynC g' f args) := by
 unfold dynC
 split
 ·exact Le.ite (h _ _) Le.stk
 ·exact Le.stk
theorem callsK_up (P : Prog) : ∀ n m, n ≤ m → TLe ⟨P.G, (callsK P n).1, (callsK P n).2⟩ (P.tab m)
 | 0, _, _ => ⟨rfl, fun _ _ => Le.stk, fun _ _ _ => Le.stk⟩
 | n + 1, 0, h => by omega
 | n + 1, m + 1, h => by
  have ih := callsK_up P n m (by omega)
  refine ⟨rfl, fun f vs => ?_, fun f vs h => ?_⟩
  ·show Le (match P.F f with | some d => runK _ 30 d vs | none => match P.HF f with | some d => pureH (runHK _ 30 d) vs | none => dynC (callsK P n).1 f vs) (match P.F f with | some d => runD _ d vs | none => match P.HF f with | some d => pureH (runH _ d) vs | none => dynC (callP P m) f vs)
   cases P.F f with
   | some d => exact runK_le ih 30 d vs
   | none =>
    cases P.HF f with
    | some d => exact Le.bind (runHK_le ih 30 d _ _) fun q => Le.refl
    | none => exact dynC_le (fun k vs => ih.C k vs) f vs
  ·show Le (match P.HF f with | some d => runHK _ 30 d vs h | none => stk) (match P.HF f with | some d => runH _ d vs h | none => stk)
   cases P.HF f with
   | some d => exact runHK_le ih 30 d vs h
   | none => exact Le.stk
theorem callK_up {P : Prog} {n m f : Nat} {vs : List Val} {v : Val} (h : (callsK P n).1 f vs = .ok v) (hm : n ≤ m) : callP P m f vs = .ok v := (callsK_up P n m hm).C f vs v h
end VM
set_option maxHeartbeats 8000000
namespace VM
open PySem
def D280 : SD := ⟨1, 1, .cons (.ret [] (.mk 1 [] .nil)) .nil⟩
def D281 : SD := ⟨3, 3, .cons (.ret [] (.mk 2 ["many", "more"] #v[0#1, 0#2])) .nil⟩
def D389 : HD := ⟨2, 4, .cons (.ret (.mk 3 ["parts"] #v[.comp [2, 3] (.tp #v[3#2, 3#3]) (.seq 0#1) [] .none (.tup #v[0#2, .lof 0#3])])) .nil⟩
def D283 : SD := ⟨2, 2, .cons (.ret [] (.mk 4 ["row"] #v[.bi .list #v[0#1]])) .nil⟩
def D388 : HD := ⟨2, 2, .cons (.ret (.mk 4 ["row"] #v[.lof 0#1])) .nil⟩
def D1 : SD := ⟨1, 1, #v[.ret [] (.bop true #v[.isi 0#0 .int, .not1 (.isi 0#0 .bool)])]⟩
def D2 : SD := ⟨2, 2, #v[.par [] 0 1 (.bi .abs #v[0#0]) (.bi .abs #v[0#1]), .whl [] 0#1 (.op .gt 0#1 1#0) (#v[.par [] 0 1 0#1 (.op .mod 0#0 0#1)]), .ret [] 0#0]⟩
def D3 : SD := ⟨2, 3, #v[.asg [] 3#2 (.call 2 #v[0#0, 0#1]), .iff [] (.op .lt 0#1 1#0) (#v[.asg [] 3#2 (.neg 0#2)]) (.nil), .ret [] (.tup #v[.op .fdiv 0#0 0#2, .op .fdiv 0#1 0#2])]⟩
def D4 : SD := ⟨1, 1, #v[.iff [] (.bop false #v[.not1 (.isi 0#0 .tuple), .op .ne (.bi .len #v[0#0]) 1#2, .not1 (.call 1 #v[.ix 0#0 1#0]), .not1 (.call 1 #v[.ix 0#0 1#1])]) (#v[.ret [] (.cbl false)]) (.nil), .ret [] (.bop true #v[.op .gt (.ix 0#0 1#1) 1#0, .op .eq (.call 2 #v[.ix 0#0 1#0, .ix 0#0 1#1]) 1#1])]⟩
def D7 : SD := ⟨2, 2, #v[.ret [] (.call 3 #v[.op .add (.op .mul (.ix 0#0 1#0) (.ix 0#1 1#1)) (.op .mul (.ix 0#1 1#0) (.ix 0#0 1#1)), .op .mul (.ix 0#0 1#1) (.ix 0#1 1#1)])]⟩
def D8 : SD := ⟨2, 2, #v[.ret [] (.call 3 #v[.op .sub (.op .mul (.ix 0#0 1#0) (.ix 0#1 1#1)) (.op .mul (.ix 0#1 1#0) (.ix 0#0 1#1)), .op .mul (.ix 0#0 1#1) (.ix 0#1 1#1)])]⟩
def D9 : SD := ⟨2, 2, #v[.ret [] (.call 3 #v[.op .mul (.ix 0#0 1#0) (.ix 0#1 1#0), .op .mul (.ix 0#0 1#1) (.ix 0#1 1#1)])]⟩
def D10 : SD := ⟨2, 2, #v[.ret [] (.call 3 #v[.op .mul (.ix 0#0 1#0) (.ix 0#1 1#1), .op .mul (.ix 0#0 1#1) (.ix 0#1 1#0)])]⟩
def D27 : SD := ⟨1, 2, #v[.ret [] (.bop true #v[.isi 0#0 .list, .bi .all #v[.comp [1] 3#1 (.seq 0#0) .none (.call 1 #v[0#1])]])]⟩
def D28 : SD := ⟨1, 1, #v[.iff [] (.bop false #v[.not1 (.isi 0#0 .tuple), .op .ne (.bi .len #v[0#0]) 1#2, .not1 (.call 1 #v[.ix 0#0 1#0]), .op .lt (.ix 0#0 1#0) 1#1]) (#v[.ret [] (.cbl false)]) (.nil), .ret [] (.bop true #v[.call 27 #v[.ix 0#0 1#1], .chain .le .le 1#1 (.bi .len #v[.ix 0#0 1#1]) 2#1])]⟩
def D32 : SD := ⟨1, 4, #v[.iff [] (.bop false #v[.not1 (.isi 0#0 .list), .not1 (.chain .le .le 1#1 (.bi .len #v[0#0]) 2#2), .not1 (.bi .all #v[.comp [1] 3#1 (.seq 0#0) .none (.call 28 #v[0#1])])]) (#v[.raise 5]) (.nil), .iff [] (.bi .any #v[.comp [2, 3] (.tp #v[3#2, 3#3]) (.seq 0#0) .none (.op .ne (.bi .len #v[0#3]) (.bi .len #v[.ix (.ix 0#0 1#0) 1#1]))]) (#v[.raise 5]) (.nil)]⟩
def D29 : SD := ⟨1, 1, #v[.ret [] (.bi .len #v[.ix (.ix 0#0 1#0) 1#1])]⟩
def D132 : SD := ⟨2, 3, #v[.iff [] (.bop false #v[.not1 (.call 27 #v[0#0]), .op .gt (.bi .len #v[0#0]) 2#11]) (#v[.ret [] (.cbl false)]) (.nil), .ret [] (.bi .all #v[.comp [2] 3#2 (.seq 0#0) .none (.chain .le .lt 1#0 0#2 (.call 29 #v[0#1]))])]⟩
def D133 : SD := ⟨2, 2, #v[.iff [] (.not1 (.call 132 #v[0#1, 0#0])) (#v[.raise 6]) (.nil)]⟩
def D31 : SD := ⟨2, 4, #v[.asg [] 3#2 1#1, .loop [] 3#3 (.seq 0#1) (#v[.asg [] 3#2 (.op .mul 0#2 (.ix 0#0 0#3))]), .ret [] 0#2]⟩
def D34 : SD := ⟨2, 5, #v[.asg [] 3#2 (.bi .sum #v[.comp [3, 4] (.tp #v[3#3, 3#4]) (.seq 0#0) .none (.op .mul 0#3 (.call 31 #v[0#4, 0#1]))]), .ret [] (.call 3 #v[0#2, .bi .sum #v[.comp [3, 4] (.tp #v[3#3, 3#4]) (.seq 0#0) .none 0#3]])]⟩
def D219 : SD := ⟨2, 2, #v[.expr [] (.call 32 #v[0#0]), .expr [] (.call 133 #v[0#0, 0#1]), .ret [] (.call 34 #v[0#0, 0#1])]⟩
def D42 : HD := ⟨2, 7, #v[.expr (.pu [0] (.call 32 #v[0#0])), .expr (.pu [1] (.call 32 #v[0#1])), .iff [0, 1] (.bop false #v[.op .gt (.op .mul (.bi .len #v[0#0]) (.bi .len #v[0#1])) 2#2, .op .gt (.op .add (.call 29 #v[0#0]) (.call 29 #v[0#1])) 2#1]) (#v[.raise 10]) (.nil), .asg 3#2 (.lst .nil), .loop (.tp #v[3#3, 3#4]) (.seq 0#0) (#v[.ext 0#2 (.comp [5, 6] (.tp #v[3#5, 3#6]) (.seq 0#1) [] .none (.tup #v[.pu [3, 5] (.op .mul 0#3 0#5), .cat 0#4 0#6]))]), .ret 0#2]⟩
def D46 : SD := ⟨2, 4, #v[.ret [] (.op .add (.bi .sum #v[.comp [2, 3] (.tp #v[3#2, 3#3]) (.zip 0#0 0#1) .none (.op .mul 0#2 0#3)]) (.ix 0#0 (.neg 1#1)))]⟩
def D47 : HD := ⟨2, 5, #v[.expr (.pu [0] (.call 32 #v[0#0])), .iff [1] (.bop false #v[.not1 (.isi 0#1 .list), .not1 (.chain .le .le 1#1 (.bi .len #v[0#1]) 2#1)]) (#v[.raise 7]) (.nil), .iff [0, 1, 2] (.not1 (.bi .all #v[.comp [2] 3#2 (.seq 0#1) .none (.bop true #v[.call 27 #v[0#2], .op .eq (.bi .len #v[0#2]) (.op .add (.call 29 #v[0#0]) 1#1)])])) (#v[.raise 7]) (.nil), .ret (.comp [3, 4] (.tp #v[3#3, 3#4]) (.seq 0#0) [] .none (.tup #v[0#3, .comp [2] 3#2 (.seq 0#1) [] .none (.pu [2, 4] (.call 46 #v[0#2, 0#4]))]))]⟩
def D53 : SD := ⟨1, 1, #v[.iff [] (.bop false #v[.not1 (.isi 0#0 .str), .op .nin 0#0 2#4]) (#v[.raise 3]) (.nil)]⟩
def D89 : SD := ⟨1, 2, #v[.ret [] (.bi .sum #v[.comp [1] 3#1 (.seq 0#0) .none (.bi .len #v[0#1])])]⟩
def D74 : SD := ⟨1, 5, #v[.iff [] (.bop false #v[.not1 (.isi 0#0 .list), .not1 (.bi .all #v[.comp [2] 3#2 (.seq 0#0) .none (.bop true #v[.isi 0#2 .list, .op .ne 0#2 (.lst .nil)])])]) (#v[.ret [] (.cbl false)]) (.nil), .iff [] (.not1 (.bi .all #v[.comp [2] 3#2 (.seq 0#0) .none (.bi .all #v[.comp [4] 3#4 (.seq 0#2) .none (.call 1 #v[0#4])])])) (#v[.ret [] (.cbl false)]) (.nil), .own [] 1 (.lst .nil), .loop [] 3#2 (.seq 0#0) (#v[.ext [] 1 0#2]), .iff [1] (.bop false #v[.op .gt (.bi .len #v[0#1]) 2#9, .op .ne (.bi .sorted #v[0#1]) (.lrng #v[.bi .len #v[0#1]])]) (#v[.ret [] (.cbl false)]) (.nil), .asg [] 3#3 (.comp [2] 3#2 (.seq 0#0) .none (.ix 0#2 1#0)), .ret [] (.bop true #v[.bi .all #v[.comp [2] 3#2 (.seq 0#0) .none (.op .eq 0#2 (.bi .sorted #v[0#2]))], .op .eq 0#3 (.bi .sorted #v[0#3])])]⟩
def D76 : SD := ⟨1, 1, #v[.iff [] (.not1 (.call 74 #v[0#0])) (#v[.raise 4]) (.nil)]⟩
def D75 : SD := ⟨2, 8, #v[.loop [] (.tp #v[3#2, 3#3]) (.seq (.tup #v[.tup #v[0#0, 0#1], .tup #v[0#1, 0#0]])) (#v[.loop [] (.tp #v[3#4, 3#5]) (.zip 0#2 (.sl 0#2 (.some 1#1) .none)) (#v[.asg [] 3#6 (.comp [7] 3#7 (.seq 0#3) (.some (.chain .lt .lt 0#4 0#7 0#5)) 0#7), .iff [] (.bop true #v[.op .ne 0#6 (.lst .nil), .bi .any #v[.comp [7] 3#7 (.seq 0#3) .none (.op .gt 0#7 0#5)]]) (#v[.ret [] (.cbl true)]) (.nil)])]), .ret [] (.cbl false)]⟩
def D77 : SD := ⟨2, 5, #v[.iff [] (.op .eq 0#1 (.cstr "rows")) (#v[.ret [] (.bi .all #v[.comp [2] 3#2 (.seq 0#0) .none (.op .eq (.op .add (.op .sub (.ix 0#2 (.neg 1#1)) (.ix 0#2 1#0)) 1#1) (.bi .len #v[0#2]))])]) (.nil), .iff [] (.op .eq 0#1 (.cstr "nested")) (#v[.ret [] (.not1 (.bi .any #v[.comp [3, 2] (.tp #v[3#3, 3#2]) (.enum 0#0) .none (.bi .any #v[.comp [4] 3#4 (.seq (.sl 0#0 .none (.some 0#3))) .none (.call 75 #v[0#2, 0#4])])]))]) (.nil), .ret [] (.cbl true)]⟩
def D82 : SD := ⟨2, 2, #v[.expr [] (.call 76 #v[0#0]), .expr [] (.call 53 #v[0#1]), .ret [] (.call 77 #v[0#0, 0#1])]⟩
def D84 : HD := ⟨1, 4, #v[.asg 3#1 (.comp [3] 3#3 (.rng [0] (.rng1 (.op .add (.mxd 0#0 (.neg 1#1)) 1#1))) [] .none (.lst .nil)), .loop (.tp #v[3#2, 3#3]) (.enum 0#0) (#v[.app (.ix 0#1 [3] 0#3) 0#2]), .ret 0#1]⟩
def D83 : SD := ⟨1, 6, #v[.asg [] 3#1 (.lst #v[.lst .nil]), .loop [] 3#2 (.rng1 0#0) (#v[.own [] 3 (.lst .nil), .loop [] 3#4 (.seq 0#1) (#v[.ext [] 3 (.comp [5] 3#5 (.rng1 (.op .add (.mxd 0#4 (.neg 1#1)) 1#2)) .none (.op .add 0#4 (.lst #v[0#5])))]), .asg [3] 3#1 0#3]), .ret [] 0#1]⟩
def D85 : HD := ⟨2, 4, #v[.ret (.comp [2] 3#2 (.seq (.comp [3] 3#3 (.seq (.pu [0] (.call 83 #v[0#0]))) [] .none (.call 84 #v[0#3]))) [1, 2] (.some (.call 77 #v[0#2, 0#1])) 0#2)]⟩
def D61 : SD := ⟨1, 3, #v[.asg [] 3#1 1#1, .loop [] 3#2 (.rng1 0#0) (#v[.asg [] 3#1 (.op .fdiv (.op .mul (.op .mul 0#1 1#2) (.op .add (.op .mul 1#2 0#2) 1#1)) (.op .add 0#2 1#2))]), .ret [] 0#1]⟩
def D90 : SD := ⟨2, 6, #v[.ownd 2 false, .loop [] (.tp #v[3#3, 3#4]) (.enum 0#1) (#v[.loop [] 3#5 (.seq 0#4) (#v[.dput [] 2 0#5 0#3])]), .ret [2] (.bi .all #v[.comp [4] 3#4 (.seq 0#0) .none (.bi .all #v[.comp [5] 3#5 (.seq 0#4) .none (.op .eq (.ix 0#2 0#5) (.ix 0#2 (.ix 0#4 1#0)))])])]⟩
def D91 : SD := ⟨2, 2, #v[.expr [] (.call 76 #v[0#0]), .expr [] (.call 76 #v[0#1]), .iff [] (.op .ne (.call 89 #v[0#0]) (.call 89 #v[0#1])) (#v[.raise 4]) (.nil)]⟩
def D92 : SD := ⟨2, 2, #v[.expr [] (.call 91 #v[0#0, 0#1]), .ret [] (.call 90 #v[0#0, 0#1])]⟩
def D93 : HD := ⟨2, 9, #v[.asg 3#2 (.pu [0] (.lrng #v[.call 89 #v[0#0]])), .loop 3#3 (.seq (.pu [0, 1] (.op .add 0#0 0#1))) (#v[.loop 3#4 (.seq 0#3) (#v[.asg (.tp #v[3#5, 3#6]) (.tup #v[.ix 0#2 [4] 0#4, .ix 0#2 [3] (.ix 0#3 1#0)]), .asg 3#2 (.pu [2, 5, 6, 8] (.comp [8] 3#8 (.seq 0#2) .none (.ite (.op .eq 0#8 0#5) 0#6 0#8)))])]), .asg 3#7 (.lst .nil), .loop 3#8 (.seq 0#2) (#v[.iff [7, 8] (.op .nin 0#8 0#7) (#v[.app 0#7 0#8]) (.nil)]), .ret (.call 84 #v[.puF [2, 7, 8] (.comp [8] 3#8 (.seq 0#2) .none (.dget 0#7 0#8))])]⟩
def D94 : HD := ⟨2, 2, #v[.expr (.pu [0, 1] (.call 91 #v[0#0, 0#1])), .ret (.call 93 #v[0#0, 0#1])]⟩
def D99 : HD := ⟨1, 11, #v[.asg 3#1 (.pu [0] (.call 89 #v[0#0])), .asg 3#2 (.dnew false), .loop 3#3 (.seq 0#0) (#v[.loop (.tp #v[3#4, 3#5]) (.zip 0#3 (.cat (.sl 0#3 [] (.some 1#1) .none) (.sl 0#3 [] .none (.some 1#1)))) (#v[.dset 0#2 [4] 0#4 0#5])]), .asg 3#6 (.puF [1] (.op .mul (.lst #v[.neg 1#1]) 0#1)), .asg 3#7 (.pu [] 1#0), .loop 3#8 (.rng [1] (.rng1 0#1)) (#v[.asg 3#9 0#8, .whl [1, 6, 9] 0#1 (.op .lt (.ix 0#6 0#9) 1#0) (#v[.set 0#6 [9] 0#9 0#7, .asg 3#9 (.pu [1, 2, 9, 10] (.ix (.comp [10] 3#10 (.keys 0#2) (.some (.op .eq (.ix 0#2 0#10) (.op .mod (.op .add 0#9 1#1) 0#1))) 0#10) 1#0))]), .asg 3#7 (.pu [6] (.op .add (.bi .max1 #v[0#6]) 1#1))]), .ret (.call 84 #v[0#6])]⟩
def D100 : HD := ⟨1, 1, #v[.expr (.pu [0] (.call 76 #v[0#0])), .iff [0] (.not1 (.call 77 #v[0#0, .cstr "nested"])) (#v[.raise 4]) (.nil), .ret (.call 99 #v[0#0])]⟩
def D104 : SD := ⟨2, 2, #v[.ret [] (.ite (.op .eq (.op .mod 0#1 1#2) 1#0) 0#0 (.neg 0#0))]⟩
def D105 : SD := ⟨2, 6, #v[.asg [] 3#2 (.bi .max2 #v[1#0, .op .sub (.bi .len #v[0#0]) 1#1]), .iff [] (.op .eq 0#1 (.cstr "rows")) (#v[.ret [] (.call 104 #v[1#1, 0#2])]) (.nil), .asg [] 3#3 1#1, .iff [] (.op .eq 0#1 (.cstr "all")) (#v[.loop [] 3#4 (.rng2 1#2 (.op .add 0#2 1#1)) (#v[.asg [] 3#3 (.op .mul 0#3 0#4)]), .ret [] (.call 104 #v[0#3, 0#2])]) (.nil), .loop [] 3#5 (.seq (.call 99 #v[0#0])) (#v[.asg [] 3#3 (.op .mul 0#3 (.call 104 #v[.call 61 #v[.op .sub (.bi .len #v[0#5]) 1#1], .op .sub (.bi .len #v[0#5]) 1#1]))]), .ret [] 0#3]⟩
def D106 : SD := ⟨2, 2, #v[.expr [] (.call 76 #v[0#0]), .expr [] (.call 53 #v[0#1]), .iff [] (.not1 (.call 77 #v[0#0, 0#1])) (#v[.raise 4]) (.nil), .ret [] (.call 105 #v[0#0, 0#1])]⟩
def D129 : SD := ⟨1, 2, #v[.iff [] (.bop false #v[.not1 (.isi 0#0 .list), .op .gt (.bi .len #v[0#0]) 2#10, .not1 (.bi .all #v[.comp [1] 3#1 (.seq 0#0) .none (.call 4 #v[0#1])])]) (#v[.raise 8]) (.nil)]⟩
def D49 : SD := ⟨2, 4, #v[.asg [] 3#2 1#1, .loop [] 3#3 (.rng1 0#1) (#v[.asg [] 3#2 (.op .fdiv (.op .mul 0#2 (.op .sub 0#0 0#3)) (.op .add 0#3 1#1))]), .ret [] 0#2]⟩
def D51 : SD := ⟨4, 5, #v[.asg [] 3#4 (.op .sub 0#2 0#3), .iff [] (.op .eq 0#0 (.cstr "rows")) (#v[.ret [] (.ix (.op .add (.lst #v[2#6]) 0#1) 0#4)]) (.nil), .iff [] (.op .eq 0#0 (.cstr "all")) (#v[.ret [] (.call 9 #v[.tup #v[.call 49 #v[.op .sub 0#2 1#1, .op .sub 0#3 1#1], 1#1], .ix (.op .add (.lst #v[2#6]) 0#1) 0#4])]) (.nil), .ret [] (.call 50 #v[0#1, 0#3, 0#4])]⟩
def D50 : SD := ⟨3, 10, #v[.asg [] 3#3 (.op .add (.lst #v[2#6]) 0#0), .asg [] 3#4 (.op .add (.lst #v[2#6]) (.op .mul (.lst #v[2#7]) 0#2)), .loop [] 3#5 (.rng1 0#1) (#v[.own [] 6 (.lst .nil), .loop [] 3#7 (.rng1 (.op .add 0#2 1#1)) (#v[.asg [] 3#8 2#7, .loop [] 3#9 (.rng1 (.op .add 0#7 1#1)) (#v[.asg [] 3#8 (.call 7 #v[0#8, .call 9 #v[.ix 0#3 0#9, .ix 0#4 (.op .sub 0#7 0#9)]])]), .app [] 6 0#8]), .asg [6] 3#4 0#6]), .ret [] (.ix 0#4 0#2)]⟩
def D54 : SD := ⟨2, 6, #v[.own [] 2 (.lst .nil), .loop [] 3#3 (.rng2 1#1 (.op .add (.bi .len #v[0#0]) 1#1)) (#v[.asg [] 3#4 (.ix 0#0 (.op .sub 0#3 1#1)), .loop [] 3#5 (.rng2 1#1 0#3) (#v[.asg [2] 3#4 (.call 8 #v[0#4, .call 9 #v[.ix 0#2 (.op .sub 0#5 1#1), .call 51 #v[0#1, 0#0, 0#3, 0#5]]])]), .app [] 2 0#4]), .retv 2]⟩
def D55 : SD := ⟨2, 6, #v[.own [] 2 (.lst .nil), .loop [] 3#3 (.rng2 1#1 (.op .add (.bi .len #v[0#0]) 1#1)) (#v[.asg [] 3#4 2#7, .loop [] 3#5 (.rng2 1#1 (.op .add 0#3 1#1)) (#v[.asg [2] 3#4 (.call 7 #v[0#4, .call 9 #v[.ix 0#0 (.op .sub 0#5 1#1), .call 51 #v[0#1, 0#2, 0#3, 0#5]]])]), .app [] 2 0#4]), .retv 2]⟩
def D130 : SD := ⟨2, 2, #v[.expr [] (.call 129 #v[0#0]), .expr [] (.call 53 #v[0#1]), .ret [] (.call 54 #v[0#0, 0#1])]⟩
def D131 : SD := ⟨2, 2, #v[.expr [] (.call 129 #v[0#0]), .expr [] (.call 53 #v[0#1]), .ret [] (.call 55 #v[0#0, 0#1])]⟩
def D209 : SD := ⟨3, 3, #v[.expr [] (.call 129 #v[0#0]), .expr [] (.call 53 #v[0#1]), .expr [] (.call 53 #v[0#2]), .ret [] (.call 54 #v[.call 55 #v[0#0, 0#1], 0#2])]⟩
def D137 : SD := ⟨2, 4, #v[.ret [] (.bi .all #v[.comp [2] 3#2 (.seq 0#1) .none (.bi .all #v[.comp [3] 3#3 (.seq 0#2) .none (.op .eq (.ix 0#0 0#3) (.ix 0#0 (.ix 0#2 1#0)))])])]⟩
def D138 : SD := ⟨4, 9, #v[.asg [] 3#4 (.lst #v[.call 54 #v[0#0, 0#3], .call 54 #v[0#1, 0#3]]), .asg [] 3#5 2#7, .loop [] 3#6 (.seq (.call 85 #v[.bi .len #v[0#2], 0#3])) (#v[.iff [] (.call 137 #v[0#2, 0#6]) (#v[.asg [] 3#7 2#6, .loop [] 3#8 (.seq 0#6) (#v[.asg [] 3#7 (.call 9 #v[0#7, .ix (.ix 0#4 (.ix 0#2 (.ix 0#8 1#0))) (.op .sub (.bi .len #v[0#8]) 1#1)])]), .asg [] 3#5 (.call 7 #v[0#5, 0#7])]) (.nil)]), .ret [] 0#5]⟩
def D139 : SD := ⟨4, 5, #v[.expr [] (.call 129 #v[0#0]), .expr [] (.call 129 #v[0#1]), .iff [] (.bop false #v[.not1 (.call 27 #v[0#2]), .op .gt (.bi .len #v[0#2]) 2#11, .not1 (.bi .all #v[.comp [4] 3#4 (.seq 0#2) .none (.op .inn 0#4 (.tup #v[1#0, 1#1]))])]) (#v[.raise 6]) (.nil), .expr [] (.call 53 #v[0#3]), .iff [] (.bop false #v[.op .gt (.cnt 0#2 1#0) (.bi .len #v[0#0]), .op .gt (.cnt 0#2 1#1) (.bi .len #v[0#1])]) (#v[.raise 11]) (.nil), .ret [] (.call 138 #v[0#0, 0#1, 0#2, 0#3])]⟩
def D145 : SD := ⟨3, 7, #v[.expr [] (.call 129 #v[0#0]), .expr [] (.call 129 #v[0#1]), .expr [] (.call 53 #v[0#2]), .asg [] 3#3 (.bi .min2 #v[.bi .len #v[0#0], .bi .len #v[0#1]]), .asg [] 3#4 (.comp [5, 6] (.tp #v[3#5, 3#6]) (.zip (.call 54 #v[.sl 0#0 .none (.some 0#3), 0#2]) (.call 54 #v[.sl 0#1 .none (.some 0#3), 0#2])) .none (.call 7 #v[0#5, 0#6])), .ret [] (.call 55 #v[0#4, 0#2])]⟩
def D157 : SD := ⟨2, 5, #v[.ownd 2 false, .loop [] (.tp #v[3#3, 3#4]) (.seq 0#0) (#v[.dput [2] 2 (.ix 0#4 0#1) (.op .add (.dgetd 0#2 (.ix 0#4 0#1) 1#0) 0#3)]), .ret [2] 0#2]⟩
def D158 : SD := ⟨3, 12, #v[.par [] 3 4 (.call 157 #v[0#0, 0#1]) (.call 157 #v[0#0, 0#2]), .ownd 5 true, .loop [] (.tp #v[3#6, 3#7]) (.seq 0#0) (#v[.asg [] 3#8 (.tup #v[.ix 0#7 0#1, .ix 0#7 0#2]), .dput [5] 5 0#8 (.op .add (.dgetd 0#5 0#8 1#0) 0#6)]), .asg [] 3#9 (.bi .sum #v[.comp [6, 7] (.tp #v[3#6, 3#7]) (.seq 0#0) .none 0#6]), .loop [] 3#10 (.keys 0#3) (#v[.loop [] 3#11 (.keys 0#4) (#v[.iff [5] (.op .ne (.op .mul (.dgetd 0#5 (.tup #v[0#10, 0#11]) 1#0) 0#9) (.op .mul (.ix 0#3 0#10) (.ix 0#4 0#11))) (#v[.ret [] (.cbl false)]) (.nil)])]), .ret [] (.cbl true)]⟩
def D147 : SD := ⟨5, 15, #v[.asg [] 3#5 (.bi .sum #v[.comp [12, 13] (.tp #v[3#12, 3#13]) (.seq 0#0) .none 0#12]), .own [] 6 (.lst .nil), .asg [] 3#7 (.comp [12, 13] (.tp #v[3#12, 3#13]) (.seq 0#0) .none 0#12), .loop [] 3#8 (.rng1 (.op .add 0#3 1#1)) (#v[.parO [] 9 10 (.lst .nil) (.bi .list #v[0#7]), .loop [] 3#11 (.rng1 (.op .add 0#4 1#1)) (#v[.app [] 9 (.call 3 #v[.bi .sum #v[0#10], 0#5]), .asg [] 3#10 (.comp [14, 12, 13] (.tp #v[3#14, .tp #v[3#12, 3#13]]) (.zip 0#10 0#0) .none (.op .mul 0#14 (.ix 0#13 0#2)))]), .app [9] 6 0#9, .asg [] 3#7 (.comp [14, 12, 13] (.tp #v[3#14, .tp #v[3#12, 3#13]]) (.zip 0#7 0#0) .none (.op .mul 0#14 (.ix 0#13 0#1)))]), .retv 6]⟩
def D148 : SD := ⟨4, 8, #v[.asg [] 3#4 (.ix (.ix 0#0 0#2) 0#3), .loop [] 3#5 (.rng1 (.op .add 0#2 1#1)) (#v[.loop [] 3#6 (.rng1 (.op .add 0#3 1#1)) (#v[.asg [] 3#7 (.ite (.bop true #v[.op .gt 0#2 1#0, .op .gt 0#5 1#0]) (.op .mul (.call 49 #v[.op .sub 0#2 1#1, .op .sub 0#5 1#1]) (.call 49 #v[0#3, 0#6])) 1#0), .iff [] (.op .eq 0#2 1#0) (#v[.asg [] 3#7 (.ite (.op .gt 0#6 1#0) (.call 49 #v[.op .sub 0#3 1#1, .op .sub 0#6 1#1]) 1#0)]) (.nil), .iff [] (.bop true #v[.op .gt 0#7 1#0, .op .ne (.tup #v[0#5, 0#6]) (.tup #v[0#2, 0#3])]) (#v[.asg [] 3#4 (.call 8 #v[0#4, .call 9 #v[.tup #v[0#7, 1#1], .call 9 #v[.ix 0#1 (.tup #v[0#5, 0#6]), .ix (.ix 0#0 (.op .sub 0#2 0#5)) (.op .sub 0#3 0#6)]]])]) (.nil)])]), .ret [] 0#4]⟩
def D149 : SD := ⟨3, 6, #v[.ownd 3 true, .loop [] 3#4 (.rng1 (.op .add 0#1 1#1)) (#v[.loop [] 3#5 (.rng1 (.op .add 0#2 1#1)) (#v[.iff [] (.op .gt (.op .add 0#4 0#5) 1#0) (#v[.dput [3] 3 (.tup #v[0#4, 0#5]) (.call 148 #v[0#0, 0#3, 0#4, 0#5])]) (.nil)])]), .ret [3] 0#3]⟩
def D150 : SD := ⟨5, 5, #v[.ret [] (.ix (.call 149 #v[.call 147 #v[0#0, 0#1, 0#2, 0#3, 0#4], 0#3, 0#4]) (.tup #v[0#3, 0#4]))]⟩
def D159 : SD := ⟨2, 7, #v[.asg [] 3#2 2#7, .loop [] (.tp #v[3#3, 3#4]) (.enum 0#1) (#v[.loop [] (.tp #v[3#5, 3#6]) (.enum 0#1) (#v[.asg [] 3#2 (.call 7 #v[0#2, .call 9 #v[.call 9 #v[0#4, 0#6], .ix 0#0 (.op .add 0#3 0#5)]])])]), .ret [] 0#2]⟩
def D151 : SD := ⟨3, 3, #v[.iff [] (.bop false #v[.not1 (.call 1 #v[0#1]), .not1 (.call 1 #v[0#2]), .op .eq 0#1 0#2]) (#v[.raise 9]) (.nil), .iff [] (.bop false #v[.not1 (.chain .le .lt 1#0 0#1 (.call 29 #v[0#0])), .not1 (.chain .le .lt 1#0 0#2 (.call 29 #v[0#0]))]) (#v[.raise 9]) (.nil)]⟩
def D152 : SD := ⟨5, 5, #v[.expr [] (.call 32 #v[0#0]), .expr [] (.call 151 #v[0#0, 0#1, 0#2]), .iff [] (.bop false #v[.not1 (.call 1 #v[0#3]), .not1 (.call 1 #v[0#4]), .not1 (.chain .le .le 1#0 0#3 2#12), .not1 (.chain .le .le 1#0 0#4 2#12)]) (#v[.raise 2]) (.nil), .iff [] (.op .eq (.op .add 0#3 0#4) 1#0) (#v[.raise 2]) (.nil), .ret [] (.call 150 #v[0#0, 0#1, 0#2, 0#3, 0#4])]⟩
def D160 : SD := ⟨3, 10, #v[.asg [] 3#3 (.tup #v[.bi .len #v[.call 157 #v[0#0, 0#1]], .bi .len #v[.call 157 #v[0#0, 0#2]]]), .loop [] 3#4 (.rng2 1#1 (.bi .max1 #v[0#3])) (#v[.par [] 5 6 (.bi .min2 #v[0#4, .op .sub (.ix 0#3 1#0) 1#1]) (.bi .min2 #v[0#4, .op .sub (.ix 0#3 1#1) 1#1]), .asg [] 3#7 (.call 149 #v[.call 147 #v[0#0, 0#1, 0#2, 0#5, 0#6], 0#5, 0#6]), .loop [] 3#8 (.rng2 1#1 (.op .add 0#5 1#1)) (#v[.loop [] 3#9 (.rng2 1#1 (.op .add 0#6 1#1)) (#v[.iff [] (.op .ne (.ix 0#7 (.tup #v[0#8, 0#9])) 2#7) (#v[.ret [] (.tup #v[0#8, 0#9])]) (.nil)])])]), .ret [] (.tup .nil)]⟩
def D284 : SD := ⟨3, 4, #v[.expr [] (.call 32 #v[0#0]), .expr [] (.call 151 #v[0#0, 0#1, 0#2]), .iff [] (.call 158 #v[0#0, 0#1, 0#2]) (#v[.ret [] (.make 280 .nil)]) (.nil), .asg [] 3#3 (.call 160 #v[0#0, 0#1, 0#2]), .ret [] (.make 281 #v[.ix 0#3 1#0, .ix 0#3 1#1])]⟩
def D172 : SD := ⟨2, 7, #v[.asg [] 3#2 (.bi .len #v[0#0]), .asg [] 3#3 (.op .add (.op .mul (.lst #v[2#7]) 0#1) (.comp [6] 3#6 (.rng2 0#1 0#2) .none (.call 10 #v[.ix (.ix 0#0 0#1) 0#6, .ix (.ix 0#0 0#1) 0#1]))), .own [] 4 (.lst .nil), .loop [] 3#5 (.rng1 0#2) (#v[.app [] 4 (.comp [6] 3#6 (.rng1 0#2) .none (.call 8 #v[.ix (.ix 0#0 0#5) 0#6, .call 9 #v[.ix (.ix 0#0 0#1) 0#1, .call 9 #v[.ix 0#3 0#5, .ix 0#3 0#6]]]))]), .ret [4] (.tup #v[0#4, 0#3])]⟩
def D173 : HD := ⟨2, 6, #v[.loop (.tp #v[3#2, 3#3]) (.seq (.rev 0#0)) (#v[.asg 3#4 (.pu [] 2#7), .loop 3#5 (.rng [2, 3] (.rng2 (.op .add 0#2 1#1) (.bi .len #v[0#3]))) (#v[.asg 3#4 (.pu [1, 3, 4, 5] (.call 7 #v[0#4, .call 9 #v[.ix 0#3 0#5, .ix 0#1 0#5]]))]), .set 0#1 [2] 0#2 (.pu [4] (.call 8 #v[2#7, 0#4]))]), .ret 0#1]⟩
def D174 : HD := ⟨3, 7, #v[.asg 3#3 (.pu [0] (.bi .len #v[0#0])), .asg 3#4 (.puF [3] (.op .mul (.lst #v[2#7]) 0#3)), .iff [0, 1] (.op .lt (.ix (.ix (.ix 0#0 0#1) 0#1) 1#0) 1#0) (#v[.set 0#4 [1] 0#1 (.pu [] 2#6), .ret (.call 173 #v[0#2, 0#4])]) (.nil), .loop 3#5 (.rng [1, 3] (.rng2 (.op .add 0#1 1#1) 0#3)) (#v[.iff [0, 1, 5] (.bop true #v[.op .eq (.ix (.ix (.ix 0#0 0#1) 0#1) 1#0) 1#0, .op .ne (.ix (.ix (.ix 0#0 0#1) 0#5) 1#0) 1#0]) (#v[.set 0#4 [5] 0#5 (.pu [] 2#6), .asg 3#6 (.pu [0, 1, 5] (.call 9 #v[.tup #v[1#2, 1#1], .ix (.ix 0#0 0#1) 0#5])), .set 0#4 [1] 0#1 (.pu [0, 5, 6] (.call 8 #v[2#7, .call 10 #v[.call 7 #v[.ix (.ix 0#0 0#5) 0#5, 2#6], 0#6]])), .ret (.call 173 #v[0#2, 0#4])]) (.nil)]), .ret (.lst .nil)]⟩
def D298 : HD := ⟨1, 10, #v[.asg 3#1 (.pu [0] (.op .add (.op .fdiv (.bi .len #v[0#0]) 1#2) 1#1)), .asg 3#2 (.pu [0, 1, 9] (.comp [9] 3#9 (.rng1 0#1) .none (.sl 0#0 (.some 0#9) (.some (.op .add 0#9 0#1))))), .par 3 4 (.lst .nil) (.lst .nil), .loop 3#5 (.rng [1] (.rng1 0#1)) (#v[.asg 3#6 (.call 174 #v[0#2, 0#5, 0#4]), .iff [6] (.op .ne 0#6 (.lst .nil)) (#v[.ret (.make 388 #v[0#6])]) (.nil), .iff [2, 5] (.op .gt (.ix (.ix (.ix 0#2 0#5) 0#5) 1#0) 1#0) (#v[.asg 3#7 (.ix (.ix 0#2 [5] 0#5) [5] 0#5), .asg (.tp #v[3#2, 3#8]) (.pu [2, 5] (.call 172 #v[0#2, 0#5])), .app 0#3 (.tup #v[0#7, 0#8]), .app 0#4 (.tup #v[0#5, 0#8])]) (.nil)]), .ret (.make 389 #v[0#3])]⟩
def D309 : HD := ⟨1, 2, #v[.iff [0] (.bop false #v[.not1 (.isi 0#0 .list), .not1 (.chain .le .le 1#1 (.bi .len #v[0#0]) 2#14), .op .eq (.op .mod (.bi .len #v[0#0]) 1#2) 1#0]) (#v[.raise 8]) (.nil), .iff [0, 1] (.not1 (.bi .all #v[.comp [1] 3#1 (.seq 0#0) .none (.call 4 #v[0#1])])) (#v[.raise 8]) (.nil), .ret (.call 298 #v[0#0])]⟩
def D109 : SD := ⟨2, 3, #v[.ret [] (.comp [2] 3#2 (.seq 0#1) .none (.ix 0#0 0#2))]⟩
def D275 : SD := sumD 7 85 105 9 7 276
def D276 : SD := lamD (.call 34 #v[0#0, .call 109 #v[0#1, 0#2]])
def D221 : SD := ⟨3, 3, #v[.expr [] (.call 32 #v[0#0]), .expr [] (.call 133 #v[0#0, 0#1]), .iff [] (.op .eq 0#1 (.lst .nil)) (#v[.raise 6]) (.nil), .expr [] (.call 53 #v[0#2]), .ret [] (.call 275 #v[0#2, .bi .len #v[0#1], 0#0, 0#1])]⟩
def D124 : SD := ⟨2, 4, #v[.asg [] 3#2 (.lst .nil), .loop [] 3#3 (.seq 0#1) (#v[.asg [] 3#2 (.op .add 0#2 (.ix 0#0 0#3))]), .ret [] 0#2]⟩
def D277 : SD := sumD 7 85 105 9 7 278
def D278 : SD := lamD (.call 34 #v[0#0, .call 124 #v[0#1, 0#2]])
def D222 : SD := ⟨2, 3, #v[.expr [] (.call 32 #v[0#0]), .iff [] (.bop false #v[.not1 (.isi 0#1 .list), .not1 (.chain .le .le 1#1 (.bi .len #v[0#1]) 2#11)]) (#v[.raise 6]) (.nil), .iff [] (.not1 (.bi .all #v[.comp [2] 3#2 (.seq 0#1) .none (.bop true #v[.call 132 #v[0#2, 0#0], .op .ne 0#2 (.lst .nil)])])) (#v[.raise 6]) (.nil), .iff [] (.op .gt (.bi .sum #v[.comp [2] 3#2 (.seq 0#1) .none (.bi .len #v[0#2])]) 2#11) (#v[.raise 6]) (.nil), .ret [] (.call 277 #v[.cstr "all", .bi .len #v[0#1], 0#0, 0#1])]⟩
def D16 : SD := ⟨2, 2, #v[.iff [] (.op .lt 0#1 (.bi .len #v[0#0])) (#v[.ret [] (.ix 0#0 0#1)]) (.nil), .ret [] 1#0]⟩
def D394 : HD := ⟨1, 2, #v[.iff [0] (.isi 0#0 .list) (#v[.ret (.comp [1] 3#1 (.seq 0#0) [] .none (.call 394 #v[0#1]))]) (.nil), .iff [0] (.isi 0#0 .tuple) (#v[.ret (.tol (.comp [1] 3#1 (.seq 0#0) [] .none (.call 394 #v[0#1])))]) (.nil), .ret 0#0]⟩
def D395 : HD := ⟨2, 4, #v[.loop (.tp #v[3#2, 3#3]) (.enum 0#1) (#v[.iff [0, 2, 3] (.bop true #v[.isi 0#3 .list, .op .eq (.bi .len #v[.ix 0#0 0#2]) (.bi .len #v[0#3])]) (#v[.expr (.call 395 #v[.ix 0#0 [2] 0#2, 0#3])]) (#v[.set 0#0 [2] 0#2 (.call 394 #v[0#3])])])]⟩
def D396 : HD := ⟨1, 2, #v[.iff [0] (.bop false #v[.isi 0#0 .list, .isi 0#0 .tuple]) (#v[.loop 3#1 (.seq (.lof 0#0)) (#v[.expr (.call 396 #v[0#1])])]) (.nil), .iff [0] (.isi 0#0 .list) (#v[.app 0#0 (.pu [] .cnon)]) (.nil)]⟩
def D397 : HD := ⟨3, 9, #v[.par 3 4 (.call 394 #v[0#1]) (.lst .nil), .loop 3#5 (.seq (.tup #v[0#1, 0#2])) (#v[.app 0#4 (.tup #v[0#5, .call 394 #v[.calld 0 (.call 394 #v[0#5])]])]), .loop (.tp #v[3#5, 3#6]) (.seq (.cat 0#4 0#4)) (#v[.expr (.call 395 #v[0#3, 0#5]), .loop 3#7 (.rng [] (.rng1 1#2)) (#v[.asg 3#8 (.calld 0 0#3), .iff [3, 5, 6, 8] (.bop false #v[.op .ne 0#3 0#5, .op .ne 0#8 0#6]) (#v[.ret (.pu [] (.cbl false))]) (.nil), .expr (.call 396 #v[0#8])])]), .ret (.pu [] (.cbl true))]⟩
def D327 : SD := ⟨0, 1, #v[.own [] 0 (.lst .nil), .app [] 0 (.tup #v[.call 398 .nil, .lst #v[.lst #v[.tup #v[1#1, .lst #v[1#1]], .tup #v[1#1, .lst #v[1#3]]], .lst #v[1#0]], .lst #v[.lst #v[.tup #v[1#1, .lst #v[1#1]], .tup #v[1#1, .lst #v[1#5]]], .lst #v[1#0]]]), .app [] 0 (.tup #v[.call 398 .nil, .lst #v[.lst #v[.tup #v[1#1, .lst #v[1#1, 1#2]]], .lst #v[1#0]], .lst #v[.lst #v[.tup #v[1#1, .lst #v[1#1, 1#2]]], .lst #v[1#1]]]), .app [] 0 (.tup #v[.call 400 .nil, .lst #v[.lst #v[.tup #v[1#1, .lst #v[1#1]]], .lst #v[.tup #v[1#1, .lst #v[1#2]]]], .lst #v[.lst #v[.tup #v[1#1, .lst #v[1#1]]], .lst #v[.tup #v[1#1, .lst #v[1#3]]]]]), .app [] 0 (.tup #v[.call 400 .nil, .lst #v[.lst #v[.tup #v[1#1, .lst #v[1#1]]], .lst #v[.tup #v[1#1, .lst #v[1#2]]]], .lst #v[.lst #v[.tup #v[1#1, .lst #v[1#4]]], .lst #v[.tup #v[1#1, .lst #v[1#2]]]]]), .app [] 0 (.tup #v[.call 402 .nil, .lst #v[.lst #v[.tup #v[1#1, .lst #v[1#1]]], .lst #v[.lst #v[1#2, 1#0]]], .lst #v[.lst #v[.tup #v[1#1, .lst #v[1#1]]], .lst #v[.lst #v[1#3, 1#0]]]]), .app [] 0 (.tup #v[.call 402 .nil, .lst #v[.lst #v[.tup #v[1#1, .lst #v[1#1]]], .lst #v[.lst #v[1#2, 1#0]]], .lst #v[.lst #v[.tup #v[1#1, .lst #v[1#5]]], .lst #v[.lst #v[1#2, 1#0]]]]), .app [] 0 (.tup #v[.call 404 .nil, .lst #v[.lst #v[.tup #v[1#1, .lst #v[1#1]], .tup #v[1#1, .lst #v[1#3]]], .lst #v[1#0]], .lst #v[.lst #v[.tup #v[1#1, .lst #v[1#1]], .tup #v[1#1, .lst #v[1#5]]], .lst #v[1#0]]]), .app [] 0 (.tup #v[.call 406 .nil, .lst #v[.lst #v[.tup #v[1#1, .lst #v[1#1]], .tup #v[1#1, .lst #v[1#3]]], .lst #v[.lst #v[1#0]]], .lst #v[.lst #v[.tup #v[1#1, .lst #v[1#1]], .tup #v[1#1, .lst #v[1#5]]], .lst #v[.lst #v[1#0]]]]), .app [] 0 (.tup #v[.call 408 .nil, .lst #v[.lst #v[.tup #v[1#1, 1#1], .tup #v[1#2, 1#1]]], .lst #v[.lst #v[.tup #v[1#1, 1#1], .tup #v[1#3, 1#1]]]]), .app [] 0 (.tup #v[.call 410 .nil, .lst #v[.lst #v[.tup #v[1#1, 1#1], .tup #v[1#2, 1#1]]], .lst #v[.lst #v[.tup #v[1#1, 1#1], .tup #v[1#3, 1#1]]]]), .app [] 0 (.tup #v[.call 412 .nil, .lst #v[.lst #v[.tup #v[1#1, 1#1], .tup #v[1#2, 1#1]]], .lst #v[.lst #v[.tup #v[1#1, 1#1], .tup #v[1#3, 1#1]]]]), .app [] 0 (.tup #v[.call 414 .nil, .lst #v[.lst #v[.tup #v[1#1, 1#1]], .lst #v[.tup #v[1#2, 1#1]], .lst #v[1#0, 1#1]], .lst #v[.lst #v[.tup #v[1#3, 1#1]], .lst #v[.tup #v[1#2, 1#1]], .lst #v[1#0, 1#1]]]), .app [] 0 (.tup #v[.call 416 .nil, .lst #v[.lst #v[.tup #v[1#1, 1#1]], .lst #v[.tup #v[1#2, 1#1]]], .lst #v[.lst #v[.tup #v[1#1, 1#1]], .lst #v[.tup #v[1#5, 1#1]]]]), .app [] 0 (.tup #v[.call 416 .nil, .lst #v[.lst #v[.tup #v[1#1, 1#1]], .lst #v[.tup #v[1#2, 1#1]]], .lst #v[.lst #v[.tup #v[1#4, 1#1]], .lst #v[.tup #v[1#2, 1#1]]]]), .app [] 0 (.tup #v[.call 418 .nil, .lst #v[.lst #v[.tup #v[1#1, .lst #v[1#0, 1#0]], .tup #v[1#1, .lst #v[1#1, 1#1]]]], .lst #v[.lst #v[.tup #v[1#1, .lst #v[1#0, 1#0]], .tup #v[1#1, .lst #v[1#1, 1#0]]]]]), .app [] 0 (.tup #v[.call 420 .nil, .lst #v[.lst #v[.tup #v[1#1, .lst #v[1#0, 1#0]], .tup #v[1#1, .lst #v[1#1, 1#0]]]], .lst #v[.lst #v[.tup #v[1#1, .lst #v[1#0, 1#0]], .tup #v[1#1, .lst #v[1#1, 1#1]]]]]), .app [] 0 (.tup #v[.call 422 .nil, .lst #v[.lst #v[.tup #v[1#1, 1#1], .tup #v[1#0, 1#1], .tup #v[1#1, 1#1]]], .lst #v[.lst #v[.tup #v[1#1, 1#1], .tup #v[1#0, 1#1], .tup #v[.neg 1#1, 1#1]]]]), .app [] 0 (.tup #v[.call 424 .nil, .lst #v[.lst #v[.lst #v[1#0, 1#1], .lst #v[1#2]]], .lst #v[.lst #v[.lst #v[1#0, 1#2], .lst #v[1#1]]]]), .app [] 0 (.tup #v[.call 426 .nil, .lst #v[.lst #v[.lst #v[1#0, 1#1], .lst #v[1#2]]], .lst #v[.lst #v[.lst #v[1#0], .lst #v[1#1, 1#2]]]]), .retv 0]⟩
def D328 : SD := ⟨0, 1, #v[.own [] 0 (.lst .nil), .app [] 0 (.tup #v[.call 428 .nil, .lst #v[.lst #v[.lst #v[1#0, 1#1], .lst #v[1#2]], .lst #v[.lst #v[1#0, 1#1], .lst #v[1#2]]], .lst #v[.lst #v[.lst #v[1#0, 1#2], .lst #v[1#1]], .lst #v[.lst #v[1#0, 1#1], .lst #v[1#2]]]]), .app [] 0 (.tup #v[.call 430 .nil, .lst #v[.lst #v[.lst #v[1#0, 1#1], .lst #v[1#2]], .lst #v[.lst #v[1#0], .lst #v[1#1], .lst #v[1#2]]], .lst #v[.lst #v[.lst #v[1#0, 1#2], .lst #v[1#1]], .lst #v[.lst #v[1#0], .lst #v[1#1], .lst #v[1#2]]]]), .app [] 0 (.tup #v[.call 432 .nil, .lst #v[.lst #v[.lst #v[1#0, 1#1], .lst #v[1#2]]], .lst #v[.lst #v[.lst #v[1#0, 1#2], .lst #v[1#1]]]]), .app [] 0 (.tup #v[.call 434 .nil, .lst #v[.lst #v[.tup #v[1#1, .lst #v[1#0, 1#0]], .tup #v[1#1, .lst #v[1#1, 1#0]]]], .lst #v[.lst #v[.tup #v[1#1, .lst #v[1#0, 1#0]], .tup #v[1#1, .lst #v[1#1, 1#1]]]]]), .app [] 0 (.tup #v[.call 436 .nil, .lst #v[.lst #v[.tup #v[1#1, .lst #v[1#0, 1#0]], .tup #v[1#1, .lst #v[1#1, 1#1]]]], .lst #v[.lst #v[.tup #v[1#1, .lst #v[1#0, 1#0]], .tup #v[1#1, .lst #v[1#1, 1#0]]]]]), .app [] 0 (.tup #v[.call 438 .nil, .lst #v[.lst #v[.tup #v[1#1, 1#1], .tup #v[1#0, 1#1], .tup #v[.neg 1#1, 1#1]]], .lst #v[.lst #v[.tup #v[1#1, 1#1], .tup #v[1#0, 1#1], .tup #v[1#1, 1#1]]]]), .retv 0]⟩
def D329 : SD := ⟨1, 6, #v[.asg [] 3#0 (.sl 0#0 .none (.some 1#63)), .asg [] 3#1 (.op .add (.call 327 .nil) (.call 328 .nil)), .asg [] 3#2 (.op .mod (.bi .abs #v[.call 16 #v[0#0, 1#0]]) (.bi .len #v[0#1])), .loop [] (.tp #v[3#3, 3#4, 3#5]) (.seq (.op .add (.sl 0#1 (.some 0#2) .none) (.sl 0#1 .none (.some 0#2)))) (#v[.iff [] (.not1 (.call 397 #v[0#3, 0#4, 0#5])) (#v[.ret [] (.cbl false)]) (.nil)]), .ret [] (.cbl true)]⟩
def D287 : SD := ⟨4, 4, #v[.ret [] (.call 158 #v[0#1, 0#2, 0#3])]⟩
def D288 : SD := ⟨4, 4, #v[.iff [] (.bop false #v[.not1 (.chain .lt .lt 1#0 (.fld 0#0 "many") (.bi .len #v[.call 157 #v[0#1, 0#2]])), .not1 (.chain .lt .lt 1#0 (.fld 0#0 "more") (.bi .len #v[.call 157 #v[0#1, 0#3]]))]) (#v[.ret [] (.cbl false)]) (.nil), .ret [] (.op .ne (.call 150 #v[0#1, 0#2, 0#3, .fld 0#0 "many", .fld 0#0 "more"]) 2#7)]⟩
def D290 : SD := ⟨2, 8, #v[.asg [] 3#2 (.op .add (.op .fdiv (.bi .len #v[0#1]) 1#2) 1#1), .iff [] (.not1 (.bi .all #v[.comp [6, 7] (.tp #v[3#6, 3#7]) (.seq (.fld 0#0 "parts")) .none (.bop true #v[.op .gt (.ix 0#6 1#0) 1#0, .op .eq (.bi .len #v[0#7]) 0#2])])) (#v[.ret [] (.cbl false)]) (.nil), .loop [] 3#3 (.rng1 0#2) (#v[.loop [] 3#4 (.rng1 0#2) (#v[.asg [] 3#5 2#7, .loop [] (.tp #v[3#6, 3#7]) (.seq (.fld 0#0 "parts")) (#v[.asg [] 3#5 (.call 7 #v[0#5, .call 9 #v[0#6, .call 9 #v[.ix 0#7 0#3, .ix 0#7 0#4]]])]), .iff [] (.op .ne 0#5 (.ix 0#1 (.op .add 0#3 0#4))) (#v[.ret [] (.cbl false)]) (.nil)])]), .ret [] (.cbl true)]⟩
def D291 : SD := ⟨2, 2, #v[.ret [] (.bop true #v[.op .eq (.bi .len #v[.fld 0#0 "row"]) (.op .add (.op .fdiv (.bi .len #v[0#1]) 1#2) 1#1), .op .lt (.ix (.call 159 #v[0#1, .fld 0#0 "row"]) 1#0) 1#0])]⟩
def D398 : SD := ⟨0, 0, .cons (.ret [] 2#33) .nil⟩
def D399 : HD := ⟨1, 1, #v[.ret (.pu [0] (.call 219 #v[.ix 0#0 1#0, .ix 0#0 1#1]))]⟩
def D400 : SD := ⟨0, 0, .cons (.ret [] 2#34) .nil⟩
def D401 : HD := ⟨1, 1, #v[.ret (.call 42 #v[.ix 0#0 [] 1#0, .ix 0#0 [] 1#1])]⟩
def D402 : SD := ⟨0, 0, .cons (.ret [] 2#35) .nil⟩
def D403 : HD := ⟨1, 1, #v[.ret (.call 47 #v[.ix 0#0 [] 1#0, .ix 0#0 [] 1#1])]⟩
def D404 : SD := ⟨0, 0, .cons (.ret [] 2#36) .nil⟩
def D405 : HD := ⟨1, 1, #v[.ret (.pu [0] (.call 221 #v[.ix 0#0 1#0, .ix 0#0 1#1, .cstr "all"]))]⟩
def D406 : SD := ⟨0, 0, .cons (.ret [] 2#37) .nil⟩
def D407 : HD := ⟨1, 1, #v[.ret (.pu [0] (.call 222 #v[.ix 0#0 1#0, .ix 0#0 1#1]))]⟩
def D408 : SD := ⟨0, 0, .cons (.ret [] 2#38) .nil⟩
def D409 : HD := ⟨1, 1, #v[.ret (.puF [0] (.call 130 #v[.ix 0#0 1#0, .cstr "all"]))]⟩
def D410 : SD := ⟨0, 0, .cons (.ret [] 2#39) .nil⟩
def D411 : HD := ⟨1, 1, #v[.ret (.puF [0] (.call 131 #v[.ix 0#0 1#0, .cstr "all"]))]⟩
def D412 : SD := ⟨0, 0, .cons (.ret [] 2#40) .nil⟩
def D413 : HD := ⟨1, 1, #v[.ret (.puF [0] (.call 209 #v[.ix 0#0 1#0, .cstr "all", .cstr "nested"]))]⟩
def D414 : SD := ⟨0, 0, .cons (.ret [] 2#41) .nil⟩
def D415 : HD := ⟨1, 1, #v[.ret (.pu [0] (.call 139 #v[.ix 0#0 1#0, .ix 0#0 1#1, .ix 0#0 1#2, .cstr "all"]))]⟩
def D416 : SD := ⟨0, 0, .cons (.ret [] 2#42) .nil⟩
def D417 : HD := ⟨1, 1, #v[.ret (.puF [0] (.call 145 #v[.ix 0#0 1#0, .ix 0#0 1#1, .cstr "all"]))]⟩
def D418 : SD := ⟨0, 0, .cons (.ret [] 2#43) .nil⟩
def D419 : HD := ⟨1, 1, #v[.ret (.pu [0] (.call 152 #v[.ix 0#0 1#0, 1#0, 1#1, 1#1, 1#1]))]⟩
def D420 : SD := ⟨0, 0, .cons (.ret [] 2#44) .nil⟩
def D421 : HD := ⟨1, 1, #v[.ret (.pu [0] (.isc (.call 284 #v[.ix 0#0 1#0, 1#0, 1#1]) 1))]⟩
def D422 : SD := ⟨0, 0, .cons (.ret [] 2#45) .nil⟩
def D423 : HD := ⟨1, 1, #v[.ret (.pu [0] (.isc (.call 309 #v[.ix 0#0 1#0]) 3))]⟩
def D424 : SD := ⟨0, 0, .cons (.ret [] 2#46) .nil⟩
def D425 : HD := ⟨1, 1, #v[.ret (.pu [0] (.call 82 #v[.ix 0#0 1#0, .cstr "rows"]))]⟩
def D426 : SD := ⟨0, 0, .cons (.ret [] 2#47) .nil⟩
def D427 : HD := ⟨1, 1, #v[.ret (.pu [0] (.call 106 #v[.ix 0#0 1#0, .cstr "rows"]))]⟩
def D428 : SD := ⟨0, 0, .cons (.ret [] 2#48) .nil⟩
def D429 : HD := ⟨1, 1, #v[.ret (.pu [0] (.call 92 #v[.ix 0#0 1#0, .ix 0#0 1#1]))]⟩
def D430 : SD := ⟨0, 0, .cons (.ret [] 2#49) .nil⟩
def D431 : HD := ⟨1, 1, #v[.ret (.callS 94 [0] #v[.ix 0#0 1#0, .ix 0#0 1#1])]⟩
def D432 : SD := ⟨0, 0, .cons (.ret [] 2#50) .nil⟩
def D433 : HD := ⟨1, 1, #v[.ret (.call 100 #v[.ix 0#0 [] 1#0])]⟩
def D434 : SD := ⟨0, 0, .cons (.ret [] 2#51) .nil⟩
def D435 : HD := ⟨1, 1, #v[.ret (.pu [0] (.mth "shows" [(1, 287), (2, 288)] (.make 280 .nil) #v[.ix 0#0 1#0, 1#0, 1#1]))]⟩
def D436 : SD := ⟨0, 0, .cons (.ret [] 2#52) .nil⟩
def D437 : HD := ⟨1, 1, #v[.ret (.pu [0] (.mth "shows" [(1, 287), (2, 288)] (.make 281 #v[1#1, 1#1]) #v[.ix 0#0 1#0, 1#0, 1#1]))]⟩
def D438 : SD := ⟨0, 0, .cons (.ret [] 2#53) .nil⟩
def D439 : HD := ⟨1, 1, #v[.ret (.pu [0] (.mth "shows" [(3, 290), (4, 291)] (.make 283 #v[.lst #v[.tup #v[1#0, 1#1], .tup #v[1#1, 1#1]]]) #v[.ix 0#0 1#0]))]⟩
def tblD : List (Nat × SD) := [(1, D1), (2, D2), (3, D3), (4, D4), (7, D7), (8, D8), (9, D9), (10, D10), (16, D16), (27, D27), (28, D28), (29, D29), (31, D31), (32, D32), (34, D34), (46, D46), (49, D49), (50, D50), (51, D51), (53, D53), (54, D54), (55, D55), (61, D61), (74, D74), (75, D75), (76, D76), (77, D77), (82, D82), (83, D83), (89, D89), (90, D90), (91, D91), (92, D92), (104, D104), (105, D105), (106, D106), (109, D109), (124, D124), (129, D129), (130, D130), (131, D131), (132, D132), (133, D133), (137, D137), (138, D138), (139, D139), (145, D145), (147, D147), (148, D148), (149, D149), (150, D150), (151, D151), (152, D152), (157, D157), (158, D158), (159, D159), (160, D160), (172, D172), (209, D209), (219, D219), (221, D221), (222, D222), (275, D275), (276, D276), (277, D277), (278, D278), (280, D280), (281, D281), (283, D283), (284, D284), (287, D287), (288, D288), (290, D290), (291, D291), (327, D327), (328, D328), (329, D329), (398, D398), (400, D400), (402, D402), (404, D404), (406, D406), (408, D408), (410, D410), (412, D412), (414, D414), (416, D416), (418, D418), (420, D420), (422, D422), (424, D424), (426, D426), (428, D428), (430, D430), (432, D432), (434, D434), (436, D436), (438, D438)]
def tblH : List (Nat × HD) := [(42, D42), (47, D47), (84, D84), (85, D85), (93, D93), (94, D94), (99, D99), (100, D100), (173, D173), (174, D174), (298, D298), (309, D309), (388, D388), (389, D389), (394, D394), (395, D395), (396, D396), (397, D397), (399, D399), (401, D401), (403, D403), (405, D405), (407, D407), (409, D409), (411, D411), (413, D413), (415, D415), (417, D417), (419, D419), (421, D421), (423, D423), (425, D425), (427, D427), (429, D429), (431, D431), (433, D433), (435, D435), (437, D437), (439, D439)]
def tblG : List (Nat × Val) := [(1, (.int 4)), (2, (.int 40)), (4, (.tup [(.str (PySem.Str.ofString "all")), (.str (PySem.Str.ofString "nested")), (.str (PySem.Str.ofString "rows"))])), (6, (.tup [(.int 1), (.int 1)])), (7, (.tup [(.int 0), (.int 1)])), (9, (.int 6)), (10, (.int 10)), (11, (.int 6)), (12, (.int 40)), (14, (.int 13)), (33, (.sym (.lm 399))), (34, (.sym (.lm 401))), (35, (.sym (.lm 403))), (36, (.sym (.lm 405))), (37, (.sym (.lm 407))), (38, (.sym (.lm 409))), (39, (.sym (.lm 411))), (40, (.sym (.lm 413))), (41, (.sym (.lm 415))), (42, (.sym (.lm 417))), (43, (.sym (.lm 419))), (44, (.sym (.lm 421))), (45, (.sym (.lm 423))), (46, (.sym (.lm 425))), (47, (.sym (.lm 427))), (48, (.sym (.lm 429))), (49, (.sym (.lm 431))), (50, (.sym (.lm 433))), (51, (.sym (.lm 435))), (52, (.sym (.lm 437))), (53, (.sym (.lm 439)))]
def Pr : Prog := ⟨fun g => tblG.lookup g, fun f => tblD.lookup f, fun f => tblH.lookup f⟩
end VM
set_option maxHeartbeats 4000000
namespace VM
open PySem
def lst0 : R Val → List Val
 | .ok (.lst l) => l
 | _ => []
def isL0 : R Val → Bool
 | .ok (.lst _) => true
 | _ => false
theorem isL0_ok {r : R Val} (h : isL0 r = true) : r = .ok (.lst (lst0 r)) := by
 unfold isL0 at h
 split at h
 ·rfl
 ·cases h
def rows1 : List Val := lst0 ((callsK Pr 3).1 327 [])
def rows2 : List Val := lst0 ((callsK Pr 3).1 328 [])
theorem rows1_ok : isL0 ((callsK Pr 3).1 327 []) = true := by decide +kernel
theorem rows2_ok : isL0 ((callsK Pr 3).1 328 []) = true := by decide +kernel
theorem rows_len : rows1.length = 19 ∧ rows2.length = 6 := by decide +kernel
def doorB (v : Val) : Bool := match v with
 | .tup [a, b, c] => match (callsK Pr 20).1 397 [a, b, c] with
  | .ok (.bl true) => true
  | _ => false
 | _ => false
end VM
namespace VM
open PySem
theorem d0 : ((rows1.drop 0).take 1).all doorB = true := by decide +kernel
theorem d1 : ((rows1.drop 1).take 1).all doorB = true := by decide +kernel
theorem d2 : ((rows1.drop 2).take 1).all doorB = true := by decide +kernel
theorem d3 : ((rows1.drop 3).take 1).all doorB = true := by decide +kernel
theorem d4 : ((rows1.drop 4).take 1).all doorB = true := by decide +kernel
theorem d5 : ((rows1.drop 5).take 1).all doorB = true := by decide +kernel
theorem d6 : ((rows1.drop 6).take 1).all doorB = true := by decide +kernel
theorem d7 : ((rows1.drop 7).take 1).all doorB = true := by decide +kernel
theorem d8 : ((rows1.drop 8).take 1).all doorB = true := by decide +kernel
theorem d9 : ((rows1.drop 9).take 1).all doorB = true := by decide +kernel
theorem d10 : ((rows1.drop 10).take 1).all doorB = true := by decide +kernel
theorem d11 : ((rows1.drop 11).take 1).all doorB = true := by decide +kernel
theorem d12 : ((rows1.drop 12).take 1).all doorB = true := by decide +kernel
theorem d13 : ((rows1.drop 13).take 1).all doorB = true := by decide +kernel
theorem d14 : ((rows1.drop 14).take 1).all doorB = true := by decide +kernel
theorem d15 : ((rows1.drop 15).take 1).all doorB = true := by decide +kernel
theorem d16 : ((rows1.drop 16).take 1).all doorB = true := by decide +kernel
theorem d17 : ((rows1.drop 17).take 1).all doorB = true := by decide +kernel
theorem d18 : ((rows1.drop 18).take 1).all doorB = true := by decide +kernel
end VM
namespace VM
open PySem
theorem e0 : ((rows2.drop 0).take 1).all doorB = true := by decide +kernel
theorem e1 : ((rows2.drop 1).take 1).all doorB = true := by decide +kernel
theorem e2 : ((rows2.drop 2).take 1).all doorB = true := by decide +kernel
theorem e3 : ((rows2.drop 3).take 1).all doorB = true := by decide +kernel
theorem e4 : ((rows2.drop 4).take 1).all doorB = true := by decide +kernel
theorem e5 : ((rows2.drop 5).take 1).all doorB = true := by decide +kernel
end VM
set_option maxHeartbeats 2000000
namespace VM
open PySem
variable {T : Tab} {ρ : HEnv} {h : HHp}
def seqH (q : R (HFl × HEnv × HHp)) (k : HEnv → HHp → R (HFl × HEnv × HHp)) : R (HFl × HEnv × HHp) := match q with
 | .ok (.nx, ρ, h) => k ρ h
 | .ok (.rt v, ρ, h) => .ok (.rt v, ρ, h)
 | .error e => .error e
def finH (q : R (HFl × HEnv × HHp)) : R (HV × HHp) := match q with
 | .ok (.nx, _, h) => .ok (.p .non, h)
 | .ok (.rt v, _, h) => .ok (v, h)
 | .error e => .error e
@[simp] theorem seqH_nx {k : HEnv → HHp → R (HFl × HEnv × HHp)} : seqH (.ok (.nx, ρ, h)) k = k ρ h := id rfl
@[simp] theorem seqH_rt {v : HV} {k : HEnv → HHp → R (HFl × HEnv × HHp)} : seqH (.ok (.rt v, ρ, h)) k = .ok (.rt v, ρ, h) := id rfl
@[simp] theorem seqH_er {e : Err} {k : HEnv → HHp → R (HFl × HEnv × HHp)} : seqH (.error e) k = .error e := id rfl
@[simp] theorem seqH_ite {c : Prop} [Decidable c] {x y : R (HFl × HEnv × HHp)} {k : HEnv → HHp → R (HFl × HEnv × HHp)} : seqH (if c then x else y) k = if c then seqH x k else seqH y k := by split <;> rfl
@[simp] theorem finH_nx : finH (.ok (.nx, ρ, h)) = .ok (.p .non, h) := id rfl
@[simp] theorem finH_rt {v : HV} : finH (.ok (.rt v, ρ, h)) = .ok (v, h) := id rfl
@[simp] theorem exHs_nil : exHs T .nil ρ h = .ok (.nx, ρ, h) := by simp only [exHs]
@[simp] theorem exHs_cons {s : HS} {r : HB} : exHs T (.cons s r) ρ h = seqH (exH T s ρ h) (fun ρ h => exHs T r ρ h) := by
  simp only [exHs]
  cases e : exH T s ρ h with
  | error e => rfl
  | ok q =>
    obtain ⟨fl, ρ1, h1⟩ := q
    cases fl <;> rfl
-- what is seen
@[simp] theorem seeG_nil {m : List Nat} {k : Nat} : seeG m h k [] = [] := id rfl
@[simp] theorem seeG_cons {m : List Nat} {k : Nat} {o : Option HV} {r : HEnv} : seeG m h k (o :: r) = (if m.contains k then o.bind (deref h 60) else none) :: seeG m h (k + 1) r := id rfl
@[simp] theorem deref_p {k : Nat} {v : Val} : deref h (k + 1) (.p v) = some v := id rfl
@[simp] theorem deref_60p {v : Val} : deref h 60 (.p v) = some v := id rfl
@[simp] theorem bind_p {v : Val} : (some (HV.p v)).bind (deref h 60) = some v := id rfl
-- expressions
@[simp] theorem evH_pu {m : List Nat} {e : SE} : evH T (.pu m e) ρ h = ev T e (seeH m h ρ) >>= fun v => if (flat v || onlyP m ρ) = true then .ok (.p v, h) else stk := by simp only [evH]
@[simp] theorem evH_var {i : Nat} : evH T (.var i) ρ h = match ρ[i]? with | some (some v) => .ok (v, h) | _ => stk := by (simp only [evH]) <;> rfl
@[simp] theorem evH_ix {a : HE} {m : List Nat} {k : SE} : evH T (.ix a m k) ρ h = evH T a ρ h >>= fun q => ev T k (seeH m q.2 ρ) >>= fun kv => if flat kv = true then ixH q.2 q.1 kv >>= fun v => .ok (v, q.2) else stk := by simp only [evH]
@[simp] theorem evH_lst {es : HEs} : evH T (.lst es) ρ h = evHs T es ρ h >>= fun q => if q.1.length ≤ lineN then .ok (.r q.2.length, q.2 ++ [.lst q.1]) else stk := by simp only [evH]
@[simp] theorem evH_tup {es : HEs} : evH T (.tup es) ρ h = evHs T es ρ h >>= fun q => if q.1.length ≤ lineN then .ok (.t q.1, q.2) else stk := by simp only [evH]
@[simp] theorem evH_lof {a : HE} : evH T (.lof a) ρ h = evH T a ρ h >>= fun q => itemsH q.2 q.1 >>= fun xs => .ok (.r q.2.length, q.2 ++ [.lst xs]) := by simp only [evH]
@[simp] theorem evH_call {f : Nat} {es : HEs} : evH T (.call f es) ρ h = evHs T es ρ h >>= fun q => T.H f q.1 q.2 := by simp only [evH]
@[simp] theorem evH_callS {f : Nat} {m : List Nat} {es : SEs} : evH T (.callS f m es) ρ h = evs T es (seeH m h ρ) >>= fun vs => T.H f (vs.map HV.p) [] >>= fun q => snapH h q := by simp only [evH]
@[simp] theorem evH_puI {m : List Nat} {e : SE} : evH T (.puI m e) ρ h = ev T e (seeH m h ρ) >>= fun v => if insOk h v = true then .ok (.p v, h) else stk := by simp only [evH]
@[simp] theorem evHs_nil : evHs T .nil ρ h = .ok ([], h) := by simp only [evHs]
@[simp] theorem evHs_cons {e : HE} {r : HEs} : evHs T (.cons e r) ρ h = evH T e ρ h >>= fun q => evHs T r ρ q.2 >>= fun z => .ok (q.1 :: z.1, z.2) := by simp only [evHs]
@[simp] theorem evHI_seq {e : HE} : evHI T (.seq e) ρ h = evH T e ρ h >>= fun q => itS q.2 q.1 >>= fun J => .ok (J, q.2) := by simp only [evHI]
@[simp] theorem evHI_rng {m : List Nat} {it : SI} : evHI T (.rng m it) ρ h = evI T it (seeH m h ρ) >>= fun vs => .ok (.fx (vs.map HV.p), h) := by simp only [evHI]
@[simp] theorem evHI_enum {e : HE} : evHI T (.enum e) ρ h = evH T e ρ h >>= fun q => itL q.2 q.1 >>= fun J => .ok (.en J, q.2) := by simp only [evHI]
@[simp] theorem evHI_zip {a b : HE} : evHI T (.zip a b) ρ h = evH T a ρ h >>= fun q => evH T b ρ q.2 >>= fun z => itL z.2 q.1 >>= fun J => itL z.2 z.1 >>= fun J' => .ok (.zp J J', z.2) := by simp only [evHI]
-- statements
@[simp] theorem exH_asg {tg : Tg} {e : HE} : exH T (.asg tg e) ρ h = evH T e ρ h >>= fun q => bindH q.2 tg ρ q.1 >>= fun ρ1 => .ok (.nx, ρ1, q.2) := by simp only [exH]
@[simp] theorem exH_iff {m : List Nat} {c : SE} {a b : HB} : exH T (.iff m c a b) ρ h = ev T c (seeH m h ρ) >>= fun v => tru v >>= fun k => if k = true then exHs T a ρ h else exHs T b ρ h := by simp only [exH]
@[simp] theorem exH_ret {e : HE} : exH T (.ret e) ρ h = evH T e ρ h >>= fun q => .ok (.rt q.1, ρ, q.2) := by simp only [exH]
@[simp] theorem exH_expr {e : HE} : exH T (.expr e) ρ h = evH T e ρ h >>= fun q => .ok (.nx, ρ, q.2) := by simp only [exH]
@[simp] theorem bindH_nm {i : Nat} {v : HV} : bindH h (.nm i) ρ v = .ok (ρ.set i (some v)) := by simp [bindH, flatH, setsH]
@[simp] theorem bindH_tp {ts : Tgs} {v : HV} : bindH h (.tp ts) ρ v = flatH h (.tp ts) v >>= fun bs => .ok (setsH ρ bs) := by simp only [bindH]
@[simp] theorem flatH_nm {i : Nat} {v : HV} : flatH h (.nm i) v = .ok [(i, v)] := by simp only [flatH]
@[simp] theorem flatH_tp {ts : Tgs} {v : HV} : flatH h (.tp ts) v = itemsH h v >>= fun vs => flatHs h ts vs := by simp only [flatH]
@[simp] theorem flatHs_nil : flatHs h .nil [] = .ok [] := by simp only [flatHs]
@[simp] theorem flatHs_cons {t : Tg} {r : Tgs} {v : HV} {vs : List HV} : flatHs h (.cons t r) (v :: vs) = flatH h t v >>= fun a => flatHs h r vs >>= fun b => .ok (a ++ b) := by simp only [flatHs]
@[simp] theorem itemsH_t {xs : List HV} : itemsH h (.t xs) = .ok xs := id rfl
@[simp] theorem setsH_nil : setsH ρ [] = ρ := id rfl
@[simp] theorem setsH_cons {i : Nat} {v : HV} {r : List (Nat × HV)} : setsH ρ ((i, v) :: r) = setsH (ρ.set i (some v)) r := id rfl
end VM
set_option maxHeartbeats 4000000
namespace VM
open PySem
theorem all_by {α : Type} {p : α → Bool} {l : List α} (h : ∀ k, k < l.length → ((l.drop k).take 1).all p = true) : ∀ v ∈ l, p v = true := by
 intro v hv
 obtain ⟨k, hk, rfl⟩ := List.mem_iff_getElem.mp hv
 have := h k hk
 rw [List.drop_eq_getElem_cons hk, List.take_succ_cons, List.take_zero, List.all_cons, List.all_nil, Bool.and_true] at this
 exact this
theorem all1 : ∀ v ∈ rows1, doorB v = true := all_by fun k hk => by
 rw [rows_len.1] at hk
 match k, hk with
 | 0, _ => exact d0
 | 1, _ => exact d1
 | 2, _ => exact d2
 | 3, _ => exact d3
 | 4, _ => exact d4
 | 5, _ => exact d5
 | 6, _ => exact d6
 | 7, _ => exact d7
 | 8, _ => exact d8
 | 9, _ => exact d9
 | 10, _ => exact d10
 | 11, _ => exact d11
 | 12, _ => exact d12
 | 13, _ => exact d13
 | 14, _ => exact d14
 | 15, _ => exact d15
 | 16, _ => exact d16
 | 17, _ => exact d17
 | 18, _ => exact d18
 | k + 19, hk => omega
theorem all2 : ∀ v ∈ rows2, doorB v = true := all_by fun k hk => by
 rw [rows_len.2] at hk
 match k, hk with
 | 0, _ => exact e0
 | 1, _ => exact e1
 | 2, _ => exact e2
 | 3, _ => exact e3
 | 4, _ => exact e4
 | 5, _ => exact e5
 | k + 6, hk => omega
theorem door_ok {v : Val} (h : doorB v = true) : ∃ a b c, v = .tup [a, b, c] ∧ callP Pr 23 397 [a, b, c] = .ok (.bl true) := by
 unfold doorB at h
 split at h
 ·rename_i a b c
  split at h
  ·rename_i e
   exact ⟨a, b, c, rfl, callK_up e (by decide)⟩
  ·cases h
 ·cases h
theorem c_rows1 : callP Pr 23 327 [] = .ok (.lst rows1) := callK_up (isL0_ok rows1_ok) (by decide)
theorem c_rows2 : callP Pr 23 328 [] = .ok (.lst rows2) := callK_up (isL0_ok rows2_ok) (by decide)
theorem cut_mem {l : List Val} {a b : Option Int} {v : Val} (h : v ∈ cutL l a b) : v ∈ l := List.mem_of_mem_drop (List.mem_of_mem_take h)
theorem cut_len {l : List Val} {a b : Option Int} : (cutL l a b).length ≤ l.length := by
 unfold cutL
 rw [List.length_take, List.length_drop]; omega
theorem c_cell0 (ns : List Int) : ∃ x, callP Pr 23 16 [.lst (ns.map Val.int), .int 0] = .ok (.int x) := by
 rw [call_eq (d := D16) rfl rfl]
 cases ns with
 | nil => exact ⟨0, by simp [D16]⟩
 | cons n r => exact ⟨n, by simp [D16]⟩
theorem forGo_thru40 {bind : SEnv → Val → R SEnv} {body : SEnv → R (Fl × SEnv)} (I : SEnv → Prop) : ∀ (l : List Val) (ρ : SEnv), I ρ → (∀ v ∈ l, ∀ ρ, I ρ → ∃ ρ1 ρ2, bind ρ v = .ok ρ1 ∧ body ρ1 = .ok (.nx, ρ2) ∧ I ρ2) → ∃ ρ', forGo bind body l ρ = .ok (.nx, ρ') ∧ I ρ'
 | [], ρ, h, _ => ⟨ρ, by rw [forGo_nil], h⟩
 | v :: l, ρ, h, hs => by
  obtain ⟨ρ1, ρ2, e1, e2, h2⟩ := hs v List.mem_cons_self ρ h
  obtain ⟨ρ', e3, h3⟩ := forGo_thru40 I l ρ2 h2 (fun w hw => hs w (List.mem_cons_of_mem _ hw))
  refine ⟨ρ', ?_, h3⟩
  rw [forGo_cons, e1]
  simp only [okb]
  rw [e2]
  simp only [seqF_nx]
  exact e3
def oS4 : Option Val → Slot
 | none => .no
 | some v => .sh v
theorem cut63a {ns : List Int} (h : ns.length ≤ 63) : slV (.scr ns) none (some 63) = .ok (.lst (ns.map Val.int)) := by
 have e : HT.sIx (ns.map Val.int).length (ns.map Val.int).length (some 63) = (ns.map Val.int).length := by
  rw [show (63 : Int) = ((63 : Nat) : Int) by rfl, HT.sIx_nat, List.length_map]; omega
 simp only [slV, cutL, e, HT.sIx_none, Nat.sub_zero, List.drop_zero, List.take_length]
theorem law_plain : ∀ ns, Small ns → runD (Pr.tab 23) D329 [.scr ns] = .ok (.bl true) := by
 rintro ns ⟨hl, hb⟩
 rw [runD_eq rfl]
 have hs := cut63a hl
 obtain ⟨x, hx⟩ := c_cell0 ns
 obtain ⟨cs, hcs⟩ : ∃ cs, cs = Val.lst (ns.map Val.int) := ⟨_, rfl⟩
 rw [← hcs] at hs hx
 have n25 : rows1.length + rows2.length = 25 := by rw [rows_len.1, rows_len.2]
 obtain ⟨L, hL⟩ : ∃ L, L = rows1 ++ rows2 := ⟨_, rfl⟩
 have lL : L.length = 25 := by rw [hL, List.length_append, n25]
 have aL : ∀ v ∈ L, doorB v = true := fun v hv => by
  rw [hL, List.mem_append] at hv
  exact hv.elim (all1 v) (all2 v)
 obtain ⟨b, hbd⟩ : ∃ b, b = (if x < 0 then -x else x).fmod 25 := ⟨_, rfl⟩
 have c1 := c_rows1
 have c2 := c_rows2
 simp only [D329, List.map_cons, List.map_nil, List.cons_append, List.nil_append, List.replicate]
 rw [exs_cons, ex_asg]
 simp only [ev_sl, ev_var, vis, visG_sh, visG_no, visG_nil, getE_zero, okb, evO_none, evO_some, ev_int, asInt_int, hs, kept_nil, bindS_nm, List.set_cons_zero, seqF_nx]
 rw [exs_cons, ex_asg]
 simp only [ev_op, ev_call, evs_nil, okb, c1, c2, op_add_l, n25, show (25 : Nat) ≤ lineN from by decide, if_true, ← hL, kept_nil, bindS_nm, List.set_cons_zero, List.set_cons_succ, seqF_nx]
 rw [exs_cons, ex_asg]
 simp only [ev_op, ev_call, ev_bi, evs_cons, evs_nil, ev_var, ev_int, vis, visG_sh, visG_no, visG_nil, getE_zero, getE_succ, okb, hx, bi_abs_i, bi_len_l, lL, op_mod_i]
 rw [if_neg (by decide)]
 simp only [okb, kept_nil, bindS_nm, List.set_cons_zero, List.set_cons_succ, seqF_nx]
 rw [show ((25 : Nat) : Int) = 25 from rfl, ← hbd]
 rw [exs_cons, ex_loop]
 have len2 : (cutL L (some b) none).length + (cutL L none (some b)).length ≤ lineN := by
  have := @cut_len L (some b) none
  have := @cut_len L none (some b)
  have : (50 : Nat) ≤ lineN := by decide
  omega
 simp only [evI_seq, ev_op, ev_sl, ev_var, evO_none, evO_some, vis, visG_sh, visG_no, visG_nil, getE_zero, getE_succ, okb, asInt_int, slV, op_add_l, len2, if_true, seqV_l, kept_nil]
 obtain ⟨ρ', e, I⟩ := forGo_thru40 (bind := bindS (.tp #v[3#3, 3#4, 3#5])) (body := exs (Pr.tab 23) #v[.iff [] (.not1 (.call 397 #v[0#3, 0#4, 0#5])) #v[.ret [] (.cbl false)] .nil])
  (fun ρ => ∃ o1 o2 o3, ρ = [.sh cs, .sh (.lst L), .sh (.int b), oS4 o1, oS4 o2, oS4 o3]) (cutL L (some b) none ++ cutL L none (some b)) [.sh cs, .sh (.lst L), .sh (.int b), .no, .no, .no] ⟨none, none, none, rfl⟩ (fun v hv ρ ⟨o1, o2, o3, hρ⟩ => by
   have hv : v ∈ L := (List.mem_append.mp hv).elim cut_mem cut_mem
   obtain ⟨p, q, r, rfl, hd⟩ := door_ok (aL v hv)
   subst hρ
   refine ⟨[.sh cs, .sh (.lst L), .sh (.int b), .sh p, .sh q, .sh r], [.sh cs, .sh (.lst L), .sh (.int b), .sh p, .sh q, .sh r], rfl, ?_, some p, some q, some r, rfl⟩
   rw [exs_cons, ex_iff]
   simp only [ev_not, ev_call, evs_cons, evs_nil, ev_var, vis, visG_sh, visG_nil, getE_zero, getE_succ, okb, hd, tru_bl, Bool.not_true, Bool.false_eq_true, if_false, exs_nil, seqF_nx])
 rw [e]
 simp only [seqF_nx, exs_cons, ex_ret, ev_bl, okb, seqF_rt, finD_rt]
theorem law2_plain (ns : List Int) : runD (Pr.tab 23) D329 [.lst (ns.map Val.int)] = runD (Pr.tab 23) D329 [.scr ns] := by
 rw [runD_eq rfl, runD_eq rfl]
 simp only [D329, List.map_cons, List.map_nil, List.cons_append, List.nil_append]
 rw [exs_cons, exs_cons, ex_asg, ex_asg]
 rfl
end VM
namespace VM
open PySem PySem.Spec PyProof.Rows L2
structure RowD where
 id : Nat
 loc : Nat
 nm : Str
 N : List Str
 np : Nat
def RowD.ps (r : RowD) : List Str := r.N.take r.np
abbrev FnParts := Str × Str × Arguments × FuncBody × Scope × Addr × List (Str × Addr) × Value × Addr
def fnK (K : PySem.W.Frag) (q : Str) : Value → Option FnParts
 | .ref a => match K.lookup a with
  | some ⟨_, _, .func fd, _⟩ => if (PySem.W.codeIn K fd.code q && PySem.W.keepIn K (.ref a)) = true then some (fd.name, fd.qualname, fd.params, fd.body, fd.scope, fd.globals, fd.closure, fd.defaults, fd.builtins) else none
  | _ => none
 | _ => none
def fnW (x q : Str) (st : Stmt) : FnParts := (x, q, defArgs st, .stmts (defBody st), defScope st, mainGlobals, [], .none, builtinsNs)
def rowK (K : PySem.W.Frag) (x : Str) : Option FnParts := match PySem.W.nsIn K mainGlobals x with
 | some (some v) => fnK K x v
 | _ => none
theorem fnK_fun {K : PySem.W.Frag} {x q : Str} {st : Stmt} {v : Value} (h : fnK K q v = some (fnW x q st)) : ∃ a fd, v = .ref a ∧ Fun K x q st a fd ∧ fd.params = defArgs st ∧ fd.defaults = .none := by
 unfold fnK at h
 split at h
 ·rename_i a
  split at h
  ·rename_i oc od fd sl hl
   split at h
   ·rename_i hc
    rw [Bool.and_eq_true] at hc
    obtain ⟨nm, ql, pr, bd, sc, gl, cl, df, kw, dc, pm, an, cd, ct, bi⟩ := fd
    simp only [fnW, Option.some.injEq, Prod.mk.injEq] at h
    obtain ⟨rfl, rfl, rfl, rfl, rfl, rfl, rfl, rfl, rfl⟩ := h
    exact ⟨a, _, rfl, fun_mk hl hc.1 hc.2, rfl, rfl⟩
   ·cases h
  ·cases h
 ·cases h
section
variable {K : PySem.W.Frag} {h : Heap} {mg : Str → Option Value} {M : Nm} {Pr : Prog} {tp : Nat → Stmt}
theorem row_fun (X : K.In h) (G : h.Ns mainGlobals mg) {x : Str} {st : Stmt} (e : rowK K x = some (fnW x x st)) : ∃ a fd, mg x = some (.ref a) ∧ Fun K x x st a fd ∧ fd.params = defArgs st ∧ fd.defaults = .none := by
 unfold rowK at e
 split at e
 ·rename_i v hv
  obtain ⟨a, fd, rfl, F, p, d⟩ := fnK_fun e
  exact ⟨a, fd, PySem.W.mg_of X G hv, F, p, d⟩
 ·cases e
theorem row_binds {st : Stmt} {a : Addr} {fd : FuncData} {x q : Str} {ps : List Str} (F : Fun K x q st a fd) (hb : argsB (defArgs st) ps = true) : Binds K fd ps [] :=
 F.binds fun _ _ _ _ _ _ _ hl => bind_plain hb rfl hl
def rowPB (M : Nm) (Pr : Prog) (tp : Nat → Stmt) (r : RowD) : Bool := argsB (defArgs (tp r.loc)) r.ps && match Pr.F r.id with
 | some d => chkD M r.N r.ps d (tp r.loc) && (!M.fr r.id || chkDr true M r.N r.ps d (tp r.loc))
 | none => false
def rowHB (M : Nm) (Pr : Prog) (tp : Nat → Stmt) (r : RowD) : Bool := argsB (defArgs (tp r.loc)) r.ps && ((Pr.F r.id).isNone && match Pr.HF r.id with
 | some d => chkHD M r.N r.ps d (tp r.loc) && !M.fr r.id
 | none => false)
abbrev RowsK (K : PySem.W.Frag) (tp : Nat → Stmt) (rows : List RowD) : Prop := rows.map (fun r => rowK K r.nm) = rows.map fun r => some (fnW r.nm r.nm (tp r.loc))
theorem RowsK.get {rows : List RowD} (hk : RowsK K tp rows) {r : RowD} (hr : r ∈ rows) : rowK K r.nm = some (fnW r.nm r.nm (tp r.loc)) := List.map_inj_left.mp hk r hr
theorem rowP_ok (X : K.In h) (G : h.Ns mainGlobals mg) {r : RowD} (e : rowK K r.nm = some (fnW r.nm r.nm (tp r.loc))) (hb : rowPB M Pr tp r = true) : DefOk M Pr K mg r.id r.nm := by
 obtain ⟨a, fd, m, F, _, _⟩ := row_fun X G e
 unfold rowPB at hb
 rw [Bool.and_eq_true] at hb
 obtain ⟨ha, hb⟩ := hb
 split at hb
 ·rename_i d hd
  rw [Bool.and_eq_true] at hb
  refine ⟨r.N, r.ps, tp r.loc, a, fd, F, m, row_binds F ha, .inl ⟨d, hd, hb.1, fun hf => ?_⟩⟩
  have := hb.2
  rw [hf] at this
  exact this
 ·cases hb
theorem rowH_ok (X : K.In h) (G : h.Ns mainGlobals mg) {r : RowD} (e : rowK K r.nm = some (fnW r.nm r.nm (tp r.loc))) (hb : rowHB M Pr tp r = true) : DefOk M Pr K mg r.id r.nm ∧ DefOkH M Pr K mg r.id r.nm := by
 obtain ⟨a, fd, m, F, _, _⟩ := row_fun X G e
 unfold rowHB at hb
 rw [Bool.and_eq_true, Bool.and_eq_true] at hb
 obtain ⟨ha, hn, hb⟩ := hb
 split at hb
 ·rename_i d hd
  rw [Bool.and_eq_true, Bool.not_eq_true'] at hb
  exact ⟨⟨r.N, r.ps, tp r.loc, a, fd, F, m, row_binds F ha, .inr ⟨d, Option.isNone_iff_eq_none.mp hn, hd, hb.1, hb.2⟩⟩, ⟨r.N, r.ps, d, tp r.loc, a, fd, hd, F, m, row_binds F ha, hb.1⟩⟩
 ·cases hb
theorem rows_defs {P H : List RowD} (X : K.In h) (G : h.Ns mainGlobals mg) (hk : RowsK K tp (P ++ H)) (hp : P.all (rowPB M Pr tp) = true) (hh : H.all (rowHB M Pr tp) = true) {f : Nat} {x : Str}
  (hm : (f, x) ∈ (P ++ H).map fun r => (r.id, r.nm)) : DefOk M Pr K mg f x := by
 obtain ⟨r, hr, e⟩ := List.mem_map.mp hm
 cases e
 rcases List.mem_append.mp hr with q | q
 ·exact rowP_ok X G (hk.get hr) (List.all_eq_true.mp hp r q)
 ·exact (rowH_ok X G (hk.get hr) (List.all_eq_true.mp hh r q)).1
theorem rows_defsH {P H : List RowD} (X : K.In h) (G : h.Ns mainGlobals mg) (hk : RowsK K tp (P ++ H)) (hh : H.all (rowHB M Pr tp) = true) {f : Nat} {x : Str} (hm : (f, x) ∈ H.map fun r => (r.id, r.nm)) : DefOkH M Pr K mg f x := by
 obtain ⟨r, hr, e⟩ := List.mem_map.mp hm
 cases e
 exact (rowH_ok X G (hk.get (List.mem_append.mpr (.inr hr))) (List.all_eq_true.mp hh r hr)).2
theorem bis_of (X : K.In h) (G : h.Ns mainGlobals mg) (hz : biNames.map (fun x => PySem.W.nsIn K mainGlobals (Str.ofString x)) = biNames.map fun _ => some none) : ∀ x ∈ biNames, mg (Str.ofString x) = none :=
 fun x hx => PySem.W.mg_none_of X G (List.map_inj_left.mp hz x hx)
end
end VM
set_option maxHeartbeats 8000000
namespace VM
open PySem PySem.Spec PyProof.Rows L2
def topS (i : Nat) : Stmt := PySem.Challenge.pw_meanloom_k40_whole_handed.main.body.getD i (.Pass ⟨0, 0, 0, 0⟩)
def rwP0 : List RowD := [⟨1, 15, "is_whole", ["thing"], 1⟩,
 ⟨2, 16, "common", ["one", "other"], 2⟩,
 ⟨3, 17, "lowest", ["top", "bottom", "by"], 2⟩,
 ⟨4, 18, "is_share", ["thing"], 1⟩,
 ⟨7, 19, "add", ["one", "other"], 2⟩,
 ⟨8, 20, "cut", ["one", "other"], 2⟩,
 ⟨9, 21, "grow", ["one", "other"], 2⟩,
 ⟨10, 22, "part", ["one", "other"], 2⟩,
 ⟨27, 27, "are_numbers", ["thing", "one"], 1⟩,
 ⟨28, 28, "is_row", ["thing"], 1⟩,
 ⟨32, 29, "check_table", ["table", "row", "weight", "numbers"], 1⟩,
 ⟨29, 30, "letters_of", ["table"], 1⟩]
def rwP1 : List RowD := [⟨132, 31, "is_word", ["thing", "table", "letter"], 2⟩,
 ⟨133, 32, "check_word", ["table", "word"], 2⟩,
 ⟨31, 33, "product", ["numbers", "word", "found", "letter"], 2⟩,
 ⟨34, 34, "mean_of", ["table", "word", "top", "weight", "numbers"], 2⟩,
 ⟨219, 35, "mean", ["table", "word"], 2⟩,
 ⟨46, 37, "told_by", ["way", "numbers", "often", "number"], 2⟩,
 ⟨53, 42, "check_kind", ["kind"], 1⟩,
 ⟨89, 43, "things_of", ["grouping", "group"], 1⟩,
 ⟨74, 44, "is_grouping", ["thing", "every", "group", "firsts", "one"], 1⟩,
 ⟨76, 45, "check_grouping", ["grouping"], 1⟩,
 ⟨75, 46, "cross", ["one", "other", "group", "more", "first", "second", "inside", "thing"], 2⟩,
 ⟨77, 47, "of_kind", ["grouping", "kind", "group", "at", "other"], 2⟩]
def rwP2 : List RowD := [⟨82, 48, "is_kind", ["grouping", "kind"], 2⟩,
 ⟨83, 50, "all_homes", ["many", "found", "thing", "longer", "homes", "home"], 1⟩,
 ⟨61, 52, "catalan", ["many", "found", "at"], 1⟩,
 ⟨90, 53, "is_within", ["one", "other", "home", "at", "group", "thing"], 2⟩,
 ⟨91, 54, "check_two", ["one", "other"], 2⟩,
 ⟨92, 55, "within", ["one", "other"], 2⟩,
 ⟨104, 60, "signed", ["number", "many"], 2⟩,
 ⟨105, 61, "mark_of", ["grouping", "kind", "many", "found", "step", "group"], 2⟩,
 ⟨106, 62, "mark", ["grouping", "kind"], 2⟩,
 ⟨129, 65, "check_means", ["means", "one"], 1⟩,
 ⟨49, 66, "chosen", ["many", "some", "found", "step"], 2⟩,
 ⟨51, 67, "weight_of", ["kind", "means", "many", "size", "rest"], 4⟩]
def rwP3 : List RowD := [⟨50, 68, "power_of", ["means", "size", "rest", "row", "found", "turn", "longer", "many", "gain", "first"], 3⟩,
 ⟨54, 69, "sums_of", ["means", "kind", "found", "many", "gain", "size"], 2⟩,
 ⟨55, 70, "means_of", ["sums", "kind", "found", "many", "gain", "size"], 2⟩,
 ⟨130, 71, "sums_from", ["means", "kind"], 2⟩,
 ⟨131, 72, "means_from", ["sums", "kind"], 2⟩,
 ⟨209, 73, "between", ["sums", "kind", "other"], 3⟩,
 ⟨137, 75, "is_one_thing", ["word", "grouping", "group", "place"], 2⟩,
 ⟨138, 76, "word_by", ["one", "other", "word", "kind", "sums", "found", "grouping", "gain", "group"], 4⟩,
 ⟨139, 77, "word_mean", ["one", "other", "word", "kind", "letter"], 4⟩,
 ⟨145, 78, "added", ["one", "other", "kind", "many", "sums", "mine", "theirs"], 3⟩,
 ⟨157, 81, "numbers_of", ["table", "letter", "found", "weight", "numbers"], 2⟩,
 ⟨158, 82, "is_apart", ["table", "one", "other", "mine", "theirs", "both", "weight", "numbers", "pair", "whole", "first", "second"], 3⟩]
def rwP4 : List RowD := [⟨147, 83, "powers_of", ["table", "one", "other", "many", "more", "whole", "found", "firsts", "i", "row", "here", "j", "weight", "numbers", "gain"], 5⟩,
 ⟨148, 84, "sum_at", ["means", "known", "i", "j", "gain", "a", "b", "ways"], 4⟩,
 ⟨149, 85, "both_sums", ["means", "many", "more", "known", "i", "j"], 3⟩,
 ⟨150, 86, "sum_of_both", ["table", "one", "other", "many", "more"], 5⟩,
 ⟨159, 89, "square_of", ["means", "row", "found", "i", "mine", "j", "theirs"], 2⟩,
 ⟨151, 94, "check_letters", ["table", "one", "other"], 3⟩,
 ⟨152, 95, "both_sum", ["table", "one", "other", "many", "more"], 5⟩,
 ⟨160, 96, "first_mixed", ["table", "one", "other", "sizes", "most", "many", "more", "known", "i", "j"], 3⟩,
 ⟨284, 97, "apart", ["table", "one", "other", "found"], 3⟩,
 ⟨172, 100, "without", ["form", "at", "size", "row", "left", "i", "j"], 2⟩,
 ⟨109, 106, "letters_at", ["word", "group", "place"], 2⟩,
 ⟨124, 109, "behind_one_another", ["words", "group", "found", "at"], 2⟩]
def rwP5 : List RowD := [⟨16, 112, "_law_cell_at", ["_law_script", "_law_k"], 2⟩]
def rwP : List RowD := rwP0 ++ rwP1 ++ rwP2 ++ rwP3 ++ rwP4 ++ rwP5
def rwH0 : List RowD := [⟨42, 36, "beside", ["one", "other", "found", "weight", "numbers", "more", "others"], 2⟩,
 ⟨47, 38, "made", ["table", "ways", "way", "weight", "numbers"], 2⟩,
 ⟨84, 49, "by_homes", ["homes", "found", "thing", "home"], 1⟩,
 ⟨85, 51, "groupings_of", ["many", "kind", "grouping", "homes"], 2⟩,
 ⟨93, 56, "joined_of", ["one", "other", "homes", "group", "thing", "old", "new", "known", "home"], 2⟩,
 ⟨94, 57, "joined", ["one", "other"], 2⟩,
 ⟨99, 58, "turned_in_of", ["grouping", "many", "after", "group", "one", "other", "homes", "found", "gap", "here", "thing"], 1⟩,
 ⟨100, 59, "turned_in", ["grouping"], 1⟩,
 ⟨173, 101, "led_back", ["rows", "found", "at", "row", "gain", "j"], 2⟩,
 ⟨174, 102, "below_row", ["form", "at", "rows", "size", "found", "j", "twice"], 3⟩,
 ⟨298, 103, "steady_of", ["means", "size", "form", "parts", "rows", "at", "bar", "weight", "row", "i"], 1⟩,
 ⟨309, 104, "steady", ["means", "one"], 1⟩]
def rwH1 : List RowD := [⟨394, 113, "_law_copy", ["_law_thing", "_law_one"], 1⟩,
 ⟨395, 114, "_law_into", ["_law_handed", "_law_new", "_law_at", "_law_one"], 2⟩,
 ⟨396, 115, "_law_spoil", ["_law_found", "_law_one"], 1⟩,
 ⟨397, 116, "_law_door_right", ["_law_ask", "_law_first", "_law_second", "_law_handed", "_law_dues", "_law_some", "_law_due", "_law_again", "_law_found"], 3⟩]
def rwH : List RowD := rwH0 ++ rwH1
def nmF : List (Nat × Str) := ((rwP ++ rwH).map fun r => (r.id, r.nm)) ++ ([(221, "sum_of"), (222, "product_sum"), (327, "_law_rows_one"), (328, "_law_rows_two"), (329, "law")] : List (Nat × Str))
def nmG : List (Nat × Str) := [(1, "MOST_LETTERS"), (2, "MOST_ROWS"), (11, "LONGEST_tables"), (4, "KINDS"), (9, "MOST"), (10, "LONGEST_series"), (6, "ONE"), (7, "NOUGHT"), (12, "FARTHEST"), (14, "LONGEST_squares")]
def nmR : List Nat := [54, 55, 130, 131, 209, 145, 147, 109]
def nmH : List (Nat × Str) := (rwH.map fun r => (r.id, r.nm)) ++ ([] : List (Nat × Str))
def nmKh : List (Nat × Str) := [(389, "Squares"), (388, "Below")]
def nmC : List (Nat × Str) := [(1, "Apart"), (3, "Squares")]
def nmK : List (Nat × Str) := [(280, "Apart"), (281, "Mixed"), (283, "Below")]
def MM : Nm := { fn := fun f => nmF.lookup f, gl := fun g => nmG.lookup g, fr := fun f => nmR.contains f, hn := fun f => nmH.lookup f, cn := fun c => nmC.lookup c, ct := fun f => nmK.lookup f, ch := fun f => nmKh.lookup f, fl := ["many", "more", "parts", "row"], mt := [(1, "shows", 287), (2, "shows", 288), (3, "shows", 290), (4, "shows", 291)] }
def zvL : List (Nat × Nat) := ([(398, 399), (400, 401), (402, 403), (404, 405), (406, 407), (408, 409), (410, 411), (412, 413), (414, 415), (416, 417), (418, 419), (420, 421), (422, 423), (424, 425), (426, 427), (428, 429)] : List (Nat × Nat)) ++ ([(430, 431), (432, 433), (434, 435), (436, 437), (438, 439)] : List (Nat × Nat))
def zvf (f : Nat) : Option Nat := zvL.lookup f
theorem zvok : ZvOk Pr zvf := by
 intro f g h
 have hm := look_mem (show zvL.lookup f = some g from h)
 unfold zvL at hm
 simp only [List.cons_append, List.nil_append, List.mem_cons, Prod.mk.injEq, List.not_mem_nil, or_false] at hm
 rcases hm with ⟨rfl, rfl⟩ | ⟨rfl, rfl⟩ | ⟨rfl, rfl⟩ | ⟨rfl, rfl⟩ | ⟨rfl, rfl⟩ | ⟨rfl, rfl⟩ | ⟨rfl, rfl⟩ | ⟨rfl, rfl⟩ | ⟨rfl, rfl⟩ | ⟨rfl, rfl⟩ | ⟨rfl, rfl⟩ | ⟨rfl, rfl⟩ | ⟨rfl, rfl⟩ | ⟨rfl, rfl⟩ | ⟨rfl, rfl⟩ | ⟨rfl, rfl⟩ | ⟨rfl, rfl⟩ | ⟨rfl, rfl⟩ | ⟨rfl, rfl⟩ | ⟨rfl, rfl⟩ | ⟨rfl, rfl⟩
 all_goals exact ⟨_, rfl, rfl⟩
theorem chk287 : chkD MM ["self", "table", "one", "other"] ["self", "table", "one", "other"] D287 (inClass (topS 87) 0) = true := by decide +kernel
theorem chk288 : chkD MM ["self", "table", "one", "other"] ["self", "table", "one", "other"] D288 (inClass (topS 88) 1) = true := by decide +kernel
theorem chk290 : chkD MM ["self", "means", "size", "i", "j", "found", "weight", "row"] ["self", "means"] D290 (inClass (topS 90) 1) = true := by decide +kernel
theorem chk291 : chkD MM ["self", "means"] ["self", "means"] D291 (inClass (topS 91) 1) = true := by decide +kernel
theorem chk281 : chkInit MM ["self", "many", "more"] ["self", "many", "more"] ["many", "more"] #v[0#1, 0#2] (inClass (topS 88) 0) = true := by decide +kernel
theorem chk283 : chkInit MM ["self", "row"] ["self", "row"] ["row"] #v[.bi .list #v[0#1]] (inClass (topS 91) 0) = true := by decide +kernel
theorem chk389 : chkInitH MM ["self", "parts", "weight", "row"] ["self", "parts"] ["parts"] #v[.comp [2, 3] (.tp #v[3#2, 3#3]) (.seq 0#1) [] .none (.tup #v[0#2, .lof 0#3])] (inClass (topS 90) 0) = true := by decide +kernel
theorem chk388 : chkInitH MM ["self", "row"] ["self", "row"] ["row"] #v[.lof 0#1] (inClass (topS 91) 0) = true := by decide +kernel
def pre221 : SB := #v[.expr [] (.call 32 #v[0#0]), .expr [] (.call 133 #v[0#0, 0#1]), .iff [] (.op .eq 0#1 (.lst .nil)) (#v[.raise 6]) (.nil), .expr [] (.call 53 #v[0#2])]
theorem chk221 : chkLam MM ["table", "word", "kind"] ["table", "word", "kind"] pre221 4 0#2 (.bi .len #v[0#1]) (.call 34 #v[0#0, .call 109 #v[0#1, 0#3]]) "sum_by" "group" (topS 108) = true := by decide +kernel
theorem eqd221 : D221 = ⟨(["table", "word", "kind"] : List Str).length, (["table", "word", "kind"] : List Str).length, pre221.app #v[.ret [] (.call 275 #v[0#2, .bi .len #v[0#1], 0#0, 0#1])]⟩ := rfl
def pre222 : SB := #v[.expr [] (.call 32 #v[0#0]), .iff [] (.bop false #v[.not1 (.isi 0#1 .list), .not1 (.chain .le .le 1#1 (.bi .len #v[0#1]) 2#11)]) (#v[.raise 6]) (.nil), .iff [] (.not1 (.bi .all #v[.comp [2] 3#2 (.seq 0#1) .none (.bop true #v[.call 132 #v[0#2, 0#0], .op .ne 0#2 (.lst .nil)])])) (#v[.raise 6]) (.nil), .iff [] (.op .gt (.bi .sum #v[.comp [2] 3#2 (.seq 0#1) .none (.bi .len #v[0#2])]) 2#11) (#v[.raise 6]) (.nil)]
theorem chk222 : chkLam MM ["table", "words", "word"] ["table", "words"] pre222 4 (.cstr "all") (.bi .len #v[0#1]) (.call 34 #v[0#0, .call 124 #v[0#1, 0#3]]) "sum_by" "group" (topS 110) = true := by decide +kernel
theorem eqd222 : D222 = ⟨(["table", "words"] : List Str).length, (["table", "words", "word"] : List Str).length, pre222.app #v[.ret [] (.call 277 #v[.cstr "all", .bi .len #v[0#1], 0#0, 0#1])]⟩ := rfl
theorem chk327 : chkD (withLv MM Pr zvf) ["_law_rows"] [] D327 (topS 117) = true := by decide +kernel
theorem chk328 : chkD (withLv MM Pr zvf) ["_law_rows"] [] D328 (topS 118) = true := by decide +kernel
theorem chk329 : chkD MM ["_law_script", "_law_rows", "_law_begin", "_law_ask", "_law_first", "_law_second"] ["_law_script"] D329 (topS 119) = true := by decide +kernel
theorem rwPk0 : rwP0.all (rowPB MM Pr topS) = true := by decide +kernel
theorem rwPk1 : rwP1.all (rowPB MM Pr topS) = true := by decide +kernel
theorem rwPk2 : rwP2.all (rowPB MM Pr topS) = true := by decide +kernel
theorem rwPk3 : rwP3.all (rowPB MM Pr topS) = true := by decide +kernel
theorem rwPk4 : rwP4.all (rowPB MM Pr topS) = true := by decide +kernel
theorem rwPk5 : rwP5.all (rowPB MM Pr topS) = true := by decide +kernel
theorem rwPk : rwP.all (rowPB MM Pr topS) = true := by simp only [rwP, List.all_append, rwPk0, rwPk1, rwPk2, rwPk3, rwPk4, rwPk5, Bool.and_self]
theorem rwHk0 : rwH0.all (rowHB MM Pr topS) = true := by decide +kernel
theorem rwHk1 : rwH1.all (rowHB MM Pr topS) = true := by decide +kernel
theorem rwHk : rwH.all (rowHB MM Pr topS) = true := by simp only [rwH, List.all_append, rwHk0, rwHk1, Bool.and_self]
theorem chk220 : chkSumBy MM ["kind", "many", "mean", "found", "grouping", "gain", "group"] 7 85 105 9 7 (topS 107) = true := by decide +kernel
section
variable {w : World} {K : PySem.W.Frag} {ts : List Addr} {h : Heap} {mg : Str → Option Value} {fa : Addr}
theorem all_mk (X : K.In h) (G : h.Ns mainGlobals mg) (hfa : mg "law" = some (.ref fa))
  {od221 an221 : Option Addr} {sl221 : Array (Option Value)} {oc221 kV221 dc221 pm221 ct221 : Value} {f221 ca221 tb221 : Addr}
  {od222 an222 : Option Addr} {sl222 : Array (Option Value)} {oc222 kV222 dc222 pm222 ct222 : Value} {f222 ca222 tb222 : Addr}
  {od327 an327 : Option Addr} {sl327 : Array (Option Value)} {oc327 kV327 dc327 pm327 ct327 : Value} {f327 ca327 tb327 : Addr}
  {od328 an328 : Option Addr} {sl328 : Array (Option Value)} {oc328 kV328 dc328 pm328 ct328 : Value} {f328 ca328 tb328 : Addr}
  {od329 an329 : Option Addr} {sl329 : Array (Option Value)} {oc329 kV329 dc329 pm329 cd329 ct329 : Value} {f329 : Addr}
  {od220 an220 : Option Addr} {sl220 : Array (Option Value)} {oc220 kV220 dc220 pm220 cd220 ct220 : Value} {f220 : Addr}
  {C1 : Addr}
  {C2 : Addr}
  {C3 : Addr}
  {C4 : Addr}
  {od281 an281 : Option Addr} {sl281 : Array (Option Value)} {oc281 kV281 dc281 pm281 cd281 ct281 : Value} {f281 : Addr}
  {od282 an282 : Option Addr} {sl282 : Array (Option Value)} {oc282 kV282 dc282 pm282 cd282 ct282 : Value} {f282 : Addr}
  {od283 an283 : Option Addr} {sl283 : Array (Option Value)} {oc283 kV283 dc283 pm283 cd283 ct283 : Value} {f283 : Addr}
  {od287 an287 : Option Addr} {sl287 : Array (Option Value)} {oc287 kV287 dc287 pm287 cd287 ct287 : Value} {f287 : Addr}
  {od288 an288 : Option Addr} {sl288 : Array (Option Value)} {oc288 kV288 dc288 pm288 cd288 ct288 : Value} {f288 : Addr}
  {od290 an290 : Option Addr} {sl290 : Array (Option Value)} {oc290 kV290 dc290 pm290 cd290 ct290 : Value} {f290 : Addr}
  {od291 an291 : Option Addr} {sl291 : Array (Option Value)} {oc291 kV291 dc291 pm291 cd291 ct291 : Value} {f291 : Addr}
  {tg1 : Tok}
  {tg2 : Tok}
  {tg11 : Tok}
  {ag4 : Addr} {og4 : Option Addr} {ng4 : Nat} {sg4 : Array (Option Value)} {tg4_0 : Tok} {tg4_1 : Tok} {tg4_2 : Tok}
  {tg9 : Tok}
  {tg10 : Tok}
  {ag6 : Addr} {og6 : Option Addr} {ng6 : Nat} {sg6 : Array (Option Value)} {tg6_0 : Tok} {tg6_1 : Tok}
  {ag7 : Addr} {og7 : Option Addr} {ng7 : Nat} {sg7 : Array (Option Value)} {tg7_0 : Tok} {tg7_1 : Tok}
  {tg12 : Tok}
  {tg14 : Tok}
  (a221 : PySem.W.nsIn K mainGlobals "sum_of" = some (some (.ref f221)))
  (l221 : K.lookup f221 = some ⟨oc221, od221, .func (PySem.W.fnOf "sum_of" "sum_of" (defArgs (topS 108)) (defBody (topS 108)) (defScope (topS 108)) .none kV221 dc221 pm221 an221 (.ref ca221) ct221), sl221⟩)
  (c221 : PySem.W.codeIn K (.ref ca221) "sum_of" = true) (k221 : PySem.W.keepIn K (.ref f221) = true)
  (h221 : PySem.W.codeHdIn K ca221 tb221 = true) (t221 : tb221 ∈ ts) (n221 : K.lookup tb221 = none)
  (a222 : PySem.W.nsIn K mainGlobals "product_sum" = some (some (.ref f222)))
  (l222 : K.lookup f222 = some ⟨oc222, od222, .func (PySem.W.fnOf "product_sum" "product_sum" (defArgs (topS 110)) (defBody (topS 110)) (defScope (topS 110)) .none kV222 dc222 pm222 an222 (.ref ca222) ct222), sl222⟩)
  (c222 : PySem.W.codeIn K (.ref ca222) "product_sum" = true) (k222 : PySem.W.keepIn K (.ref f222) = true)
  (h222 : PySem.W.codeHdIn K ca222 tb222 = true) (t222 : tb222 ∈ ts) (n222 : K.lookup tb222 = none)
  (a327 : PySem.W.nsIn K mainGlobals "_law_rows_one" = some (some (.ref f327)))
  (l327 : K.lookup f327 = some ⟨oc327, od327, .func (PySem.W.fnOf "_law_rows_one" "_law_rows_one" (defArgs (topS 117)) (defBody (topS 117)) (defScope (topS 117)) .none kV327 dc327 pm327 an327 (.ref ca327) ct327), sl327⟩)
  (c327 : PySem.W.codeIn K (.ref ca327) "_law_rows_one" = true) (k327 : PySem.W.keepIn K (.ref f327) = true)
  (h327 : PySem.W.codeHdIn K ca327 tb327 = true) (t327 : tb327 ∈ ts) (n327 : K.lookup tb327 = none)
  (a328 : PySem.W.nsIn K mainGlobals "_law_rows_two" = some (some (.ref f328)))
  (l328 : K.lookup f328 = some ⟨oc328, od328, .func (PySem.W.fnOf "_law_rows_two" "_law_rows_two" (defArgs (topS 118)) (defBody (topS 118)) (defScope (topS 118)) .none kV328 dc328 pm328 an328 (.ref ca328) ct328), sl328⟩)
  (c328 : PySem.W.codeIn K (.ref ca328) "_law_rows_two" = true) (k328 : PySem.W.keepIn K (.ref f328) = true)
  (h328 : PySem.W.codeHdIn K ca328 tb328 = true) (t328 : tb328 ∈ ts) (n328 : K.lookup tb328 = none)
  (a329 : PySem.W.nsIn K mainGlobals "law" = some (some (.ref f329)))
  (l329 : K.lookup f329 = some ⟨oc329, od329, .func (PySem.W.fnOf "law" "law" (defArgs (topS 119)) (defBody (topS 119)) (defScope (topS 119)) .none kV329 dc329 pm329 an329 cd329 ct329), sl329⟩)
  (c329 : PySem.W.codeIn K cd329 "law" = true) (k329 : PySem.W.keepIn K (.ref f329) = true)
  (a220 : PySem.W.nsIn K mainGlobals "sum_by" = some (some (.ref f220)))
  (l220 : K.lookup f220 = some ⟨oc220, od220, .func (PySem.W.fnOf "sum_by" "sum_by" (defArgs (topS 107)) (defBody (topS 107)) (defScope (topS 107)) .none kV220 dc220 pm220 an220 cd220 ct220), sl220⟩)
  (c220 : PySem.W.codeIn K cd220 "sum_by" = true) (k220 : PySem.W.keepIn K (.ref f220) = true)
  (dd : ([tb221, tb222, tb327, tb328] : List Addr).Nodup)
  (aC1 : PySem.W.nsIn K mainGlobals "Apart" = some (some (.ref C1)))
  (aC2 : PySem.W.nsIn K mainGlobals "Mixed" = some (some (.ref C2)))
  (aC3 : PySem.W.nsIn K mainGlobals "Squares" = some (some (.ref C3)))
  (aC4 : PySem.W.nsIn K mainGlobals "Below" = some (some (.ref C4)))
  (gcg : PySem.W.specialIn K (.builtin "object.__class__") "__get__" = some (some (.builtin "getset_descriptor.__get__")))
  (gct : PySem.W.takesIn K (.builtin "object.__class__") = some true)
  (pg1 : PySem.W.plainGet K C1 Str.empty = true)
  (hd1 : PySem.W.hasDictIn K C1 = true)
  (po1 : PySem.W.plainOver K C1 = true)
  (sa1 : PySem.W.findIn K (.ref C1) "__setattr__" = some (some (.builtin "object.__setattr__")))
  (ha1 : PySem.W.findIn K (.ref C1) "__class__" = some (some (.builtin "object.__class__")))
  (mo1 : PySem.W.mroIn K C1 (.type "object") = some true)
  (nf1_0 : PySem.W.findIn K (.ref C1) "many" = some none)
  (nf1_1 : PySem.W.findIn K (.ref C1) "more" = some none)
  (nf1_2 : PySem.W.findIn K (.ref C1) "parts" = some none)
  (nf1_3 : PySem.W.findIn K (.ref C1) "row" = some none)
  (kt1_1 : PySem.W.kitOne K (.ref C1) (.ref C1) = some true)
  (kt1_3 : PySem.W.kitOne K (.ref C1) (.ref C3) = some false)
  (pg2 : PySem.W.plainGet K C2 Str.empty = true)
  (hd2 : PySem.W.hasDictIn K C2 = true)
  (po2 : PySem.W.plainOver K C2 = true)
  (sa2 : PySem.W.findIn K (.ref C2) "__setattr__" = some (some (.builtin "object.__setattr__")))
  (ha2 : PySem.W.findIn K (.ref C2) "__class__" = some (some (.builtin "object.__class__")))
  (mo2 : PySem.W.mroIn K C2 (.type "object") = some true)
  (nf2_0 : PySem.W.findIn K (.ref C2) "many" = some none)
  (nf2_1 : PySem.W.findIn K (.ref C2) "more" = some none)
  (nf2_2 : PySem.W.findIn K (.ref C2) "parts" = some none)
  (nf2_3 : PySem.W.findIn K (.ref C2) "row" = some none)
  (kt2_1 : PySem.W.kitOne K (.ref C2) (.ref C1) = some false)
  (kt2_3 : PySem.W.kitOne K (.ref C2) (.ref C3) = some false)
  (pg3 : PySem.W.plainGet K C3 Str.empty = true)
  (hd3 : PySem.W.hasDictIn K C3 = true)
  (po3 : PySem.W.plainOver K C3 = true)
  (sa3 : PySem.W.findIn K (.ref C3) "__setattr__" = some (some (.builtin "object.__setattr__")))
  (ha3 : PySem.W.findIn K (.ref C3) "__class__" = some (some (.builtin "object.__class__")))
  (mo3 : PySem.W.mroIn K C3 (.type "object") = some true)
  (nf3_0 : PySem.W.findIn K (.ref C3) "many" = some none)
  (nf3_1 : PySem.W.findIn K (.ref C3) "more" = some none)
  (nf3_2 : PySem.W.findIn K (.ref C3) "parts" = some none)
  (nf3_3 : PySem.W.findIn K (.ref C3) "row" = some none)
  (kt3_1 : PySem.W.kitOne K (.ref C3) (.ref C1) = some false)
  (kt3_3 : PySem.W.kitOne K (.ref C3) (.ref C3) = some true)
  (pg4 : PySem.W.plainGet K C4 Str.empty = true)
  (hd4 : PySem.W.hasDictIn K C4 = true)
  (po4 : PySem.W.plainOver K C4 = true)
  (sa4 : PySem.W.findIn K (.ref C4) "__setattr__" = some (some (.builtin "object.__setattr__")))
  (ha4 : PySem.W.findIn K (.ref C4) "__class__" = some (some (.builtin "object.__class__")))
  (mo4 : PySem.W.mroIn K C4 (.type "object") = some true)
  (nf4_0 : PySem.W.findIn K (.ref C4) "many" = some none)
  (nf4_1 : PySem.W.findIn K (.ref C4) "more" = some none)
  (nf4_2 : PySem.W.findIn K (.ref C4) "parts" = some none)
  (nf4_3 : PySem.W.findIn K (.ref C4) "row" = some none)
  (kt4_1 : PySem.W.kitOne K (.ref C4) (.ref C1) = some false)
  (kt4_3 : PySem.W.kitOne K (.ref C4) (.ref C3) = some false)
  (mk1 : PySem.W.makesIn K C1 = true)
  (kc1 : PySem.W.keepIn K (.ref C1) = true)
  (ai1 : PySem.W.findIn K (.ref C1) "__init__" = some (some (.builtin "object.__init__")))
  (mk2 : PySem.W.makesIn K C2 = true)
  (kc2 : PySem.W.keepIn K (.ref C2) = true)
  (ai2 : PySem.W.findIn K (.ref C2) "__init__" = some (some (.ref f281)))
  (fn281 : PySem.W.isFn K (.ref f281) = true)
  (l281 : K.lookup f281 = some ⟨oc281, od281, .func (PySem.W.fnOf "__init__" "Mixed.__init__" (defArgs (inClass (topS 88) 0)) (defBody (inClass (topS 88) 0)) (defScope (inClass (topS 88) 0)) .none kV281 dc281 pm281 an281 cd281 ct281), sl281⟩)
  (c281 : PySem.W.codeIn K cd281 "Mixed.__init__" = true)
  (k281 : PySem.W.keepIn K (.ref f281) = true)
  (mk3 : PySem.W.makesIn K C3 = true)
  (kc3 : PySem.W.keepIn K (.ref C3) = true)
  (ai3 : PySem.W.findIn K (.ref C3) "__init__" = some (some (.ref f282)))
  (fn282 : PySem.W.isFn K (.ref f282) = true)
  (l282 : K.lookup f282 = some ⟨oc282, od282, .func (PySem.W.fnOf "__init__" "Squares.__init__" (defArgs (inClass (topS 90) 0)) (defBody (inClass (topS 90) 0)) (defScope (inClass (topS 90) 0)) .none kV282 dc282 pm282 an282 cd282 ct282), sl282⟩)
  (c282 : PySem.W.codeIn K cd282 "Squares.__init__" = true)
  (k282 : PySem.W.keepIn K (.ref f282) = true)
  (mk4 : PySem.W.makesIn K C4 = true)
  (kc4 : PySem.W.keepIn K (.ref C4) = true)
  (ai4 : PySem.W.findIn K (.ref C4) "__init__" = some (some (.ref f283)))
  (fn283 : PySem.W.isFn K (.ref f283) = true)
  (l283 : K.lookup f283 = some ⟨oc283, od283, .func (PySem.W.fnOf "__init__" "Below.__init__" (defArgs (inClass (topS 91) 0)) (defBody (inClass (topS 91) 0)) (defScope (inClass (topS 91) 0)) .none kV283 dc283 pm283 an283 cd283 ct283), sl283⟩)
  (c283 : PySem.W.codeIn K cd283 "Below.__init__" = true)
  (k283 : PySem.W.keepIn K (.ref f283) = true)
  (a287 : PySem.W.findIn K (.ref C1) "shows" = some (some (.ref f287)))
  (fn287 : PySem.W.isFn K (.ref f287) = true)
  (l287 : K.lookup f287 = some ⟨oc287, od287, .func (PySem.W.fnOf "shows" "Apart.shows" (defArgs (inClass (topS 87) 0)) (defBody (inClass (topS 87) 0)) (defScope (inClass (topS 87) 0)) .none kV287 dc287 pm287 an287 cd287 ct287), sl287⟩)
  (c287 : PySem.W.codeIn K cd287 "Apart.shows" = true)
  (k287 : PySem.W.keepIn K (.ref f287) = true)
  (a288 : PySem.W.findIn K (.ref C2) "shows" = some (some (.ref f288)))
  (fn288 : PySem.W.isFn K (.ref f288) = true)
  (l288 : K.lookup f288 = some ⟨oc288, od288, .func (PySem.W.fnOf "shows" "Mixed.shows" (defArgs (inClass (topS 88) 1)) (defBody (inClass (topS 88) 1)) (defScope (inClass (topS 88) 1)) .none kV288 dc288 pm288 an288 cd288 ct288), sl288⟩)
  (c288 : PySem.W.codeIn K cd288 "Mixed.shows" = true)
  (k288 : PySem.W.keepIn K (.ref f288) = true)
  (a290 : PySem.W.findIn K (.ref C3) "shows" = some (some (.ref f290)))
  (fn290 : PySem.W.isFn K (.ref f290) = true)
  (l290 : K.lookup f290 = some ⟨oc290, od290, .func (PySem.W.fnOf "shows" "Squares.shows" (defArgs (inClass (topS 90) 1)) (defBody (inClass (topS 90) 1)) (defScope (inClass (topS 90) 1)) .none kV290 dc290 pm290 an290 cd290 ct290), sl290⟩)
  (c290 : PySem.W.codeIn K cd290 "Squares.shows" = true)
  (k290 : PySem.W.keepIn K (.ref f290) = true)
  (a291 : PySem.W.findIn K (.ref C4) "shows" = some (some (.ref f291)))
  (fn291 : PySem.W.isFn K (.ref f291) = true)
  (l291 : K.lookup f291 = some ⟨oc291, od291, .func (PySem.W.fnOf "shows" "Below.shows" (defArgs (inClass (topS 91) 1)) (defBody (inClass (topS 91) 1)) (defScope (inClass (topS 91) 1)) .none kV291 dc291 pm291 an291 cd291 ct291), sl291⟩)
  (c291 : PySem.W.codeIn K cd291 "Below.shows" = true)
  (k291 : PySem.W.keepIn K (.ref f291) = true)
  (BZ : biNames.map (fun x => PySem.W.nsIn K mainGlobals (Str.ofString x)) = biNames.map fun _ => some none)
  (RK : RowsK K topS (rwP ++ rwH))
  (g1 : PySem.W.nsIn K mainGlobals "MOST_LETTERS" = some (some (.int 4 tg1)))
  (g2 : PySem.W.nsIn K mainGlobals "MOST_ROWS" = some (some (.int 40 tg2)))
  (g11 : PySem.W.nsIn K mainGlobals "LONGEST_tables" = some (some (.int 6 tg11)))
  (g4 : PySem.W.nsIn K mainGlobals "KINDS" = some (some (.ref ag4)))
  (gl4 : K.lookup ag4 = some ⟨.type "tuple", og4, .seq #[.str (PySem.Str.ofString "all") tg4_0, .str (PySem.Str.ofString "nested") tg4_1, .str (PySem.Str.ofString "rows") tg4_2] ng4, sg4⟩)
  (g9 : PySem.W.nsIn K mainGlobals "MOST" = some (some (.int 6 tg9)))
  (g10 : PySem.W.nsIn K mainGlobals "LONGEST_series" = some (some (.int 10 tg10)))
  (g6 : PySem.W.nsIn K mainGlobals "ONE" = some (some (.ref ag6)))
  (gl6 : K.lookup ag6 = some ⟨.type "tuple", og6, .seq #[.int 1 tg6_0, .int 1 tg6_1] ng6, sg6⟩)
  (g7 : PySem.W.nsIn K mainGlobals "NOUGHT" = some (some (.ref ag7)))
  (gl7 : K.lookup ag7 = some ⟨.type "tuple", og7, .seq #[.int 0 tg7_0, .int 1 tg7_1] ng7, sg7⟩)
  (g12 : PySem.W.nsIn K mainGlobals "FARTHEST" = some (some (.int 40 tg12)))
  (g14 : PySem.W.nsIn K mainGlobals "LONGEST_squares" = some (some (.int 13 tg14))) :
  ∃ (cs : List (Addr × Addr × Str)) (Cl Fl : Nat → Option Addr) (Ll : Nat → Arguments → Expr → Scope → Bool) (fd : FuncData), (∀ p ∈ cs, PySem.W.codeHdIn K p.1 p.2.1 = true ∧ p.2.1 ∈ ts ∧ K.lookup p.2.1 = none) ∧ (∀ (s : Shared) (u : Value), BindsTo s fd ⟨[u], []⟩ [("_law_script", u)]) ∧ ∀ base : Heap, K.In base → base.Ns mainGlobals mg → (∀ p ∈ cs, LamX.TabB base mg p.1 p.2.1) →
   FnOk PySem.Challenge.rw_meanloom_k40_whole_handed.prog w K mg base CX0 47 fa fd ["_law_script"] (@spC ⟨cs.map (·.2), w, Cl, Fl, Ll⟩ K 1 (runD (Pr.tab 23) D329)) := by
 have e := hfa.symm.trans (PySem.W.mg_of X G a329)
 cases e
 refine ⟨[(ca221, tb221, tabName "sum_of"), (ca222, tb222, tabName "product_sum"), (ca327, tb327, tabName "_law_rows_one"), (ca328, tb328, tabName "_law_rows_two")], (fun c => ([(1, C1), (2, C2), (3, C3), (4, C4)] : List (Nat × Addr)).lookup c), (fun _ => none), lmB MM Pr, PySem.W.fnOf "law" "law" (defArgs (topS 119)) (defBody (topS 119)) (defScope (topS 119)) .none kV329 dc329 pm329 an329 cd329 ct329, ?_, fun s v => .of_eq rfl, fun base KB GB TB => ?_⟩
 ·intro p hp
  simp only [List.mem_cons, List.not_mem_nil, or_false] at hp
  rcases hp with rfl | rfl | rfl | rfl
  ·exact ⟨h221, t221, n221⟩
  ·exact ⟨h222, t222, n222⟩
  ·exact ⟨h327, t327, n327⟩
  ·exact ⟨h328, t328, n328⟩
 letI tbs : Tbl := ⟨([(ca221, tb221, tabName "sum_of"), (ca222, tb222, tabName "product_sum"), (ca327, tb327, tabName "_law_rows_one"), (ca328, tb328, tabName "_law_rows_two")] : List (Addr × Addr × Str)).map (·.2), w, (fun c => ([(1, C1), (2, C2), (3, C3), (4, C4)] : List (Nat × Addr)).lookup c), (fun _ => none), lmB MM Pr⟩
 have F220 := fun_mk (st := topS 107) l220 c220 k220
 have defs : ∀ f x, MM.fn f = some x → DefOk MM Pr K mg f x ∨ LamOkC MM Pr PySem.Challenge.rw_meanloom_k40_whole_handed.prog w K mg base f x := by
  intro f x hf
  have hm := look_mem (show nmF.lookup f = some x from hf)
  unfold nmF at hm
  rcases List.mem_append.mp hm with hm | hm
  ·exact .inl (rows_defs X G RK rwPk rwHk hm)
  simp only [List.mem_cons, Prod.mk.injEq, List.not_mem_nil, or_false] at hm
  rcases hm with ⟨rfl, rfl⟩ | ⟨rfl, rfl⟩ | ⟨rfl, rfl⟩ | ⟨rfl, rfl⟩ | ⟨rfl, rfl⟩
  ·have F := fun_mk (st := topS 108) l221 c221 k221
   exact .inr ⟨["table", "word", "kind"], topS 108, _, _, D221, F, PySem.W.mg_of X G a221, F.binds (ps := ["table", "word", "kind"]) (fun _ _ _ _ _ _ us hl => match us, hl with | [_, _, _], _ => rfl), rfl, rfl, rfl, fun n fcs => eqd221 ▸ fnL_okC (z := 1) F F220 (PySem.W.mg_of X G a220) (F220.binds (fun _ _ _ _ _ _ us hl => match us, hl with | [_, _, _], _ => rfl)) chk221 chk220 rfl bind_group rfl rfl (fun _ _ _ _ => rfl) fcs (TB (ca221, tb221, tabName "sum_of") (List.Mem.head _)) rfl (List.Mem.head _) ((tab_unique (l := [(ca221, tb221, tabName "sum_of"), (ca222, tb222, tabName "product_sum"), (ca327, tb327, tabName "_law_rows_one"), (ca328, tb328, tabName "_law_rows_two")]) dd (List.Mem.head _)))⟩
  ·have F := fun_mk (st := topS 110) l222 c222 k222
   exact .inr ⟨["table", "words"], topS 110, _, _, D222, F, PySem.W.mg_of X G a222, F.binds (ps := ["table", "words"]) (fun _ _ _ _ _ _ us hl => match us, hl with | [_, _], _ => rfl), rfl, rfl, rfl, fun n fcs => eqd222 ▸ fnL_okC (z := 1) F F220 (PySem.W.mg_of X G a220) (F220.binds (fun _ _ _ _ _ _ us hl => match us, hl with | [_, _, _], _ => rfl)) chk222 chk220 rfl bind_group rfl rfl (fun _ _ _ _ => rfl) fcs (TB (ca222, tb222, tabName "product_sum") (List.Mem.tail _ (List.Mem.head _))) rfl (List.Mem.tail _ (List.Mem.head _)) ((tab_unique (l := [(ca221, tb221, tabName "sum_of"), (ca222, tb222, tabName "product_sum"), (ca327, tb327, tabName "_law_rows_one"), (ca328, tb328, tabName "_law_rows_two")]) dd (List.Mem.tail _ (List.Mem.head _))))⟩
  ·have F := fun_mk (st := topS 117) l327 c327 k327
   exact .inr (lamOkV_of zvok (fun _ _ _ _ h => h) F chk327 (PySem.W.mg_of X G a327) (F.binds (ps := []) (fun _ _ _ _ _ _ us hl => match us, hl with | [], _ => rfl)) rfl rfl (TB (ca327, tb327, tabName "_law_rows_one") (List.Mem.tail _ (List.Mem.tail _ (List.Mem.head _)))) rfl (List.Mem.tail _ (List.Mem.tail _ (List.Mem.head _))) (tab_unique (l := [(ca221, tb221, tabName "sum_of"), (ca222, tb222, tabName "product_sum"), (ca327, tb327, tabName "_law_rows_one"), (ca328, tb328, tabName "_law_rows_two")]) dd (List.Mem.tail _ (List.Mem.tail _ (List.Mem.head _)))))
  ·have F := fun_mk (st := topS 118) l328 c328 k328
   exact .inr (lamOkV_of zvok (fun _ _ _ _ h => h) F chk328 (PySem.W.mg_of X G a328) (F.binds (ps := []) (fun _ _ _ _ _ _ us hl => match us, hl with | [], _ => rfl)) rfl rfl (TB (ca328, tb328, tabName "_law_rows_two") (List.Mem.tail _ (List.Mem.tail _ (List.Mem.tail _ (List.Mem.head _))))) rfl (List.Mem.tail _ (List.Mem.tail _ (List.Mem.tail _ (List.Mem.head _)))) (tab_unique (l := [(ca221, tb221, tabName "sum_of"), (ca222, tb222, tabName "product_sum"), (ca327, tb327, tabName "_law_rows_one"), (ca328, tb328, tabName "_law_rows_two")]) dd (List.Mem.tail _ (List.Mem.tail _ (List.Mem.tail _ (List.Mem.head _))))))
  ·have F := fun_mk (st := topS 119) l329 c329 k329
   exact .inl ⟨["_law_script", "_law_rows", "_law_begin", "_law_ask", "_law_first", "_law_second"], ["_law_script"], topS 119, _, _, F, PySem.W.mg_of X G a329, F.binds (ps := ["_law_script"]) (fun _ _ _ _ _ _ us hl => match us, hl with | [_], _ => rfl), .inl ⟨D329, rfl, chk329, fun hr => absurd (show nmR.contains 329 = true from hr) (by decide)⟩⟩
 have defsH : ∀ f x, MM.hn f = some x → DefOkH MM Pr K mg f x := by
  intro f x hf
  have hm := look_mem (show nmH.lookup f = some x from hf)
  unfold nmH at hm
  rcases List.mem_append.mp hm with hm | hm
  ·exact rows_defsH X G RK rwHk hm
  ·exact nomatch hm
 have bis := bis_of X G BZ
 have gls : ∀ g x v, MM.gl g = some x → Pr.G g = some v → ∃ u y, mg x = some u ∧ RelV y u ∧ ∀ H O, Rep K H O v y := by
  intro g x v hg hv
  have hm := look_mem (show nmG.lookup g = some x from hg)
  unfold nmG at hm
  simp only [List.mem_cons, Prod.mk.injEq, List.not_mem_nil, or_false] at hm
  rcases hm with ⟨rfl, rfl⟩ | ⟨rfl, rfl⟩ | ⟨rfl, rfl⟩ | ⟨rfl, rfl⟩ | ⟨rfl, rfl⟩ | ⟨rfl, rfl⟩ | ⟨rfl, rfl⟩ | ⟨rfl, rfl⟩ | ⟨rfl, rfl⟩ | ⟨rfl, rfl⟩
  ·cases (show some (Val.int 4) = some v from hv)
   exact ⟨_, .int 4, PySem.W.mg_of X G g1, ⟨_, rfl⟩, fun H O => by simp only [Rep]⟩
  ·cases (show some (Val.int 40) = some v from hv)
   exact ⟨_, .int 40, PySem.W.mg_of X G g2, ⟨_, rfl⟩, fun H O => by simp only [Rep]⟩
  ·cases (show some (Val.int 6) = some v from hv)
   exact ⟨_, .int 6, PySem.W.mg_of X G g11, ⟨_, rfl⟩, fun H O => by simp only [Rep]⟩
  ·cases (show some (Val.tup [.str (PySem.Str.ofString "all"), .str (PySem.Str.ofString "nested"), .str (PySem.Str.ofString "rows")]) = some v from hv)
   refine ⟨_, .ref ag4, PySem.W.mg_of X G g4, rfl, fun H O => ?_⟩
   simp only [Rep, Reps]
   exact ⟨ag4, [.str (PySem.Str.ofString "all"), .str (PySem.Str.ofString "nested"), .str (PySem.Str.ofString "rows")], rfl, .inr ⟨_, _, _, gl4, rfl, rfl, (show 3 ≤ sizeLine by rw [sizeLine_eq]; decide), #v[⟨_, rfl⟩, ⟨_, rfl⟩, ⟨_, rfl⟩]⟩, _, _, rfl, rfl, _, _, rfl, rfl, _, _, rfl, rfl, rfl⟩
  ·cases (show some (Val.int 6) = some v from hv)
   exact ⟨_, .int 6, PySem.W.mg_of X G g9, ⟨_, rfl⟩, fun H O => by simp only [Rep]⟩
  ·cases (show some (Val.int 10) = some v from hv)
   exact ⟨_, .int 10, PySem.W.mg_of X G g10, ⟨_, rfl⟩, fun H O => by simp only [Rep]⟩
  ·cases (show some (Val.tup [.int 1, .int 1]) = some v from hv)
   refine ⟨_, .ref ag6, PySem.W.mg_of X G g6, rfl, fun H O => ?_⟩
   simp only [Rep, Reps]
   exact ⟨ag6, [.int 1, .int 1], rfl, .inr ⟨_, _, _, gl6, rfl, rfl, (show 2 ≤ sizeLine by rw [sizeLine_eq]; decide), #v[⟨_, rfl⟩, ⟨_, rfl⟩]⟩, _, _, rfl, rfl, _, _, rfl, rfl, rfl⟩
  ·cases (show some (Val.tup [.int 0, .int 1]) = some v from hv)
   refine ⟨_, .ref ag7, PySem.W.mg_of X G g7, rfl, fun H O => ?_⟩
   simp only [Rep, Reps]
   exact ⟨ag7, [.int 0, .int 1], rfl, .inr ⟨_, _, _, gl7, rfl, rfl, (show 2 ≤ sizeLine by rw [sizeLine_eq]; decide), #v[⟨_, rfl⟩, ⟨_, rfl⟩]⟩, _, _, rfl, rfl, _, _, rfl, rfl, rfl⟩
  ·cases (show some (Val.int 40) = some v from hv)
   exact ⟨_, .int 40, PySem.W.mg_of X G g12, ⟨_, rfl⟩, fun H O => by simp only [Rep]⟩
  ·cases (show some (Val.int 13) = some v from hv)
   exact ⟨_, .int 13, PySem.W.mg_of X G g14, ⟨_, rfl⟩, fun H O => by simp only [Rep]⟩
 have cls : ∀ c C, Tbl.C c = some C → Cls K C ∧ ClsT K C ∧ ∀ f ∈ MM.fl, NoAttr K C f := by
  intro c C hC
  have hm := look_mem (show ([(1, C1), (2, C2), (3, C3), (4, C4)] : List (Nat × Addr)).lookup c = some C from hC)
  simp only [List.mem_cons, Prod.mk.injEq, List.not_mem_nil, or_false] at hm
  rcases hm with ⟨rfl, rfl⟩ | ⟨rfl, rfl⟩ | ⟨rfl, rfl⟩ | ⟨rfl, rfl⟩
  ·refine ⟨⟨pg1, hd1, po1, sa1⟩, ⟨ha1, gcg, gct, mo1⟩, fun f hf => ?_⟩
   simp only [MM, List.mem_cons, List.not_mem_nil, or_false] at hf
   rcases hf with rfl | rfl | rfl | rfl
   ·exact nf1_0
   ·exact nf1_1
   ·exact nf1_2
   ·exact nf1_3
  ·refine ⟨⟨pg2, hd2, po2, sa2⟩, ⟨ha2, gcg, gct, mo2⟩, fun f hf => ?_⟩
   simp only [MM, List.mem_cons, List.not_mem_nil, or_false] at hf
   rcases hf with rfl | rfl | rfl | rfl
   ·exact nf2_0
   ·exact nf2_1
   ·exact nf2_2
   ·exact nf2_3
  ·refine ⟨⟨pg3, hd3, po3, sa3⟩, ⟨ha3, gcg, gct, mo3⟩, fun f hf => ?_⟩
   simp only [MM, List.mem_cons, List.not_mem_nil, or_false] at hf
   rcases hf with rfl | rfl | rfl | rfl
   ·exact nf3_0
   ·exact nf3_1
   ·exact nf3_2
   ·exact nf3_3
  ·refine ⟨⟨pg4, hd4, po4, sa4⟩, ⟨ha4, gcg, gct, mo4⟩, fun f hf => ?_⟩
   simp only [MM, List.mem_cons, List.not_mem_nil, or_false] at hf
   rcases hf with rfl | rfl | rfl | rfl
   ·exact nf4_0
   ·exact nf4_1
   ·exact nf4_2
   ·exact nf4_3
 have iss : ∀ d y, MM.cn d = some y → ∃ D, mg y = some (.ref D) ∧ ∀ c C, Tbl.C c = some C → PySem.W.kitOne K (.ref C) (.ref D) = some (subC c d) := by
  intro d y hd
  have hm := look_mem (show nmC.lookup d = some y from hd)
  unfold nmC at hm
  simp only [List.mem_cons, Prod.mk.injEq, List.not_mem_nil, or_false] at hm
  rcases hm with ⟨rfl, rfl⟩ | ⟨rfl, rfl⟩
  ·refine ⟨C1, PySem.W.mg_of X G aC1, fun c C hC => ?_⟩
   have hm := look_mem (show ([(1, C1), (2, C2), (3, C3), (4, C4)] : List (Nat × Addr)).lookup c = some C from hC)
   simp only [List.mem_cons, Prod.mk.injEq, List.not_mem_nil, or_false] at hm
   rcases hm with ⟨rfl, rfl⟩ | ⟨rfl, rfl⟩ | ⟨rfl, rfl⟩ | ⟨rfl, rfl⟩
   ·exact kt1_1
   ·exact kt2_1
   ·exact kt3_1
   ·exact kt4_1
  ·refine ⟨C3, PySem.W.mg_of X G aC3, fun c C hC => ?_⟩
   have hm := look_mem (show ([(1, C1), (2, C2), (3, C3), (4, C4)] : List (Nat × Addr)).lookup c = some C from hC)
   simp only [List.mem_cons, Prod.mk.injEq, List.not_mem_nil, or_false] at hm
   rcases hm with ⟨rfl, rfl⟩ | ⟨rfl, rfl⟩ | ⟨rfl, rfl⟩ | ⟨rfl, rfl⟩
   ·exact kt1_3
   ·exact kt2_3
   ·exact kt3_3
   ·exact kt4_3
 have cts : ∀ f y, MM.ct f = some y → CtOk MM Pr K mg f y := by
  intro f y hf
  have hm := look_mem (show nmK.lookup f = some y from hf)
  unfold nmK at hm
  simp only [List.mem_cons, Prod.mk.injEq, List.not_mem_nil, or_false] at hm
  rcases hm with ⟨rfl, rfl⟩ | ⟨rfl, rfl⟩ | ⟨rfl, rfl⟩
  ·exact ⟨C1, PySem.W.mg_of X G aC1, .inr ⟨⟨mk1, ai1, kc1⟩, 1, rfl, rfl⟩⟩
  ·have F := fun_mk (st := (inClass (topS 88) 0)) l281 c281 k281
   exact ⟨C2, PySem.W.mg_of X G aC2, .inl ⟨2, ["self", "many", "more"], ["self", "many", "more"], 2, ["many", "more"], #v[0#1, 0#2], _, (inClass (topS 88) 0), _, _, rfl, ⟨mk2, ai2, fn281, kc2⟩, F.binds (ps := ["self", "many", "more"]) (fun _ _ _ _ _ _ us hl => match us, hl with | [_, _, _], _ => rfl), F, rfl, rfl, chk281⟩⟩
  ·have F := fun_mk (st := (inClass (topS 91) 0)) l283 c283 k283
   exact ⟨C4, PySem.W.mg_of X G aC4, .inl ⟨4, ["self", "row"], ["self", "row"], 1, ["row"], #v[.bi .list #v[0#1]], _, (inClass (topS 91) 0), _, _, rfl, ⟨mk4, ai4, fn283, kc4⟩, F.binds (ps := ["self", "row"]) (fun _ _ _ _ _ _ us hl => match us, hl with | [_, _], _ => rfl), F, rfl, rfl, chk283⟩⟩
 have mts : ∀ c m f, (c, m, f) ∈ MM.mt → MtOk MM Pr K c m f := by
  intro c m f hm
  simp only [MM, List.mem_cons, Prod.mk.injEq, List.not_mem_nil, or_false] at hm
  rcases hm with ⟨rfl, rfl, rfl⟩ | ⟨rfl, rfl, rfl⟩ | ⟨rfl, rfl, rfl⟩ | ⟨rfl, rfl, rfl⟩
  ·have F := fun_mk (st := (inClass (topS 87) 0)) l287 c287 k287
   exact ⟨C1, ["self", "table", "one", "other"], ["self", "table", "one", "other"], D287, _, (inClass (topS 87) 0), _, _, rfl, ⟨a287, fn287, k287⟩, F.binds (ps := ["self", "table", "one", "other"]) (fun _ _ _ _ _ _ us hl => match us, hl with | [_, _, _, _], _ => rfl), F, rfl, chk287⟩
  ·have F := fun_mk (st := (inClass (topS 88) 1)) l288 c288 k288
   exact ⟨C2, ["self", "table", "one", "other"], ["self", "table", "one", "other"], D288, _, (inClass (topS 88) 1), _, _, rfl, ⟨a288, fn288, k288⟩, F.binds (ps := ["self", "table", "one", "other"]) (fun _ _ _ _ _ _ us hl => match us, hl with | [_, _, _, _], _ => rfl), F, rfl, chk288⟩
  ·have F := fun_mk (st := (inClass (topS 90) 1)) l290 c290 k290
   exact ⟨C3, ["self", "means", "size", "i", "j", "found", "weight", "row"], ["self", "means"], D290, _, (inClass (topS 90) 1), _, _, rfl, ⟨a290, fn290, k290⟩, F.binds (ps := ["self", "means"]) (fun _ _ _ _ _ _ us hl => match us, hl with | [_, _], _ => rfl), F, rfl, chk290⟩
  ·have F := fun_mk (st := (inClass (topS 91) 1)) l291 c291 k291
   exact ⟨C4, ["self", "means"], ["self", "means"], D291, _, (inClass (topS 91) 1), _, _, rfl, ⟨a291, fn291, k291⟩, F.binds (ps := ["self", "means"]) (fun _ _ _ _ _ _ us hl => match us, hl with | [_, _], _ => rfl), F, rfl, chk291⟩
 have cth : ∀ f y, MM.ch f = some y → CtOkH MM Pr K mg f y := by
  intro f y hf
  have hm := look_mem (show nmKh.lookup f = some y from hf)
  unfold nmKh at hm
  simp only [List.mem_cons, Prod.mk.injEq, List.not_mem_nil, or_false] at hm
  rcases hm with ⟨rfl, rfl⟩ | ⟨rfl, rfl⟩
  ·have F := fun_mk (st := (inClass (topS 90) 0)) l282 c282 k282
   exact ⟨C3, 3, ["self", "parts", "weight", "row"], ["self", "parts"], 1, ["parts"], #v[.comp [2, 3] (.tp #v[3#2, 3#3]) (.seq 0#1) [] .none (.tup #v[0#2, .lof 0#3])], _, (inClass (topS 90) 0), _, _, PySem.W.mg_of X G aC3, rfl, ⟨mk3, ai3, fn282, kc3⟩, F.binds (ps := ["self", "parts"]) (fun _ _ _ _ _ _ us hl => match us, hl with | [_, _], _ => rfl), F, rfl, rfl, chk389⟩
  ·have F := fun_mk (st := (inClass (topS 91) 0)) l283 c283 k283
   exact ⟨C4, 4, ["self", "row"], ["self", "row"], 1, ["row"], #v[.lof 0#1], _, (inClass (topS 91) 0), _, _, PySem.W.mg_of X G aC4, rfl, ⟨mk4, ai4, fn283, kc4⟩, F.binds (ps := ["self", "row"]) (fun _ _ _ _ _ _ us hl => match us, hl with | [_, _], _ => rfl), F, rfl, rfl, chk388⟩
 exact fn_ok (fun_mk (st := topS 119) l329 c329 k329) chk329 (prog_factsCL defs defsH rfl gls bis cls iss cts mts 23 cth (lmok := fun _ _ _ _ h => h))
end
end VM
open PySem PySem.W PyProof.Rows
set_option maxHeartbeats 0 in
theorem PySem.Challenge.cw_meanloom_k40_whole_handed_holds : PySem.Challenge.rw_meanloom_k40_whole_handed.Holds := by
 refine top40 ?_
 k_fill
 refine VM.walk_plainT (l  := PySem.Challenge.rw_meanloom_k40_whole_handed) (k := 47) (x := "_law_script") (g := VM.runD (VM.Pr.tab 23) VM.D329) rfl rfl ⟨rfl, by decide, by decide⟩ (fun w h Y => PySem.W.km_in_of Y) (fun w h Y => PySem.W.km_tabs_of Y) ?F VM.law_plain VM.law2_plain
 case F =>
  intro w mg fa h KX G hmg
  refine' VM.all_mk (ts := _) KX G hmg ?a221 ?l221 ?c221 ?k221 ?h221 ?t221 ?n221 ?a222 ?l222 ?c222 ?k222 ?h222 ?t222 ?n222 ?a327 ?l327 ?c327 ?k327 ?h327 ?t327 ?n327 ?a328 ?l328 ?c328 ?k328 ?h328 ?t328 ?n328 ?a329 ?l329 ?c329 ?k329 ?a220 ?l220 ?c220 ?k220 ?dd ?aC1 ?aC2 ?aC3 ?aC4 ?gcg ?gct ?pg1 ?hd1 ?po1 ?sa1 ?ha1 ?mo1 ?nf1_0 ?nf1_1 ?nf1_2 ?nf1_3 ?kt1_1 ?kt1_3 ?pg2 ?hd2 ?po2 ?sa2 ?ha2 ?mo2 ?nf2_0 ?nf2_1 ?nf2_2 ?nf2_3 ?kt2_1 ?kt2_3 ?pg3 ?hd3 ?po3 ?sa3 ?ha3 ?mo3 ?nf3_0 ?nf3_1 ?nf3_2 ?nf3_3 ?kt3_1 ?kt3_3 ?pg4 ?hd4 ?po4 ?sa4 ?ha4 ?mo4 ?nf4_0 ?nf4_1 ?nf4_2 ?nf4_3 ?kt4_1 ?kt4_3 ?mk1 ?kc1 ?ai1 ?mk2 ?kc2 ?ai2 ?fn281 ?l281 ?c281 ?k281 ?mk3 ?kc3 ?ai3 ?fn282 ?l282 ?c282 ?k282 ?mk4 ?kc4 ?ai4 ?fn283 ?l283 ?c283 ?k283 ?a287 ?fn287 ?l287 ?c287 ?k287 ?a288 ?fn288 ?l288 ?c288 ?k288 ?a290 ?fn290 ?l290 ?c290 ?k290 ?a291 ?fn291 ?l291 ?c291 ?k291 ?BZ ?RK ?g1 ?g2 ?g11 ?g4 ?gl4 ?g9 ?g10 ?g6 ?gl6 ?g7 ?gl7 ?g12 ?g14
  (case t221 => exact List.Mem.tail _ (List.Mem.tail _ (List.Mem.head _))); (case h221 => kernel_rfl); (case n221 => kernel_rfl); (case t222 => exact List.Mem.tail _ (List.Mem.head _)); (case h222 => kernel_rfl); (case n222 => kernel_rfl); (case t327 => exact List.Mem.tail _ (List.Mem.tail _ (List.Mem.tail _ (List.Mem.head _)))); (case h327 => kernel_rfl); (case n327 => kernel_rfl); (case t328 => exact List.Mem.head _); (case h328 => kernel_rfl); (case n328 => kernel_rfl)
  (case dd => decide)
  (case a221 => k_is); (case l221 => k_is); (case c221 => k_is); (case k221 => k_is); (case a222 => k_is); (case l222 => k_is); (case c222 => k_is); (case k222 => k_is); (case a327 => k_is); (case l327 => k_is); (case c327 => k_is); (case k327 => k_is); (case a328 => k_is); (case l328 => k_is); (case c328 => k_is); (case k328 => k_is); (case a329 => k_is); (case l329 => k_is); (case c329 => k_is); (case k329 => k_is); (case a220 => k_is); (case l220 => k_is); (case c220 => k_is); (case k220 => k_is); (case aC1 => k_is); (case aC2 => k_is); (case aC3 => k_is); (case aC4 => k_is); (case gcg => k_is); (case gct => k_is); (case pg1 => k_is); (case hd1 => k_is); (case po1 => k_is); (case sa1 => k_is); (case ha1 => k_is); (case mo1 => k_is); (case nf1_0 => k_is); (case nf1_1 => k_is); (case nf1_2 => k_is); (case nf1_3 => k_is); (case pg2 => k_is); (case hd2 => k_is); (case po2 => k_is); (case sa2 => k_is); (case ha2 => k_is); (case mo2 => k_is); (case nf2_0 => k_is); (case nf2_1 => k_is); (case nf2_2 => k_is); (case nf2_3 => k_is); (case pg3 => k_is); (case hd3 => k_is); (case po3 => k_is); (case sa3 => k_is); (case ha3 => k_is); (case mo3 => k_is); (case nf3_0 => k_is); (case nf3_1 => k_is); (case nf3_2 => k_is); (case nf3_3 => k_is); (case pg4 => k_is); (case hd4 => k_is); (case po4 => k_is); (case sa4 => k_is); (case ha4 => k_is); (case mo4 => k_is); (case nf4_0 => k_is); (case nf4_1 => k_is); (case nf4_2 => k_is); (case nf4_3 => k_is); (case mk1 => k_is); (case kc1 => k_is); (case ai1 => k_is); (case mk2 => k_is); (case kc2 => k_is); (case ai2 => k_is); (case fn281 => k_is); (case l281 => k_is); (case c281 => k_is); (case k281 => k_is); (case mk3 => k_is); (case kc3 => k_is); (case ai3 => k_is); (case fn282 => k_is); (case l282 => k_is); (case c282 => k_is); (case k282 => k_is); (case mk4 => k_is); (case kc4 => k_is); (case ai4 => k_is); (case fn283 => k_is); (case l283 => k_is); (case c283 => k_is); (case k283 => k_is); (case a287 => k_is); (case fn287 => k_is); (case l287 => k_is); (case c287 => k_is); (case k287 => k_is); (case a288 => k_is); (case fn288 => k_is); (case l288 => k_is); (case c288 => k_is); (case k288 => k_is); (case a290 => k_is); (case fn290 => k_is); (case l290 => k_is); (case c290 => k_is); (case k290 => k_is); (case a291 => k_is); (case fn291 => k_is); (case l291 => k_is); (case c291 => k_is); (case k291 => k_is); (case g1 => k_is); (case g2 => k_is); (case g11 => k_is); (case g4 => k_is); (case gl4 => k_is); (case g9 => k_is); (case g10 => k_is); (case g6 => k_is); (case gl6 => k_is); (case g7 => k_is); (case gl7 => k_is); (case g12 => k_is); (case g14 => k_is)
  (case kt1_1 => kernel_rfl); (case kt1_3 => kernel_rfl); (case kt2_1 => kernel_rfl); (case kt2_3 => kernel_rfl); (case kt3_1 => kernel_rfl); (case kt3_3 => kernel_rfl); (case kt4_1 => kernel_rfl); (case kt4_3 => kernel_rfl)
  (case BZ => kernel_rfl); (case RK => kernel_rfl)
