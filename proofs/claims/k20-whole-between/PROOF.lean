import PyProof.Rows.All
import HandS.ForMost
import HandS.IsInst
import HandS.SortInts
import HandS.Wide
import HandS.Deep
import HandS.NoneIn
import HandS.Codes
import HandS.Style
import HandS.Conv
import HandS.SortKw
import KE.DataMinMax
import PySem.Challenge.RW_meanloom_k20_whole_between
set_option Elab.async false
set_option linter.all false
set_option maxRecDepth 100000
set_option maxHeartbeats 2000000
/-! W1: plain values, how they lie in the abstract heap, what may be hidden. -/
namespace VM
open PySem PySem.Spec PyProof.Rows L2

/-- a plain value -/
inductive Val where
  | non
  | bl (b : Bool)
  | int (i : Int)
  | str (s : Str)
  | tup (xs : List Val)
  | lst (xs : List Val)
  | dic (t : Bool) (ks vs : List Val)
  | scr (ns : List Int)
  deriving Inhabited

/-- objects that may change -/
def MutO : HO → Prop
  | .lst _ => True
  | .dK _ => True
  | .dT _ => True
  | .ins _ _ _ => True
  | _ => False

/-- a set of hidden addresses -/
abbrev Hid := Addr → Prop

def ofKey : Key → Val
  | .inl i => .int i
  | .inr s => .str s

mutual
def Rep (K : PySem.W.Frag) (H : Hp) (O : Hid) : Val → V → Prop
  | .non, x => x = .non
  | .bl b, x => x = .bl b
  | .int i, x => x = .int i
  | .str s, x => x = .str s
  | .tup vs, x => ∃ a xs, x = .ref a ∧ SqT K H a xs ∧ Reps K H O vs xs
  | .lst vs, x => ∃ a xs, x = .ref a ∧ ¬ O a ∧ H a = some (.lst xs) ∧ Reps K H O vs xs
  | .scr ns, x => ∃ a, x = .ref a ∧ ((∃ ob, H a = some (.frz ob (.lst (ns.map V.int)))) ∨ (∃ (o : Obj) (its : Array Value) (n : Nat), K.lookup a = some o ∧ o.cls = .type "list" ∧ o.dict = none ∧
      o.data = .seq its n ∧ its.size ≤ sizeLine ∧ Vals (ns.map V.int) its.toList))
  | .dic false ks vs, x => ∃ (a : Addr) (kvs : List (Key × V)), x = .ref a ∧ ¬ O a ∧ H a = some (.dK kvs) ∧
      ks = kvs.map (fun p => ofKey p.1) ∧ (kvs.map (·.1)).Nodup ∧ Reps K H O vs (kvs.map (·.2))
  | .dic true ks vs, x => ∃ (a : Addr) (kvs : List (List Key × V)), x = .ref a ∧ ¬ O a ∧ H a = some (.dT kvs) ∧
      ks = kvs.map (fun p => Val.tup (p.1.map ofKey)) ∧ (kvs.map (·.1)).Nodup ∧ Reps K H O vs (kvs.map (·.2))
def Reps (K : PySem.W.Frag) (H : Hp) (O : Hid) : List Val → List V → Prop
  | [], xs => xs = []
  | v :: vs, xs => ∃ x r, xs = x :: r ∧ Rep K H O v x ∧ Reps K H O vs r
end

mutual
def flat : Val → Bool
  | .tup vs => flats vs
  | .lst _ => false
  | .dic _ _ _ => false
  | _ => true
def flats : List Val → Bool
  | [] => true
  | v :: vs => flat v && flats vs
end

section
variable {K : PySem.W.Frag} {H H' : Hp} {O O' : Hid} {v : Val} {vs ws : List Val} {x : V} {xs ys : List V} {a : Addr}

/-- hidden things stand and may change -/
def WF (H : Hp) (O : Hid) : Prop := ∀ a, O a → ∃ o, H a = some o ∧ MutO o
structure Keep (H : Hp) (O : Hid) (H' : Hp) (O' : Hid) : Prop where
  vis : ∀ a o, H a = some o → ¬ O a → H' a = some o
  new : ∀ a, O' a → O a ∨ H a = none
theorem Keep.refl : Keep H O H O := ⟨fun _ _ h _ => h, fun _ h => .inl h⟩
theorem Keep.trans {H1 H2 H3 : Hp} {O1 O2 O3 : Hid} (a : Keep H1 O1 H2 O2) (b : Keep H2 O2 H3 O3) : Keep H1 O1 H3 O3 := by
  refine ⟨fun c o h n => b.vis c o (a.vis c o h n) (fun z => ?_), fun c h => ?_⟩
  · rcases a.new c z with q | q
    · exact n q
    · rw [h] at q; cases q
  · by_cases hc : O1 c
    · exact .inl hc
    · right
      rcases b.new c h with q | q
      · exact (a.new c q).resolve_left hc
      · cases e : H1 c with
        | none => rfl
        | some o => have := a.vis c o e hc; rw [q] at this; cases this

theorem rd_keep {u : HO} (k : Keep H O H' O') (n : ¬ O a) (h : Rd H a u) : Rd H' a u := by
  rcases h with h | ⟨o, h⟩
  · exact .inl (k.vis _ _ h n)
  · exact .inr ⟨o, k.vis _ _ h n⟩
theorem rd_some {u : HO} (h : Rd H a u) : H a ≠ none := by
  rcases h with h | ⟨o, h⟩ <;> rw [h] <;> simp
theorem tup_vis (w : WF H O) (h : Rd H a (.tup xs)) : ¬ O a := fun z => by
  obtain ⟨o, e, m⟩ := w a z
  rcases h with h | ⟨ob, h⟩
  · rw [h] at e; cases e; exact m
  · rw [h] at e; cases e; exact m
theorem sqT_keep (w : WF H O) (k : Keep H O H' O') (h : SqT K H a xs) : SqT K H' a xs := by
  rcases h with h | h
  · exact .inl (rd_keep k (tup_vis w h) h)
  · exact .inr h
theorem frz_vis {ob : Obj} {u : HO} (w : WF H O) (h : H a = some (.frz ob u)) : ¬ O a := fun z => by
  obtain ⟨o, e, m⟩ := w a z
  rw [h] at e; cases e; exact m
theorem vis_keep {o : HO} (k : Keep H O H' O') (n : ¬ O a) (h : H a = some o) : ¬ O' a ∧ H' a = some o := by
  refine ⟨fun z => ?_, k.vis _ _ h n⟩
  rcases k.new a z with q | q
  · exact n q
  · rw [h] at q; cases q

mutual
theorem Rep.keep (w : WF H O) (k : Keep H O H' O') : ∀ {v : Val} {x : V}, Rep K H O v x → Rep K H' O' v x
  | .non, _, h => by simpa only [Rep] using h
  | .bl _, _, h => by simpa only [Rep] using h
  | .int _, _, h => by simpa only [Rep] using h
  | .str _, _, h => by simpa only [Rep] using h
  | .tup vs, _, h => by
    simp only [Rep] at h ⊢
    obtain ⟨a, xs, e, s, r⟩ := h
    exact ⟨a, xs, e, sqT_keep w k s, Reps.keep w k r⟩
  | .lst vs, _, h => by
    simp only [Rep] at h ⊢
    obtain ⟨a, xs, e, n, s, r⟩ := h
    obtain ⟨n', s'⟩ := vis_keep k n s
    exact ⟨a, xs, e, n', s', Reps.keep w k r⟩
  | .scr ns, _, h => by
    simp only [Rep] at h ⊢
    obtain ⟨a, e, s⟩ := h
    refine ⟨a, e, ?_⟩
    rcases s with ⟨ob, s⟩ | s
    · exact .inl ⟨ob, k.vis _ _ s (frz_vis w s)⟩
    · exact .inr s
  | .dic false ks vs, _, h => by
    simp only [Rep] at h ⊢
    obtain ⟨a, kvs, e, n, s, q, nd, r⟩ := h
    obtain ⟨n', s'⟩ := vis_keep k n s
    exact ⟨a, kvs, e, n', s', q, nd, Reps.keep w k r⟩
  | .dic true ks vs, _, h => by
    simp only [Rep] at h ⊢
    obtain ⟨a, kvs, e, n, s, q, nd, r⟩ := h
    obtain ⟨n', s'⟩ := vis_keep k n s
    exact ⟨a, kvs, e, n', s', q, nd, Reps.keep w k r⟩
theorem Reps.keep (w : WF H O) (k : Keep H O H' O') : ∀ {vs : List Val} {xs : List V}, Reps K H O vs xs → Reps K H' O' vs xs
  | [], _, h => by simpa only [Reps] using h
  | v :: vs, _, h => by
    simp only [Reps] at h ⊢
    obtain ⟨x, r, e, p, q⟩ := h
    exact ⟨x, r, e, Rep.keep w k p, Reps.keep w k q⟩
end

mutual
theorem Rep.flat : ∀ {v : Val} {x : V}, flat v = true → Rep K H O v x → Rep K H O' v x
  | .non, _, _, h => by simpa only [Rep] using h
  | .bl _, _, _, h => by simpa only [Rep] using h
  | .int _, _, _, h => by simpa only [Rep] using h
  | .str _, _, _, h => by simpa only [Rep] using h
  | .tup vs, _, f, h => by
    simp only [Rep] at h ⊢
    obtain ⟨a, xs, e, s, r⟩ := h
    simp only [VM.flat] at f
    exact ⟨a, xs, e, s, Reps.flat f r⟩
  | .scr ns, _, _, h => by simpa only [Rep] using h
  | .lst vs, _, f, h => by simp [VM.flat] at f
  | .dic _ ks vs, _, f, h => by simp [VM.flat] at f
theorem Reps.flat : ∀ {vs : List Val} {xs : List V}, flats vs = true → Reps K H O vs xs → Reps K H O' vs xs
  | [], _, _, h => by simpa only [Reps] using h
  | v :: vs, _, f, h => by
    simp only [Reps] at h ⊢
    simp only [flats, Bool.and_eq_true] at f
    obtain ⟨x, r, e, p, q⟩ := h
    exact ⟨x, r, e, Rep.flat f.1 p, Reps.flat f.2 q⟩
end

theorem Reps.length : ∀ {vs : List Val} {xs : List V}, Reps K H O vs xs → xs.length = vs.length
  | [], _, h => by simp only [Reps] at h; subst h; rfl
  | v :: vs, _, h => by
    simp only [Reps] at h
    obtain ⟨x, r, rfl, _, q⟩ := h
    simp [Reps.length q]
theorem Reps.nil : Reps K H O [] [] := by simp only [Reps]
theorem Reps.cons (h : Rep K H O v x) (t : Reps K H O vs xs) : Reps K H O (v :: vs) (x :: xs) := by
  simp only [Reps]; exact ⟨x, xs, rfl, h, t⟩
theorem Reps.get : ∀ {vs : List Val} {xs : List V} {i : Nat} {v : Val}, Reps K H O vs xs → vs[i]? = some v → ∃ x, xs[i]? = some x ∧ Rep K H O v x
  | [], _, _, _, _, e => by simp at e
  | v :: vs, _, 0, u, h, e => by
    simp only [Reps] at h
    obtain ⟨x, r, rfl, p, _⟩ := h
    simp at e; subst e
    exact ⟨x, rfl, p⟩
  | v :: vs, _, i + 1, u, h, e => by
    simp only [Reps] at h
    obtain ⟨x, r, rfl, _, q⟩ := h
    obtain ⟨y, e1, e2⟩ := Reps.get q (by simpa using e)
    exact ⟨y, by simpa using e1, e2⟩
theorem Reps.append : ∀ {vs ws : List Val} {xs ys : List V}, Reps K H O vs xs → Reps K H O ws ys → Reps K H O (vs ++ ws) (xs ++ ys)
  | [], _, _, _, h, g => by simp only [Reps] at h; subst h; exact g
  | v :: vs, ws, _, ys, h, g => by
    simp only [Reps] at h
    obtain ⟨x, r, rfl, p, q⟩ := h
    exact Reps.cons p (Reps.append q g)
theorem Reps.set : ∀ {vs : List Val} {xs : List V} (i : Nat), Reps K H O vs xs → Rep K H O v x → Reps K H O (vs.set i v) (xs.set i x)
  | [], _, _, h, _ => by simp only [Reps] at h; subst h; exact Reps.nil
  | u :: vs, _, 0, h, g => by
    simp only [Reps] at h
    obtain ⟨y, r, rfl, p, q⟩ := h
    exact Reps.cons g q
  | u :: vs, _, i + 1, h, g => by
    simp only [Reps] at h
    obtain ⟨y, r, rfl, p, q⟩ := h
    exact Reps.cons p (Reps.set i q g)
theorem Reps.take : ∀ {vs : List Val} {xs : List V} (i : Nat), Reps K H O vs xs → Reps K H O (vs.take i) (xs.take i)
  | _, _, 0, _ => by simp [Reps]
  | [], _, i + 1, h => by simp only [Reps] at h; subst h; exact Reps.nil
  | u :: vs, _, i + 1, h => by
    simp only [Reps] at h
    obtain ⟨y, r, rfl, p, q⟩ := h
    exact Reps.cons p (Reps.take i q)
theorem Reps.drop : ∀ {vs : List Val} {xs : List V} (i : Nat), Reps K H O vs xs → Reps K H O (vs.drop i) (xs.drop i)
  | _, _, 0, h => h
  | [], _, i + 1, h => by simp only [Reps] at h; subst h; exact Reps.nil
  | u :: vs, _, i + 1, h => by
    simp only [Reps] at h
    obtain ⟨y, r, rfl, p, q⟩ := h
    exact Reps.drop i q
theorem Reps.rev (h : Reps K H O vs xs) : Reps K H O vs.reverse xs.reverse := by
  induction vs generalizing xs with
  | nil => simp only [Reps] at h; subst h; exact Reps.nil
  | cons v vs ih =>
    simp only [Reps] at h
    obtain ⟨x, r, rfl, p, q⟩ := h
    rw [List.reverse_cons, List.reverse_cons]
    exact Reps.append (ih q) (Reps.cons p Reps.nil)
theorem Reps.ints (ns : List Int) : Reps K H O (ns.map Val.int) (ns.map V.int) := by
  induction ns with
  | nil => exact Reps.nil
  | cons n ns ih => exact Reps.cons (by simp only [Rep]) ih
theorem Reps.of_ints : ∀ {ns : List Int} {xs : List V}, Reps K H O (ns.map Val.int) xs → xs = ns.map V.int
  | [], _, h => by simpa only [List.map_nil, Reps] using h
  | n :: ns, _, h => by
    simp only [List.map_cons, Reps, Rep] at h
    obtain ⟨x, r, rfl, rfl, q⟩ := h
    rw [Reps.of_ints q]; rfl
theorem Reps.of_bls : ∀ {ns : List Bool} {xs : List V}, Reps K H O (ns.map Val.bl) xs → xs = ns.map V.bl
  | [], _, h => by simpa only [List.map_nil, Reps] using h
  | n :: ns, _, h => by
    simp only [List.map_cons, Reps, Rep] at h
    obtain ⟨x, r, rfl, rfl, q⟩ := h
    rw [Reps.of_bls q]; rfl
end

/-! ### data that may be compared -/
mutual
def py : Val → PyData
  | .non => .none
  | .bl b => .bool b
  | .int i => .int i
  | .str s => .str s
  | .tup vs => .tuple (pys vs)
  | .lst vs => .list (pys vs)
  | .dic _ _ _ => .dict []
  | .scr _ => .dict []
def pys : List Val → List PyData
  | [] => []
  | v :: vs => py v :: pys vs
end
/-- no dict, not too deep -/
def okD : Nat → Val → Bool
  | 0, _ => false
  | n + 1, .tup vs => vs.all (okD n)
  | n + 1, .lst vs => vs.all (okD n)
  | _ + 1, .dic _ _ _ => false
  | _ + 1, .scr _ => false
  | _ + 1, .str s => PyData.strOk s
  | _ + 1, _ => true
def veq (v w : Val) : Bool := PyData.eqv (py v) (py w)


theorem Rep.scr_sq {K : PySem.W.Frag} {H : Hp} {O : Hid} {ns : List Int} {x : V} (h : Rep K H O (.scr ns) x) : ∃ a, x = .ref a ∧ SqL K H a (ns.map V.int) := by
  simp only [Rep] at h
  obtain ⟨a, e, s⟩ := h
  refine ⟨a, e, ?_⟩
  rcases s with ⟨ob, s⟩ | s
  · exact .inl (.inr ⟨ob, s⟩)
  · exact .inr s
theorem Rep.of_sq {K : PySem.W.Frag} {H : Hp} {O : Hid} {ns : List Int} {a : Addr} (h : SqL K H a (ns.map V.int)) (hn : ∀ xs, H a ≠ some (.lst xs)) : Rep K H O (.scr ns) (.ref a) := by
  simp only [Rep]
  refine ⟨a, rfl, ?_⟩
  rcases h with (h | h) | h
  · exact absurd h (hn _)
  · exact .inl h
  · exact .inr h
/-! ### compared data -/
section
variable {K : PySem.W.Frag} {H : Hp} {O : Hid}
mutual
theorem Rep.dp : ∀ (n : Nat) {v : Val} {x : V}, okD n v = true → Rep K H O v x → Dp K H x (py v)
  | 0, v, _, f, _ => by simp [okD] at f
  | n + 1, .non, _, _, h => by simp only [Rep] at h; subst h; exact .non
  | n + 1, .bl b, _, _, h => by simp only [Rep] at h; subst h; exact .bl b
  | n + 1, .int b, _, _, h => by simp only [Rep] at h; subst h; exact .int b
  | n + 1, .str b, _, _, h => by simp only [Rep] at h; subst h; exact .str b
  | n + 1, .tup vs, _, f, h => by
    simp only [Rep] at h
    obtain ⟨a, xs, rfl, s, r⟩ := h
    simp only [okD] at f
    exact .tup s (Reps.dp n f r)
  | n + 1, .lst vs, _, f, h => by
    simp only [Rep] at h
    obtain ⟨a, xs, rfl, _, s, r⟩ := h
    simp only [okD] at f
    exact .lst (SqL.of s) (Reps.dp n f r)
  | n + 1, .dic _ _ _, _, f, _ => by simp [okD] at f
  | n + 1, .scr _, _, f, _ => by simp [okD] at f
theorem Reps.dp : ∀ (n : Nat) {vs : List Val} {xs : List V}, vs.all (okD n) = true → Reps K H O vs xs → DpAll K H xs (pys vs)
  | _, [], _, _, h => by simp only [Reps] at h; subst h; exact .nil
  | n, v :: vs, _, f, h => by
    simp only [Reps] at h
    obtain ⟨x, r, rfl, p, q⟩ := h
    simp only [List.all_cons, Bool.and_eq_true] at f
    exact .cons (Rep.dp n f.1 p) (Reps.dp n f.2 q)
end
mutual
theorem okD_lay : ∀ (n : Nat) {v : Val}, okD n v = true → (py v).canLay0 = true ∧ (py v).depth ≤ n
  | 0, v, f => by simp [okD] at f
  | n + 1, .non, _ => by simp [py, PyData.canLay0, PyData.depth]
  | n + 1, .bl b, _ => by simp [py, PyData.canLay0, PyData.depth]
  | n + 1, .int b, _ => by simp [py, PyData.canLay0, PyData.depth]
  | n + 1, .str b, f => by simp only [okD] at f; simp [py, PyData.canLay0, PyData.depth, f]
  | n + 1, .tup vs, f => by
    simp only [okD] at f
    obtain ⟨h1, h2⟩ := okD_lays n f
    simp only [py, PyData.canLay0, PyData.depth]
    exact ⟨h1, by omega⟩
  | n + 1, .lst vs, f => by
    simp only [okD] at f
    obtain ⟨h1, h2⟩ := okD_lays n f
    simp only [py, PyData.canLay0, PyData.depth]
    exact ⟨h1, by omega⟩
  | n + 1, .dic _ _ _, f => by simp [okD] at f
  | n + 1, .scr _, f => by simp [okD] at f
theorem okD_lays : ∀ (n : Nat) {vs : List Val}, vs.all (okD n) = true → PyData.canLayAll0 (pys vs) = true ∧ PyData.depthAll (pys vs) ≤ n
  | _, [], _ => by simp [pys, PyData.canLayAll0, PyData.depthAll]
  | n, v :: vs, f => by
    simp only [List.all_cons, Bool.and_eq_true] at f
    obtain ⟨h1, h2⟩ := okD_lay n f.1
    obtain ⟨h3, h4⟩ := okD_lays n f.2
    simp only [pys, PyData.canLayAll0, PyData.depthAll, h1, h3]
    exact ⟨rfl, by omega⟩
end
theorem okD_shaped {v : Val} (f : okD 60 v = true) : SeqAt.shaped (py v) = true := by
  obtain ⟨h1, h2⟩ := okD_lay 60 f
  unfold SeqAt.shaped
  rw [h1, Bool.true_and]
  exact decide_eq_true (by omega)
end
end VM

set_option Elab.async false
set_option linter.all false
set_option maxRecDepth 100000
set_option maxHeartbeats 2000000
/-! W2: the plain language and what its texts are worth. -/
namespace VM
open PySem

inductive Err where
  | stuck
  | exc (c : Nat)
  deriving DecidableEq
abbrev R (α : Type) := Except Err α
abbrev stk {α : Type} : R α := .error .stuck

inductive Op2 where
  | add | sub | mul | fdiv | mod | pow | shl | shr | band
  | eq | ne | lt | le | gt | ge | inn | nin | is | isn
  deriving DecidableEq
/-- built-in functions of values -/
inductive Bi where
  | len | abs | sum | all | any | max2 | min2 | max1 | min1 | maxd | sorted | list | tuple | int
  deriving DecidableEq
inductive Ty where
  | int | bool | tuple | list | str
  deriving DecidableEq

mutual
inductive Tg where
  | nm (i : Nat)
  | tp (ts : Tgs)
inductive Tgs where
  | nil
  | cons (t : Tg) (r : Tgs)
end

mutual
inductive SE where
  | var (i : Nat)
  | cint (n : Int)
  | cbl (b : Bool)
  | cnon
  | cstr (s : String)
  | glob (g : Nat)
  | op (o : Op2) (a b : SE)
  | neg (a : SE)
  | not1 (a : SE)
  | bop (an : Bool) (es : SEs)
  | chain (o o' : Op2) (a b c : SE)
  | ite (c a b : SE)
  | tup (es : SEs)
  | lst (es : SEs)
  | ix (a b : SE)
  | sl (a : SE) (lo hi : SO)
  | rev (a : SE)
  | call (f : Nat) (es : SEs)
  | bi (b : Bi) (es : SEs)
  | isi (a : SE) (t : Ty)
  | comp (own : List Nat) (tg : Tg) (it : SI) (c : SO) (el : SE)
  | lrng (es : SEs)
  | dget (d k : SE)
  | dgetd (d k e : SE)
  | cnt (a b : SE)
  | mxd (a b : SE)
inductive SEs where
  | nil
  | cons (e : SE) (r : SEs)
inductive SO where
  | none
  | some (e : SE)
inductive SI where
  | seq (e : SE)
  | rng1 (a : SE)
  | rng2 (a b : SE)
  | rng3 (a b c : SE)
  | enum (e : SE)
  | zip (a b : SE)
  | keys (e : SE)
end

mutual
inductive SS where
  | asg (m : List Nat) (tg : Tg) (e : SE)
  | par (m : List Nat) (i j : Nat) (a b : SE)
  | parO (m : List Nat) (i j : Nat) (a b : SE)
  | own (m : List Nat) (i : Nat) (e : SE)
  | ownd (i : Nat) (t : Bool)
  | app (m : List Nat) (i : Nat) (e : SE)
  | ext (m : List Nat) (i : Nat) (e : SE)
  | seti (m : List Nat) (i : Nat) (k e : SE)
  | dput (m : List Nat) (i : Nat) (k e : SE)
  | iff (m : List Nat) (c : SE) (a b : SB)
  | loop (m : List Nat) (tg : Tg) (it : SI) (b : SB)
  | whl (m : List Nat) (μ : SE) (c : SE) (b : SB)
  | ret (m : List Nat) (e : SE)
  | retv (i : Nat)
  | expr (m : List Nat) (e : SE)
  | raise (c : Nat)
inductive SB where
  | nil
  | cons (s : SS) (r : SB)
end

abbrev VE := List (Option Val)
def lineN : Nat := 16777216
def tru (v : Val) : R Bool := match v with
  | .bl b => .ok b
  | _ => stk
def asInt (v : Val) : R Int := match v with
  | .int i => .ok i
  | _ => stk
def asInts : List Val → R (List Int)
  | [] => .ok []
  | .int i :: r => do let s ← asInts r; .ok (i :: s)
  | _ :: _ => stk
def asBls : List Val → R (List Bool)
  | [] => .ok []
  | .bl i :: r => do let s ← asBls r; .ok (i :: s)
  | _ :: _ => stk
def mulOk (a b : Int) : Bool := decide (a.natAbs.log2 + b.natAbs.log2 < 100000000)
def divOk (b : Int) : Bool := decide (b ≠ 0 ∧ b.natAbs.log2 < 9000)
def powOk (a b : Int) : Bool := decide (0 ≤ b ∧ b ≤ 1000000 ∧ a.natAbs < 2 ^ 64)
def cmpI (o : Op2) (a b : Int) : R Val := match o with
  | .lt => .ok (.bl (decide (a < b)))
  | .le => .ok (.bl (decide (a ≤ b)))
  | .gt => .ok (.bl (decide (b < a)))
  | .ge => .ok (.bl (decide (b ≤ a)))
  | _ => stk
def isVal (a b : Val) : R Bool := match b with
  | .bl y => match a with
    | .bl x => .ok (x == y)
    | _ => stk
  | .non => match a with
    | .non => .ok true
    | _ => .ok false
  | _ => stk
def lookD (ks vs : List Val) (k : Val) : Option Val := match ks, vs with
  | x :: ks, y :: vs => if veq x k then some y else lookD ks vs k
  | _, _ => none
def putD (ks vs : List Val) (k v : Val) : List Val × List Val := match ks, vs with
  | x :: ks, y :: vs => if veq x k then (x :: ks, v :: vs) else ((x :: (putD ks vs k v).1), (y :: (putD ks vs k v).2))
  | _, _ => ([k], [v])
def keyOk : Bool → Val → Bool
  | false, .int _ => true
  | false, .str _ => true
  | _, _ => false
def scal : Val → Bool
  | .non => true
  | .bl _ => true
  | .int _ => true
  | .str _ => true
  | _ => false
def inVal (x : Val) (c : Val) : R Bool := match c with
  | .lst vs => if okD 60 x && okD 60 c then .ok (vs.any fun y => veq y x) else stk
  | .tup vs => if scal x && vs.all scal then .ok (vs.any fun y => veq y x) else stk
  | .dic t ks vs => if keyOk t x then .ok (lookD ks vs x).isSome else stk
  | _ => stk
/-- the lesser list first -/
def ltL : List Int → List Int → Bool
  | [], [] => false
  | [], _ :: _ => true
  | _ :: _, [] => false
  | x :: xs, y :: ys => if x = y then ltL xs ys else decide (x < y)
def op2 (o : Op2) (a b : Val) : R Val := match o with
  | .add => match a, b with
    | .int x, .int y => .ok (.int (x + y))
    | .lst x, .lst y => if x.length + y.length ≤ lineN then .ok (.lst (x ++ y)) else stk
    | _, _ => stk
  | .sub => match a, b with
    | .int x, .int y => .ok (.int (x - y))
    | _, _ => stk
  | .mul => match a, b with
    | .int x, .int y => if mulOk x y then .ok (.int (x * y)) else stk
    | .lst x, .int k => if decide (-(2 ^ 63) ≤ k ∧ k < 2 ^ 63 ∧ x.length * k.toNat ≤ lineN) then .ok (.lst (List.replicate k.toNat x).flatten) else stk
    | _, _ => stk
  | .fdiv => match a, b with
    | .int x, .int y => if divOk y then .ok (.int (x.fdiv y)) else stk
    | _, _ => stk
  | .mod => match a, b with
    | .int x, .int y => if y = 0 then stk else .ok (.int (x.fmod y))
    | _, _ => stk
  | .pow => match a, b with
    | .int x, .int y => if powOk x y then .ok (.int (x ^ y.toNat)) else stk
    | _, _ => stk
  | .shl => match a, b with
    | .int x, .int y => if powOk x y then .ok (.int (x * 2 ^ y.toNat)) else stk
    | _, _ => stk
  | .shr => match a, b with
    | .int x, .int y => if 0 ≤ y then .ok (.int (x / 2 ^ y.toNat)) else stk
    | _, _ => stk
  | .band => match a, b with
    | .int x, .int y => .ok (.int (Builtin.bitAnd x y))
    | _, _ => stk
  | .eq => if okD 60 a && okD 60 b then .ok (.bl (veq a b)) else stk
  | .ne => if okD 60 a && okD 60 b then .ok (.bl (!veq a b)) else stk
  | .inn => do let r ← inVal a b; .ok (.bl r)
  | .nin => do let r ← inVal a b; .ok (.bl (!r))
  | .is => do let r ← isVal a b; .ok (.bl r)
  | .isn => do let r ← isVal a b; .ok (.bl (!r))
  | .ge => match a, b with
    | .int x, .int y => cmpI .ge x y
    | .lst xs, .lst ys => do let ns ← asInts xs; let ms ← asInts ys; .ok (.bl (!ltL ns ms))
    | _, _ => stk
  | o => match a, b with
    | .int x, .int y => cmpI o x y
    | _, _ => stk
def ofO {α : Type} : Option α → R α
  | some v => .ok v
  | none => stk
def ixV (a b : Val) : R Val := match a, b with
  | .lst vs, .int i => ofO (L2.atI vs i)
  | .tup vs, .int i => ofO (L2.atI vs i)
  | .scr ns, .int i => do let n ← ofO (L2.atI ns i); .ok (.int n)
  | .dic t ks vs, k => if keyOk t k then ofO (lookD ks vs k) else stk
  | _, _ => stk
def cutL (xs : List Val) (lo hi : Option Int) : List Val :=
  (xs.drop (HT.sIx xs.length 0 lo)).take (HT.sIx xs.length xs.length hi - HT.sIx xs.length 0 lo)
def insI (x : Int) : List Int → List Int
  | [] => [x]
  | y :: r => if x ≤ y then x :: y :: r else y :: insI x r
def sortI : List Int → List Int
  | [] => []
  | x :: r => insI x (sortI r)
def maxI : List Int → R Int
  | [] => stk
  | x :: r => .ok (r.foldl (fun a b => if a < b then b else a) x)
def minI : List Int → R Int
  | [] => stk
  | x :: r => .ok (r.foldl (fun a b => if b < a then b else a) x)
def bi1 (b : Bi) (vs : List Val) : R Val := match b, vs with
  | .len, [.lst xs] => .ok (.int xs.length)
  | .len, [.scr ns] => .ok (.int ns.length)
  | .len, [.tup xs] => .ok (.int xs.length)
  | .len, [.dic false ks _] => .ok (.int ks.length)
  | .abs, [.int i] => .ok (.int (if i < 0 then -i else i))
  | .sum, [.lst xs] => do let ns ← asInts xs; .ok (.int ns.sum)
  | .all, [.lst xs] => do let ns ← asBls xs; .ok (.bl (ns.all id))
  | .any, [.lst xs] => do let ns ← asBls xs; .ok (.bl (ns.any id))
  | .max2, [.int i, .int j] => .ok (.int (if j > i then j else i))
  | .min2, [.int i, .int j] => .ok (.int (if j < i then j else i))
  | .max1, [.lst xs] => do let ns ← asInts xs; let m ← maxI ns; .ok (.int m)
  | .min1, [.lst xs] => do let ns ← asInts xs; let m ← minI ns; .ok (.int m)
  | .maxd, [.lst xs, .int d] => do let ns ← asInts xs; if ns = [] then .ok (.int d) else do let m ← maxI ns; .ok (.int m)
  | .sorted, [.lst xs] => do let ns ← asInts xs; .ok (.lst ((sortI ns).map Val.int))
  | .list, [.lst xs] => .ok (.lst xs)
  | .list, [.tup xs] => .ok (.lst xs)
  | .tuple, [.lst xs] => .ok (.tup xs)
  | .tuple, [.tup xs] => .ok (.tup xs)
  | .int, [.int i] => .ok (.int i)
  | .int, [.bl k] => .ok (.int (if k then 1 else 0))
  | _, _ => stk
def isiV (v : Val) (t : Ty) : R Bool := match v, t with
  | .int _, .int => .ok true
  | .bl _, .int => .ok true
  | .bl _, .bool => .ok true
  | .tup _, .tuple => .ok true
  | .lst _, .list => .ok true
  | .str _, .str => .ok true
  | .dic _ _ _, _ => .ok false
  | .scr _, _ => stk
  | .non, _ => .ok false
  | .int _, _ => .ok false
  | .bl _, _ => .ok false
  | .tup _, _ => .ok false
  | .lst _, _ => .ok false
  | .str _, _ => .ok false
def rngC (lo c : Int) (n : Nat) : List Val := (List.range n).map fun (i : Nat) => Val.int (lo + (i : Int) * c)
def smallR (i j : Int) : Bool := decide (-(2 ^ 60) ≤ i ∧ i < 2 ^ 60 ∧ -(2 ^ 60) ≤ j ∧ j < 2 ^ 60)
/-- how many a range with a step above 0 has -/
def rngN (i j c : Int) : Nat := ((j - i + (c - 1)) / c).toNat
def zipV : List Val → List Val → List Val
  | a :: as, b :: bs => .tup [a, b] :: zipV as bs
  | _, _ => []
def enumV : Nat → List Val → List Val
  | _, [] => []
  | n, v :: r => .tup [.int n, v] :: enumV (n + 1) r

def slV (x : Val) (l h : Option Int) : R Val := match x with
  | .lst vs => .ok (.lst (cutL vs l h))
  | .scr ns => .ok (.lst (cutL (ns.map Val.int) l h))
  | _ => stk
def revV (x : Val) : R Val := match x with
  | .lst vs => .ok (.lst vs.reverse)
  | _ => stk
def lrngV (vs : List Val) : R Val := match vs with
  | [.int j] => if smallR 0 j && decide (j.toNat ≤ lineN) then .ok (.lst (rngC 0 1 j.toNat)) else stk
  | [.int i, .int j] => if smallR i j && decide ((j - i).toNat ≤ lineN) then .ok (.lst (rngC i 1 (j - i).toNat)) else stk
  | _ => stk
def dgetdV (x y z : Val) : R Val := match x with
  | .dic t ks vs => if keyOk t y then .ok ((lookD ks vs y).getD z) else stk
  | _ => stk
def cntV (x y : Val) : R Val := match x, y with
  | .lst vs, .int k => do let ns ← asInts vs; .ok (.int (ns.count k))
  | _, _ => stk
def seqV (x : Val) : R (List Val) := match x with
  | .lst vs => .ok vs
  | .tup vs => .ok vs
  | _ => stk
def enmV (x : Val) : R (List Val) := match x with
  | .lst vs => .ok (enumV 0 vs)
  | _ => stk
def zpV (x y : Val) : R (List Val) := match x, y with
  | .lst vs, .lst ws => .ok (zipV vs ws)
  | _, _ => stk
def keysV (x : Val) : R (List Val) := match x with
  | .dic _ ks _ => .ok ks
  | _ => stk

mutual
/-- what a target stores, from the left -/
def flatT : Tg → Val → R (List (Nat × Val))
  | .nm i, v => .ok [(i, v)]
  | .tp ts, v => match v with
    | .tup vs => flatTs ts vs
    | .lst vs => flatTs ts vs
    | _ => stk
def flatTs : Tgs → List Val → R (List (Nat × Val))
  | .nil, [] => .ok []
  | .nil, _ :: _ => stk
  | .cons _ _, [] => stk
  | .cons t r, v :: vs => do
    let a ← flatT t v
    let b ← flatTs r vs
    .ok (a ++ b)
end
def setsE (ρ : VE) : List (Nat × Val) → VE
  | [] => ρ
  | (i, v) :: r => setsE (ρ.set i (some v)) r
def bindE (t : Tg) (ρ : VE) (v : Val) : R VE := do
  let bs ← flatT t v
  .ok (setsE ρ bs)

def compGo (bind : VE → Val → R VE) (c : VE → R Bool) (e : VE → R Val) (ρ : VE) : List Val → R (List Val)
  | [] => .ok []
  | v :: r => do
    let ρ1 ← bind ρ v
    let b ← c ρ1
    if b = true then do
      let y ← e ρ1
      let ys ← compGo bind c e ρ r
      .ok (y :: ys)
    else compGo bind c e ρ r
def wipeE (ρ : VE) : List Nat → VE
  | [] => ρ
  | v :: vs => (wipeE ρ vs).set v none

def getE (ρ : VE) (i : Nat) : R Val := match ρ[i]? with
  | some (some v) => .ok v
  | _ => stk
/-! values of the machine with a heap of its own -/
inductive HV where
  | p (v : Val)
  | r (n : Nat)
  | t (xs : List HV)
  deriving Inhabited
inductive HOb where
  | lst (xs : List HV)
  | dic (t : Bool) (ks : List Val) (vs : List HV)
  | ins (c : Nat) (fs : List (Nat × HV))
  deriving Inhabited
abbrev HHp := List HOb
/-- constants of the module; defs; defs over the heap -/
structure Tab where
  G : Nat → Option Val
  C : Nat → List Val → R Val
  H : Nat → List HV → HHp → R (HV × HHp)

mutual
def ev (T : Tab) : SE → VE → R Val
  | .var i, ρ => getE ρ i
  | .cint n, _ => .ok (.int n)
  | .cbl b, _ => .ok (.bl b)
  | .cnon, _ => .ok .non
  | .cstr s, _ => .ok (.str (Str.ofString s))
  | .glob g, _ => ofO (T.G g)
  | .op o a b, ρ => do let x ← ev T a ρ; let y ← ev T b ρ; op2 o x y
  | .neg a, ρ => do let x ← ev T a ρ; let i ← asInt x; .ok (.int (-i))
  | .not1 a, ρ => do let x ← ev T a ρ; let b ← tru x; .ok (.bl (!b))
  | .bop an es, ρ => evB T an es ρ
  | .chain o o' a b c, ρ => do
    let x ← ev T a ρ
    let y ← ev T b ρ
    let r ← op2 o x y
    let k ← tru r
    if k = true then do let z ← ev T c ρ; op2 o' y z else .ok (.bl false)
  | .ite c a b, ρ => do let x ← ev T c ρ; let k ← tru x; if k = true then ev T a ρ else ev T b ρ
  | .tup es, ρ => do let vs ← evs T es ρ; if vs.length ≤ lineN then .ok (.tup vs) else stk
  | .lst es, ρ => do let vs ← evs T es ρ; if vs.length ≤ lineN then .ok (.lst vs) else stk
  | .ix a b, ρ => do let x ← ev T a ρ; let y ← ev T b ρ; ixV x y
  | .sl a lo hi, ρ => do
    let x ← ev T a ρ
    let l ← evO T lo ρ
    let h ← evO T hi ρ
    slV x l h
  | .rev a, ρ => do let x ← ev T a ρ; revV x
  | .call f es, ρ => do let vs ← evs T es ρ; T.C f vs
  | .bi b es, ρ => do let vs ← evs T es ρ; bi1 b vs
  | .isi a t, ρ => do let x ← ev T a ρ; let r ← isiV x t; .ok (.bl r)
  | .comp own tg it c el, ρ => do
    let items ← evI T it ρ
    if items.length ≤ lineN then do
      let ys ← compGo (bindE tg) (evC T c) (ev T el) (wipeE ρ own) items
      .ok (.lst ys)
    else stk
  | .lrng es, ρ => do
    let vs ← evs T es ρ
    lrngV vs
  | .dget d k, ρ => do let x ← ev T d ρ; let y ← ev T k ρ; ixV x y
  | .dgetd d k e, ρ => do
    let x ← ev T d ρ
    let y ← ev T k ρ
    let z ← ev T e ρ
    dgetdV x y z
  | .cnt a b, ρ => do
    let x ← ev T a ρ
    let y ← ev T b ρ
    cntV x y
  | .mxd a b, ρ => do
    let x ← ev T a ρ
    let y ← ev T b ρ
    bi1 .maxd [x, y]
def evs (T : Tab) : SEs → VE → R (List Val)
  | .nil, _ => .ok []
  | .cons e r, ρ => do let v ← ev T e ρ; let vs ← evs T r ρ; .ok (v :: vs)
def evB (T : Tab) (an : Bool) : SEs → VE → R Val
  | .nil, _ => stk
  | .cons e .nil, ρ => ev T e ρ
  | .cons e r, ρ => do
    let x ← ev T e ρ
    let k ← tru x
    if k = an then evB T an r ρ else .ok (.bl (!an))
def evO (T : Tab) : SO → VE → R (Option Int)
  | .none, _ => .ok none
  | .some e, ρ => do let x ← ev T e ρ; let i ← asInt x; .ok (some i)
def evC (T : Tab) : SO → VE → R Bool
  | .none, _ => .ok true
  | .some e, ρ => do let x ← ev T e ρ; tru x
def evI (T : Tab) : SI → VE → R (List Val)
  | .seq e, ρ => do
    let x ← ev T e ρ
    seqV x
  | .rng1 a, ρ => do
    let x ← ev T a ρ
    let j ← asInt x
    if smallR 0 j then .ok (rngC 0 1 j.toNat) else stk
  | .rng2 a b, ρ => do
    let x ← ev T a ρ
    let y ← ev T b ρ
    let i ← asInt x
    let j ← asInt y
    if smallR i j then .ok (rngC i 1 (j - i).toNat) else stk
  | .rng3 a b c, ρ => do
    let x ← ev T a ρ
    let y ← ev T b ρ
    let z ← ev T c ρ
    let i ← asInt x
    let j ← asInt y
    let k ← asInt z
    if smallR i j && decide (0 < k ∧ k < 1073741824) then .ok (rngC i k (rngN i j k)) else stk
  | .enum e, ρ => do
    let x ← ev T e ρ
    enmV x
  | .zip a b, ρ => do
    let x ← ev T a ρ
    let y ← ev T b ρ
    zpV x y
  | .keys e, ρ => do
    let x ← ev T e ρ
    keysV x
end

/-! ### statements -/
inductive Slot where
  | no
  | sh (v : Val)
  | ow (vs : List Val)
  | od (t : Bool) (ks vs : List Val)
  deriving Inhabited
abbrev SEnv := List Slot
def Slot.isOwn : Slot → Bool
  | .ow _ => true
  | .od _ _ _ => true
  | _ => false
def Slot.val : Slot → Option Val
  | .no => none
  | .sh v => some v
  | .ow vs => some (.lst vs)
  | .od t ks vs => some (.dic t ks vs)
/-- what an expression may see: all that is not owned, and of what is owned that which is listed -/
def visG (m : List Nat) : Nat → SEnv → VE
  | _, [] => []
  | i, s :: r => (if s.isOwn && !m.contains i then none else s.val) :: visG m (i + 1) r
abbrev vis (m : List Nat) (ρ : SEnv) : VE := visG m 0 ρ
def frz1 (i : Nat) (ρ : SEnv) : SEnv := match ρ[i]? with
  | some (.ow vs) => ρ.set i (.sh (.lst vs))
  | some (.od t ks vs) => ρ.set i (.sh (.dic t ks vs))
  | _ => ρ
def frzs : List Nat → SEnv → SEnv
  | [], ρ => ρ
  | i :: r, ρ => frzs r (frz1 i ρ)
/-- behind a value that is kept: what it was made of is frozen, unless the value bears nothing that may change -/
def kept (m : List Nat) (fl : Bool) (ρ : SEnv) : SEnv := match m with
  | [] => ρ
  | _ => if fl = true then ρ else frzs m ρ
def setsS (ρ : SEnv) : List (Nat × Val) → SEnv
  | [] => ρ
  | (i, v) :: r => setsS (ρ.set i (.sh v)) r
def bindS (t : Tg) (ρ : SEnv) (v : Val) : R SEnv := do
  let bs ← flatT t v
  .ok (setsS ρ bs)
inductive Fl where
  | nx
  | rt (v : Val)
def forGo (bind : SEnv → Val → R SEnv) (body : SEnv → R (Fl × SEnv)) : List Val → SEnv → R (Fl × SEnv)
  | [], ρ => .ok (.nx, ρ)
  | v :: r, ρ => do
    let ρ1 ← bind ρ v
    let q ← body ρ1
    match q with
    | (.nx, ρ2) => forGo bind body r ρ2
    | (.rt v, ρ2) => .ok (.rt v, ρ2)
def whGo (c : SEnv → R Bool) (body : SEnv → R (Fl × SEnv)) : Nat → SEnv → R (Fl × SEnv)
  | 0, _ => stk
  | n + 1, ρ => do
    let b ← c ρ
    if b = true then do
      let q ← body ρ
      match q with
      | (.nx, ρ2) => whGo c body n ρ2
      | (.rt v, ρ2) => .ok (.rt v, ρ2)
    else .ok (.nx, ρ)
def ixL (n : Nat) (i : Int) : Option Nat := L2.ixN n i

mutual
def ex (T : Tab) : SS → SEnv → R (Fl × SEnv)
  | .asg m tg e, ρ => do
    let v ← ev T e (vis m ρ)
    let ρ1 ← bindS tg (kept m (flat v) ρ) v
    .ok (.nx, ρ1)
  | .par m i j a b, ρ => do
    let v ← ev T a (vis m ρ)
    let w ← ev T b (vis m ρ)
    .ok (.nx, ((kept m (flat v && flat w) ρ).set i (.sh v)).set j (.sh w))
  | .parO m i j a b, ρ => do
    let v ← ev T a (vis m ρ)
    let w ← ev T b (vis m ρ)
    match v with
    | .lst vs => if i < ρ.length then .ok (.nx, ((kept m (flats vs && flat w) ρ).set i (.ow vs)).set j (.sh w)) else stk
    | _ => stk
  | .own m i e, ρ => do
    let v ← ev T e (vis m ρ)
    match v with
    | .lst vs => if i < ρ.length then .ok (.nx, (kept m (flats vs) ρ).set i (.ow vs)) else stk
    | _ => stk
  | .ownd i t, ρ => if i < ρ.length then .ok (.nx, ρ.set i (.od t [] [])) else stk
  | .app m i e, ρ => do
    let v ← ev T e (vis m ρ)
    if m.contains i && !flat v then stk else
      match (kept m (flat v) ρ)[i]? with
      | some (.ow vs) => if vs.length < lineN then .ok (.nx, (kept m (flat v) ρ).set i (.ow (vs ++ [v]))) else stk
      | _ => stk
  | .ext m i e, ρ => do
    let v ← ev T e (vis m ρ)
    match v with
    | .lst ws => if m.contains i && !flats ws then stk else
      match (kept m (flats ws) ρ)[i]? with
      | some (.ow vs) => if vs.length + ws.length ≤ lineN then .ok (.nx, (kept m (flats ws) ρ).set i (.ow (vs ++ ws))) else stk
      | _ => stk
    | _ => stk
  | .seti m i k e, ρ => do
    let v ← ev T e (vis m ρ)
    let kv ← ev T k (vis m ρ)
    let z ← asInt kv
    if m.contains i && !flat v then stk else
      match (kept m (flat v) ρ)[i]? with
      | some (.ow vs) => match ixL vs.length z with
        | some j => .ok (.nx, (kept m (flat v) ρ).set i (.ow (vs.set j v)))
        | none => stk
      | _ => stk
  | .dput m i k e, ρ => do
    let v ← ev T e (vis m ρ)
    let kv ← ev T k (vis m ρ)
    if m.contains i && !flat v then stk else
      match (kept m (flat v) ρ)[i]? with
      | some (.od t ks vs) => if keyOk t kv && decide (ks.length < lineN) then .ok (.nx, (kept m (flat v) ρ).set i (.od t (putD ks vs kv v).1 (putD ks vs kv v).2)) else stk
      | _ => stk
  | .iff m c a b, ρ => do
    let v ← ev T c (vis m ρ)
    let k ← tru v
    if k = true then exs T a ρ else exs T b ρ
  | .loop m tg it b, ρ => do
    let items ← evI T it (vis m ρ)
    forGo (bindS tg) (exs T b) items (kept m false ρ)
  | .whl m μ c b, ρ => do
    let v ← ev T μ (vis m ρ)
    let z ← asInt v
    whGo (fun ρ => do let x ← ev T c (vis m ρ); tru x) (exs T b) (z.toNat + 1) ρ
  | .retv i, ρ => match ρ[i]? with
    | some (.ow vs) => .ok (.rt (.lst vs), ρ)
    | _ => stk
  | .ret m e, ρ => do
    let v ← ev T e (vis m ρ)
    .ok (.rt v, ρ)
  | .expr m e, ρ => do
    let v ← ev T e (vis m ρ)
    .ok (.nx, ρ)
  | .raise c, ρ => .error (.exc c)
def exs (T : Tab) : SB → SEnv → R (Fl × SEnv)
  | .nil, ρ => .ok (.nx, ρ)
  | .cons s r, ρ => do
    let q ← ex T s ρ
    match q with
    | (.nx, ρ1) => exs T r ρ1
    | (.rt v, ρ1) => .ok (.rt v, ρ1)
end

structure SD where
  np : Nat
  ns : Nat
  body : SB
def runD (T : Tab) (d : SD) (args : List Val) : R Val :=
  if args.length = d.np then do
    let q ← exs T d.body (args.map Slot.sh ++ List.replicate (d.ns - d.np) Slot.no)
    match q.1 with
    | .nx => .ok .non
    | .rt v => .ok v
  else stk
end VM

set_option Elab.async false
set_option linter.all false
set_option maxRecDepth 100000
set_option maxHeartbeats 2000000
/-! H1: the machine with a heap: language, evaluator; programs. -/
namespace VM
open PySem

mutual
inductive HE where
  | pu (m : List Nat) (e : SE)
  | puF (m : List Nat) (e : SE)
  | var (i : Nat)
  | ix (a : HE) (m : List Nat) (k : SE)
  | lst (es : HEs)
  | tup (es : HEs)
  | lof (a : HE)
  | cat (a b : HE)
  | sl (a : HE) (m : List Nat) (lo hi : SO)
  | comp (own : List Nat) (tg : Tg) (it : HI) (m : List Nat) (c : SO) (el : HE)
  | call (f : Nat) (es : HEs)
inductive HEs where
  | nil
  | cons (e : HE) (r : HEs)
inductive HI where
  | seq (e : HE)
  | pu (m : List Nat) (it : SI)
  | rng (m : List Nat) (it : SI)
  | enum (e : HE)
  | zip (a b : HE)
end
mutual
inductive HS where
  | asg (tg : Tg) (e : HE)
  | par (i j : Nat) (a b : HE)
  | app (a e : HE)
  | ext (a e : HE)
  | set (a : HE) (m : List Nat) (k : SE) (e : HE)
  | iff (m : List Nat) (c : SE) (a b : HB)
  | loop (tg : Tg) (it : HI) (b : HB)
  | whl (m : List Nat) (μ : SE) (c : SE) (b : HB)
  | ret (e : HE)
  | expr (e : HE)
  | raise (c : Nat)
inductive HB where
  | nil
  | cons (s : HS) (r : HB)
end

abbrev HEnv := List (Option HV)
def omap {α β : Type} (f : α → Option β) : List α → Option (List β)
  | [] => some []
  | x :: r => match f x with
    | some v => match omap f r with
      | some vs => some (v :: vs)
      | none => none
    | none => none
/-- what is read of a value, to a depth -/
def deref (h : HHp) : Nat → HV → Option Val
  | 0, _ => none
  | _ + 1, .p v => some v
  | k + 1, .r n => match h[n]? with
    | some (.lst xs) => (omap (deref h k) xs).map Val.lst
    | some (.dic t ks vs) => (omap (deref h k) vs).map (Val.dic t ks)
    | _ => none
  | k + 1, .t xs => (omap (deref h k) xs).map Val.tup
def seeG (m : List Nat) (h : HHp) : Nat → HEnv → VE
  | _, [] => []
  | i, o :: r => (if m.contains i then o.bind (deref h 60) else none) :: seeG m h (i + 1) r
abbrev seeH (m : List Nat) (h : HHp) (ρ : HEnv) : VE := seeG m h 0 ρ
def isP : Option HV → Bool
  | some (.p _) => true
  | some _ => false
  | none => true
def onlyP (m : List Nat) (ρ : HEnv) : Bool := m.all fun i => isP (ρ[i]?.getD none)
def lookDH (ks : List Val) (vs : List HV) (k : Val) : Option HV := match ks, vs with
  | x :: ks, y :: vs => if veq x k then some y else lookDH ks vs k
  | _, _ => none
def putDH (ks : List Val) (vs : List HV) (k : Val) (v : HV) : List Val × List HV := match ks, vs with
  | x :: ks, y :: vs => if veq x k then (x :: ks, v :: vs) else ((x :: (putDH ks vs k v).1), (y :: (putDH ks vs k v).2))
  | _, _ => ([k], [v])
def ixH (h : HHp) (x : HV) (k : Val) : R HV := match x with
  | .p v => do let u ← ixV v k; .ok (.p u)
  | .r n => match h[n]? with
    | some (.lst xs) => match k with
      | .int i => ofO (L2.atI xs i)
      | _ => stk
    | some (.dic t ks vs) => if keyOk t k then ofO (lookDH ks vs k) else stk
    | _ => stk
  | .t xs => match k with
    | .int i => ofO (L2.atI xs i)
    | _ => stk
/-- the items of a list (tuples, too) -/
def itemsH (h : HHp) (x : HV) : R (List HV) := match x with
  | .p (.lst vs) => .ok (vs.map HV.p)
  | .p (.tup vs) => .ok (vs.map HV.p)
  | .r n => match h[n]? with
    | some (.lst xs) => .ok xs
    | _ => stk
  | .t xs => .ok xs
  | _ => stk
/-- the items of a list -/
def lstH (h : HHp) (x : HV) : R (List HV) := match x with
  | .p (.lst vs) => .ok (vs.map HV.p)
  | .r n => match h[n]? with
    | some (.lst xs) => .ok xs
    | _ => stk
  | _ => stk
mutual
def flatH (h : HHp) : Tg → HV → R (List (Nat × HV))
  | .nm i, v => .ok [(i, v)]
  | .tp ts, v => do
    let vs ← itemsH h v
    flatHs h ts vs
def flatHs (h : HHp) : Tgs → List HV → R (List (Nat × HV))
  | .nil, [] => .ok []
  | .nil, _ :: _ => stk
  | .cons _ _, [] => stk
  | .cons t r, v :: vs => do
    let a ← flatH h t v
    let b ← flatHs h r vs
    .ok (a ++ b)
end
def setsH (ρ : HEnv) : List (Nat × HV) → HEnv
  | [] => ρ
  | (i, v) :: r => setsH (ρ.set i (some v)) r
def bindH (h : HHp) (t : Tg) (ρ : HEnv) (v : HV) : R HEnv := do
  let bs ← flatH h t v
  .ok (setsH ρ bs)
def wipeH (ρ : HEnv) : List Nat → HEnv
  | [] => ρ
  | v :: vs => (wipeH ρ vs).set v none
inductive HIt where
  | fx (xs : List HV)
  | ls (n : Nat)
  | en (J : HIt)
  | zp (J J' : HIt)
def HIt.at (h : HHp) : HIt → Nat → R (Option HV)
  | .fx xs, i => .ok xs[i]?
  | .ls n, i => match h[n]? with
    | some (.lst ys) => .ok ys[i]?
    | _ => stk
  | .en J, i => do
    let o ← HIt.at h J i
    .ok (o.map fun v => .t [.p (.int i), v])
  | .zp J J', i => do
    let o ← HIt.at h J i
    let o' ← HIt.at h J' i
    match o, o' with
    | some a, some b => .ok (some (.t [a, b]))
    | _, _ => .ok none
def HIt.many (h : HHp) : HIt → Nat
  | .fx xs => xs.length
  | .ls n => match h[n]? with
    | some (.lst ys) => ys.length
    | _ => 0
  | .en J => HIt.many h J
  | .zp J _ => HIt.many h J
/-- a list to be walked -/
def itL (h : HHp) (x : HV) : R HIt := match x with
  | .p (.lst vs) => .ok (.fx (vs.map HV.p))
  | .r n => match h[n]? with
    | some (.lst _) => .ok (.ls n)
    | _ => stk
  | _ => stk
def itS (h : HHp) (x : HV) : R HIt := match x with
  | .p (.tup vs) => .ok (.fx (vs.map HV.p))
  | .t xs => .ok (.fx xs)
  | x => itL h x
def compH (bind : HHp → HEnv → HV → R HEnv) (c : HEnv → HHp → R Bool) (el : HEnv → HHp → R (HV × HHp)) (J : HIt) (ρ : HEnv) : Nat → Nat → HHp → R (List HV × HHp)
  | 0, _, _ => stk
  | k + 1, i, h => do
    let o ← J.at h i
    match o with
    | none => .ok ([], h)
    | some v => do
      let ρ1 ← bind h ρ v
      let b ← c ρ1 h
      if b = true then do
        let q ← el ρ1 h
        let z ← compH bind c el J ρ k (i + 1) q.2
        .ok (q.1 :: z.1, z.2)
      else compH bind c el J ρ k (i + 1) h
mutual
def evH (T : Tab) : HE → HEnv → HHp → R (HV × HHp)
  | .pu m e, ρ, h => do
    let v ← ev T e (seeH m h ρ)
    if (flat v || onlyP m ρ) = true then .ok (.p v, h) else stk
  | .puF m e, ρ, h => do
    let v ← ev T e (seeH m h ρ)
    match v with
    | .lst vs => if (flats vs || onlyP m ρ) = true then .ok (.r h.length, h ++ [.lst (vs.map HV.p)]) else stk
    | _ => stk
  | .var i, ρ, h => match ρ[i]? with
    | some (some v) => .ok (v, h)
    | _ => stk
  | .ix a m k, ρ, h => do
    let q ← evH T a ρ h
    let kv ← ev T k (seeH m q.2 ρ)
    if flat kv = true then do
      let v ← ixH q.2 q.1 kv
      .ok (v, q.2)
    else stk
  | .lst es, ρ, h => do
    let q ← evHs T es ρ h
    if q.1.length ≤ lineN then .ok (.r q.2.length, q.2 ++ [.lst q.1]) else stk
  | .tup es, ρ, h => do
    let q ← evHs T es ρ h
    if q.1.length ≤ lineN then .ok (.t q.1, q.2) else stk
  | .lof a, ρ, h => do
    let q ← evH T a ρ h
    let xs ← itemsH q.2 q.1
    .ok (.r q.2.length, q.2 ++ [.lst xs])
  | .cat a b, ρ, h => do
    let q ← evH T a ρ h
    let z ← evH T b ρ q.2
    let xs ← lstH z.2 q.1
    let ys ← lstH z.2 z.1
    if xs.length + ys.length ≤ lineN then .ok (.r z.2.length, z.2 ++ [.lst (xs ++ ys)]) else stk
  | .sl a m lo hi, ρ, h => do
    let q ← evH T a ρ h
    let l ← evO T lo (seeH m q.2 ρ)
    let u ← evO T hi (seeH m q.2 ρ)
    let xs ← lstH q.2 q.1
    .ok (.r q.2.length, q.2 ++ [.lst ((xs.drop (HT.sIx xs.length 0 l)).take (HT.sIx xs.length xs.length u - HT.sIx xs.length 0 l))])
  | .comp own tg it m c el, ρ, h => do
    let q ← evHI T it ρ h
    if q.1.many q.2 ≤ lineN then do
      let z ← compH (fun h ρ v => bindH h tg ρ v) (fun ρ h => evC T c (seeH m h ρ)) (fun ρ h => evH T el ρ h) q.1 (wipeH ρ own) (q.1.many q.2 + 1) 0 q.2
      .ok (.r z.2.length, z.2 ++ [.lst z.1])
    else stk
  | .call f es, ρ, h => do
    let q ← evHs T es ρ h
    T.H f q.1 q.2
def evHs (T : Tab) : HEs → HEnv → HHp → R (List HV × HHp)
  | .nil, _, h => .ok ([], h)
  | .cons e r, ρ, h => do
    let q ← evH T e ρ h
    let z ← evHs T r ρ q.2
    .ok (q.1 :: z.1, z.2)
def evHI (T : Tab) : HI → HEnv → HHp → R (HIt × HHp)
  | .seq e, ρ, h => do
    let q ← evH T e ρ h
    let J ← itS q.2 q.1
    .ok (J, q.2)
  | .pu m it, ρ, h => do
    let vs ← evI T it (seeH m h ρ)
    if onlyP m ρ = true then .ok (.fx (vs.map HV.p), h) else stk
  | .rng m it, ρ, h => do
    let vs ← evI T it (seeH m h ρ)
    .ok (.fx (vs.map HV.p), h)
  | .enum e, ρ, h => do
    let q ← evH T e ρ h
    let J ← itL q.2 q.1
    .ok (.en J, q.2)
  | .zip a b, ρ, h => do
    let q ← evH T a ρ h
    let z ← evH T b ρ q.2
    let J ← itL z.2 q.1
    let J' ← itL z.2 z.1
    .ok (.zp J J', z.2)
end
inductive HFl where
  | nx
  | rt (v : HV)
def forH (bind : HHp → HEnv → HV → R HEnv) (body : HEnv → HHp → R (HFl × HEnv × HHp)) (J : HIt) : Nat → Nat → HEnv → HHp → R (HFl × HEnv × HHp)
  | 0, _, _, _ => stk
  | k + 1, i, ρ, h => do
    let o ← J.at h i
    match o with
    | none => .ok (.nx, ρ, h)
    | some v => do
      let ρ1 ← bind h ρ v
      let q ← body ρ1 h
      match q with
      | (.nx, ρ2, h2) => forH bind body J k (i + 1) ρ2 h2
      | (.rt v, ρ2, h2) => .ok (.rt v, ρ2, h2)
def whH (c : HEnv → HHp → R Bool) (body : HEnv → HHp → R (HFl × HEnv × HHp)) : Nat → HEnv → HHp → R (HFl × HEnv × HHp)
  | 0, _, _ => stk
  | n + 1, ρ, h => do
    let b ← c ρ h
    if b = true then do
      let q ← body ρ h
      match q with
      | (.nx, ρ2, h2) => whH c body n ρ2 h2
      | (.rt v, ρ2, h2) => .ok (.rt v, ρ2, h2)
    else .ok (.nx, ρ, h)
mutual
def exH (T : Tab) : HS → HEnv → HHp → R (HFl × HEnv × HHp)
  | .asg tg e, ρ, h => do
    let q ← evH T e ρ h
    let ρ1 ← bindH q.2 tg ρ q.1
    .ok (.nx, ρ1, q.2)
  | .par i j a b, ρ, h => do
    let q ← evH T a ρ h
    let z ← evH T b ρ q.2
    .ok (.nx, (ρ.set i (some q.1)).set j (some z.1), z.2)
  | .app a e, ρ, h => do
    let q ← evH T a ρ h
    let _ ← lstH q.2 q.1
    let z ← evH T e ρ q.2
    match q.1 with
    | .r n => match z.2[n]? with
      | some (.lst ys) => if ys.length < lineN then .ok (.nx, ρ, z.2.set n (.lst (ys ++ [z.1]))) else stk
      | _ => stk
    | _ => stk
  | .ext a e, ρ, h => do
    let q ← evH T a ρ h
    let _ ← lstH q.2 q.1
    let z ← evH T e ρ q.2
    let zs ← lstH z.2 z.1
    match q.1 with
    | .r n => match z.2[n]? with
      | some (.lst ys) => if ys.length + zs.length ≤ lineN then .ok (.nx, ρ, z.2.set n (.lst (ys ++ zs))) else stk
      | _ => stk
    | _ => stk
  | .set a m k e, ρ, h => do
    let z ← evH T e ρ h
    let q ← evH T a ρ z.2
    let kv ← ev T k (seeH m q.2 ρ)
    match q.1 with
    | .r n => match q.2[n]? with
      | some (.lst ys) => match kv with
        | .int i => match L2.ixN ys.length i with
          | some j => .ok (.nx, ρ, q.2.set n (.lst (ys.set j z.1)))
          | none => stk
        | _ => stk
      | _ => stk
    | _ => stk
  | .iff m c a b, ρ, h => do
    let v ← ev T c (seeH m h ρ)
    let k ← tru v
    if k = true then exHs T a ρ h else exHs T b ρ h
  | .loop tg it b, ρ, h => do
    let q ← evHI T it ρ h
    forH (fun h ρ v => bindH h tg ρ v) (fun ρ h => exHs T b ρ h) q.1 (q.1.many q.2 + 1) 0 ρ q.2
  | .whl m μ c b, ρ, h => do
    let v ← ev T μ (seeH m h ρ)
    let z ← asInt v
    whH (fun ρ h => do let x ← ev T c (seeH m h ρ); tru x) (fun ρ h => exHs T b ρ h) (z.toNat + 1) ρ h
  | .ret e, ρ, h => do
    let q ← evH T e ρ h
    .ok (.rt q.1, ρ, q.2)
  | .expr e, ρ, h => do
    let q ← evH T e ρ h
    .ok (.nx, ρ, q.2)
  | .raise c, _, _ => .error (.exc c)
def exHs (T : Tab) : HB → HEnv → HHp → R (HFl × HEnv × HHp)
  | .nil, ρ, h => .ok (.nx, ρ, h)
  | .cons s r, ρ, h => do
    let q ← exH T s ρ h
    match q with
    | (.nx, ρ1, h1) => exHs T r ρ1 h1
    | (.rt v, ρ1, h1) => .ok (.rt v, ρ1, h1)
end
structure HD where
  np : Nat
  ns : Nat
  body : HB
def runH (T : Tab) (d : HD) (args : List HV) (h : HHp) : R (HV × HHp) :=
  if args.length = d.np then do
    let q ← exHs T d.body (args.map some ++ List.replicate (d.ns - d.np) none) h
    match q.1 with
    | .nx => .ok (.p .non, q.2.2)
    | .rt v => .ok (v, q.2.2)
  else stk
/-- a def over the heap, as one of plain values -/
def pureH (g : List HV → HHp → R (HV × HHp)) (args : List Val) : R Val := do
  let q ← g (args.map HV.p) []
  ofO (deref q.2 60 q.1)

/-! ### programs -/
/-- a program: its constants, its defs, its defs over the heap -/
structure Prog where
  G : Nat → Option Val
  F : Nat → Option SD
  HF : Nat → Option HD
def calls (P : Prog) : Nat → (Nat → List Val → R Val) × (Nat → List HV → HHp → R (HV × HHp))
  | 0 => (fun _ _ => stk, fun _ _ _ => stk)
  | n + 1 => (fun f args => match P.F f with
      | some d => runD ⟨P.G, (calls P n).1, (calls P n).2⟩ d args
      | none => match P.HF f with
        | some d => pureH (runH ⟨P.G, (calls P n).1, (calls P n).2⟩ d) args
        | none => stk,
    fun f args h => match P.HF f with
      | some d => runH ⟨P.G, (calls P n).1, (calls P n).2⟩ d args h
      | none => stk)
def callP (P : Prog) (n : Nat) : Nat → List Val → R Val := (calls P n).1
def callH (P : Prog) (n : Nat) : Nat → List HV → HHp → R (HV × HHp) := (calls P n).2
abbrev Prog.tab (P : Prog) (n : Nat) : Tab := ⟨P.G, callP P n, callH P n⟩
theorem callP_succ (P : Prog) (n f : Nat) (args : List Val) {d : SD} (h : P.F f = some d) : callP P (n + 1) f args = runD (P.tab n) d args := by
  simp only [callP, callH, calls, h]; rfl
theorem callP_heap (P : Prog) (n f : Nat) (args : List Val) {d : HD} (h : P.F f = none) (g : P.HF f = some d) : callP P (n + 1) f args = pureH (runH (P.tab n) d) args := by
  simp only [callP, callH, calls, h, g]; rfl
theorem callH_succ (P : Prog) (n f : Nat) (args : List HV) (hp : HHp) {d : HD} (h : P.HF f = some d) : callH P (n + 1) f args hp = runH (P.tab n) d args hp := by
  simp only [callP, callH, calls, h]; rfl
end VM

set_option Elab.async false
set_option linter.all false
set_option maxRecDepth 100000
set_option maxHeartbeats 2000000
/-! W3: what an expression's value promises; the operations. -/
namespace VM
open PySem PySem.Spec PyProof.Rows L2

theorem bok {α β : Type} {x : R α} {f : α → R β} {v : β} (h : (x >>= f) = .ok v) : ∃ a, x = .ok a ∧ f a = .ok v := by
  cases x with
  | error e => exact nomatch (show (Except.error e : R β) = .ok v from h)
  | ok a => exact ⟨a, rfl, h⟩
theorem okI {α : Type} {a b : α} (h : (Except.ok a : R α) = .ok b) : a = b := by cases h; rfl
theorem iok {α : Type} {c : Prop} [Decidable c] {a b : α} (h : (if c then (Except.ok a : R α) else .error .stuck) = .ok b) : c ∧ a = b := by
  split at h
  · cases h; exact ⟨by assumption, rfl⟩
  · cases h

def Ext (H H' : Hp) : Prop := ∀ a o, H a = some o → H' a = some o
section
variable {K : PySem.W.Frag} {H H' H1 H2 : Hp} {O : Hid} {p : Addr} {o : HO} {v u : Val} {x : V} {vs : List Val} {xs : List V}
theorem Ext.refl : Ext H H := fun _ _ h => h
theorem Ext.trans (a : Ext H H1) (b : Ext H1 H2) : Ext H H2 := fun c o h => b c o (a c o h)
theorem Ext.upd (n : H p = none) : Ext H (L2.upd H p o) := fun b u e => by
  rw [upd_ne (ne_of_none e n)]; exact e
theorem Ext.keep (e : Ext H H') : Keep H O H' O := ⟨fun a o h _ => e a o h, fun _ h => .inl h⟩
theorem WF.ext (w : WF H O) (e : Ext H H') : WF H' O := fun a h => let ⟨o, h1, h2⟩ := w a h; ⟨o, e a o h1, h2⟩
theorem WF.new (w : WF H O) (n : H p = none) : ¬ O p := fun z => by
  obtain ⟨o, e, _⟩ := w p z
  rw [n] at e; cases e
theorem Rep.ext (w : WF H O) (e : Ext H H') (r : Rep K H O v x) : Rep K H' O v x := Rep.keep w e.keep r
theorem Reps.ext (w : WF H O) (e : Ext H H') (r : Reps K H O vs xs) : Reps K H' O vs xs := Reps.keep w e.keep r
theorem Rep.lst_new (w : WF H O) (n : H p = none) (r : Reps K H O vs xs) : Rep K (L2.upd H p (.lst xs)) O (.lst vs) (.ref p) := by
  simp only [Rep]
  exact ⟨p, xs, rfl, w.new n, upd_same, Reps.ext w (Ext.upd n) r⟩
theorem Rep.tup_new (w : WF H O) (n : H p = none) (r : Reps K H O vs xs) : Rep K (L2.upd H p (.tup xs)) O (.tup vs) (.ref p) := by
  simp only [Rep]
  exact ⟨p, xs, rfl, SqT.of upd_same, Reps.ext w (Ext.upd n) r⟩

/-- what follows a value -/
def Post (K : PySem.W.Frag) (H : Hp) (O : Hid) (v : Val) (Q : VK) : Prop := ∀ x H', Ext H H' → Rep K H' O v x → Q x H'
theorem Post.ext {Q : VK} (h : Post K H O v Q) (e : Ext H H1) : Post K H1 O v Q := fun x H' e' r => h x H' (e.trans e') r
theorem Post.at {Q : VK} (h : Post K H O v Q) (r : Rep K H O v x) : Q x H := h x H Ext.refl r

/-- the slots hold the values -/
structure EOk (K : PySem.W.Frag) (H : Hp) (O : Hid) (σ : L2.St) (ρ : VE) : Prop where
  len : ρ.length ≤ σ.length
  get : ∀ (i : Nat) (v : Val), ρ[i]? = some (some v) → ∃ x, σ[i]? = some (some x) ∧ Rep K H O v x
theorem EOk.keep {σ : L2.St} {ρ : VE} {O' : Hid} (h : EOk K H O σ ρ) (w : WF H O) (k : Keep H O H' O') : EOk K H' O' σ ρ :=
  ⟨h.len, fun i v e => let ⟨x, h1, h2⟩ := h.get i v e; ⟨x, h1, Rep.keep w k h2⟩⟩
theorem EOk.ext {σ : L2.St} {ρ : VE} (h : EOk K H O σ ρ) (w : WF H O) (e : Ext H H') : EOk K H' O σ ρ := h.keep w e.keep
theorem EOk.set {σ : L2.St} {ρ : VE} {i : Nat} (h : EOk K H O σ ρ) (r : Rep K H O v x) : EOk K H O (σ.set i (some x)) (ρ.set i (some v)) := by
  refine ⟨by simpa using h.len, fun j u e => ?_⟩
  by_cases hj : i = j
  · subst hj
    by_cases hl : i < ρ.length
    · rw [List.getElem?_set_self hl] at e
      cases e
      exact ⟨x, List.getElem?_set_self (Nat.lt_of_lt_of_le hl h.len), r⟩
    · rw [List.getElem?_eq_none (by simpa using hl)] at e; cases e
  · rw [List.getElem?_set_ne hj] at e
    obtain ⟨y, h1, h2⟩ := h.get j u e
    exact ⟨y, by rw [List.getElem?_set_ne hj]; exact h1, h2⟩

/-! ### the forms -/
def tE (K : PySem.W.Frag) (T : Tab) (s : SE) : TE := fun σ H Q => ∃ O ρ v, WF H O ∧ EOk K H O σ ρ ∧ ev T s ρ = .ok v ∧ Post K H O v Q
def tA (K : PySem.W.Frag) (T : Tab) (s : SEs) : TA := fun σ H Q => ∃ O ρ vs, WF H O ∧ EOk K H O σ ρ ∧ evs T s ρ = .ok vs ∧ ∀ xs H', Ext H H' → Reps K H' O vs xs → Q xs H'
def tT (K : PySem.W.Frag) (T : Tab) (s : SE) : TT := fun σ H Q => ∃ O ρ b, WF H O ∧ EOk K H O σ ρ ∧ ev T s ρ = .ok (.bl b) ∧ ∀ H', Ext H H' → Q b H'
/-- two values -/
def rV (K : PySem.W.Frag) (g : Val → Val → R Val) : R2 := fun x y H Q => ∃ O a b r, WF H O ∧ Rep K H O a x ∧ Rep K H O b y ∧ g a b = .ok r ∧ Post K H O r Q
def rVs (K : PySem.W.Frag) (g : List Val → R Val) : List V → Hp → VK → Prop := fun xs H Q => ∃ O as r, WF H O ∧ Reps K H O as xs ∧ g as = .ok r ∧ Post K H O r Q
end
theorem PE.imp {X : Cx} {e : Expr} {t t' : TE} (h : PE X e t) (i : ∀ σ H Q, t' σ H Q → t σ H Q) : PE X e t' := ⟨fun pins s σ H Q I q => h.run pins s σ H Q I (i σ H Q q)⟩
theorem PT.imp {X : Cx} {e : Expr} {t t' : TT} (h : PT X e t) (i : ∀ σ H Q, t' σ H Q → t σ H Q) : PT X e t' := ⟨fun pins s σ H Q I q => h.run pins s σ H Q I (i σ H Q q)⟩
theorem PW.imp {X : Cx} {e : Expr} {t t' : TT} (h : PW X e t) (i : ∀ σ H Q, t' σ H Q → t σ H Q) : PW X e t' := ⟨fun wh pins s σ H Q I q => h.run wh pins s σ H Q I (i σ H Q q)⟩
theorem PA.imp {X : Cx} {e : List Expr} {t t' : TA} (h : PA X e t) (i : ∀ σ H Q, t' σ H Q → t σ H Q) : PA X e t' := ⟨fun pos pins s σ H Q I q => h.run pos pins s σ H Q I (i σ H Q q)⟩
theorem PS.imp {X : Cx} {e : Stmt} {t t' : TS} (h : PS X e t) (i : ∀ D σ H, t' D σ H → t D σ H) : PS X e t' := ⟨fun pins s σ H D I q => h.run pins s σ H D I (i D σ H q)⟩
theorem PSs.imp {X : Cx} {e : List Stmt} {t t' : TS} (h : PSs X e t) (i : ∀ D σ H, t' D σ H → t D σ H) : PSs X e t' := ⟨fun pins s σ H D I q => h.run pins s σ H D I (i D σ H q)⟩

section
variable {X : Cx}
/-! ### operations -/
theorem intBits_le (x : Int) : Builtin.Int.intBits x ≤ x.natAbs.log2 + 1 := by
  unfold Builtin.Int.intBits
  split <;> omega
theorem mulOk_fits {i j : Int} (h : mulOk i j = true) : IntMulOk i j := by
  have h1 := intBits_le i
  have h2 := intBits_le j
  have h3 : i.natAbs.log2 + j.natAbs.log2 < 100000000 := of_decide_eq_true h
  have e : bitsLine = 134217728 := by decide
  unfold IntMulOk
  intro z
  rw [Bool.and_eq_true] at z
  have z2 := of_decide_eq_true (show decide _ = true from z.2)
  omega
theorem lineN_eq : lineN = sizeLine := by unfold lineN; rw [sizeLine_eq]

theorem sop_add : OpR X (binaryOp .Add) (rV X.K (op2 .add)) := by
  intro pins s σ H x y v u Q I rx ry ⟨O, a, b, r, w, ra, rb, e, q⟩
  simp only [op2] at e
  split at e
  · cases e
    simp only [Rep] at ra rb
    exact op_add pins s σ H x y v u Q I rx ry ⟨_, _, ra, rb, q.at (by simp only [Rep])⟩
  · obtain ⟨hl, e⟩ := iok e
    subst e
    simp only [Rep] at ra rb
    obtain ⟨p, xs, rfl, n1, h1, r1⟩ := ra
    obtain ⟨p', ys, rfl, n2, h2, r2⟩ := rb
    refine op_cat pins s σ H _ _ v u Q I rx ry ⟨p, p', xs, ys, rfl, rfl, h1, h2, ?_, fun l n => ?_⟩
    · rw [r1.length, r2.length, ← lineN_eq]; exact hl
    · exact q _ _ (Ext.upd n) (Rep.lst_new w n (r1.append r2))
  · cases e
theorem sop_sub : OpR X (binaryOp .Sub) (rV X.K (op2 .sub)) := by
  intro pins s σ H x y v u Q I rx ry ⟨O, a, b, r, w, ra, rb, e, q⟩
  simp only [op2] at e
  split at e
  · cases e
    simp only [Rep] at ra rb
    exact op_sub pins s σ H x y v u Q I rx ry ⟨_, _, ra, rb, q.at (by simp only [Rep])⟩
  · cases e
theorem Reps.repl {K : PySem.W.Frag} {H : Hp} {O : Hid} {vs : List Val} {xs : List V} (h : Reps K H O vs xs) : ∀ n : Nat, Reps K H O (List.replicate n vs).flatten (List.replicate n xs).flatten
  | 0 => by simp [Reps]
  | n + 1 => by
    rw [List.replicate_succ, List.replicate_succ, List.flatten_cons, List.flatten_cons]
    exact h.append (Reps.repl h n)
theorem sop_mul : OpR X (binaryOp .Mult) (rV X.K (op2 .mul)) := by
  intro pins s σ H x y v u Q I rx ry ⟨O, a, b, r, w, ra, rb, e, q⟩
  simp only [op2] at e
  split at e
  · obtain ⟨hm, e⟩ := iok e
    subst e
    simp only [Rep] at ra rb
    subst ra rb
    obtain ⟨t, rfl⟩ := rx
    obtain ⟨t', rfl⟩ := ry
    exact mul_int ⟨.int _, H, I.tok _, ⟨_, rfl⟩, q.at (by simp only [Rep])⟩ (mulOk_fits hm)
  · obtain ⟨hm, e⟩ := iok e
    subst e
    obtain ⟨h1, h2, h3⟩ := of_decide_eq_true hm
    simp only [Rep] at ra rb
    obtain ⟨p, xs, rfl, n1, hp, r1⟩ := ra
    subst rb
    refine op_rep pins s σ H _ _ v u Q I rx ry ⟨p, _, xs, rfl, rfl, hp, h1, h2, ?_, fun l n => ?_⟩
    · rw [r1.length, ← lineN_eq]; exact h3
    · exact q _ _ (Ext.upd n) (Rep.lst_new w n (r1.repl _))
  · cases e
theorem sop_fdiv : OpR X (binaryOp .FloorDiv) (rV X.K (op2 .fdiv)) := by
  intro pins s σ H x y v u Q I rx ry ⟨O, a, b, r, w, ra, rb, e, q⟩
  simp only [op2] at e
  split at e
  · obtain ⟨hm, e⟩ := iok e
    subst e
    obtain ⟨h1, h2⟩ := of_decide_eq_true hm
    simp only [Rep] at ra rb
    subst ra rb
    obtain ⟨t, rfl⟩ := rx
    obtain ⟨t', rfl⟩ := ry
    exact floordiv_int h1 ⟨.int _, H, I.tok _, ⟨_, rfl⟩, q.at (by simp only [Rep])⟩ (.inl (PyProof.noPylong_of_log2 h2))
  · cases e
theorem sop_mod : OpR X (binaryOp .Mod) (rV X.K (op2 .mod)) := by
  intro pins s σ H x y v u Q I rx ry ⟨O, a, b, r, w, ra, rb, e, q⟩
  simp only [op2] at e
  split at e
  · split at e
    · cases e
    · cases e
      simp only [Rep] at ra rb
      exact op_modN pins s σ H x y v u Q I rx ry ⟨_, _, ra, rb, by assumption, q.at (by simp only [Rep])⟩
  · cases e
theorem sop_pow : OpR X (binaryOp .Pow) (rV X.K (op2 .pow)) := by
  intro pins s σ H x y v u Q I rx ry ⟨O, a, b, r, w, ra, rb, e, q⟩
  simp only [op2] at e
  split at e
  · obtain ⟨hm, e⟩ := iok e
    subst e
    simp only [Rep] at ra rb
    have hm' := of_decide_eq_true hm
    exact op_pow pins s σ H x y v u Q I rx ry ⟨_, _, ra, rb, hm', q.at (by simp only [Rep])⟩
  · cases e
theorem sop_shl : OpR X (binaryOp .LShift) (rV X.K (op2 .shl)) := by
  intro pins s σ H x y v u Q I rx ry ⟨O, a, b, r, w, ra, rb, e, q⟩
  simp only [op2] at e
  split at e
  · obtain ⟨hm, e⟩ := iok e
    subst e
    simp only [Rep] at ra rb
    have hm' := of_decide_eq_true hm
    exact op_shl pins s σ H x y v u Q I rx ry ⟨_, _, ra, rb, hm', q.at (by simp only [Rep])⟩
  · cases e
theorem sop_shr : OpR X (binaryOp .RShift) (rV X.K (op2 .shr)) := by
  intro pins s σ H x y v u Q I rx ry ⟨O, a, b, r, w, ra, rb, e, q⟩
  simp only [op2] at e
  split at e
  · obtain ⟨hm, e⟩ := iok e
    subst e
    simp only [Rep] at ra rb
    exact op_shr pins s σ H x y v u Q I rx ry ⟨_, _, ra, rb, hm, q.at (by simp only [Rep])⟩
  · cases e
theorem sop_band : OpR X (binaryOp .BitAnd) (rV X.K (op2 .band)) := by
  intro pins s σ H x y v u Q I rx ry ⟨O, a, b, r, w, ra, rb, e, q⟩
  simp only [op2] at e
  split at e
  · cases e
    simp only [Rep] at ra rb
    exact op_and pins s σ H x y v u Q I rx ry ⟨_, _, ra, rb, q.at (by simp only [Rep])⟩
  · cases e
theorem firstLt_succ {e r : Nat → Bool} {fin : Bool} : ∀ l : List Nat, PySem.SeqAt.firstLt e r fin (l.map Nat.succ) = PySem.SeqAt.firstLt (fun j => e (j + 1)) (fun j => r (j + 1)) fin l
  | [] => rfl
  | j :: l => by
    show (if e (j + 1) = true then PySem.SeqAt.firstLt e r fin (l.map Nat.succ) else r (j + 1)) = _
    rw [firstLt_succ l]; rfl
theorem firstLt_ge : ∀ ns ms : List Int, PySem.SeqAt.firstLt (fun j => decide (ns.getD j 0 = ms.getD j 0)) (fun j => decide (ms.getD j 0 ≤ ns.getD j 0)) (decide (ns.length ≥ ms.length)) (List.range (min ns.length ms.length)) = !ltL ns ms
  | [], [] => rfl
  | [], m :: ms => by simp [ltL, PySem.SeqAt.firstLt]
  | n :: ns, [] => by simp [ltL, PySem.SeqAt.firstLt]
  | n :: ns, m :: ms => by
    have ih := firstLt_ge ns ms
    rw [show min (n :: ns).length (m :: ms).length = min ns.length ms.length + 1 by simp, List.range_succ_eq_map]
    show (if decide (n = m) = true then PySem.SeqAt.firstLt _ _ _ ((List.range (min ns.length ms.length)).map Nat.succ) else decide (m ≤ n)) = _
    rw [firstLt_succ]
    simp only [List.getD_cons_succ, List.length_cons]
    rw [show (decide (ns.length + 1 ≥ ms.length + 1)) = decide (ns.length ≥ ms.length) by congr 1; simp, ih]
    simp only [ltL]
    by_cases h : n = m
    · simp [h]
    · simp only [h, decide_false, Bool.false_eq_true, if_false]
      by_cases h2 : n < m
      · rw [decide_eq_true h2, decide_eq_false (by omega)]; rfl
      · rw [decide_eq_false h2, decide_eq_true (by omega)]; rfl
theorem asInts_lst : ∀ {vs : List Val} {ns : List Int}, asInts vs = .ok ns → vs = ns.map Val.int
  | [], ns, h => by simp only [asInts] at h; cases h; rfl
  | v :: vs, ns, h => by
    cases v <;> simp only [asInts] at h <;> first | (cases h; done) | skip
    obtain ⟨s, h1, h⟩ := bok h
    cases h
    rw [asInts_lst h1]; rfl
def rGeL (K : PySem.W.Frag) : R2 := fun x y H Q => ∃ (a b : Addr) (ns ms : List Int), x = .ref a ∧ y = .ref b ∧ SqL K H a (ns.map V.int) ∧ SqL K H b (ms.map V.int) ∧ Q (.bl (!ltL ns ms)) H
theorem op_geL (hu : X.A.units < cLine) : OpR X (compareOp .GtE) (rGeL X.K) := by
  intro pins s σ H x y v u Q I rx ry h
  obtain ⟨a, b, ns, ms, rfl, rfl, ha, hb, q⟩ := h
  cases rx
  cases ry
  obtain ⟨its, r1, p1, _⟩ := I.list ha
  obtain ⟨its2, r2, p2, _⟩ := I.list hb
  have i1 : IntsAre its ns := Vals.ints r1
  have i2 : IntsAre its2 ms := Vals.ints r2
  have e1 : its.toArray.size = ns.length := by rw [List.size_toArray]; exact i1.length
  have e2 : its2.toArray.size = ms.length := by rw [List.size_toArray]; exact i2.length
  have at1 : ∀ j (h1 : j < its.toArray.size), ∃ t, its.toArray[j] = .int (ns.getD j 0) t := fun j h1 => PyProof.Rows.IntsAre.int_at i1 _ _ (by simp at h1; simp [h1])
  have at2 : ∀ j (h1 : j < its2.toArray.size), ∃ t, its2.toArray[j] = .int (ms.getD j 0) t := fun j h1 => PyProof.Rows.IntsAre.int_at i2 _ _ (by simp at h1; simp [h1])
  have R := PySem.SeqAt.RcOp.lists_ge (A := X.A) (s := s) (e := fun j => decide (ns.getD j 0 = ms.getD j 0)) (r := fun j => decide (ms.getD j 0 ≤ ns.getD j 0)) p1.isList p2.isList hu (fun j h1 h2 => by
    obtain ⟨t, et⟩ := at1 j h1
    obtain ⟨t', et'⟩ := at2 j h2
    rw [et, et']
    have z : (ns.getD j 0 == ms.getD j 0) = decide (ns.getD j 0 = ms.getD j 0) := by
      by_cases q : ns.getD j 0 = ms.getD j 0
      · rw [decide_eq_true q]; exact beq_iff_eq.mpr q
      · rw [decide_eq_false q]; exact beq_eq_false_iff_ne.mpr q
    rw [← z]
    exact SeqAt.EqAt.int_int _ _ _ _) (fun j h1 h2 _ => by
    obtain ⟨t, et⟩ := at1 j h1
    obtain ⟨t', et'⟩ := at2 j h2
    rw [et, et']
    exact fun _ _ _ _ h => PyProof.Rows.ge_int h)
  rw [e1, e2, firstLt_ge] at R
  have z : wpAny (model X.prog X.w) X.A (compareOp .GtE (.ref a) (.ref b)) (EP X pins σ Q) X.xe s := R X.prog X.w X.xe (EP X pins σ Q) ⟨.bl _, H, I, rfl, q⟩
  exact z
theorem sop_cmp (hu : X.A.units < cLine) {o : Op2} {c : CmpOp} (hc : (o = .lt ∧ c = .Lt) ∨ (o = .le ∧ c = .LtE) ∨ (o = .gt ∧ c = .Gt) ∨ (o = .ge ∧ c = .GtE)) : OpR X (compareOp c) (rV X.K (op2 o)) := by
  intro pins s σ H x y v u Q I rx ry ⟨O, a, b, r, w, ra, rb, e, q⟩
  rcases hc with ⟨rfl, rfl⟩ | ⟨rfl, rfl⟩ | ⟨rfl, rfl⟩ | ⟨rfl, rfl⟩
  · simp only [op2] at e
    split at e <;> first | (cases e; done) | skip
    simp only [cmpI] at e; cases e; simp only [Rep] at ra rb
    exact op_lt pins s σ H x y v u Q I rx ry ⟨_, _, ra, rb, q.at (by simp only [Rep])⟩
  · simp only [op2] at e
    split at e <;> first | (cases e; done) | skip
    simp only [cmpI] at e; cases e; simp only [Rep] at ra rb
    exact op_le pins s σ H x y v u Q I rx ry ⟨_, _, ra, rb, q.at (by simp only [Rep])⟩
  · simp only [op2] at e
    split at e <;> first | (cases e; done) | skip
    simp only [cmpI] at e; cases e; simp only [Rep] at ra rb
    exact op_gt pins s σ H x y v u Q I rx ry ⟨_, _, ra, rb, q.at (by simp only [Rep])⟩
  · simp only [op2] at e
    split at e <;> first | (cases e; done) | skip
    · simp only [cmpI] at e; cases e; simp only [Rep] at ra rb
      exact op_ge pins s σ H x y v u Q I rx ry ⟨_, _, ra, rb, q.at (by simp only [Rep])⟩
    · obtain ⟨ns, h1, e⟩ := bok e
      obtain ⟨ms, h2, e⟩ := bok e
      cases e
      have e1 := asInts_lst h1
      have e2 := asInts_lst h2
      subst e1 e2
      simp only [Rep] at ra rb
      obtain ⟨p, xs, rfl, _, sq, rr⟩ := ra
      obtain ⟨p', ys, rfl, _, sq', rr'⟩ := rb
      rw [Reps.of_ints rr] at sq
      rw [Reps.of_ints rr'] at sq'
      exact op_geL hu pins s σ H _ _ v u Q I rx ry ⟨p, p', ns, ms, rfl, rfl, SqL.of sq, SqL.of sq', q.at (by simp only [Rep])⟩
theorem sop_eq (hu : X.A.units + 64 < cLine) : OpR X (compareOp .Eq) (rV X.K (op2 .eq)) := by
  intro pins s σ H x y v u Q I rx ry ⟨O, a, b, r, w, ra, rb, e, q⟩
  simp only [op2] at e
  obtain ⟨hm, e⟩ := iok e
  subst e
  rw [Bool.and_eq_true] at hm
  exact op_eqD hu pins s σ H x y v u Q I rx ry ⟨_, _, ra.dp 60 hm.1, rb.dp 60 hm.2, okD_shaped hm.1, okD_shaped hm.2, q.at (by simp only [Rep]; rfl)⟩
theorem sop_ne (hu : X.A.units + 64 < cLine) : OpR X (compareOp .NotEq) (rV X.K (op2 .ne)) := by
  intro pins s σ H x y v u Q I rx ry ⟨O, a, b, r, w, ra, rb, e, q⟩
  simp only [op2] at e
  obtain ⟨hm, e⟩ := iok e
  subst e
  rw [Bool.and_eq_true] at hm
  exact op_neD hu pins s σ H x y v u Q I rx ry ⟨_, _, ra.dp 60 hm.1, rb.dp 60 hm.2, okD_shaped hm.1, okD_shaped hm.2, q.at (by simp only [Rep]; rfl)⟩
theorem scal_V {K : PySem.W.Frag} {H : Hp} {O : Hid} {v : Val} {x : V} (h : scal v = true) (r : Rep K H O v x) : flatV x = true := by
  cases v <;> simp [scal] at h <;> simp only [Rep] at r <;> subst r <;> rfl
theorem scal_eq {K : PySem.W.Frag} {H : Hp} {O : Hid} {v w : Val} {x y : V} (h : scal v = true) (h' : scal w = true) (r : Rep K H O v x) (r' : Rep K H O w y) : eqV x y = veq v w := by
  cases v <;> simp [scal] at h <;> cases w <;> simp [scal] at h' <;> simp only [Rep] at r r' <;> subst r r' <;> first | rfl | (simp only [veq, py, PyData.eqv, eqV]; done) | (simp [veq, py, PyData.eqv, eqV, Bool.beq_eq_decide_eq])
theorem scal_any {K : PySem.W.Frag} {H : Hp} {O : Hid} {v : Val} {x : V} (h : scal v = true) (r : Rep K H O v x) : ∀ {vs : List Val} {xs : List V}, vs.all scal = true → Reps K H O vs xs → xs.all flatV = true ∧ inV x xs = vs.any (fun y => veq y v)
  | [], _, _, q => by simp only [Reps] at q; subst q; exact ⟨rfl, rfl⟩
  | u :: vs, _, hv, q => by
    simp only [Reps] at q
    obtain ⟨y, t, rfl, p, q⟩ := q
    simp only [List.all_cons, Bool.and_eq_true] at hv
    obtain ⟨h1, h2⟩ := scal_any h r hv.2 q
    refine ⟨?_, ?_⟩
    · simp only [List.all_cons, Bool.and_eq_true]; exact ⟨scal_V hv.1 p, h1⟩
    · unfold inV at h2 ⊢
      rw [List.any_cons, List.any_cons, h2, scal_eq hv.1 h p r]
end
end VM

set_option Elab.async false
set_option linter.all false
set_option maxRecDepth 100000
set_option maxHeartbeats 2000000
/-! W4: arguments, targets, what is walked. -/
namespace VM
open PySem PySem.Spec PyProof.Rows L2

/-! ### no stars -/
def nst : Expr → Bool
  | .Starred _ _ => false
  | _ => true
theorem star_cons {e : Expr} {es : List Expr} {env : Env} (h : nst e = true) : starEach (e :: es) env = (false, eval e env) :: starEach es env := by
  cases e <;> first | rfl | cases h
theorem star_any {env : Env} {pos : Pos} : ∀ {es : List Expr}, es.all nst = true → (backTo pos (starEach es env)).any (·.1) = false
  | [], _ => rfl
  | e :: es, h => by
    simp only [List.all_cons, Bool.and_eq_true] at h
    rw [star_cons h.1]
    show (false || (backTo pos (starEach es env)).any (·.1)) = false
    rw [star_any h.2]; rfl
theorem asg_cons {e : Expr} {es : List Expr} {env : Env} (h : nst e = true) : assignEach (e :: es) env = (false, assign e env) :: assignEach es env := by
  cases e <;> first | rfl | cases h
theorem asg_len {env : Env} : ∀ {es : List Expr}, es.all nst = true → (assignEach es env).length = es.length
  | [], _ => rfl
  | e :: es, h => by
    simp only [List.all_cons, Bool.and_eq_true] at h
    rw [asg_cons h.1, List.length_cons, asg_len h.2, List.length_cons]
theorem asg_star {env : Env} : ∀ {es : List Expr}, es.all nst = true → (assignEach es env).findIdx? (·.1) = none
  | [], _ => rfl
  | e :: es, h => by
    simp only [List.all_cons, Bool.and_eq_true] at h
    rw [asg_cons h.1, List.findIdx?_cons, asg_star h.2]; rfl

section
variable {X : Cx} {T : Tab} {e : Expr} {es : List Expr} {s : SE} {r : SEs}
/-! ### arguments -/
theorem sA_nil : PA X [] (tA X.K T .nil) := PA.imp pa_nil (fun σ H Q ⟨O, ρ, vs, w, eo, h, q⟩ => by
  simp only [evs] at h; cases h
  exact q [] H Ext.refl Reps.nil)
theorem sA_cons (ha : PE X e (tE X.K T s)) (hr : PA X es (tA X.K T r)) (n : nst e = true) : PA X (e :: es) (tA X.K T (.cons s r)) :=
  PA.imp (pa_cons ha hr (star_cons n)) (fun σ H Q ⟨O, ρ, vs, w, eo, h, q⟩ => by
    simp only [evs] at h
    obtain ⟨v, h1, h⟩ := bok h
    obtain ⟨us, h2, h⟩ := bok h
    cases h
    refine ⟨O, ρ, v, w, eo, h1, fun x H1 e1 r1 => ⟨O, ρ, us, w.ext e1, eo.ext w e1, h2, fun xs H2 e2 r2 => ?_⟩⟩
    exact q _ _ (e1.trans e2) (Reps.cons (r1.ext (w.ext e1) e2) r2))
end

/-! ### targets -/
def setsV (σ : L2.St) : List Nat → List V → L2.St
  | i :: is, x :: xs => setsV (σ.set i (some x)) is xs
  | _, _ => σ
section
variable {K : PySem.W.Frag} {H : Hp} {O : Hid}
theorem Reps.split {vs ws : List Val} : ∀ {xs : List V}, Reps K H O (vs ++ ws) xs → ∃ ys zs, xs = ys ++ zs ∧ Reps K H O vs ys ∧ Reps K H O ws zs := by
  induction vs with
  | nil => exact fun {xs} h => ⟨[], xs, rfl, Reps.nil, h⟩
  | cons v vs ih =>
    intro xs h
    simp only [List.cons_append, Reps] at h
    obtain ⟨x, r, rfl, p, q⟩ := h
    obtain ⟨ys, zs, rfl, h1, h2⟩ := ih q
    exact ⟨x :: ys, zs, rfl, Reps.cons p h1, h2⟩
theorem setsV_append : ∀ {is js : List Nat} {xs ys : List V} {σ : L2.St}, is.length = xs.length → setsV σ (is ++ js) (xs ++ ys) = setsV (setsV σ is xs) js ys
  | [], _, [], _, _, _ => rfl
  | [], _, _ :: _, _, _, h => by simp at h
  | _ :: _, _, [], _, _, h => by simp at h
  | i :: is, js, x :: xs, ys, σ, h => by
    show setsV (σ.set i (some x)) (is ++ js) (xs ++ ys) = _
    rw [setsV_append (by simpa using h)]; rfl
theorem setsV_length : ∀ {is : List Nat} {xs : List V} {σ : L2.St}, (setsV σ is xs).length = σ.length
  | [], _, _ => rfl
  | _ :: _, [], _ => rfl
  | i :: is, x :: xs, σ => by
    show (setsV (σ.set i (some x)) is xs).length = _
    rw [setsV_length, List.length_set]
theorem EOk.sets : ∀ {bs : List (Nat × Val)} {xs : List V} {σ : L2.St} {ρ : VE}, EOk K H O σ ρ → Reps K H O (bs.map (·.2)) xs → EOk K H O (setsV σ (bs.map (·.1)) xs) (setsE ρ bs)
  | [], _, _, _, h, _ => h
  | (i, v) :: bs, _, σ, ρ, h, r => by
    simp only [List.map_cons, Reps] at r
    obtain ⟨x, t, rfl, p, q⟩ := r
    show EOk K H O (setsV (σ.set i (some x)) (bs.map (·.1)) t) (setsE (ρ.set i (some v)) bs)
    exact EOk.sets (h.set p) q
def gR (K : PySem.W.Frag) (tg : Tg) : TG := fun x σ H Q => ∃ O u bs, WF H O ∧ Rep K H O u x ∧ flatT tg u = .ok bs ∧ ∀ xs, Reps K H O (bs.map (·.2)) xs → Q (setsV σ (bs.map (·.1)) xs) H
def gRs (K : PySem.W.Frag) (tg : Tgs) : TGs := fun ys σ H Q => ∃ O us bs, WF H O ∧ Reps K H O us ys ∧ flatTs tg us = .ok bs ∧ ∀ xs, Reps K H O (bs.map (·.2)) xs → Q (setsV σ (bs.map (·.1)) xs) H
end
theorem PG.imp {X : Cx} {e : Expr} {t t' : TG} (h : PG X e t) (i : ∀ v σ H Q, t' v σ H Q → t v σ H Q) : PG X e t' := ⟨fun pins s σ H v u Q I r q => h.run pins s σ H v u Q I r (i v σ H Q q)⟩
theorem PGs.imp {X : Cx} {e : List Expr} {t t' : TGs} (h : PGs X e t) (i : ∀ v σ H Q, t' v σ H Q → t v σ H Q) : PGs X e t' := ⟨fun pins s σ H v u Q I r q => h.run pins s σ H v u Q I r (i v σ H Q q)⟩
section
variable {X : Cx} {e : Expr} {es : List Expr} {x : Str} {pos : Pos}
theorem sG_nm {i : Nat} (hN : X.N.Nodup) (hi : X.N[i]? = some x) (hx : Loc X.env.scope x) (hf : X.fn x = true ∨ X.env.scope.names.lookup x = some .local) : PG X (.Name x pos) (gR X.K (.nm i)) :=
  PG.imp (pg_name hN hi hx hf) (fun v σ H Q ⟨O, u, bs, w, r, h, q⟩ => by
    simp only [flatT] at h; cases h
    exact q [v] (Reps.cons r Reps.nil))
theorem sGs_nil : PGs X [] (gRs X.K .nil) := PGs.imp pgs_nil (fun v σ H Q ⟨O, u, bs, w, r, h, q⟩ => by
  cases u with
  | nil => simp only [flatTs] at h; cases h; simp only [Reps] at r; exact ⟨r, q [] Reps.nil⟩
  | cons a b => simp only [flatTs] at h; cases h)
theorem sGs_cons {t : Tg} {r : Tgs} (h1 : PG X e (gR X.K t)) (h2 : PGs X es (gRs X.K r)) (n : nst e = true) : PGs X (e :: es) (gRs X.K (.cons t r)) :=
  PGs.imp (pgs_cons h1 h2 (by rw [asg_cons n]; rfl)) (fun v σ H Q ⟨O, us, bs, w, rp, h, q⟩ => by
    cases us with
    | nil => simp only [flatTs] at h; cases h
    | cons a b =>
      simp only [flatTs] at h
      obtain ⟨b1, e1, h⟩ := bok h
      obtain ⟨b2, e2, h⟩ := bok h
      cases h
      simp only [Reps] at rp
      obtain ⟨y, ys, rfl, p, rp⟩ := rp
      refine ⟨y, ys, rfl, O, a, b1, w, p, e1, fun xs hx => ⟨O, b, b2, w, rp, e2, fun zs hz => ?_⟩⟩
      have := q (xs ++ zs) (by rw [List.map_append]; exact hx.append hz)
      rw [List.map_append, setsV_append (by rw [hx.length]; simp)] at this
      exact this)
theorem sG_tp {k : Nat} {ts : Tgs} (hc : X.calm = true) (h : PGs X es (gRs X.K ts)) (n : es.all nst = true) (hl : ∀ us bs, flatTs ts us = .ok bs → us.length = es.length) : PG X (.Tuple es k pos) (gR X.K (.tp ts)) := by
  refine ⟨fun pins s σ H v u Q I r ⟨O, w0, bs, w, rp, hf, q⟩ => ?_⟩
  cases w0 with
  | tup vs =>
    simp only [flatT] at hf
    simp only [Rep] at rp
    obtain ⟨a, xs, rfl, sq, rr⟩ := rp
    refine (pg_tup hc h (n := es.length) (asg_len n) (asg_star n)).run pins s σ H _ u Q I r ⟨a, xs, rfl, sq, ?_, O, vs, bs, w, rr, hf, q⟩
    rw [rr.length]; exact hl _ _ hf
  | lst vs =>
    simp only [flatT] at hf
    simp only [Rep] at rp
    obtain ⟨a, xs, rfl, _, sq, rr⟩ := rp
    refine (pg_unl hc h (n := es.length) (asg_len n) (asg_star n)).run pins s σ H _ u Q I r ⟨a, xs, rfl, SqL.of sq, ?_, O, vs, bs, w, rr, hf, q⟩
    rw [rr.length]; exact hl _ _ hf
  | _ => simp only [flatT] at hf; cases hf
end

/-! ### what is walked -/
/-- J yields the values, as long as what may be seen is kept -/
def ItOk (K : PySem.W.Frag) (J : It) (H : Hp) (O : Hid) (vs : List Val) : Prop :=
  ∀ (i : Nat) (H' : Hp) (O' : Hid), WF H' O' → Keep H O H' O' → (vs.length ≤ i → J.stop i H') ∧
    ∀ v, vs[i]? = some v → J.go i H' ∧ ∀ x H'', J.yld i H' x H'' → Ext H' H'' ∧ Rep K H'' O' v x
def tI (K : PySem.W.Frag) (T : Tab) (it : SI) : TI := fun σ H Rr => ∃ O ρ vs, WF H O ∧ EOk K H O σ ρ ∧ evI T it ρ = .ok vs ∧ ∀ J H', Ext H H' → ItOk K J H' O vs → Rr J H'
theorem PI.imp {X : Cx} {tg e : Expr} {t t' : TI} (h : PI X tg e t) (i : ∀ σ H Q, t' σ H Q → t σ H Q) : PI X tg e t' := ⟨fun pins s σ H Q I q => h.run pins s σ H Q I (i σ H Q q)⟩
section
variable {K : PySem.W.Frag} {H : Hp} {O : Hid} {a b : Addr} {vs ws : List Val} {xs ys : List V}
theorem it_lst (w : WF H O) (n : ¬ O a) (h : H a = some (.lst xs)) (r : Reps K H O vs xs) : ItOk K (Itl K a) H O vs := by
  intro i H' O' w' k
  obtain ⟨n', h'⟩ := vis_keep k n h
  have r' := Reps.keep w k r
  refine ⟨fun hi => ⟨xs, SqL.of h', by rw [r.length]; exact hi⟩, fun v hv => ?_⟩
  obtain ⟨x, hx, rx⟩ := r'.get hv
  refine ⟨⟨xs, x, SqL.of h', hx⟩, fun y H'' hy => ?_⟩
  obtain ⟨rfl, f⟩ := hy
  have e := f xs (SqL.of h')
  rw [hx] at e; cases e
  exact ⟨Ext.refl, rx⟩
theorem it_tup (w : WF H O) (h : SqT K H a xs) (r : Reps K H O vs xs) : ItOk K (Itt K a) H O vs := by
  intro i H' O' w' k
  have h' := sqT_keep w k h
  have r' := Reps.keep w k r
  refine ⟨fun hi => ⟨xs, h', by rw [r.length]; exact hi⟩, fun v hv => ?_⟩
  obtain ⟨x, hx, rx⟩ := r'.get hv
  refine ⟨⟨xs, x, h', hx⟩, fun y H'' hy => ?_⟩
  obtain ⟨rfl, f⟩ := hy
  have e := f xs h'
  rw [hx] at e; cases e
  exact ⟨Ext.refl, rx⟩
theorem rngC_len (lo c : Int) (n : Nat) : (rngC lo c n).length = n := by simp [rngC]
theorem rngC_get {lo c : Int} {n i : Nat} {v : Val} (h : (rngC lo c n)[i]? = some v) : i < n ∧ v = .int (lo + (i : Int) * c) := by
  unfold rngC at h
  rw [List.getElem?_map] at h
  by_cases hi : i < n
  · rw [List.getElem?_range hi] at h
    cases h; exact ⟨hi, rfl⟩
  · rw [List.getElem?_eq_none (by simpa using hi)] at h; cases h
theorem it_rng (lo : Int) (n : Nat) : ItOk K (Itr lo n) H O (rngC lo 1 n) := by
  intro i H' O' w' k
  refine ⟨fun hi => by rw [rngC_len] at hi; exact hi, fun v hv => ?_⟩
  obtain ⟨hi, rfl⟩ := rngC_get hv
  refine ⟨hi, fun y H'' hy => ?_⟩
  obtain ⟨rfl, rfl⟩ := hy
  exact ⟨Ext.refl, by simp only [Rep, Int.mul_one]⟩
theorem it_rngC (lo c : Int) (n : Nat) : ItOk K (Itc lo c n) H O (rngC lo c n) := by
  intro i H' O' w' k
  refine ⟨fun hi => by rw [rngC_len] at hi; exact hi, fun v hv => ?_⟩
  obtain ⟨hi, rfl⟩ := rngC_get hv
  refine ⟨hi, fun y H'' hy => ?_⟩
  obtain ⟨rfl, rfl⟩ := hy
  exact ⟨Ext.refl, by simp only [Rep]⟩
theorem enumV_len : ∀ {vs : List Val} {n : Nat}, (enumV n vs).length = vs.length
  | [], _ => rfl
  | v :: vs, n => by simp [enumV, enumV_len]
theorem enumV_get : ∀ {vs : List Val} {n i : Nat} {v : Val}, (enumV n vs)[i]? = some v → ∃ u, vs[i]? = some u ∧ v = .tup [.int ((n + i : Nat) : Int), u]
  | [], _, _, _, h => by simp [enumV] at h
  | u :: vs, n, 0, v, h => by simp [enumV] at h; exact ⟨u, rfl, h.symm⟩
  | u :: vs, n, i + 1, v, h => by
    simp only [enumV, List.getElem?_cons_succ] at h
    obtain ⟨w, h1, h2⟩ := enumV_get h
    refine ⟨w, by simpa using h1, ?_⟩
    rw [h2]; congr 4 <;> omega
theorem zipV_len : ∀ {vs ws : List Val}, (zipV vs ws).length = min vs.length ws.length
  | [], _ => by simp [zipV]
  | _ :: _, [] => by simp [zipV]
  | v :: vs, w :: ws => by simp only [zipV, List.length_cons, zipV_len]; omega
theorem zipV_get : ∀ {vs ws : List Val} {i : Nat} {v : Val}, (zipV vs ws)[i]? = some v → ∃ x y, vs[i]? = some x ∧ ws[i]? = some y ∧ v = .tup [x, y]
  | [], _, _, _, h => by simp [zipV] at h
  | _ :: _, [], _, _, h => by simp [zipV] at h
  | v :: vs, w :: ws, 0, u, h => by simp [zipV] at h; exact ⟨v, w, rfl, rfl, h.symm⟩
  | v :: vs, w :: ws, i + 1, u, h => by
    simp only [zipV, List.getElem?_cons_succ] at h
    obtain ⟨x, y, h1, h2, h3⟩ := zipV_get h
    exact ⟨x, y, by simpa using h1, by simpa using h2, h3⟩
theorem it_enum (w : WF H O) (n : ¬ O a) (h : H a = some (.lst xs)) (r : Reps K H O vs xs) : ItOk K (Ite K a) H O (enumV 0 vs) := by
  intro i H' O' w' k
  obtain ⟨n', h'⟩ := vis_keep k n h
  have r' := Reps.keep w k r
  refine ⟨fun hi => ⟨xs, SqL.of h', by rw [r.length]; rw [enumV_len] at hi; exact hi⟩, fun v hv => ?_⟩
  obtain ⟨u, hu, rfl⟩ := enumV_get hv
  obtain ⟨x, hx, rx⟩ := r'.get hu
  refine ⟨⟨xs, x, SqL.of h', hx⟩, fun y H'' hy => ?_⟩
  obtain ⟨Ta, x', rfl, nT, rfl, f⟩ := hy
  have e := f xs (SqL.of h')
  rw [hx] at e; cases e
  refine ⟨Ext.upd nT, Rep.tup_new w' nT (Reps.cons (by simp only [Rep, Nat.zero_add]) (Reps.cons rx Reps.nil))⟩
theorem it_zip (w : WF H O) (n : ¬ O a) (h : H a = some (.lst xs)) (r : Reps K H O vs xs) (n2 : ¬ O b) (h2 : H b = some (.lst ys)) (r2 : Reps K H O ws ys) : ItOk K (Itz K a b) H O (zipV vs ws) := by
  intro i H' O' w' k
  obtain ⟨n', h'⟩ := vis_keep k n h
  obtain ⟨n2', h2'⟩ := vis_keep k n2 h2
  have r' := Reps.keep w k r
  have r2' := Reps.keep w k r2
  refine ⟨fun hi => ⟨xs, ys, SqL.of h', SqL.of h2', ?_⟩, fun v hv => ?_⟩
  · rw [zipV_len] at hi
    rw [r.length, r2.length]; omega
  · obtain ⟨u1, u2, hu1, hu2, rfl⟩ := zipV_get hv
    obtain ⟨x, hx, rx⟩ := r'.get hu1
    obtain ⟨y, hy, ry⟩ := r2'.get hu2
    refine ⟨⟨xs, ys, x, y, SqL.of h', SqL.of h2', hx, hy⟩, fun z H'' hz => ?_⟩
    obtain ⟨Ta, x', y', rfl, nT, rfl, f1, f2⟩ := hz
    have e := f1 xs (SqL.of h')
    rw [hx] at e; cases e
    have e := f2 ys (SqL.of h2')
    rw [hy] at e; cases e
    exact ⟨Ext.upd nT, Rep.tup_new w' nT (Reps.cons rx (Reps.cons ry Reps.nil))⟩
end

section
variable {X : Cx} {T : Tab} {tg e e2 e3 : Expr} {s s2 s3 : SE}
/-- a list or a tuple -/
theorem sI_seq (h : PE X e (tE X.K T s)) : PI X tg e (tI X.K T (.seq s)) := by
  refine ⟨fun pins st σ H Rr I ⟨O, ρ, vs, w, eo, hv, q⟩ => ?_⟩
  simp only [evI] at hv
  obtain ⟨u, hu, hv⟩ := bok hv
  cases u with
  | lst us =>
    simp only [seqV] at hv; cases hv
    refine (pi_list (tg := tg) h).run pins st σ H Rr I ⟨O, ρ, _, w, eo, hu, fun x H1 e1 r1 => ?_⟩
    simp only [Rep] at r1
    obtain ⟨a, xs, rfl, n, ha, r⟩ := r1
    exact ⟨a, rfl, ⟨xs, SqL.of ha⟩, q _ _ e1 (it_lst (w.ext e1) n ha r)⟩
  | tup us =>
    simp only [seqV] at hv; cases hv
    refine (pi_tup (tg := tg) h).run pins st σ H Rr I ⟨O, ρ, _, w, eo, hu, fun x H1 e1 r1 => ?_⟩
    simp only [Rep] at r1
    obtain ⟨a, xs, rfl, ha, r⟩ := r1
    exact ⟨a, rfl, ⟨xs, ha⟩, q _ _ e1 (it_tup (w.ext e1) ha r)⟩
  | _ => simp only [seqV] at hv; cases hv
theorem asInt_ok {v : Val} {i : Int} (h : asInt v = .ok i) : v = .int i := by
  cases v <;> simp only [asInt] at h <;> cases h; rfl
theorem sI_rng1 {p pos : Pos} (hg : Gl X "range") (hm : X.mg "range" = none) (h : PE X e (tE X.K T s)) (n : nst e = true) : PI X tg (.Call (.Name "range" p) [e] [] pos) (tI X.K T (.rng1 s)) :=
  PI.imp (pi_range1 hg hm (sA_cons h sA_nil n) (by rw [star_cons n]; rfl)) (fun σ H Rr ⟨O, ρ, vs, w, eo, hv, q⟩ => by
    simp only [evI] at hv
    obtain ⟨u, hu, hv⟩ := bok hv
    obtain ⟨j, hj, hv⟩ := bok hv
    obtain rfl := asInt_ok hj
    obtain ⟨hs, hv⟩ := iok hv
    subst hv
    refine ⟨O, ρ, [.int j], w, eo, by simp only [evs, hu]; rfl, fun xs H1 e1 r1 => ?_⟩
    simp only [Reps, Rep] at r1
    obtain ⟨x, r, rfl, rfl, rfl⟩ := r1
    have hs' := of_decide_eq_true hs
    exact ⟨j, rfl, by omega, by omega, q _ _ e1 (it_rng 0 _)⟩)
theorem sI_rng2 {p pos : Pos} (hg : Gl X "range") (hm : X.mg "range" = none) (h : PE X e (tE X.K T s)) (n : nst e = true) (h2 : PE X e2 (tE X.K T s2)) (n2 : nst e2 = true) : PI X tg (.Call (.Name "range" p) [e, e2] [] pos) (tI X.K T (.rng2 s s2)) :=
  PI.imp (pi_range2 hg hm (sA_cons h (sA_cons h2 sA_nil n2) n) (by rw [star_cons n, star_cons n2]; rfl) (by rw [star_cons n2]; rfl)) (fun σ H Rr ⟨O, ρ, vs, w, eo, hv, q⟩ => by
    simp only [evI] at hv
    obtain ⟨u, hu, hv⟩ := bok hv
    obtain ⟨u2, hu2, hv⟩ := bok hv
    obtain ⟨i, hi, hv⟩ := bok hv
    obtain ⟨j, hj, hv⟩ := bok hv
    obtain rfl := asInt_ok hj
    obtain rfl := asInt_ok hi
    obtain ⟨hs, hv⟩ := iok hv
    subst hv
    refine ⟨O, ρ, [.int i, .int j], w, eo, by simp only [evs, hu, hu2]; rfl, fun xs H1 e1 r1 => ?_⟩
    simp only [Reps, Rep] at r1
    obtain ⟨x, r, rfl, rfl, y, r', rfl, rfl, rfl⟩ := r1
    have hs' := of_decide_eq_true hs
    exact ⟨i, j, rfl, by omega, q _ _ e1 (it_rng i _)⟩)
theorem rng_size {i j k : Int} (hk : 0 < k) : Builtin.Range.rangeSize i j k = ((rngN i j k : Nat) : Int) := by
  unfold Builtin.Range.rangeSize rngN
  by_cases hij : i < j
  · have h1 : 0 ≤ j - i + (k - 1) := by omega
    have h2 : 0 ≤ (j - i + (k - 1)) / k := Int.ediv_nonneg h1 (by omega)
    have h3 : (j - i + (k - 1)) / k = (j - i - 1) / k + 1 := by
      rw [show j - i + (k - 1) = (j - i - 1) + k * 1 by omega, Int.add_mul_ediv_left _ _ (by omega)]
    simp [hk, hij]
    rw [Int.max_eq_left (by omega)]
    first
      | omega
      | (rw [Int.fdiv_eq_ediv_of_nonneg _ (by omega)]; omega)
  · have h1 : (j - i + (k - 1)) / k ≤ 0 := by
      have : (j - i + (k - 1)) / k < 1 := Int.ediv_lt_of_lt_mul hk (by omega)
      omega
    simp [hk, hij]
    omega
theorem small_pos {i j k : Int} (h : smallR i j = true) (hk : 0 < k ∧ k < 1073741824) : Builtin.Range.small i j k = true := by
  have h' := of_decide_eq_true h
  have hsz := rng_size (i := i) (j := j) hk.1
  unfold Builtin.Range.small
  rw [hsz]
  have hn : ((rngN i j k : Nat) : Int) * k ≤ (if i < j then j - i + (k - 1) else 0) := by
    unfold rngN
    have h1 := Int.ediv_mul_le (j - i + (k - 1)) (show k ≠ 0 by omega)
    by_cases hij : i < j
    · rw [if_pos hij]
      have h2 : 0 ≤ (j - i + (k - 1)) / k := Int.ediv_nonneg (by omega) (by omega)
      rw [Int.toNat_of_nonneg h2]; exact h1
    · rw [if_neg hij]
      have : (j - i + (k - 1)) / k < 1 := Int.ediv_lt_of_lt_mul hk.1 (by omega)
      have h3 : ((j - i + (k - 1)) / k).toNat = 0 := by omega
      rw [h3]; simp
  have hn0 : 0 ≤ ((rngN i j k : Nat) : Int) * k := Int.mul_nonneg (by omega) (by omega)
  have hn1 : ((rngN i j k : Nat) : Int) ≤ ((rngN i j k : Nat) : Int) * k := by
    have := Int.mul_le_mul_of_nonneg_left (show (1 : Int) ≤ k by omega) (show (0 : Int) ≤ ((rngN i j k : Nat) : Int) by omega)
    omega
  have hN0 : (0 : Int) ≤ ((rngN i j k : Nat) : Int) := by omega
  generalize ((rngN i j k : Nat) : Int) = N at *
  generalize hM : N * k = M at *
  simp only [Builtin.Range.rangeFitsLong, Bool.and_eq_true, Bool.or_eq_true, decide_eq_true_eq, beq_iff_eq, show k > 0 by omega, if_true]
  have e1 : (N - 1) * k = M - k := by rw [Int.sub_mul, hM]; omega
  split at hn <;> (try rw [e1]) <;> (try (simp only [e1])) <;> omega
theorem sI_rng3 {p pos : Pos} (hg : Gl X "range") (hm : X.mg "range" = none) (h : PE X e (tE X.K T s)) (n : nst e = true) (h2 : PE X e2 (tE X.K T s2)) (n2 : nst e2 = true) (h3 : PE X e3 (tE X.K T s3)) (n3 : nst e3 = true) :
    PI X tg (.Call (.Name "range" p) [e, e2, e3] [] pos) (tI X.K T (.rng3 s s2 s3)) :=
  PI.imp (pi_range3 hg hm (sA_cons h (sA_cons h2 (sA_cons h3 sA_nil n3) n2) n) (star_cons n) (star_any (by simp [n2, n3]))) (fun σ H Rr ⟨O, ρ, vs, w, eo, hv, q⟩ => by
    simp only [evI] at hv
    obtain ⟨u, hu, hv⟩ := bok hv
    obtain ⟨u2, hu2, hv⟩ := bok hv
    obtain ⟨u3, hu3, hv⟩ := bok hv
    obtain ⟨i, hi, hv⟩ := bok hv
    obtain ⟨j, hj, hv⟩ := bok hv
    obtain ⟨k, hk, hv⟩ := bok hv
    obtain rfl := asInt_ok hj
    obtain rfl := asInt_ok hi
    obtain rfl := asInt_ok hk
    obtain ⟨hs, hv⟩ := iok hv
    subst hv
    rw [Bool.and_eq_true] at hs
    have hk := of_decide_eq_true hs.2
    refine ⟨O, ρ, [.int i, .int j, .int k], w, eo, by simp only [evs, hu, hu2, hu3]; rfl, fun xs H1 e1 r1 => ?_⟩
    simp only [Reps, Rep] at r1
    obtain ⟨x, r, rfl, rfl, y, r', rfl, rfl, z, r'', rfl, rfl, rfl⟩ := r1
    exact ⟨i, j, k, rngN i j k, rfl, ⟨by omega, by omega, small_pos hs.1 hk, rng_size hk.1⟩, q _ _ e1 (it_rngC i k _)⟩)
theorem sI_enum {p pos tpos : Pos} {elts : List Expr} {kk : Nat} (hg : Gl X "enumerate") (hm : X.mg "enumerate" = none) (h : PE X e (tE X.K T s)) (n : nst e = true) :
    PI X (.Tuple elts kk tpos) (.Call (.Name "enumerate" p) [e] [] pos) (tI X.K T (.enum s)) :=
  PI.imp (pi_enum hg hm (sA_cons h sA_nil n) (by rw [star_cons n]; rfl)) (fun σ H Rr ⟨O, ρ, vs, w, eo, hv, q⟩ => by
    simp only [evI] at hv
    obtain ⟨u, hu, hv⟩ := bok hv
    cases u <;> simp only [enmV] at hv <;> first | (cases hv; done) | skip
    cases hv
    refine ⟨O, ρ, [_], w, eo, by simp only [evs, hu]; rfl, fun xs H1 e1 r1 => ?_⟩
    simp only [Reps, Rep] at r1
    obtain ⟨x, r, rfl, ⟨a, ys, rfl, na, ha, rr⟩, rfl⟩ := r1
    exact ⟨a, ys, rfl, SqL.of ha, q _ _ e1 (it_enum (w.ext e1) na ha rr)⟩)
theorem sI_zip {p pos tpos : Pos} {elts : List Expr} {kk : Nat} (hg : Gl X "zip") (hm : X.mg "zip" = none) (h : PE X e (tE X.K T s)) (n : nst e = true) (h2 : PE X e2 (tE X.K T s2)) (n2 : nst e2 = true) :
    PI X (.Tuple elts kk tpos) (.Call (.Name "zip" p) [e, e2] [] pos) (tI X.K T (.zip s s2)) :=
  PI.imp (pi_zip hg hm (sA_cons h (sA_cons h2 sA_nil n2) n) (star_cons n) (star_any (by simp [n2]))) (fun σ H Rr ⟨O, ρ, vs, w, eo, hv, q⟩ => by
    simp only [evI] at hv
    obtain ⟨u, hu, hv⟩ := bok hv
    obtain ⟨u2, hu2, hv⟩ := bok hv
    cases u <;> simp only [zpV] at hv <;> first | (cases hv; done) | skip
    cases u2 <;> simp only at hv <;> first | (cases hv; done) | skip
    cases hv
    refine ⟨O, ρ, [_, _], w, eo, by simp only [evs, hu, hu2]; rfl, fun xs H1 e1 r1 => ?_⟩
    simp only [Reps, Rep] at r1
    obtain ⟨x, r, rfl, ⟨a, ys, rfl, na, ha, ra⟩, y, r', rfl, ⟨b, zs, rfl, nb, hb, rb⟩, rfl⟩ := r1
    exact ⟨a, b, ys, zs, rfl, SqL.of ha, SqL.of hb, q _ _ e1 (it_zip (w.ext e1) na ha ra nb hb rb)⟩)
end
end VM

set_option Elab.async false
set_option linter.all false
set_option maxRecDepth 100000
set_option maxHeartbeats 4000000
/-! H2: how the machine's heap lies in the abstract one. -/
namespace VM
open PySem PySem.Spec PyProof.Rows L2

/-- hidden from plain values: what the callers hide, and the machine's own things -/
def Oh (O : Hid) (φ : List Addr) : Hid := fun a => O a ∨ a ∈ φ
mutual
def RepH (K : PySem.W.Frag) (H : Hp) (O : Hid) (φ : List Addr) : HV → V → Prop
  | .p v, x => Rep K H (Oh O φ) v x
  | .r n, x => ∃ a, φ[n]? = some a ∧ x = .ref a
  | .t vs, x => ∃ a xs, x = .ref a ∧ SqT K H a xs ∧ RepHs K H O φ vs xs
def RepHs (K : PySem.W.Frag) (H : Hp) (O : Hid) (φ : List Addr) : List HV → List V → Prop
  | [], xs => xs = []
  | v :: vs, xs => ∃ x r, xs = x :: r ∧ RepH K H O φ v x ∧ RepHs K H O φ vs r
end
def ObH (K : PySem.W.Frag) (H : Hp) (O : Hid) (φ : List Addr) (a : Addr) : HOb → Prop
  | .lst vs => ∃ xs, H a = some (.lst xs) ∧ RepHs K H O φ vs xs
  | .dic false ks vs => ∃ (kvs : List (Key × V)), H a = some (.dK kvs) ∧ ks = kvs.map (fun p => ofKey p.1) ∧ (kvs.map (·.1)).Nodup ∧ RepHs K H O φ vs (kvs.map (·.2))
  | .dic true ks vs => ∃ (kvs : List (List Key × V)), H a = some (.dT kvs) ∧ ks = kvs.map (fun p => Val.tup (p.1.map ofKey)) ∧ (kvs.map (·.1)).Nodup ∧ RepHs K H O φ vs (kvs.map (·.2))
  | .ins _ _ => False
structure KeepH (H : Hp) (φ : List Addr) (H' : Hp) (φ' : List Addr) : Prop where
  k : Keep H (fun a => a ∈ φ) H' (fun a => a ∈ φ')
  pre : φ <+: φ'
structure RelH (K : PySem.W.Frag) (H : Hp) (O : Hid) (φ : List Addr) (h : HHp) : Prop where
  wf : WF H O
  len : φ.length = h.length
  nd : φ.Nodup
  out : ∀ a ∈ φ, ¬ O a
  obj : ∀ (n : Nat) (a : Addr) (o : HOb), φ[n]? = some a → h[n]? = some o → ObH K H O φ a o
structure EnvH (K : PySem.W.Frag) (H : Hp) (O : Hid) (φ : List Addr) (σ : L2.St) (ρ : HEnv) : Prop where
  len : ρ.length ≤ σ.length
  get : ∀ (i : Nat) (v : HV), ρ[i]? = some (some v) → ∃ x, σ[i]? = some (some x) ∧ RepH K H O φ v x

section
variable {K : PySem.W.Frag} {H H' H1 : Hp} {O : Hid} {φ φ' φ1 : List Addr} {h h' : HHp} {v : HV} {x : V} {vs ws : List HV} {xs ys : List V} {a p : Addr} {o : HOb} {σ : L2.St} {ρ : HEnv} {n : Nat}
theorem KeepH.refl : KeepH H φ H φ := ⟨Keep.refl, List.prefix_refl _⟩
theorem KeepH.trans (a : KeepH H φ H1 φ1) (b : KeepH H1 φ1 H' φ') : KeepH H φ H' φ' := ⟨a.k.trans b.k, a.pre.trans b.pre⟩
theorem KeepH.ext (e : Ext H H') : KeepH H φ H' φ := ⟨e.keep, List.prefix_refl _⟩
theorem KeepH.oh (k : KeepH H φ H' φ') : Keep H (Oh O φ) H' (Oh O φ') :=
  ⟨fun a o h n => k.k.vis a o h (fun z => n (.inr z)), fun a h => h.elim (fun z => .inl (.inl z)) (fun z => (k.k.new a z).imp .inr id)⟩
theorem pre_get (k : φ <+: φ') (h : φ[n]? = some a) : φ'[n]? = some a := by
  obtain ⟨t, rfl⟩ := k
  rw [List.getElem?_append_left (List.getElem?_eq_some_iff.mp h).1]; exact h
theorem ObH.mut (h : ObH K H O φ a o) : ∃ u, H a = some u ∧ MutO u := by
  cases o with
  | lst vs => obtain ⟨xs, h, _⟩ := h; exact ⟨_, h, True.intro⟩
  | dic t ks vs => cases t <;> obtain ⟨kvs, h, _⟩ := h <;> exact ⟨_, h, True.intro⟩
  | ins => exact h.elim
theorem RelH.ob (r : RelH K H O φ h) (h1 : φ[n]? = some a) : ∃ o, h[n]? = some o ∧ ObH K H O φ a o := by
  have hl : n < h.length := by rw [← r.len]; exact (List.getElem?_eq_some_iff.mp h1).1
  exact ⟨h[n], List.getElem?_eq_getElem hl, r.obj n a _ h1 (List.getElem?_eq_getElem hl)⟩
theorem RelH.wfo (r : RelH K H O φ h) : WF H (Oh O φ) := fun a ha => by
  rcases ha with ha | ha
  · exact r.wf a ha
  · obtain ⟨n, hn, rfl⟩ := List.mem_iff_getElem.mp ha
    obtain ⟨o, _, ho⟩ := r.ob (List.getElem?_eq_getElem hn)
    exact ho.mut
/-- as Keep, with what is hidden told by both -/
structure KeepO (H : Hp) (O : Hid) (φ : List Addr) (H' : Hp) (O' : Hid) (φ' : List Addr) : Prop where
  k : Keep H (Oh O φ) H' (Oh O' φ')
  pre : φ <+: φ'
theorem KeepH.toO (k : KeepH H φ H' φ') : KeepO H O φ H' O φ' := ⟨k.oh, k.pre⟩
theorem KeepO.trans {O1 O' : Hid} (a : KeepO H O φ H1 O1 φ1) (b : KeepO H1 O1 φ1 H' O' φ') : KeepO H O φ H' O' φ' := ⟨a.k.trans b.k, a.pre.trans b.pre⟩
mutual
theorem RepH.keepO {O' : Hid} (w : WF H (Oh O φ)) (k : KeepO H O φ H' O' φ') : ∀ {v : HV} {x : V}, RepH K H O φ v x → RepH K H' O' φ' v x
  | .p v, _, h => by
    simp only [RepH] at h ⊢
    exact Rep.keep w k.k h
  | .r n, _, h => by
    simp only [RepH] at h ⊢
    obtain ⟨a, h1, h2⟩ := h
    exact ⟨a, pre_get k.pre h1, h2⟩
  | .t vs, _, h => by
    simp only [RepH] at h ⊢
    obtain ⟨a, xs, e, s, r⟩ := h
    exact ⟨a, xs, e, sqT_keep w k.k s, RepHs.keepO w k r⟩
theorem RepHs.keepO {O' : Hid} (w : WF H (Oh O φ)) (k : KeepO H O φ H' O' φ') : ∀ {vs : List HV} {xs : List V}, RepHs K H O φ vs xs → RepHs K H' O' φ' vs xs
  | [], _, h => by simpa only [RepHs] using h
  | v :: vs, _, h => by
    simp only [RepHs] at h ⊢
    obtain ⟨x, r, e, p, q⟩ := h
    exact ⟨x, r, e, RepH.keepO w k p, RepHs.keepO w k q⟩
end
theorem RepH.keep (w : WF H (Oh O φ)) (k : KeepH H φ H' φ') (h : RepH K H O φ v x) : RepH K H' O φ' v x := RepH.keepO w k.toO h
theorem RepHs.keep (w : WF H (Oh O φ)) (k : KeepH H φ H' φ') (h : RepHs K H O φ vs xs) : RepHs K H' O φ' vs xs := RepHs.keepO w k.toO h
theorem RepHs.nil : RepHs K H O φ [] [] := by simp only [RepHs]
theorem RepHs.cons (p : RepH K H O φ v x) (q : RepHs K H O φ vs xs) : RepHs K H O φ (v :: vs) (x :: xs) := by
  simp only [RepHs]; exact ⟨x, xs, rfl, p, q⟩
theorem RepHs.length : ∀ {vs : List HV} {xs : List V}, RepHs K H O φ vs xs → xs.length = vs.length
  | [], _, h => by simp only [RepHs] at h; subst h; rfl
  | v :: vs, _, h => by
    simp only [RepHs] at h
    obtain ⟨x, r, rfl, _, q⟩ := h
    simp [RepHs.length q]
theorem RepHs.get : ∀ {vs : List HV} {xs : List V} {i : Nat} {v : HV}, RepHs K H O φ vs xs → vs[i]? = some v → ∃ x, xs[i]? = some x ∧ RepH K H O φ v x
  | [], _, _, _, _, e => by simp at e
  | v :: vs, _, 0, u, h, e => by
    simp only [RepHs] at h
    obtain ⟨x, r, rfl, p, _⟩ := h
    simp at e; subst e
    exact ⟨x, rfl, p⟩
  | v :: vs, _, i + 1, u, h, e => by
    simp only [RepHs] at h
    obtain ⟨x, r, rfl, _, q⟩ := h
    obtain ⟨y, e1, e2⟩ := RepHs.get q (by simpa using e)
    exact ⟨y, by simpa using e1, e2⟩
theorem RepHs.append : ∀ {vs ws : List HV} {xs ys : List V}, RepHs K H O φ vs xs → RepHs K H O φ ws ys → RepHs K H O φ (vs ++ ws) (xs ++ ys)
  | [], _, _, _, h, g => by simp only [RepHs] at h; subst h; exact g
  | v :: vs, ws, _, ys, h, g => by
    simp only [RepHs] at h
    obtain ⟨x, r, rfl, p, q⟩ := h
    exact RepHs.cons p (RepHs.append q g)
theorem RepHs.set : ∀ {vs : List HV} {xs : List V} (i : Nat), RepHs K H O φ vs xs → RepH K H O φ v x → RepHs K H O φ (vs.set i v) (xs.set i x)
  | [], _, _, h, _ => by simp only [RepHs] at h; subst h; exact RepHs.nil
  | u :: vs, _, 0, h, g => by
    simp only [RepHs] at h
    obtain ⟨y, r, rfl, p, q⟩ := h
    exact RepHs.cons g q
  | u :: vs, _, i + 1, h, g => by
    simp only [RepHs] at h
    obtain ⟨y, r, rfl, p, q⟩ := h
    exact RepHs.cons p (RepHs.set i q g)
theorem RepHs.take : ∀ {vs : List HV} {xs : List V} (i : Nat), RepHs K H O φ vs xs → RepHs K H O φ (vs.take i) (xs.take i)
  | _, _, 0, _ => by simp [RepHs]
  | [], _, i + 1, h => by simp only [RepHs] at h; subst h; exact RepHs.nil
  | u :: vs, _, i + 1, h => by
    simp only [RepHs] at h
    obtain ⟨y, r, rfl, p, q⟩ := h
    exact RepHs.cons p (RepHs.take i q)
theorem RepHs.drop : ∀ {vs : List HV} {xs : List V} (i : Nat), RepHs K H O φ vs xs → RepHs K H O φ (vs.drop i) (xs.drop i)
  | _, _, 0, h => h
  | [], _, i + 1, h => by simp only [RepHs] at h; subst h; exact RepHs.nil
  | u :: vs, _, i + 1, h => by
    simp only [RepHs] at h
    obtain ⟨y, r, rfl, p, q⟩ := h
    exact RepHs.drop i q
/-- plain values are values of the machine -/
theorem RepHs.ofP : ∀ {vs : List Val} {xs : List V}, Reps K H (Oh O φ) vs xs → RepHs K H O φ (vs.map HV.p) xs
  | [], _, h => by simp only [Reps] at h; subst h; exact RepHs.nil
  | v :: vs, _, h => by
    simp only [Reps] at h
    obtain ⟨x, r, rfl, p, q⟩ := h
    exact RepHs.cons (by simp only [RepH]; exact p) (RepHs.ofP q)
theorem ObH.keepO {O' : Hid} (w : WF H (Oh O φ)) (k : KeepO H O φ H' O' φ') (ha : ∀ u, H a = some u → H' a = some u) (b : ObH K H O φ a o) : ObH K H' O' φ' a o := by
  cases o with
  | lst vs => obtain ⟨xs, h, r⟩ := b; exact ⟨xs, ha _ h, RepHs.keepO w k r⟩
  | dic t ks vs => cases t <;> obtain ⟨kvs, h, e, nd, r⟩ := b <;> exact ⟨kvs, ha _ h, e, nd, RepHs.keepO w k r⟩
  | ins => exact b.elim
theorem ObH.keep (w : WF H (Oh O φ)) (k : KeepH H φ H' φ') (ha : ∀ u, H a = some u → H' a = some u) (b : ObH K H O φ a o) : ObH K H' O φ' a o := by
  cases o with
  | lst vs => obtain ⟨xs, h, r⟩ := b; exact ⟨xs, ha _ h, RepHs.keep w k r⟩
  | dic t ks vs => cases t <;> obtain ⟨kvs, h, e, nd, r⟩ := b <;> exact ⟨kvs, ha _ h, e, nd, RepHs.keep w k r⟩
  | ins => exact b.elim
theorem RelH.ext (r : RelH K H O φ h) (e : Ext H H') : RelH K H' O φ h :=
  ⟨r.wf.ext e, r.len, r.nd, r.out, fun n a o h1 h2 => (r.obj n a o h1 h2).keep r.wfo (.ext e) (fun u => e a u)⟩
theorem EnvH.keepO {O' : Hid} (g : EnvH K H O φ σ ρ) (w : WF H (Oh O φ)) (k : KeepO H O φ H' O' φ') : EnvH K H' O' φ' σ ρ :=
  ⟨g.len, fun i v e => let ⟨x, h1, h2⟩ := g.get i v e; ⟨x, h1, RepH.keepO w k h2⟩⟩
theorem EnvH.keep (g : EnvH K H O φ σ ρ) (w : WF H (Oh O φ)) (k : KeepH H φ H' φ') : EnvH K H' O φ' σ ρ :=
  ⟨g.len, fun i v e => let ⟨x, h1, h2⟩ := g.get i v e; ⟨x, h1, RepH.keep w k h2⟩⟩
theorem EnvH.set {i : Nat} (g : EnvH K H O φ σ ρ) (r : RepH K H O φ v x) : EnvH K H O φ (σ.set i (some x)) (ρ.set i (some v)) := by
  refine ⟨by simpa using g.len, fun j u e => ?_⟩
  by_cases hj : i = j
  · subst hj
    by_cases hl : i < ρ.length
    · rw [List.getElem?_set_self hl] at e
      cases e
      exact ⟨x, List.getElem?_set_self (Nat.lt_of_lt_of_le hl g.len), r⟩
    · rw [List.getElem?_eq_none (by simpa using hl)] at e; cases e
  · rw [List.getElem?_set_ne hj] at e
    obtain ⟨y, h1, h2⟩ := g.get j u e
    exact ⟨y, by rw [List.getElem?_set_ne hj]; exact h1, h2⟩
theorem EnvH.sets : ∀ {bs : List (Nat × HV)} {xs : List V} {σ : L2.St} {ρ : HEnv}, EnvH K H O φ σ ρ → RepHs K H O φ (bs.map (·.2)) xs → EnvH K H O φ (setsV σ (bs.map (·.1)) xs) (setsH ρ bs)
  | [], _, _, _, h, _ => h
  | (i, v) :: bs, _, σ, ρ, h, r => by
    simp only [List.map_cons, RepHs] at r
    obtain ⟨x, t, rfl, p, q⟩ := r
    show EnvH K H O φ (setsV (σ.set i (some x)) (bs.map (·.1)) t) (setsH (ρ.set i (some v)) bs)
    exact EnvH.sets (h.set p) q
/-- a new thing -/
theorem RelH.alloc (r : RelH K H O φ h) (np : H p = none) (e : Ext H H') (b : ObH K H' O (φ ++ [p]) p o) : RelH K H' O (φ ++ [p]) (h ++ [o]) ∧ KeepH H φ H' (φ ++ [p]) := by
  have np' : p ∉ φ := fun z => by
    obtain ⟨u, e1, _⟩ := r.wfo p (.inr z)
    rw [np] at e1; cases e1
  have k : KeepH H φ H' (φ ++ [p]) := ⟨⟨fun a u hu _ => e a u hu, fun a ha => by
    rw [List.mem_append, List.mem_singleton] at ha
    rcases ha with ha | rfl
    · exact .inl ha
    · exact .inr np⟩, List.prefix_append _ _⟩
  refine ⟨⟨r.wf.ext e, by simp [r.len], ?_, fun a ha => ?_, fun n a u h1 h2 => ?_⟩, k⟩
  · rw [List.nodup_append]
    refine ⟨r.nd, by simp, fun a ha b hb => ?_⟩
    rw [List.mem_singleton] at hb
    subst hb
    exact fun z => np' (z ▸ ha)
  · rw [List.mem_append, List.mem_singleton] at ha
    rcases ha with ha | rfl
    · exact r.out a ha
    · exact r.wf.new np
  · by_cases hn : n < φ.length
    · rw [List.getElem?_append_left hn] at h1
      rw [List.getElem?_append_left (by rw [← r.len]; exact hn)] at h2
      exact (r.obj n a u h1 h2).keep r.wfo k (fun z => e a z)
    · have hl := (List.getElem?_eq_some_iff.mp h1).1
      have hn2 : n = φ.length := by simp at hl; omega
      subst hn2
      rw [List.getElem?_append_right (Nat.le_refl _)] at h1
      rw [List.getElem?_append_right (by rw [r.len]; exact Nat.le_refl _)] at h2
      simp [r.len] at h1 h2
      subst h1 h2
      exact b
/-- a thing changed where it stands -/
theorem nd_inj {l : List Addr} (nd : l.Nodup) {i j : Nat} {a : Addr} (h1 : l[i]? = some a) (h2 : l[j]? = some a) : i = j := by
  exact (List.getElem?_inj (List.getElem?_eq_some_iff.mp h1).1 nd).mp (h1.trans h2.symm)
theorem KeepH.upd {u : HO} (ha : a ∈ φ) : KeepH H φ (upd H a u) φ :=
  ⟨⟨fun b w hb nb => by rw [upd_ne (show b ≠ a from fun z => nb (by rw [z]; exact ha))]; exact hb, fun b hb => .inl hb⟩, List.prefix_refl _⟩
theorem RelH.change {u : HO} {o' : HOb} (r : RelH K H O φ h) (hn : φ[n]? = some a) (ho : h[n]? = some o') (b : ObH K (upd H a u) O φ a o) :
    RelH K (upd H a u) O φ (h.set n o) ∧ KeepH H φ (upd H a u) φ := by
  have hl : n < h.length := (List.getElem?_eq_some_iff.mp ho).1
  have ha : a ∈ φ := List.mem_iff_getElem?.mpr ⟨n, hn⟩
  have k : KeepH H φ (upd H a u) φ := .upd ha
  refine ⟨⟨fun c hc => ?_, by simpa using r.len, r.nd, r.out, fun m c w h1 h2 => ?_⟩, k⟩
  · obtain ⟨w, e, m⟩ := r.wf c hc
    exact ⟨w, by rw [upd_ne (show c ≠ a from fun z => r.out a ha (z ▸ hc))]; exact e, m⟩
  · by_cases hm : n = m
    · subst hm
      rw [List.getElem?_set_self hl] at h2
      rw [hn] at h1
      cases h1; cases h2
      exact b
    · rw [List.getElem?_set_ne hm] at h2
      have hne : c ≠ a := fun z => hm (nd_inj r.nd hn (z ▸ h1))
      exact (r.obj m c w h1 h2).keep r.wfo k (fun z hz => by rw [upd_ne hne]; exact hz)
theorem KeepO.adopt : KeepO H (fun a => O a ∨ a = p) φ H O (φ ++ [p]) := ⟨⟨fun _ _ h _ => h, fun a ha => .inl (by
    rcases ha with ha | ha
    · exact .inl (.inl ha)
    · rw [List.mem_append, List.mem_singleton] at ha
      rcases ha with ha | ha
      · exact .inr ha
      · exact .inl (.inr ha))⟩, List.prefix_append _ _⟩
/-- a hidden thing is changed -/
theorem RelH.touch {u : HO} (r : RelH K H O φ h) (hp : O p) (m : MutO u) : RelH K (upd H p u) O φ h ∧ KeepO H O φ (upd H p u) O φ := by
  have k : KeepO H O φ (upd H p u) O φ := ⟨⟨fun a w h n => by rw [upd_ne (show a ≠ p from fun z => n (.inl (z ▸ hp)))]; exact h, fun a h => .inl h⟩, List.prefix_refl _⟩
  refine ⟨⟨fun a ha => ?_, r.len, r.nd, r.out, fun n a o h1 h2 => ?_⟩, k⟩
  · by_cases e : a = p
    · subst e; exact ⟨u, upd_same, m⟩
    · rw [upd_ne e]; exact r.wf a ha
  · have hne : a ≠ p := fun z => r.out a (List.mem_iff_getElem?.mpr ⟨n, h1⟩) (z ▸ hp)
    exact (r.obj n a o h1 h2).keepO r.wfo k (fun z hz => by rw [upd_ne hne]; exact hz)
/-- a thing that was hidden becomes one of the machine's -/
theorem RelH.adopt (r : RelH K H (fun a => O a ∨ a = p) φ h) (no : ¬ O p) (b : ObH K H O (φ ++ [p]) p o) : RelH K H O (φ ++ [p]) (h ++ [o]) := by
  have w : WF H O := fun a ha => r.wf a (.inl ha)
  have k : KeepO H (fun a => O a ∨ a = p) φ H O (φ ++ [p]) := ⟨⟨fun _ _ h _ => h, fun a ha => .inl (by
    rcases ha with ha | ha
    · exact .inl (.inl ha)
    · rw [List.mem_append, List.mem_singleton] at ha
      rcases ha with ha | ha
      · exact .inr ha
      · exact .inl (.inr ha))⟩, List.prefix_append _ _⟩
  have np : p ∉ φ := fun z => r.out p z (.inr rfl)
  refine ⟨w, by simp [r.len], ?_, fun a ha => ?_, fun n a u h1 h2 => ?_⟩
  · rw [List.nodup_append]
    refine ⟨r.nd, by simp, fun a ha b hb => ?_⟩
    rw [List.mem_singleton] at hb
    subst hb
    exact fun z => np (z ▸ ha)
  · rw [List.mem_append, List.mem_singleton] at ha
    rcases ha with ha | rfl
    · exact fun z => r.out a ha (.inl z)
    · exact no
  · by_cases hn : n < φ.length
    · rw [List.getElem?_append_left hn] at h1
      rw [List.getElem?_append_left (by rw [← r.len]; exact hn)] at h2
      exact (r.obj n a u h1 h2).keepO r.wfo k (fun z e => e)
    · have hl := (List.getElem?_eq_some_iff.mp h1).1
      have hn2 : n = φ.length := by simp at hl; omega
      subst hn2
      rw [List.getElem?_append_right (Nat.le_refl _)] at h1
      rw [List.getElem?_append_right (by rw [r.len]; exact Nat.le_refl _)] at h2
      simp [r.len] at h1 h2
      subst h1 h2
      exact b
/-- a thing is hidden from the machine -/
theorem RelH.hide {u : HO} (r : RelH K H O φ h) (np : H p = none) (m : MutO u) : RelH K (upd H p u) (fun a => O a ∨ a = p) φ h := by
  have e : Ext H (upd H p u) := Ext.upd np
  have np' : p ∉ φ := fun z => by
    obtain ⟨u, e1, _⟩ := r.wfo p (.inr z)
    rw [np] at e1; cases e1
  have k : KeepO H O φ (upd H p u) (fun a => O a ∨ a = p) φ := ⟨⟨fun a o h _ => e a o h, fun a ha => by
    rcases ha with (ha | rfl) | ha
    · exact .inl (.inl ha)
    · exact .inr np
    · exact .inl (.inr ha)⟩, List.prefix_refl _⟩
  refine ⟨fun a ha => ?_, r.len, r.nd, fun a ha z => ?_, fun n a o h1 h2 => (r.obj n a o h1 h2).keepO r.wfo k (fun z => e a z)⟩
  · rcases ha with ha | rfl
    · exact r.wf.ext e a ha
    · exact ⟨u, upd_same, m⟩
  · rcases z with z | rfl
    · exact r.out a ha z
    · exact np' ha
/-! ### reading -/
theorem omap_reps {f : HV → Option Val} {O' : Hid} (hf : ∀ v x u, RepH K H O φ v x → f v = some u → Rep K H O' u x) : ∀ {vs : List HV} {xs : List V} {us : List Val}, RepHs K H O φ vs xs → omap f vs = some us → Reps K H O' us xs
  | [], _, us, h, e => by
    simp only [RepHs] at h; simp only [omap] at e; cases e; subst h; exact Reps.nil
  | v :: vs, _, us, h, e => by
    simp only [RepHs] at h
    obtain ⟨x, r, rfl, p, q⟩ := h
    simp only [omap] at e
    split at e
    · rename_i u hu
      split at e
      · rename_i us' hus
        cases e
        exact Reps.cons (hf v x u p hu) (omap_reps hf q hus)
      · cases e
    · cases e
theorem RelH.deref (r : RelH K H O φ h) : ∀ (k : Nat) (v : HV) (x : V) (u : Val), RepH K H O φ v x → VM.deref h k v = some u → Rep K H O u x
  | 0, _, _, _, _, e => by simp [VM.deref] at e
  | k + 1, .p v, x, u, p, e => by
    simp only [VM.deref] at e; cases e
    simp only [RepH] at p
    exact Rep.keep r.wfo ⟨fun _ _ h _ => h, fun _ h => .inl (.inl h)⟩ p
  | k + 1, .r n, x, u, p, e => by
    simp only [RepH] at p
    obtain ⟨a, h1, rfl⟩ := p
    have no : ¬ O a := r.out a (List.mem_iff_getElem?.mpr ⟨n, h1⟩)
    simp only [VM.deref] at e
    split at e
    · rename_i vs hv
      obtain ⟨xs, hx, rx⟩ := r.obj n a _ h1 hv
      cases hm : omap (VM.deref h k) vs with
      | none => rw [hm] at e; cases e
      | some us =>
        rw [hm] at e; cases e
        simp only [Rep]
        exact ⟨a, xs, rfl, no, hx, omap_reps (fun v x u => r.deref k v x u) rx hm⟩
    · rename_i t ks vs hv
      cases hm : omap (VM.deref h k) vs with
      | none => rw [hm] at e; cases e
      | some us =>
        rw [hm] at e; cases e
        cases t <;> obtain ⟨kvs, hx, ek, nd, rx⟩ := r.obj n a _ h1 hv <;> simp only [Rep] <;> exact ⟨a, kvs, rfl, no, hx, ek, nd, omap_reps (fun v x u => r.deref k v x u) rx hm⟩
    · cases e
  | k + 1, .t vs, x, u, p, e => by
    simp only [RepH] at p
    obtain ⟨a, xs, rfl, s, rx⟩ := p
    simp only [VM.deref] at e
    cases hm : omap (VM.deref h k) vs with
    | none => rw [hm] at e; cases e
    | some us =>
      rw [hm] at e; cases e
      simp only [Rep]
      exact ⟨a, xs, rfl, s, omap_reps (fun v x u => r.deref k v x u) rx hm⟩
theorem seeG_get {m : List Nat} : ∀ {ρ : HEnv} {k i : Nat}, (seeG m h k ρ)[i]? = (ρ[i]?).map fun o => if m.contains (k + i) then o.bind (VM.deref h 60) else none
  | [], k, i => by simp [seeG]
  | o :: r, k, 0 => by simp [seeG]
  | o :: r, k, i + 1 => by
    simp only [seeG, List.getElem?_cons_succ]
    rw [seeG_get, show k + 1 + i = k + (i + 1) by omega]
theorem seeG_len {m : List Nat} : ∀ {ρ : HEnv} {k : Nat}, (seeG m h k ρ).length = ρ.length
  | [], _ => rfl
  | _ :: r, k => by simp only [seeG, List.length_cons, seeG_len]
theorem EnvH.see (g : EnvH K H O φ σ ρ) (r : RelH K H O φ h) (m : List Nat) : EOk K H O σ (seeH m h ρ) := by
  refine ⟨by rw [seeG_len]; exact g.len, fun i v e => ?_⟩
  rw [seeG_get, Nat.zero_add] at e
  cases hs : ρ[i]? with
  | none => rw [hs] at e; cases e
  | some o =>
    rw [hs] at e
    simp only [Option.map_some, Option.some.injEq] at e
    split at e
    · cases o with
      | none => cases e
      | some u =>
        obtain ⟨x, h1, h2⟩ := g.get i u hs
        exact ⟨x, h1, r.deref 60 u x v h2 e⟩
    · cases e
theorem EnvH.seeP (g : EnvH K H O φ σ ρ) {m : List Nat} (hp : onlyP m ρ = true) : EOk K H (Oh O φ) σ (seeH m h ρ) := by
  refine ⟨by rw [seeG_len]; exact g.len, fun i v e => ?_⟩
  rw [seeG_get, Nat.zero_add] at e
  cases hs : ρ[i]? with
  | none => rw [hs] at e; cases e
  | some o =>
    rw [hs] at e
    simp only [Option.map_some, Option.some.injEq] at e
    split at e
    · rename_i hm
      have := List.all_eq_true.mp hp i (by simpa using hm)
      rw [hs] at this
      cases o with
      | none => cases e
      | some u =>
        cases u with
        | p w =>
          obtain ⟨x, h1, h2⟩ := g.get i _ hs
          simp only [RepH] at h2
          have e' : some w = some v := e
          cases e'
          exact ⟨x, h1, h2⟩
        | r n => cases this
        | t xs => cases this
    · cases e
end
/-- a plain expression, seen from the machine -/
theorem see_pu {K : PySem.W.Frag} {T : Tab} {H : Hp} {O : Hid} {φ : List Addr} {h : HHp} {σ : L2.St} {ρ : HEnv} {m : List Nat} {s : SE} {v : Val} {Q : VK} (r : RelH K H O φ h) (g : EnvH K H O φ σ ρ) (e : ev T s (seeH m h ρ) = .ok v)
    (hf : (flat v || onlyP m ρ) = true) (q : ∀ x H1, Ext H H1 → RelH K H1 O φ h → RepH K H1 O φ (.p v) x → Q x H1) : tE K T s σ H Q := by
  by_cases hp : onlyP m ρ = true
  · refine ⟨Oh O φ, _, v, r.wfo, g.seeP hp, e, fun x H1 e1 rx => q x H1 e1 (r.ext e1) ?_⟩
    simp only [RepH]; exact rx
  · have hfl : flat v = true := by
      rw [Bool.or_eq_true] at hf
      exact hf.resolve_right hp
    refine ⟨O, _, v, r.wf, g.see r m, e, fun x H1 e1 rx => q x H1 e1 (r.ext e1) ?_⟩
    simp only [RepH]; exact Rep.flat hfl rx
/-- a test -/
theorem see_t {K : PySem.W.Frag} {T : Tab} {H : Hp} {O : Hid} {φ : List Addr} {h : HHp} {σ : L2.St} {ρ : HEnv} {m : List Nat} {s : SE} {b : Bool} {Q : Bool → Hp → Prop} (r : RelH K H O φ h) (g : EnvH K H O φ σ ρ) (e : ev T s (seeH m h ρ) = .ok (.bl b))
    (q : ∀ H1, Ext H H1 → RelH K H1 O φ h → Q b H1) : tT K T s σ H Q :=
  ⟨O, _, b, r.wf, g.see r m, e, fun H1 e1 => q H1 e1 (r.ext e1)⟩
end VM

set_option Elab.async false
set_option linter.all false
set_option maxRecDepth 100000
set_option maxHeartbeats 4000000
/-! W5: built-in functions, subscripts, slices, membership by values. -/
namespace VM
open PySem PySem.Spec PyProof.Rows L2

section
variable {X : Cx}
/-! ### in, is -/
theorem valV_rep {K : PySem.W.Frag} {H : Hp} {O : Hid} {κ : Type} [DecidableEq κ] (f : κ → Val) (k : κ) (hf : ∀ a, veq (f a) (f k) = decide (a = k)) : ∀ {kvs : List (κ × V)} {vs : List Val}, Reps K H O vs (kvs.map (·.2)) →
    (match lookD (kvs.map (fun p => f p.1)) vs (f k) with
      | some v => ∃ x, valV kvs k = some x ∧ Rep K H O v x
      | none => valV kvs k = none)
  | [], vs, h => by
    cases vs with
    | nil => rfl
    | cons v vs => simp only [List.map_nil, Reps] at h; obtain ⟨_, _, e, _⟩ := h; cases e
  | p :: kvs, [], h => by simp only [List.map_cons, Reps] at h; cases h
  | p :: kvs, v :: vs, h => by
    simp only [List.map_cons, Reps] at h
    obtain ⟨x, r, e, rv, q⟩ := h
    cases e
    have ih := valV_rep f k hf q
    simp only [List.map_cons, lookD]
    rw [hf p.1]
    by_cases e : p.1 = k
    · simp only [decide_eq_true e, if_true]
      exact ⟨p.2, valV_pos e, rv⟩
    · simp only [decide_eq_false e, Bool.false_eq_true, if_false]
      rw [valV_neg e]
      exact ih
theorem veq_key (a k : Key) : veq (ofKey a) (ofKey k) = decide (a = k) := by
  cases a <;> cases k <;> simp [ofKey, veq, py, PyData.eqv, Bool.beq_eq_decide_eq]
theorem keyOk_F {v : Val} (h : keyOk false v = true) : ∃ k : Key, v = ofKey k := by
  cases v <;> simp [keyOk] at h
  · exact ⟨.inl _, rfl⟩
  · exact ⟨.inr _, rfl⟩
theorem rep_key {K : PySem.W.Frag} {H : Hp} {O : Hid} {k : Key} {x : V} (r : Rep K H O (ofKey k) x) : x = kV k := by
  cases k <;> simp only [ofKey, Rep] at r <;> exact r
theorem dk_get {K : PySem.W.Frag} {H : Hp} {O : Hid} {ks vs : List Val} {x : V} {k : Key} (r : Rep K H O (.dic false ks vs) x) :
    ∃ a o, x = .ref a ∧ DGet H a (kV k) o ∧ (match lookD ks vs (ofKey k) with
      | some v => ∃ y, o = some y ∧ Rep K H O v y
      | none => o = none) := by
  simp only [Rep] at r
  obtain ⟨a, kvs, rfl, n, ha, rfl, nd, rr⟩ := r
  exact ⟨a, valV kvs k, rfl, DGet.k ha, valV_rep ofKey k (fun a => veq_key a k) rr⟩
theorem sin_core (hu : X.A.units + 65 < cLine) (neg : Bool) : OpR X (compareOp (if neg then .NotIn else .In)) (fun x y H Q => ∃ O a b r, WF H O ∧ Rep X.K H O a x ∧ Rep X.K H O b y ∧ inVal a b = .ok r ∧ Q (.bl (if neg then !r else r)) H) := by
  intro pins s σ H x y v u Q I rx ry ⟨O, a, b, r, w, ra, rb, e, q⟩
  cases b with
  | lst vs =>
    simp only [inVal] at e
    obtain ⟨hm, e⟩ := iok e
    subst e
    rw [Bool.and_eq_true] at hm
    have d2 := rb.dp 60 hm.2
    have da := ra.dp 60 hm.1
    simp only [py] at d2
    have ea : ((pys vs).any fun z => PyData.eqv z (py a)) = vs.any fun y => veq y a := by
      have : ∀ l : List Val, ((pys l).any fun z => PyData.eqv z (py a)) = l.any fun y => veq y a := fun l => by
        induction l with
        | nil => rfl
        | cons z l ih => simp only [pys, List.any_cons, ih, veq]
      exact this vs
    have s2 : SeqAt.shaped (.list (pys vs)) = true := okD_shaped hm.2
    cases neg with
    | false =>
      refine op_inD hu pins s σ H x y v u Q I rx ry ⟨_, _, da, d2, okD_shaped hm.1, s2, ?_⟩
      rw [ea]; exact q
    | true =>
      refine op_notInD hu pins s σ H x y v u Q I rx ry ⟨_, _, da, d2, okD_shaped hm.1, s2, ?_⟩
      rw [ea]; exact q
  | tup vs =>
    simp only [inVal] at e
    obtain ⟨hm, e⟩ := iok e
    subst e
    rw [Bool.and_eq_true] at hm
    simp only [Rep] at rb
    obtain ⟨p, xs, rfl, sq, rr⟩ := rb
    obtain ⟨h1, h2⟩ := scal_any hm.1 ra hm.2 rr
    rw [← h2] at q
    cases neg with
    | false => exact op_in_seq pins s σ H x _ v u Q I rx ry ⟨p, xs, rfl, .inr sq, scal_V hm.1 ra, h1, q⟩
    | true => exact op_notIn_seq pins s σ H x _ v u Q I rx ry ⟨p, xs, rfl, .inr sq, scal_V hm.1 ra, h1, q⟩
  | dic t ks vs =>
    simp only [inVal] at e
    obtain ⟨hm, e⟩ := iok e
    subst e
    cases t with
    | true => cases a <;> simp [keyOk] at hm
    | false =>
      obtain ⟨k, rfl⟩ := keyOk_F hm
      have ex := rep_key ra
      subst ex
      obtain ⟨p, o, rfl, g, hl⟩ := dk_get (k := k) rb
      have es : o.isSome = (lookD ks vs (ofKey k)).isSome := by
        split at hl
        · rename_i h; obtain ⟨y, rfl, _⟩ := hl; rw [h]; rfl
        · rename_i h; subst hl; rw [h]; rfl
      rw [← es] at q
      cases (show u = Value.ref p from ry)
      cases neg with
      | false => exact d_in (by omega) I g rx fun s3 I3 => ⟨.bl o.isSome, H, I3, rfl, q⟩
      | true => exact d_notIn (by omega) I g rx fun s3 I3 => ⟨.bl (!o.isSome), H, I3, rfl, q⟩
  | _ => simp only [inVal] at e; cases e
theorem sop_in (hu : X.A.units + 65 < cLine) : OpR X (compareOp .In) (rV X.K (op2 .inn)) := by
  intro pins s σ H x y v u Q I rx ry ⟨O, a, b, r, w, ra, rb, e, q⟩
  simp only [op2] at e
  obtain ⟨k, h1, e⟩ := bok e
  cases e
  exact sin_core hu false pins s σ H x y v u Q I rx ry ⟨O, a, b, k, w, ra, rb, h1, q.at (by simp only [Rep]; rfl)⟩
theorem sop_nin (hu : X.A.units + 65 < cLine) : OpR X (compareOp .NotIn) (rV X.K (op2 .nin)) := by
  intro pins s σ H x y v u Q I rx ry ⟨O, a, b, r, w, ra, rb, e, q⟩
  simp only [op2] at e
  obtain ⟨k, h1, e⟩ := bok e
  cases e
  exact sin_core hu true pins s σ H x y v u Q I rx ry ⟨O, a, b, k, w, ra, rb, h1, q.at (by simp only [Rep]; rfl)⟩

/-! ### subscripts -/
theorem atI_rep {K : PySem.W.Frag} {H : Hp} {O : Hid} {vs : List Val} {xs : List V} {i : Int} {v : Val} (r : Reps K H O vs xs) (h : atI vs i = some v) : ∃ x, atI xs i = some x ∧ Rep K H O v x := by
  unfold atI at h ⊢
  rw [r.length]
  cases e : ixN vs.length i with
  | none => rw [e] at h; cases h
  | some j =>
    rw [e] at h
    obtain ⟨x, h1, h2⟩ := r.get (show vs[j]? = some v from h)
    exact ⟨x, h1, h2⟩
theorem ofO_ok {α : Type} {o : Option α} {r : α} (h : ofO o = .ok r) : o = some r := by
  cases o with
  | none => cases h
  | some v => cases h; rfl
theorem six (hu : X.A.units + 65 < cLine) : IxR X (rV X.K ixV) := by
  intro value slice pins s σ H x y v u Q I rx ry ⟨O, a, b, r, w, ra, rb, e, q⟩ hs
  cases a with
  | lst vs =>
    cases b <;> simp only [ixV] at e <;> first | (cases e; done) | skip
    have h1 := ofO_ok e
    simp only [Rep] at ra rb
    obtain ⟨p, xs, rfl, _, sq, rr⟩ := ra
    obtain ⟨t, h2, h3⟩ := atI_rep rr h1
    exact ix_list value slice pins s σ H _ y v u Q I rx ry ⟨p, xs, _, t, rfl, rb, SqL.of sq, h2, q.at h3⟩ hs
  | tup vs =>
    cases b <;> simp only [ixV] at e <;> first | (cases e; done) | skip
    have h1 := ofO_ok e
    simp only [Rep] at ra rb
    obtain ⟨p, xs, rfl, sq, rr⟩ := ra
    obtain ⟨t, h2, h3⟩ := atI_rep rr h1
    exact ix_tup value slice pins s σ H _ y v u Q I rx ry ⟨p, xs, _, t, rfl, rb, sq, h2, q.at h3⟩ hs
  | scr ns =>
    cases b <;> simp only [ixV] at e <;> first | (cases e; done) | skip
    obtain ⟨z, h1, e⟩ := bok e
    have h1 := ofO_ok h1
    cases e
    obtain ⟨p, rfl, sq⟩ := ra.scr_sq
    simp only [Rep] at rb
    refine ix_list value slice pins s σ H _ y v u Q I rx ry ⟨p, _, _, .int z, rfl, rb, sq, ?_, q.at (by simp only [Rep])⟩ hs
    unfold atI at h1 ⊢
    rw [List.length_map]
    cases e2 : ixN ns.length _ with
    | none => rw [e2] at h1; cases h1
    | some j =>
      rw [e2] at h1
      show (ns.map V.int)[j]? = _
      rw [List.getElem?_map, show ns[j]? = some z from h1]; rfl
  | dic t ks vs =>
    have e' : keyOk t b = true ∧ ∃ z, lookD ks vs b = some z ∧ z = r := by
      cases b <;> simp only [ixV] at e <;> (split at e) <;> first | (cases e; done) | exact ⟨by assumption, r, ofO_ok e, rfl⟩
    obtain ⟨hm, z, hz, rfl⟩ := e'
    cases t with
    | true => cases b <;> simp [keyOk] at hm
    | false =>
      obtain ⟨k, rfl⟩ := keyOk_F hm
      have ex := rep_key rb
      subst ex
      obtain ⟨p, o, rfl, g, hl⟩ := dk_get (k := k) ra
      rw [hz] at hl
      obtain ⟨t, rfl, rt⟩ := hl
      cases (show v = Value.ref p from rx)
      have hT := dict_typeIs I g
      unfold subscriptTail
      refine wpAny_bind ?_
      rw [getitemInPython_of_ne hT.not_modules]
      refine wpAny_bind (wpAny_specialOf hT PySem.F.slot_dict_getitem.lookup ?_)
      have fin : wpAny (model X.prog X.w) X.A (subscripted slice false (.ref p) u) (fun r s₃ => wpAny (model X.prog X.w) X.A (letTemporaryGo value (.ref p) r >>= fun _ => pure r) (EP X pins σ Q) X.xe s₃) X.xe s := by
        rw [hs]
        exact wpAny_operating (d_getItem (by omega) I g ry fun w' s3 I3 rw' => wpAny_bind (wpAny_letTemporaryGo (wpAny_pure ⟨t, H, I3, rw', q.at rt⟩)))
      first
        | exact wpAny_pure (wpAny_bind fin)
        | exact wpAny_bind (wpAny_pure (wpAny_bind fin))
        | exact wpAny_bind fin
  | _ => cases b <;> simp only [ixV] at e <;> cases e
theorem cutL_rep {K : PySem.W.Frag} {H : Hp} {O : Hid} {vs : List Val} {xs : List V} {lo hi : Option Int} (r : Reps K H O vs xs) : Reps K H O (cutL vs lo hi) (cutV xs lo hi) := by
  unfold cutL cutV
  rw [r.length]
  exact (r.drop _).take _
theorem ssl : SlR X (fun x lo hi H Q => ∃ O a r, WF H O ∧ Rep X.K H O a x ∧ slV a lo hi = .ok r ∧ Post X.K H O r Q) := by
  have key : ∀ x lo hi H Q, (∃ O a r, WF H O ∧ Rep X.K H O a x ∧ slV a lo hi = .ok r ∧ Post X.K H O r Q) → rSlL X.K x lo hi H Q := by
    intro x lo hi H Q ⟨O, a, r, w, ra, e, q⟩
    cases a with
    | lst vs =>
      simp only [slV] at e; cases e
      simp only [Rep] at ra
      obtain ⟨p, xs, rfl, n, hp, rr⟩ := ra
      exact ⟨p, xs, rfl, SqL.of hp, fun l nl => q _ _ (Ext.upd nl) (Rep.lst_new w nl (cutL_rep rr))⟩
    | scr ns =>
      simp only [slV] at e; cases e
      obtain ⟨p, rfl, sq⟩ := ra.scr_sq
      exact ⟨p, _, rfl, sq, fun l nl => q _ _ (Ext.upd nl) (Rep.lst_new w nl (cutL_rep (Reps.ints ns)))⟩
    | _ => simp only [slV] at e; cases e
  have h0 := sl_list (X := X)
  unfold SlR at h0 ⊢
  intros
  apply h0 <;> first | assumption | (apply key; assumption)
/-! ### calls of built-ins -/
theorem asInts_ok : ∀ {vs : List Val} {ns : List Int}, asInts vs = .ok ns → vs = ns.map Val.int
  | [], ns, h => by simp only [asInts] at h; cases h; rfl
  | v :: vs, ns, h => by
    cases v <;> simp only [asInts] at h <;> first | (cases h; done) | skip
    obtain ⟨s, h1, h⟩ := bok h
    cases h
    rw [asInts_ok h1]; rfl
theorem asBls_ok : ∀ {vs : List Val} {ns : List Bool}, asBls vs = .ok ns → vs = ns.map Val.bl
  | [], ns, h => by simp only [asBls] at h; cases h; rfl
  | v :: vs, ns, h => by
    cases v <;> simp only [asBls] at h <;> first | (cases h; done) | skip
    obtain ⟨s, h1, h⟩ := bok h
    cases h
    rw [asBls_ok h1]; rfl
theorem rep_ints {K : PySem.W.Frag} {H : Hp} {O : Hid} {ns : List Int} {x : V} (h : Rep K H O (.lst (ns.map Val.int)) x) : ∃ a, x = .ref a ∧ SqL K H a (ns.map V.int) := by
  simp only [Rep] at h
  obtain ⟨a, xs, rfl, _, sq, r⟩ := h
  rw [Reps.of_ints r] at sq
  exact ⟨a, rfl, SqL.of sq⟩
theorem rep_bls {K : PySem.W.Frag} {H : Hp} {O : Hid} {ns : List Bool} {x : V} (h : Rep K H O (.lst (ns.map Val.bl)) x) : ∃ a, x = .ref a ∧ SqL K H a (ns.map V.bl) := by
  simp only [Rep] at h
  obtain ⟨a, xs, rfl, _, sq, r⟩ := h
  rw [Reps.of_bls r] at sq
  exact ⟨a, rfl, SqL.of sq⟩
theorem reps1 {K : PySem.W.Frag} {H : Hp} {O : Hid} {v : Val} {xs : List V} (h : Reps K H O [v] xs) : ∃ x, xs = [x] ∧ Rep K H O v x := by
  simp only [Reps] at h
  obtain ⟨x, r, rfl, p, rfl⟩ := h
  exact ⟨x, rfl, p⟩
theorem reps2 {K : PySem.W.Frag} {H : Hp} {O : Hid} {v v' : Val} {xs : List V} (h : Reps K H O [v, v'] xs) : ∃ x x', xs = [x, x'] ∧ Rep K H O v x ∧ Rep K H O v' x' := by
  simp only [Reps] at h
  obtain ⟨x, r, rfl, p, y, r', rfl, p', rfl⟩ := h
  exact ⟨x, y, rfl, p, p'⟩
theorem insI_perm (x : Int) : ∀ l : List Int, (insI x l).Perm (x :: l)
  | [] => List.Perm.refl _
  | y :: r => by
    unfold insI
    split
    · exact List.Perm.refl _
    · exact ((insI_perm x r).cons y).trans (List.Perm.swap x y r)
theorem sortI_perm : ∀ l : List Int, (sortI l).Perm l
  | [] => List.Perm.refl _
  | x :: r => (insI_perm x _).trans ((sortI_perm r).cons x)
theorem insI_sorted (x : Int) : ∀ {l : List Int}, l.Pairwise (· ≤ ·) → (insI x l).Pairwise (· ≤ ·)
  | [], _ => by simp [insI]
  | y :: r, h => by
    unfold insI
    rw [List.pairwise_cons] at h
    split
    · rename_i hxy
      refine List.pairwise_cons.mpr ⟨fun z hz => ?_, List.pairwise_cons.mpr h⟩
      rcases List.mem_cons.mp hz with rfl | hz
      · exact hxy
      · exact Int.le_trans hxy (h.1 z hz)
    · rename_i hxy
      refine List.pairwise_cons.mpr ⟨fun z hz => ?_, insI_sorted x h.2⟩
      rcases List.mem_cons.mp ((insI_perm x r).mem_iff.mp hz) with rfl | hz
      · omega
      · exact h.1 z hz
theorem sortI_sorted : ∀ l : List Int, (sortI l).Pairwise (· ≤ ·)
  | [] => List.Pairwise.nil
  | x :: r => insI_sorted x (sortI_sorted r)
theorem foldmax (r : List Int) : ∀ x : Int, (r.foldl (fun a b => if a < b then b else a) x ∈ x :: r) ∧ ∀ y ∈ x :: r, y ≤ r.foldl (fun a b => if a < b then b else a) x := by
  induction r with
  | nil => intro x; simp
  | cons z r ih =>
    intro x
    simp only [List.foldl_cons]
    by_cases c : x < z
    all_goals (simp only [c, if_true, if_false])
    · obtain ⟨h1, h2⟩ := ih z
      refine ⟨List.mem_cons_of_mem _ h1, fun y hy => ?_⟩
      have hx := h2 z (List.mem_cons_self ..)
      rcases List.mem_cons.mp hy with e | hy
      · subst e; omega
      · exact h2 y hy
    · obtain ⟨h1, h2⟩ := ih x
      refine ⟨?_, fun y hy => ?_⟩
      · rcases List.mem_cons.mp h1 with e | e
        · rw [e]; exact List.mem_cons_self ..
        · exact List.mem_cons_of_mem _ (List.mem_cons_of_mem _ e)
      have hx := h2 x (List.mem_cons_self ..)
      rcases List.mem_cons.mp hy with e | hy
      · subst e; omega
      · rcases List.mem_cons.mp hy with e | hy
        · subst e; omega
        · exact h2 y (List.mem_cons_of_mem _ hy)
theorem foldmin (r : List Int) : ∀ x : Int, (r.foldl (fun a b => if b < a then b else a) x ∈ x :: r) ∧ ∀ y ∈ x :: r, r.foldl (fun a b => if b < a then b else a) x ≤ y := by
  induction r with
  | nil => intro x; simp
  | cons z r ih =>
    intro x
    simp only [List.foldl_cons]
    by_cases c : z < x
    all_goals (simp only [c, if_true, if_false])
    · obtain ⟨h1, h2⟩ := ih z
      refine ⟨List.mem_cons_of_mem _ h1, fun y hy => ?_⟩
      have hx := h2 z (List.mem_cons_self ..)
      rcases List.mem_cons.mp hy with e | hy
      · subst e; omega
      · exact h2 y hy
    · obtain ⟨h1, h2⟩ := ih x
      refine ⟨?_, fun y hy => ?_⟩
      · rcases List.mem_cons.mp h1 with e | e
        · rw [e]; exact List.mem_cons_self ..
        · exact List.mem_cons_of_mem _ (List.mem_cons_of_mem _ e)
      have hx := h2 x (List.mem_cons_self ..)
      rcases List.mem_cons.mp hy with e | hy
      · subst e; omega
      · rcases List.mem_cons.mp hy with e | hy
        · subst e; omega
        · exact h2 y (List.mem_cons_of_mem _ hy)
theorem cb_len : CallR X (.builtin "len") (rVs X.K (bi1 .len)) := by
  intro pins s σ H xs us Q I rx ⟨O, as, r, w, ra, e, q⟩
  unfold bi1 at e
  split at e <;> first | (cases e; done) | skip
  all_goals (try (rename_i hh; cases hh))
  all_goals (try (cases e; obtain ⟨x, rfl, p⟩ := reps1 ra))
  · simp only [Rep] at p
    obtain ⟨a, ys, rfl, _, sq, rr⟩ := p
    exact call_len_seq pins s σ H _ us Q I rx ⟨a, ys, rfl, .inl (SqL.of sq), q.at (by simp only [Rep]; rw [rr.length])⟩
  · obtain ⟨a, rfl, sq⟩ := p.scr_sq
    exact call_len_seq pins s σ H _ us Q I rx ⟨a, _, rfl, .inl sq, q.at (by simp only [Rep, List.length_map])⟩
  · simp only [Rep] at p
    obtain ⟨a, ys, rfl, sq, rr⟩ := p
    exact call_len_seq pins s σ H _ us Q I rx ⟨a, ys, rfl, .inr sq, q.at (by simp only [Rep]; rw [rr.length])⟩
  · simp only [Rep] at p
    obtain ⟨a, kvs, rfl, n, ha, rfl, nd, rr⟩ := p
    obtain ⟨u, rfl, ru⟩ := vals1 rx
    cases (show u = Value.ref a from ru)
    exact d_len I (.inl ha) fun t s' I' => ⟨.int kvs.length, H, I', ⟨t, rfl⟩, q.at (by simp only [Rep, List.length_map])⟩
theorem cb_abs : CallR X (.builtin "abs") (rVs X.K (bi1 .abs)) := by
  intro pins s σ H xs us Q I rx ⟨O, as, r, w, ra, e, q⟩
  unfold bi1 at e
  split at e <;> first | (cases e; done) | skip
  all_goals (try (rename_i hh; cases hh))
  cases e
  obtain ⟨x, rfl, p⟩ := reps1 ra
  simp only [Rep] at p
  exact call_abs pins s σ H _ us Q I rx ⟨_, by rw [p], q.at (by simp only [Rep])⟩
theorem cb_sum (hc : X.calm = true) : CallR X (.builtin "sum") (rVs X.K (bi1 .sum)) := by
  intro pins s σ H xs us Q I rx ⟨O, as, r, w, ra, e, q⟩
  unfold bi1 at e
  split at e <;> first | (cases e; done) | skip
  all_goals (try (rename_i hh; cases hh))
  obtain ⟨ns, h1, e⟩ := bok e
  cases e
  obtain rfl := asInts_ok h1
  obtain ⟨x, rfl, p⟩ := reps1 ra
  obtain ⟨a, rfl, sq⟩ := rep_ints p
  exact cr_sum hc pins s σ H _ us Q I rx ⟨a, ns, rfl, sq, q.at (by simp only [Rep])⟩
theorem cb_all (hc : X.calm = true) : CallR X (.builtin "all") (rVs X.K (bi1 .all)) := by
  intro pins s σ H xs us Q I rx ⟨O, as, r, w, ra, e, q⟩
  unfold bi1 at e
  split at e <;> first | (cases e; done) | skip
  all_goals (try (rename_i hh; cases hh))
  obtain ⟨ns, h1, e⟩ := bok e
  cases e
  obtain rfl := asBls_ok h1
  obtain ⟨x, rfl, p⟩ := reps1 ra
  obtain ⟨a, rfl, sq⟩ := rep_bls p
  exact cr_all hc pins s σ H _ us Q I rx ⟨a, ns, rfl, sq, q.at (by simp only [Rep])⟩
theorem cb_any (hc : X.calm = true) : CallR X (.builtin "any") (rVs X.K (bi1 .any)) := by
  intro pins s σ H xs us Q I rx ⟨O, as, r, w, ra, e, q⟩
  unfold bi1 at e
  split at e <;> first | (cases e; done) | skip
  all_goals (try (rename_i hh; cases hh))
  obtain ⟨ns, h1, e⟩ := bok e
  cases e
  obtain rfl := asBls_ok h1
  obtain ⟨x, rfl, p⟩ := reps1 ra
  obtain ⟨a, rfl, sq⟩ := rep_bls p
  exact cr_any hc pins s σ H _ us Q I rx ⟨a, ns, rfl, sq, q.at (by simp only [Rep])⟩
theorem cb_max2 (hc : X.calm = true) : CallR X (.builtin "max") (rVs X.K (bi1 .max2)) := by
  intro pins s σ H xs us Q I rx ⟨O, as, r, w, ra, e, q⟩
  unfold bi1 at e
  split at e <;> first | (cases e; done) | skip
  all_goals (try (rename_i hh; cases hh))
  cases e
  obtain ⟨x, y, rfl, p, p'⟩ := reps2 ra
  simp only [Rep] at p p'
  subst p p'
  exact call_max2 hc pins s σ H _ us Q I rx ⟨_, _, rfl, q.at (by simp only [Rep])⟩
theorem cb_min2 (hc : X.calm = true) : CallR X (.builtin "min") (rVs X.K (bi1 .min2)) := by
  intro pins s σ H xs us Q I rx ⟨O, as, r, w, ra, e, q⟩
  unfold bi1 at e
  split at e <;> first | (cases e; done) | skip
  all_goals (try (rename_i hh; cases hh))
  cases e
  obtain ⟨x, y, rfl, p, p'⟩ := reps2 ra
  simp only [Rep] at p p'
  subst p p'
  exact call_min2 hc pins s σ H _ us Q I rx ⟨_, _, rfl, q.at (by simp only [Rep])⟩
theorem maxI_ok {ns : List Int} {m : Int} (h : maxI ns = .ok m) : 0 < ns.length ∧ m ∈ ns ∧ ∀ y ∈ ns, y ≤ m := by
  cases ns with
  | nil => simp only [maxI] at h; cases h
  | cons x r =>
    simp only [maxI] at h
    cases h
    exact ⟨by simp, (foldmax r x).1, (foldmax r x).2⟩
theorem minI_ok {ns : List Int} {m : Int} (h : minI ns = .ok m) : 0 < ns.length ∧ m ∈ ns ∧ ∀ y ∈ ns, m ≤ y := by
  cases ns with
  | nil => simp only [minI] at h; cases h
  | cons x r =>
    simp only [minI] at h
    cases h
    exact ⟨by simp, (foldmin r x).1, (foldmin r x).2⟩
theorem cb_max1 (hc : X.calm = true) : CallR X (.builtin "max") (rVs X.K (bi1 .max1)) := by
  intro pins s σ H xs us Q I rx ⟨O, as, r, w, ra, e, q⟩
  unfold bi1 at e
  split at e <;> first | (cases e; done) | skip
  all_goals (try (rename_i hh; cases hh))
  obtain ⟨ns, h1, e⟩ := bok e
  obtain ⟨m, h2, e⟩ := bok e
  cases e
  obtain rfl := asInts_ok h1
  obtain ⟨hl, h3, h4⟩ := maxI_ok h2
  obtain ⟨x, rfl, p⟩ := reps1 ra
  obtain ⟨a, rfl, sq⟩ := rep_ints p
  refine cr_max hc pins s σ H _ us Q I rx ⟨a, ns, rfl, sq, hl, fun k hk hle => ?_⟩
  have e : k = m := Int.le_antisymm (h4 k hk) (hle m h3)
  subst e
  exact q.at (by simp only [Rep])
theorem cb_min1 (hc : X.calm = true) : CallR X (.builtin "min") (rVs X.K (bi1 .min1)) := by
  intro pins s σ H xs us Q I rx ⟨O, as, r, w, ra, e, q⟩
  unfold bi1 at e
  split at e <;> first | (cases e; done) | skip
  all_goals (try (rename_i hh; cases hh))
  obtain ⟨ns, h1, e⟩ := bok e
  obtain ⟨m, h2, e⟩ := bok e
  cases e
  obtain rfl := asInts_ok h1
  obtain ⟨hl, h3, h4⟩ := minI_ok h2
  obtain ⟨x, rfl, p⟩ := reps1 ra
  obtain ⟨a, rfl, sq⟩ := rep_ints p
  refine cr_min hc pins s σ H _ us Q I rx ⟨a, ns, rfl, sq, hl, fun k hk hle => ?_⟩
  have e : k = m := Int.le_antisymm (hle m h3) (h4 k hk)
  subst e
  exact q.at (by simp only [Rep])
theorem cb_sorted : CallR X (.builtin "sorted") (rVs X.K (bi1 .sorted)) := by
  intro pins s σ H xs us Q I rx ⟨O, as, r, w, ra, e, q⟩
  unfold bi1 at e
  split at e <;> first | (cases e; done) | skip
  all_goals (try (rename_i hh; cases hh))
  obtain ⟨ns, h1, e⟩ := bok e
  cases e
  obtain rfl := asInts_ok h1
  obtain ⟨x, rfl, p⟩ := reps1 ra
  obtain ⟨a, rfl, sq⟩ := rep_ints p
  refine cr_sortedI pins s σ H _ us Q I rx ⟨a, ns, rfl, sq, fun ns' p hp hs nl => ?_⟩
  have e : ns' = sortI ns := List.Perm.eq_of_pairwise (fun x y _ _ h1 h2 => Int.le_antisymm h1 h2) hs (sortI_sorted ns) (hp.trans (sortI_perm ns).symm)
  subst e
  exact q _ _ (Ext.upd nl) (Rep.lst_new w nl (Reps.ints _))
theorem cb_list : CallR X (.type "list") (rVs X.K (bi1 .list)) := by
  intro pins s σ H xs us Q I rx ⟨O, as, r, w, ra, e, q⟩
  unfold bi1 at e
  split at e <;> first | (cases e; done) | skip
  all_goals (try (rename_i hh; cases hh))
  all_goals (cases e; obtain ⟨x, rfl, p⟩ := reps1 ra; simp only [Rep] at p)
  · obtain ⟨a, ys, rfl, _, sq, rr⟩ := p
    exact call_list_of pins s σ H _ us Q I rx ⟨a, ys, rfl, .inl (SqL.of sq), fun l nl => q _ _ (Ext.upd nl) (Rep.lst_new w nl rr)⟩
  · obtain ⟨a, ys, rfl, sq, rr⟩ := p
    exact call_list_of pins s σ H _ us Q I rx ⟨a, ys, rfl, .inr sq, fun l nl => q _ _ (Ext.upd nl) (Rep.lst_new w nl rr)⟩
theorem cb_tuple : CallR X (.type "tuple") (rVs X.K (bi1 .tuple)) := by
  intro pins s σ H xs us Q I rx ⟨O, as, r, w, ra, e, q⟩
  unfold bi1 at e
  split at e <;> first | (cases e; done) | skip
  all_goals (try (rename_i hh; cases hh))
  all_goals (cases e; obtain ⟨x, rfl, p⟩ := reps1 ra; simp only [Rep] at p)
  · obtain ⟨a, ys, rfl, _, sq, rr⟩ := p
    exact call_tuple_of pins s σ H _ us Q I rx ⟨a, ys, rfl, .inl ⟨SqL.of sq, fun l nl => q _ _ (Ext.upd nl) (Rep.tup_new w nl rr)⟩⟩
  · obtain ⟨a, ys, rfl, sq, rr⟩ := p
    exact call_tuple_of pins s σ H _ us Q I rx ⟨a, ys, rfl, .inr ⟨sq, q.at (by simp only [Rep]; exact ⟨a, ys, rfl, sq, rr⟩)⟩⟩
theorem cb_int : CallR X (.type "int") (rVs X.K (bi1 .int)) := by
  intro pins s σ H xs us Q I rx ⟨O, as, r, w, ra, e, q⟩
  unfold bi1 at e
  split at e <;> first | (cases e; done) | skip
  all_goals (try (rename_i hh; cases hh))
  all_goals (cases e; obtain ⟨x, rfl, p⟩ := reps1 ra; simp only [Rep] at p; subst p)
  · exact call_int1 pins s σ H _ us Q I rx (.inl ⟨_, rfl, q.at (by simp only [Rep])⟩)
  · exact call_int1 pins s σ H _ us Q I rx (.inr ⟨_, rfl, q.at (by simp only [Rep])⟩)
/-! ### is -/
theorem rep_non {K : PySem.W.Frag} {H : Hp} {O : Hid} {a : Val} {x : V} {v : Value} (r : Rep K H O a x) (rx : RelV x v) : (v == Value.none) = (match a with | .non => true | _ => false) := by
  rw [rx.none_iff]
  cases a with
  | dic t ks vs => cases t <;> simp only [Rep] at r <;> obtain ⟨a, _, rfl, _⟩ := r <;> rfl
  | tup vs => simp only [Rep] at r; obtain ⟨a, _, rfl, _⟩ := r; rfl
  | lst vs => simp only [Rep] at r; obtain ⟨a, _, rfl, _⟩ := r; rfl
  | scr vs => simp only [Rep] at r; obtain ⟨a, rfl, _⟩ := r; rfl
  | _ => simp only [Rep] at r; subst r; rfl
theorem sop_is : OpR X (compareOp .Is) (rV X.K (op2 .is)) := by
  intro pins s σ H x y v u Q I rx ry ⟨O, a, b, r, w, ra, rb, e, q⟩
  simp only [op2] at e
  obtain ⟨k, h1, e⟩ := bok e
  cases e
  have fin : ∀ k', k' = k → EP X pins σ Q (.bool k') s := fun k' hk => ⟨.bl k, H, I, by rw [hk]; rfl, q.at (by simp only [Rep])⟩
  cases b <;> simp only [isVal] at h1 <;> first | (cases h1; done) | skip
  · simp only [Rep] at rb
    subst rb
    cases (show u = Value.none from ry)
    refine is_none_gen (fin _ ?_)
    rw [rep_non ra rx]
    cases a <;> simp only at h1 <;> cases h1 <;> rfl
  · simp only [Rep] at rb
    subst rb
    cases (show u = Value.bool _ from ry)
    cases a <;> simp only at h1 <;> first | (cases h1; done) | skip
    cases h1
    simp only [Rep] at ra
    subst ra
    cases (show v = Value.bool _ from rx)
    exact is_bool (fin _ rfl)
theorem sop_isn : OpR X (compareOp .IsNot) (rV X.K (op2 .isn)) := by
  intro pins s σ H x y v u Q I rx ry ⟨O, a, b, r, w, ra, rb, e, q⟩
  simp only [op2] at e
  obtain ⟨k, h1, e⟩ := bok e
  cases e
  have fin : ∀ k', k' = (!k) → EP X pins σ Q (.bool k') s := fun k' hk => ⟨.bl (!k), H, I, by rw [hk]; rfl, q.at (by simp only [Rep])⟩
  cases b <;> simp only [isVal] at h1 <;> first | (cases h1; done) | skip
  · simp only [Rep] at rb
    subst rb
    cases (show u = Value.none from ry)
    refine isnot_none_gen (fin _ ?_)
    rw [rep_non ra rx]
    cases a <;> simp only at h1 <;> cases h1 <;> rfl
  · simp only [Rep] at rb
    subst rb
    cases (show u = Value.bool _ from ry)
    cases a <;> simp only at h1 <;> first | (cases h1; done) | skip
    cases h1
    simp only [Rep] at ra
    subst ra
    cases (show v = Value.bool _ from rx)
    refine isnot_bool (fin _ ?_)
    rfl
/-! ### isinstance -/
def tyName : Ty → String
  | .int => "int"
  | .bool => "bool"
  | .tuple => "tuple"
  | .list => "list"
  | .str => "str"
def valTy : Val → String
  | .non => "NoneType"
  | .bl _ => "bool"
  | .int _ => "int"
  | .str _ => "str"
  | .tup _ => "tuple"
  | .lst _ => "list"
  | .dic _ _ _ => "dict"
  | .scr _ => "list"
theorem rep_ty {K : PySem.W.Frag} {H : Hp} {O : Hid} {a : Val} {x : V} (r : Rep K H O a x) (hs : ∀ ns, a ≠ .scr ns) : TyX K H x (.type (valTy a)) := by
  cases a with
  | non => simp only [Rep] at r; subst r; exact .base .non
  | bl b => simp only [Rep] at r; subst r; exact .base (.bl b)
  | int b => simp only [Rep] at r; subst r; exact .base (.int b)
  | str b => simp only [Rep] at r; subst r; exact .base (.str b)
  | tup vs =>
    simp only [Rep] at r
    obtain ⟨a, xs, rfl, sq, _⟩ := r
    rcases sq with (h | ⟨o, h⟩) | ⟨o, its, n, h1, h2, _⟩
    · exact .base (.tup h)
    · exact .fTuple h
    · exact .kTuple h1 h2
  | lst vs =>
    simp only [Rep] at r
    obtain ⟨a, xs, rfl, _, sq, _⟩ := r
    exact .base (.lst sq)
  | dic t ks vs =>
    cases t <;> simp only [Rep] at r <;> obtain ⟨a, kvs, rfl, _, sq, _⟩ := r
    · exact .base (.dK sq)
    · exact .base (.dT sq)
  | scr ns => exact absurd rfl (hs ns)
theorem isi_kit {K : PySem.W.Frag} {v : Val} {t : Ty} {r : Bool} (h : isiV v t = .ok r) : PySem.W.kitOne K (.type (valTy v)) (.type (tyName t)) = some r := by
  cases v <;> cases t <;> simp only [isiV] at h <;> cases h <;> simp only [valTy, tyName] <;> exact kit_ty (by decide +kernel)
theorem isi_scr {v : Val} {t : Ty} {r : Bool} (h : isiV v t = .ok r) : ∀ ns, v ≠ .scr ns := by
  intro ns e
  subst e
  cases t <;> simp only [isiV] at h <;> cases h
end
end VM

set_option Elab.async false
set_option linter.all false
set_option maxRecDepth 100000
set_option maxHeartbeats 8000000
/-! W6: a text's expression is the plain expression: the look, and what it promises. -/
namespace VM
open PySem PySem.Spec PyProof.Rows L2

/-- the names of the defs and constants -/
structure Nm where
  fn : Nat → Option Str
  gl : Nat → Option Str
  fr : Nat → Bool := fun _ => false
  hn : Nat → Option Str := fun _ => none

def visB (sc : Scope) (x : Str) : Bool := match sc.names.lookup x with
  | some .local => true
  | some .cell => true
  | some .free => true
  | _ => false
def glB (sc : Scope) (x : Str) : Bool := match sc.names.lookup x with
  | some .globalImplicit => true
  | _ => false
def locB (sc : Scope) (x : Str) : Bool := match sc.names.lookup x with
  | some .local => true
  | some .cell => true
  | _ => false
def dbg (x : Str) : Bool := !(x == ("__debug__" : Str)) && !(x == ("__classdict__" : Str))
def biName : Bi → String
  | .len => "len" | .abs => "abs" | .sum => "sum" | .all => "all" | .any => "any"
  | .max2 => "max" | .min2 => "min" | .max1 => "max" | .min1 => "min" | .maxd => "max"
  | .sorted => "sorted" | .list => "list" | .tuple => "tuple" | .int => "int"
def biOk : Bi → Bool
  | .maxd => false
  | _ => true
def opBin : Op2 → Option Operator
  | .add => some .Add | .sub => some .Sub | .mul => some .Mult | .fdiv => some .FloorDiv | .mod => some .Mod
  | .pow => some .Pow | .shl => some .LShift | .shr => some .RShift | .band => some .BitAnd
  | _ => none
def opCmp : Op2 → Option CmpOp
  | .eq => some .Eq | .ne => some .NotEq | .lt => some .Lt | .le => some .LtE | .gt => some .Gt | .ge => some .GtE
  | .inn => some .In | .nin => some .NotIn | .is => some .Is | .isn => some .IsNot
  | _ => none
def ixOk : Expr → Bool
  | .Slice _ _ _ _ => false
  | _ => true
/-- no set is written there -/
def noSet : Expr → Bool
  | .Set _ _ _ => false
  | _ => true
def opEqB (a b : Operator) : Bool := match a, b with
  | .Add, .Add => true | .Sub, .Sub => true | .Mult, .Mult => true | .FloorDiv, .FloorDiv => true | .Mod, .Mod => true
  | .Pow, .Pow => true | .LShift, .LShift => true | .RShift, .RShift => true | .BitAnd, .BitAnd => true
  | _, _ => false
def cmpEqB (a b : CmpOp) : Bool := match a, b with
  | .Eq, .Eq => true | .NotEq, .NotEq => true | .Lt, .Lt => true | .LtE, .LtE => true | .Gt, .Gt => true | .GtE, .GtE => true
  | .In, .In => true | .NotIn, .NotIn => true | .Is, .Is => true | .IsNot, .IsNot => true
  | _, _ => false
theorem opEqB_eq {a b : Operator} (h : opEqB a b = true) : a = b := by cases a <;> cases b <;> first | rfl | cases h
theorem cmpEqB_eq {a b : CmpOp} (h : cmpEqB a b = true) : a = b := by cases a <;> cases b <;> first | rfl | cases h

mutual
def tgIx : Tg → List Nat
  | .nm i => [i]
  | .tp ts => tgsIx ts
def tgsIx : Tgs → List Nat
  | .nil => []
  | .cons t r => tgIx t ++ tgsIx r
end
mutual
/-- fn: which cells were made by this block -/
def chkG (N : List Str) (sc : Scope) (fn : Str → Bool) : Tg → Expr → Bool
  | .nm i, e => match e with
    | .Name x _ => decide (N[i]? = some x) && ((match sc.names.lookup x with | some .local => true | _ => false) || ((match sc.names.lookup x with | some .cell => true | _ => false) && fn x))
    | _ => false
  | .tp ts, e => match e with
    | .Tuple es _ _ => chkGs N sc fn ts es
    | _ => false
def chkGs (N : List Str) (sc : Scope) (fn : Str → Bool) : Tgs → List Expr → Bool
  | .nil, es => es.isEmpty
  | .cons t r, es => match es with
    | e :: es => nst e && chkG N sc fn t e && chkGs N sc fn r es
    | [] => false
end
mutual
def chkE (M : Nm) (N : List Str) : SE → Scope → Expr → Bool
  | .var i, sc, e => match e with
    | .Name x _ => decide (N[i]? = some x) && visB sc x && dbg x
    | _ => false
  | .cint n, _, e => match e with
    | .Constant (.int m) _ _ => decide (n = m)
    | _ => false
  | .cbl b, _, e => match e with
    | .Constant (.bool c) _ _ => b == c
    | _ => false
  | .cnon, _, e => match e with
    | .Constant .none _ _ => true
    | _ => false
  | .cstr s, _, e => match e with
    | .Constant (.str x) _ _ => decide (x = Str.ofString s)
    | _ => false
  | .glob g, sc, e => match e with
    | .Name x _ => decide (M.gl g = some x) && glB sc x && dbg x
    | _ => false
  | .op o a b, sc, e => match e with
    | .BinOp x p y _ => (match opBin o with | some q => opEqB q p | none => false) && chkE M N a sc x && chkE M N b sc y
    | .Compare x [p] [y] _ => (match opCmp o with | some q => cmpEqB q p | none => false) && noSet y && chkE M N a sc x && chkE M N b sc y
    | _ => false
  | .neg a, sc, e => match e with
    | .UnaryOp .USub x _ => chkE M N a sc x
    | _ => false
  | .not1 a, sc, e => match e with
    | .UnaryOp .Not x _ => chkE M N a sc x
    | _ => false
  | .bop an es, sc, e => match e with
    | .BoolOp .And xs _ => an && chkEs M N es sc xs && !xs.isEmpty
    | .BoolOp .Or xs _ => !an && chkEs M N es sc xs && !xs.isEmpty
    | _ => false
  | .chain o o' a b c, sc, e => match e with
    | .Compare x [p, p'] [y, z] _ => (match opCmp o with | some q => cmpEqB q p | none => false) && (match opCmp o' with | some q => cmpEqB q p' | none => false) && noSet y && noSet z && chkE M N a sc x && chkE M N b sc y && chkE M N c sc z
    | _ => false
  | .ite c a b, sc, e => match e with
    | .IfExp x y z _ => tOk c && chkE M N c sc x && chkE M N a sc y && chkE M N b sc z
    | _ => false
  | .tup es, sc, e => match e with
    | .Tuple xs _ _ => chkEs M N es sc xs
    | _ => false
  | .lst es, sc, e => match e with
    | .List xs _ => chkEs M N es sc xs
    | _ => false
  | .ix a b, sc, e => match e with
    | .Subscript x y _ => ixOk y && chkE M N a sc x && chkE M N b sc y
    | _ => false
  | .sl a lo hi, sc, e => match e with
    | .Subscript x (.Slice l h none _) _ => chkE M N a sc x && chkO M N lo sc l && chkO M N hi sc h
    | _ => false
  | .rev a, sc, e => match e with
    | .Subscript x (.Slice none none (some (.UnaryOp .USub (.Constant (.int 1) _ _) _)) _) _ => chkE M N a sc x
    | _ => false
  | .call f es, sc, e => match e with
    | .Call (.Name x _) xs [] _ => decide (M.fn f = some x) && glB sc x && dbg x && chkEs M N es sc xs
    | _ => false
  | .bi b es, sc, e => match e with
    | .Call (.Name x _) (y :: xs) [] _ => biOk b && decide (x = Str.ofString (biName b)) && glB sc x && chkEs M N es sc (y :: xs)
    | _ => false
  | .isi a t, sc, e => match e with
    | .Call (.Name f _) [x, .Name y _] [] _ => decide (f = ("isinstance" : Str)) && decide (y = Str.ofString (tyName t)) && glB sc f && glB sc y && nst x && chkE M N a sc x
    | _ => false
  | .comp own tg it c el, sc, e => match e with
    | .ListComp x [⟨tgE, iter, ifs, 0⟩] scope _ => blkC N sc scope (own.map fun i => (N.getD i "", i)) && (tgIx tg).all (own.contains ·) &&
        chkI M N it sc tgE iter && noSet iter && chkG N (relS scope sc) (fun y => scope.names.lookup y == some .cell) tg tgE &&
        chkC M N c (relS scope sc) ifs && chkE M N el (relS scope sc) x
    | _ => false
  | .lrng es, sc, e => match es with
    | .cons a .nil => (match e with
      | .Call (.Name f _) [.Call (.Name g _) [x] [] _] [] _ => decide (f = ("list" : Str)) && decide (g = ("range" : Str)) && glB sc f && glB sc g && nst x && chkE M N a sc x
      | _ => false)
    | .cons a (.cons b .nil) => (match e with
      | .Call (.Name f _) [.Call (.Name g _) [x, y] [] _] [] _ => decide (f = ("list" : Str)) && decide (g = ("range" : Str)) && glB sc f && glB sc g && nst x && chkE M N a sc x && nst y && chkE M N b sc y
      | _ => false)
    | _ => false
  | .dget _ _, _, _ => false
  | .dgetd _ _ _, _, _ => false
  | .cnt _ _, _, _ => false
  | .mxd a b, sc, e => match e with
    | .Call (.Name f _) [x] [⟨some k, y, _⟩] _ => decide (f = ("max" : Str)) && decide (k = Str.ofString "default") && glB sc f && nst x && chkE M N a sc x && chkE M N b sc y
    | _ => false
def chkEs (M : Nm) (N : List Str) : SEs → Scope → List Expr → Bool
  | .nil, _, xs => xs.isEmpty
  | .cons e r, sc, xs => match xs with
    | x :: xs => nst x && chkE M N e sc x && chkEs M N r sc xs
    | [] => false
def chkO (M : Nm) (N : List Str) : SO → Scope → Option Expr → Bool
  | .none, _, x => x.isNone
  | .some e, sc, x => match x with
    | some y => chkE M N e sc y
    | none => false
def chkC (M : Nm) (N : List Str) : SO → Scope → List Expr → Bool
  | .none, _, xs => xs.isEmpty
  | .some e, sc, xs => match xs with
    | [x] => tOk e && chkE M N e sc x
    | _ => false
def chkI (M : Nm) (N : List Str) : SI → Scope → Expr → Expr → Bool
  | .seq e, sc, _, x => chkE M N e sc x
  | .rng1 a, sc, _, e => match e with
    | .Call (.Name f _) [x] [] _ => decide (f = ("range" : Str)) && glB sc f && nst x && chkE M N a sc x
    | _ => false
  | .rng2 a b, sc, _, e => match e with
    | .Call (.Name f _) [x, y] [] _ => decide (f = ("range" : Str)) && glB sc f && nst x && chkE M N a sc x && nst y && chkE M N b sc y
    | _ => false
  | .rng3 a b c, sc, _, e => match e with
    | .Call (.Name f _) [x, y, z] [] _ => decide (f = ("range" : Str)) && glB sc f && nst x && chkE M N a sc x && nst y && chkE M N b sc y && nst z && chkE M N c sc z
    | _ => false
  | .enum a, sc, tg, e => match tg with
    | .Tuple _ _ _ => (match e with
      | .Call (.Name f _) [x] [] _ => decide (f = ("enumerate" : Str)) && glB sc f && nst x && chkE M N a sc x
      | _ => false)
    | _ => false
  | .zip a b, sc, tg, e => match tg with
    | .Tuple _ _ _ => (match e with
      | .Call (.Name f _) [x, y] [] _ => decide (f = ("zip" : Str)) && glB sc f && nst x && chkE M N a sc x && nst y && chkE M N b sc y
      | _ => false)
    | _ => false
  | .keys _, _, _, _ => false
/-- may stand as a test -/
def tOk : SE → Bool
  | .ite _ _ _ => false
  | .not1 a => tOk a
  | .bop _ es => tOks es
  | _ => true
def tOks : SEs → Bool
  | .nil => true
  | .cons e r => tOk e && tOks r
end

/-! ### the context -/
def spC (K : PySem.W.Frag) (np : Nat) (g : List Val → R Val) : Sp := fun xs H Q _ => ∃ O as r, WF H O ∧ Reps K H O as xs ∧ as.length = np ∧ g as = .ok r ∧ Post K H O r Q
/-- the result is a new list -/
def spF (K : PySem.W.Frag) (np : Nat) (g : List Val → R Val) : Sp := fun xs H Q _ => ∃ O as vs, WF H O ∧ Reps K H O as xs ∧ as.length = np ∧ g as = .ok (.lst vs) ∧
  ∀ p H' ys, H p = none → Ext H H' → H' p = some (.lst ys) → Reps K H' (fun a => O a ∨ a = p) vs ys → Q (.ref p) H'
/-- a def over the machine's heap -/
def spH (K : PySem.W.Frag) (np : Nat) (g : List HV → HHp → R (HV × HHp)) : Sp := fun xs H Q _ => ∃ O φ h as q, RelH K H O φ h ∧ RepHs K H O φ as xs ∧ as.length = np ∧ g as h = .ok q ∧
  ∀ x H' φ', KeepH H φ H' φ' → RelH K H' O φ' q.2 → RepH K H' O φ' q.1 x → Q x H'
def biNames : List String := ["len", "abs", "sum", "all", "any", "max", "min", "sorted", "list", "tuple", "int", "bool", "str", "isinstance", "range", "enumerate", "zip"]
structure Facts (M : Nm) (T : Tab) (P : Program) (w : World) (K : PySem.W.Frag) (mg : Str → Option Value) (base : Heap) (n : Nat) : Prop where
  fns : ∀ f x, M.fn f = some x → ∃ fa fd ps, mg x = some (.ref fa) ∧ PySem.W.keepIn K (.ref fa) = true ∧ Binds K fd ps [] ∧ FnOk P w K mg base CX0 n fa fd ps (spC K ps.length (T.C f)) ∧
    (∀ vs v, T.C f vs = .ok v → vs.length = ps.length) ∧ (M.fr f = true → FnOk P w K mg base CX0 n fa fd ps (spF K ps.length (T.C f)))
  gls : ∀ g x v, M.gl g = some x → T.G g = some v → ∃ u y, mg x = some u ∧ RelV y u ∧ ∀ H O, Rep K H O v y
  bis : ∀ x ∈ biNames, mg (Str.ofString x) = none
  hns : ∀ f x, M.hn f = some x → ∃ fa fd ps, mg x = some (.ref fa) ∧ PySem.W.keepIn K (.ref fa) = true ∧ Binds K fd ps [] ∧ FnOk P w K mg base CX0 n fa fd ps (spH K ps.length (T.H f)) ∧
    (∀ vs h q, T.H f vs h = .ok q → vs.length = ps.length)
structure Ctx (X : Cx) (n : Nat) (M : Nm) (T : Tab) (N : List Str) : Prop where
  facts : Facts M T X.prog X.w X.K X.mg X.base n
  hN : X.N = N
  nd : X.N.Nodup
  calm : X.calm = true
  room : Room n X.A
theorem Ctx.blk {X : Cx} {n : Nat} {M : Nm} {T : Tab} {N : List Str} (c : Ctx X n M T N) (s : Shared) (H : Hp) (scope : Scope) (cenv : Env) (fp : List Addr) : Ctx (X.blk s H scope cenv fp) n M T N :=
  ⟨c.facts, c.hN, c.nd, c.calm, c.room⟩

section
variable {X : Cx} {n : Nat} {M : Nm} {T : Tab} {N : List Str}
theorem visB_vis {sc : Scope} {x : Str} (h : visB sc x = true) : Vis sc x := by
  unfold visB at h
  split at h <;> first | exact .inl (by assumption) | exact .inr (.inl (by assumption)) | exact .inr (.inr (by assumption)) | cases h
theorem glB_gl {x : Str} (h : glB X.env.scope x = true) : Gl X x := by
  unfold glB at h
  split at h
  · assumption
  · cases h
theorem dbg_1 {x : Str} (h : dbg x = true) : (x == ("__debug__" : Str)) = false := by
  unfold dbg at h
  rw [Bool.and_eq_true] at h
  simpa using h.1
theorem dbg_2 {x : Str} (h : dbg x = true) : (x == ("__classdict__" : Str)) = false := by
  unfold dbg at h
  rw [Bool.and_eq_true] at h
  simpa using h.2
theorem noSet_mark {op : CmpOp} {b : Expr} (h : noSet b = true) : behindInMarks op b = false := by
  cases b <;> first | rfl | cases h
theorem noSet_fold {b : Expr} {env : Env} (h : noSet b = true) (x : Value) : foldedSetIterable b env x = pure x := by
  cases b <;> first | rfl | cases h
theorem Ctx.u64 (c : Ctx X n M T N) : X.A.units + 64 < cLine := c.room.units
theorem Ctx.u65 (c : Ctx X n M T N) : X.A.units + 65 < cLine := by have := c.room.un; omega

/-! ### one construct after another -/
theorem getE_ok {ρ : VE} {i : Nat} {v : Val} (h : getE ρ i = .ok v) : ρ[i]? = some (some v) := by
  unfold getE at h
  split at h
  · cases h; assumption
  · cases h
theorem sE_var {i : Nat} {x : Str} {pos : Pos} (hN : X.N[i]? = some x) (hv : Vis X.env.scope x) (h1 : dbg x = true) : PE X (.Name x pos) (tE X.K T (.var i)) :=
  PE.imp (pe_var hN hv (dbg_1 h1) (dbg_2 h1)) (fun σ H Q ⟨O, ρ, v, w, eo, h, q⟩ => by
    simp only [ev] at h
    obtain ⟨x, h1, h2⟩ := eo.get _ _ (getE_ok h)
    exact ⟨x, h1, q.at h2⟩)
theorem sE_int {i : Int} {k pos} : PE X (.Constant (.int i) k pos) (tE X.K T (.cint i)) :=
  PE.imp pe_int (fun σ H Q ⟨O, ρ, v, w, eo, h, q⟩ => by simp only [ev] at h; cases h; exact q.at (by simp only [Rep]))
theorem sE_bl {i : Bool} {k pos} : PE X (.Constant (.bool i) k pos) (tE X.K T (.cbl i)) :=
  PE.imp pe_bl (fun σ H Q ⟨O, ρ, v, w, eo, h, q⟩ => by simp only [ev] at h; cases h; exact q.at (by simp only [Rep]))
theorem sE_non {k pos} : PE X (.Constant .none k pos) (tE X.K T .cnon) :=
  PE.imp pe_non (fun σ H Q ⟨O, ρ, v, w, eo, h, q⟩ => by simp only [ev] at h; cases h; exact q.at (by simp only [Rep]))
theorem sE_str {s : String} {k pos} : PE X (.Constant (.str (Str.ofString s)) k pos) (tE X.K T (.cstr s)) :=
  PE.imp pe_str (fun σ H Q ⟨O, ρ, v, w, eo, h, q⟩ => by simp only [ev] at h; cases h; exact q.at (by simp only [Rep]))
theorem sE_glob {g : Nat} {x : Str} {pos : Pos} (c : Ctx X n M T N) (hm : M.gl g = some x) (hg : Gl X x) (h1 : dbg x = true) : PE X (.Name x pos) (tE X.K T (.glob g)) := by
  refine ⟨fun pins s σ H Q I ⟨O, ρ, v, w, eo, h, q⟩ => ?_⟩
  simp only [ev] at h
  obtain ⟨u, y, m, r, rp⟩ := c.facts.gls g x v hm (ofO_ok h)
  exact (pe_glob hg m r (dbg_1 h1)).run pins s σ H Q I (q.at (rp H O))
variable {a b c e : Expr} {sa sb sc se : SE} {pos : Pos}
theorem tE_op {o : Op2} {K : PySem.W.Frag} : ∀ σ H Q, tE K T (.op o sa sb) σ H Q → tOp (rV K (op2 o)) (tE K T sa) (tE K T sb) σ H Q := fun σ H Q ⟨O, ρ, v, w, eo, h, q⟩ => by
  simp only [ev] at h
  obtain ⟨x, h1, h⟩ := bok h
  obtain ⟨y, h2, h⟩ := bok h
  exact ⟨O, ρ, x, w, eo, h1, fun x1 H1 e1 r1 => ⟨O, ρ, y, w.ext e1, eo.ext w e1, h2, fun y1 H2 e2 r2 => ⟨O, x, y, v, (w.ext e1).ext e2, r1.ext (w.ext e1) e2, r2, h, q.ext (e1.trans e2)⟩⟩⟩
theorem sE_bin {o : Op2} {p : Operator} (ho : opBin o = some p) (ha : PE X a (tE X.K T sa)) (hb : PE X b (tE X.K T sb)) : PE X (.BinOp a p b pos) (tE X.K T (.op o sa sb)) := by
  have key : OpR X (binaryOp p) (rV X.K (op2 o)) := by
    cases o <;> simp only [opBin] at ho <;> cases ho
    · exact sop_add
    · exact sop_sub
    · exact sop_mul
    · exact sop_fdiv
    · exact sop_mod
    · exact sop_pow
    · exact sop_shl
    · exact sop_shr
    · exact sop_band
  exact PE.imp (pe_op key ha hb) tE_op
theorem cmp_key (cx : Ctx X n M T N) {o : Op2} {p : CmpOp} (ho : opCmp o = some p) : OpR X (compareOp p) (rV X.K (op2 o)) := by
  cases o <;> simp only [opCmp] at ho <;> cases ho
  · exact sop_eq cx.u64
  · exact sop_ne cx.u64
  · exact sop_cmp (by have := cx.u64; omega) (by simp)
  · exact sop_cmp (by have := cx.u64; omega) (by simp)
  · exact sop_cmp (by have := cx.u64; omega) (by simp)
  · exact sop_cmp (by have := cx.u64; omega) (by simp)
  · exact sop_in cx.u65
  · exact sop_nin cx.u65
  · exact sop_is
  · exact sop_isn
theorem sE_cmp (cx : Ctx X n M T N) {o : Op2} {p : CmpOp} (ho : opCmp o = some p) (hm : noSet b = true) (ha : PE X a (tE X.K T sa)) (hb : PE X b (tE X.K T sb)) : PE X (.Compare a [p] [b] pos) (tE X.K T (.op o sa sb)) :=
  PE.imp (pe_cmpR (cmp_key cx ho) ha hb (noSet_mark hm)) tE_op
theorem tT_E {K : PySem.W.Frag} : ∀ σ H Q, tT K T se σ H Q → tE K T se σ H (fun x H1 => ∃ k, x = .bl k ∧ Q k H1) := fun σ H Q ⟨O, ρ, v, w, eo, h, q⟩ =>
  ⟨O, ρ, .bl v, w, eo, h, fun x H' e r => by simp only [Rep] at r; exact ⟨v, r, q H' e⟩⟩
theorem sT_cmp (cx : Ctx X n M T N) {o : Op2} {p : CmpOp} (ho : opCmp o = some p) (hm : noSet b = true) (ha : PE X a (tE X.K T sa)) (hb : PE X b (tE X.K T sb)) : PT X (.Compare a [p] [b] pos) (tT X.K T (.op o sa sb)) :=
  PT.imp (pt_cmpR (cmp_key cx ho) ha hb (noSet_mark hm)) (fun σ H Q h => tE_op σ H _ (tT_E σ H Q h))
/-- an expression that is no test of its own kind -/
def plainT : Expr → Bool
  | .UnaryOp .Not _ _ => false
  | .BoolOp _ _ _ => false
  | .IfExp _ _ _ _ => false
  | .Compare _ _ _ _ => false
  | _ => true
theorem plainT_ok {env : Env} (h : plainT e = true) (whole : Sem Value) : isTrue e env whole = (do let v ← whole; standAt e.pos; holding [v] (truthy v)) := by
  cases e with
  | UnaryOp op x p => cases op <;> first | rfl | cases h
  | BoolOp => cases h
  | IfExp => cases h
  | Compare => cases h
  | _ => rfl
theorem sT_val (h : PE X e (tE X.K T se)) (hp : plainT e = true) : PT X e (tT X.K T se) := PT.imp (pt_val h (plainT_ok hp)) tT_E
theorem sE_neg (ha : PE X a (tE X.K T sa)) : PE X (.UnaryOp .USub a pos) (tE X.K T (.neg sa)) :=
  PE.imp (pe_un un_neg ha) (fun σ H Q ⟨O, ρ, v, w, eo, h, q⟩ => by
    simp only [ev] at h
    obtain ⟨x, h1, h⟩ := bok h
    obtain ⟨i, h2, h⟩ := bok h
    cases h
    obtain rfl := asInt_ok h2
    refine ⟨O, ρ, _, w, eo, h1, fun x1 H1 e1 r1 => ?_⟩
    simp only [Rep] at r1
    exact ⟨i, r1, q _ _ e1 (by simp only [Rep])⟩)
theorem tru_ok {v : Val} {b : Bool} (h : tru v = .ok b) : v = .bl b := by
  cases v <;> simp only [tru] at h <;> cases h; rfl
theorem sE_not (ha : PE X a (tE X.K T sa)) : PE X (.UnaryOp .Not a pos) (tE X.K T (.not1 sa)) :=
  PE.imp (pe_not ha) (fun σ H Q ⟨O, ρ, v, w, eo, h, q⟩ => by
    simp only [ev] at h
    obtain ⟨x, h1, h⟩ := bok h
    obtain ⟨i, h2, h⟩ := bok h
    cases h
    obtain rfl := tru_ok h2
    refine ⟨O, ρ, _, w, eo, h1, fun x1 H1 e1 r1 => ?_⟩
    simp only [Rep] at r1
    exact ⟨i, r1, q _ _ e1 (by simp only [Rep])⟩)
theorem sT_not (ha : PT X a (tT X.K T sa)) : PT X (.UnaryOp .Not a pos) (tT X.K T (.not1 sa)) :=
  PT.imp (pt_not ha) (fun σ H Q ⟨O, ρ, v, w, eo, h, q⟩ => by
    simp only [ev] at h
    obtain ⟨x, h1, h⟩ := bok h
    obtain ⟨i, h2, h⟩ := bok h
    cases h
    obtain rfl := tru_ok h2
    exact ⟨O, ρ, i, w, eo, h1, fun H1 e1 => q H1 e1⟩)
theorem tE_chain {o o' : Op2} {K : PySem.W.Frag} : ∀ σ H Q, tE K T (.chain o o' sa sb sc) σ H Q → tChain (rV K (op2 o)) (rV K (op2 o')) (tE K T sa) (tE K T sb) (tE K T sc) σ H Q := fun σ H Q ⟨O, ρ, v, w, eo, h, q⟩ => by
  simp only [ev] at h
  obtain ⟨x, h1, h⟩ := bok h
  obtain ⟨y, h2, h⟩ := bok h
  obtain ⟨r, h3, h⟩ := bok h
  obtain ⟨k, h4, hK⟩ := bok h
  obtain rfl := tru_ok h4
  replace h := hK
  refine ⟨O, ρ, x, w, eo, h1, fun x1 H1 e1 r1 => ⟨O, ρ, y, w.ext e1, eo.ext w e1, h2, fun y1 H2 e2 r2 => ⟨O, x, y, .bl k, (w.ext e1).ext e2, r1.ext (w.ext e1) e2, r2, h3, fun z H3 e3 r3 => ?_⟩⟩⟩
  simp only [Rep] at r3
  refine ⟨k, r3, ?_⟩
  cases k with
  | false =>
    simp only [Bool.false_eq_true, if_false] at h ⊢
    cases h
    exact q _ _ ((e1.trans e2).trans e3) (by simp only [Rep])
  | true =>
    simp only [if_true] at h ⊢
    obtain ⟨z, h5, h⟩ := bok h
    have w2 := ((w.ext e1).ext e2)
    exact ⟨O, ρ, z, w2.ext e3, eo.ext w ((e1.trans e2).trans e3), h5, fun z1 H4 e4 r4 => ⟨O, y, z, v, (w2.ext e3).ext e4, r2.ext w2 (e3.trans e4), r4, h, q.ext (((e1.trans e2).trans e3).trans e4)⟩⟩
theorem sE_chain (cx : Ctx X n M T N) {o o' : Op2} {p p' : CmpOp} (ho : opCmp o = some p) (ho' : opCmp o' = some p') (hm : noSet c = true)
    (ha : PE X a (tE X.K T sa)) (hb : PE X b (tE X.K T sb)) (hc : PE X c (tE X.K T sc)) : PE X (.Compare a [p, p'] [b, c] pos) (tE X.K T (.chain o o' sa sb sc)) :=
  PE.imp (pe_chain (cmp_key cx ho) (cmp_key cx ho') ha hb hc (noSet_mark hm)) tE_chain
theorem sT_chain (cx : Ctx X n M T N) {o o' : Op2} {p p' : CmpOp} (ho : opCmp o = some p) (ho' : opCmp o' = some p') (hm : noSet c = true)
    (ha : PE X a (tE X.K T sa)) (hb : PE X b (tE X.K T sb)) (hc : PE X c (tE X.K T sc)) : PT X (.Compare a [p, p'] [b, c] pos) (tT X.K T (.chain o o' sa sb sc)) :=
  PT.imp (pt_chain (cmp_key cx ho) (cmp_key cx ho') ha hb hc (noSet_mark hm)) (fun σ H Q h => tE_chain σ H _ (tT_E σ H Q h))
theorem sE_ite (hc : PT X c (tT X.K T sc)) (ha : PE X a (tE X.K T sa)) (hb : PE X b (tE X.K T sb)) : PE X (.IfExp c a b pos) (tE X.K T (.ite sc sa sb)) :=
  PE.imp (pe_ifExp hc ha hb) (fun σ H Q ⟨O, ρ, v, w, eo, h, q⟩ => by
    simp only [ev] at h
    obtain ⟨x, h1, h⟩ := bok h
    obtain ⟨k, h2, hK⟩ := bok h
    obtain rfl := tru_ok h2
    replace h := hK
    refine ⟨O, ρ, k, w, eo, h1, fun H1 e1 => ?_⟩
    cases k with
    | true =>
      simp only [if_true] at h ⊢
      exact ⟨O, ρ, v, w.ext e1, eo.ext w e1, h, q.ext e1⟩
    | false =>
      simp only [Bool.false_eq_true, if_false] at h ⊢
      exact ⟨O, ρ, v, w.ext e1, eo.ext w e1, h, q.ext e1⟩)
variable {es : List Expr} {ses : SEs}
theorem sE_tup {k : Nat} (h : PA X es (tA X.K T ses)) : PE X (.Tuple es k pos) (tE X.K T (.tup ses)) :=
  PE.imp (pe_tup h) (fun σ H Q ⟨O, ρ, v, w, eo, h, q⟩ => by
    simp only [ev] at h
    obtain ⟨vs, h1, h⟩ := bok h
    obtain ⟨hl, h⟩ := iok h
    subst h
    refine ⟨O, ρ, vs, w, eo, h1, fun xs H1 e1 r1 => ⟨by rw [r1.length, ← lineN_eq]; exact hl, fun p np => ?_⟩⟩
    exact q _ _ (e1.trans (Ext.upd np)) (Rep.tup_new (w.ext e1) np r1))
theorem sE_lst (h : PA X es (tA X.K T ses)) : PE X (.List es pos) (tE X.K T (.lst ses)) :=
  PE.imp (pe_lst h) (fun σ H Q ⟨O, ρ, v, w, eo, h, q⟩ => by
    simp only [ev] at h
    obtain ⟨vs, h1, h⟩ := bok h
    obtain ⟨hl, h⟩ := iok h
    subst h
    refine ⟨O, ρ, vs, w, eo, h1, fun xs H1 e1 r1 => ⟨by rw [r1.length, ← lineN_eq]; exact hl, fun p np => ?_⟩⟩
    exact q _ _ (e1.trans (Ext.upd np)) (Rep.lst_new (w.ext e1) np r1))
theorem ixOk_plain (h : ixOk b = true) : PlainIx b := by
  intro o i
  cases b <;> first | rfl | cases h
theorem sE_ix (cx : Ctx X n M T N) (ha : PE X a (tE X.K T sa)) (hb : PE X b (tE X.K T sb)) (h : ixOk b = true) : PE X (.Subscript a b pos) (tE X.K T (.ix sa sb)) :=
  PE.imp (pe_ix (six cx.u65) ha hb (ixOk_plain h)) (fun σ H Q ⟨O, ρ, v, w, eo, h, q⟩ => by
    simp only [ev] at h
    obtain ⟨x, h1, h⟩ := bok h
    obtain ⟨y, h2, h⟩ := bok h
    exact ⟨O, ρ, x, w, eo, h1, fun x1 H1 e1 r1 => ⟨O, ρ, y, w.ext e1, eo.ext w e1, h2, fun y1 H2 e2 r2 => ⟨O, x, y, v, (w.ext e1).ext e2, r1.ext (w.ext e1) e2, r2, h, q.ext (e1.trans e2)⟩⟩⟩)
def tO (K : PySem.W.Frag) (T : Tab) (s : SO) : TO := fun σ H Q => ∃ O ρ r, WF H O ∧ EOk K H O σ ρ ∧ evO T s ρ = .ok r ∧ ∀ H', Ext H H' → Q r H'
theorem PO.imp {e : Option Expr} {t t' : TO} (h : PO X e t) (i : ∀ σ H Q, t' σ H Q → t σ H Q) : PO X e t' := by
  refine ⟨?_⟩
  intros
  apply h.run <;> first | assumption | (apply i; assumption)
theorem sO_none : PO X none (tO X.K T .none) := PO.imp po_none (fun σ H Q ⟨O, ρ, r, w, eo, h, q⟩ => by simp only [evO] at h; cases h; exact q H Ext.refl)
theorem sO_some (ha : PE X a (tE X.K T sa)) : PO X (some a) (tO X.K T (.some sa)) := PO.imp (po_some ha) (fun σ H Q ⟨O, ρ, r, w, eo, h, q⟩ => by
  simp only [evO] at h
  obtain ⟨x, h1, h⟩ := bok h
  obtain ⟨k, h2, h⟩ := bok h
  cases h
  obtain rfl := asInt_ok h2
  refine ⟨O, ρ, _, w, eo, h1, fun x1 H1 e1 r1 => ?_⟩
  simp only [Rep] at r1
  exact ⟨k, r1, q H1 e1⟩)
theorem sE_sl {l u : Option Expr} {sl su : SO} {p2 : Pos} (ha : PE X a (tE X.K T sa)) (hl : PO X l (tO X.K T sl)) (hu : PO X u (tO X.K T su)) : PE X (.Subscript a (.Slice l u none p2) pos) (tE X.K T (.sl sa sl su)) :=
  PE.imp (pe_slice ssl ha hl hu) (fun σ H Q ⟨O, ρ, v, w, eo, h, q⟩ => by
    simp only [ev] at h
    obtain ⟨x, h1, h⟩ := bok h
    obtain ⟨y, h2, h⟩ := bok h
    obtain ⟨z, h3, h⟩ := bok h
    exact ⟨O, ρ, x, w, eo, h1, fun x1 H1 e1 r1 => ⟨O, ρ, y, w.ext e1, eo.ext w e1, h2, fun H2 e2 => ⟨O, ρ, z, w.ext (e1.trans e2), eo.ext w (e1.trans e2), h3, fun H3 e3 =>
      ⟨O, x, v, w.ext ((e1.trans e2).trans e3), r1.ext (w.ext e1) (e2.trans e3), h, q.ext ((e1.trans e2).trans e3)⟩⟩⟩⟩)
theorem sE_rev {k : Nat} {p1 p2 p3 : Pos} (ha : PE X a (tE X.K T sa)) : PE X (.Subscript a (.Slice none none (some (.UnaryOp .USub (.Constant (.int 1) k p1) p2)) p3) pos) (tE X.K T (.rev sa)) :=
  PE.imp (pe_revL ha) (fun σ H Q ⟨O, ρ, v, w, eo, h, q⟩ => by
    simp only [ev] at h
    obtain ⟨x, h1, h⟩ := bok h
    cases x with
    | lst vs =>
      simp only [revV] at h; cases h
      refine ⟨O, ρ, _, w, eo, h1, fun x1 H1 e1 r1 => ?_⟩
      simp only [Rep] at r1
      obtain ⟨p, xs, rfl, n, hp, rr⟩ := r1
      exact ⟨p, xs, rfl, SqL.of hp, fun l nl => q _ _ (e1.trans (Ext.upd nl)) (Rep.lst_new (w.ext e1) nl rr.rev)⟩
    | _ => simp only [revV] at h; cases h)
theorem rgV_reps {K : PySem.W.Frag} {H : Hp} {O : Hid} {i j : Int} : Reps K H O (rngC i 1 (j - i).toNat) (rgV i j) := by
  have := Reps.ints (K := K) (H := H) (O := O) ((List.range (j - i).toNat).map fun (k : Nat) => i + (k : Int) * 1)
  rw [List.map_map, List.map_map] at this
  have e : rgV i j = List.map (V.int ∘ fun (k : Nat) => i + (k : Int) * 1) (List.range (j - i).toNat) := by
    unfold rgV
    refine List.map_congr_left fun k _ => ?_
    simp only [Function.comp, Int.mul_one]
  rw [e]
  exact this
theorem rgOk_small {i j : Int} (h : smallR i j = true) (h2 : (j - i).toNat ≤ lineN) : RgOk i j := by
  unfold smallR at h
  have h := of_decide_eq_true h
  unfold lineN at h2
  exact ⟨by omega, by omega, by omega, by omega, by omega⟩
theorem sE_lrng1 {f g : Str} {p p2 p3 : Pos} (cx : Ctx X n M T N) (hg : Gl X "list") (hg2 : Gl X "range") (ha : PE X a (tE X.K T sa)) (n1 : nst a = true) : PE X (.Call (.Name "list" p) [.Call (.Name "range" p2) [a] [] p3] [] pos) (tE X.K T (.lrng (.cons sa .nil))) :=
  PE.imp (pe_listRg cx.calm hg (cx.facts.bis "list" (by decide)) (prg_1 hg2 (cx.facts.bis "range" (by decide)) ha (star_cons n1)) rfl) (fun σ H Q ⟨O, ρ, v, w, eo, h, q⟩ => by
    simp only [ev, evs] at h
    obtain ⟨vs, g1, h⟩ := bok h
    obtain ⟨x, h1, h2⟩ := bok g1
    obtain rfl : [x] = vs := by cases h2; rfl
    clear g1 h2
    cases x with
    | int j =>
      simp only [lrngV] at h
      obtain ⟨hc, h⟩ := iok h
      subst h
      rw [Bool.and_eq_true] at hc
      refine ⟨O, ρ, _, w, eo, h1, fun x1 H1 e1 r1 => ?_⟩
      simp only [Rep] at r1
      have hj : (j - 0).toNat = j.toNat := by rw [Int.sub_zero]
      refine ⟨j, r1, rgOk_small hc.1 (by rw [hj]; exact of_decide_eq_true hc.2), fun l nl => q _ _ (e1.trans (Ext.upd nl)) (Rep.lst_new (w.ext e1) nl ?_)⟩
      have := rgV_reps (K := X.K) (H := H1) (O := O) (i := 0) (j := j)
      rw [hj] at this
      exact this
    | _ => simp only [lrngV] at h; cases h)
theorem sE_lrng2 {f g : Str} {p p2 p3 : Pos} (cx : Ctx X n M T N) (hg : Gl X "list") (hg2 : Gl X "range") (ha : PE X a (tE X.K T sa)) (n1 : nst a = true) (hb : PE X b (tE X.K T sb)) (n2 : nst b = true) : PE X (.Call (.Name "list" p) [.Call (.Name "range" p2) [a, b] [] p3] [] pos) (tE X.K T (.lrng (.cons sa (.cons sb .nil)))) :=
  PE.imp (pe_listRg cx.calm hg (cx.facts.bis "list" (by decide)) (prg_2 hg2 (cx.facts.bis "range" (by decide)) ha hb (star_cons n1) (star_cons n2) (by rw [star_cons n2]; rfl)) rfl) (fun σ H Q ⟨O, ρ, v, w, eo, h, q⟩ => by
    simp only [ev, evs] at h
    obtain ⟨vs, g1, h⟩ := bok h
    obtain ⟨x, h1, h2⟩ := bok g1
    obtain ⟨us, g3, h2⟩ := bok h2
    obtain ⟨y, h3, h4⟩ := bok g3
    obtain rfl : [y] = us := by cases h4; rfl
    obtain rfl : [x, y] = vs := by cases h2; rfl
    clear g1 g3 h2 h4
    refine ⟨O, ρ, x, w, eo, h1, fun x1 H1 e1 r1 => ⟨O, ρ, y, w.ext e1, eo.ext w e1, h3, fun x2 H2 e2 r2 => ?_⟩⟩
    cases x with
    | int i =>
      cases y with
      | int j =>
        simp only [lrngV] at h
        obtain ⟨hc, h⟩ := iok h
        subst h
        rw [Bool.and_eq_true] at hc
        simp only [Rep] at r1 r2
        exact ⟨i, j, r1, r2, rgOk_small hc.1 (of_decide_eq_true hc.2), fun l nl => q _ _ ((e1.trans e2).trans (Ext.upd nl)) (Rep.lst_new ((w.ext e1).ext e2) nl rgV_reps)⟩
      | _ => simp only [lrngV] at h; cases h
    | _ => simp only [lrngV] at h; cases h)
theorem sE_call {f : Nat} {x : Str} {p : Pos} (cx : Ctx X n M T N) (hf : M.fn f = some x) (hg : Gl X x) (hd : dbg x = true) (ha : PA X es (tA X.K T ses)) (hs : es.all nst = true) (hn : es = [] → ses = .nil) : PE X (.Call (.Name x p) es [] pos) (tE X.K T (.call f ses)) := by
  obtain ⟨fa, fd, ps, m, kp, hb, F, hl, _⟩ := cx.facts.fns f x hf
  have key : ∀ σ H Q, tE X.K T (.call f ses) σ H Q → tCall (spC X.K ps.length (T.C f)) [] E0 (tA X.K T ses) σ H Q := fun σ H Q ⟨O, ρ, v, w, eo, h, q⟩ => by
    simp only [ev] at h
    obtain ⟨vs, h1, h⟩ := bok h
    exact ⟨O, ρ, vs, w, eo, h1, fun xs H1 e1 r1 => ⟨O, vs, v, w.ext e1, by rw [List.append_nil]; exact r1, hl _ _ h, h, q.ext e1⟩⟩
  cases es with
  | nil =>
    refine PE.imp (pe_call0 F cx.room hg m kp hb .nil pass0 (dbg_1 hd)) (fun σ H Q h => ?_)
    obtain ⟨O, ρ, vs, w, eo, h1, q⟩ := key σ H Q h
    have : vs = [] := by
      rw [hn rfl] at h1
      simp only [evs] at h1; cases h1; rfl
    subst this
    exact q [] H Ext.refl Reps.nil
  | cons e es =>
    simp only [List.all_cons, Bool.and_eq_true] at hs
    exact PE.imp (pe_call F cx.room hg m kp hb .nil pass0 ha (dbg_1 hd) (star_cons hs.1) (star_any hs.2)) key
theorem biCallB {id : String} {b : Bi} {x : Str} {p : Pos} (hc : CallR X (.builtin id) (rVs X.K (bi1 b))) (hg : Gl X x) (hm : X.mg x = none) (hv : bootBuiltins x = some (.builtin id)) (hn : x ≠ "__name__") (hd : (x == ("__debug__" : Str)) = false)
    (ha : PA X (e :: es) (tA X.K T ses)) (h1 : nst e = true) (h2 : es.all nst = true) : PE X (.Call (.Name x p) (e :: es) [] pos) (tE X.K T (.bi b ses)) :=
  PE.imp (pe_callB hc hg hm hv ha hn hd (star_cons h1) (star_any h2)) (fun σ H Q ⟨O, ρ, v, w, eo, h, q⟩ => by
    simp only [ev] at h
    obtain ⟨vs, h1, h⟩ := bok h
    exact ⟨O, ρ, vs, w, eo, h1, fun xs H1 e1 r1 => ⟨O, vs, v, w.ext e1, r1, h, q.ext e1⟩⟩)
theorem biCallT {id : String} {b : Bi} {x : Str} {p : Pos} (hc : CallR X (.type id) (rVs X.K (bi1 b))) (hg : Gl X x) (hm : X.mg x = none) (hv : bootBuiltins x = some (.type id)) (hn : x ≠ "__name__") (hd : (x == ("__debug__" : Str)) = false)
    (ha : PA X (e :: es) (tA X.K T ses)) (h1 : nst e = true) (h2 : es.all nst = true) : PE X (.Call (.Name x p) (e :: es) [] pos) (tE X.K T (.bi b ses)) :=
  PE.imp (pe_callTy hc hg hm hv ha hn hd (star_cons h1) (star_any h2)) (fun σ H Q ⟨O, ρ, v, w, eo, h, q⟩ => by
    simp only [ev] at h
    obtain ⟨vs, h1, h⟩ := bok h
    exact ⟨O, ρ, vs, w, eo, h1, fun xs H1 e1 r1 => ⟨O, vs, v, w.ext e1, r1, h, q.ext e1⟩⟩)
theorem sE_bi {b : Bi} {p : Pos} (cx : Ctx X n M T N) (hb : biOk b = true) (hg : Gl X (Str.ofString (biName b))) (ha : PA X (e :: es) (tA X.K T ses)) (h1 : nst e = true) (h2 : es.all nst = true) :
    PE X (.Call (.Name (Str.ofString (biName b)) p) (e :: es) [] pos) (tE X.K T (.bi b ses)) := by
  have hm : X.mg (Str.ofString (biName b)) = none := cx.facts.bis _ (by cases b <;> decide)
  cases b <;> simp only [biOk] at hb <;> first | (cases hb; done) | skip
  · exact biCallB cb_len hg hm boot_len (by decide) (by decide) ha h1 h2
  · exact biCallB cb_abs hg hm (by decide +kernel) (by decide) (by decide) ha h1 h2
  · exact biCallB (cb_sum cx.calm) hg hm (by decide +kernel) (by decide) (by decide) ha h1 h2
  · exact biCallB (cb_all cx.calm) hg hm (by decide +kernel) (by decide) (by decide) ha h1 h2
  · exact biCallB (cb_any cx.calm) hg hm (by decide +kernel) (by decide) (by decide) ha h1 h2
  · exact biCallB (cb_max2 cx.calm) hg hm (by decide +kernel) (by decide) (by decide) ha h1 h2
  · exact biCallB (cb_min2 cx.calm) hg hm (by decide +kernel) (by decide) (by decide) ha h1 h2
  · exact biCallB (cb_max1 cx.calm) hg hm (by decide +kernel) (by decide) (by decide) ha h1 h2
  · exact biCallB (cb_min1 cx.calm) hg hm (by decide +kernel) (by decide) (by decide) ha h1 h2
  · exact biCallB cb_sorted hg hm (by decide +kernel) (by decide) (by decide) ha h1 h2
  · exact biCallT cb_list hg hm (by decide +kernel) (by decide) (by decide) ha h1 h2
  · exact biCallT cb_tuple hg hm (by decide +kernel) (by decide) (by decide) ha h1 h2
  · exact biCallT cb_int hg hm (by decide +kernel) (by decide) (by decide) ha h1 h2
theorem sE_isi {t : Ty} {p p2 : Pos} (cx : Ctx X n M T N) (hg : Gl X "isinstance") (hg2 : Gl X (Str.ofString (tyName t))) (ha : PE X a (tE X.K T sa)) (h1 : nst a = true) :
    PE X (.Call (.Name "isinstance" p) [a, .Name (Str.ofString (tyName t)) p2] [] pos) (tE X.K T (.isi sa t)) := by
  have hm : X.mg "isinstance" = none := cx.facts.bis "isinstance" (by decide)
  have hm2 : X.mg (Str.ofString (tyName t)) = none := cx.facts.bis _ (by cases t <;> decide)
  have ht : PE X (.Name (Str.ofString (tyName t)) p2) (tC (.ty (tyName t))) := by
    refine pe_bltn (u := .type (tyName t)) hg2 hm2 ?_ rfl ?_ ?_
    · cases t <;> decide +kernel
    · cases t <;> decide
    · cases t <;> decide
  refine PE.imp (pe_callB call_isi hg hm boot_isinstance (pa_cons ha (pa_cons ht pa_nil rfl) (star_cons h1)) (by decide) (by decide) (star_cons h1) rfl) (fun σ H Q ⟨O, ρ, v, w, eo, h, q⟩ => ?_)
  simp only [ev] at h
  obtain ⟨x, h1, h⟩ := bok h
  obtain ⟨r, h2, h⟩ := bok h
  cases h
  exact ⟨O, ρ, x, w, eo, h1, fun x1 H1 e1 r1 => ⟨x1, .ty (tyName t), .type (valTy x), .type (tyName t), r, rfl, .ty _, rep_ty r1 (isi_scr h2), isi_kit h2, q _ _ e1 (by simp only [Rep])⟩⟩
/-! ### and, or -/
theorem evB_two {an : Bool} {e : SE} {e' : SE} {r : SEs} {ρ : VE} : evB T an (.cons e (.cons e' r)) ρ = (do let x ← ev T e ρ; let k ← tru x; if k = an then evB T an (.cons e' r) ρ else .ok (.bl (!an))) := by
  simp only [evB]
def tBo (K : PySem.W.Frag) (T : Tab) (an : Bool) (s : SEs) : TE := fun σ H Q => ∃ O ρ v, WF H O ∧ EOk K H O σ ρ ∧ evB T an s ρ = .ok v ∧ Post K H O v Q
def tBT (K : PySem.W.Frag) (T : Tab) (an : Bool) (s : SEs) : TT := fun σ H Q => ∃ O ρ b, WF H O ∧ EOk K H O σ ρ ∧ evB T an s ρ = .ok (.bl b) ∧ ∀ H', Ext H H' → Q b H'
def bop (an : Bool) : PySem.BoolOp := if an then .And else .Or
theorem sB_one {an : Bool} (ha : PE X a (tE X.K T sa)) : PE X (.BoolOp (bop an) [a] pos) (tBo X.K T an (.cons sa .nil)) :=
  PE.imp (pe_one ha) (fun σ H Q ⟨O, ρ, v, w, eo, h, q⟩ => by simp only [evB] at h; exact ⟨O, ρ, v, w, eo, h, q⟩)
theorem sBT_one {an : Bool} (ha : PT X a (tT X.K T sa)) : PW X (.BoolOp (bop an) [a] pos) (tBT X.K T an (.cons sa .nil)) := by
  cases an with
  | true => exact PW.imp (pw_and1 ha) (fun σ H Q ⟨O, ρ, v, w, eo, h, q⟩ => by simp only [evB] at h; exact ⟨O, ρ, v, w, eo, h, q⟩)
  | false => exact PW.imp (pw_or1 ha) (fun σ H Q ⟨O, ρ, v, w, eo, h, q⟩ => by simp only [evB] at h; exact ⟨O, ρ, v, w, eo, h, q⟩)
theorem sB_cons {an : Bool} {s2 : SE} {r2 : SEs} (ha : PE X a (tE X.K T sa)) (hb : PE X (.BoolOp (bop an) (b :: es) pos) (tBo X.K T an (.cons s2 r2))) : PE X (.BoolOp (bop an) (a :: b :: es) pos) (tBo X.K T an (.cons sa (.cons s2 r2))) := by
  cases an with
  | true =>
    refine PE.imp (pe_and ha hb) (fun σ H Q ⟨O, ρ, v, w, eo, h, q⟩ => ?_)
    rw [evB_two] at h
    obtain ⟨x, h1, h⟩ := bok h
    obtain ⟨k, h2, hK⟩ := bok h
    obtain rfl := tru_ok h2
    replace h := hK
    refine ⟨O, ρ, _, w, eo, h1, fun x1 H1 e1 r1 => ?_⟩
    simp only [Rep] at r1
    refine ⟨k, r1, ?_⟩
    cases k with
    | true => simp only [if_true] at h ⊢; exact ⟨O, ρ, v, w.ext e1, eo.ext w e1, h, q.ext e1⟩
    | false => simp only [Bool.false_eq_true, if_false] at h ⊢; cases h; exact q _ _ e1 (by simp only [Rep]; rfl)
  | false =>
    refine PE.imp (pe_or ha hb) (fun σ H Q ⟨O, ρ, v, w, eo, h, q⟩ => ?_)
    rw [evB_two] at h
    obtain ⟨x, h1, h⟩ := bok h
    obtain ⟨k, h2, hK⟩ := bok h
    obtain rfl := tru_ok h2
    replace h := hK
    refine ⟨O, ρ, _, w, eo, h1, fun x1 H1 e1 r1 => ?_⟩
    simp only [Rep] at r1
    refine ⟨k, r1, ?_⟩
    cases k with
    | false => rw [if_pos rfl] at h; rw [if_neg (by decide)]; exact ⟨O, ρ, v, w.ext e1, eo.ext w e1, h, q.ext e1⟩
    | true => rw [if_neg (by decide)] at h; cases h; rw [if_pos rfl]; exact q _ _ e1 (by simp only [Rep]; rfl)
theorem sBT_cons {an : Bool} {s2 : SE} {r2 : SEs} (ha : PT X a (tT X.K T sa)) (hb : PW X (.BoolOp (bop an) (b :: es) pos) (tBT X.K T an (.cons s2 r2))) : PW X (.BoolOp (bop an) (a :: b :: es) pos) (tBT X.K T an (.cons sa (.cons s2 r2))) := by
  cases an with
  | true =>
    refine PW.imp (pw_and ha hb) (fun σ H Q ⟨O, ρ, v, w, eo, h, q⟩ => ?_)
    rw [evB_two] at h
    obtain ⟨x, h1, h⟩ := bok h
    obtain ⟨k, h2, hK⟩ := bok h
    obtain rfl := tru_ok h2
    replace h := hK
    refine ⟨O, ρ, k, w, eo, h1, fun H1 e1 => ?_⟩
    cases k with
    | true => simp only [if_true] at h ⊢; exact ⟨O, ρ, v, w.ext e1, eo.ext w e1, h, fun H2 e2 => q _ (e1.trans e2)⟩
    | false => simp only [Bool.false_eq_true, if_false] at h ⊢; cases h; exact q _ e1
  | false =>
    refine PW.imp (pw_or ha hb) (fun σ H Q ⟨O, ρ, v, w, eo, h, q⟩ => ?_)
    rw [evB_two] at h
    obtain ⟨x, h1, h⟩ := bok h
    obtain ⟨k, h2, hK⟩ := bok h
    obtain rfl := tru_ok h2
    replace h := hK
    refine ⟨O, ρ, k, w, eo, h1, fun H1 e1 => ?_⟩
    cases k with
    | false => rw [if_pos rfl] at h; rw [if_neg (by decide)]; exact ⟨O, ρ, v, w.ext e1, eo.ext w e1, h, fun H2 e2 => q _ (e1.trans e2)⟩
    | true => rw [if_neg (by decide)] at h; cases h; rw [if_pos rfl]; exact q _ e1
end
end VM

set_option Elab.async false
set_option linter.all false
set_option maxRecDepth 100000
set_option maxHeartbeats 4000000
/-! W5b: the greatest of a list, or what is told for none. -/
namespace VM
open PySem PySem.Spec PyProof.Rows L2
section
variable {X : Cx}
theorem alike_ints (ns : List Int) : PySem.W.AlikeAll (ns.map PyData.int) := by
  constructor
  · intro x hx y hy
    obtain ⟨a, _, rfl⟩ := List.mem_map.mp hx
    obtain ⟨b, _, rfl⟩ := List.mem_map.mp hy
    rfl
  · intro x hx
    obtain ⟨a, _, rfl⟩ := List.mem_map.mp hx
    exact fun z => nomatch z
theorem depth_ints : ∀ ns : List Int, PyData.depthAll (ns.map PyData.int) ≤ 1
  | [] => by simp [PyData.depthAll]
  | n :: ns => by
    have := depth_ints ns
    simp only [List.map_cons, PyData.depthAll, PyData.depth]
    omega
theorem foldl_max (x : Int) : ∀ r : List Int, r.foldl max x = r.foldl (fun a b => if a < b then b else a) x := by
  intro r
  have : (max : Int → Int → Int) = fun a b => if a < b then b else a := by
    funext a b
    split <;> omega
  rw [this]
def rMaxd (K : PySem.W.Frag) : List V → List V → Hp → VK → Prop := fun xs zs H Q => ∃ x y, xs = [x] ∧ zs = [y] ∧ rVs K (bi1 .maxd) [x, y] H Q
theorem cb_maxd (hc : X.calm = true) (hu : X.A.units + 65 < cLine) : CallRK X (.builtin "max") [Str.ofString "default"] (rMaxd X.K) := by
  intro pins s σ H xs zs us ws Q I rx rz ⟨x, y, ex, ez, O, as, r, w, ra, e, q⟩
  subst ex ez
  unfold bi1 at e
  split at e <;> first | (cases e; done) | skip
  all_goals (try (rename_i hh; cases hh))
  obtain ⟨ns, h1, e2⟩ := bok e
  clear e
  obtain rfl := asInts_ok h1
  obtain ⟨x', y', exy, p, p'⟩ := reps2 ra
  cases exy
  simp only [Rep] at p'
  subst p'
  obtain ⟨a, rfl, sq⟩ := rep_ints p
  obtain ⟨its, rv, hl, _⟩ := I.list sq
  rw [Vals.ref1 rx]
  obtain ⟨u, rfl, ru⟩ := rz.one
  obtain ⟨t, rfl⟩ := ru
  have hd : PyData.depthAll (ns.map PyData.int) ≤ 1 := depth_ints ns
  show wpAny _ _ (call (.builtin "max") [.ref a] [(Str.ofString "default", _)]) _ _ _
  refine PySem.W.max_list_default (xs := ns.map PyData.int) (I.ok.hd hc) hl.isList (rv.ints.reads _) (alike_ints ns) (by omega) (fun h0 h' tk hk => ?_) (fun y ys i v h' tk bs hxs hv hr hk => ?_)
  · have hn : ns = [] := List.map_eq_nil_iff.mp h0
    rw [if_pos hn] at e2
    cases e2
    exact ⟨.int _, H, I.kept hk, ⟨_, rfl⟩, q.at (by simp only [Rep])⟩
  · cases ns with
    | nil => cases hxs
    | cons m ms =>
      rw [if_neg (by simp)] at e2
      obtain ⟨z, h2, e3⟩ := bok e2
      clear e2
      cases e3
      cases hxs
      rw [PySem.W.maxD_ints] at hr
      cases hr
      simp only [maxI] at h2
      cases h2
      refine ⟨.int _, H, I.kept hk, ⟨_, rfl⟩, q.at ?_⟩
      simp only [Rep]
      rw [foldl_max]
variable {n : Nat} {M : Nm} {T : Tab} {N : List Str} {a b : Expr} {sa sb : SE} {pos : Pos}
theorem sE_mxd {p kp : Pos} (cx : Ctx X n M T N) (hg : Gl X "max") (ha : PE X a (tE X.K T sa)) (n1 : nst a = true) (hb : PE X b (tE X.K T sb)) :
    PE X (.Call (.Name "max" p) [a] [⟨some (Str.ofString "default"), b, kp⟩] pos) (tE X.K T (.mxd sa sb)) :=
  PE.imp (pe_callBK (cb_maxd cx.calm cx.u65) hg (cx.facts.bis "max" (by decide)) boot_max (sA_cons ha sA_nil n1) (pk_cons hb pk_nil) (by decide) (by decide) (by rw [star_cons n1]; rfl) (by rw [star_cons n1]; rfl)) (fun σ H Q ⟨O, ρ, v, w, eo, h, q⟩ => by
    simp only [ev] at h
    obtain ⟨x, h1, h⟩ := bok h
    obtain ⟨y, h2, h⟩ := bok h
    refine ⟨O, ρ, [x], w, eo, by simp only [evs, h1]; rfl, fun xs H1 e1 r1 => ?_⟩
    refine ⟨O, ρ, y, w.ext e1, eo.ext w e1, h2, fun y1 H2 e2 r2 => ?_⟩
    obtain ⟨x1, rfl, rx⟩ := reps1 r1
    exact ⟨x1, y1, rfl, rfl, O, [x, y], v, (w.ext e1).ext e2, Reps.cons (rx.ext (w.ext e1) e2) (Reps.cons r2 Reps.nil), h, q.ext (e1.trans e2)⟩)
end
end VM

set_option Elab.async false
set_option linter.all false
set_option maxRecDepth 100000
set_option maxHeartbeats 8000000
/-! W7: comprehensions; every expression that passes the look keeps its promise. -/
namespace VM
open PySem PySem.Spec PyProof.Rows L2

theorem wipe_get : ∀ {vs : List Nat} {σ : L2.St} {j : Nat}, (wipe σ vs)[j]? = if j ∈ vs then (if j < σ.length then some none else none) else σ[j]?
  | [], σ, j => by simp [wipe]
  | v :: vs, σ, j => by
    have ih := @wipe_get vs σ j
    show ((wipe σ vs).set v none)[j]? = _
    by_cases h : v = j
    · subst h
      by_cases hl : v < σ.length
      · rw [List.getElem?_set_self (by rw [wipe_length]; exact hl)]; simp [hl]
      · rw [List.getElem?_eq_none (by rw [List.length_set, wipe_length]; omega)]; simp [hl]
    · rw [List.getElem?_set_ne h, ih]
      have : (j ∈ v :: vs) ↔ j ∈ vs := by simp [List.mem_cons, Ne.symm h]
      simp only [this]
theorem wipe_set {vs : List Nat} {σ : L2.St} {i : Nat} {x : Option V} (h : i ∈ vs) : wipe (σ.set i x) vs = wipe σ vs := by
  apply List.ext_getElem?
  intro j
  rw [wipe_get, wipe_get, List.length_set]
  by_cases hj : j ∈ vs
  · simp [hj]
  · simp only [hj, if_false]
    rw [List.getElem?_set_ne]
    intro e; subst e; exact hj h
theorem wipe_setsV {vs : List Nat} : ∀ {is : List Nat} {xs : List V} {σ : L2.St}, (∀ i ∈ is, i ∈ vs) → wipe (setsV σ is xs) vs = wipe σ vs
  | [], _, _, _ => rfl
  | _ :: _, [], _, _ => rfl
  | i :: is, x :: xs, σ, h => by
    show wipe (setsV (σ.set i (some x)) is xs) vs = _
    rw [wipe_setsV (fun j hj => h j (List.mem_cons_of_mem _ hj)), wipe_set (h i (List.mem_cons_self ..))]
theorem wipe_wipe {vs : List Nat} {σ : L2.St} : wipe (wipe σ vs) vs = wipe σ vs := by
  apply List.ext_getElem?
  intro j
  rw [wipe_get, wipe_length]
  by_cases hj : j ∈ vs
  · simp [hj, wipe_get]
  · simp only [hj, if_false]
mutual
theorem flatT_ix : ∀ {t : Tg} {v : Val} {bs : List (Nat × Val)}, flatT t v = .ok bs → bs.map (·.1) = tgIx t
  | .nm i, v, bs, h => by simp only [flatT] at h; cases h; rfl
  | .tp ts, v, bs, h => by
    cases v <;> simp only [flatT] at h <;> first | (cases h; done) | exact flatTs_ix h
theorem flatTs_ix : ∀ {t : Tgs} {v : List Val} {bs : List (Nat × Val)}, flatTs t v = .ok bs → bs.map (·.1) = tgsIx t
  | .nil, [], bs, h => by simp only [flatTs] at h; cases h; rfl
  | .nil, _ :: _, bs, h => by simp only [flatTs] at h; cases h
  | .cons _ _, [], bs, h => by simp only [flatTs] at h; cases h
  | .cons t r, v :: vs, bs, h => by
    simp only [flatTs] at h
    obtain ⟨b1, h1, h⟩ := bok h
    obtain ⟨b2, h2, h⟩ := bok h
    cases h
    rw [List.map_append, flatT_ix h1, flatTs_ix h2]; rfl
end
theorem wipeE_len (ρ : VE) : ∀ own : List Nat, (wipeE ρ own).length = ρ.length
  | [] => rfl
  | v :: vs => by unfold wipeE; rw [List.length_set, wipeE_len ρ vs]
theorem EOk.wipe {K : PySem.W.Frag} {H : Hp} {O : Hid} {σ : L2.St} {ρ : VE} (h : EOk K H O σ ρ) : ∀ own : List Nat, EOk K H O (wipe σ own) (wipeE ρ own)
  | [] => h
  | v :: vs => by
    have ih := EOk.wipe h vs
    refine ⟨by rw [wipeE_len, wipe_length]; exact h.len, fun j u e => ?_⟩
    unfold wipeE at e
    by_cases hj : v = j
    · subst hj
      by_cases hl : v < (wipeE ρ vs).length
      · rw [List.getElem?_set_self hl] at e; cases e
      · rw [List.getElem?_eq_none (by rw [List.length_set]; omega)] at e; cases e
    · rw [List.getElem?_set_ne hj] at e
      obtain ⟨x, h1, h2⟩ := ih.get j u e
      refine ⟨x, ?_, h2⟩
      show ((L2.wipe σ vs).set v none)[j]? = _
      rw [List.getElem?_set_ne hj]; exact h1

def tCo (K : PySem.W.Frag) (T : Tab) (c : SO) : TT := fun σ H Q => ∃ O ρ b, WF H O ∧ EOk K H O σ ρ ∧ evC T c ρ = .ok b ∧ ∀ H', Ext H H' → Q b H'
section
variable {X : Cx} {n : Nat} {M : Nm} {T : Tab} {N : List Str}
theorem PTs.imp {es : List Expr} {t t' : TT} (h : PTs X es t) (i : ∀ σ H Q, t' σ H Q → t σ H Q) : PTs X es t' := ⟨fun pins s σ H Q I q => h.run pins s σ H Q I (i σ H Q q)⟩
theorem sC_nil : PTs X [] (tCo X.K T .none) := PTs.imp pts_nil (fun σ H Q ⟨O, ρ, b, w, eo, h, q⟩ => by simp only [evC] at h; cases h; exact q H Ext.refl)
theorem sC_one {e : Expr} {s : SE} (h : PT X e (tT X.K T s)) : PTs X [e] (tCo X.K T (.some s)) := PTs.imp (pts_one h) (fun σ H Q ⟨O, ρ, b, w, eo, h, q⟩ => by
  simp only [evC] at h
  obtain ⟨x, h1, h⟩ := bok h
  obtain rfl := tru_ok h
  exact ⟨O, ρ, b, w, eo, h1, q⟩)
theorem tE_comp {K : PySem.W.Frag} {own : List Nat} {tg : Tg} {it : SI} {c : SO} {el : SE} (hown : ∀ i ∈ tgIx tg, i ∈ own) : ∀ σ H Q, tE K T (.comp own tg it c el) σ H Q →
    tLc (tI K T it) (gR K tg) (tCo K T c) (tE K T el) own σ H Q := by
  intro σ H Q ⟨O, ρ, v, w, eo, h, q⟩
  simp only [ev] at h
  obtain ⟨items, h1, h⟩ := bok h
  by_cases hlen : items.length ≤ lineN
  case neg => rw [if_neg hlen] at h; cases h
  rw [if_pos hlen] at h
  obtain ⟨ys, h2, h⟩ := bok h
  cases h
  refine ⟨O, ρ, items, w, eo, h1, fun J H1 e1 hit => ?_⟩
  intro D nD
  have w1 : WF H1 O := w.ext e1
  refine ⟨fun i m H2 => m = items.length - i ∧ i ≤ items.length ∧ ∃ acc xs ys', H2 D = some (.lst xs) ∧ Reps K H2 (fun a => O a ∨ a = D) acc xs ∧
    compGo (bindE tg) (evC T c) (ev T el) (wipeE ρ own) (items.drop i) = .ok ys' ∧ acc ++ ys' = ys ∧ xs.length ≤ i ∧ Ext H1 H2,
    ⟨items.length, by omega, Nat.zero_le _, [], [], ys, upd_same, Reps.nil, by simpa using h2, rfl, Nat.zero_le _, Ext.upd nD⟩, ?_⟩
  rintro i m H2 ⟨rfl, hi, acc, xs, ys', hD, hr, hgo, hcat, hxl, e2⟩
  have w2 : WF H2 (fun a => O a ∨ a = D) := fun a ha => by
    rcases ha with ha | rfl
    · exact w1.ext e2 a ha
    · exact ⟨_, hD, True.intro⟩
  have k2 : Keep H1 O H2 (fun a => O a ∨ a = D) := ⟨fun a o h _ => e2 a o h, fun a h => h.elim .inl (fun e => .inr (e ▸ nD))⟩
  obtain ⟨stop, go⟩ := hit i H2 _ w2 k2
  by_cases hlt : i < items.length
  · obtain ⟨g, y⟩ := go items[i] (List.getElem?_eq_getElem hlt)
    refine .inr ⟨g, fun H' => i + 1 ≤ items.length ∧ ∃ acc xs ys', H' D = some (.lst xs) ∧ Reps K H' (fun a => O a ∨ a = D) acc xs ∧
      compGo (bindE tg) (evC T c) (ev T el) (wipeE ρ own) (items.drop (i + 1)) = .ok ys' ∧ acc ++ ys' = ys ∧ xs.length ≤ i + 1 ∧ Ext H1 H',
      fun H' nx => ⟨items.length - (i + 1), by omega, rfl, nx⟩, fun x H3 hy => ?_⟩
    obtain ⟨e3, rx⟩ := y x H3 hy
    rw [List.drop_eq_getElem_cons hlt] at hgo
    simp only [compGo] at hgo
    obtain ⟨ρ1, hb, hgo⟩ := bok hgo
    simp only [bindE] at hb
    obtain ⟨bs, hf, hb⟩ := bok hb
    cases hb
    obtain ⟨b, hc, hgo⟩ := bok hgo
    have w3 := w2.ext e3
    have eo3 : EOk K H3 (fun a => O a ∨ a = D) (wipe σ own) (wipeE ρ own) := (((eo.ext w e1).keep w1 k2).ext w2 e3).wipe own
    refine ⟨_, items[i], bs, w3, rx, hf, fun zs hz => ⟨?_, ?_⟩⟩
    · rw [wipe_setsV (fun j hj => hown j (by rw [← flatT_ix hf]; exact hj)), wipe_wipe]
    · refine ⟨_, setsE (wipeE ρ own) bs, b, w3, eo3.sets hz, hc, fun H4 e4 => ?_⟩
      cases b with
      | false =>
        simp only [Bool.false_eq_true, if_false] at hgo ⊢
        exact ⟨hlt, acc, xs, ys', e4 _ _ (e3 _ _ hD), (hr.ext w2 e3).ext w3 e4, hgo, hcat, Nat.le_succ_of_le hxl, (e2.trans e3).trans e4⟩
      | true =>
        simp only [if_true] at hgo ⊢
        obtain ⟨yv, hy1, hgo⟩ := bok hgo
        obtain ⟨ys2, hy2, hgo⟩ := bok hgo
        cases hgo
        have w4 := w3.ext e4
        refine ⟨_, setsE (wipeE ρ own) bs, yv, w4, (eo3.sets hz).ext w3 e4, hy1, fun z H5 e5 rz => ?_⟩
        have hD5 : H5 D = some (.lst xs) := e5 _ _ (e4 _ _ (e3 _ _ hD))
        refine ⟨xs, hD5, by rw [← lineN_eq]; omega, hlt, acc ++ [yv], xs ++ [z], ys2, upd_same, ?_, hy2, by rw [List.append_assoc]; exact hcat, by simp; omega, fun a o ha => ?_⟩
        · have w5 := w4.ext e5
          refine Reps.keep w5 (O' := fun a => O a ∨ a = D) ⟨fun a o ha na => ?_, fun a ha => .inl ha⟩ (((((hr.ext w2 e3).ext w3 e4).ext w4 e5)).append (Reps.cons rz Reps.nil))
          rw [upd_ne (fun e => na (.inr e))]; exact ha
        · rw [upd_ne (ne_of_none ha nD)]
          exact e5 _ _ (e4 _ _ (e3 _ _ (e2 _ _ ha)))
  · have hie : i = items.length := by omega
    subst hie
    rw [List.drop_length] at hgo
    simp only [compGo] at hgo
    cases hgo
    rw [List.append_nil] at hcat
    subst hcat
    refine .inl ⟨stop (Nat.le_refl _), q _ _ (e1.trans e2) ?_⟩
    simp only [Rep]
    exact ⟨D, xs, rfl, w1.new nD, hD, Reps.keep w2 ⟨fun a o ha _ => ha, fun a ha => .inl (.inl ha)⟩ hr⟩

theorem own_snd (N : List Str) (own : List Nat) : (own.map fun i => (N.getD i "", i)).map (·.2) = own := by
  rw [List.map_map]
  exact List.map_id own
theorem chkGs_nst {sc : Scope} {fn : Str → Bool} : ∀ {ts : Tgs} {es : List Expr}, chkGs N sc fn ts es = true → es.all nst = true ∧ ∀ us bs, flatTs ts us = .ok bs → us.length = es.length
  | .nil, es, h => by
    simp only [chkGs] at h
    cases es with
    | nil =>
      refine ⟨rfl, fun us bs hf => ?_⟩
      cases us with
      | nil => rfl
      | cons => simp only [flatTs] at hf; cases hf
    | cons => cases h
  | .cons t r, [], h => by simp only [chkGs] at h; cases h
  | .cons t r, e :: es, h => by
    simp only [chkGs, Bool.and_eq_true] at h
    obtain ⟨h1, h2⟩ := chkGs_nst h.2
    refine ⟨by simp only [List.all_cons, h.1.1, h1, Bool.and_self], fun us bs hf => ?_⟩
    cases us with
    | nil => simp only [flatTs] at hf; cases hf
    | cons u us =>
      simp only [flatTs] at hf
      obtain ⟨b1, _, hf⟩ := bok hf
      obtain ⟨b2, hf2, hf⟩ := bok hf
      rw [List.length_cons, List.length_cons, h2 us b2 hf2]
mutual
theorem sndG : ∀ (t : Tg) {X : Cx} {fn : Str → Bool} {e : Expr}, X.N = N → X.N.Nodup → X.calm = true → (∀ x, fn x = true → X.fn x = true) → chkG N X.env.scope fn t e = true → PG X e (gR X.K t)
  | .nm i, X, fn, e, hN, nd, cm, hf, h => by
    simp only [chkG] at h
    split at h
    · rename_i x p
      rw [Bool.and_eq_true] at h
      have hi : X.N[i]? = some x := by rw [hN]; exact of_decide_eq_true h.1
      have h2 := h.2
      rw [Bool.or_eq_true, Bool.and_eq_true] at h2
      rcases h2 with h2 | ⟨h2, h3⟩
      · split at h2
        · rename_i hl; exact sG_nm nd hi (.inl hl) (.inr hl)
        · cases h2
      · split at h2
        · rename_i hl; exact sG_nm nd hi (.inr hl) (.inl (hf _ h3))
        · cases h2
    · cases h
  | .tp ts, X, fn, e, hN, nd, cm, hf, h => by
    simp only [chkG] at h
    split at h
    · obtain ⟨h1, h2⟩ := chkGs_nst h
      exact sG_tp cm (sndGs ts hN nd cm hf h) h1 h2
    · cases h
theorem sndGs : ∀ (t : Tgs) {X : Cx} {fn : Str → Bool} {es : List Expr}, X.N = N → X.N.Nodup → X.calm = true → (∀ x, fn x = true → X.fn x = true) → chkGs N X.env.scope fn t es = true → PGs X es (gRs X.K t)
  | .nil, X, fn, es, hN, nd, cm, hf, h => by
    simp only [chkGs] at h
    cases es with
    | nil => exact sGs_nil
    | cons => cases h
  | .cons t r, X, fn, [], hN, nd, cm, hf, h => by simp only [chkGs] at h; cases h
  | .cons t r, X, fn, e :: es, hN, nd, cm, hf, h => by
    simp only [chkGs, Bool.and_eq_true] at h
    exact sGs_cons (sndG t hN nd cm hf h.1.2) (sndGs r hN nd cm hf h.2) h.1.1
end
theorem chkEs_nst {sc : Scope} : ∀ {s : SEs} {es : List Expr}, chkEs M N s sc es = true → es.all nst = true
  | .nil, es, h => by
    simp only [chkEs] at h
    cases es with
    | nil => rfl
    | cons => cases h
  | .cons e r, [], h => by rfl
  | .cons e r, x :: es, h => by
    simp only [chkEs, Bool.and_eq_true] at h
    simp only [List.all_cons, h.1.1, chkEs_nst h.2, Bool.and_self]
theorem chkEs_nil {sc : Scope} {s : SEs} {es : List Expr} (h : chkEs M N s sc es = true) : es = [] → s = .nil := by
  intro e
  subst e
  cases s with
  | nil => rfl
  | cons => simp only [chkEs] at h; cases h
theorem opBin_of {o : Op2} {p : Operator} (h : (match opBin o with | some q => opEqB q p | none => false) = true) : opBin o = some p := by
  split at h
  · rename_i q e; rw [e, opEqB_eq h]
  · cases h
theorem opCmp_of {o : Op2} {p : CmpOp} (h : (match opCmp o with | some q => cmpEqB q p | none => false) = true) : opCmp o = some p := by
  split at h
  · rename_i q e; rw [e, cmpEqB_eq h]
  · cases h

mutual
theorem sndE : ∀ (s : SE) {X : Cx} {e : Expr}, Ctx X n M T N → chkE M N s X.env.scope e = true → PE X e (tE X.K T s) ∧ (tOk s = true → PT X e (tT X.K T s))
  | .var i, X, e, cx, h => by
    simp only [chkE] at h
    split at h
    · simp only [Bool.and_eq_true] at h
      refine ⟨?_, fun _ => sT_val ?_ rfl⟩ <;> exact sE_var (T := T) (by rw [cx.hN]; exact of_decide_eq_true h.1.1) (visB_vis h.1.2) h.2
    · cases h
  | .cint m, X, e, cx, h => by
    simp only [chkE] at h
    split at h
    · have := of_decide_eq_true h
      subst this
      exact ⟨sE_int, fun _ => sT_val sE_int rfl⟩
    · cases h
  | .cbl b, X, e, cx, h => by
    simp only [chkE] at h
    split at h
    · have := eq_of_beq h
      subst this
      exact ⟨sE_bl, fun _ => sT_val sE_bl rfl⟩
    · cases h
  | .cnon, X, e, cx, h => by
    simp only [chkE] at h
    split at h
    · exact ⟨sE_non, fun _ => sT_val sE_non rfl⟩
    · cases h
  | .cstr s, X, e, cx, h => by
    simp only [chkE] at h
    split at h
    · have := of_decide_eq_true h
      subst this
      exact ⟨sE_str, fun _ => sT_val sE_str rfl⟩
    · cases h
  | .glob g, X, e, cx, h => by
    simp only [chkE] at h
    split at h
    · simp only [Bool.and_eq_true] at h
      refine ⟨?_, fun _ => sT_val ?_ rfl⟩ <;> exact sE_glob cx (of_decide_eq_true h.1.1) (glB_gl h.1.2) h.2
    · cases h
  | .op o a b, X, e, cx, h => by
    simp only [chkE] at h
    split at h
    · simp only [Bool.and_eq_true] at h
      refine ⟨?_, fun _ => sT_val ?_ rfl⟩ <;> exact sE_bin (opBin_of h.1.1) (sndE a cx h.1.2).1 (sndE b cx h.2).1
    · simp only [Bool.and_eq_true] at h
      exact ⟨sE_cmp cx (opCmp_of h.1.1.1) h.1.1.2 (sndE a cx h.1.2).1 (sndE b cx h.2).1, fun _ => sT_cmp cx (opCmp_of h.1.1.1) h.1.1.2 (sndE a cx h.1.2).1 (sndE b cx h.2).1⟩
    · cases h
  | .neg a, X, e, cx, h => by
    simp only [chkE] at h
    split at h
    · refine ⟨?_, fun _ => sT_val ?_ rfl⟩ <;> exact sE_neg (sndE a cx h).1
    · cases h
  | .not1 a, X, e, cx, h => by
    simp only [chkE] at h
    split at h
    · exact ⟨sE_not (sndE a cx h).1, fun t => sT_not ((sndE a cx h).2 (by simpa only [tOk] using t))⟩
    · cases h
  | .bop an es, X, e, cx, h => by
    simp only [chkE] at h
    split at h
    · simp only [Bool.and_eq_true] at h
      obtain ⟨⟨rfl, h2⟩, h3⟩ := h
      have p := sndB es true cx h2 (by simpa using h3)
      refine ⟨PE.imp (p.1 _) (fun σ H Q ⟨O, ρ, v, w, eo, h, q⟩ => by simp only [ev] at h; exact ⟨O, ρ, v, w, eo, h, q⟩), fun t => PT.imp (p.2 (by simpa only [tOk] using t) _).pt (fun σ H Q ⟨O, ρ, v, w, eo, h, q⟩ => by simp only [ev] at h; exact ⟨O, ρ, v, w, eo, h, q⟩)⟩
    · simp only [Bool.and_eq_true, Bool.not_eq_true'] at h
      obtain ⟨⟨rfl, h2⟩, h3⟩ := h
      have p := sndB es false cx h2 (by simpa using h3)
      refine ⟨PE.imp (p.1 _) (fun σ H Q ⟨O, ρ, v, w, eo, h, q⟩ => by simp only [ev] at h; exact ⟨O, ρ, v, w, eo, h, q⟩), fun t => PT.imp (p.2 (by simpa only [tOk] using t) _).pt (fun σ H Q ⟨O, ρ, v, w, eo, h, q⟩ => by simp only [ev] at h; exact ⟨O, ρ, v, w, eo, h, q⟩)⟩
    · cases h
  | .chain o o' a b c, X, e, cx, h => by
    simp only [chkE] at h
    split at h
    · simp only [Bool.and_eq_true] at h
      obtain ⟨⟨⟨⟨⟨⟨h1, h2⟩, h3⟩, h4⟩, h5⟩, h6⟩, h7⟩ := h
      exact ⟨sE_chain cx (opCmp_of h1) (opCmp_of h2) h4 (sndE a cx h5).1 (sndE b cx h6).1 (sndE c cx h7).1, fun _ => sT_chain cx (opCmp_of h1) (opCmp_of h2) h4 (sndE a cx h5).1 (sndE b cx h6).1 (sndE c cx h7).1⟩
    · cases h
  | .ite c a b, X, e, cx, h => by
    simp only [chkE] at h
    split at h
    · simp only [Bool.and_eq_true] at h
      obtain ⟨⟨⟨h1, h2⟩, h3⟩, h4⟩ := h
      exact ⟨sE_ite ((sndE c cx h2).2 h1) (sndE a cx h3).1 (sndE b cx h4).1, fun t => by simp only [tOk] at t; cases t⟩
    · cases h
  | .tup es, X, e, cx, h => by
    simp only [chkE] at h
    split at h
    · refine ⟨?_, fun _ => sT_val ?_ rfl⟩ <;> exact sE_tup (sndA es cx h)
    · cases h
  | .lst es, X, e, cx, h => by
    simp only [chkE] at h
    split at h
    · refine ⟨?_, fun _ => sT_val ?_ rfl⟩ <;> exact sE_lst (sndA es cx h)
    · cases h
  | .ix a b, X, e, cx, h => by
    simp only [chkE] at h
    split at h
    · simp only [Bool.and_eq_true] at h
      refine ⟨?_, fun _ => sT_val ?_ rfl⟩ <;> exact sE_ix cx (sndE a cx h.1.2).1 (sndE b cx h.2).1 h.1.1
    · cases h
  | .sl a lo hi, X, e, cx, h => by
    simp only [chkE] at h
    split at h
    · simp only [Bool.and_eq_true] at h
      refine ⟨?_, fun _ => sT_val ?_ rfl⟩ <;> exact sE_sl (sndE a cx h.1.1).1 (sndO lo cx h.1.2) (sndO hi cx h.2)
    · cases h
  | .rev a, X, e, cx, h => by
    simp only [chkE] at h
    split at h
    · exact ⟨sE_rev (sndE a cx h).1, fun _ => sT_val (sE_rev (sndE a cx h).1) rfl⟩
    · cases h
  | .call f es, X, e, cx, h => by
    simp only [chkE] at h
    split at h
    · simp only [Bool.and_eq_true] at h
      refine ⟨?_, fun _ => sT_val ?_ rfl⟩ <;> exact sE_call cx (of_decide_eq_true h.1.1.1) (glB_gl h.1.1.2) h.1.2 (sndA es cx h.2) (chkEs_nst h.2) (chkEs_nil h.2)
    · cases h
  | .bi b es, X, e, cx, h => by
    simp only [chkE] at h
    split at h
    · simp only [Bool.and_eq_true] at h
      obtain ⟨⟨⟨h1, h2⟩, h3⟩, h4⟩ := h
      have hx := of_decide_eq_true h2
      subst hx
      have hn := chkEs_nst h4
      simp only [List.all_cons, Bool.and_eq_true] at hn
      refine ⟨?_, fun _ => sT_val ?_ rfl⟩ <;> exact sE_bi cx h1 (glB_gl h3) (sndA es cx h4) hn.1 hn.2
    · cases h
  | .isi a t, X, e, cx, h => by
    simp only [chkE] at h
    split at h
    · simp only [Bool.and_eq_true] at h
      obtain ⟨⟨⟨⟨⟨h1, h2⟩, h3⟩, h4⟩, h5⟩, h6⟩ := h
      have hx := of_decide_eq_true h1
      have hy := of_decide_eq_true h2
      subst hx hy
      refine ⟨?_, fun _ => sT_val ?_ rfl⟩ <;> exact sE_isi cx (glB_gl h3) (glB_gl h4) (sndE a cx h6).1 h5
    · cases h
  | .comp own tg it c el, X, e, cx, h => by
    simp only [chkE] at h
    split at h
    · rename_i x tgE iter ifs scope pos
      simp only [Bool.and_eq_true] at h
      obtain ⟨⟨⟨⟨⟨⟨h1, h2⟩, h3⟩, h4⟩, h5⟩, h6⟩, h7⟩ := h
      have hb : BlkOk X.N X.env.scope scope (own.map fun i => (N.getD i "", i)) := by rw [cx.hN]; exact blkOk_by h1
      have p := pe_lc (elt := x) (pos := pos) (scope := scope) cx.calm cx.nd (sndI it cx h3) hb (g := gR X.K tg) (tt := tCo X.K T c) (te := tE X.K T el)
        (fun s H C cl fp => sndG (N := N) tg (X := X.blk s H scope (compEnvC scope cl C X.env) fp) cx.hN cx.nd cx.calm (fun y hy => hy) h5)
        (fun s H C cl fp => sndC c (cx.blk s H scope (compEnvC scope cl C X.env) fp) h6)
        (fun s H C cl fp => (sndE el (cx.blk s H scope (compEnvC scope cl C X.env) fp) h7).1)
        (noSet_fold h4)
      rw [own_snd] at p
      have p' := PE.imp p (tE_comp (T := T) (own := own) (tg := tg) (it := it) (c := c) (el := el) (fun i hi => by simpa using List.all_eq_true.mp h2 i hi))
      exact ⟨p', fun _ => sT_val p' rfl⟩
    · cases h
  | .lrng .nil, X, e, cx, h => by simp only [chkE] at h; cases h
  | .lrng (.cons a .nil), X, e, cx, h => by
    simp only [chkE] at h
    split at h
    · simp only [Bool.and_eq_true] at h
      obtain ⟨⟨⟨⟨⟨h1, h2⟩, h3⟩, h4⟩, h5⟩, h6⟩ := h
      obtain rfl := of_decide_eq_true h1
      obtain rfl := of_decide_eq_true h2
      exact ⟨sE_lrng1 (f := "") (g := "") cx (glB_gl h3) (glB_gl h4) (sndE a cx h6).1 h5, fun _ => sT_val (sE_lrng1 (f := "") (g := "") cx (glB_gl h3) (glB_gl h4) (sndE a cx h6).1 h5) rfl⟩
    · cases h
  | .lrng (.cons a (.cons b .nil)), X, e, cx, h => by
    simp only [chkE] at h
    split at h
    · simp only [Bool.and_eq_true] at h
      obtain ⟨⟨⟨⟨⟨⟨⟨h1, h2⟩, h3⟩, h4⟩, h5⟩, h6⟩, h7⟩, h8⟩ := h
      obtain rfl := of_decide_eq_true h1
      obtain rfl := of_decide_eq_true h2
      exact ⟨sE_lrng2 (f := "") (g := "") cx (glB_gl h3) (glB_gl h4) (sndE a cx h6).1 h5 (sndE b cx h8).1 h7, fun _ => sT_val (sE_lrng2 (f := "") (g := "") cx (glB_gl h3) (glB_gl h4) (sndE a cx h6).1 h5 (sndE b cx h8).1 h7) rfl⟩
    · cases h
  | .lrng (.cons _ (.cons _ (.cons _ _))), X, e, cx, h => by simp only [chkE] at h; cases h
  | .dget _ _, X, e, cx, h => by simp only [chkE] at h; cases h
  | .dgetd _ _ _, X, e, cx, h => by simp only [chkE] at h; cases h
  | .cnt _ _, X, e, cx, h => by simp only [chkE] at h; cases h
  | .mxd a b, X, e, cx, h => by
    simp only [chkE] at h
    split at h
    · simp only [Bool.and_eq_true] at h
      obtain ⟨⟨⟨⟨⟨h1, h2⟩, h3⟩, h4⟩, h5⟩, h6⟩ := h
      obtain rfl := of_decide_eq_true h1
      obtain rfl := of_decide_eq_true h2
      exact ⟨sE_mxd cx (glB_gl h3) (sndE a cx h5).1 h4 (sndE b cx h6).1, fun _ => sT_val (sE_mxd cx (glB_gl h3) (sndE a cx h5).1 h4 (sndE b cx h6).1) rfl⟩
    · cases h
theorem sndA : ∀ (s : SEs) {X : Cx} {es : List Expr}, Ctx X n M T N → chkEs M N s X.env.scope es = true → PA X es (tA X.K T s)
  | .nil, X, es, cx, h => by
    simp only [chkEs] at h
    cases es with
    | nil => exact sA_nil
    | cons => cases h
  | .cons e r, X, [], cx, h => by simp only [chkEs] at h; cases h
  | .cons e r, X, x :: es, cx, h => by
    simp only [chkEs, Bool.and_eq_true] at h
    exact sA_cons (sndE e cx h.1.2).1 (sndA r cx h.2) h.1.1
theorem sndB : ∀ (s : SEs) (an : Bool) {X : Cx} {es : List Expr}, Ctx X n M T N → chkEs M N s X.env.scope es = true → es ≠ [] → (∀ pos, PE X (.BoolOp (bop an) es pos) (tBo X.K T an s)) ∧ (tOks s = true → ∀ pos, PW X (.BoolOp (bop an) es pos) (tBT X.K T an s))
  | .nil, an, X, es, cx, h, ne => by
    simp only [chkEs] at h
    cases es with
    | nil => exact absurd rfl ne
    | cons => cases h
  | .cons e r, an, X, [], cx, h, ne => by simp only [chkEs] at h; cases h
  | .cons e .nil, an, X, x :: es, cx, h, ne => by
    simp only [chkEs, Bool.and_eq_true] at h
    obtain ⟨⟨_, h1⟩, h2⟩ := h
    cases es with
    | nil => exact ⟨fun pos => sB_one (sndE e cx h1).1, fun t pos => sBT_one ((sndE e cx h1).2 (by simp only [tOks, Bool.and_eq_true] at t; exact t.1))⟩
    | cons => cases h2
  | .cons e (.cons e2 r), an, X, x :: es, cx, h, ne => by
    unfold chkEs at h
    simp only [Bool.and_eq_true] at h
    obtain ⟨⟨_, h1⟩, h2⟩ := h
    cases es with
    | nil => simp only [chkEs] at h2; cases h2
    | cons y es =>
      have p := sndB (.cons e2 r) an cx h2 (by simp)
      refine ⟨fun pos => sB_cons (sndE e cx h1).1 (p.1 pos), fun t pos => ?_⟩
      have t' : tOk e = true ∧ tOks (.cons e2 r) = true := by unfold tOks at t; simpa only [Bool.and_eq_true] using t
      exact sBT_cons ((sndE e cx h1).2 t'.1) (p.2 t'.2 pos)
theorem sndO : ∀ (s : SO) {X : Cx} {e : Option Expr}, Ctx X n M T N → chkO M N s X.env.scope e = true → PO X e (tO X.K T s)
  | .none, X, e, cx, h => by
    simp only [chkO] at h
    cases e with
    | none => exact sO_none
    | some => cases h
  | .some s, X, none, cx, h => by simp only [chkO] at h; cases h
  | .some s, X, some e, cx, h => by simp only [chkO] at h; exact sO_some (sndE s cx h).1
theorem sndC : ∀ (s : SO) {X : Cx} {es : List Expr}, Ctx X n M T N → chkC M N s X.env.scope es = true → PTs X es (tCo X.K T s)
  | .none, X, es, cx, h => by
    simp only [chkC] at h
    cases es with
    | nil => exact sC_nil
    | cons => cases h
  | .some s, X, es, cx, h => by
    simp only [chkC] at h
    split at h
    · rw [Bool.and_eq_true] at h
      exact sC_one ((sndE s cx h.2).2 h.1)
    · cases h
theorem sndI : ∀ (s : SI) {X : Cx} {tg e : Expr}, Ctx X n M T N → chkI M N s X.env.scope tg e = true → PI X tg e (tI X.K T s)
  | .seq s, X, tg, e, cx, h => by simp only [chkI] at h; exact sI_seq (sndE s cx h).1
  | .rng1 a, X, tg, e, cx, h => by
    simp only [chkI] at h
    split at h
    · simp only [Bool.and_eq_true] at h
      obtain ⟨⟨⟨h1, h2⟩, h3⟩, h4⟩ := h
      have hx := of_decide_eq_true h1
      subst hx
      exact sI_rng1 (glB_gl h2) (cx.facts.bis "range" (by decide)) (sndE a cx h4).1 h3
    · cases h
  | .rng2 a b, X, tg, e, cx, h => by
    simp only [chkI] at h
    split at h
    · simp only [Bool.and_eq_true] at h
      obtain ⟨⟨⟨⟨⟨h1, h2⟩, h3⟩, h4⟩, h5⟩, h6⟩ := h
      have hx := of_decide_eq_true h1
      subst hx
      exact sI_rng2 (glB_gl h2) (cx.facts.bis "range" (by decide)) (sndE a cx h4).1 h3 (sndE b cx h6).1 h5
    · cases h
  | .rng3 a b c, X, tg, e, cx, h => by
    simp only [chkI] at h
    split at h
    · simp only [Bool.and_eq_true] at h
      obtain ⟨⟨⟨⟨⟨⟨⟨h1, h2⟩, h3⟩, h4⟩, h5⟩, h6⟩, h7⟩, h8⟩ := h
      have hx := of_decide_eq_true h1
      subst hx
      exact sI_rng3 (glB_gl h2) (cx.facts.bis "range" (by decide)) (sndE a cx h4).1 h3 (sndE b cx h6).1 h5 (sndE c cx h8).1 h7
    · cases h
  | .enum a, X, tg, e, cx, h => by
    simp only [chkI] at h
    split at h
    · split at h
      · simp only [Bool.and_eq_true] at h
        obtain ⟨⟨⟨h1, h2⟩, h3⟩, h4⟩ := h
        have hx := of_decide_eq_true h1
        subst hx
        exact sI_enum (glB_gl h2) (cx.facts.bis "enumerate" (by decide)) (sndE a cx h4).1 h3
      · cases h
    · cases h
  | .zip a b, X, tg, e, cx, h => by
    simp only [chkI] at h
    split at h
    · split at h
      · simp only [Bool.and_eq_true] at h
        obtain ⟨⟨⟨⟨⟨h1, h2⟩, h3⟩, h4⟩, h5⟩, h6⟩ := h
        have hx := of_decide_eq_true h1
        subst hx
        exact sI_zip (glB_gl h2) (cx.facts.bis "zip" (by decide)) (sndE a cx h4).1 h3 (sndE b cx h6).1 h5
      · cases h
    · cases h
  | .keys _, X, tg, e, cx, h => by simp only [chkI] at h; cases h
end
end
end VM

set_option Elab.async false
set_option linter.all false
set_option maxRecDepth 100000
set_option maxHeartbeats 8000000
/-! W8: the state of a def's body; statements one after another. -/
namespace VM
open PySem PySem.Spec PyProof.Rows L2

/-- the hidden things: the callers', and what this frame owns but for m -/
def OwnH (O0 : Hid) (σ : L2.St) (m : List Nat) (ρ : SEnv) : Hid := fun a => O0 a ∨ ∃ (i : Nat) (s : Slot), ρ[i]? = some s ∧ s.isOwn = true ∧ i ∉ m ∧ σ[i]? = some (some (.ref a))
def SRep (K : PySem.W.Frag) (H : Hp) (O : Hid) (a : Addr) : Slot → Prop
  | .ow vs => ∃ xs, H a = some (.lst xs) ∧ Reps K H O vs xs
  | .od false ks vs => ∃ (kvs : List (Key × V)), H a = some (.dK kvs) ∧ ks = kvs.map (fun p => ofKey p.1) ∧ (kvs.map (·.1)).Nodup ∧ Reps K H O vs (kvs.map (·.2))
  | .od true ks vs => ∃ (kvs : List (List Key × V)), H a = some (.dT kvs) ∧ ks = kvs.map (fun p => Val.tup (p.1.map ofKey)) ∧ (kvs.map (·.1)).Nodup ∧ Reps K H O vs (kvs.map (·.2))
  | _ => False
structure SOk (K : PySem.W.Frag) (H0 : Hp) (O0 : Hid) (H : Hp) (σ : L2.St) (ρ : SEnv) : Prop where
  len : ρ.length ≤ σ.length
  wf0 : WF H0 O0
  ext : Ext H0 H
  own : ∀ (i : Nat) (s : Slot), ρ[i]? = some s → s.isOwn = true → ∃ a, σ[i]? = some (some (.ref a)) ∧ H0 a = none ∧ SRep K H (OwnH O0 σ [] ρ) a s
  inj : ∀ (i j : Nat) (s t : Slot) (a : Addr), ρ[i]? = some s → s.isOwn = true → ρ[j]? = some t → t.isOwn = true → σ[i]? = some (some (.ref a)) → σ[j]? = some (some (.ref a)) → i = j
  sh : ∀ (i : Nat) (v : Val), ρ[i]? = some (.sh v) → ∃ x, σ[i]? = some (some x) ∧ Rep K H (OwnH O0 σ [] ρ) v x

section
variable {K : PySem.W.Frag} {H0 H H' : Hp} {O0 O O' : Hid} {σ : L2.St} {ρ : SEnv} {m : List Nat} {a : Addr} {s : Slot}
theorem SRep.some (h : SRep K H O a s) : ∃ o, H a = some o ∧ MutO o := by
  cases s with
  | no => exact h.elim
  | sh v => exact h.elim
  | ow vs => obtain ⟨xs, h, _⟩ := h; exact ⟨_, h, True.intro⟩
  | od t ks vs => cases t <;> obtain ⟨kvs, h, _⟩ := h <;> exact ⟨_, h, True.intro⟩
theorem SRep.keep (w : WF H O) (k : Keep H O H' O') (ha : ∀ o, H a = Option.some o → H' a = Option.some o) (h : SRep K H O a s) : SRep K H' O' a s := by
  cases s with
  | no => exact h.elim
  | sh v => exact h.elim
  | ow vs => obtain ⟨xs, h, r⟩ := h; exact ⟨xs, ha _ h, Reps.keep w k r⟩
  | od t ks vs => cases t <;> obtain ⟨kvs, h, e, nd, r⟩ := h <;> exact ⟨kvs, ha _ h, e, nd, Reps.keep w k r⟩
theorem SRep.rep (n : ¬ O a) (h : SRep K H O a s) : ∃ v, s.val = Option.some v ∧ Rep K H O v (.ref a) := by
  cases s with
  | no => exact h.elim
  | sh v => exact h.elim
  | ow vs => obtain ⟨xs, h, r⟩ := h; exact ⟨_, rfl, by simp only [Rep]; exact ⟨a, xs, rfl, n, h, r⟩⟩
  | od t ks vs => cases t <;> obtain ⟨kvs, h, e, nd, r⟩ := h <;> exact ⟨_, rfl, by simp only [Rep]; exact ⟨a, kvs, rfl, n, h, e, nd, r⟩⟩
theorem SOk.wf (h : SOk K H0 O0 H σ ρ) (m : List Nat) : WF H (OwnH O0 σ m ρ) := fun a ha => by
  rcases ha with ha | ⟨i, s, h1, h2, _, h3⟩
  · exact (h.wf0.ext h.ext) a ha
  · obtain ⟨b, e, _, r⟩ := h.own i s h1 h2
    rw [h3] at e; cases e
    exact r.some
theorem OwnH.mono {a : Addr} (h : OwnH O0 σ m ρ a) : OwnH O0 σ [] ρ a := h.elim .inl (fun ⟨i, s, h1, h2, _, h3⟩ => .inr ⟨i, s, h1, h2, by simp, h3⟩)
theorem own_keep : Keep H (OwnH O0 σ [] ρ) H (OwnH O0 σ m ρ) := ⟨fun _ _ h _ => h, fun _ h => .inl h.mono⟩
theorem SOk.extend (h : SOk K H0 O0 H σ ρ) (e : Ext H H') : SOk K H0 O0 H' σ ρ :=
  ⟨h.len, h.wf0, h.ext.trans e, fun i s h1 h2 => let ⟨a, h3, h4, h5⟩ := h.own i s h1 h2; ⟨a, h3, h4, h5.keep (h.wf []) e.keep (fun o => e a o)⟩, h.inj, fun i v h1 => let ⟨x, h2, h3⟩ := h.sh i v h1; ⟨x, h2, h3.ext (h.wf []) e⟩⟩
theorem visG_get : ∀ {ρ : SEnv} {k i : Nat}, (visG m k ρ)[i]? = (ρ[i]?).map fun s => if s.isOwn && !m.contains (k + i) then none else s.val
  | [], k, i => by simp [visG]
  | s :: r, k, 0 => by simp [visG]
  | s :: r, k, i + 1 => by
    simp only [visG, List.getElem?_cons_succ]
    rw [visG_get, show k + 1 + i = k + (i + 1) by omega]
theorem visG_len : ∀ {ρ : SEnv} {k : Nat}, (visG m k ρ).length = ρ.length
  | [], _ => rfl
  | _ :: r, k => by simp only [visG, List.length_cons, visG_len]
theorem SOk.own_vis (h : SOk K H0 O0 H σ ρ) {i : Nat} {s : Slot} {a : Addr} (h1 : ρ[i]? = some s) (h2 : s.isOwn = true) (h3 : σ[i]? = some (some (.ref a))) (hn : H0 a = none) (him : i ∈ m) : ¬ OwnH O0 σ m ρ a := fun z => by
  rcases z with z | ⟨j, t, e1, e2, e3, e4⟩
  · obtain ⟨o, e, _⟩ := h.wf0 a z
    rw [hn] at e; cases e
  · have := h.inj i j s t a h1 h2 e1 e2 h3 e4
    subst this
    exact e3 him
theorem SOk.eok (h : SOk K H0 O0 H σ ρ) (m : List Nat) : EOk K H (OwnH O0 σ m ρ) σ (vis m ρ) := by
  refine ⟨by rw [visG_len]; exact h.len, fun i v e => ?_⟩
  rw [visG_get, Nat.zero_add] at e
  cases hs : ρ[i]? with
  | none => rw [hs] at e; cases e
  | some s =>
    rw [hs] at e
    simp only [Option.map_some, Option.some.injEq] at e
    split at e
    · cases e
    · rename_i hc
      by_cases ho : s.isOwn = true
      · have him : i ∈ m := by
          simp only [ho, Bool.true_and, Bool.not_eq_true', Bool.not_eq_false, List.contains_iff_mem] at hc
          simpa using hc
        obtain ⟨a, h3, h4, h5⟩ := h.own i s hs ho
        obtain ⟨v', e', r⟩ := (h5.keep (h.wf []) own_keep (fun o q => q) : SRep K H (OwnH O0 σ m ρ) a s).rep (h.own_vis hs ho h3 h4 him)
        rw [e] at e'; cases e'
        exact ⟨_, h3, r⟩
      · cases s with
        | sh u =>
          cases e
          obtain ⟨x, h2, h3⟩ := h.sh i _ hs
          exact ⟨x, h2, Rep.keep (h.wf []) own_keep h3⟩
        | no => cases e
        | ow => exact absurd rfl ho
        | od => exact absurd rfl ho

/-! ### freezing -/
theorem frz1_get {i j : Nat} : (frz1 i ρ)[j]? = if i = j then (ρ[j]?).map (fun s => match s with | .ow vs => .sh (.lst vs) | .od t ks vs => .sh (.dic t ks vs) | s => s) else ρ[j]? := by
  unfold frz1
  by_cases hij : i = j
  · subst hij
    rw [if_pos rfl]
    split
    · rename_i vs h
      rw [List.getElem?_set_self (List.getElem?_eq_some_iff.mp h).1, h]; rfl
    · rename_i t ks vs h
      rw [List.getElem?_set_self (List.getElem?_eq_some_iff.mp h).1, h]; rfl
    · rename_i h1 h2
      cases hs : ρ[i]? with
      | none => rfl
      | some s =>
        cases s with
        | ow vs => exact absurd hs (h1 vs)
        | od t ks vs => exact absurd hs (h2 t ks vs)
        | _ => rfl
  · rw [if_neg hij]
    split
    · rw [List.getElem?_set_ne hij]
    · rw [List.getElem?_set_ne hij]
    · rfl
theorem frz1_len {i : Nat} : (frz1 i ρ).length = ρ.length := by
  unfold frz1; split <;> simp
theorem frz1_own {i j : Nat} {s : Slot} (h : (frz1 i ρ)[j]? = some s) (ho : s.isOwn = true) : ρ[j]? = some s ∧ j ≠ i := by
  rw [frz1_get] at h
  split at h
  · rename_i e
    subst e
    cases hs : ρ[i]? with
    | none => rw [hs] at h; cases h
    | some t =>
      rw [hs] at h
      cases t <;> simp at h <;> subst h <;> cases ho
  · rename_i e
    exact ⟨h, fun z => e z.symm⟩
theorem frz1_hid {i : Nat} {a : Addr} (h : OwnH O0 σ m (frz1 i ρ) a) : OwnH O0 σ (i :: m) ρ a := by
  rcases h with h | ⟨j, s, h1, h2, h3, h4⟩
  · exact .inl h
  · obtain ⟨e1, e2⟩ := frz1_own h1 h2
    exact .inr ⟨j, s, e1, h2, by simp [h3, e2], h4⟩
theorem SOk.frz1 (h : SOk K H0 O0 H σ ρ) (i : Nat) : SOk K H0 O0 H σ (VM.frz1 i ρ) := by
  have k1 : Keep H (OwnH O0 σ [] ρ) H (OwnH O0 σ [] (VM.frz1 i ρ)) := ⟨fun _ _ h _ => h, fun a ha => .inl (frz1_hid ha).mono⟩
  refine ⟨by rw [frz1_len]; exact h.len, h.wf0, h.ext, fun j s h1 h2 => ?_, fun j k s t a h1 h2 h3 h4 h5 h6 => ?_, fun j v h1 => ?_⟩
  · obtain ⟨e1, e2⟩ := frz1_own h1 h2
    obtain ⟨a, h3, h4, h5⟩ := h.own j s e1 h2
    exact ⟨a, h3, h4, h5.keep (h.wf []) k1 (fun o q => q)⟩
  · exact h.inj j k s t a (frz1_own h1 h2).1 h2 (frz1_own h3 h4).1 h4 h5 h6
  · rw [frz1_get] at h1
    split at h1
    · rename_i e
      subst e
      cases hs : ρ[i]? with
      | none => rw [hs] at h1; cases h1
      | some t =>
        rw [hs] at h1
        have go : t.isOwn = true → t.val = some v → ∃ x, σ[i]? = some (some x) ∧ Rep K H (OwnH O0 σ [] (VM.frz1 i ρ)) v x := fun ho hv => by
          obtain ⟨a, h3, h4, h5⟩ := h.own i t hs ho
          have n : ¬ OwnH O0 σ [] (VM.frz1 i ρ) a := fun z => h.own_vis (m := [i]) hs ho h3 h4 (by simp) (frz1_hid z)
          obtain ⟨u, e, r⟩ := (h5.keep (h.wf []) k1 (fun o q => q) : SRep K H (OwnH O0 σ [] (VM.frz1 i ρ)) a t).rep n
          rw [hv] at e; cases e
          exact ⟨_, h3, r⟩
        cases t with
        | no => cases h1
        | sh u =>
          simp at h1; subst h1
          obtain ⟨x, h2, h3⟩ := h.sh i _ hs
          exact ⟨x, h2, Rep.keep (h.wf []) k1 h3⟩
        | ow vs => simp at h1; subst h1; exact go rfl rfl
        | od t ks vs => simp at h1; subst h1; exact go rfl rfl
    · obtain ⟨x, h2, h3⟩ := h.sh j v h1
      exact ⟨x, h2, Rep.keep (h.wf []) k1 h3⟩
theorem frzs_hid : ∀ {l : List Nat} {ρ : SEnv} {m : List Nat} {a : Addr}, OwnH O0 σ m (frzs l ρ) a → OwnH O0 σ (l ++ m) ρ a
  | [], _, _, _, h => h
  | i :: l, ρ, m, a, h => by
    have h1 := frz1_hid (frzs_hid (ρ := VM.frz1 i ρ) h)
    rcases h1 with h1 | ⟨j, s, e1, e2, e3, e4⟩
    · exact .inl h1
    · exact .inr ⟨j, s, e1, e2, by simpa using e3, e4⟩
theorem SOk.frzs : ∀ (l : List Nat) {ρ : SEnv}, SOk K H0 O0 H σ ρ → SOk K H0 O0 H σ (VM.frzs l ρ)
  | [], _, h => h
  | i :: l, _, h => SOk.frzs l (h.frz1 i)
theorem frzs_len : ∀ {l : List Nat} {ρ : SEnv}, (VM.frzs l ρ).length = ρ.length
  | [], _ => rfl
  | i :: l, ρ => by show (VM.frzs l (VM.frz1 i ρ)).length = _; rw [frzs_len, frz1_len]
/-- behind a value: what was looked at is frozen where the value may bear it -/
theorem SOk.kept (h : SOk K H0 O0 H σ ρ) (m : List Nat) (fl : Bool) : SOk K H0 O0 H σ (VM.kept m fl ρ) := by
  unfold VM.kept
  split
  · exact h
  · split
    · exact h
    · exact h.frzs _
theorem kept_hid {fl : Bool} (hf : fl = false) (h : OwnH O0 σ [] (VM.kept m fl ρ) a) : OwnH O0 σ m ρ a := by
  subst hf
  unfold VM.kept at h
  split at h
  · exact h
  · simp only [Bool.false_eq_true, if_false] at h
    have := frzs_hid h
    rwa [List.append_nil] at this
theorem kept_sub {fl : Bool} (h : OwnH O0 σ [] (VM.kept m fl ρ) a) : OwnH O0 σ [] ρ a := by
  unfold VM.kept at h
  split at h
  · exact h
  · split at h
    · exact h
    · exact (frzs_hid h).mono
theorem kept_keep {fl : Bool} : Keep H (OwnH O0 σ [] ρ) H (OwnH O0 σ [] (VM.kept m fl ρ)) := ⟨fun _ _ h _ => h, fun _ h => .inl (kept_sub h)⟩
/-- a value seen by what m shows, in the state behind it -/
theorem kept_rep {fl : Bool} {v : Val} {x : V} (w : WF H (OwnH O0 σ m ρ)) (hf : fl = true → flat v = true) (r : Rep K H (OwnH O0 σ m ρ) v x) : Rep K H (OwnH O0 σ [] (VM.kept m fl ρ)) v x := by
  cases fl with
  | true => exact Rep.flat (hf rfl) r
  | false => exact Rep.keep w ⟨fun _ _ h _ => h, fun _ h => .inl (kept_hid rfl h)⟩ r
theorem kept_reps {fl : Bool} {v : List Val} {x : List V} (w : WF H (OwnH O0 σ m ρ)) (hf : fl = true → flats v = true) (r : Reps K H (OwnH O0 σ m ρ) v x) : Reps K H (OwnH O0 σ [] (VM.kept m fl ρ)) v x := by
  cases fl with
  | true => exact Reps.flat (hf rfl) r
  | false => exact Reps.keep w ⟨fun _ _ h _ => h, fun _ h => .inl (kept_hid rfl h)⟩ r

/-! ### storing -/
/-- a plain value in a slot -/
theorem own_set_sh {i : Nat} {v : Val} {x : V} {a : Addr} (h : OwnH O0 (σ.set i (some x)) [] (ρ.set i (.sh v)) a) : OwnH O0 σ [] ρ a := by
  rcases h with h | ⟨j, s, h1, h2, _, h4⟩
  · exact .inl h
  · by_cases hij : i = j
    · subst hij
      by_cases hl : i < ρ.length
      · rw [List.getElem?_set_self hl] at h1; cases h1; cases h2
      · rw [List.getElem?_eq_none (by simpa using hl)] at h1; cases h1
    · rw [List.getElem?_set_ne hij] at h1 h4
      exact .inr ⟨j, s, h1, h2, by simp, h4⟩
theorem SOk.set_sh (h : SOk K H0 O0 H σ ρ) {i : Nat} {v : Val} {x : V} (r : Rep K H (OwnH O0 σ [] ρ) v x) : SOk K H0 O0 H (σ.set i (some x)) (ρ.set i (.sh v)) := by
  have k1 : Keep H (OwnH O0 σ [] ρ) H (OwnH O0 (σ.set i (some x)) [] (ρ.set i (.sh v))) := ⟨fun _ _ h _ => h, fun a ha => .inl (own_set_sh ha)⟩
  have neo : ∀ {j : Nat} {s : Slot}, (ρ.set i (.sh v))[j]? = some s → s.isOwn = true → i ≠ j ∧ ρ[j]? = some s := fun {j s} h1 h2 => by
    by_cases hij : i = j
    · subst hij
      by_cases hl : i < ρ.length
      · rw [List.getElem?_set_self hl] at h1; cases h1; cases h2
      · rw [List.getElem?_eq_none (by simpa using hl)] at h1; cases h1
    · rw [List.getElem?_set_ne hij] at h1; exact ⟨hij, h1⟩
  refine ⟨by simpa using h.len, h.wf0, h.ext, fun j s h1 h2 => ?_, fun j k s t a h1 h2 h3 h4 h5 h6 => ?_, fun j u h1 => ?_⟩
  · obtain ⟨e1, e2⟩ := neo h1 h2
    obtain ⟨a, h3, h4, h5⟩ := h.own j s e2 h2
    exact ⟨a, by rw [List.getElem?_set_ne e1]; exact h3, h4, h5.keep (h.wf []) k1 (fun o q => q)⟩
  · obtain ⟨e1, e2⟩ := neo h1 h2
    obtain ⟨e3, e4⟩ := neo h3 h4
    rw [List.getElem?_set_ne e1] at h5
    rw [List.getElem?_set_ne e3] at h6
    exact h.inj j k s t a e2 h2 e4 h4 h5 h6
  · by_cases hij : i = j
    · subst hij
      by_cases hl : i < ρ.length
      · rw [List.getElem?_set_self hl] at h1; cases h1
        exact ⟨x, List.getElem?_set_self (Nat.lt_of_lt_of_le hl h.len), Rep.keep (h.wf []) k1 r⟩
      · rw [List.getElem?_eq_none (by simpa using hl)] at h1; cases h1
    · rw [List.getElem?_set_ne hij] at h1
      obtain ⟨y, h2, h3⟩ := h.sh j u h1
      exact ⟨y, by rw [List.getElem?_set_ne hij]; exact h2, Rep.keep (h.wf []) k1 h3⟩
theorem SOk.sets : ∀ {bs : List (Nat × Val)} {xs : List V} {σ : L2.St} {ρ : SEnv}, SOk K H0 O0 H σ ρ → Reps K H (OwnH O0 σ [] ρ) (bs.map (·.2)) xs →
    SOk K H0 O0 H (setsV σ (bs.map (·.1)) xs) (setsS ρ bs) ∧ Keep H (OwnH O0 σ [] ρ) H (OwnH O0 (setsV σ (bs.map (·.1)) xs) [] (setsS ρ bs))
  | [], _, _, _, h, _ => ⟨h, Keep.refl⟩
  | (i, v) :: bs, _, σ, ρ, h, r => by
    simp only [List.map_cons, Reps] at r
    obtain ⟨x, t, rfl, p, q⟩ := r
    have k1 : Keep H (OwnH O0 σ [] ρ) H (OwnH O0 (σ.set i (some x)) [] (ρ.set i (.sh v))) := ⟨fun _ _ h _ => h, fun a ha => .inl (own_set_sh ha)⟩
    obtain ⟨g1, g2⟩ := SOk.sets (h.set_sh (i := i) p) (Reps.keep (h.wf []) k1 q)
    exact ⟨g1, k1.trans g2⟩
/-- a new owned thing in a slot: it stands at p, new since the entry, seen by nobody -/
theorem SOk.set_own (h : SOk K H0 O0 H σ ρ) {i : Nat} {s : Slot} {p : Addr} (hs : s.isOwn = true) (hp : H p = none) (h' : Hp) (e : Ext H h') (r : SRep K h' (fun a => OwnH O0 σ [] ρ a ∨ a = p) p s) (hl : i < ρ.length) :
    SOk K H0 O0 h' (σ.set i (some (.ref p))) (ρ.set i s) ∧ Keep H (OwnH O0 σ [] ρ) h' (OwnH O0 (σ.set i (some (.ref p))) [] (ρ.set i s)) := by
  have w := h.wf []
  have npO : ¬ OwnH O0 σ [] ρ p := w.new hp
  have hid : ∀ a, OwnH O0 (σ.set i (some (.ref p))) [] (ρ.set i s) a → OwnH O0 σ [] ρ a ∨ a = p := fun a ha => by
    rcases ha with ha | ⟨j, t, h1, h2, _, h4⟩
    · exact .inl (.inl ha)
    · by_cases hij : i = j
      · subst hij
        rw [List.getElem?_set_self (Nat.lt_of_lt_of_le hl h.len)] at h4
        cases h4; exact .inr rfl
      · rw [List.getElem?_set_ne hij] at h1 h4
        exact .inl (.inr ⟨j, t, h1, h2, by simp, h4⟩)
  have k1 : Keep H (OwnH O0 σ [] ρ) h' (OwnH O0 (σ.set i (some (.ref p))) [] (ρ.set i s)) := ⟨fun a o ha _ => e a o ha, fun a ha => (hid a ha).elim .inl (fun q => .inr (q ▸ hp))⟩
  have w' : WF h' (fun a => OwnH O0 σ [] ρ a ∨ a = p) := fun a ha => by
    rcases ha with ha | rfl
    · exact (w.ext e) a ha
    · exact r.some
  have k2 : Keep h' (fun a => OwnH O0 σ [] ρ a ∨ a = p) h' (OwnH O0 (σ.set i (some (.ref p))) [] (ρ.set i s)) := ⟨fun _ _ h _ => h, fun a ha => .inl (hid a ha)⟩
  refine ⟨⟨by simpa using h.len, h.wf0, h.ext.trans e, fun j t h1 h2 => ?_, fun j k t u a h1 h2 h3 h4 h5 h6 => ?_, fun j u h1 => ?_⟩, k1⟩
  · by_cases hij : i = j
    · subst hij
      rw [List.getElem?_set_self hl] at h1; cases h1
      refine ⟨p, List.getElem?_set_self (Nat.lt_of_lt_of_le hl h.len), ?_, r.keep w' k2 (fun o q => q)⟩
      cases q : H0 p with
      | none => rfl
      | some o => rw [h.ext p o q] at hp; cases hp
    · rw [List.getElem?_set_ne hij] at h1
      obtain ⟨a, h3, h4, h5⟩ := h.own j t h1 h2
      exact ⟨a, by rw [List.getElem?_set_ne hij]; exact h3, h4, h5.keep w k1 (fun o q => e a o q)⟩
  · by_cases hij : i = j
    · subst hij
      rw [List.getElem?_set_self (Nat.lt_of_lt_of_le hl h.len)] at h5
      cases h5
      by_cases hik : i = k
      · exact hik
      · rw [List.getElem?_set_ne hik] at h3 h6
        exact absurd (show OwnH O0 σ [] ρ p from .inr ⟨k, u, h3, h4, by simp, h6⟩) npO
    · rw [List.getElem?_set_ne hij] at h1 h5
      by_cases hik : i = k
      · subst hik
        rw [List.getElem?_set_self (Nat.lt_of_lt_of_le hl h.len)] at h6
        cases h6
        exact absurd (show OwnH O0 σ [] ρ p from .inr ⟨j, t, h1, h2, by simp, h5⟩) npO
      · rw [List.getElem?_set_ne hik] at h3 h6
        exact h.inj j k t u a h1 h2 h3 h4 h5 h6
  · by_cases hij : i = j
    · subst hij
      rw [List.getElem?_set_self hl] at h1; cases h1; cases hs
    · rw [List.getElem?_set_ne hij] at h1
      obtain ⟨y, h2, h3⟩ := h.sh j u h1
      exact ⟨y, by rw [List.getElem?_set_ne hij]; exact h2, Rep.keep w k1 h3⟩
/-- an owned thing is changed where it stands -/
theorem SOk.change (h : SOk K H0 O0 H σ ρ) {i : Nat} {s t : Slot} {a : Addr} {o : HO} (hs : ρ[i]? = some s) (ho : s.isOwn = true) (hσ : σ[i]? = some (some (.ref a))) (ht : t.isOwn = true)
    (r : SRep K (upd H a o) (OwnH O0 σ [] ρ) a t) : SOk K H0 O0 (upd H a o) σ (ρ.set i t) ∧ Keep H (OwnH O0 σ [] ρ) (upd H a o) (OwnH O0 σ [] (ρ.set i t)) := by
  have hl : i < ρ.length := (List.getElem?_eq_some_iff.mp hs).1
  obtain ⟨b, e1, hn, r0⟩ := h.own i s hs ho
  rw [hσ] at e1; cases e1
  have hO : OwnH O0 σ [] ρ a := .inr ⟨i, s, hs, ho, by simp, hσ⟩
  have hid : ∀ c, OwnH O0 σ [] (ρ.set i t) c ↔ OwnH O0 σ [] ρ c := fun c => by
    constructor
    · rintro (hc | ⟨j, u, h1, h2, _, h4⟩)
      · exact .inl hc
      · by_cases hij : i = j
        · subst hij; rw [hσ] at h4; cases h4; exact hO
        · rw [List.getElem?_set_ne hij] at h1; exact .inr ⟨j, u, h1, h2, by simp, h4⟩
    · rintro (hc | ⟨j, u, h1, h2, _, h4⟩)
      · exact .inl hc
      · by_cases hij : i = j
        · subst hij; exact .inr ⟨i, t, List.getElem?_set_self hl, ht, by simp, h4⟩
        · exact .inr ⟨j, u, by rw [List.getElem?_set_ne hij]; exact h1, h2, by simp, h4⟩
  have w := h.wf []
  have k1 : Keep H (OwnH O0 σ [] ρ) (upd H a o) (OwnH O0 σ [] (ρ.set i t)) := ⟨fun c u hc nc => by rw [upd_ne (show c ≠ a from fun z => nc (by rw [z]; exact hO))]; exact hc, fun c hc => .inl ((hid c).mp hc)⟩
  have k2 : Keep (upd H a o) (OwnH O0 σ [] ρ) (upd H a o) (OwnH O0 σ [] (ρ.set i t)) := ⟨fun _ _ h _ => h, fun c hc => .inl ((hid c).mp hc)⟩
  have w2 : WF (upd H a o) (OwnH O0 σ [] ρ) := fun c hc => by
    by_cases e : c = a
    · subst e; exact r.some
    · rw [upd_ne e]; exact w c hc
  refine ⟨⟨by simpa using h.len, h.wf0, fun c u hc => ?_, fun j u h1 h2 => ?_, fun j k u v c h1 h2 h3 h4 h5 h6 => ?_, fun j u h1 => ?_⟩, k1⟩
  · rw [upd_ne (ne_of_none hc hn)]; exact h.ext c u hc
  · by_cases hij : i = j
    · subst hij
      rw [List.getElem?_set_self hl] at h1; cases h1
      exact ⟨a, hσ, hn, r.keep w2 k2 (fun o q => q)⟩
    · rw [List.getElem?_set_ne hij] at h1
      obtain ⟨c, h3, h4, h5⟩ := h.own j u h1 h2
      refine ⟨c, h3, h4, h5.keep w k1 (fun o' q => ?_)⟩
      rw [upd_ne]; exact q
      intro z
      subst z
      exact hij (h.inj i j s u c hs ho h1 h2 hσ h3)
  · have e1 : ∃ u', ρ[j]? = some u' ∧ u'.isOwn = true := by
      by_cases hij : i = j
      · subst hij; exact ⟨s, hs, ho⟩
      · rw [List.getElem?_set_ne hij] at h1; exact ⟨u, h1, h2⟩
    have e2 : ∃ u', ρ[k]? = some u' ∧ u'.isOwn = true := by
      by_cases hik : i = k
      · subst hik; exact ⟨s, hs, ho⟩
      · rw [List.getElem?_set_ne hik] at h3; exact ⟨v, h3, h4⟩
    obtain ⟨u1, a1, a2⟩ := e1
    obtain ⟨u2, b1, b2⟩ := e2
    exact h.inj j k u1 u2 c a1 a2 b1 b2 h5 h6
  · by_cases hij : i = j
    · subst hij
      rw [List.getElem?_set_self hl] at h1; cases h1; cases ht
    · rw [List.getElem?_set_ne hij] at h1
      obtain ⟨y, h2, h3⟩ := h.sh j u h1
      exact ⟨y, h2, Rep.keep w k1 h3⟩
end
end VM

set_option Elab.async false
set_option linter.all false
set_option maxRecDepth 100000
set_option maxHeartbeats 8000000
/-! W9: statements. -/
namespace VM
open PySem PySem.Spec PyProof.Rows L2

def Fin (fr : Bool) (K : PySem.W.Frag) (H0 : Hp) (O0 : Hid) (σ : L2.St) (ρ : SEnv) (H : Hp) (q : Fl × SEnv) (D : Ends) : Prop := match q with
  | (.nx, ρ') => ∀ σ' H', SOk K H0 O0 H' σ' ρ' → Keep H (OwnH O0 σ [] ρ) H' (OwnH O0 σ' [] ρ') → D.nx σ' H'
  | (.rt v, _) => match fr with
    | false => ∀ x H', Ext H0 H' → Rep K H' O0 v x → D.rt x H'
    | true => ∃ vs, v = .lst vs ∧ ∀ p H' ys, H0 p = none → Ext H0 H' → H' p = some (.lst ys) → Reps K H' (fun a => O0 a ∨ a = p) vs ys → D.rt (.ref p) H'
def tS (fr : Bool) (K : PySem.W.Frag) (T : Tab) (s : SS) : TS := fun D σ H => ∃ H0 O0 ρ q, SOk K H0 O0 H σ ρ ∧ ex T s ρ = .ok q ∧ Fin fr K H0 O0 σ ρ H q D
def tB (fr : Bool) (K : PySem.W.Frag) (T : Tab) (s : SB) : TS := fun D σ H => ∃ H0 O0 ρ q, SOk K H0 O0 H σ ρ ∧ exs T s ρ = .ok q ∧ Fin fr K H0 O0 σ ρ H q D
section
variable {fr : Bool} {X : Cx} {n : Nat} {M : Nm} {T : Tab} {N : List Str} {e : Expr} {s : SE} {pos : Pos}
theorem Fin.keep {K : PySem.W.Frag} {H0 H H1 : Hp} {O0 : Hid} {σ σ1 : L2.St} {ρ ρ1 : SEnv} {q : Fl × SEnv} {D : Ends} (f : Fin fr K H0 O0 σ ρ H q D) (k : Keep H (OwnH O0 σ [] ρ) H1 (OwnH O0 σ1 [] ρ1)) : Fin fr K H0 O0 σ1 ρ1 H1 q D := by
  obtain ⟨fl, ρ'⟩ := q
  cases fl with
  | nx => exact fun σ' H' h k' => f σ' H' h (k.trans k')
  | rt v => exact f
/-! ### blocks -/
theorem sB_nil : PSs X [] (tB fr X.K T .nil) := PSs.imp pss_nil (fun D σ H ⟨H0, O0, ρ, q, so, h, f⟩ => by
  simp only [exs] at h; cases h
  exact f σ H so Keep.refl)
theorem sB_seq {st : Stmt} {rest : List Stmt} {a : SS} {b : SB} (h1 : PS X st (tS fr X.K T a)) (h2 : PSs X rest (tB fr X.K T b)) : PSs X (st :: rest) (tB fr X.K T (.cons a b)) :=
  PSs.imp (pss_cons h1 h2) (fun D σ H ⟨H0, O0, ρ, q, so, h, f⟩ => by
    simp only [exs] at h
    obtain ⟨⟨fl, ρ1⟩, h1, h⟩ := bok h
    cases fl with
    | nx =>
      simp only at h
      exact ⟨H0, O0, ρ, (.nx, ρ1), so, h1, fun σ1 H1 so1 k1 => ⟨H0, O0, ρ1, q, so1, h, f.keep k1⟩⟩
    | rt v =>
      simp only at h
      cases h
      exact ⟨H0, O0, ρ, (.rt v, ρ1), so, h1, f⟩)
/-! ### a value looked at -/
/-- from the state: the reading of an expression, its value seen by m -/
theorem seeE {K : PySem.W.Frag} {H0 H : Hp} {O0 : Hid} {σ : L2.St} {ρ : SEnv} {v : Val} {m : List Nat} {Q : VK} (so : SOk K H0 O0 H σ ρ) (h : ev T s (vis m ρ) = .ok v)
    (q : ∀ x H1, Ext H H1 → SOk K H0 O0 H1 σ ρ → Rep K H1 (OwnH O0 σ m ρ) v x → Q x H1) : tE K T s σ H Q :=
  ⟨OwnH O0 σ m ρ, vis m ρ, v, so.wf m, so.eok m, h, fun x H1 e1 r => q x H1 e1 (so.extend e1) r⟩
theorem seeT {K : PySem.W.Frag} {H0 H : Hp} {O0 : Hid} {σ : L2.St} {ρ : SEnv} {b : Bool} {m : List Nat} {Q : Bool → Hp → Prop} (so : SOk K H0 O0 H σ ρ) (h : ev T s (vis m ρ) = .ok (.bl b))
    (q : ∀ H1, Ext H H1 → SOk K H0 O0 H1 σ ρ → Q b H1) : tT K T s σ H Q :=
  ⟨OwnH O0 σ m ρ, vis m ρ, b, so.wf m, so.eok m, h, fun H1 e1 => q H1 e1 (so.extend e1)⟩
theorem ext_own {K : PySem.W.Frag} {H0 H H1 : Hp} {O0 : Hid} {σ : L2.St} {ρ : SEnv} {m : List Nat} {fl : Bool} (e : Ext H H1) : Keep H (OwnH O0 σ [] ρ) H1 (OwnH O0 σ [] (kept m fl ρ)) :=
  e.keep.trans kept_keep
/-! ### storing -/
theorem sS_asg_core {m : List Nat} {tg : Tg} : ∀ D σ H, tS fr X.K T (.asg m tg s) D σ H → tAsg (tE X.K T s) (gR X.K tg) D σ H := fun D σ H ⟨H0, O0, ρ, q, so, h, f⟩ => by
  simp only [ex] at h
  obtain ⟨v, h1, h⟩ := bok h
  obtain ⟨ρ1, h2, h⟩ := bok h
  cases h
  simp only [bindS] at h2
  obtain ⟨bs, h3, h2⟩ := bok h2
  cases h2
  refine seeE so h1 (fun x H1 e1 so1 r => ?_)
  have so2 := so1.kept m (flat v)
  have r2 := kept_rep (fl := flat v) (so1.wf m) (fun h => h) r
  refine ⟨_, v, bs, so2.wf [], r2, h3, fun xs hx => ?_⟩
  obtain ⟨so3, k3⟩ := so2.sets hx
  exact f _ _ so3 ((ext_own (K := X.K) (H0 := H0) e1).trans k3)
/-- the value is no comprehension -/
def noComp : Expr → Bool
  | .ListComp _ _ _ _ => false
  | .SetComp _ _ _ _ => false
  | .DictComp _ _ _ _ _ => false
  | _ => true
theorem noComp_sw {t : Option Expr} {l : Nat} {env : Env} (h : noComp e = true) : swapsWith e t l env = pure false := by
  cases e <;> first | rfl | cases h
theorem noComp_sws {t : Expr} {l : Nat} {env : Env} (h : noComp e = true) : swapsWithSole [t] e l env = pure false := noComp_sw h
/-- how a comprehension goes into a name: by a swap -/
def swB (sc : Scope) (x : Str) (px : Pos) (v : Expr) : Bool := match v with
  | .ListComp _ _ scope p => (match sc.names.lookup x with | some .local => true | _ => false) && (px.line == p.line) && !(scope.names.any fun (n, k) => n == x && (k == .local || k == .cell))
  | _ => false
theorem kind_block {env : Env} (h : env.scope.kind = .function) : env.blockKind = .function := by unfold Env.blockKind; rw [h]; rfl
theorem swB_false {x : Str} {px : Pos} {l : Nat} (hk : X.env.scope.kind = .function) (h : swB X.env.scope x px e = false) (hn : noComp e = true ∨ ∃ a b c d, e = .ListComp a b c d) : swapsWith e (some (.Name x px)) l X.env = pure false := by
  rcases hn with hn | ⟨a, b, c, d, rfl⟩
  · exact noComp_sw hn
  · unfold swB at h
    have hb := kind_block hk
    unfold swapsWith
    simp only [hb, Expr.pos]
    have e2 : (X.env.kindOf x == some NameKind.local) = (match X.env.scope.names.lookup x with | some .local => true | _ => false) := by
      show (X.env.scope.names.lookup x == some NameKind.local) = _
      cases X.env.scope.names.lookup x with
      | none => rfl
      | some k => cases k <;> rfl
    rw [e2]
    show pure (_ && _ && _ && _) = pure false
    congr 1

theorem tE.mono {K : PySem.W.Frag} {σ : L2.St} {H : Hp} {Q Q' : VK} (h : tE K T s σ H Q) (i : ∀ x H1, Q x H1 → Q' x H1) : tE K T s σ H Q' := by
  obtain ⟨O, ρ, v, w, eo, h1, q⟩ := h
  exact ⟨O, ρ, v, w, eo, h1, fun x H' e r => i _ _ (q x H' e r)⟩
theorem gR_nm {K : PySem.W.Frag} {i : Nat} {x : V} {σ : L2.St} {H : Hp} {Q : L2.St → Hp → Prop} (h : gR K (.nm i) x σ H Q) : Q (σ.set i (some x)) H := by
  obtain ⟨O, u, bs, w, r, hf, q⟩ := h
  simp only [flatT] at hf
  cases hf
  exact q [x] (Reps.cons r Reps.nil)
theorem sS_set {m : List Nat} {i : Nat} {x : Str} {px : Pos} (cx : Ctx X n M T N) (hk : X.env.scope.kind = .function) (hi : X.N[i]? = some x) (hx : Loc X.env.scope x) (hf : X.fn x = true ∨ X.env.scope.names.lookup x = some .local)
    (he : PE X e (tE X.K T s)) (hsw : swB X.env.scope x px e = false) (hn : noComp e = true ∨ ∃ a b c d, e = .ListComp a b c d) : PS X (.Assign [.Name x px] e pos) (tS fr X.K T (.asg m (.nm i) s)) :=
  PS.imp (ps_set cx.nd hi hx he (swB_false hk hsw hn) hf) (fun D σ H h => (sS_asg_core (X := X) (T := T) D σ H h).mono fun x H1 g => gR_nm g)
/-- x = [..] by a swap -/
theorem sS_setLc {m : List Nat} {i : Nat} {x : Str} {px : Pos} {own : List Nat} {tg : Tg} {it : SI} {c : SO} {el : SE} {elt tgE iter : Expr} {ifs : List Expr} {scope : Scope} {p2 : Pos} (cx : Ctx X n M T N) (hk : X.env.scope.kind = .function) (hi : X.N[i]? = some x)
    (hc : chkE M N (.comp own tg it c el) X.env.scope (.ListComp elt [⟨tgE, iter, ifs, 0⟩] scope p2) = true) (hsw : swB X.env.scope x px (.ListComp elt [⟨tgE, iter, ifs, 0⟩] scope p2) = true) :
    PS X (.Assign [.Name x px] (.ListComp elt [⟨tgE, iter, ifs, 0⟩] scope p2) pos) (tS fr X.K T (.asg m (.nm i) (.comp own tg it c el))) := by
  simp only [chkE, Bool.and_eq_true] at hc
  obtain ⟨⟨⟨⟨⟨⟨h1, h2⟩, h3⟩, h4⟩, h5⟩, h6⟩, h7⟩ := hc
  have hb : BlkOk X.N X.env.scope scope (own.map fun i => (N.getD i "", i)) := by rw [cx.hN]; exact blkOk_by h1
  unfold swB at hsw
  simp only [Bool.and_eq_true, Bool.not_eq_true'] at hsw
  obtain ⟨⟨s1, s2⟩, s3⟩ := hsw
  have hl : X.env.scope.names.lookup x = some .local := by
    split at s1
    · assumption
    · cases s1
  have p := ps_setLc (i := i) (py := px) (spos := pos) (elt := elt) (pos := p2) (scope := scope) cx.calm cx.nd hi hl (sw_true hk hl s2 s3) (sndI it cx h3) hb (g := gR X.K tg) (tt := tCo X.K T c) (te := tE X.K T el)
    (fun s H C cl fp => sndG (N := N) tg (X := X.blk s H scope (compEnvC scope cl C X.env) fp) cx.hN cx.nd cx.calm (fun y hy => hy) h5)
    (fun s H C cl fp => sndC c (cx.blk s H scope (compEnvC scope cl C X.env) fp) h6)
    (fun s H C cl fp => (sndE el (cx.blk s H scope (compEnvC scope cl C X.env) fp) h7).1)
    (noSet_fold h4)
  rw [own_snd] at p
  refine PS.imp p (fun D σ H h => ?_)
  have h := sS_asg_core (X := X) (T := T) D σ H h
  exact tE_comp (fun i hi => by simpa using List.all_eq_true.mp h2 i hi) σ H _ (tE.mono h fun x H1 g => gR_nm g)
/-- (..) = e -/
theorem sS_tup {m : List Nat} {ts : Tgs} {es : List Expr} {k : Nat} {pt : Pos} (he : PE X e (tE X.K T s)) (hg : PG X (.Tuple es k pt) (gR X.K (.tp ts))) (hw : swappedStores [.Tuple es k pt] e X.env = pure none) :
    PS X (.Assign [.Tuple es k pt] e pos) (tS fr X.K T (.asg m (.tp ts) s)) := by
  refine PS.imp (ps_asg he hg ?_ hw rfl) (sS_asg_core (X := X) (T := T))
  show swapsWith e (some (.Tuple es k pt)) pos.line X.env = pure false
  cases e <;> rfl
/-! ### swapped stores -/
def swNames (sc : Scope) (ts : List Expr) : List Str :=
  ts.filterMap fun
    | .Name id pos => if (match sc.names.lookup id with | some .local => true | _ => false) && pos.line == (ts.head?.map (·.pos.line)).getD 0 then some id else none
    | _ => none
def swN (sc : Scope) (ts vs : List Expr) : Bool :=
  (!(ts.length == 2 || ts.length == 3) || vs.length != ts.length) || (vs.any fun | .Starred .. => true | _ => false) ||
    ((swNames sc ts).length != ts.length || (swNames sc ts).eraseDups.length != (swNames sc ts).length) || vs.all (foldedForSure 8)
def swP (sc : Scope) (ts vs : List Expr) : Bool :=
  !(!(ts.length == 2 || ts.length == 3) || vs.length != ts.length) && !(vs.any fun | .Starred .. => true | _ => false) &&
    !((swNames sc ts).length != ts.length || (swNames sc ts).eraseDups.length != (swNames sc ts).length) && !(vs.all (foldedForSure 8)) && !(vs.all (constantsAlone 8))
theorem swNames_eq {env : Env} {ts : List Expr} : (ts.filterMap fun
    | .Name id pos => if env.kindOf id == some .local && pos.line == (ts.head?.map (·.pos.line)).getD 0 then some id else none
    | _ => none) = swNames env.scope ts := by
  unfold swNames
  congr 1
  funext e
  cases e <;> try rfl
  rename_i id p
  have e2 : (env.kindOf id == some NameKind.local) = (match env.scope.names.lookup id with | some .local => true | _ => false) := by
    show (env.scope.names.lookup id == some NameKind.local) = _
    cases env.scope.names.lookup id with
    | none => rfl
    | some k => cases k <;> rfl
  simp only [e2]
theorem sw_none {env : Env} {ts vs : List Expr} {k k2 : Nat} {p p2 : Pos} (hk : env.scope.kind = .function) (h : swN env.scope ts vs = true) : swappedStores [.Tuple ts k p] (.Tuple vs k2 p2) env = pure none := by
  have hb := kind_block hk
  unfold swappedStores
  simp only [hb, bne_self_eq_false, Bool.or_false, swNames_eq]
  unfold swN at h
  simp only [Bool.or_eq_true] at h
  split
  · rfl
  · rename_i n1
    split
    · rfl
    · rename_i n2
      split
      · rfl
      · rename_i n3
        have n3' : ¬ ((swNames env.scope ts).length != ts.length || (swNames env.scope ts).eraseDups.length != (swNames env.scope ts).length) = true := by rw [← swNames_eq]; exact n3
        split
        · rfl
        · rename_i n4
          rcases h with ((h | h) | h) | h
          · exact absurd (by simpa using h) (by simpa using n1)
          · exact absurd h n2
          · exact absurd (by rw [Bool.or_eq_true]; exact h) n3'
          · exact absurd h n4

def parB (sc : Scope) (x : Str) (px : Pos) (y : Str) (py : Pos) (a b : Expr) : Bool :=
  (match sc.names.lookup x with | some .local => true | _ => false) && (match sc.names.lookup y with | some .local => true | _ => false) && !(y == x) && (py.line == px.line) && nst a && nst b &&
    !(foldedForSure 8 a && foldedForSure 8 b) && !(constantsAlone 8 a && constantsAlone 8 b)
theorem isStar {a : Expr} (h : nst a = true) : (match (generalizing := false) a with | .Starred .. => true | _ => false) = false := by
  cases a <;> first | rfl | cases h
theorem sw_par {env : Env} {x y : Str} {px py p p2 : Pos} {a b : Expr} {k k2 : Nat} (hk : env.scope.kind = .function) (h : parB env.scope x px y py a b = true) :
    swappedStores [.Tuple [.Name x px, .Name y py] k p] (.Tuple [a, b] k2 p2) env = pure (some [x, y]) := by
  have hb := kind_block hk
  unfold parB at h
  simp only [Bool.and_eq_true, Bool.not_eq_true'] at h
  obtain ⟨⟨⟨⟨⟨⟨⟨h1, h2⟩, h3⟩, h4⟩, h5⟩, h6⟩, h7⟩, h8⟩ := h
  have l1 : env.kindOf x = some .local := by
    split at h1
    · assumption
    · cases h1
  have l2 : env.kindOf y = some .local := by
    split at h2
    · assumption
    · cases h2
  have s1 := isStar h5
  have s2 := isStar h6
  unfold swappedStores
  simp only [hb, bne_self_eq_false, Bool.or_false, List.length_cons, List.length_nil, List.any_cons, List.any_nil, s1, s2, List.head?_cons, Option.map_some, Option.getD_some, List.filterMap_cons, List.filterMap_nil, l1, l2, beq_self_eq_true, Bool.true_and, if_true,
    show (Expr.Name x px).pos = px from rfl, h4, List.all_cons, List.all_nil, Bool.and_true, h7, h8]
  have e1 : [x, y].eraseDups.length = 2 := by
    simp [List.eraseDups_cons, h3]
  simp [e1]
  intro hh
  rcases hh with hh | hh
  · exact nomatch (show false = true from s1.symm.trans hh)
  · exact nomatch (show false = true from s2.symm.trans hh)
theorem sS_par {m : List Nat} {i j : Nat} {x y : Str} {px py pt pt2 : Pos} {kt k2 : Nat} {a b : Expr} {sa sb : SE} (cx : Ctx X n M T N) (hk : X.env.scope.kind = .function) (hi : X.N[i]? = some x) (hj : X.N[j]? = some y) (hij : i ≠ j)
    (hp : parB X.env.scope x px y py a b = true) (ha : PE X a (tE X.K T sa)) (hb : PE X b (tE X.K T sb)) : PS X (.Assign [.Tuple [.Name x px, .Name y py] kt pt] (.Tuple [a, b] k2 pt2) pos) (tS fr X.K T (.par m i j sa sb)) := by
  have hp' := hp
  unfold parB at hp'
  simp only [Bool.and_eq_true] at hp'
  obtain ⟨⟨⟨⟨⟨⟨⟨h1, h2⟩, h3⟩, h4⟩, h5⟩, h6⟩, h7⟩, h8⟩ := hp'
  have l1 : X.env.scope.names.lookup x = some .local := by
    split at h1
    · assumption
    · cases h1
  have l2 : X.env.scope.names.lookup y = some .local := by
    split at h2
    · assumption
    · cases h2
  refine PS.imp (ps_par cx.calm cx.nd hi hj hij l1 l2 (sA_cons ha (sA_cons hb sA_nil h6) h5) (sw_par hk hp) rfl) (fun D σ H ⟨H0, O0, ρ, q, so, h, f⟩ => ?_)
  simp only [ex] at h
  obtain ⟨v, e1, h⟩ := bok h
  obtain ⟨w, e2, h⟩ := bok h
  cases h
  refine ⟨OwnH O0 σ m ρ, vis m ρ, [v, w], so.wf m, so.eok m, by simp only [evs, e1, e2]; rfl, fun xs H1 x1 r1 => ?_⟩
  obtain ⟨y1, y2, rfl, r, r'⟩ := reps2 r1
  refine ⟨y1, y2, rfl, ?_⟩
  have so1 := so.extend x1
  have so2 := so1.kept m (flat v && flat w)
  have ra := kept_rep (fl := flat v && flat w) (so1.wf m) (fun h => (Bool.and_eq_true_iff.mp h).1) r
  have rb := kept_rep (fl := flat v && flat w) (so1.wf m) (fun h => (Bool.and_eq_true_iff.mp h).2) r'
  obtain ⟨so3, k3⟩ := so2.sets (bs := [(i, v), (j, w)]) (xs := [y1, y2]) (Reps.cons ra (Reps.cons rb Reps.nil))
  exact f _ _ so3 ((ext_own (K := X.K) (H0 := H0) x1).trans k3)

/-! ### flow -/
theorem sS_ret {m : List Nat} (he : PE X e (tE X.K T s)) : PS X (.Return (some e) pos) (tS false X.K T (.ret m s)) :=
  PS.imp (ps_ret he) (fun D σ H ⟨H0, O0, ρ, q, so, h, f⟩ => by
    simp only [ex] at h
    obtain ⟨v, h1, h⟩ := bok h
    cases h
    exact seeE so h1 fun x H1 e1 so1 r => f x H1 so1.ext (Rep.keep (so1.wf m) ⟨fun _ _ h _ => h, fun _ h => .inl (.inl h)⟩ r))
theorem sS_expr {m : List Nat} (he : PE X e (tE X.K T s)) (hn : noComp e = true) : PS X (.Expr e pos) (tS fr X.K T (.expr m s)) :=
  PS.imp (ps_expr he (noComp_sw hn)) (fun D σ H ⟨H0, O0, ρ, q, so, h, f⟩ => by
    simp only [ex] at h
    obtain ⟨v, h1, h⟩ := bok h
    cases h
    exact seeE so h1 fun x H1 e1 so1 r => f σ H1 so1 e1.keep)
theorem sS_if {m : List Nat} {c : Expr} {a b : List Stmt} {sa sb : SB} (hc : PT X c (tT X.K T s)) (ha : PSs X a (tB fr X.K T sa)) (hb : PSs X b (tB fr X.K T sb)) : PS X (.If c a b pos) (tS fr X.K T (.iff m s sa sb)) :=
  PS.imp (ps_if hc ha hb) (fun D σ H ⟨H0, O0, ρ, q, so, h, f⟩ => by
    simp only [ex] at h
    obtain ⟨v, h1, h⟩ := bok h
    obtain ⟨k, h2, hK⟩ := bok h
    obtain rfl := tru_ok h2
    replace h := hK
    refine seeT so h1 fun H1 e1 so1 => ?_
    cases k with
    | true => simp only [if_true] at h ⊢; exact ⟨H0, O0, ρ, q, so1, h, f.keep e1.keep⟩
    | false => simp only [Bool.false_eq_true, if_false] at h ⊢; exact ⟨H0, O0, ρ, q, so1, h, f.keep e1.keep⟩)
theorem sS_raise {c : Nat} {st : Stmt} : PS X st (tS fr X.K T (.raise c)) :=
  PS.imp ps_never (fun D σ H ⟨H0, O0, ρ, q, so, h, f⟩ => by simp only [ex] at h; cases h)
theorem sS_while {m : List Nat} {μ : SE} {c : Expr} {b : List Stmt} {sb : SB} (hp : PassesOwn (model X.prog X.w) X.A X.env X.xe) (hc : PT X c (tT X.K T s)) (hb : PSs X b (tB fr X.K T sb)) : PS X (.While c b [] pos) (tS fr X.K T (.whl m μ s sb)) :=
  PS.imp (ps_while hp hc hb) (fun D σ H ⟨H0, O0, ρ, q, so, h, f⟩ => by
    simp only [ex] at h
    obtain ⟨v, _, h⟩ := bok h
    obtain ⟨z, _, h⟩ := bok h
    refine ⟨fun k σ2 H2 => ∃ ρ2, SOk X.K H0 O0 H2 σ2 ρ2 ∧ Keep H (OwnH O0 σ [] ρ) H2 (OwnH O0 σ2 [] ρ2) ∧ whGo (fun ρ => do let x ← ev T s (vis m ρ); tru x) (exs T sb) k ρ2 = .ok q, ⟨z.toNat + 1, ρ, so, Keep.refl, h⟩, ?_⟩
    rintro k σ2 H2 ⟨ρ2, so2, k2, hg⟩
    cases k with
    | zero => simp only [whGo] at hg; cases hg
    | succ k =>
      simp only [whGo] at hg
      obtain ⟨t, h1, hg⟩ := bok hg
      obtain ⟨x, h2, h1⟩ := bok h1
      obtain rfl := tru_ok h1
      refine seeT so2 h2 fun H3 e3 so3 => ?_
      cases t with
      | false =>
        simp only [Bool.false_eq_true, if_false] at hg ⊢
        cases hg
        exact f σ2 H3 so3 (k2.trans e3.keep)
      | true =>
        simp only [if_true] at hg ⊢
        obtain ⟨⟨fl, ρ3⟩, h3, hg⟩ := bok hg
        refine ⟨fun σ' H' => ∃ ρ', SOk X.K H0 O0 H' σ' ρ' ∧ Keep H (OwnH O0 σ [] ρ) H' (OwnH O0 σ' [] ρ') ∧ whGo (fun ρ => do let x ← ev T s (vis m ρ); tru x) (exs T sb) k ρ' = .ok q, fun σ' H' nx => ⟨k, by omega, nx⟩, ?_⟩
        refine ⟨H0, O0, ρ2, (fl, ρ3), so3, h3, ?_⟩
        cases fl with
        | nx =>
          simp only at hg
          exact fun σ' H' so' k' => ⟨ρ3, so', (k2.trans e3.keep).trans k', hg⟩
        | rt v =>
          simp only at hg
          cases hg
          exact f)
theorem ItOk.mono {K : PySem.W.Frag} {J : It} {H : Hp} {O O' : Hid} {vs : List Val} (h : ItOk K J H O vs) (i : ∀ a, O' a → O a) : ItOk K J H O' vs :=
  fun k H' O2 w kp => h k H' O2 w ⟨fun a o ha n => kp.vis a o ha (fun z => n (i a z)), fun a ha => (kp.new a ha).imp (i a) (fun q => q)⟩
theorem sS_for {m : List Nat} {tg : Tg} {it : SI} {tgE iter : Expr} {b : List Stmt} {sb : SB} (cx : Ctx X n M T N) (hp : PassesOwn (model X.prog X.w) X.A X.env X.xe) (hi : PI X tgE iter (tI X.K T it)) (hg : PG X tgE (gR X.K tg)) (hb : PSs X b (tB fr X.K T sb))
    (hs : noSet iter = true) : PS X (.For tgE iter b [] pos) (tS fr X.K T (.loop m tg it sb)) :=
  PS.imp (ps_for hp cx.calm hi hg hb (noSet_fold hs)) (fun D σ H ⟨H0, O0, ρ, q, so, h, f⟩ => by
    simp only [ex] at h
    obtain ⟨items, h1, h⟩ := bok h
    refine ⟨OwnH O0 σ m ρ, vis m ρ, items, so.wf m, so.eok m, h1, fun J H1 e1 hit => ?_⟩
    have so1 := (so.extend e1).kept m false
    have hit1 := hit.mono (O' := OwnH O0 σ [] (kept m false ρ)) (fun a ha => kept_hid rfl ha)
    have k1 : Keep H (OwnH O0 σ [] ρ) H1 (OwnH O0 σ [] (kept m false ρ)) := ext_own (K := X.K) (H0 := H0) e1
    refine ⟨fun i k σ2 H2 => k = items.length - i ∧ i ≤ items.length ∧ ∃ ρ2, SOk X.K H0 O0 H2 σ2 ρ2 ∧ Keep H1 (OwnH O0 σ [] (kept m false ρ)) H2 (OwnH O0 σ2 [] ρ2) ∧ forGo (bindS tg) (exs T sb) (items.drop i) ρ2 = .ok q,
      ⟨items.length, by omega, Nat.zero_le _, _, so1, Keep.refl, by simpa using h⟩, ?_⟩
    rintro i k σ2 H2 ⟨rfl, hi, ρ2, so2, k2, hgo⟩
    obtain ⟨stop, go⟩ := hit1 i H2 _ (so2.wf []) k2
    by_cases hlt : i < items.length
    · obtain ⟨g, y⟩ := go items[i] (List.getElem?_eq_getElem hlt)
      refine .inr ⟨g, fun σ' H' => i + 1 ≤ items.length ∧ ∃ ρ', SOk X.K H0 O0 H' σ' ρ' ∧ Keep H1 (OwnH O0 σ [] (kept m false ρ)) H' (OwnH O0 σ' [] ρ') ∧ forGo (bindS tg) (exs T sb) (items.drop (i + 1)) ρ' = .ok q,
        fun σ' H' nx => ⟨items.length - (i + 1), by omega, rfl, nx⟩, fun x H3 hy => ?_⟩
      obtain ⟨e3, rx⟩ := y x H3 hy
      rw [List.drop_eq_getElem_cons hlt] at hgo
      simp only [forGo] at hgo
      obtain ⟨ρ3, hb, hgo⟩ := bok hgo
      simp only [bindS] at hb
      obtain ⟨bs, hf, hb⟩ := bok hb
      cases hb
      obtain ⟨⟨fl, ρ4⟩, h4, hgo⟩ := bok hgo
      have so3 := so2.extend e3
      refine ⟨_, items[i], bs, so3.wf [], rx, hf, fun zs hz => ?_⟩
      obtain ⟨so5, k5⟩ := so3.sets hz
      refine ⟨H0, O0, _, (fl, ρ4), so5, h4, ?_⟩
      cases fl with
      | nx =>
        simp only at hgo
        exact fun σ' H' so' k' => ⟨hlt, ρ4, so', ((k2.trans e3.keep).trans k5).trans k', hgo⟩
      | rt v =>
        simp only at hgo
        cases hgo
        exact f
    · have hie : i = items.length := by omega
      subst hie
      rw [List.drop_length] at hgo
      simp only [forGo] at hgo
      cases hgo
      exact .inl ⟨stop (Nat.le_refl _), f σ2 H2 so2 (k1.trans k2)⟩)
end
end VM

set_option Elab.async false
set_option linter.all false
set_option maxRecDepth 100000
set_option maxHeartbeats 8000000
/-! W9b: new lists of one's own, made and grown. -/
namespace VM
open PySem PySem.Spec PyProof.Rows L2

/-- an expression's value: a new list -/
def tF (K : PySem.W.Frag) (T : Tab) (s : SE) : TE := fun σ H Q => ∃ O ρ vs, WF H O ∧ EOk K H O σ ρ ∧ ev T s ρ = .ok (.lst vs) ∧
  ∀ p H' xs, H p = none → Ext H H' → H' p = some (.lst xs) → Reps K H' (fun a => O a ∨ a = p) vs xs → Q (.ref p) H'
section
variable {fr : Bool} {X : Cx} {n : Nat} {M : Nm} {T : Tab} {N : List Str} {e : Expr} {s : SE} {ses : SEs} {es : List Expr} {pos : Pos}
theorem tF.mono {K : PySem.W.Frag} {σ : L2.St} {H : Hp} {Q Q' : VK} (h : tF K T s σ H Q) (i : ∀ x H1, Q x H1 → Q' x H1) : tF K T s σ H Q' := by
  obtain ⟨O, ρ, vs, w, eo, h1, q⟩ := h
  exact ⟨O, ρ, vs, w, eo, h1, fun p H' xs a b c d => i _ _ (q p H' xs a b c d)⟩
theorem keep_or {H H' : Hp} {O : Hid} {p : Addr} (np : H p = none) (e : Ext H H') : Keep H O H' (fun a => O a ∨ a = p) := ⟨fun a o h _ => e a o h, fun a h => h.elim .inl (fun z => .inr (z ▸ np))⟩
theorem sF_lst (h : PA X es (tA X.K T ses)) : PE X (.List es pos) (tF X.K T (.lst ses)) :=
  PE.imp (pe_lst h) (fun σ H Q ⟨O, ρ, vs, w, eo, h, q⟩ => by
    simp only [ev] at h
    obtain ⟨us, h1, h⟩ := bok h
    obtain ⟨hl, h⟩ := iok h
    cases h
    refine ⟨O, ρ, vs, w, eo, h1, fun xs H1 e1 r1 => ⟨by rw [r1.length, ← lineN_eq]; exact hl, fun p np => ?_⟩⟩
    have np0 : H p = none := by
      cases z : H p with
      | none => rfl
      | some o => rw [e1 p o z] at np; cases np
    exact q p _ xs np0 (e1.trans (Ext.upd np)) upd_same (Reps.keep (w.ext e1) (keep_or np (Ext.upd np)) r1))
def FreshK (O : Hid) (H : Hp) (K : PySem.W.Frag) (vs : List Val) (Q : VK) : Prop := ∀ p H' xs, H p = none → Ext H H' → H' p = some (.lst xs) → Reps K H' (fun a => O a ∨ a = p) vs xs → Q (.ref p) H'
theorem none_of_ext {H H' : Hp} {p : Addr} (e : Ext H H') (np : H' p = none) : H p = none := by
  cases z : H p with
  | none => rfl
  | some o => rw [e p o z] at np; cases np
theorem FreshK.ext {O : Hid} {H H1 : Hp} {K : PySem.W.Frag} {vs : List Val} {Q : VK} (h : FreshK O H K vs Q) (e : Ext H H1) : FreshK O H1 K vs Q :=
  fun p H' xs np e1 hp r => h p H' xs (none_of_ext e np) (e.trans e1) hp r
theorem FreshK.lay {O : Hid} {H : Hp} {K : PySem.W.Frag} {vs : List Val} {xs : List V} {Q : VK} {p : Addr} (h : FreshK O H K vs Q) (w : WF H O) (np : H p = none) (r : Reps K H O vs xs) : Q (.ref p) (upd H p (.lst xs)) :=
  h p _ xs np (Ext.upd np) upd_same (Reps.keep w (keep_or np (Ext.upd np)) r)
/-- two values, a new list of them -/
def fV (K : PySem.W.Frag) (g : Val → Val → R Val) : R2 := fun x y H Q => ∃ O a b vs, WF H O ∧ Rep K H O a x ∧ Rep K H O b y ∧ g a b = .ok (.lst vs) ∧ FreshK O H K vs Q
theorem sFop_add : OpR X (binaryOp .Add) (fV X.K (op2 .add)) := by
  intro pins s σ H x y v u Q I rx ry ⟨O, a, b, r, w, ra, rb, e, q⟩
  simp only [op2] at e
  split at e
  · cases e
  · obtain ⟨hl, e⟩ := iok e
    cases e
    simp only [Rep] at ra rb
    obtain ⟨p, xs, rfl, n1, h1, r1⟩ := ra
    obtain ⟨p', ys, rfl, n2, h2, r2⟩ := rb
    refine op_cat pins s σ H _ _ v u Q I rx ry ⟨p, p', xs, ys, rfl, rfl, h1, h2, ?_, fun l n => q.lay w n (r1.append r2)⟩
    rw [r1.length, r2.length, ← lineN_eq]; exact hl
  · cases e
theorem sFop_mul : OpR X (binaryOp .Mult) (fV X.K (op2 .mul)) := by
  intro pins s σ H x y v u Q I rx ry ⟨O, a, b, r, w, ra, rb, e, q⟩
  simp only [op2] at e
  split at e
  · obtain ⟨hm, e⟩ := iok e
    cases e
  · obtain ⟨hm, e⟩ := iok e
    cases e
    obtain ⟨h1, h2, h3⟩ := of_decide_eq_true hm
    simp only [Rep] at ra rb
    obtain ⟨p, xs, rfl, n1, hp, r1⟩ := ra
    subst rb
    refine op_rep pins s σ H _ _ v u Q I rx ry ⟨p, _, xs, rfl, rfl, hp, h1, h2, ?_, fun l n => q.lay w n (r1.repl _)⟩
    rw [r1.length, ← lineN_eq]; exact h3
  · cases e
theorem tF_op {o : Op2} {K : PySem.W.Frag} {sa sb : SE} : ∀ σ H Q, tF K T (.op o sa sb) σ H Q → tOp (fV K (op2 o)) (tE K T sa) (tE K T sb) σ H Q := fun σ H Q ⟨O, ρ, v, w, eo, h, q⟩ => by
  simp only [ev] at h
  obtain ⟨x, h1, h⟩ := bok h
  obtain ⟨y, h2, h⟩ := bok h
  exact ⟨O, ρ, x, w, eo, h1, fun x1 H1 e1 r1 => ⟨O, ρ, y, w.ext e1, eo.ext w e1, h2, fun y1 H2 e2 r2 => ⟨O, x, y, v, (w.ext e1).ext e2, r1.ext (w.ext e1) e2, r2, h, FreshK.ext q (e1.trans e2)⟩⟩⟩
theorem sF_add {a b : Expr} {sa sb : SE} (ha : PE X a (tE X.K T sa)) (hb : PE X b (tE X.K T sb)) : PE X (.BinOp a .Add b pos) (tF X.K T (.op .add sa sb)) := PE.imp (pe_op sFop_add ha hb) tF_op
theorem sF_mul {a b : Expr} {sa sb : SE} (ha : PE X a (tE X.K T sa)) (hb : PE X b (tE X.K T sb)) : PE X (.BinOp a .Mult b pos) (tF X.K T (.op .mul sa sb)) := PE.imp (pe_op sFop_mul ha hb) tF_op
def fVs (K : PySem.W.Frag) (g : List Val → R Val) : List V → Hp → VK → Prop := fun xs H Q => ∃ O as vs, WF H O ∧ Reps K H O as xs ∧ g as = .ok (.lst vs) ∧ FreshK O H K vs Q
theorem cF_list : CallR X (.type "list") (fVs X.K (bi1 .list)) := by
  intro pins s σ H xs us Q I rx ⟨O, as, r, w, ra, e, q⟩
  unfold bi1 at e
  split at e <;> first | (cases e; done) | skip
  all_goals (try (rename_i hh; cases hh))
  all_goals (cases e; obtain ⟨x, rfl, p⟩ := reps1 ra; simp only [Rep] at p)
  · obtain ⟨a, ys, rfl, _, sq, rr⟩ := p
    exact call_list_of pins s σ H _ us Q I rx ⟨a, ys, rfl, .inl (SqL.of sq), fun l nl => q.lay w nl rr⟩
  · obtain ⟨a, ys, rfl, sq, rr⟩ := p
    exact call_list_of pins s σ H _ us Q I rx ⟨a, ys, rfl, .inr sq, fun l nl => q.lay w nl rr⟩
theorem sF_list {a : Expr} {es : List Expr} {p : Pos} (cx : Ctx X n M T N) (hg : Gl X "list") (ha : PA X (a :: es) (tA X.K T ses)) (h1 : nst a = true) (h2 : es.all nst = true) : PE X (.Call (.Name "list" p) (a :: es) [] pos) (tF X.K T (.bi .list ses)) :=
  PE.imp (pe_callTy cF_list hg (cx.facts.bis "list" (by decide)) boot_list ha (by decide) (by decide) (star_cons h1) (star_any h2)) (fun σ H Q ⟨O, ρ, v, w, eo, h, q⟩ => by
    simp only [ev] at h
    obtain ⟨vs, h1, h⟩ := bok h
    exact ⟨O, ρ, vs, w, eo, h1, fun xs H1 e1 r1 => ⟨O, vs, v, w.ext e1, r1, h, FreshK.ext q e1⟩⟩)
/-- x = a new list -/
theorem sS_own_core {m : List Nat} {i : Nat} : ∀ D σ H, tS fr X.K T (.own m i s) D σ H → tF X.K T s σ H (fun x H1 => D.nx (σ.set i (some x)) H1) := fun D σ H ⟨H0, O0, ρ, q, so, h, f⟩ => by
  simp only [ex] at h
  obtain ⟨v, h1, h⟩ := bok h
  split at h
  · rename_i vs
    obtain ⟨hl, h⟩ := iok h
    subst h
    refine ⟨OwnH O0 σ m ρ, vis m ρ, vs, so.wf m, so.eok m, h1, fun p H' xs np e1 hp r => ?_⟩
    have so2 := so.kept m (flats vs)
    have hl2 : i < (VM.kept m (flats vs) ρ).length := by unfold VM.kept; split; exact hl; split; exact hl; rw [frzs_len]; exact hl
    have r2 : Reps X.K H' (fun a => OwnH O0 σ [] (VM.kept m (flats vs) ρ) a ∨ a = p) vs xs := by
      have w' : WF H' (fun a => OwnH O0 σ m ρ a ∨ a = p) := fun a ha => by
        rcases ha with ha | rfl
        · exact ((so.wf m).ext e1) a ha
        · exact ⟨_, hp, True.intro⟩
      cases hf : flats vs with
      | true => exact Reps.flat hf r
      | false => exact Reps.keep w' ⟨fun _ _ h _ => h, fun a ha => .inl (ha.imp (fun z => kept_hid rfl z) id)⟩ r
    obtain ⟨so3, k3⟩ := so2.set_own (i := i) (s := .ow vs) rfl np H' e1 ⟨xs, hp, r2⟩ hl2
    exact f _ _ so3 (kept_keep.trans k3)
  · cases h
theorem sS_own {m : List Nat} {i : Nat} {x : Str} {px : Pos} (cx : Ctx X n M T N) (hk : X.env.scope.kind = .function) (hi : X.N[i]? = some x) (hx : Loc X.env.scope x) (hf : X.fn x = true)
    (he : PE X e (tF X.K T s)) (hsw : swB X.env.scope x px e = false) (hn : noComp e = true ∨ ∃ a b c d, e = .ListComp a b c d) : PS X (.Assign [.Name x px] e pos) (tS fr X.K T (.own m i s)) :=
  PS.imp (ps_set cx.nd hi hx he (swB_false hk hsw hn) (.inl hf)) (fun D σ H h => sS_own_core (X := X) (T := T) D σ H h)
theorem tF_comp {K : PySem.W.Frag} {own : List Nat} {tg : Tg} {it : SI} {c : SO} {el : SE} (hown : ∀ i ∈ tgIx tg, i ∈ own) : ∀ σ H Q, tF K T (.comp own tg it c el) σ H Q →
    tLc (tI K T it) (gR K tg) (tCo K T c) (tE K T el) own σ H Q := by
  intro σ H Q ⟨O, ρ, ys, w, eo, h, q⟩
  simp only [ev] at h
  obtain ⟨items, h1, h⟩ := bok h
  by_cases hlen : items.length ≤ lineN
  case neg => rw [if_neg hlen] at h; cases h
  rw [if_pos hlen] at h
  obtain ⟨ys0, h2, h⟩ := bok h
  have e0 : ys0 = ys := by cases h; rfl
  rw [e0] at h2
  refine ⟨O, ρ, items, w, eo, h1, fun J H1 e1 hit => ?_⟩
  intro D nD
  have w1 : WF H1 O := w.ext e1
  refine ⟨fun i m H2 => m = items.length - i ∧ i ≤ items.length ∧ ∃ acc xs ys', H2 D = some (.lst xs) ∧ Reps K H2 (fun a => O a ∨ a = D) acc xs ∧
    compGo (bindE tg) (evC T c) (ev T el) (wipeE ρ own) (items.drop i) = .ok ys' ∧ acc ++ ys' = ys ∧ xs.length ≤ i ∧ Ext H1 H2,
    ⟨items.length, by omega, Nat.zero_le _, [], [], ys, upd_same, Reps.nil, by simpa using h2, rfl, Nat.zero_le _, Ext.upd nD⟩, ?_⟩
  rintro i m H2 ⟨rfl, hi, acc, xs, ys', hD, hr, hgo, hcat, hxl, e2⟩
  have w2 : WF H2 (fun a => O a ∨ a = D) := fun a ha => by
    rcases ha with ha | rfl
    · exact w1.ext e2 a ha
    · exact ⟨_, hD, True.intro⟩
  have k2 : Keep H1 O H2 (fun a => O a ∨ a = D) := ⟨fun a o h _ => e2 a o h, fun a h => h.elim .inl (fun e => .inr (e ▸ nD))⟩
  obtain ⟨stop, go⟩ := hit i H2 _ w2 k2
  by_cases hlt : i < items.length
  · obtain ⟨g, y⟩ := go items[i] (List.getElem?_eq_getElem hlt)
    refine .inr ⟨g, fun H' => i + 1 ≤ items.length ∧ ∃ acc xs ys', H' D = some (.lst xs) ∧ Reps K H' (fun a => O a ∨ a = D) acc xs ∧
      compGo (bindE tg) (evC T c) (ev T el) (wipeE ρ own) (items.drop (i + 1)) = .ok ys' ∧ acc ++ ys' = ys ∧ xs.length ≤ i + 1 ∧ Ext H1 H',
      fun H' nx => ⟨items.length - (i + 1), by omega, rfl, nx⟩, fun x H3 hy => ?_⟩
    obtain ⟨e3, rx⟩ := y x H3 hy
    rw [List.drop_eq_getElem_cons hlt] at hgo
    simp only [compGo] at hgo
    obtain ⟨ρ1, hb, hgo⟩ := bok hgo
    simp only [bindE] at hb
    obtain ⟨bs, hf, hb⟩ := bok hb
    cases hb
    obtain ⟨b, hc, hgo⟩ := bok hgo
    have w3 := w2.ext e3
    have eo3 : EOk K H3 (fun a => O a ∨ a = D) (wipe σ own) (wipeE ρ own) := (((eo.ext w e1).keep w1 k2).ext w2 e3).wipe own
    refine ⟨_, items[i], bs, w3, rx, hf, fun zs hz => ⟨?_, ?_⟩⟩
    · rw [wipe_setsV (fun j hj => hown j (by rw [← flatT_ix hf]; exact hj)), wipe_wipe]
    · refine ⟨_, setsE (wipeE ρ own) bs, b, w3, eo3.sets hz, hc, fun H4 e4 => ?_⟩
      cases b with
      | false =>
        simp only [Bool.false_eq_true, if_false] at hgo ⊢
        exact ⟨hlt, acc, xs, ys', e4 _ _ (e3 _ _ hD), (hr.ext w2 e3).ext w3 e4, hgo, hcat, Nat.le_succ_of_le hxl, (e2.trans e3).trans e4⟩
      | true =>
        simp only [if_true] at hgo ⊢
        obtain ⟨yv, hy1, hgo⟩ := bok hgo
        obtain ⟨ys2, hy2, hgo⟩ := bok hgo
        cases hgo
        have w4 := w3.ext e4
        refine ⟨_, setsE (wipeE ρ own) bs, yv, w4, (eo3.sets hz).ext w3 e4, hy1, fun z H5 e5 rz => ?_⟩
        have hD5 : H5 D = some (.lst xs) := e5 _ _ (e4 _ _ (e3 _ _ hD))
        refine ⟨xs, hD5, by rw [← lineN_eq]; omega, hlt, acc ++ [yv], xs ++ [z], ys2, upd_same, ?_, hy2, by rw [List.append_assoc]; exact hcat, by simp; omega, fun a o ha => ?_⟩
        · have w5 := w4.ext e5
          refine Reps.keep w5 (O' := fun a => O a ∨ a = D) ⟨fun a o ha na => ?_, fun a ha => .inl ha⟩ (((((hr.ext w2 e3).ext w3 e4).ext w4 e5)).append (Reps.cons rz Reps.nil))
          rw [upd_ne (fun e => na (.inr e))]; exact ha
        · rw [upd_ne (ne_of_none ha nD)]
          exact e5 _ _ (e4 _ _ (e3 _ _ (e2 _ _ ha)))
  · have hie : i = items.length := by omega
    subst hie
    rw [List.drop_length] at hgo
    simp only [compGo] at hgo
    cases hgo
    rw [List.append_nil] at hcat
    subst hcat
    have nD0 : H D = none := by
      cases z : H D with
      | none => rfl
      | some o => rw [e1 D o z] at nD; cases nD
    exact .inl ⟨stop (Nat.le_refl _), q D _ xs nD0 (e1.trans e2) hD hr⟩

theorem sF_comp {own : List Nat} {tg : Tg} {it : SI} {c : SO} {el : SE} {elt tgE iter : Expr} {ifs : List Expr} {scope : Scope} {p2 : Pos} (cx : Ctx X n M T N)
    (hc : chkE M N (.comp own tg it c el) X.env.scope (.ListComp elt [⟨tgE, iter, ifs, 0⟩] scope p2) = true) : PE X (.ListComp elt [⟨tgE, iter, ifs, 0⟩] scope p2) (tF X.K T (.comp own tg it c el)) := by
  simp only [chkE, Bool.and_eq_true] at hc
  obtain ⟨⟨⟨⟨⟨⟨h1, h2⟩, h3⟩, h4⟩, h5⟩, h6⟩, h7⟩ := hc
  have hb : BlkOk X.N X.env.scope scope (own.map fun i => (N.getD i "", i)) := by rw [cx.hN]; exact blkOk_by h1
  have p := pe_lc (elt := elt) (pos := p2) (scope := scope) cx.calm cx.nd (sndI it cx h3) hb (g := gR X.K tg) (tt := tCo X.K T c) (te := tE X.K T el)
    (fun s H C cl fp => sndG (N := N) tg (X := X.blk s H scope (compEnvC scope cl C X.env) fp) cx.hN cx.nd cx.calm (fun y hy => hy) h5)
    (fun s H C cl fp => sndC c (cx.blk s H scope (compEnvC scope cl C X.env) fp) h6)
    (fun s H C cl fp => (sndE el (cx.blk s H scope (compEnvC scope cl C X.env) fp) h7).1)
    (noSet_fold h4)
  rw [own_snd] at p
  exact PE.imp p (tF_comp (T := T) (own := own) (tg := tg) (it := it) (c := c) (el := el) (fun i hi => by simpa using List.all_eq_true.mp h2 i hi))
/-- x = [..] of its own, by a swap -/
theorem sS_ownLc {m : List Nat} {i : Nat} {x : Str} {px : Pos} {own : List Nat} {tg : Tg} {it : SI} {c : SO} {el : SE} {elt tgE iter : Expr} {ifs : List Expr} {scope : Scope} {p2 : Pos} (cx : Ctx X n M T N) (hk : X.env.scope.kind = .function) (hi : X.N[i]? = some x)
    (hc : chkE M N (.comp own tg it c el) X.env.scope (.ListComp elt [⟨tgE, iter, ifs, 0⟩] scope p2) = true) (hsw : swB X.env.scope x px (.ListComp elt [⟨tgE, iter, ifs, 0⟩] scope p2) = true) :
    PS X (.Assign [.Name x px] (.ListComp elt [⟨tgE, iter, ifs, 0⟩] scope p2) pos) (tS fr X.K T (.own m i (.comp own tg it c el))) := by
  simp only [chkE, Bool.and_eq_true] at hc
  obtain ⟨⟨⟨⟨⟨⟨h1, h2⟩, h3⟩, h4⟩, h5⟩, h6⟩, h7⟩ := hc
  have hb : BlkOk X.N X.env.scope scope (own.map fun i => (N.getD i "", i)) := by rw [cx.hN]; exact blkOk_by h1
  unfold swB at hsw
  simp only [Bool.and_eq_true, Bool.not_eq_true'] at hsw
  obtain ⟨⟨s1, s2⟩, s3⟩ := hsw
  have hl : X.env.scope.names.lookup x = some .local := by
    split at s1
    · assumption
    · cases s1
  have p := ps_setLc (i := i) (py := px) (spos := pos) (elt := elt) (pos := p2) (scope := scope) cx.calm cx.nd hi hl (sw_true hk hl s2 s3) (sndI it cx h3) hb (g := gR X.K tg) (tt := tCo X.K T c) (te := tE X.K T el)
    (fun s H C cl fp => sndG (N := N) tg (X := X.blk s H scope (compEnvC scope cl C X.env) fp) cx.hN cx.nd cx.calm (fun y hy => hy) h5)
    (fun s H C cl fp => sndC c (cx.blk s H scope (compEnvC scope cl C X.env) fp) h6)
    (fun s H C cl fp => (sndE el (cx.blk s H scope (compEnvC scope cl C X.env) fp) h7).1)
    (noSet_fold h4)
  rw [own_snd] at p
  refine PS.imp p (fun D σ H h => ?_)
  exact tF_comp (fun i hi => by simpa using List.all_eq_true.mp h2 i hi) σ H _ (sS_own_core (X := X) (T := T) D σ H h)
/-- a new list handed back -/
theorem sS_retF {m : List Nat} (he : PE X e (tF X.K T s)) : PS X (.Return (some e) pos) (tS true X.K T (.ret m s)) :=
  PS.imp (ps_ret he) (fun D σ H ⟨H0, O0, ρ, q, so, h, f⟩ => by
    simp only [ex] at h
    obtain ⟨v, h1, h⟩ := bok h
    cases h
    obtain ⟨vs, rfl, f⟩ := f
    refine ⟨OwnH O0 σ m ρ, vis m ρ, vs, so.wf m, so.eok m, h1, fun p H' xs np e1 hp r => f p H' xs ?_ (so.ext.trans e1) hp ?_⟩
    · exact none_of_ext so.ext np
    · have w' : WF H' (fun a => OwnH O0 σ m ρ a ∨ a = p) := fun a ha => by
        rcases ha with ha | rfl
        · exact ((so.wf m).ext e1) a ha
        · exact ⟨_, hp, True.intro⟩
      exact Reps.keep w' ⟨fun _ _ h _ => h, fun a ha => .inl (ha.imp (fun z => .inl z) id)⟩ r)
/-- one's own list handed back -/
theorem sS_retv {i : Nat} {x : Str} {px : Pos} (hi : X.N[i]? = some x) (hv : Vis X.env.scope x) (hd : dbg x = true) : PS X (.Return (some (.Name x px)) pos) (tS fr X.K T (.retv i)) :=
  PS.imp (ps_ret (pe_var hi hv (dbg_1 hd) (dbg_2 hd))) (fun D σ H ⟨H0, O0, ρ, q, so, h, f⟩ => by
    simp only [ex] at h
    split at h
    · rename_i vs hs
      cases h
      obtain ⟨a, hσ, hn, xs, hxs, rxs⟩ := so.own i _ hs rfl
      have hO : OwnH O0 σ [] ρ a := .inr ⟨i, _, hs, rfl, by simp, hσ⟩
      refine ⟨_, hσ, ?_⟩
      cases fr with
      | false =>
        have nO : ¬ O0 a := fun z => by
          obtain ⟨o, e, _⟩ := so.wf0 a z
          rw [hn] at e; cases e
        refine f _ _ so.ext ?_
        simp only [Rep]
        exact ⟨a, xs, rfl, nO, hxs, Reps.keep (so.wf []) ⟨fun _ _ h _ => h, fun c hc => .inl (.inl hc)⟩ rxs⟩
      | true =>
        obtain ⟨us, e, f⟩ := f
        cases e
        exact f a H xs hn so.ext hxs (Reps.keep (so.wf []) ⟨fun _ _ h _ => h, fun c hc => .inl (hc.elim .inl (fun z => z ▸ hO))⟩ rxs)
    · cases h)
theorem sF_call {f : Nat} {x : Str} {p : Pos} (cx : Ctx X n M T N) (hf : M.fn f = some x) (hfr : M.fr f = true) (hg : Gl X x) (hd : dbg x = true) (ha : PA X es (tA X.K T ses)) (hs : es.all nst = true) (hn : es = [] → ses = .nil) : PE X (.Call (.Name x p) es [] pos) (tF X.K T (.call f ses)) := by
  obtain ⟨fa, fd, ps, m, kp, hb, _, hl, F⟩ := cx.facts.fns f x hf
  have F := F hfr
  have key : ∀ σ H Q, tF X.K T (.call f ses) σ H Q → tCall (spF X.K ps.length (T.C f)) [] E0 (tA X.K T ses) σ H Q := fun σ H Q ⟨O, ρ, v, w, eo, h, q⟩ => by
    simp only [ev] at h
    obtain ⟨vs, h1, h⟩ := bok h
    exact ⟨O, ρ, vs, w, eo, h1, fun xs H1 e1 r1 => ⟨O, vs, v, w.ext e1, by rw [List.append_nil]; exact r1, hl _ _ h, h, FreshK.ext q e1⟩⟩
  cases es with
  | nil =>
    refine PE.imp (pe_call0 F cx.room hg m kp hb .nil pass0 (dbg_1 hd)) (fun σ H Q h => ?_)
    obtain ⟨O, ρ, vs, w, eo, h1, q⟩ := key σ H Q h
    have : vs = [] := by
      rw [hn rfl] at h1
      simp only [evs] at h1; cases h1; rfl
    subst this
    exact q [] H Ext.refl Reps.nil
  | cons e es =>
    simp only [List.all_cons, Bool.and_eq_true] at hs
    exact PE.imp (pe_call F cx.room hg m kp hb .nil pass0 ha (dbg_1 hd) (star_cons hs.1) (star_any hs.2)) key
/-- x, y = a new list, a value -/
theorem sS_parO {m : List Nat} {i j : Nat} {x y : Str} {px py pt pt2 : Pos} {kt k2 : Nat} {a b : Expr} {sa sb : SE} (cx : Ctx X n M T N) (hk : X.env.scope.kind = .function) (hi : X.N[i]? = some x) (hj : X.N[j]? = some y) (hij : i ≠ j)
    (hp : parB X.env.scope x px y py a b = true) (ha : PE X a (tF X.K T sa)) (hb : PE X b (tE X.K T sb)) : PS X (.Assign [.Tuple [.Name x px, .Name y py] kt pt] (.Tuple [a, b] k2 pt2) pos) (tS fr X.K T (.parO m i j sa sb)) := by
  have hp' := hp
  unfold parB at hp'
  simp only [Bool.and_eq_true] at hp'
  obtain ⟨⟨⟨⟨⟨⟨⟨h1, h2⟩, h3⟩, h4⟩, h5⟩, h6⟩, h7⟩, h8⟩ := hp'
  have l1 : X.env.scope.names.lookup x = some .local := by
    split at h1
    · assumption
    · cases h1
  have l2 : X.env.scope.names.lookup y = some .local := by
    split at h2
    · assumption
    · cases h2
  refine PS.imp (ps_par cx.calm cx.nd hi hj hij l1 l2 (pa_cons ha (pa_cons hb pa_nil (star_cons h6)) (star_cons h5)) (sw_par hk hp) rfl) (fun D σ H ⟨H0, O0, ρ, q, so, h, f⟩ => ?_)
  simp only [ex] at h
  obtain ⟨v, g1, h⟩ := bok h
  obtain ⟨w, g2, h⟩ := bok h
  cases v with
  | lst vs =>
    simp only at h
    obtain ⟨hl, h⟩ := iok h
    subst h
    have w0 := so.wf m
    refine ⟨OwnH O0 σ m ρ, vis m ρ, vs, w0, so.eok m, g1, fun p H1 xs np e1 hp1 r1 => ?_⟩
    have k1 : Keep H (OwnH O0 σ m ρ) H1 (fun a => OwnH O0 σ m ρ a ∨ a = p) := keep_or np e1
    have w1 : WF H1 (fun a => OwnH O0 σ m ρ a ∨ a = p) := fun a ha => by
      rcases ha with ha | rfl
      · exact (w0.ext e1) a ha
      · exact ⟨_, hp1, True.intro⟩
    refine ⟨_, vis m ρ, w, w1, (so.eok m).keep w0 k1, g2, fun y2 H2 e2 r2 => ⟨_, _, rfl, ?_⟩⟩
    have w2 : WF H2 (fun a => OwnH O0 σ m ρ a ∨ a = p) := w1.ext e2
    have e12 := e1.trans e2
    have so2 := so.kept m (flats vs && flat w)
    have hl2 : i < (VM.kept m (flats vs && flat w) ρ).length := by unfold VM.kept; split; exact hl; split; exact hl; rw [frzs_len]; exact hl
    have rx : Reps X.K H2 (fun a => OwnH O0 σ [] (VM.kept m (flats vs && flat w) ρ) a ∨ a = p) vs xs := by
      have r1' := Reps.ext w1 e2 r1
      cases hf : (flats vs && flat w) with
      | true => exact Reps.flat (Bool.and_eq_true_iff.mp hf).1 r1'
      | false => exact Reps.keep w2 ⟨fun _ _ h _ => h, fun a ha => .inl (ha.imp (fun z => kept_hid rfl z) id)⟩ r1'
    have ry : Rep X.K H2 (fun a => OwnH O0 σ [] (VM.kept m (flats vs && flat w) ρ) a ∨ a = p) w y2 := by
      cases hf : (flats vs && flat w) with
      | true => exact Rep.flat (Bool.and_eq_true_iff.mp hf).2 r2
      | false => exact Rep.keep w2 ⟨fun _ _ h _ => h, fun a ha => .inl (ha.imp (fun z => kept_hid rfl z) id)⟩ r2
    obtain ⟨so3, k3⟩ := so2.set_own (i := i) (s := .ow vs) rfl np H2 e12 ⟨xs, e2 _ _ hp1, rx⟩ hl2
    have w3 : WF H2 (fun a => OwnH O0 σ [] (VM.kept m (flats vs && flat w) ρ) a ∨ a = p) := fun a ha => by
      rcases ha with ha | rfl
      · exact ((so2.wf []).ext e12) a ha
      · exact ⟨_, e2 _ _ hp1, True.intro⟩
    have hid : ∀ a, OwnH O0 (σ.set i (some (.ref p))) [] ((VM.kept m (flats vs && flat w) ρ).set i (.ow vs)) a → OwnH O0 σ [] (VM.kept m (flats vs && flat w) ρ) a ∨ a = p := fun a ha => by
      rcases ha with ha | ⟨jj, t, z1, z2, _, z4⟩
      · exact .inl (.inl ha)
      · by_cases hij : i = jj
        · subst hij
          rw [List.getElem?_set_self (Nat.lt_of_lt_of_le hl2 so2.len)] at z4
          cases z4; exact .inr rfl
        · rw [List.getElem?_set_ne hij] at z1 z4
          exact .inl (.inr ⟨jj, t, z1, z2, by simp, z4⟩)
    have ry3 := Rep.keep w3 (O' := OwnH O0 (σ.set i (some (.ref p))) [] ((VM.kept m (flats vs && flat w) ρ).set i (.ow vs))) ⟨fun _ _ h _ => h, fun a ha => .inl (hid a ha)⟩ ry
    have so4 := so3.set_sh (i := j) ry3
    have k4 : Keep H2 (OwnH O0 (σ.set i (some (.ref p))) [] ((VM.kept m (flats vs && flat w) ρ).set i (.ow vs))) H2 (OwnH O0 ((σ.set i (some (.ref p))).set j (some y2)) [] (((VM.kept m (flats vs && flat w) ρ).set i (.ow vs)).set j (.sh w))) :=
      ⟨fun _ _ h _ => h, fun a ha => .inl (own_set_sh ha)⟩
    exact f _ _ so4 ((kept_keep.trans k3).trans k4)
  | _ => cases h
theorem few1 {env : Env} {cpos : Pos} (h : nst e = true) : ((backTo cpos (starEach (e :: []) env)).all (fun x => !x.1) && (backToKw cpos (keywordEach [] env)).all (fun x => x.1.isSome)
      && decide ((e :: []).length + ([] : List Keyword).length + (if ([] : List Keyword).isEmpty then 0 else 1) < 30)) = true := by
  rw [star_cons h]; rfl
/-- x.append(e) -/
theorem sS_app {m : List Nat} {i : Nat} {x : Str} {px apos cpos : Pos} (hi : X.N[i]? = some x) (hv : Vis X.env.scope x) (hd : dbg x = true) (he : PE X e (tE X.K T s)) (hs : nst e = true) (hline : (apos.endLine == cpos.line) = true) :
    PS X (.Expr (.Call (.Attribute (.Name x px) "append" apos) [e] [] cpos) pos) (tS fr X.K T (.app m i s)) :=
  PS.imp (ps_expr (pe_bm PySem.F.plainAttrs_list PySem.F.slot_list_append PySem.F.type_list_append mt_append (pe_var hi hv (dbg_1 hd) (dbg_2 hd)) (sA_cons he sA_nil hs) rfl (few1 hs) hline (star_cons hs) rfl)) (fun D σ H ⟨H0, O0, ρ, q, so, h, f⟩ => by
    simp only [ex] at h
    obtain ⟨v, h1, h⟩ := bok h
    split at h
    · cases h
    split at h
    · rename_i vs hvs
      obtain ⟨hl, h⟩ := iok h
      subst h
      have so1 := so.kept m (flat v)
      obtain ⟨a, hσ, _, xs, hxs, rxs⟩ := so1.own i _ hvs rfl
      refine ⟨_, hσ, .inl ⟨rfl, _, .inl (.inl hxs)⟩, OwnH O0 σ m ρ, vis m ρ, [v], so.wf m, so.eok m, by simp only [evs, h1]; rfl, fun ys H1 e1 r => ?_⟩
      obtain ⟨y, t, rfl, ry, rt⟩ := (by simpa only [Reps] using r)
      obtain rfl := rt
      have so2 := so.extend e1
      have so3 := so2.kept m (flat v)
      have ry3 : Rep X.K H1 (OwnH O0 σ [] (VM.kept m (flat v) ρ)) v y := kept_rep (fl := flat v) (so2.wf m) (fun h => h) ry
      have w3 := so3.wf []
      have hO : OwnH O0 σ [] (VM.kept m (flat v) ρ) a := .inr ⟨i, _, hvs, rfl, by simp, hσ⟩
      have r4 : Reps X.K H1 (OwnH O0 σ [] (VM.kept m (flat v) ρ)) (vs ++ [v]) (xs ++ [y]) := (Reps.ext (so1.wf []) e1 rxs).append (Reps.cons ry3 Reps.nil)
      have r5 : Reps X.K (upd H1 a (.lst (xs ++ [y]))) (OwnH O0 σ [] (VM.kept m (flat v) ρ)) (vs ++ [v]) (xs ++ [y]) :=
        Reps.keep w3 ⟨fun b o hb nb => by rw [upd_ne (show b ≠ a from fun z => nb (z ▸ hO))]; exact hb, fun _ h => .inl h⟩ r4
      refine ⟨a, xs, y, rfl, rfl, e1 _ _ hxs, by rw [rxs.length, ← lineN_eq]; exact hl, ?_⟩
      obtain ⟨so6, k6⟩ := so3.change (t := .ow (vs ++ [v])) hvs rfl hσ rfl ⟨_, upd_same, r5⟩
      exact f _ _ so6 ((ext_own (K := X.K) (H0 := H0) e1).trans k6)
    · cases h)
/-- x.extend(e) -/
theorem sS_ext {m : List Nat} {i : Nat} {x : Str} {px apos cpos : Pos} (hi : X.N[i]? = some x) (hv : Vis X.env.scope x) (hd : dbg x = true) (he : PE X e (tE X.K T s)) (hs : nst e = true) (hline : (apos.endLine == cpos.line) = true) :
    PS X (.Expr (.Call (.Attribute (.Name x px) "extend" apos) [e] [] cpos) pos) (tS fr X.K T (.ext m i s)) :=
  PS.imp (ps_expr (pe_bm PySem.F.plainAttrs_list PySem.F.slot_list_extend PySem.F.type_list_extend mt_extend (pe_var hi hv (dbg_1 hd) (dbg_2 hd)) (sA_cons he sA_nil hs) rfl (few1 hs) hline (star_cons hs) rfl)) (fun D σ H ⟨H0, O0, ρ, q, so, h, f⟩ => by
    simp only [ex] at h
    obtain ⟨v, h1, h⟩ := bok h
    split at h
    case h_2 => cases h
    rename_i ws
    split at h
    · cases h
    split at h
    · rename_i vs hvs
      obtain ⟨hl, h⟩ := iok h
      subst h
      have so1 := so.kept m (flats ws)
      obtain ⟨a, hσ, _, xs, hxs, rxs⟩ := so1.own i _ hvs rfl
      refine ⟨_, hσ, .inl ⟨rfl, _, .inl (.inl hxs)⟩, OwnH O0 σ m ρ, vis m ρ, [.lst ws], so.wf m, so.eok m, by simp only [evs, h1]; rfl, fun ys H1 e1 r => ?_⟩
      obtain ⟨y, t, rfl, ry, rt⟩ := (by simpa only [Reps] using r)
      obtain rfl := rt
      simp only [Rep] at ry
      obtain ⟨b, zs, rfl, nb, hb, rz⟩ := ry
      have so2 := so.extend e1
      have so3 := so2.kept m (flats ws)
      have rz3 : Reps X.K H1 (OwnH O0 σ [] (VM.kept m (flats ws) ρ)) ws zs := kept_reps (fl := flats ws) (so2.wf m) (fun h => h) rz
      have w3 := so3.wf []
      have hO : OwnH O0 σ [] (VM.kept m (flats ws) ρ) a := .inr ⟨i, _, hvs, rfl, by simp, hσ⟩
      have r4 : Reps X.K H1 (OwnH O0 σ [] (VM.kept m (flats ws) ρ)) (vs ++ ws) (xs ++ zs) := (Reps.ext (so1.wf []) e1 rxs).append rz3
      have r5 : Reps X.K (upd H1 a (.lst (xs ++ zs))) (OwnH O0 σ [] (VM.kept m (flats ws) ρ)) (vs ++ ws) (xs ++ zs) :=
        Reps.keep w3 ⟨fun b o hb nb => by rw [upd_ne (show b ≠ a from fun z => nb (z ▸ hO))]; exact hb, fun _ h => .inl h⟩ r4
      refine ⟨a, b, xs, zs, rfl, rfl, e1 _ _ hxs, hb, by rw [rxs.length, rz.length, ← lineN_eq]; exact hl, ?_⟩
      obtain ⟨so6, k6⟩ := so3.change (t := .ow (vs ++ ws)) hvs rfl hσ rfl ⟨_, upd_same, r5⟩
      exact f _ _ so6 ((ext_own (K := X.K) (H0 := H0) e1).trans k6)
    · cases h)
end
end VM

set_option Elab.async false
set_option linter.all false
set_option maxRecDepth 100000
set_option maxHeartbeats 8000000
/-! W10: the look at statements; defs; programs. -/
namespace VM
open PySem PySem.Spec PyProof.Rows L2

def isLC : Expr → Bool
  | .ListComp _ _ _ _ => true
  | _ => false
def isComp : SE → Bool
  | .comp _ _ _ _ _ => true
  | _ => false
theorem isLC_ok {e : Expr} (h : isLC e = true) : ∃ a b c d, e = .ListComp a b c d := by
  cases e <;> first | exact ⟨_, _, _, _, rfl⟩ | cases h
/-- name = e -/
def chkSet (M : Nm) (N : List Str) (i : Nat) (s : SE) (sc : Scope) (x : Str) (px : Pos) (e : Expr) : Bool :=
  decide (N[i]? = some x) && locB sc x && chkE M N s sc e && (if swB sc x px e then isComp s else (noComp e || isLC e))
/-- new lists -/
def chkF (M : Nm) (N : List Str) (s : SE) (sc : Scope) (e : Expr) : Bool := match s with
  | .lst ses => match e with
    | .List es _ => chkEs M N ses sc es
    | _ => false
  | .comp own tg it c el => match e with
    | .ListComp x [⟨tgE, iter, ifs, 0⟩] scope p => chkE M N (.comp own tg it c el) sc (.ListComp x [⟨tgE, iter, ifs, 0⟩] scope p)
    | _ => false
  | .op .add a b => match e with
    | .BinOp x .Add y _ => chkE M N a sc x && chkE M N b sc y
    | _ => false
  | .op .mul a b => match e with
    | .BinOp x .Mult y _ => chkE M N a sc x && chkE M N b sc y
    | _ => false
  | .call f es => match e with
    | .Call (.Name x _) xs [] _ => M.fr f && decide (M.fn f = some x) && glB sc x && dbg x && chkEs M N es sc xs
    | _ => false
  | .bi .list es => match e with
    | .Call (.Name x _) (y :: xs) [] _ => decide (x = ("list" : Str)) && glB sc x && chkEs M N es sc (y :: xs)
    | _ => false
  | _ => false
def chkOwn (M : Nm) (N : List Str) (i : Nat) (s : SE) (sc : Scope) (x : Str) (px : Pos) (e : Expr) : Bool :=
  decide (N[i]? = some x) && locB sc x && chkF M N s sc e && (if swB sc x px e then isComp s else (noComp e || isLC e))
def chkMt (M : Nm) (N : List Str) (nm : Str) (i : Nat) (s : SE) (sc : Scope) (x : Str) (f : Str) (e : Expr) (apos cpos : Pos) : Bool :=
  decide (f = nm) && decide (N[i]? = some x) && visB sc x && dbg x && chkE M N s sc e && nst e && (apos.endLine == cpos.line)
mutual
def chkS (fr : Bool) (M : Nm) (N : List Str) : SS → Scope → Stmt → Bool
  | .asg m tg s, sc, st => match st with
    | .Assign [.Name x px] e _ => (match tg with
      | .nm i => chkSet M N i s sc x px e
      | .tp _ => false)
    | .Assign [.Tuple es k pt] e _ => (match tg with
      | .nm _ => false
      | .tp _ => chkG N sc (fun _ => true) tg (.Tuple es k pt) && chkE M N s sc e && (match e with
        | .Tuple vs _ _ => swN sc es vs
        | _ => true))
    | _ => false
  | .par m i j a b, sc, st => match st with
    | .Assign [.Tuple [.Name x px, .Name y py] _ _] (.Tuple [ea, eb] _ _) _ => decide (N[i]? = some x) && decide (N[j]? = some y) && decide (i ≠ j) && parB sc x px y py ea eb && chkE M N a sc ea && chkE M N b sc eb
    | _ => false
  | .parO m i j a b, sc, st => match st with
    | .Assign [.Tuple [.Name x px, .Name y py] _ _] (.Tuple [ea, eb] _ _) _ => decide (N[i]? = some x) && decide (N[j]? = some y) && decide (i ≠ j) && parB sc x px y py ea eb && chkF M N a sc ea && chkE M N b sc eb
    | _ => false
  | .own m i s, sc, st => match st with
    | .Assign [.Name x px] e _ => chkOwn M N i s sc x px e
    | _ => false
  | .ownd _ _, _, _ => false
  | .app m i s, sc, st => match st with
    | .Expr (.Call (.Attribute (.Name x px) f apos) [e] [] cpos) _ => chkMt M N "append" i s sc x f e apos cpos
    | _ => false
  | .ext m i s, sc, st => match st with
    | .Expr (.Call (.Attribute (.Name x px) f apos) [e] [] cpos) _ => chkMt M N "extend" i s sc x f e apos cpos
    | _ => false
  | .seti _ _ _ _, _, _ => false
  | .dput _ _ _ _, _, _ => false
  | .iff m c a b, sc, st => match st with
    | .If ce as bs _ => tOk c && chkE M N c sc ce && chkB fr M N a sc as && chkB fr M N b sc bs
    | _ => false
  | .loop m tg it b, sc, st => match st with
    | .For tgE iter body [] _ => chkI M N it sc tgE iter && chkG N sc (fun _ => true) tg tgE && chkB fr M N b sc body && noSet iter
    | _ => false
  | .whl m μ c b, sc, st => match st with
    | .While ce body [] _ => tOk c && chkE M N c sc ce && chkB fr M N b sc body
    | _ => false
  | .ret m s, sc, st => match st with
    | .Return (some e) _ => if fr then chkF M N s sc e else chkE M N s sc e
    | _ => false
  | .retv i, sc, st => match st with
    | .Return (some (.Name x _)) _ => decide (N[i]? = some x) && visB sc x && dbg x
    | _ => false
  | .expr m s, sc, st => match st with
    | .Expr e _ => chkE M N s sc e && noComp e
    | _ => false
  | .raise _, _, _ => true
def chkB (fr : Bool) (M : Nm) (N : List Str) : SB → Scope → List Stmt → Bool
  | .nil, _, sts => sts.isEmpty
  | .cons s r, sc, sts => match sts with
    | st :: sts => chkS fr M N s sc st && chkB fr M N r sc sts
    | [] => false
end
section
variable {fr : Bool} {X : Cx} {n : Nat} {M : Nm} {T : Tab} {N : List Str}
theorem locB_loc {sc : Scope} {x : Str} (h : locB sc x = true) : Loc sc x := by
  unfold locB at h
  split at h <;> first | exact .inl (by assumption) | exact .inr (by assumption) | cases h
structure Ctx2 (X : Cx) (n : Nat) (M : Nm) (T : Tab) (N : List Str) : Prop extends Ctx X n M T N where
  kind : X.env.scope.kind = .function
  own : PassesOwn (model X.prog X.w) X.A X.env X.xe
  fn : ∀ x, X.fn x = true
theorem sndSet {m : List Nat} {i : Nat} {s : SE} {x : Str} {px pos : Pos} {e : Expr} (cx : Ctx2 X n M T N) (h : chkSet M N i s X.env.scope x px e = true) : PS X (.Assign [.Name x px] e pos) (tS fr X.K T (.asg m (.nm i) s)) := by
  unfold chkSet at h
  simp only [Bool.and_eq_true] at h
  obtain ⟨⟨⟨h1, h2⟩, h3⟩, h4⟩ := h
  have hi : X.N[i]? = some x := by rw [cx.hN]; exact of_decide_eq_true h1
  split at h4
  · rename_i hsw
    cases s with
    | comp own tg it c el =>
      have h3' := h3
      simp only [chkE] at h3'
      split at h3'
      · exact sS_setLc cx.toCtx cx.kind hi h3 hsw
      · cases h3'
    | _ => cases h4
  · rename_i hsw
    refine sS_set cx.toCtx cx.kind hi (locB_loc h2) (.inl (cx.fn x)) (sndE s cx.toCtx h3).1 (by simpa using hsw) ?_
    rw [Bool.or_eq_true] at h4
    exact h4.imp id isLC_ok
theorem sndF {s : SE} {e : Expr} (cx : Ctx X n M T N) (h : chkF M N s X.env.scope e = true) : PE X e (tF X.K T s) := by
  unfold chkF at h
  split at h
  · split at h
    · exact sF_lst (sndA _ cx h)
    · cases h
  · split at h
    · exact sF_comp cx h
    · cases h
  · split at h
    · simp only [Bool.and_eq_true] at h
      exact sF_add (sndE _ cx h.1).1 (sndE _ cx h.2).1
    · cases h
  · split at h
    · simp only [Bool.and_eq_true] at h
      exact sF_mul (sndE _ cx h.1).1 (sndE _ cx h.2).1
    · cases h
  · split at h
    · simp only [Bool.and_eq_true] at h
      obtain ⟨⟨⟨⟨h0, h1⟩, h2⟩, h3⟩, h4⟩ := h
      exact sF_call cx (of_decide_eq_true h1) h0 (glB_gl h2) h3 (sndA _ cx h4) (chkEs_nst h4) (chkEs_nil h4)
    · cases h
  · split at h
    · simp only [Bool.and_eq_true] at h
      obtain ⟨⟨h1, h2⟩, h3⟩ := h
      obtain rfl := of_decide_eq_true h1
      have g2 := chkEs_nst h3
      simp only [List.all_cons, Bool.and_eq_true] at g2
      exact sF_list cx (glB_gl h2) (sndA _ cx h3) g2.1 g2.2
    · cases h
  · cases h
theorem sndOwn {m : List Nat} {i : Nat} {s : SE} {x : Str} {px pos : Pos} {e : Expr} (cx : Ctx2 X n M T N) (h : chkOwn M N i s X.env.scope x px e = true) : PS X (.Assign [.Name x px] e pos) (tS fr X.K T (.own m i s)) := by
  unfold chkOwn at h
  simp only [Bool.and_eq_true] at h
  obtain ⟨⟨⟨h1, h2⟩, h3⟩, h4⟩ := h
  have hi : X.N[i]? = some x := by rw [cx.hN]; exact of_decide_eq_true h1
  split at h4
  · rename_i hsw
    cases s with
    | comp own tg it c el =>
      have h3' := h3
      simp only [chkF] at h3'
      split at h3'
      · exact sS_ownLc cx.toCtx cx.kind hi h3' hsw
      · cases h3'
    | _ => cases h4
  · rename_i hsw
    refine sS_own cx.toCtx cx.kind hi (locB_loc h2) (cx.fn x) (sndF cx.toCtx h3) (by simpa using hsw) ?_
    rw [Bool.or_eq_true] at h4
    exact h4.imp id isLC_ok
theorem sw_other {es : List Expr} {k : Nat} {p : Pos} {e : Expr} {env : Env} (h : ∀ vs k2 p2, e ≠ .Tuple vs k2 p2) : swappedStores [.Tuple es k p] e env = pure none := by
  cases e <;> first | rfl | exact absurd rfl (h _ _ _)
mutual
theorem sndS : ∀ (s : SS) {X : Cx} {st : Stmt}, Ctx2 X n M T N → chkS fr M N s X.env.scope st = true → PS X st (tS fr X.K T s)
  | .asg m tg s, X, st, cx, h => by
    simp only [chkS] at h
    split at h
    · split at h
      · exact sndSet cx h
      · cases h
    · split at h
      · cases h
      · rename_i es k pt e p _ ts
        simp only [Bool.and_eq_true] at h
        obtain ⟨⟨h1, h2⟩, h3⟩ := h
        refine sS_tup (sndE s cx.toCtx h2).1 (sndG (N := N) _ cx.hN cx.nd cx.calm (fun x _ => cx.fn x) h1) ?_
        split at h3
        · exact sw_none cx.kind h3
        · rename_i hne
          exact sw_other (fun vs k2 p2 e => hne vs k2 p2 e)
    · cases h
  | .par m i j a b, X, st, cx, h => by
    simp only [chkS] at h
    split at h
    · simp only [Bool.and_eq_true] at h
      obtain ⟨⟨⟨⟨⟨h1, h2⟩, h3⟩, h4⟩, h5⟩, h6⟩ := h
      exact sS_par cx.toCtx cx.kind (by rw [cx.hN]; exact of_decide_eq_true h1) (by rw [cx.hN]; exact of_decide_eq_true h2) (of_decide_eq_true h3) h4 (sndE a cx.toCtx h5).1 (sndE b cx.toCtx h6).1
    · cases h
  | .parO m i j a b, X, st, cx, h => by
    simp only [chkS] at h
    split at h
    · simp only [Bool.and_eq_true] at h
      obtain ⟨⟨⟨⟨⟨h1, h2⟩, h3⟩, h4⟩, h5⟩, h6⟩ := h
      exact sS_parO cx.toCtx cx.kind (by rw [cx.hN]; exact of_decide_eq_true h1) (by rw [cx.hN]; exact of_decide_eq_true h2) (of_decide_eq_true h3) h4 (sndF cx.toCtx h5) (sndE b cx.toCtx h6).1
    · cases h
  | .own m i s, X, st, cx, h => by
    simp only [chkS] at h
    split at h
    · exact sndOwn cx h
    · cases h
  | .ownd _ _, X, st, cx, h => by simp only [chkS] at h; cases h
  | .app m i s, X, st, cx, h => by
    simp only [chkS] at h
    split at h
    · unfold chkMt at h
      simp only [Bool.and_eq_true] at h
      obtain ⟨⟨⟨⟨⟨⟨h0, h1⟩, h2⟩, h3⟩, h4⟩, h5⟩, h6⟩ := h
      obtain rfl := of_decide_eq_true h0
      exact sS_app (by rw [cx.hN]; exact of_decide_eq_true h1) (visB_vis h2) h3 (sndE s cx.toCtx h4).1 h5 h6
    · cases h
  | .ext m i s, X, st, cx, h => by
    simp only [chkS] at h
    split at h
    · unfold chkMt at h
      simp only [Bool.and_eq_true] at h
      obtain ⟨⟨⟨⟨⟨⟨h0, h1⟩, h2⟩, h3⟩, h4⟩, h5⟩, h6⟩ := h
      obtain rfl := of_decide_eq_true h0
      exact sS_ext (by rw [cx.hN]; exact of_decide_eq_true h1) (visB_vis h2) h3 (sndE s cx.toCtx h4).1 h5 h6
    · cases h
  | .seti _ _ _ _, X, st, cx, h => by simp only [chkS] at h; cases h
  | .dput _ _ _ _, X, st, cx, h => by simp only [chkS] at h; cases h
  | .iff m c a b, X, st, cx, h => by
    simp only [chkS] at h
    split at h
    · simp only [Bool.and_eq_true] at h
      obtain ⟨⟨⟨h1, h2⟩, h3⟩, h4⟩ := h
      exact sS_if ((sndE c cx.toCtx h2).2 h1) (sndBl a cx h3) (sndBl b cx h4)
    · cases h
  | .loop m tg it b, X, st, cx, h => by
    simp only [chkS] at h
    split at h
    · simp only [Bool.and_eq_true] at h
      obtain ⟨⟨⟨h1, h2⟩, h3⟩, h4⟩ := h
      exact sS_for cx.toCtx cx.own (sndI it cx.toCtx h1) (sndG (N := N) tg cx.hN cx.nd cx.calm (fun x _ => cx.fn x) h2) (sndBl b cx h3) h4
    · cases h
  | .whl m μ c b, X, st, cx, h => by
    simp only [chkS] at h
    split at h
    · simp only [Bool.and_eq_true] at h
      obtain ⟨⟨h1, h2⟩, h3⟩ := h
      exact sS_while cx.own ((sndE c cx.toCtx h2).2 h1) (sndBl b cx h3)
    · cases h
  | .ret m s, X, st, cx, h => by
    simp only [chkS] at h
    split at h
    · cases fr with
      | false => exact sS_ret (sndE s cx.toCtx (by simpa using h)).1
      | true => exact sS_retF (sndF cx.toCtx (by simpa using h))
    · cases h
  | .retv i, X, st, cx, h => by
    simp only [chkS] at h
    split at h
    · simp only [Bool.and_eq_true] at h
      obtain ⟨⟨h1, h2⟩, h3⟩ := h
      exact sS_retv (by rw [cx.hN]; exact of_decide_eq_true h1) (visB_vis h2) h3
    · cases h
  | .expr m s, X, st, cx, h => by
    simp only [chkS] at h
    split at h
    · rw [Bool.and_eq_true] at h
      exact sS_expr (sndE s cx.toCtx h.1).1 h.2
    · cases h
  | .raise _, X, st, cx, h => sS_raise
theorem sndBl : ∀ (s : SB) {X : Cx} {sts : List Stmt}, Ctx2 X n M T N → chkB fr M N s X.env.scope sts = true → PSs X sts (tB fr X.K T s)
  | .nil, X, sts, cx, h => by
    simp only [chkB] at h
    cases sts with
    | nil => exact sB_nil
    | cons => cases h
  | .cons s r, X, [], cx, h => by simp only [chkB] at h; cases h
  | .cons s r, X, st :: sts, cx, h => by
    simp only [chkB, Bool.and_eq_true] at h
    exact sB_seq (sndS s cx h.1) (sndBl r cx h.2)
end
end

/-! ### defs -/
def scopeB (N P : List Str) (sc : Scope) : Bool :=
  decide (sc.kind = .function) && !sc.isCoroutine && !sc.isGenerator && decide N.Nodup && decide (N.take P.length = P) && P.all (fun x => decide (sc.names.lookup x = some .local) || decide (sc.names.lookup x = some .cell)) && sc.names.all (fun y => !decide (y.2 = .free))
theorem scope_by {N P : List Str} {sc : Scope} (h : scopeB N P sc = true) : FnScope N P sc := by
  unfold scopeB at h
  simp only [Bool.and_eq_true, Bool.not_eq_true', decide_eq_true_eq, List.all_eq_true, Bool.or_eq_true, decide_eq_false_iff_not] at h
  obtain ⟨⟨⟨⟨⟨⟨h1, h2⟩, h3⟩, h4⟩, h5⟩, h6⟩, h7⟩ := h
  exact ⟨h1, h2, h3, h4, h5, h6, h7⟩
/-- a def of the text is the plain def -/
def chkDr (fr : Bool) (M : Nm) (N ps : List Str) (d : SD) (st : Stmt) : Bool :=
  scopeB N ps (defScope st) && decide (d.np = ps.length) && decide (d.ns = N.length) && chkB fr M N d.body (defScope st) (defBody st)
def chkD (M : Nm) (N ps : List Str) (d : SD) (st : Stmt) : Bool := chkDr false M N ps d st
section
variable {P : Program} {w : World} {K : PySem.W.Frag} {mg : Str → Option Value} {base : Heap}
theorem start_get {N : List Str} {vs : List V} {i : Nat} {x : V} (h : vs[i]? = some x) : (start N vs)[i]? = some (some x) := by
  unfold L2.start
  have hl : i < vs.length := (List.getElem?_eq_some_iff.mp h).1
  rw [List.getElem?_append_left (by simpa using hl), List.getElem?_map, h]; rfl
theorem sok_start {H : Hp} {O : Hid} {N : List Str} {as : List Val} {vs : List V} {k : Nat} (w : WF H O) (r : Reps K H O as vs) (hk : as.length + k ≤ N.length) :
    SOk K H O H (start N vs) (as.map Slot.sh ++ List.replicate k Slot.no) := by
  have noOwn : ∀ (i : Nat) (s : Slot), (as.map Slot.sh ++ List.replicate k Slot.no)[i]? = some s → s.isOwn = false := fun i s h => by
    by_cases hi : i < as.length
    · rw [List.getElem?_append_left (by simpa using hi), List.getElem?_map] at h
      cases e : as[i]? with
      | none => rw [e] at h; cases h
      | some a => rw [e] at h; cases h; rfl
    · rw [List.getElem?_append_right (by simpa using hi), List.getElem?_replicate] at h
      split at h <;> cases h; rfl
  have hid : ∀ a, OwnH O (start N vs) [] (as.map Slot.sh ++ List.replicate k Slot.no) a → O a := fun a ha => by
    rcases ha with ha | ⟨i, s, h1, h2, _⟩
    · exact ha
    · rw [noOwn i s h1] at h2; cases h2
  refine ⟨?_, w, Ext.refl, fun i s h1 h2 => ?_, fun i j s t a h1 h2 => ?_, fun i v h1 => ?_⟩
  · unfold L2.start
    rw [List.length_append, List.length_append, List.length_map, List.length_map, List.length_replicate, List.length_replicate, r.length]; omega
  · rw [noOwn i s h1] at h2; cases h2
  · rw [noOwn i s h1] at h2; cases h2
  · by_cases hi : i < as.length
    · rw [List.getElem?_append_left (by simpa using hi), List.getElem?_map] at h1
      cases e : as[i]? with
      | none => rw [e] at h1; cases h1
      | some a =>
        rw [e] at h1; cases h1
        obtain ⟨x, hx, rx⟩ := r.get e
        exact ⟨x, start_get hx, Rep.keep w ⟨fun _ _ h _ => h, fun a ha => .inl (hid a ha)⟩ rx⟩
    · rw [List.getElem?_append_right (by simpa using hi), List.getElem?_replicate] at h1
      split at h1 <;> cases h1
theorem fn_ok {M : Nm} {T : Tab} {N ps : List Str} {d : SD} {x : Str} {st : Stmt} {f : Addr} {fd : FuncData} {n : Nat} (F : Fun K x x st f fd) (hd : chkD M N ps d st = true) (fc : Facts M T P w K mg base n) :
    FnOk P w K mg base CX0 (n + 1) f fd ps (spC K ps.length (runD T d)) := by
  unfold chkD chkDr at hd
  simp only [Bool.and_eq_true] at hd
  obtain ⟨⟨⟨h1, h2⟩, h3⟩, h4⟩ := hd
  have S := scope_by h1
  have hnp := of_decide_eq_true h2
  have hns := of_decide_eq_true h3
  refine F.ok S (fun vs H Q E ⟨O, as, r, w, ra, hl, _⟩ => by rw [ra.length]; exact hl) (fun cdv A outer s H vs Q E hr ⟨O, as, r, w, ra, hl, e, q⟩ => ?_)
  have hpl : ps.length ≤ N.length := by have := congrArg List.length S.pre; rw [List.length_take] at this; omega
  refine ⟨tB false K T d.body, sndBl (n := n) (M := M) (N := N) d.body ⟨⟨fc, rfl, S.nd, rfl, hr⟩, S.kind, PassesOwn.never, fun _ => rfl⟩ h4, ?_⟩
  unfold runD at e
  by_cases hlen : as.length = d.np
  · rw [if_pos hlen] at e
    obtain ⟨qq, h5, e⟩ := bok e
    refine ⟨H, O, _, qq, sok_start w ra (by omega), h5, ?_⟩
    obtain ⟨fl, ρ'⟩ := qq
    cases fl with
    | nx =>
      simp only at e
      cases e
      exact fun σ' H' so _ => q _ _ so.ext (by simp only [Rep])
    | rt v =>
      simp only at e
      cases e
      exact fun x H' ex r => q x H' ex r
  · rw [if_neg hlen] at e; cases e
theorem fn_okF {M : Nm} {T : Tab} {N ps : List Str} {d : SD} {x : Str} {st : Stmt} {f : Addr} {fd : FuncData} {n : Nat} (F : Fun K x x st f fd) (hd : chkDr true M N ps d st = true) (fc : Facts M T P w K mg base n) :
    FnOk P w K mg base CX0 (n + 1) f fd ps (spF K ps.length (runD T d)) := by
  unfold chkDr at hd
  simp only [Bool.and_eq_true] at hd
  obtain ⟨⟨⟨h1, h2⟩, h3⟩, h4⟩ := hd
  have S := scope_by h1
  have hnp := of_decide_eq_true h2
  have hns := of_decide_eq_true h3
  refine F.ok S (fun vs H Q E ⟨O, as, r, w, ra, hl, _⟩ => by rw [ra.length]; exact hl) (fun cdv A outer s H vs Q E hr ⟨O, as, r, w, ra, hl, e, q⟩ => ?_)
  have hpl : ps.length ≤ N.length := by have := congrArg List.length S.pre; rw [List.length_take] at this; omega
  refine ⟨tB true K T d.body, sndBl (n := n) (M := M) (N := N) d.body ⟨⟨fc, rfl, S.nd, rfl, hr⟩, S.kind, PassesOwn.never, fun _ => rfl⟩ h4, ?_⟩
  unfold runD at e
  by_cases hlen : as.length = d.np
  · rw [if_pos hlen] at e
    obtain ⟨qq, h5, e⟩ := bok e
    refine ⟨H, O, _, qq, sok_start w ra (by omega), h5, ?_⟩
    obtain ⟨fl, ρ'⟩ := qq
    cases fl with
    | nx =>
      simp only at e
      cases e
    | rt v =>
      simp only at e
      cases e
      exact ⟨_, rfl, q⟩
  · rw [if_neg hlen] at e; cases e
end
end VM

set_option Elab.async false
set_option linter.all false
set_option maxRecDepth 100000
set_option maxHeartbeats 8000000
/-! H3: the machine's expressions, what they promise. -/
namespace VM
open PySem PySem.Spec PyProof.Rows L2

def tH (K : PySem.W.Frag) (T : Tab) (s : HE) : TE := fun σ H Q => ∃ O φ h ρ q, RelH K H O φ h ∧ EnvH K H O φ σ ρ ∧ evH T s ρ h = .ok q ∧
  ∀ x H' φ', KeepH H φ H' φ' → RelH K H' O φ' q.2 → RepH K H' O φ' q.1 x → Q x H'
def tHA (K : PySem.W.Frag) (T : Tab) (s : HEs) : TA := fun σ H Q => ∃ O φ h ρ q, RelH K H O φ h ∧ EnvH K H O φ σ ρ ∧ evHs T s ρ h = .ok q ∧
  ∀ xs H' φ', KeepH H φ H' φ' → RelH K H' O φ' q.2 → RepHs K H' O φ' q.1 xs → Q xs H'
/-- J yields what the machine's walk yields, as long as what may be seen is kept -/
def ItH (K : PySem.W.Frag) (J : HIt) (JJ : It) (H : Hp) (O : Hid) (φ : List Addr) : Prop :=
  ∀ (i : Nat) (H' : Hp) (O' : Hid) (φ' : List Addr) (h' : HHp), KeepO H O φ H' O' φ' → RelH K H' O' φ' h' → ∀ o, J.at h' i = .ok o →
    (o = none → JJ.stop i H') ∧ ∀ v, o = some v → JJ.go i H' ∧ ∀ x H'', JJ.yld i H' x H'' → Ext H' H'' ∧ RepH K H'' O' φ' v x
def tHI (K : PySem.W.Frag) (T : Tab) (s : HI) : TI := fun σ H Rr => ∃ O φ h ρ q, RelH K H O φ h ∧ EnvH K H O φ σ ρ ∧ evHI T s ρ h = .ok q ∧
  ∀ J H' φ', KeepH H φ H' φ' → RelH K H' O φ' q.2 → ItH K q.1 J H' O φ' → Rr J H'

section
variable {K : PySem.W.Frag} {H H' H1 : Hp} {O : Hid} {φ φ' φ1 : List Addr} {h h' : HHp} {a p : Addr} {σ : L2.St} {ρ : HEnv}
/-- what stands in a list's place is read in every later heap -/
def Src (K : PySem.W.Frag) (J : HIt) (a : Addr) (H : Hp) (O : Hid) (φ : List Addr) : Prop :=
  ∀ (H' : Hp) (O' : Hid) (φ' : List Addr) (h' : HHp), KeepO H O φ H' O' φ' → RelH K H' O' φ' h' → ∀ i o, J.at h' i = .ok o → ∃ xs, SqL K H' a xs ∧ (o = none → xs.length ≤ i) ∧ ∀ v, o = some v → ∃ x, xs[i]? = some x ∧ RepH K H' O' φ' v x
theorem get_none {α : Type} {l : List α} {i : Nat} (e : l[i]? = none) : l.length ≤ i := List.getElem?_eq_none_iff.mp e
theorem src_itL {v : HV} {x : V} {J : HIt} (r : RelH K H O φ h) (rv : RepH K H O φ v x) (e : itL h v = .ok J) : ∃ a xs, x = .ref a ∧ SqL K H a xs ∧ Src K J a H O φ := by
  unfold itL at e
  split at e
  · rename_i vs
    cases e
    simp only [RepH, Rep] at rv
    obtain ⟨a, xs, rfl, na, ha, rr⟩ := rv
    refine ⟨a, xs, rfl, SqL.of ha, fun H' O' φ' h' k r' i o eo => ?_⟩
    obtain ⟨n', h2⟩ := vis_keep k.k na ha
    have rr' := RepHs.ofP (Reps.keep r.wfo k.k rr)
    cases eo
    refine ⟨xs, SqL.of h2, fun z => ?_, fun u hu => rr'.get hu⟩
    rw [rr'.length]; exact get_none z
  · rename_i n
    split at e
    · rename_i ys hn
      cases e
      simp only [RepH] at rv
      obtain ⟨a, ha, rfl⟩ := rv
      obtain ⟨xs, hx, rx⟩ := r.obj n a _ ha hn
      refine ⟨a, xs, rfl, SqL.of hx, fun H' O' φ' h' k r' i o eo => ?_⟩
      simp only [HIt.at] at eo
      split at eo
      · rename_i zs hz
        cases eo
        obtain ⟨ws, hw, rw'⟩ := r'.obj n a _ (pre_get k.pre ha) hz
        refine ⟨ws, SqL.of hw, fun z => ?_, fun u hu => rw'.get hu⟩
        rw [rw'.length]; exact get_none z
      · cases eo
    · cases e
  · cases e
theorem itH_l {J : HIt} (s : Src K J a H O φ) : ItH K J (Itl K a) H O φ := fun i H' O' φ' h' k r o eo => by
  obtain ⟨xs, sq, h1, h2⟩ := s H' O' φ' h' k r i o eo
  refine ⟨fun z => ⟨xs, sq, h1 z⟩, fun v hv => ?_⟩
  obtain ⟨x, hx, rx⟩ := h2 v hv
  refine ⟨⟨xs, x, sq, hx⟩, fun y H'' hy => ?_⟩
  obtain ⟨rfl, f⟩ := hy
  have e := f xs sq
  rw [hx] at e; cases e
  exact ⟨Ext.refl, rx⟩
theorem itH_e {J : HIt} (s : Src K J a H O φ) : ItH K (.en J) (Ite K a) H O φ := fun i H' O' φ' h' k r o eo => by
  simp only [HIt.at] at eo
  obtain ⟨o1, e1, eo⟩ := bok eo
  cases eo
  obtain ⟨xs, sq, h1, h2⟩ := s H' O' φ' h' k r i o1 e1
  refine ⟨fun z => ⟨xs, sq, h1 (by cases o1 <;> first | rfl | cases z)⟩, fun v hv => ?_⟩
  cases o1 with
  | none => cases hv
  | some u =>
    cases hv
    obtain ⟨x, hx, rx⟩ := h2 u rfl
    refine ⟨⟨xs, x, sq, hx⟩, fun y H'' hy => ?_⟩
    obtain ⟨Ta, x', rfl, nT, rfl, f⟩ := hy
    have e := f xs sq
    rw [hx] at e; cases e
    refine ⟨Ext.upd nT, ?_⟩
    have k2 : KeepH H' φ' (upd H' Ta (.tup [.int i, x])) φ' := .ext (Ext.upd nT)
    simp only [RepH]
    exact ⟨Ta, _, rfl, SqT.of upd_same, RepHs.cons (by simp only [RepH, Rep]) (RepHs.cons (RepH.keep r.wfo k2 rx) RepHs.nil)⟩
theorem itH_z {J J' : HIt} {b : Addr} (s : Src K J a H O φ) (s' : Src K J' b H O φ) : ItH K (.zp J J') (Itz K a b) H O φ := fun i H' O' φ' h' k r o eo => by
  simp only [HIt.at] at eo
  obtain ⟨o1, e1, eo⟩ := bok eo
  obtain ⟨o2, e2, eo⟩ := bok eo
  obtain ⟨xs, sq, h1, h2⟩ := s H' O' φ' h' k r i o1 e1
  obtain ⟨ys, sq2, h3, h4⟩ := s' H' O' φ' h' k r i o2 e2
  cases o1 with
  | none =>
    cases eo
    have := h1 rfl
    exact ⟨fun z => ⟨xs, ys, sq, sq2, by omega⟩, fun v hv => by cases hv⟩
  | some u1 =>
    cases o2 with
    | none =>
      cases eo
      have := h3 rfl
      exact ⟨fun z => ⟨xs, ys, sq, sq2, by omega⟩, fun v hv => by cases hv⟩
    | some u2 =>
      cases eo
      refine ⟨fun z => (nomatch z), fun v hv => ?_⟩
      cases hv
      obtain ⟨x, hx, rx⟩ := h2 u1 rfl
      obtain ⟨y, hy, ry⟩ := h4 u2 rfl
      refine ⟨⟨xs, ys, x, y, sq, sq2, hx, hy⟩, fun z H'' hz => ?_⟩
      obtain ⟨Ta, x', y', rfl, nT, rfl, f1, f2⟩ := hz
      have e := f1 xs sq
      rw [hx] at e; cases e
      have e := f2 ys sq2
      rw [hy] at e; cases e
      refine ⟨Ext.upd nT, ?_⟩
      have k2 : KeepH H' φ' (upd H' Ta (.tup [x, y])) φ' := .ext (Ext.upd nT)
      simp only [RepH]
      exact ⟨Ta, _, rfl, SqT.of upd_same, RepHs.cons (RepH.keep r.wfo k2 rx) (RepHs.cons (RepH.keep r.wfo k2 ry) RepHs.nil)⟩
/-- a tuple walked -/
theorem itH_t {vs : List HV} {xs : List V} (r0 : RelH K H O φ h) (s : SqT K H a xs) (rr : RepHs K H O φ vs xs) : ItH K (.fx vs) (Itt K a) H O φ := fun i H' O' φ' h' k r o eo => by
  cases eo
  have sq := sqT_keep r0.wfo k.k s
  have rr' := RepHs.keepO r0.wfo k rr
  refine ⟨fun z => ⟨xs, sq, by rw [rr'.length]; exact get_none z⟩, fun v hv => ?_⟩
  obtain ⟨x, hx, rx⟩ := rr'.get hv
  refine ⟨⟨xs, x, sq, hx⟩, fun y H'' hy => ?_⟩
  obtain ⟨rfl, f⟩ := hy
  have e := f xs sq
  rw [hx] at e; cases e
  exact ⟨Ext.refl, rx⟩
/-- what is walked of plain things -/
theorem itH_p {J : It} {vs : List Val} (w : ItOk K J H (Oh O φ) vs) : ItH K (.fx (vs.map HV.p)) J H O φ := fun i H' O' φ' h' k r o eo => by
  cases eo
  obtain ⟨h1, h2⟩ := w i H' (Oh O' φ') r.wfo k.k
  refine ⟨fun z => h1 (by have := get_none z; rwa [List.length_map] at this), fun v hv => ?_⟩
  rw [List.getElem?_map] at hv
  cases e : vs[i]? with
  | none => rw [e] at hv; cases hv
  | some u =>
    rw [e] at hv
    cases hv
    obtain ⟨h3, h4⟩ := h2 u e
    exact ⟨h3, fun x H'' hy => by simp only [RepH]; exact h4 x H'' hy⟩
/-- ranges -/
theorem itH_r {J : It} {vs : List Val} (w : ∀ H2 O2, ItOk K J H2 O2 vs) : ItH K (.fx (vs.map HV.p)) J H O φ := itH_p (w H (Oh O φ))
end
def tIR (K : PySem.W.Frag) (T : Tab) (it : SI) : TI := fun σ H Rr => ∃ O ρ vs, WF H O ∧ EOk K H O σ ρ ∧ evI T it ρ = .ok vs ∧ ∀ J H', Ext H H' → (∀ H2 O2, ItOk K J H2 O2 vs) → Rr J H'

section
variable {X : Cx} {n : Nat} {M : Nm} {T : Tab} {N : List Str} {e e2 e3 a b : Expr} {s s2 s3 : SE} {ha hb he : HE} {hes : HEs} {es : List Expr} {tg : Expr} {pos : Pos}
theorem rI_rng1 {p pos : Pos} (hg : Gl X "range") (hm : X.mg "range" = none) (h : PE X e (tE X.K T s)) (n : nst e = true) : PI X tg (.Call (.Name "range" p) [e] [] pos) (tIR X.K T (.rng1 s)) :=
  PI.imp (pi_range1 hg hm (sA_cons h sA_nil n) (by rw [star_cons n]; rfl)) (fun σ H Rr ⟨O, ρ, vs, w, eo, hv, q⟩ => by
    simp only [evI] at hv
    obtain ⟨u, hu, hv⟩ := bok hv
    obtain ⟨j, hj, hv⟩ := bok hv
    obtain rfl := asInt_ok hj
    obtain ⟨hs, hv⟩ := iok hv
    subst hv
    refine ⟨O, ρ, [.int j], w, eo, by simp only [evs, hu]; rfl, fun xs H1 e1 r1 => ?_⟩
    simp only [Reps, Rep] at r1
    obtain ⟨x, r, rfl, rfl, rfl⟩ := r1
    have hs' := of_decide_eq_true hs
    exact ⟨j, rfl, by omega, by omega, q _ _ e1 (fun _ _ => it_rng 0 _)⟩)
theorem rI_rng2 {p pos : Pos} (hg : Gl X "range") (hm : X.mg "range" = none) (h : PE X e (tE X.K T s)) (n : nst e = true) (h2 : PE X e2 (tE X.K T s2)) (n2 : nst e2 = true) : PI X tg (.Call (.Name "range" p) [e, e2] [] pos) (tIR X.K T (.rng2 s s2)) :=
  PI.imp (pi_range2 hg hm (sA_cons h (sA_cons h2 sA_nil n2) n) (by rw [star_cons n, star_cons n2]; rfl) (by rw [star_cons n2]; rfl)) (fun σ H Rr ⟨O, ρ, vs, w, eo, hv, q⟩ => by
    simp only [evI] at hv
    obtain ⟨u, hu, hv⟩ := bok hv
    obtain ⟨u2, hu2, hv⟩ := bok hv
    obtain ⟨i, hi, hv⟩ := bok hv
    obtain ⟨j, hj, hv⟩ := bok hv
    obtain rfl := asInt_ok hj
    obtain rfl := asInt_ok hi
    obtain ⟨hs, hv⟩ := iok hv
    subst hv
    refine ⟨O, ρ, [.int i, .int j], w, eo, by simp only [evs, hu, hu2]; rfl, fun xs H1 e1 r1 => ?_⟩
    simp only [Reps, Rep] at r1
    obtain ⟨x, r, rfl, rfl, y, r', rfl, rfl, rfl⟩ := r1
    have hs' := of_decide_eq_true hs
    exact ⟨i, j, rfl, by omega, q _ _ e1 (fun _ _ => it_rng i _)⟩)
theorem rI_rng3 {p pos : Pos} (hg : Gl X "range") (hm : X.mg "range" = none) (h : PE X e (tE X.K T s)) (n : nst e = true) (h2 : PE X e2 (tE X.K T s2)) (n2 : nst e2 = true) (h3 : PE X e3 (tE X.K T s3)) (n3 : nst e3 = true) :
    PI X tg (.Call (.Name "range" p) [e, e2, e3] [] pos) (tIR X.K T (.rng3 s s2 s3)) :=
  PI.imp (pi_range3 hg hm (sA_cons h (sA_cons h2 (sA_cons h3 sA_nil n3) n2) n) (star_cons n) (star_any (by simp [n2, n3]))) (fun σ H Rr ⟨O, ρ, vs, w, eo, hv, q⟩ => by
    simp only [evI] at hv
    obtain ⟨u, hu, hv⟩ := bok hv
    obtain ⟨u2, hu2, hv⟩ := bok hv
    obtain ⟨u3, hu3, hv⟩ := bok hv
    obtain ⟨i, hi, hv⟩ := bok hv
    obtain ⟨j, hj, hv⟩ := bok hv
    obtain ⟨k, hk, hv⟩ := bok hv
    obtain rfl := asInt_ok hj
    obtain rfl := asInt_ok hi
    obtain rfl := asInt_ok hk
    obtain ⟨hs, hv⟩ := iok hv
    subst hv
    rw [Bool.and_eq_true] at hs
    have hk := of_decide_eq_true hs.2
    refine ⟨O, ρ, [.int i, .int j, .int k], w, eo, by simp only [evs, hu, hu2, hu3]; rfl, fun xs H1 e1 r1 => ?_⟩
    simp only [Reps, Rep] at r1
    obtain ⟨x, r, rfl, rfl, y, r', rfl, rfl, z, r'', rfl, rfl, rfl⟩ := r1
    exact ⟨i, j, k, rngN i j k, rfl, ⟨by omega, by omega, small_pos hs.1 hk, rng_size hk.1⟩, q _ _ e1 (fun _ _ => it_rngC i k _)⟩)

/-! ### one construct after another -/
theorem hE_pu {m : List Nat} (h : PE X e (tE X.K T s)) : PE X e (tH X.K T (.pu m s)) := PE.imp h (fun σ H Q ⟨O, φ, h, ρ, q, r, g, e, f⟩ => by
  simp only [evH] at e
  obtain ⟨v, e1, e⟩ := bok e
  obtain ⟨hf, e⟩ := iok e
  subst e
  exact see_pu r g e1 hf (fun x H1 x1 r1 p1 => f x H1 φ (.ext x1) r1 p1))
theorem hE_puF {m : List Nat} (h : PE X e (tF X.K T s)) : PE X e (tH X.K T (.puF m s)) := PE.imp h (fun σ H Q ⟨O, φ, h, ρ, q, r, g, e, f⟩ => by
  simp only [evH] at e
  obtain ⟨v, e1, e⟩ := bok e
  cases v with
  | lst vs =>
    simp only at e
    obtain ⟨hf, e⟩ := iok e
    subst e
    have fin : ∀ p H' xs, H p = none → Ext H H' → H' p = some (.lst xs) → Reps X.K H' (Oh O (φ ++ [p])) vs xs → Q (.ref p) H' := fun p H' xs np x1 hp rr => by
      obtain ⟨r', k'⟩ := r.alloc (o := .lst (vs.map HV.p)) np x1 ⟨xs, hp, RepHs.ofP rr⟩
      exact f _ _ _ k' r' (by simp only [RepH]; exact ⟨p, by rw [← r.len]; simp, rfl⟩)
    have oh : ∀ {p : Addr}, ∀ a, Oh O (φ ++ [p]) a → Oh O φ a ∨ a = p := fun {p} a ha => by
      rcases ha with ha | ha
      · exact .inl (.inl ha)
      · rw [List.mem_append, List.mem_singleton] at ha
        exact ha.imp .inr id
    by_cases hp : onlyP m ρ = true
    · refine ⟨Oh O φ, _, vs, r.wfo, g.seeP hp, e1, fun p H' xs np x1 hpp rr => fin p H' xs np x1 hpp ?_⟩
      have w' : WF H' (fun a => Oh O φ a ∨ a = p) := fun a ha => by
        rcases ha with ha | rfl
        · exact r.wfo.ext x1 a ha
        · exact ⟨_, hpp, True.intro⟩
      exact Reps.keep w' ⟨fun _ _ h _ => h, fun a ha => .inl (oh a ha)⟩ rr
    · have hfl : flats vs = true := by
        rw [Bool.or_eq_true] at hf
        exact hf.resolve_right hp
      exact ⟨O, _, vs, r.wf, g.see r m, e1, fun p H' xs np x1 hpp rr => fin p H' xs np x1 hpp (Reps.flat hfl rr)⟩
  | _ => cases e)
theorem hE_var {i : Nat} {x : Str} (hN : X.N[i]? = some x) (hv : Vis X.env.scope x) (h1 : dbg x = true) : PE X (.Name x pos) (tH X.K T (.var i)) :=
  PE.imp (pe_var hN hv (dbg_1 h1) (dbg_2 h1)) (fun σ H Q ⟨O, φ, h, ρ, q, r, g, e, f⟩ => by
    simp only [evH] at e
    split at e
    · rename_i v hv
      cases e
      obtain ⟨x, h1, h2⟩ := g.get _ _ hv
      exact ⟨x, h1, f x H φ .refl r h2⟩
    · cases e)
theorem hA_nil : PA X [] (tHA X.K T .nil) := PA.imp pa_nil (fun σ H Q ⟨O, φ, h, ρ, q, r, g, e, f⟩ => by
  simp only [evHs] at e; cases e
  exact f [] H φ .refl r RepHs.nil)
theorem hA_cons (h1 : PE X e (tH X.K T he)) (h2 : PA X es (tHA X.K T hes)) (n : nst e = true) : PA X (e :: es) (tHA X.K T (.cons he hes)) :=
  PA.imp (pa_cons h1 h2 (star_cons n)) (fun σ H Q ⟨O, φ, h, ρ, q, r, g, e, f⟩ => by
    simp only [evHs] at e
    obtain ⟨q1, e1, e⟩ := bok e
    obtain ⟨q2, e2, e⟩ := bok e
    cases e
    exact ⟨O, φ, h, ρ, q1, r, g, e1, fun x H1 φ1 k1 r1 p1 => ⟨O, φ1, q1.2, ρ, q2, r1, g.keep r.wfo k1, e2, fun xs H2 φ2 k2 r2 p2 => f _ _ _ (k1.trans k2) r2 (RepHs.cons (RepH.keep r1.wfo k2 p1) p2)⟩⟩)
theorem hE_lst (h : PA X es (tHA X.K T hes)) : PE X (.List es pos) (tH X.K T (.lst hes)) :=
  PE.imp (pe_lst h) (fun σ H Q ⟨O, φ, h, ρ, q, r, g, e, f⟩ => by
    simp only [evH] at e
    obtain ⟨q1, e1, e⟩ := bok e
    obtain ⟨hl, e⟩ := iok e
    subst e
    refine ⟨O, φ, h, ρ, q1, r, g, e1, fun xs H1 φ1 k1 r1 p1 => ⟨by rw [p1.length, ← lineN_eq]; exact hl, fun p np => ?_⟩⟩
    have x1 : Ext H1 (upd H1 p (.lst xs)) := Ext.upd np
    have k2 : KeepH H1 φ1 (upd H1 p (.lst xs)) (φ1 ++ [p]) := ⟨⟨fun a u hu _ => x1 a u hu, fun a ha => by
      rw [List.mem_append, List.mem_singleton] at ha
      rcases ha with ha | rfl
      · exact .inl ha
      · exact .inr np⟩, List.prefix_append _ _⟩
    obtain ⟨r', k'⟩ := r1.alloc (o := .lst q1.1) np x1 ⟨xs, upd_same, RepHs.keep r1.wfo k2 p1⟩
    exact f _ _ _ (k1.trans k') r' (by simp only [RepH]; exact ⟨p, by rw [← r1.len]; simp, rfl⟩))
theorem hE_tup {k : Nat} (h : PA X es (tHA X.K T hes)) : PE X (.Tuple es k pos) (tH X.K T (.tup hes)) :=
  PE.imp (pe_tup h) (fun σ H Q ⟨O, φ, h, ρ, q, r, g, e, f⟩ => by
    simp only [evH] at e
    obtain ⟨q1, e1, e⟩ := bok e
    obtain ⟨hl, e⟩ := iok e
    subst e
    refine ⟨O, φ, h, ρ, q1, r, g, e1, fun xs H1 φ1 k1 r1 p1 => ⟨by rw [p1.length, ← lineN_eq]; exact hl, fun p np => ?_⟩⟩
    have x1 : Ext H1 (upd H1 p (.tup xs)) := Ext.upd np
    have k2 : KeepH H1 φ1 (upd H1 p (.tup xs)) φ1 := .ext x1
    exact f _ _ _ (k1.trans k2) (r1.ext x1) (by simp only [RepH]; exact ⟨p, xs, rfl, SqT.of upd_same, RepHs.keep r1.wfo k2 p1⟩))
/-! ### subscripts -/
theorem atI_repH {K : PySem.W.Frag} {H : Hp} {O : Hid} {φ : List Addr} {vs : List HV} {xs : List V} {i : Int} {v : HV} (r : RepHs K H O φ vs xs) (h : atI vs i = some v) : ∃ x, atI xs i = some x ∧ RepH K H O φ v x := by
  unfold atI at h ⊢
  rw [r.length]
  cases e : ixN vs.length i with
  | none => rw [e] at h; cases h
  | some j =>
    rw [e] at h
    obtain ⟨x, h1, h2⟩ := r.get (show vs[j]? = some v from h)
    exact ⟨x, h1, h2⟩
theorem valV_repH {K : PySem.W.Frag} {H : Hp} {O : Hid} {φ : List Addr} {κ : Type} [DecidableEq κ] (f : κ → Val) (k : κ) (hf : ∀ a, veq (f a) (f k) = decide (a = k)) : ∀ {kvs : List (κ × V)} {vs : List HV}, RepHs K H O φ vs (kvs.map (·.2)) →
    (match lookDH (kvs.map (fun p => f p.1)) vs (f k) with
      | some v => ∃ x, valV kvs k = some x ∧ RepH K H O φ v x
      | none => valV kvs k = none)
  | [], vs, h => by
    cases vs with
    | nil => rfl
    | cons v vs => simp only [List.map_nil, RepHs] at h; obtain ⟨_, _, e, _⟩ := h; cases e
  | p :: kvs, [], h => by simp only [List.map_cons, RepHs] at h; cases h
  | p :: kvs, v :: vs, h => by
    simp only [List.map_cons, RepHs] at h
    obtain ⟨x, r, e, rv, q⟩ := h
    cases e
    have ih := valV_repH f k hf q
    simp only [List.map_cons, lookDH]
    rw [hf p.1]
    by_cases e : p.1 = k
    · simp only [decide_eq_true e, if_true]
      exact ⟨p.2, valV_pos e, rv⟩
    · simp only [decide_eq_false e, Bool.false_eq_true, if_false]
      rw [valV_neg e]
      exact ih
theorem keyOk_T {t : Bool} {v : Val} (h : keyOk t v = true) : t = false ∧ ∃ k : Key, v = ofKey k := by
  cases t with
  | true => cases v <;> simp [keyOk] at h
  | false => exact ⟨rfl, keyOk_F h⟩
/-- x[k] by values -/
theorem ixr_dget (hu : X.A.units + 65 < cLine) {value slice : Expr} {pins : List (Addr × Obj)} {s : Shared} {σ : L2.St} {H : Hp} {y : V} {v u : Value} {Q : VK} {p : Addr} {t : V} (I : Inv X pins σ H s) (rx : RelV (.ref p) v) (ry : RelV y u) (g : DGet H p y (some t)) (q : Q t H)
    (hs : subscripted slice false v u = operate [v, u] (getItem v u)) : wpAny (model X.prog X.w) X.A (subscriptTail value slice v u) (EP X pins σ Q) X.xe s := by
  cases (show v = Value.ref p from rx)
  have hT := dict_typeIs I g
  unfold subscriptTail
  refine wpAny_bind ?_
  rw [getitemInPython_of_ne hT.not_modules]
  refine wpAny_bind (wpAny_specialOf hT PySem.F.slot_dict_getitem.lookup ?_)
  have fin : wpAny (model X.prog X.w) X.A (subscripted slice false (.ref p) u) (fun r s₃ => wpAny (model X.prog X.w) X.A (letTemporaryGo value (.ref p) r >>= fun _ => pure r) (EP X pins σ Q) X.xe s₃) X.xe s := by
    rw [hs]
    exact wpAny_operating (d_getItem (by omega) I g ry fun w' s3 I3 rw' => wpAny_bind (wpAny_letTemporaryGo (wpAny_pure ⟨t, H, I3, rw', q⟩)))
  first
    | exact wpAny_pure (wpAny_bind fin)
    | exact wpAny_bind (wpAny_pure (wpAny_bind fin))
    | exact wpAny_bind fin
theorem hix (hu : X.A.units + 65 < cLine) : IxR X (fun x y H Q => ∃ O φ h a b v, RelH X.K H O φ h ∧ RepH X.K H O φ a x ∧ Rep X.K H (Oh O φ) b y ∧ ixH h a b = .ok v ∧ ∀ z H', Ext H H' → RepH X.K H' O φ v z → Q z H') := by
  intro value slice pins s σ H x y v u Q I rx ry ⟨O, φ, h, a, b, r, w, ra, rb, e, q⟩ hs
  unfold ixH at e
  split at e
  · rename_i pv
    obtain ⟨z, e1, e⟩ := bok e
    cases e
    simp only [RepH] at ra
    exact six hu value slice pins s σ H x y v u Q I rx ry ⟨Oh O φ, pv, b, z, w.wfo, ra, rb, e1, fun z' H' x' r' => q z' H' x' (by simp only [RepH]; exact r')⟩ hs
  · rename_i n
    simp only [RepH] at ra
    obtain ⟨p, hp, rfl⟩ := ra
    split at e
    · rename_i xs hn
      split at e
      · have h1 := ofO_ok e
        obtain ⟨ys, hy, ry'⟩ := w.obj n p _ hp hn
        obtain ⟨t, h2, h3⟩ := atI_repH ry' h1
        simp only [Rep] at rb
        exact ix_list value slice pins s σ H _ y v u Q I rx ry ⟨p, ys, _, t, rfl, rb, SqL.of hy, h2, q t H Ext.refl h3⟩ hs
      · cases e
    · rename_i t ks vs hn
      split at e
      · rename_i hk
        have h1 := ofO_ok e
        obtain ⟨rfl, k, rfl⟩ := keyOk_T hk
        have ex := rep_key rb
        subst ex
        obtain ⟨kvs, hd, rfl, nd, rr⟩ := w.obj n p _ hp hn
        have g := valV_repH ofKey k (fun a => veq_key a k) rr
        rw [h1] at g
        obtain ⟨t, ht, rt⟩ := g
        exact ixr_dget hu I rx ry (by rw [← ht]; exact DGet.k hd) (q t H Ext.refl rt) hs
      · cases e
    · cases e
  · rename_i xs
    simp only [RepH] at ra
    obtain ⟨p, ys, rfl, sq, rr⟩ := ra
    split at e
    · have h1 := ofO_ok e
      obtain ⟨t, h2, h3⟩ := atI_repH rr h1
      simp only [Rep] at rb
      exact ix_tup value slice pins s σ H _ y v u Q I rx ry ⟨p, ys, _, t, rfl, rb, sq, h2, q t H Ext.refl h3⟩ hs
    · cases e
theorem hE_ix {m : List Nat} (cx : Ctx X n M T N) (h1 : PE X a (tH X.K T ha)) (h2 : PE X b (tE X.K T s)) (hp : ixOk b = true) : PE X (.Subscript a b pos) (tH X.K T (.ix ha m s)) :=
  PE.imp (pe_ix (hix cx.u65) h1 h2 (ixOk_plain hp)) (fun σ H Q ⟨O, φ, h, ρ, q, r, g, e, f⟩ => by
    simp only [evH] at e
    obtain ⟨q1, e1, e⟩ := bok e
    obtain ⟨kv, e2, e⟩ := bok e
    split at e
    · rename_i hfl
      obtain ⟨v, e3, e⟩ := bok e
      cases e
      refine ⟨O, φ, h, ρ, q1, r, g, e1, fun x H1 φ1 k1 r1 p1 => ?_⟩
      have g1 := g.keep r.wfo k1
      refine see_pu r1 g1 e2 (by rw [hfl]; rfl) (fun y H2 x2 r2 p2 => ?_)
      simp only [RepH] at p2
      exact ⟨O, φ1, q1.2, q1.1, kv, v, r2, RepH.keep r1.wfo (.ext x2) p1, p2, e3, fun z H3 x3 p3 => f z H3 φ1 ((k1.trans (.ext x2)).trans (.ext x3)) (r2.ext x3) p3⟩
    · cases e)
theorem lstH_ok {K : PySem.W.Frag} {H : Hp} {O : Hid} {φ : List Addr} {h : HHp} {v : HV} {x : V} {vs : List HV} (r : RelH K H O φ h) (p : RepH K H O φ v x) (e : lstH h v = .ok vs) : ∃ a xs, x = .ref a ∧ H a = some (.lst xs) ∧ RepHs K H O φ vs xs := by
  unfold lstH at e
  split at e
  · cases e
    simp only [RepH, Rep] at p
    obtain ⟨a, xs, rfl, na, ha, rr⟩ := p
    exact ⟨a, xs, rfl, ha, RepHs.ofP rr⟩
  · rename_i n
    split at e
    · rename_i xs hn
      cases e
      simp only [RepH] at p
      obtain ⟨a, ha, rfl⟩ := p
      obtain ⟨ys, hy, ry⟩ := r.obj n a _ ha hn
      exact ⟨a, ys, rfl, hy, ry⟩
    · cases e
  · cases e
theorem itemsH_ok {K : PySem.W.Frag} {H : Hp} {O : Hid} {φ : List Addr} {h : HHp} {v : HV} {x : V} {vs : List HV} (r : RelH K H O φ h) (p : RepH K H O φ v x) (e : itemsH h v = .ok vs) : ∃ a xs, x = .ref a ∧ (SqL K H a xs ∨ SqT K H a xs) ∧ RepHs K H O φ vs xs := by
  unfold itemsH at e
  split at e
  · cases e
    simp only [RepH, Rep] at p
    obtain ⟨a, xs, rfl, na, ha, rr⟩ := p
    exact ⟨a, xs, rfl, .inl (SqL.of ha), RepHs.ofP rr⟩
  · cases e
    simp only [RepH, Rep] at p
    obtain ⟨a, xs, rfl, ha, rr⟩ := p
    exact ⟨a, xs, rfl, .inr ha, RepHs.ofP rr⟩
  · rename_i n
    split at e
    · rename_i xs hn
      cases e
      simp only [RepH] at p
      obtain ⟨a, ha, rfl⟩ := p
      obtain ⟨ys, hy, ry⟩ := r.obj n a _ ha hn
      exact ⟨a, ys, rfl, .inl (SqL.of hy), ry⟩
    · cases e
  · cases e
    simp only [RepH] at p
    obtain ⟨a, ys, rfl, sq, rr⟩ := p
    exact ⟨a, ys, rfl, .inr sq, rr⟩
  · cases e
/-- a new list laid -/
theorem RelH.lay {K : PySem.W.Frag} {H : Hp} {O : Hid} {φ : List Addr} {h : HHp} {p : Addr} {vs : List HV} {xs : List V} (r : RelH K H O φ h) (np : H p = none) (rr : RepHs K H O φ vs xs) :
    KeepH H φ (upd H p (.lst xs)) (φ ++ [p]) ∧ RelH K (upd H p (.lst xs)) O (φ ++ [p]) (h ++ [.lst vs]) ∧ RepH K (upd H p (.lst xs)) O (φ ++ [p]) (.r h.length) (.ref p) := by
  have x1 : Ext H (upd H p (.lst xs)) := Ext.upd np
  have k2 : KeepH H φ (upd H p (.lst xs)) (φ ++ [p]) := ⟨⟨fun a u hu _ => x1 a u hu, fun a ha => by
    rw [List.mem_append, List.mem_singleton] at ha
    rcases ha with ha | rfl
    · exact .inl ha
    · exact .inr np⟩, List.prefix_append _ _⟩
  obtain ⟨r', k'⟩ := r.alloc (o := .lst vs) np x1 ⟨xs, upd_same, RepHs.keep r.wfo k2 rr⟩
  exact ⟨k2, r', by simp only [RepH]; exact ⟨p, by rw [← r.len]; simp, rfl⟩⟩
theorem hE_lof {p : Pos} (cx : Ctx X n M T N) (hg : Gl X "list") (h1 : PE X a (tH X.K T ha)) (n1 : nst a = true) : PE X (.Call (.Name "list" p) [a] [] pos) (tH X.K T (.lof ha)) :=
  PE.imp (pe_callTy call_list_of hg (cx.facts.bis "list" (by decide)) boot_list (pa_cons h1 pa_nil (star_cons n1)) (by decide) (by decide) (star_cons n1) rfl) (fun σ H Q ⟨O, φ, h, ρ, q, r, g, e, f⟩ => by
    simp only [evH] at e
    obtain ⟨q1, e1, e⟩ := bok e
    obtain ⟨vs, e2, e⟩ := bok e
    cases e
    refine ⟨O, φ, h, ρ, q1, r, g, e1, fun x H1 φ1 k1 r1 p1 => ?_⟩
    obtain ⟨a, xs, rfl, sq, rr⟩ := itemsH_ok r1 p1 e2
    refine ⟨a, xs, rfl, sq, fun l nl => ?_⟩
    obtain ⟨k2, r2, p2⟩ := r1.lay nl rr
    exact f _ _ _ (k1.trans k2) r2 p2)
theorem hE_cat (h1 : PE X a (tH X.K T ha)) (h2 : PE X b (tH X.K T hb)) : PE X (.BinOp a .Add b pos) (tH X.K T (.cat ha hb)) :=
  PE.imp (pe_op op_cat h1 h2) (fun σ H Q ⟨O, φ, h, ρ, q, r, g, e, f⟩ => by
    simp only [evH] at e
    obtain ⟨q1, e1, e⟩ := bok e
    obtain ⟨q2, e2, e⟩ := bok e
    obtain ⟨xs, e3, e⟩ := bok e
    obtain ⟨ys, e4, e⟩ := bok e
    obtain ⟨hl, e⟩ := iok e
    subst e
    refine ⟨O, φ, h, ρ, q1, r, g, e1, fun x H1 φ1 k1 r1 p1 => ⟨O, φ1, q1.2, ρ, q2, r1, g.keep r.wfo k1, e2, fun y H2 φ2 k2 r2 p2 => ?_⟩⟩
    obtain ⟨a1, zs, rfl, h1, rr1⟩ := lstH_ok r2 (RepH.keep r1.wfo k2 p1) e3
    obtain ⟨a2, ws, rfl, h2, rr2⟩ := lstH_ok r2 p2 e4
    refine ⟨a1, a2, zs, ws, rfl, rfl, h1, h2, by rw [rr1.length, rr2.length, ← lineN_eq]; exact hl, fun p np => ?_⟩
    obtain ⟨k3, r3, p3⟩ := r2.lay np (rr1.append rr2)
    exact f _ _ _ ((k1.trans k2).trans k3) r3 p3)
theorem cutH_rep {K : PySem.W.Frag} {H : Hp} {O : Hid} {φ : List Addr} {vs : List HV} {xs : List V} {lo hi : Option Int} (r : RepHs K H O φ vs xs) : RepHs K H O φ ((vs.drop (HT.sIx vs.length 0 lo)).take (HT.sIx vs.length vs.length hi - HT.sIx vs.length 0 lo)) (cutV xs lo hi) := by
  unfold cutV
  rw [r.length]
  exact (r.drop _).take _
theorem hE_sl {l u : Option Expr} {sl su : SO} {p2 : Pos} {m : List Nat} (h1 : PE X a (tH X.K T ha)) (h2 : PO X l (tO X.K T sl)) (h3 : PO X u (tO X.K T su)) : PE X (.Subscript a (.Slice l u none p2) pos) (tH X.K T (.sl ha m sl su)) :=
  PE.imp (pe_slice sl_list h1 h2 h3) (fun σ H Q ⟨O, φ, h, ρ, q, r, g, e, f⟩ => by
    simp only [evH] at e
    obtain ⟨q1, e1, e⟩ := bok e
    obtain ⟨lo, e2, e⟩ := bok e
    obtain ⟨hi, e3, e⟩ := bok e
    obtain ⟨xs, e4, e⟩ := bok e
    cases e
    refine ⟨O, φ, h, ρ, q1, r, g, e1, fun x H1 φ1 k1 r1 p1 => ?_⟩
    have g1 := g.keep r.wfo k1
    refine ⟨O, _, lo, r1.wf, g1.see r1 m, e2, fun H2 x2 => ?_⟩
    have r2 := r1.ext x2
    have g2 := g1.keep r1.wfo (.ext x2)
    refine ⟨O, _, hi, r2.wf, g2.see r2 m, e3, fun H3 x3 => ?_⟩
    have r3 := r2.ext x3
    have k3 : KeepH H1 φ1 H3 φ1 := .ext (x2.trans x3)
    obtain ⟨a1, zs, rfl, hz, rr⟩ := lstH_ok r3 (RepH.keep r1.wfo k3 p1) e4
    refine ⟨a1, zs, rfl, SqL.of hz, fun p np => ?_⟩
    obtain ⟨k4, r4, p4⟩ := r3.lay np (cutH_rep rr)
    exact f _ _ _ ((k1.trans k3).trans k4) r4 p4)
theorem hE_call {f : Nat} {x : Str} {p : Pos} (cx : Ctx X n M T N) (hf : M.hn f = some x) (hg : Gl X x) (hd : dbg x = true) (h1 : PA X es (tHA X.K T hes)) (hs : es.all nst = true) (hn : es = [] → hes = .nil) : PE X (.Call (.Name x p) es [] pos) (tH X.K T (.call f hes)) := by
  obtain ⟨fa, fd, ps, m, kp, hb, F, hl⟩ := cx.facts.hns f x hf
  have key : ∀ σ H Q, tH X.K T (.call f hes) σ H Q → tCall (spH X.K ps.length (T.H f)) [] E0 (tHA X.K T hes) σ H Q := fun σ H Q ⟨O, φ, h, ρ, q, r, g, e, f⟩ => by
    simp only [evH] at e
    obtain ⟨q1, e1, e⟩ := bok e
    exact ⟨O, φ, h, ρ, q1, r, g, e1, fun xs H1 φ1 k1 r1 p1 => ⟨O, φ1, q1.2, q1.1, q, r1, by rw [List.append_nil]; exact p1, hl _ _ _ e, e, fun x H' φ' k' r' p' => f x H' φ' (k1.trans k') r' p'⟩⟩
  cases es with
  | nil =>
    refine PE.imp (pe_call0 F cx.room hg m kp hb .nil pass0 (dbg_1 hd)) (fun σ H Q h => ?_)
    obtain ⟨O, φ, h, ρ, q1, r, g, e1, q⟩ := key σ H Q h
    have : q1 = ([], h) := by
      rw [hn rfl] at e1
      simp only [evHs] at e1; cases e1; rfl
    subst this
    exact q [] H φ .refl r RepHs.nil
  | cons e es =>
    simp only [List.all_cons, Bool.and_eq_true] at hs
    exact PE.imp (pe_call F cx.room hg m kp hb .nil pass0 h1 (dbg_1 hd) (star_cons hs.1) (star_any hs.2)) key
end
end VM

set_option Elab.async false
set_option linter.all false
set_option maxRecDepth 100000
set_option maxHeartbeats 8000000
/-! H4: what is walked, targets, comprehensions, statements of the machine. -/
namespace VM
open PySem PySem.Spec PyProof.Rows L2

section
variable {X : Cx} {n : Nat} {M : Nm} {T : Tab} {N : List Str} {e e2 a b tg : Expr} {ha hb he : HE} {pos : Pos}
theorem hI_seq (h1 : PE X e (tH X.K T he)) : PI X tg e (tHI X.K T (.seq he)) := by
  refine ⟨fun pins st σ H Rr I ⟨O, φ, h, ρ, q, r, g, ee, f⟩ => ?_⟩
  simp only [evHI] at ee
  obtain ⟨q1, e1, ee⟩ := bok ee
  obtain ⟨J, e2, ee⟩ := bok ee
  cases ee
  have viaL : itL q1.2 q1.1 = .ok J → wpAny (model X.prog X.w) X.A _ _ X.xe st := fun hl =>
    (pi_list (tg := tg) h1).run pins st σ H Rr I ⟨O, φ, h, ρ, q1, r, g, e1, fun x H1 φ1 k1 r1 p1 => by
      obtain ⟨a, xs, rfl, sq, src⟩ := src_itL r1 p1 hl
      exact ⟨a, rfl, ⟨xs, sq⟩, f _ _ _ k1 r1 (itH_l src)⟩⟩
  have viaT : ∀ vs, (∀ H1 φ1 x, RelH X.K H1 O φ1 q1.2 → RepH X.K H1 O φ1 q1.1 x → ∃ a xs, x = .ref a ∧ SqT X.K H1 a xs ∧ RepHs X.K H1 O φ1 vs xs) → J = .fx vs → wpAny (model X.prog X.w) X.A _ _ X.xe st := fun vs hv hJ =>
    (pi_tup (tg := tg) h1).run pins st σ H Rr I ⟨O, φ, h, ρ, q1, r, g, e1, fun x H1 φ1 k1 r1 p1 => by
      obtain ⟨a, xs, rfl, sq, rr⟩ := hv H1 φ1 x r1 p1
      subst hJ
      exact ⟨a, rfl, ⟨xs, sq⟩, f _ _ _ k1 r1 (itH_t r1 sq rr)⟩⟩
  obtain ⟨q1v, q1h⟩ := q1
  cases q1v with
  | p v =>
    cases v with
    | tup vs =>
      refine viaT (vs.map HV.p) (fun H1 φ1 x r1 p1 => ?_) (by simp only [itS] at e2; cases e2; rfl)
      simp only [RepH, Rep] at p1
      obtain ⟨a, xs, rfl, sq, rr⟩ := p1
      exact ⟨a, xs, rfl, sq, RepHs.ofP rr⟩
    | _ => exact viaL e2
  | r k => exact viaL e2
  | t xs =>
    refine viaT xs (fun H1 φ1 x r1 p1 => ?_) (by simp only [itS] at e2; cases e2; rfl)
    simp only [RepH] at p1
    exact p1
theorem hI_pu {m : List Nat} {it : SI} (h1 : PI X tg e (tI X.K T it)) : PI X tg e (tHI X.K T (.pu m it)) := PI.imp h1 (fun σ H Rr ⟨O, φ, h, ρ, q, r, g, ee, f⟩ => by
  simp only [evHI] at ee
  obtain ⟨vs, e1, ee⟩ := bok ee
  obtain ⟨hp, ee⟩ := iok ee
  subst ee
  exact ⟨Oh O φ, _, vs, r.wfo, g.seeP hp, e1, fun J H' x1 hit => f J H' φ (.ext x1) (r.ext x1) (itH_p hit)⟩)
theorem hI_rng {m : List Nat} {it : SI} (h1 : PI X tg e (tIR X.K T it)) : PI X tg e (tHI X.K T (.rng m it)) := PI.imp h1 (fun σ H Rr ⟨O, φ, h, ρ, q, r, g, ee, f⟩ => by
  simp only [evHI] at ee
  obtain ⟨vs, e1, ee⟩ := bok ee
  cases ee
  exact ⟨O, _, vs, r.wf, g.see r m, e1, fun J H' x1 hit => f J H' φ (.ext x1) (r.ext x1) (itH_r hit)⟩)
theorem hI_enum {p pos tpos : Pos} {elts : List Expr} {kk : Nat} (hg : Gl X "enumerate") (hm : X.mg "enumerate" = none) (h1 : PE X e (tH X.K T he)) (n : nst e = true) :
    PI X (.Tuple elts kk tpos) (.Call (.Name "enumerate" p) [e] [] pos) (tHI X.K T (.enum he)) :=
  PI.imp (pi_enum hg hm (pa_cons h1 pa_nil (star_cons n)) (by rw [star_cons n]; rfl)) (fun σ H Rr ⟨O, φ, h, ρ, q, r, g, ee, f⟩ => by
    simp only [evHI] at ee
    obtain ⟨q1, e1, ee⟩ := bok ee
    obtain ⟨J, e2, ee⟩ := bok ee
    cases ee
    refine ⟨O, φ, h, ρ, q1, r, g, e1, fun x H1 φ1 k1 r1 p1 => ?_⟩
    obtain ⟨a, xs, rfl, sq, src⟩ := src_itL r1 p1 e2
    exact ⟨a, xs, rfl, sq, f _ _ _ k1 r1 (itH_e src)⟩)
theorem Src.keep {K : PySem.W.Frag} {J : HIt} {a : Addr} {H H1 : Hp} {O : Hid} {φ φ1 : List Addr} (s : Src K J a H O φ) (k : KeepH H φ H1 φ1) : Src K J a H1 O φ1 :=
  fun H' O' φ' h' k' r' i o eo => s H' O' φ' h' (k.toO.trans k') r' i o eo
theorem itL_later {K : PySem.W.Frag} {H H1 : Hp} {O : Hid} {φ φ1 : List Addr} {h h1 : HHp} {v : HV} {x : V} {J : HIt} (r : RelH K H O φ h) (r1 : RelH K H1 O φ1 h1) (k : KeepH H φ H1 φ1) (rv : RepH K H O φ v x) (e : itL h1 v = .ok J) : ∃ a xs, x = .ref a ∧ SqL K H1 a xs ∧ Src K J a H1 O φ1 :=
  src_itL r1 (RepH.keep r.wfo k rv) e
theorem hI_zip {p pos tpos : Pos} {elts : List Expr} {kk : Nat} (hg : Gl X "zip") (hm : X.mg "zip" = none) (h1 : PE X a (tH X.K T ha)) (n : nst a = true) (h2 : PE X b (tH X.K T hb)) (n2 : nst b = true) :
    PI X (.Tuple elts kk tpos) (.Call (.Name "zip" p) [a, b] [] pos) (tHI X.K T (.zip ha hb)) :=
  PI.imp (pi_zip hg hm (pa_cons h1 (pa_cons h2 pa_nil (star_cons n2)) (star_cons n)) (star_cons n) (star_any (by simp [n2]))) (fun σ H Rr ⟨O, φ, h, ρ, q, r, g, ee, f⟩ => by
    simp only [evHI] at ee
    obtain ⟨q1, e1, ee⟩ := bok ee
    obtain ⟨q2, e2, ee⟩ := bok ee
    obtain ⟨J, e3, ee⟩ := bok ee
    obtain ⟨J', e4, ee⟩ := bok ee
    cases ee
    refine ⟨O, φ, h, ρ, q1, r, g, e1, fun x H1 φ1 k1 r1 p1 => ⟨O, φ1, q1.2, ρ, q2, r1, g.keep r.wfo k1, e2, fun y H2 φ2 k2 r2 p2 => ?_⟩⟩
    obtain ⟨a1, xs, rfl, sq, src⟩ := itL_later r1 r2 k2 p1 e3
    obtain ⟨a2, ys, rfl, sq2, src2⟩ := src_itL r2 p2 e4
    exact ⟨a1, a2, xs, ys, rfl, sq, sq2, f _ _ _ (k1.trans k2) r2 (itH_z src src2)⟩)

/-! ### targets -/
def gH (K : PySem.W.Frag) (tg : Tg) : TG := fun x σ H Q => ∃ O φ h v bs, RelH K H O φ h ∧ RepH K H O φ v x ∧ flatH h tg v = .ok bs ∧ ∀ xs, RepHs K H O φ (bs.map (·.2)) xs → Q (setsV σ (bs.map (·.1)) xs) H
def gHs (K : PySem.W.Frag) (tg : Tgs) : TGs := fun ys σ H Q => ∃ O φ h vs bs, RelH K H O φ h ∧ RepHs K H O φ vs ys ∧ flatHs h tg vs = .ok bs ∧ ∀ xs, RepHs K H O φ (bs.map (·.2)) xs → Q (setsV σ (bs.map (·.1)) xs) H
variable {es : List Expr} {x : Str}
theorem hG_nm {i : Nat} (hN : X.N.Nodup) (hi : X.N[i]? = some x) (hx : Loc X.env.scope x) (hf : X.fn x = true ∨ X.env.scope.names.lookup x = some .local) : PG X (.Name x pos) (gH X.K (.nm i)) :=
  PG.imp (pg_name hN hi hx hf) (fun v σ H Q ⟨O, φ, h, u, bs, r, rv, e, q⟩ => by
    simp only [flatH] at e; cases e
    exact q [v] (RepHs.cons rv RepHs.nil))
theorem hGs_nil : PGs X [] (gHs X.K .nil) := PGs.imp pgs_nil (fun v σ H Q ⟨O, φ, h, u, bs, r, rv, e, q⟩ => by
  cases u with
  | nil => simp only [flatHs] at e; cases e; simp only [RepHs] at rv; exact ⟨rv, q [] RepHs.nil⟩
  | cons a b => simp only [flatHs] at e; cases e)
theorem hGs_cons {t : Tg} {r : Tgs} (h1 : PG X e (gH X.K t)) (h2 : PGs X es (gHs X.K r)) (n : nst e = true) : PGs X (e :: es) (gHs X.K (.cons t r)) :=
  PGs.imp (pgs_cons h1 h2 (by rw [asg_cons n]; rfl)) (fun v σ H Q ⟨O, φ, h, us, bs, r, rv, e, q⟩ => by
    cases us with
    | nil => simp only [flatHs] at e; cases e
    | cons a b =>
      simp only [flatHs] at e
      obtain ⟨b1, e1, e⟩ := bok e
      obtain ⟨b2, e2, e⟩ := bok e
      cases e
      simp only [RepHs] at rv
      obtain ⟨y, ys, rfl, p, rp⟩ := rv
      refine ⟨y, ys, rfl, O, φ, h, a, b1, r, p, e1, fun xs hx => ⟨O, φ, h, b, b2, r, rp, e2, fun zs hz => ?_⟩⟩
      have := q (xs ++ zs) (by rw [List.map_append]; exact hx.append hz)
      rw [List.map_append, setsV_append (by rw [hx.length]; simp)] at this
      exact this)
theorem hG_tp {k : Nat} {ts : Tgs} (hc : X.calm = true) (h1 : PGs X es (gHs X.K ts)) (n : es.all nst = true) (hl : ∀ h us bs, flatHs h ts us = .ok bs → us.length = es.length) : PG X (.Tuple es k pos) (gH X.K (.tp ts)) := by
  refine ⟨fun pins s σ H v u Q I rv ⟨O, φ, h, w0, bs, r, rp, hf, q⟩ => ?_⟩
  simp only [flatH] at hf
  obtain ⟨vs, e1, hf⟩ := bok hf
  obtain ⟨a, xs, rfl, sq, rr⟩ := itemsH_ok r rp e1
  have hlen : xs.length = es.length := by rw [rr.length]; exact hl _ _ _ hf
  rcases sq with sq | sq
  · exact (pg_unl hc h1 (n := es.length) (asg_len n) (asg_star n)).run pins s σ H _ u Q I rv ⟨a, xs, rfl, sq, hlen, O, φ, h, vs, bs, r, rr, hf, q⟩
  · exact (pg_tup hc h1 (n := es.length) (asg_len n) (asg_star n)).run pins s σ H _ u Q I rv ⟨a, xs, rfl, sq, hlen, O, φ, h, vs, bs, r, rr, hf, q⟩
theorem chkGs_nstH {sc : Scope} {fn : Str → Bool} : ∀ {ts : Tgs} {es : List Expr}, chkGs N sc fn ts es = true → ∀ h us bs, flatHs h ts us = .ok bs → us.length = es.length
  | .nil, es, h => by
    simp only [chkGs] at h
    cases es with
    | nil =>
      intro hh us bs hf
      cases us with
      | nil => rfl
      | cons => simp only [flatHs] at hf; cases hf
    | cons => cases h
  | .cons t r, [], h => by simp only [chkGs] at h; cases h
  | .cons t r, e :: es, h => by
    simp only [chkGs, Bool.and_eq_true] at h
    intro hh us bs hf
    cases us with
    | nil => simp only [flatHs] at hf; cases hf
    | cons u us =>
      simp only [flatHs] at hf
      obtain ⟨b1, _, hf⟩ := bok hf
      obtain ⟨b2, hf2, hf⟩ := bok hf
      rw [List.length_cons, List.length_cons, chkGs_nstH h.2 hh us b2 hf2]
mutual
theorem sndGH : ∀ (t : Tg) {X : Cx} {fn : Str → Bool} {e : Expr}, X.N = N → X.N.Nodup → X.calm = true → (∀ x, fn x = true → X.fn x = true) → chkG N X.env.scope fn t e = true → PG X e (gH X.K t)
  | .nm i, X, fn, e, hN, nd, cm, hf, h => by
    simp only [chkG] at h
    split at h
    · rename_i x p
      rw [Bool.and_eq_true] at h
      have hi : X.N[i]? = some x := by rw [hN]; exact of_decide_eq_true h.1
      have h2 := h.2
      rw [Bool.or_eq_true, Bool.and_eq_true] at h2
      rcases h2 with h2 | ⟨h2, h3⟩
      · split at h2
        · rename_i hl; exact hG_nm nd hi (.inl hl) (.inr hl)
        · cases h2
      · split at h2
        · rename_i hl; exact hG_nm nd hi (.inr hl) (.inl (hf _ h3))
        · cases h2
    · cases h
  | .tp ts, X, fn, e, hN, nd, cm, hf, h => by
    simp only [chkG] at h
    split at h
    · exact hG_tp cm (sndGsH ts hN nd cm hf h) (chkGs_nst h).1 (chkGs_nstH h)
    · cases h
theorem sndGsH : ∀ (t : Tgs) {X : Cx} {fn : Str → Bool} {es : List Expr}, X.N = N → X.N.Nodup → X.calm = true → (∀ x, fn x = true → X.fn x = true) → chkGs N X.env.scope fn t es = true → PGs X es (gHs X.K t)
  | .nil, X, fn, es, hN, nd, cm, hf, h => by
    simp only [chkGs] at h
    cases es with
    | nil => exact hGs_nil
    | cons => cases h
  | .cons t r, X, fn, [], hN, nd, cm, hf, h => by simp only [chkGs] at h; cases h
  | .cons t r, X, fn, e :: es, hN, nd, cm, hf, h => by
    simp only [chkGs, Bool.and_eq_true] at h
    exact hGs_cons (sndGH t hN nd cm hf h.1.2) (sndGsH r hN nd cm hf h.2) h.1.1
end
mutual
theorem flatH_ix {h : HHp} : ∀ {t : Tg} {v : HV} {bs : List (Nat × HV)}, flatH h t v = .ok bs → bs.map (·.1) = tgIx t
  | .nm i, v, bs, e => by simp only [flatH] at e; cases e; rfl
  | .tp ts, v, bs, e => by
    simp only [flatH] at e
    obtain ⟨vs, _, e⟩ := bok e
    exact flatHs_ix e
theorem flatHs_ix {h : HHp} : ∀ {t : Tgs} {v : List HV} {bs : List (Nat × HV)}, flatHs h t v = .ok bs → bs.map (·.1) = tgsIx t
  | .nil, [], bs, e => by simp only [flatHs] at e; cases e; rfl
  | .nil, _ :: _, bs, e => by simp only [flatHs] at e; cases e
  | .cons _ _, [], bs, e => by simp only [flatHs] at e; cases e
  | .cons t r, v :: vs, bs, e => by
    simp only [flatHs] at e
    obtain ⟨b1, h1, e⟩ := bok e
    obtain ⟨b2, h2, e⟩ := bok e
    cases e
    rw [List.map_append, flatH_ix h1, flatHs_ix h2]; rfl
end
theorem wipeH_len (ρ : HEnv) : ∀ own : List Nat, (wipeH ρ own).length = ρ.length
  | [] => rfl
  | v :: vs => by unfold wipeH; rw [List.length_set, wipeH_len ρ vs]
theorem EnvH.wipe {K : PySem.W.Frag} {H : Hp} {O : Hid} {φ : List Addr} {σ : L2.St} {ρ : HEnv} (g : EnvH K H O φ σ ρ) : ∀ own : List Nat, EnvH K H O φ (wipe σ own) (wipeH ρ own)
  | [] => g
  | v :: vs => by
    have ih := EnvH.wipe g vs
    refine ⟨by rw [wipeH_len, wipe_length]; exact g.len, fun j u e => ?_⟩
    unfold wipeH at e
    by_cases hj : v = j
    · subst hj
      by_cases hl : v < (wipeH ρ vs).length
      · rw [List.getElem?_set_self hl] at e; cases e
      · rw [List.getElem?_eq_none (by rw [List.length_set]; omega)] at e; cases e
    · rw [List.getElem?_set_ne hj] at e
      obtain ⟨x, h1, h2⟩ := ih.get j u e
      refine ⟨x, ?_, h2⟩
      show ((L2.wipe σ vs).set v none)[j]? = _
      rw [List.getElem?_set_ne hj]; exact h1

/-! ### comprehensions -/
def tHC (K : PySem.W.Frag) (T : Tab) (m : List Nat) (c : SO) : TT := fun σ H Q => ∃ O φ h ρ b, RelH K H O φ h ∧ EnvH K H O φ σ ρ ∧ evC T c (seeH m h ρ) = .ok b ∧ ∀ H', Ext H H' → RelH K H' O φ h → Q b H'
theorem hC {m : List Nat} {c : SO} (h1 : PTs X es (tCo X.K T c)) : PTs X es (tHC X.K T m c) := PTs.imp h1 (fun σ H Q ⟨O, φ, h, ρ, b, r, g, e, q⟩ => ⟨O, _, b, r.wf, g.see r m, e, fun H' x1 => q H' x1 (r.ext x1)⟩)
theorem tH_comp {K : PySem.W.Frag} {own : List Nat} {tg : Tg} {it : HI} {m : List Nat} {c : SO} {el : HE} (hown : ∀ i ∈ tgIx tg, i ∈ own) : ∀ σ H Q, tH K T (.comp own tg it m c el) σ H Q →
    tLc (tHI K T it) (gH K tg) (tHC K T m c) (tH K T el) own σ H Q := by
  intro σ H Q ⟨O, φ, h, ρ, q, r, g, e, f⟩
  simp only [evH] at e
  obtain ⟨qi, e1, e⟩ := bok e
  by_cases hlen : qi.1.many qi.2 ≤ lineN
  case neg => rw [if_neg hlen] at e; cases e
  rw [if_pos hlen] at e
  obtain ⟨z, e2, e⟩ := bok e
  cases e
  refine ⟨O, φ, h, ρ, qi, r, g, e1, fun J H1 φ1 k1 r1 hit => ?_⟩
  intro D nD
  have nOD : ¬ O D := r1.wf.new nD
  refine ⟨fun i k H2 => i + k = qi.1.many qi.2 + 1 ∧ ∃ φ2 h2 acc xs ys', H2 D = some (.lst xs) ∧ RelH K H2 (fun a => O a ∨ a = D) φ2 h2 ∧ RepHs K H2 (fun a => O a ∨ a = D) φ2 acc xs ∧ KeepH H1 φ1 H2 φ2 ∧
    compH (fun h ρ v => bindH h tg ρ v) (fun ρ h => evC T c (seeH m h ρ)) (fun ρ h => evH T el ρ h) qi.1 (wipeH ρ own) k i h2 = .ok (ys', z.2) ∧ acc ++ ys' = z.1 ∧ xs.length ≤ i,
    ⟨qi.1.many qi.2 + 1, by omega, φ1, qi.2, [], [], z.1, upd_same, r1.hide nD True.intro, RepHs.nil, .ext (Ext.upd nD), e2, rfl, Nat.zero_le _⟩, ?_⟩
  rintro i k H2 ⟨hik, φ2, h2, acc, xs, ys', hD, r2, rr, k2, hgo, hcat, hxl⟩
  cases k with
  | zero => simp only [compH] at hgo; cases hgo
  | succ k =>
    simp only [compH] at hgo
    obtain ⟨o, ho, hgo⟩ := bok hgo
    have kO : KeepO H1 O φ1 H2 (fun a => O a ∨ a = D) φ2 := ⟨⟨fun a u hu na => k2.k.vis a u hu (fun z => na (.inr z)), fun a ha => by
      rcases ha with (ha | rfl) | ha
      · exact .inl (.inl ha)
      · exact .inr nD
      · exact (k2.k.new a ha).imp .inr id⟩, k2.pre⟩
    obtain ⟨stop, go⟩ := hit i H2 _ φ2 h2 kO r2 o ho
    have nDφ : D ∉ φ2 := fun z => r2.out D z (.inr rfl)
    cases o with
    | none =>
      simp only at hgo
      cases hgo
      rw [List.append_nil] at hcat
      subst hcat
      refine .inl ⟨stop rfl, f (.ref D) H2 (φ2 ++ [D]) (k1.trans ⟨⟨k2.k.vis, fun a ha => ?_⟩, k2.pre.trans (List.prefix_append _ _)⟩) (r2.adopt nOD ⟨xs, hD, RepHs.keepO r2.wfo .adopt rr⟩) ?_⟩
      · rw [List.mem_append, List.mem_singleton] at ha
        rcases ha with ha | rfl
        · exact k2.k.new a ha
        · exact .inr nD
      · simp only [RepH]; exact ⟨D, by rw [← r2.len]; simp, rfl⟩
    | some v =>
      simp only at hgo
      obtain ⟨g1, y⟩ := go v rfl
      refine .inr ⟨g1, fun H' => ∃ φ2 h2 acc xs ys', H' D = some (.lst xs) ∧ RelH K H' (fun a => O a ∨ a = D) φ2 h2 ∧ RepHs K H' (fun a => O a ∨ a = D) φ2 acc xs ∧ KeepH H1 φ1 H' φ2 ∧
        compH (fun h ρ v => bindH h tg ρ v) (fun ρ h => evC T c (seeH m h ρ)) (fun ρ h => evH T el ρ h) qi.1 (wipeH ρ own) k (i + 1) h2 = .ok (ys', z.2) ∧ acc ++ ys' = z.1 ∧ xs.length ≤ i + 1,
        fun H' nx => ⟨k, by omega, by omega, nx⟩, fun x H3 hy => ?_⟩
      obtain ⟨x3, rx⟩ := y x H3 hy
      obtain ⟨ρ1, hb, hgo⟩ := bok hgo
      simp only [bindH] at hb
      obtain ⟨bs, hf, hb⟩ := bok hb
      cases hb
      obtain ⟨b, hc, hgo⟩ := bok hgo
      have r3 := r2.ext x3
      have g3 : EnvH K H3 (fun a => O a ∨ a = D) φ2 (L2.wipe σ own) (wipeH ρ own) := ((g.keepO r.wfo ((k1.toO.trans kO).trans (KeepH.ext x3).toO)).wipe own)
      refine ⟨_, φ2, h2, v, bs, r3, rx, hf, fun zs hz => ⟨?_, ?_⟩⟩
      · rw [wipe_setsV (fun j hj => hown j (by rw [← flatH_ix hf]; exact hj)), wipe_wipe]
      · refine ⟨_, φ2, h2, setsH (wipeH ρ own) bs, b, r3, g3.sets hz, hc, fun H4 x4 r4 => ?_⟩
        cases b with
        | false =>
          simp only [Bool.false_eq_true, if_false] at hgo ⊢
          exact ⟨φ2, h2, acc, xs, ys', x4 _ _ (x3 _ _ hD), r4, RepHs.keep r2.wfo (.ext (x3.trans x4)) rr, k2.trans (.ext (x3.trans x4)), hgo, hcat, by omega⟩
        | true =>
          simp only [if_true] at hgo ⊢
          obtain ⟨q5, hy1, hgo⟩ := bok hgo
          obtain ⟨z6, hy2, hgo⟩ := bok hgo
          obtain ⟨e5, e6⟩ := Prod.mk.inj (okI hgo)
          subst e5
          refine ⟨_, φ2, h2, setsH (wipeH ρ own) bs, q5, r4, (g3.sets hz).keep r3.wfo (.ext x4), hy1, fun y5 H5 φ5 k5 r5 ry => ?_⟩
          have hD5 : H5 D = some (.lst xs) := k5.k.vis D _ (x4 _ _ (x3 _ _ hD)) nDφ
          have hk0 : 0 < k := by
            cases k with
            | zero => simp only [compH] at hy2; cases hy2
            | succ k => omega
          obtain ⟨r6, k6⟩ := r5.touch (p := D) (u := .lst (xs ++ [y5])) (.inr rfl) True.intro
          have rr5 : RepHs K H5 (fun a => O a ∨ a = D) φ5 (acc ++ [q5.1]) (xs ++ [y5]) := (RepHs.keep r4.wfo k5 (RepHs.keep r2.wfo (.ext (x3.trans x4)) rr)).append (RepHs.cons ry RepHs.nil)
          have k15 : KeepH H1 φ1 H5 φ5 := (k2.trans (.ext (x3.trans x4))).trans k5
          refine ⟨xs, hD5, by rw [← lineN_eq]; omega, φ5, q5.2, acc ++ [q5.1], xs ++ [y5], z6.1, upd_same, r6, RepHs.keepO r5.wfo k6 rr5, ⟨⟨fun a u hu na => ?_, k15.k.new⟩, k15.pre⟩, by rw [← e6]; exact hy2, by rw [List.append_assoc]; exact hcat, by simp; omega⟩
          rw [upd_ne (ne_of_none hu nD)]
          exact k15.k.vis a u hu na
end
end VM

set_option Elab.async false
set_option linter.all false
set_option maxRecDepth 100000
set_option maxHeartbeats 8000000
/-! H5: statements of the machine; the look. -/
namespace VM
open PySem PySem.Spec PyProof.Rows L2

def FinH (K : PySem.W.Frag) (O : Hid) (φ : List Addr) (H : Hp) (q : HFl × HEnv × HHp) (D : Ends) : Prop := match q with
  | (.nx, ρ', h') => ∀ σ' H' φ', KeepH H φ H' φ' → RelH K H' O φ' h' → EnvH K H' O φ' σ' ρ' → D.nx σ' H'
  | (.rt v, _, h') => ∀ x H' φ', KeepH H φ H' φ' → RelH K H' O φ' h' → RepH K H' O φ' v x → D.rt x H'
def tHS (K : PySem.W.Frag) (T : Tab) (s : HS) : TS := fun D σ H => ∃ O φ h ρ q, RelH K H O φ h ∧ EnvH K H O φ σ ρ ∧ exH T s ρ h = .ok q ∧ FinH K O φ H q D
def tHB (K : PySem.W.Frag) (T : Tab) (s : HB) : TS := fun D σ H => ∃ O φ h ρ q, RelH K H O φ h ∧ EnvH K H O φ σ ρ ∧ exHs T s ρ h = .ok q ∧ FinH K O φ H q D
section
variable {X : Cx} {n : Nat} {M : Nm} {T : Tab} {N : List Str} {e a b tg : Expr} {ha hb he : HE} {es : List Expr} {hes : HEs} {pos : Pos}
theorem FinH.keep {K : PySem.W.Frag} {O : Hid} {φ φ1 : List Addr} {H H1 : Hp} {q : HFl × HEnv × HHp} {D : Ends} (f : FinH K O φ H q D) (k : KeepH H φ H1 φ1) : FinH K O φ1 H1 q D := by
  obtain ⟨fl, ρ', h'⟩ := q
  cases fl with
  | nx => exact fun σ' H' φ' k' r g => f σ' H' φ' (k.trans k') r g
  | rt v => exact fun x H' φ' k' r p => f x H' φ' (k.trans k') r p
theorem hB_nil : PSs X [] (tHB X.K T .nil) := PSs.imp pss_nil (fun D σ H ⟨O, φ, h, ρ, q, r, g, e, f⟩ => by
  simp only [exHs] at e; cases e
  exact f σ H φ .refl r g)
theorem hB_seq {st : Stmt} {rest : List Stmt} {s : HS} {t : HB} (h1 : PS X st (tHS X.K T s)) (h2 : PSs X rest (tHB X.K T t)) : PSs X (st :: rest) (tHB X.K T (.cons s t)) :=
  PSs.imp (pss_cons h1 h2) (fun D σ H ⟨O, φ, h, ρ, q, r, g, e, f⟩ => by
    simp only [exHs] at e
    obtain ⟨⟨fl, ρ1, h1⟩, e1, e⟩ := bok e
    cases fl with
    | nx =>
      simp only at e
      exact ⟨O, φ, h, ρ, (.nx, ρ1, h1), r, g, e1, fun σ1 H1 φ1 k1 r1 g1 => ⟨O, φ1, h1, ρ1, q, r1, g1, e, f.keep k1⟩⟩
    | rt v =>
      simp only at e
      cases e
      exact ⟨O, φ, h, ρ, (.rt v, ρ1, h1), r, g, e1, f⟩)
theorem tH.mono {K : PySem.W.Frag} {s : HE} {σ : L2.St} {H : Hp} {Q Q' : VK} (t : tH K T s σ H Q) (i : ∀ x H1, Q x H1 → Q' x H1) : tH K T s σ H Q' := by
  obtain ⟨O, φ, h, ρ, q, r, g, e, f⟩ := t
  exact ⟨O, φ, h, ρ, q, r, g, e, fun x H' φ' k r' p => i _ _ (f x H' φ' k r' p)⟩
theorem hS_asg_core {tg : Tg} : ∀ D σ H, tHS X.K T (.asg tg he) D σ H → tAsg (tH X.K T he) (gH X.K tg) D σ H := fun D σ H ⟨O, φ, h, ρ, q, r, g, e, f⟩ => by
  simp only [exH] at e
  obtain ⟨q1, e1, e⟩ := bok e
  obtain ⟨ρ1, e2, e⟩ := bok e
  cases e
  simp only [bindH] at e2
  obtain ⟨bs, e3, e2⟩ := bok e2
  cases e2
  exact ⟨O, φ, h, ρ, q1, r, g, e1, fun x H1 φ1 k1 r1 p1 => ⟨O, φ1, q1.2, q1.1, bs, r1, p1, e3, fun xs hx => f _ _ _ k1 r1 ((g.keep r.wfo k1).sets hx)⟩⟩
theorem gH_nm {K : PySem.W.Frag} {i : Nat} {x : V} {σ : L2.St} {H : Hp} {Q : L2.St → Hp → Prop} (h : gH K (.nm i) x σ H Q) : Q (σ.set i (some x)) H := by
  obtain ⟨O, φ, h, u, bs, r, p, e, q⟩ := h
  simp only [flatH] at e
  cases e
  exact q [x] (RepHs.cons p RepHs.nil)
theorem hS_set {i : Nat} {x : Str} {px : Pos} (cx : Ctx X n M T N) (hk : X.env.scope.kind = .function) (hi : X.N[i]? = some x) (hx : Loc X.env.scope x) (hf : X.fn x = true ∨ X.env.scope.names.lookup x = some .local)
    (h1 : PE X e (tH X.K T he)) (hsw : swB X.env.scope x px e = false) (hn : noComp e = true ∨ ∃ a b c d, e = .ListComp a b c d) : PS X (.Assign [.Name x px] e pos) (tHS X.K T (.asg (.nm i) he)) :=
  PS.imp (ps_set cx.nd hi hx h1 (swB_false hk hsw hn) hf) (fun D σ H h => (hS_asg_core (X := X) (T := T) D σ H h).mono fun x H1 g => gH_nm g)
theorem hS_tup {ts : Tgs} {k : Nat} {pt : Pos} (h1 : PE X e (tH X.K T he)) (hg : PG X (.Tuple es k pt) (gH X.K (.tp ts))) (hw : swappedStores [.Tuple es k pt] e X.env = pure none) :
    PS X (.Assign [.Tuple es k pt] e pos) (tHS X.K T (.asg (.tp ts) he)) := by
  refine PS.imp (ps_asg h1 hg ?_ hw rfl) (hS_asg_core (X := X) (T := T))
  show swapsWith e (some (.Tuple es k pt)) pos.line X.env = pure false
  cases e <;> rfl
theorem hS_par {i j : Nat} {x y : Str} {px py pt pt2 : Pos} {kt k2 : Nat} (cx : Ctx X n M T N) (hk : X.env.scope.kind = .function) (hi : X.N[i]? = some x) (hj : X.N[j]? = some y) (hij : i ≠ j)
    (hp : parB X.env.scope x px y py a b = true) (h1 : PE X a (tH X.K T ha)) (h2 : PE X b (tH X.K T hb)) : PS X (.Assign [.Tuple [.Name x px, .Name y py] kt pt] (.Tuple [a, b] k2 pt2) pos) (tHS X.K T (.par i j ha hb)) := by
  have hp' := hp
  unfold parB at hp'
  simp only [Bool.and_eq_true] at hp'
  obtain ⟨⟨⟨⟨⟨⟨⟨h3, h4⟩, _⟩, _⟩, h5⟩, h6⟩, _⟩, _⟩ := hp'
  have l1 : X.env.scope.names.lookup x = some .local := by
    split at h3
    · assumption
    · cases h3
  have l2 : X.env.scope.names.lookup y = some .local := by
    split at h4
    · assumption
    · cases h4
  refine PS.imp (ps_par cx.calm cx.nd hi hj hij l1 l2 (hA_cons h1 (hA_cons h2 hA_nil h6) h5) (sw_par hk hp) rfl) (fun D σ H ⟨O, φ, h, ρ, q, r, g, e, f⟩ => ?_)
  simp only [exH] at e
  obtain ⟨q1, e1, e⟩ := bok e
  obtain ⟨q2, e2, e⟩ := bok e
  cases e
  refine ⟨O, φ, h, ρ, ([q1.1, q2.1], q2.2), r, g, by simp only [evHs, e1]; show ((evH T hb ρ q1.2 >>= _) >>= _) = _; rw [e2]; rfl, fun xs H1 φ1 k1 r1 p1 => ?_⟩
  simp only [RepHs] at p1
  obtain ⟨y1, t1, rfl, p1, y2, t2, rfl, p2, rfl⟩ := p1
  exact ⟨y1, y2, rfl, f _ _ _ k1 r1 (((g.keep r.wfo k1).set p1).set p2)⟩
/-- a list of the machine's, seen in a later heap -/
theorem tyL {K : PySem.W.Frag} {H : Hp} {O : Hid} {φ : List Addr} {h : HHp} {v : HV} {x : V} {vs : List HV} (r : RelH K H O φ h) (p : RepH K H O φ v x) (e : lstH h v = .ok vs) : tyV K "list" x H := by
  obtain ⟨a, xs, rfl, hx, _⟩ := lstH_ok r p e
  exact .inl ⟨rfl, _, .inl (.inl hx)⟩
theorem hS_app {apos cpos : Pos} (h1 : PE X a (tH X.K T ha)) (h2 : PE X e (tH X.K T he)) (hs : nst e = true) (hline : (apos.endLine == cpos.line) = true) (hbase : attributeBase a "append" X.env (eval a X.env) = eval a X.env) :
    PS X (.Expr (.Call (.Attribute a "append" apos) [e] [] cpos) pos) (tHS X.K T (.app ha he)) :=
  PS.imp (ps_expr (pe_bm PySem.F.plainAttrs_list PySem.F.slot_list_append PySem.F.type_list_append mt_append h1 (pa_cons h2 pa_nil (star_cons hs)) hbase (few1 hs) hline (star_cons hs) rfl)) (fun D σ H ⟨O, φ, h, ρ, q, r, g, e, f⟩ => by
    simp only [exH] at e
    obtain ⟨q1, e1, e⟩ := bok e
    obtain ⟨l0, e0, e⟩ := bok e
    obtain ⟨q2, e2, e⟩ := bok e
    refine ⟨O, φ, h, ρ, q1, r, g, e1, fun x H1 φ1 k1 r1 p1 => ⟨tyL r1 p1 e0, O, φ1, q1.2, ρ, q2, r1, g.keep r.wfo k1, e2, fun y H2 φ2 k2 r2 p2 => ?_⟩⟩
    have p1' := RepH.keep r1.wfo k2 p1
    split at e
    · rename_i k hk
      split at e
      · rename_i ys hy
        obtain ⟨hl, e⟩ := iok e
        subst e
        rw [hk] at p1'
        simp only [RepH] at p1'
        obtain ⟨p, hp, rfl⟩ := p1'
        obtain ⟨xs, hx, rx⟩ := r2.obj k p _ hp hy
        have ka : KeepH H2 φ2 (upd H2 p (.lst (xs ++ [y]))) φ2 := .upd (List.mem_iff_getElem?.mpr ⟨k, hp⟩)
        obtain ⟨r3, k3⟩ := r2.change (o := .lst (ys ++ [q2.1])) hp hy ⟨_, upd_same, RepHs.keep r2.wfo ka (rx.append (RepHs.cons p2 RepHs.nil))⟩
        exact ⟨p, xs, y, rfl, rfl, hx, by rw [rx.length, ← lineN_eq]; exact hl, f _ _ _ ((k1.trans k2).trans k3) r3 (g.keep r.wfo ((k1.trans k2).trans k3))⟩
      · cases e
    · cases e)
theorem hS_ext {apos cpos : Pos} (h1 : PE X a (tH X.K T ha)) (h2 : PE X e (tH X.K T he)) (hs : nst e = true) (hline : (apos.endLine == cpos.line) = true) (hbase : attributeBase a "extend" X.env (eval a X.env) = eval a X.env) :
    PS X (.Expr (.Call (.Attribute a "extend" apos) [e] [] cpos) pos) (tHS X.K T (.ext ha he)) :=
  PS.imp (ps_expr (pe_bm PySem.F.plainAttrs_list PySem.F.slot_list_extend PySem.F.type_list_extend mt_extend h1 (pa_cons h2 pa_nil (star_cons hs)) hbase (few1 hs) hline (star_cons hs) rfl)) (fun D σ H ⟨O, φ, h, ρ, q, r, g, e, f⟩ => by
    simp only [exH] at e
    obtain ⟨q1, e1, e⟩ := bok e
    obtain ⟨l0, e0, e⟩ := bok e
    obtain ⟨q2, e2, e⟩ := bok e
    obtain ⟨zs, e3, e⟩ := bok e
    refine ⟨O, φ, h, ρ, q1, r, g, e1, fun x H1 φ1 k1 r1 p1 => ⟨tyL r1 p1 e0, O, φ1, q1.2, ρ, q2, r1, g.keep r.wfo k1, e2, fun y H2 φ2 k2 r2 p2 => ?_⟩⟩
    have p1' := RepH.keep r1.wfo k2 p1
    split at e
    · rename_i k hk
      split at e
      · rename_i ys hy
        obtain ⟨hl, e⟩ := iok e
        subst e
        rw [hk] at p1'
        simp only [RepH] at p1'
        obtain ⟨p, hp, rfl⟩ := p1'
        obtain ⟨xs, hx, rx⟩ := r2.obj k p _ hp hy
        obtain ⟨b2, ws, rfl, hw, rw2⟩ := lstH_ok r2 p2 e3
        have ka : KeepH H2 φ2 (upd H2 p (.lst (xs ++ ws))) φ2 := .upd (List.mem_iff_getElem?.mpr ⟨k, hp⟩)
        obtain ⟨r3, k3⟩ := r2.change (o := .lst (ys ++ zs)) hp hy ⟨_, upd_same, RepHs.keep r2.wfo ka (rx.append rw2)⟩
        exact ⟨p, b2, xs, ws, rfl, rfl, hx, hw, by rw [rx.length, rw2.length, ← lineN_eq]; exact hl, f _ _ _ ((k1.trans k2).trans k3) r3 (g.keep r.wfo ((k1.trans k2).trans k3))⟩
      · cases e
    · cases e)
theorem hS_set1 {m : List Nat} {k : SE} {i : Expr} {p2 : Pos} (h1 : PE X a (tH X.K T ha)) (h2 : PE X i (tE X.K T k)) (h3 : PE X e (tH X.K T he)) (hi : ixOk i = true) :
    PS X (.Assign [.Subscript a i p2] e pos) (tHS X.K T (.set ha m k he)) := by
  refine PS.imp (ps_asg h3 (pg_sub h1 h2 set_list (fun v => by cases i <;> first | rfl | cases hi)) ?_ (by cases e <;> rfl) rfl) (fun D σ H ⟨O, φ, h, ρ, q, r, g, e, f⟩ => ?_)
  · show swapsWith e (some (.Subscript a i p2)) pos.line X.env = pure false
    cases e <;> rfl
  · simp only [exH] at e
    obtain ⟨q1, e1, e⟩ := bok e
    obtain ⟨q2, e2, e⟩ := bok e
    obtain ⟨kv, e3, e⟩ := bok e
    refine ⟨O, φ, h, ρ, q1, r, g, e1, fun x H1 φ1 k1 r1 p1 => ⟨O, φ1, q1.2, ρ, q2, r1, g.keep r.wfo k1, e2, fun y H2 φ2 k2 r2 p2 => ?_⟩⟩
    split at e
    · rename_i nn hk
      split at e
      · rename_i ys hy
        split at e
        · rename_i z
          split at e
          · rename_i j hj
            cases e
            have g2 := g.keep r.wfo (k1.trans k2)
            refine see_pu r2 g2 e3 rfl (fun w H3 x3 r3 p3 => ?_)
            simp only [RepH, Rep] at p3
            subst p3
            rw [hk] at p2
            simp only [RepH] at p2
            obtain ⟨p, hp, rfl⟩ := p2
            obtain ⟨xs, hx, rx⟩ := r3.obj nn p _ hp hy
            have ka : KeepH H3 φ2 (upd H3 p (.lst (xs.set j x))) φ2 := .upd (List.mem_iff_getElem?.mpr ⟨nn, hp⟩)
            have px : RepH X.K H3 O φ2 q1.1 x := RepH.keep r1.wfo (k2.trans (.ext x3)) p1
            obtain ⟨r4, k4⟩ := r3.change (o := .lst (ys.set j q1.1)) hp hy ⟨_, upd_same, RepHs.keep r3.wfo ka (rx.set j px)⟩
            have kk := ((k1.trans k2).trans (.ext x3)).trans k4
            exact ⟨p, xs, z, j, rfl, rfl, hx, by rw [rx.length]; exact hj, f _ _ _ kk r4 (g.keep r.wfo kk)⟩
          · cases e
        · cases e
      · cases e
    · cases e
theorem hS_ret (h1 : PE X e (tH X.K T he)) : PS X (.Return (some e) pos) (tHS X.K T (.ret he)) :=
  PS.imp (ps_ret h1) (fun D σ H ⟨O, φ, h, ρ, q, r, g, e, f⟩ => by
    simp only [exH] at e
    obtain ⟨q1, e1, e⟩ := bok e
    cases e
    exact ⟨O, φ, h, ρ, q1, r, g, e1, fun x H1 φ1 k1 r1 p1 => f x H1 φ1 k1 r1 p1⟩)
theorem hS_expr (h1 : PE X e (tH X.K T he)) (hn : noComp e = true) : PS X (.Expr e pos) (tHS X.K T (.expr he)) :=
  PS.imp (ps_expr h1 (noComp_sw hn)) (fun D σ H ⟨O, φ, h, ρ, q, r, g, e, f⟩ => by
    simp only [exH] at e
    obtain ⟨q1, e1, e⟩ := bok e
    cases e
    exact ⟨O, φ, h, ρ, q1, r, g, e1, fun x H1 φ1 k1 r1 p1 => f σ H1 φ1 k1 r1 (g.keep r.wfo k1)⟩)
theorem hS_if {m : List Nat} {c : Expr} {s : SE} {as bs : List Stmt} {sa sb : HB} (hc : PT X c (tT X.K T s)) (h1 : PSs X as (tHB X.K T sa)) (h2 : PSs X bs (tHB X.K T sb)) : PS X (.If c as bs pos) (tHS X.K T (.iff m s sa sb)) :=
  PS.imp (ps_if hc h1 h2) (fun D σ H ⟨O, φ, h, ρ, q, r, g, e, f⟩ => by
    simp only [exH] at e
    obtain ⟨v, e1, e⟩ := bok e
    obtain ⟨k, e2, hK⟩ := bok e
    obtain rfl := tru_ok e2
    replace e := hK
    refine see_t r g e1 fun H1 x1 r1 => ?_
    cases k with
    | true => simp only [if_true] at e ⊢; exact ⟨O, φ, h, ρ, q, r1, g.keep r.wfo (.ext x1), e, f.keep (.ext x1)⟩
    | false => simp only [Bool.false_eq_true, if_false] at e ⊢; exact ⟨O, φ, h, ρ, q, r1, g.keep r.wfo (.ext x1), e, f.keep (.ext x1)⟩)
theorem hS_raise {c : Nat} {st : Stmt} : PS X st (tHS X.K T (.raise c)) :=
  PS.imp ps_never (fun D σ H ⟨O, φ, h, ρ, q, r, g, e, f⟩ => by simp only [exH] at e; cases e)
theorem hS_while {m : List Nat} {μ s : SE} {c : Expr} {bs : List Stmt} {sb : HB} (hp : PassesOwn (model X.prog X.w) X.A X.env X.xe) (hc : PT X c (tT X.K T s)) (h2 : PSs X bs (tHB X.K T sb)) : PS X (.While c bs [] pos) (tHS X.K T (.whl m μ s sb)) :=
  PS.imp (ps_while hp hc h2) (fun D σ H ⟨O, φ, h, ρ, q, r, g, e, f⟩ => by
    simp only [exH] at e
    obtain ⟨v, _, e⟩ := bok e
    obtain ⟨z, _, e⟩ := bok e
    refine ⟨fun k σ2 H2 => ∃ φ2 h2 ρ2, RelH X.K H2 O φ2 h2 ∧ EnvH X.K H2 O φ2 σ2 ρ2 ∧ KeepH H φ H2 φ2 ∧ whH (fun ρ h => do let x ← ev T s (seeH m h ρ); tru x) (fun ρ h => exHs T sb ρ h) k ρ2 h2 = .ok q, ⟨z.toNat + 1, φ, h, ρ, r, g, .refl, e⟩, ?_⟩
    rintro k σ2 H2 ⟨φ2, h2, ρ2, r2, g2, k2, hg⟩
    cases k with
    | zero => simp only [whH] at hg; cases hg
    | succ k =>
      simp only [whH] at hg
      obtain ⟨t, h1, hg⟩ := bok hg
      obtain ⟨x, h3, h1⟩ := bok h1
      obtain rfl := tru_ok h1
      refine see_t r2 g2 h3 fun H3 x3 r3 => ?_
      have k3 := k2.trans (KeepH.ext x3)
      have g3 := g2.keep r2.wfo (.ext x3)
      cases t with
      | false =>
        simp only [Bool.false_eq_true, if_false] at hg ⊢
        cases hg
        exact f σ2 H3 φ2 k3 r3 g3
      | true =>
        simp only [if_true] at hg ⊢
        obtain ⟨⟨fl, ρ3, h3'⟩, h4, hg⟩ := bok hg
        refine ⟨fun σ' H' => ∃ φ2 h2 ρ2, RelH X.K H' O φ2 h2 ∧ EnvH X.K H' O φ2 σ' ρ2 ∧ KeepH H φ H' φ2 ∧ whH (fun ρ h => do let x ← ev T s (seeH m h ρ); tru x) (fun ρ h => exHs T sb ρ h) k ρ2 h2 = .ok q, fun σ' H' nx => ⟨k, by omega, nx⟩, ?_⟩
        refine ⟨O, φ2, h2, ρ2, (fl, ρ3, h3'), r3, g3, h4, ?_⟩
        cases fl with
        | nx =>
          simp only at hg
          exact fun σ' H' φ' k' r' g' => ⟨φ', h3', ρ3, r', g', k3.trans k', hg⟩
        | rt v =>
          simp only at hg
          cases hg
          exact fun x H' φ' k' r' p' => f x H' φ' (k3.trans k') r' p')
theorem hS_for {tg : Tg} {it : HI} {tgE iter : Expr} {bs : List Stmt} {sb : HB} (cx : Ctx X n M T N) (hp : PassesOwn (model X.prog X.w) X.A X.env X.xe) (hi : PI X tgE iter (tHI X.K T it)) (hg : PG X tgE (gH X.K tg)) (h2 : PSs X bs (tHB X.K T sb))
    (hs : noSet iter = true) : PS X (.For tgE iter bs [] pos) (tHS X.K T (.loop tg it sb)) :=
  PS.imp (ps_for hp cx.calm hi hg h2 (noSet_fold hs)) (fun D σ H ⟨O, φ, h, ρ, q, r, g, e, f⟩ => by
    simp only [exH] at e
    obtain ⟨qi, e1, e⟩ := bok e
    refine ⟨O, φ, h, ρ, qi, r, g, e1, fun J H1 φ1 k1 r1 hit => ?_⟩
    refine ⟨fun i k σ2 H2 => ∃ φ2 h2 ρ2, RelH X.K H2 O φ2 h2 ∧ EnvH X.K H2 O φ2 σ2 ρ2 ∧ KeepH H1 φ1 H2 φ2 ∧ forH (fun h ρ v => bindH h tg ρ v) (fun ρ h => exHs T sb ρ h) qi.1 k i ρ2 h2 = .ok q,
      ⟨qi.1.many qi.2 + 1, φ1, qi.2, ρ, r1, g.keep r.wfo k1, .refl, e⟩, ?_⟩
    rintro i k σ2 H2 ⟨φ2, h2, ρ2, r2, g2, k2, hgo⟩
    cases k with
    | zero => simp only [forH] at hgo; cases hgo
    | succ k =>
      simp only [forH] at hgo
      obtain ⟨o, ho, hgo⟩ := bok hgo
      obtain ⟨stop, go⟩ := hit i H2 O φ2 h2 k2.toO r2 o ho
      cases o with
      | none =>
        simp only at hgo
        cases hgo
        exact .inl ⟨stop rfl, f σ2 H2 φ2 (k1.trans k2) r2 g2⟩
      | some v =>
        simp only at hgo
        obtain ⟨g1, y⟩ := go v rfl
        refine .inr ⟨g1, fun σ' H' => ∃ φ2 h2 ρ2, RelH X.K H' O φ2 h2 ∧ EnvH X.K H' O φ2 σ' ρ2 ∧ KeepH H1 φ1 H' φ2 ∧ forH (fun h ρ v => bindH h tg ρ v) (fun ρ h => exHs T sb ρ h) qi.1 k (i + 1) ρ2 h2 = .ok q,
          fun σ' H' nx => ⟨k, by omega, nx⟩, fun x H3 hy => ?_⟩
        obtain ⟨x3, rx⟩ := y x H3 hy
        obtain ⟨ρ3, hb, hgo⟩ := bok hgo
        simp only [bindH] at hb
        obtain ⟨bs, hf, hb⟩ := bok hb
        cases hb
        obtain ⟨⟨fl, ρ4, h4⟩, h5, hgo⟩ := bok hgo
        have r3 := r2.ext x3
        have g3 := g2.keep r2.wfo (.ext x3)
        refine ⟨O, φ2, h2, v, bs, r3, rx, hf, fun zs hz => ?_⟩
        refine ⟨O, φ2, h2, _, (fl, ρ4, h4), r3, g3.sets hz, h5, ?_⟩
        cases fl with
        | nx =>
          simp only at hgo
          exact fun σ' H' φ' k' r' g' => ⟨φ', h4, ρ4, r', g', (k2.trans (.ext x3)).trans k', hgo⟩
        | rt v =>
          simp only at hgo
          cases hgo
          exact fun x H' φ' k' r' p' => f x H' φ' (((k1.trans k2).trans (.ext x3)).trans k') r' p')
end
end VM

set_option Elab.async false
set_option linter.all false
set_option maxRecDepth 100000
set_option maxHeartbeats 8000000
/-! H6: the look at the machine's texts; defs; programs. -/
namespace VM
open PySem PySem.Spec PyProof.Rows L2

mutual
def chkHE (M : Nm) (N : List Str) : HE → Scope → Expr → Bool
  | .pu _ s, sc, e => chkE M N s sc e
  | .puF _ s, sc, e => chkF M N s sc e
  | .var i, sc, e => match e with
    | .Name x _ => decide (N[i]? = some x) && visB sc x && dbg x
    | _ => false
  | .ix a _ k, sc, e => match e with
    | .Subscript x y _ => ixOk y && chkHE M N a sc x && chkE M N k sc y
    | _ => false
  | .lst es, sc, e => match e with
    | .List xs _ => chkHEs M N es sc xs
    | _ => false
  | .tup es, sc, e => match e with
    | .Tuple xs _ _ => chkHEs M N es sc xs
    | _ => false
  | .lof a, sc, e => match e with
    | .Call (.Name f _) [x] [] _ => decide (f = ("list" : Str)) && glB sc f && nst x && chkHE M N a sc x
    | _ => false
  | .cat a b, sc, e => match e with
    | .BinOp x .Add y _ => chkHE M N a sc x && chkHE M N b sc y
    | _ => false
  | .sl a _ lo hi, sc, e => match e with
    | .Subscript x (.Slice l h none _) _ => chkHE M N a sc x && chkO M N lo sc l && chkO M N hi sc h
    | _ => false
  | .comp own tg it _ c el, sc, e => match e with
    | .ListComp x [⟨tgE, iter, ifs, 0⟩] scope _ => blkC N sc scope (own.map fun i => (N.getD i "", i)) && (tgIx tg).all (own.contains ·) &&
        chkHI M N it sc tgE iter && noSet iter && chkG N (relS scope sc) (fun y => scope.names.lookup y == some .cell) tg tgE &&
        chkC M N c (relS scope sc) ifs && chkHE M N el (relS scope sc) x
    | _ => false
  | .call f es, sc, e => match e with
    | .Call (.Name x _) xs [] _ => decide (M.hn f = some x) && glB sc x && dbg x && chkHEs M N es sc xs
    | _ => false
def chkHEs (M : Nm) (N : List Str) : HEs → Scope → List Expr → Bool
  | .nil, _, xs => xs.isEmpty
  | .cons e r, sc, xs => match xs with
    | x :: xs => nst x && chkHE M N e sc x && chkHEs M N r sc xs
    | [] => false
def chkHI (M : Nm) (N : List Str) : HI → Scope → Expr → Expr → Bool
  | .seq e, sc, _, x => chkHE M N e sc x
  | .pu _ it, sc, tg, x => chkI M N it sc tg x
  | .rng _ it, sc, tg, x => (match it with | .rng1 _ => true | .rng2 _ _ => true | .rng3 _ _ _ => true | _ => false) && chkI M N it sc tg x
  | .enum a, sc, tg, e => match tg with
    | .Tuple _ _ _ => (match e with
      | .Call (.Name f _) [x] [] _ => decide (f = ("enumerate" : Str)) && glB sc f && nst x && chkHE M N a sc x
      | _ => false)
    | _ => false
  | .zip a b, sc, tg, e => match tg with
    | .Tuple _ _ _ => (match e with
      | .Call (.Name f _) [x, y] [] _ => decide (f = ("zip" : Str)) && glB sc f && nst x && chkHE M N a sc x && nst y && chkHE M N b sc y
      | _ => false)
    | _ => false
end
def isCompH : HE → Bool
  | .comp _ _ _ _ _ _ => true
  | _ => false
def chkSetH (M : Nm) (N : List Str) (i : Nat) (s : HE) (sc : Scope) (x : Str) (px : Pos) (e : Expr) : Bool :=
  decide (N[i]? = some x) && locB sc x && chkHE M N s sc e && (if swB sc x px e then isCompH s else (noComp e || isLC e))
def baseOk : Expr → Bool
  | .Name _ _ => true
  | .Subscript _ _ _ => true
  | _ => false
mutual
def chkHS (M : Nm) (N : List Str) : HS → Scope → Stmt → Bool
  | .asg tg s, sc, st => match st with
    | .Assign [.Name x px] e _ => (match tg with
      | .nm i => chkSetH M N i s sc x px e
      | .tp _ => false)
    | .Assign [.Tuple es k pt] e _ => (match tg with
      | .nm _ => false
      | .tp _ => chkG N sc (fun _ => true) tg (.Tuple es k pt) && chkHE M N s sc e && (match e with
        | .Tuple vs _ _ => swN sc es vs
        | _ => true))
    | _ => false
  | .par i j a b, sc, st => match st with
    | .Assign [.Tuple [.Name x px, .Name y py] _ _] (.Tuple [ea, eb] _ _) _ => decide (N[i]? = some x) && decide (N[j]? = some y) && decide (i ≠ j) && parB sc x px y py ea eb && chkHE M N a sc ea && chkHE M N b sc eb
    | _ => false
  | .app a s, sc, st => match st with
    | .Expr (.Call (.Attribute o f apos) [e] [] cpos) _ => decide (f = ("append" : Str)) && baseOk o && chkHE M N a sc o && chkHE M N s sc e && nst e && (apos.endLine == cpos.line)
    | _ => false
  | .ext a s, sc, st => match st with
    | .Expr (.Call (.Attribute o f apos) [e] [] cpos) _ => decide (f = ("extend" : Str)) && baseOk o && chkHE M N a sc o && chkHE M N s sc e && nst e && (apos.endLine == cpos.line)
    | _ => false
  | .set a _ k s, sc, st => match st with
    | .Assign [.Subscript o i _] e _ => ixOk i && chkHE M N a sc o && chkE M N k sc i && chkHE M N s sc e
    | _ => false
  | .iff _ c a b, sc, st => match st with
    | .If ce as bs _ => tOk c && chkE M N c sc ce && chkHB M N a sc as && chkHB M N b sc bs
    | _ => false
  | .loop tg it b, sc, st => match st with
    | .For tgE iter body [] _ => chkHI M N it sc tgE iter && chkG N sc (fun _ => true) tg tgE && chkHB M N b sc body && noSet iter
    | _ => false
  | .whl _ _ c b, sc, st => match st with
    | .While ce body [] _ => tOk c && chkE M N c sc ce && chkHB M N b sc body
    | _ => false
  | .ret s, sc, st => match st with
    | .Return (some e) _ => chkHE M N s sc e
    | _ => false
  | .expr s, sc, st => match st with
    | .Expr e _ => chkHE M N s sc e && noComp e
    | _ => false
  | .raise _, _, _ => true
def chkHB (M : Nm) (N : List Str) : HB → Scope → List Stmt → Bool
  | .nil, _, sts => sts.isEmpty
  | .cons s r, sc, sts => match sts with
    | st :: sts => chkHS M N s sc st && chkHB M N r sc sts
    | [] => false
end
section
variable {X : Cx} {n : Nat} {M : Nm} {T : Tab} {N : List Str}
theorem chkHEs_nst {sc : Scope} : ∀ {s : HEs} {es : List Expr}, chkHEs M N s sc es = true → es.all nst = true
  | .nil, es, h => by
    simp only [chkHEs] at h
    cases es with
    | nil => rfl
    | cons => cases h
  | .cons e r, [], h => by rfl
  | .cons e r, x :: es, h => by
    simp only [chkHEs, Bool.and_eq_true] at h
    simp only [List.all_cons, h.1.1, chkHEs_nst h.2, Bool.and_self]
theorem chkHEs_nil {sc : Scope} {s : HEs} {es : List Expr} (h : chkHEs M N s sc es = true) : es = [] → s = .nil := by
  intro e
  subst e
  cases s with
  | nil => rfl
  | cons => simp only [chkHEs] at h; cases h
theorem sndR : ∀ (s : SI) {X : Cx} {tg e : Expr}, Ctx X n M T N → (match s with | .rng1 _ => true | .rng2 _ _ => true | .rng3 _ _ _ => true | _ => false) = true → chkI M N s X.env.scope tg e = true → PI X tg e (tIR X.K T s)
  | .rng1 a, X, tg, e, cx, _, h => by
    simp only [chkI] at h
    split at h
    · simp only [Bool.and_eq_true] at h
      obtain ⟨⟨⟨h1, h2⟩, h3⟩, h4⟩ := h
      have hx := of_decide_eq_true h1
      subst hx
      exact rI_rng1 (glB_gl h2) (cx.facts.bis "range" (by decide)) (sndE a cx h4).1 h3
    · cases h
  | .rng2 a b, X, tg, e, cx, _, h => by
    simp only [chkI] at h
    split at h
    · simp only [Bool.and_eq_true] at h
      obtain ⟨⟨⟨⟨⟨h1, h2⟩, h3⟩, h4⟩, h5⟩, h6⟩ := h
      have hx := of_decide_eq_true h1
      subst hx
      exact rI_rng2 (glB_gl h2) (cx.facts.bis "range" (by decide)) (sndE a cx h4).1 h3 (sndE b cx h6).1 h5
    · cases h
  | .rng3 a b c, X, tg, e, cx, _, h => by
    simp only [chkI] at h
    split at h
    · simp only [Bool.and_eq_true] at h
      obtain ⟨⟨⟨⟨⟨⟨⟨h1, h2⟩, h3⟩, h4⟩, h5⟩, h6⟩, h7⟩, h8⟩ := h
      have hx := of_decide_eq_true h1
      subst hx
      exact rI_rng3 (glB_gl h2) (cx.facts.bis "range" (by decide)) (sndE a cx h4).1 h3 (sndE b cx h6).1 h5 (sndE c cx h8).1 h7
    · cases h
  | .seq _, _, _, _, _, hr, _ => by cases hr
  | .enum _, _, _, _, _, hr, _ => by cases hr
  | .zip _ _, _, _, _, _, hr, _ => by cases hr
  | .keys _, _, _, _, _, hr, _ => by cases hr
mutual
theorem sndHE : ∀ (s : HE) {X : Cx} {e : Expr}, Ctx X n M T N → chkHE M N s X.env.scope e = true → PE X e (tH X.K T s)
  | .pu m s, X, e, cx, h => by simp only [chkHE] at h; exact hE_pu (sndE s cx h).1
  | .puF m s, X, e, cx, h => by simp only [chkHE] at h; exact hE_puF (sndF cx h)
  | .var i, X, e, cx, h => by
    simp only [chkHE] at h
    split at h
    · simp only [Bool.and_eq_true] at h
      exact hE_var (by rw [cx.hN]; exact of_decide_eq_true h.1.1) (visB_vis h.1.2) h.2
    · cases h
  | .ix a m k, X, e, cx, h => by
    simp only [chkHE] at h
    split at h
    · simp only [Bool.and_eq_true] at h
      exact hE_ix cx (sndHE a cx h.1.2) (sndE k cx h.2).1 h.1.1
    · cases h
  | .lst es, X, e, cx, h => by
    simp only [chkHE] at h
    split at h
    · exact hE_lst (sndHA es cx h)
    · cases h
  | .tup es, X, e, cx, h => by
    simp only [chkHE] at h
    split at h
    · exact hE_tup (sndHA es cx h)
    · cases h
  | .lof a, X, e, cx, h => by
    simp only [chkHE] at h
    split at h
    · simp only [Bool.and_eq_true] at h
      obtain ⟨⟨⟨h1, h2⟩, h3⟩, h4⟩ := h
      obtain rfl := of_decide_eq_true h1
      exact hE_lof cx (glB_gl h2) (sndHE a cx h4) h3
    · cases h
  | .cat a b, X, e, cx, h => by
    simp only [chkHE] at h
    split at h
    · rw [Bool.and_eq_true] at h
      exact hE_cat (sndHE a cx h.1) (sndHE b cx h.2)
    · cases h
  | .sl a m lo hi, X, e, cx, h => by
    simp only [chkHE] at h
    split at h
    · simp only [Bool.and_eq_true] at h
      exact hE_sl (sndHE a cx h.1.1) (sndO lo cx h.1.2) (sndO hi cx h.2)
    · cases h
  | .comp own tg it m c el, X, e, cx, h => by
    simp only [chkHE] at h
    split at h
    · rename_i x tgE iter ifs scope pos
      simp only [Bool.and_eq_true] at h
      obtain ⟨⟨⟨⟨⟨⟨h1, h2⟩, h3⟩, h4⟩, h5⟩, h6⟩, h7⟩ := h
      have hb : BlkOk X.N X.env.scope scope (own.map fun i => (N.getD i "", i)) := by rw [cx.hN]; exact blkOk_by h1
      have p := pe_lc (elt := x) (pos := pos) (scope := scope) cx.calm cx.nd (sndHI it cx h3) hb (g := gH X.K tg) (tt := tHC X.K T m c) (te := tH X.K T el)
        (fun s H C cl fp => sndGH (N := N) tg (X := X.blk s H scope (compEnvC scope cl C X.env) fp) cx.hN cx.nd cx.calm (fun y hy => hy) h5)
        (fun s H C cl fp => hC (sndC c (cx.blk s H scope (compEnvC scope cl C X.env) fp) h6))
        (fun s H C cl fp => sndHE el (cx.blk s H scope (compEnvC scope cl C X.env) fp) h7)
        (noSet_fold h4)
      rw [own_snd] at p
      exact PE.imp p (tH_comp (fun i hi => by simpa using List.all_eq_true.mp h2 i hi))
    · cases h
  | .call f es, X, e, cx, h => by
    simp only [chkHE] at h
    split at h
    · simp only [Bool.and_eq_true] at h
      obtain ⟨⟨⟨h1, h2⟩, h3⟩, h4⟩ := h
      exact hE_call cx (of_decide_eq_true h1) (glB_gl h2) h3 (sndHA es cx h4) (chkHEs_nst h4) (chkHEs_nil h4)
    · cases h
theorem sndHA : ∀ (s : HEs) {X : Cx} {es : List Expr}, Ctx X n M T N → chkHEs M N s X.env.scope es = true → PA X es (tHA X.K T s)
  | .nil, X, es, cx, h => by
    simp only [chkHEs] at h
    cases es with
    | nil => exact hA_nil
    | cons => cases h
  | .cons e r, X, [], cx, h => by simp only [chkHEs] at h; cases h
  | .cons e r, X, x :: es, cx, h => by
    simp only [chkHEs, Bool.and_eq_true] at h
    exact hA_cons (sndHE e cx h.1.2) (sndHA r cx h.2) h.1.1
theorem sndHI : ∀ (s : HI) {X : Cx} {tg e : Expr}, Ctx X n M T N → chkHI M N s X.env.scope tg e = true → PI X tg e (tHI X.K T s)
  | .seq s, X, tg, e, cx, h => by simp only [chkHI] at h; exact hI_seq (sndHE s cx h)
  | .pu m it, X, tg, e, cx, h => by simp only [chkHI] at h; exact hI_pu (sndI it cx h)
  | .rng m it, X, tg, e, cx, h => by
    simp only [chkHI, Bool.and_eq_true] at h
    exact hI_rng (sndR it cx h.1 h.2)
  | .enum a, X, tg, e, cx, h => by
    simp only [chkHI] at h
    split at h
    · split at h
      · simp only [Bool.and_eq_true] at h
        obtain ⟨⟨⟨h1, h2⟩, h3⟩, h4⟩ := h
        have hx := of_decide_eq_true h1
        subst hx
        exact hI_enum (glB_gl h2) (cx.facts.bis "enumerate" (by decide)) (sndHE a cx h4) h3
      · cases h
    · cases h
  | .zip a b, X, tg, e, cx, h => by
    simp only [chkHI] at h
    split at h
    · split at h
      · simp only [Bool.and_eq_true] at h
        obtain ⟨⟨⟨⟨⟨h1, h2⟩, h3⟩, h4⟩, h5⟩, h6⟩ := h
        have hx := of_decide_eq_true h1
        subst hx
        exact hI_zip (glB_gl h2) (cx.facts.bis "zip" (by decide)) (sndHE a cx h4) h3 (sndHE b cx h6) h5
      · cases h
    · cases h
end
/-- x = [..] by a swap -/
theorem hS_setLc {i : Nat} {x : Str} {px pos p2 : Pos} {own : List Nat} {tg : Tg} {it : HI} {m : List Nat} {c : SO} {el : HE} {elt tgE iter : Expr} {ifs : List Expr} {scope : Scope} (cx : Ctx X n M T N) (hk : X.env.scope.kind = .function) (hi : X.N[i]? = some x)
    (hc : chkHE M N (.comp own tg it m c el) X.env.scope (.ListComp elt [⟨tgE, iter, ifs, 0⟩] scope p2) = true) (hsw : swB X.env.scope x px (.ListComp elt [⟨tgE, iter, ifs, 0⟩] scope p2) = true) :
    PS X (.Assign [.Name x px] (.ListComp elt [⟨tgE, iter, ifs, 0⟩] scope p2) pos) (tHS X.K T (.asg (.nm i) (.comp own tg it m c el))) := by
  simp only [chkHE, Bool.and_eq_true] at hc
  obtain ⟨⟨⟨⟨⟨⟨h1, h2⟩, h3⟩, h4⟩, h5⟩, h6⟩, h7⟩ := hc
  have hb : BlkOk X.N X.env.scope scope (own.map fun i => (N.getD i "", i)) := by rw [cx.hN]; exact blkOk_by h1
  unfold swB at hsw
  simp only [Bool.and_eq_true, Bool.not_eq_true'] at hsw
  obtain ⟨⟨s1, s2⟩, s3⟩ := hsw
  have hl : X.env.scope.names.lookup x = some .local := by
    split at s1
    · assumption
    · cases s1
  have p := ps_setLc (i := i) (py := px) (spos := pos) (elt := elt) (pos := p2) (scope := scope) cx.calm cx.nd hi hl (sw_true hk hl s2 s3) (sndHI it cx h3) hb (g := gH X.K tg) (tt := tHC X.K T m c) (te := tH X.K T el)
    (fun s H C cl fp => sndGH (N := N) tg (X := X.blk s H scope (compEnvC scope cl C X.env) fp) cx.hN cx.nd cx.calm (fun y hy => hy) h5)
    (fun s H C cl fp => hC (sndC c (cx.blk s H scope (compEnvC scope cl C X.env) fp) h6))
    (fun s H C cl fp => sndHE el (cx.blk s H scope (compEnvC scope cl C X.env) fp) h7)
    (noSet_fold h4)
  rw [own_snd] at p
  refine PS.imp p (fun D σ H h => ?_)
  have h := hS_asg_core (X := X) (T := T) D σ H h
  exact tH_comp (fun i hi => by simpa using List.all_eq_true.mp h2 i hi) σ H _ (tH.mono h fun x H1 g => gH_nm g)
theorem sndSetH {i : Nat} {s : HE} {x : Str} {px pos : Pos} {e : Expr} (cx : Ctx2 X n M T N) (h : chkSetH M N i s X.env.scope x px e = true) : PS X (.Assign [.Name x px] e pos) (tHS X.K T (.asg (.nm i) s)) := by
  unfold chkSetH at h
  simp only [Bool.and_eq_true] at h
  obtain ⟨⟨⟨h1, h2⟩, h3⟩, h4⟩ := h
  have hi : X.N[i]? = some x := by rw [cx.hN]; exact of_decide_eq_true h1
  split at h4
  · rename_i hsw
    cases s with
    | comp own tg it m c el =>
      have h3' := h3
      simp only [chkHE] at h3'
      split at h3'
      · exact hS_setLc cx.toCtx cx.kind hi h3 hsw
      · cases h3'
    | _ => cases h4
  · rename_i hsw
    refine hS_set cx.toCtx cx.kind hi (locB_loc h2) (.inl (cx.fn x)) (sndHE s cx.toCtx h3) (by simpa using hsw) ?_
    rw [Bool.or_eq_true] at h4
    exact h4.imp id isLC_ok
theorem base_ok {a : Expr} {f : Str} {env : Env} (h : baseOk a = true) : attributeBase a f env (eval a env) = eval a env := by
  cases a <;> first | rfl | cases h
mutual
theorem sndHS : ∀ (s : HS) {X : Cx} {st : Stmt}, Ctx2 X n M T N → chkHS M N s X.env.scope st = true → PS X st (tHS X.K T s)
  | .asg tg s, X, st, cx, h => by
    simp only [chkHS] at h
    split at h
    · split at h
      · exact sndSetH cx h
      · cases h
    · split at h
      · cases h
      · rename_i es k pt e p _ ts
        simp only [Bool.and_eq_true] at h
        obtain ⟨⟨h1, h2⟩, h3⟩ := h
        refine hS_tup (sndHE s cx.toCtx h2) (sndGH (N := N) _ cx.hN cx.nd cx.calm (fun x _ => cx.fn x) h1) ?_
        split at h3
        · exact sw_none cx.kind h3
        · rename_i hne
          exact sw_other (fun vs k2 p2 e => hne vs k2 p2 e)
    · cases h
  | .par i j a b, X, st, cx, h => by
    simp only [chkHS] at h
    split at h
    · simp only [Bool.and_eq_true] at h
      obtain ⟨⟨⟨⟨⟨h1, h2⟩, h3⟩, h4⟩, h5⟩, h6⟩ := h
      exact hS_par cx.toCtx cx.kind (by rw [cx.hN]; exact of_decide_eq_true h1) (by rw [cx.hN]; exact of_decide_eq_true h2) (of_decide_eq_true h3) h4 (sndHE a cx.toCtx h5) (sndHE b cx.toCtx h6)
    · cases h
  | .app a s, X, st, cx, h => by
    simp only [chkHS] at h
    split at h
    · simp only [Bool.and_eq_true] at h
      obtain ⟨⟨⟨⟨⟨h1, h2⟩, h3⟩, h4⟩, h5⟩, h6⟩ := h
      obtain rfl := of_decide_eq_true h1
      exact hS_app (sndHE a cx.toCtx h3) (sndHE s cx.toCtx h4) h5 h6 (base_ok h2)
    · cases h
  | .ext a s, X, st, cx, h => by
    simp only [chkHS] at h
    split at h
    · simp only [Bool.and_eq_true] at h
      obtain ⟨⟨⟨⟨⟨h1, h2⟩, h3⟩, h4⟩, h5⟩, h6⟩ := h
      obtain rfl := of_decide_eq_true h1
      exact hS_ext (sndHE a cx.toCtx h3) (sndHE s cx.toCtx h4) h5 h6 (base_ok h2)
    · cases h
  | .set a m k s, X, st, cx, h => by
    simp only [chkHS] at h
    split at h
    · simp only [Bool.and_eq_true] at h
      obtain ⟨⟨⟨h1, h2⟩, h3⟩, h4⟩ := h
      exact hS_set1 (sndHE a cx.toCtx h2) (sndE k cx.toCtx h3).1 (sndHE s cx.toCtx h4) h1
    · cases h
  | .iff m c a b, X, st, cx, h => by
    simp only [chkHS] at h
    split at h
    · simp only [Bool.and_eq_true] at h
      obtain ⟨⟨⟨h1, h2⟩, h3⟩, h4⟩ := h
      exact hS_if ((sndE c cx.toCtx h2).2 h1) (sndHB a cx h3) (sndHB b cx h4)
    · cases h
  | .loop tg it b, X, st, cx, h => by
    simp only [chkHS] at h
    split at h
    · simp only [Bool.and_eq_true] at h
      obtain ⟨⟨⟨h1, h2⟩, h3⟩, h4⟩ := h
      exact hS_for cx.toCtx cx.own (sndHI it cx.toCtx h1) (sndGH (N := N) tg cx.hN cx.nd cx.calm (fun x _ => cx.fn x) h2) (sndHB b cx h3) h4
    · cases h
  | .whl m μ c b, X, st, cx, h => by
    simp only [chkHS] at h
    split at h
    · simp only [Bool.and_eq_true] at h
      obtain ⟨⟨h1, h2⟩, h3⟩ := h
      exact hS_while cx.own ((sndE c cx.toCtx h2).2 h1) (sndHB b cx h3)
    · cases h
  | .ret s, X, st, cx, h => by
    simp only [chkHS] at h
    split at h
    · exact hS_ret (sndHE s cx.toCtx h)
    · cases h
  | .expr s, X, st, cx, h => by
    simp only [chkHS] at h
    split at h
    · rw [Bool.and_eq_true] at h
      exact hS_expr (sndHE s cx.toCtx h.1) h.2
    · cases h
  | .raise _, X, st, cx, h => hS_raise
theorem sndHB : ∀ (s : HB) {X : Cx} {sts : List Stmt}, Ctx2 X n M T N → chkHB M N s X.env.scope sts = true → PSs X sts (tHB X.K T s)
  | .nil, X, sts, cx, h => by
    simp only [chkHB] at h
    cases sts with
    | nil => exact hB_nil
    | cons => cases h
  | .cons s r, X, [], cx, h => by simp only [chkHB] at h; cases h
  | .cons s r, X, st :: sts, cx, h => by
    simp only [chkHB, Bool.and_eq_true] at h
    exact hB_seq (sndHS s cx h.1) (sndHB r cx h.2)
end
end

/-! ### defs -/
/-- a def of the text is the machine's def -/
def chkHD (M : Nm) (N ps : List Str) (d : HD) (st : Stmt) : Bool :=
  scopeB N ps (defScope st) && decide (d.np = ps.length) && decide (d.ns = N.length) && chkHB M N d.body (defScope st) (defBody st)
section
variable {P : Program} {w : World} {K : PySem.W.Frag} {mg : Str → Option Value} {base : Heap}
theorem envH_start {H : Hp} {O : Hid} {φ : List Addr} {N : List Str} {as : List HV} {vs : List V} {k : Nat} (r : RepHs K H O φ as vs) (hk : as.length + k ≤ N.length) : EnvH K H O φ (start N vs) (as.map some ++ List.replicate k none) := by
  refine ⟨?_, fun i v h1 => ?_⟩
  · unfold L2.start
    rw [List.length_append, List.length_append, List.length_map, List.length_map, List.length_replicate, List.length_replicate, r.length]; omega
  · by_cases hi : i < as.length
    · rw [List.getElem?_append_left (by simpa using hi), List.getElem?_map] at h1
      cases e : as[i]? with
      | none => rw [e] at h1; cases h1
      | some a =>
        rw [e] at h1; cases h1
        obtain ⟨x, hx, rx⟩ := r.get e
        exact ⟨x, start_get hx, rx⟩
    · rw [List.getElem?_append_right (by simpa using hi), List.getElem?_replicate] at h1
      split at h1 <;> cases h1
theorem fnH_ok {M : Nm} {T : Tab} {N ps : List Str} {d : HD} {x : Str} {st : Stmt} {f : Addr} {fd : FuncData} {n : Nat} (F : Fun K x x st f fd) (hd : chkHD M N ps d st = true) (fc : Facts M T P w K mg base n) :
    FnOk P w K mg base CX0 (n + 1) f fd ps (spH K ps.length (runH T d)) := by
  unfold chkHD at hd
  simp only [Bool.and_eq_true] at hd
  obtain ⟨⟨⟨h1, h2⟩, h3⟩, h4⟩ := hd
  have S := scope_by h1
  have hnp := of_decide_eq_true h2
  have hns := of_decide_eq_true h3
  refine F.ok S (fun vs H Q E ⟨O, φ, h, as, q, r, ra, hl, _⟩ => by rw [ra.length]; exact hl) (fun cdv A outer s H vs Q E hr ⟨O, φ, h, as, q, r, ra, hl, e, f⟩ => ?_)
  have hpl : ps.length ≤ N.length := by have := congrArg List.length S.pre; rw [List.length_take] at this; omega
  refine ⟨tHB K T d.body, sndHB (n := n) (M := M) (N := N) d.body ⟨⟨fc, rfl, S.nd, rfl, hr⟩, S.kind, PassesOwn.never, fun _ => rfl⟩ h4, ?_⟩
  unfold runH at e
  by_cases hlen : as.length = d.np
  · rw [if_pos hlen] at e
    obtain ⟨qq, h5, e⟩ := bok e
    refine ⟨O, φ, h, _, qq, r, envH_start ra (by omega), h5, ?_⟩
    obtain ⟨fl, ρ', h'⟩ := qq
    cases fl with
    | nx =>
      simp only at e
      cases e
      exact fun σ' H' φ' k' r' _ => f _ _ _ k' r' (by simp only [RepH, Rep])
    | rt v =>
      simp only at e
      cases e
      exact fun x H' φ' k' r' p' => f x H' φ' k' r' p'
  · rw [if_neg hlen] at e; cases e
theorem FnOk.imp {n : Nat} {f : Addr} {fd : FuncData} {ps : List Str} {sp sp' : Sp} (F : FnOk P w K mg base CX0 n f fd ps sp) (i : ∀ vs H Q E, sp' vs H Q E → sp vs H Q E) : FnOk P w K mg base CX0 n f fd ps sp' :=
  ⟨fun vs H Q E h => F.1 vs H Q E (i _ _ _ _ h), fun A outer s H args us vs Q E a b c d h => F.2 A outer s H args us vs Q E a b c d (i _ _ _ _ h)⟩
/-- a def of the machine is one of plain values -/
theorem sp_pure {np : Nat} {g : List HV → HHp → R (HV × HHp)} : ∀ xs H Q E, spC K np (pureH g) xs H Q E → spH K np g xs H Q E := by
  intro xs H Q E ⟨O, as, r, w, ra, hl, e, q⟩
  unfold pureH at e
  obtain ⟨q1, e1, e⟩ := bok e
  have e2 := ofO_ok e
  have r0 : RelH K H O [] [] := ⟨w, rfl, List.nodup_nil, fun a ha => (nomatch ha), fun n a o h1 => by simp at h1⟩
  refine ⟨O, [], [], as.map HV.p, q1, r0, RepHs.ofP (Reps.keep w ⟨fun _ _ h _ => h, fun a ha => .inl (by rcases ha with ha | ha; exact ha; exact nomatch ha)⟩ ra), by simpa using hl, e1, fun x H' φ' k r' p' => ?_⟩
  exact q x H' (fun a o h => k.k.vis a o h (fun z => nomatch z)) (r'.deref 60 _ x r p' e2)
/-- a def of the module that is a plain one, or one of the machine -/
structure DefOk (M : Nm) (Pr : Prog) (K : PySem.W.Frag) (mg : Str → Option Value) (f : Nat) (x : Str) : Prop where
  ex : ∃ (N ps : List Str) (st : Stmt) (fa : Addr) (fd : FuncData), Fun K x x st fa fd ∧ mg x = some (.ref fa) ∧ Binds K fd ps [] ∧
    ((∃ d, Pr.F f = some d ∧ chkD M N ps d st = true ∧ (M.fr f = true → chkDr true M N ps d st = true)) ∨ (∃ d, Pr.F f = none ∧ Pr.HF f = some d ∧ chkHD M N ps d st = true ∧ M.fr f = false))
structure DefOkH (M : Nm) (Pr : Prog) (K : PySem.W.Frag) (mg : Str → Option Value) (f : Nat) (x : Str) : Prop where
  ex : ∃ (N ps : List Str) (d : HD) (st : Stmt) (fa : Addr) (fd : FuncData), Pr.HF f = some d ∧ Fun K x x st fa fd ∧ mg x = some (.ref fa) ∧ Binds K fd ps [] ∧ chkHD M N ps d st = true
theorem prog_facts {M : Nm} {Pr : Prog} (defs : ∀ f x, M.fn f = some x → DefOk M Pr K mg f x) (defsH : ∀ f x, M.hn f = some x → DefOkH M Pr K mg f x)
    (gls : ∀ g x v, M.gl g = some x → Pr.G g = some v → ∃ u y, mg x = some u ∧ RelV y u ∧ ∀ H O, Rep K H O v y) (bis : ∀ x ∈ biNames, mg (Str.ofString x) = none) (n : Nat) : Facts M (Pr.tab n) P w K mg base n := by
  induction n with
  | zero =>
    refine ⟨fun f x hf => ?_, gls, bis, fun f x hf => ?_⟩
    · obtain ⟨N, ps, st, fa, fd, F, m, b, _⟩ := (defs f x hf).ex
      have no : ∀ vs v, (Pr.tab 0).C f vs = .ok v → False := fun vs v h => by simp only [callP, calls] at h; cases h
      exact ⟨fa, fd, ps, m, F.kp, b, ⟨fun vs H Q E ⟨O, as, r, _, _, _, e, _⟩ => (no _ _ e).elim, fun A outer s H args us vs Q E _ _ _ _ ⟨O, as, r, _, _, _, e, _⟩ => (no _ _ e).elim⟩, fun vs v h => (no _ _ h).elim,
        fun _ => ⟨fun vs H Q E ⟨O, as, r, _, _, _, e, _⟩ => (no _ _ e).elim, fun A outer s H args us vs Q E _ _ _ _ ⟨O, as, r, _, _, _, e, _⟩ => (no _ _ e).elim⟩⟩
    · obtain ⟨N, ps, d, st, fa, fd, _, F, m, b, _⟩ := (defsH f x hf).ex
      have no : ∀ vs h q, (Pr.tab 0).H f vs h = .ok q → False := fun vs h q e => by simp only [callH, calls] at e; cases e
      exact ⟨fa, fd, ps, m, F.kp, b, ⟨fun vs H Q E ⟨O, φ, h, as, q, _, _, _, e, _⟩ => (no _ _ _ e).elim, fun A outer s H args us vs Q E _ _ _ _ ⟨O, φ, h, as, q, _, _, _, e, _⟩ => (no _ _ _ e).elim⟩, fun vs h q e => (no _ _ _ e).elim⟩
  | succ n ih =>
    have lenD : ∀ {N ps : List Str} {d : SD} {st : Stmt} {vs : List Val} {v : Val}, chkD M N ps d st = true → runD (Pr.tab n) d vs = .ok v → vs.length = ps.length := fun {N ps d st vs v} hc h => by
      unfold runD at h
      split at h
      · rename_i hl
        unfold chkD chkDr at hc
        simp only [Bool.and_eq_true] at hc
        rw [hl]; exact of_decide_eq_true hc.1.1.2
      · cases h
    have lenH : ∀ {N ps : List Str} {d : HD} {st : Stmt} {vs : List HV} {hp : HHp} {q : HV × HHp}, chkHD M N ps d st = true → runH (Pr.tab n) d vs hp = .ok q → vs.length = ps.length := fun {N ps d st vs hp q} hc h => by
      unfold runH at h
      split at h
      · rename_i hl
        unfold chkHD at hc
        simp only [Bool.and_eq_true] at hc
        rw [hl]; exact of_decide_eq_true hc.1.1.2
      · cases h
    refine ⟨fun f x hf => ?_, gls, bis, fun f x hf => ?_⟩
    · obtain ⟨N, ps, st, fa, fd, F, m, b, hd⟩ := (defs f x hf).ex
      rcases hd with ⟨d, hF, hc, hcf⟩ | ⟨d, hF, hH, hc, hnf⟩
      · have e : (Pr.tab (n + 1)).C f = runD (Pr.tab n) d := by funext args; exact callP_succ Pr n f args hF
        refine ⟨fa, fd, ps, m, F.kp, b, ?_, fun vs v h => ?_, fun hfr => ?_⟩
        · rw [e]; exact fn_ok F hc ih
        · rw [e] at h; exact lenD hc h
        · rw [e]; exact fn_okF F (hcf hfr) ih
      · have e : (Pr.tab (n + 1)).C f = pureH (runH (Pr.tab n) d) := by funext args; exact callP_heap Pr n f args hF hH
        refine ⟨fa, fd, ps, m, F.kp, b, ?_, fun vs v h => ?_, fun hfr => ?_⟩
        · rw [e]; exact FnOk.imp (fnH_ok F hc ih) sp_pure
        · rw [e] at h
          unfold pureH at h
          obtain ⟨q1, e1, _⟩ := bok h
          have := lenH hc e1
          simpa using this
        · rw [hnf] at hfr; cases hfr
    · obtain ⟨N, ps, d, st, fa, fd, hH, F, m, b, hc⟩ := (defsH f x hf).ex
      have e : (Pr.tab (n + 1)).H f = runH (Pr.tab n) d := by funext args; funext hp; exact callH_succ Pr n f args hp hH
      refine ⟨fa, fd, ps, m, F.kp, b, ?_, fun vs hp q h => ?_⟩
      · rw [e]; exact fnH_ok F hc ih
      · rw [e] at h; exact lenH hc h
end
end VM

set_option Elab.async false
set_option linter.all false
set_option maxRecDepth 100000
set_option maxHeartbeats 8000000
/-! W11: the end of a law: its call with a script, its numbers of no more than 2 ^ 20 bits. -/
namespace VM
open PySem PySem.Spec PyProof.Rows L2

/-- a script's numbers -/
def Small (ns : List Int) : Prop := ns.length ≤ 63 ∧ ∀ i ∈ ns, Builtin.Int.intBits i ≤ 1048576
theorem bits_of_lay {ns : List Int} (h : PySem.W.WData.layableAll [PySem.W.WData.list (ns.map PySem.W.WData.int)] = true) : ∀ i ∈ ns, Builtin.Int.intBits i ≤ 1048576 := by
  intro i hi
  obtain ⟨hl, _⟩ := PySem.W.layW_cons h
  have e : PySem.W.WData.list (ns.map PySem.W.WData.int) = PySem.W.ofPy (.list (ns.map PyData.int)) := by
    have : ∀ l : List Int, l.map PySem.W.WData.int = PySem.W.ofPys (l.map PyData.int) := fun l => by
      induction l with
      | nil => rfl
      | cons a l ih => simp only [List.map_cons, PySem.W.ofPys, ih]; rfl
    rw [this]; rfl
  rw [e] at hl
  have h0 : PyData.layableAll0 [PyData.list (ns.map PyData.int)] = true := by
    refine PySem.W.lay0_ofPy (s := .list .int) rfl ?_ hl
    have : ∀ l : List Int, (Shape.list .int).has (.list (l.map PyData.int)) = true := fun l => by
      simp [Shape.has]
    exact this ns
  have h1 : PyData.layable0 (.list (ns.map PyData.int)) = true := by simpa [PyData.layableAll0] using h0
  exact PyData.bits_item_of_ints h1 hi

/-- the goal that k_head leaves, from the plain law -/
theorem walk_plain {l : PySem.W.OpenLaw} {k : Nat} {q : Program} {loose : List Str}
    {XP : (Str → Option Value) → Heap → Prop} {YP : World → Heap → Prop} {d : DefRec} {Kf : Params → PySem.W.Frag} {x : Str} {g : List Val → R Val}
    (hn : l.most = some 63) (hdf : d.params.defaults = []) (hr : Room k callerA)
    (hY : ∀ (w : World) (h : Heap), YP w h → (Kf w.params).In h)
    (F : ∀ (w : World) (mg : Str → Option Value) (fa : Addr) (h : Heap), (Kf w.params).In h → h.Ns mainGlobals mg → mg d.name = some (.ref fa) →
      ∃ fd : FuncData, (∀ (s : Shared) (u : Value), BindsTo s fd ⟨[u], []⟩ [(x, u)]) ∧
        ∀ base : Heap, (Kf w.params).In base → base.Ns mainGlobals mg → FnOk l.prog w (Kf w.params) mg base CX0 k fa fd [x] (spC (Kf w.params) 1 g))
    (law : ∀ ns, Small ns → g [.scr ns] = .ok (.bl true)) :
    PySem.W.WalkO q loose XP YP l.row.toRowW d [] (fun f vs => PySem.call f vs) := by
  intro w s₀ s₁ mg mb G Y fa o pm cd doc dV kV ho hd hcd hD hmg hg args vals as hpre hlay hrd hwl hlo
  obtain rfl : dV = .none := PySem.W.Dflts.none hD hdf
  obtain rfl : kV = .none := PySem.W.Dflts.noKw hD
  obtain ⟨a, vs, ns, rfl, rfl, hobj, hi, hlen⟩ := Att.script_of hn hpre hwl
  have hb := bits_of_lay hlay
  have KX := hY w _ Y
  obtain ⟨fd, hbind, hF⟩ := F w mg fa _ KX G.T.g hmg
  have sp : ∀ H : Hp, Only H → SqL (Kf w.params) H a (ns.map V.int) → spC (Kf w.params) 1 g [.ref a] H (fun v _ => v = .bl true) fun _ _ _ => False := by
    intro H hO hS
    refine ⟨fun _ => False, [.scr ns], .bl true, fun _ h => h.elim, Reps.cons (Rep.of_sq hS fun xs e => ?_) Reps.nil, rfl, law ns ⟨hlen, hb⟩, fun y H' _ r => by simpa only [Rep] using r⟩
    rcases hO a with z | ⟨ob, ys, z⟩
    · rw [z] at e; cases e
    · rw [z] at e; cases e
  refine PySem.W.enter_call (codeAny_mono (law_call KX G.T.g G.T.b G.T.builtins G.T.nolimit hg hobj hi (Nat.le_trans hlen (by rw [sizeLine_eq]; decide)) hr hF hbind sp fun H e s' h => h) fun r s' hq => ?_)
  obtain ⟨rfl, h2, h3, h4⟩ := hq
  exact ⟨.inl ⟨.bool true, .bool true, [], rfl, fun _ => rfl, .bool true, Att.post_true l _, fun _ => ⟨List.Pairwise.nil, fun _ hm => (nomatch hm)⟩⟩, h2, h3, h4⟩
theorem look_mem {α : Type} : ∀ {l : List (Nat × α)} {f : Nat} {x : α}, l.lookup f = some x → (f, x) ∈ l
  | [], _, _, h => by cases h
  | (g, y) :: r, f, x, h => by
    rw [List.lookup_cons] at h
    by_cases e : f = g
    · subst e
      simp only [beq_self_eq_true] at h
      cases h; exact List.mem_cons_self ..
    · rw [show (f == g) = false by simpa using e] at h
      exact List.mem_cons_of_mem _ (look_mem h)
end VM

set_option Elab.async false
set_option linter.all false
set_option maxRecDepth 100000
set_option maxHeartbeats 2000000
/-! W12: running plain defs by rewriting. -/
namespace VM
open PySem

@[simp] theorem okb {α β : Type} {a : α} {f : α → R β} : ((Except.ok a : R α) >>= f) = f a := id rfl
@[simp] theorem erb {α β : Type} {e : Err} {f : α → R β} : ((Except.error e : R α) >>= f) = Except.error e := id rfl
@[simp] theorem iteb {α β : Type} {c : Prop} [Decidable c] {x y : R α} {f : α → R β} : ((if c then x else y) >>= f) = if c then x >>= f else y >>= f := by split <;> rfl
def seqF (q : R (Fl × SEnv)) (k : SEnv → R (Fl × SEnv)) : R (Fl × SEnv) := match q with
  | .ok (.nx, ρ) => k ρ
  | .ok (.rt v, ρ) => .ok (.rt v, ρ)
  | .error e => .error e
def finD (q : R (Fl × SEnv)) : R Val := match q with
  | .ok (.nx, _) => .ok .non
  | .ok (.rt v, _) => .ok v
  | .error e => .error e
@[simp] theorem seqF_nx {ρ : SEnv} {k : SEnv → R (Fl × SEnv)} : seqF (.ok (.nx, ρ)) k = k ρ := id rfl
@[simp] theorem seqF_rt {ρ : SEnv} {v : Val} {k : SEnv → R (Fl × SEnv)} : seqF (.ok (.rt v, ρ)) k = .ok (.rt v, ρ) := id rfl
@[simp] theorem seqF_er {e : Err} {k : SEnv → R (Fl × SEnv)} : seqF (.error e) k = .error e := id rfl
@[simp] theorem seqF_ite {c : Prop} [Decidable c] {x y : R (Fl × SEnv)} {k : SEnv → R (Fl × SEnv)} : seqF (if c then x else y) k = if c then seqF x k else seqF y k := by split <;> rfl
@[simp] theorem finD_nx {ρ : SEnv} : finD (.ok (.nx, ρ)) = .ok .non := id rfl
@[simp] theorem finD_rt {ρ : SEnv} {v : Val} : finD (.ok (.rt v, ρ)) = .ok v := id rfl
@[simp] theorem finD_er {e : Err} : finD (.error e) = .error e := id rfl
@[simp] theorem finD_ite {c : Prop} [Decidable c] {x y : R (Fl × SEnv)} : finD (if c then x else y) = if c then finD x else finD y := by split <;> rfl
variable {T : Tab} {ρ : SEnv} {e : VE}
@[simp] theorem exs_nil : exs T .nil ρ = .ok (.nx, ρ) := by simp only [exs]
@[simp] theorem exs_cons {s : SS} {r : SB} : exs T (.cons s r) ρ = seqF (ex T s ρ) (exs T r) := by
  simp only [exs]
  cases h : ex T s ρ with
  | error e => rfl
  | ok q =>
    obtain ⟨fl, ρ1⟩ := q
    cases fl <;> rfl
theorem runD_eq {d : SD} {args : List Val} (h : args.length = d.np) : runD T d args = finD (exs T d.body (args.map Slot.sh ++ List.replicate (d.ns - d.np) Slot.no)) := by
  unfold runD
  rw [if_pos h]
  cases h : exs T d.body (args.map Slot.sh ++ List.replicate (d.ns - d.np) Slot.no) with
  | error e => rfl
  | ok q =>
    obtain ⟨fl, ρ1⟩ := q
    cases fl <;> rfl
theorem call_eq {P : Prog} {n f : Nat} {args : List Val} {d : SD} (h : P.F f = some d) (hl : args.length = d.np) :
    callP P (n + 1) f args = finD (exs (P.tab n) d.body (args.map Slot.sh ++ List.replicate (d.ns - d.np) Slot.no)) := by
  rw [callP_succ P n f args h, runD_eq hl]
@[simp] theorem forGo_nil {bind : SEnv → Val → R SEnv} {body : SEnv → R (Fl × SEnv)} : forGo bind body [] ρ = .ok (.nx, ρ) := id rfl
@[simp] theorem forGo_cons {bind : SEnv → Val → R SEnv} {body : SEnv → R (Fl × SEnv)} {v : Val} {r : List Val} : forGo bind body (v :: r) ρ = seqF (bind ρ v >>= body) (forGo bind body r) := by
  simp only [forGo]
  cases h : bind ρ v with
  | error e => rfl
  | ok ρ1 =>
    simp only [okb]
    cases h2 : body ρ1 with
    | error e => rfl
    | ok q =>
      obtain ⟨fl, ρ2⟩ := q
      cases fl <;> rfl
theorem whGo_succ {c : SEnv → R Bool} {body : SEnv → R (Fl × SEnv)} {n : Nat} : whGo c body (n + 1) ρ = c ρ >>= fun b => if b = true then seqF (body ρ) (whGo c body n) else .ok (.nx, ρ) := by
  simp only [whGo]
  congr 1
  funext b
  split
  · cases h2 : body ρ with
    | error e => rfl
    | ok q =>
      obtain ⟨fl, ρ2⟩ := q
      cases fl <;> rfl
  · rfl
-- what is seen
@[simp] theorem visG_nil {m : List Nat} {k : Nat} : visG m k [] = [] := id rfl
@[simp] theorem visG_sh {m : List Nat} {k : Nat} {v : Val} {r : SEnv} : visG m k (.sh v :: r) = some v :: visG m (k + 1) r := id rfl
@[simp] theorem visG_no {m : List Nat} {k : Nat} {r : SEnv} : visG m k (.no :: r) = none :: visG m (k + 1) r := id rfl
theorem visG_cons {m : List Nat} {k : Nat} {s : Slot} {r : SEnv} : visG m k (s :: r) = (if s.isOwn && !m.contains k then none else s.val) :: visG m (k + 1) r := rfl
@[simp] theorem getE_zero {v : Val} {r : VE} : getE (some v :: r) 0 = .ok v := id rfl
@[simp] theorem getE_succ {o : Option Val} {r : VE} {i : Nat} : getE (o :: r) (i + 1) = getE r i := by
  unfold getE
  rw [List.getElem?_cons_succ]
@[simp] theorem kept_nil {fl : Bool} : kept [] fl ρ = ρ := id rfl
-- expressions
@[simp] theorem ev_var {i : Nat} : ev T (.var i) e = getE e i := by simp only [ev]
@[simp] theorem ev_int {i : Int} : ev T (.cint i) e = .ok (.int i) := by simp only [ev]
@[simp] theorem ev_bl {i : Bool} : ev T (.cbl i) e = .ok (.bl i) := by simp only [ev]
@[simp] theorem ev_non : ev T .cnon e = .ok .non := by simp only [ev]
@[simp] theorem ev_str {s : String} : ev T (.cstr s) e = .ok (.str (Str.ofString s)) := by simp only [ev]
@[simp] theorem ev_glob {g : Nat} : ev T (.glob g) e = ofO (T.G g) := by simp only [ev]
@[simp] theorem ev_op {o : Op2} {a b : SE} : ev T (.op o a b) e = ev T a e >>= fun x => ev T b e >>= fun y => op2 o x y := by simp only [ev]
@[simp] theorem ev_neg {a : SE} : ev T (.neg a) e = ev T a e >>= fun x => asInt x >>= fun i => .ok (.int (-i)) := by simp only [ev]
@[simp] theorem ev_not {a : SE} : ev T (.not1 a) e = ev T a e >>= fun x => tru x >>= fun b => .ok (.bl (!b)) := by simp only [ev]
@[simp] theorem ev_bop {an : Bool} {es : SEs} : ev T (.bop an es) e = evB T an es e := by simp only [ev]
@[simp] theorem ev_chain {o o' : Op2} {a b c : SE} : ev T (.chain o o' a b c) e = ev T a e >>= fun x => ev T b e >>= fun y => op2 o x y >>= fun r => tru r >>= fun k => if k = true then ev T c e >>= fun z => op2 o' y z else .ok (.bl false) := by simp only [ev]
@[simp] theorem ev_ite {c a b : SE} : ev T (.ite c a b) e = ev T c e >>= fun x => tru x >>= fun k => if k = true then ev T a e else ev T b e := by simp only [ev]
@[simp] theorem ev_tup {es : SEs} : ev T (.tup es) e = evs T es e >>= fun vs => if vs.length ≤ lineN then .ok (.tup vs) else stk := by simp only [ev]
@[simp] theorem ev_lst {es : SEs} : ev T (.lst es) e = evs T es e >>= fun vs => if vs.length ≤ lineN then .ok (.lst vs) else stk := by simp only [ev]
@[simp] theorem ev_ix {a b : SE} : ev T (.ix a b) e = ev T a e >>= fun x => ev T b e >>= fun y => ixV x y := by simp only [ev]
@[simp] theorem ev_sl {a : SE} {lo hi : SO} : ev T (.sl a lo hi) e = ev T a e >>= fun x => evO T lo e >>= fun l => evO T hi e >>= fun h => slV x l h := by simp only [ev]
@[simp] theorem ev_rev {a : SE} : ev T (.rev a) e = ev T a e >>= revV := by simp only [ev]
@[simp] theorem ev_call {f : Nat} {es : SEs} : ev T (.call f es) e = evs T es e >>= fun vs => T.C f vs := by simp only [ev]
@[simp] theorem ev_bi {b : Bi} {es : SEs} : ev T (.bi b es) e = evs T es e >>= fun vs => bi1 b vs := by simp only [ev]
@[simp] theorem ev_isi {a : SE} {t : Ty} : ev T (.isi a t) e = ev T a e >>= fun x => isiV x t >>= fun r => .ok (.bl r) := by simp only [ev]
@[simp] theorem ev_comp {own : List Nat} {tg : Tg} {it : SI} {c : SO} {el : SE} : ev T (.comp own tg it c el) e = evI T it e >>= fun items => if items.length ≤ lineN then compGo (bindE tg) (evC T c) (ev T el) (wipeE e own) items >>= fun ys => .ok (.lst ys) else stk := by simp only [ev]
@[simp] theorem ev_lrng {es : SEs} : ev T (.lrng es) e = evs T es e >>= lrngV := by simp only [ev]
@[simp] theorem ev_mxd {a b : SE} : ev T (.mxd a b) e = ev T a e >>= fun x => ev T b e >>= fun y => bi1 .maxd [x, y] := by simp only [ev]
@[simp] theorem evs_nil : evs T .nil e = .ok [] := by simp only [evs]
@[simp] theorem evs_cons {a : SE} {r : SEs} : evs T (.cons a r) e = ev T a e >>= fun v => evs T r e >>= fun vs => .ok (v :: vs) := by simp only [evs]
@[simp] theorem evB_one {an : Bool} {a : SE} : evB T an (.cons a .nil) e = ev T a e := by simp only [evB]
@[simp] theorem evB_more {an : Bool} {a b : SE} {r : SEs} : evB T an (.cons a (.cons b r)) e = ev T a e >>= fun x => tru x >>= fun k => if k = an then evB T an (.cons b r) e else .ok (.bl (!an)) := by simp only [evB]
@[simp] theorem evO_none : evO T .none e = .ok none := by simp only [evO]
@[simp] theorem evO_some {a : SE} : evO T (.some a) e = ev T a e >>= fun x => asInt x >>= fun i => .ok (some i) := by simp only [evO]
@[simp] theorem evC_none : evC T .none e = .ok true := by simp only [evC]
@[simp] theorem evC_some {a : SE} : evC T (.some a) e = ev T a e >>= tru := by simp only [evC]
@[simp] theorem evI_seq {a : SE} : evI T (.seq a) e = ev T a e >>= seqV := by simp only [evI]
@[simp] theorem evI_rng1 {a : SE} : evI T (.rng1 a) e = ev T a e >>= fun x => asInt x >>= fun j => if smallR 0 j then .ok (rngC 0 1 j.toNat) else stk := by simp only [evI]
@[simp] theorem evI_rng2 {a b : SE} : evI T (.rng2 a b) e = ev T a e >>= fun x => ev T b e >>= fun y => asInt x >>= fun i => asInt y >>= fun j => if smallR i j then .ok (rngC i 1 (j - i).toNat) else stk := by simp only [evI]
@[simp] theorem evI_rng3 {a b c : SE} : evI T (.rng3 a b c) e = ev T a e >>= fun x => ev T b e >>= fun y => ev T c e >>= fun z => asInt x >>= fun i => asInt y >>= fun j => asInt z >>= fun k => if smallR i j && decide (0 < k ∧ k < 1073741824) then .ok (rngC i k (rngN i j k)) else stk := by simp only [evI]
@[simp] theorem evI_enum {a : SE} : evI T (.enum a) e = ev T a e >>= enmV := by simp only [evI]
@[simp] theorem evI_zip {a b : SE} : evI T (.zip a b) e = ev T a e >>= fun x => ev T b e >>= fun y => zpV x y := by simp only [evI]
-- operations
@[simp] theorem asInt_int {i : Int} : asInt (.int i) = .ok i := id rfl
@[simp] theorem tru_bl {b : Bool} : tru (.bl b) = .ok b := id rfl
@[simp] theorem op_add_i {x y : Int} : op2 .add (.int x) (.int y) = .ok (.int (x + y)) := id rfl
@[simp] theorem op_sub_i {x y : Int} : op2 .sub (.int x) (.int y) = .ok (.int (x - y)) := id rfl
@[simp] theorem op_mul_i {x y : Int} : op2 .mul (.int x) (.int y) = if mulOk x y then .ok (.int (x * y)) else stk := id rfl
@[simp] theorem op_fdiv_i {x y : Int} : op2 .fdiv (.int x) (.int y) = if divOk y then .ok (.int (x.fdiv y)) else stk := id rfl
@[simp] theorem op_mod_i {x y : Int} : op2 .mod (.int x) (.int y) = if y = 0 then stk else .ok (.int (x.fmod y)) := id rfl
@[simp] theorem op_pow_i {x y : Int} : op2 .pow (.int x) (.int y) = if powOk x y then .ok (.int (x ^ y.toNat)) else stk := id rfl
@[simp] theorem op_shl_i {x y : Int} : op2 .shl (.int x) (.int y) = if powOk x y then .ok (.int (x * 2 ^ y.toNat)) else stk := id rfl
@[simp] theorem op_shr_i {x y : Int} : op2 .shr (.int x) (.int y) = if 0 ≤ y then .ok (.int (x / 2 ^ y.toNat)) else stk := id rfl
@[simp] theorem op_lt_i {x y : Int} : op2 .lt (.int x) (.int y) = .ok (.bl (decide (x < y))) := id rfl
@[simp] theorem op_le_i {x y : Int} : op2 .le (.int x) (.int y) = .ok (.bl (decide (x ≤ y))) := id rfl
@[simp] theorem op_gt_i {x y : Int} : op2 .gt (.int x) (.int y) = .ok (.bl (decide (y < x))) := id rfl
@[simp] theorem op_ge_i {x y : Int} : op2 .ge (.int x) (.int y) = .ok (.bl (decide (y ≤ x))) := id rfl
theorem veq_ii {x y : Int} : veq (.int x) (.int y) = decide (x = y) := by simp [veq, py, PyData.eqv, Bool.beq_eq_decide_eq]
@[simp] theorem op_eq_i {x y : Int} : op2 .eq (.int x) (.int y) = .ok (.bl (decide (x = y))) := by
  rw [← veq_ii]; rfl
@[simp] theorem op_ne_i {x y : Int} : op2 .ne (.int x) (.int y) = .ok (.bl (!decide (x = y))) := by
  rw [← veq_ii]; rfl
@[simp] theorem op_add_l {x y : List Val} : op2 .add (.lst x) (.lst y) = if x.length + y.length ≤ lineN then .ok (.lst (x ++ y)) else stk := id rfl
@[simp] theorem isi_ii {i : Int} : isiV (.int i) .int = .ok true := id rfl
@[simp] theorem isi_ib {i : Int} : isiV (.int i) .bool = .ok false := id rfl
@[simp] theorem isi_tt {i : List Val} : isiV (.tup i) .tuple = .ok true := id rfl
@[simp] theorem isi_ll {i : List Val} : isiV (.lst i) .list = .ok true := id rfl
@[simp] theorem isi_bi {i : Bool} : isiV (.bl i) .int = .ok true := id rfl
@[simp] theorem isi_bb {i : Bool} : isiV (.bl i) .bool = .ok true := id rfl
@[simp] theorem isi_ss {i : Str} : isiV (.str i) .str = .ok true := id rfl
@[simp] theorem seqV_l {i : List Val} : seqV (.lst i) = .ok i := id rfl
@[simp] theorem seqV_t {i : List Val} : seqV (.tup i) = .ok i := id rfl
@[simp] theorem enmV_l {i : List Val} : enmV (.lst i) = .ok (enumV 0 i) := id rfl
@[simp] theorem zpV_l {i j : List Val} : zpV (.lst i) (.lst j) = .ok (zipV i j) := id rfl
@[simp] theorem ix_t0 {a : Val} {r : List Val} : ixV (.tup (a :: r)) (.int 0) = .ok a := by
  simp [ixV, ofO, L2.atI, L2.ixN]
@[simp] theorem ix_t1 {a b : Val} {r : List Val} : ixV (.tup (a :: b :: r)) (.int 1) = .ok b := by
  have : (1 : Int) < (r.length : Int) + 1 + 1 := by omega
  simp [ixV, ofO, L2.atI, L2.ixN, this]
@[simp] theorem ix_l0 {a : Val} {r : List Val} : ixV (.lst (a :: r)) (.int 0) = .ok a := by
  simp [ixV, ofO, L2.atI, L2.ixN]
@[simp] theorem ix_l1 {a b : Val} {r : List Val} : ixV (.lst (a :: b :: r)) (.int 1) = .ok b := by
  have : (1 : Int) < (r.length : Int) + 1 + 1 := by omega
  simp [ixV, ofO, L2.atI, L2.ixN, this]
@[simp] theorem bi_len_l {x : List Val} : bi1 .len [.lst x] = .ok (.int x.length) := id rfl
@[simp] theorem bi_len_t {x : List Val} : bi1 .len [.tup x] = .ok (.int x.length) := id rfl
@[simp] theorem bi_len_s {x : List Int} : bi1 .len [.scr x] = .ok (.int x.length) := id rfl
@[simp] theorem bi_abs_i {x : Int} : bi1 .abs [.int x] = .ok (.int (if x < 0 then -x else x)) := id rfl
@[simp] theorem bi_max2_i {x y : Int} : bi1 .max2 [.int x, .int y] = .ok (.int (if y > x then y else x)) := id rfl
@[simp] theorem bi_min2_i {x y : Int} : bi1 .min2 [.int x, .int y] = .ok (.int (if y < x then y else x)) := id rfl
@[simp] theorem bi_list_l {x : List Val} : bi1 .list [.lst x] = .ok (.lst x) := id rfl
@[simp] theorem bi_list_t {x : List Val} : bi1 .list [.tup x] = .ok (.lst x) := id rfl
-- statements
@[simp] theorem ex_asg {m : List Nat} {tg : Tg} {s : SE} : ex T (.asg m tg s) ρ = ev T s (vis m ρ) >>= fun v => bindS tg (kept m (flat v) ρ) v >>= fun ρ1 => .ok (.nx, ρ1) := by simp only [ex]
@[simp] theorem ex_par {m : List Nat} {i j : Nat} {a b : SE} : ex T (.par m i j a b) ρ = ev T a (vis m ρ) >>= fun v => ev T b (vis m ρ) >>= fun w => .ok (.nx, ((kept m (flat v && flat w) ρ).set i (.sh v)).set j (.sh w)) := by simp only [ex]
@[simp] theorem ex_iff {m : List Nat} {c : SE} {a b : SB} : ex T (.iff m c a b) ρ = ev T c (vis m ρ) >>= fun v => tru v >>= fun k => if k = true then exs T a ρ else exs T b ρ := by simp only [ex]
@[simp] theorem ex_loop {m : List Nat} {tg : Tg} {it : SI} {b : SB} : ex T (.loop m tg it b) ρ = evI T it (vis m ρ) >>= fun items => forGo (bindS tg) (exs T b) items (kept m false ρ) := by simp only [ex]
@[simp] theorem ex_ret {m : List Nat} {s : SE} : ex T (.ret m s) ρ = ev T s (vis m ρ) >>= fun v => .ok (.rt v, ρ) := by simp only [ex]
def asLst : Val → R (List Val)
  | .lst vs => .ok vs
  | _ => stk
def asOw : Option Slot → R (List Val)
  | some (.ow vs) => .ok vs
  | _ => stk
@[simp] theorem asLst_l {vs : List Val} : asLst (.lst vs) = .ok vs := id rfl
@[simp] theorem asOw_o {vs : List Val} : asOw (some (.ow vs)) = .ok vs := id rfl
@[simp] theorem ex_parO {m : List Nat} {i j : Nat} {a b : SE} : ex T (.parO m i j a b) ρ = ev T a (vis m ρ) >>= fun v => ev T b (vis m ρ) >>= fun w => asLst v >>= fun vs =>
    if i < ρ.length then .ok (.nx, ((kept m (flats vs && flat w) ρ).set i (.ow vs)).set j (.sh w)) else stk := by
  simp only [ex]; congr 1; funext v; congr 1; funext w; cases v <;> rfl
@[simp] theorem ex_retv {i : Nat} : ex T (.retv i) ρ = asOw ρ[i]? >>= fun vs => .ok (.rt (.lst vs), ρ) := by
  simp only [ex]; split
  · rename_i h; rw [h]; rfl
  · rename_i h
    cases e : ρ[i]? with
    | none => rfl
    | some s => cases s with
      | ow vs => exact absurd e (h vs)
      | _ => rfl
@[simp] theorem ex_ownE {m : List Nat} {i : Nat} {s : SE} : ex T (.own m i s) ρ = ev T s (vis m ρ) >>= fun v => asLst v >>= fun vs => if i < ρ.length then .ok (.nx, (kept m (flats vs) ρ).set i (.ow vs)) else stk := by
  simp only [ex]; congr 1; funext v; cases v <;> rfl
@[simp] theorem ex_extE {m : List Nat} {i : Nat} {s : SE} : ex T (.ext m i s) ρ = ev T s (vis m ρ) >>= fun v => asLst v >>= fun ws => if (m.contains i && !flats ws) = true then stk else
    asOw (kept m (flats ws) ρ)[i]? >>= fun vs => if vs.length + ws.length ≤ lineN then .ok (.nx, (kept m (flats ws) ρ).set i (.ow (vs ++ ws))) else stk := by
  simp only [ex]; congr 1; funext v; cases v <;> first | rfl | skip
  rename_i ws
  show (if (m.contains i && !flats ws) = true then stk else _) = (if (m.contains i && !flats ws) = true then stk else _)
  split
  · rfl
  · split
    · rename_i h; rw [h]; rfl
    · rename_i h
      cases e : (kept m (flats ws) ρ)[i]? with
      | none => rfl
      | some s => cases s with
        | ow vs => exact absurd e (h vs)
        | _ => rfl
@[simp] theorem ex_expr {m : List Nat} {s : SE} : ex T (.expr m s) ρ = ev T s (vis m ρ) >>= fun v => .ok (.nx, ρ) := by simp only [ex]
@[simp] theorem ex_raise {c : Nat} : ex T (.raise c) ρ = .error (.exc c) := by simp only [ex]
theorem ex_whl {m : List Nat} {μ c : SE} {b : SB} : ex T (.whl m μ c b) ρ = ev T μ (vis m ρ) >>= fun v => asInt v >>= fun z => whGo (fun ρ => ev T c (vis m ρ) >>= tru) (exs T b) (z.toNat + 1) ρ := by
  simp only [ex]
@[simp] theorem bindS_nm {i : Nat} {v : Val} : bindS (.nm i) ρ v = .ok (ρ.set i (.sh v)) := by simp [bindS, flatT, setsS]
@[simp] theorem bindS_tp {ts : Tgs} {v : Val} : bindS (.tp ts) ρ v = flatT (.tp ts) v >>= fun bs => .ok (setsS ρ bs) := by simp only [bindS]
@[simp] theorem bindE_nm {i : Nat} {v : Val} {e : VE} : bindE (.nm i) e v = .ok (e.set i (some v)) := by simp [bindE, flatT, setsE]
@[simp] theorem bindE_tp {ts : Tgs} {v : Val} {e : VE} : bindE (.tp ts) e v = flatT (.tp ts) v >>= fun bs => .ok (setsE e bs) := by simp only [bindE]
@[simp] theorem flatT_nm {i : Nat} {v : Val} : flatT (.nm i) v = .ok [(i, v)] := by simp only [flatT]
@[simp] theorem flatT_t {ts : Tgs} {vs : List Val} : flatT (.tp ts) (.tup vs) = flatTs ts vs := by simp only [flatT]
@[simp] theorem flatT_l {ts : Tgs} {vs : List Val} : flatT (.tp ts) (.lst vs) = flatTs ts vs := by simp only [flatT]
@[simp] theorem flatTs_nil : flatTs .nil [] = .ok [] := by simp only [flatTs]
@[simp] theorem flatTs_cons {t : Tg} {r : Tgs} {v : Val} {vs : List Val} : flatTs (.cons t r) (v :: vs) = flatT t v >>= fun a => flatTs r vs >>= fun b => .ok (a ++ b) := by simp only [flatTs]
@[simp] theorem setsS_nil : setsS ρ [] = ρ := id rfl
@[simp] theorem setsS_cons {i : Nat} {v : Val} {r : List (Nat × Val)} : setsS ρ ((i, v) :: r) = setsS (ρ.set i (.sh v)) r := id rfl
@[simp] theorem setsE_nil {e : VE} : setsE e [] = e := id rfl
@[simp] theorem setsE_cons {e : VE} {i : Nat} {v : Val} {r : List (Nat × Val)} : setsE e ((i, v) :: r) = setsE (e.set i (some v)) r := id rfl
@[simp] theorem compGo_nil {bind : VE → Val → R VE} {c : VE → R Bool} {el : VE → R Val} : compGo bind c el e [] = .ok [] := id rfl
@[simp] theorem compGo_cons {bind : VE → Val → R VE} {c : VE → R Bool} {el : VE → R Val} {v : Val} {r : List Val} : compGo bind c el e (v :: r) = bind e v >>= fun ρ1 => c ρ1 >>= fun b => if b = true then el ρ1 >>= fun y => compGo bind c el e r >>= fun ys => .ok (y :: ys) else compGo bind c el e r := id rfl
@[simp] theorem wipeE_nil {e : VE} : wipeE e [] = e := id rfl
@[simp] theorem wipeE_cons {e : VE} {v : Nat} {vs : List Nat} : wipeE e (v :: vs) = (wipeE e vs).set v none := id rfl
/-- a comprehension whose every item goes through -/
theorem compGo_map {bind : VE → Val → R VE} {c : VE → R Bool} {el : VE → R Val} {e : VE} {f : Val → Val} : ∀ {l : List Val}, (∀ v ∈ l, ∃ ρ1, bind e v = .ok ρ1 ∧ c ρ1 = .ok true ∧ el ρ1 = .ok (f v)) → compGo bind c el e l = .ok (l.map f)
  | [], _ => rfl
  | v :: r, h => by
    obtain ⟨ρ1, h1, h2, h3⟩ := h v (List.mem_cons_self ..)
    simp only [compGo_cons, h1, okb, h2, if_true, h3, compGo_map (fun w hw => h w (List.mem_cons_of_mem _ hw)), List.map_cons]
/-- a loop that keeps a word -/
theorem forGo_inv {bind : SEnv → Val → R SEnv} {body : SEnv → R (Fl × SEnv)} (I : SEnv → Prop) : ∀ {l : List Val} {ρ : SEnv}, I ρ → (∀ v ∈ l, ∀ ρ, I ρ → ∃ ρ1 ρ2, bind ρ v = .ok ρ1 ∧ body ρ1 = .ok (.nx, ρ2) ∧ I ρ2) → ∃ ρ', forGo bind body l ρ = .ok (.nx, ρ') ∧ I ρ'
  | [], ρ, h, _ => ⟨ρ, rfl, h⟩
  | v :: r, ρ, h, t => by
    obtain ⟨ρ1, ρ2, h1, h2, h3⟩ := t v (List.mem_cons_self ..) ρ h
    obtain ⟨ρ', h4, h5⟩ := forGo_inv I (l := r) h3 (fun w hw => t w (List.mem_cons_of_mem _ hw))
    exact ⟨ρ', by simp only [forGo_cons, h1, okb, h2, seqF_nx, h4], h5⟩
end VM
namespace VM
open PySem
/-- the i-th statement of a block; its own block -/
def SB.at : SB → Nat → SS
  | .nil, _ => .raise 0
  | .cons s _, 0 => s
  | .cons _ r, i + 1 => SB.at r i
def SS.inner : SS → SB
  | .loop _ _ _ b => b
  | .whl _ _ _ b => b
  | .iff _ _ a _ => a
  | _ => .nil
theorem vis_any {m : List Nat} {k : Nat} {s : Slot} {r : SEnv} (h : m = []) : visG m k (s :: r) = (if s.isOwn then none else s.val) :: visG m (k + 1) r := by
  subst h; simp [visG]
@[simp] theorem vis_nil {k : Nat} {s : Slot} {r : SEnv} : visG [] k (s :: r) = (if s.isOwn then none else s.val) :: visG [] (k + 1) r := vis_any rfl
@[simp] theorem isOwn_sh {v : Val} : (Slot.sh v).isOwn = false := id rfl
@[simp] theorem isOwn_no : (Slot.no).isOwn = false := id rfl
@[simp] theorem val_sh {v : Val} : (Slot.sh v).val = some v := id rfl
@[simp] theorem val_no : (Slot.no).val = none := id rfl
theorem len_succ {α : Type} {l : List α} {n : Nat} (h : l.length = n + 1) : ∃ a r, l = a :: r ∧ r.length = n := by
  cases l with
  | nil => cases h
  | cons a r => exact ⟨a, r, rfl, by simpa using h⟩
theorem rngC_mem {lo c : Int} {n : Nat} {v : Val} (h : v ∈ rngC lo c n) : ∃ i : Nat, i < n ∧ v = .int (lo + (i : Int) * c) := by
  unfold rngC at h
  obtain ⟨i, hi, rfl⟩ := List.mem_map.mp h
  exact ⟨i, List.mem_range.mp hi, rfl⟩
end VM

set_option Elab.async false
set_option linter.all false
set_option maxRecDepth 100000
set_option maxHeartbeats 2000000
/-! W13: more of running: equal values, own lists, loops over mapped lists. -/
namespace VM
open PySem
variable {T : Tab} {ρ : SEnv} {e : VE}
mutual
theorem eqv_self : ∀ (n : Nat) (v : Val), okD n v = true → PyData.eqv (py v) (py v) = true
  | 0, _, h => by simp [okD] at h
  | n + 1, .tup vs, h => by
    simp only [okD] at h
    simp only [py, PyData.eqv]
    exact eqvs_self n vs h
  | n + 1, .lst vs, h => by
    simp only [okD] at h
    simp only [py, PyData.eqv]
    exact eqvs_self n vs h
  | n + 1, .dic _ _ _, h => by simp [okD] at h
  | n + 1, .scr _, h => by simp [okD] at h
  | n + 1, .str s, h => by simp [py, PyData.eqv]
  | n + 1, .non, h => by simp [py, PyData.eqv]
  | n + 1, .bl b, h => by simp [py, PyData.eqv]
  | n + 1, .int i, h => by simp [py, PyData.eqv]
theorem eqvs_self : ∀ (n : Nat) (vs : List Val), vs.all (okD n) = true → PyData.eqvAll (pys vs) (pys vs) = true
  | _, [], h => by simp [pys, PyData.eqvAll]
  | n, v :: vs, h => by
    simp only [List.all_cons, Bool.and_eq_true] at h
    simp only [pys, PyData.eqvAll, Bool.and_eq_true]
    exact ⟨eqv_self n v h.1, eqvs_self n vs h.2⟩
end
theorem op_eq_self {v : Val} (h : okD 60 v = true) : op2 .eq v v = .ok (.bl true) := by
  simp only [op2, h, Bool.and_self, if_true, veq, eqv_self 60 v h]
theorem op_ne_self {v : Val} (h : okD 60 v = true) : op2 .ne v v = .ok (.bl false) := by
  simp only [op2, h, Bool.and_self, if_true, veq, eqv_self 60 v h, Bool.not_true]
theorem okD_mono : ∀ (n : Nat) (v : Val), okD n v = true → okD (n + 1) v = true := by
  intro n
  induction n with
  | zero => intro v h; simp [okD] at h
  | succ n ih =>
    intro v h
    cases v <;> simp only [okD] at h ⊢ <;> first | exact h | cases h | skip
    all_goals
      rw [List.all_eq_true] at h ⊢
      exact fun x hx => ih x (h x hx)
theorem ex_own {m : List Nat} {i : Nat} {s : SE} {vs : List Val} (h : ev T s (vis m ρ) = .ok (.lst vs)) (hl : i < ρ.length) : ex T (.own m i s) ρ = .ok (.nx, (kept m (flats vs) ρ).set i (.ow vs)) := by
  simp only [ex, h, okb, if_pos hl]
theorem ex_app {m : List Nat} {i : Nat} {s : SE} {v : Val} {vs : List Val} (h : ev T s (vis m ρ) = .ok v) (hm : (m.contains i && !flat v) = false) (hi : (kept m (flat v) ρ)[i]? = some (.ow vs)) (hl : vs.length < lineN) :
    ex T (.app m i s) ρ = .ok (.nx, (kept m (flat v) ρ).set i (.ow (vs ++ [v]))) := by
  simp only [ex, h, okb, hm, hi, if_pos hl, Bool.false_eq_true, if_false]
theorem forGo_map {α : Type} {bind : SEnv → Val → R SEnv} {body : SEnv → R (Fl × SEnv)} (g : α → Val) (I : List α → SEnv → Prop) : ∀ (l : List α) (pre : List α) (ρ : SEnv), I pre ρ →
    (∀ p x q ρ, pre ++ l = p ++ x :: q → I p ρ → ∃ ρ2, (bind ρ (g x) >>= body) = .ok (.nx, ρ2) ∧ I (p ++ [x]) ρ2) → ∃ ρ', forGo bind body (l.map g) ρ = .ok (.nx, ρ') ∧ I (pre ++ l) ρ'
  | [], pre, ρ, h, _ => ⟨ρ, rfl, by rw [List.append_nil]; exact h⟩
  | x :: l, pre, ρ, h, t => by
    obtain ⟨ρ2, h1, h3⟩ := t pre x l ρ rfl h
    obtain ⟨ρ', h4, h5⟩ := forGo_map g I l (pre ++ [x]) ρ2 h3 (fun p y q ρ hp hI => t p y q ρ (by rw [← hp, List.append_assoc]; rfl) hI)
    exact ⟨ρ', by simp only [List.map_cons, forGo_cons, h1, seqF_nx, h4], by rw [List.append_assoc] at h5; exact h5⟩
@[simp] theorem visG_ow {m : List Nat} {k : Nat} {vs : List Val} {r : SEnv} : visG m k (.ow vs :: r) = (if m.contains k then some (.lst vs) else none) :: visG m (k + 1) r := by
  simp only [visG, Slot.isOwn, Slot.val, Bool.true_and]
  congr 1
  cases m.contains k <;> rfl
theorem asBls_map {α : Type} {l : List α} {f : α → Bool} : asBls (l.map fun x => Val.bl (f x)) = .ok (l.map f) := by
  induction l with
  | nil => rfl
  | cons a l ih => simp only [List.map_cons, asBls, ih, okb]
theorem asInts_map {α : Type} {l : List α} {f : α → Int} : asInts (l.map fun x => Val.int (f x)) = .ok (l.map f) := by
  induction l with
  | nil => rfl
  | cons a l ih => simp only [List.map_cons, asInts, ih, okb]
theorem bi_all {α : Type} {l : List α} {f : α → Bool} : bi1 .all [.lst (l.map fun x => Val.bl (f x))] = .ok (.bl (l.all f)) := by
  simp only [bi1, asBls_map, okb, List.all_map]; rfl
theorem bi_any {α : Type} {l : List α} {f : α → Bool} : bi1 .any [.lst (l.map fun x => Val.bl (f x))] = .ok (.bl (l.any f)) := by
  simp only [bi1, asBls_map, okb, List.any_map]; rfl
theorem bi_sum {α : Type} {l : List α} {f : α → Int} : bi1 .sum [.lst (l.map fun x => Val.int (f x))] = .ok (.int (l.map f).sum) := by
  simp only [bi1, asInts_map, okb]
/-- a comprehension over a mapped list, all its items -/
theorem comp_all {α : Type} {own : List Nat} {tg : Tg} {it : SI} {el : SE} {l : List α} {g f : α → Val} (hi : evI T it e = .ok (l.map g)) (hl : l.length ≤ lineN)
    (h : ∀ x ∈ l, ∃ ρ1, bindE tg (wipeE e own) (g x) = .ok ρ1 ∧ ev T el ρ1 = .ok (f x)) : ev T (.comp own tg it .none el) e = .ok (.lst (l.map f)) := by
  rw [ev_comp, hi, okb, if_pos (by simpa using hl)]
  have key : ∀ l : List α, (∀ x ∈ l, ∃ ρ1, bindE tg (wipeE e own) (g x) = .ok ρ1 ∧ ev T el ρ1 = .ok (f x)) → compGo (bindE tg) (evC T .none) (ev T el) (wipeE e own) (l.map g) = .ok (l.map f) := by
    intro l
    induction l with
    | nil => intro _; rfl
    | cons a l ih =>
      intro h
      obtain ⟨ρ1, h1, h2⟩ := h a (List.mem_cons_self ..)
      simp only [List.map_cons, compGo_cons, h1, okb, evC_none, if_true, h2, ih (fun x hx => h x (List.mem_cons_of_mem _ hx))]
  rw [key l h]
  rfl
@[simp] theorem ex_app' {m : List Nat} {i : Nat} {s : SE} : ex T (.app m i s) ρ = ev T s (vis m ρ) >>= fun v => if (m.contains i && !flat v) = true then stk else
    asOw (kept m (flat v) ρ)[i]? >>= fun vs => if vs.length < lineN then .ok (.nx, (kept m (flat v) ρ).set i (.ow (vs ++ [v]))) else stk := by
  simp only [ex]; congr 1; funext v
  split
  · rfl
  · split
    · rename_i h; rw [h]; rfl
    · rename_i h
      cases e : (kept m (flat v) ρ)[i]? with
      | none => rfl
      | some s => cases s with
        | ow vs => exact absurd e (h vs)
        | _ => rfl
theorem ex_own0 {m : List Nat} {i : Nat} : ex T (.own m i (.lst .nil)) ρ = if i < ρ.length then .ok (.nx, (kept m true ρ).set i (.ow [])) else stk := by
  simp [ex, flats]
@[simp] theorem val_ow {vs : List Val} : (Slot.ow vs).val = some (.lst vs) := id rfl
@[simp] theorem isOwn_ow {vs : List Val} : (Slot.ow vs).isOwn = true := id rfl
@[simp] theorem visG_c {m : List Nat} {k : Nat} {s : Slot} {r : SEnv} : visG m k (s :: r) = (if s.isOwn && !m.contains k then none else s.val) :: visG m (k + 1) r := id rfl
@[simp] theorem flat_int {i : Int} : flat (.int i) = true := rfl
end VM

set_option Elab.async false
set_option linter.all false
set_option maxRecDepth 100000
set_option maxHeartbeats 2000000
/-! W14: running the heap machine by rewriting. -/
namespace VM
open PySem
variable {T : Tab} {ρ : HEnv} {h : HHp}
def seqH (q : R (HFl × HEnv × HHp)) (k : HEnv → HHp → R (HFl × HEnv × HHp)) : R (HFl × HEnv × HHp) := match q with
  | .ok (.nx, ρ, h) => k ρ h
  | .ok (.rt v, ρ, h) => .ok (.rt v, ρ, h)
  | .error e => .error e
def finH (q : R (HFl × HEnv × HHp)) : R (HV × HHp) := match q with
  | .ok (.nx, _, h) => .ok (.p .non, h)
  | .ok (.rt v, _, h) => .ok (v, h)
  | .error e => .error e
@[simp] theorem seqH_nx {k : HEnv → HHp → R (HFl × HEnv × HHp)} : seqH (.ok (.nx, ρ, h)) k = k ρ h := id rfl
@[simp] theorem seqH_rt {v : HV} {k : HEnv → HHp → R (HFl × HEnv × HHp)} : seqH (.ok (.rt v, ρ, h)) k = .ok (.rt v, ρ, h) := id rfl
@[simp] theorem seqH_er {e : Err} {k : HEnv → HHp → R (HFl × HEnv × HHp)} : seqH (.error e) k = .error e := id rfl
@[simp] theorem seqH_ite {c : Prop} [Decidable c] {x y : R (HFl × HEnv × HHp)} {k : HEnv → HHp → R (HFl × HEnv × HHp)} : seqH (if c then x else y) k = if c then seqH x k else seqH y k := by split <;> rfl
@[simp] theorem finH_nx : finH (.ok (.nx, ρ, h)) = .ok (.p .non, h) := id rfl
@[simp] theorem finH_rt {v : HV} : finH (.ok (.rt v, ρ, h)) = .ok (v, h) := id rfl
@[simp] theorem exHs_nil : exHs T .nil ρ h = .ok (.nx, ρ, h) := by simp only [exHs]
@[simp] theorem exHs_cons {s : HS} {r : HB} : exHs T (.cons s r) ρ h = seqH (exH T s ρ h) (fun ρ h => exHs T r ρ h) := by
  simp only [exHs]
  cases e : exH T s ρ h with
  | error e => rfl
  | ok q =>
    obtain ⟨fl, ρ1, h1⟩ := q
    cases fl <;> rfl
theorem runH_eq {d : HD} {args : List HV} (hl : args.length = d.np) : runH T d args h = finH (exHs T d.body (args.map some ++ List.replicate (d.ns - d.np) none) h) := by
  unfold runH
  rw [if_pos hl]
  cases e : exHs T d.body (args.map some ++ List.replicate (d.ns - d.np) none) h with
  | error e => rfl
  | ok q =>
    obtain ⟨fl, ρ1, h1⟩ := q
    cases fl <;> rfl
theorem callH_eq {P : Prog} {n f : Nat} {args : List HV} {d : HD} (hf : P.HF f = some d) (hl : args.length = d.np) :
    callH P (n + 1) f args h = finH (exHs (P.tab n) d.body (args.map some ++ List.replicate (d.ns - d.np) none) h) := by
  rw [callH_succ P n f args h hf, runH_eq hl]
theorem callP_pure {P : Prog} {n f : Nat} {args : List Val} {d : HD} (h1 : P.F f = none) (hf : P.HF f = some d) : callP P (n + 1) f args = callH P (n + 1) f (args.map HV.p) [] >>= fun q => ofO (deref q.2 60 q.1) := by
  rw [callP_heap P n f args h1 hf]
  unfold pureH
  rw [callH_succ P n f (args.map HV.p) [] hf]
theorem pureH_of {P : Prog} {n : Nat} {d : HD} {args : List Val} {q : HV × HHp} {v : Val} (h : runH (P.tab n) d (args.map HV.p) [] = .ok q) (hd : deref q.2 60 q.1 = some v) : pureH (runH (P.tab n) d) args = .ok v := by
  unfold pureH
  rw [h]; show ofO (deref q.2 60 q.1) = _
  rw [hd]; rfl
-- what is seen
@[simp] theorem seeG_nil {m : List Nat} {k : Nat} : seeG m h k [] = [] := id rfl
@[simp] theorem seeG_cons {m : List Nat} {k : Nat} {o : Option HV} {r : HEnv} : seeG m h k (o :: r) = (if m.contains k then o.bind (deref h 60) else none) :: seeG m h (k + 1) r := id rfl
@[simp] theorem deref_p {k : Nat} {v : Val} : deref h (k + 1) (.p v) = some v := id rfl
@[simp] theorem deref_60p {v : Val} : deref h 60 (.p v) = some v := id rfl
@[simp] theorem bind_p {v : Val} : (some (HV.p v)).bind (deref h 60) = some v := id rfl
theorem omap_map {α β γ : Type} {f : β → Option γ} {g : α → β} {k : α → γ} : ∀ {l : List α}, (∀ x ∈ l, f (g x) = some (k x)) → omap f (l.map g) = some (l.map k)
  | [], _ => rfl
  | x :: l, h => by
    simp only [List.map_cons, omap, h x (List.mem_cons_self ..), omap_map (fun y hy => h y (List.mem_cons_of_mem _ hy))]
-- expressions
@[simp] theorem evH_pu {m : List Nat} {e : SE} : evH T (.pu m e) ρ h = ev T e (seeH m h ρ) >>= fun v => if (flat v || onlyP m ρ) = true then .ok (.p v, h) else stk := by simp only [evH]
@[simp] theorem evH_var {i : Nat} : evH T (.var i) ρ h = match ρ[i]? with | some (some v) => .ok (v, h) | _ => stk := by (simp only [evH]) <;> rfl
@[simp] theorem evH_ix {a : HE} {m : List Nat} {k : SE} : evH T (.ix a m k) ρ h = evH T a ρ h >>= fun q => ev T k (seeH m q.2 ρ) >>= fun kv => if flat kv = true then ixH q.2 q.1 kv >>= fun v => .ok (v, q.2) else stk := by simp only [evH]
@[simp] theorem evH_lst {es : HEs} : evH T (.lst es) ρ h = evHs T es ρ h >>= fun q => if q.1.length ≤ lineN then .ok (.r q.2.length, q.2 ++ [.lst q.1]) else stk := by simp only [evH]
@[simp] theorem evH_tup {es : HEs} : evH T (.tup es) ρ h = evHs T es ρ h >>= fun q => if q.1.length ≤ lineN then .ok (.t q.1, q.2) else stk := by simp only [evH]
@[simp] theorem evH_lof {a : HE} : evH T (.lof a) ρ h = evH T a ρ h >>= fun q => itemsH q.2 q.1 >>= fun xs => .ok (.r q.2.length, q.2 ++ [.lst xs]) := by simp only [evH]
@[simp] theorem evH_call {f : Nat} {es : HEs} : evH T (.call f es) ρ h = evHs T es ρ h >>= fun q => T.H f q.1 q.2 := by simp only [evH]
@[simp] theorem evHs_nil : evHs T .nil ρ h = .ok ([], h) := by simp only [evHs]
@[simp] theorem evHs_cons {e : HE} {r : HEs} : evHs T (.cons e r) ρ h = evH T e ρ h >>= fun q => evHs T r ρ q.2 >>= fun z => .ok (q.1 :: z.1, z.2) := by simp only [evHs]
@[simp] theorem evHI_seq {e : HE} : evHI T (.seq e) ρ h = evH T e ρ h >>= fun q => itS q.2 q.1 >>= fun J => .ok (J, q.2) := by simp only [evHI]
@[simp] theorem evHI_rng {m : List Nat} {it : SI} : evHI T (.rng m it) ρ h = evI T it (seeH m h ρ) >>= fun vs => .ok (.fx (vs.map HV.p), h) := by simp only [evHI]
@[simp] theorem evHI_enum {e : HE} : evHI T (.enum e) ρ h = evH T e ρ h >>= fun q => itL q.2 q.1 >>= fun J => .ok (.en J, q.2) := by simp only [evHI]
@[simp] theorem evHI_zip {a b : HE} : evHI T (.zip a b) ρ h = evH T a ρ h >>= fun q => evH T b ρ q.2 >>= fun z => itL z.2 q.1 >>= fun J => itL z.2 z.1 >>= fun J' => .ok (.zp J J', z.2) := by simp only [evHI]
theorem evH_comp {own : List Nat} {tg : Tg} {it : HI} {m : List Nat} {c : SO} {el : HE} : evH T (.comp own tg it m c el) ρ h = evHI T it ρ h >>= fun q => if q.1.many q.2 ≤ lineN then
    compH (fun h ρ v => bindH h tg ρ v) (fun ρ h => evC T c (seeH m h ρ)) (fun ρ h => evH T el ρ h) q.1 (wipeH ρ own) (q.1.many q.2 + 1) 0 q.2 >>= fun z => .ok (.r z.2.length, z.2 ++ [.lst z.1]) else stk := by
  simp only [evH]
-- statements
theorem exH_loop {tg : Tg} {it : HI} {b : HB} : exH T (.loop tg it b) ρ h = evHI T it ρ h >>= fun q => forH (fun h ρ v => bindH h tg ρ v) (fun ρ h => exHs T b ρ h) q.1 (q.1.many q.2 + 1) 0 ρ q.2 := by simp only [exH]
@[simp] theorem exH_asg {tg : Tg} {e : HE} : exH T (.asg tg e) ρ h = evH T e ρ h >>= fun q => bindH q.2 tg ρ q.1 >>= fun ρ1 => .ok (.nx, ρ1, q.2) := by simp only [exH]
@[simp] theorem exH_iff {m : List Nat} {c : SE} {a b : HB} : exH T (.iff m c a b) ρ h = ev T c (seeH m h ρ) >>= fun v => tru v >>= fun k => if k = true then exHs T a ρ h else exHs T b ρ h := by simp only [exH]
@[simp] theorem exH_ret {e : HE} : exH T (.ret e) ρ h = evH T e ρ h >>= fun q => .ok (.rt q.1, ρ, q.2) := by simp only [exH]
@[simp] theorem exH_expr {e : HE} : exH T (.expr e) ρ h = evH T e ρ h >>= fun q => .ok (.nx, ρ, q.2) := by simp only [exH]
theorem exH_app {a e : HE} {q z : HV × HHp} {l ys : List HV} {n : Nat} (h1 : evH T a ρ h = .ok q) (h2 : lstH q.2 q.1 = .ok l) (h3 : evH T e ρ q.2 = .ok z) (hn : q.1 = .r n) (hy : z.2[n]? = some (.lst ys)) (hl : ys.length < lineN) :
    exH T (.app a e) ρ h = .ok (.nx, ρ, z.2.set n (.lst (ys ++ [z.1]))) := by
  rw [hn] at h2
  simp only [exH, h1, okb, hn, h2, h3, hy, if_pos hl]
@[simp] theorem bindH_nm {i : Nat} {v : HV} : bindH h (.nm i) ρ v = .ok (ρ.set i (some v)) := by simp [bindH, flatH, setsH]
@[simp] theorem bindH_tp {ts : Tgs} {v : HV} : bindH h (.tp ts) ρ v = flatH h (.tp ts) v >>= fun bs => .ok (setsH ρ bs) := by simp only [bindH]
@[simp] theorem flatH_nm {i : Nat} {v : HV} : flatH h (.nm i) v = .ok [(i, v)] := by simp only [flatH]
@[simp] theorem flatH_tp {ts : Tgs} {v : HV} : flatH h (.tp ts) v = itemsH h v >>= fun vs => flatHs h ts vs := by simp only [flatH]
@[simp] theorem flatHs_nil : flatHs h .nil [] = .ok [] := by simp only [flatHs]
@[simp] theorem flatHs_cons {t : Tg} {r : Tgs} {v : HV} {vs : List HV} : flatHs h (.cons t r) (v :: vs) = flatH h t v >>= fun a => flatHs h r vs >>= fun b => .ok (a ++ b) := by simp only [flatHs]
@[simp] theorem itemsH_t {xs : List HV} : itemsH h (.t xs) = .ok xs := id rfl
@[simp] theorem setsH_nil : setsH ρ [] = ρ := id rfl
@[simp] theorem setsH_cons {i : Nat} {v : HV} {r : List (Nat × HV)} : setsH ρ ((i, v) :: r) = setsH (ρ.set i (some v)) r := id rfl
/-- a walk over fixed items -/
def Fixed (J : HIt) (all : List HV) : Prop := ∀ h i, J.at h i = .ok all[i]?
theorem fixed_fx {all : List HV} : Fixed (.fx all) all := fun _ _ => rfl
theorem fixed_en {J : HIt} {all : List HV} (f : Fixed J all) : Fixed (.en J) (all.zipIdx.map fun p => .t [.p (.int p.2), p.1]) := fun h i => by
  simp only [HIt.at, f h i, okb]
  congr 1
  rw [List.getElem?_map, List.getElem?_zipIdx]
  cases all[i]? <;> simp
theorem compH_fx {bind : HHp → HEnv → HV → R HEnv} {c : HEnv → HHp → R Bool} {el : HEnv → HHp → R (HV × HHp)} {ρ : HEnv} {J : HIt} {all : List HV} (I : List HV → List HV → HHp → Prop) (f : ∀ pre acc h, I pre acc h → J.at h pre.length = .ok all[pre.length]?) : ∀ (l pre : List HV) (k : Nat) (acc : List HV) (h : HHp), all = pre ++ l → l.length < k → I pre acc h →
    (∀ pre v post acc h, all = pre ++ v :: post → I pre acc h → ∃ ρ1, bind h ρ v = .ok ρ1 ∧ ((c ρ1 h = .ok false ∧ I (pre ++ [v]) acc h) ∨ (c ρ1 h = .ok true ∧ ∃ y h', el ρ1 h = .ok (y, h') ∧ I (pre ++ [v]) (acc ++ [y]) h'))) →
    ∃ ys h', compH bind c el J ρ k pre.length h = .ok (ys, h') ∧ I all (acc ++ ys) h'
  | [], pre, k, acc, h, ha, hk, hI, _ => by
    obtain ⟨k, rfl⟩ : ∃ k', k = k' + 1 := ⟨k - 1, by simp at hk; omega⟩
    rw [List.append_nil] at ha
    subst ha
    have e : all[all.length]? = none := List.getElem?_eq_none (Nat.le_refl _)
    exact ⟨[], h, by simp only [compH, f _ _ _ hI, e, okb], by rw [List.append_nil]; exact hI⟩
  | v :: l, pre, k, acc, h, ha, hk, hI, step => by
    obtain ⟨k, rfl⟩ : ∃ k', k = k' + 1 := ⟨k - 1, by simp at hk; omega⟩
    have e : all[pre.length]? = some v := by rw [ha]; simp
    obtain ⟨ρ1, b1, s⟩ := step pre v l acc h ha hI
    have ha' : all = (pre ++ [v]) ++ l := by rw [ha]; simp
    have hl : (pre ++ [v]).length = pre.length + 1 := by simp
    rcases s with ⟨c1, I1⟩ | ⟨c1, y, h', e1, I1⟩
    · obtain ⟨ys, h2, r1, r2⟩ := compH_fx I f l (pre ++ [v]) k acc h ha' (by simp at hk; omega) I1 step
      rw [hl] at r1
      exact ⟨ys, h2, by simp only [compH, f _ _ _ hI, e, okb, b1, c1, Bool.false_eq_true, if_false, r1], r2⟩
    · obtain ⟨ys, h2, r1, r2⟩ := compH_fx I f l (pre ++ [v]) k (acc ++ [y]) h' ha' (by simp at hk; omega) I1 step
      rw [hl] at r1
      exact ⟨y :: ys, h2, by simp only [compH, f _ _ _ hI, e, okb, b1, c1, if_true, e1, r1], by rw [List.append_assoc] at r2; exact r2⟩
theorem forH_fx {bind : HHp → HEnv → HV → R HEnv} {body : HEnv → HHp → R (HFl × HEnv × HHp)} {J : HIt} {all : List HV} (I : List HV → HEnv → HHp → Prop) (f : ∀ pre ρ h, I pre ρ h → J.at h pre.length = .ok all[pre.length]?) : ∀ (l pre : List HV) (k : Nat) (ρ : HEnv) (h : HHp), all = pre ++ l → l.length < k → I pre ρ h →
    (∀ pre v post ρ h, all = pre ++ v :: post → I pre ρ h → ∃ ρ2 h2, (bind h ρ v >>= fun ρ1 => body ρ1 h) = .ok (.nx, ρ2, h2) ∧ I (pre ++ [v]) ρ2 h2) →
    ∃ ρ' h', forH bind body J k pre.length ρ h = .ok (.nx, ρ', h') ∧ I all ρ' h'
  | [], pre, k, ρ, h, ha, hk, hI, _ => by
    obtain ⟨k, rfl⟩ : ∃ k', k = k' + 1 := ⟨k - 1, by simp at hk; omega⟩
    rw [List.append_nil] at ha
    subst ha
    have e : all[all.length]? = none := List.getElem?_eq_none (Nat.le_refl _)
    exact ⟨ρ, h, by simp only [forH, f _ _ _ hI, e, okb], hI⟩
  | v :: l, pre, k, ρ, h, ha, hk, hI, step => by
    obtain ⟨k, rfl⟩ : ∃ k', k = k' + 1 := ⟨k - 1, by simp at hk; omega⟩
    have e : all[pre.length]? = some v := by rw [ha]; simp
    obtain ⟨ρ2, h2, s, I2⟩ := step pre v l ρ h ha hI
    have ha' : all = (pre ++ [v]) ++ l := by rw [ha]; simp
    have hl : (pre ++ [v]).length = pre.length + 1 := by simp
    obtain ⟨ρ3, h3, r1, r2⟩ := forH_fx I f l (pre ++ [v]) k ρ2 h2 ha' (by simp at hk; omega) I2 step
    rw [hl] at r1
    refine ⟨ρ3, h3, ?_, r2⟩
    cases hb : bind h ρ v with
    | error er => rw [hb] at s; cases s
    | ok ρ1 =>
      rw [hb, okb] at s
      simp only [forH, f _ _ _ hI, e, okb, hb, s, r1]
end VM

set_option Elab.async false
set_option linter.all false
set_option maxRecDepth 100000
set_option maxHeartbeats 8000000
namespace VM
open PySem
/-- is_whole -/
def D1 : SD := ⟨1, 1,
  (.cons (.ret [] (.bop true (.cons (.isi (.var 0) .int) (.cons (.not1 (.isi (.var 0) .bool)) .nil)))) .nil)⟩
/-- common -/
def D2 : SD := ⟨2, 2,
  (.cons (.par [] 0 1 (.bi .abs (.cons (.var 0) .nil)) (.bi .abs (.cons (.var 1) .nil)))
  (.cons (.whl [] (.var 1) (.op .gt (.var 1) (.cint 0)) (
   (.cons (.par [] 0 1 (.var 1) (.op .mod (.var 0) (.var 1))) .nil)))
  (.cons (.ret [] (.var 0)) .nil)))⟩
/-- lowest -/
def D3 : SD := ⟨2, 3,
  (.cons (.asg [] (.nm 2) (.call 2 (.cons (.var 0) (.cons (.var 1) .nil))))
  (.cons (.iff [] (.op .lt (.var 1) (.cint 0)) (
   (.cons (.asg [] (.nm 2) (.neg (.var 2))) .nil)) ( .nil))
  (.cons (.ret [] (.tup (.cons (.op .fdiv (.var 0) (.var 2)) (.cons (.op .fdiv (.var 1) (.var 2)) .nil)))) .nil)))⟩
/-- is_share -/
def D4 : SD := ⟨1, 1,
  (.cons (.iff [] (.bop false (.cons (.not1 (.isi (.var 0) .tuple)) (.cons (.op .ne (.bi .len (.cons (.var 0) .nil)) (.cint 2)) (.cons (.not1 (.call 1 (.cons (.ix (.var 0) (.cint 0)) .nil))) (.cons (.not1 (.call 1 (.cons (.ix (.var 0) (.cint 1)) .nil))) .nil))))) (
   (.cons (.ret [] (.cbl false)) .nil)) ( .nil))
  (.cons (.ret [] (.bop true (.cons (.op .gt (.ix (.var 0) (.cint 1)) (.cint 0)) (.cons (.op .eq (.call 2 (.cons (.ix (.var 0) (.cint 0)) (.cons (.ix (.var 0) (.cint 1)) .nil))) (.cint 1)) .nil)))) .nil))⟩
/-- check_share -/
def D5 : SD := ⟨1, 1,
  (.cons (.iff [] (.not1 (.call 4 (.cons (.var 0) .nil))) (
   (.cons (.raise 1) .nil)) ( .nil)) .nil)⟩
/-- share -/
def D6 : SD := ⟨2, 2,
  (.cons (.iff [] (.bop false (.cons (.not1 (.call 1 (.cons (.var 0) .nil))) (.cons (.not1 (.call 1 (.cons (.var 1) .nil))) (.cons (.op .eq (.var 1) (.cint 0)) .nil)))) (
   (.cons (.raise 1) .nil)) ( .nil))
  (.cons (.ret [] (.call 3 (.cons (.var 0) (.cons (.var 1) .nil)))) .nil))⟩
/-- add -/
def D7 : SD := ⟨2, 2,
  (.cons (.ret [] (.call 3 (.cons (.op .add (.op .mul (.ix (.var 0) (.cint 0)) (.ix (.var 1) (.cint 1))) (.op .mul (.ix (.var 1) (.cint 0)) (.ix (.var 0) (.cint 1)))) (.cons (.op .mul (.ix (.var 0) (.cint 1)) (.ix (.var 1) (.cint 1))) .nil)))) .nil)⟩
/-- cut -/
def D8 : SD := ⟨2, 2,
  (.cons (.ret [] (.call 3 (.cons (.op .sub (.op .mul (.ix (.var 0) (.cint 0)) (.ix (.var 1) (.cint 1))) (.op .mul (.ix (.var 1) (.cint 0)) (.ix (.var 0) (.cint 1)))) (.cons (.op .mul (.ix (.var 0) (.cint 1)) (.ix (.var 1) (.cint 1))) .nil)))) .nil)⟩
/-- grow -/
def D9 : SD := ⟨2, 2,
  (.cons (.ret [] (.call 3 (.cons (.op .mul (.ix (.var 0) (.cint 0)) (.ix (.var 1) (.cint 0))) (.cons (.op .mul (.ix (.var 0) (.cint 1)) (.ix (.var 1) (.cint 1))) .nil)))) .nil)⟩
/-- part -/
def D10 : SD := ⟨2, 2,
  (.cons (.ret [] (.call 3 (.cons (.op .mul (.ix (.var 0) (.cint 0)) (.ix (.var 1) (.cint 1))) (.cons (.op .mul (.ix (.var 0) (.cint 1)) (.ix (.var 1) (.cint 0))) .nil)))) .nil)⟩
/-- plus -/
def D11 : SD := ⟨2, 2,
  (.cons (.expr [] (.call 5 (.cons (.var 0) .nil)))
  (.cons (.expr [] (.call 5 (.cons (.var 1) .nil)))
  (.cons (.ret [] (.call 7 (.cons (.var 0) (.cons (.var 1) .nil)))) .nil)))⟩
/-- minus -/
def D12 : SD := ⟨2, 2,
  (.cons (.expr [] (.call 5 (.cons (.var 0) .nil)))
  (.cons (.expr [] (.call 5 (.cons (.var 1) .nil)))
  (.cons (.ret [] (.call 8 (.cons (.var 0) (.cons (.var 1) .nil)))) .nil)))⟩
/-- times -/
def D13 : SD := ⟨2, 2,
  (.cons (.expr [] (.call 5 (.cons (.var 0) .nil)))
  (.cons (.expr [] (.call 5 (.cons (.var 1) .nil)))
  (.cons (.ret [] (.call 9 (.cons (.var 0) (.cons (.var 1) .nil)))) .nil)))⟩
/-- over -/
def D14 : SD := ⟨2, 2,
  (.cons (.expr [] (.call 5 (.cons (.var 0) .nil)))
  (.cons (.expr [] (.call 5 (.cons (.var 1) .nil)))
  (.cons (.iff [] (.op .eq (.ix (.var 1) (.cint 0)) (.cint 0)) (
   (.cons (.raise 1) .nil)) ( .nil))
  (.cons (.ret [] (.call 10 (.cons (.var 0) (.cons (.var 1) .nil)))) .nil))))⟩
/-- order -/
def D15 : SD := ⟨2, 3,
  (.cons (.expr [] (.call 5 (.cons (.var 0) .nil)))
  (.cons (.expr [] (.call 5 (.cons (.var 1) .nil)))
  (.cons (.asg [] (.nm 2) (.ix (.call 8 (.cons (.var 0) (.cons (.var 1) .nil))) (.cint 0)))
  (.cons (.ret [] (.ite (.op .gt (.var 2) (.cint 0)) (.cint 1) (.ite (.op .eq (.var 2) (.cint 0)) (.cint 0) (.neg (.cint 1))))) .nil))))⟩
/-- _law_cell_at -/
def D16 : SD := ⟨2, 2,
  (.cons (.iff [] (.op .lt (.var 1) (.bi .len (.cons (.var 0) .nil))) (
   (.cons (.ret [] (.ix (.var 0) (.var 1))) .nil)) ( .nil))
  (.cons (.ret [] (.cint 0)) .nil))⟩
/-- _law_draw -/
def D17 : SD := ⟨3, 4,
  (.cons (.asg [] (.nm 3) (.tup (.cons (.cint 1000003) (.cons (.cint 1000033) (.cons (.cint 1000037) (.cons (.cint 1000039) (.cons (.cint 1000081) (.cons (.cint 1000099) (.cons (.cint 1000117) (.cons (.cint 1000121) (.cons (.cint 1000133) (.cons (.cint 1000151) (.cons (.cint 1000159) (.cons (.cint 1000171) (.cons (.cint 1000183) (.cons (.cint 1000187) (.cons (.cint 1000193) (.cons (.cint 1000199) .nil))))))))))))))))))
  (.cons (.ret [] (.op .mod (.op .mod (.op .add (.op .mul (.var 0) (.cint 48271)) (.op .mul (.var 1) (.cint 69621))) (.ix (.var 3) (.op .mod (.var 1) (.cint 16)))) (.var 2))) .nil))⟩
/-- _law_value -/
def D18 : SD := ⟨2, 3,
  (.cons (.iff [] (.op .ge (.var 0) (.op .pow (.cint 10) (.cint 18))) (
   (.cons (.ret [] (.op .shr (.op .sub (.var 0) (.op .pow (.cint 10) (.cint 18))) (.op .mul (.cint 3) (.var 1)))) .nil)) ( .nil))
  (.cons (.asg [] (.nm 2) (.call 17 (.cons (.op .mul (.op .add (.var 0) (.op .mul (.cint 977) (.var 1))) (.op .add (.op .add (.var 0) (.op .mul (.cint 31) (.var 1))) (.cint 5))) (.cons (.op .add (.op .mod (.var 1) (.cint 9)) (.cint 1)) (.cons (.cint 999983) .nil)))))
  (.cons (.ret [] (.op .add (.op .mul (.var 2) (.cint 1000003)) (.call 17 (.cons (.op .add (.op .mul (.op .add (.var 0) (.op .mul (.cint 31) (.var 1))) (.op .add (.var 0) (.cint 7))) (.op .mul (.cint 977) (.var 1))) (.cons (.op .add (.op .mod (.var 1) (.cint 7)) (.cint 2)) (.cons (.cint 1000003) .nil)))))) .nil)))⟩
/-- _law_low -/
def D19 : SD := ⟨2, 4,
  (.cons (.par [] 2 3 (.bi .abs (.cons (.var 0) .nil)) (.bi .abs (.cons (.var 1) .nil)))
  (.cons (.whl [] (.var 3) (.op .gt (.var 3) (.cint 0)) (
   (.cons (.par [] 2 3 (.var 3) (.op .mod (.var 2) (.var 3))) .nil)))
  (.cons (.asg [] (.nm 2) (.ite (.op .gt (.var 1) (.cint 0)) (.var 2) (.neg (.var 2))))
  (.cons (.ret [] (.tup (.cons (.op .fdiv (.var 0) (.var 2)) (.cons (.op .fdiv (.var 1) (.var 2)) .nil)))) .nil))))⟩
/-- _law_whole -/
def D20 : SD := ⟨1, 1,
  (.cons (.ret [] (.bop true (.cons (.isi (.var 0) .int) (.cons (.not1 (.isi (.var 0) .bool)) .nil)))) .nil)⟩
/-- _law_is_share -/
def D21 : SD := ⟨1, 1,
  (.cons (.iff [] (.bop false (.cons (.not1 (.isi (.var 0) .tuple)) (.cons (.op .ne (.bi .len (.cons (.var 0) .nil)) (.cint 2)) (.cons (.not1 (.call 20 (.cons (.ix (.var 0) (.cint 0)) .nil))) (.cons (.not1 (.call 20 (.cons (.ix (.var 0) (.cint 1)) .nil))) .nil))))) (
   (.cons (.ret [] (.cbl false)) .nil)) ( .nil))
  (.cons (.ret [] (.bop true (.cons (.op .gt (.ix (.var 0) (.cint 1)) (.cint 0)) (.cons (.op .eq (.call 19 (.cons (.ix (.var 0) (.cint 0)) (.cons (.ix (.var 0) (.cint 1)) .nil))) (.var 0)) .nil)))) .nil))⟩
/-- _law_same -/
def D22 : SD := ⟨3, 3,
  (.cons (.ret [] (.bop true (.cons (.call 21 (.cons (.var 0) .nil)) (.cons (.op .eq (.op .mul (.ix (.var 0) (.cint 0)) (.var 2)) (.op .mul (.ix (.var 0) (.cint 1)) (.var 1))) .nil)))) .nil)⟩
/-- law -/
def D23 : SD := ⟨1, 16,
  (.cons (.asg [] (.nm 0) (.sl (.var 0) .none (.some (.cint 63))))
  (.cons (.loop [] (.nm 1) (.rng3 (.cint 0) (.bi .max2 (.cons (.cint 1) (.cons (.bi .len (.cons (.var 0) .nil)) .nil))) (.op .add (.cint 1) (.op .fdiv (.bi .len (.cons (.var 0) .nil)) (.cint 12)))) (
   (.cons (.asg [] (.nm 2) (.call 16 (.cons (.var 0) (.cons (.var 1) .nil))))
   (.cons (.asg [] (.nm 3) (.ix (.tup (.cons (.cint 3) (.cons (.cint 60) (.cons (.op .pow (.cint 10) (.cint 9)) (.cons (.op .pow (.cint 10) (.cint 40)) .nil))))) (.op .mod (.var 1) (.cint 4))))
   (.cons (.asg [] (.nm 4) (.comp [15] (.nm 15) (.seq (.tup (.cons (.cint 1) (.cons (.cint 2) .nil)))) .none (.op .sub (.op .mod (.call 18 (.cons (.var 2) (.cons (.var 15) .nil))) (.op .add (.op .mul (.cint 2) (.var 3)) (.cint 1))) (.var 3))))
   (.cons (.asg [] (.nm 5) (.comp [15] (.nm 15) (.seq (.tup (.cons (.cint 3) (.cons (.cint 4) .nil)))) .none (.op .add (.cint 1) (.op .mod (.call 18 (.cons (.var 2) (.cons (.var 15) .nil))) (.var 3)))))
   (.cons (.asg [] (.tp (.cons (.tp (.cons (.nm 6) (.cons (.nm 7) .nil))) (.cons (.tp (.cons (.nm 8) (.cons (.nm 9) .nil))) .nil))) (.tup (.cons (.var 4) (.cons (.lst (.cons (.ix (.var 5) (.cint 0)) (.cons (.neg (.ix (.var 5) (.cint 1))) .nil))) .nil))))
   (.cons (.par [] 10 11 (.call 6 (.cons (.var 6) (.cons (.var 8) .nil))) (.call 6 (.cons (.var 7) (.cons (.var 9) .nil))))
   (.cons (.iff [] (.bop false (.cons (.not1 (.call 22 (.cons (.var 10) (.cons (.var 6) (.cons (.var 8) .nil))))) (.cons (.not1 (.call 22 (.cons (.var 11) (.cons (.var 7) (.cons (.var 9) .nil))))) .nil))) (
    (.cons (.ret [] (.cbl false)) .nil)) ( .nil))
   (.cons (.iff [] (.bop false (.cons (.not1 (.call 22 (.cons (.call 11 (.cons (.var 10) (.cons (.var 11) .nil))) (.cons (.op .add (.op .mul (.var 6) (.var 9)) (.op .mul (.var 7) (.var 8))) (.cons (.op .mul (.var 8) (.var 9)) .nil))))) (.cons (.not1 (.call 22 (.cons (.call 13 (.cons (.var 10) (.cons (.var 11) .nil))) (.cons (.op .mul (.var 6) (.var 7)) (.cons (.op .mul (.var 8) (.var 9)) .nil))))) .nil))) (
    (.cons (.ret [] (.cbl false)) .nil)) ( .nil))
   (.cons (.iff [] (.not1 (.call 22 (.cons (.call 12 (.cons (.var 10) (.cons (.var 11) .nil))) (.cons (.op .sub (.op .mul (.var 6) (.var 9)) (.op .mul (.var 7) (.var 8))) (.cons (.op .mul (.var 8) (.var 9)) .nil))))) (
    (.cons (.ret [] (.cbl false)) .nil)) ( .nil))
   (.cons (.iff [] (.bop true (.cons (.op .ne (.var 7) (.cint 0)) (.cons (.not1 (.call 22 (.cons (.call 14 (.cons (.var 10) (.cons (.var 11) .nil))) (.cons (.op .mul (.var 6) (.var 9)) (.cons (.op .mul (.var 8) (.var 7)) .nil))))) .nil))) (
    (.cons (.ret [] (.cbl false)) .nil)) ( .nil))
   (.cons (.asg [] (.nm 12) (.op .sub (.op .mul (.ix (.var 10) (.cint 0)) (.ix (.var 11) (.cint 1))) (.op .mul (.ix (.var 11) (.cint 0)) (.ix (.var 10) (.cint 1)))))
   (.cons (.asg [] (.nm 13) (.ite (.op .gt (.var 12) (.cint 0)) (.cint 1) (.ite (.op .eq (.var 12) (.cint 0)) (.cint 0) (.neg (.cint 1)))))
   (.cons (.asg [] (.nm 14) (.call 15 (.cons (.var 10) (.cons (.var 11) .nil))))
   (.cons (.iff [] (.bop false (.cons (.not1 (.call 20 (.cons (.var 14) .nil))) (.cons (.op .ne (.var 14) (.var 13)) (.cons (.op .ne (.call 15 (.cons (.var 11) (.cons (.var 10) .nil))) (.neg (.var 13))) (.cons (.op .ne (.call 15 (.cons (.var 10) (.cons (.var 10) .nil))) (.cint 0)) .nil))))) (
    (.cons (.ret [] (.cbl false)) .nil)) ( .nil)) .nil))))))))))))))))
  (.cons (.ret [] (.bop true (.cons (.op .eq (.call 6 (.cons (.cint 6) (.cons (.neg (.cint 4)) .nil))) (.tup (.cons (.neg (.cint 3)) (.cons (.cint 2) .nil)))) (.cons (.op .eq (.call 6 (.cons (.cint 0) (.cons (.neg (.cint 7)) .nil))) (.tup (.cons (.cint 0) (.cons (.cint 1) .nil)))) (.cons (.op .eq (.call 14 (.cons (.tup (.cons (.cint 1) (.cons (.cint 2) .nil))) (.cons (.tup (.cons (.neg (.cint 3)) (.cons (.cint 4) .nil))) .nil))) (.tup (.cons (.neg (.cint 2)) (.cons (.cint 3) .nil)))) .nil))))) .nil)))⟩
/-- _law_share -/
def D24 : SD := ⟨2, 2,
  (.cons (.ret [] (.call 19 (.cons (.op .sub (.op .mod (.var 0) (.op .add (.op .mul (.cint 2) (.var 1)) (.cint 1))) (.var 1)) (.cons (.op .add (.cint 1) (.op .mod (.op .fdiv (.var 0) (.cint 7)) (.ix (.tup (.cons (.cint 1) (.cons (.cint 2) (.cons (.cint 6) .nil)))) (.op .mod (.op .fdiv (.var 0) (.cint 3)) (.cint 3))))) .nil)))) .nil)⟩
/-- _law_shares -/
def D25 : SD := ⟨3, 4,
  (.cons (.ret [] (.comp [3] (.nm 3) (.rng1 (.var 1)) .none (.call 24 (.cons (.call 18 (.cons (.var 0) (.cons (.var 3) .nil))) (.cons (.var 2) .nil))))) .nil)⟩
/-- law -/
def D26 : SD := ⟨1, 7,
  (.cons (.asg [] (.nm 0) (.sl (.var 0) .none (.some (.cint 63))))
  (.cons (.loop [] (.nm 1) (.rng3 (.cint 0) (.bi .max2 (.cons (.cint 1) (.cons (.bi .len (.cons (.var 0) .nil)) .nil))) (.op .add (.cint 1) (.op .fdiv (.bi .len (.cons (.var 0) .nil)) (.cint 12)))) (
   (.cons (.par [] 2 3 (.call 16 (.cons (.var 0) (.cons (.var 1) .nil))) (.ix (.tup (.cons (.cint 2) (.cons (.cint 9) (.cons (.op .pow (.cint 10) (.cint 6)) (.cons (.op .pow (.cint 10) (.cint 30)) .nil))))) (.op .mod (.var 1) (.cint 4))))
   (.cons (.asg [] (.tp (.cons (.nm 4) (.cons (.nm 5) (.cons (.nm 6) .nil)))) (.call 25 (.cons (.var 2) (.cons (.cint 3) (.cons (.var 3) .nil)))))
   (.cons (.iff [] (.bop false (.cons (.op .ne (.call 12 (.cons (.call 11 (.cons (.var 4) (.cons (.var 5) .nil))) (.cons (.var 5) .nil))) (.var 4)) (.cons (.op .ne (.call 11 (.cons (.call 12 (.cons (.var 4) (.cons (.var 5) .nil))) (.cons (.var 5) .nil))) (.var 4)) .nil))) (
    (.cons (.ret [] (.cbl false)) .nil)) ( .nil))
   (.cons (.iff [] (.op .ne (.ix (.var 5) (.cint 0)) (.cint 0)) (
    (.cons (.iff [] (.bop false (.cons (.op .ne (.call 14 (.cons (.call 13 (.cons (.var 4) (.cons (.var 5) .nil))) (.cons (.var 5) .nil))) (.var 4)) (.cons (.op .ne (.call 13 (.cons (.call 14 (.cons (.var 4) (.cons (.var 5) .nil))) (.cons (.var 5) .nil))) (.var 4)) .nil))) (
     (.cons (.ret [] (.cbl false)) .nil)) ( .nil)) .nil)) ( .nil))
   (.cons (.iff [] (.op .ne (.call 11 (.cons (.call 11 (.cons (.var 4) (.cons (.var 5) .nil))) (.cons (.var 6) .nil))) (.call 11 (.cons (.var 4) (.cons (.call 11 (.cons (.var 6) (.cons (.var 5) .nil))) .nil)))) (
    (.cons (.ret [] (.cbl false)) .nil)) ( .nil))
   (.cons (.iff [] (.op .ne (.call 13 (.cons (.call 13 (.cons (.var 4) (.cons (.var 5) .nil))) (.cons (.var 6) .nil))) (.call 13 (.cons (.var 4) (.cons (.call 13 (.cons (.var 6) (.cons (.var 5) .nil))) .nil)))) (
    (.cons (.ret [] (.cbl false)) .nil)) ( .nil))
   (.cons (.iff [] (.op .ne (.call 13 (.cons (.call 11 (.cons (.var 4) (.cons (.var 5) .nil))) (.cons (.var 6) .nil))) (.call 11 (.cons (.call 13 (.cons (.var 4) (.cons (.var 6) .nil))) (.cons (.call 13 (.cons (.var 5) (.cons (.var 6) .nil))) .nil)))) (
    (.cons (.ret [] (.cbl false)) .nil)) ( .nil))
   (.cons (.iff [] (.bop true (.cons (.op .ge (.call 15 (.cons (.var 4) (.cons (.var 5) .nil))) (.cint 0)) (.cons (.op .ge (.call 15 (.cons (.var 5) (.cons (.var 6) .nil))) (.cint 0)) (.cons (.op .lt (.call 15 (.cons (.var 4) (.cons (.var 6) .nil))) (.cint 0)) .nil)))) (
    (.cons (.ret [] (.cbl false)) .nil)) ( .nil))
   (.cons (.iff [] (.bop false (.cons (.op .ne (.call 15 (.cons (.call 11 (.cons (.var 4) (.cons (.var 6) .nil))) (.cons (.call 11 (.cons (.var 5) (.cons (.var 6) .nil))) .nil))) (.call 15 (.cons (.var 4) (.cons (.var 5) .nil)))) (.cons (.op .ne (.call 12 (.cons (.var 4) (.cons (.var 4) .nil))) (.tup (.cons (.cint 0) (.cons (.cint 1) .nil)))) .nil))) (
    (.cons (.ret [] (.cbl false)) .nil)) ( .nil)) .nil)))))))))))
  (.cons (.ret [] (.bop true (.cons (.op .eq (.call 13 (.cons (.tup (.cons (.cint 2) (.cons (.cint 3) .nil))) (.cons (.tup (.cons (.cint 3) (.cons (.cint 2) .nil))) .nil))) (.tup (.cons (.cint 1) (.cons (.cint 1) .nil)))) (.cons (.op .eq (.call 11 (.cons (.tup (.cons (.cint 1) (.cons (.cint 6) .nil))) (.cons (.tup (.cons (.cint 1) (.cons (.cint 3) .nil))) .nil))) (.tup (.cons (.cint 1) (.cons (.cint 2) .nil)))) .nil)))) .nil)))⟩
/-- check_kind -/
def D53 : SD := ⟨1, 1,
  (.cons (.iff [] (.bop false (.cons (.not1 (.isi (.var 0) .str)) (.cons (.op .nin (.var 0) (.glob 4)) .nil))) (
   (.cons (.raise 3) .nil)) ( .nil)) .nil)⟩
/-- check_many -/
def D60 : SD := ⟨2, 2,
  (.cons (.iff [] (.bop false (.cons (.not1 (.call 1 (.cons (.var 0) .nil))) (.cons (.not1 (.chain .le .le (.cint 0) (.var 0) (.var 1))) .nil))) (
   (.cons (.raise 2) .nil)) ( .nil)) .nil)⟩
/-- is_grouping -/
def D74 : SD := ⟨1, 5,
  (.cons (.iff [] (.bop false (.cons (.not1 (.isi (.var 0) .list)) (.cons (.not1 (.bi .all (.cons (.comp [2] (.nm 2) (.seq (.var 0)) .none (.bop true (.cons (.isi (.var 2) .list) (.cons (.op .ne (.var 2) (.lst .nil)) .nil)))) .nil))) .nil))) (
   (.cons (.ret [] (.cbl false)) .nil)) ( .nil))
  (.cons (.iff [] (.not1 (.bi .all (.cons (.comp [2] (.nm 2) (.seq (.var 0)) .none (.bi .all (.cons (.comp [4] (.nm 4) (.seq (.var 2)) .none (.call 1 (.cons (.var 4) .nil))) .nil))) .nil))) (
   (.cons (.ret [] (.cbl false)) .nil)) ( .nil))
  (.cons (.own [] 1 (.lst .nil))
  (.cons (.loop [] (.nm 2) (.seq (.var 0)) (
   (.cons (.ext [] 1 (.var 2)) .nil)))
  (.cons (.iff [1] (.bop false (.cons (.op .gt (.bi .len (.cons (.var 1) .nil)) (.glob 9)) (.cons (.op .ne (.bi .sorted (.cons (.var 1) .nil)) (.lrng (.cons (.bi .len (.cons (.var 1) .nil)) .nil))) .nil))) (
   (.cons (.ret [] (.cbl false)) .nil)) ( .nil))
  (.cons (.asg [] (.nm 3) (.comp [2] (.nm 2) (.seq (.var 0)) .none (.ix (.var 2) (.cint 0))))
  (.cons (.ret [] (.bop true (.cons (.bi .all (.cons (.comp [2] (.nm 2) (.seq (.var 0)) .none (.op .eq (.var 2) (.bi .sorted (.cons (.var 2) .nil)))) .nil)) (.cons (.op .eq (.var 3) (.bi .sorted (.cons (.var 3) .nil))) .nil)))) .nil)))))))⟩
/-- check_grouping -/
def D76 : SD := ⟨1, 1,
  (.cons (.iff [] (.not1 (.call 74 (.cons (.var 0) .nil))) (
   (.cons (.raise 4) .nil)) ( .nil)) .nil)⟩
/-- cross -/
def D75 : SD := ⟨2, 8,
  (.cons (.loop [] (.tp (.cons (.nm 2) (.cons (.nm 3) .nil))) (.seq (.tup (.cons (.tup (.cons (.var 0) (.cons (.var 1) .nil))) (.cons (.tup (.cons (.var 1) (.cons (.var 0) .nil))) .nil)))) (
   (.cons (.loop [] (.tp (.cons (.nm 4) (.cons (.nm 5) .nil))) (.zip (.var 2) (.sl (.var 2) (.some (.cint 1)) .none)) (
    (.cons (.asg [] (.nm 6) (.comp [7] (.nm 7) (.seq (.var 3)) (.some (.chain .lt .lt (.var 4) (.var 7) (.var 5))) (.var 7)))
    (.cons (.iff [] (.bop true (.cons (.op .ne (.var 6) (.lst .nil)) (.cons (.bi .any (.cons (.comp [7] (.nm 7) (.seq (.var 3)) .none (.op .gt (.var 7) (.var 5))) .nil)) .nil))) (
     (.cons (.ret [] (.cbl true)) .nil)) ( .nil)) .nil)))) .nil)))
  (.cons (.ret [] (.cbl false)) .nil))⟩
/-- of_kind -/
def D77 : SD := ⟨2, 5,
  (.cons (.iff [] (.op .eq (.var 1) (.cstr "rows")) (
   (.cons (.ret [] (.bi .all (.cons (.comp [2] (.nm 2) (.seq (.var 0)) .none (.op .eq (.op .add (.op .sub (.ix (.var 2) (.neg (.cint 1))) (.ix (.var 2) (.cint 0))) (.cint 1)) (.bi .len (.cons (.var 2) .nil)))) .nil))) .nil)) ( .nil))
  (.cons (.iff [] (.op .eq (.var 1) (.cstr "nested")) (
   (.cons (.ret [] (.not1 (.bi .any (.cons (.comp [3, 2] (.tp (.cons (.nm 3) (.cons (.nm 2) .nil))) (.enum (.var 0)) .none (.bi .any (.cons (.comp [4] (.nm 4) (.seq (.sl (.var 0) .none (.some (.var 3)))) .none (.call 75 (.cons (.var 2) (.cons (.var 4) .nil)))) .nil))) .nil)))) .nil)) ( .nil))
  (.cons (.ret [] (.cbl true)) .nil)))⟩
/-- is_kind -/
def D82 : SD := ⟨2, 2,
  (.cons (.expr [] (.call 76 (.cons (.var 0) .nil)))
  (.cons (.expr [] (.call 53 (.cons (.var 1) .nil)))
  (.cons (.ret [] (.call 77 (.cons (.var 0) (.cons (.var 1) .nil)))) .nil)))⟩
/-- by_homes -/
def D84 : HD := ⟨1, 4,
  (.cons (.asg (.nm 1) (.comp [3] (.nm 3) (.rng [0] (.rng1 (.op .add (.mxd (.var 0) (.neg (.cint 1))) (.cint 1)))) [] .none (.lst .nil)))
  (.cons (.loop (.tp (.cons (.nm 2) (.cons (.nm 3) .nil))) (.enum (.var 0)) (
   (.cons (.app (.ix (.var 1) [3] (.var 3)) (.var 2)) .nil)))
  (.cons (.ret (.var 1)) .nil)))⟩
/-- all_homes -/
def D83 : SD := ⟨1, 6,
  (.cons (.asg [] (.nm 1) (.lst (.cons (.lst .nil) .nil)))
  (.cons (.loop [] (.nm 2) (.rng1 (.var 0)) (
   (.cons (.own [] 3 (.lst .nil))
   (.cons (.loop [] (.nm 4) (.seq (.var 1)) (
    (.cons (.ext [] 3 (.comp [5] (.nm 5) (.rng1 (.op .add (.mxd (.var 4) (.neg (.cint 1))) (.cint 2))) .none (.op .add (.var 4) (.lst (.cons (.var 5) .nil))))) .nil)))
   (.cons (.asg [3] (.nm 1) (.var 3)) .nil)))))
  (.cons (.ret [] (.var 1)) .nil)))⟩
/-- groupings_of -/
def D85 : HD := ⟨2, 4,
  (.cons (.ret (.comp [2] (.nm 2) (.seq (.comp [3] (.nm 3) (.seq (.pu [0] (.call 83 (.cons (.var 0) .nil)))) [] .none (.call 84 (.cons (.var 3) .nil)))) [1, 2] (.some (.call 77 (.cons (.var 2) (.cons (.var 1) .nil)))) (.var 2))) .nil)⟩
/-- groupings -/
def D78 : HD := ⟨2, 2,
  (.cons (.expr (.pu [0] (.call 60 (.cons (.var 0) (.cons (.glob 9) .nil)))))
  (.cons (.expr (.pu [1] (.call 53 (.cons (.var 1) .nil))))
  (.cons (.ret (.call 85 (.cons (.var 0) (.cons (.var 1) .nil)))) .nil)))⟩
/-- _law_says -/
def D81 : SD := ⟨2, 2,
  (.cons (.ret [] (.bop true (.cons (.isi (.var 0) .bool) (.cons (.op .eq (.var 0) (.var 1)) .nil)))) .nil)⟩
/-- _law_nested -/
def D65 : SD := ⟨1, 8,
  (.cons (.loop [] (.tp (.cons (.nm 1) (.cons (.nm 2) .nil))) (.enum (.var 0)) (
   (.cons (.loop [] (.nm 3) (.seq (.op .add (.sl (.var 0) .none (.some (.var 1))) (.sl (.var 0) (.some (.op .add (.var 1) (.cint 1))) .none))) (
    (.cons (.loop [] (.tp (.cons (.nm 4) (.cons (.nm 5) .nil))) (.zip (.var 2) (.sl (.var 2) (.some (.cint 1)) .none)) (
     (.cons (.asg [] (.nm 6) (.comp [7] (.nm 7) (.seq (.var 3)) (.some (.chain .lt .lt (.var 4) (.var 7) (.var 5))) (.var 7)))
     (.cons (.iff [] (.bop true (.cons (.op .ne (.var 6) (.lst .nil)) (.cons (.op .gt (.bi .max1 (.cons (.var 3) .nil)) (.var 5)) .nil))) (
      (.cons (.ret [] (.cbl false)) .nil)) ( .nil)) .nil)))) .nil))) .nil)))
  (.cons (.ret [] (.cbl true)) .nil))⟩
/-- _law_of_kind -/
def D66 : SD := ⟨2, 3,
  (.cons (.iff [] (.op .eq (.var 1) (.cstr "nested")) (
   (.cons (.ret [] (.call 65 (.cons (.var 0) .nil))) .nil)) ( .nil))
  (.cons (.ret [] (.bop false (.cons (.op .eq (.var 1) (.cstr "all")) (.cons (.bi .all (.cons (.comp [2] (.nm 2) (.seq (.var 0)) .none (.op .eq (.var 2) (.lrng (.cons (.ix (.var 2) (.cint 0)) (.cons (.op .add (.ix (.var 2) (.neg (.cint 1))) (.cint 1)) .nil))))) .nil)) .nil)))) .nil))⟩
/-- _law_groupings -/
def D68 : SD := ⟨2, 8,
  (.cons (.asg [] (.nm 2) (.lst (.cons (.lst .nil) .nil)))
  (.cons (.loop [] (.nm 3) (.rng1 (.var 0)) (
   (.cons (.own [] 4 (.lst .nil))
   (.cons (.loop [] (.nm 5) (.seq (.var 2)) (
    (.cons (.loop [] (.tp (.cons (.nm 6) (.cons (.nm 7) .nil))) (.enum (.var 5)) (
     (.cons (.app [] 4 (.op .add (.op .add (.sl (.var 5) .none (.some (.var 6))) (.lst (.cons (.op .add (.var 7) (.lst (.cons (.var 3) .nil))) .nil))) (.sl (.var 5) (.some (.op .add (.var 6) (.cint 1))) .none))) .nil)))
    (.cons (.app [] 4 (.op .add (.var 5) (.lst (.cons (.lst (.cons (.var 3) .nil)) .nil)))) .nil))))
   (.cons (.asg [4] (.nm 2) (.var 4)) .nil)))))
  (.cons (.ret [] (.comp [5] (.nm 5) (.seq (.var 2)) (.some (.call 66 (.cons (.var 5) (.cons (.var 1) .nil)))) (.var 5))) .nil)))⟩
/-- _law_homes -/
def D79 : HD := ⟨2, 6,
  (.cons (.asg (.nm 2) (.puF [1] (.op .mul (.lst (.cons (.cint 0) .nil)) (.var 1))))
  (.cons (.loop (.tp (.cons (.nm 3) (.cons (.nm 4) .nil))) (.enum (.var 0)) (
   (.cons (.loop (.nm 5) (.seq (.var 4)) (
    (.cons (.set (.var 2) [5] (.var 5) (.var 3)) .nil))) .nil)))
  (.cons (.ret (.var 2)) .nil)))⟩
/-- _law_right -/
def D80 : HD := ⟨2, 10,
  (.cons (.asg (.nm 2) (.puF [0, 1] (.call 68 (.cons (.var 0) (.cons (.var 1) .nil)))))
  (.cons (.loop (.nm 3) (.rng [] (.rng1 (.cint 2))) (
   (.cons (.asg (.nm 4) (.call 78 (.cons (.var 0) (.cons (.var 1) .nil))))
   (.cons (.iff [4, 6] (.bop false (.cons (.not1 (.isi (.var 4) .list)) (.cons (.not1 (.bi .all (.cons (.comp [6] (.nm 6) (.seq (.var 4)) .none (.isi (.var 6) .list)) .nil))) .nil))) (
    (.cons (.ret (.pu [] (.cbl false))) .nil)) ( .nil))
   (.cons (.iff [4, 6, 9] (.not1 (.bi .all (.cons (.comp [6] (.nm 6) (.seq (.var 4)) .none (.bi .all (.cons (.comp [9] (.nm 9) (.seq (.var 6)) .none (.isi (.var 9) .list)) .nil))) .nil))) (
    (.cons (.ret (.pu [] (.cbl false))) .nil)) ( .nil))
   (.cons (.asg (.nm 5) (.comp [6] (.nm 6) (.seq (.var 4)) [] .none (.call 79 (.cons (.var 6) (.cons (.var 0) .nil)))))
   (.cons (.iff [2, 4, 5, 7, 8] (.bop false (.cons (.op .ne (.bi .len (.cons (.var 4) .nil)) (.bi .len (.cons (.var 2) .nil))) (.cons (.bi .any (.cons (.comp [7, 8] (.tp (.cons (.nm 7) (.cons (.nm 8) .nil))) (.zip (.var 5) (.sl (.var 5) (.some (.cint 1)) .none)) .none (.op .ge (.var 7) (.var 8))) .nil)) .nil))) (
    (.cons (.ret (.pu [] (.cbl false))) .nil)) ( .nil))
   (.cons (.iff [2, 4, 6] (.not1 (.bi .all (.cons (.comp [6] (.nm 6) (.seq (.var 4)) .none (.op .inn (.var 6) (.var 2))) .nil))) (
    (.cons (.ret (.pu [] (.cbl false))) .nil)) ( .nil))
   (.cons (.loop (.nm 6) (.seq (.var 4)) (
    (.cons (.app (.var 6) (.lst (.cons (.pu [] (.cint 0)) .nil))) .nil)))
   (.cons (.app (.var 4) (.lst .nil)) .nil))))))))))
  (.cons (.ret (.pu [] (.cbl true))) .nil)))⟩
/-- law -/
def D86 : SD := ⟨1, 5,
  (.cons (.asg [] (.nm 1) (.call 17 (.cons (.op .mod (.call 16 (.cons (.var 0) (.cons (.cint 0) .nil))) (.op .pow (.cint 10) (.cint 18))) (.cons (.cint 3) (.cons (.cint 7) .nil)))))
  (.cons (.loop [] (.nm 2) (.seq (.tup (.cons (.cstr "all") (.cons (.cstr "nested") (.cons (.cstr "rows") .nil))))) (
   (.cons (.iff [] (.bop false (.cons (.not1 (.call 80 (.cons (.var 1) (.cons (.var 2) .nil)))) (.cons (.not1 (.call 80 (.cons (.bi .min2 (.cons (.var 1) (.cons (.cint 4) .nil))) (.cons (.var 2) .nil)))) .nil))) (
    (.cons (.ret [] (.cbl false)) .nil)) ( .nil)) .nil)))
  (.cons (.loop [] (.nm 3) (.seq (.call 68 (.cons (.bi .min2 (.cons (.var 1) (.cons (.cint 5) .nil))) (.cons (.cstr "all") .nil)))) (
   (.cons (.loop [] (.nm 2) (.seq (.tup (.cons (.cstr "all") (.cons (.cstr "nested") (.cons (.cstr "rows") .nil))))) (
    (.cons (.iff [] (.not1 (.call 81 (.cons (.call 82 (.cons (.comp [4] (.nm 4) (.seq (.var 3)) .none (.bi .list (.cons (.var 4) .nil))) (.cons (.var 2) .nil))) (.cons (.call 66 (.cons (.var 3) (.cons (.var 2) .nil))) .nil)))) (
     (.cons (.ret [] (.cbl false)) .nil)) ( .nil)) .nil))) .nil)))
  (.cons (.iff [] (.bop false (.cons (.op .ne (.call 78 (.cons (.cint 0) (.cons (.cstr "rows") .nil))) (.lst (.cons (.lst .nil) .nil))) (.cons (.op .ne (.call 78 (.cons (.cint 2) (.cons (.cstr "nested") .nil))) (.lst (.cons (.lst (.cons (.lst (.cons (.cint 0) (.cons (.cint 1) .nil))) .nil)) (.cons (.lst (.cons (.lst (.cons (.cint 0) .nil)) (.cons (.lst (.cons (.cint 1) .nil)) .nil))) .nil)))) .nil))) (
   (.cons (.ret [] (.cbl false)) .nil)) ( .nil))
  (.cons (.ret [] (.bop true (.cons (.op .is (.call 82 (.cons (.lst (.cons (.lst (.cons (.cint 0) (.cons (.cint 2) .nil))) (.cons (.lst (.cons (.cint 1) (.cons (.cint 3) .nil))) .nil))) (.cons (.cstr "nested") .nil))) (.cbl false)) (.cons (.op .is (.call 82 (.cons (.lst (.cons (.lst (.cons (.cint 0) (.cons (.cint 2) .nil))) (.cons (.lst (.cons (.cint 1) .nil)) .nil))) (.cons (.cstr "nested") .nil))) (.cbl true)) .nil)))) .nil)))))⟩
/-- catalan -/
def D61 : SD := ⟨1, 3,
  (.cons (.asg [] (.nm 1) (.cint 1))
  (.cons (.loop [] (.nm 2) (.rng1 (.var 0)) (
   (.cons (.asg [] (.nm 1) (.op .fdiv (.op .mul (.op .mul (.var 1) (.cint 2)) (.op .add (.op .mul (.cint 2) (.var 2)) (.cint 1))) (.op .add (.var 2) (.cint 2)))) .nil)))
  (.cons (.ret [] (.var 1)) .nil)))⟩
/-- how_many -/
def D62 : SD := ⟨2, 6,
  (.cons (.expr [] (.call 60 (.cons (.var 0) (.cons (.glob 8) .nil))))
  (.cons (.expr [] (.call 53 (.cons (.var 1) .nil)))
  (.cons (.iff [] (.op .eq (.var 1) (.cstr "nested")) (
   (.cons (.ret [] (.call 61 (.cons (.var 0) .nil))) .nil)) ( .nil))
  (.cons (.iff [] (.op .eq (.var 1) (.cstr "rows")) (
   (.cons (.ret [] (.ite (.op .eq (.var 0) (.cint 0)) (.cint 1) (.op .shl (.cint 1) (.op .sub (.var 0) (.cint 1))))) .nil)) ( .nil))
  (.cons (.asg [] (.nm 2) (.lst (.cons (.cint 1) .nil)))
  (.cons (.loop [] (.nm 3) (.rng1 (.var 0)) (
   (.cons (.own [] 4 (.lst (.cons (.ix (.var 2) (.neg (.cint 1))) .nil)))
   (.cons (.loop [] (.nm 5) (.seq (.var 2)) (
    (.cons (.app [4] 4 (.op .add (.ix (.var 4) (.neg (.cint 1))) (.var 5))) .nil)))
   (.cons (.asg [4] (.nm 2) (.var 4)) .nil)))))
  (.cons (.ret [] (.ix (.var 2) (.cint 0))) .nil)))))))⟩
/-- _law_counts -/
def D87 : SD := ⟨2, 10,
  (.cons (.parO [] 2 3 (.lst (.cons (.cint 1) .nil)) (.lst (.cons (.cint 1) .nil)))
  (.cons (.loop [] (.nm 4) (.rng2 (.cint 1) (.op .add (.var 1) (.cint 1))) (
   (.cons (.asg [] (.nm 5) (.cint 0))
   (.cons (.loop [] (.nm 6) (.rng2 (.cint 1) (.op .add (.var 4) (.cint 1))) (
    (.cons (.iff [] (.op .eq (.var 0) (.cstr "rows")) (
     (.cons (.asg [2] (.nm 5) (.op .add (.var 5) (.ix (.var 2) (.op .sub (.var 4) (.var 6))))) .nil)) ( .nil))
    (.cons (.iff [] (.op .eq (.var 0) (.cstr "all")) (
     (.cons (.asg [2] (.nm 5) (.op .add (.var 5) (.op .mul (.ix (.var 3) (.op .sub (.var 6) (.cint 1))) (.ix (.var 2) (.op .sub (.var 4) (.var 6)))))) .nil)) ( .nil)) .nil))))
   (.cons (.iff [] (.op .eq (.var 0) (.cstr "nested")) (
    (.cons (.loop [] (.nm 7) (.rng1 (.var 4)) (
     (.cons (.asg [2] (.nm 5) (.op .add (.var 5) (.op .mul (.ix (.var 2) (.var 7)) (.ix (.var 2) (.op .sub (.op .sub (.var 4) (.cint 1)) (.var 7)))))) .nil))) .nil)) ( .nil))
   (.cons (.app [] 2 (.var 5))
   (.cons (.asg [] (.nm 3) (.op .add (.op .add (.lst (.cons (.cint 1) .nil)) (.comp [8, 9] (.tp (.cons (.nm 8) (.cons (.nm 9) .nil))) (.zip (.var 3) (.sl (.var 3) (.some (.cint 1)) .none)) .none (.op .add (.var 8) (.var 9)))) (.lst (.cons (.cint 1) .nil)))) .nil)))))))
  (.cons (.retv 2) .nil)))⟩
/-- law -/
def D88 : SD := ⟨1, 6,
  (.cons (.asg [] (.nm 0) (.sl (.var 0) .none (.some (.cint 63))))
  (.cons (.asg [] (.nm 1) (.op .add (.cint 12) (.call 17 (.cons (.op .mod (.call 16 (.cons (.var 0) (.cons (.cint 0) .nil))) (.op .pow (.cint 10) (.cint 18))) (.cons (.cint 2) (.cons (.cint 30) .nil))))))
  (.cons (.iff [] (.op .eq (.call 17 (.cons (.op .mod (.call 16 (.cons (.var 0) (.cons (.cint 0) .nil))) (.op .pow (.cint 10) (.cint 18))) (.cons (.cint 5) (.cons (.cint 40) .nil)))) (.cint 0)) (
   (.cons (.asg [] (.nm 1) (.cint 200)) .nil)) ( .nil))
  (.cons (.loop [] (.nm 2) (.seq (.tup (.cons (.cstr "all") (.cons (.cstr "nested") (.cons (.cstr "rows") .nil))))) (
   (.cons (.asg [] (.nm 3) (.call 87 (.cons (.var 2) (.cons (.var 1) .nil))))
   (.cons (.loop [] (.nm 4) (.seq (.op .add (.lrng (.cons (.cint 9) .nil)) (.lst (.cons (.var 1) (.cons (.op .sub (.var 1) (.cint 1)) (.cons (.op .mod (.call 18 (.cons (.call 16 (.cons (.var 0) (.cons (.cint 1) .nil))) (.cons (.cint 2) .nil))) (.op .add (.var 1) (.cint 1))) .nil)))))) (
    (.cons (.asg [] (.nm 5) (.call 62 (.cons (.var 4) (.cons (.var 2) .nil))))
    (.cons (.iff [] (.bop false (.cons (.not1 (.call 20 (.cons (.var 5) .nil))) (.cons (.op .ne (.var 5) (.ix (.var 3) (.var 4))) .nil))) (
     (.cons (.ret [] (.cbl false)) .nil)) ( .nil)) .nil))))
   (.cons (.loop [] (.nm 4) (.rng1 (.cint 6)) (
    (.cons (.iff [] (.op .ne (.bi .len (.cons (.call 78 (.cons (.var 4) (.cons (.var 2) .nil))) .nil)) (.ix (.var 3) (.var 4))) (
     (.cons (.ret [] (.cbl false)) .nil)) ( .nil)) .nil))) .nil)))))
  (.cons (.ret [] (.op .eq (.comp [2] (.nm 2) (.seq (.tup (.cons (.cstr "all") (.cons (.cstr "nested") (.cons (.cstr "rows") .nil))))) .none (.call 62 (.cons (.cint 4) (.cons (.var 2) .nil)))) (.lst (.cons (.cint 15) (.cons (.cint 14) (.cons (.cint 8) .nil)))))) .nil)))))⟩
/-- things_of -/
def D89 : SD := ⟨1, 2,
  (.cons (.ret [] (.bi .sum (.cons (.comp [1] (.nm 1) (.seq (.var 0)) .none (.bi .len (.cons (.var 1) .nil))) .nil))) .nil)⟩
/-- check_two -/
def D91 : SD := ⟨2, 2,
  (.cons (.expr [] (.call 76 (.cons (.var 0) .nil)))
  (.cons (.expr [] (.call 76 (.cons (.var 1) .nil)))
  (.cons (.iff [] (.op .ne (.call 89 (.cons (.var 0) .nil)) (.call 89 (.cons (.var 1) .nil))) (
   (.cons (.raise 4) .nil)) ( .nil)) .nil)))⟩
/-- within -/
def D92 : SD := ⟨2, 2,
  (.cons (.expr [] (.call 91 (.cons (.var 0) (.cons (.var 1) .nil))))
  (.cons (.ret [] (.call 90 (.cons (.var 0) (.cons (.var 1) .nil)))) .nil))⟩
/-- joined -/
def D94 : HD := ⟨2, 2,
  (.cons (.expr (.pu [0, 1] (.call 91 (.cons (.var 0) (.cons (.var 1) .nil)))))
  (.cons (.ret (.call 93 (.cons (.var 0) (.cons (.var 1) .nil)))) .nil))⟩
/-- _law_within -/
def D95 : SD := ⟨2, 5,
  (.cons (.loop [] (.nm 2) (.seq (.var 0)) (
   (.cons (.iff [] (.not1 (.bi .any (.cons (.comp [3] (.nm 3) (.seq (.var 1)) .none (.bi .all (.cons (.comp [4] (.nm 4) (.seq (.var 2)) .none (.op .inn (.var 4) (.var 3))) .nil))) .nil))) (
    (.cons (.ret [] (.cbl false)) .nil)) ( .nil)) .nil)))
  (.cons (.ret [] (.cbl true)) .nil))⟩
/-- _law_drawn -/
def D96 : HD := ⟨2, 5,
  (.cons (.asg (.nm 2) (.lst .nil))
  (.cons (.loop (.nm 3) (.rng [1] (.rng1 (.var 1))) (
   (.cons (.asg (.nm 4) (.pu [0, 2, 3] (.op .mod (.call 18 (.cons (.var 0) (.cons (.op .add (.var 3) (.cint 2)) .nil))) (.op .add (.bi .len (.cons (.var 2) .nil)) (.cint 1)))))
   (.cons (.iff [2, 4] (.op .eq (.var 4) (.bi .len (.cons (.var 2) .nil))) (
    (.cons (.app (.var 2) (.lst .nil)) .nil)) ( .nil))
   (.cons (.app (.ix (.var 2) [4] (.var 4)) (.var 3)) .nil)))))
  (.cons (.ret (.var 2)) .nil)))⟩
/-- _law_right -/
def D97 : HD := ⟨3, 8,
  (.cons (.asg (.nm 3) (.lst (.cons (.comp [7] (.nm 7) (.seq (.var 0)) [] .none (.lof (.var 7))) (.cons (.comp [7] (.nm 7) (.seq (.var 1)) [] .none (.lof (.var 7))) .nil))))
  (.cons (.iff [0, 1, 3] (.bop false (.cons (.not1 (.call 81 (.cons (.call 92 (.cons (.ix (.var 3) (.cint 0)) (.cons (.ix (.var 3) (.cint 1)) .nil))) (.cons (.call 95 (.cons (.var 0) (.cons (.var 1) .nil))) .nil)))) (.cons (.op .ne (.var 3) (.lst (.cons (.var 0) (.cons (.var 1) .nil)))) .nil))) (
   (.cons (.ret (.pu [] (.cbl false))) .nil)) ( .nil))
  (.cons (.loop (.nm 4) (.rng [] (.rng1 (.cint 2))) (
   (.cons (.asg (.nm 5) (.call 94 (.cons (.ix (.var 3) [] (.cint 0)) (.cons (.ix (.var 3) [] (.cint 1)) .nil))))
   (.cons (.iff [0, 1, 2, 5] (.bop false (.cons (.op .nin (.var 5) (.var 2)) (.cons (.not1 (.call 95 (.cons (.var 0) (.cons (.var 5) .nil)))) (.cons (.not1 (.call 95 (.cons (.var 1) (.cons (.var 5) .nil)))) .nil)))) (
    (.cons (.ret (.pu [] (.cbl false))) .nil)) ( .nil))
   (.cons (.loop (.nm 6) (.seq (.var 2)) (
    (.cons (.iff [0, 1, 5, 6] (.bop true (.cons (.call 95 (.cons (.var 0) (.cons (.var 6) .nil))) (.cons (.call 95 (.cons (.var 1) (.cons (.var 6) .nil))) (.cons (.not1 (.call 95 (.cons (.var 5) (.cons (.var 6) .nil)))) .nil)))) (
     (.cons (.ret (.pu [] (.cbl false))) .nil)) ( .nil)) .nil)))
   (.cons (.iff [0, 1, 3, 5] (.bop false (.cons (.op .ne (.call 94 (.cons (.var 1) (.cons (.var 0) .nil))) (.var 5)) (.cons (.op .ne (.var 3) (.lst (.cons (.var 0) (.cons (.var 1) .nil)))) .nil))) (
    (.cons (.ret (.pu [] (.cbl false))) .nil)) ( .nil))
   (.cons (.loop (.nm 7) (.seq (.var 5)) (
    (.cons (.app (.var 7) (.pu [] (.cint 0))) .nil)))
   (.cons (.app (.var 5) (.lst .nil)) .nil))))))))
  (.cons (.ret (.pu [] (.cbl true))) .nil))))⟩
/-- law -/
def D98 : SD := ⟨1, 10,
  (.cons (.asg [] (.nm 0) (.sl (.var 0) .none (.some (.cint 63))))
  (.cons (.loop [] (.nm 1) (.rng3 (.cint 0) (.bi .max2 (.cons (.cint 1) (.cons (.bi .len (.cons (.var 0) .nil)) .nil))) (.op .add (.cint 1) (.op .fdiv (.bi .len (.cons (.var 0) .nil)) (.cint 3)))) (
   (.cons (.asg [] (.nm 2) (.call 16 (.cons (.var 0) (.cons (.var 1) .nil))))
   (.cons (.asg [] (.nm 3) (.op .add (.op .mod (.call 18 (.cons (.var 2) (.cons (.cint 1) .nil))) (.cint 6)) (.bi .int (.cons (.op .eq (.op .mod (.call 18 (.cons (.var 2) (.cons (.cint 2) .nil))) (.cint 12)) (.cint 0)) .nil))))
   (.cons (.asg [] (.nm 4) (.call 68 (.cons (.var 3) (.cons (.cstr "all") .nil))))
   (.cons (.par [] 5 6 (.call 96 (.cons (.var 2) (.cons (.var 3) .nil))) (.call 96 (.cons (.op .add (.call 16 (.cons (.var 0) (.cons (.op .add (.var 1) (.cint 1)) .nil))) (.cint 5)) (.cons (.var 3) .nil))))
   (.cons (.asg [] (.nm 7) (.comp [9] (.nm 9) (.rng1 (.var 3)) .none (.lst (.cons (.var 9) .nil))))
   (.cons (.loop [] (.nm 8) (.seq (.tup (.cons (.var 6) (.cons (.var 5) (.cons (.var 7) (.cons (.ite (.op .gt (.var 3) (.cint 0)) (.lst (.cons (.lrng (.cons (.var 3) .nil)) .nil)) (.lst .nil)) .nil)))))) (
    (.cons (.iff [] (.not1 (.call 97 (.cons (.var 5) (.cons (.var 8) (.cons (.var 4) .nil))))) (
     (.cons (.ret [] (.cbl false)) .nil)) ( .nil)) .nil))) .nil))))))))
  (.cons (.ret [] (.bop true (.cons (.op .eq (.call 94 (.cons (.lst (.cons (.lst (.cons (.cint 0) (.cons (.cint 1) .nil))) (.cons (.lst (.cons (.cint 2) .nil)) (.cons (.lst (.cons (.cint 3) .nil)) .nil)))) (.cons (.lst (.cons (.lst (.cons (.cint 0) .nil)) (.cons (.lst (.cons (.cint 1) (.cons (.cint 3) .nil))) (.cons (.lst (.cons (.cint 2) .nil)) .nil)))) .nil))) (.lst (.cons (.lst (.cons (.cint 0) (.cons (.cint 1) (.cons (.cint 3) .nil)))) (.cons (.lst (.cons (.cint 2) .nil)) .nil)))) (.cons (.op .is (.call 92 (.cons (.lst (.cons (.lst (.cons (.cint 0) .nil)) (.cons (.lst (.cons (.cint 1) .nil)) .nil))) (.cons (.lst (.cons (.lst (.cons (.cint 0) (.cons (.cint 1) .nil))) .nil)) .nil))) (.cbl true)) .nil)))) .nil)))⟩
/-- turned_in -/
def D100 : HD := ⟨1, 1,
  (.cons (.expr (.pu [0] (.call 76 (.cons (.var 0) .nil))))
  (.cons (.iff [0] (.not1 (.call 77 (.cons (.var 0) (.cons (.cstr "nested") .nil)))) (
   (.cons (.raise 4) .nil)) ( .nil))
  (.cons (.ret (.call 99 (.cons (.var 0) .nil))) .nil)))⟩
/-- _law_both -/
def D101 : SD := ⟨2, 6,
  (.cons (.asg [] (.nm 2) (.comp [3] (.nm 3) (.seq (.var 0)) .none (.comp [4] (.nm 4) (.seq (.var 3)) .none (.op .mul (.cint 2) (.var 4)))))
  (.cons (.ret [] (.op .add (.var 2) (.comp [3] (.nm 3) (.seq (.var 1)) .none (.comp [5] (.nm 5) (.seq (.var 3)) .none (.op .add (.op .mul (.cint 2) (.var 5)) (.cint 1)))))) .nil))⟩
/-- _law_lowered -/
def D102 : SD := ⟨2, 4,
  (.cons (.ret [] (.bi .sorted (.cons (.comp [2] (.nm 2) (.seq (.var 0)) .none (.bi .sorted (.cons (.comp [3] (.nm 3) (.seq (.var 2)) .none (.op .mod (.op .sub (.var 3) (.cint 1)) (.var 1))) .nil))) .nil))) .nil)⟩
/-- law -/
def D103 : HD := ⟨1, 9,
  (.cons (.asg (.nm 1) (.pu [0] (.call 17 (.cons (.op .mod (.call 16 (.cons (.var 0) (.cons (.cint 0) .nil))) (.op .pow (.cint 10) (.cint 18))) (.cons (.cint 3) (.cons (.cint 7) .nil))))))
  (.cons (.asg (.nm 2) (.puF [1] (.call 68 (.cons (.var 1) (.cons (.cstr "nested") .nil)))))
  (.cons (.loop (.nm 3) (.seq (.var 2)) (
   (.cons (.asg (.nm 4) (.comp [6] (.nm 6) (.seq (.var 3)) [] .none (.lof (.var 6))))
   (.cons (.asg (.nm 5) (.call 100 (.cons (.var 4) .nil)))
   (.cons (.iff [2, 3, 4, 5] (.bop false (.cons (.op .nin (.var 5) (.var 2)) (.cons (.op .ne (.var 4) (.var 3)) (.cons (.not1 (.call 65 (.cons (.call 101 (.cons (.var 3) (.cons (.var 5) .nil))) .nil))) .nil)))) (
    (.cons (.ret (.pu [] (.cbl false))) .nil)) ( .nil))
   (.cons (.iff [1, 3, 5] (.op .ne (.op .add (.bi .len (.cons (.var 5) .nil)) (.bi .len (.cons (.var 3) .nil))) (.ite (.op .gt (.var 1) (.cint 0)) (.op .add (.var 1) (.cint 1)) (.cint 0))) (
    (.cons (.ret (.pu [] (.cbl false))) .nil)) ( .nil))
   (.cons (.iff [1, 3, 5] (.op .ne (.call 100 (.cons (.var 5) .nil)) (.call 102 (.cons (.var 3) (.cons (.var 1) .nil)))) (
    (.cons (.ret (.pu [] (.cbl false))) .nil)) ( .nil))
   (.cons (.iff [1] (.op .lt (.var 1) (.cint 6)) (
    (.cons (.asg (.nm 7) (.comp [8] (.nm 8) (.seq (.var 2)) [5, 8] (.some (.bop false (.cons (.op .lt (.bi .len (.cons (.var 8) .nil)) (.bi .len (.cons (.var 5) .nil))) (.cons (.bop true (.cons (.op .eq (.bi .len (.cons (.var 8) .nil)) (.bi .len (.cons (.var 5) .nil))) (.cons (.op .ne (.var 8) (.var 5)) .nil))) .nil)))) (.var 8)))
    (.cons (.iff [3, 7, 8] (.bi .any (.cons (.comp [8] (.nm 8) (.seq (.var 7)) .none (.call 65 (.cons (.call 101 (.cons (.var 3) (.cons (.var 8) .nil))) .nil))) .nil)) (
     (.cons (.ret (.pu [] (.cbl false))) .nil)) ( .nil)) .nil))) ( .nil))
   (.cons (.loop (.nm 6) (.seq (.var 5)) (
    (.cons (.app (.var 6) (.pu [] (.cint 0))) .nil)))
   (.cons (.iff [3, 4, 5] (.bop false (.cons (.op .ne (.bi .len (.cons (.call 100 (.cons (.var 4) .nil)) .nil)) (.bi .len (.cons (.var 5) .nil))) (.cons (.op .ne (.var 4) (.var 3)) .nil))) (
    (.cons (.ret (.pu [] (.cbl false))) .nil)) ( .nil)) .nil))))))))))
  (.cons (.ret (.pu [] (.bop true (.cons (.op .eq (.call 100 (.cons (.lst (.cons (.lst (.cons (.cint 0) (.cons (.cint 2) .nil))) (.cons (.lst (.cons (.cint 1) .nil)) .nil))) .nil)) (.lst (.cons (.lst (.cons (.cint 0) (.cons (.cint 1) .nil))) (.cons (.lst (.cons (.cint 2) .nil)) .nil)))) (.cons (.op .eq (.call 100 (.cons (.lst .nil) .nil)) (.lst .nil)) (.cons (.op .eq (.call 100 (.cons (.lst (.cons (.lst (.cons (.cint 0) .nil)) .nil)) .nil)) (.lst (.cons (.lst (.cons (.cint 0) .nil)) .nil))) .nil)))))) .nil))))⟩
/-- signed -/
def D104 : SD := ⟨2, 2,
  (.cons (.ret [] (.ite (.op .eq (.op .mod (.var 1) (.cint 2)) (.cint 0)) (.var 0) (.neg (.var 0)))) .nil)⟩
/-- mark_of -/
def D105 : SD := ⟨2, 6,
  (.cons (.asg [] (.nm 2) (.bi .max2 (.cons (.cint 0) (.cons (.op .sub (.bi .len (.cons (.var 0) .nil)) (.cint 1)) .nil))))
  (.cons (.iff [] (.op .eq (.var 1) (.cstr "rows")) (
   (.cons (.ret [] (.call 104 (.cons (.cint 1) (.cons (.var 2) .nil)))) .nil)) ( .nil))
  (.cons (.asg [] (.nm 3) (.cint 1))
  (.cons (.iff [] (.op .eq (.var 1) (.cstr "all")) (
   (.cons (.loop [] (.nm 4) (.rng2 (.cint 2) (.op .add (.var 2) (.cint 1))) (
    (.cons (.asg [] (.nm 3) (.op .mul (.var 3) (.var 4))) .nil)))
   (.cons (.ret [] (.call 104 (.cons (.var 3) (.cons (.var 2) .nil)))) .nil))) ( .nil))
  (.cons (.loop [] (.nm 5) (.seq (.call 99 (.cons (.var 0) .nil))) (
   (.cons (.asg [] (.nm 3) (.op .mul (.var 3) (.call 104 (.cons (.call 61 (.cons (.op .sub (.bi .len (.cons (.var 5) .nil)) (.cint 1)) .nil)) (.cons (.op .sub (.bi .len (.cons (.var 5) .nil)) (.cint 1)) .nil))))) .nil)))
  (.cons (.ret [] (.var 3)) .nil))))))⟩
/-- mark -/
def D106 : SD := ⟨2, 2,
  (.cons (.expr [] (.call 76 (.cons (.var 0) .nil)))
  (.cons (.expr [] (.call 53 (.cons (.var 1) .nil)))
  (.cons (.iff [] (.not1 (.call 77 (.cons (.var 0) (.cons (.var 1) .nil)))) (
   (.cons (.raise 4) .nil)) ( .nil))
  (.cons (.ret [] (.call 105 (.cons (.var 0) (.cons (.var 1) .nil)))) .nil))))⟩
/-- _law_right -/
def D107 : SD := ⟨2, 11,
  (.cons (.asg [] (.nm 2) (.call 68 (.cons (.var 0) (.cons (.var 1) .nil))))
  (.cons (.own [] 3 (.lst .nil))
  (.cons (.loop [] (.nm 4) (.seq (.var 2)) (
   (.cons (.asg [] (.nm 5) (.comp [8] (.nm 8) (.seq (.var 4)) .none (.bi .list (.cons (.var 8) .nil))))
   (.cons (.app [] 3 (.call 106 (.cons (.var 5) (.cons (.var 1) .nil))))
   (.cons (.iff [3] (.bop false (.cons (.not1 (.call 20 (.cons (.ix (.var 3) (.neg (.cint 1))) .nil))) (.cons (.op .ne (.var 5) (.var 4)) .nil))) (
    (.cons (.ret [] (.cbl false)) .nil)) ( .nil)) .nil)))))
  (.cons (.loop [] (.nm 6) (.seq (.var 2)) (
   (.cons (.asg [3] (.nm 7) (.bi .sum (.cons (.comp [9, 10] (.tp (.cons (.nm 9) (.cons (.nm 10) .nil))) (.enum (.var 2)) (.some (.call 95 (.cons (.var 6) (.cons (.var 10) .nil)))) (.ix (.var 3) (.var 9))) .nil)))
   (.cons (.iff [] (.op .ne (.var 7) (.bi .int (.cons (.op .lt (.bi .len (.cons (.var 6) .nil)) (.cint 2)) .nil))) (
    (.cons (.ret [] (.cbl false)) .nil)) ( .nil)) .nil))))
  (.cons (.ret [] (.cbl true)) .nil)))))⟩
/-- law -/
def D108 : SD := ⟨1, 5,
  (.cons (.asg [] (.nm 1) (.op .mod (.call 16 (.cons (.var 0) (.cons (.cint 0) .nil))) (.op .pow (.cint 10) (.cint 18))))
  (.cons (.asg [] (.nm 2) (.call 17 (.cons (.var 1) (.cons (.cint 3) (.cons (.cint 6) .nil)))))
  (.cons (.loop [] (.nm 3) (.seq (.tup (.cons (.cstr "all") (.cons (.cstr "nested") (.cons (.cstr "rows") .nil))))) (
   (.cons (.iff [] (.not1 (.call 107 (.cons (.var 2) (.cons (.var 3) .nil)))) (
    (.cons (.ret [] (.cbl false)) .nil)) ( .nil)) .nil)))
  (.cons (.iff [] (.bop true (.cons (.op .eq (.call 17 (.cons (.var 1) (.cons (.cint 5) (.cons (.cint 16) .nil)))) (.cint 0)) (.cons (.not1 (.call 107 (.cons (.cint 6) (.cons (.ix (.tup (.cons (.cstr "nested") (.cons (.cstr "rows") .nil))) (.call 17 (.cons (.var 1) (.cons (.cint 7) (.cons (.cint 2) .nil))))) .nil)))) .nil))) (
   (.cons (.ret [] (.cbl false)) .nil)) ( .nil))
  (.cons (.asg [] (.nm 4) (.lst (.cons (.lst (.cons (.cint 0) .nil)) (.cons (.lst (.cons (.cint 1) .nil)) (.cons (.lst (.cons (.cint 2) .nil)) (.cons (.lst (.cons (.cint 3) .nil)) .nil))))))
  (.cons (.ret [] (.op .eq (.comp [3] (.nm 3) (.seq (.tup (.cons (.cstr "all") (.cons (.cstr "nested") (.cons (.cstr "rows") .nil))))) .none (.call 106 (.cons (.var 4) (.cons (.var 3) .nil)))) (.lst (.cons (.neg (.cint 6)) (.cons (.neg (.cint 5)) (.cons (.neg (.cint 1)) .nil)))))) .nil))))))⟩
/-- are_numbers -/
def D27 : SD := ⟨1, 2,
  (.cons (.ret [] (.bop true (.cons (.isi (.var 0) .list) (.cons (.bi .all (.cons (.comp [1] (.nm 1) (.seq (.var 0)) .none (.call 1 (.cons (.var 1) .nil))) .nil)) .nil)))) .nil)⟩
/-- is_row -/
def D28 : SD := ⟨1, 1,
  (.cons (.iff [] (.bop false (.cons (.not1 (.isi (.var 0) .tuple)) (.cons (.op .ne (.bi .len (.cons (.var 0) .nil)) (.cint 2)) (.cons (.not1 (.call 1 (.cons (.ix (.var 0) (.cint 0)) .nil))) (.cons (.op .lt (.ix (.var 0) (.cint 0)) (.cint 1)) .nil))))) (
   (.cons (.ret [] (.cbl false)) .nil)) ( .nil))
  (.cons (.ret [] (.bop true (.cons (.call 27 (.cons (.ix (.var 0) (.cint 1)) .nil)) (.cons (.chain .le .le (.cint 1) (.bi .len (.cons (.ix (.var 0) (.cint 1)) .nil)) (.glob 1)) .nil)))) .nil))⟩
/-- check_table -/
def D32 : SD := ⟨1, 4,
  (.cons (.iff [] (.bop false (.cons (.not1 (.isi (.var 0) .list)) (.cons (.not1 (.chain .le .le (.cint 1) (.bi .len (.cons (.var 0) .nil)) (.glob 2))) (.cons (.not1 (.bi .all (.cons (.comp [1] (.nm 1) (.seq (.var 0)) .none (.call 28 (.cons (.var 1) .nil))) .nil))) .nil)))) (
   (.cons (.raise 5) .nil)) ( .nil))
  (.cons (.iff [] (.bi .any (.cons (.comp [2, 3] (.tp (.cons (.nm 2) (.cons (.nm 3) .nil))) (.seq (.var 0)) .none (.op .ne (.bi .len (.cons (.var 3) .nil)) (.bi .len (.cons (.ix (.ix (.var 0) (.cint 0)) (.cint 1)) .nil)))) .nil)) (
   (.cons (.raise 5) .nil)) ( .nil)) .nil))⟩
/-- letters_of -/
def D29 : SD := ⟨1, 1,
  (.cons (.ret [] (.bi .len (.cons (.ix (.ix (.var 0) (.cint 0)) (.cint 1)) .nil))) .nil)⟩
/-- is_word -/
def D30 : SD := ⟨2, 3,
  (.cons (.iff [] (.bop false (.cons (.not1 (.call 27 (.cons (.var 0) .nil))) (.cons (.op .gt (.bi .len (.cons (.var 0) .nil)) (.glob 3)) .nil))) (
   (.cons (.ret [] (.cbl false)) .nil)) ( .nil))
  (.cons (.ret [] (.bi .all (.cons (.comp [2] (.nm 2) (.seq (.var 0)) .none (.chain .le .lt (.cint 0) (.var 2) (.call 29 (.cons (.var 1) .nil)))) .nil))) .nil))⟩
/-- check_word -/
def D33 : SD := ⟨2, 2,
  (.cons (.iff [] (.not1 (.call 30 (.cons (.var 1) (.cons (.var 0) .nil)))) (
   (.cons (.raise 6) .nil)) ( .nil)) .nil)⟩
/-- product -/
def D31 : SD := ⟨2, 4,
  (.cons (.asg [] (.nm 2) (.cint 1))
  (.cons (.loop [] (.nm 3) (.seq (.var 1)) (
   (.cons (.asg [] (.nm 2) (.op .mul (.var 2) (.ix (.var 0) (.var 3)))) .nil)))
  (.cons (.ret [] (.var 2)) .nil)))⟩
/-- mean_of -/
def D34 : SD := ⟨2, 5,
  (.cons (.asg [] (.nm 2) (.bi .sum (.cons (.comp [3, 4] (.tp (.cons (.nm 3) (.cons (.nm 4) .nil))) (.seq (.var 0)) .none (.op .mul (.var 3) (.call 31 (.cons (.var 4) (.cons (.var 1) .nil))))) .nil)))
  (.cons (.ret [] (.call 3 (.cons (.var 2) (.cons (.bi .sum (.cons (.comp [3, 4] (.tp (.cons (.nm 3) (.cons (.nm 4) .nil))) (.seq (.var 0)) .none (.var 3)) .nil)) .nil)))) .nil))⟩
/-- mean -/
def D38 : SD := ⟨2, 2,
  (.cons (.expr [] (.call 32 (.cons (.var 0) .nil)))
  (.cons (.expr [] (.call 33 (.cons (.var 0) (.cons (.var 1) .nil))))
  (.cons (.ret [] (.call 34 (.cons (.var 0) (.cons (.var 1) .nil)))) .nil)))⟩
/-- _law_table -/
def D35 : SD := ⟨4, 15,
  (.cons (.asg [] (.nm 4) (.call 16 (.cons (.var 0) (.cons (.var 1) .nil))))
  (.cons (.asg [] (.nm 5) (.call 18 (.cons (.var 4) (.cons (.cint 1) .nil))))
  (.cons (.par [] 6 7 (.op .add (.cint 1) (.op .mod (.var 5) (.var 3))) (.op .mod (.op .fdiv (.var 5) (.cint 60)) (.cint 4)))
  (.cons (.own [] 8 (.lst .nil))
  (.cons (.loop [] (.nm 9) (.rng1 (.var 6)) (
   (.cons (.asg [] (.nm 10) (.call 18 (.cons (.call 16 (.cons (.var 0) (.cons (.op .add (.var 1) (.op .mod (.var 9) (.cint 5))) .nil))) (.cons (.op .add (.var 9) (.cint 2)) .nil))))
   (.cons (.asg [] (.nm 11) (.op .add (.cint 1) (.op .mod (.var 10) (.ix (.tup (.cons (.cint 3) (.cons (.cint 60) (.cons (.cint 7) (.cons (.op .pow (.cint 10) (.cint 9)) .nil))))) (.var 7)))))
   (.cons (.own [] 12 (.lst .nil))
   (.cons (.loop [] (.nm 13) (.rng1 (.var 2)) (
    (.cons (.asg [] (.nm 14) (.op .fdiv (.call 18 (.cons (.call 16 (.cons (.var 0) (.cons (.op .add (.var 1) (.var 13)) .nil))) (.cons (.op .add (.op .add (.op .mul (.cint 5) (.var 9)) (.var 13)) (.cint 3)) .nil))) (.cint 5)))
    (.cons (.app [] 12 (.op .sub (.op .mod (.var 14) (.ix (.tup (.cons (.cint 2) (.cons (.cint 7) (.cons (.cint 121) (.cons (.cint 5) .nil))))) (.var 7))) (.ix (.tup (.cons (.cint 0) (.cons (.cint 3) (.cons (.cint 60) (.cons (.cint 2) .nil))))) (.var 7)))) .nil))))
   (.cons (.app [12] 8 (.tup (.cons (.var 11) (.cons (.var 12) .nil)))) .nil)))))))
  (.cons (.retv 8) .nil))))))⟩
/-- _law_copy -/
def D36 : SD := ⟨1, 3,
  (.cons (.ret [] (.comp [1, 2] (.tp (.cons (.nm 1) (.cons (.nm 2) .nil))) (.seq (.var 0)) .none (.tup (.cons (.var 1) (.cons (.bi .list (.cons (.var 2) .nil)) .nil))))) .nil)⟩
/-- _law_word -/
def D37 : SD := ⟨3, 4,
  (.cons (.ret [] (.comp [3] (.nm 3) (.rng1 (.var 1)) .none (.op .mod (.op .fdiv (.call 18 (.cons (.var 0) (.cons (.op .add (.var 3) (.cint 1)) .nil))) (.cint 3)) (.var 2)))) .nil)⟩
/-- _law_mean -/
def D39 : SD := ⟨2, 8,
  (.cons (.asg [] (.tp (.cons (.nm 2) (.cons (.nm 3) .nil))) (.tup (.cons (.cint 0) (.cons (.cint 0) .nil))))
  (.cons (.loop [] (.tp (.cons (.nm 4) (.cons (.nm 5) .nil))) (.seq (.var 0)) (
   (.cons (.asg [] (.nm 6) (.var 4))
   (.cons (.loop [] (.nm 7) (.seq (.var 1)) (
    (.cons (.asg [] (.nm 6) (.op .mul (.var 6) (.ix (.var 5) (.var 7)))) .nil)))
   (.cons (.par [] 2 3 (.op .add (.var 2) (.var 6)) (.op .add (.var 3) (.var 4))) .nil)))))
  (.cons (.ret [] (.call 19 (.cons (.var 2) (.cons (.var 3) .nil)))) .nil)))⟩
/-- law -/
def D40 : SD := ⟨1, 12,
  (.cons (.asg [] (.nm 0) (.sl (.var 0) .none (.some (.cint 63))))
  (.cons (.loop [] (.nm 1) (.seq (.tup (.cons (.cint 0) (.cons (.cint 3) .nil)))) (
   (.cons (.asg [] (.nm 2) (.op .add (.cint 1) (.op .mod (.call 18 (.cons (.call 16 (.cons (.var 0) (.cons (.var 1) .nil))) (.cons (.cint 4) .nil))) (.cint 4))))
   (.cons (.asg [] (.nm 3) (.call 35 (.cons (.var 0) (.cons (.var 1) (.cons (.var 2) (.cons (.cint 6) .nil))))))
   (.cons (.asg [] (.nm 4) (.call 36 (.cons (.var 3) .nil)))
   (.cons (.loop [] (.nm 5) (.rng1 (.cint 7)) (
    (.cons (.asg [] (.nm 6) (.call 37 (.cons (.call 16 (.cons (.var 0) (.cons (.op .add (.var 1) (.var 5)) .nil))) (.cons (.var 5) (.cons (.var 2) .nil)))))
    (.cons (.asg [] (.nm 7) (.bi .list (.cons (.var 6) .nil)))
    (.cons (.asg [] (.nm 8) (.call 38 (.cons (.var 4) (.cons (.var 7) .nil))))
    (.cons (.iff [] (.bop false (.cons (.not1 (.call 21 (.cons (.var 8) .nil))) (.cons (.op .ne (.var 8) (.call 39 (.cons (.var 3) (.cons (.var 6) .nil)))) (.cons (.op .ne (.lst (.cons (.var 4) (.cons (.var 7) .nil))) (.lst (.cons (.var 3) (.cons (.var 6) .nil)))) .nil)))) (
     (.cons (.ret [] (.cbl false)) .nil)) ( .nil))
    (.cons (.asg [] (.nm 9) (.comp [10, 11] (.tp (.cons (.nm 10) (.cons (.nm 11) .nil))) (.seq (.var 3)) .none (.tup (.cons (.op .mul (.var 10) (.op .add (.var 5) (.cint 2))) (.cons (.var 11) .nil)))))
    (.cons (.iff [] (.bop false (.cons (.op .ne (.call 38 (.cons (.var 3) (.cons (.rev (.var 6)) .nil))) (.var 8)) (.cons (.op .ne (.call 38 (.cons (.var 9) (.cons (.var 6) .nil))) (.var 8)) (.cons (.op .ne (.call 38 (.cons (.rev (.var 3)) (.cons (.var 6) .nil))) (.var 8)) .nil)))) (
     (.cons (.ret [] (.cbl false)) .nil)) ( .nil)) .nil)))))))) .nil))))))
  (.cons (.ret [] (.bop true (.cons (.op .eq (.call 38 (.cons (.lst (.cons (.tup (.cons (.cint 1) (.cons (.lst (.cons (.cint 2) .nil)) .nil))) (.cons (.tup (.cons (.cint 2) (.cons (.lst (.cons (.cint 5) .nil)) .nil))) .nil))) (.cons (.lst (.cons (.cint 0) (.cons (.cint 0) .nil))) .nil))) (.tup (.cons (.cint 18) (.cons (.cint 1) .nil)))) (.cons (.op .eq (.call 38 (.cons (.lst (.cons (.tup (.cons (.cint 3) (.cons (.lst (.cons (.cint 7) (.cons (.cint 1) .nil))) .nil))) .nil)) (.cons (.lst .nil) .nil))) (.tup (.cons (.cint 1) (.cons (.cint 1) .nil)))) .nil)))) .nil)))⟩
/-- beside -/
def D42 : HD := ⟨2, 7,
  (.cons (.expr (.pu [0] (.call 32 (.cons (.var 0) .nil))))
  (.cons (.expr (.pu [1] (.call 32 (.cons (.var 1) .nil))))
  (.cons (.iff [0, 1] (.bop false (.cons (.op .gt (.op .mul (.bi .len (.cons (.var 0) .nil)) (.bi .len (.cons (.var 1) .nil))) (.glob 2)) (.cons (.op .gt (.op .add (.call 29 (.cons (.var 0) .nil)) (.call 29 (.cons (.var 1) .nil))) (.glob 1)) .nil))) (
   (.cons (.raise 10) .nil)) ( .nil))
  (.cons (.asg (.nm 2) (.lst .nil))
  (.cons (.loop (.tp (.cons (.nm 3) (.cons (.nm 4) .nil))) (.seq (.var 0)) (
   (.cons (.ext (.var 2) (.comp [5, 6] (.tp (.cons (.nm 5) (.cons (.nm 6) .nil))) (.seq (.var 1)) [] .none (.pu [3, 4, 5, 6] (.tup (.cons (.op .mul (.var 3) (.var 5)) (.cons (.op .add (.var 4) (.var 6)) .nil)))))) .nil)))
  (.cons (.ret (.var 2)) .nil))))))⟩
/-- _law_by -/
def D43 : SD := ⟨2, 2,
  (.cons (.ret [] (.call 19 (.cons (.op .mul (.ix (.var 0) (.cint 0)) (.ix (.var 1) (.cint 0))) (.cons (.op .mul (.ix (.var 0) (.cint 1)) (.ix (.var 1) (.cint 1))) .nil)))) .nil)⟩
/-- _law_table -/
def D41 : SD := ⟨4, 15,
  (.cons (.asg [] (.nm 4) (.call 16 (.cons (.var 0) (.cons (.var 1) .nil))))
  (.cons (.asg [] (.nm 5) (.call 18 (.cons (.var 4) (.cons (.cint 1) .nil))))
  (.cons (.par [] 6 7 (.op .add (.cint 1) (.op .mod (.var 5) (.var 3))) (.op .mod (.op .fdiv (.var 5) (.cint 60)) (.cint 4)))
  (.cons (.own [] 8 (.lst .nil))
  (.cons (.loop [] (.nm 9) (.rng1 (.var 6)) (
   (.cons (.asg [] (.nm 10) (.call 18 (.cons (.call 16 (.cons (.var 0) (.cons (.op .add (.var 1) (.op .mod (.var 9) (.cint 5))) .nil))) (.cons (.op .add (.var 9) (.cint 2)) .nil))))
   (.cons (.asg [] (.nm 11) (.op .add (.cint 1) (.op .mod (.var 10) (.ix (.tup (.cons (.cint 3) (.cons (.cint 60) (.cons (.cint 7) (.cons (.op .pow (.cint 10) (.cint 9)) .nil))))) (.var 7)))))
   (.cons (.own [] 12 (.lst .nil))
   (.cons (.loop [] (.nm 13) (.rng1 (.var 2)) (
    (.cons (.asg [] (.nm 14) (.op .fdiv (.call 18 (.cons (.call 16 (.cons (.var 0) (.cons (.op .add (.var 1) (.var 13)) .nil))) (.cons (.op .add (.op .add (.op .mul (.cint 5) (.var 9)) (.var 13)) (.cint 3)) .nil))) (.cint 5)))
    (.cons (.app [] 12 (.op .sub (.op .mod (.var 14) (.ix (.tup (.cons (.cint 2) (.cons (.cint 7) (.cons (.cint 121) (.cons (.cint 5) .nil))))) (.var 7))) (.ix (.tup (.cons (.cint 0) (.cons (.cint 3) (.cons (.cint 60) (.cons (.cint 2) .nil))))) (.var 7)))) .nil))))
   (.cons (.app [12] 8 (.tup (.cons (.var 11) (.cons (.var 12) .nil)))) .nil)))))))
  (.cons (.retv 8) .nil))))))⟩
/-- _law_mean -/
def D44 : SD := ⟨2, 8,
  (.cons (.asg [] (.tp (.cons (.nm 2) (.cons (.nm 3) .nil))) (.tup (.cons (.cint 0) (.cons (.cint 0) .nil))))
  (.cons (.loop [] (.tp (.cons (.nm 4) (.cons (.nm 5) .nil))) (.seq (.var 0)) (
   (.cons (.asg [] (.nm 6) (.var 4))
   (.cons (.loop [] (.nm 7) (.seq (.var 1)) (
    (.cons (.asg [] (.nm 6) (.op .mul (.var 6) (.ix (.var 5) (.var 7)))) .nil)))
   (.cons (.par [] 2 3 (.op .add (.var 2) (.var 6)) (.op .add (.var 3) (.var 4))) .nil)))))
  (.cons (.ret [] (.call 19 (.cons (.var 2) (.cons (.var 3) .nil)))) .nil)))⟩
/-- law -/
def D45 : HD := ⟨1, 18,
  (.cons (.asg (.nm 0) (.sl (.var 0) [] .none (.some (.cint 63))))
  (.cons (.loop (.nm 1) (.seq (.pu [] (.tup (.cons (.cint 0) (.cons (.cint 4) .nil))))) (
   (.cons (.par 2 3 (.puF [0, 1] (.call 41 (.cons (.var 0) (.cons (.var 1) (.cons (.op .add (.cint 1) (.op .fdiv (.var 1) (.cint 4))) (.cons (.cint 5) .nil)))))) (.puF [0, 1] (.call 41 (.cons (.var 0) (.cons (.op .add (.var 1) (.cint 7)) (.cons (.cint 2) (.cons (.cint 5) .nil)))))))
   (.cons (.asg (.nm 4) (.lst (.cons (.puF [2] (.call 36 (.cons (.var 2) .nil))) (.cons (.puF [3] (.call 36 (.cons (.var 3) .nil))) .nil))))
   (.cons (.asg (.nm 5) (.lst .nil))
   (.cons (.loop (.tp (.cons (.nm 6) (.cons (.nm 7) .nil))) (.seq (.var 2)) (
    (.cons (.loop (.tp (.cons (.nm 9) (.cons (.nm 10) .nil))) (.seq (.var 3)) (
     (.cons (.app (.var 5) (.pu [6, 7, 9, 10] (.tup (.cons (.op .mul (.var 6) (.var 9)) (.cons (.op .add (.var 7) (.var 10)) .nil))))) .nil))) .nil)))
   (.cons (.loop (.nm 8) (.rng [] (.rng1 (.cint 2))) (
    (.cons (.asg (.nm 11) (.call 42 (.cons (.ix (.var 4) [] (.cint 0)) (.cons (.ix (.var 4) [] (.cint 1)) .nil))))
    (.cons (.iff [2, 3, 4, 5, 11] (.bop false (.cons (.not1 (.isi (.var 11) .list)) (.cons (.op .ne (.var 11) (.var 5)) (.cons (.op .ne (.var 4) (.lst (.cons (.var 2) (.cons (.var 3) .nil)))) .nil)))) (
     (.cons (.ret (.pu [] (.cbl false))) .nil)) ( .nil))
    (.cons (.asg (.nm 12) (.pu [2] (.bi .len (.cons (.ix (.ix (.var 2) (.cint 0)) (.cint 1)) .nil))))
    (.cons (.loop (.nm 13) (.seq (.pu [] (.tup (.cons (.cint 1) (.cons (.cint 3) (.cons (.cint 6) .nil)))))) (
     (.cons (.asg (.nm 14) (.puF [0, 1, 12, 13] (.call 37 (.cons (.call 16 (.cons (.var 0) (.cons (.op .add (.var 1) (.var 13)) .nil))) (.cons (.var 13) (.cons (.op .add (.var 12) (.cint 2)) .nil))))))
     (.cons (.asg (.nm 15) (.comp [17] (.nm 17) (.seq (.var 14)) [12, 17] (.some (.op .lt (.var 17) (.var 12))) (.var 17)))
     (.cons (.asg (.nm 16) (.comp [17] (.nm 17) (.seq (.var 14)) [12, 17] (.some (.op .ge (.var 17) (.var 12))) (.pu [12, 17] (.op .sub (.var 17) (.var 12)))))
     (.cons (.iff [2, 3, 11, 14, 15, 16] (.op .ne (.call 38 (.cons (.var 11) (.cons (.var 14) .nil))) (.call 43 (.cons (.call 44 (.cons (.var 2) (.cons (.var 15) .nil))) (.cons (.call 44 (.cons (.var 3) (.cons (.var 16) .nil))) .nil)))) (
      (.cons (.ret (.pu [] (.cbl false))) .nil)) ( .nil)) .nil))))))
    (.cons (.loop (.tp (.cons (.nm 6) (.cons (.nm 7) .nil))) (.seq (.var 11)) (
     (.cons (.app (.var 7) (.pu [] (.cint 0))) .nil)))
    (.cons (.app (.var 11) (.pu [] (.cint 0))) .nil)))))))) .nil)))))))
  (.cons (.ret (.pu [] (.op .eq (.call 42 (.cons (.lst (.cons (.tup (.cons (.cint 2) (.cons (.lst (.cons (.cint 5) .nil)) .nil))) .nil)) (.cons (.lst (.cons (.tup (.cons (.cint 3) (.cons (.lst (.cons (.cint 7) .nil)) .nil))) (.cons (.tup (.cons (.cint 1) (.cons (.lst (.cons (.cint 8) .nil)) .nil))) .nil))) .nil))) (.lst (.cons (.tup (.cons (.cint 6) (.cons (.lst (.cons (.cint 5) (.cons (.cint 7) .nil))) .nil))) (.cons (.tup (.cons (.cint 2) (.cons (.lst (.cons (.cint 5) (.cons (.cint 8) .nil))) .nil))) .nil)))))) .nil)))⟩
/-- told_by -/
def D46 : SD := ⟨2, 4,
  (.cons (.ret [] (.op .add (.bi .sum (.cons (.comp [2, 3] (.tp (.cons (.nm 2) (.cons (.nm 3) .nil))) (.zip (.var 0) (.var 1)) .none (.op .mul (.var 2) (.var 3))) .nil)) (.ix (.var 0) (.neg (.cint 1))))) .nil)⟩
/-- made -/
def D47 : HD := ⟨2, 5,
  (.cons (.expr (.pu [0] (.call 32 (.cons (.var 0) .nil))))
  (.cons (.iff [1] (.bop false (.cons (.not1 (.isi (.var 1) .list)) (.cons (.not1 (.chain .le .le (.cint 1) (.bi .len (.cons (.var 1) .nil)) (.glob 1))) .nil))) (
   (.cons (.raise 7) .nil)) ( .nil))
  (.cons (.iff [0, 1, 2] (.not1 (.bi .all (.cons (.comp [2] (.nm 2) (.seq (.var 1)) .none (.bop true (.cons (.call 27 (.cons (.var 2) .nil)) (.cons (.op .eq (.bi .len (.cons (.var 2) .nil)) (.op .add (.call 29 (.cons (.var 0) .nil)) (.cint 1))) .nil)))) .nil))) (
   (.cons (.raise 7) .nil)) ( .nil))
  (.cons (.ret (.comp [3, 4] (.tp (.cons (.nm 3) (.cons (.nm 4) .nil))) (.seq (.var 0)) [] .none (.tup (.cons (.var 3) (.cons (.comp [2] (.nm 2) (.seq (.var 1)) [] .none (.pu [2, 4] (.call 46 (.cons (.var 2) (.cons (.var 4) .nil))))) .nil))))) .nil))))⟩
/-- law -/
def D48 : HD := ⟨1, 21,
  (.cons (.asg (.nm 0) (.sl (.var 0) [] .none (.some (.cint 63))))
  (.cons (.loop (.nm 1) (.seq (.pu [] (.tup (.cons (.cint 0) (.cons (.cint 3) .nil))))) (
   (.cons (.asg (.nm 2) (.pu [0, 1] (.op .add (.cint 1) (.op .mod (.call 18 (.cons (.call 16 (.cons (.var 0) (.cons (.var 1) .nil))) (.cons (.cint 4) .nil))) (.cint 4)))))
   (.cons (.asg (.nm 3) (.puF [0, 1, 2] (.call 35 (.cons (.var 0) (.cons (.var 1) (.cons (.var 2) (.cons (.cint 6) .nil)))))))
   (.cons (.asg (.nm 4) (.pu [0, 1] (.call 18 (.cons (.call 16 (.cons (.var 0) (.cons (.op .add (.var 1) (.cint 1)) .nil))) (.cons (.cint 6) .nil)))))
   (.cons (.asg (.nm 5) (.lst .nil))
   (.cons (.loop (.nm 6) (.rng [4] (.rng1 (.op .add (.cint 1) (.op .mod (.var 4) (.cint 4))))) (
    (.cons (.app (.var 5) (.comp [18] (.nm 18) (.rng [2] (.rng1 (.op .add (.var 2) (.cint 1)))) [] .none (.pu [0, 1, 6, 18] (.op .sub (.op .mod (.call 18 (.cons (.call 16 (.cons (.var 0) (.cons (.op .add (.var 1) (.var 6)) .nil))) (.cons (.op .add (.var 18) (.cint 7)) .nil))) (.cint 19)) (.cint 9))))) .nil)))
   (.cons (.asg (.nm 7) (.lst (.cons (.puF [3] (.call 36 (.cons (.var 3) .nil))) (.cons (.comp [16] (.nm 16) (.seq (.var 5)) [] .none (.lof (.var 16))) .nil))))
   (.cons (.loop (.nm 8) (.rng [] (.rng1 (.cint 2))) (
    (.cons (.asg (.nm 10) (.call 47 (.cons (.ix (.var 7) [] (.cint 0)) (.cons (.ix (.var 7) [] (.cint 1)) .nil))))
    (.cons (.iff [3, 5, 7, 10] (.bop false (.cons (.not1 (.isi (.var 10) .list)) (.cons (.op .ne (.bi .len (.cons (.var 10) .nil)) (.bi .len (.cons (.var 3) .nil))) (.cons (.op .ne (.var 7) (.lst (.cons (.var 3) (.cons (.var 5) .nil)))) .nil)))) (
     (.cons (.ret (.pu [] (.cbl false))) .nil)) ( .nil))
    (.cons (.loop (.tp (.cons (.tp (.cons (.nm 11) (.cons (.nm 12) .nil))) (.cons (.tp (.cons (.nm 13) (.cons (.nm 14) .nil))) .nil))) (.zip (.var 3) (.var 10)) (
     (.cons (.asg (.nm 15) (.lst .nil))
     (.cons (.loop (.nm 16) (.seq (.var 5)) (
      (.cons (.app (.var 15) (.pu [2, 12, 16, 19, 20] (.op .add (.bi .sum (.cons (.comp [19, 20] (.tp (.cons (.nm 19) (.cons (.nm 20) .nil))) (.zip (.var 16) (.var 12)) .none (.op .mul (.var 19) (.var 20))) .nil)) (.ix (.var 16) (.var 2))))) .nil)))
     (.cons (.iff [11, 13, 14, 15] (.bop false (.cons (.op .ne (.var 13) (.var 11)) (.cons (.not1 (.isi (.var 14) .list)) (.cons (.op .ne (.var 14) (.var 15)) .nil)))) (
      (.cons (.ret (.pu [] (.cbl false))) .nil)) ( .nil))
     (.cons (.app (.var 14) (.pu [] (.cint 0))) .nil))))))
    (.cons (.app (.var 10) (.pu [] (.cint 0))) .nil))))))
   (.cons (.asg (.nm 9) (.comp [17] (.nm 17) (.rng [2] (.rng1 (.var 2))) [] .none (.comp [6] (.nm 6) (.rng [2] (.rng1 (.op .add (.var 2) (.cint 1)))) [] .none (.pu [6, 17] (.bi .int (.cons (.op .eq (.var 6) (.var 17)) .nil))))))
   (.cons (.iff [3, 9] (.op .ne (.call 47 (.cons (.var 3) (.cons (.var 9) .nil))) (.var 3)) (
    (.cons (.ret (.pu [] (.cbl false))) .nil)) ( .nil)) .nil)))))))))))
  (.cons (.ret (.pu [] (.op .eq (.call 47 (.cons (.lst (.cons (.tup (.cons (.cint 2) (.cons (.lst (.cons (.cint 3) (.cons (.cint 5) .nil))) .nil))) .nil)) (.cons (.lst (.cons (.lst (.cons (.cint 1) (.cons (.neg (.cint 1)) (.cons (.cint 4) .nil)))) (.cons (.lst (.cons (.cint 0) (.cons (.cint 0) (.cons (.cint 7) .nil)))) .nil))) .nil))) (.lst (.cons (.tup (.cons (.cint 2) (.cons (.lst (.cons (.cint 2) (.cons (.cint 7) .nil))) .nil))) .nil))))) .nil)))⟩
/-- letters_at -/
def D109 : SD := ⟨2, 3,
  (.cons (.ret [] (.comp [2] (.nm 2) (.seq (.var 1)) .none (.ix (.var 0) (.var 2)))) .nil)⟩
/-- _law_add -/
def D69 : SD := ⟨2, 2,
  (.cons (.ret [] (.call 19 (.cons (.op .add (.op .mul (.ix (.var 0) (.cint 0)) (.ix (.var 1) (.cint 1))) (.op .mul (.ix (.var 1) (.cint 0)) (.ix (.var 0) (.cint 1)))) (.cons (.op .mul (.ix (.var 0) (.cint 1)) (.ix (.var 1) (.cint 1))) .nil)))) .nil)⟩
/-- _law_sum -/
def D113 : HD := ⟨5, 12,
  (.cons (.asg (.nm 5) (.tup (.cons (.var 3) (.cons (.pu [2] (.bi .tuple (.cons (.var 2) .nil))) .nil))))
  (.cons (.iff [1, 5] (.op .nin (.var 5) (.var 1)) (
   (.cons (.asg (.nm 6) (.ix (.var 4) [2] (.bi .tuple (.cons (.var 2) .nil))))
   (.cons (.loop (.nm 7) (.seq (.ix (.var 0) [2, 3] (.tup (.cons (.var 3) (.cons (.bi .len (.cons (.var 2) .nil)) .nil))))) (
    (.cons (.asg (.nm 8) (.pu [] (.tup (.cons (.neg (.cint 1)) (.cons (.cint 1) .nil)))))
    (.cons (.loop (.nm 9) (.seq (.var 7)) (
     (.cons (.asg (.nm 10) (.comp [11] (.nm 11) (.seq (.var 9)) [] .none (.ix (.var 2) [11] (.var 11))))
     (.cons (.asg (.nm 8) (.pu [0, 1, 3, 4, 8, 10] (.call 43 (.cons (.var 8) (.cons (.call 113 (.cons (.var 0) (.cons (.var 1) (.cons (.var 10) (.cons (.var 3) (.cons (.var 4) .nil)))))) .nil))))) .nil))))
    (.cons (.asg (.nm 6) (.pu [6, 8] (.call 69 (.cons (.var 6) (.cons (.var 8) .nil))))) .nil)))))
   (.cons (.set (.var 1) [5] (.var 5) (.var 6)) .nil)))) ( .nil))
  (.cons (.ret (.ix (.var 1) [5] (.var 5))) .nil)))⟩
/-- law -/
def D116 : SD := ⟨1, 11,
  (.cons (.asg [] (.nm 0) (.sl (.var 0) .none (.some (.cint 63))))
  (.cons (.asg [] (.nm 1) (.call 112 .nil))
  (.cons (.asg [] (.nm 2) (.op .add (.cint 1) (.op .mod (.call 18 (.cons (.call 16 (.cons (.var 0) (.cons (.cint 0) .nil))) (.cons (.cint 4) .nil))) (.cint 3))))
  (.cons (.asg [] (.nm 3) (.call 41 (.cons (.var 0) (.cons (.cint 0) (.cons (.var 2) (.cons (.cint 5) .nil))))))
  (.cons (.asg [] (.nm 4) (.call 36 (.cons (.var 3) .nil)))
  (.cons (.loop [] (.nm 5) (.seq (.tup (.cons (.cint 1) (.cons (.cint 2) (.cons (.cint 3) (.cons (.cint 4) (.cons (.ite (.op .gt (.op .mod (.call 18 (.cons (.call 16 (.cons (.var 0) (.cons (.cint 1) .nil))) (.cons (.cint 2) .nil))) (.cint 8)) (.cint 0)) (.cint 5) (.cint 6)) .nil))))))) (
   (.cons (.asg [] (.nm 6) (.call 37 (.cons (.call 16 (.cons (.var 0) (.cons (.var 5) .nil))) (.cons (.var 5) (.cons (.var 2) .nil)))))
   (.cons (.asg [] (.nm 7) (.bi .list (.cons (.var 6) .nil)))
   (.cons (.loop [] (.nm 8) (.seq (.tup (.cons (.cstr "all") (.cons (.cstr "nested") (.cons (.cstr "rows") .nil))))) (
    (.cons (.asg [] (.nm 9) (.call 111 (.cons (.var 4) (.cons (.var 7) (.cons (.var 8) .nil)))))
    (.cons (.iff [] (.bop false (.cons (.not1 (.call 21 (.cons (.var 9) .nil))) (.cons (.op .ne (.var 9) (.call 115 (.cons (.var 1) (.cons (.var 3) (.cons (.var 6) (.cons (.var 8) .nil)))))) .nil))) (
     (.cons (.ret [] (.cbl false)) .nil)) ( .nil))
    (.cons (.iff [] (.op .ne (.lst (.cons (.var 4) (.cons (.var 7) .nil))) (.lst (.cons (.var 3) (.cons (.var 6) .nil)))) (
     (.cons (.ret [] (.cbl false)) .nil)) ( .nil)) .nil))))) .nil)))))
  (.cons (.asg [] (.nm 10) (.lst (.cons (.tup (.cons (.cint 1) (.cons (.lst (.cons (.cint 0) .nil)) .nil))) (.cons (.tup (.cons (.cint 1) (.cons (.lst (.cons (.cint 1) .nil)) .nil))) .nil))))
  (.cons (.iff [] (.op .ne (.comp [8] (.nm 8) (.seq (.tup (.cons (.cstr "all") (.cons (.cstr "nested") (.cons (.cstr "rows") .nil))))) .none (.call 111 (.cons (.var 10) (.cons (.op .mul (.lst (.cons (.cint 0) .nil)) (.cint 4)) (.cons (.var 8) .nil))))) (.lst (.cons (.tup (.cons (.neg (.cint 1)) (.cons (.cint 8) .nil))) (.cons (.tup (.cons (.neg (.cint 1)) (.cons (.cint 16) .nil))) (.cons (.tup (.cons (.cint 1) (.cons (.cint 16) .nil))) .nil))))) (
   (.cons (.ret [] (.cbl false)) .nil)) ( .nil))
  (.cons (.ret [] (.bop true (.cons (.op .eq (.call 111 (.cons (.var 10) (.cons (.lst (.cons (.cint 0) (.cons (.cint 0) .nil))) (.cons (.cstr "all") .nil)))) (.tup (.cons (.cint 1) (.cons (.cint 4) .nil)))) (.cons (.op .eq (.call 111 (.cons (.var 10) (.cons (.lst (.cons (.cint 0) .nil)) (.cons (.cstr "rows") .nil)))) (.tup (.cons (.cint 1) (.cons (.cint 2) .nil)))) .nil)))) .nil)))))))))⟩
/-- law -/
def D120 : SD := ⟨1, 6,
  (.cons (.asg [] (.nm 0) (.sl (.var 0) .none (.some (.cint 63))))
  (.cons (.asg [] (.nm 1) (.op .add (.cint 1) (.op .mod (.call 18 (.cons (.call 16 (.cons (.var 0) (.cons (.cint 0) .nil))) (.cons (.cint 4) .nil))) (.cint 3))))
  (.cons (.asg [] (.nm 2) (.call 41 (.cons (.var 0) (.cons (.cint 0) (.cons (.var 1) (.cons (.cint 5) .nil))))))
  (.cons (.loop [] (.nm 3) (.seq (.tup (.cons (.cint 1) (.cons (.cint 2) (.cons (.cint 3) (.cons (.op .add (.cint 4) (.op .mod (.call 18 (.cons (.call 16 (.cons (.var 0) (.cons (.cint 1) .nil))) (.cons (.cint 2) .nil))) (.cint 2))) .nil)))))) (
   (.cons (.asg [] (.nm 4) (.call 37 (.cons (.call 16 (.cons (.var 0) (.cons (.var 3) .nil))) (.cons (.var 3) (.cons (.var 1) .nil)))))
   (.cons (.loop [] (.nm 5) (.seq (.tup (.cons (.cstr "all") (.cons (.cstr "nested") (.cons (.cstr "rows") .nil))))) (
    (.cons (.iff [] (.not1 (.call 119 (.cons (.var 2) (.cons (.var 4) (.cons (.var 5) .nil))))) (
     (.cons (.ret [] (.cbl false)) .nil)) ( .nil)) .nil))) .nil))))
  (.cons (.ret [] (.cbl true)) .nil)))))⟩
/-- law -/
def D121 : SD := ⟨1, 13,
  (.cons (.asg [] (.nm 0) (.sl (.var 0) .none (.some (.cint 63))))
  (.cons (.asg [] (.nm 1) (.call 41 (.cons (.var 0) (.cons (.cint 0) (.cons (.cint 2) (.cons (.cint 5) .nil))))))
  (.cons (.loop [] (.nm 2) (.seq (.tup (.cons (.cint 1) (.cons (.cint 2) (.cons (.cint 3) (.cons (.cint 5) .nil)))))) (
   (.cons (.asg [] (.nm 3) (.call 16 (.cons (.var 0) (.cons (.var 2) .nil))))
   (.cons (.par [] 4 5 (.op .sub (.op .mod (.call 18 (.cons (.var 3) (.cons (.cint 3) .nil))) (.cint 15)) (.cint 7)) (.op .sub (.op .mod (.call 18 (.cons (.var 3) (.cons (.cint 4) .nil))) (.cint 15)) (.cint 7)))
   (.cons (.asg [] (.nm 6) (.call 47 (.cons (.var 1) (.cons (.lst (.cons (.lst (.cons (.cint 1) (.cons (.cint 0) (.cons (.cint 0) .nil)))) (.cons (.lst (.cons (.cint 0) (.cons (.cint 1) (.cons (.cint 0) .nil)))) (.cons (.lst (.cons (.var 4) (.cons (.var 5) (.cons (.cint 0) .nil)))) .nil)))) .nil))))
   (.cons (.par [] 7 8 (.call 37 (.cons (.var 3) (.cons (.var 2) (.cons (.cint 2) .nil)))) (.op .mod (.call 18 (.cons (.var 3) (.cons (.cint 5) .nil))) (.var 2)))
   (.cons (.loop [] (.nm 9) (.seq (.tup (.cons (.cstr "all") (.cons (.cstr "nested") (.cons (.cstr "rows") .nil))))) (
    (.cons (.asg [] (.nm 10) (.call 111 (.cons (.var 1) (.cons (.op .add (.op .add (.sl (.var 7) .none (.some (.var 8))) (.lst (.cons (.cint 0) .nil))) (.sl (.var 7) (.some (.op .add (.var 8) (.cint 1))) .none)) (.cons (.var 9) .nil)))))
    (.cons (.asg [] (.nm 11) (.call 111 (.cons (.var 1) (.cons (.op .add (.op .add (.sl (.var 7) .none (.some (.var 8))) (.lst (.cons (.cint 1) .nil))) (.sl (.var 7) (.some (.op .add (.var 8) (.cint 1))) .none)) (.cons (.var 9) .nil)))))
    (.cons (.asg [] (.nm 12) (.call 69 (.cons (.call 43 (.cons (.tup (.cons (.var 4) (.cons (.cint 1) .nil))) (.cons (.var 10) .nil))) (.cons (.call 43 (.cons (.tup (.cons (.var 5) (.cons (.cint 1) .nil))) (.cons (.var 11) .nil))) .nil))))
    (.cons (.iff [] (.op .ne (.call 111 (.cons (.var 6) (.cons (.op .add (.op .add (.sl (.var 7) .none (.some (.var 8))) (.lst (.cons (.cint 2) .nil))) (.sl (.var 7) (.some (.op .add (.var 8) (.cint 1))) .none)) (.cons (.var 9) .nil)))) (.var 12)) (
     (.cons (.ret [] (.cbl false)) .nil)) ( .nil))
    (.cons (.iff [] (.op .ne (.call 111 (.cons (.var 1) (.cons (.rev (.var 7)) (.cons (.var 9) .nil)))) (.call 111 (.cons (.var 1) (.cons (.var 7) (.cons (.var 9) .nil))))) (
     (.cons (.ret [] (.cbl false)) .nil)) ( .nil)) .nil)))))))
   (.cons (.iff [] (.op .ne (.call 111 (.cons (.var 1) (.cons (.bi .sorted (.cons (.var 7) .nil)) (.cons (.cstr "all") .nil)))) (.call 111 (.cons (.var 1) (.cons (.var 7) (.cons (.cstr "all") .nil))))) (
    (.cons (.ret [] (.cbl false)) .nil)) ( .nil)) .nil))))))))
  (.cons (.ret [] (.cbl true)) .nil))))⟩
/-- law -/
def D122 : SD := ⟨1, 12,
  (.cons (.asg [] (.nm 0) (.sl (.var 0) .none (.some (.cint 63))))
  (.cons (.asg [] (.nm 1) (.op .add (.cint 1) (.op .mod (.call 18 (.cons (.call 16 (.cons (.var 0) (.cons (.cint 0) .nil))) (.cons (.cint 4) .nil))) (.cint 3))))
  (.cons (.asg [] (.nm 2) (.call 35 (.cons (.var 0) (.cons (.cint 0) (.cons (.var 1) (.cons (.cint 5) .nil))))))
  (.cons (.asg [] (.nm 3) (.comp [10] (.nm 10) (.rng1 (.var 1)) .none (.op .sub (.op .mod (.call 18 (.cons (.call 16 (.cons (.var 0) (.cons (.var 10) .nil))) (.cons (.cint 6) .nil))) (.cint 2001)) (.cint 1000))))
  (.cons (.asg [] (.nm 4) (.comp [11] (.nm 11) (.rng1 (.var 1)) .none (.op .add (.comp [10] (.nm 10) (.rng1 (.var 1)) .none (.bi .int (.cons (.op .eq (.var 10) (.var 11)) .nil))) (.lst (.cons (.ix (.var 3) (.var 11)) .nil)))))
  (.cons (.asg [] (.nm 5) (.call 47 (.cons (.var 2) (.cons (.var 4) .nil))))
  (.cons (.loop [] (.nm 6) (.seq (.tup (.cons (.cint 1) (.cons (.cint 2) (.cons (.cint 3) (.cons (.cint 5) .nil)))))) (
   (.cons (.asg [] (.nm 7) (.call 37 (.cons (.call 16 (.cons (.var 0) (.cons (.var 6) .nil))) (.cons (.var 6) (.cons (.var 1) .nil)))))
   (.cons (.loop [] (.nm 8) (.seq (.tup (.cons (.cstr "all") (.cons (.cstr "nested") .nil)))) (
    (.cons (.asg [] (.nm 9) (.call 111 (.cons (.var 2) (.cons (.var 7) (.cons (.var 8) .nil)))))
    (.cons (.iff [] (.op .eq (.var 6) (.cint 1)) (
     (.cons (.asg [] (.nm 9) (.call 69 (.cons (.var 9) (.cons (.tup (.cons (.ix (.var 3) (.ix (.var 7) (.cint 0))) (.cons (.cint 1) .nil))) .nil)))) .nil)) ( .nil))
    (.cons (.iff [] (.op .ne (.call 111 (.cons (.var 5) (.cons (.var 7) (.cons (.var 8) .nil)))) (.var 9)) (
     (.cons (.ret [] (.cbl false)) .nil)) ( .nil)) .nil))))) .nil))))
  (.cons (.ret [] (.cbl true)) .nil))))))))⟩
/-- law -/
def D123 : SD := ⟨1, 9,
  (.cons (.asg [] (.nm 0) (.sl (.var 0) .none (.some (.cint 63))))
  (.cons (.par [] 1 2 (.call 35 (.cons (.var 0) (.cons (.cint 0) (.cons (.cint 1) (.cons (.cint 4) .nil))))) (.call 35 (.cons (.var 0) (.cons (.cint 7) (.cons (.cint 2) (.cons (.cint 4) .nil))))))
  (.cons (.asg [] (.nm 3) (.call 42 (.cons (.var 1) (.cons (.var 2) .nil))))
  (.cons (.loop [] (.nm 4) (.seq (.tup (.cons (.cint 2) (.cons (.cint 3) (.cons (.cint 4) (.cons (.cint 5) .nil)))))) (
   (.cons (.asg [] (.nm 5) (.call 37 (.cons (.call 16 (.cons (.var 0) (.cons (.var 4) .nil))) (.cons (.var 4) (.cons (.cint 3) .nil)))))
   (.cons (.iff [] (.bop true (.cons (.op .eq (.bi .min1 (.cons (.var 5) .nil)) (.cint 0)) (.cons (.op .gt (.bi .max1 (.cons (.var 5) .nil)) (.cint 0)) (.cons (.op .ne (.call 111 (.cons (.var 3) (.cons (.var 5) (.cons (.cstr "all") .nil)))) (.tup (.cons (.cint 0) (.cons (.cint 1) .nil)))) .nil)))) (
    (.cons (.ret [] (.cbl false)) .nil)) ( .nil))
   (.cons (.asg [] (.nm 6) (.op .add (.lst (.cons (.cint 0) .nil)) (.comp [8] (.nm 8) (.seq (.sl (.var 5) (.some (.cint 1)) .none)) .none (.op .add (.cint 1) (.op .mod (.var 8) (.cint 2))))))
   (.cons (.iff [] (.bop false (.cons (.op .ne (.call 111 (.cons (.var 3) (.cons (.var 6) (.cons (.cstr "all") .nil)))) (.tup (.cons (.cint 0) (.cons (.cint 1) .nil)))) (.cons (.op .ne (.call 111 (.cons (.var 3) (.cons (.rev (.var 6)) (.cons (.cstr "all") .nil)))) (.tup (.cons (.cint 0) (.cons (.cint 1) .nil)))) .nil))) (
    (.cons (.ret [] (.cbl false)) .nil)) ( .nil))
   (.cons (.asg [] (.nm 7) (.comp [8] (.nm 8) (.seq (.var 5)) .none (.op .mod (.var 8) (.cint 2))))
   (.cons (.iff [] (.op .ne (.call 111 (.cons (.var 3) (.cons (.comp [8] (.nm 8) (.seq (.var 7)) .none (.op .add (.var 8) (.cint 1))) (.cons (.cstr "all") .nil)))) (.call 111 (.cons (.var 2) (.cons (.var 7) (.cons (.cstr "all") .nil))))) (
    (.cons (.ret [] (.cbl false)) .nil)) ( .nil))
   (.cons (.iff [] (.op .ne (.call 111 (.cons (.var 3) (.cons (.op .mul (.lst (.cons (.cint 0) .nil)) (.var 4)) (.cons (.cstr "all") .nil)))) (.call 111 (.cons (.var 1) (.cons (.op .mul (.lst (.cons (.cint 0) .nil)) (.var 4)) (.cons (.cstr "all") .nil))))) (
    (.cons (.ret [] (.cbl false)) .nil)) ( .nil)) .nil)))))))))
  (.cons (.ret [] (.cbl true)) .nil)))))⟩
/-- behind_one_another -/
def D124 : SD := ⟨2, 4,
  (.cons (.asg [] (.nm 2) (.lst .nil))
  (.cons (.loop [] (.nm 3) (.seq (.var 1)) (
   (.cons (.asg [] (.nm 2) (.op .add (.var 2) (.ix (.var 0) (.var 3)))) .nil)))
  (.cons (.ret [] (.var 2)) .nil)))⟩
/-- _law_hangs -/
def D126 : SD := ⟨2, 6,
  (.cons (.asg [] (.nm 2) (.lst (.cons (.cint 0) .nil)))
  (.cons (.loop [] (.nm 3) (.rng1 (.bi .len (.cons (.var 1) .nil))) (
   (.cons (.loop [] (.nm 4) (.seq (.op .add (.var 0) (.var 1))) (
    (.cons (.iff [] (.bi .any (.cons (.comp [5] (.nm 5) (.seq (.var 4)) .none (.op .inn (.var 5) (.var 2))) .nil)) (
     (.cons (.asg [] (.nm 2) (.op .add (.var 2) (.comp [5] (.nm 5) (.seq (.var 4)) (.some (.op .nin (.var 5) (.var 2))) (.var 5)))) .nil)) ( .nil)) .nil))) .nil)))
  (.cons (.ret [] (.op .eq (.bi .len (.cons (.var 2) .nil)) (.bi .sum (.cons (.comp [4] (.nm 4) (.seq (.var 0)) .none (.bi .len (.cons (.var 4) .nil))) .nil)))) .nil)))⟩
/-- law -/
def D128 : SD := ⟨1, 11,
  (.cons (.asg [] (.nm 0) (.sl (.var 0) .none (.some (.cint 63))))
  (.cons (.asg [] (.nm 1) (.call 112 .nil))
  (.cons (.asg [] (.nm 2) (.op .add (.cint 1) (.op .mod (.call 18 (.cons (.call 16 (.cons (.var 0) (.cons (.cint 0) .nil))) (.cons (.cint 4) .nil))) (.cint 3))))
  (.cons (.asg [] (.nm 3) (.call 41 (.cons (.var 0) (.cons (.cint 0) (.cons (.var 2) (.cons (.cint 4) .nil))))))
  (.cons (.loop [] (.nm 4) (.rng1 (.cint 3)) (
   (.cons (.asg [] (.nm 5) (.call 16 (.cons (.var 0) (.cons (.op .add (.var 4) (.cint 1)) .nil))))
   (.cons (.asg [] (.nm 6) (.call 37 (.cons (.var 5) (.cons (.cint 5) (.cons (.var 2) .nil)))))
   (.cons (.asg [] (.nm 7) (.op .add (.cint 1) (.op .mod (.call 18 (.cons (.var 5) (.cons (.cint 8) .nil))) (.cint 3))))
   (.cons (.asg [] (.nm 8) (.op .add (.op .add (.var 7) (.cint 1)) (.op .mod (.call 18 (.cons (.var 5) (.cons (.cint 9) .nil))) (.op .sub (.cint 4) (.var 7)))))
   (.cons (.loop [] (.nm 9) (.seq (.tup (.cons (.lst (.cons (.sl (.var 6) .none (.some (.var 7))) (.cons (.sl (.var 6) (.some (.var 7)) (.some (.var 8))) (.cons (.sl (.var 6) (.some (.var 8)) .none) .nil)))) (.cons (.lst (.cons (.sl (.var 6) .none (.some (.var 7))) (.cons (.sl (.var 6) (.some (.var 7)) (.some (.var 8))) .nil))) .nil)))) (
    (.cons (.iff [] (.not1 (.call 127 (.cons (.var 1) (.cons (.var 3) (.cons (.var 9) .nil))))) (
     (.cons (.ret [] (.cbl false)) .nil)) ( .nil)) .nil)))
   (.cons (.iff [] (.op .ne (.call 125 (.cons (.var 3) (.cons (.lst (.cons (.var 6) .nil)) .nil))) (.call 38 (.cons (.var 3) (.cons (.var 6) .nil)))) (
    (.cons (.ret [] (.cbl false)) .nil)) ( .nil))
   (.cons (.iff [] (.op .ne (.call 125 (.cons (.var 3) (.cons (.comp [10] (.nm 10) (.seq (.sl (.var 6) .none (.some (.cint 4)))) .none (.lst (.cons (.var 10) .nil))) .nil))) (.call 118 (.cons (.var 3) (.cons (.sl (.var 6) .none (.some (.cint 4))) (.cons (.cstr "all") .nil))))) (
    (.cons (.ret [] (.cbl false)) .nil)) ( .nil)) .nil)))))))))
  (.cons (.ret [] (.op .eq (.call 125 (.cons (.lst (.cons (.tup (.cons (.cint 1) (.cons (.lst (.cons (.cint 0) .nil)) .nil))) (.cons (.tup (.cons (.cint 1) (.cons (.lst (.cons (.cint 1) .nil)) .nil))) .nil))) (.cons (.lst (.cons (.lst (.cons (.cint 0) (.cons (.cint 0) .nil))) (.cons (.lst (.cons (.cint 0) .nil)) .nil))) .nil))) (.tup (.cons (.cint 1) (.cons (.cint 4) .nil))))) .nil))))))⟩
/-- check_means -/
def D52 : SD := ⟨1, 2,
  (.cons (.iff [] (.bop false (.cons (.not1 (.isi (.var 0) .list)) (.cons (.op .gt (.bi .len (.cons (.var 0) .nil)) (.glob 5)) (.cons (.not1 (.bi .all (.cons (.comp [1] (.nm 1) (.seq (.var 0)) .none (.call 4 (.cons (.var 1) .nil))) .nil))) .nil)))) (
   (.cons (.raise 8) .nil)) ( .nil)) .nil)⟩
/-- chosen -/
def D49 : SD := ⟨2, 4,
  (.cons (.asg [] (.nm 2) (.cint 1))
  (.cons (.loop [] (.nm 3) (.rng1 (.var 1)) (
   (.cons (.asg [] (.nm 2) (.op .fdiv (.op .mul (.var 2) (.op .sub (.var 0) (.var 3))) (.op .add (.var 3) (.cint 1)))) .nil)))
  (.cons (.ret [] (.var 2)) .nil)))⟩
/-- weight_of -/
def D51 : SD := ⟨4, 5,
  (.cons (.asg [] (.nm 4) (.op .sub (.var 2) (.var 3)))
  (.cons (.iff [] (.op .eq (.var 0) (.cstr "rows")) (
   (.cons (.ret [] (.ix (.op .add (.lst (.cons (.glob 6) .nil)) (.var 1)) (.var 4))) .nil)) ( .nil))
  (.cons (.iff [] (.op .eq (.var 0) (.cstr "all")) (
   (.cons (.ret [] (.call 9 (.cons (.tup (.cons (.call 49 (.cons (.op .sub (.var 2) (.cint 1)) (.cons (.op .sub (.var 3) (.cint 1)) .nil))) (.cons (.cint 1) .nil))) (.cons (.ix (.op .add (.lst (.cons (.glob 6) .nil)) (.var 1)) (.var 4)) .nil)))) .nil)) ( .nil))
  (.cons (.ret [] (.call 50 (.cons (.var 1) (.cons (.var 3) (.cons (.var 4) .nil))))) .nil))))⟩
/-- power_of -/
def D50 : SD := ⟨3, 10,
  (.cons (.asg [] (.nm 3) (.op .add (.lst (.cons (.glob 6) .nil)) (.var 0)))
  (.cons (.asg [] (.nm 4) (.op .add (.lst (.cons (.glob 6) .nil)) (.op .mul (.lst (.cons (.glob 7) .nil)) (.var 2))))
  (.cons (.loop [] (.nm 5) (.rng1 (.var 1)) (
   (.cons (.own [] 6 (.lst .nil))
   (.cons (.loop [] (.nm 7) (.rng1 (.op .add (.var 2) (.cint 1))) (
    (.cons (.asg [] (.nm 8) (.glob 7))
    (.cons (.loop [] (.nm 9) (.rng1 (.op .add (.var 7) (.cint 1))) (
     (.cons (.asg [] (.nm 8) (.call 7 (.cons (.var 8) (.cons (.call 9 (.cons (.ix (.var 3) (.var 9)) (.cons (.ix (.var 4) (.op .sub (.var 7) (.var 9))) .nil))) .nil)))) .nil)))
    (.cons (.app [] 6 (.var 8)) .nil)))))
   (.cons (.asg [6] (.nm 4) (.var 6)) .nil)))))
  (.cons (.ret [] (.ix (.var 4) (.var 2))) .nil))))⟩
/-- sums_of -/
def D54 : SD := ⟨2, 6,
  (.cons (.own [] 2 (.lst .nil))
  (.cons (.loop [] (.nm 3) (.rng2 (.cint 1) (.op .add (.bi .len (.cons (.var 0) .nil)) (.cint 1))) (
   (.cons (.asg [] (.nm 4) (.ix (.var 0) (.op .sub (.var 3) (.cint 1))))
   (.cons (.loop [] (.nm 5) (.rng2 (.cint 1) (.var 3)) (
    (.cons (.asg [2] (.nm 4) (.call 8 (.cons (.var 4) (.cons (.call 9 (.cons (.ix (.var 2) (.op .sub (.var 5) (.cint 1))) (.cons (.call 51 (.cons (.var 1) (.cons (.var 0) (.cons (.var 3) (.cons (.var 5) .nil))))) .nil))) .nil)))) .nil)))
   (.cons (.app [] 2 (.var 4)) .nil)))))
  (.cons (.retv 2) .nil)))⟩
/-- means_of -/
def D55 : SD := ⟨2, 6,
  (.cons (.own [] 2 (.lst .nil))
  (.cons (.loop [] (.nm 3) (.rng2 (.cint 1) (.op .add (.bi .len (.cons (.var 0) .nil)) (.cint 1))) (
   (.cons (.asg [] (.nm 4) (.glob 7))
   (.cons (.loop [] (.nm 5) (.rng2 (.cint 1) (.op .add (.var 3) (.cint 1))) (
    (.cons (.asg [2] (.nm 4) (.call 7 (.cons (.var 4) (.cons (.call 9 (.cons (.ix (.var 0) (.op .sub (.var 5) (.cint 1))) (.cons (.call 51 (.cons (.var 1) (.cons (.var 2) (.cons (.var 3) (.cons (.var 5) .nil))))) .nil))) .nil)))) .nil)))
   (.cons (.app [] 2 (.var 4)) .nil)))))
  (.cons (.retv 2) .nil)))⟩
/-- sums_from -/
def D56 : SD := ⟨2, 2,
  (.cons (.expr [] (.call 52 (.cons (.var 0) .nil)))
  (.cons (.expr [] (.call 53 (.cons (.var 1) .nil)))
  (.cons (.ret [] (.call 54 (.cons (.var 0) (.cons (.var 1) .nil)))) .nil)))⟩
/-- means_from -/
def D57 : SD := ⟨2, 2,
  (.cons (.expr [] (.call 52 (.cons (.var 0) .nil)))
  (.cons (.expr [] (.call 53 (.cons (.var 1) .nil)))
  (.cons (.ret [] (.call 55 (.cons (.var 0) (.cons (.var 1) .nil)))) .nil)))⟩
/-- _law_are_shares -/
def D58 : SD := ⟨1, 2,
  (.cons (.ret [] (.bop true (.cons (.isi (.var 0) .list) (.cons (.bi .all (.cons (.comp [1] (.nm 1) (.seq (.var 0)) .none (.call 21 (.cons (.var 1) .nil))) .nil)) .nil)))) .nil)⟩
/-- law -/
def D59 : SD := ⟨1, 11,
  (.cons (.asg [] (.nm 0) (.sl (.var 0) .none (.some (.cint 63))))
  (.cons (.loop [] (.nm 1) (.rng3 (.cint 0) (.bi .max2 (.cons (.cint 1) (.cons (.bi .len (.cons (.var 0) .nil)) .nil))) (.op .add (.cint 1) (.op .fdiv (.bi .len (.cons (.var 0) .nil)) (.cint 3)))) (
   (.cons (.asg [] (.nm 2) (.call 16 (.cons (.var 0) (.cons (.var 1) .nil))))
   (.cons (.asg [] (.nm 3) (.op .mod (.call 18 (.cons (.var 2) (.cons (.cint 1) .nil))) (.cint 11)))
   (.cons (.asg [] (.nm 4) (.call 25 (.cons (.var 2) (.cons (.var 3) (.cons (.ix (.tup (.cons (.cint 1) (.cons (.cint 6) (.cons (.cint 60) .nil)))) (.op .mod (.var 1) (.cint 3))) .nil)))))
   (.cons (.loop [] (.nm 5) (.seq (.tup (.cons (.cstr "all") (.cons (.cstr "nested") (.cons (.cstr "rows") .nil))))) (
    (.cons (.asg [] (.nm 6) (.bi .list (.cons (.var 4) .nil)))
    (.cons (.parO [] 7 8 (.call 56 (.cons (.var 6) (.cons (.var 5) .nil))) (.call 57 (.cons (.var 6) (.cons (.var 5) .nil))))
    (.cons (.iff [7] (.bop false (.cons (.not1 (.call 58 (.cons (.var 7) .nil))) (.cons (.not1 (.call 58 (.cons (.var 8) .nil))) (.cons (.op .ne (.var 6) (.var 4)) .nil)))) (
     (.cons (.ret [] (.cbl false)) .nil)) ( .nil))
    (.cons (.iff [7] (.bop false (.cons (.op .ne (.bi .len (.cons (.var 7) .nil)) (.var 3)) (.cons (.op .ne (.call 57 (.cons (.var 7) (.cons (.var 5) .nil))) (.var 4)) (.cons (.op .ne (.call 56 (.cons (.var 8) (.cons (.var 5) .nil))) (.var 4)) .nil)))) (
     (.cons (.ret [] (.cbl false)) .nil)) ( .nil))
    (.cons (.asg [] (.nm 9) (.op .fdiv (.var 3) (.cint 2)))
    (.cons (.iff [7] (.bop false (.cons (.op .ne (.call 56 (.cons (.sl (.var 4) .none (.some (.var 9))) (.cons (.var 5) .nil))) (.sl (.var 7) .none (.some (.var 9)))) (.cons (.op .ne (.call 57 (.cons (.sl (.var 4) .none (.some (.var 9))) (.cons (.var 5) .nil))) (.sl (.var 8) .none (.some (.var 9)))) .nil))) (
     (.cons (.ret [] (.cbl false)) .nil)) ( .nil))
    (.cons (.own [7] 10 (.bi .list (.cons (.var 7) .nil)))
    (.cons (.app [] 7 (.tup (.cons (.cint 0) (.cons (.cint 1) .nil))))
    (.cons (.iff [10] (.op .ne (.call 56 (.cons (.var 6) (.cons (.var 5) .nil))) (.var 10)) (
     (.cons (.ret [] (.cbl false)) .nil)) ( .nil)) .nil))))))))))) .nil))))))
  (.cons (.ret [] (.bop true (.cons (.op .eq (.call 56 (.cons (.lst .nil) (.cons (.cstr "all") .nil))) (.lst .nil)) (.cons (.op .eq (.call 57 (.cons (.lst (.cons (.tup (.cons (.cint 2) (.cons (.cint 3) .nil))) .nil)) (.cons (.cstr "rows") .nil))) (.lst (.cons (.tup (.cons (.cint 2) (.cons (.cint 3) .nil))) .nil))) .nil)))) .nil)))⟩
/-- check_means -/
def D129 : SD := ⟨1, 2,
  (.cons (.iff [] (.bop false (.cons (.not1 (.isi (.var 0) .list)) (.cons (.op .gt (.bi .len (.cons (.var 0) .nil)) (.glob 10)) (.cons (.not1 (.bi .all (.cons (.comp [1] (.nm 1) (.seq (.var 0)) .none (.call 4 (.cons (.var 1) .nil))) .nil))) .nil)))) (
   (.cons (.raise 8) .nil)) ( .nil)) .nil)⟩
/-- sums_from -/
def D130 : SD := ⟨2, 2,
  (.cons (.expr [] (.call 129 (.cons (.var 0) .nil)))
  (.cons (.expr [] (.call 53 (.cons (.var 1) .nil)))
  (.cons (.ret [] (.call 54 (.cons (.var 0) (.cons (.var 1) .nil)))) .nil)))⟩
/-- means_from -/
def D131 : SD := ⟨2, 2,
  (.cons (.expr [] (.call 129 (.cons (.var 0) .nil)))
  (.cons (.expr [] (.call 53 (.cons (.var 1) .nil)))
  (.cons (.ret [] (.call 55 (.cons (.var 0) (.cons (.var 1) .nil)))) .nil)))⟩
/-- is_word -/
def D132 : SD := ⟨2, 3,
  (.cons (.iff [] (.bop false (.cons (.not1 (.call 27 (.cons (.var 0) .nil))) (.cons (.op .gt (.bi .len (.cons (.var 0) .nil)) (.glob 11)) .nil))) (
   (.cons (.ret [] (.cbl false)) .nil)) ( .nil))
  (.cons (.ret [] (.bi .all (.cons (.comp [2] (.nm 2) (.seq (.var 0)) .none (.chain .le .lt (.cint 0) (.var 2) (.call 29 (.cons (.var 1) .nil)))) .nil))) .nil))⟩
/-- check_word -/
def D133 : SD := ⟨2, 2,
  (.cons (.iff [] (.not1 (.call 132 (.cons (.var 1) (.cons (.var 0) .nil)))) (
   (.cons (.raise 6) .nil)) ( .nil)) .nil)⟩
/-- _law_mean -/
def D135 : SD := ⟨2, 8,
  (.cons (.asg [] (.tp (.cons (.nm 2) (.cons (.nm 3) .nil))) (.tup (.cons (.cint 0) (.cons (.cint 0) .nil))))
  (.cons (.loop [] (.tp (.cons (.nm 4) (.cons (.nm 5) .nil))) (.seq (.var 0)) (
   (.cons (.asg [] (.nm 6) (.var 4))
   (.cons (.loop [] (.nm 7) (.seq (.var 1)) (
    (.cons (.asg [] (.nm 6) (.op .mul (.var 6) (.ix (.var 5) (.var 7)))) .nil)))
   (.cons (.par [] 2 3 (.op .add (.var 2) (.var 6)) (.op .add (.var 3) (.var 4))) .nil)))))
  (.cons (.ret [] (.call 19 (.cons (.var 2) (.cons (.var 3) .nil)))) .nil)))⟩
/-- law -/
def D136 : SD := ⟨1, 14,
  (.cons (.asg [] (.nm 0) (.sl (.var 0) .none (.some (.cint 63))))
  (.cons (.asg [] (.nm 1) (.call 16 (.cons (.var 0) (.cons (.cint 0) .nil))))
  (.cons (.asg [] (.nm 2) (.op .add (.op .add (.cint 1) (.op .mod (.call 18 (.cons (.var 1) (.cons (.cint 1) .nil))) (.cint 5))) (.bi .int (.cons (.op .eq (.op .mod (.call 18 (.cons (.var 1) (.cons (.cint 2) .nil))) (.cint 8)) (.cint 0)) .nil))))
  (.cons (.asg [] (.nm 3) (.call 25 (.cons (.var 1) (.cons (.var 2) (.cons (.ix (.tup (.cons (.cint 1) (.cons (.cint 6) (.cons (.cint 60) .nil)))) (.op .mod (.call 18 (.cons (.var 1) (.cons (.cint 3) .nil))) (.cint 3))) .nil)))))
  (.cons (.asg [] (.nm 4) (.call 41 (.cons (.var 0) (.cons (.cint 1) (.cons (.cint 1) (.cons (.cint 5) .nil))))))
  (.cons (.asg [] (.nm 5) (.comp [8] (.nm 8) (.rng2 (.cint 1) (.cint 5)) .none (.call 135 (.cons (.var 4) (.cons (.op .mul (.lst (.cons (.cint 0) .nil)) (.var 8)) .nil)))))
  (.cons (.loop [] (.nm 6) (.seq (.tup (.cons (.cstr "all") (.cons (.cstr "nested") (.cons (.cstr "rows") .nil))))) (
   (.cons (.asg [] (.nm 7) (.call 131 (.cons (.var 3) (.cons (.var 6) .nil))))
   (.cons (.loop [] (.nm 8) (.rng2 (.cint 1) (.op .add (.var 2) (.cint 1))) (
    (.cons (.asg [] (.nm 10) (.tup (.cons (.cint 0) (.cons (.cint 1) .nil))))
    (.cons (.loop [] (.nm 11) (.seq (.call 68 (.cons (.var 8) (.cons (.var 6) .nil)))) (
     (.cons (.asg [] (.nm 12) (.tup (.cons (.cint 1) (.cons (.cint 1) .nil))))
     (.cons (.loop [] (.nm 13) (.seq (.var 11)) (
      (.cons (.asg [] (.nm 12) (.call 43 (.cons (.var 12) (.cons (.ix (.var 3) (.op .sub (.bi .len (.cons (.var 13) .nil)) (.cint 1))) .nil)))) .nil)))
     (.cons (.asg [] (.nm 10) (.call 69 (.cons (.var 10) (.cons (.var 12) .nil)))) .nil)))))
    (.cons (.iff [] (.op .ne (.ix (.var 7) (.op .sub (.var 8) (.cint 1))) (.var 10)) (
     (.cons (.ret [] (.cbl false)) .nil)) ( .nil)) .nil)))))
   (.cons (.asg [] (.nm 9) (.call 130 (.cons (.var 5) (.cons (.var 6) .nil))))
   (.cons (.iff [] (.op .ne (.var 9) (.comp [8] (.nm 8) (.rng2 (.cint 1) (.cint 5)) .none (.call 134 (.cons (.var 4) (.cons (.op .mul (.lst (.cons (.cint 0) .nil)) (.var 8)) (.cons (.var 6) .nil)))))) (
    (.cons (.ret [] (.cbl false)) .nil)) ( .nil)) .nil))))))
  (.cons (.ret [] (.cbl true)) .nil))))))))⟩
/-- _law_nets -/
def D63 : HD := ⟨1, 7,
  (.cons (.par 1 2 (.comp [3] (.nm 3) (.rng [0] (.rng1 (.op .add (.var 0) (.cint 1)))) [] .none (.pu [3] (.op .shl (.cint 1) (.op .fdiv (.op .mul (.var 3) (.op .sub (.var 3) (.cint 1))) (.cint 2))))) (.lst .nil))
  (.cons (.loop (.nm 3) (.rng [0] (.rng2 (.cint 1) (.op .add (.var 0) (.cint 1)))) (
   (.cons (.par 4 5 (.ix (.var 1) [3] (.var 3)) (.pu [] (.cint 1)))
   (.cons (.loop (.nm 6) (.rng [3] (.rng2 (.cint 1) (.var 3))) (
    (.cons (.asg (.nm 4) (.pu [1, 2, 3, 4, 5, 6] (.op .sub (.var 4) (.op .mul (.op .mul (.var 5) (.ix (.var 2) (.op .sub (.var 6) (.cint 1)))) (.ix (.var 1) (.op .sub (.var 3) (.var 6)))))))
    (.cons (.asg (.nm 5) (.pu [3, 5, 6] (.op .fdiv (.op .mul (.var 5) (.op .sub (.var 3) (.var 6))) (.var 6)))) .nil))))
   (.cons (.app (.var 2) (.var 4)) .nil)))))
  (.cons (.ret (.tup (.cons (.sl (.var 1) [] (.some (.cint 1)) .none) (.cons (.var 2) .nil)))) .nil)))⟩
/-- law -/
def D64 : SD := ⟨1, 8,
  (.cons (.asg [] (.nm 1) (.op .add (.cint 1) (.op .mod (.call 18 (.cons (.call 16 (.cons (.var 0) (.cons (.cint 0) .nil))) (.cons (.cint 1) .nil))) (.cint 10))))
  (.cons (.loop [] (.nm 2) (.seq (.tup (.cons (.cstr "all") (.cons (.cstr "nested") (.cons (.cstr "rows") .nil))))) (
   (.cons (.asg [] (.nm 3) (.comp [6] (.nm 6) (.rng2 (.cint 1) (.op .add (.var 1) (.cint 1))) .none (.tup (.cons (.call 62 (.cons (.var 6) (.cons (.var 2) .nil))) (.cons (.cint 1) .nil)))))
   (.cons (.iff [] (.op .ne (.call 57 (.cons (.op .mul (.lst (.cons (.tup (.cons (.cint 1) (.cons (.cint 1) .nil))) .nil)) (.var 1)) (.cons (.var 2) .nil))) (.var 3)) (
    (.cons (.ret [] (.cbl false)) .nil)) ( .nil)) .nil))))
  (.cons (.asg [] (.tp (.cons (.nm 4) (.cons (.nm 5) .nil))) (.call 63 (.cons (.var 1) .nil)))
  (.cons (.iff [] (.op .ne (.call 56 (.cons (.comp [7] (.nm 7) (.seq (.var 4)) .none (.tup (.cons (.var 7) (.cons (.cint 1) .nil)))) (.cons (.cstr "all") .nil))) (.comp [7] (.nm 7) (.seq (.var 5)) .none (.tup (.cons (.var 7) (.cons (.cint 1) .nil))))) (
   (.cons (.ret [] (.cbl false)) .nil)) ( .nil))
  (.cons (.loop [] (.nm 2) (.seq (.tup (.cons (.cstr "all") (.cons (.cstr "nested") (.cons (.cstr "rows") .nil))))) (
   (.cons (.iff [] (.op .ne (.call 56 (.cons (.op .mul (.lst (.cons (.tup (.cons (.cint 1) (.cons (.cint 1) .nil))) .nil)) (.var 1)) (.cons (.var 2) .nil))) (.op .add (.lst (.cons (.tup (.cons (.cint 1) (.cons (.cint 1) .nil))) .nil)) (.op .mul (.lst (.cons (.tup (.cons (.cint 0) (.cons (.cint 1) .nil))) .nil)) (.op .sub (.var 1) (.cint 1))))) (
    (.cons (.ret [] (.cbl false)) .nil)) ( .nil)) .nil)))
  (.cons (.ret [] (.op .eq (.sl (.var 5) .none (.some (.cint 4))) (.sl (.lst (.cons (.cint 1) (.cons (.cint 1) (.cons (.cint 4) (.cons (.cint 38) .nil))))) .none (.some (.var 1))))) .nil))))))⟩
/-- between -/
def D67 : SD := ⟨3, 3,
  (.cons (.expr [] (.call 52 (.cons (.var 0) .nil)))
  (.cons (.expr [] (.call 53 (.cons (.var 1) .nil)))
  (.cons (.expr [] (.call 53 (.cons (.var 2) .nil)))
  (.cons (.ret [] (.call 54 (.cons (.call 55 (.cons (.var 0) (.cons (.var 1) .nil))) (.cons (.var 2) .nil)))) .nil))))⟩
/-- law -/
def D70 : SD := ⟨1, 14,
  (.cons (.asg [] (.nm 0) (.sl (.var 0) .none (.some (.cint 63))))
  (.cons (.asg [] (.nm 1) (.call 16 (.cons (.var 0) (.cons (.cint 0) .nil))))
  (.cons (.asg [] (.nm 2) (.op .mod (.call 18 (.cons (.var 1) (.cons (.cint 1) .nil))) (.cint 9)))
  (.cons (.asg [] (.nm 3) (.call 25 (.cons (.var 1) (.cons (.var 2) (.cons (.ix (.tup (.cons (.cint 1) (.cons (.cint 6) (.cons (.cint 60) .nil)))) (.op .mod (.call 18 (.cons (.var 1) (.cons (.cint 3) .nil))) (.cint 3))) .nil)))))
  (.cons (.loop [] (.nm 4) (.seq (.tup (.cons (.cstr "all") (.cons (.cstr "nested") (.cons (.cstr "rows") .nil))))) (
   (.cons (.loop [] (.nm 5) (.seq (.tup (.cons (.cstr "all") (.cons (.cstr "nested") (.cons (.cstr "rows") .nil))))) (
    (.cons (.asg [] (.nm 6) (.bi .list (.cons (.var 3) .nil)))
    (.cons (.asg [] (.nm 7) (.call 67 (.cons (.var 6) (.cons (.var 4) (.cons (.var 5) .nil)))))
    (.cons (.iff [] (.bop false (.cons (.not1 (.call 58 (.cons (.var 7) .nil))) (.cons (.op .ne (.bi .len (.cons (.var 7) .nil)) (.var 2)) (.cons (.op .ne (.var 6) (.var 3)) .nil)))) (
     (.cons (.ret [] (.cbl false)) .nil)) ( .nil))
    (.cons (.iff [] (.bop false (.cons (.op .ne (.call 57 (.cons (.var 7) (.cons (.var 5) .nil))) (.call 57 (.cons (.var 3) (.cons (.var 4) .nil)))) (.cons (.op .ne (.call 67 (.cons (.var 7) (.cons (.var 5) (.cons (.var 4) .nil)))) (.var 3)) .nil))) (
     (.cons (.ret [] (.cbl false)) .nil)) ( .nil))
    (.cons (.iff [] (.bop false (.cons (.bop true (.cons (.op .eq (.var 4) (.var 5)) (.cons (.op .ne (.var 7) (.var 3)) .nil))) (.cons (.op .ne (.call 67 (.cons (.call 67 (.cons (.var 3) (.cons (.var 4) (.cons (.cstr "rows") .nil)))) (.cons (.cstr "rows") (.cons (.var 5) .nil)))) (.var 7)) .nil))) (
     (.cons (.ret [] (.cbl false)) .nil)) ( .nil)) .nil))))))) .nil)))
  (.cons (.asg [] (.nm 8) (.call 67 (.cons (.var 3) (.cons (.cstr "nested") (.cons (.cstr "rows") .nil)))))
  (.cons (.loop [] (.nm 9) (.rng2 (.cint 1) (.op .add (.bi .min2 (.cons (.var 2) (.cons (.cint 5) .nil))) (.cint 1))) (
   (.cons (.asg [] (.nm 10) (.tup (.cons (.cint 0) (.cons (.cint 1) .nil))))
   (.cons (.loop [] (.nm 11) (.seq (.call 68 (.cons (.var 9) (.cons (.cstr "nested") .nil)))) (
    (.cons (.iff [] (.op .inn (.op .sub (.var 9) (.cint 1)) (.ix (.var 11) (.cint 0))) (
     (.cons (.asg [] (.nm 12) (.tup (.cons (.cint 1) (.cons (.cint 1) .nil))))
     (.cons (.loop [] (.nm 13) (.seq (.var 11)) (
      (.cons (.asg [] (.nm 12) (.call 43 (.cons (.var 12) (.cons (.ix (.var 3) (.op .sub (.bi .len (.cons (.var 13) .nil)) (.cint 1))) .nil)))) .nil)))
     (.cons (.asg [] (.nm 10) (.call 69 (.cons (.var 10) (.cons (.var 12) .nil)))) .nil)))) ( .nil)) .nil)))
   (.cons (.iff [] (.op .ne (.ix (.var 8) (.op .sub (.var 9) (.cint 1))) (.var 10)) (
    (.cons (.ret [] (.cbl false)) .nil)) ( .nil)) .nil)))))
  (.cons (.ret [] (.op .eq (.call 67 (.cons (.lst (.cons (.tup (.cons (.cint 1) (.cons (.cint 1) .nil))) (.cons (.tup (.cons (.cint 1) (.cons (.cint 1) .nil))) (.cons (.tup (.cons (.cint 1) (.cons (.cint 1) .nil))) .nil)))) (.cons (.cstr "rows") (.cons (.cstr "all") .nil)))) (.lst (.cons (.tup (.cons (.cint 1) (.cons (.cint 1) .nil))) (.cons (.tup (.cons (.cint 1) (.cons (.cint 1) .nil))) (.cons (.tup (.cons (.cint 0) (.cons (.cint 1) .nil))) .nil)))))) .nil))))))))⟩
/-- is_one_thing -/
def D137 : SD := ⟨2, 4,
  (.cons (.ret [] (.bi .all (.cons (.comp [2] (.nm 2) (.seq (.var 1)) .none (.bi .all (.cons (.comp [3] (.nm 3) (.seq (.var 2)) .none (.op .eq (.ix (.var 0) (.var 3)) (.ix (.var 0) (.ix (.var 2) (.cint 0))))) .nil))) .nil))) .nil)⟩
/-- word_by -/
def D138 : SD := ⟨4, 9,
  (.cons (.asg [] (.nm 4) (.lst (.cons (.call 54 (.cons (.var 0) (.cons (.var 3) .nil))) (.cons (.call 54 (.cons (.var 1) (.cons (.var 3) .nil))) .nil))))
  (.cons (.asg [] (.nm 5) (.glob 7))
  (.cons (.loop [] (.nm 6) (.seq (.call 85 (.cons (.bi .len (.cons (.var 2) .nil)) (.cons (.var 3) .nil)))) (
   (.cons (.iff [] (.call 137 (.cons (.var 2) (.cons (.var 6) .nil))) (
    (.cons (.asg [] (.nm 7) (.glob 6))
    (.cons (.loop [] (.nm 8) (.seq (.var 6)) (
     (.cons (.asg [] (.nm 7) (.call 9 (.cons (.var 7) (.cons (.ix (.ix (.var 4) (.ix (.var 2) (.ix (.var 8) (.cint 0)))) (.op .sub (.bi .len (.cons (.var 8) .nil)) (.cint 1))) .nil)))) .nil)))
    (.cons (.asg [] (.nm 5) (.call 7 (.cons (.var 5) (.cons (.var 7) .nil)))) .nil)))) ( .nil)) .nil)))
  (.cons (.ret [] (.var 5)) .nil))))⟩
/-- word_mean -/
def D139 : SD := ⟨4, 5,
  (.cons (.expr [] (.call 129 (.cons (.var 0) .nil)))
  (.cons (.expr [] (.call 129 (.cons (.var 1) .nil)))
  (.cons (.iff [] (.bop false (.cons (.not1 (.call 27 (.cons (.var 2) .nil))) (.cons (.op .gt (.bi .len (.cons (.var 2) .nil)) (.glob 11)) (.cons (.not1 (.bi .all (.cons (.comp [4] (.nm 4) (.seq (.var 2)) .none (.op .inn (.var 4) (.tup (.cons (.cint 0) (.cons (.cint 1) .nil))))) .nil))) .nil)))) (
   (.cons (.raise 6) .nil)) ( .nil))
  (.cons (.expr [] (.call 53 (.cons (.var 3) .nil)))
  (.cons (.iff [] (.bop false (.cons (.op .gt (.cnt (.var 2) (.cint 0)) (.bi .len (.cons (.var 0) .nil))) (.cons (.op .gt (.cnt (.var 2) (.cint 1)) (.bi .len (.cons (.var 1) .nil))) .nil))) (
   (.cons (.raise 11) .nil)) ( .nil))
  (.cons (.ret [] (.call 138 (.cons (.var 0) (.cons (.var 1) (.cons (.var 2) (.cons (.var 3) .nil)))))) .nil))))))⟩
/-- _law_runs -/
def D140 : HD := ⟨1, 3,
  (.cons (.asg (.nm 1) (.lst .nil))
  (.cons (.loop (.nm 2) (.seq (.var 0)) (
   (.cons (.iff [1, 2] (.bop true (.cons (.op .ne (.var 1) (.lst .nil)) (.cons (.op .eq (.ix (.ix (.var 1) (.neg (.cint 1))) (.cint 0)) (.var 2)) .nil))) (
    (.cons (.set (.var 1) [] (.neg (.cint 1)) (.tup (.cons (.var 2) (.cons (.pu [1] (.op .add (.ix (.ix (.var 1) (.neg (.cint 1))) (.cint 1)) (.cint 1))) .nil)))) .nil)) (
    (.cons (.app (.var 1) (.tup (.cons (.var 2) (.cons (.pu [] (.cint 1)) .nil)))) .nil))) .nil)))
  (.cons (.ret (.var 1)) .nil)))⟩
/-- law -/
def D141 : HD := ⟨1, 14,
  (.cons (.asg (.nm 0) (.sl (.var 0) [] .none (.some (.cint 63))))
  (.cons (.asg (.nm 1) (.pu [0] (.call 16 (.cons (.var 0) (.cons (.cint 0) .nil)))))
  (.cons (.par 2 3 (.puF [1] (.call 25 (.cons (.var 1) (.cons (.cint 6) (.cons (.cint 6) .nil))))) (.puF [0] (.call 25 (.cons (.op .add (.call 16 (.cons (.var 0) (.cons (.cint 1) .nil))) (.cint 3)) (.cons (.cint 6) (.cons (.cint 9) .nil))))))
  (.cons (.asg (.nm 4) (.lst (.cons (.cat (.lst (.cons (.pu [] (.tup (.cons (.cint 1) (.cons (.cint 1) .nil)))) .nil)) (.var 2)) (.cons (.cat (.lst (.cons (.pu [] (.tup (.cons (.cint 1) (.cons (.cint 1) .nil)))) .nil)) (.var 3)) .nil))))
  (.cons (.loop (.nm 5) (.rng [] (.rng1 (.cint 7))) (
   (.cons (.asg (.nm 6) (.comp [12] (.nm 12) (.rng [5] (.rng1 (.var 5))) [] .none (.pu [0, 5, 12] (.op .mod (.op .fdiv (.call 18 (.cons (.call 16 (.cons (.var 0) (.cons (.var 5) .nil))) (.cons (.op .add (.var 12) (.cint 5)) .nil))) (.cint 7)) (.cint 2)))))
   (.cons (.asg (.nm 7) (.lst (.cons (.lof (.var 2)) (.cons (.lof (.var 3)) (.cons (.lof (.var 6)) .nil)))))
   (.cons (.asg (.nm 8) (.comp [13] (.nm 13) (.seq (.pu [] (.tup (.cons (.cstr "all") (.cons (.cstr "rows") .nil))))) [] .none (.pu [7, 13] (.call 139 (.cons (.ix (.var 7) (.cint 0)) (.cons (.ix (.var 7) (.cint 1)) (.cons (.ix (.var 7) (.cint 2)) (.cons (.var 13) .nil))))))))
   (.cons (.asg (.nm 9) (.lst (.cons (.pu [4, 6] (.call 43 (.cons (.ix (.ix (.var 4) (.cint 0)) (.cnt (.var 6) (.cint 0))) (.cons (.ix (.ix (.var 4) (.cint 1)) (.cnt (.var 6) (.cint 1))) .nil)))) (.cons (.pu [] (.tup (.cons (.cint 1) (.cons (.cint 1) .nil)))) .nil))))
   (.cons (.loop (.tp (.cons (.nm 10) (.cons (.nm 11) .nil))) (.seq (.call 140 (.cons (.var 6) .nil))) (
    (.cons (.set (.var 9) [] (.cint 1) (.pu [4, 9, 10, 11] (.call 43 (.cons (.ix (.var 9) (.cint 1)) (.cons (.ix (.ix (.var 4) (.var 10)) (.var 11)) .nil))))) .nil)))
   (.cons (.iff [2, 3, 6, 7, 8, 9] (.bop false (.cons (.not1 (.call 58 (.cons (.var 8) .nil))) (.cons (.op .ne (.var 8) (.var 9)) (.cons (.op .ne (.var 7) (.lst (.cons (.var 2) (.cons (.var 3) (.cons (.var 6) .nil))))) .nil)))) (
    (.cons (.ret (.pu [] (.cbl false))) .nil)) ( .nil))
   (.cons (.iff [2, 3, 6, 9] (.op .ne (.call 139 (.cons (.sl (.var 2) .none (.some (.cnt (.var 6) (.cint 0)))) (.cons (.sl (.var 3) .none (.some (.cnt (.var 6) (.cint 1)))) (.cons (.var 6) (.cons (.cstr "rows") .nil))))) (.ix (.var 9) (.cint 1))) (
    (.cons (.ret (.pu [] (.cbl false))) .nil)) ( .nil)) .nil)))))))))
  (.cons (.ret (.pu [] (.op .eq (.call 139 (.cons (.lst (.cons (.tup (.cons (.cint 2) (.cons (.cint 1) .nil))) .nil)) (.cons (.lst (.cons (.tup (.cons (.cint 3) (.cons (.cint 1) .nil))) (.cons (.tup (.cons (.cint 5) (.cons (.cint 1) .nil))) .nil))) (.cons (.lst (.cons (.cint 1) (.cons (.cint 0) (.cons (.cint 1) .nil)))) (.cons (.cstr "rows") .nil))))) (.tup (.cons (.cint 18) (.cons (.cint 1) .nil)))))) .nil))))))⟩
/-- _law_joined -/
def D142 : HD := ⟨1, 4,
  (.cons (.asg (.nm 1) (.lst .nil))
  (.cons (.loop (.tp (.cons (.nm 2) (.cons (.nm 3) .nil))) (.seq (.var 0)) (
   (.cons (.iff [1, 2] (.bop true (.cons (.op .ne (.var 1) (.lst .nil)) (.cons (.op .eq (.ix (.ix (.var 1) (.neg (.cint 1))) (.cint 0)) (.var 2)) .nil))) (
    (.cons (.set (.var 1) [] (.neg (.cint 1)) (.tup (.cons (.var 2) (.cons (.pu [1, 3] (.op .add (.ix (.ix (.var 1) (.neg (.cint 1))) (.cint 1)) (.var 3))) .nil)))) .nil)) (
    (.cons (.app (.var 1) (.tup (.cons (.var 2) (.cons (.var 3) .nil)))) .nil))) .nil)))
  (.cons (.ret (.var 1)) .nil)))⟩
/-- _law_centred -/
def D143 : HD := ⟨3, 13,
  (.cons (.asg (.nm 3) (.pu [1] (.bi .tuple (.cons (.var 1) .nil))))
  (.cons (.iff [2, 3] (.op .nin (.var 3) (.var 2)) (
   (.cons (.asg (.nm 4) (.pu [1] (.ite (.op .gt (.bi .len (.cons (.var 1) .nil)) (.cint 0)) (.tup (.cons (.cint 0) (.cons (.cint 1) .nil))) (.tup (.cons (.cint 1) (.cons (.cint 1) .nil))))))
   (.cons (.loop (.nm 5) (.rng [1] (.rng2 (.cint 1) (.op .shl (.cint 1) (.bi .len (.cons (.var 1) .nil))))) (
    (.cons (.asg (.nm 6) (.comp [11, 12] (.tp (.cons (.nm 11) (.cons (.nm 12) .nil))) (.enum (.var 1)) [5, 11] (.some (.op .eq (.op .band (.op .shr (.var 5) (.var 11)) (.cint 1)) (.cint 1))) (.var 12)))
    (.cons (.asg (.nm 7) (.comp [11, 12] (.tp (.cons (.nm 11) (.cons (.nm 12) .nil))) (.enum (.var 1)) [5, 11] (.some (.op .eq (.op .band (.op .shr (.var 5) (.var 11)) (.cint 1)) (.cint 0))) (.var 12)))
    (.cons (.asg (.nm 8) (.pu [6] (.ite (.op .eq (.op .mod (.bi .len (.cons (.var 6) .nil)) (.cint 2)) (.cint 1)) (.tup (.cons (.cint 1) (.cons (.cint 1) .nil))) (.tup (.cons (.neg (.cint 1)) (.cons (.cint 1) .nil))))))
    (.cons (.loop (.tp (.cons (.nm 9) (.cons (.nm 10) .nil))) (.seq (.var 6)) (
     (.cons (.asg (.nm 8) (.pu [0, 8, 9, 10] (.call 43 (.cons (.var 8) (.cons (.ix (.ix (.var 0) (.var 9)) (.var 10)) .nil))))) .nil)))
    (.cons (.asg (.nm 4) (.pu [0, 2, 4, 7, 8] (.call 69 (.cons (.var 4) (.cons (.call 43 (.cons (.var 8) (.cons (.call 143 (.cons (.var 0) (.cons (.call 142 (.cons (.var 7) .nil)) (.cons (.var 2) .nil)))) .nil))) .nil))))) .nil)))))))
   (.cons (.set (.var 2) [3] (.var 3) (.var 4)) .nil)))) ( .nil))
  (.cons (.ret (.ix (.var 2) [3] (.var 3))) .nil)))⟩
/-- added -/
def D145 : SD := ⟨3, 7,
  (.cons (.expr [] (.call 129 (.cons (.var 0) .nil)))
  (.cons (.expr [] (.call 129 (.cons (.var 1) .nil)))
  (.cons (.expr [] (.call 53 (.cons (.var 2) .nil)))
  (.cons (.asg [] (.nm 3) (.bi .min2 (.cons (.bi .len (.cons (.var 0) .nil)) (.cons (.bi .len (.cons (.var 1) .nil)) .nil))))
  (.cons (.asg [] (.nm 4) (.comp [5, 6] (.tp (.cons (.nm 5) (.cons (.nm 6) .nil))) (.zip (.call 54 (.cons (.sl (.var 0) .none (.some (.var 3))) (.cons (.var 2) .nil))) (.call 54 (.cons (.sl (.var 1) .none (.some (.var 3))) (.cons (.var 2) .nil)))) .none (.call 7 (.cons (.var 5) (.cons (.var 6) .nil)))))
  (.cons (.ret [] (.call 55 (.cons (.var 4) (.cons (.var 2) .nil)))) .nil))))))⟩
/-- law -/
def D146 : SD := ⟨1, 14,
  (.cons (.asg [] (.nm 0) (.sl (.var 0) .none (.some (.cint 63))))
  (.cons (.asg [] (.nm 1) (.call 16 (.cons (.var 0) (.cons (.cint 0) .nil))))
  (.cons (.par [] 2 3 (.op .add (.cint 1) (.op .mod (.call 18 (.cons (.var 1) (.cons (.cint 1) .nil))) (.cint 5))) (.op .add (.cint 1) (.op .mod (.call 18 (.cons (.var 1) (.cons (.cint 2) .nil))) (.cint 5))))
  (.cons (.par [] 4 5 (.call 25 (.cons (.var 1) (.cons (.var 2) (.cons (.cint 6) .nil)))) (.call 25 (.cons (.op .add (.call 16 (.cons (.var 0) (.cons (.cint 1) .nil))) (.cint 3)) (.cons (.var 3) (.cons (.cint 9) .nil)))))
  (.cons (.loop [] (.nm 6) (.seq (.tup (.cons (.cstr "all") (.cons (.cstr "nested") (.cons (.cstr "rows") .nil))))) (
   (.cons (.asg [] (.nm 7) (.lst (.cons (.bi .list (.cons (.var 4) .nil)) (.cons (.bi .list (.cons (.var 5) .nil)) .nil))))
   (.cons (.asg [] (.nm 8) (.call 145 (.cons (.ix (.var 7) (.cint 0)) (.cons (.ix (.var 7) (.cint 1)) (.cons (.var 6) .nil)))))
   (.cons (.iff [] (.bop false (.cons (.not1 (.call 58 (.cons (.var 8) .nil))) (.cons (.op .ne (.bi .len (.cons (.var 8) .nil)) (.bi .min2 (.cons (.var 2) (.cons (.var 3) .nil)))) (.cons (.op .ne (.var 7) (.lst (.cons (.var 4) (.cons (.var 5) .nil)))) .nil)))) (
    (.cons (.ret [] (.cbl false)) .nil)) ( .nil))
   (.cons (.loop [] (.nm 9) (.rng2 (.cint 1) (.op .add (.bi .len (.cons (.var 8) .nil)) (.cint 1))) (
    (.cons (.asg [] (.nm 10) (.tup (.cons (.cint 0) (.cons (.cint 1) .nil))))
    (.cons (.loop [] (.nm 11) (.rng1 (.op .shl (.cint 1) (.var 9))) (
     (.cons (.asg [] (.nm 12) (.comp [13] (.nm 13) (.rng1 (.var 9)) .none (.op .band (.op .shr (.var 11) (.var 13)) (.cint 1))))
     (.cons (.asg [] (.nm 10) (.call 69 (.cons (.var 10) (.cons (.call 139 (.cons (.var 4) (.cons (.var 5) (.cons (.var 12) (.cons (.var 6) .nil))))) .nil)))) .nil))))
    (.cons (.iff [] (.op .ne (.ix (.var 8) (.op .sub (.var 9) (.cint 1))) (.var 10)) (
     (.cons (.ret [] (.cbl false)) .nil)) ( .nil)) .nil))))) .nil))))))
  (.cons (.ret [] (.op .eq (.call 145 (.cons (.lst (.cons (.tup (.cons (.cint 1) (.cons (.cint 2) .nil))) (.cons (.tup (.cons (.cint 1) (.cons (.cint 2) .nil))) .nil))) (.cons (.lst (.cons (.tup (.cons (.cint 1) (.cons (.cint 2) .nil))) (.cons (.tup (.cons (.cint 1) (.cons (.cint 2) .nil))) .nil))) (.cons (.cstr "all") .nil)))) (.lst (.cons (.tup (.cons (.cint 1) (.cons (.cint 1) .nil))) (.cons (.tup (.cons (.cint 3) (.cons (.cint 2) .nil))) .nil))))) .nil))))))⟩
/-- added -/
def D71 : SD := ⟨3, 7,
  (.cons (.expr [] (.call 52 (.cons (.var 0) .nil)))
  (.cons (.expr [] (.call 52 (.cons (.var 1) .nil)))
  (.cons (.expr [] (.call 53 (.cons (.var 2) .nil)))
  (.cons (.asg [] (.nm 3) (.bi .min2 (.cons (.bi .len (.cons (.var 0) .nil)) (.cons (.bi .len (.cons (.var 1) .nil)) .nil))))
  (.cons (.asg [] (.nm 4) (.comp [5, 6] (.tp (.cons (.nm 5) (.cons (.nm 6) .nil))) (.zip (.call 54 (.cons (.sl (.var 0) .none (.some (.var 3))) (.cons (.var 2) .nil))) (.call 54 (.cons (.sl (.var 1) .none (.some (.var 3))) (.cons (.var 2) .nil)))) .none (.call 7 (.cons (.var 5) (.cons (.var 6) .nil)))))
  (.cons (.ret [] (.call 55 (.cons (.var 4) (.cons (.var 2) .nil)))) .nil))))))⟩
/-- _law_mean -/
def D72 : SD := ⟨2, 8,
  (.cons (.asg [] (.tp (.cons (.nm 2) (.cons (.nm 3) .nil))) (.tup (.cons (.cint 0) (.cons (.cint 0) .nil))))
  (.cons (.loop [] (.tp (.cons (.nm 4) (.cons (.nm 5) .nil))) (.seq (.var 0)) (
   (.cons (.asg [] (.nm 6) (.var 4))
   (.cons (.loop [] (.nm 7) (.seq (.var 1)) (
    (.cons (.asg [] (.nm 6) (.op .mul (.var 6) (.ix (.var 5) (.var 7)))) .nil)))
   (.cons (.par [] 2 3 (.op .add (.var 2) (.var 6)) (.op .add (.var 3) (.var 4))) .nil)))))
  (.cons (.ret [] (.call 19 (.cons (.var 2) (.cons (.var 3) .nil)))) .nil)))⟩
/-- law -/
def D73 : SD := ⟨1, 18,
  (.cons (.asg [] (.nm 0) (.sl (.var 0) .none (.some (.cint 63))))
  (.cons (.asg [] (.nm 1) (.call 16 (.cons (.var 0) (.cons (.cint 0) .nil))))
  (.cons (.asg [] (.nm 2) (.op .mod (.call 18 (.cons (.var 1) (.cons (.cint 1) .nil))) (.cint 9)))
  (.cons (.par [] 3 4 (.call 25 (.cons (.var 1) (.cons (.var 2) (.cons (.cint 6) .nil)))) (.call 25 (.cons (.op .add (.call 16 (.cons (.var 0) (.cons (.cint 1) .nil))) (.cint 3)) (.cons (.var 2) (.cons (.cint 9) .nil)))))
  (.cons (.asg [] (.nm 5) (.call 25 (.cons (.op .add (.call 16 (.cons (.var 0) (.cons (.cint 2) .nil))) (.cint 5)) (.cons (.var 2) (.cons (.cint 2) .nil)))))
  (.cons (.loop [] (.nm 6) (.seq (.tup (.cons (.cstr "all") (.cons (.cstr "nested") (.cons (.cstr "rows") .nil))))) (
   (.cons (.own [] 7 (.call 71 (.cons (.var 3) (.cons (.var 4) (.cons (.var 6) .nil)))))
   (.cons (.asg [] (.nm 8) (.comp [15, 16] (.tp (.cons (.nm 15) (.cons (.nm 16) .nil))) (.zip (.call 56 (.cons (.var 3) (.cons (.var 6) .nil))) (.call 56 (.cons (.var 4) (.cons (.var 6) .nil)))) .none (.call 69 (.cons (.var 15) (.cons (.var 16) .nil)))))
   (.cons (.iff [7] (.bop false (.cons (.not1 (.call 58 (.cons (.var 7) .nil))) (.cons (.op .ne (.call 56 (.cons (.var 7) (.cons (.var 6) .nil))) (.var 8)) (.cons (.op .ne (.call 71 (.cons (.var 4) (.cons (.var 3) (.cons (.var 6) .nil)))) (.var 7)) .nil)))) (
    (.cons (.ret [] (.cbl false)) .nil)) ( .nil))
   (.cons (.iff [7] (.op .ne (.call 71 (.cons (.var 7) (.cons (.var 5) (.cons (.var 6) .nil)))) (.call 71 (.cons (.var 3) (.cons (.call 71 (.cons (.var 4) (.cons (.var 5) (.cons (.var 6) .nil)))) (.cons (.var 6) .nil))))) (
    (.cons (.ret [] (.cbl false)) .nil)) ( .nil))
   (.cons (.iff [] (.op .ne (.call 71 (.cons (.var 3) (.cons (.op .mul (.lst (.cons (.tup (.cons (.cint 0) (.cons (.cint 1) .nil))) .nil)) (.var 2)) (.cons (.var 6) .nil)))) (.var 3)) (
    (.cons (.ret [] (.cbl false)) .nil)) ( .nil))
   (.cons (.own [7] 9 (.bi .list (.cons (.var 7) .nil)))
   (.cons (.app [] 7 (.tup (.cons (.cint 1) (.cons (.cint 1) .nil))))
   (.cons (.iff [9] (.op .ne (.call 71 (.cons (.var 3) (.cons (.var 4) (.cons (.var 6) .nil)))) (.var 9)) (
    (.cons (.ret [] (.cbl false)) .nil)) ( .nil)) .nil))))))))))
  (.cons (.par [] 10 11 (.call 35 (.cons (.var 0) (.cons (.cint 3) (.cons (.cint 1) (.cons (.cint 4) .nil))))) (.call 35 (.cons (.var 0) (.cons (.cint 9) (.cons (.cint 1) (.cons (.cint 4) .nil))))))
  (.cons (.asg [] (.nm 12) (.call 47 (.cons (.call 42 (.cons (.var 10) (.cons (.var 11) .nil))) (.cons (.lst (.cons (.lst (.cons (.cint 1) (.cons (.cint 1) (.cons (.cint 0) .nil)))) .nil)) .nil))))
  (.cons (.own [] 13 (.lst .nil))
  (.cons (.loop [] (.nm 14) (.seq (.tup (.cons (.var 10) (.cons (.var 11) (.cons (.var 12) .nil))))) (
   (.cons (.app [] 13 (.comp [17] (.nm 17) (.rng2 (.cint 1) (.cint 6)) .none (.call 72 (.cons (.var 14) (.cons (.op .mul (.lst (.cons (.cint 0) .nil)) (.var 17)) .nil))))) .nil)))
  (.cons (.ret [13] (.op .eq (.call 71 (.cons (.ix (.var 13) (.cint 0)) (.cons (.ix (.var 13) (.cint 1)) (.cons (.cstr "all") .nil)))) (.ix (.var 13) (.cint 2)))) .nil)))))))))))⟩
/-- powers_of -/
def D147 : SD := ⟨5, 15,
  (.cons (.asg [] (.nm 5) (.bi .sum (.cons (.comp [12, 13] (.tp (.cons (.nm 12) (.cons (.nm 13) .nil))) (.seq (.var 0)) .none (.var 12)) .nil)))
  (.cons (.own [] 6 (.lst .nil))
  (.cons (.asg [] (.nm 7) (.comp [12, 13] (.tp (.cons (.nm 12) (.cons (.nm 13) .nil))) (.seq (.var 0)) .none (.var 12)))
  (.cons (.loop [] (.nm 8) (.rng1 (.op .add (.var 3) (.cint 1))) (
   (.cons (.parO [] 9 10 (.lst .nil) (.bi .list (.cons (.var 7) .nil)))
   (.cons (.loop [] (.nm 11) (.rng1 (.op .add (.var 4) (.cint 1))) (
    (.cons (.app [] 9 (.call 3 (.cons (.bi .sum (.cons (.var 10) .nil)) (.cons (.var 5) .nil))))
    (.cons (.asg [] (.nm 10) (.comp [14, 12, 13] (.tp (.cons (.nm 14) (.cons (.tp (.cons (.nm 12) (.cons (.nm 13) .nil))) .nil))) (.zip (.var 10) (.var 0)) .none (.op .mul (.var 14) (.ix (.var 13) (.var 2))))) .nil))))
   (.cons (.app [9] 6 (.var 9))
   (.cons (.asg [] (.nm 7) (.comp [14, 12, 13] (.tp (.cons (.nm 14) (.cons (.tp (.cons (.nm 12) (.cons (.nm 13) .nil))) .nil))) (.zip (.var 7) (.var 0)) .none (.op .mul (.var 14) (.ix (.var 13) (.var 1))))) .nil))))))
  (.cons (.retv 6) .nil)))))⟩
/-- sum_at -/
def D148 : SD := ⟨4, 8,
  (.cons (.asg [] (.nm 4) (.ix (.ix (.var 0) (.var 2)) (.var 3)))
  (.cons (.loop [] (.nm 5) (.rng1 (.op .add (.var 2) (.cint 1))) (
   (.cons (.loop [] (.nm 6) (.rng1 (.op .add (.var 3) (.cint 1))) (
    (.cons (.asg [] (.nm 7) (.ite (.bop true (.cons (.op .gt (.var 2) (.cint 0)) (.cons (.op .gt (.var 5) (.cint 0)) .nil))) (.op .mul (.call 49 (.cons (.op .sub (.var 2) (.cint 1)) (.cons (.op .sub (.var 5) (.cint 1)) .nil))) (.call 49 (.cons (.var 3) (.cons (.var 6) .nil)))) (.cint 0)))
    (.cons (.iff [] (.op .eq (.var 2) (.cint 0)) (
     (.cons (.asg [] (.nm 7) (.ite (.op .gt (.var 6) (.cint 0)) (.call 49 (.cons (.op .sub (.var 3) (.cint 1)) (.cons (.op .sub (.var 6) (.cint 1)) .nil))) (.cint 0))) .nil)) ( .nil))
    (.cons (.iff [] (.bop true (.cons (.op .gt (.var 7) (.cint 0)) (.cons (.op .ne (.tup (.cons (.var 5) (.cons (.var 6) .nil))) (.tup (.cons (.var 2) (.cons (.var 3) .nil)))) .nil))) (
     (.cons (.asg [] (.nm 4) (.call 8 (.cons (.var 4) (.cons (.call 9 (.cons (.tup (.cons (.var 7) (.cons (.cint 1) .nil))) (.cons (.call 9 (.cons (.ix (.var 1) (.tup (.cons (.var 5) (.cons (.var 6) .nil)))) (.cons (.ix (.ix (.var 0) (.op .sub (.var 2) (.var 5))) (.op .sub (.var 3) (.var 6))) .nil))) .nil))) .nil)))) .nil)) ( .nil)) .nil))))) .nil)))
  (.cons (.ret [] (.var 4)) .nil)))⟩
/-- sum_of_both -/
def D150 : SD := ⟨5, 5,
  (.cons (.ret [] (.ix (.call 149 (.cons (.call 147 (.cons (.var 0) (.cons (.var 1) (.cons (.var 2) (.cons (.var 3) (.cons (.var 4) .nil)))))) (.cons (.var 3) (.cons (.var 4) .nil)))) (.tup (.cons (.var 3) (.cons (.var 4) .nil))))) .nil)⟩
/-- check_letters -/
def D151 : SD := ⟨3, 3,
  (.cons (.iff [] (.bop false (.cons (.not1 (.call 1 (.cons (.var 1) .nil))) (.cons (.not1 (.call 1 (.cons (.var 2) .nil))) (.cons (.op .eq (.var 1) (.var 2)) .nil)))) (
   (.cons (.raise 9) .nil)) ( .nil))
  (.cons (.iff [] (.bop false (.cons (.not1 (.chain .le .lt (.cint 0) (.var 1) (.call 29 (.cons (.var 0) .nil)))) (.cons (.not1 (.chain .le .lt (.cint 0) (.var 2) (.call 29 (.cons (.var 0) .nil)))) .nil))) (
   (.cons (.raise 9) .nil)) ( .nil)) .nil))⟩
/-- both_sum -/
def D152 : SD := ⟨5, 5,
  (.cons (.expr [] (.call 32 (.cons (.var 0) .nil)))
  (.cons (.expr [] (.call 151 (.cons (.var 0) (.cons (.var 1) (.cons (.var 2) .nil)))))
  (.cons (.iff [] (.bop false (.cons (.not1 (.call 1 (.cons (.var 3) .nil))) (.cons (.not1 (.call 1 (.cons (.var 4) .nil))) (.cons (.not1 (.chain .le .le (.cint 0) (.var 3) (.glob 12))) (.cons (.not1 (.chain .le .le (.cint 0) (.var 4) (.glob 12))) .nil))))) (
   (.cons (.raise 2) .nil)) ( .nil))
  (.cons (.iff [] (.op .eq (.op .add (.var 3) (.var 4)) (.cint 0)) (
   (.cons (.raise 2) .nil)) ( .nil))
  (.cons (.ret [] (.call 150 (.cons (.var 0) (.cons (.var 1) (.cons (.var 2) (.cons (.var 3) (.cons (.var 4) .nil))))))) .nil)))))⟩
/-- _law_less -/
def D153 : SD := ⟨2, 2,
  (.cons (.ret [] (.call 69 (.cons (.var 0) (.cons (.tup (.cons (.neg (.ix (.var 1) (.cint 0))) (.cons (.ix (.var 1) (.cint 1)) .nil))) .nil)))) .nil)⟩
/-- _law_ways -/
def D154 : SD := ⟨2, 4,
  (.cons (.asg [] (.nm 2) (.cint 1))
  (.cons (.loop [] (.nm 3) (.rng1 (.var 1)) (
   (.cons (.asg [] (.nm 2) (.op .fdiv (.op .mul (.var 2) (.op .sub (.var 0) (.var 3))) (.op .add (.var 3) (.cint 1)))) .nil)))
  (.cons (.ret [] (.var 2)) .nil)))⟩
/-- law -/
def D156 : SD := ⟨1, 10,
  (.cons (.asg [] (.nm 0) (.sl (.var 0) .none (.some (.cint 63))))
  (.cons (.asg [] (.nm 1) (.op .add (.cint 2) (.op .mod (.call 18 (.cons (.call 16 (.cons (.var 0) (.cons (.cint 0) .nil))) (.cons (.cint 4) .nil))) (.cint 2))))
  (.cons (.asg [] (.nm 2) (.call 41 (.cons (.var 0) (.cons (.cint 0) (.cons (.var 1) (.cons (.cint 5) .nil))))))
  (.cons (.asg [] (.nm 3) (.op .mod (.call 18 (.cons (.call 16 (.cons (.var 0) (.cons (.cint 1) .nil))) (.cons (.cint 5) .nil))) (.var 1)))
  (.cons (.asg [] (.nm 4) (.op .mod (.op .add (.op .add (.var 3) (.cint 1)) (.op .mod (.call 18 (.cons (.call 16 (.cons (.var 0) (.cons (.cint 2) .nil))) (.cons (.cint 5) .nil))) (.op .sub (.var 1) (.cint 1)))) (.var 1)))
  (.cons (.asg [] (.nm 5) (.call 36 (.cons (.var 2) .nil)))
  (.cons (.asg [] (.nm 6) (.call 155 (.cons (.var 2) (.cons (.var 3) (.cons (.var 4) (.cons (.cint 3) (.cons (.cint 3) .nil)))))))
  (.cons (.loop [] (.tp (.cons (.nm 7) (.cons (.nm 8) .nil))) (.seq (.tup (.cons (.tup (.cons (.cint 1) (.cons (.cint 0) .nil))) (.cons (.tup (.cons (.cint 0) (.cons (.cint 2) .nil))) (.cons (.tup (.cons (.cint 1) (.cons (.cint 1) .nil))) (.cons (.tup (.cons (.cint 2) (.cons (.cint 1) .nil))) (.cons (.tup (.cons (.cint 3) (.cons (.cint 2) .nil))) (.cons (.tup (.cons (.cint 3) (.cons (.cint 3) .nil))) .nil)))))))) (
   (.cons (.asg [] (.nm 9) (.call 152 (.cons (.var 5) (.cons (.var 3) (.cons (.var 4) (.cons (.var 7) (.cons (.var 8) .nil)))))))
   (.cons (.iff [] (.bop false (.cons (.not1 (.call 21 (.cons (.var 9) .nil))) (.cons (.op .ne (.var 9) (.ix (.var 6) (.tup (.cons (.var 7) (.cons (.var 8) .nil))))) (.cons (.op .ne (.var 5) (.var 2)) .nil)))) (
    (.cons (.ret [] (.cbl false)) .nil)) ( .nil))
   (.cons (.iff [] (.op .ne (.call 152 (.cons (.var 2) (.cons (.var 4) (.cons (.var 3) (.cons (.var 8) (.cons (.var 7) .nil)))))) (.var 9)) (
    (.cons (.ret [] (.cbl false)) .nil)) ( .nil))
   (.cons (.iff [] (.bop true (.cons (.op .lt (.op .add (.var 7) (.var 8)) (.cint 5)) (.cons (.op .ne (.var 9) (.call 111 (.cons (.var 2) (.cons (.op .add (.op .mul (.lst (.cons (.var 3) .nil)) (.var 7)) (.op .mul (.lst (.cons (.var 4) .nil)) (.var 8))) (.cons (.cstr "all") .nil))))) .nil))) (
    (.cons (.ret [] (.cbl false)) .nil)) ( .nil)) .nil))))))
  (.cons (.iff [] (.op .eq (.op .mod (.call 18 (.cons (.call 16 (.cons (.var 0) (.cons (.cint 3) .nil))) (.cons (.cint 2) .nil))) (.cint 16)) (.cint 0)) (
   (.cons (.iff [] (.op .ne (.call 152 (.cons (.var 2) (.cons (.var 3) (.cons (.var 4) (.cons (.cint 8) (.cons (.cint 4) .nil)))))) (.ix (.call 155 (.cons (.var 2) (.cons (.var 3) (.cons (.var 4) (.cons (.cint 8) (.cons (.cint 4) .nil)))))) (.tup (.cons (.cint 8) (.cons (.cint 4) .nil))))) (
    (.cons (.ret [] (.cbl false)) .nil)) ( .nil)) .nil)) ( .nil))
  (.cons (.ret [] (.op .eq (.call 152 (.cons (.lst (.cons (.tup (.cons (.cint 1) (.cons (.lst (.cons (.cint 0) (.cons (.cint 0) .nil))) .nil))) (.cons (.tup (.cons (.cint 1) (.cons (.lst (.cons (.cint 1) (.cons (.cint 1) .nil))) .nil))) .nil))) (.cons (.cint 0) (.cons (.cint 1) (.cons (.cint 1) (.cons (.cint 1) .nil)))))) (.tup (.cons (.cint 1) (.cons (.cint 4) .nil))))) .nil))))))))))⟩
/-- square_of -/
def D159 : SD := ⟨2, 7,
  (.cons (.asg [] (.nm 2) (.glob 7))
  (.cons (.loop [] (.tp (.cons (.nm 3) (.cons (.nm 4) .nil))) (.enum (.var 1)) (
   (.cons (.loop [] (.tp (.cons (.nm 5) (.cons (.nm 6) .nil))) (.enum (.var 1)) (
    (.cons (.asg [] (.nm 2) (.call 7 (.cons (.var 2) (.cons (.call 9 (.cons (.call 9 (.cons (.var 4) (.cons (.var 6) .nil))) (.cons (.ix (.var 0) (.op .add (.var 3) (.var 5))) .nil))) .nil)))) .nil))) .nil)))
  (.cons (.ret [] (.var 2)) .nil)))⟩
/-- first_mixed -/
def D160 : SD := ⟨3, 10,
  (.cons (.asg [] (.nm 3) (.tup (.cons (.bi .len (.cons (.call 157 (.cons (.var 0) (.cons (.var 1) .nil))) .nil)) (.cons (.bi .len (.cons (.call 157 (.cons (.var 0) (.cons (.var 2) .nil))) .nil)) .nil))))
  (.cons (.loop [] (.nm 4) (.rng2 (.cint 1) (.bi .max1 (.cons (.var 3) .nil))) (
   (.cons (.par [] 5 6 (.bi .min2 (.cons (.var 4) (.cons (.op .sub (.ix (.var 3) (.cint 0)) (.cint 1)) .nil))) (.bi .min2 (.cons (.var 4) (.cons (.op .sub (.ix (.var 3) (.cint 1)) (.cint 1)) .nil))))
   (.cons (.asg [] (.nm 7) (.call 149 (.cons (.call 147 (.cons (.var 0) (.cons (.var 1) (.cons (.var 2) (.cons (.var 5) (.cons (.var 6) .nil)))))) (.cons (.var 5) (.cons (.var 6) .nil)))))
   (.cons (.loop [] (.nm 8) (.rng2 (.cint 1) (.op .add (.var 5) (.cint 1))) (
    (.cons (.loop [] (.nm 9) (.rng2 (.cint 1) (.op .add (.var 6) (.cint 1))) (
     (.cons (.iff [] (.op .ne (.ix (.var 7) (.tup (.cons (.var 8) (.cons (.var 9) .nil)))) (.glob 7)) (
      (.cons (.ret [] (.tup (.cons (.var 8) (.cons (.var 9) .nil)))) .nil)) ( .nil)) .nil))) .nil))) .nil)))))
  (.cons (.ret [] (.tup .nil)) .nil)))⟩
/-- _law_says -/
def D162 : SD := ⟨2, 2,
  (.cons (.ret [] (.bop true (.cons (.isi (.var 0) .bool) (.cons (.op .eq (.var 0) (.var 1)) .nil)))) .nil)⟩
/-- _law_table -/
def D163 : SD := ⟨4, 15,
  (.cons (.asg [] (.nm 4) (.call 16 (.cons (.var 0) (.cons (.var 1) .nil))))
  (.cons (.asg [] (.nm 5) (.call 18 (.cons (.var 4) (.cons (.cint 1) .nil))))
  (.cons (.par [] 6 7 (.op .add (.cint 1) (.op .mod (.var 5) (.var 3))) (.op .mod (.op .fdiv (.var 5) (.cint 60)) (.cint 4)))
  (.cons (.own [] 8 (.lst .nil))
  (.cons (.loop [] (.nm 9) (.rng1 (.var 6)) (
   (.cons (.asg [] (.nm 10) (.call 18 (.cons (.call 16 (.cons (.var 0) (.cons (.op .add (.var 1) (.op .mod (.var 9) (.cint 5))) .nil))) (.cons (.op .add (.var 9) (.cint 2)) .nil))))
   (.cons (.asg [] (.nm 11) (.op .add (.cint 1) (.op .mod (.var 10) (.ix (.tup (.cons (.cint 3) (.cons (.cint 60) (.cons (.cint 7) (.cons (.op .pow (.cint 10) (.cint 9)) .nil))))) (.var 7)))))
   (.cons (.own [] 12 (.lst .nil))
   (.cons (.loop [] (.nm 13) (.rng1 (.var 2)) (
    (.cons (.asg [] (.nm 14) (.op .fdiv (.call 18 (.cons (.call 16 (.cons (.var 0) (.cons (.op .add (.var 1) (.var 13)) .nil))) (.cons (.op .add (.op .add (.op .mul (.cint 5) (.var 9)) (.var 13)) (.cint 3)) .nil))) (.cint 5)))
    (.cons (.app [] 12 (.op .sub (.op .mod (.var 14) (.ix (.tup (.cons (.cint 2) (.cons (.cint 7) (.cons (.cint 121) (.cons (.cint 5) .nil))))) (.var 7))) (.ix (.tup (.cons (.cint 0) (.cons (.cint 3) (.cons (.cint 60) (.cons (.cint 2) .nil))))) (.var 7)))) .nil))))
   (.cons (.app [12] 8 (.tup (.cons (.var 11) (.cons (.var 12) .nil)))) .nil)))))))
  (.cons (.retv 8) .nil))))))⟩
/-- _law_copy -/
def D164 : SD := ⟨1, 3,
  (.cons (.ret [] (.comp [1, 2] (.tp (.cons (.nm 1) (.cons (.nm 2) .nil))) (.seq (.var 0)) .none (.tup (.cons (.var 1) (.cons (.bi .list (.cons (.var 2) .nil)) .nil))))) .nil)⟩
/-- _law_apart -/
def D166 : SD := ⟨3, 12,
  (.cons (.par [] 3 4 (.call 165 (.cons (.var 0) (.cons (.var 1) .nil))) (.call 165 (.cons (.var 0) (.cons (.var 2) .nil))))
  (.cons (.asg [] (.nm 5) (.bi .sum (.cons (.comp [9, 10] (.tp (.cons (.nm 9) (.cons (.nm 10) .nil))) (.seq (.var 0)) .none (.var 9)) .nil)))
  (.cons (.loop [] (.nm 6) (.seq (.bi .sorted (.cons (.var 3) .nil))) (
   (.cons (.loop [] (.nm 7) (.seq (.bi .sorted (.cons (.var 4) .nil))) (
    (.cons (.asg [] (.nm 8) (.comp [9, 11] (.tp (.cons (.nm 9) (.cons (.nm 11) .nil))) (.seq (.var 0)) (.some (.bop true (.cons (.op .eq (.ix (.var 11) (.var 1)) (.var 6)) (.cons (.op .eq (.ix (.var 11) (.var 2)) (.var 7)) .nil)))) (.var 9)))
    (.cons (.iff [] (.op .ne (.op .mul (.bi .sum (.cons (.var 8) .nil)) (.var 5)) (.op .mul (.ix (.var 3) (.var 6)) (.ix (.var 4) (.var 7)))) (
     (.cons (.ret [] (.cbl false)) .nil)) ( .nil)) .nil)))) .nil)))
  (.cons (.ret [] (.cbl true)) .nil))))⟩
/-- without -/
def D172 : SD := ⟨2, 7,
  (.cons (.asg [] (.nm 2) (.bi .len (.cons (.var 0) .nil)))
  (.cons (.asg [] (.nm 3) (.op .add (.op .mul (.lst (.cons (.glob 7) .nil)) (.var 1)) (.comp [6] (.nm 6) (.rng2 (.var 1) (.var 2)) .none (.call 10 (.cons (.ix (.ix (.var 0) (.var 1)) (.var 6)) (.cons (.ix (.ix (.var 0) (.var 1)) (.var 1)) .nil))))))
  (.cons (.own [] 4 (.lst .nil))
  (.cons (.loop [] (.nm 5) (.rng1 (.var 2)) (
   (.cons (.app [] 4 (.comp [6] (.nm 6) (.rng1 (.var 2)) .none (.call 8 (.cons (.ix (.ix (.var 0) (.var 5)) (.var 6)) (.cons (.call 9 (.cons (.ix (.ix (.var 0) (.var 1)) (.var 1)) (.cons (.call 9 (.cons (.ix (.var 3) (.var 5)) (.cons (.ix (.var 3) (.var 6)) .nil))) .nil))) .nil))))) .nil)))
  (.cons (.ret [4] (.tup (.cons (.var 4) (.cons (.var 3) .nil)))) .nil)))))⟩
/-- below_row -/
def D174 : HD := ⟨3, 7,
  (.cons (.asg (.nm 3) (.pu [0] (.bi .len (.cons (.var 0) .nil))))
  (.cons (.asg (.nm 4) (.puF [3] (.op .mul (.lst (.cons (.glob 7) .nil)) (.var 3))))
  (.cons (.iff [0, 1] (.op .lt (.ix (.ix (.ix (.var 0) (.var 1)) (.var 1)) (.cint 0)) (.cint 0)) (
   (.cons (.set (.var 4) [1] (.var 1) (.pu [] (.glob 6)))
   (.cons (.ret (.call 173 (.cons (.var 2) (.cons (.var 4) .nil)))) .nil))) ( .nil))
  (.cons (.loop (.nm 5) (.rng [1, 3] (.rng2 (.op .add (.var 1) (.cint 1)) (.var 3))) (
   (.cons (.iff [0, 1, 5] (.bop true (.cons (.op .eq (.ix (.ix (.ix (.var 0) (.var 1)) (.var 1)) (.cint 0)) (.cint 0)) (.cons (.op .ne (.ix (.ix (.ix (.var 0) (.var 1)) (.var 5)) (.cint 0)) (.cint 0)) .nil))) (
    (.cons (.set (.var 4) [5] (.var 5) (.pu [] (.glob 6)))
    (.cons (.asg (.nm 6) (.pu [0, 1, 5] (.call 9 (.cons (.tup (.cons (.cint 2) (.cons (.cint 1) .nil))) (.cons (.ix (.ix (.var 0) (.var 1)) (.var 5)) .nil)))))
    (.cons (.set (.var 4) [1] (.var 1) (.pu [0, 5, 6] (.call 8 (.cons (.glob 7) (.cons (.call 10 (.cons (.call 7 (.cons (.ix (.ix (.var 0) (.var 5)) (.var 5)) (.cons (.glob 6) .nil))) (.cons (.var 6) .nil))) .nil)))))
    (.cons (.ret (.call 173 (.cons (.var 2) (.cons (.var 4) .nil)))) .nil))))) ( .nil)) .nil)))
  (.cons (.ret (.lst .nil)) .nil)))))⟩
/-- steady -/
def D176 : SD := ⟨1, 2,
  (.cons (.iff [] (.bop false (.cons (.not1 (.isi (.var 0) .list)) (.cons (.not1 (.chain .le .le (.cint 1) (.bi .len (.cons (.var 0) .nil)) (.glob 13))) (.cons (.op .eq (.op .mod (.bi .len (.cons (.var 0) .nil)) (.cint 2)) (.cint 0)) .nil)))) (
   (.cons (.raise 8) .nil)) ( .nil))
  (.cons (.iff [] (.not1 (.bi .all (.cons (.comp [1] (.nm 1) (.seq (.var 0)) .none (.call 4 (.cons (.var 1) .nil))) .nil))) (
   (.cons (.raise 8) .nil)) ( .nil))
  (.cons (.ret [] (.call 175 (.cons (.var 0) .nil))) .nil)))⟩
/-- _law_square -/
def D177 : SD := ⟨2, 7,
  (.cons (.asg [] (.nm 2) (.tup (.cons (.cint 0) (.cons (.cint 1) .nil))))
  (.cons (.loop [] (.tp (.cons (.nm 3) (.cons (.nm 4) .nil))) (.enum (.var 1)) (
   (.cons (.loop [] (.tp (.cons (.nm 5) (.cons (.nm 6) .nil))) (.enum (.var 1)) (
    (.cons (.asg [] (.nm 2) (.call 69 (.cons (.var 2) (.cons (.call 43 (.cons (.call 43 (.cons (.var 4) (.cons (.var 6) .nil))) (.cons (.ix (.var 0) (.op .add (.var 3) (.var 5))) .nil))) .nil)))) .nil))) .nil)))
  (.cons (.ret [] (.var 2)) .nil)))⟩
/-- _law_is_part -/
def D178 : SD := ⟨2, 2,
  (.cons (.iff [] (.bop false (.cons (.not1 (.isi (.var 0) .tuple)) (.cons (.op .ne (.bi .len (.cons (.var 0) .nil)) (.cint 2)) (.cons (.not1 (.call 21 (.cons (.ix (.var 0) (.cint 0)) .nil))) .nil)))) (
   (.cons (.ret [] (.cbl false)) .nil)) ( .nil))
  (.cons (.ret [] (.bop true (.cons (.call 58 (.cons (.ix (.var 0) (.cint 1)) .nil)) (.cons (.op .eq (.bi .len (.cons (.ix (.var 0) (.cint 1)) .nil)) (.var 1)) .nil)))) .nil))⟩
/-- _law_made_up -/
def D179 : SD := ⟨2, 8,
  (.cons (.asg [] (.nm 2) (.op .add (.op .fdiv (.bi .len (.cons (.var 0) .nil)) (.cint 2)) (.cint 1)))
  (.cons (.iff [] (.not1 (.bi .all (.cons (.comp [6, 7] (.tp (.cons (.nm 6) (.cons (.nm 7) .nil))) (.seq (.var 1)) .none (.bop true (.cons (.op .gt (.ix (.var 6) (.cint 0)) (.cint 0)) (.cons (.op .eq (.bi .len (.cons (.var 7) .nil)) (.var 2)) .nil)))) .nil))) (
   (.cons (.ret [] (.cbl false)) .nil)) ( .nil))
  (.cons (.loop [] (.nm 3) (.rng1 (.var 2)) (
   (.cons (.loop [] (.nm 4) (.rng1 (.var 2)) (
    (.cons (.asg [] (.nm 5) (.tup (.cons (.cint 0) (.cons (.cint 1) .nil))))
    (.cons (.loop [] (.tp (.cons (.nm 6) (.cons (.nm 7) .nil))) (.seq (.var 1)) (
     (.cons (.asg [] (.nm 5) (.call 69 (.cons (.var 5) (.cons (.call 43 (.cons (.var 6) (.cons (.call 43 (.cons (.ix (.var 7) (.var 3)) (.cons (.ix (.var 7) (.var 4)) .nil))) .nil))) .nil)))) .nil)))
    (.cons (.iff [] (.op .ne (.var 5) (.ix (.var 0) (.op .add (.var 3) (.var 4)))) (
     (.cons (.ret [] (.cbl false)) .nil)) ( .nil)) .nil))))) .nil)))
  (.cons (.ret [] (.cbl true)) .nil))))⟩
/-- _law_steady_due -/
def D180 : SD := ⟨2, 3,
  (.cons (.iff [] (.op .inn (.cstr "parts") (.var 1)) (
   (.cons (.ret [] (.call 179 (.cons (.var 0) (.cons (.ix (.var 1) (.cstr "parts")) .nil)))) .nil)) ( .nil))
  (.cons (.asg [] (.nm 2) (.ix (.var 1) (.cstr "row")))
  (.cons (.ret [] (.bop true (.cons (.op .eq (.bi .len (.cons (.var 2) .nil)) (.op .add (.op .fdiv (.bi .len (.cons (.var 0) .nil)) (.cint 2)) (.cint 1))) (.cons (.op .lt (.ix (.call 177 (.cons (.var 0) (.cons (.var 2) .nil))) (.cint 0)) (.cint 0)) .nil)))) .nil)))⟩
/-- _law_due -/
def D195 : SD := ⟨1, 2,
  (.cons (.ret [] (.op .add (.comp [1] (.nm 1) (.rng1 (.cint 11)) .none (.op .eq (.var 0) (.var 1))) (.lst (.cons (.cbl true) .nil)))) .nil)⟩
/-- law -/
def D202 : SD := ⟨1, 2,
  (.cons (.asg [] (.nm 0) (.sl (.var 0) .none (.some (.cint 63))))
  (.cons (.loop [] (.nm 1) (.seq (.tup (.cons (.op .add (.cint 1) (.op .mod (.call 18 (.cons (.call 16 (.cons (.var 0) (.cons (.cint 0) .nil))) (.cons (.cint 3) .nil))) (.op .pow (.cint 10) (.cint 30)))) (.cons (.ite (.op .eq (.var 0) (.lst .nil)) (.cint 0) (.op .add (.cint 1) (.op .mod (.ix (.var 0) (.cint 0)) (.cint 7)))) .nil)))) (
   (.cons (.iff [] (.bop false (.cons (.not1 (.call 199 (.cons (.var 1) .nil))) (.cons (.not1 (.call 200 (.cons (.var 1) .nil))) (.cons (.not1 (.call 201 (.cons (.bi .max2 (.cons (.var 1) (.cons (.cint 1) .nil))) .nil))) .nil)))) (
    (.cons (.ret [] (.cbl false)) .nil)) ( .nil)) .nil)))
  (.cons (.ret [] (.bop true (.cons (.op .eq (.call 62 (.cons (.cint 200) (.cons (.cstr "rows") .nil))) (.op .shl (.cint 1) (.cint 199))) (.cons (.op .eq (.bi .len (.cons (.call 78 (.cons (.cint 6) (.cons (.cstr "all") .nil))) .nil)) (.cint 203)) (.cons (.op .eq (.call 106 (.cons (.lst (.cons (.lst (.cons (.cint 0) (.cons (.cint 2) .nil))) (.cons (.lst (.cons (.cint 1) .nil)) .nil))) (.cons (.cstr "nested") .nil))) (.neg (.cint 1))) .nil))))) .nil)))⟩
/-- between -/
def D209 : SD := ⟨3, 3,
  (.cons (.expr [] (.call 129 (.cons (.var 0) .nil)))
  (.cons (.expr [] (.call 53 (.cons (.var 1) .nil)))
  (.cons (.expr [] (.call 53 (.cons (.var 2) .nil)))
  (.cons (.ret [] (.call 54 (.cons (.call 55 (.cons (.var 0) (.cons (.var 1) .nil))) (.cons (.var 2) .nil)))) .nil))))⟩
/-- steady -/
def D210 : SD := ⟨1, 2,
  (.cons (.iff [] (.bop false (.cons (.not1 (.isi (.var 0) .list)) (.cons (.not1 (.chain .le .le (.cint 1) (.bi .len (.cons (.var 0) .nil)) (.glob 14))) (.cons (.op .eq (.op .mod (.bi .len (.cons (.var 0) .nil)) (.cint 2)) (.cint 0)) .nil)))) (
   (.cons (.raise 8) .nil)) ( .nil))
  (.cons (.iff [] (.not1 (.bi .all (.cons (.comp [1] (.nm 1) (.seq (.var 0)) .none (.call 4 (.cons (.var 1) .nil))) .nil))) (
   (.cons (.raise 8) .nil)) ( .nil))
  (.cons (.ret [] (.call 175 (.cons (.var 0) .nil))) .nil)))⟩
/-- mean -/
def D219 : SD := ⟨2, 2,
  (.cons (.expr [] (.call 32 (.cons (.var 0) .nil)))
  (.cons (.expr [] (.call 133 (.cons (.var 0) (.cons (.var 1) .nil))))
  (.cons (.ret [] (.call 34 (.cons (.var 0) (.cons (.var 1) .nil)))) .nil)))⟩
/-- _law_words_right -/
def D223 : SD := ⟨3, 6,
  (.cons (.loop [] (.nm 3) (.rng1 (.cint 16)) (
   (.cons (.asg [] (.nm 4) (.comp [5] (.nm 5) (.rng1 (.cint 4)) .none (.op .band (.op .shr (.var 3) (.var 5)) (.cint 1))))
   (.cons (.iff [] (.op .ne (.call 219 (.cons (.var 0) (.cons (.var 4) .nil))) (.call 139 (.cons (.var 1) (.cons (.var 2) (.cons (.var 4) (.cons (.cstr "all") .nil)))))) (
    (.cons (.ret [] (.cbl false)) .nil)) ( .nil))
   (.cons (.iff [] (.chain .lt .lt (.cint 0) (.bi .sum (.cons (.var 4) .nil)) (.cint 4)) (
    (.cons (.iff [] (.bop false (.cons (.op .ne (.call 221 (.cons (.var 0) (.cons (.var 4) (.cons (.cstr "all") .nil)))) (.tup (.cons (.cint 0) (.cons (.cint 1) .nil)))) (.cons (.op .ne (.call 152 (.cons (.var 0) (.cons (.cint 0) (.cons (.cint 1) (.cons (.cnt (.var 4) (.cint 0)) (.cons (.cnt (.var 4) (.cint 1)) .nil)))))) (.tup (.cons (.cint 0) (.cons (.cint 1) .nil)))) .nil))) (
     (.cons (.ret [] (.cbl false)) .nil)) ( .nil)) .nil)) ( .nil)) .nil)))))
  (.cons (.ret [] (.cbl true)) .nil))⟩
/-- _law_times -/
def D226 : SD := ⟨2, 2,
  (.cons (.ret [] (.call 19 (.cons (.op .mul (.ix (.var 0) (.cint 0)) (.ix (.var 1) (.cint 0))) (.cons (.op .mul (.ix (.var 0) (.cint 1)) (.ix (.var 1) (.cint 1))) .nil)))) .nil)⟩
/-- _law_binomials -/
def D228 : SD := ⟨1, 5,
  (.cons (.asg [] (.nm 1) (.lst (.cons (.cint 1) .nil)))
  (.cons (.loop [] (.nm 2) (.rng1 (.var 0)) (
   (.cons (.asg [] (.nm 1) (.op .add (.op .add (.lst (.cons (.cint 1) .nil)) (.comp [3, 4] (.tp (.cons (.nm 3) (.cons (.nm 4) .nil))) (.zip (.var 1) (.sl (.var 1) (.some (.cint 1)) .none)) .none (.op .add (.var 3) (.var 4)))) (.lst (.cons (.cint 1) .nil)))) .nil)))
  (.cons (.ret [] (.var 1)) .nil)))⟩
/-- _law_mean -/
def D230 : SD := ⟨2, 8,
  (.cons (.asg [] (.tp (.cons (.nm 2) (.cons (.nm 3) .nil))) (.tup (.cons (.cint 0) (.cons (.cint 0) .nil))))
  (.cons (.loop [] (.tp (.cons (.nm 4) (.cons (.nm 5) .nil))) (.seq (.var 0)) (
   (.cons (.asg [] (.nm 6) (.var 4))
   (.cons (.loop [] (.nm 7) (.seq (.var 1)) (
    (.cons (.asg [] (.nm 6) (.op .mul (.var 6) (.ix (.var 5) (.var 7)))) .nil)))
   (.cons (.asg [] (.nm 2) (.op .add (.var 2) (.var 6)))
   (.cons (.asg [] (.nm 3) (.op .add (.var 3) (.var 4))) .nil))))))
  (.cons (.ret [] (.call 19 (.cons (.var 2) (.cons (.var 3) .nil)))) .nil)))⟩
/-- _law_both_right -/
def D232 : SD := ⟨1, 7,
  (.cons (.asg [] (.nm 0) (.comp [5, 6] (.tp (.cons (.nm 5) (.cons (.nm 6) .nil))) (.seq (.var 0)) .none (.tup (.cons (.op .add (.cint 1) (.op .mod (.var 5) (.cint 9))) (.cons (.lst (.cons (.op .mod (.ix (.var 6) (.cint 0)) (.cint 5)) .nil)) .nil)))))
  (.cons (.par [] 1 2 (.call 47 (.cons (.var 0) (.cons (.lst (.cons (.lst (.cons (.cint 1) (.cons (.cint 0) .nil))) (.cons (.lst (.cons (.cint 1) (.cons (.cint 0) .nil))) .nil))) .nil))) (.call 231 (.cons (.var 0) (.cons (.cint 0) (.cons (.cint 16) .nil)))))
  (.cons (.loop [] (.tp (.cons (.nm 3) (.cons (.nm 4) .nil))) (.seq (.tup (.cons (.tup (.cons (.cint 1) (.cons (.cint 1) .nil))) (.cons (.tup (.cons (.cint 7) (.cons (.cint 6) .nil))) (.cons (.tup (.cons (.cint 8) (.cons (.cint 8) .nil))) (.cons (.tup (.cons (.cint 0) (.cons (.cint 13) .nil))) .nil)))))) (
   (.cons (.iff [] (.op .ne (.call 152 (.cons (.var 1) (.cons (.cint 0) (.cons (.cint 1) (.cons (.var 3) (.cons (.var 4) .nil)))))) (.ix (.var 2) (.op .add (.var 3) (.var 4)))) (
    (.cons (.ret [] (.cbl false)) .nil)) ( .nil)) .nil)))
  (.cons (.ret [] (.cbl true)) .nil))))⟩
/-- _law_products -/
def D234 : SD := ⟨2, 7,
  (.cons (.own [] 2 (.lst .nil))
  (.cons (.loop [] (.tp (.cons (.nm 3) (.cons (.nm 4) .nil))) (.seq (.var 0)) (
   (.cons (.asg [] (.nm 5) (.op .mul (.ix (.var 4) (.ix (.var 1) (.cint 0))) (.ix (.var 4) (.ix (.var 1) (.cint 1)))))
   (.cons (.asg [] (.nm 6) (.op .mul (.ix (.var 4) (.ix (.var 1) (.cint 3))) (.ix (.var 4) (.ix (.var 1) (.cint 4)))))
   (.cons (.app [] 2 (.tup (.cons (.var 3) (.cons (.lst (.cons (.var 5) (.cons (.ix (.var 4) (.ix (.var 1) (.cint 2))) (.cons (.var 6) (.cons (.ix (.var 4) (.ix (.var 1) (.cint 5))) .nil))))) .nil)))) .nil)))))
  (.cons (.ret [2] (.call 221 (.cons (.var 2) (.cons (.lst (.cons (.cint 0) (.cons (.cint 1) (.cons (.cint 2) (.cons (.cint 3) .nil))))) (.cons (.cstr "all") .nil))))) .nil)))⟩
/-- _law_six_right -/
def D235 : SD := ⟨1, 16,
  (.cons (.asg [] (.tp (.cons (.nm 1) (.cons (.nm 2) .nil))) (.tup (.cons (.lst (.cons (.cint 0) .nil)) (.cons (.cint 0) .nil))))
  (.cons (.loop [] (.nm 3) (.rng2 (.cint 1) (.cint 6)) (
   (.cons (.app [] 1 (.op .mod (.op .fdiv (.var 0) (.op .add (.op .mul (.cint 5) (.var 3)) (.cint 1))) (.op .add (.var 2) (.cint 2))))
   (.cons (.asg [1] (.nm 2) (.bi .max2 (.cons (.var 2) (.cons (.ix (.var 1) (.neg (.cint 1))) .nil)))) .nil))))
  (.cons (.asg [1] (.nm 4) (.comp [14] (.nm 14) (.rng1 (.op .add (.var 2) (.cint 1))) .none (.comp [3] (.nm 3) (.rng1 (.cint 6)) (.some (.op .eq (.ix (.var 1) (.var 3)) (.var 14))) (.var 3))))
  (.cons (.asg [] (.tp (.cons (.nm 5) (.cons (.nm 6) .nil))) (.tup (.cons (.cint 1) (.cons (.cbl false) .nil))))
  (.cons (.loop [] (.nm 7) (.rng2 (.cint 1) (.op .add (.var 2) (.cint 1))) (
   (.cons (.asg [] (.nm 5) (.op .mul (.neg (.var 5)) (.var 7))) .nil)))
  (.cons (.loop [] (.nm 8) (.rng1 (.cint 6)) (
   (.cons (.loop [] (.nm 9) (.rng2 (.op .add (.var 8) (.cint 1)) (.cint 6)) (
    (.cons (.loop [] (.nm 10) (.rng2 (.op .add (.var 9) (.cint 1)) (.cint 6)) (
     (.cons (.loop [] (.nm 11) (.rng2 (.op .add (.var 10) (.cint 1)) (.cint 6)) (
      (.cons (.iff [1] (.bop true (.cons (.op .eq (.ix (.var 1) (.var 8)) (.ix (.var 1) (.var 10))) (.cons (.op .eq (.ix (.var 1) (.var 9)) (.ix (.var 1) (.var 11))) (.cons (.op .ne (.ix (.var 1) (.var 8)) (.ix (.var 1) (.var 9))) .nil)))) (
       (.cons (.asg [] (.nm 6) (.cbl true)) .nil)) ( .nil)) .nil))) .nil))) .nil))) .nil)))
  (.cons (.asg [1] (.nm 12) (.op .eq (.var 1) (.bi .sorted (.cons (.var 1) .nil))))
  (.cons (.asg [] (.nm 13) (.comp [15] (.nm 15) (.seq (.tup (.cons (.cstr "all") (.cons (.cstr "nested") (.cons (.cstr "rows") .nil))))) .none (.call 82 (.cons (.var 4) (.cons (.var 15) .nil)))))
  (.cons (.ret [] (.bop true (.cons (.op .eq (.var 13) (.lst (.cons (.cbl true) (.cons (.not1 (.var 6)) (.cons (.var 12) .nil))))) (.cons (.op .eq (.call 106 (.cons (.var 4) (.cons (.cstr "all") .nil))) (.var 5)) .nil)))) .nil)))))))))⟩
/-- _law_rows_of -/
def D236 : SD := ⟨2, 3,
  (.cons (.ret [] (.comp [2] (.nm 2) (.seq (.sl (.ix (.var 0) (.cint 1)) .none (.some (.var 1)))) .none (.tup (.cons (.var 2) (.cons (.cint 1) .nil))))) .nil)⟩
/-- _law_known_right -/
def D237 : SD := ⟨1, 16,
  (.cons (.asg [] (.nm 1) (.op .add (.lst (.cons (.tup (.cons (.cint 0) (.cons (.cint 1) .nil))) (.cons (.tup (.cons (.cint 1) (.cons (.cint 1) .nil))) .nil))) (.op .mul (.lst (.cons (.tup (.cons (.cint 0) (.cons (.cint 1) .nil))) .nil)) (.cint 8))))
  (.cons (.asg [] (.nm 2) (.lst (.cons (.lst (.cons (.cint 0) (.cons (.cint 1) (.cons (.cint 0) (.cons (.cint 3) (.cons (.cint 0) (.cons (.cint 15) (.cons (.cint 0) (.cons (.cint 105) (.cons (.cint 0) (.cons (.cint 945) .nil))))))))))) (.cons (.lst (.cons (.cint 0) (.cons (.cint 1) (.cons (.cint 0) (.cons (.cint 2) (.cons (.cint 0) (.cons (.cint 5) (.cons (.cint 0) (.cons (.cint 14) (.cons (.cint 0) (.cons (.cint 42) .nil))))))))))) (.cons (.lst (.cons (.cint 0) (.cons (.cint 1) (.cons (.cint 0) (.cons (.cint 1) (.cons (.cint 0) (.cons (.cint 1) (.cons (.cint 0) (.cons (.cint 1) (.cons (.cint 0) (.cons (.cint 1) .nil))))))))))) .nil)))))
  (.cons (.loop [] (.tp (.cons (.nm 3) (.cons (.nm 4) .nil))) (.zip (.tup (.cons (.cstr "all") (.cons (.cstr "nested") (.cons (.cstr "rows") .nil)))) (.var 2)) (
   (.cons (.asg [] (.nm 5) (.comp [12] (.nm 12) (.seq (.var 4)) .none (.tup (.cons (.var 12) (.cons (.cint 1) .nil)))))
   (.cons (.iff [] (.bop false (.cons (.op .ne (.call 131 (.cons (.var 1) (.cons (.var 3) .nil))) (.var 5)) (.cons (.op .ne (.call 130 (.cons (.var 5) (.cons (.var 3) .nil))) (.var 1)) .nil))) (
    (.cons (.ret [] (.cbl false)) .nil)) ( .nil)) .nil))))
  (.cons (.asg [] (.nm 6) (.comp [13] (.nm 13) (.rng1 (.cint 10)) .none (.call 19 (.cons (.op .sub (.op .mod (.op .fdiv (.var 0) (.op .add (.var 13) (.cint 2))) (.cint 9)) (.cint 4)) (.cons (.op .add (.cint 1) (.op .mod (.op .fdiv (.var 0) (.op .add (.op .mul (.cint 7) (.var 13)) (.cint 3))) (.cint 3))) .nil)))))
  (.cons (.par [] 7 3 (.op .add (.cint 9) (.op .mod (.var 0) (.cint 2))) (.ix (.tup (.cons (.cstr "all") (.cons (.cstr "nested") (.cons (.cstr "rows") .nil)))) (.op .mod (.var 0) (.cint 3))))
  (.cons (.asg [] (.nm 8) (.call 130 (.cons (.sl (.var 6) .none (.some (.var 7))) (.cons (.var 3) .nil))))
  (.cons (.asg [] (.nm 9) (.call 236 (.cons (.var 2) (.cons (.var 7) .nil))))
  (.cons (.asg [] (.nm 10) (.call 130 (.cons (.call 145 (.cons (.sl (.var 6) .none (.some (.var 7))) (.cons (.var 9) (.cons (.var 3) .nil)))) (.cons (.var 3) .nil))))
  (.cons (.asg [] (.nm 11) (.call 130 (.cons (.var 9) (.cons (.var 3) .nil))))
  (.cons (.iff [] (.op .ne (.var 10) (.comp [14, 15] (.tp (.cons (.nm 14) (.cons (.nm 15) .nil))) (.zip (.var 8) (.var 11)) .none (.call 69 (.cons (.var 14) (.cons (.var 15) .nil))))) (
   (.cons (.ret [] (.cbl false)) .nil)) ( .nil))
  (.cons (.iff [] (.op .ne (.call 131 (.cons (.call 209 (.cons (.var 8) (.cons (.var 3) (.cons (.cstr "nested") .nil)))) (.cons (.cstr "nested") .nil))) (.sl (.var 6) .none (.some (.var 7)))) (
   (.cons (.ret [] (.cbl false)) .nil)) ( .nil))
  (.cons (.loop [] (.nm 3) (.seq (.tup (.cons (.cstr "all") (.cons (.cstr "nested") .nil)))) (
   (.cons (.iff [] (.op .ne (.call 139 (.cons (.sl (.var 6) .none (.some (.cint 2))) (.cons (.sl (.var 6) (.some (.cint 2)) (.some (.cint 3))) (.cons (.lst (.cons (.cint 0) (.cons (.cint 1) (.cons (.cint 0) .nil)))) (.cons (.var 3) .nil))))) (.call 139 (.cons (.var 6) (.cons (.sl (.var 6) (.some (.cint 2)) .none) (.cons (.lst (.cons (.cint 0) (.cons (.cint 1) (.cons (.cint 0) .nil)))) (.cons (.var 3) .nil)))))) (
    (.cons (.ret [] (.cbl false)) .nil)) ( .nil)) .nil)))
  (.cons (.ret [] (.op .eq (.call 139 (.cons (.sl (.var 6) .none (.some (.cint 2))) (.cons (.sl (.var 6) (.some (.cint 2)) (.some (.cint 3))) (.cons (.lst (.cons (.cint 0) (.cons (.cint 0) (.cons (.cint 1) .nil)))) (.cons (.cstr "all") .nil))))) (.call 226 (.cons (.ix (.var 6) (.cint 1)) (.cons (.ix (.var 6) (.cint 2)) .nil))))) .nil)))))))))))))⟩
/-- _law_grouping -/
def D239 : SD := ⟨3, 7,
  (.cons (.asg [] (.tp (.cons (.nm 3) (.cons (.nm 4) .nil))) (.tup (.cons (.lst (.cons (.cint 0) .nil)) (.cons (.cint 0) .nil))))
  (.cons (.loop [] (.nm 5) (.rng2 (.cint 1) (.var 1)) (
   (.cons (.asg [] (.nm 6) (.op .mod (.op .fdiv (.var 0) (.op .add (.op .mul (.cint 5) (.var 5)) (.cint 1))) (.op .add (.var 4) (.cint 2))))
   (.cons (.app [] 3 (.ite (.var 2) (.op .add (.var 4) (.op .mod (.var 6) (.cint 2))) (.var 6)))
   (.cons (.asg [3] (.nm 4) (.bi .max2 (.cons (.var 4) (.cons (.ix (.var 3) (.neg (.cint 1))) .nil)))) .nil)))))
  (.cons (.ret [3] (.comp [6] (.nm 6) (.rng1 (.op .add (.var 4) (.cint 1))) .none (.comp [5] (.nm 5) (.rng1 (.var 1)) (.some (.op .eq (.ix (.var 3) (.var 5)) (.var 6))) (.var 5)))) .nil)))⟩
/-- how_many -/
def D245 : SD := ⟨2, 6,
  (.cons (.expr [] (.call 60 (.cons (.var 0) (.cons (.glob 15) .nil))))
  (.cons (.expr [] (.call 53 (.cons (.var 1) .nil)))
  (.cons (.iff [] (.op .eq (.var 1) (.cstr "nested")) (
   (.cons (.ret [] (.call 61 (.cons (.var 0) .nil))) .nil)) ( .nil))
  (.cons (.iff [] (.op .eq (.var 1) (.cstr "rows")) (
   (.cons (.ret [] (.ite (.op .eq (.var 0) (.cint 0)) (.cint 1) (.op .shl (.cint 1) (.op .sub (.var 0) (.cint 1))))) .nil)) ( .nil))
  (.cons (.asg [] (.nm 2) (.lst (.cons (.cint 1) .nil)))
  (.cons (.loop [] (.nm 3) (.rng1 (.var 0)) (
   (.cons (.own [] 4 (.lst (.cons (.ix (.var 2) (.neg (.cint 1))) .nil)))
   (.cons (.loop [] (.nm 5) (.seq (.var 2)) (
    (.cons (.app [4] 4 (.op .add (.ix (.var 4) (.neg (.cint 1))) (.var 5))) .nil)))
   (.cons (.asg [4] (.nm 2) (.var 4)) .nil)))))
  (.cons (.ret [] (.ix (.var 2) (.cint 0))) .nil)))))))⟩
/-- both_sum -/
def D246 : SD := ⟨5, 5,
  (.cons (.expr [] (.call 32 (.cons (.var 0) .nil)))
  (.cons (.expr [] (.call 151 (.cons (.var 0) (.cons (.var 1) (.cons (.var 2) .nil)))))
  (.cons (.iff [] (.bop false (.cons (.not1 (.call 1 (.cons (.var 3) .nil))) (.cons (.not1 (.call 1 (.cons (.var 4) .nil))) (.cons (.not1 (.chain .le .le (.cint 0) (.var 3) (.glob 16))) (.cons (.not1 (.chain .le .le (.cint 0) (.var 4) (.glob 16))) .nil))))) (
   (.cons (.raise 2) .nil)) ( .nil))
  (.cons (.iff [] (.op .eq (.op .add (.var 3) (.var 4)) (.cint 0)) (
   (.cons (.raise 2) .nil)) ( .nil))
  (.cons (.ret [] (.call 150 (.cons (.var 0) (.cons (.var 1) (.cons (.var 2) (.cons (.var 3) (.cons (.var 4) .nil))))))) .nil)))))⟩
/-- _law_due_of -/
def D247 : SD := ⟨1, 2,
  (.cons (.ret [] (.op .add (.comp [1] (.nm 1) (.rng1 (.cint 11)) .none (.op .eq (.var 0) (.var 1))) (.lst (.cons (.cbl true) .nil)))) .nil)⟩
/-- _law_is_below -/
def D250 : SD := ⟨2, 8,
  (.cons (.asg [] (.nm 2) (.tup (.cons (.cint 0) (.cons (.cint 1) .nil))))
  (.cons (.loop [] (.tp (.cons (.nm 3) (.cons (.nm 4) .nil))) (.enum (.var 0)) (
   (.cons (.loop [] (.tp (.cons (.nm 5) (.cons (.nm 6) .nil))) (.enum (.var 0)) (
    (.cons (.asg [] (.nm 7) (.call 226 (.cons (.var 4) (.cons (.var 6) .nil))))
    (.cons (.asg [] (.nm 2) (.call 69 (.cons (.var 2) (.cons (.call 226 (.cons (.var 7) (.cons (.ix (.var 1) (.op .add (.var 3) (.var 5))) .nil))) .nil)))) .nil)))) .nil)))
  (.cons (.ret [] (.op .lt (.ix (.var 2) (.cint 0)) (.cint 0))) .nil)))⟩
/-- _law_by_rows -/
def D252 : SD := ⟨2, 5,
  (.cons (.asg [] (.nm 2) (.call 230 (.cons (.var 0) (.cons (.var 1) .nil))))
  (.cons (.loop [] (.nm 3) (.rng2 (.cint 1) (.bi .len (.cons (.var 1) .nil))) (
   (.cons (.asg [] (.nm 4) (.call 252 (.cons (.var 0) (.cons (.sl (.var 1) .none (.some (.var 3))) .nil))))
   (.cons (.asg [] (.nm 4) (.call 226 (.cons (.var 4) (.cons (.call 230 (.cons (.var 0) (.cons (.sl (.var 1) (.some (.var 3)) .none) .nil))) .nil))))
   (.cons (.asg [] (.nm 2) (.call 69 (.cons (.var 2) (.cons (.call 226 (.cons (.tup (.cons (.neg (.cint 1)) (.cons (.cint 1) .nil))) (.cons (.var 4) .nil))) .nil)))) .nil)))))
  (.cons (.ret [] (.var 2)) .nil)))⟩
/-- _law_six_right -/
def D253 : SD := ⟨2, 7,
  (.cons (.iff [] (.op .ne (.call 221 (.cons (.var 0) (.cons (.var 1) (.cons (.cstr "rows") .nil)))) (.call 252 (.cons (.var 0) (.cons (.var 1) .nil)))) (
   (.cons (.ret [] (.cbl false)) .nil)) ( .nil))
  (.cons (.asg [] (.nm 2) (.comp [6] (.nm 6) (.rng2 (.cint 1) (.cint 7)) .none (.call 230 (.cons (.var 0) (.cons (.op .mul (.sl (.var 1) .none (.some (.cint 1))) (.var 6)) .nil)))))
  (.cons (.loop [] (.nm 3) (.seq (.tup (.cons (.cstr "nested") (.cons (.cstr "rows") .nil)))) (
   (.cons (.iff [] (.op .ne (.call 221 (.cons (.var 0) (.cons (.op .mul (.sl (.var 1) .none (.some (.cint 1))) (.cint 6)) (.cons (.var 3) .nil)))) (.ix (.call 130 (.cons (.var 2) (.cons (.var 3) .nil))) (.cint 5))) (
    (.cons (.ret [] (.cbl false)) .nil)) ( .nil)) .nil)))
  (.cons (.iff [] (.op .ne (.call 222 (.cons (.var 0) (.cons (.lst (.cons (.var 1) .nil)) .nil))) (.call 230 (.cons (.var 0) (.cons (.var 1) .nil)))) (
   (.cons (.ret [] (.cbl false)) .nil)) ( .nil))
  (.cons (.asg [] (.nm 4) (.call 226 (.cons (.call 230 (.cons (.var 0) (.cons (.sl (.var 1) .none (.some (.cint 3))) .nil))) (.cons (.call 230 (.cons (.var 0) (.cons (.sl (.var 1) (.some (.cint 3)) .none) .nil))) .nil))))
  (.cons (.asg [] (.nm 5) (.call 69 (.cons (.call 230 (.cons (.var 0) (.cons (.var 1) .nil))) (.cons (.call 226 (.cons (.tup (.cons (.neg (.cint 1)) (.cons (.cint 1) .nil))) (.cons (.var 4) .nil))) .nil))))
  (.cons (.ret [] (.op .eq (.call 222 (.cons (.var 0) (.cons (.lst (.cons (.sl (.var 1) .none (.some (.cint 3))) (.cons (.sl (.var 1) (.some (.cint 3)) .none) .nil))) .nil))) (.var 5))) .nil)))))))⟩
/-- _law_kinds_right -/
def D255 : SD := ⟨1, 12,
  (.cons (.own [] 1 (.lst .nil))
  (.cons (.loop [] (.nm 2) (.rng1 (.cint 10)) (
   (.cons (.app [] 1 (.call 19 (.cons (.op .sub (.op .mod (.op .fdiv (.var 0) (.op .add (.var 2) (.cint 2))) (.cint 9)) (.cint 4)) (.cons (.op .add (.cint 1) (.op .mod (.op .fdiv (.var 0) (.op .add (.op .mul (.cint 7) (.var 2)) (.cint 3))) (.cint 3))) .nil)))) .nil)))
  (.cons (.par [] 3 4 (.op .add (.cint 9) (.op .mod (.var 0) (.cint 2))) (.ix (.tup (.cons (.cstr "all") (.cons (.cstr "nested") (.cons (.cstr "rows") .nil)))) (.op .mod (.op .fdiv (.var 0) (.cint 2)) (.cint 3))))
  (.cons (.asg [1] (.nm 5) (.call 130 (.cons (.sl (.var 1) .none (.some (.var 3))) (.cons (.var 4) .nil))))
  (.cons (.loop [] (.nm 6) (.seq (.tup (.cons (.cstr "all") (.cons (.cstr "rows") .nil)))) (
   (.cons (.iff [1] (.op .ne (.call 131 (.cons (.call 209 (.cons (.var 5) (.cons (.var 4) (.cons (.var 6) .nil)))) (.cons (.var 6) .nil))) (.sl (.var 1) .none (.some (.var 3)))) (
    (.cons (.ret [] (.cbl false)) .nil)) ( .nil)) .nil)))
  (.cons (.par [1] 7 8 (.sl (.var 1) (.some (.cint 7)) .none) (.lst .nil))
  (.cons (.loop [] (.tp (.cons (.nm 9) (.cons (.nm 10) .nil))) (.zip (.var 5) (.call 130 (.cons (.var 7) (.cons (.var 4) .nil)))) (
   (.cons (.app [] 8 (.call 69 (.cons (.var 9) (.cons (.var 10) .nil)))) .nil)))
  (.cons (.asg [1] (.nm 11) (.call 145 (.cons (.var 1) (.cons (.var 7) (.cons (.var 4) .nil)))))
  (.cons (.ret [1, 8] (.bop true (.cons (.op .eq (.call 130 (.cons (.var 11) (.cons (.var 4) .nil))) (.var 8)) (.cons (.op .eq (.call 145 (.cons (.var 7) (.cons (.var 1) (.cons (.var 4) .nil)))) (.var 11)) .nil)))) .nil)))))))))⟩
/-- _law_forty_right -/
def D256 : SD := ⟨2, 16,
  (.cons (.asg [] (.nm 2) (.comp [5, 6] (.tp (.cons (.nm 5) (.cons (.nm 6) .nil))) (.seq (.sl (.var 0) .none (.some (.cint 8)))) .none (.tup (.cons (.var 5) (.cons (.sl (.var 6) .none (.some (.cint 2))) .nil)))))
  (.cons (.asg [] (.nm 3) (.comp [5, 6] (.tp (.cons (.nm 5) (.cons (.nm 6) .nil))) (.seq (.sl (.var 0) .none (.some (.cint 5)))) .none (.tup (.cons (.var 5) (.cons (.sl (.var 6) (.some (.cint 2)) .none) .nil)))))
  (.cons (.own [] 4 (.lst .nil))
  (.cons (.loop [] (.tp (.cons (.nm 5) (.cons (.nm 6) .nil))) (.seq (.var 2)) (
   (.cons (.ext [] 4 (.comp [13, 14] (.tp (.cons (.nm 13) (.cons (.nm 14) .nil))) (.seq (.var 3)) .none (.tup (.cons (.op .mul (.var 5) (.var 13)) (.cons (.op .add (.var 6) (.var 14)) .nil))))) .nil)))
  (.cons (.iff [4] (.op .ne (.call 42 (.cons (.var 2) (.cons (.var 3) .nil))) (.var 4)) (
   (.cons (.ret [] (.cbl false)) .nil)) ( .nil))
  (.cons (.parO [] 7 4 (.lst .nil) (.lst .nil))
  (.cons (.loop [] (.nm 8) (.rng1 (.cint 4)) (
   (.cons (.app [] 7 (.comp [15] (.nm 15) (.rng1 (.cint 5)) .none (.op .sub (.op .mod (.op .fdiv (.var 1) (.op .add (.op .add (.op .mul (.cint 5) (.var 8)) (.var 15)) (.cint 2))) (.cint 7)) (.cint 3)))) .nil)))
  (.cons (.loop [] (.tp (.cons (.nm 5) (.cons (.nm 6) .nil))) (.seq (.var 0)) (
   (.cons (.own [] 9 (.lst .nil))
   (.cons (.loop [7] (.nm 8) (.seq (.var 7)) (
    (.cons (.asg [] (.nm 10) (.ix (.var 8) (.cint 4)))
    (.cons (.loop [] (.tp (.cons (.nm 11) (.cons (.nm 12) .nil))) (.zip (.var 8) (.var 6)) (
     (.cons (.asg [] (.nm 10) (.op .add (.var 10) (.op .mul (.var 11) (.var 12)))) .nil)))
    (.cons (.app [] 9 (.var 10)) .nil)))))
   (.cons (.app [9] 4 (.tup (.cons (.var 5) (.cons (.var 9) .nil)))) .nil)))))
  (.cons (.ret [4, 7] (.bop true (.cons (.op .eq (.call 47 (.cons (.var 0) (.cons (.var 7) .nil))) (.var 4)) (.cons (.op .eq (.call 219 (.cons (.var 4) (.cons (.lst (.cons (.cint 3) .nil)) .nil))) (.call 230 (.cons (.var 4) (.cons (.lst (.cons (.cint 3) .nil)) .nil)))) .nil)))) .nil)))))))))⟩
/-- law -/
def D259 : SD := ⟨1, 5,
  (.cons (.asg [] (.nm 0) (.sl (.var 0) .none (.some (.cint 63))))
  (.cons (.iff [] (.not1 (.call 258 .nil)) (
   (.cons (.ret [] (.cbl false)) .nil)) ( .nil))
  (.cons (.asg [] (.nm 1) (.call 18 (.cons (.call 16 (.cons (.var 0) (.cons (.cint 0) .nil))) (.cons (.cint 3) .nil))))
  (.cons (.asg [] (.nm 2) (.call 35 (.cons (.var 0) (.cons (.cint 0) (.cons (.cint 4) (.cons (.cint 40) .nil))))))
  (.cons (.asg [] (.tp (.cons (.nm 3) (.cons (.nm 1) .nil))) (.tup (.cons (.op .mod (.var 1) (.cint 4)) (.cons (.op .fdiv (.var 1) (.cint 4)) .nil))))
  (.cons (.iff [] (.bop true (.cons (.op .eq (.var 3) (.cint 0)) (.cons (.not1 (.call 251 (.cons (.call 35 (.cons (.var 0) (.cons (.cint 0) (.cons (.cint 1) (.cons (.cint 6) .nil))))) (.cons (.var 1) .nil)))) .nil))) (
   (.cons (.ret [] (.cbl false)) .nil)) ( .nil))
  (.cons (.iff [] (.bop false (.cons (.bop true (.cons (.op .eq (.var 3) (.cint 1)) (.cons (.not1 (.call 254 .nil)) .nil))) (.cons (.bop true (.cons (.op .eq (.var 3) (.cint 2)) (.cons (.not1 (.call 255 (.cons (.var 1) .nil))) .nil))) .nil))) (
   (.cons (.ret [] (.cbl false)) .nil)) ( .nil))
  (.cons (.iff [] (.bop true (.cons (.op .eq (.var 3) (.cint 3)) (.cons (.not1 (.call 253 (.cons (.var 2) (.cons (.comp [4] (.nm 4) (.rng1 (.cint 6)) .none (.op .mod (.op .fdiv (.var 1) (.op .add (.var 4) (.cint 1))) (.cint 4))) .nil)))) .nil))) (
   (.cons (.ret [] (.cbl false)) .nil)) ( .nil))
  (.cons (.ret [] (.bop true (.cons (.call 256 (.cons (.var 2) (.cons (.var 1) .nil))) (.cons (.call 248 (.cons (.op .mod (.op .fdiv (.var 1) (.cint 7)) (.cint 9)) (.cons (.op .fdiv (.var 1) (.cint 63)) .nil))) .nil)))) .nil)))))))))⟩
/-- _law_copy -/
def D260 : SD := ⟨1, 2,
  (.cons (.iff [] (.isi (.var 0) .list) (
   (.cons (.ret [] (.comp [1] (.nm 1) (.seq (.var 0)) .none (.call 260 (.cons (.var 1) .nil)))) .nil)) ( .nil))
  (.cons (.iff [] (.isi (.var 0) .tuple) (
   (.cons (.ret [] (.bi .tuple (.cons (.comp [1] (.nm 1) (.seq (.var 0)) .none (.call 260 (.cons (.var 1) .nil))) .nil))) .nil)) ( .nil))
  (.cons (.ret [] (.var 0)) .nil)))⟩
/-- _law_into -/
def D261 : HD := ⟨2, 4,
  (.cons (.loop (.tp (.cons (.nm 2) (.cons (.nm 3) .nil))) (.enum (.var 1)) (
   (.cons (.iff [0, 2, 3] (.bop true (.cons (.isi (.var 3) .list) (.cons (.op .eq (.bi .len (.cons (.ix (.var 0) (.var 2)) .nil)) (.bi .len (.cons (.var 3) .nil))) .nil))) (
    (.cons (.expr (.call 261 (.cons (.ix (.var 0) [2] (.var 2)) (.cons (.var 3) .nil)))) .nil)) (
    (.cons (.set (.var 0) [2] (.var 2) (.pu [3] (.call 260 (.cons (.var 3) .nil)))) .nil))) .nil))) .nil)⟩
/-- _law_spoil -/
def D262 : HD := ⟨1, 2,
  (.cons (.iff [0] (.bop false (.cons (.isi (.var 0) .list) (.cons (.isi (.var 0) .tuple) .nil))) (
   (.cons (.loop (.nm 1) (.seq (.lof (.var 0))) (
    (.cons (.expr (.call 262 (.cons (.var 1) .nil))) .nil))) .nil)) ( .nil))
  (.cons (.iff [0] (.isi (.var 0) .list) (
   (.cons (.app (.var 0) (.pu [] .cnon)) .nil)) ( .nil)) .nil))⟩
/-- law -/
def D266 : SD := ⟨1, 6,
  (.cons (.asg [] (.nm 0) (.sl (.var 0) .none (.some (.cint 63))))
  (.cons (.asg [] (.nm 1) (.op .add (.call 264 .nil) (.call 265 .nil)))
  (.cons (.asg [] (.nm 2) (.op .mod (.bi .abs (.cons (.call 16 (.cons (.var 0) (.cons (.cint 0) .nil))) .nil)) (.bi .len (.cons (.var 1) .nil))))
  (.cons (.loop [] (.tp (.cons (.nm 3) (.cons (.nm 4) (.cons (.nm 5) .nil)))) (.seq (.op .add (.sl (.var 1) (.some (.var 2)) .none) (.sl (.var 1) .none (.some (.var 2))))) (
   (.cons (.iff [] (.not1 (.call 263 (.cons (.var 3) (.cons (.var 4) (.cons (.var 5) .nil))))) (
    (.cons (.ret [] (.cbl false)) .nil)) ( .nil)) .nil)))
  (.cons (.ret [] (.cbl true)) .nil)))))⟩
def tblD : List (Nat × SD) := [(1, D1), (2, D2), (3, D3), (4, D4), (5, D5), (6, D6), (7, D7), (8, D8), (9, D9), (10, D10), (11, D11), (12, D12), (13, D13), (14, D14), (15, D15), (16, D16), (17, D17), (18, D18), (19, D19), (20, D20), (21, D21), (22, D22), (23, D23), (24, D24), (25, D25), (26, D26), (27, D27), (28, D28), (29, D29), (30, D30), (31, D31), (32, D32), (33, D33), (34, D34), (35, D35), (36, D36), (37, D37), (38, D38), (39, D39), (40, D40), (41, D41), (43, D43), (44, D44), (46, D46), (49, D49), (50, D50), (51, D51), (52, D52), (53, D53), (54, D54), (55, D55), (56, D56), (57, D57), (58, D58), (59, D59), (60, D60), (61, D61), (62, D62), (64, D64), (65, D65), (66, D66), (67, D67), (68, D68), (69, D69), (70, D70), (71, D71), (72, D72), (73, D73), (74, D74), (75, D75), (76, D76), (77, D77), (81, D81), (82, D82), (83, D83), (86, D86), (87, D87), (88, D88), (89, D89), (91, D91), (92, D92), (95, D95), (98, D98), (101, D101), (102, D102), (104, D104), (105, D105), (106, D106), (107, D107), (108, D108), (109, D109), (116, D116), (120, D120), (121, D121), (122, D122), (123, D123), (124, D124), (126, D126), (128, D128), (129, D129), (130, D130), (131, D131), (132, D132), (133, D133), (135, D135), (136, D136), (137, D137), (138, D138), (139, D139), (145, D145), (146, D146), (147, D147), (148, D148), (150, D150), (151, D151), (152, D152), (153, D153), (154, D154), (156, D156), (159, D159), (160, D160), (162, D162), (163, D163), (164, D164), (166, D166), (172, D172), (176, D176), (177, D177), (178, D178), (179, D179), (180, D180), (195, D195), (202, D202), (209, D209), (210, D210), (219, D219), (223, D223), (226, D226), (228, D228), (230, D230), (232, D232), (234, D234), (235, D235), (236, D236), (237, D237), (239, D239), (245, D245), (246, D246), (247, D247), (250, D250), (252, D252), (253, D253), (255, D255), (256, D256), (259, D259), (260, D260), (266, D266)]
def tblH : List (Nat × HD) := [(42, D42), (45, D45), (47, D47), (48, D48), (63, D63), (78, D78), (79, D79), (80, D80), (84, D84), (85, D85), (94, D94), (96, D96), (97, D97), (100, D100), (103, D103), (113, D113), (140, D140), (141, D141), (142, D142), (143, D143), (174, D174), (261, D261), (262, D262)]
def tblG : List (Nat × Val) := [(1, (.int 4)), (2, (.int 40)), (3, (.int 6)), (4, (.tup [(.str (PySem.Str.ofString "all")), (.str (PySem.Str.ofString "nested")), (.str (PySem.Str.ofString "rows"))])), (5, (.int 10)), (6, (.tup [(.int 1), (.int 1)])), (7, (.tup [(.int 0), (.int 1)])), (8, (.int 200)), (9, (.int 6)), (10, (.int 10)), (11, (.int 6)), (12, (.int 40)), (13, (.int 13)), (14, (.int 13)), (15, (.int 200)), (16, (.int 40))]
def Pr : Prog := ⟨fun g => tblG.lookup g, fun f => tblD.lookup f, fun f => tblH.lookup f⟩
end VM


set_option Elab.async false
set_option linter.all false
set_option maxRecDepth 100000
set_option maxHeartbeats 2000000
/-! LibS: shares are Lean's rationals. -/
namespace VM
open PySem

/-- the size of a number -/
def lg (x : Int) : Nat := x.natAbs.log2
theorem lg_lt {x : Int} {k : Nat} (hk : 0 < k) (h : x.natAbs < 2 ^ k) : lg x < k := by
  unfold lg
  by_cases h0 : x.natAbs = 0
  · rw [h0]; simp; exact hk
  · exact (Nat.log2_lt h0).mpr h
theorem lt_lg (x : Int) : x.natAbs < 2 ^ (lg x + 1) := by
  unfold lg
  exact Nat.lt_log2_self
theorem lg_le_of {x : Int} {k : Nat} (h : x.natAbs < 2 ^ (k + 1)) : lg x ≤ k := Nat.le_of_lt_succ (lg_lt (Nat.succ_pos k) h)
theorem lg_mul (x y : Int) : lg (x * y) ≤ lg x + lg y + 1 := by
  apply lg_le_of
  rw [Int.natAbs_mul]
  have h1 := lt_lg x
  have h2 := lt_lg y
  calc x.natAbs * y.natAbs < 2 ^ (lg x + 1) * 2 ^ (lg y + 1) := Nat.mul_lt_mul'' h1 h2
    _ = 2 ^ (lg x + lg y + 1 + 1) := by rw [← Nat.pow_add]; congr 1; omega
theorem lg_mono {x y : Int} (h : x.natAbs ≤ y.natAbs) : lg x ≤ lg y := lg_le_of (Nat.lt_of_le_of_lt h (lt_lg y))
theorem lg_add {x y : Int} {k : Nat} (h1 : lg x ≤ k) (h2 : lg y ≤ k) : lg (x + y) ≤ k + 1 := by
  apply lg_le_of
  have a := lt_lg x
  have b := lt_lg y
  have a' : 2 ^ (lg x + 1) ≤ 2 ^ (k + 1) := Nat.pow_le_pow_right (by decide) (by omega)
  have b' : 2 ^ (lg y + 1) ≤ 2 ^ (k + 1) := Nat.pow_le_pow_right (by decide) (by omega)
  have c : 2 ^ (k + 1 + 1) = 2 ^ (k + 1) + 2 ^ (k + 1) := by rw [Nat.pow_succ]; omega
  have d := Int.natAbs_add_le x y
  omega
theorem lg_neg (x : Int) : lg (-x) = lg x := by unfold lg; rw [Int.natAbs_neg]
theorem lg_sub {x y : Int} {k : Nat} (h1 : lg x ≤ k) (h2 : lg y ≤ k) : lg (x - y) ≤ k + 1 := by
  rw [Int.sub_eq_add_neg]; exact lg_add h1 (by rw [lg_neg]; exact h2)
theorem mulOk_of {x y : Int} (h : lg x + lg y < 100000000) : mulOk x y = true := decide_eq_true h
theorem divOk_of {y : Int} (h0 : y ≠ 0) (h : lg y < 9000) : divOk y = true := decide_eq_true ⟨h0, h⟩

/-! ### whole numbers; the greatest number that goes into both -/
variable (n : Nat)
theorem c_whole (i : Int) : callP Pr (n + 1) 1 [.int i] = .ok (.bl true) := by
  rw [call_eq (d := D1) rfl rfl]; rfl
theorem c_whole_bl (b : Bool) : callP Pr (n + 1) 1 [.bl b] = .ok (.bl false) := by
  rw [call_eq (d := D1) rfl rfl]; rfl
theorem gcd_step {a b : Int} (ha : 0 ≤ a) (hb : 0 < b) : (Int.gcd b (a.fmod b) : Int) = Int.gcd a b := by
  rw [Int.fmod_eq_emod_of_nonneg _ (Int.le_of_lt hb)]
  obtain ⟨x, rfl⟩ := Int.eq_ofNat_of_zero_le ha
  obtain ⟨y, rfl⟩ := Int.eq_ofNat_of_zero_le (Int.le_of_lt hb)
  rw [← Int.natCast_emod]
  simp only [Int.gcd, Int.natAbs_natCast]
  rw [Nat.gcd_comm x y, Nat.gcd_comm y (x % y)]
  rw [← Nat.gcd_rec y x]
theorem gcd_loop {c : SEnv → R Bool} {body : SEnv → R (Fl × SEnv)} (f : Int → Int → SEnv) (hc : ∀ a b, c (f a b) = .ok (decide (0 < b)))
    (hb : ∀ a b, b ≠ 0 → body (f a b) = .ok (.nx, f b (a.fmod b))) : ∀ (k : Nat) (a b : Int), 0 ≤ a → 0 ≤ b → b.toNat < k →
    whGo c body k (f a b) = .ok (.nx, f (Int.gcd a b) 0) := by
  intro k
  induction k with
  | zero => intro a b _ _ h; omega
  | succ k ih =>
    intro a b ha hb' h
    rw [whGo_succ, hc]
    by_cases h0 : 0 < b
    · have hm : (0 : Int) ≤ a.fmod b := by rw [Int.fmod_eq_emod_of_nonneg _ hb']; exact Int.emod_nonneg _ (by omega)
      have hl : a.fmod b < b := by rw [Int.fmod_eq_emod_of_nonneg _ hb']; exact Int.emod_lt_of_pos _ h0
      have hne : b ≠ 0 := by omega
      simp only [okb, h0, decide_true, if_true, hb a b hne, seqF_nx]
      rw [ih b (a.fmod b) hb' hm (by omega), gcd_step ha h0]
    · have e : b = 0 := by omega
      subst e
      have e2 : (Int.gcd a 0 : Int) = a := by simp [Int.gcd]; omega
      rw [e2]
      rfl
theorem abs_if (x : Int) : (if x < 0 then -x else x) = (x.natAbs : Int) := by split <;> omega
theorem c_common (a b : Int) : callP Pr (n + 1) 2 [.int a, .int b] = .ok (.int (Int.gcd a b)) := by
  rw [call_eq (d := D2) rfl rfl]
  simp only [D2, exs_cons, ex_whl, ex_par, List.map_cons, List.map_nil, Nat.sub_self, List.replicate_zero, List.append_nil, visG_sh, visG_nil, ev_bi, evs_cons, ev_var, getE_zero, getE_succ, okb, evs_nil, bi_abs_i, abs_if, kept_nil, List.set_cons_zero, List.set_cons_succ, seqF_nx, asInt_int]
  rw [gcd_loop (fun a b => [.sh (.int a), .sh (.int b)]) (fun a b => by simp) (fun a b h => by simp [h]) _ _ _ (by omega) (by omega) (by omega)]
  simp [Int.gcd]
/-- lowest terms -/
def sv (q : Rat) : Val := .tup [.int q.num, .int q.den]
theorem low_pos {t b : Int} (hb : 0 < b) : t.fdiv (Int.gcd t b) = (Rat.divInt t b).num ∧ b.fdiv (Int.gcd t b) = ((Rat.divInt t b).den : Int) := by
  have hg : (0 : Int) ≤ (Int.gcd t b : Int) := by omega
  have hb0 : b ≠ 0 := by omega
  rw [Int.fdiv_eq_ediv_of_nonneg _ hg, Int.fdiv_eq_ediv_of_nonneg _ hg, Rat.num_divInt, Rat.den_divInt, if_neg hb0, Int.sign_eq_one_of_pos hb, Int.one_mul, Int.gcd_comm b t]
  refine ⟨rfl, ?_⟩
  rw [Int.natCast_ediv, Int.natAbs_of_nonneg (Int.le_of_lt hb)]
theorem low_neg {t b : Int} (hb : b < 0) : t.fdiv (-(Int.gcd t b : Int)) = (Rat.divInt t b).num ∧ b.fdiv (-(Int.gcd t b : Int)) = ((Rat.divInt t b).den : Int) := by
  have hg : (0 : Int) ≤ (Int.gcd t b : Int) := by omega
  have hb0 : b ≠ 0 := by omega
  have hd1 : (Int.gcd t b : Int) ∣ t := Int.gcd_dvd_left ..
  have hd2 : (Int.gcd t b : Int) ∣ b := Int.gcd_dvd_right ..
  have e : ∀ x y : Int, x.fdiv (-y) = (-x).fdiv y := fun x y => by
    rw [← Int.neg_fdiv_neg]; simp
  rw [e, e, Int.fdiv_eq_ediv_of_nonneg _ hg, Int.fdiv_eq_ediv_of_nonneg _ hg, Rat.num_divInt, Rat.den_divInt, if_neg hb0, Int.sign_eq_neg_one_of_neg hb, Int.gcd_comm b t]
  refine ⟨by rw [Int.neg_mul, Int.one_mul], ?_⟩
  rw [Int.natCast_ediv]
  congr 1
  omega
theorem gcd_small {t b : Int} (hb : b ≠ 0) (h : lg b < 9000) : (Int.gcd t b : Int) ≠ 0 ∧ lg (Int.gcd t b : Int) < 9000 := by
  have h1 : Int.gcd t b ≠ 0 := fun z => hb ((Int.gcd_eq_zero_iff.mp z).2)
  refine ⟨by omega, Nat.lt_of_le_of_lt (lg_mono ?_) h⟩
  have := Int.gcd_le_natAbs_right t hb
  simpa using this
theorem c_lowest {t b : Int} (hb : b ≠ 0) (h : lg b < 9000) : callP Pr (n + 2) 3 [.int t, .int b] = .ok (sv (Rat.divInt t b)) := by
  rw [call_eq (d := D3) rfl rfl]
  obtain ⟨h1, h2⟩ := gcd_small (t := t) hb h
  have d1 := divOk_of h1 h2
  have d2 : divOk (-(Int.gcd t b : Int)) = true := divOk_of (by omega) (by rw [lg_neg]; exact h2)
  by_cases hn : b < 0
  · obtain ⟨e1, e2⟩ := low_neg (t := t) hn
    simp [D3, c_common, hn, d2, e1, e2, lineN, sv]
  · obtain ⟨e1, e2⟩ := low_pos (t := t) (b := b) (by omega)
    simp [D3, c_common, hn, d1, e1, e2, lineN, sv]
theorem c_isshare (q : Rat) : callP Pr (n + 2) 4 [sv q] = .ok (.bl true) := by
  have hg : Int.gcd q.num q.den = 1 := q.reduced
  have hp : (0 : Int) < q.den := by have := q.den_pos; omega
  rw [call_eq (d := D4) rfl rfl]
  have hp2 : q.den ≠ 0 := q.den_nz
  simp [D4, sv, c_common, c_whole, hg, hp, hp2]
theorem c_check (q : Rat) : callP Pr (n + 3) 5 [sv q] = .ok .non := by
  rw [call_eq (d := D5) rfl rfl]
  simp [D5, c_isshare]
theorem c_share {t b : Int} (hb : b ≠ 0) (h : lg b < 9000) : callP Pr (n + 3) 6 [.int t, .int b] = .ok (sv (Rat.divInt t b)) := by
  rw [call_eq (d := D6) rfl rfl]
  simp [D6, c_whole, hb, c_lowest n hb h]
/-! ### sums of shares -/
/-- sizes: top, bottom -/
def Sz (a b : Nat) (q : Rat) : Prop := lg q.num ≤ a ∧ lg (q.den : Int) ≤ b
theorem Sz.mono {a b a' b' : Nat} {q : Rat} (h : Sz a b q) (ha : a ≤ a') (hb : b ≤ b') : Sz a' b' q := ⟨Nat.le_trans h.1 ha, Nat.le_trans h.2 hb⟩
theorem num_le (t b : Int) (hb : b ≠ 0) : (Rat.divInt t b).num.natAbs ≤ t.natAbs := by
  rw [Rat.num_divInt]
  have h1 : (b.sign * t / (b.gcd t : Int)).natAbs ≤ (b.sign * t).natAbs := Int.natAbs_ediv_le_natAbs _ _
  refine Nat.le_trans h1 ?_
  rw [Int.natAbs_mul]
  have h2 : b.sign.natAbs ≤ 1 := by rw [Int.natAbs_sign]; split <;> omega
  calc b.sign.natAbs * t.natAbs ≤ 1 * t.natAbs := Nat.mul_le_mul_right _ h2
    _ = t.natAbs := Nat.one_mul _
theorem den_le (t b : Int) (hb : b ≠ 0) : (Rat.divInt t b).den ≤ b.natAbs := by
  rw [Rat.den_divInt, if_neg hb]
  exact Nat.div_le_self _ _
theorem Sz.divInt {t b : Int} {x y : Nat} (hb : b ≠ 0) (h1 : lg t ≤ x) (h2 : lg b ≤ y) : Sz x y (Rat.divInt t b) :=
  ⟨Nat.le_trans (lg_mono (num_le t b hb)) h1, Nat.le_trans (lg_mono (by simpa using den_le t b hb)) h2⟩
theorem den_ne (q : Rat) : (q.den : Int) ≠ 0 := by have := q.den_nz; omega
theorem den_mul_ne (p q : Rat) : (p.den : Int) * q.den ≠ 0 := Int.mul_ne_zero (den_ne p) (den_ne q)
theorem add_divInt (p q : Rat) : p + q = Rat.divInt (p.num * q.den + q.num * p.den) (p.den * q.den) := by
  rw [← Rat.divInt_add_divInt _ _ (den_ne p) (den_ne q), Rat.num_divInt_den, Rat.num_divInt_den]
theorem sub_divInt (p q : Rat) : p - q = Rat.divInt (p.num * q.den - q.num * p.den) (p.den * q.den) := by
  rw [← Rat.divInt_sub_divInt _ _ (den_ne p) (den_ne q), Rat.num_divInt_den, Rat.num_divInt_den]
theorem mul_divInt (p q : Rat) : p * q = Rat.divInt (p.num * q.num) (p.den * q.den) := by
  rw [← Rat.divInt_mul_divInt, Rat.num_divInt_den, Rat.num_divInt_den]
theorem num_ne {q : Rat} (h : q ≠ 0) : q.num ≠ 0 := fun z => h (Rat.num_eq_zero.mp z)
theorem div_divInt (p q : Rat) : p / q = Rat.divInt (p.num * q.den) (p.den * q.num) := by
  rw [Rat.div_def, ← Rat.divInt_mul_divInt, Rat.num_divInt_den]
  conv => lhs; rw [← Rat.num_divInt_den q, Rat.inv_divInt]
section
variable {a b c d : Nat} {p q : Rat}
theorem Sz.add (h : Sz a b p) (g : Sz c d q) : Sz (max (a + d) (c + b) + 2) (b + d + 1) (p + q) := by
  rw [add_divInt]
  refine Sz.divInt (den_mul_ne p q) (lg_add (k := max (a + d) (c + b) + 1) ?_ ?_) ?_
  · have := lg_mul p.num q.den; have := h.1; have := g.2; omega
  · have := lg_mul q.num p.den; have := g.1; have := h.2; omega
  · have := lg_mul (p.den : Int) q.den; have := h.2; have := g.2; omega
theorem Sz.sub (h : Sz a b p) (g : Sz c d q) : Sz (max (a + d) (c + b) + 2) (b + d + 1) (p - q) := by
  rw [sub_divInt]
  refine Sz.divInt (den_mul_ne p q) (lg_sub (k := max (a + d) (c + b) + 1) ?_ ?_) ?_
  · have := lg_mul p.num q.den; have := h.1; have := g.2; omega
  · have := lg_mul q.num p.den; have := g.1; have := h.2; omega
  · have := lg_mul (p.den : Int) q.den; have := h.2; have := g.2; omega
theorem Sz.mul (h : Sz a b p) (g : Sz c d q) : Sz (a + c + 1) (b + d + 1) (p * q) := by
  rw [mul_divInt]
  refine Sz.divInt (den_mul_ne p q) ?_ ?_
  · have := lg_mul p.num q.num; have := h.1; have := g.1; omega
  · have := lg_mul (p.den : Int) q.den; have := h.2; have := g.2; omega
theorem Sz.div (h : Sz a b p) (g : Sz c d q) (h0 : q ≠ 0) : Sz (a + d + 1) (b + c + 1) (p / q) := by
  rw [div_divInt]
  refine Sz.divInt (Int.mul_ne_zero (den_ne p) (num_ne h0)) ?_ ?_
  · have := lg_mul p.num q.den; have := h.1; have := g.2; omega
  · have := lg_mul (p.den : Int) q.num; have := h.2; have := g.1; omega
theorem mulOk_sz {x y : Int} {k : Nat} (h : lg x + lg y ≤ k) (hk : k < 100000000) : mulOk x y = true := mulOk_of (by omega)
theorem c_add (h : Sz a b p) (g : Sz c d q) (h1 : a + d < 100000000 := by omega) (h2 : c + b < 100000000 := by omega) (h3 : b + d + 1 < 9000 := by omega) : callP Pr (n + 3) 7 [sv p, sv q] = .ok (sv (p + q)) := by
  have m1 : mulOk p.num q.den = true := mulOk_of (by have := h.1; have := g.2; omega)
  have m2 : mulOk q.num p.den = true := mulOk_of (by have := g.1; have := h.2; omega)
  have m3 : mulOk (p.den : Int) q.den = true := mulOk_of (by have := h.2; have := g.2; omega)
  have l1 : lg ((p.den : Int) * q.den) < 9000 := by have := lg_mul (p.den : Int) q.den; have := h.2; have := g.2; omega
  rw [call_eq (d := D7) rfl rfl]
  simp [D7, sv, m1, m2, m3]
  rw [c_lowest n (den_mul_ne p q) l1, ← add_divInt]; rfl
theorem c_cut (h : Sz a b p) (g : Sz c d q) (h1 : a + d < 100000000 := by omega) (h2 : c + b < 100000000 := by omega) (h3 : b + d + 1 < 9000 := by omega) : callP Pr (n + 3) 8 [sv p, sv q] = .ok (sv (p - q)) := by
  have m1 : mulOk p.num q.den = true := mulOk_of (by have := h.1; have := g.2; omega)
  have m2 : mulOk q.num p.den = true := mulOk_of (by have := g.1; have := h.2; omega)
  have m3 : mulOk (p.den : Int) q.den = true := mulOk_of (by have := h.2; have := g.2; omega)
  have l1 : lg ((p.den : Int) * q.den) < 9000 := by have := lg_mul (p.den : Int) q.den; have := h.2; have := g.2; omega
  rw [call_eq (d := D8) rfl rfl]
  simp [D8, sv, m1, m2, m3]
  rw [c_lowest n (den_mul_ne p q) l1, ← sub_divInt]; rfl
theorem c_grow (h : Sz a b p) (g : Sz c d q) (h1 : a + c < 100000000 := by omega) (h3 : b + d + 1 < 9000 := by omega) : callP Pr (n + 3) 9 [sv p, sv q] = .ok (sv (p * q)) := by
  have m1 : mulOk p.num q.num = true := mulOk_of (by have := h.1; have := g.1; omega)
  have m3 : mulOk (p.den : Int) q.den = true := mulOk_of (by have := h.2; have := g.2; omega)
  have l1 : lg ((p.den : Int) * q.den) < 9000 := by have := lg_mul (p.den : Int) q.den; have := h.2; have := g.2; omega
  rw [call_eq (d := D9) rfl rfl]
  simp [D9, sv, m1, m3]
  rw [c_lowest n (den_mul_ne p q) l1, ← mul_divInt]; rfl
theorem c_part (h : Sz a b p) (g : Sz c d q) (h0 : q ≠ 0) (h1 : a + d < 100000000 := by omega) (h3 : b + c + 1 < 9000 := by omega) : callP Pr (n + 3) 10 [sv p, sv q] = .ok (sv (p / q)) := by
  have m1 : mulOk p.num q.den = true := mulOk_of (by have := h.1; have := g.2; omega)
  have m3 : mulOk (p.den : Int) q.num = true := mulOk_of (by have := h.2; have := g.1; omega)
  have l1 : lg ((p.den : Int) * q.num) < 9000 := by have := lg_mul (p.den : Int) q.num; have := h.2; have := g.1; omega
  rw [call_eq (d := D10) rfl rfl]
  simp [D10, sv, m1, m3]
  rw [c_lowest n (Int.mul_ne_zero (den_ne p) (num_ne h0)) l1, ← div_divInt]; rfl
theorem c_plus (h : Sz a b p) (g : Sz c d q) (h1 : a + d < 100000000 := by omega) (h2 : c + b < 100000000 := by omega) (h3 : b + d + 1 < 9000 := by omega) : callP Pr (n + 4) 11 [sv p, sv q] = .ok (sv (p + q)) := by
  rw [call_eq (d := D11) rfl rfl]
  simp [D11, c_check, c_add n h g]
theorem c_minus (h : Sz a b p) (g : Sz c d q) (h1 : a + d < 100000000 := by omega) (h2 : c + b < 100000000 := by omega) (h3 : b + d + 1 < 9000 := by omega) : callP Pr (n + 4) 12 [sv p, sv q] = .ok (sv (p - q)) := by
  rw [call_eq (d := D12) rfl rfl]
  simp [D12, c_check, c_cut n h g]
theorem c_times (h : Sz a b p) (g : Sz c d q) (h1 : a + c < 100000000 := by omega) (h3 : b + d + 1 < 9000 := by omega) : callP Pr (n + 4) 13 [sv p, sv q] = .ok (sv (p * q)) := by
  rw [call_eq (d := D13) rfl rfl]
  simp [D13, c_check, c_grow n h g]
@[simp] theorem sv_0 (q : Rat) : ixV (sv q) (.int 0) = .ok (.int q.num) := ix_t0
@[simp] theorem sv_1 (q : Rat) : ixV (sv q) (.int 1) = .ok (.int q.den) := ix_t1
theorem c_over (h : Sz a b p) (g : Sz c d q) (h0 : q ≠ 0) (h1 : a + d < 100000000 := by omega) (h3 : b + c + 1 < 9000 := by omega) : callP Pr (n + 4) 14 [sv p, sv q] = .ok (sv (p / q)) := by
  rw [call_eq (d := D14) rfl rfl]
  simp [D14, c_check, num_ne h0, c_part n h g h0]
/-- 1, 0 or -1 -/
def sgn (x : Int) : Int := if 0 < x then 1 else if x = 0 then 0 else -1
theorem c_order (h : Sz a b p) (g : Sz c d q) (h1 : a + d < 100000000 := by omega) (h2 : c + b < 100000000 := by omega) (h3 : b + d + 1 < 9000 := by omega) : callP Pr (n + 4) 15 [sv p, sv q] = .ok (.int (sgn (p - q).num)) := by
  rw [call_eq (d := D15) rfl rfl]
  simp [D15, c_check, c_cut n h g, sgn]
  split
  · rfl
  · split <;> rfl
theorem sgn_divInt {t b : Int} (hb : 0 < b) : sgn (Rat.divInt t b).num = sgn t := by
  have hg : 0 < (b.gcd t : Int) := by
    have : b.gcd t ≠ 0 := fun z => by have := (Int.gcd_eq_zero_iff.mp z).1; omega
    omega
  have hd : (b.gcd t : Int) ∣ t := Int.gcd_dvd_right ..
  rw [Rat.num_divInt, Int.sign_eq_one_of_pos hb, Int.one_mul]
  obtain ⟨k, hk⟩ := hd
  have e : t / (b.gcd t : Int) = k := by
    conv => lhs; lhs; rw [hk]
    exact Int.mul_ediv_cancel_left k (by omega)
  rw [e]
  unfold sgn
  have h1 : 0 < t ↔ 0 < k := by
    generalize hG : (b.gcd t : Int) = G at *
    rw [hk]; constructor
    · intro h; rw [Int.mul_comm] at h; exact Int.pos_of_mul_pos_left h hg
    · intro h; exact Int.mul_pos hg h
  have h2 : t = 0 ↔ k = 0 := by
    constructor
    · intro h
      rcases Int.mul_eq_zero.mp (hk.symm.trans h) with z | z
      · omega
      · exact z
    · intro h; rw [h, Int.mul_zero] at hk; exact hk
  simp only [h1, h2]
theorem sgn_sub (p q : Rat) : sgn (p - q).num = sgn (p.num * q.den - q.num * p.den) := by
  rw [sub_divInt, sgn_divInt (by have := p.den_pos; have := q.den_pos; exact Int.mul_pos (by omega) (by omega))]
end
/-! ### shares compared -/
theorem sv_inj {p q : Rat} : veq (sv p) (sv q) = decide (p = q) := by
  have e : veq (sv p) (sv q) = (decide (p.num = q.num) && decide ((p.den : Int) = q.den)) := by
    simp [sv, veq, py, pys, PyData.eqv, PyData.eqvAll, Bool.beq_eq_decide_eq]
  rw [e, Bool.eq_iff_iff]
  simp only [Bool.and_eq_true, decide_eq_true_eq]
  constructor
  · rintro ⟨h1, h2⟩
    exact Rat.ext h1 (by omega)
  · rintro rfl; exact ⟨rfl, rfl⟩
theorem sv_ok (q : Rat) : okD 60 (sv q) = true := by simp [sv, okD]
@[simp] theorem op_eq_sv {p q : Rat} : op2 .eq (sv p) (sv q) = .ok (.bl (decide (p = q))) := by
  rw [← sv_inj]
  simp only [op2, sv_ok, Bool.and_self, if_true]
@[simp] theorem op_ne_sv {p q : Rat} : op2 .ne (sv p) (sv q) = .ok (.bl (!decide (p = q))) := by
  rw [← sv_inj]
  simp only [op2, sv_ok, Bool.and_self, if_true]
end VM

set_option Elab.async false
set_option linter.all false
set_option maxRecDepth 100000
set_option maxHeartbeats 2000000
/-! LibL: the laws' own small defs: cells, draws, values, lowest terms. -/
namespace VM
open PySem
variable (n : Nat)

def cells (ns : List Int) : Val := .lst (ns.map Val.int)
def cellAt (ns : List Int) (k : Int) : Int := ns.getD k.toNat 0
theorem atI_in {α : Type} {xs : List α} {k : Int} (h0 : 0 ≤ k) (h : k < xs.length) : L2.atI xs k = xs[k.toNat]? := by
  unfold L2.atI L2.ixN
  rw [if_pos h0, if_pos h]; rfl
theorem c_cell (ns : List Int) (k : Int) (hk : 0 ≤ k) : callP Pr (n + 1) 16 [cells ns, .int k] = .ok (.int (cellAt ns k)) := by
  rw [call_eq (d := D16) rfl rfl]
  by_cases h : k < (ns.length : Int)
  · have hl : k.toNat < ns.length := by omega
    have e : ixV (.lst (ns.map Val.int)) (.int k) = .ok (.int (cellAt ns k)) := by
      simp only [ixV]
      rw [atI_in hk (by simpa using h), List.getElem?_map, List.getElem?_eq_getElem hl]
      simp [ofO, cellAt, hl]
    simp [D16, cells, h, e]
  · have hl : ns.length ≤ k.toNat := by omega
    simp [D16, cells, h, cellAt, hl]
theorem c_cell_s (ns : List Int) (k : Int) (hk : 0 ≤ k) : callP Pr (n + 1) 16 [.scr ns, .int k] = .ok (.int (cellAt ns k)) := by
  rw [call_eq (d := D16) rfl rfl]
  by_cases h : k < (ns.length : Int)
  · have hl : k.toNat < ns.length := by omega
    have e : ixV (.scr ns) (.int k) = .ok (.int (cellAt ns k)) := by
      simp only [ixV]
      rw [atI_in hk h, List.getElem?_eq_getElem hl]
      simp [ofO, cellAt, hl]
    simp [D16, h, e]
  · have hl : ns.length ≤ k.toNat := by omega
    simp [D16, h, cellAt, hl]

/-! ### draws -/
def primes : List Int := [1000003, 1000033, 1000037, 1000039, 1000081, 1000099, 1000117, 1000121, 1000133, 1000151, 1000159, 1000171, 1000183, 1000187, 1000193, 1000199]
def prim (k : Int) : Int := primes.getD (k % 16).toNat 1
def drawF (c k m : Int) : Int := (c * 48271 + k * 69621) % prim k % m
theorem prim_pos (k : Int) : 0 < prim k := by
  unfold prim
  generalize (k % 16).toNat = j
  rcases j with _ | _ | _ | _ | _ | _ | _ | _ | _ | _ | _ | _ | _ | _ | _ | _ | j <;> simp [primes, List.getD]
theorem prim_ix (k : Int) : ixV (.tup (primes.map Val.int)) (.int (k.fmod 16)) = .ok (.int (prim k)) := by
  rw [Int.fmod_eq_emod_of_nonneg _ (by decide)]
  have h0 : 0 ≤ k % 16 := Int.emod_nonneg _ (by decide)
  have h1 : k % 16 < 16 := Int.emod_lt_of_pos _ (by decide)
  simp only [ixV]
  rw [atI_in h0 (by simpa [primes] using h1), List.getElem?_map, List.getElem?_eq_getElem (by simp [primes]; omega)]
  simp [ofO, prim]
  rw [List.getElem?_eq_getElem (by simp [primes]; omega)]
  rfl
theorem lg_small {x : Int} {k : Nat} (hk : 0 < k) (h : x.natAbs < 2 ^ k) : lg x ≤ k := Nat.le_of_lt (lg_lt hk h)
theorem drawF_nn (c k : Int) {m : Int} (hm : 0 < m) : 0 ≤ drawF c k m := Int.emod_nonneg _ (by omega)
theorem drawF_lt (c k : Int) {m : Int} (hm : 0 < m) : drawF c k m < m := Int.emod_lt_of_pos _ hm
theorem c_draw {c k m : Int} (hc : lg c ≤ 3000000) (hk : lg k ≤ 1000) (hm : 0 < m) : callP Pr (n + 1) 17 [.int c, .int k, .int m] = .ok (.int (drawF c k m)) := by
  have m1 : mulOk c 48271 = true := mulOk_of (by have : lg 48271 = 15 := by decide +kernel
                                                 omega)
  have m2 : mulOk k 69621 = true := mulOk_of (by have : lg 69621 = 16 := by decide +kernel
                                                 omega)
  have hp := prim_pos k
  have hp0 : prim k ≠ 0 := by omega
  have hm0 : m ≠ 0 := by omega
  have e := prim_ix k
  simp only [primes, List.map_cons, List.map_nil] at e
  rw [call_eq (d := D17) rfl rfl]
  simp [D17, lineN, e, m1, m2, hp0, hm0]
  rw [Int.fmod_eq_emod_of_nonneg _ (by omega), Int.fmod_eq_emod_of_nonneg _ (by omega)]
  rfl
/-- a number by a cell and a turn -/
def valF (c t : Int) : Int :=
  if c ≥ 10 ^ 18 then (c - 10 ^ 18) / 2 ^ (3 * t).toNat
  else drawF ((c + 977 * t) * (c + 31 * t + 5)) (t % 9 + 1) 999983 * 1000003 + drawF ((c + 31 * t) * (c + 7) + 977 * t) (t % 7 + 2) 1000003
theorem valF_nn (c t : Int) : 0 ≤ valF c t := by
  unfold valF
  split
  · exact Int.ediv_nonneg (by omega) (Int.le_of_lt (Int.pow_pos (by decide)))
  · have := drawF_nn ((c + 977 * t) * (c + 31 * t + 5)) (t % 9 + 1) (m := 999983) (by decide)
    have := drawF_nn ((c + 31 * t) * (c + 7) + 977 * t) (t % 7 + 2) (m := 1000003) (by decide)
    omega
theorem valF_lg {c t : Int} (hc : lg c ≤ 1048577) : lg (valF c t) ≤ 1048600 := by
  unfold valF
  split
  · have h1 : lg (c - 10 ^ 18) ≤ 1048578 := lg_sub hc (Nat.le_trans (lg_small (k := 60) (by decide) (by decide)) (by decide))
    refine Nat.le_trans (lg_mono (Int.natAbs_ediv_le_natAbs _ _)) (by omega)
  · have h1 := drawF_nn ((c + 977 * t) * (c + 31 * t + 5)) (t % 9 + 1) (m := 999983) (by decide)
    have h2 := drawF_nn ((c + 31 * t) * (c + 7) + 977 * t) (t % 7 + 2) (m := 1000003) (by decide)
    have h3 := drawF_lt ((c + 977 * t) * (c + 31 * t + 5)) (t % 9 + 1) (m := 999983) (by decide)
    have h4 := drawF_lt ((c + 31 * t) * (c + 7) + 977 * t) (t % 7 + 2) (m := 1000003) (by decide)
    refine Nat.le_trans (lg_small (k := 60) (by decide) ?_) (by decide)
    have : (2 : Nat) ^ 60 = 1152921504606846976 := by decide
    rw [this]
    omega
theorem c_value {c t : Int} (hc : lg c ≤ 1048577) (ht0 : 0 ≤ t) (ht : t ≤ 1000000) : callP Pr (n + 2) 18 [.int c, .int t] = .ok (.int (valF c t)) := by
  have p1 : powOk 10 18 = true := by decide
  have t1 : lg t ≤ 20 := lg_small (by decide) (by have : (2 : Nat) ^ 20 = 1048576 := by decide
                                                  rw [this]; omega)
  have l3 : lg 3 = 1 := by decide +kernel
  have l977 : lg 977 = 9 := by decide +kernel
  have l31 : lg 31 = 4 := by decide +kernel
  have l5 : lg 5 = 2 := by decide +kernel
  have l7 : lg 7 = 2 := by decide +kernel
  have m1 : mulOk 3 t = true := mulOk_of (by omega)
  rw [call_eq (d := D18) rfl rfl]
  by_cases hb : c ≥ 10 ^ 18
  · have hb' : (1000000000000000000 : Int) ≤ c := by simpa using hb
    have h3t : 0 ≤ 3 * t := by omega
    simp [D18, p1, hb', m1, h3t, valF]
  · have hb' : ¬ (1000000000000000000 : Int) ≤ c := by simpa using hb
    have m2 : mulOk 977 t = true := mulOk_of (by omega)
    have m3 : mulOk 31 t = true := mulOk_of (by omega)
    have a1 : lg (977 * t) ≤ 1048577 := by have := lg_mul 977 t; omega
    have a2 : lg (31 * t) ≤ 1048577 := by have := lg_mul 31 t; omega
    have b1 := lg_add hc a1
    have b2 := lg_add hc a2
    have b3 : lg (c + 31 * t + 5) ≤ 1048579 := lg_add b2 (by omega)
    have b4 : lg (c + 7) ≤ 1048578 := lg_add hc (by omega)
    have m4 : mulOk (c + 977 * t) (c + 31 * t + 5) = true := mulOk_of (by omega)
    have m5 : mulOk (c + 31 * t) (c + 7) = true := mulOk_of (by omega)
    have d1 : lg ((c + 977 * t) * (c + 31 * t + 5)) ≤ 3000000 := by have := lg_mul (c + 977 * t) (c + 31 * t + 5); omega
    have d2 : lg ((c + 31 * t) * (c + 7) + 977 * t) ≤ 3000000 := by
      have := lg_mul (c + 31 * t) (c + 7)
      exact Nat.le_trans (lg_add (k := 2999999) (by omega) (by omega)) (by omega)
    have k1 : lg (t.fmod 9 + 1) ≤ 1000 := by
      rw [Int.fmod_eq_emod_of_nonneg _ (by decide)]
      refine Nat.le_trans (lg_small (k := 4) (by decide) ?_) (by decide)
      have := Int.emod_nonneg t (b := 9) (by decide); have := Int.emod_lt_of_pos t (b := 9) (by decide); omega
    have k2 : lg (t.fmod 7 + 2) ≤ 1000 := by
      rw [Int.fmod_eq_emod_of_nonneg _ (by decide)]
      refine Nat.le_trans (lg_small (k := 4) (by decide) ?_) (by decide)
      have := Int.emod_nonneg t (b := 7) (by decide); have := Int.emod_lt_of_pos t (b := 7) (by decide); omega
    have m6 : mulOk (drawF ((c + 977 * t) * (c + 31 * t + 5)) (t.fmod 9 + 1) 999983) 1000003 = true := by
      have h1 := drawF_nn ((c + 977 * t) * (c + 31 * t + 5)) (t.fmod 9 + 1) (m := 999983) (by decide)
      have h3 := drawF_lt ((c + 977 * t) * (c + 31 * t + 5)) (t.fmod 9 + 1) (m := 999983) (by decide)
      have : lg 1000003 = 19 := by decide +kernel
      refine mulOk_of ?_
      have := lg_small (x := drawF ((c + 977 * t) * (c + 31 * t + 5)) (t.fmod 9 + 1) 999983) (k := 20) (by decide) (by have : (2 : Nat) ^ 20 = 1048576 := by decide
                                                                                                                       rw [this]; omega)
      omega
    simp [D18, p1, hb', m2, m3, m4, m5, c_draw n d1 k1, c_draw n d2 k2, m6, valF]
    rw [Int.fmod_eq_emod_of_nonneg _ (by decide), Int.fmod_eq_emod_of_nonneg _ (by decide)]

/-! ### lowest terms once more -/
theorem c_llow {t b : Int} (hb : b ≠ 0) (h : lg b < 9000) : callP Pr (n + 1) 19 [.int t, .int b] = .ok (sv (Rat.divInt t b)) := by
  rw [call_eq (d := D19) rfl rfl]
  obtain ⟨h1, h2⟩ := gcd_small (t := t) hb h
  have d1 := divOk_of h1 h2
  have d2 : divOk (-(Int.gcd t b : Int)) = true := divOk_of (by omega) (by rw [lg_neg]; exact h2)
  have hg : Int.gcd (t.natAbs : Int) (b.natAbs : Int) = Int.gcd t b := by simp [Int.gcd]
  simp [D19, ex_whl, abs_if, -ev_op]
  rw [gcd_loop (fun x y => [.sh (.int t), .sh (.int b), .sh (.int x), .sh (.int y)]) (fun a b => by simp) (fun a b h => by simp [h]) _ _ _ (by omega) (by omega) (by omega), hg]
  by_cases hn : b < 0
  · obtain ⟨e1, e2⟩ := low_neg (t := t) hn
    have hp : ¬ 0 < b := by omega
    simp [hp, d2, e1, e2, lineN, sv]
  · obtain ⟨e1, e2⟩ := low_pos (t := t) (b := b) (by omega)
    have hp : 0 < b := by omega
    simp [hp, d1, e1, e2, lineN, sv]
theorem c_lwhole (i : Int) : callP Pr (n + 1) 20 [.int i] = .ok (.bl true) := by
  rw [call_eq (d := D20) rfl rfl]; rfl
theorem c_lisshare (q : Rat) (h : lg (q.den : Int) < 9000) : callP Pr (n + 2) 21 [sv q] = .ok (.bl true) := by
  have hp : (0 : Int) < q.den := by have := q.den_pos; omega
  have hp2 : q.den ≠ 0 := q.den_nz
  have e : callP Pr (n + 1) 19 [.int q.num, .int q.den] = .ok (sv q) := by rw [c_llow n (den_ne q) h, Rat.num_divInt_den]
  have ht : isiV (sv q) .tuple = .ok true := rfl
  have hl : bi1 .len [sv q] = .ok (.int 2) := rfl
  rw [call_eq (d := D21) rfl rfl]
  simp [D21, ht, hl, c_lwhole, hp, hp2, e]
theorem c_lsame {q : Rat} {t b : Int} (hb : b ≠ 0) (hq : q = Rat.divInt t b) (h : lg (q.den : Int) < 9000) (m1 : mulOk q.num b = true) (m2 : mulOk (q.den : Int) t = true) :
    callP Pr (n + 3) 22 [sv q, .int t, .int b] = .ok (.bl true) := by
  have e : q.num * b = q.den * t := by
    have := hq
    rw [← Rat.num_divInt_den q, Rat.divInt_eq_divInt_iff (den_ne q) hb] at this
    rw [this, Int.mul_comm]
  rw [call_eq (d := D22) rfl rfl]
  simp [D22, c_lisshare n q h, m1, m2, e]
end VM

set_option Elab.async false
set_option linter.all false
set_option maxRecDepth 100000
set_option maxHeartbeats 4000000
/-! LibF: frames of laws. -/
namespace VM
open PySem

theorem bits_lg {i : Int} (h : Builtin.Int.intBits i ≤ 1048576) : lg i ≤ 1048577 := by
  unfold Builtin.Int.intBits at h
  by_cases h0 : i = 0
  · subst h0; decide +kernel
  · rw [if_neg (by simpa using h0)] at h
    unfold lg; omega
theorem cut63 {ns : List Int} (h : ns.length ≤ 63) : slV (.scr ns) none (some 63) = .ok (cells ns) := by
  have e : HT.sIx (ns.map Val.int).length (ns.map Val.int).length (some 63) = (ns.map Val.int).length := by
    rw [show (63 : Int) = ((63 : Nat) : Int) by rfl, HT.sIx_nat, List.length_map]; omega
  simp only [slV, cells, cutL, e, HT.sIx_none, Nat.sub_zero, List.drop_zero, List.take_length]
/-! equal values, by a run -/
mutual
def same : Val → Val → Bool
  | .non, .non => true
  | .bl a, .bl b => a == b
  | .int a, .int b => decide (a = b)
  | .str a, .str b => decide (a = b)
  | .tup a, .tup b => sames a b
  | .lst a, .lst b => sames a b
  | _, _ => false
def sames : List Val → List Val → Bool
  | [], [] => true
  | a :: as, b :: bs => same a b && sames as bs
  | _, _ => false
end
mutual
theorem same_eq : ∀ {a b : Val}, same a b = true → a = b
  | .non, b, h => by cases b <;> first | rfl | simp [same] at h
  | .bl a, b, h => by cases b <;> first | (simp [same] at h; rw [h]) | simp [same] at h
  | .int a, b, h => by cases b <;> first | (simp [same] at h; rw [h]) | simp [same] at h
  | .str a, b, h => by cases b <;> first | (simp [same] at h; rw [h]) | simp [same] at h
  | .tup a, b, h => by cases b <;> first | (simp only [same] at h; rw [sames_eq h]) | simp [same] at h
  | .lst a, b, h => by cases b <;> first | (simp only [same] at h; rw [sames_eq h]) | simp [same] at h
  | .dic a c d, b, h => by cases b <;> simp [same] at h
  | .scr a, b, h => by cases b <;> simp [same] at h
theorem sames_eq : ∀ {a b : List Val}, sames a b = true → a = b
  | [], b, h => by cases b <;> first | rfl | simp [sames] at h
  | x :: a, b, h => by
    cases b with
    | nil => simp [sames] at h
    | cons y b =>
      simp only [sames, Bool.and_eq_true] at h
      rw [same_eq h.1, sames_eq h.2]
end
def okSame : R Val → Val → Bool
  | .ok a, b => same a b
  | _, _ => false
theorem ok_of {x : R Val} {v : Val} (h : okSame x v = true) : x = .ok v := by
  cases x with
  | ok a => rw [same_eq (show same a v = true from h)]
  | error e => cases h
/-- the frame of a law over its cells by steps -/
theorem frame {T : Tab} {ns : List Int} {d : Int} {body rest : SB} {n : Nat} (hl : ns.length ≤ 63) (hd : d = 12 ∨ d = 3)
    (hb : ∀ k : Nat, ∀ ρ : SEnv, ρ.length = n → ∃ ρ', exs T body (.sh (cells ns) :: .sh (.int k) :: ρ) = .ok (.nx, .sh (cells ns) :: ρ') ∧ ρ'.length = n + 1)
    (hr : ∀ ρ : SEnv, ρ.length = n + 1 → finD (exs T rest (.sh (cells ns) :: ρ)) = .ok (.bl true)) :
    finD (exs T (.cons (.asg [] (.nm 0) (.sl (.var 0) .none (.some (.cint 63)))) (.cons (.loop [] (.nm 1) (.rng3 (.cint 0) (.bi .max2 (.cons (.cint 1) (.cons (.bi .len (.cons (.var 0) .nil)) .nil))) (.op .add (.cint 1) (.op .fdiv (.bi .len (.cons (.var 0) .nil)) (.cint d)))) body) rest)) (.sh (.scr ns) :: List.replicate (n + 1) .no)) = .ok (.bl true) := by
  have hs := cut63 hl
  have hdv : divOk d = true := by rcases hd with rfl | rfl <;> decide +kernel
  have hc : 0 ≤ (ns.length : Int).fdiv d ∧ (ns.length : Int).fdiv d ≤ 63 := by
    rw [Int.fdiv_eq_ediv_of_nonneg _ (by omega)]
    rcases hd with rfl | rfl <;> omega
  generalize hC : (ns.length : Int).fdiv d = C at *
  have hsm : smallR 0 (if (ns.length : Int) > 1 then (ns.length : Int) else 1) = true := by
    unfold smallR; apply decide_eq_true; split <;> omega
  have hcc : (0 < 1 + C ∧ 1 + C < 1073741824) := by omega
  have hvl : ∀ ρ : SEnv, vis [] (.sh (cells ns) :: ρ) = some (cells ns) :: visG [] 1 ρ := fun ρ => by simp [vis]
  have hv0 : vis [] (.sh (.scr ns) :: List.replicate (n + 1) .no) = some (.scr ns) :: visG [] 1 (List.replicate (n + 1) .no) := by simp [vis]
  have hln : ∀ ρ : VE, evs T (.cons (.var 0) .nil) (some (cells ns) :: ρ) = .ok [cells ns] := fun ρ => by simp
  have hle : bi1 .len [cells ns] = .ok (.int ns.length) := by simp [cells]
  have hkp : kept [] (flat (cells ns)) (.sh (.scr ns) :: List.replicate (n + 1) .no) = .sh (.scr ns) :: List.replicate (n + 1) .no := rfl
  simp only [exs_cons, ex_asg, hv0, ev_sl, ev_var, getE_zero, okb, evO_none, evO_some, ev_int, asInt_int, hs, bindS_nm, kept_nil, List.set_cons_zero, seqF_nx, ex_loop, hvl, evI_rng3, ev_bi, evs_cons, evs_nil, ev_op, hle, bi_max2_i, op_fdiv_i, hdv, if_true, op_add_i, hC, hsm, Bool.true_and, hcc, decide_true, and_self]
  obtain ⟨ρ', e1, ρ2, rfl, l2⟩ := forGo_inv (bind := bindS (.nm 1)) (body := exs T body) (fun ρ => ∃ r : SEnv, ρ = .sh (cells ns) :: r ∧ r.length = n + 1) (l := rngC 0 (1 + C) (rngN 0 (if (ns.length : Int) > 1 then (ns.length : Int) else 1) (1 + C))) (ρ := .sh (cells ns) :: List.replicate (n + 1) .no) ⟨_, rfl, by simp⟩ (by
    rintro v hv ρ ⟨r, rfl, hr⟩
    obtain ⟨i, _, rfl⟩ := rngC_mem hv
    obtain ⟨a, r2, rfl, hr2⟩ := len_succ hr
    have e : (0 : Int) + (i : Int) * (1 + C) = (((i : Int) * (1 + C)).toNat : Int) := by
      have : 0 ≤ (i : Int) * (1 + C) := Int.mul_nonneg (by omega) (by omega)
      omega
    rw [e]
    obtain ⟨ρ', b1, b2⟩ := hb ((i : Int) * (1 + C)).toNat r2 hr2
    exact ⟨_, _, by simp, b1, ρ', rfl, b2⟩)
  rw [e1]
  simp only [seqF_nx]
  exact hr ρ2 l2
end VM

set_option Elab.async false
set_option linter.all false
set_option maxRecDepth 100000
set_option maxHeartbeats 4000000
/-! K1: the evaluator once more, by a depth: quick where it is run. -/
namespace VM
open PySem
def Le {α : Type} (x y : R α) : Prop := ∀ v, x = .ok v → y = .ok v
theorem Le.refl {α : Type} {x : R α} : Le x x := fun _ h => h
theorem Le.stk {α : Type} {y : R α} : Le (VM.stk : R α) y := fun _ h => nomatch h
theorem Le.bind {α β : Type} {x y : R α} {f g : α → R β} (h : Le x y) (k : ∀ a, Le (f a) (g a)) : Le (x >>= f) (y >>= g) := fun v e => by
  cases x with
  | error er => exact nomatch (show (Except.error er : R β) = .ok v from e)
  | ok a =>
    have : y = .ok a := h a rfl
    subst this
    exact k a v e
theorem Le.ite {α : Type} {c : Prop} [Decidable c] {x y x' y' : R α} (h1 : Le x x') (h2 : Le y y') : Le (if c then x else y) (if c then x' else y') := by
  split
  · exact h1
  · exact h2
structure TLe (T T' : Tab) : Prop where
  G : T.G = T'.G
  C : ∀ f vs, Le (T.C f vs) (T'.C f vs)
  H : ∀ f vs h, Le (T.H f vs h) (T'.H f vs h)

def tupK (vs : List Val) : R Val := if vs.length ≤ lineN then .ok (.tup vs) else stk
def lstK (vs : List Val) : R Val := if vs.length ≤ lineN then .ok (.lst vs) else stk
def evsK (f : SE → VE → R Val) : Nat → SEs → VE → R (List Val)
  | 0, _, _ => stk
  | k + 1, es, ρ => match es with
    | .nil => .ok []
    | .cons e r => f e ρ >>= fun v => evsK f k r ρ >>= fun vs => .ok (v :: vs)
def evBK (f : SE → VE → R Val) (an : Bool) : Nat → SEs → VE → R Val
  | 0, _, _ => stk
  | k + 1, es, ρ => match es with
    | .nil => stk
    | .cons e r => match r with
      | .nil => f e ρ
      | .cons e2 r2 => f e ρ >>= fun x => tru x >>= fun b => if b = an then evBK f an k (.cons e2 r2) ρ else .ok (.bl (!an))
def evOK (f : SE → VE → R Val) (s : SO) (ρ : VE) : R (Option Int) := match s with
  | .none => .ok none
  | .some e => f e ρ >>= fun x => asInt x >>= fun i => .ok (some i)
def evCK (f : SE → VE → R Val) (s : SO) (ρ : VE) : R Bool := match s with
  | .none => .ok true
  | .some e => f e ρ >>= tru
def rng1K (j : Int) : R (List Val) := if smallR 0 j then .ok (rngC 0 1 j.toNat) else stk
def rng2K (i j : Int) : R (List Val) := if smallR i j then .ok (rngC i 1 (j - i).toNat) else stk
def rng3K (i j k : Int) : R (List Val) := if smallR i j && decide (0 < k ∧ k < 1073741824) then .ok (rngC i k (rngN i j k)) else stk
def evIK (f : SE → VE → R Val) (s : SI) (ρ : VE) : R (List Val) := match s with
  | .seq e => f e ρ >>= seqV
  | .rng1 a => f a ρ >>= fun x => asInt x >>= rng1K
  | .rng2 a b => f a ρ >>= fun x => f b ρ >>= fun y => asInt x >>= fun i => asInt y >>= rng2K i
  | .rng3 a b c => f a ρ >>= fun x => f b ρ >>= fun y => f c ρ >>= fun z => asInt x >>= fun i => asInt y >>= fun j => asInt z >>= rng3K i j
  | .enum e => f e ρ >>= enmV
  | .zip a b => f a ρ >>= fun x => f b ρ >>= fun y => zpV x y
  | .keys e => f e ρ >>= keysV
def compK (f : SE → VE → R Val) (own : List Nat) (tg : Tg) (c : SO) (el : SE) (ρ : VE) (items : List Val) : R Val :=
  if items.length ≤ lineN then compGo (bindE tg) (evCK f c) (f el) (wipeE ρ own) items >>= fun ys => .ok (.lst ys) else stk
def chainK (f : SE → VE → R Val) (o' : Op2) (c : SE) (ρ : VE) (y : Val) (k : Bool) : R Val := if k = true then f c ρ >>= fun z => op2 o' y z else .ok (.bl false)
def iteK (f : SE → VE → R Val) (a b : SE) (ρ : VE) (k : Bool) : R Val := if k = true then f a ρ else f b ρ
def evK (T : Tab) : Nat → SE → VE → R Val
  | 0, _, _ => stk
  | k + 1, e, ρ => match e with
    | .var i => getE ρ i
    | .cint n => .ok (.int n)
    | .cbl b => .ok (.bl b)
    | .cnon => .ok .non
    | .cstr s => .ok (.str (Str.ofString s))
    | .glob g => ofO (T.G g)
    | .op o a b => evK T k a ρ >>= fun x => evK T k b ρ >>= fun y => op2 o x y
    | .neg a => evK T k a ρ >>= fun x => asInt x >>= fun i => .ok (.int (-i))
    | .not1 a => evK T k a ρ >>= fun x => tru x >>= fun b => .ok (.bl (!b))
    | .bop an es => evBK (evK T k) an k es ρ
    | .chain o o' a b c => evK T k a ρ >>= fun x => evK T k b ρ >>= fun y => op2 o x y >>= fun r => tru r >>= chainK (evK T k) o' c ρ y
    | .ite c a b => evK T k c ρ >>= fun x => tru x >>= iteK (evK T k) a b ρ
    | .tup es => evsK (evK T k) k es ρ >>= tupK
    | .lst es => evsK (evK T k) k es ρ >>= lstK
    | .ix a b => evK T k a ρ >>= fun x => evK T k b ρ >>= fun y => ixV x y
    | .sl a lo hi => evK T k a ρ >>= fun x => evOK (evK T k) lo ρ >>= fun l => evOK (evK T k) hi ρ >>= fun h => slV x l h
    | .rev a => evK T k a ρ >>= revV
    | .call f es => evsK (evK T k) k es ρ >>= T.C f
    | .bi b es => evsK (evK T k) k es ρ >>= bi1 b
    | .isi a t => evK T k a ρ >>= fun x => isiV x t >>= fun r => .ok (.bl r)
    | .comp own tg it c el => evIK (evK T k) it ρ >>= compK (evK T k) own tg c el ρ
    | .lrng es => evsK (evK T k) k es ρ >>= lrngV
    | .dget d x => evK T k d ρ >>= fun u => evK T k x ρ >>= fun v => ixV u v
    | .dgetd d x y => evK T k d ρ >>= fun u => evK T k x ρ >>= fun v => evK T k y ρ >>= fun w => dgetdV u v w
    | .cnt a b => evK T k a ρ >>= fun x => evK T k b ρ >>= fun y => cntV x y
    | .mxd a b => evK T k a ρ >>= fun x => evK T k b ρ >>= fun y => bi1 .maxd [x, y]
theorem compGo_le {bind : VE → Val → R VE} {c c' : VE → R Bool} {e e' : VE → R Val} (hc : ∀ ρ, Le (c ρ) (c' ρ)) (he : ∀ ρ, Le (e ρ) (e' ρ)) (ρ : VE) : ∀ l, Le (compGo bind c e ρ l) (compGo bind c' e' ρ l)
  | [] => Le.refl
  | v :: r => by
    have ih := compGo_le (bind := bind) hc he ρ r
    show Le (bind ρ v >>= fun ρ1 => c ρ1 >>= fun b => if b = true then e ρ1 >>= fun y => compGo bind c e ρ r >>= fun ys => .ok (y :: ys) else compGo bind c e ρ r)
      (bind ρ v >>= fun ρ1 => c' ρ1 >>= fun b => if b = true then e' ρ1 >>= fun y => compGo bind c' e' ρ r >>= fun ys => .ok (y :: ys) else compGo bind c' e' ρ r)
    exact Le.bind Le.refl fun ρ1 => Le.bind (hc ρ1) fun b => Le.ite (Le.bind (he ρ1) fun y => Le.bind ih fun _ => Le.refl) ih
section
variable {T T' : Tab} {f : SE → VE → R Val}
theorem evsK_le (hf : ∀ e ρ, Le (f e ρ) (ev T' e ρ)) : ∀ (k : Nat) (es : SEs) (ρ : VE), Le (evsK f k es ρ) (evs T' es ρ)
  | 0, _, _ => Le.stk
  | k + 1, .nil, ρ => by simp only [evsK, evs]; exact Le.refl
  | k + 1, .cons e r, ρ => by simp only [evsK, evs]; exact Le.bind (hf e ρ) fun v => Le.bind (evsK_le hf k r ρ) fun _ => Le.refl
theorem evBK_le (hf : ∀ e ρ, Le (f e ρ) (ev T' e ρ)) (an : Bool) : ∀ (k : Nat) (es : SEs) (ρ : VE), Le (evBK f an k es ρ) (evB T' an es ρ)
  | 0, _, _ => Le.stk
  | k + 1, .nil, ρ => Le.stk
  | k + 1, .cons e .nil, ρ => by simp only [evBK, evB]; exact hf e ρ
  | k + 1, .cons e (.cons e2 r2), ρ => by
    simp only [evBK, evB]
    exact Le.bind (hf e ρ) fun x => Le.bind Le.refl fun b => Le.ite (evBK_le hf an k (.cons e2 r2) ρ) Le.refl
theorem evOK_le (hf : ∀ e ρ, Le (f e ρ) (ev T' e ρ)) (s : SO) (ρ : VE) : Le (evOK f s ρ) (evO T' s ρ) := by
  cases s <;> simp only [evOK, evO]
  · exact Le.refl
  · exact Le.bind (hf _ ρ) fun _ => Le.refl
theorem evCK_le (hf : ∀ e ρ, Le (f e ρ) (ev T' e ρ)) (s : SO) (ρ : VE) : Le (evCK f s ρ) (evC T' s ρ) := by
  cases s <;> simp only [evCK, evC]
  · exact Le.refl
  · exact Le.bind (hf _ ρ) fun _ => Le.refl
theorem evIK_le (hf : ∀ e ρ, Le (f e ρ) (ev T' e ρ)) (s : SI) (ρ : VE) : Le (evIK f s ρ) (evI T' s ρ) := by
  cases s <;> simp only [evIK, evI]
  · exact Le.bind (hf _ ρ) fun _ => Le.refl
  · exact Le.bind (hf _ ρ) fun _ => Le.refl
  · exact Le.bind (hf _ ρ) fun _ => Le.bind (hf _ ρ) fun _ => Le.refl
  · exact Le.bind (hf _ ρ) fun _ => Le.bind (hf _ ρ) fun _ => Le.bind (hf _ ρ) fun _ => Le.refl
  · exact Le.bind (hf _ ρ) fun _ => Le.refl
  · exact Le.bind (hf _ ρ) fun _ => Le.bind (hf _ ρ) fun _ => Le.refl
  · exact Le.bind (hf _ ρ) fun _ => Le.refl
theorem evK_le (t : TLe T T') : ∀ (k : Nat) (e : SE) (ρ : VE), Le (evK T k e ρ) (ev T' e ρ)
  | 0, _, _ => Le.stk
  | k + 1, e, ρ => by
    have ih := evK_le t k
    cases e <;> simp only [evK, ev]
    case var => exact Le.refl
    case cint => exact Le.refl
    case cbl => exact Le.refl
    case cnon => exact Le.refl
    case cstr => exact Le.refl
    case glob => rw [t.G]; exact Le.refl
    case op => exact Le.bind (ih _ ρ) fun _ => Le.bind (ih _ ρ) fun _ => Le.refl
    case neg => exact Le.bind (ih _ ρ) fun _ => Le.refl
    case not1 => exact Le.bind (ih _ ρ) fun _ => Le.refl
    case bop => exact evBK_le ih _ _ _ ρ
    case chain => exact Le.bind (ih _ ρ) fun _ => Le.bind (ih _ ρ) fun _ => Le.bind Le.refl fun _ => Le.bind Le.refl fun b => Le.ite (Le.bind (ih _ ρ) fun _ => Le.refl) Le.refl
    case ite => exact Le.bind (ih _ ρ) fun _ => Le.bind Le.refl fun b => Le.ite (ih _ ρ) (ih _ ρ)
    case tup => exact Le.bind (evsK_le ih _ _ ρ) fun _ => Le.refl
    case lst => exact Le.bind (evsK_le ih _ _ ρ) fun _ => Le.refl
    case ix => exact Le.bind (ih _ ρ) fun _ => Le.bind (ih _ ρ) fun _ => Le.refl
    case sl => exact Le.bind (ih _ ρ) fun _ => Le.bind (evOK_le ih _ ρ) fun _ => Le.bind (evOK_le ih _ ρ) fun _ => Le.refl
    case rev => exact Le.bind (ih _ ρ) fun _ => Le.refl
    case call f es => exact Le.bind (evsK_le ih _ _ ρ) fun vs => t.C f vs
    case bi => exact Le.bind (evsK_le ih _ _ ρ) fun _ => Le.refl
    case isi => exact Le.bind (ih _ ρ) fun _ => Le.refl
    case comp => exact Le.bind (evIK_le ih _ ρ) fun _ => Le.ite (Le.bind (compGo_le (fun ρ => evCK_le ih _ ρ) (fun ρ => ih _ ρ) _ _) fun _ => Le.refl) Le.stk
    case lrng => exact Le.bind (evsK_le ih _ _ ρ) fun _ => Le.refl
    case dget => exact Le.bind (ih _ ρ) fun _ => Le.bind (ih _ ρ) fun _ => Le.refl
    case dgetd => exact Le.bind (ih _ ρ) fun _ => Le.bind (ih _ ρ) fun _ => Le.bind (ih _ ρ) fun _ => Le.refl
    case cnt => exact Le.bind (ih _ ρ) fun _ => Le.bind (ih _ ρ) fun _ => Le.refl
    case mxd => exact Le.bind (ih _ ρ) fun _ => Le.bind (ih _ ρ) fun _ => Le.refl
end
end VM

set_option Elab.async false
set_option linter.all false
set_option maxRecDepth 100000
set_option maxHeartbeats 4000000
/-! K2: statements, the heap machine, programs: quick where they are run. -/
namespace VM
open PySem
def ownK (m : List Nat) (i : Nat) (ρ : SEnv) (v : Val) : R (Fl × SEnv) := match v with
  | .lst vs => if i < ρ.length then .ok (.nx, (kept m (flats vs) ρ).set i (.ow vs)) else stk
  | _ => stk
def parOK (m : List Nat) (i j : Nat) (ρ : SEnv) (v w : Val) : R (Fl × SEnv) := match v with
  | .lst vs => if i < ρ.length then .ok (.nx, ((kept m (flats vs && flat w) ρ).set i (.ow vs)).set j (.sh w)) else stk
  | _ => stk
def appK (m : List Nat) (i : Nat) (ρ : SEnv) (v : Val) : R (Fl × SEnv) := if m.contains i && !flat v then stk else
  match (kept m (flat v) ρ)[i]? with
  | some (.ow vs) => if vs.length < lineN then .ok (.nx, (kept m (flat v) ρ).set i (.ow (vs ++ [v]))) else stk
  | _ => stk
def extK (m : List Nat) (i : Nat) (ρ : SEnv) (v : Val) : R (Fl × SEnv) := match v with
  | .lst ws => if m.contains i && !flats ws then stk else
    match (kept m (flats ws) ρ)[i]? with
    | some (.ow vs) => if vs.length + ws.length ≤ lineN then .ok (.nx, (kept m (flats ws) ρ).set i (.ow (vs ++ ws))) else stk
    | _ => stk
  | _ => stk
def retvK (i : Nat) (ρ : SEnv) : R (Fl × SEnv) := match ρ[i]? with
  | some (.ow vs) => .ok (.rt (.lst vs), ρ)
  | _ => stk
def seqK (q : Fl × SEnv) (k : SEnv → R (Fl × SEnv)) : R (Fl × SEnv) := match q with
  | (.nx, ρ1) => k ρ1
  | (.rt v, ρ1) => .ok (.rt v, ρ1)
def exsK (f : SS → SEnv → R (Fl × SEnv)) : Nat → SB → SEnv → R (Fl × SEnv)
  | 0, _, _ => stk
  | k + 1, b, ρ => match b with
    | .nil => .ok (.nx, ρ)
    | .cons s r => f s ρ >>= fun q => seqK q (exsK f k r)
def exK (T : Tab) (d : Nat) : Nat → SS → SEnv → R (Fl × SEnv)
  | 0, _, _ => stk
  | k + 1, s, ρ => match s with
    | .asg m tg e => evK T d e (vis m ρ) >>= fun v => bindS tg (kept m (flat v) ρ) v >>= fun ρ1 => .ok (.nx, ρ1)
    | .par m i j a b => evK T d a (vis m ρ) >>= fun v => evK T d b (vis m ρ) >>= fun w => .ok (.nx, ((kept m (flat v && flat w) ρ).set i (.sh v)).set j (.sh w))
    | .parO m i j a b => evK T d a (vis m ρ) >>= fun v => evK T d b (vis m ρ) >>= parOK m i j ρ v
    | .own m i e => evK T d e (vis m ρ) >>= ownK m i ρ
    | .ownd i t => stk
    | .app m i e => evK T d e (vis m ρ) >>= appK m i ρ
    | .ext m i e => evK T d e (vis m ρ) >>= extK m i ρ
    | .seti _ _ _ _ => stk
    | .dput _ _ _ _ => stk
    | .iff m c a b => evK T d c (vis m ρ) >>= fun v => tru v >>= fun b' => if b' = true then exsK (exK T d k) d a ρ else exsK (exK T d k) d b ρ
    | .loop m tg it b => evIK (evK T d) it (vis m ρ) >>= fun items => forGo (bindS tg) (exsK (exK T d k) d b) items (kept m false ρ)
    | .whl m μ c b => evK T d μ (vis m ρ) >>= fun v => asInt v >>= fun z => whGo (fun ρ => evK T d c (vis m ρ) >>= tru) (exsK (exK T d k) d b) (z.toNat + 1) ρ
    | .ret m e => evK T d e (vis m ρ) >>= fun v => .ok (.rt v, ρ)
    | .retv i => retvK i ρ
    | .expr m e => evK T d e (vis m ρ) >>= fun v => .ok (.nx, ρ)
    | .raise c => .error (.exc c)
theorem forGo_le {bind : SEnv → Val → R SEnv} {b b' : SEnv → R (Fl × SEnv)} (hb : ∀ ρ, Le (b ρ) (b' ρ)) : ∀ l ρ, Le (forGo bind b l ρ) (forGo bind b' l ρ)
  | [], ρ => Le.refl
  | v :: r, ρ => by
    show Le (bind ρ v >>= fun ρ1 => b ρ1 >>= fun q => match q with | (.nx, ρ2) => forGo bind b r ρ2 | (.rt v, ρ2) => .ok (.rt v, ρ2)) (bind ρ v >>= fun ρ1 => b' ρ1 >>= fun q => match q with | (.nx, ρ2) => forGo bind b' r ρ2 | (.rt v, ρ2) => .ok (.rt v, ρ2))
    refine Le.bind Le.refl fun ρ1 => Le.bind (hb ρ1) fun q => ?_
    obtain ⟨fl, ρ2⟩ := q
    cases fl with
    | nx => exact forGo_le hb r ρ2
    | rt v => exact Le.refl
theorem whGo_le {c c' : SEnv → R Bool} {b b' : SEnv → R (Fl × SEnv)} (hc : ∀ ρ, Le (c ρ) (c' ρ)) (hb : ∀ ρ, Le (b ρ) (b' ρ)) : ∀ n ρ, Le (whGo c b n ρ) (whGo c' b' n ρ)
  | 0, ρ => Le.stk
  | n + 1, ρ => by
    show Le (c ρ >>= fun k => if k = true then b ρ >>= fun q => match q with | (.nx, ρ2) => whGo c b n ρ2 | (.rt v, ρ2) => .ok (.rt v, ρ2) else .ok (.nx, ρ)) (c' ρ >>= fun k => if k = true then b' ρ >>= fun q => match q with | (.nx, ρ2) => whGo c' b' n ρ2 | (.rt v, ρ2) => .ok (.rt v, ρ2) else .ok (.nx, ρ))
    refine Le.bind (hc ρ) fun k => Le.ite (Le.bind (hb ρ) fun q => ?_) Le.refl
    obtain ⟨fl, ρ2⟩ := q
    cases fl with
    | nx => exact whGo_le hc hb n ρ2
    | rt v => exact Le.refl
section
variable {T T' : Tab}
theorem exsK_le {f : SS → SEnv → R (Fl × SEnv)} (hf : ∀ s ρ, Le (f s ρ) (ex T' s ρ)) : ∀ (k : Nat) (b : SB) (ρ : SEnv), Le (exsK f k b ρ) (exs T' b ρ)
  | 0, _, _ => Le.stk
  | k + 1, .nil, ρ => by simp only [exsK, exs]; exact Le.refl
  | k + 1, .cons s r, ρ => by
    simp only [exsK, exs]
    refine Le.bind (hf s ρ) fun q => ?_
    obtain ⟨fl, ρ1⟩ := q
    cases fl with
    | nx => exact exsK_le hf k r ρ1
    | rt v => exact Le.refl
theorem exK_le (t : TLe T T') (d : Nat) : ∀ (k : Nat) (s : SS) (ρ : SEnv), Le (exK T d k s ρ) (ex T' s ρ)
  | 0, _, _ => Le.stk
  | k + 1, s, ρ => by
    have ih := exK_le t d k
    have he := evK_le t d
    cases s <;> simp only [exK, ex]
    case asg => exact Le.bind (he _ _) fun _ => Le.refl
    case par => exact Le.bind (he _ _) fun _ => Le.bind (he _ _) fun _ => Le.refl
    case parO => exact Le.bind (he _ _) fun v => Le.bind (he _ _) fun w => by cases v <;> exact Le.refl
    case own => exact Le.bind (he _ _) fun v => by cases v <;> exact Le.refl
    case ownd => exact Le.stk
    case app => exact Le.bind (he _ _) fun v => Le.refl
    case ext => exact Le.bind (he _ _) fun v => by cases v <;> exact Le.refl
    case seti => exact Le.stk
    case dput => exact Le.stk
    case iff => exact Le.bind (he _ _) fun v => Le.bind Le.refl fun b => Le.ite (exsK_le ih _ _ _) (exsK_le ih _ _ _)
    case loop => exact Le.bind (evIK_le he _ _) fun items => forGo_le (fun ρ => exsK_le ih _ _ _) _ _
    case whl => exact Le.bind (he _ _) fun v => Le.bind Le.refl fun z => whGo_le (fun ρ => Le.bind (he _ _) fun _ => Le.refl) (fun ρ => exsK_le ih _ _ _) _ _
    case ret => exact Le.bind (he _ _) fun v => Le.refl
    case retv => exact Le.refl
    case expr => exact Le.bind (he _ _) fun v => Le.refl
    case raise => exact Le.refl
end
def finK (q : Fl × SEnv) : R Val := match q.1 with
  | .nx => .ok .non
  | .rt v => .ok v
def runK (T : Tab) (dp : Nat) (d : SD) (args : List Val) : R Val :=
  if args.length = d.np then exsK (exK T dp dp) dp d.body (args.map Slot.sh ++ List.replicate (d.ns - d.np) Slot.no) >>= finK else stk
theorem runK_le {T T' : Tab} (t : TLe T T') (dp : Nat) (d : SD) (args : List Val) : Le (runK T dp d args) (runD T' d args) :=
  Le.ite (Le.bind (exsK_le (exK_le t dp dp) _ _ _) fun q => Le.refl) Le.stk
/-! ### the heap machine -/
def puK (h : HHp) (ρ : HEnv) (m : List Nat) (v : Val) : R (HV × HHp) := if (flat v || onlyP m ρ) = true then .ok (.p v, h) else stk
def puFK (h : HHp) (ρ : HEnv) (m : List Nat) (v : Val) : R (HV × HHp) := match v with
  | .lst vs => if (flats vs || onlyP m ρ) = true then .ok (.r h.length, h ++ [.lst (vs.map HV.p)]) else stk
  | _ => stk
def varK (ρ : HEnv) (i : Nat) (h : HHp) : R (HV × HHp) := match ρ[i]? with
  | some (some v) => .ok (v, h)
  | _ => stk
def newLK (q : List HV × HHp) : R (HV × HHp) := if q.1.length ≤ lineN then .ok (.r q.2.length, q.2 ++ [.lst q.1]) else stk
def newTK (q : List HV × HHp) : R (HV × HHp) := if q.1.length ≤ lineN then .ok (.t q.1, q.2) else stk
def catK (h : HHp) (xs ys : List HV) : R (HV × HHp) := if xs.length + ys.length ≤ lineN then .ok (.r h.length, h ++ [.lst (xs ++ ys)]) else stk
def evHsK (f : HE → HEnv → HHp → R (HV × HHp)) : Nat → HEs → HEnv → HHp → R (List HV × HHp)
  | 0, _, _, _ => stk
  | k + 1, es, ρ, h => match es with
    | .nil => .ok ([], h)
    | .cons e r => f e ρ h >>= fun q => evHsK f k r ρ q.2 >>= fun z => .ok (q.1 :: z.1, z.2)
def evHIK (T : Tab) (d : Nat) (f : HE → HEnv → HHp → R (HV × HHp)) (s : HI) (ρ : HEnv) (h : HHp) : R (HIt × HHp) := match s with
  | .seq e => f e ρ h >>= fun q => itS q.2 q.1 >>= fun J => .ok (J, q.2)
  | .pu m it => evIK (evK T d) it (seeH m h ρ) >>= fun vs => if onlyP m ρ = true then .ok (.fx (vs.map HV.p), h) else stk
  | .rng m it => evIK (evK T d) it (seeH m h ρ) >>= fun vs => .ok (.fx (vs.map HV.p), h)
  | .enum e => f e ρ h >>= fun q => itL q.2 q.1 >>= fun J => .ok (.en J, q.2)
  | .zip a b => f a ρ h >>= fun q => f b ρ q.2 >>= fun z => itL z.2 q.1 >>= fun J => itL z.2 z.1 >>= fun J' => .ok (.zp J J', z.2)
def compHK (T : Tab) (d : Nat) (f : HE → HEnv → HHp → R (HV × HHp)) (own : List Nat) (tg : Tg) (m : List Nat) (c : SO) (el : HE) (ρ : HEnv) (q : HIt × HHp) : R (HV × HHp) :=
  if q.1.many q.2 ≤ lineN then compH (fun h ρ v => bindH h tg ρ v) (fun ρ h => evCK (evK T d) c (seeH m h ρ)) (fun ρ h => f el ρ h) q.1 (wipeH ρ own) (q.1.many q.2 + 1) 0 q.2 >>= fun z => .ok (.r z.2.length, z.2 ++ [.lst z.1]) else stk
def evHK (T : Tab) (d : Nat) : Nat → HE → HEnv → HHp → R (HV × HHp)
  | 0, _, _, _ => stk
  | k + 1, e, ρ, h => match e with
    | .pu m e => evK T d e (seeH m h ρ) >>= puK h ρ m
    | .puF m e => evK T d e (seeH m h ρ) >>= puFK h ρ m
    | .var i => varK ρ i h
    | .ix a m x => evHK T d k a ρ h >>= fun q => evK T d x (seeH m q.2 ρ) >>= fun kv => if flat kv = true then ixH q.2 q.1 kv >>= fun v => .ok (v, q.2) else stk
    | .lst es => evHsK (evHK T d k) k es ρ h >>= newLK
    | .tup es => evHsK (evHK T d k) k es ρ h >>= newTK
    | .lof a => evHK T d k a ρ h >>= fun q => itemsH q.2 q.1 >>= fun xs => .ok (.r q.2.length, q.2 ++ [.lst xs])
    | .cat a b => evHK T d k a ρ h >>= fun q => evHK T d k b ρ q.2 >>= fun z => lstH z.2 q.1 >>= fun xs => lstH z.2 z.1 >>= fun ys => catK z.2 xs ys
    | .sl a m lo hi => evHK T d k a ρ h >>= fun q => evOK (evK T d) lo (seeH m q.2 ρ) >>= fun l => evOK (evK T d) hi (seeH m q.2 ρ) >>= fun u => lstH q.2 q.1 >>= fun xs =>
      .ok (.r q.2.length, q.2 ++ [.lst ((xs.drop (HT.sIx xs.length 0 l)).take (HT.sIx xs.length xs.length u - HT.sIx xs.length 0 l))])
    | .comp own tg it m c el => evHIK T d (evHK T d k) it ρ h >>= compHK T d (evHK T d k) own tg m c el ρ
    | .call f es => evHsK (evHK T d k) k es ρ h >>= fun q => T.H f q.1 q.2
theorem compH_le {bind : HHp → HEnv → HV → R HEnv} {c c' : HEnv → HHp → R Bool} {e e' : HEnv → HHp → R (HV × HHp)} (hc : ∀ ρ h, Le (c ρ h) (c' ρ h)) (he : ∀ ρ h, Le (e ρ h) (e' ρ h)) (J : HIt) (ρ : HEnv) : ∀ k i h, Le (compH bind c e J ρ k i h) (compH bind c' e' J ρ k i h)
  | 0, i, h => Le.stk
  | k + 1, i, h => by
    simp only [compH]
    refine Le.bind Le.refl fun o => ?_
    cases o with
    | none => exact Le.refl
    | some v => exact Le.bind Le.refl fun ρ1 => Le.bind (hc ρ1 h) fun b => Le.ite (Le.bind (he ρ1 h) fun q => Le.bind (compH_le hc he J ρ k (i + 1) _) fun _ => Le.refl) (compH_le hc he J ρ k (i + 1) h)
section
variable {T T' : Tab} (t : TLe T T') (d : Nat) {f : HE → HEnv → HHp → R (HV × HHp)} (hf : ∀ e ρ h, Le (f e ρ h) (evH T' e ρ h))
include hf
theorem evHsK_le : ∀ (k : Nat) (es : HEs) (ρ : HEnv) (h : HHp), Le (evHsK f k es ρ h) (evHs T' es ρ h)
  | 0, _, _, _ => Le.stk
  | k + 1, .nil, ρ, h => by simp only [evHsK, evHs]; exact Le.refl
  | k + 1, .cons e r, ρ, h => by simp only [evHsK, evHs]; exact Le.bind (hf e ρ h) fun q => Le.bind (evHsK_le k r ρ q.2) fun _ => Le.refl
include t
theorem evHIK_le (s : HI) (ρ : HEnv) (h : HHp) : Le (evHIK T d f s ρ h) (evHI T' s ρ h) := by
  have he := evK_le t d
  cases s <;> simp only [evHIK, evHI]
  · exact Le.bind (hf _ ρ h) fun _ => Le.refl
  · exact Le.bind (evIK_le he _ _) fun _ => Le.refl
  · exact Le.bind (evIK_le he _ _) fun _ => Le.refl
  · exact Le.bind (hf _ ρ h) fun _ => Le.refl
  · exact Le.bind (hf _ ρ h) fun _ => Le.bind (hf _ ρ _) fun _ => Le.refl
end
section
variable {T T' : Tab}
theorem evHK_le (t : TLe T T') (d : Nat) : ∀ (k : Nat) (e : HE) (ρ : HEnv) (h : HHp), Le (evHK T d k e ρ h) (evH T' e ρ h)
  | 0, _, _, _ => Le.stk
  | k + 1, e, ρ, h => by
    have ih := evHK_le t d k
    have he := evK_le t d
    cases e <;> simp only [evHK, evH]
    case pu => exact Le.bind (he _ _) fun _ => Le.refl
    case puF => exact Le.bind (he _ _) fun v => by cases v <;> exact Le.refl
    case var => exact Le.refl
    case ix => exact Le.bind (ih _ ρ h) fun q => Le.bind (he _ _) fun _ => Le.refl
    case lst => exact Le.bind (evHsK_le ih _ _ ρ h) fun _ => Le.refl
    case tup => exact Le.bind (evHsK_le ih _ _ ρ h) fun _ => Le.refl
    case lof => exact Le.bind (ih _ ρ h) fun _ => Le.refl
    case cat => exact Le.bind (ih _ ρ h) fun _ => Le.bind (ih _ ρ _) fun _ => Le.refl
    case sl => exact Le.bind (ih _ ρ h) fun _ => Le.bind (evOK_le he _ _) fun _ => Le.bind (evOK_le he _ _) fun _ => Le.refl
    case comp => exact Le.bind (evHIK_le t d ih _ ρ h) fun q => Le.ite (Le.bind (compH_le (fun ρ h => evCK_le he _ _) (fun ρ h => ih _ ρ h) _ _ _ _ _) fun _ => Le.refl) Le.stk
    case call => exact Le.bind (evHsK_le ih _ _ ρ h) fun q => t.H _ _ _
end
def appHK (ρ : HEnv) (n : HV) (v : HV) (h : HHp) : R (HFl × HEnv × HHp) := match n with
  | .r n => match h[n]? with
    | some (.lst ys) => if ys.length < lineN then .ok (.nx, ρ, h.set n (.lst (ys ++ [v]))) else stk
    | _ => stk
  | _ => stk
def extHK (ρ : HEnv) (n : HV) (zs : List HV) (h : HHp) : R (HFl × HEnv × HHp) := match n with
  | .r n => match h[n]? with
    | some (.lst ys) => if ys.length + zs.length ≤ lineN then .ok (.nx, ρ, h.set n (.lst (ys ++ zs))) else stk
    | _ => stk
  | _ => stk
def setHK (ρ : HEnv) (n : HV) (kv : Val) (v : HV) (h : HHp) : R (HFl × HEnv × HHp) := match n with
  | .r n => match h[n]? with
    | some (.lst ys) => match kv with
      | .int i => match L2.ixN ys.length i with
        | some j => .ok (.nx, ρ, h.set n (.lst (ys.set j v)))
        | none => stk
      | _ => stk
    | _ => stk
  | _ => stk
def seqHK (q : HFl × HEnv × HHp) (k : HEnv → HHp → R (HFl × HEnv × HHp)) : R (HFl × HEnv × HHp) := match q with
  | (.nx, ρ1, h1) => k ρ1 h1
  | (.rt v, ρ1, h1) => .ok (.rt v, ρ1, h1)
def exHsK (f : HS → HEnv → HHp → R (HFl × HEnv × HHp)) : Nat → HB → HEnv → HHp → R (HFl × HEnv × HHp)
  | 0, _, _, _ => stk
  | k + 1, b, ρ, h => match b with
    | .nil => .ok (.nx, ρ, h)
    | .cons s r => f s ρ h >>= fun q => seqHK q (exHsK f k r)
def exHK (T : Tab) (d : Nat) : Nat → HS → HEnv → HHp → R (HFl × HEnv × HHp)
  | 0, _, _, _ => stk
  | k + 1, s, ρ, h => match s with
    | .asg tg e => evHK T d d e ρ h >>= fun q => bindH q.2 tg ρ q.1 >>= fun ρ1 => .ok (.nx, ρ1, q.2)
    | .par i j a b => evHK T d d a ρ h >>= fun q => evHK T d d b ρ q.2 >>= fun z => .ok (.nx, (ρ.set i (some q.1)).set j (some z.1), z.2)
    | .app a e => evHK T d d a ρ h >>= fun q => lstH q.2 q.1 >>= fun _ => evHK T d d e ρ q.2 >>= fun z => appHK ρ q.1 z.1 z.2
    | .ext a e => evHK T d d a ρ h >>= fun q => lstH q.2 q.1 >>= fun _ => evHK T d d e ρ q.2 >>= fun z => lstH z.2 z.1 >>= fun zs => extHK ρ q.1 zs z.2
    | .set a m x e => evHK T d d e ρ h >>= fun z => evHK T d d a ρ z.2 >>= fun q => evK T d x (seeH m q.2 ρ) >>= fun kv => setHK ρ q.1 kv z.1 q.2
    | .iff m c a b => evK T d c (seeH m h ρ) >>= fun v => tru v >>= fun b' => if b' = true then exHsK (exHK T d k) d a ρ h else exHsK (exHK T d k) d b ρ h
    | .loop tg it b => evHIK T d (evHK T d d) it ρ h >>= fun q => forH (fun h ρ v => bindH h tg ρ v) (fun ρ h => exHsK (exHK T d k) d b ρ h) q.1 (q.1.many q.2 + 1) 0 ρ q.2
    | .whl m μ c b => evK T d μ (seeH m h ρ) >>= fun v => asInt v >>= fun z => whH (fun ρ h => evK T d c (seeH m h ρ) >>= tru) (fun ρ h => exHsK (exHK T d k) d b ρ h) (z.toNat + 1) ρ h
    | .ret e => evHK T d d e ρ h >>= fun q => .ok (.rt q.1, ρ, q.2)
    | .expr e => evHK T d d e ρ h >>= fun q => .ok (.nx, ρ, q.2)
    | .raise c => .error (.exc c)
theorem forH_le {bind : HHp → HEnv → HV → R HEnv} {b b' : HEnv → HHp → R (HFl × HEnv × HHp)} (hb : ∀ ρ h, Le (b ρ h) (b' ρ h)) (J : HIt) : ∀ k i ρ h, Le (forH bind b J k i ρ h) (forH bind b' J k i ρ h)
  | 0, i, ρ, h => Le.stk
  | k + 1, i, ρ, h => by
    simp only [forH]
    refine Le.bind Le.refl fun o => ?_
    cases o with
    | none => exact Le.refl
    | some v =>
      refine Le.bind Le.refl fun ρ1 => Le.bind (hb ρ1 h) fun q => ?_
      obtain ⟨fl, ρ2, h2⟩ := q
      cases fl with
      | nx => exact forH_le hb J k (i + 1) ρ2 h2
      | rt v => exact Le.refl
theorem whH_le {c c' : HEnv → HHp → R Bool} {b b' : HEnv → HHp → R (HFl × HEnv × HHp)} (hc : ∀ ρ h, Le (c ρ h) (c' ρ h)) (hb : ∀ ρ h, Le (b ρ h) (b' ρ h)) : ∀ n ρ h, Le (whH c b n ρ h) (whH c' b' n ρ h)
  | 0, ρ, h => Le.stk
  | n + 1, ρ, h => by
    simp only [whH]
    refine Le.bind (hc ρ h) fun k => Le.ite (Le.bind (hb ρ h) fun q => ?_) Le.refl
    obtain ⟨fl, ρ2, h2⟩ := q
    cases fl with
    | nx => exact whH_le hc hb n ρ2 h2
    | rt v => exact Le.refl
section
variable {T T' : Tab}
theorem exHsK_le {f : HS → HEnv → HHp → R (HFl × HEnv × HHp)} (hf : ∀ s ρ h, Le (f s ρ h) (exH T' s ρ h)) : ∀ (k : Nat) (b : HB) (ρ : HEnv) (h : HHp), Le (exHsK f k b ρ h) (exHs T' b ρ h)
  | 0, _, _, _ => Le.stk
  | k + 1, .nil, ρ, h => by simp only [exHsK, exHs]; exact Le.refl
  | k + 1, .cons s r, ρ, h => by
    simp only [exHsK, exHs]
    refine Le.bind (hf s ρ h) fun q => ?_
    obtain ⟨fl, ρ1, h1⟩ := q
    cases fl with
    | nx => exact exHsK_le hf k r ρ1 h1
    | rt v => exact Le.refl
theorem exHK_le (t : TLe T T') (d : Nat) : ∀ (k : Nat) (s : HS) (ρ : HEnv) (h : HHp), Le (exHK T d k s ρ h) (exH T' s ρ h)
  | 0, _, _, _ => Le.stk
  | k + 1, s, ρ, h => by
    have ih := exHK_le t d k
    have he := evK_le t d
    have hh := evHK_le t d d
    cases s <;> simp only [exHK, exH]
    case asg => exact Le.bind (hh _ _ _) fun _ => Le.refl
    case par => exact Le.bind (hh _ _ _) fun _ => Le.bind (hh _ _ _) fun _ => Le.refl
    case app => exact Le.bind (hh _ _ _) fun _ => Le.bind Le.refl fun _ => Le.bind (hh _ _ _) fun _ => Le.refl
    case ext => exact Le.bind (hh _ _ _) fun _ => Le.bind Le.refl fun _ => Le.bind (hh _ _ _) fun _ => Le.refl
    case set => exact Le.bind (hh _ _ _) fun _ => Le.bind (hh _ _ _) fun _ => Le.bind (he _ _) fun _ => Le.refl
    case iff => exact Le.bind (he _ _) fun v => Le.bind Le.refl fun b => Le.ite (exHsK_le ih _ _ _ _) (exHsK_le ih _ _ _ _)
    case loop => exact Le.bind (evHIK_le t d hh _ _ _) fun q => forH_le (fun ρ h => exHsK_le ih _ _ _ _) _ _ _ _ _
    case whl => exact Le.bind (he _ _) fun v => Le.bind Le.refl fun z => whH_le (fun ρ h => Le.bind (he _ _) fun _ => Le.refl) (fun ρ h => exHsK_le ih _ _ _ _) _ _ _
    case ret => exact Le.bind (hh _ _ _) fun _ => Le.refl
    case expr => exact Le.bind (hh _ _ _) fun _ => Le.refl
    case raise => exact Le.refl
end
def finHK (q : HFl × HEnv × HHp) : R (HV × HHp) := match q.1 with
  | .nx => .ok (.p .non, q.2.2)
  | .rt v => .ok (v, q.2.2)
def runHK (T : Tab) (dp : Nat) (d : HD) (args : List HV) (h : HHp) : R (HV × HHp) :=
  if args.length = d.np then exHsK (exHK T dp dp) dp d.body (args.map some ++ List.replicate (d.ns - d.np) none) h >>= finHK else stk
theorem runHK_le {T T' : Tab} (t : TLe T T') (dp : Nat) (d : HD) (args : List HV) (h : HHp) : Le (runHK T dp d args h) (runH T' d args h) :=
  Le.ite (Le.bind (exHsK_le (exHK_le t dp dp) _ _ _ _) fun q => Le.refl) Le.stk
def callsK (P : Prog) : Nat → (Nat → List Val → R Val) × (Nat → List HV → HHp → R (HV × HHp))
  | 0 => (fun _ _ => stk, fun _ _ _ => stk)
  | n + 1 => (fun f args => match P.F f with
      | some d => runK ⟨P.G, (callsK P n).1, (callsK P n).2⟩ 30 d args
      | none => match P.HF f with
        | some d => pureH (runHK ⟨P.G, (callsK P n).1, (callsK P n).2⟩ 30 d) args
        | none => stk,
    fun f args h => match P.HF f with
      | some d => runHK ⟨P.G, (callsK P n).1, (callsK P n).2⟩ 30 d args h
      | none => stk)
theorem callsK_le (P : Prog) : ∀ n, TLe ⟨P.G, (callsK P n).1, (callsK P n).2⟩ (P.tab n)
  | 0 => ⟨rfl, fun _ _ => Le.stk, fun _ _ _ => Le.stk⟩
  | n + 1 => by
    have ih := callsK_le P n
    refine ⟨rfl, fun f vs => ?_, fun f vs h => ?_⟩
    · show Le (match P.F f with | some d => runK _ 30 d vs | none => match P.HF f with | some d => pureH (runHK _ 30 d) vs | none => stk) (match P.F f with | some d => runD _ d vs | none => match P.HF f with | some d => pureH (runH _ d) vs | none => stk)
      cases P.F f with
      | some d => exact runK_le ih 30 d vs
      | none =>
        cases P.HF f with
        | some d => exact Le.bind (runHK_le ih 30 d _ _) fun q => Le.refl
        | none => exact Le.stk
    · show Le (match P.HF f with | some d => runHK _ 30 d vs h | none => stk) (match P.HF f with | some d => runH _ d vs h | none => stk)
      cases P.HF f with
      | some d => exact runHK_le ih 30 d vs h
      | none => exact Le.stk
theorem callsK_up (P : Prog) : ∀ n m, n ≤ m → TLe ⟨P.G, (callsK P n).1, (callsK P n).2⟩ (P.tab m)
  | 0, _, _ => ⟨rfl, fun _ _ => Le.stk, fun _ _ _ => Le.stk⟩
  | n + 1, 0, h => by omega
  | n + 1, m + 1, h => by
    have ih := callsK_up P n m (by omega)
    refine ⟨rfl, fun f vs => ?_, fun f vs h => ?_⟩
    · show Le (match P.F f with | some d => runK _ 30 d vs | none => match P.HF f with | some d => pureH (runHK _ 30 d) vs | none => stk) (match P.F f with | some d => runD _ d vs | none => match P.HF f with | some d => pureH (runH _ d) vs | none => stk)
      cases P.F f with
      | some d => exact runK_le ih 30 d vs
      | none =>
        cases P.HF f with
        | some d => exact Le.bind (runHK_le ih 30 d _ _) fun q => Le.refl
        | none => exact Le.stk
    · show Le (match P.HF f with | some d => runHK _ 30 d vs h | none => stk) (match P.HF f with | some d => runH _ d vs h | none => stk)
      cases P.HF f with
      | some d => exact runHK_le ih 30 d vs h
      | none => exact Le.stk
/-- a call, by a quick run at a lesser level -/
theorem callK_up {P : Prog} {n m f : Nat} {vs : List Val} {v : Val} (h : (callsK P n).1 f vs = .ok v) (hm : n ≤ m) : callP P m f vs = .ok v := (callsK_up P n m hm).C f vs v h
/-- a call, by a quick run -/
theorem callK {P : Prog} {n f : Nat} {vs : List Val} {v : Val} (h : (callsK P n).1 f vs = .ok v) : callP P n f vs = .ok v := (callsK_le P n).C f vs v h
end VM

set_option Elab.async false
set_option linter.all false
set_option maxRecDepth 100000
set_option maxHeartbeats 4000000
/-! P02: shares by a cell. -/
namespace VM
open PySem
variable (n : Nat)
def bottT : List Int := [1, 2, 6]
def bott (v : Int) : Int := bottT.getD (v / 3 % 3).toNat 1
theorem bott_in (v : Int) : 1 ≤ bott v ∧ bott v ≤ 6 := by
  unfold bott
  generalize (v / 3 % 3).toNat = j
  rcases j with _ | _ | _ | j <;> simp [bottT, List.getD]
theorem bott_ix (v : Int) : ixV (.tup [.int 1, .int 2, .int 6]) (.int ((v.fdiv 3).fmod 3)) = .ok (.int (bott v)) := by
  rw [Int.fmod_eq_emod_of_nonneg _ (by decide), Int.fdiv_eq_ediv_of_nonneg _ (by decide)]
  have h0 : 0 ≤ v / 3 % 3 := Int.emod_nonneg _ (by decide)
  have h1 : v / 3 % 3 < 3 := Int.emod_lt_of_pos _ (by decide)
  have e : (.tup [.int 1, .int 2, .int 6] : Val) = .tup (bottT.map Val.int) := by simp [bottT]
  rw [e]
  simp only [ixV]
  rw [atI_in h0 (by simpa [bottT] using h1), List.getElem?_map, List.getElem?_eq_getElem (by simp [bottT]; omega)]
  simp [ofO, bott]
  rw [List.getElem?_eq_getElem (by simp [bottT]; omega)]
  rfl
def shareF (v w : Int) : Rat := Rat.divInt (v.fmod (2 * w + 1) - w) (1 + (v.fdiv 7).fmod (bott v))
theorem mod_in (v : Int) {m : Int} (h : 0 < m) : 0 ≤ v.fmod m ∧ v.fmod m < m := by
  rw [Int.fmod_eq_emod_of_nonneg _ (by omega)]
  exact ⟨Int.emod_nonneg _ (by omega), Int.emod_lt_of_pos _ h⟩
theorem small40 {x : Int} (h0 : -(10 ^ 40) ≤ x) (h1 : x ≤ 10 ^ 40) : lg x ≤ 134 := lg_le_of (by
  have : (2 : Nat) ^ 135 = 43556142965880123323311949751266331066368 := by decide
  rw [this]; omega)
theorem bot_in (v : Int) : 1 ≤ 1 + (v.fdiv 7).fmod (bott v) ∧ 1 + (v.fdiv 7).fmod (bott v) ≤ 6 := by
  have h := bott_in v
  have := mod_in (v.fdiv 7) (m := bott v) (by omega)
  omega
theorem share_sz (v : Int) {w : Int} (h1 : 1 ≤ w) (h2 : w ≤ 10 ^ 40) : Sz 134 2 (shareF v w) := by
  have h := bot_in v
  have g := mod_in v (m := 2 * w + 1) (by omega)
  refine Sz.divInt (by omega) (small40 (by omega) (by omega)) (lg_le_of ?_)
  have : (2 : Nat) ^ (2 + 1) = 8 := by decide
  omega
theorem c_lshare (v : Int) {w : Int} (h1 : 1 ≤ w) (h2 : w ≤ 10 ^ 40) : callP Pr (n + 2) 24 [.int v, .int w] = .ok (sv (shareF v w)) := by
  have e := bott_ix v
  have hb := bott_in v
  have h := bot_in v
  have m2W : mulOk 2 w = true := mulOk_of (by have := small40 (x := w) (by omega) (by omega); have : lg 2 = 1 := by decide +kernel
                                              omega)
  have hW : (2 : Int) * w + 1 ≠ 0 := by omega
  have hb0 : bott v ≠ 0 := by omega
  have d7 : divOk 7 = true := by decide +kernel
  have d3 : divOk 3 = true := by decide +kernel
  have hl3 : lg (1 + (v.fdiv 7).fmod (bott v)) ≤ 2 := lg_le_of (by
    have : (2 : Nat) ^ (2 + 1) = 8 := by decide
    omega)
  have l : callP Pr (n + 1) 19 [.int (v.fmod (2 * w + 1) - w), .int (1 + (v.fdiv 7).fmod (bott v))] = .ok (sv (shareF v w)) :=
    c_llow n (by omega) (Nat.lt_of_le_of_lt hl3 (by decide))
  rw [call_eq (d := D24) rfl rfl]
  simp [D24, m2W, hW, d7, d3, lineN, e, hb0, l]
end VM

set_option Elab.async false
set_option linter.all false
set_option maxRecDepth 100000
set_option maxHeartbeats 4000000
namespace VM
open PySem
variable (n : Nat)
def sharesF (c w : Int) (k : Nat) : List Rat := (List.range k).map fun (i : Nat) => shareF (valF c i) w
theorem small_k {k : Nat} (hk : k ≤ 1000) : smallR 0 k = true := by unfold smallR; apply decide_eq_true; omega
theorem len_k {k : Nat} (hk : k ≤ 1000) : (rngC 0 1 k).length ≤ lineN := by rw [rngC_len]; unfold lineN; omega
theorem c_lshares_1 {c w : Int} {k : Nat} (hc : lg c ≤ 1048577) (h1 : 1 ≤ w) (h2 : w ≤ 10 ^ 40) (i : Nat) (hi : i < 1000) :
  ev (Pr.tab (n + 2)) (.call 24 (.cons (.call 18 (.cons (.var 0) (.cons (.var 3) .nil))) (.cons (.var 2) .nil))) [some (.int c), some (.int k), some (.int w), some (.int i)] = .ok (sv (shareF (valF c i) w)) := by
  have h3 : (0 : Int) ≤ i := by omega
  have h4 : (i : Int) ≤ 1000000 := by omega
  simp only [ev_call, evs_cons, ev_var, getE_zero, getE_succ, okb, evs_nil]
  rw [show callP Pr (n + 2) 18 [.int c, .int i] = .ok (.int (valF c i)) from c_value n hc h3 h4]
  simp only [okb]
  exact c_lshare n (valF c i) h1 h2
theorem c_lshares_2 {c w : Int} {k : Nat} (hc : lg c ≤ 1048577) (h1 : 1 ≤ w) (h2 : w ≤ 10 ^ 40) (hk : k ≤ 1000) :
  compGo (bindE (.nm 3)) (evC (Pr.tab (n + 2)) .none) (ev (Pr.tab (n + 2)) (.call 24 (.cons (.call 18 (.cons (.var 0) (.cons (.var 3) .nil))) (.cons (.var 2) .nil)))) [some (.int c), some (.int k), some (.int w), none] (rngC 0 1 k) = .ok ((sharesF c w k).map sv) := by
  have h := compGo_map (bind := bindE (.nm 3)) (c := evC (Pr.tab (n + 2)) .none) (el := ev (Pr.tab (n + 2)) (.call 24 (.cons (.call 18 (.cons (.var 0) (.cons (.var 3) .nil))) (.cons (.var 2) .nil)))) (e := [some (.int c), some (.int k), some (.int w), none]) (f := fun v => match v with | .int t => sv (shareF (valF c t) w) | _ => .non) (l := rngC 0 1 k) (by
    intro v hv
    obtain ⟨i, hi, rfl⟩ := rngC_mem hv
    rw [Int.zero_add, Int.mul_one]
    exact ⟨_, bindE_nm, evC_none, c_lshares_1 n hc h1 h2 i (by omega)⟩)
  rw [h]
  refine congrArg Except.ok ?_
  unfold rngC sharesF
  rw [List.map_map, List.map_map]
  refine List.map_congr_left fun i _ => ?_
  show sv (shareF (valF c (0 + (i : Int) * 1)) w) = sv (shareF (valF c i) w)
  rw [Int.zero_add, Int.mul_one]
theorem c_lshares_3 {c w : Int} {k : Nat} (hk : k ≤ 1000) : evI (Pr.tab (n + 2)) (.rng1 (.var 1)) [some (.int c), some (.int k), some (.int w), none] = .ok (rngC 0 1 k) := by
  have hs := small_k hk
  simp only [evI_rng1, ev_var, getE_zero, getE_succ, okb, asInt_int]
  rw [if_pos hs, Int.toNat_natCast]
theorem c_lshares_4 {c w : Int} {k : Nat} (hc : lg c ≤ 1048577) (h1 : 1 ≤ w) (h2 : w ≤ 10 ^ 40) (hk : k ≤ 1000) : ev (Pr.tab (n + 2)) (.comp [3] (.nm 3) (.rng1 (.var 1)) .none (.call 24 (.cons (.call 18 (.cons (.var 0) (.cons (.var 3) .nil))) (.cons (.var 2) .nil)))) [some (.int c), some (.int k), some (.int w), none] = .ok (.lst ((sharesF c w k).map sv)) := by
  have hl := len_k hk
  rw [ev_comp, c_lshares_3 n hk, okb, if_pos hl]
  have e := c_lshares_2 n hc h1 h2 hk
  rw [show wipeE [some (.int c), some (.int k), some (.int w), none] [3] = [some (.int c), some (.int k), some (.int w), none] from rfl, e]
  rfl
theorem c_lshares {c w : Int} {k : Nat} (hc : lg c ≤ 1048577) (h1 : 1 ≤ w) (h2 : w ≤ 10 ^ 40) (hk : k ≤ 1000) : callP Pr (n + 3) 25 [.int c, .int k, .int w] = .ok (.lst ((sharesF c w k).map sv)) := by
  rw [call_eq (d := D25) rfl rfl]
  have e := c_lshares_4 n hc h1 h2 hk
  show finD (exs (Pr.tab (n + 2)) (.cons (.ret [] _) .nil) [.sh (.int c), .sh (.int k), .sh (.int w), .no]) = _
  rw [exs_cons, ex_ret]
  rw [show vis [] [.sh (.int c), .sh (.int k), .sh (.int w), .no] = [some (.int c), some (.int k), some (.int w), none] from rfl, e]
  rfl
end VM

set_option Elab.async false
set_option linter.all false
set_option maxRecDepth 100000
set_option maxHeartbeats 2000000
/-! LibM: lists of shares. -/
namespace VM
open PySem
/-- bottoms divide powers of D -/
class Dk (D : Nat) : Prop where
  pos : 0 < D
  lt : D < 2 ^ 40
instance : Dk 60 := ⟨by decide, by decide⟩
/-- a share that stands for m things: its bottom divides D ^ m -/
def Dz (D m A : Nat) (q : Rat) : Prop := q.den ∣ D ^ m ∧ lg q.num ≤ A
variable {D : Nat} [hD : Dk D]
theorem Dz.mono {m A B : Nat} {q : Rat} (h : Dz D m A q) (hb : A ≤ B) : Dz D m B q := ⟨h.1, Nat.le_trans h.2 hb⟩
theorem lgD {m d : Nat} (hm : m ≤ 20) (h : d ∣ D ^ m) : lg (d : Int) ≤ 800 := by
  have h1 : d ≤ D ^ m := Nat.le_of_dvd (Nat.pow_pos hD.pos) h
  have h2 : D ^ m ≤ D ^ 20 := Nat.pow_le_pow_right hD.pos hm
  have h3 : D ^ 20 ≤ (2 ^ 40) ^ 20 := Nat.pow_le_pow_left (Nat.le_of_lt hD.lt) 20
  rw [← Nat.pow_mul] at h3
  refine lg_le_of ?_
  have h4 : (2 : Nat) ^ (40 * 20) < 2 ^ (800 + 1) := Nat.pow_lt_pow_right (by decide) (by decide)
  have : (d : Int).natAbs = d := rfl
  rw [this]
  exact Nat.lt_of_le_of_lt (Nat.le_trans h1 (Nat.le_trans h2 h3)) h4
theorem den_dvd {t b : Int} {d : Nat} (h : b ≠ 0) (hb : b.natAbs ∣ d) : (Rat.divInt t b).den ∣ d := by
  refine Nat.dvd_trans ?_ hb
  rw [Rat.den_divInt, if_neg h]
  exact Nat.div_dvd_of_dvd (Int.gcd_dvd_natAbs_left ..)
theorem add_den {p q : Rat} {d : Nat} (hp : p.den ∣ d) (hq : q.den ∣ d) (hd : d ≠ 0) : (p + q).den ∣ d := by
  obtain ⟨x, hx⟩ := hp
  obtain ⟨y, hy⟩ := hq
  have hx0 : (x : Int) ≠ 0 := fun z => hd (by rw [hx]; have : x = 0 := by omega
                                              rw [this, Nat.mul_zero])
  have hy0 : (y : Int) ≠ 0 := fun z => hd (by rw [hy]; have : y = 0 := by omega
                                              rw [this, Nat.mul_zero])
  have hd0 : (d : Int) ≠ 0 := by omega
  have e1 : p = Rat.divInt (p.num * x) d := by
    conv => lhs; rw [← Rat.num_divInt_den p]
    rw [Rat.divInt_eq_divInt_iff (den_ne p) hd0, hx]
    push_cast
    rw [Int.mul_assoc, Int.mul_comm (x : Int)]
  have e2 : q = Rat.divInt (q.num * y) d := by
    conv => lhs; rw [← Rat.num_divInt_den q]
    rw [Rat.divInt_eq_divInt_iff (den_ne q) hd0, hy]
    push_cast
    rw [Int.mul_assoc, Int.mul_comm (y : Int)]
  have e3 : p + q = Rat.divInt (p.num * x + q.num * y) d := by
    conv => lhs; rw [e1, e2]
    rw [Rat.divInt_add_divInt _ _ hd0 hd0, ← Int.add_mul, Rat.divInt_mul_right hd0]
  rw [e3]
  exact den_dvd hd0 (Nat.dvd_refl _)
theorem neg_den {q : Rat} : (-q).den = q.den := rfl
theorem sub_den {p q : Rat} {d : Nat} (hp : p.den ∣ d) (hq : q.den ∣ d) (hd : d ≠ 0) : (p - q).den ∣ d := by
  rw [Rat.sub_eq_add_neg]
  exact add_den hp (by rw [neg_den]; exact hq) hd
theorem mul_den {p q : Rat} {c d : Nat} (hp : p.den ∣ c) (hq : q.den ∣ d) : (p * q).den ∣ c * d := by
  rw [mul_divInt]
  refine den_dvd (den_mul_ne p q) ?_
  rw [Int.natAbs_mul]
  exact Nat.mul_dvd_mul hp hq
theorem Dz.sz {m A : Nat} {q : Rat} (h : Dz D m A q) (hm : m ≤ 20) : Sz A 800 q := ⟨h.2, lgD hm h.1⟩
theorem powD (m : Nat) : D ^ m ≠ 0 := Nat.ne_of_gt (Nat.pow_pos hD.pos)
theorem Dz.add {m A B : Nat} {p q : Rat} (h : Dz D m A p) (g : Dz D m B q) (hm : m ≤ 20) : Dz D m (max A B + 802) (p + q) :=
  ⟨add_den h.1 g.1 (powD m), Nat.le_trans ((h.sz hm).add (g.sz hm)).1 (by omega)⟩
theorem Dz.sub {m A B : Nat} {p q : Rat} (h : Dz D m A p) (g : Dz D m B q) (hm : m ≤ 20) : Dz D m (max A B + 802) (p - q) :=
  ⟨sub_den h.1 g.1 (powD m), Nat.le_trans ((h.sz hm).sub (g.sz hm)).1 (by omega)⟩
theorem Dz.mul {m k A B : Nat} {p q : Rat} (h : Dz D m A p) (g : Dz D k B q) (hm : m ≤ 20) (hk : k ≤ 20) : Dz D (m + k) (A + B + 1) (p * q) :=
  ⟨by rw [Nat.pow_add]; exact mul_den h.1 g.1, ((h.sz hm).mul (g.sz hk)).1⟩
end VM

set_option Elab.async false
set_option linter.all false
set_option maxRecDepth 100000
set_option maxHeartbeats 2000000
/-! LibM2: means and sums, their looks. -/
namespace VM
open PySem
variable (n : Nat)
def svs (l : List Rat) : Val := .lst (l.map sv)
inductive Kind where
  | all | nested | rows
def kv : Kind → Val
  | .all => .str (Str.ofString "all")
  | .nested => .str (Str.ofString "nested")
  | .rows => .str (Str.ofString "rows")
theorem c_checkkind (k : Kind) : callP Pr (n + 1) 53 [kv k] = .ok .non := by
  rw [call_eq (d := D53) rfl rfl]
  have g : Pr.G 4 = some (.tup [(.str (Str.ofString "all")), (.str (Str.ofString "nested")), (.str (Str.ofString "rows"))]) := rfl
  have e1 : isiV (kv k) .str = .ok true := by cases k <;> rfl
  have e2 : op2 .nin (kv k) (.tup [(.str (Str.ofString "all")), (.str (Str.ofString "nested")), (.str (Str.ofString "rows"))]) = .ok (.bl false) := by
    cases k <;> exact ok_of (by decide +kernel)
  simp [D53, e1, g, ofO, e2]
theorem c_checkmeans {l : List Rat} (hl : l.length ≤ 10) : callP Pr (n + 3) 52 [svs l] = .ok .non := by
  rw [call_eq (d := D52) rfl rfl]
  have g : Pr.G 5 = some (.int 10) := rfl
  have e0 : isiV (svs l) .list = .ok true := rfl
  have e1 : bi1 .len [svs l] = .ok (.int l.length) := by simp [svs]
  have e2 : ev (Pr.tab (n + 2)) (.comp [1] (.nm 1) (.seq (.var 0)) .none (.call 4 (.cons (.var 1) .nil))) [some (svs l), none] = .ok (.lst (l.map fun _ => .bl true)) := by
    refine comp_all (g := sv) (by simp [svs]) (by unfold lineN; omega) (fun q hq => ⟨_, bindE_nm, ?_⟩)
    simp [c_isshare]
  have e3 : bi1 .all [.lst (l.map fun _ => .bl true)] = .ok (.bl true) := by
    rw [bi_all (f := fun _ => true)]; simp
  have hn : ¬ (10 : Int) < l.length := by omega
  simp [D52, e0, e1, g, ofO, hn, e2, e3]
def chosenF (many : Int) : Nat → Int
  | 0 => 1
  | s + 1 => (chosenF many s * (many - s)).fdiv (s + 1)
theorem chosen_ok : ∀ a : Nat, a < 10 → ∀ b : Nat, b < 10 → b ≤ a → lg (chosenF a b) ≤ 10 ∧ (a = b → chosenF a b = 1) ∧ (b < 10 → lg (chosenF a b * ((a : Int) - b)) ≤ 20) := by decide +kernel
theorem c_chosen {a b : Nat} (ha : a < 10) (hb : b ≤ a) : callP Pr (n + 1) 49 [.int a, .int b] = .ok (.int (chosenF a b)) := by
  rw [call_eq (d := D49) rfl rfl]
  have hsm : smallR 0 (b : Int) = true := by unfold smallR; apply decide_eq_true; omega
  obtain ⟨ρ', h1, x, rfl⟩ := forGo_map (bind := bindS (.nm 3)) (body := exs (Pr.tab n) (.cons (.asg [] (.nm 2) (.op .fdiv (.op .mul (.var 2) (.op .sub (.var 0) (.var 3))) (.op .add (.var 3) (.cint 1)))) .nil)) (fun (i : Nat) => Val.int (0 + (i : Int) * 1))
    (fun pre ρ => ∃ x, ρ = [.sh (.int a), .sh (.int b), .sh (.int (chosenF a pre.length)), x]) (List.range b) [] [.sh (.int a), .sh (.int b), .sh (.int 1), .no] ⟨.no, rfl⟩ (by
      rintro p i q ρ hp ⟨x, rfl⟩
      rw [List.nil_append] at hp
      have hi : i = p.length := by
        have h2 : (List.range b)[p.length]? = some i := by rw [hp]; simp
        rw [List.getElem?_eq_some_iff] at h2
        obtain ⟨h3, h4⟩ := h2
        rw [List.getElem_range] at h4
        exact h4.symm
      have hpl : p.length < b := by
        have := congrArg List.length hp
        simp at this; omega
      obtain ⟨k1, _, _⟩ := chosen_ok a ha p.length (by omega) (by omega)
      have m : mulOk (chosenF a p.length) ((a : Int) - p.length) = true := mulOk_of (by
        have : lg ((a : Int) - p.length) ≤ 10 := lg_le_of (by have : (2 : Nat) ^ (10 + 1) = 2048 := by decide
                                                              omega)
        omega)
      have d : divOk ((p.length : Int) + 1) = true := divOk_of (by omega) (Nat.lt_of_le_of_lt (lg_le_of (k := 10) (by
        have : (2 : Nat) ^ (10 + 1) = 2048 := by decide
        omega)) (by decide))
      subst hi
      refine ⟨[.sh (.int a), .sh (.int b), .sh (.int (chosenF a (p.length + 1))), .sh (.int p.length)], by simp [m, d, chosenF], .sh (.int p.length), by simp⟩)
  simp [D49, hsm]
  have : rngC 0 1 b = (List.range b).map fun (i : Nat) => Val.int (0 + (i : Int) * 1) := rfl
  rw [this, h1]
  simp
end VM

set_option Elab.async false
set_option linter.all false
set_option maxRecDepth 100000
set_option maxHeartbeats 2000000
/-! LibM3: powers of a row. -/
namespace VM
open PySem
variable (n : Nat) {D : Nat} [hD : Dk D]
theorem svs_ix {l : List Rat} {i : Int} (h0 : 0 ≤ i) (h : i < l.length) : ixV (svs l) (.int i) = .ok (sv (l.getD i.toNat 0)) := by
  have hl : i.toNat < l.length := by omega
  simp only [svs, ixV]
  rw [atI_in h0 (by simpa using h), List.getElem?_map, List.getElem?_eq_getElem hl]
  simp [ofO, hl]
/-- all of a list are sized by their place -/
def Dl (D c e : Nat) (l : List Rat) : Prop := ∀ i, i < l.length → Dz D i (c * i + e) (l.getD i 0)
theorem cb {c i : Nat} (hc : c ≤ 4000000) (hi : i ≤ 10) : c * i ≤ 40000000 := Nat.mul_le_mul hc hi
theorem cab {c a b m : Nat} (h : a + b = m) : c * a + c * b = c * m := by rw [← Nat.mul_add, h]
def convS (row f : List Rat) (m : Nat) : Nat → Rat
  | 0 => 0
  | k + 1 => convS row f m k + row.getD k 0 * f.getD (m - k) 0
def powT (row : List Rat) (rest : Nat) : Nat → List Rat
  | 0 => 1 :: List.replicate rest 0
  | t + 1 => (List.range (rest + 1)).map fun m => convS row (powT row rest t) m (m + 1)
theorem powT_len (row : List Rat) (rest t : Nat) : (powT row rest t).length = rest + 1 := by cases t <;> simp [powT]
theorem dz0 (D m A : Nat) : Dz D m A 0 := ⟨Nat.one_dvd _, Nat.le_trans (show lg (0 : Rat).num ≤ 0 by decide +kernel) (Nat.zero_le _)⟩
theorem dz1 (D m A : Nat) : Dz D m A 1 := ⟨Nat.one_dvd _, Nat.le_trans (show lg (1 : Rat).num ≤ 0 by decide +kernel) (Nat.zero_le _)⟩
theorem convS_dz {row f : List Rat} {c e m : Nat} (hr : Dl D c 0 row) (hf : Dl D c e f) (hm : m ≤ 10) (h1 : m < row.length) (h2 : m < f.length) : ∀ k, k ≤ m + 1 → Dz D m (c * m + e + 1 + 802 * k) (convS row f m k)
  | 0, _ => dz0 _ _ _
  | k + 1, hk => by
    have h := convS_dz hr hf hm h1 h2 k (by omega)
    have g := (hr k (by omega)).mul (hf (m - k) (by omega)) (by omega) (by omega)
    have hc : c * k + c * (m - k) = c * m := cab (by omega)
    rw [show k + (m - k) = m by omega] at g
    refine (h.add g (by omega)).mono ?_
    omega
theorem powT_dl {row : List Rat} {c rest : Nat} (hr : Dl D c 0 row) (hrest : rest ≤ 10) (hl : rest < row.length) : ∀ t, Dl D c (9000 * t) (powT row rest t)
  | 0 => fun i hi => by
    cases i with
    | zero => exact dz1 _ _ _
    | succ i =>
      have : (powT row rest 0).getD (i + 1) 0 = 0 := by simp [powT, List.getD, List.getElem?_replicate]; split <;> rfl
      rw [this]; exact dz0 _ _ _
  | t + 1 => fun i hi => by
    rw [powT_len] at hi
    have e : (powT row rest (t + 1)).getD i 0 = convS row (powT row rest t) i (i + 1) := by simp [powT, List.getD, hi]
    rw [e]
    refine (convS_dz hr (powT_dl hr hrest hl t) (by omega) (by omega) (by rw [powT_len]; exact hi) (i + 1) (Nat.le_refl _)).mono ?_
    generalize c * i = z
    omega
theorem rng_at {b : Nat} {p q : List Nat} {i : Nat} (hp : List.range b = p ++ i :: q) : i = p.length ∧ p.length < b := by
  have h2 : (List.range b)[p.length]? = some i := by rw [hp]; simp
  rw [List.getElem?_eq_some_iff] at h2
  obtain ⟨h3, h4⟩ := h2
  rw [List.getElem_range] at h4
  exact ⟨h4.symm, by simpa using h3⟩
theorem gain_loop {row f : List Rat} {c e m : Nat} {s0 s1 s2 s5 s6 : Slot} (hr : Dl D c 0 row) (hf : Dl D c e f) (hm : m ≤ 10) (h1 : m < row.length) (h2 : m < f.length) (hA : c ≤ 4000000) (hB : e ≤ 1000000) (x : Slot) :
    ∃ y, forGo (bindS (.nm 9)) (exs (Pr.tab (n + 3)) (.cons (.asg [] (.nm 8) (.call 7 (.cons (.var 8) (.cons (.call 9 (.cons (.ix (.var 3) (.var 9)) (.cons (.ix (.var 4) (.op .sub (.var 7) (.var 9))) .nil))) .nil)))) .nil)) (rngC 0 1 (m + 1))
      [s0, s1, s2, .sh (svs row), .sh (svs f), s5, s6, .sh (.int m), .sh (sv 0), x] = .ok (.nx, [s0, s1, s2, .sh (svs row), .sh (svs f), s5, s6, .sh (.int m), .sh (sv (convS row f m (m + 1))), y]) := by
  obtain ⟨ρ', e1, y, rfl⟩ := forGo_map (bind := bindS (.nm 9)) (body := exs (Pr.tab (n + 3)) (.cons (.asg [] (.nm 8) (.call 7 (.cons (.var 8) (.cons (.call 9 (.cons (.ix (.var 3) (.var 9)) (.cons (.ix (.var 4) (.op .sub (.var 7) (.var 9))) .nil))) .nil)))) .nil)) (fun (i : Nat) => Val.int (0 + (i : Int) * 1))
    (fun pre ρ => ∃ y, ρ = [s0, s1, s2, .sh (svs row), .sh (svs f), s5, s6, .sh (.int m), .sh (sv (convS row f m pre.length)), y]) (List.range (m + 1)) [] [s0, s1, s2, .sh (svs row), .sh (svs f), s5, s6, .sh (.int m), .sh (sv 0), x] ⟨x, rfl⟩ (by
      rintro p i q ρ hp ⟨y, rfl⟩
      rw [List.nil_append] at hp
      obtain ⟨hi, hpl⟩ := rng_at hp
      subst hi
      have d1 := convS_dz hr hf hm h1 h2 p.length (by omega)
      have b1 := cb (i := m) hA hm
      have b2 := cb (i := p.length) hA (by omega)
      have b3 := cb (i := m - p.length) hA (by omega)
      have d2 := hr p.length (by omega)
      have d3 := hf (m - p.length) (by omega)
      have d4 := d2.mul d3 (by omega) (by omega)
      rw [show p.length + (m - p.length) = m by omega] at d4
      have i1 : ixV (svs row) (.int p.length) = .ok (sv (row.getD p.length 0)) := svs_ix (i := (p.length : Int)) (by omega) (by omega)
      have i2 : ixV (svs f) (.int ((m : Int) - p.length)) = .ok (sv (f.getD (m - p.length) 0)) := by
        rw [svs_ix (by omega) (by omega)]
        rw [show ((m : Int) - p.length).toNat = m - p.length by omega]
      have c9 : callP Pr (n + 3) 9 [sv (row.getD p.length 0), sv (f.getD (m - p.length) 0)] = .ok (sv (row.getD p.length 0 * f.getD (m - p.length) 0)) :=
        c_grow n (d2.sz (by omega)) (d3.sz (by omega))
      have c7 : callP Pr (n + 3) 7 [sv (convS row f m p.length), sv (row.getD p.length 0 * f.getD (m - p.length) 0)] = .ok (sv (convS row f m (p.length + 1))) :=
        c_add n (d1.sz (by omega)) (d4.sz (by omega))
      refine ⟨[s0, s1, s2, .sh (svs row), .sh (svs f), s5, s6, .sh (.int m), .sh (sv (convS row f m (p.length + 1))), .sh (.int p.length)], by simp [-List.getD_eq_getElem?_getD, i1, i2, c9, c7], .sh (.int p.length), by simp⟩)
  have : rngC 0 1 (m + 1) = (List.range (m + 1)).map fun (i : Nat) => Val.int (0 + (i : Int) * 1) := rfl
  rw [this, e1]
  exact ⟨y, by simp⟩
theorem turn_pow {row f : List Rat} {c e rest : Nat} {s0 s1 s5 : Slot} (hr : Dl D c 0 row) (hf : Dl D c e f) (hm : rest ≤ 10) (h1 : rest < row.length) (h2 : f.length = rest + 1) (hA : c ≤ 4000000) (hB : e ≤ 1000000) (x7 x8 x9 : Slot) :
    ∃ y7 y8 y9, forGo (bindS (.nm 7)) (exs (Pr.tab (n + 3)) ((((D50.body.at 2).inner).at 1).inner)) (rngC 0 1 (rest + 1))
      [s0, s1, .sh (.int rest), .sh (svs row), .sh (svs f), s5, .ow [], x7, x8, x9] = .ok (.nx, [s0, s1, .sh (.int rest), .sh (svs row), .sh (svs f), s5, .ow (((List.range (rest + 1)).map fun m => convS row f m (m + 1)).map sv), y7, y8, y9]) := by
  obtain ⟨ρ', e1, y7, y8, y9, rfl⟩ := forGo_map (bind := bindS (.nm 7)) (body := exs (Pr.tab (n + 3)) ((((D50.body.at 2).inner).at 1).inner)) (fun (i : Nat) => Val.int (0 + (i : Int) * 1))
    (fun pre ρ => ∃ y7 y8 y9, ρ = [s0, s1, .sh (.int rest), .sh (svs row), .sh (svs f), s5, .ow ((pre.map fun m => convS row f m (m + 1)).map sv), y7, y8, y9]) (List.range (rest + 1)) [] [s0, s1, .sh (.int rest), .sh (svs row), .sh (svs f), s5, .ow [], x7, x8, x9] ⟨x7, x8, x9, rfl⟩ (by
      rintro p i q ρ hp ⟨y7, y8, y9, rfl⟩
      rw [List.nil_append] at hp
      obtain ⟨hi, hpl⟩ := rng_at hp
      subst hi
      obtain ⟨z, hz⟩ := gain_loop n (s0 := s0) (s1 := s1) (s2 := .sh (.int rest)) (s5 := s5) (s6 := .ow ((p.map fun m => convS row f m (m + 1)).map sv)) (m := p.length) hr hf (by omega) (by omega) (by omega) hA hB y9
      have g7 : Pr.G 7 = some (sv 0) := rfl
      have hsm : smallR 0 ((p.length : Int) + 1) = true := by unfold smallR; apply decide_eq_true; omega
      have ht : ((p.length : Int) + 1).toNat = p.length + 1 := by omega
      have hlt : p.length < 16777216 := by omega
      refine ⟨[s0, s1, .sh (.int rest), .sh (svs row), .sh (svs f), s5, .ow (((p ++ [p.length]).map fun m => convS row f m (m + 1)).map sv), .sh (.int p.length), .sh (sv (convS row f p.length (p.length + 1))), z], ?_, .sh (.int p.length), .sh (sv (convS row f p.length (p.length + 1))), z, rfl⟩
      simp [D50, SB.at, SS.inner, g7, ofO, hsm, ht, -List.getD_eq_getElem?_getD]
      simp only [List.map_map] at hz
      rw [hz]
      have hf1 : flat (sv (convS row f p.length (p.length + 1))) = true := rfl
      simp [hlt, hf1, lineN, -List.getD_eq_getElem?_getD])
  have : rngC 0 1 (rest + 1) = (List.range (rest + 1)).map fun (i : Nat) => Val.int (0 + (i : Int) * 1) := rfl
  rw [this, e1]
  exact ⟨y7, y8, y9, by simp⟩
end VM

set_option Elab.async false
set_option linter.all false
set_option maxRecDepth 100000
set_option maxHeartbeats 2000000
/-! LibM4: powers of a row, whole. -/
namespace VM
open PySem
variable (n : Nat) {D : Nat} [hD : Dk D]
theorem c_power {l : List Rat} {c rest size : Nat} (hr : Dl D c 0 (1 :: l)) (hm : rest ≤ 10) (hl : rest ≤ l.length) (hll : l.length ≤ 10) (hs : size ≤ 10) (hA : c ≤ 4000000) :
    callP Pr (n + 4) 50 [svs l, .int size, .int rest] = .ok (sv ((powT (1 :: l) rest size).getD rest 0)) := by
  rw [call_eq (d := D50) rfl rfl]
  have g6 : Pr.G 6 = some (sv 1) := rfl
  have g7 : Pr.G 7 = some (sv 0) := rfl
  have hsm : smallR 0 (size : Int) = true := by unfold smallR; apply decide_eq_true; omega
  have hsm2 : smallR 0 ((rest : Int) + 1) = true := by unfold smallR; apply decide_eq_true; omega
  have ht : ((rest : Int) + 1).toNat = rest + 1 := by omega
  have ar : op2 .add (.lst [sv 1]) (svs l) = .ok (svs (1 :: l)) := by
    have : 1 + l.length ≤ 16777216 := by omega
    simp [svs, lineN, this]
  have am : op2 .mul (.lst [sv 0]) (.int rest) = .ok (svs (List.replicate rest 0)) := by
    have e : (List.replicate rest [sv 0]).flatten = (List.replicate rest (0 : Rat)).map sv := by
      rw [List.map_replicate]
      generalize sv 0 = z
      induction rest with
      | zero => rfl
      | succ k ih => simp [List.replicate_succ, ih (by omega) (by omega)]
    have h1 : (decide (-(2 ^ 63) ≤ (rest : Int) ∧ (rest : Int) < 2 ^ 63 ∧ ([sv 0] : List Val).length * (rest : Int).toNat ≤ lineN)) = true := by
      apply decide_eq_true
      refine ⟨by omega, by omega, ?_⟩
      simp [lineN]; omega
    rw [Int.toNat_natCast] at h1
    simp only [op2, Int.toNat_natCast, h1, if_true, e, svs]
  have af : op2 .add (.lst [sv 1]) (svs (List.replicate rest 0)) = .ok (svs (powT (1 :: l) rest 0)) := by
    have : 1 + rest ≤ 16777216 := by omega
    simp [svs, lineN, this, powT]
  obtain ⟨ρ', e1, y5, y6, y7, y8, y9, rfl⟩ := forGo_map (bind := bindS (.nm 5)) (body := exs (Pr.tab (n + 3)) ((D50.body.at 2).inner)) (fun (i : Nat) => Val.int (0 + (i : Int) * 1))
    (fun pre ρ => ∃ y5 y6 y7 y8 y9, ρ = [.sh (svs l), .sh (.int size), .sh (.int rest), .sh (svs (1 :: l)), .sh (svs (powT (1 :: l) rest pre.length)), y5, y6, y7, y8, y9]) (List.range size) []
    [.sh (svs l), .sh (.int size), .sh (.int rest), .sh (svs (1 :: l)), .sh (svs (powT (1 :: l) rest 0)), .no, .no, .no, .no, .no] ⟨.no, .no, .no, .no, .no, rfl⟩ (by
      rintro p i q ρ hp ⟨y5, y6, y7, y8, y9, rfl⟩
      rw [List.nil_append] at hp
      obtain ⟨hi, hpl⟩ := rng_at hp
      subst hi
      have hB : 9000 * p.length ≤ 1000000 := by omega
      obtain ⟨z7, z8, z9, hz⟩ := turn_pow n (s0 := .sh (svs l)) (s1 := .sh (.int size)) (s5 := .sh (.int p.length)) hr (powT_dl hr hm (by simp; omega) p.length) hm (by simp; omega) (powT_len _ _ _) hA hB y7 y8 y9
      refine ⟨[.sh (svs l), .sh (.int size), .sh (.int rest), .sh (svs (1 :: l)), .sh (svs (powT (1 :: l) rest (p.length + 1))), .sh (.int p.length), .sh (svs (powT (1 :: l) rest (p.length + 1))), z7, z8, z9], ?_, .sh (.int p.length), .sh (svs (powT (1 :: l) rest (p.length + 1))), z7, z8, z9, by simp⟩
      simp only [D50, SB.at, SS.inner] at hz ⊢
      simp [hsm2, ht]
      rw [hz]
      simp [flat, kept, frzs, frz1, powT, svs])
  have hlt : rest < (powT (1 :: l) rest size).length := by rw [powT_len]; omega
  have ix : ixV (svs (powT (1 :: l) rest size)) (.int rest) = .ok (sv ((powT (1 :: l) rest size).getD rest 0)) := svs_ix (i := (rest : Int)) (by omega) (by omega)
  simp only [D50, SB.at, SS.inner] at e1
  have er : rngC 0 1 size = (List.range size).map fun (i : Nat) => Val.int (0 + (i : Int) * 1) := rfl
  simp [D50, g6, g7, ofO, lineN, ar, am, af, hsm, -List.getD_eq_getElem?_getD]
  rw [er, e1]
  simp [ix, -List.getD_eq_getElem?_getD]
end VM

set_option Elab.async false
set_option linter.all false
set_option maxRecDepth 100000
set_option maxHeartbeats 2000000
/-! LibM5: what a sum is multiplied by. -/
namespace VM
open PySem
variable (n : Nat) {D : Nat} [hD : Dk D]
def weightF (k : Kind) (l : List Rat) (many size : Nat) : Rat := match k with
  | .rows => (1 :: l).getD (many - size) 0
  | .all => ((chosenF ((many - 1 : Nat) : Int) (size - 1) : Int) : Rat) * (1 :: l).getD (many - size) 0
  | .nested => (powT (1 :: l) (many - size) size).getD (many - size) 0
theorem sv_int (c : Int) : sv (c : Rat) = .tup [.int c, .int 1] := rfl
theorem weight_dz (k : Kind) {l : List Rat} {c many size : Nat} (hr : Dl D c 0 (1 :: l)) (h1 : 1 ≤ size) (h2 : size ≤ many) (h3 : many ≤ 10) (hl : many - size ≤ l.length) : Dz D (many - size) (c * (many - size) + 9000 * size) (weightF k l many size) := by
  have d := hr (many - size) (by simp; omega)
  cases k with
  | rows => exact d.mono (by omega)
  | all =>
    have c := (chosen_ok (many - 1) (by omega) (size - 1) (by omega) (by omega)).1
    have dc : Dz D 0 10 ((chosenF ((many - 1 : Nat) : Int) (size - 1) : Int) : Rat) := ⟨Nat.one_dvd _, c⟩
    have e := dc.mul d (by omega) (by omega)
    rw [Nat.zero_add] at e
    exact e.mono (by omega)
  | nested =>
    exact powT_dl hr (rest := many - size) (by omega) (by simp; omega) size (many - size) (by rw [powT_len]; omega)
def isRows : Kind → Bool
  | .rows => true
  | _ => false
def isAll : Kind → Bool
  | .all => true
  | _ => false
theorem eq_rows (k : Kind) : op2 .eq (kv k) (.str (Str.ofString "rows")) = .ok (.bl (isRows k)) := by cases k <;> exact ok_of (by decide +kernel)
theorem eq_all (k : Kind) : op2 .eq (kv k) (.str (Str.ofString "all")) = .ok (.bl (isAll k)) := by cases k <;> exact ok_of (by decide +kernel)
theorem c_weight (k : Kind) {l : List Rat} {c many size : Nat} (hr : Dl D c 0 (1 :: l)) (h1 : 1 ≤ size) (h2 : size ≤ many) (h3 : many ≤ 10) (hl : many - size ≤ l.length) (hll : l.length ≤ 10) (hA : c ≤ 4000000) :
    callP Pr (n + 5) 51 [kv k, svs l, .int many, .int size] = .ok (sv (weightF k l many size)) := by
  rw [call_eq (d := D51) rfl rfl]
  have g6 : Pr.G 6 = some (sv 1) := rfl
  have hs : ((many : Int) - size) = ((many - size : Nat) : Int) := by omega
  have ar : op2 .add (.lst [sv 1]) (svs l) = .ok (svs (1 :: l)) := by
    have : 1 + l.length ≤ 16777216 := by omega
    simp [svs, lineN, this]
  have ix : ixV (svs (1 :: l)) (.int ((many - size : Nat) : Int)) = .ok (sv ((1 :: l).getD (many - size) 0)) := svs_ix (i := ((many - size : Nat) : Int)) (by omega) (by simp; omega)
  have er := eq_rows k
  have ea := eq_all k
  cases k with
  | rows => simp [D51, isRows, isAll, hs, er, g6, ofO, lineN, ar, ix, weightF, -List.getD_eq_getElem?_getD]
  | all =>
    have m1 : ((many : Int) - 1) = ((many - 1 : Nat) : Int) := by omega
    have s1 : ((size : Int) - 1) = ((size - 1 : Nat) : Int) := by omega
    have ck := (chosen_ok (many - 1) (by omega) (size - 1) (by omega) (by omega)).1
    have dc : Dz D 0 10 ((chosenF ((many - 1 : Nat) : Int) (size - 1) : Int) : Rat) := ⟨Nat.one_dvd _, ck⟩
    have d := hr (many - size) (by simp; omega)
    have b1 := cb (i := many - size) hA (by omega)
    have cc : callP Pr (n + 4) 49 [.int ((many - 1 : Nat) : Int), .int ((size - 1 : Nat) : Int)] = .ok (.int (chosenF ((many - 1 : Nat) : Int) (size - 1))) := c_chosen (n + 3) (by omega) (by omega)
    have cg : callP Pr (n + 4) 9 [.tup [.int (chosenF ((many - 1 : Nat) : Int) (size - 1)), .int 1], sv ((1 :: l).getD (many - size) 0)] = .ok (sv (weightF .all l many size)) := by
      rw [← sv_int]; exact c_grow (n + 1) (dc.sz (by omega)) (d.sz (by omega))
    simp [D51, isRows, isAll, hs, m1, s1, er, ea, g6, ofO, lineN, ar, ix, cc, cg, -List.getD_eq_getElem?_getD]
  | nested =>
    have cp : callP Pr (n + 4) 50 [svs l, .int size, .int ((many - size : Nat) : Int)] = .ok (sv (weightF .nested l many size)) := c_power n hr (by omega) hl hll (by omega) hA
    simp [D51, isRows, isAll, hs, er, ea, cp, -List.getD_eq_getElem?_getD]
end VM

set_option Elab.async false
set_option linter.all false
set_option maxRecDepth 100000
set_option maxHeartbeats 2000000
/-! LibM6: sums of means, means of sums. -/
namespace VM
open PySem
variable (n : Nat)
def subS (k : Kind) (l f : List Rat) (many : Nat) : Nat → Rat
  | 0 => l.getD (many - 1) 0
  | s + 1 => subS k l f many s - f.getD s 0 * weightF k l many (s + 1)
def sumsT (k : Kind) (l : List Rat) : Nat → List Rat
  | 0 => []
  | m + 1 => sumsT k l m ++ [subS k l (sumsT k l m) (m + 1) m]
def addS (k : Kind) (s f : List Rat) (many : Nat) : Nat → Rat
  | 0 => 0
  | t + 1 => addS k s f many t + s.getD t 0 * weightF k f many (t + 1)
def meansT (k : Kind) (s : List Rat) : Nat → List Rat
  | 0 => []
  | m + 1 => meansT k s m ++ [addS k s (meansT k s m) (m + 1) (m + 1)]
theorem sumsT_len (k : Kind) (l : List Rat) : ∀ m, (sumsT k l m).length = m
  | 0 => rfl
  | m + 1 => by simp [sumsT, sumsT_len k l m]
theorem meansT_len (k : Kind) (l : List Rat) : ∀ m, (meansT k l m).length = m
  | 0 => rfl
  | m + 1 => by simp [meansT, meansT_len k l m]
/-- weights read only the beginning -/
theorem powT_pre {a b : List Rat} {rest : Nat} (h : ∀ i, i ≤ rest → a.getD i 0 = b.getD i 0) : ∀ t, powT a rest t = powT b rest t
  | 0 => rfl
  | t + 1 => by
    simp only [powT, powT_pre h t]
    refine List.map_congr_left fun m hm => ?_
    have hm' : m < rest + 1 := List.mem_range.mp hm
    have : ∀ j, j ≤ m + 1 → convS a (powT b rest t) m j = convS b (powT b rest t) m j := by
      intro j
      induction j with
      | zero => intro _; rfl
      | succ j ih => intro hj; simp only [convS, ih (by omega), h j (by omega)]
    exact this _ (Nat.le_refl _)
theorem weight_pre (k : Kind) {a b : List Rat} {many size : Nat} (h : ∀ i, i < many - size → a.getD i 0 = b.getD i 0) : weightF k a many size = weightF k b many size := by
  have h' : ∀ i, i ≤ many - size → (1 :: a).getD i 0 = (1 :: b).getD i 0 := fun i hi => by
    cases i with
    | zero => rfl
    | succ i => simpa [List.getD] using h i (by omega)
  cases k with
  | rows => exact h' _ (Nat.le_refl _)
  | all => unfold weightF; rw [h' _ (Nat.le_refl _)]
  | nested => unfold weightF; rw [powT_pre h']
theorem powT_one (a : List Rat) : ∀ t, (powT (1 :: a) 0 t).getD 0 0 = 1
  | 0 => rfl
  | t + 1 => by
    have := powT_one a t
    simp only [powT, List.getD] at this ⊢
    simp [convS, this]
    exact Rat.zero_add 1
theorem weight_one (k : Kind) (a : List Rat) {many : Nat} (h1 : 1 ≤ many) (h : many ≤ 10) : weightF k a many many = 1 := by
  have e : many - many = 0 := Nat.sub_self _
  cases k with
  | rows => unfold weightF; simp only [e]; rfl
  | all =>
    unfold weightF
    have := (chosen_ok (many - 1) (by omega) (many - 1) (by omega) (Nat.le_refl _)).2.1 rfl
    rw [this]; simp only [e]
    show ((1 : Int) : Rat) * 1 = 1
    rw [Rat.mul_one]; rfl
  | nested => unfold weightF; simp only [e]; exact powT_one a many
end VM

set_option Elab.async false
set_option linter.all false
set_option maxRecDepth 100000
set_option maxHeartbeats 2000000
/-! LibM7: sums and means undo one another. -/
namespace VM
open PySem
theorem getD_app {a : List Rat} {x : Rat} {i : Nat} (h : i < a.length) : (a ++ [x]).getD i 0 = a.getD i 0 := by
  simp [List.getD, List.getElem?_append_left h]
theorem getD_last {a : List Rat} {x : Rat} {m : Nat} (h : a.length = m) : (a ++ [x]).getD m 0 = x := by
  subst h; simp [List.getD]
theorem addS_pre (k : Kind) {a b f : List Rat} {many : Nat} : ∀ t, (∀ i, i < t → a.getD i 0 = b.getD i 0) → addS k a f many t = addS k b f many t
  | 0, _ => rfl
  | t + 1, h => by simp only [addS, addS_pre k t (fun i hi => h i (by omega)), h t (by omega)]
theorem meansT_pre (k : Kind) {a b : List Rat} : ∀ m, (∀ i, i < m → a.getD i 0 = b.getD i 0) → meansT k a m = meansT k b m
  | 0, _ => rfl
  | m + 1, h => by simp only [meansT, meansT_pre k m (fun i hi => h i (by omega)), addS_pre k (m + 1) h]
theorem take_succD {l : List Rat} {m : Nat} (h : m < l.length) : l.take (m + 1) = l.take m ++ [l.getD m 0] := by
  rw [List.take_add_one]; simp [List.getD, h]
theorem take_getD {l : List Rat} {m i : Nat} (h : i < m) : (l.take m).getD i 0 = l.getD i 0 := by
  simp [List.getD, List.getElem?_take, h]
theorem undo_sm (k : Kind) (l : List Rat) : ∀ m, m ≤ l.length → m ≤ 10 → meansT k (sumsT k l m) m = l.take m
  | 0, _, _ => by simp [meansT]
  | m + 1, h, h10 => by
    have ih := undo_sm k l m (by omega) (by omega)
    have e1 : meansT k (sumsT k l (m + 1)) m = l.take m := by
      rw [← ih]
      exact meansT_pre k m (fun i hi => by simp only [sumsT]; exact getD_app (by rw [sumsT_len]; exact hi))
    rw [take_succD (by omega)]
    simp only [meansT, e1]
    congr 1
    congr 1
    have w : ∀ t, t < m + 1 → weightF k (l.take m) (m + 1) (t + 1) = weightF k l (m + 1) (t + 1) := fun t ht => weight_pre k (fun i hi => take_getD (by omega))
    have key : ∀ t, t ≤ m → addS k (sumsT k l (m + 1)) (l.take m) (m + 1) t + subS k l (sumsT k l m) (m + 1) t = l.getD m 0 := by
      intro t
      induction t with
      | zero => intro _; simp only [addS, subS]; exact Rat.zero_add _
      | succ t iht =>
        intro ht
        have i1 := iht (by omega)
        have g : (sumsT k l (m + 1)).getD t 0 = (sumsT k l m).getD t 0 := by simp only [sumsT]; exact getD_app (by rw [sumsT_len]; omega)
        simp only [addS, subS, g, w t (by omega)]
        grind
    have last := key m (Nat.le_refl _)
    have g : (sumsT k l (m + 1)).getD m 0 = subS k l (sumsT k l m) (m + 1) m := by simp only [sumsT]; exact getD_last (sumsT_len k l m)
    simp only [addS, w m (by omega), weight_one k l (show 1 ≤ m + 1 by omega) h10]
    rw [g]
    grind
theorem subS_pre (k : Kind) {a b f : List Rat} {m : Nat} (h : ∀ i, i < m + 1 → a.getD i 0 = b.getD i 0) : ∀ t, subS k a f (m + 1) t = subS k b f (m + 1) t
  | 0 => by simp only [subS]; exact h _ (by omega)
  | t + 1 => by simp only [subS, subS_pre k h t, weight_pre k (a := a) (b := b) (many := m + 1) (size := t + 1) (fun i hi => h i (by omega))]
theorem sumsT_pre (k : Kind) {a b : List Rat} : ∀ m, (∀ i, i < m → a.getD i 0 = b.getD i 0) → sumsT k a m = sumsT k b m
  | 0, _ => rfl
  | m + 1, h => by simp only [sumsT, sumsT_pre k m (fun i hi => h i (by omega)), subS_pre k h]
theorem undo_ms (k : Kind) (l : List Rat) : ∀ m, m ≤ l.length → m ≤ 10 → sumsT k (meansT k l m) m = l.take m
  | 0, _, _ => by simp [sumsT]
  | m + 1, h, h10 => by
    have ih := undo_ms k l m (by omega) (by omega)
    have gM : ∀ i, i < m → (meansT k l (m + 1)).getD i 0 = (meansT k l m).getD i 0 := fun i hi => by simp only [meansT]; exact getD_app (by rw [meansT_len]; exact hi)
    have e1 : sumsT k (meansT k l (m + 1)) m = l.take m := by
      rw [← ih]
      exact sumsT_pre k m gM
    rw [take_succD (by omega)]
    have es : sumsT k (meansT k l (m + 1)) (m + 1) = sumsT k (meansT k l (m + 1)) m ++ [subS k (meansT k l (m + 1)) (sumsT k (meansT k l (m + 1)) m) (m + 1) m] := rfl
    rw [es, e1]
    congr 1
    congr 1
    have w : ∀ t, t < m + 1 → weightF k (meansT k l (m + 1)) (m + 1) (t + 1) = weightF k (meansT k l m) (m + 1) (t + 1) := fun t ht => weight_pre k (fun i hi => gM i (by omega))
    have last : (meansT k l (m + 1)).getD m 0 = addS k l (meansT k l m) (m + 1) (m + 1) := by simp only [meansT]; exact getD_last (meansT_len k l m)
    have key : ∀ t, t ≤ m → subS k (meansT k l (m + 1)) (l.take m) (m + 1) t + addS k l (meansT k l m) (m + 1) t = addS k l (meansT k l m) (m + 1) (m + 1) := by
      intro t
      induction t with
      | zero =>
        intro _
        simp only [subS, Nat.add_sub_cancel, last]
        have : addS k l (meansT k l m) (m + 1) 0 = 0 := rfl
        rw [this]; exact Rat.add_zero _
      | succ t iht =>
        intro ht
        have i1 := iht (by omega)
        have e2 : addS k l (meansT k l m) (m + 1) (t + 1) = addS k l (meansT k l m) (m + 1) t + l.getD t 0 * weightF k (meansT k l m) (m + 1) (t + 1) := rfl
        have e3 : subS k (meansT k l (m + 1)) (l.take m) (m + 1) (t + 1) = subS k (meansT k l (m + 1)) (l.take m) (m + 1) t - l.getD t 0 * weightF k (meansT k l m) (m + 1) (t + 1) := by
          simp only [subS, w t (by omega), take_getD (show t < m by omega)]
        rw [e2, e3]
        grind
    have k1 := key m (Nat.le_refl _)
    have e4 : addS k l (meansT k l m) (m + 1) (m + 1) = addS k l (meansT k l m) (m + 1) m + l.getD m 0 := by
      have : addS k l (meansT k l m) (m + 1) (m + 1) = addS k l (meansT k l m) (m + 1) m + l.getD m 0 * weightF k (meansT k l m) (m + 1) (m + 1) := rfl
      rw [this, weight_one k _ (show 1 ≤ m + 1 by omega) h10, Rat.mul_one]
    rw [e4] at k1
    grind
end VM

set_option Elab.async false
set_option linter.all false
set_option maxRecDepth 100000
set_option maxHeartbeats 2000000
/-! LibM8: sums_of, inner loop. -/
namespace VM
open PySem
variable (n : Nat) {D : Nat} [hD : Dk D]
theorem subS_dz (k : Kind) {l f : List Rat} {c m : Nat} (hr : Dl D c 0 (1 :: l)) (hf : ∀ i, i < f.length → Dz D (i + 1) ((c + 100000) * (i + 1)) (f.getD i 0)) (hm : m < l.length) (h10 : m < 10) (hfl : f.length = m) : ∀ t, t ≤ m → Dz D (m + 1) (c * (m + 1) + 100000 * m + 81001 + 802 * t) (subS k l f (m + 1) t)
  | 0, _ => by
    have := hr (m + 1) (by simp; omega)
    simp only [subS, Nat.add_sub_cancel]
    exact Dz.mono this (by omega)
  | t + 1, ht => by
    have h := subS_dz k hr hf hm h10 hfl t (by omega)
    have w := weight_dz k hr (many := m + 1) (size := t + 1) (by omega) (by omega) (by omega) (by omega)
    have g := (hf t (by omega)).mul w (by omega) (by omega)
    rw [show t + 1 + (m + 1 - (t + 1)) = m + 1 by omega] at g
    have hc : c * (t + 1) + c * (m + 1 - (t + 1)) = c * (m + 1) := cab (by omega)
    have hc2 : (c + 100000) * (t + 1) = c * (t + 1) + 100000 * (t + 1) := Nat.add_mul _ _ _
    refine (h.sub g (by omega)).mono ?_
    omega
theorem sum_loop (k : Kind) {l f : List Rat} {c m : Nat} (hr : Dl D c 0 (1 :: l)) (hf : ∀ i, i < f.length → Dz D (i + 1) ((c + 100000) * (i + 1)) (f.getD i 0)) (hm : m < l.length) (h10 : l.length ≤ 10) (hfl : f.length = m) (hA : c ≤ 3000000) (x : Slot) :
    ∃ y, forGo (bindS (.nm 5)) (exs (Pr.tab (n + 5)) ((((D54.body.at 1).inner).at 1).inner)) (rngC 1 1 m)
      [.sh (svs l), .sh (kv k), .ow (f.map sv), .sh (.int ((m + 1 : Nat) : Int)), .sh (sv (l.getD m 0)), x] = .ok (.nx, [.sh (svs l), .sh (kv k), .ow (f.map sv), .sh (.int ((m + 1 : Nat) : Int)), .sh (sv (subS k l f (m + 1) m)), y]) := by
  obtain ⟨ρ', e1, y, rfl⟩ := forGo_map (bind := bindS (.nm 5)) (body := exs (Pr.tab (n + 5)) ((((D54.body.at 1).inner).at 1).inner)) (fun (i : Nat) => Val.int (1 + (i : Int) * 1))
    (fun pre ρ => ∃ y, ρ = [.sh (svs l), .sh (kv k), .ow (f.map sv), .sh (.int ((m + 1 : Nat) : Int)), .sh (sv (subS k l f (m + 1) pre.length)), y]) (List.range m) []
    [.sh (svs l), .sh (kv k), .ow (f.map sv), .sh (.int ((m + 1 : Nat) : Int)), .sh (sv (l.getD m 0)), x] ⟨x, rfl⟩ (by
      rintro p i q ρ hp ⟨y, rfl⟩
      rw [List.nil_append] at hp
      obtain ⟨hi, hpl⟩ := rng_at hp
      subst hi
      have d1 := subS_dz k hr hf hm (by omega) hfl p.length (by omega)
      have d2 := hf p.length (by omega)
      have d3 := weight_dz k hr (many := m + 1) (size := p.length + 1) (by omega) (by omega) (by omega) (by omega)
      have d4 := d2.mul d3 (by omega) (by omega)
      rw [show p.length + 1 + (m + 1 - (p.length + 1)) = m + 1 by omega] at d4
      have b1 := cb (c := c + 100000) (i := p.length + 1) (by omega) (by omega)
      have b2 := cb (c := c) (i := m + 1) (by omega) (by omega)
      have b3 := cb (c := c) (i := m + 1 - (p.length + 1)) (by omega) (by omega)
      have hidx : (1 : Int) + (p.length : Int) = ((p.length + 1 : Nat) : Int) := by omega
      have cw : callP Pr (n + 5) 51 [kv k, svs l, .int ((m + 1 : Nat) : Int), .int ((p.length + 1 : Nat) : Int)] = .ok (sv (weightF k l (m + 1) (p.length + 1))) := c_weight n k hr (by omega) (by omega) (by omega) (by omega) h10 (by omega)
      have i1 : ixV (.lst (f.map sv)) (.int (((p.length + 1 : Nat) : Int) - 1)) = .ok (sv (f.getD p.length 0)) := by
        rw [show ((p.length + 1 : Nat) : Int) - 1 = (p.length : Int) by omega]
        exact svs_ix (l := f) (i := (p.length : Int)) (by omega) (by omega)
      have c9 : callP Pr (n + 5) 9 [sv (f.getD p.length 0), sv (weightF k l (m + 1) (p.length + 1))] = .ok (sv (f.getD p.length 0 * weightF k l (m + 1) (p.length + 1))) := c_grow (n + 2) (d2.sz (by omega)) (d3.sz (by omega))
      have c8 : callP Pr (n + 5) 8 [sv (subS k l f (m + 1) p.length), sv (f.getD p.length 0 * weightF k l (m + 1) (p.length + 1))] = .ok (sv (subS k l f (m + 1) (p.length + 1))) := c_cut (n + 2) (d1.sz (by omega)) (d4.sz (by omega))
      have hfl2 : ∀ q : Rat, flat (sv q) = true := fun _ => rfl
      refine ⟨[.sh (svs l), .sh (kv k), .ow (f.map sv), .sh (.int ((m + 1 : Nat) : Int)), .sh (sv (subS k l f (m + 1) (p.length + 1))), .sh (.int ((p.length + 1 : Nat) : Int))], ?_, .sh (.int ((p.length + 1 : Nat) : Int)), by simp⟩
      simp only [D54, SB.at, SS.inner, Int.mul_one, hidx]
      simp [-List.getD_eq_getElem?_getD, -Int.natCast_add, cw, i1, c9, c8, kept, hfl2])
  have : rngC 1 1 m = (List.range m).map fun (i : Nat) => Val.int (1 + (i : Int) * 1) := rfl
  rw [this, e1]
  exact ⟨y, by simp⟩
end VM

set_option Elab.async false
set_option linter.all false
set_option maxRecDepth 100000
set_option maxHeartbeats 2000000
/-! LibM9: sums_of, means_of, whole. -/
namespace VM
open PySem
variable (n : Nat) {D : Nat} [hD : Dk D]
theorem sums_dz (k : Kind) {l : List Rat} {c : Nat} (hr : Dl D c 0 (1 :: l)) (h10 : l.length ≤ 10) : ∀ m, m ≤ l.length → ∀ i, i < (sumsT k l m).length → Dz D (i + 1) ((c + 100000) * (i + 1)) ((sumsT k l m).getD i 0)
  | 0, _, i, hi => by simp [sumsT] at hi
  | m + 1, h, i, hi => by
    have ih := sums_dz k hr h10 m (by omega)
    rw [sumsT_len] at hi ih
    by_cases him : i < m
    · have e : (sumsT k l (m + 1)).getD i 0 = (sumsT k l m).getD i 0 := by simp only [sumsT]; exact getD_app (by rw [sumsT_len]; exact him)
      rw [e]
      exact ih i him
    · have e : i = m := by omega
      subst e
      have e : (sumsT k l (i + 1)).getD i 0 = subS k l (sumsT k l i) (i + 1) i := by simp only [sumsT]; exact getD_last (sumsT_len k l i)
      rw [e]
      have := subS_dz k hr (m := i) (f := sumsT k l i) (fun j hj => ih j (by rw [sumsT_len] at hj; exact hj)) (by omega) (by omega) (sumsT_len k l i) i (Nat.le_refl _)
      refine this.mono ?_
      rw [Nat.add_mul]
      omega
theorem one_dl {c : Nat} {l : List Rat} (h : ∀ i, i < l.length → Dz D (i + 1) (c * (i + 1)) (l.getD i 0)) : Dl D c 0 (1 :: l) := fun i hi => by
  cases i with
  | zero => exact dz1 _ _ _
  | succ i =>
    have := h i (by simpa using hi)
    simpa [List.getD] using this
theorem sums_dl (k : Kind) {l : List Rat} {c : Nat} (hr : Dl D c 0 (1 :: l)) (h10 : l.length ≤ 10) (m : Nat) (hm : m ≤ l.length) : Dl D (c + 100000) 0 (1 :: sumsT k l m) := one_dl (sums_dz k hr h10 m hm)
theorem sum_step (k : Kind) {l : List Rat} {c m : Nat} (hr : Dl D c 0 (1 :: l)) (hm : m < l.length) (h10 : l.length ≤ 10) (hA : c ≤ 3000000) (x3 x4 x5 : Slot) :
    ∃ y5, exs (Pr.tab (n + 5)) ((D54.body.at 1).inner) [.sh (svs l), .sh (kv k), .ow ((sumsT k l m).map sv), .sh (.int (1 + (m : Int) * 1)), x4, x5] = .ok (.nx, [.sh (svs l), .sh (kv k), .ow ((sumsT k l (m + 1)).map sv), .sh (.int (1 + (m : Int) * 1)), .sh (sv (subS k l (sumsT k l m) (m + 1) m)), y5]) := by
  have hz := sums_dz k hr h10 m (by omega)
  obtain ⟨y, e⟩ := sum_loop n k (f := sumsT k l m) hr hz hm h10 (sumsT_len k l m) hA x5
  refine ⟨y, ?_⟩
  have hidx : (1 : Int) + (m : Int) * 1 = ((m + 1 : Nat) : Int) := by omega
  have i1 : ixV (svs l) (.int (((m + 1 : Nat) : Int) - 1)) = .ok (sv (l.getD m 0)) := by
    rw [show ((m + 1 : Nat) : Int) - 1 = (m : Int) by omega]
    exact svs_ix (i := (m : Int)) (by omega) (by omega)
  have hsm : smallR 1 (((m + 1 : Nat) : Int)) = true := by unfold smallR; apply decide_eq_true; omega
  have ht : (((m + 1 : Nat) : Int) - 1).toNat = m := by omega
  have hlt : (sumsT k l m).length < 16777216 := by rw [sumsT_len]; omega
  have hf1 : ∀ q : Rat, flat (sv q) = true := fun _ => rfl
  rw [hidx]
  simp only [D54, SB.at, SS.inner] at e ⊢
  simp [-List.getD_eq_getElem?_getD, -Int.natCast_add, i1, hsm, ht]
  rw [e]
  simp [-List.getD_eq_getElem?_getD, hlt, lineN, hf1, sumsT]
theorem c_sums (k : Kind) {l : List Rat} {c : Nat} (hr : Dl D c 0 (1 :: l)) (h10 : l.length ≤ 10) (hA : c ≤ 3000000) :
    callP Pr (n + 6) 54 [svs l, kv k] = .ok (svs (sumsT k l l.length)) := by
  rw [call_eq (d := D54) rfl rfl]
  obtain ⟨ρ', e1, y3, y4, y5, rfl⟩ := forGo_map (bind := bindS (.nm 3)) (body := exs (Pr.tab (n + 5)) ((D54.body.at 1).inner)) (fun (i : Nat) => Val.int (1 + (i : Int) * 1))
    (fun pre ρ => ∃ y3 y4 y5, ρ = [.sh (svs l), .sh (kv k), .ow ((sumsT k l pre.length).map sv), y3, y4, y5]) (List.range l.length) []
    [.sh (svs l), .sh (kv k), .ow [], .no, .no, .no] ⟨.no, .no, .no, rfl⟩ (by
      rintro p i q ρ hp ⟨y3, y4, y5, rfl⟩
      rw [List.nil_append] at hp
      obtain ⟨hi, hpl⟩ := rng_at hp
      subst hi
      obtain ⟨z5, hz⟩ := sum_step n k hr hpl h10 hA y3 y4 y5
      refine ⟨[.sh (svs l), .sh (kv k), .ow ((sumsT k l (p.length + 1)).map sv), .sh (.int (1 + (p.length : Int) * 1)), .sh (sv (subS k l (sumsT k l p.length) (p.length + 1) p.length)), z5], ?_, .sh (.int (1 + (p.length : Int) * 1)), .sh (sv (subS k l (sumsT k l p.length) (p.length + 1) p.length)), z5, by simp⟩
      rw [← hz]
      simp only [D54, SB.at, SS.inner]
      simp)
  have hsm : smallR 1 ((l.length : Int) + 1) = true := by unfold smallR; apply decide_eq_true; omega
  have ht : ((l.length : Int) + 1 - 1).toNat = l.length := by omega
  have er : rngC 1 1 l.length = (List.range l.length).map fun (i : Nat) => Val.int (1 + (i : Int) * 1) := rfl
  have el : bi1 .len [svs l] = .ok (.int l.length) := by simp [svs]
  simp only [D54, SB.at, SS.inner] at e1
  simp [D54, el, hsm, ht]
  rw [er, e1]
  simp [ex, svs]
/-! ### means -/
theorem addS_dz (k : Kind) {s f : List Rat} {c m : Nat} (hs : Dl D c 0 (1 :: s)) (hf : Dl D (c + 20000) 0 (1 :: f)) (hm : m < s.length) (h10 : m < 10) (hfl : f.length = m) : ∀ t, t ≤ m + 1 → Dz D (m + 1) (c * (m + 1) + 20000 * m + 9001 + 802 * t) (addS k s f (m + 1) t)
  | 0, _ => dz0 _ _ _
  | t + 1, ht => by
    have h := addS_dz k hs hf hm h10 hfl t (by omega)
    have w := weight_dz k hf (many := m + 1) (size := t + 1) (by omega) (by omega) (by omega) (by omega)
    have ht1 := hs (t + 1) (by simp; omega)
    have e1 : (1 :: s).getD (t + 1) 0 = s.getD t 0 := by simp [List.getD]
    rw [e1] at ht1
    have g := ht1.mul w (by omega) (by omega)
    rw [show t + 1 + (m + 1 - (t + 1)) = m + 1 by omega] at g
    have hc : c * (t + 1) + c * (m + 1 - (t + 1)) = c * (m + 1) := cab (by omega)
    have hc2 : (c + 20000) * (m + 1 - (t + 1)) = c * (m + 1 - (t + 1)) + 20000 * (m + 1 - (t + 1)) := Nat.add_mul _ _ _
    refine (h.add g (by omega)).mono ?_
    omega
theorem means_dz (k : Kind) {s : List Rat} {c : Nat} (hs : Dl D c 0 (1 :: s)) (h10 : s.length ≤ 10) : ∀ m, m ≤ s.length → ∀ i, i < (meansT k s m).length → Dz D (i + 1) ((c + 20000) * (i + 1)) ((meansT k s m).getD i 0)
  | 0, _, i, hi => by simp [meansT] at hi
  | m + 1, h, i, hi => by
    have ih := means_dz k hs h10 m (by omega)
    have ih2 := one_dl ih
    rw [meansT_len] at hi ih
    by_cases him : i < m
    · have e : (meansT k s (m + 1)).getD i 0 = (meansT k s m).getD i 0 := by simp only [meansT]; exact getD_app (by rw [meansT_len]; exact him)
      rw [e]
      exact ih i him
    · have e : i = m := by omega
      subst e
      have e : (meansT k s (i + 1)).getD i 0 = addS k s (meansT k s i) (i + 1) (i + 1) := by simp only [meansT]; exact getD_last (meansT_len k s i)
      rw [e]
      have := addS_dz k (m := i) (f := meansT k s i) hs ih2 (by omega) (by omega) (meansT_len k s i) (i + 1) (Nat.le_refl _)
      refine this.mono ?_
      rw [Nat.add_mul]
      omega
theorem means_dl (k : Kind) {l : List Rat} {c : Nat} (hr : Dl D c 0 (1 :: l)) (h10 : l.length ≤ 10) (m : Nat) (hm : m ≤ l.length) : Dl D (c + 20000) 0 (1 :: meansT k l m) := one_dl (means_dz k hr h10 m hm)
theorem mean_loop (k : Kind) {l f : List Rat} {c m : Nat} (hr : Dl D c 0 (1 :: l)) (hf : Dl D (c + 20000) 0 (1 :: f)) (hm : m < l.length) (h10 : l.length ≤ 10) (hfl : f.length = m) (hA : c ≤ 3000000) (x : Slot) :
    ∃ y, forGo (bindS (.nm 5)) (exs (Pr.tab (n + 5)) ((((D55.body.at 1).inner).at 1).inner)) (rngC 1 1 (m + 1))
      [.sh (svs l), .sh (kv k), .ow (f.map sv), .sh (.int ((m + 1 : Nat) : Int)), .sh (sv 0), x] = .ok (.nx, [.sh (svs l), .sh (kv k), .ow (f.map sv), .sh (.int ((m + 1 : Nat) : Int)), .sh (sv (addS k l f (m + 1) (m + 1))), y]) := by
  obtain ⟨ρ', e1, y, rfl⟩ := forGo_map (bind := bindS (.nm 5)) (body := exs (Pr.tab (n + 5)) ((((D55.body.at 1).inner).at 1).inner)) (fun (i : Nat) => Val.int (1 + (i : Int) * 1))
    (fun pre ρ => ∃ y, ρ = [.sh (svs l), .sh (kv k), .ow (f.map sv), .sh (.int ((m + 1 : Nat) : Int)), .sh (sv (addS k l f (m + 1) pre.length)), y]) (List.range (m + 1)) []
    [.sh (svs l), .sh (kv k), .ow (f.map sv), .sh (.int ((m + 1 : Nat) : Int)), .sh (sv 0), x] ⟨x, rfl⟩ (by
      rintro p i q ρ hp ⟨y, rfl⟩
      rw [List.nil_append] at hp
      obtain ⟨hi, hpl⟩ := rng_at hp
      subst hi
      have d1 := addS_dz k hr hf hm (by omega) hfl p.length (by omega)
      have d2 := hr (p.length + 1) (by simp; omega)
      have e1 : (1 :: l).getD (p.length + 1) 0 = l.getD p.length 0 := by simp [List.getD]
      rw [e1] at d2
      have d3 := weight_dz k hf (many := m + 1) (size := p.length + 1) (by omega) (by omega) (by omega) (by omega)
      have d4 := d2.mul d3 (by omega) (by omega)
      rw [show p.length + 1 + (m + 1 - (p.length + 1)) = m + 1 by omega] at d4
      have b1 := cb (c := c) (i := p.length + 1) (by omega) (by omega)
      have b2 := cb (c := c) (i := m + 1) (by omega) (by omega)
      have b3 := cb (c := c + 20000) (i := m + 1 - (p.length + 1)) (by omega) (by omega)
      have hidx : (1 : Int) + (p.length : Int) = ((p.length + 1 : Nat) : Int) := by omega
      have cw : callP Pr (n + 5) 51 [kv k, .lst (f.map sv), .int ((m + 1 : Nat) : Int), .int ((p.length + 1 : Nat) : Int)] = .ok (sv (weightF k f (m + 1) (p.length + 1))) := c_weight n k hf (by omega) (by omega) (by omega) (by omega) (by omega) (by omega)
      have i1 : ixV (svs l) (.int (((p.length + 1 : Nat) : Int) - 1)) = .ok (sv (l.getD p.length 0)) := by
        rw [show ((p.length + 1 : Nat) : Int) - 1 = (p.length : Int) by omega]
        exact svs_ix (i := (p.length : Int)) (by omega) (by omega)
      have c9 : callP Pr (n + 5) 9 [sv (l.getD p.length 0), sv (weightF k f (m + 1) (p.length + 1))] = .ok (sv (l.getD p.length 0 * weightF k f (m + 1) (p.length + 1))) := c_grow (n + 2) (d2.sz (by omega)) (d3.sz (by omega))
      have c7 : callP Pr (n + 5) 7 [sv (addS k l f (m + 1) p.length), sv (l.getD p.length 0 * weightF k f (m + 1) (p.length + 1))] = .ok (sv (addS k l f (m + 1) (p.length + 1))) := c_add (n + 2) (d1.sz (by omega)) (d4.sz (by omega))
      have hfl2 : ∀ q : Rat, flat (sv q) = true := fun _ => rfl
      refine ⟨[.sh (svs l), .sh (kv k), .ow (f.map sv), .sh (.int ((m + 1 : Nat) : Int)), .sh (sv (addS k l f (m + 1) (p.length + 1))), .sh (.int ((p.length + 1 : Nat) : Int))], ?_, .sh (.int ((p.length + 1 : Nat) : Int)), by simp⟩
      simp only [D55, SB.at, SS.inner, Int.mul_one, hidx]
      simp [-List.getD_eq_getElem?_getD, -Int.natCast_add, cw, i1, c9, c7, kept, hfl2])
  have : rngC 1 1 (m + 1) = (List.range (m + 1)).map fun (i : Nat) => Val.int (1 + (i : Int) * 1) := rfl
  rw [this, e1]
  exact ⟨y, by simp⟩
theorem mean_step (k : Kind) {l : List Rat} {c m : Nat} (hr : Dl D c 0 (1 :: l)) (hm : m < l.length) (h10 : l.length ≤ 10) (hA : c ≤ 3000000) (x3 x4 x5 : Slot) :
    ∃ y5, exs (Pr.tab (n + 5)) ((D55.body.at 1).inner) [.sh (svs l), .sh (kv k), .ow ((meansT k l m).map sv), .sh (.int (1 + (m : Int) * 1)), x4, x5] = .ok (.nx, [.sh (svs l), .sh (kv k), .ow ((meansT k l (m + 1)).map sv), .sh (.int (1 + (m : Int) * 1)), .sh (sv (addS k l (meansT k l m) (m + 1) (m + 1))), y5]) := by
  have hz := means_dl k hr h10 m (by omega)
  obtain ⟨y, e⟩ := mean_loop n k (f := meansT k l m) hr hz hm h10 (meansT_len k l m) hA x5
  refine ⟨y, ?_⟩
  have hidx : (1 : Int) + (m : Int) * 1 = ((m + 1 : Nat) : Int) := by omega
  have g7 : Pr.G 7 = some (sv 0) := rfl
  have hsm : smallR 1 (((m + 1 : Nat) : Int) + 1) = true := by unfold smallR; apply decide_eq_true; omega
  have ht : (((m + 1 : Nat) : Int) + 1 - 1).toNat = m + 1 := by omega
  have hlt : (meansT k l m).length < 16777216 := by rw [meansT_len]; omega
  have hf1 : ∀ q : Rat, flat (sv q) = true := fun _ => rfl
  rw [hidx]
  simp only [D55, SB.at, SS.inner] at e ⊢
  simp [-List.getD_eq_getElem?_getD, -Int.natCast_add, -Int.add_sub_cancel, g7, ofO, hsm, ht]
  rw [e]
  simp [-List.getD_eq_getElem?_getD, hlt, lineN, hf1, meansT]
theorem c_means (k : Kind) {l : List Rat} {c : Nat} (hr : Dl D c 0 (1 :: l)) (h10 : l.length ≤ 10) (hA : c ≤ 3000000) :
    callP Pr (n + 6) 55 [svs l, kv k] = .ok (svs (meansT k l l.length)) := by
  rw [call_eq (d := D55) rfl rfl]
  obtain ⟨ρ', e1, y3, y4, y5, rfl⟩ := forGo_map (bind := bindS (.nm 3)) (body := exs (Pr.tab (n + 5)) ((D55.body.at 1).inner)) (fun (i : Nat) => Val.int (1 + (i : Int) * 1))
    (fun pre ρ => ∃ y3 y4 y5, ρ = [.sh (svs l), .sh (kv k), .ow ((meansT k l pre.length).map sv), y3, y4, y5]) (List.range l.length) []
    [.sh (svs l), .sh (kv k), .ow [], .no, .no, .no] ⟨.no, .no, .no, rfl⟩ (by
      rintro p i q ρ hp ⟨y3, y4, y5, rfl⟩
      rw [List.nil_append] at hp
      obtain ⟨hi, hpl⟩ := rng_at hp
      subst hi
      obtain ⟨z5, hz⟩ := mean_step n k hr hpl h10 hA y3 y4 y5
      refine ⟨[.sh (svs l), .sh (kv k), .ow ((meansT k l (p.length + 1)).map sv), .sh (.int (1 + (p.length : Int) * 1)), .sh (sv (addS k l (meansT k l p.length) (p.length + 1) (p.length + 1))), z5], ?_, .sh (.int (1 + (p.length : Int) * 1)), .sh (sv (addS k l (meansT k l p.length) (p.length + 1) (p.length + 1))), z5, by simp⟩
      rw [← hz]
      simp only [D55, SB.at, SS.inner]
      simp)
  have hsm : smallR 1 ((l.length : Int) + 1) = true := by unfold smallR; apply decide_eq_true; omega
  have ht : ((l.length : Int) + 1 - 1).toNat = l.length := by omega
  have er : rngC 1 1 l.length = (List.range l.length).map fun (i : Nat) => Val.int (1 + (i : Int) * 1) := rfl
  have el : bi1 .len [svs l] = .ok (.int l.length) := by simp [svs]
  simp only [D55, SB.at, SS.inner] at e1
  simp [D55, el, hsm, ht]
  rw [er, e1]
  simp [ex, svs]
theorem c_sumsfrom (k : Kind) {l : List Rat} {c : Nat} (hr : Dl D c 0 (1 :: l)) (h10 : l.length ≤ 10) (hA : c ≤ 3000000) :
    callP Pr (n + 7) 56 [svs l, kv k] = .ok (svs (sumsT k l l.length)) := by
  rw [call_eq (d := D56) rfl rfl]
  have e1 : callP Pr (n + 6) 52 [svs l] = .ok .non := c_checkmeans (n + 3) h10
  have e2 : callP Pr (n + 6) 53 [kv k] = .ok .non := c_checkkind (n + 5) k
  have e3 := c_sums n k hr h10 hA
  simp [D56, ex, e1, e2, e3]
theorem c_meansfrom (k : Kind) {l : List Rat} {c : Nat} (hr : Dl D c 0 (1 :: l)) (h10 : l.length ≤ 10) (hA : c ≤ 3000000) :
    callP Pr (n + 7) 57 [svs l, kv k] = .ok (svs (meansT k l l.length)) := by
  rw [call_eq (d := D57) rfl rfl]
  have e1 : callP Pr (n + 6) 52 [svs l] = .ok .non := c_checkmeans (n + 3) h10
  have e2 : callP Pr (n + 6) 53 [kv k] = .ok .non := c_checkkind (n + 5) k
  have e3 := c_means n k hr h10 hA
  simp [D57, ex, e1, e2, e3]
theorem c_lareshares {l : List Rat} (h : ∀ q ∈ l, lg (q.den : Int) < 9000) (hl : l.length ≤ 10) : callP Pr (n + 3) 58 [svs l] = .ok (.bl true) := by
  rw [call_eq (d := D58) rfl rfl]
  have e0 : isiV (svs l) .list = .ok true := rfl
  have e2 : ev (Pr.tab (n + 2)) (.comp [1] (.nm 1) (.seq (.var 0)) .none (.call 21 (.cons (.var 1) .nil))) [some (svs l), none] = .ok (.lst (l.map fun _ => .bl true)) := by
    refine comp_all (g := sv) (by simp [svs]) (by unfold lineN; omega) (fun q hq => ⟨_, bindE_nm, ?_⟩)
    simp [c_lisshare n q (h q hq)]
  have e3 : bi1 .all [.lst (l.map fun _ => .bl true)] = .ok (.bl true) := by
    rw [bi_all (f := fun _ => true)]; simp
  simp [D58, e0, e2, e3]
end VM

set_option Elab.async false
set_option linter.all false
set_option maxRecDepth 100000
set_option maxHeartbeats 2000000
/-! LibN: rows of shares: beginnings, sizes. -/
namespace VM
open PySem
variable (n : Nat) {D : Nat} [hD : Dk D]
theorem dl_of {l : List Rat} {c : Nat} (h : ∀ q ∈ l, Dz D 1 c q) : Dl D c 0 (1 :: l) := one_dl fun i hi => by
  have hq : l.getD i 0 ∈ l := by simp [List.getD, hi]
  obtain ⟨h1, h2⟩ := h _ hq
  refine ⟨Nat.dvd_trans h1 (Nat.pow_dvd_pow D (by omega)), Nat.le_trans h2 ?_⟩
  rw [Nat.mul_add]; omega
theorem dl_mono {l : List Rat} {c d : Nat} (h : Dl D c 0 (1 :: l)) (hc : c ≤ d) : Dl D d 0 (1 :: l) := fun i hi => (h i hi).mono (Nat.add_le_add_right (Nat.mul_le_mul_right i hc) 0)
theorem dl_take {l : List Rat} {c h : Nat} (hr : Dl D c 0 (1 :: l)) : Dl D c 0 (1 :: l.take h) := fun i hi => by
  have hi2 : i < h + 1 := by simp at hi; omega
  have hi3 : i < (1 :: l).length := by simp at hi ⊢; omega
  have := hr i hi3
  cases i with
  | zero => exact this
  | succ i =>
    have e : (1 :: l.take h).getD (i + 1) 0 = (1 :: l).getD (i + 1) 0 := by
      simp only [List.getD_cons_succ]; exact take_getD (by omega)
    rw [e]; exact this
theorem sumsT_take (k : Kind) (l : List Rat) {h : Nat} : ∀ m, h ≤ m → (sumsT k l m).take h = sumsT k l h
  | 0, hm => by
    obtain rfl : h = 0 := by omega
    rfl
  | m + 1, hm => by
    by_cases e : h = m + 1
    · subst e; exact List.take_of_length_le (by rw [sumsT_len]; exact Nat.le_refl _)
    · simp only [sumsT]
      rw [List.take_append_of_le_length (by rw [sumsT_len]; omega)]
      exact sumsT_take k l m (by omega)
theorem meansT_take (k : Kind) (l : List Rat) {h : Nat} : ∀ m, h ≤ m → (meansT k l m).take h = meansT k l h
  | 0, hm => by
    obtain rfl : h = 0 := by omega
    rfl
  | m + 1, hm => by
    by_cases e : h = m + 1
    · subst e; exact List.take_of_length_le (by rw [meansT_len]; exact Nat.le_refl _)
    · simp only [meansT]
      rw [List.take_append_of_le_length (by rw [meansT_len]; omega)]
      exact meansT_take k l m (by omega)
theorem sums_beg (k : Kind) (l : List Rat) {h : Nat} (hh : h ≤ l.length) : sumsT k (l.take h) (l.take h).length = (sumsT k l l.length).take h := by
  rw [sumsT_take k l _ hh, List.length_take, Nat.min_eq_left hh]
  exact sumsT_pre k h (fun i hi => take_getD hi)
theorem means_beg (k : Kind) (l : List Rat) {h : Nat} (hh : h ≤ l.length) : meansT k (l.take h) (l.take h).length = (meansT k l l.length).take h := by
  rw [meansT_take k l _ hh, List.length_take, Nat.min_eq_left hh]
  exact meansT_pre k h (fun i hi => take_getD hi)
theorem slV_take {l : List Val} {h : Nat} : slV (.lst l) none (some (h : Int)) = .ok (.lst (l.take h)) := by
  simp only [slV, cutL, HT.sIx_nat, HT.sIx_none, Nat.sub_zero, List.drop_zero]
  congr 2
  by_cases hh : h ≤ l.length
  · rw [Nat.min_eq_left hh]
  · rw [Nat.min_eq_right (by omega), List.take_of_length_le (Nat.le_refl _), List.take_of_length_le (by omega)]
theorem okD_sv (q : Rat) : okD 59 (sv q) = true := by simp [sv, okD]
theorem okD_svs (l : List Rat) : okD 60 (svs l) = true := by
  simp only [svs, okD, List.all_map, List.all_eq_true]
  intro q _; exact okD_sv q
theorem flat_sv (q : Rat) : flat (sv q) = true := rfl
theorem flats_svs (l : List Rat) : flats (l.map sv) = true := by
  induction l with
  | nil => rfl
  | cons a l ih => simp only [List.map_cons, flats, flat_sv, ih, Bool.and_self]
theorem ne_svs (l : List Rat) : op2 .ne (svs l) (svs l) = .ok (.bl false) := op_ne_self (okD_svs l)
theorem lareshares {l : List Rat} {c : Nat} (hr : Dl D c 0 (1 :: l)) (h10 : l.length ≤ 10) : callP Pr (n + 3) 58 [svs l] = .ok (.bl true) := by
  refine c_lareshares n (fun q hq => ?_) h10
  obtain ⟨i, hi, rfl⟩ := List.mem_iff_getElem.mp hq
  have := hr (i + 1) (by simp; omega)
  have e : (1 :: l).getD (i + 1) 0 = l[i] := by simp [List.getD, hi]
  rw [e] at this
  exact Nat.lt_of_le_of_lt (this.sz (by omega)).2 (by decide)
theorem shareF_dz (v : Int) {w : Int} (h1 : 1 ≤ w) (h2 : w ≤ 10 ^ 40) : Dz 60 1 134 (shareF v w) := by
  refine ⟨?_, (share_sz v h1 h2).1⟩
  have h := bot_in v
  refine den_dvd (by omega) ?_
  generalize 1 + (v.fdiv 7).fmod (bott v) = b at *
  obtain ⟨c, rfl⟩ := Int.eq_ofNat_of_zero_le (show 0 ≤ b by omega)
  have : c = 1 ∨ c = 2 ∨ c = 3 ∨ c = 4 ∨ c = 5 ∨ c = 6 := by omega
  rcases this with rfl | rfl | rfl | rfl | rfl | rfl <;> decide
theorem shares_dl {c w : Int} (k : Nat) (h1 : 1 ≤ w) (h2 : w ≤ 10 ^ 40) : Dl 60 134 0 (1 :: sharesF c w k) := dl_of fun q hq => by
  unfold sharesF at hq
  obtain ⟨i, _, rfl⟩ := List.mem_map.mp hq
  exact shareF_dz _ h1 h2
theorem shares_len {c w : Int} (k : Nat) : (sharesF c w k).length = k := by simp [sharesF]
theorem cell_lg {ns : List Int} (h : ∀ i ∈ ns, lg i ≤ 1048577) (k : Int) : lg (cellAt ns k) ≤ 1048577 := by
  unfold cellAt
  by_cases hk : k.toNat < ns.length
  · simp only [List.getD, List.getElem?_eq_getElem hk, Option.getD_some]
    exact h _ (List.getElem_mem hk)
  · simp only [List.getD, List.getElem?_eq_none (Nat.le_of_not_lt hk), Option.getD_none]
    decide +kernel
end VM

set_option Elab.async false
set_option linter.all false
set_option maxRecDepth 100000
set_option maxHeartbeats 2000000
/-! LibE: Lean's own data as plain values. -/
namespace VM
open PySem
class Enc (α : Type) [DecidableEq α] where
  enc : α → Val
  dep : Nat
  ok : ∀ a, okD dep (enc a) = true
  eqv : ∀ a b, veq (enc a) (enc b) = decide (a = b)
abbrev enc {α : Type} [DecidableEq α] [Enc α] (a : α) : Val := Enc.enc a
theorem okD_le {v : Val} {m n : Nat} (h : m ≤ n) (k : okD m v = true) : okD n v = true := by
  induction n with
  | zero =>
    have : m = 0 := by omega
    subst this; exact k
  | succ n ih =>
    by_cases e : m = n + 1
    · subst e; exact k
    · exact okD_mono n v (ih (by omega))
instance : Enc Int := ⟨Val.int, 1, fun _ => rfl, fun a b => veq_ii⟩
instance : Enc Nat := ⟨fun n => Val.int n, 1, fun _ => rfl, fun a b => by rw [veq_ii]; exact decide_eq_decide.mpr (by omega)⟩
instance : Enc Bool := ⟨Val.bl, 1, fun _ => rfl, fun a b => by cases a <;> cases b <;> rfl⟩
theorem veq_lst {vs ws : List Val} : veq (.lst vs) (.lst ws) = PyData.eqvAll (pys vs) (pys ws) := by simp [veq, py, PyData.eqv]
theorem veq_tup {vs ws : List Val} : veq (.tup vs) (.tup ws) = PyData.eqvAll (pys vs) (pys ws) := by simp [veq, py, PyData.eqv]
theorem eqvs_cons {v w : Val} {vs ws : List Val} : PyData.eqvAll (pys (v :: vs)) (pys (w :: ws)) = (veq v w && PyData.eqvAll (pys vs) (pys ws)) := by simp [pys, PyData.eqvAll, veq]
theorem eqvs_map {α : Type} [DecidableEq α] [Enc α] : ∀ (a b : List α), PyData.eqvAll (pys (a.map enc)) (pys (b.map enc)) = decide (a = b)
  | [], [] => by simp [pys, PyData.eqvAll]
  | [], _ :: _ => by simp [pys, PyData.eqvAll]
  | _ :: _, [] => by simp [pys, PyData.eqvAll]
  | x :: a, y :: b => by
    rw [List.map_cons, List.map_cons, eqvs_cons, Enc.eqv, eqvs_map a b]
    by_cases h1 : x = y <;> by_cases h2 : a = b <;> simp [h1, h2]
instance {α : Type} [DecidableEq α] [Enc α] : Enc (List α) := ⟨fun l => .lst (l.map enc), Enc.dep α + 1, fun l => by
  simp only [okD, List.all_map, List.all_eq_true]
  intro a _; exact Enc.ok a, fun a b => by rw [veq_lst, eqvs_map]⟩
instance {α β : Type} [DecidableEq α] [Enc α] [DecidableEq β] [Enc β] : Enc (α × β) := ⟨fun p => .tup [enc p.1, enc p.2], max (Enc.dep α) (Enc.dep β) + 1, fun p => by
  simp only [okD, List.all_cons, List.all_nil, Bool.and_true, Bool.and_eq_true]
  exact ⟨okD_le (Nat.le_max_left ..) (Enc.ok p.1), okD_le (Nat.le_max_right ..) (Enc.ok p.2)⟩, fun a b => by
  rw [veq_tup, eqvs_cons, eqvs_cons, Enc.eqv, Enc.eqv]
  obtain ⟨a1, a2⟩ := a
  obtain ⟨b1, b2⟩ := b
  by_cases h1 : a1 = b1 <;> by_cases h2 : a2 = b2 <;> simp [h1, h2, pys, PyData.eqvAll]⟩
section
variable {α : Type} [DecidableEq α] [Enc α]
theorem enc_lst (l : List α) : enc l = .lst (l.map enc) := rfl
theorem enc_nat (n : Nat) : enc n = .int n := rfl
theorem enc_int (n : Int) : enc n = .int n := rfl
theorem enc_bl (n : Bool) : enc n = .bl n := rfl
theorem enc_pair {β : Type} [DecidableEq β] [Enc β] (p : α × β) : enc p = .tup [enc p.1, enc p.2] := rfl
theorem op_eq_enc (hd : Enc.dep α ≤ 60) (a b : α) : op2 .eq (enc a) (enc b) = .ok (.bl (decide (a = b))) := by
  simp only [op2, okD_le hd (Enc.ok a), okD_le hd (Enc.ok b), Bool.and_self, if_true, Enc.eqv]
theorem op_ne_enc (hd : Enc.dep α ≤ 60) (a b : α) : op2 .ne (enc a) (enc b) = .ok (.bl (!decide (a = b))) := by
  simp only [op2, okD_le hd (Enc.ok a), okD_le hd (Enc.ok b), Bool.and_self, if_true, Enc.eqv]
theorem inVal_enc (hd : Enc.dep α + 1 ≤ 60) (a : α) (l : List α) : inVal (enc a) (enc l) = .ok (decide (a ∈ l)) := by
  have h1 : okD 60 (enc a) = true := okD_le (Nat.le_of_succ_le hd) (Enc.ok a)
  have h2 : okD 60 (enc l) = true := okD_le hd (Enc.ok l)
  rw [enc_lst] at h2 ⊢
  simp only [inVal, h1, h2, Bool.and_self, if_true]
  congr 1
  induction l with
  | nil => simp
  | cons b l ih =>
    have h3 : okD 60 (.lst (l.map enc)) = true := okD_le hd (Enc.ok l)
    simp only [List.map_cons, List.any_cons, ih h3, Enc.eqv, List.mem_cons]
    by_cases h : b = a
    · simp [h]
    · simp [h, Ne.symm h]
theorem op_in_enc (hd : Enc.dep α + 1 ≤ 60) (a : α) (l : List α) : op2 .inn (enc a) (enc l) = .ok (.bl (decide (a ∈ l))) := by
  simp only [op2, inVal_enc hd, okb]
theorem op_nin_enc (hd : Enc.dep α + 1 ≤ 60) (a : α) (l : List α) : op2 .nin (enc a) (enc l) = .ok (.bl (!decide (a ∈ l))) := by
  simp only [op2, inVal_enc hd, okb]
theorem ixV_enc {l : List α} {i : Nat} (h : i < l.length) : ixV (enc l) (.int i) = .ok (enc l[i]) := by
  rw [enc_lst]
  simp [ixV, ofO, L2.atI, L2.ixN, h]
@[simp] theorem seqV_enc (l : List α) : seqV (enc l) = .ok (l.map enc) := rfl
@[simp] theorem enmV_enc (l : List α) : enmV (enc l) = .ok (enumV 0 (l.map enc)) := rfl
@[simp] theorem zpV_enc {β : Type} [DecidableEq β] [Enc β] (l : List α) (m : List β) : zpV (enc l) (enc m) = .ok (zipV (l.map enc) (m.map enc)) := rfl
@[simp] theorem len_enc (l : List α) : bi1 .len [enc l] = .ok (.int l.length) := by simp [enc_lst]
@[simp] theorem isi_enc (l : List α) : isiV (enc l) .list = .ok true := rfl
theorem add_enc {a b : List α} (h : a.length + b.length ≤ lineN) : op2 .add (enc a) (enc b) = .ok (enc (a ++ b)) := by
  simp [enc_lst, h]
theorem slV_enc_from {l : List α} {i : Nat} : slV (enc l) (some (i : Int)) none = .ok (enc (l.drop i)) := by
  rw [enc_lst, enc_lst]
  simp only [slV, cutL, HT.sIx_nat, HT.sIx_none, List.length_map]
  congr 2
  rw [List.drop_eq_drop_iff.mpr (show min (min i l.length) (l.map enc).length = min i (l.map enc).length by simp), ← List.map_drop]
  rw [List.take_of_length_le (by simp; omega)]
theorem slV_enc_to {l : List α} {i : Nat} : slV (enc l) none (some (i : Int)) = .ok (enc (l.take i)) := by
  rw [enc_lst, enc_lst]
  simp only [slV, cutL, HT.sIx_nat, HT.sIx_none, Nat.sub_zero, List.drop_zero]
  congr 2
  rw [← List.map_take]
  congr 1
  rw [List.length_map]
  by_cases hh : i ≤ l.length
  · rw [Nat.min_eq_left hh]
  · rw [Nat.min_eq_right (by omega), List.take_of_length_le (Nat.le_refl _), List.take_of_length_le (by omega)]
end
variable {T : Tab} {e : VE}
/-- a comprehension over own data, with a test -/
theorem comp_enc {α : Type} {own : List Nat} {tg : Tg} {it : SI} {c : SO} {el : SE} {l : List α} {g f : α → Val} {p : α → Bool} (hi : evI T it e = .ok (l.map g)) (hl : l.length ≤ lineN)
    (h : ∀ x ∈ l, ∃ ρ1, bindE tg (wipeE e own) (g x) = .ok ρ1 ∧ evC T c ρ1 = .ok (p x) ∧ (p x = true → ev T el ρ1 = .ok (f x))) : ev T (.comp own tg it c el) e = .ok (.lst ((l.filter p).map f)) := by
  rw [ev_comp, hi, okb, if_pos (by simpa using hl)]
  have key : ∀ l : List α, (∀ x ∈ l, ∃ ρ1, bindE tg (wipeE e own) (g x) = .ok ρ1 ∧ evC T c ρ1 = .ok (p x) ∧ (p x = true → ev T el ρ1 = .ok (f x))) → compGo (bindE tg) (evC T c) (ev T el) (wipeE e own) (l.map g) = .ok ((l.filter p).map f) := by
    intro l
    induction l with
    | nil => intro _; rfl
    | cons a l ih =>
      intro h
      obtain ⟨ρ1, h1, h2, h3⟩ := h a (List.mem_cons_self ..)
      have ih' := ih (fun x hx => h x (List.mem_cons_of_mem _ hx))
      simp only [List.map_cons, compGo_cons, h1, okb, h2, ih']
      cases hp : p a with
      | true => simp only [if_true, h3 hp, okb, List.filter_cons, hp, List.map_cons]
      | false => simp only [Bool.false_eq_true, if_false, List.filter_cons, hp]
  rw [key l h]
  rfl
/-- a loop that looks for something and hands it back -/
theorem forGo_find {α : Type} {bind : SEnv → Val → R SEnv} {body : SEnv → R (Fl × SEnv)} (g : α → Val) (p : α → Bool) (v : Val) (I : SEnv → Prop) : ∀ (l : List α) (ρ : SEnv), I ρ →
    (∀ x ∈ l, ∀ ρ, I ρ → (p x = false → ∃ ρ2, (bind ρ (g x) >>= body) = .ok (.nx, ρ2) ∧ I ρ2) ∧ (p x = true → ∃ ρ2, (bind ρ (g x) >>= body) = .ok (.rt v, ρ2))) →
    (l.any p = false → ∃ ρ', forGo bind body (l.map g) ρ = .ok (.nx, ρ') ∧ I ρ') ∧ (l.any p = true → ∃ ρ', forGo bind body (l.map g) ρ = .ok (.rt v, ρ'))
  | [], ρ, h, _ => ⟨fun _ => ⟨ρ, rfl, h⟩, fun z => by simp at z⟩
  | x :: l, ρ, h, t => by
    obtain ⟨t1, t2⟩ := t x (List.mem_cons_self ..) ρ h
    cases hp : p x with
    | true =>
      obtain ⟨ρ2, e⟩ := t2 hp
      exact ⟨fun z => by simp [hp] at z, fun _ => ⟨ρ2, by simp only [List.map_cons, forGo_cons, e, seqF_rt]⟩⟩
    | false =>
      obtain ⟨ρ2, e, h2⟩ := t1 hp
      obtain ⟨i1, i2⟩ := forGo_find g p v I l ρ2 h2 (fun y hy => t y (List.mem_cons_of_mem _ hy))
      refine ⟨fun z => ?_, fun z => ?_⟩
      · obtain ⟨ρ', e3, h3⟩ := i1 (by simpa [hp] using z)
        exact ⟨ρ', by simp only [List.map_cons, forGo_cons, e, seqF_nx, e3], h3⟩
      · obtain ⟨ρ', e3⟩ := i2 (by simpa [hp] using z)
        exact ⟨ρ', by simp only [List.map_cons, forGo_cons, e, seqF_nx, e3]⟩
theorem enumV_map {α : Type} (g : α → Val) : ∀ (l : List α) (n : Nat), enumV n (l.map g) = (l.zipIdx n).map fun p => .tup [.int p.2, g p.1]
  | [], _ => rfl
  | x :: l, n => by simp [enumV, enumV_map g l (n + 1), List.zipIdx_cons]
theorem zipV_map {α β : Type} (g : α → Val) (f : β → Val) : ∀ (l : List α) (m : List β), zipV (l.map g) (m.map f) = (l.zip m).map fun p => .tup [g p.1, f p.2]
  | [], m => by cases m <;> rfl
  | _ :: _, [] => rfl
  | x :: l, y :: m => by simp [zipV, zipV_map g f l m]
end VM

set_option Elab.async false
set_option linter.all false
set_option maxRecDepth 100000
set_option maxHeartbeats 2000000
/-! LibG1: groups that cross; kinds. -/
namespace VM
open PySem
variable (n : Nat)
abbrev Grp := List (List Nat)
def insF (x y : Nat) (m : List Nat) : List Nat := m.filter fun t => decide (x < t) && decide (t < y)
def behF (y : Nat) (m : List Nat) : Bool := m.any fun t => decide (y < t)
/-- whether a step of one group holds things of another, and such lie behind it -/
def stepF (m : List Nat) (fs : Nat × Nat) : Bool := !decide (insF fs.1 fs.2 m = []) && behF fs.2 m
def someF (g m : List Nat) : Bool := (g.zip g.tail).any (stepF m)
def crossF (a b : List Nat) : Bool := someF a b || someF b a
theorem e_inside {T : Tab} {m : List Nat} {e : VE} {i3 i4 i5 i7 : Nat} {x y : Nat} (hm : m.length ≤ lineN) (h3 : getE e i3 = .ok (enc m))
    (h4 : ∀ v, getE (e.set i7 (some v)) i4 = .ok (.int x)) (h5 : ∀ v, getE (e.set i7 (some v)) i5 = .ok (.int y)) (h7 : ∀ v, getE (e.set i7 (some v)) i7 = .ok v) :
    ev T (.comp [i7] (.nm i7) (.seq (.var i3)) (.some (.chain .lt .lt (.var i4) (.var i7) (.var i5))) (.var i7)) e = .ok (enc (insF x y m)) := by
  refine comp_enc (g := enc) (p := fun t => decide (x < t) && decide (t < y)) (by simp [h3]) hm (fun t ht => ⟨e.set i7 (some (enc t)), by simp, ?_, fun _ => by simp [h7]⟩)
  simp only [evC_some, ev_chain, ev_var, h4, h7, h5, okb, enc_nat, op_lt_i, tru_bl]
  by_cases h1 : x < t <;> by_cases h2 : t < y <;> simp [h1, h2]
theorem e_any {T : Tab} {m : List Nat} {e : VE} {i3 i5 i7 : Nat} {y : Nat} (hm : m.length ≤ lineN) (h3 : getE e i3 = .ok (enc m))
    (h5 : ∀ v, getE (e.set i7 (some v)) i5 = .ok (.int y)) (h7 : ∀ v, getE (e.set i7 (some v)) i7 = .ok v) :
    ev T (.bi .any (.cons (.comp [i7] (.nm i7) (.seq (.var i3)) .none (.op .gt (.var i7) (.var i5))) .nil)) e = .ok (.bl (behF y m)) := by
  have h := comp_all (T := T) (e := e) (own := [i7]) (tg := .nm i7) (it := .seq (.var i3)) (el := .op .gt (.var i7) (.var i5)) (l := m) (g := enc) (f := fun t => .bl (decide (y < t))) (by simp [h3]) hm (fun t ht => ⟨e.set i7 (some (enc t)), by simp, by
    simp only [ev_op, ev_var, h7, h5, okb, enc_nat, op_gt_i]
    congr 3
    exact propext (by omega)⟩)
  simp only [ev_bi, evs_cons, evs_nil, h, okb]
  exact bi_any
theorem cross_in {g m : List Nat} {a0 a1 : Slot} (hm : m.length ≤ lineN) (ρ : SEnv) (hρ : ∃ a4 a5 a6 a7, ρ = [a0, a1, .sh (enc g), .sh (enc m), a4, a5, a6, a7]) :
    (someF g m = false → ∃ ρ', forGo (bindS (.tp (.cons (.nm 4) (.cons (.nm 5) .nil)))) (exs (Pr.tab n) (((D75.body.at 0).inner.at 0).inner)) (zipV (g.map enc) ((g.tail).map enc)) ρ = .ok (.nx, ρ') ∧ ∃ a4 a5 a6 a7, ρ' = [a0, a1, .sh (enc g), .sh (enc m), a4, a5, a6, a7]) ∧
    (someF g m = true → ∃ ρ', forGo (bindS (.tp (.cons (.nm 4) (.cons (.nm 5) .nil)))) (exs (Pr.tab n) (((D75.body.at 0).inner.at 0).inner)) (zipV (g.map enc) ((g.tail).map enc)) ρ = .ok (.rt (.bl true), ρ')) := by
  rw [zipV_map]
  refine forGo_find (fun p : Nat × Nat => .tup [enc p.1, enc p.2]) (stepF m) (.bl true) (fun ρ => ∃ a4 a5 a6 a7, ρ = [a0, a1, .sh (enc g), .sh (enc m), a4, a5, a6, a7]) _ ρ hρ ?_
  rintro ⟨x, y⟩ hx ρ ⟨a4, a5, a6, a7, rfl⟩
  have e1 := fun v6 v7 => e_inside (T := Pr.tab n) (m := m) (e := [if a0.isOwn then none else a0.val, if a1.isOwn then none else a1.val, some (enc g), some (enc m), some (.int x), some (.int y), v6, v7]) (i3 := 3) (i4 := 4) (i5 := 5) (i7 := 7) (x := x) (y := y) hm rfl (fun _ => rfl) (fun _ => rfl) (fun _ => rfl)
  have e2 := fun v6 v7 => e_any (T := Pr.tab n) (m := m) (e := [if a0.isOwn then none else a0.val, if a1.isOwn then none else a1.val, some (enc g), some (enc m), some (.int x), some (.int y), v6, v7]) (i3 := 3) (i5 := 5) (i7 := 7) (y := y) hm rfl (fun _ => rfl) (fun _ => rfl)
  have e3 : op2 .ne (enc (insF x y m)) (.lst []) = .ok (.bl (!decide (insF x y m = []))) := op_ne_enc (α := List Nat) (by decide) _ []
  have key : (bindS (.tp (.cons (.nm 4) (.cons (.nm 5) .nil))) [a0, a1, .sh (enc g), .sh (enc m), a4, a5, a6, a7] (.tup [enc x, enc y]) >>= exs (Pr.tab n) (((D75.body.at 0).inner.at 0).inner)) =
      (if stepF m (x, y) then .ok (.rt (.bl true), [a0, a1, .sh (enc g), .sh (enc m), .sh (.int x), .sh (.int y), .sh (enc (insF x y m)), a7]) else .ok (.nx, [a0, a1, .sh (enc g), .sh (enc m), .sh (.int x), .sh (.int y), .sh (enc (insF x y m)), a7])) := by
    simp only [D75, SB.at, SS.inner, enc_nat]
    simp [e1, -ev_bi]
    simp [e2, e3, -ev_bi]
    by_cases h1 : insF x y m = [] <;> cases h2 : behF y m <;> simp [stepF, h1, h2]
  refine ⟨fun h => ⟨_, by rw [key, h]; rfl, _, _, _, _, rfl⟩, fun h => ⟨_, by rw [key, h]; rfl⟩⟩
theorem c_cross {a b : List Nat} (ha : a.length ≤ lineN) (hb : b.length ≤ lineN) : callP Pr (n + 1) 75 [enc a, enc b] = .ok (.bl (crossF a b)) := by
  rw [call_eq (d := D75) rfl rfl]
  have s1 : slV (enc a) (some 1) none = .ok (enc a.tail) := by have := slV_enc_from (l := a) (i := 1); rw [List.drop_one] at this; exact this
  have s2 : slV (enc b) (some 1) none = .ok (enc b.tail) := by have := slV_enc_from (l := b) (i := 1); rw [List.drop_one] at this; exact this
  obtain ⟨p1, p2⟩ := cross_in n (g := a) (m := b) (a0 := .sh (enc a)) (a1 := .sh (enc b)) hb [.sh (enc a), .sh (enc b), .sh (enc a), .sh (enc b), .no, .no, .no, .no] ⟨_, _, _, _, rfl⟩
  simp only [D75, SB.at, SS.inner] at p1 p2
  simp [-List.map_tail, D75, lineN, s1, s2]
  cases h1 : someF a b with
  | true =>
    obtain ⟨ρ', e⟩ := p2 h1
    simp [-List.map_tail, crossF, h1, e, s1]
  | false =>
    obtain ⟨ρ', e, a4, a5, a6, a7, rfl⟩ := p1 h1
    obtain ⟨q1, q2⟩ := cross_in n (g := b) (m := a) (a0 := .sh (enc a)) (a1 := .sh (enc b)) ha [.sh (enc a), .sh (enc b), .sh (enc b), .sh (enc a), a4, a5, a6, a7] ⟨_, _, _, _, rfl⟩
    simp only [D75, SB.at, SS.inner] at q1 q2
    cases h2 : someF b a with
    | true =>
      obtain ⟨ρ', e2⟩ := q2 h2
      simp [-List.map_tail, crossF, h1, h2, e, e2, s1, s2]
    | false =>
      obtain ⟨ρ', e2, b4, b5, b6, b7, rfl⟩ := q1 h2
      simp [-List.map_tail, crossF, h1, h2, e, e2, s1, s2]
end VM

set_option Elab.async false
set_option linter.all false
set_option maxRecDepth 100000
set_option maxHeartbeats 2000000
/-! LibG2: whether a grouping is of a kind. -/
namespace VM
open PySem
variable (n : Nat)
theorem ixV_zero {l : List Nat} (h : l ≠ []) : ixV (enc l) (.int 0) = .ok (.int (l.headD 0 : Nat)) := by
  cases l with
  | nil => exact absurd rfl h
  | cons a l => exact ix_l0
theorem ixV_last {l : List Nat} (h : l ≠ []) : ixV (enc l) (.int (-1)) = .ok (.int (l.getLastD 0 : Nat)) := by
  have hl : 0 < l.length := List.length_pos_iff.mpr h
  rw [enc_lst]
  simp only [ixV]
  have e : L2.atI (l.map enc) (-1) = some (.int (l.getLastD 0 : Nat)) := by
    unfold L2.atI L2.ixN
    rw [if_neg (by omega), if_pos (by simp; omega)]
    show (l.map enc)[((-1 : Int) + (l.map enc).length).toNat]? = _
    rw [show ((-1 : Int) + (l.map enc).length).toNat = l.length - 1 by simp; omega, List.getElem?_map, List.getElem?_eq_getElem (by omega)]
    simp only [Option.map_some, enc_nat]
    rw [List.getLastD_eq_getLast?, List.getLast?_eq_getElem?, List.getElem?_eq_getElem (by omega)]
    rfl
  rw [e]; rfl
def rowF (l : List Nat) : Bool := decide ((l.getLastD 0 : Int) - (l.headD 0 : Nat) + 1 = l.length)
def rowsF (g : Grp) : Bool := g.all rowF
def nearF (g : Grp) (at_ : Nat) (l : List Nat) : Bool := (g.take at_).any (crossF l)
def crossedF (g : Grp) : Bool := (g.zipIdx 0).any fun p => nearF g p.2 p.1
def ofKindF : Kind → Grp → Bool
  | .rows, g => rowsF g
  | .nested, g => !crossedF g
  | .all, _ => true
/-- groups are lists of some things, not too many -/
def Gok (g : Grp) : Prop := g.length ≤ lineN ∧ ∀ l ∈ g, l ≠ [] ∧ l.length ≤ lineN
theorem eq_nested (k : Kind) : op2 .eq (kv k) (.str (Str.ofString "nested")) = .ok (.bl (match k with | .nested => true | _ => false)) := by cases k <;> exact ok_of (by decide +kernel)
theorem e_rows {T : Tab} {g : Grp} (hg : Gok g) {v1 v3 v4 : Option Val} : ev T (.bi .all (.cons (.comp [2] (.nm 2) (.seq (.var 0)) .none (.op .eq (.op .add (.op .sub (.ix (.var 2) (.neg (.cint 1))) (.ix (.var 2) (.cint 0))) (.cint 1)) (.bi .len (.cons (.var 2) .nil)))) .nil)) [some (enc g), v1, none, v3, v4] = .ok (.bl (rowsF g)) := by
  have h := comp_all (T := T) (e := [some (enc g), v1, none, v3, v4]) (own := [2]) (tg := .nm 2) (it := .seq (.var 0)) (el := .op .eq (.op .add (.op .sub (.ix (.var 2) (.neg (.cint 1))) (.ix (.var 2) (.cint 0))) (.cint 1)) (.bi .len (.cons (.var 2) .nil))) (l := g) (g := enc) (f := fun l => .bl (rowF l)) (by simp) hg.1 (fun l hl => ⟨[some (enc g), v1, some (enc l), v3, v4], by simp, by
    have h1 := ixV_last (hg.2 l hl).1
    have h2 := ixV_zero (hg.2 l hl).1
    simp [h1, h2, rowF]⟩)
  rw [ev_bi, evs_cons, evs_nil, h]
  exact bi_all
theorem e_nested {g : Grp} (hg : Gok g) {v1 : Option Val} : ev (Pr.tab (n + 1)) (.bi .any (.cons (.comp [3, 2] (.tp (.cons (.nm 3) (.cons (.nm 2) .nil))) (.enum (.var 0)) .none (.bi .any (.cons (.comp [4] (.nm 4) (.seq (.sl (.var 0) .none (.some (.var 3)))) .none (.call 75 (.cons (.var 2) (.cons (.var 4) .nil)))) .nil))) .nil)) [some (enc g), v1, none, none, none] = .ok (.bl (crossedF g)) := by
  have h := comp_all (T := Pr.tab (n + 1)) (e := [some (enc g), v1, none, none, none]) (own := [3, 2]) (tg := .tp (.cons (.nm 3) (.cons (.nm 2) .nil))) (it := .enum (.var 0)) (el := .bi .any (.cons (.comp [4] (.nm 4) (.seq (.sl (.var 0) .none (.some (.var 3)))) .none (.call 75 (.cons (.var 2) (.cons (.var 4) .nil)))) .nil)) (l := g.zipIdx 0) (g := fun p => .tup [.int p.2, enc p.1]) (f := fun p => .bl (nearF g p.2 p.1)) (by simp [enumV_map]) (by simpa using hg.1) (fun p hp => ⟨[some (enc g), v1, some (enc p.1), some (.int p.2), none], by simp, by
    obtain ⟨l, i⟩ := p
    have hl : l ∈ g := by
      obtain ⟨h1, h2, h3⟩ := List.mem_zipIdx hp
      rw [h3]; exact List.getElem_mem _
    have hs : slV (enc g) none (some (i : Int)) = .ok (enc (g.take i)) := slV_enc_to
    have h2 := comp_all (T := Pr.tab (n + 1)) (e := [some (enc g), v1, some (enc l), some (.int i), none]) (own := [4]) (tg := .nm 4) (it := .seq (.sl (.var 0) .none (.some (.var 3)))) (el := .call 75 (.cons (.var 2) (.cons (.var 4) .nil))) (l := g.take i) (g := enc) (f := fun m => .bl (crossF l m)) (by simp only [evI_seq, ev_sl, ev_var, evO_none, evO_some, getE_zero, getE_succ, okb, asInt_int, hs, seqV_enc]) (by have := hg.1; rw [List.length_take]; omega) (fun m hm => ⟨[some (enc g), v1, some (enc l), some (.int i), some (enc m)], by simp, by
      have := c_cross n (hg.2 l hl).2 (hg.2 m (List.mem_of_mem_take hm)).2
      simp [this]⟩)
    rw [ev_bi, evs_cons, evs_nil, h2]
    exact bi_any⟩)
  rw [ev_bi, evs_cons, evs_nil, h]
  exact bi_any
theorem c_ofkind (k : Kind) {g : Grp} (hg : Gok g) : callP Pr (n + 2) 77 [enc g, kv k] = .ok (.bl (ofKindF k g)) := by
  rw [call_eq (d := D77) rfl rfl]
  have er := eq_rows k
  have en := eq_nested k
  have h1 : vis [] ([enc g, kv k].map Slot.sh ++ List.replicate (D77.ns - D77.np) Slot.no) = [some (enc g), some (kv k), none, none, none] := rfl
  cases k with
  | rows =>
    have := e_rows (T := Pr.tab (n + 1)) hg (v1 := some (kv .rows)) (v3 := none) (v4 := none)
    simp [D77, er, this, isRows, -ev_bi, ofKindF]
  | nested =>
    have := e_nested n hg (v1 := some (kv .nested))
    simp [D77, er, en, this, isRows, -ev_bi, ofKindF]
  | all =>
    simp [D77, er, en, isRows, ofKindF]
end VM

set_option Elab.async false
set_option linter.all false
set_option maxRecDepth 100000
set_option maxHeartbeats 2000000
/-! LibG3: the grouping that has told homes. -/
namespace VM
open PySem
variable (n : Nat)
def topG (a : Nat) (l : List Nat) : Nat := l.foldl (fun m x => max m (x + 1)) a
/-- one more than the greatest; 0 of none -/
def topF (l : List Nat) : Nat := topG 0 l
theorem topG_le (l : List Nat) : ∀ a, a ≤ topG a l := by
  induction l with
  | nil => intro a; exact Nat.le_refl _
  | cons x l ih => intro a; exact Nat.le_trans (Nat.le_max_left _ _) (ih _)
theorem lt_topG {l : List Nat} : ∀ {a x : Nat}, x ∈ l → x < topG a l := by
  induction l with
  | nil => intro a x h; simp at h
  | cons y l ih =>
    intro a x h
    rcases List.mem_cons.mp h with rfl | h
    · exact Nat.lt_of_lt_of_le (Nat.lt_of_lt_of_le (Nat.lt_succ_self _) (Nat.le_max_right _ _)) (topG_le l _)
    · exact ih h
theorem maxd_enc (l : List Nat) : bi1 .maxd [enc l, .int (-1)] = .ok (.int ((topF l : Int) - 1)) := by
  have h0 : asInts (l.map enc) = .ok (l.map fun (x : Nat) => (x : Int)) := asInts_map (f := fun (x : Nat) => (x : Int))
  rw [enc_lst]
  simp only [bi1, h0, okb]
  cases l with
  | nil => rfl
  | cons x l =>
    rw [if_neg (by simp)]
    have key : ∀ (l : List Nat) (a : Nat), ((l.map fun (x : Nat) => (x : Int)).foldl (fun a b => if a < b then b else a) (a : Int)) = ((topG (a + 1) l : Nat) : Int) - 1 := by
      intro l
      induction l with
      | nil => intro a; simp [topG]
      | cons y l ih =>
        intro a
        simp only [List.map_cons, List.foldl_cons]
        have e : (if (a : Int) < (y : Int) then (y : Int) else a) = ((max a y : Nat) : Int) := by split <;> omega
        rw [e, ih]
        show ((topG (max a y + 1) l : Nat) : Int) - 1 = ((topG (max (a + 1) (y + 1)) l : Nat) : Int) - 1
        rw [Nat.add_max_add_right]
    simp only [List.map_cons, maxI, okb]
    rw [key]
    show _ = Except.ok (Val.int (((topG (max 0 (x + 1)) l : Nat) : Int) - 1))
    rw [Nat.zero_max]
def idxF (hs : List Nat) (i j : Nat) : List Nat := (List.range i).filter fun x => hs.getD x 0 == j
def byHomes (hs : List Nat) : Grp := (List.range (topF hs)).map fun j => idxF hs hs.length j
def obL (l : List Nat) : HOb := .lst (l.map fun x => .p (enc x))
def heapF (hs : List Nat) (i : Nat) : HHp := (List.range (topF hs)).map fun j => obL (idxF hs i j)
theorem idxF_succ (hs : List Nat) (i j : Nat) : idxF hs (i + 1) j = if hs.getD i 0 = j then idxF hs i j ++ [i] else idxF hs i j := by
  unfold idxF
  rw [List.range_succ, List.filter_append]
  by_cases h : hs.getD i 0 = j
  · rw [if_pos h]
    have : [i].filter (fun x => hs.getD x 0 == j) = [i] := by simp only [List.filter_cons, beq_iff_eq.mpr h, if_true, List.filter_nil]
    rw [this]
  · rw [if_neg h]
    have : [i].filter (fun x => hs.getD x 0 == j) = [] := by simp only [List.filter_cons, beq_eq_false_iff_ne.mpr h, Bool.false_eq_true, if_false, List.filter_nil]
    rw [this, List.append_nil]
theorem heapF_succ (hs : List Nat) (i : Nat) (hi : i < hs.length) : heapF hs (i + 1) = (heapF hs i).set (hs.getD i 0) (obL (idxF hs i (hs.getD i 0) ++ [i])) := by
  unfold heapF
  apply List.ext_getElem
  · simp
  · intro j h1 h2
    simp only [List.getElem_map, List.getElem_range, List.getElem_set]
    rw [idxF_succ]
    by_cases h : hs.getD i 0 = j
    · rw [if_pos h, if_pos h, h]
    · rw [if_neg h, if_neg h]
/-- a list of numbers, by what may be read of it in every later heap -/
structure Rd1 (x : HV) (hs : List Nat) (h0 : HHp) : Prop where
  see : ∀ h', h0 <+: h' → deref h' 60 x = some (enc hs)
  it : ∀ h', h0 <+: h' → ∃ J, itL h' x = .ok J ∧ J.many h' = hs.length ∧ ∀ h'' i, h0 <+: h'' → J.at h'' i = .ok ((hs.map enc).map HV.p)[i]?
theorem rd1_p {hs : List Nat} {h0 : HHp} : Rd1 (.p (enc hs)) hs h0 := ⟨fun _ _ => rfl, fun h' _ => ⟨.fx ((hs.map enc).map HV.p), rfl, by simp [HIt.many], fun _ _ _ => rfl⟩⟩
theorem pre_at {h0 h' : HHp} {k : Nat} {o : HOb} (p : h0 <+: h') (h : h0[k]? = some o) : h'[k]? = some o := by
  obtain ⟨t, rfl⟩ := p
  rw [List.getElem?_append_left (List.getElem?_eq_some_iff.mp h).1]; exact h
theorem rd1_r {hs : List Nat} {h0 : HHp} {k : Nat} (h : h0[k]? = some (obL hs)) : Rd1 (.r k) hs h0 := by
  refine ⟨fun h' p => ?_, fun h' p => ⟨.ls k, ?_, ?_, fun h'' i p2 => ?_⟩⟩
  · have := pre_at p h
    unfold deref
    rw [this]
    show ((omap (deref h' 59) (hs.map fun x => HV.p (enc x))).map Val.lst) = _
    rw [omap_map (g := fun x => HV.p (enc x)) (k := fun x => enc x) (fun x _ => rfl)]; rfl
  · simp only [itL, pre_at p h, obL]
  · simp only [HIt.many, pre_at p h, obL, List.length_map]
  · simp only [HIt.at, pre_at p2 h, obL, List.map_map]; rfl
def refs (h0 : HHp) (t : Nat) : HOb := .lst ((List.range t).map fun j => .r (h0.length + j))
/-- the heap behind i things -/
def heapG (hs : List Nat) (h0 : HHp) (i : Nat) : HHp := h0 ++ (heapF hs i ++ [refs h0 (topF hs)])
theorem heapG_pre {hs : List Nat} {h0 : HHp} {i : Nat} : h0 <+: heapG hs h0 i := List.prefix_append _ _
theorem heapF_len {hs : List Nat} {i : Nat} : (heapF hs i).length = topF hs := by simp [heapF]
theorem heapG_at {hs : List Nat} {h0 : HHp} {i j : Nat} (h : j < topF hs) : (heapG hs h0 i)[h0.length + j]? = some (obL (idxF hs i j)) := by
  unfold heapG
  rw [List.getElem?_append_right (Nat.le_add_right _ _), Nat.add_sub_cancel_left, List.getElem?_append_left (by rw [heapF_len]; exact h)]
  simp [heapF, h]
theorem heapG_last {hs : List Nat} {h0 : HHp} {i : Nat} : (heapG hs h0 i)[h0.length + topF hs]? = some (refs h0 (topF hs)) := by
  unfold heapG
  rw [List.getElem?_append_right (Nat.le_add_right _ _), Nat.add_sub_cancel_left, List.getElem?_append_right (by rw [heapF_len]; exact Nat.le_refl _), heapF_len, Nat.sub_self]; rfl
theorem byhomes_comp {x : HV} {hs : List Nat} {h0 : HHp} (rd : Rd1 x hs h0) (ht : topF hs ≤ 1000) {o1 o2 o3 : Option HV} : evH (Pr.tab n) (.comp [3] (.nm 3) (.rng [0] (.rng1 (.op .add (.mxd (.var 0) (.neg (.cint 1))) (.cint 1)))) [] .none (.lst .nil)) [some x, o1, o2, o3] h0 =
    .ok (.r (h0.length + topF hs), heapG hs h0 0) := by
  have hm := maxd_enc hs
  have hsm : smallR 0 (topF hs : Int) = true := by unfold smallR; apply decide_eq_true; omega
  have hx : (some x).bind (deref h0 60) = some (enc hs) := rd.see h0 (List.prefix_refl _)
  have e1 : evHI (Pr.tab n) (.rng [0] (.rng1 (.op .add (.mxd (.var 0) (.neg (.cint 1))) (.cint 1)))) [some x, o1, o2, o3] h0 = .ok (.fx ((rngC 0 1 (topF hs)).map HV.p), h0) := by
    simp only [evHI_rng, seeG_cons, hx]
    simp [hm, hsm]
  have hlen : (rngC 0 1 (topF hs)).length = topF hs := rngC_len _ _ _
  obtain ⟨ys, h', r1, r2, r3⟩ := compH_fx (bind := fun h ρ v => bindH h (.nm 3) ρ v) (c := fun ρ h => evC (Pr.tab n) .none (seeH [] h ρ)) (el := fun ρ h => evH (Pr.tab n) (.lst .nil) ρ h) (ρ := wipeH [some x, o1, o2, o3] [3]) (J := .fx ((rngC 0 1 (topF hs)).map HV.p)) (all := (rngC 0 1 (topF hs)).map HV.p)
    (fun pre acc h => acc = (List.range pre.length).map (fun j => HV.r (h0.length + j)) ∧ h = h0 ++ List.replicate pre.length (HOb.lst [])) (fun _ _ _ _ => rfl) ((rngC 0 1 (topF hs)).map HV.p) [] (topF hs + 1) [] h0 rfl (by simp [hlen]) ⟨rfl, by simp⟩ (by
      rintro pre v post acc h ha ⟨rfl, rfl⟩
      refine ⟨_, bindH_nm, .inr ⟨by simp, .r (h0.length + pre.length), h0 ++ List.replicate pre.length (HOb.lst []) ++ [.lst []], by simp, ?_, ?_⟩⟩
      · rw [List.length_append, List.length_singleton, List.range_succ, List.map_append]; rfl
      · rw [List.length_append, List.length_singleton, List.replicate_succ', List.append_assoc])
  rw [List.nil_append, List.length_map, hlen] at r2
  rw [List.length_map, hlen] at r3
  subst r2 r3
  have hz : heapF hs 0 = List.replicate (topF hs) (HOb.lst []) := by
    unfold heapF
    have : ∀ j, obL (idxF hs 0 j) = HOb.lst [] := fun j => rfl
    simp only [this]
    rw [List.map_const', List.length_range]
  have hl2 : (.fx ((rngC 0 1 (topF hs)).map HV.p) : HIt).many h0 ≤ lineN := by simp [HIt.many, hlen, lineN]; omega
  rw [evH_comp, e1, okb, if_pos hl2]
  have hm2 : (.fx ((rngC 0 1 (topF hs)).map HV.p) : HIt).many h0 + 1 = topF hs + 1 := by simp [HIt.many, hlen]
  rw [hm2]
  simp only [List.length_nil] at r1
  simp only [r1, okb, heapG, refs, hz, List.length_replicate, List.length_append, List.append_assoc]
theorem zip_at {α β : Type} (F : α × Nat → β) (l : List α) (i : Nat) : (l.zipIdx.map F)[i]? = (l[i]?).map fun v => F (v, i) := by
  rw [List.getElem?_map, List.getElem?_zipIdx]
  cases l[i]? <;> simp
theorem r_byhomes {x : HV} {hs : List Nat} {h0 : HHp} (rd : Rd1 x hs h0) (ht : topF hs ≤ 1000) (hl : hs.length ≤ 1000) : runH (Pr.tab n) D84 [x] h0 = .ok (.r (h0.length + topF hs), heapG hs h0 hs.length) := by
  rw [runH_eq rfl]
  have hlt : ∀ i, i < hs.length → hs.getD i 0 < topF hs := fun i hi => by
    have : hs.getD i 0 ∈ hs := by simp [List.getD, hi]
    exact lt_topG this
  obtain ⟨J, hit, hmany, hat⟩ := rd.it (heapG hs h0 0) heapG_pre
  obtain ⟨ρ', h', r1, a2, a3, rfl, rfl⟩ := forH_fx (bind := fun h ρ v => bindH h (.tp (.cons (.nm 2) (.cons (.nm 3) .nil))) ρ v) (body := fun ρ h => exHs (Pr.tab n) (.cons (.app (.ix (.var 1) [3] (.var 3)) (.var 2)) .nil) ρ h) (J := .en J)
    (all := ((hs.map enc).map HV.p).zipIdx.map fun p => .t [.p (.int p.2), p.1]) (fun pre ρ h => ∃ a2 a3, ρ = [some x, some (.r (h0.length + topF hs)), a2, a3] ∧ h = heapG hs h0 pre.length)
    (by
      rintro pre ρ h ⟨a2, a3, rfl, rfl⟩
      simp only [HIt.at, hat _ pre.length heapG_pre, okb]
      rw [zip_at])
    (((hs.map enc).map HV.p).zipIdx.map fun p => .t [.p (.int p.2), p.1]) [] (hs.length + 1) [some x, some (.r (h0.length + topF hs)), none, none] (heapG hs h0 0) rfl (by simp) ⟨none, none, rfl, rfl⟩ (by
      rintro pre v post ρ h ha ⟨a2, a3, rfl, rfl⟩
      have hpl : pre.length < hs.length := by have := congrArg List.length ha; simp at this; omega
      have hv : v = .t [.p (.int pre.length), .p (enc (hs.getD pre.length 0))] := by
        have e : (((hs.map enc).map HV.p).zipIdx.map fun p => HV.t [.p (.int p.2), p.1])[pre.length]? = some v := by rw [ha]; simp
        rw [List.getElem?_map, List.getElem?_zipIdx] at e
        simp [hpl] at e
        rw [← e]; simp [List.getD, hpl]
      subst hv
      have hj := hlt pre.length hpl
      generalize hJ : hs.getD pre.length 0 = j at *
      have q1 : evH (Pr.tab n) (.ix (.var 1) [3] (.var 3)) [some x, some (.r (h0.length + topF hs)), some (.p (.int pre.length)), some (.p (enc j))] (heapG hs h0 pre.length) = .ok (.r (h0.length + j), heapG hs h0 pre.length) := by
        have hx : ixH (heapG hs h0 pre.length) (.r (h0.length + topF hs)) (.int j) = .ok (.r (h0.length + j)) := by
          simp only [ixH, heapG_last, refs]
          simp [ofO, L2.atI, L2.ixN, hj]
        simp [enc_nat, hx]
      have q2 := exH_app (T := Pr.tab n) (a := .ix (.var 1) [3] (.var 3)) (e := .var 2) (z := (.p (.int pre.length), heapG hs h0 pre.length)) (l := (idxF hs pre.length j).map fun x => .p (enc x)) (ys := (idxF hs pre.length j).map fun x => .p (enc x)) (n := h0.length + j) q1
        (by simp only [lstH, heapG_at hj, obL]) (by simp) rfl (by simp only [heapG_at hj, obL]) (by
          rw [List.length_map]
          refine Nat.lt_of_le_of_lt (List.length_filter_le _ _) ?_
          rw [List.length_range]; unfold lineN; omega)
      refine ⟨[some x, some (.r (h0.length + topF hs)), some (.p (.int pre.length)), some (.p (enc j))], heapG hs h0 (pre.length + 1), ?_, _, _, rfl, by simp⟩
      simp only [bindH_tp, flatH_tp, itemsH_t, okb, flatHs_cons, flatH_nm, flatHs_nil, setsH_cons, setsH_nil, List.append_nil, List.cons_append, List.nil_append, List.set_cons_succ, List.set_cons_zero, exHs_cons, q2, seqH_nx, exHs_nil]
      unfold heapG
      rw [heapF_succ hs _ hpl, hJ, List.set_append_right _ _ (Nat.le_add_right _ _), Nat.add_sub_cancel_left, List.set_append_left _ _ (by rw [heapF_len]; exact hj)]
      simp [obL, enc_nat])
  rw [List.length_map, List.length_zipIdx, List.length_map, List.length_map] at r1
  have hc := byhomes_comp n rd ht (o1 := none) (o2 := none) (o3 := none)
  have el : exH (Pr.tab n) (.loop (.tp (.cons (.nm 2) (.cons (.nm 3) .nil))) (.enum (.var 0)) (.cons (.app (.ix (.var 1) [3] (.var 3)) (.var 2)) .nil)) [some x, some (.r (h0.length + topF hs)), none, none] (heapG hs h0 0) = .ok (.nx, [some x, some (.r (h0.length + topF hs)), a2, a3], heapG hs h0 hs.length) := by
    rw [exH_loop]
    simp only [evHI_enum, evH_var, List.getElem?_cons_zero, okb, hit, HIt.many, hmany]
    exact r1
  have h0' : [x].map some ++ List.replicate (D84.ns - D84.np) none = [some x, none, none, none] := rfl
  simp only [D84] at h0' ⊢
  rw [h0']
  simp only [exHs_cons, exH_asg, hc, okb, bindH_nm, List.set_cons_succ, List.set_cons_zero, seqH_nx, el, exH_ret, evH_var, List.getElem?_cons_succ, List.getElem?_cons_zero, seqH_rt, finH_rt]
/-- a grouping, by what may be read of it in every later heap -/
theorem deref_byhomes {hs : List Nat} {h0 : HHp} {h' : HHp} (p : heapG hs h0 hs.length <+: h') (k : Nat) : deref h' (k + 3) (.r (h0.length + topF hs)) = some (enc (byHomes hs)) := by
  have e1 := pre_at p heapG_last
  unfold deref
  rw [e1]
  show (omap (deref h' (k + 2)) ((List.range (topF hs)).map fun j => HV.r (h0.length + j))).map Val.lst = _
  rw [omap_map (k := fun j => enc (idxF hs hs.length j)) (fun j hj => ?_)]
  · simp [byHomes, enc_lst]
  · have e2 := pre_at p (heapG_at (i := hs.length) (List.mem_range.mp hj))
    unfold deref
    rw [e2]
    show ((omap (deref h' (k + 1)) ((idxF hs hs.length j).map fun x => HV.p (enc x))).map Val.lst) = _
    rw [omap_map (g := fun x => HV.p (enc x)) (k := fun x => enc x) (fun x _ => rfl)]; rfl
theorem c_byhomes {hs : List Nat} (ht : topF hs ≤ 1000) (hl : hs.length ≤ 1000) : callP Pr (n + 1) 84 [enc hs] = .ok (enc (byHomes hs)) := by
  rw [callP_pure (d := D84) rfl rfl, callH_succ Pr n 84 _ _ rfl]
  show (runH (Pr.tab n) D84 [HV.p (enc hs)] [] >>= _) = _
  rw [r_byhomes n (x := .p (enc hs)) rd1_p ht hl, okb]
  rw [show (60 : Nat) = 57 + 3 from rfl, deref_byhomes (List.prefix_refl _)]; rfl
end VM

set_option Elab.async false
set_option linter.all false
set_option maxRecDepth 100000
set_option maxHeartbeats 2000000
/-! LibG4: all groupings of a kind. -/
namespace VM
open PySem
variable (n : Nat)
def moreF (h : List Nat) : List (List Nat) := (List.range (topF h + 1)).map fun j => h ++ [j]
def allHomes : Nat → List (List Nat)
  | 0 => [[]]
  | m + 1 => (allHomes m).flatMap moreF
theorem allhomes_run : ∀ m : Nat, m < 7 → okSame ((callsK Pr 1).1 83 [.int (m : Int)]) (enc (allHomes m)) = true := by
  intro m hm
  have : m = 0 ∨ m = 1 ∨ m = 2 ∨ m = 3 ∨ m = 4 ∨ m = 5 ∨ m = 6 := by omega
  rcases this with rfl | rfl | rfl | rfl | rfl | rfl | rfl <;> decide +kernel
theorem c_allhomes {m : Nat} (hm : m ≤ 6) : callP Pr (n + 1) 83 [.int m] = .ok (enc (allHomes m)) := callK_up (n := 1) (ok_of (allhomes_run m (by omega))) (by omega)
end VM

set_option Elab.async false
set_option linter.all false
set_option maxRecDepth 100000
set_option maxHeartbeats 2000000
/-! LibG5: groupings_of on the machine. -/
namespace VM
open PySem
variable (n : Nat)
def groupingsF (k : Kind) (m : Nat) : List Grp := ((allHomes m).map byHomes).filter (ofKindF k)
/-- what x reads as in every later heap -/
def Dr (x : HV) (v : Val) (h : HHp) (d : Nat) : Prop := ∀ h', h <+: h' → ∀ k, deref h' (k + d) x = some v
theorem Dr.later {x : HV} {v : Val} {h h' : HHp} {d : Nat} (r : Dr x v h d) (p : h <+: h') : Dr x v h' d := fun h2 p2 k => r h2 (p.trans p2) k
theorem homes_ok : ∀ m, m < 7 → ((allHomes m).all fun hs => decide (topF hs ≤ 6) && decide (hs.length = m) && (byHomes hs).all (fun l => !l.isEmpty && decide (l.length ≤ 6))) = true ∧ (allHomes m).length ≤ 203 := by
  intro m hm
  have : m = 0 ∨ m = 1 ∨ m = 2 ∨ m = 3 ∨ m = 4 ∨ m = 5 ∨ m = 6 := by omega
  rcases this with rfl | rfl | rfl | rfl | rfl | rfl | rfl <;> decide +kernel
theorem homes_of {m : Nat} (hm : m ≤ 6) {hs : List Nat} (h : hs ∈ allHomes m) : topF hs ≤ 6 ∧ hs.length = m ∧ Gok (byHomes hs) ∧ (byHomes hs).length ≤ 6 := by
  have := List.all_eq_true.mp (homes_ok m (by omega)).1 hs h
  simp only [Bool.and_eq_true, decide_eq_true_eq, List.all_eq_true, Bool.not_eq_true', List.isEmpty_eq_false_iff] at this
  obtain ⟨⟨h1, h2⟩, h3⟩ := this
  have hl : (byHomes hs).length = topF hs := by simp [byHomes]
  refine ⟨h1, h2, ⟨by rw [hl]; unfold lineN; omega, fun l hl => ⟨(h3 l hl).1, by have := (h3 l hl).2; unfold lineN; omega⟩⟩, by omega⟩
/-- a list of groupings, made one by one -/
theorem inner_comp {m : Nat} (hm : m ≤ 6) {h0 : HHp} {o1 o2 o3 : Option HV} : ∃ (xs : List HV) (h1 : HHp), evH (Pr.tab (n + 1)) (.comp [3] (.nm 3) (.seq (.pu [0] (.call 83 (.cons (.var 0) .nil)))) [] .none (.call 84 (.cons (.var 3) .nil))) [some (.p (.int m)), o1, o2, o3] h0 =
      .ok (.r h1.length, h1 ++ [.lst xs]) ∧ h0 <+: h1 ∧ xs.length = (allHomes m).length ∧ ∀ (i : Nat) (hs : List Nat), (allHomes m)[i]? = some hs → ∃ (j : Nat) (ys : List HV), xs[i]? = some (HV.r j) ∧ h0.length ≤ j ∧ h1[j]? = some (.lst ys) ∧ ys.length ≤ 6 ∧ Dr (HV.r j) (enc (byHomes hs)) h1 3 := by
  have hc := c_allhomes n hm
  have e1 : evHI (Pr.tab (n + 1)) (.seq (.pu [0] (.call 83 (.cons (.var 0) .nil)))) [some (.p (.int m)), o1, o2, o3] h0 = .ok (.fx (((allHomes m).map enc).map HV.p), h0) := by
    have ho : onlyP [0] [some (.p (.int m)), o1, o2, o3] = true := rfl
    have hs : itS h0 (.p (enc (allHomes m))) = .ok (.fx (((allHomes m).map enc).map HV.p)) := rfl
    simp [hc, ho, hs, -List.map_map]
  have hlen : (allHomes m).length ≤ 203 := (homes_ok m (by omega)).2
  obtain ⟨ys, h1, r1, r2, r3, r4⟩ := compH_fx (bind := fun h ρ v => bindH h (.nm 3) ρ v) (c := fun ρ h => evC (Pr.tab (n + 1)) .none (seeH [] h ρ)) (el := fun ρ h => evH (Pr.tab (n + 1)) (.call 84 (.cons (.var 3) .nil)) ρ h) (ρ := wipeH [some (.p (.int m)), o1, o2, o3] [3]) (J := .fx (((allHomes m).map enc).map HV.p)) (all := ((allHomes m).map enc).map HV.p)
    (fun pre acc h => h0 <+: h ∧ acc.length = pre.length ∧ ∀ (i : Nat) (hs : List Nat), i < pre.length → (allHomes m)[i]? = some hs → ∃ (j : Nat) (ys : List HV), acc[i]? = some (HV.r j) ∧ h0.length ≤ j ∧ h[j]? = some (.lst ys) ∧ ys.length ≤ 6 ∧ Dr (HV.r j) (enc (byHomes hs)) h 3)
    (fun _ _ _ _ => rfl) (((allHomes m).map enc).map HV.p) [] ((allHomes m).length + 1) [] h0 rfl (by simp) ⟨List.prefix_refl _, rfl, fun i hs hi => by simp at hi⟩ (by
      rintro pre v post acc h ha ⟨p0, la, inv⟩
      have hpl : pre.length < (allHomes m).length := by have := congrArg List.length ha; simp at this; omega
      have hv : v = .p (enc ((allHomes m)[pre.length])) := by
        have e : (((allHomes m).map enc).map HV.p)[pre.length]? = some v := by rw [ha]; simp
        rw [List.getElem?_map, List.getElem?_map, List.getElem?_eq_getElem hpl] at e
        exact (Option.some.inj e).symm
      subst hv
      obtain ⟨g1, g2, g3, g4⟩ := homes_of hm (List.getElem_mem hpl)
      generalize hH : (allHomes m)[pre.length] = hs at *
      have rb := r_byhomes n (x := .p (enc hs)) (hs := hs) (h0 := h) rd1_p (by omega) (by omega)
      refine ⟨_, bindH_nm, .inr ⟨by simp, .r (h.length + topF hs), heapG hs h hs.length, ?_, p0.trans heapG_pre, by simp [la], fun i hs' hi he => ?_⟩⟩
      · simp only [evH_call, evHs_cons, evH_var, wipeH, List.set_cons_succ, List.set_cons_zero, List.getElem?_cons_succ, List.getElem?_cons_zero, okb, evHs_nil]
        show callH Pr (n + 1) 84 [HV.p (enc hs)] h = _
        rw [callH_succ Pr n 84 _ _ rfl, rb]
      · simp only [List.length_append, List.length_singleton] at hi
        by_cases e : i < pre.length
        · obtain ⟨j, ys, a1, a0, a2, a3, a4⟩ := inv i hs' e he
          exact ⟨j, ys, by rw [List.getElem?_append_left (by omega)]; exact a1, a0, pre_at heapG_pre a2, a3, a4.later heapG_pre⟩
        · have e2 : i = pre.length := by omega
          subst e2
          rw [List.getElem?_eq_getElem hpl, hH] at he
          cases he
          refine ⟨h.length + topF hs, (List.range (topF hs)).map fun j => .r (h.length + j), by rw [List.getElem?_append_right (by omega), la, Nat.sub_self]; rfl, Nat.le_trans p0.length_le (Nat.le_add_right _ _), heapG_last, by simp; omega, fun h' p k => deref_byhomes p k⟩)
  rw [List.nil_append] at r3 r4
  rw [List.length_map, List.length_map] at r3
  have hmany : (HIt.fx (((allHomes m).map enc).map HV.p)).many h0 = (allHomes m).length := by simp [HIt.many]
  refine ⟨ys, h1, ?_, r2, r3, fun i hs he => r4 i hs ?_ he⟩
  · rw [evH_comp, e1, okb]
    simp only [hmany]
    rw [if_pos (by unfold lineN; omega)]
    simp only [List.length_nil] at r1
    rw [r1]; rfl
  · rw [List.length_map, List.length_map]; exact (List.getElem?_eq_some_iff.mp he).1
/-- how what is told lies in the heap -/
structure GsIn (lo : Nat) (x : HV) (gs : List Grp) (h : HHp) : Prop where
  ex : ∃ (N : Nat) (xs : List HV), x = .r N ∧ lo ≤ N ∧ h[N]? = some (.lst xs) ∧ xs.length = gs.length ∧ ∀ (i : Nat) (g : Grp), gs[i]? = some g → ∃ (j : Nat) (ys : List HV), xs[i]? = some (HV.r j) ∧ lo ≤ j ∧ j < N ∧ h[j]? = some (.lst ys) ∧ ys.length ≤ 6 ∧ Dr (HV.r j) (enc g) h 3
theorem GsIn.dr {x : HV} {gs : List Grp} {h : HHp} {lo : Nat} (g : GsIn lo x gs h) : Dr x (enc gs) h 4 := by
  obtain ⟨N, xs, rfl, _, hN, hl, hx⟩ := g.ex
  intro h' p k
  have e1 := pre_at p hN
  unfold deref
  rw [e1]
  show (omap (deref h' (k + 3)) xs).map Val.lst = _
  have key : omap (deref h' (k + 3)) xs = some (gs.map enc) := by
    clear e1 hN
    have : ∀ (xs : List HV) (gs : List Grp), xs.length = gs.length → (∀ (i : Nat) (g : Grp), gs[i]? = some g → ∃ y, xs[i]? = some y ∧ deref h' (k + 3) y = some (enc g)) → omap (deref h' (k + 3)) xs = some (gs.map enc) := by
      intro xs
      induction xs with
      | nil => intro gs hl _; cases gs with
        | nil => rfl
        | cons => simp at hl
      | cons a xs ih =>
        intro gs hl hh
        cases gs with
        | nil => simp at hl
        | cons b gs =>
          obtain ⟨y, h1, h2⟩ := hh 0 b rfl
          simp at h1; subst h1
          simp only [omap, h2, ih gs (by simpa using hl) (fun i g hg => by simpa using hh (i + 1) g (by simpa using hg)), List.map_cons]
    refine this xs gs hl fun i g hg => ?_
    obtain ⟨j, ys, a1, _, _, _, _, a4⟩ := hx i g hg
    exact ⟨_, a1, a4 h' p k⟩
  rw [key]; rfl
theorem h_groupingsof (k : Kind) {m : Nat} (hm : m ≤ 6) (h0 : HHp) : ∃ x h1, callH Pr (n + 3) 85 [.p (.int m), .p (kv k)] h0 = .ok (x, h1) ∧ h0 <+: h1 ∧ GsIn h0.length x (groupingsF k m) h1 := by
  obtain ⟨xs, h1, e1, p1, l1, inv⟩ := inner_comp (n + 1) hm (h0 := h0) (o1 := some (.p (kv k))) (o2 := none) (o3 := none)
  have hlen : (allHomes m).length ≤ 203 := (homes_ok m (by omega)).2
  have hN : (h1 ++ [HOb.lst xs])[h1.length]? = some (.lst xs) := by simp
  have pN : h1 <+: h1 ++ [HOb.lst xs] := List.prefix_append _ _
  obtain ⟨ys, h2, r1, r2, r3⟩ := compH_fx (bind := fun h ρ v => bindH h (.nm 2) ρ v) (c := fun ρ h => evC (Pr.tab (n + 2)) (.some (.call 77 (.cons (.var 2) (.cons (.var 1) .nil)))) (seeH [1, 2] h ρ)) (el := fun ρ h => evH (Pr.tab (n + 2)) (.var 2) ρ h) (ρ := wipeH [some (.p (.int m)), some (.p (kv k)), none, none] [2]) (J := .ls h1.length) (all := xs)
    (fun pre acc h => h = h1 ++ [HOb.lst xs] ∧ acc.length = (((allHomes m).take pre.length).map byHomes |>.filter (ofKindF k)).length ∧ ∀ (i : Nat) (g : Grp), (((allHomes m).take pre.length).map byHomes |>.filter (ofKindF k))[i]? = some g → ∃ (j : Nat) (ys : List HV), acc[i]? = some (HV.r j) ∧ h0.length ≤ j ∧ h1[j]? = some (.lst ys) ∧ ys.length ≤ 6 ∧ Dr (HV.r j) (enc g) h1 3)
    (by rintro pre acc h ⟨rfl, _⟩; simp only [HIt.at, hN]) xs [] (xs.length + 1) [] (h1 ++ [HOb.lst xs]) rfl (by simp) ⟨rfl, by simp, fun i g hg => by simp at hg⟩ (by
      rintro pre v post acc h ha ⟨rfl, la, inv2⟩
      have hpl : pre.length < (allHomes m).length := by have := congrArg List.length ha; simp at this; omega
      have he : (allHomes m)[pre.length]? = some (allHomes m)[pre.length] := List.getElem?_eq_getElem hpl
      obtain ⟨g1, g2, g3, g4⟩ := homes_of hm (List.getElem_mem hpl)
      generalize hH : (allHomes m)[pre.length] = hs at *
      obtain ⟨j, zs, a1, a0, a2, a3, a4⟩ := inv pre.length hs he
      have hv : v = .r j := by
        have e : xs[pre.length]? = some v := by rw [ha]; simp
        rw [a1] at e; exact (Option.some.inj e).symm
      subst hv
      have ck := c_ofkind n k g3
      have hd : deref (h1 ++ [HOb.lst xs]) 60 (.r j) = some (enc (byHomes hs)) := a4 _ pN 57
      have htk : (allHomes m).take (pre ++ [HV.r j]).length = (allHomes m).take pre.length ++ [hs] := by
        rw [List.length_append, List.length_singleton, List.take_add_one, he]; rfl
      refine ⟨_, bindH_nm, ?_⟩
      have hc : evC (Pr.tab (n + 2)) (.some (.call 77 (.cons (.var 2) (.cons (.var 1) .nil)))) (seeH [1, 2] (h1 ++ [HOb.lst xs]) ((wipeH [some (.p (.int m)), some (.p (kv k)), none, none] [2]).set 2 (some (.r j)))) = .ok (ofKindF k (byHomes hs)) := by
        simp [wipeH, hd, ck]
      cases hk : ofKindF k (byHomes hs) with
      | false =>
        refine .inl ⟨by rw [hc, hk], rfl, ?_, ?_⟩
        · rw [htk, List.map_append, List.filter_append]; simp [hk, la]
        · rw [htk, List.map_append, List.filter_append]; simpa [hk] using inv2
      | true =>
        have hf : (((allHomes m).take (pre ++ [HV.r j]).length).map byHomes).filter (ofKindF k) = (((allHomes m).take pre.length).map byHomes).filter (ofKindF k) ++ [byHomes hs] := by
          rw [htk, List.map_append, List.filter_append]; simp [hk]
        refine .inr ⟨by rw [hc, hk], .r j, h1 ++ [HOb.lst xs], by simp [wipeH], rfl, ?_, ?_⟩
        · rw [hf, List.length_append, List.length_append, la]; rfl
        · intro i g hg
          rw [hf] at hg
          by_cases hi : i < acc.length
          · rw [List.getElem?_append_left (by omega)] at hg
            rw [List.getElem?_append_left hi]
            exact inv2 i g hg
          · have hi2 : i = acc.length := by
              have := (List.getElem?_eq_some_iff.mp hg).1
              rw [List.length_append, ← la] at this
              simp at this; omega
            subst hi2
            rw [List.getElem?_append_right (by omega), la, Nat.sub_self] at hg
            simp at hg; subst hg
            exact ⟨j, zs, by simp, a0, a2, a3, a4⟩)
  rw [List.nil_append] at r3
  subst r2
  have htk : (allHomes m).take xs.length = allHomes m := List.take_of_length_le (by omega)
  rw [htk] at r3
  have hr : callH Pr (n + 3) 85 [.p (.int m), .p (kv k)] h0 = .ok (.r (h1 ++ [HOb.lst xs]).length, h1 ++ [HOb.lst xs] ++ [HOb.lst ys]) := by
    rw [callH_eq (d := D85) rfl rfl]
    have hs : itS (h1 ++ [HOb.lst xs]) (.r h1.length) = .ok (.ls h1.length) := by simp only [itS, itL, hN]
    have hmany : (HIt.ls h1.length).many (h1 ++ [HOb.lst xs]) = xs.length := by simp only [HIt.many, hN]
    have h0' : [HV.p (.int m), HV.p (kv k)].map some ++ List.replicate (D85.ns - D85.np) none = [some (.p (.int m)), some (.p (kv k)), none, none] := rfl
    simp only [D85] at h0' ⊢
    rw [h0']
    simp only [exHs_cons, exH_ret]
    rw [evH_comp]
    simp only [evHI_seq, e1, okb, hs, hmany]
    rw [if_pos (by unfold lineN; omega)]
    simp only [List.length_nil] at r1
    rw [r1]
    simp only [okb, seqH_rt, finH_rt]
  refine ⟨_, _, hr, ?_, ⟨_, ys, rfl, Nat.le_trans p1.length_le (by simp), by simp, r3.1, fun i g hg => ?_⟩⟩
  · exact (p1.trans pN).trans (List.prefix_append _ _)
  · obtain ⟨j, zs, a1, a0, a2, a3, a4⟩ := r3.2 i g hg
    have pp : h1 <+: h1 ++ [HOb.lst xs] ++ [HOb.lst ys] := pN.trans (List.prefix_append _ _)
    refine ⟨j, zs, a1, a0, ?_, pre_at pp a2, a3, a4.later pp⟩
    have := (List.getElem?_eq_some_iff.mp a2).1
    simp; omega
theorem c_groupingsof (k : Kind) {m : Nat} (hm : m ≤ 6) : callP Pr (n + 3) 85 [.int m, kv k] = .ok (enc (groupingsF k m)) := by
  obtain ⟨x, h1, e, _, g⟩ := h_groupingsof n k hm []
  rw [callP_pure (d := D85) rfl rfl]
  show (callH Pr (n + 3) 85 [HV.p (.int m), HV.p (kv k)] [] >>= _) = _
  rw [e, okb]
  have hd : deref h1 (56 + 4) x = some (enc (groupingsF k m)) := g.dr _ (List.prefix_refl _) 56
  show ofO (deref h1 (56 + 4) x) = _
  rw [hd]; rfl
end VM

set_option Elab.async false
set_option linter.all false
set_option maxRecDepth 100000
set_option maxHeartbeats 2000000
/-! LibG6: the law's own groupings. -/
namespace VM
open PySem
variable (n : Nat)
theorem max_enc {l : List Nat} (h : l ≠ []) : bi1 .max1 [enc l] = .ok (.int ((topF l : Int) - 1)) := by
  have h0 : asInts (l.map enc) = .ok (l.map fun (x : Nat) => (x : Int)) := asInts_map (f := fun (x : Nat) => (x : Int))
  have h2 := maxd_enc l
  rw [enc_lst] at h2 ⊢
  simp only [bi1, h0, okb] at h2 ⊢
  rw [if_neg (by simpa using h)] at h2
  exact h2
def stepL (m : List Nat) (fs : Nat × Nat) : Bool := !decide (insF fs.1 fs.2 m = []) && decide (fs.2 + 1 < topF m)
def someL (g m : List Nat) : Bool := (g.zip g.tail).any (stepL m)
def restF (g : Grp) (i : Nat) : Grp := g.take i ++ g.drop (i + 1)
def hitL (g : Grp) (p : List Nat × Nat) : Bool := (restF g p.2).any (someL p.1)
def nestedL (g : Grp) : Bool := !(g.zipIdx 0).any (hitL g)
theorem ins_ne {x y : Nat} {m : List Nat} (h : insF x y m ≠ []) : m ≠ [] := fun z => h (by subst z; rfl)
theorem nest1 {g : Grp} {i : Nat} {l m : List Nat} (hm : m.length ≤ lineN) (ρ : SEnv) (hρ : ∃ a4 a5 a6 a7, ρ = [.sh (enc g), .sh (.int i), .sh (enc l), .sh (enc m), a4, a5, a6, a7]) :
    (someL l m = false → ∃ ρ', forGo (bindS (.tp (.cons (.nm 4) (.cons (.nm 5) .nil)))) (exs (Pr.tab n) ((((D65.body.at 0).inner.at 0).inner.at 0).inner)) (zipV (l.map enc) ((l.tail).map enc)) ρ = .ok (.nx, ρ') ∧ ∃ a4 a5 a6 a7, ρ' = [.sh (enc g), .sh (.int i), .sh (enc l), .sh (enc m), a4, a5, a6, a7]) ∧
    (someL l m = true → ∃ ρ', forGo (bindS (.tp (.cons (.nm 4) (.cons (.nm 5) .nil)))) (exs (Pr.tab n) ((((D65.body.at 0).inner.at 0).inner.at 0).inner)) (zipV (l.map enc) ((l.tail).map enc)) ρ = .ok (.rt (.bl false), ρ')) := by
  rw [zipV_map]
  refine forGo_find (fun p : Nat × Nat => .tup [enc p.1, enc p.2]) (stepL m) (.bl false) (fun ρ => ∃ a4 a5 a6 a7, ρ = [.sh (enc g), .sh (.int i), .sh (enc l), .sh (enc m), a4, a5, a6, a7]) _ ρ hρ ?_
  rintro ⟨x, y⟩ hx ρ ⟨a4, a5, a6, a7, rfl⟩
  have e1 := fun v6 v7 => e_inside (T := Pr.tab n) (m := m) (e := [some (enc g), some (.int i), some (enc l), some (enc m), some (.int x), some (.int y), v6, v7]) (i3 := 3) (i4 := 4) (i5 := 5) (i7 := 7) (x := x) (y := y) hm rfl (fun _ => rfl) (fun _ => rfl) (fun _ => rfl)
  have e3 : op2 .ne (enc (insF x y m)) (.lst []) = .ok (.bl (!decide (insF x y m = []))) := op_ne_enc (α := List Nat) (by decide) _ []
  have key : (bindS (.tp (.cons (.nm 4) (.cons (.nm 5) .nil))) [.sh (enc g), .sh (.int i), .sh (enc l), .sh (enc m), a4, a5, a6, a7] (.tup [enc x, enc y]) >>= exs (Pr.tab n) ((((D65.body.at 0).inner.at 0).inner.at 0).inner)) =
      (if stepL m (x, y) then .ok (.rt (.bl false), [.sh (enc g), .sh (.int i), .sh (enc l), .sh (enc m), .sh (.int x), .sh (.int y), .sh (enc (insF x y m)), a7]) else .ok (.nx, [.sh (enc g), .sh (.int i), .sh (enc l), .sh (enc m), .sh (.int x), .sh (.int y), .sh (enc (insF x y m)), a7])) := by
    simp only [D65, SB.at, SS.inner, enc_nat]
    simp [e1, -ev_bi]
    cases hb : decide (insF x y m = []) with
    | true =>
      rw [hb] at e3
      simp only [stepL, hb]
      simp [e3]
    | false =>
      rw [hb] at e3
      have h2 := max_enc (ins_ne (of_decide_eq_false hb))
      have h3 : ((y : Int) < (topF m : Int) - 1) ↔ (y + 1 < topF m) := by omega
      simp only [stepL, hb]
      simp [e3, h2, h3]
  refine ⟨fun h => ⟨_, by rw [key, h]; rfl, _, _, _, _, rfl⟩, fun h => ⟨_, by rw [key, h]; rfl⟩⟩
theorem nest2 {g : Grp} {i : Nat} {l : List Nat} (hg : Gok g) (ρ : SEnv) (hρ : ∃ a3 a4 a5 a6 a7, ρ = [.sh (enc g), .sh (.int i), .sh (enc l), a3, a4, a5, a6, a7]) :
    (hitL g (l, i) = false → ∃ ρ', forGo (bindS (.nm 3)) (exs (Pr.tab n) (((D65.body.at 0).inner.at 0).inner)) ((restF g i).map enc) ρ = .ok (.nx, ρ') ∧ ∃ a3 a4 a5 a6 a7, ρ' = [.sh (enc g), .sh (.int i), .sh (enc l), a3, a4, a5, a6, a7]) ∧
    (hitL g (l, i) = true → ∃ ρ', forGo (bindS (.nm 3)) (exs (Pr.tab n) (((D65.body.at 0).inner.at 0).inner)) ((restF g i).map enc) ρ = .ok (.rt (.bl false), ρ')) := by
  refine forGo_find enc (someL l) (.bl false) (fun ρ => ∃ a3 a4 a5 a6 a7, ρ = [.sh (enc g), .sh (.int i), .sh (enc l), a3, a4, a5, a6, a7]) _ ρ hρ ?_
  rintro m hm ρ ⟨a3, a4, a5, a6, a7, rfl⟩
  have hmg : m ∈ g := by
    rcases List.mem_append.mp hm with h | h
    · exact List.mem_of_mem_take h
    · exact List.mem_of_mem_drop h
  have s1 : slV (enc l) (some 1) none = .ok (enc l.tail) := by have := slV_enc_from (l := l) (i := 1); rw [List.drop_one] at this; exact this
  obtain ⟨p1, p2⟩ := nest1 n (g := g) (i := i) (l := l) (m := m) (hg.2 m hmg).2 [.sh (enc g), .sh (.int i), .sh (enc l), .sh (enc m), a4, a5, a6, a7] ⟨_, _, _, _, rfl⟩
  simp only [D65, SB.at, SS.inner] at p1 p2 ⊢
  refine ⟨fun h => ?_, fun h => ?_⟩
  · obtain ⟨ρ', e, b4, b5, b6, b7, rfl⟩ := p1 h
    exact ⟨[.sh (enc g), .sh (.int i), .sh (enc l), .sh (enc m), b4, b5, b6, b7], by simp [-List.map_tail, s1, e], _, _, _, _, _, rfl⟩
  · obtain ⟨ρ', e⟩ := p2 h
    exact ⟨ρ', by simp [-List.map_tail, s1, e]⟩
theorem nest3 {g : Grp} (hg : Gok g) (ρ : SEnv) (hρ : ∃ a1 a2 a3 a4 a5 a6 a7, ρ = [.sh (enc g), a1, a2, a3, a4, a5, a6, a7]) :
    ((g.zipIdx 0).any (hitL g) = false → ∃ ρ', forGo (bindS (.tp (.cons (.nm 1) (.cons (.nm 2) .nil)))) (exs (Pr.tab n) ((D65.body.at 0).inner)) (enumV 0 (g.map enc)) ρ = .ok (.nx, ρ') ∧ ∃ a1 a2 a3 a4 a5 a6 a7, ρ' = [.sh (enc g), a1, a2, a3, a4, a5, a6, a7]) ∧
    ((g.zipIdx 0).any (hitL g) = true → ∃ ρ', forGo (bindS (.tp (.cons (.nm 1) (.cons (.nm 2) .nil)))) (exs (Pr.tab n) ((D65.body.at 0).inner)) (enumV 0 (g.map enc)) ρ = .ok (.rt (.bl false), ρ')) := by
  rw [enumV_map]
  refine forGo_find (fun p : List Nat × Nat => .tup [.int p.2, enc p.1]) (hitL g) (.bl false) (fun ρ => ∃ a1 a2 a3 a4 a5 a6 a7, ρ = [.sh (enc g), a1, a2, a3, a4, a5, a6, a7]) _ ρ hρ ?_
  rintro ⟨l, i⟩ hl ρ ⟨a1, a2, a3, a4, a5, a6, a7, rfl⟩
  have s1 : slV (enc g) none (some (i : Int)) = .ok (enc (g.take i)) := slV_enc_to
  have s2 : slV (enc g) (some ((i : Int) + 1)) none = .ok (enc (g.drop (i + 1))) := slV_enc_from (i := i + 1)
  have s3 : op2 .add (enc (g.take i)) (enc (g.drop (i + 1))) = .ok (enc (restF g i)) := add_enc (by have := hg.1; rw [List.length_take, List.length_drop]; omega)
  obtain ⟨p1, p2⟩ := nest2 n (g := g) (i := i) (l := l) hg [.sh (enc g), .sh (.int i), .sh (enc l), a3, a4, a5, a6, a7] ⟨_, _, _, _, _, rfl⟩
  simp only [D65, SB.at, SS.inner] at p1 p2 ⊢
  refine ⟨fun h => ?_, fun h => ?_⟩
  · obtain ⟨ρ', e, b3, b4, b5, b6, b7, rfl⟩ := p1 h
    exact ⟨[.sh (enc g), .sh (.int i), .sh (enc l), b3, b4, b5, b6, b7], by simp [s1, s2, s3, e], _, _, _, _, _, _, _, rfl⟩
  · obtain ⟨ρ', e⟩ := p2 h
    exact ⟨ρ', by simp [s1, s2, s3, e]⟩
theorem c_lawnested {g : Grp} (hg : Gok g) : callP Pr (n + 1) 65 [enc g] = .ok (.bl (nestedL g)) := by
  rw [call_eq (d := D65) rfl rfl]
  obtain ⟨p1, p2⟩ := nest3 n hg [.sh (enc g), .no, .no, .no, .no, .no, .no, .no] ⟨_, _, _, _, _, _, _, rfl⟩
  cases h : (g.zipIdx 0).any (hitL g) with
  | true =>
    obtain ⟨ρ', e⟩ := p2 h
    simp only [D65, SB.at, SS.inner] at e
    simp only [nestedL, h, Bool.not_true]
    simp [D65, e]
  | false =>
    obtain ⟨ρ', e, a1, a2, a3, a4, a5, a6, a7, rfl⟩ := p1 h
    simp only [D65, SB.at, SS.inner] at e
    simp only [nestedL, h, Bool.not_false]
    simp [D65, e]
/-- by rows: each group is a row of numbers -/
def rowL (l : List Nat) : Bool := decide (l = (List.range (l.getLastD 0 + 1 - l.headD 0)).map (l.headD 0 + ·))
def ofKindL : Kind → Grp → Bool
  | .nested, g => nestedL g
  | .all, _ => true
  | .rows, g => g.all rowL
theorem headD_mem {l : List Nat} (h : l ≠ []) : l.headD 0 ∈ l := by
  cases l with
  | nil => exact absurd rfl h
  | cons a l => exact List.mem_cons_self ..
theorem lastD_mem {l : List Nat} (h : l ≠ []) : l.getLastD 0 ∈ l := by
  rw [List.getLastD_eq_getLast?, List.getLast?_eq_some_getLast h]
  exact List.getLast_mem h
theorem lrngV_2 {i j : Int} (h1 : smallR i j = true) (h2 : decide ((j - i).toNat ≤ lineN) = true) : lrngV [.int i, .int j] = .ok (.lst (rngC i 1 (j - i).toNat)) := by
  simp only [lrngV, h1, h2, Bool.and_self, if_true]
theorem lrng_enc {a b : Nat} (ha : a ≤ 1000) (hb : b ≤ 1000) : lrngV [.int (a : Int), .int ((b : Int) + 1)] = .ok (enc ((List.range (b + 1 - a)).map (a + ·))) := by
  have hsm : smallR (a : Int) ((b : Int) + 1) = true := by unfold smallR; apply decide_eq_true; omega
  have hln : (((b : Int) + 1) - (a : Int)).toNat ≤ lineN := by unfold lineN; omega
  have e : (((b : Int) + 1) - (a : Int)).toNat = b + 1 - a := by omega
  have hln' : decide ((((b : Int) + 1) - (a : Int)).toNat ≤ lineN) = true := by rw [decide_eq_true_eq]; exact hln
  refine (lrngV_2 (i := (a : Int)) (j := (b : Int) + 1) hsm hln').trans ?_
  rw [e, enc_lst, List.map_map]
  unfold rngC
  refine congrArg Except.ok (congrArg Val.lst ?_)
  refine List.map_congr_left fun i _ => ?_
  simp [enc_nat]
theorem e_rowsL {T : Tab} {g : Grp} (hg : Gok g) (hb : ∀ l ∈ g, ∀ x ∈ l, x ≤ 1000) {v1 : Option Val} : ev T (.bi .all (.cons (.comp [2] (.nm 2) (.seq (.var 0)) .none (.op .eq (.var 2) (.lrng (.cons (.ix (.var 2) (.cint 0)) (.cons (.op .add (.ix (.var 2) (.neg (.cint 1))) (.cint 1)) .nil))))) .nil)) [some (enc g), v1, none] = .ok (.bl (g.all rowL)) := by
  have h := comp_all (T := T) (e := [some (enc g), v1, none]) (own := [2]) (tg := .nm 2) (it := .seq (.var 0)) (el := .op .eq (.var 2) (.lrng (.cons (.ix (.var 2) (.cint 0)) (.cons (.op .add (.ix (.var 2) (.neg (.cint 1))) (.cint 1)) .nil)))) (l := g) (g := enc) (f := fun l => .bl (rowL l)) (by simp) hg.1 (fun l hl => ⟨[some (enc g), v1, some (enc l)], by simp, by
    have h1 := ixV_last (hg.2 l hl).1
    have h2 := ixV_zero (hg.2 l hl).1
    have h3 := lrng_enc (hb l hl _ (headD_mem (hg.2 l hl).1)) (hb l hl _ (lastD_mem (hg.2 l hl).1))
    have h4 := op_eq_enc (α := List Nat) (by decide) l ((List.range (l.getLastD 0 + 1 - l.headD 0)).map (l.headD 0 + ·))
    simp only [ev_op, ev_var, getE_succ, getE_zero, okb, ev_lrng, evs_cons, evs_nil, ev_ix, ev_int, ev_neg, asInt_int, h1, h2, op_add_i, h3, h4]
    rfl⟩)
  rw [ev_bi, evs_cons, evs_nil, h]
  exact bi_all
theorem c_lawofkind (k : Kind) {g : Grp} (hg : Gok g) (hb : ∀ l ∈ g, ∀ x ∈ l, x ≤ 1000) : callP Pr (n + 2) 66 [enc g, kv k] = .ok (.bl (ofKindL k g)) := by
  rw [call_eq (d := D66) rfl rfl]
  have ea := eq_all k
  have en := eq_nested k
  cases k with
  | nested =>
    have := c_lawnested n hg
    simp [D66, en, this, ofKindL]
  | all =>
    simp [D66, en, ea, isAll, ofKindL]
  | rows =>
    have := e_rowsL (T := Pr.tab (n + 1)) hg hb (v1 := some (kv .rows))
    simp [D66, en, ea, isAll, ofKindL, this, -ev_bi]
end VM

set_option Elab.async false
set_option linter.all false
set_option maxRecDepth 100000
set_option maxHeartbeats 2000000
/-! LibG7: all groupings, as the law makes them. -/
namespace VM
open PySem
variable (n : Nat)
def putF (t : Nat) (g : Grp) (p : List Nat × Nat) : Grp := (g.take p.2 ++ [p.1 ++ [t]]) ++ g.drop (p.2 + 1)
def putsF (t : Nat) (g : Grp) : List Grp := (g.zipIdx 0).map (putF t g)
def moreG (t : Nat) (g : Grp) : List Grp := putsF t g ++ [g ++ [[t]]]
def lawAll : Nat → List Grp
  | 0 => [[]]
  | m + 1 => (lawAll m).flatMap (moreG m)
def lawGs (k : Kind) (m : Nat) : List Grp := (lawAll m).filter (ofKindL k)
theorem lawall_ok : ∀ m, m < 7 → ((lawAll m).all fun g => decide (g.length ≤ 6) && g.all (fun l => !l.isEmpty && decide (l.length ≤ 6) && l.all (fun x => decide (x ≤ 6)))) = true ∧ (lawAll m).length ≤ 203 := by
  intro m hm
  have : m = 0 ∨ m = 1 ∨ m = 2 ∨ m = 3 ∨ m = 4 ∨ m = 5 ∨ m = 6 := by omega
  rcases this with rfl | rfl | rfl | rfl | rfl | rfl | rfl <;> decide +kernel
theorem lawall_of {m : Nat} (hm : m ≤ 6) {g : Grp} (h : g ∈ lawAll m) : Gok g ∧ g.length ≤ 6 ∧ (∀ l ∈ g, l.length ≤ 6) ∧ ∀ l ∈ g, ∀ x ∈ l, x ≤ 6 := by
  have := List.all_eq_true.mp (lawall_ok m (by omega)).1 g h
  simp only [Bool.and_eq_true, decide_eq_true_eq, List.all_eq_true, Bool.not_eq_true', List.isEmpty_eq_false_iff] at this
  obtain ⟨h1, h2⟩ := this
  exact ⟨⟨by unfold lineN; omega, fun l hl => ⟨(h2 l hl).1.1, by have := (h2 l hl).1.2; unfold lineN; omega⟩⟩, h1, fun l hl => (h2 l hl).1.2, fun l hl x hx => (h2 l hl).2 x hx⟩
theorem put_v {g : Grp} {t i : Nat} {l : List Nat} (hg : g.length ≤ 100) (hl : l.length ≤ 100) :
    ∃ a b c d e, slV (enc g) none (some (i : Int)) = .ok (enc a) ∧ op2 .add (enc l) (.lst [.int t]) = .ok (enc b) ∧ op2 .add (enc a) (.lst [enc b]) = .ok (enc c) ∧ slV (enc g) (some ((i : Int) + 1)) none = .ok (enc d) ∧ op2 .add (enc c) (enc d) = .ok (enc e) ∧
      (a : Grp) = g.take i ∧ (b : List Nat) = l ++ [t] ∧ (c : Grp) = g.take i ++ [l ++ [t]] ∧ (d : Grp) = g.drop (i + 1) ∧ (e : Grp) = putF t g (l, i) := by
  refine ⟨g.take i, l ++ [t], g.take i ++ [l ++ [t]], g.drop (i + 1), putF t g (l, i), slV_enc_to, ?_, ?_, slV_enc_from (i := i + 1), ?_, rfl, rfl, rfl, rfl, rfl⟩
  · exact add_enc (a := l) (b := [t]) (by simp [lineN]; omega)
  · exact add_enc (a := g.take i) (b := [l ++ [t]]) (by simp [lineN]; omega)
  · exact add_enc (by simp [lineN]; omega)
theorem lawg1 {g : Grp} {t : Nat} {s0 s1 s2 : Slot} (hg : g.length ≤ 6) (hl : ∀ l ∈ g, l.length ≤ 6) (acc : List Grp) (ha : acc.length ≤ 10000) (a6 a7 : Slot) : ∃ b6 b7,
    forGo (bindS (.tp (.cons (.nm 6) (.cons (.nm 7) .nil)))) (exs (Pr.tab n) ((((D68.body.at 1).inner.at 1).inner.at 0).inner)) (enumV 0 (g.map enc)) [s0, s1, s2, .sh (.int t), .ow (acc.map enc), .sh (enc g), a6, a7] =
      .ok (.nx, [s0, s1, s2, .sh (.int t), .ow ((acc ++ putsF t g).map enc), .sh (enc g), b6, b7]) := by
  rw [enumV_map]
  obtain ⟨ρ', h1, b6, b7, rfl⟩ := forGo_map (bind := bindS (.tp (.cons (.nm 6) (.cons (.nm 7) .nil)))) (body := exs (Pr.tab n) ((((D68.body.at 1).inner.at 1).inner.at 0).inner)) (fun p : List Nat × Nat => .tup [.int p.2, enc p.1])
    (fun pre ρ => ∃ a6 a7, ρ = [s0, s1, s2, .sh (.int t), .ow ((acc ++ pre.map (putF t g)).map enc), .sh (enc g), a6, a7]) (g.zipIdx 0) [] [s0, s1, s2, .sh (.int t), .ow (acc.map enc), .sh (enc g), a6, a7] ⟨a6, a7, by simp⟩ (by
      rintro p ⟨l, i⟩ q ρ hp ⟨a6, a7, rfl⟩
      rw [List.nil_append] at hp
      have hm : (l, i) ∈ g.zipIdx 0 := by rw [hp]; simp
      have hlg : l ∈ g := by
        obtain ⟨h1, h2, h3⟩ := List.mem_zipIdx hm
        rw [h3]; exact List.getElem_mem _
      have hpl : p.length ≤ 6 := by have := congrArg List.length hp; simp at this; omega
      obtain ⟨a, b, c, d, e, e1, e2, e3, e4, e5, rfl, rfl, rfl, rfl, he⟩ := put_v (g := g) (t := t) (i := i) (l := l) (by omega) (by have := hl l hlg; omega)
      have hlt : acc.length + p.length < 16777216 := by omega
      refine ⟨[s0, s1, s2, .sh (.int t), .ow ((acc ++ (p ++ [(l, i)]).map (putF t g)).map enc), .sh (enc g), .sh (.int i), .sh (enc l)], ?_, _, _, rfl⟩
      simp only [D68, SB.at, SS.inner]
      simp [e1, e2, e3, e4, e5, lineN, hlt, he])
  rw [h1]
  exact ⟨b6, b7, by simp [putsF]⟩
theorem lawg2 {gs : List Grp} {t : Nat} {s0 s1 s2 : Slot} (hg : ∀ g ∈ gs, g.length ≤ 6 ∧ ∀ l ∈ g, l.length ≤ 6) (hn : gs.length ≤ 203) (a5 a6 a7 : Slot) : ∃ b5 b6 b7,
    forGo (bindS (.nm 5)) (exs (Pr.tab n) (((D68.body.at 1).inner.at 1).inner)) (gs.map enc) [s0, s1, s2, .sh (.int t), .ow [], a5, a6, a7] =
      .ok (.nx, [s0, s1, s2, .sh (.int t), .ow ((gs.flatMap (moreG t)).map enc), b5, b6, b7]) := by
  have hbd : ∀ (p : List Grp), (∀ g ∈ p, g.length ≤ 6) → (p.flatMap (moreG t)).length ≤ 7 * p.length := by
    intro p
    induction p with
    | nil => intro _; simp
    | cons g p ih =>
      intro h
      have := ih (fun x hx => h x (List.mem_cons_of_mem _ hx))
      have h2 := h g (List.mem_cons_self ..)
      have h3 : (moreG t g).length = g.length + 1 := by simp [moreG, putsF]
      simp only [List.flatMap_cons, List.length_append, List.length_cons]; omega
  obtain ⟨ρ', h1, b5, b6, b7, rfl⟩ := forGo_map (bind := bindS (.nm 5)) (body := exs (Pr.tab n) (((D68.body.at 1).inner.at 1).inner)) (fun g : Grp => enc g)
    (fun pre ρ => ∃ a5 a6 a7, ρ = [s0, s1, s2, .sh (.int t), .ow ((pre.flatMap (moreG t)).map enc), a5, a6, a7]) gs [] [s0, s1, s2, .sh (.int t), .ow [], a5, a6, a7] ⟨a5, a6, a7, by simp⟩ (by
      rintro p g q ρ hp ⟨a5, a6, a7, rfl⟩
      rw [List.nil_append] at hp
      have hgm : g ∈ gs := by rw [hp]; simp
      have hpl : p.length ≤ 203 := by have := congrArg List.length hp; simp at this; omega
      have hpb := hbd p (fun x hx => (hg x (by rw [hp]; simp [hx])).1)
      obtain ⟨b6, b7, e⟩ := lawg1 n (g := g) (t := t) (s0 := s0) (s1 := s1) (s2 := s2) (hg g hgm).1 (hg g hgm).2 (p.flatMap (moreG t)) (by omega) a6 a7
      have e2 : op2 .add (enc g) (.lst [.lst [.int t]]) = .ok (enc (g ++ [[t]])) := add_enc (a := g) (b := [[t]]) (by have := (hg g hgm).1; simp [lineN]; omega)
      have hlt : ((p.flatMap (moreG t)) ++ putsF t g).length < 16777216 := by
        have := (hg g hgm).1
        have h3 : (putsF t g).length = g.length := by simp [putsF]
        rw [List.length_append, h3]; omega
      refine ⟨[s0, s1, s2, .sh (.int t), .ow (((p ++ [g]).flatMap (moreG t)).map enc), .sh (enc g), b6, b7], ?_, _, _, _, rfl⟩
      simp only [D68, SB.at, SS.inner] at e ⊢
      generalize hP : p.flatMap (moreG t) = P at *
      generalize hQ : putsF t g = Q at *
      have hfin : (p ++ [g]).flatMap (moreG t) = P ++ Q ++ [g ++ [[t]]] := by rw [List.flatMap_append, hP]; simp [moreG, hQ]
      rw [hfin]
      simp only [exs_cons, ex_loop, bindS_nm, okb, List.set_cons_succ, List.set_cons_zero, visG_c, isOwn_sh, val_sh, Bool.false_and, Bool.false_eq_true, if_false, evI_enum, ev_var, getE_succ, getE_zero, enmV_enc, kept_nil, e, seqF_nx, exs_nil]
      rw [ex_app (v := enc (g ++ [[t]])) (vs := (P ++ Q).map enc) (by simp [lineN, e2]) rfl rfl (by rw [List.length_map]; exact hlt)]
      simp)
  exact ⟨b5, b6, b7, h1⟩
theorem lawg3 {m : Nat} (hm : m ≤ 6) {s1 : Slot} : ∃ b3 b4 b5 b6 b7,
    forGo (bindS (.nm 3)) (exs (Pr.tab n) ((D68.body.at 1).inner)) (rngC 0 1 m) [.sh (.int m), s1, .sh (.lst [.lst []]), .no, .no, .no, .no, .no] =
      .ok (.nx, [.sh (.int m), s1, .sh (enc (lawAll m)), b3, b4, b5, b6, b7]) := by
  obtain ⟨ρ', h1, b3, b4, b5, b6, b7, rfl⟩ := forGo_map (bind := bindS (.nm 3)) (body := exs (Pr.tab n) ((D68.body.at 1).inner)) (fun (i : Nat) => Val.int (0 + (i : Int) * 1))
    (fun pre ρ => ∃ a3 a4 a5 a6 a7, ρ = [.sh (.int m), s1, .sh (enc (lawAll pre.length)), a3, a4, a5, a6, a7]) (List.range m) [] [.sh (.int m), s1, .sh (.lst [.lst []]), .no, .no, .no, .no, .no] ⟨.no, .no, .no, .no, .no, rfl⟩ (by
      rintro p i q ρ hp ⟨a3, a4, a5, a6, a7, rfl⟩
      rw [List.nil_append] at hp
      obtain ⟨hi, hpl⟩ := rng_at hp
      subst hi
      have hok := lawall_ok p.length (by omega)
      obtain ⟨b5, b6, b7, e⟩ := lawg2 n (gs := lawAll p.length) (t := p.length) (s0 := .sh (.int m)) (s1 := s1) (s2 := .sh (enc (lawAll p.length))) (fun g hg => ⟨(lawall_of (by omega) hg).2.1, (lawall_of (by omega) hg).2.2.1⟩) hok.2 a5 a6 a7
      refine ⟨[.sh (.int m), s1, .sh (enc (lawAll (p.length + 1))), .sh (.int p.length), .sh (enc (lawAll (p.length + 1))), b5, b6, b7], ?_, .sh (.int p.length), .sh (enc (lawAll (p.length + 1))), b5, b6, b7, by simp⟩
      simp only [D68, SB.at, SS.inner] at e ⊢
      have hf : flat (.lst (((lawAll p.length).flatMap (moreG p.length)).map enc)) = false := rfl
      rw [Int.zero_add, Int.mul_one]
      simp only [exs_cons, bindS_nm, okb, List.set_cons_succ, List.set_cons_zero, ex_ownE, ev_lst, evs_nil, List.length_nil, Nat.zero_le, if_true, asLst_l, kept_nil, List.length_cons, show (4 : Nat) < 0 + 1 + 1 + 1 + 1 + 1 + 1 + 1 + 1 from by decide, seqF_nx, ex_loop, visG_c, isOwn_sh, val_sh, isOwn_ow, Bool.false_and, Bool.false_eq_true, if_false, evI_seq, ev_var, getE_succ, getE_zero, seqV_enc, e, ex_asg]
      simp [hf, kept, frzs, frz1, lawAll, enc_lst])
  rw [show rngC 0 1 m = (List.range m).map fun (i : Nat) => Val.int (0 + (i : Int) * 1) from rfl, h1]
  exact ⟨b3, b4, b5, b6, b7, by simp⟩
theorem c_lawgroupings (k : Kind) {m : Nat} (hm : m ≤ 6) : callP Pr (n + 3) 68 [.int m, kv k] = .ok (enc (lawGs k m)) := by
  rw [call_eq (d := D68) rfl rfl]
  obtain ⟨b3, b4, b5, b6, b7, e⟩ := lawg3 (n + 2) hm (s1 := .sh (kv k))
  have hsm : smallR 0 (m : Int) = true := by unfold smallR; apply decide_eq_true; omega
  have hlen := (lawall_ok m (by omega)).2
  have key : ∀ v3 v4 v5 v6 v7, ev (Pr.tab (n + 2)) (.comp [5] (.nm 5) (.seq (.var 2)) (.some (.call 66 (.cons (.var 5) (.cons (.var 1) .nil)))) (.var 5)) [some (.int m), some (kv k), some (enc (lawAll m)), v3, v4, v5, v6, v7] = .ok (enc (lawGs k m)) := fun v3 v4 v5 v6 v7 =>
    comp_enc (g := enc) (p := ofKindL k) (by simp) (by unfold lineN; omega) (fun g hg => ⟨[some (.int m), some (kv k), some (enc (lawAll m)), v3, v4, some (enc g), v6, v7], by simp, by
      obtain ⟨g1, g2, g3, g4⟩ := lawall_of hm hg
      have := c_lawofkind n k g1 (fun l hl x hx => Nat.le_trans (g4 l hl x hx) (by decide))
      simp [this], fun _ => by simp⟩)
  simp only [D68, SB.at, SS.inner] at e
  have h0 : [Val.int (m : Int), kv k].map Slot.sh ++ List.replicate (8 - 2) Slot.no = [.sh (.int m), .sh (kv k), .no, .no, .no, .no, .no, .no] := rfl
  simp only [D68, h0]
  simp only [exs_cons, ex_asg, ev_lst, evs_cons, evs_nil, okb, List.length_nil, List.length_cons, Nat.zero_le, if_true, lineN, show 0 + 1 ≤ 16777216 from by decide, kept_nil, bindS_nm, List.set_cons_succ, List.set_cons_zero, seqF_nx, ex_loop, visG_c, isOwn_sh, val_sh, Bool.false_and, Bool.false_eq_true, if_false, evI_rng1, ev_var, getE_zero, asInt_int, hsm, Int.toNat_natCast, e, ex_ret, visG_nil, key, seqF_rt, finD_rt]
end VM

set_option Elab.async false
set_option linter.all false
set_option maxRecDepth 100000
set_option maxHeartbeats 2000000
/-! LibG8: what is a grouping, and of a kind. -/
namespace VM
open PySem
variable (n : Nat)
def insN (x : Nat) : List Nat → List Nat
  | [] => [x]
  | y :: r => if x ≤ y then x :: y :: r else y :: insN x r
def sortN : List Nat → List Nat
  | [] => []
  | x :: r => insN x (sortN r)
def iOf (x : Nat) : Int := x
theorem insI_nat (x : Nat) : ∀ l : List Nat, insI (x : Int) (l.map iOf) = (insN x l).map iOf
  | [] => rfl
  | y :: l => by
    simp only [List.map_cons, insI, insN, insI_nat x l]
    by_cases h : x ≤ y
    · rw [if_pos h, if_pos (by unfold iOf; omega)]; rfl
    · rw [if_neg h, if_neg (by unfold iOf; omega)]; rfl
theorem sortI_nat : ∀ l : List Nat, sortI (l.map iOf) = (sortN l).map iOf
  | [] => rfl
  | x :: l => by
    simp only [List.map_cons, sortI, sortN, sortI_nat l]
    exact insI_nat x _
theorem sorted_enc (l : List Nat) : bi1 .sorted [enc l] = .ok (enc (sortN l)) := by
  have h0 : asInts (l.map enc) = .ok (l.map iOf) := asInts_map (f := iOf)
  rw [enc_lst, enc_lst]
  simp only [bi1, h0, okb, sortI_nat, List.map_map]
  rfl
theorem lrng1_enc {j : Nat} (h : j ≤ 1000) : lrngV [.int (j : Int)] = .ok (enc (List.range j)) := by
  have hsm : smallR 0 (j : Int) = true := by unfold smallR; apply decide_eq_true; omega
  have hln : decide ((j : Int).toNat ≤ lineN) = true := by rw [decide_eq_true_eq]; unfold lineN; omega
  simp only [lrngV, hsm, hln, Bool.and_self, if_true]
  rw [Int.toNat_natCast, enc_lst]
  unfold rngC
  refine congrArg Except.ok (congrArg Val.lst ?_)
  refine List.map_congr_left fun i _ => ?_
  simp [enc_nat]
def firstsF (g : Grp) : List Nat := g.map fun l => l.headD 0
def isGrF (g : Grp) : Bool := decide (g.flatten.length ≤ 6) && decide (sortN g.flatten = List.range g.flatten.length) && (g.all fun l => decide (l = sortN l)) && decide (firstsF g = sortN (firstsF g))
theorem g1 {T : Tab} {g : Grp} (hg : Gok g) {v1 v3 v4 : Option Val} : ev T (.bi .all (.cons (.comp [2] (.nm 2) (.seq (.var 0)) .none (.bop true (.cons (.isi (.var 2) .list) (.cons (.op .ne (.var 2) (.lst .nil)) .nil)))) .nil)) [some (enc g), v1, none, v3, v4] = .ok (.bl true) := by
  have h := comp_all (T := T) (e := [some (enc g), v1, none, v3, v4]) (own := [2]) (tg := .nm 2) (it := .seq (.var 0)) (el := .bop true (.cons (.isi (.var 2) .list) (.cons (.op .ne (.var 2) (.lst .nil)) .nil))) (l := g) (g := enc) (f := fun l => .bl true) (by simp) hg.1 (fun l hl => ⟨[some (enc g), v1, some (enc l), v3, v4], by simp, by
    have h4 : op2 .ne (enc l) (.lst []) = .ok (.bl (!decide (l = []))) := op_ne_enc (α := List Nat) (by decide) l []
    have h5 : decide (l = []) = false := decide_eq_false (hg.2 l hl).1
    rw [h5] at h4
    simp [h4]⟩)
  rw [ev_bi, evs_cons, evs_nil, h]
  have := bi_all (l := g) (f := fun _ => true)
  refine this.trans ?_
  rw [List.all_eq_true.mpr (by simp)]
theorem g2 {g : Grp} (hg : Gok g) {v1 v3 : Option Val} : ev (Pr.tab (n + 1)) (.bi .all (.cons (.comp [2] (.nm 2) (.seq (.var 0)) .none (.bi .all (.cons (.comp [4] (.nm 4) (.seq (.var 2)) .none (.call 1 (.cons (.var 4) .nil))) .nil))) .nil)) [some (enc g), v1, none, v3, none] = .ok (.bl true) := by
  have h := comp_all (T := Pr.tab (n + 1)) (e := [some (enc g), v1, none, v3, none]) (own := [2]) (tg := .nm 2) (it := .seq (.var 0)) (el := .bi .all (.cons (.comp [4] (.nm 4) (.seq (.var 2)) .none (.call 1 (.cons (.var 4) .nil))) .nil)) (l := g) (g := enc) (f := fun l => .bl true) (by simp) hg.1 (fun l hl => ⟨[some (enc g), v1, some (enc l), v3, none], by simp, by
    have h2 := comp_all (T := Pr.tab (n + 1)) (e := [some (enc g), v1, some (enc l), v3, none]) (own := [4]) (tg := .nm 4) (it := .seq (.var 2)) (el := .call 1 (.cons (.var 4) .nil)) (l := l) (g := enc) (f := fun l => .bl true) (by simp) (hg.2 l hl).2 (fun x hx => ⟨[some (enc g), v1, some (enc l), v3, some (enc x)], by simp, by
      have := c_whole n (x : Int)
      simp [enc_nat, this]⟩)
    rw [ev_bi, evs_cons, evs_nil, h2]
    have := bi_all (l := l) (f := fun _ => true)
    refine this.trans ?_
    rw [List.all_eq_true.mpr (by simp)]⟩)
  rw [ev_bi, evs_cons, evs_nil, h]
  have := bi_all (l := g) (f := fun _ => true)
  refine this.trans ?_
  rw [List.all_eq_true.mpr (by simp)]
theorem bi_var {T : Tab} {b : Bi} {i : Nat} {e : VE} : ev T (.bi b (.cons (.var i) .nil)) e = getE e i >>= fun v => bi1 b [v] := by simp
theorem g3 {T : Tab} {g : Grp} (hg : Gok g) (hk : (g.all fun l => decide (l = sortN l)) = true) {v1 v2 v3 v4 : Option Val} : ev T (.bi .all (.cons (.comp [2] (.nm 2) (.seq (.var 0)) .none (.op .eq (.var 2) (.bi .sorted (.cons (.var 2) .nil)))) .nil)) [some (enc g), v1, v2, v3, v4] = .ok (.bl true) := by
  have h := comp_all (T := T) (e := [some (enc g), v1, v2, v3, v4]) (own := [2]) (tg := .nm 2) (it := .seq (.var 0)) (el := .op .eq (.var 2) (.bi .sorted (.cons (.var 2) .nil))) (l := g) (g := enc) (f := fun l => .bl (decide (l = sortN l))) (by simp) hg.1 (fun l hl => ⟨[some (enc g), v1, some (enc l), v3, v4], by simp, by
    have h4 := sorted_enc l
    have h5 := op_eq_enc (by decide) l (sortN l)
    simp only [ev_op, ev_var, getE_succ, getE_zero, okb, ev_bi, evs_cons, evs_nil, h4, h5]⟩)
  rw [ev_bi, evs_cons, evs_nil, h]
  have := bi_all (l := g) (f := fun l => decide (l = sortN l))
  refine this.trans ?_
  rw [hk]
theorem g4 {T : Tab} {g : Grp} (hg : Gok g) {v1 v2 v3 v4 : Option Val} : ev T (.comp [2] (.nm 2) (.seq (.var 0)) .none (.ix (.var 2) (.cint 0))) [some (enc g), v1, v2, v3, v4] = .ok (enc (firstsF g)) := by
  have h := comp_all (T := T) (e := [some (enc g), v1, v2, v3, v4]) (own := [2]) (tg := .nm 2) (it := .seq (.var 0)) (el := .ix (.var 2) (.cint 0)) (l := g) (g := enc) (f := fun l => .int (l.headD 0 : Nat)) (by simp) hg.1 (fun l hl => ⟨[some (enc g), v1, some (enc l), v3, v4], by simp, by
    have h4 := ixV_zero (hg.2 l hl).1
    simp only [ev_ix, ev_var, getE_succ, getE_zero, okb, ev_int, h4]⟩)
  rw [h, enc_lst, firstsF, List.map_map]; rfl
theorem g5 {g : Grp} (hg : g.flatten.length ≤ 6) : ∃ b2,
    forGo (bindS (.nm 2)) (exs (Pr.tab n) ((D74.body.at 3).inner)) (g.map enc) [.sh (enc g), .ow [], .no, .no, .no] = .ok (.nx, [.sh (enc g), .ow (g.flatten.map enc), b2, .no, .no]) := by
  obtain ⟨ρ', h1, b2, rfl⟩ := forGo_map (bind := bindS (.nm 2)) (body := exs (Pr.tab n) ((D74.body.at 3).inner)) (fun l : List Nat => enc l)
    (fun pre ρ => ∃ a2, ρ = [.sh (enc g), .ow (pre.flatten.map enc), a2, .no, .no]) g [] [.sh (enc g), .ow [], .no, .no, .no] ⟨.no, by simp⟩ (by
      rintro p l q ρ hp ⟨a2, rfl⟩
      rw [List.nil_append] at hp
      have hb : p.flatten.length + l.length ≤ 6 := by
        rw [hp] at hg; simp at hg ⊢; omega
      have hlt : (p.flatten.map enc).length + (l.map enc).length ≤ 16777216 := by rw [List.length_map, List.length_map]; omega
      refine ⟨[.sh (enc g), .ow ((p ++ [l]).flatten.map enc), .sh (enc l), .no, .no], ?_, _, rfl⟩
      simp only [D74, SB.at, SS.inner]
      have hfin : (p ++ [l]).flatten.map enc = p.flatten.map enc ++ l.map enc := by simp
      rw [hfin]
      generalize p.flatten.map enc = P at *
      simp only [exs_cons, bindS_nm, okb, List.set_cons_succ, List.set_cons_zero, ex_extE, visG_c, isOwn_sh, val_sh, isOwn_ow, isOwn_no, val_no, val_ow, Bool.false_and, Bool.false_eq_true, if_false, ev_var, getE_succ, getE_zero, enc_lst, asLst_l, List.contains_nil, kept_nil, List.getElem?_cons_succ, List.getElem?_cons_zero, asOw_o, lineN, hlt, if_true, seqF_nx, exs_nil])
  exact ⟨b2, by rw [h1]; simp⟩
theorem c_isgrouping {g : Grp} (hg : Gok g) (h : isGrF g = true) : callP Pr (n + 2) 74 [enc g] = .ok (.bl true) := by
  rw [call_eq (d := D74) rfl rfl]
  simp only [isGrF, Bool.and_eq_true, decide_eq_true_eq] at h
  obtain ⟨⟨⟨k1, k2⟩, k3⟩, k4⟩ := h
  obtain ⟨b2, e5⟩ := g5 (n + 1) k1
  have e1 := @g1 (Pr.tab (n + 1)) g hg
  have e2 := @g2 n g hg
  have e3 := @g3 (Pr.tab (n + 1)) g hg k3
  have e4 := @g4 (Pr.tab (n + 1)) g hg
  have s1 := sorted_enc g.flatten
  have s2 : op2 .ne (enc (sortN g.flatten)) (enc (List.range g.flatten.length)) = .ok (.bl false) := by
    rw [op_ne_enc (by decide), k2]; simp
  have s3 := lrng1_enc (j := g.flatten.length) (by omega)
  have s4 := sorted_enc (firstsF g)
  have s5 : op2 .eq (enc (firstsF g)) (enc (sortN (firstsF g))) = .ok (.bl true) := by
    rw [op_eq_enc (by decide), ← k4]; simp
  have s6 : bi1 .len [enc g.flatten] = .ok (.int (g.flatten.length : Nat)) := len_enc _
  have s7 : decide ((6 : Int) < ((g.flatten.length : Nat) : Int)) = false := decide_eq_false (by omega)
  have hG : Pr.G 9 = some (.int 6) := rfl
  have s8 : ofO (some (Val.int 6)) = .ok (.int 6) := rfl
  have h0 : [enc g].map Slot.sh ++ List.replicate (5 - 1) Slot.no = [.sh (enc g), .no, .no, .no, .no] := rfl
  simp only [D74, SB.at, SS.inner] at e5
  simp only [D74, h0]
  generalize g.flatten = F at *
  have hl0 : Val.lst (F.map enc) = enc F := rfl
  simp [e1, e2, e3, e4, -ev_bi, bi_var, e5, hl0, s1, s2, s3, s4, s5, s6, s7, s8, k1, hG]
theorem c_checkgrouping {g : Grp} (hg : Gok g) (h : isGrF g = true) : callP Pr (n + 3) 76 [enc g] = .ok .non := by
  rw [call_eq (d := D76) rfl rfl]
  have := c_isgrouping n hg h
  simp [D76, this]
theorem c_iskind (k : Kind) {g : Grp} (hg : Gok g) (h : isGrF g = true) : callP Pr (n + 4) 82 [enc g, kv k] = .ok (.bl (ofKindF k g)) := by
  rw [call_eq (d := D82) rfl rfl]
  have e1 := c_checkgrouping n hg h
  have e2 := c_checkkind (n + 2) k
  have e3 := c_ofkind (n + 1) k hg
  simp [D82, e1, e2, e3]
theorem c_lawsays (a b : Bool) : callP Pr (n + 1) 81 [.bl a, .bl b] = .ok (.bl (decide (a = b))) := by
  rw [call_eq (d := D81) rfl rfl]
  have := op_eq_enc (α := Bool) (by decide) a b
  simp only [enc_bl] at this
  simp [D81, this]
theorem c_checkmany {m : Nat} (hm : m ≤ 6) : callP Pr (n + 2) 60 [.int m, .int 6] = .ok .non := by
  rw [call_eq (d := D60) rfl rfl]
  have := c_whole n (m : Int)
  simp [D60, this, hm]
  omega
theorem h_groupings (k : Kind) {m : Nat} (hm : m ≤ 6) (h0 : HHp) : ∃ x h1, callH Pr (n + 4) 78 [.p (.int m), .p (kv k)] h0 = .ok (x, h1) ∧ h0 <+: h1 ∧ GsIn h0.length x (groupingsF k m) h1 := by
  obtain ⟨x, h1, e, p, g⟩ := h_groupingsof n k hm h0
  refine ⟨x, h1, ?_, p, g⟩
  rw [callH_eq (d := D78) rfl rfl]
  have e1 := c_checkmany (n + 1) hm
  have e2 := c_checkkind (n + 2) k
  have hG : Pr.G 9 = some (.int 6) := rfl
  have h0' : [HV.p (.int m), HV.p (kv k)].map some ++ List.replicate (D78.ns - D78.np) none = [some (.p (.int m)), some (.p (kv k))] := rfl
  rw [h0']
  have s8 : ofO (some (Val.int 6)) = .ok (.int 6) := rfl
  simp [D78, e1, e2, hG, s8, e, flat]
theorem c_groupings (k : Kind) {m : Nat} (hm : m ≤ 6) : callP Pr (n + 4) 78 [.int m, kv k] = .ok (enc (groupingsF k m)) := by
  obtain ⟨x, h1, e, _, g⟩ := h_groupings n k hm []
  rw [callP_pure (d := D78) rfl rfl]
  show (callH Pr (n + 4) 78 [HV.p (.int m), HV.p (kv k)] [] >>= _) = _
  rw [e, okb]
  have hd : deref h1 (56 + 4) x = some (enc (groupingsF k m)) := g.dr _ (List.prefix_refl _) 56
  show ofO (deref h1 (56 + 4) x) = _
  rw [hd]; rfl
end VM

set_option Elab.async false
set_option linter.all false
set_option maxRecDepth 100000
set_option maxHeartbeats 2000000
/-! LibG9: the groupings told, against the law's own. -/
namespace VM
open PySem
def setsN (i : Nat) : List Nat → List Nat → List Nat
  | f, [] => f
  | f, x :: l => setsN i (f.set x i) l
def homesGo : List Nat → Nat → Grp → List Nat
  | f, _, [] => f
  | f, i, l :: g => homesGo (setsN i f l) (i + 1) g
/-- for each thing the count of its group -/
def homesF (m : Nat) (g : Grp) : List Nat := homesGo (List.replicate m 0) 0 g
def ltN : List Nat → List Nat → Bool
  | [], [] => false
  | [], _ :: _ => true
  | _ :: _, [] => false
  | x :: xs, y :: ys => if x = y then ltN xs ys else decide (x < y)
theorem ltL_nat : ∀ a b : List Nat, ltL (a.map iOf) (b.map iOf) = ltN a b
  | [], [] => rfl
  | [], _ :: _ => rfl
  | _ :: _, [] => rfl
  | x :: a, y :: b => by
    simp only [List.map_cons, ltL, ltN, ltL_nat a b]
    by_cases h : x = y
    · rw [if_pos h, if_pos (by unfold iOf; omega)]
    · rw [if_neg h, if_neg (by unfold iOf; omega)]
      exact decide_eq_decide.mpr (by unfold iOf; omega)
def homesHere (k : Kind) (m : Nat) : List (List Nat) := (groupingsF k m).map (homesF m)
def okAll (k : Kind) (m : Nat) : Bool :=
  decide ((groupingsF k m).length = (lawGs k m).length) && ((homesHere k m).zip (homesHere k m).tail).all (fun p => ltN p.1 p.2) && (groupingsF k m).all (fun g => (lawGs k m).contains g) &&
    (groupingsF k m).all (fun g => g.all fun l => l.all fun x => decide (x < m))
theorem okall_k : ∀ k m, m < 7 → okAll k m = true := by
  intro k m hm
  have : m = 0 ∨ m = 1 ∨ m = 2 ∨ m = 3 ∨ m = 4 ∨ m = 5 ∨ m = 6 := by omega
  cases k <;> rcases this with rfl | rfl | rfl | rfl | rfl | rfl | rfl <;> decide +kernel
theorem lawgr_ok : ∀ m, m < 6 → ((lawAll m).all fun g => isGrF g && decide (ofKindF .all g = ofKindL .all g) && decide (ofKindF .nested g = ofKindL .nested g) && decide (ofKindF .rows g = ofKindL .rows g)) = true := by
  intro m hm
  have : m = 0 ∨ m = 1 ∨ m = 2 ∨ m = 3 ∨ m = 4 ∨ m = 5 := by omega
  rcases this with rfl | rfl | rfl | rfl | rfl | rfl <;> decide +kernel
end VM

set_option Elab.async false
set_option linter.all false
set_option maxRecDepth 100000
set_option maxHeartbeats 2000000
/-! LibG10: the law's homes, on the machine. -/
namespace VM
open PySem
variable (n : Nat)
theorem exH_set {T : Tab} {ρ : HEnv} {h : HHp} {a e : HE} {k : SE} {m : List Nat} {z q : HV × HHp} {i : Int} {j n : Nat} {ys : List HV} (h3 : evH T e ρ h = .ok z) (h1 : evH T a ρ z.2 = .ok q) (hk : ev T k (seeH m q.2 ρ) = .ok (.int i)) (hn : q.1 = .r n) (hy : q.2[n]? = some (.lst ys)) (hj : L2.ixN ys.length i = some j) :
    exH T (.set a m k e) ρ h = .ok (.nx, ρ, q.2.set n (.lst (ys.set j z.1))) := by
  simp only [exH, h3, okb, h1, hk, hn, hy, hj]
theorem rd_int {h : HHp} {k : Nat} {x : HV} {i : Int} (e : deref h (k + 1) x = some (.int i)) : x = .p (.int i) := by
  cases x with
  | p v => simp only [deref] at e; rw [Option.some.inj e]
  | r n =>
    simp only [deref] at e
    split at e
    · cases ho : omap (deref h k) _ with
      | none => rw [ho] at e; cases e
      | some => rw [ho] at e; cases e
    · cases ho : omap (deref h k) _ with
      | none => rw [ho] at e; cases e
      | some => rw [ho] at e; cases e
    · cases e
  | t xs =>
    simp only [deref] at e
    cases ho : omap (deref h k) xs with
    | none => rw [ho] at e; cases e
    | some => rw [ho] at e; cases e
/-- a list, however it lies -/
structure Walk (J : HIt) (x : HV) (xs : List HV) (h : HHp) : Prop where
  itL : itL h x = .ok J
  itS : itS h x = .ok J
  many : J.many h = xs.length
  at_ : ∀ i, J.at h i = .ok xs[i]?
theorem omap_p {h : HHp} {k : Nat} : ∀ vs : List Val, omap (deref h (k + 1)) (vs.map HV.p) = some vs
  | [] => rfl
  | v :: vs => by simp only [List.map_cons, omap, deref, omap_p vs]
theorem rd_lst {h : HHp} {k : Nat} {x : HV} {vs : List Val} (e : deref h (k + 2) x = some (.lst vs)) : ∃ J xs, (∀ h', h <+: h' → Walk J x xs h') ∧ omap (deref h (k + 1)) xs = some vs := by
  cases x with
  | p v =>
    simp only [deref] at e
    cases e
    exact ⟨.fx (vs.map HV.p), vs.map HV.p, fun h' p => ⟨rfl, rfl, rfl, fun i => rfl⟩, omap_p vs⟩
  | r n =>
    unfold deref at e
    split at e
    · rename_i xs hn
      refine ⟨.ls n, xs, fun h' p => ?_, ?_⟩
      · have hp := pre_at p hn
        exact ⟨by simp only [VM.itL, hp], by simp only [VM.itS, VM.itL, hp], by simp only [HIt.many, hp], fun i => by simp only [HIt.at, hp]⟩
      · cases ho : omap (deref h (k + 1)) xs with
        | none => rw [ho] at e; cases e
        | some ws => rw [ho] at e; cases e; rfl
    · cases ho : omap (deref h (k + 1)) _ with
      | none => rw [ho] at e; cases e
      | some ws => rw [ho] at e; cases e
    · cases e
  | t xs =>
    unfold deref at e
    cases ho : omap (deref h (k + 1)) xs with
    | none => rw [ho] at e; cases e
    | some => rw [ho] at e; cases e
theorem omap_len {f : HV → Option Val} : ∀ {xs : List HV} {vs : List Val}, omap f xs = some vs → xs.length = vs.length
  | [], vs, h => by cases h; rfl
  | x :: xs, vs, h => by
    simp only [omap] at h
    cases h1 : f x with
    | none => simp [h1] at h
    | some a => cases h2 : omap f xs with
      | none => simp [h1, h2] at h
      | some as =>
        simp [h1, h2] at h; subst h
        simp [omap_len h2]
theorem omap_at {f : HV → Option Val} : ∀ {xs : List HV} {vs : List Val} {i : Nat} {x : HV}, omap f xs = some vs → xs[i]? = some x → ∃ v, vs[i]? = some v ∧ f x = some v
  | [], vs, i, x, h, e => by simp at e
  | y :: xs, vs, i, x, h, e => by
    simp only [omap] at h
    cases h1 : f y with
    | none => simp [h1] at h
    | some a => cases h2 : omap f xs with
      | none => simp [h1, h2] at h
      | some as =>
        simp [h1, h2] at h; subst h
        cases i with
        | zero => simp at e; subst e; exact ⟨a, rfl, h1⟩
        | succ i => exact omap_at (i := i) h2 (by simpa using e)
theorem sets_snoc (i : Nat) : ∀ (l : List Nat) (f : List Nat) (x : Nat), setsN i f (l ++ [x]) = (setsN i f l).set x i
  | [], f, x => rfl
  | y :: l, f, x => sets_snoc i l (f.set y i) x
theorem sets_len (i : Nat) : ∀ (l : List Nat) (f : List Nat), (setsN i f l).length = f.length
  | [], f => rfl
  | y :: l, f => by rw [setsN, sets_len i l]; simp
theorem homes_snoc : ∀ (g : Grp) (f : List Nat) (i : Nat) (l : List Nat), homesGo f i (g ++ [l]) = setsN (i + g.length) (homesGo f i g) l
  | [], f, i, l => rfl
  | m :: g, f, i, l => by
    show homesGo (setsN i f m) (i + 1) (g ++ [l]) = _
    rw [homes_snoc g]
    show setsN (i + 1 + g.length) _ _ = setsN (i + (g.length + 1)) _ _
    rw [show i + 1 + g.length = i + (g.length + 1) by omega]; rfl
theorem homes_len : ∀ (g : Grp) (f : List Nat) (i : Nat), (homesGo f i g).length = f.length
  | [], f, i => rfl
  | m :: g, f, i => by rw [homesGo, homes_len g, sets_len]
def obN (l : List Nat) : HOb := .lst (l.map fun v => .p (enc v))
theorem hom_in {h0 : HHp} {x y : HV} {l : List Nat} {m i : Nat} (ρ0 : Option HV) (f : List Nat) (hf : f.length = m) (hl : ∀ v ∈ l, v < m) {k : Nat} (hd : deref h0 (k + 2) y = some (enc l)) (a5 : Option HV) : ∃ b5,
    exH (Pr.tab n) (.loop (.nm 5) (.seq (.var 4)) (.cons (.set (.var 2) [5] (.var 5) (.var 3)) .nil)) [some x, ρ0, some (.r h0.length), some (.p (.int i)), some y, a5] (h0 ++ [obN f]) =
      .ok (.nx, [some x, ρ0, some (.r h0.length), some (.p (.int i)), some y, b5], h0 ++ [obN (setsN i f l)]) := by
  obtain ⟨J, xs, w, ho⟩ := rd_lst hd
  have hw := w (h0 ++ [obN f]) (List.prefix_append _ _)
  obtain ⟨ρ', h', r1, b5, rfl, rfl⟩ := forH_fx (bind := fun h ρ v => bindH h (.nm 5) ρ v) (body := fun ρ h => exHs (Pr.tab n) (.cons (.set (.var 2) [5] (.var 5) (.var 3)) .nil) ρ h) (J := J) (all := xs)
    (fun pre ρ h => ∃ a5, ρ = [some x, ρ0, some (.r h0.length), some (.p (.int i)), some y, a5] ∧ h = h0 ++ [obN (setsN i f (l.take pre.length))])
    (by rintro pre ρ h ⟨a5, rfl, rfl⟩; exact (w _ (List.prefix_append _ _)).at_ _)
    xs [] (xs.length + 1) [some x, ρ0, some (.r h0.length), some (.p (.int i)), some y, a5] (h0 ++ [obN f]) rfl (by simp) ⟨a5, rfl, rfl⟩ (by
      rintro pre v post ρ h ha ⟨a5, rfl, rfl⟩
      have hx : xs[pre.length]? = some v := by rw [ha]; simp
      obtain ⟨u, h1, h2⟩ := omap_at ho hx
      rw [List.getElem?_map] at h1
      cases hq : l[pre.length]? with
      | none => rw [hq] at h1; cases h1
      | some t =>
        rw [hq] at h1
        have hu : u = .int t := (Option.some.inj h1).symm
        subst hu
        have hv := rd_int h2
        subst hv
        have htm : t < m := hl t (List.mem_of_getElem? hq)
        have htk : l.take (pre ++ [HV.p (.int t)]).length = l.take pre.length ++ [t] := by
          rw [List.length_append, List.length_singleton, List.take_add_one, hq]; rfl
        refine ⟨[some x, ρ0, some (.r h0.length), some (.p (.int i)), some y, some (.p (.int t))], h0 ++ [obN (setsN i f (l.take (pre ++ [HV.p (.int t)]).length))], ?_, some (.p (.int t)), rfl, rfl⟩
        rw [htk, sets_snoc]
        have hF := sets_len i (l.take pre.length) f
        generalize setsN i f (l.take pre.length) = F at *
        have hix : L2.ixN (F.map fun v => HV.p (enc v)).length (t : Int) = some t := by
          have : t < F.length := by omega
          simp [L2.ixN, this]
        have q1 := exH_set (T := Pr.tab n) (ρ := [some x, ρ0, some (.r h0.length), some (.p (.int i)), some y, some (.p (.int t))]) (h := h0 ++ [obN F]) (a := .var 2) (e := .var 3) (k := .var 5) (m := [5]) (z := (.p (.int i), h0 ++ [obN F])) (q := (.r h0.length, h0 ++ [obN F])) (i := t) (j := t) (n := h0.length) (ys := F.map fun v => .p (enc v))
          (by simp) (by simp) (by simp) rfl (by simp [obN]) hix
        simp only [bindH_nm, okb, List.set_cons_succ, List.set_cons_zero, exHs_cons, q1, seqH_nx, exHs_nil]
        refine congrArg Except.ok (congrArg (Prod.mk HFl.nx) (congrArg (Prod.mk _) ?_))
        simp [obN, enc_nat])
  refine ⟨b5, ?_⟩
  have hlen := omap_len ho
  rw [List.length_map] at hlen
  have hlt : l.take xs.length = l := by rw [hlen, List.take_length]
  rw [hlt] at r1
  rw [exH_loop]
  simp only [evHI_seq, evH_var, List.getElem?_cons_succ, List.getElem?_cons_zero, okb, hw.itS, hw.many]
  exact r1
theorem h_lawhomes {h0 : HHp} {x : HV} {g : Grp} {m : Nat} (hm : m ≤ 6) (hg : ∀ l ∈ g, ∀ v ∈ l, v < m) {k : Nat} (hd : deref h0 (k + 3) x = some (enc g)) :
    callH Pr (n + 1) 79 [x, .p (.int m)] h0 = .ok (.r h0.length, h0 ++ [obN (homesF m g)]) := by
  obtain ⟨J, xs, w, ho⟩ := rd_lst (k := k + 1) hd
  obtain ⟨ρ', h', r1, a3, a4, a5, rfl, rfl⟩ := forH_fx (bind := fun h ρ v => bindH h (.tp (.cons (.nm 3) (.cons (.nm 4) .nil))) ρ v) (body := fun ρ h => exHs (Pr.tab n) (.cons (.loop (.nm 5) (.seq (.var 4)) (.cons (.set (.var 2) [5] (.var 5) (.var 3)) .nil)) .nil) ρ h) (J := .en J) (all := xs.zipIdx.map fun p => .t [.p (.int p.2), p.1])
    (fun pre ρ h => ∃ a3 a4 a5, ρ = [some x, some (.p (.int m)), some (.r h0.length), a3, a4, a5] ∧ h = h0 ++ [obN (homesGo (List.replicate m 0) 0 (g.take pre.length))])
    (by
      rintro pre ρ h ⟨a3, a4, a5, rfl, rfl⟩
      simp only [HIt.at, (w _ (List.prefix_append _ _)).at_, okb]
      rw [zip_at])
    (xs.zipIdx.map fun p => .t [.p (.int p.2), p.1]) [] (xs.length + 1) [some x, some (.p (.int m)), some (.r h0.length), none, none, none] (h0 ++ [obN (List.replicate m 0)]) rfl (by simp) ⟨none, none, none, rfl, rfl⟩ (by
      rintro pre v post ρ h ha ⟨a3, a4, a5, rfl, rfl⟩
      have hx : (xs.zipIdx.map fun p => HV.t [.p (.int p.2), p.1])[pre.length]? = some v := by rw [ha]; simp
      rw [zip_at] at hx
      cases hy : xs[pre.length]? with
      | none => rw [hy] at hx; cases hx
      | some y =>
        rw [hy] at hx
        have hv : v = .t [.p (.int (pre.length : Nat)), y] := (Option.some.inj hx).symm
        obtain ⟨u, h1, h2⟩ := omap_at ho hy
        rw [List.getElem?_map] at h1
        cases hq : g[pre.length]? with
        | none => rw [hq] at h1; cases h1
        | some l =>
          rw [hq] at h1
          have hu : u = enc l := (Option.some.inj h1).symm
          subst hu
          have htk : g.take (pre ++ [v]).length = g.take pre.length ++ [l] := by
            rw [List.length_append, List.length_singleton, List.take_add_one, hq]; rfl
          have hpl : (g.take pre.length).length = pre.length := by
            have := (List.getElem?_eq_some_iff.mp hq).1
            rw [List.length_take]; omega
          obtain ⟨b5, q⟩ := hom_in n (h0 := h0) (x := x) (y := y) (l := l) (m := m) (i := pre.length) (some (.p (.int m))) (homesGo (List.replicate m 0) 0 (g.take pre.length)) (by rw [homes_len]; simp) (hg l (List.mem_of_getElem? hq)) h2 a5
          refine ⟨[some x, some (.p (.int m)), some (.r h0.length), some (.p (.int pre.length)), some y, b5], h0 ++ [obN (homesGo (List.replicate m 0) 0 (g.take (pre ++ [v]).length))], ?_, _, _, _, rfl, rfl⟩
          rw [htk, homes_snoc, hpl, Nat.zero_add]
          rw [hv]
          simp only [bindH_tp, flatH_tp, itemsH_t, okb, flatHs_cons, flatH_nm, flatHs_nil, setsH_cons, setsH_nil, List.append_nil, List.cons_append, List.nil_append, List.set_cons_succ, List.set_cons_zero, exHs_cons, q, seqH_nx, exHs_nil])
  have hlen := omap_len ho
  rw [List.length_map] at hlen
  have htk : g.take (xs.zipIdx.map fun p => HV.t [.p (.int p.2), p.1]).length = g := by simp [hlen]
  rw [htk] at r1
  have hw := w (h0 ++ [obN (List.replicate m 0)]) (List.prefix_append _ _)
  rw [callH_eq (d := D79) rfl rfl]
  have h0' : [x, HV.p (.int m)].map some ++ List.replicate (D79.ns - D79.np) none = [some x, some (.p (.int m)), none, none, none, none] := rfl
  have hmul : op2 .mul (.lst [.int 0]) (.int m) = .ok (.lst (List.replicate m (.int 0))) := by
    simp only [op2]
    rw [if_pos (by apply decide_eq_true; simp [lineN]; omega)]
    refine congrArg Except.ok (congrArg Val.lst ?_)
    rw [Int.toNat_natCast]
    clear hg hd ho r1 htk w hw hlen h0'
    induction m with
    | zero => rfl
    | succ m ih => rw [List.replicate_succ, List.flatten_cons, ih (by omega)]; rfl
  have hfl : flats (List.replicate m (.int 0)) = true := by
    clear hmul h0' hg hd ho r1 htk w hw hlen
    induction m with
    | zero => rfl
    | succ m ih => rw [List.replicate_succ, flats, ih (by omega)]; rfl
  have hob : HOb.lst ((List.replicate m (Val.int 0)).map HV.p) = obN (List.replicate m 0) := by
    simp [obN, enc_nat]
  have e1 : evH (Pr.tab n) (.puF [1] (.op .mul (.lst (.cons (.cint 0) .nil)) (.var 1))) [some x, some (.p (.int m)), none, none, none, none] h0 = .ok (.r h0.length, h0 ++ [obN (List.replicate m 0)]) := by
    have hs : ev (Pr.tab n) (.op .mul (.lst (.cons (.cint 0) .nil)) (.var 1)) (seeH [1] h0 [some x, some (.p (.int m)), none, none, none, none]) = .ok (.lst (List.replicate m (.int 0))) := by
      simp [hmul, lineN]
    simp only [evH, hs, okb, hfl, Bool.true_or, if_true, hob]
  have el : exH (Pr.tab n) (.loop (.tp (.cons (.nm 3) (.cons (.nm 4) .nil))) (.enum (.var 0)) (.cons (.loop (.nm 5) (.seq (.var 4)) (.cons (.set (.var 2) [5] (.var 5) (.var 3)) .nil)) .nil)) [some x, some (.p (.int m)), some (.r h0.length), none, none, none] (h0 ++ [obN (List.replicate m 0)]) = .ok (.nx, [some x, some (.p (.int m)), some (.r h0.length), a3, a4, a5], h0 ++ [obN (homesF m g)]) := by
    rw [exH_loop]
    simp only [evHI_enum, evH_var, List.getElem?_cons_zero, okb, hw.itL, HIt.many, hw.many]
    exact r1
  simp only [D79] at h0' ⊢
  rw [h0']
  simp only [exHs_cons, exH_asg, e1, okb, bindH_nm, List.set_cons_succ, List.set_cons_zero, seqH_nx, el, exH_ret, evH_var, List.getElem?_cons_succ, List.getElem?_cons_zero, seqH_rt, finH_rt]
end VM

set_option Elab.async false
set_option linter.all false
set_option maxRecDepth 100000
set_option maxHeartbeats 2000000
/-! LibG11: the law's look at all groupings, on the machine. -/
namespace VM
open PySem
variable (n : Nat)
def HS.inner : HS → HB
  | .loop _ _ b => b
  | _ => .nil
def HB.at : HB → Nat → HS
  | .cons s _, 0 => s
  | .cons _ r, n + 1 => r.at n
  | .nil, _ => .raise 0
theorem ge_enc (a b : List Nat) : op2 .ge (enc a) (enc b) = .ok (.bl (!ltN a b)) := by
  have h0 : asInts (a.map enc) = .ok (a.map iOf) := asInts_map (f := iOf)
  have h1 : asInts (b.map enc) = .ok (b.map iOf) := asInts_map (f := iOf)
  rw [enc_lst, enc_lst]
  simp only [op2, h0, h1, okb, ltL_nat]
section
variable {T : Tab} {o0 o1 o2 o3 o4 o5 o6 o7 o8 o9 : Option Val}
theorem look1 {gs : List Grp} (hl : gs.length ≤ lineN) : ev T (.bi .all (.cons (.comp [6] (.nm 6) (.seq (.var 4)) .none (.isi (.var 6) .list)) .nil)) [o0, o1, o2, o3, some (enc gs), o5, o6, o7, o8, o9] = .ok (.bl true) := by
  have h := comp_all (T := T) (e := [o0, o1, o2, o3, some (enc gs), o5, o6, o7, o8, o9]) (own := [6]) (tg := .nm 6) (it := .seq (.var 4)) (el := .isi (.var 6) .list) (l := gs) (g := enc) (f := fun l => .bl true) (by simp) hl (fun l hl => ⟨[o0, o1, o2, o3, some (enc gs), o5, some (enc l), o7, o8, o9], by simp, by simp⟩)
  rw [ev_bi, evs_cons, evs_nil, h]
  have := bi_all (l := gs) (f := fun _ => true)
  refine this.trans ?_
  rw [List.all_eq_true.mpr (by simp)]
theorem look2 {gs : List Grp} (hl : gs.length ≤ lineN) (hg : ∀ g ∈ gs, g.length ≤ lineN) : ev T (.bi .all (.cons (.comp [6] (.nm 6) (.seq (.var 4)) .none (.bi .all (.cons (.comp [9] (.nm 9) (.seq (.var 6)) .none (.isi (.var 9) .list)) .nil))) .nil)) [o0, o1, o2, o3, some (enc gs), o5, o6, o7, o8, o9] = .ok (.bl true) := by
  have h := comp_all (T := T) (e := [o0, o1, o2, o3, some (enc gs), o5, o6, o7, o8, o9]) (own := [6]) (tg := .nm 6) (it := .seq (.var 4)) (el := .bi .all (.cons (.comp [9] (.nm 9) (.seq (.var 6)) .none (.isi (.var 9) .list)) .nil)) (l := gs) (g := enc) (f := fun l => .bl true) (by simp) hl (fun g hgm => ⟨[o0, o1, o2, o3, some (enc gs), o5, some (enc g), o7, o8, o9], by simp, by
    have h2 := comp_all (T := T) (e := [o0, o1, o2, o3, some (enc gs), o5, some (enc g), o7, o8, o9]) (own := [9]) (tg := .nm 9) (it := .seq (.var 6)) (el := .isi (.var 9) .list) (l := g) (g := enc) (f := fun l => .bl true) (by simp) (hg g hgm) (fun l hl => ⟨[o0, o1, o2, o3, some (enc gs), o5, some (enc g), o7, o8, some (enc l)], by simp, by simp⟩)
    rw [ev_bi, evs_cons, evs_nil, h2]
    have := bi_all (l := g) (f := fun _ => true)
    refine this.trans ?_
    rw [List.all_eq_true.mpr (by simp)]⟩)
  rw [ev_bi, evs_cons, evs_nil, h]
  have := bi_all (l := gs) (f := fun _ => true)
  refine this.trans ?_
  rw [List.all_eq_true.mpr (by simp)]
theorem look3 {hs : List (List Nat)} (hl : hs.length ≤ lineN) (hk : ((hs.zip hs.tail).all fun p => ltN p.1 p.2) = true) : ev T (.bi .any (.cons (.comp [7, 8] (.tp (.cons (.nm 7) (.cons (.nm 8) .nil))) (.zip (.var 5) (.sl (.var 5) (.some (.cint 1)) .none)) .none (.op .ge (.var 7) (.var 8))) .nil)) [o0, o1, o2, o3, o4, some (enc hs), o6, o7, o8, o9] = .ok (.bl false) := by
  have s1 : slV (enc hs) (some 1) none = .ok (enc hs.tail) := by have := slV_enc_from (l := hs) (i := 1); rw [List.drop_one] at this; exact this
  have h := comp_all (T := T) (e := [o0, o1, o2, o3, o4, some (enc hs), o6, o7, o8, o9]) (own := [7, 8]) (tg := .tp (.cons (.nm 7) (.cons (.nm 8) .nil))) (it := .zip (.var 5) (.sl (.var 5) (.some (.cint 1)) .none)) (el := .op .ge (.var 7) (.var 8)) (l := hs.zip hs.tail) (g := fun p => .tup [enc p.1, enc p.2]) (f := fun p => .bl (!ltN p.1 p.2)) (by
      rw [← zipV_map]
      simp [s1, -List.map_tail]) (by rw [List.length_zip]; omega) (fun p hp => ⟨[o0, o1, o2, o3, o4, some (enc hs), o6, some (enc p.1), some (enc p.2), o9], by simp, by
      have := ge_enc p.1 p.2
      simp [this]⟩)
  rw [ev_bi, evs_cons, evs_nil, h]
  have := bi_any (l := hs.zip hs.tail) (f := fun p => !ltN p.1 p.2)
  refine this.trans ?_
  refine congrArg Except.ok (congrArg Val.bl ?_)
  rw [List.any_eq_false]
  intro p hp
  rw [List.all_eq_true.mp hk p hp]; simp
theorem look4 {gs due : List Grp} (hl : gs.length ≤ lineN) (hk : (gs.all fun g => due.contains g) = true) : ev T (.bi .all (.cons (.comp [6] (.nm 6) (.seq (.var 4)) .none (.op .inn (.var 6) (.var 2))) .nil)) [o0, o1, some (enc due), o3, some (enc gs), o5, o6, o7, o8, o9] = .ok (.bl true) := by
  have h := comp_all (T := T) (e := [o0, o1, some (enc due), o3, some (enc gs), o5, o6, o7, o8, o9]) (own := [6]) (tg := .nm 6) (it := .seq (.var 4)) (el := .op .inn (.var 6) (.var 2)) (l := gs) (g := enc) (f := fun l => .bl true) (by simp) hl (fun g hgm => ⟨[o0, o1, some (enc due), o3, some (enc gs), o5, some (enc g), o7, o8, o9], by simp, by
      have h2 := List.all_eq_true.mp hk g hgm
      rw [List.contains_iff_mem] at h2
      have h1 : op2 .inn (enc g) (enc due) = .ok (.bl true) := by
        rw [op_in_enc (by decide)]
        simp [h2]
      simp only [ev_op, ev_var, getE_succ, getE_zero, okb, h1]⟩)
  rw [ev_bi, evs_cons, evs_nil, h]
  have := bi_all (l := gs) (f := fun _ => true)
  refine this.trans ?_
  rw [List.all_eq_true.mpr (by simp)]
end
theorem omap_enc {α : Type} [DecidableEq α] [Enc α] {f : HV → Option Val} : ∀ (xs : List HV) (gs : List α), xs.length = gs.length → (∀ (i : Nat) (g : α), gs[i]? = some g → ∃ y, xs[i]? = some y ∧ f y = some (enc g)) → omap f xs = some (gs.map enc)
  | [], [], _, _ => rfl
  | [], _ :: _, hl, _ => by simp at hl
  | _ :: _, [], hl, _ => by simp at hl
  | a :: xs, b :: gs, hl, hh => by
    obtain ⟨y, h1, h2⟩ := hh 0 b rfl
    simp at h1; subst h1
    simp only [omap, h2, omap_enc xs gs (by simpa using hl) (fun i g hg => by simpa using hh (i + 1) g (by simpa using hg)), List.map_cons]
theorem right_homes {gs : List Grp} {m : Nat} (hm : m ≤ 6) {h1 : HHp} {lo N : Nat} {xs : List HV} (hN : h1[N]? = some (.lst xs)) (hl : xs.length = gs.length) (hll : xs.length ≤ lineN)
    (hx : ∀ (i : Nat) (g : Grp), gs[i]? = some g → ∃ (j : Nat) (ys : List HV), xs[i]? = some (HV.r j) ∧ lo ≤ j ∧ j < N ∧ h1[j]? = some (.lst ys) ∧ ys.length ≤ 6 ∧ Dr (HV.r j) (enc g) h1 3)
    (hg : ∀ g ∈ gs, ∀ l ∈ g, ∀ v ∈ l, v < m) {o1 o2 o3 o5 o6 o7 o8 o9 : Option HV} : ∃ ys h2,
    evH (Pr.tab (n + 1)) (.comp [6] (.nm 6) (.seq (.var 4)) [] .none (.call 79 (.cons (.var 6) (.cons (.var 0) .nil)))) [some (.p (.int m)), o1, o2, o3, some (.r N), o5, o6, o7, o8, o9] h1 = .ok (.r h2.length, h2 ++ [.lst ys]) ∧ h1 <+: h2 ∧
      deref (h2 ++ [.lst ys]) 60 (.r h2.length) = some (enc (gs.map (homesF m))) := by
  obtain ⟨ys, h2, r1, r2, r3, r4⟩ := compH_fx (bind := fun h ρ v => bindH h (.nm 6) ρ v) (c := fun ρ h => evC (Pr.tab (n + 1)) .none (seeH [] h ρ)) (el := fun ρ h => evH (Pr.tab (n + 1)) (.call 79 (.cons (.var 6) (.cons (.var 0) .nil))) ρ h) (ρ := wipeH [some (.p (.int m)), o1, o2, o3, some (.r N), o5, o6, o7, o8, o9] [6]) (J := .ls N) (all := xs)
    (fun pre acc h => h1 <+: h ∧ acc.length = pre.length ∧ ∀ (i : Nat) (g : Grp), i < pre.length → gs[i]? = some g → ∃ (j : Nat), acc[i]? = some (HV.r j) ∧ h[j]? = some (obN (homesF m g)))
    (by rintro pre acc h ⟨p, _⟩; simp only [HIt.at, pre_at p hN]) xs [] (xs.length + 1) [] h1 rfl (by simp) ⟨List.prefix_refl _, rfl, fun i hs hi => by simp at hi⟩ (by
      rintro pre v post acc h ha ⟨p0, la, inv⟩
      have hpl : pre.length < gs.length := by have := congrArg List.length ha; simp at this; omega
      have he : gs[pre.length]? = some gs[pre.length] := List.getElem?_eq_getElem hpl
      have hgm : gs[pre.length] ∈ gs := List.getElem_mem hpl
      generalize gs[pre.length] = g at *
      obtain ⟨j, zs, a1, a0, a2, a3, a4, a5⟩ := hx pre.length g he
      have hv : v = .r j := by
        have e : xs[pre.length]? = some v := by rw [ha]; simp
        rw [a1] at e; exact (Option.some.inj e).symm
      subst hv
      have rb := h_lawhomes n (h0 := h) (x := .r j) (g := g) hm (hg g hgm) (a5 h p0 0)
      refine ⟨_, bindH_nm, .inr ⟨by simp, .r h.length, h ++ [obN (homesF m g)], ?_, p0.trans (List.prefix_append _ _), by simp [la], fun i g' hi he' => ?_⟩⟩
      · simp only [evH_call, evHs_cons, evH_var, wipeH, List.set_cons_succ, List.set_cons_zero, List.getElem?_cons_succ, List.getElem?_cons_zero, okb, evHs_nil]
        exact rb
      · simp only [List.length_append, List.length_singleton] at hi
        by_cases e : i < pre.length
        · obtain ⟨j', b1, b2⟩ := inv i g' e he'
          exact ⟨j', by rw [List.getElem?_append_left (by omega)]; exact b1, pre_at (List.prefix_append _ _) b2⟩
        · have e2 : i = pre.length := by omega
          subst e2
          rw [he] at he'
          cases he'
          exact ⟨h.length, by rw [List.getElem?_append_right (by omega), la, Nat.sub_self]; rfl, by simp⟩)
  rw [List.nil_append] at r3 r4
  have hmany : (HIt.ls N).many h1 = xs.length := by simp only [HIt.many, hN]
  have hs : itS h1 (.r N) = .ok (.ls N) := by simp only [itS, itL, hN]
  refine ⟨ys, h2, ?_, r2, ?_⟩
  · rw [evH_comp]
    simp only [evHI_seq, evH_var, List.getElem?_cons_succ, List.getElem?_cons_zero, okb, hs, hmany]
    rw [if_pos hll]
    simp only [List.length_nil] at r1
    rw [r1]; rfl
  · unfold deref
    rw [List.getElem?_append_right (Nat.le_refl _), Nat.sub_self]
    show (omap (deref (h2 ++ [HOb.lst ys]) 59) ys).map Val.lst = _
    rw [omap_enc ys (gs.map (homesF m)) (by rw [List.length_map]; omega) (fun i hh hi => ?_)]
    · rfl
    · rw [List.getElem?_map] at hi
      cases hq : gs[i]? with
      | none => rw [hq] at hi; cases hi
      | some g =>
        rw [hq] at hi
        have := Option.some.inj hi; subst this
        obtain ⟨j, b1, b2⟩ := r4 i g (by rw [hl]; exact (List.getElem?_eq_some_iff.mp hq).1) hq
        refine ⟨.r j, b1, ?_⟩
        have b3 := pre_at (List.prefix_append h2 [HOb.lst ys]) b2
        unfold deref
        rw [b3]
        show (omap (deref (h2 ++ [HOb.lst ys]) 58) ((homesF m g).map fun v => HV.p (enc v))).map Val.lst = _
        rw [omap_map (g := fun x => HV.p (enc x)) (k := fun x => enc x) (fun x _ => rfl)]; rfl
/-- each grouping gets one more group -/
theorem right_grow {h3 : HHp} {lo N : Nat} {xs : List HV} {D : HOb} (hlo : 1 ≤ lo) (hloN : lo ≤ N) (hN : h3[N]? = some (.lst xs)) (hll : xs.length ≤ 203) (hD : h3[0]? = some D)
    (hx : ∀ (i : Nat) (v : HV), xs[i]? = some v → ∃ (j : Nat) (ys : List HV), v = HV.r j ∧ lo ≤ j ∧ j < N ∧ h3[j]? = some (.lst ys) ∧ ys.length ≤ 6) {o0 o1 o2 o3 o5 o6 o7 o8 o9 : Option HV} : ∃ b6 h4,
    exHs (Pr.tab n) (.cons (.loop (.nm 6) (.seq (.var 4)) (.cons (.app (.var 6) (.lst (.cons (.pu [] (.cint 0)) .nil))) .nil)) (.cons (.app (.var 4) (.lst .nil)) .nil)) [o0, o1, o2, o3, some (.r N), o5, o6, o7, o8, o9] h3 =
      .ok (.nx, [o0, o1, o2, o3, some (.r N), o5, b6, o7, o8, o9], h4) ∧ h4[0]? = some D := by
  obtain ⟨ρ', h', r1, b6, rfl, i1, i2, i3, i4⟩ := forH_fx (bind := fun h ρ v => bindH h (.nm 6) ρ v) (body := fun ρ h => exHs (Pr.tab n) (.cons (.app (.var 6) (.lst (.cons (.pu [] (.cint 0)) .nil))) .nil) ρ h) (J := .ls N) (all := xs)
    (fun pre ρ h => ∃ a6, ρ = [o0, o1, o2, o3, some (.r N), o5, a6, o7, o8, o9] ∧ h[N]? = some (.lst xs) ∧ h[0]? = some D ∧ h3.length ≤ h.length ∧ ∀ (j : Nat) (zs : List HV), h3[j]? = some (HOb.lst zs) → ∃ zs' : List HV, h[j]? = some (HOb.lst zs') ∧ zs'.length ≤ zs.length + pre.length)
    (by rintro pre ρ h ⟨a6, rfl, p1, _⟩; simp only [HIt.at, p1])
    xs [] (xs.length + 1) [o0, o1, o2, o3, some (.r N), o5, o6, o7, o8, o9] h3 rfl (by simp) ⟨o6, rfl, hN, hD, Nat.le_refl _, fun j zs hz => ⟨zs, hz, Nat.le_refl _⟩⟩ (by
      rintro pre v post ρ h ha ⟨a6, rfl, p1, p2, p3, p4⟩
      have hpl : pre.length < xs.length := by have := congrArg List.length ha; simp at this; omega
      have e : xs[pre.length]? = some v := by rw [ha]; simp
      obtain ⟨j, ys, rfl, q1, q2, q3, q4⟩ := hx _ v e
      obtain ⟨zs', z1, z2⟩ := p4 j ys q3
      have hjl := (List.getElem?_eq_some_iff.mp z1).1
      have hNl := (List.getElem?_eq_some_iff.mp p1).1
      have z3 : (h ++ [HOb.lst [.p (.int 0)]])[j]? = some (.lst zs') := pre_at (List.prefix_append _ _) z1
      have hc0 : ([] : List Nat).contains 0 = false := rfl
      have q := exH_app (T := Pr.tab n) (ρ := [o0, o1, o2, o3, some (.r N), o5, some (.r j), o7, o8, o9]) (h := h) (a := .var 6) (e := .lst (.cons (.pu [] (.cint 0)) .nil)) (q := (.r j, h)) (z := (.r h.length, h ++ [.lst [.p (.int 0)]])) (l := zs') (ys := zs') (n := j)
        (by simp) (by simp only [lstH, z1]) (by simp [lineN]) rfl z3 (by unfold lineN; omega)
      refine ⟨[o0, o1, o2, o3, some (.r N), o5, some (.r j), o7, o8, o9], (h ++ [HOb.lst [HV.p (.int 0)]]).set j (HOb.lst (zs' ++ [HV.r h.length])), ?_, _, rfl, ?_, ?_, ?_, ?_⟩
      · simp only [bindH_nm, okb, List.set_cons_succ, List.set_cons_zero, exHs_cons, q, seqH_nx, exHs_nil]
      · rw [List.getElem?_set_ne (by omega), List.getElem?_append_left hNl, p1]
      · rw [List.getElem?_set_ne (by omega), List.getElem?_append_left (by omega), p2]
      · rw [List.length_set, List.length_append]; omega
      · intro t zs hz
        obtain ⟨ws, w1, w2⟩ := p4 t zs hz
        have hzl := (List.getElem?_eq_some_iff.mp w1).1
        by_cases et : j = t
        · subst et
          refine ⟨zs' ++ [HV.r h.length], by rw [List.getElem?_set_self (by simp; omega)], ?_⟩
          rw [q3] at hz
          have e9 := HOb.lst.inj (Option.some.inj hz)
          subst e9
          rw [List.length_append, List.length_append, List.length_singleton, List.length_singleton]; omega
        · refine ⟨ws, by rw [List.getElem?_set_ne et, List.getElem?_append_left hzl, w1], ?_⟩
          simp; omega)
  have hmany : (HIt.ls N).many h3 = xs.length := by simp only [HIt.many, hN]
  have hs : itS h3 (.r N) = .ok (.ls N) := by simp only [itS, itL, hN]
  have hNl := (List.getElem?_eq_some_iff.mp i1).1
  have q := exH_app (T := Pr.tab n) (ρ := [o0, o1, o2, o3, some (.r N), o5, b6, o7, o8, o9]) (h := h') (a := .var 4) (e := .lst .nil) (q := (.r N, h')) (z := (.r h'.length, h' ++ [.lst []])) (l := xs) (ys := xs) (n := N)
    (by simp) (by simp only [lstH, i1]) (by simp) rfl (pre_at (List.prefix_append _ _) i1) (by unfold lineN; omega)
  refine ⟨b6, (h' ++ [HOb.lst []]).set N (HOb.lst (xs ++ [HV.r h'.length])), ?_, ?_⟩
  · have el : exH (Pr.tab n) (.loop (.nm 6) (.seq (.var 4)) (.cons (.app (.var 6) (.lst (.cons (.pu [] (.cint 0)) .nil))) .nil)) [o0, o1, o2, o3, some (.r N), o5, o6, o7, o8, o9] h3 = .ok (.nx, [o0, o1, o2, o3, some (.r N), o5, b6, o7, o8, o9], h') := by
      rw [exH_loop]
      simp only [evHI_seq, evH_var, List.getElem?_cons_succ, List.getElem?_cons_zero, okb, hs, hmany]
      exact r1
    simp only [exHs_cons, el, seqH_nx, q, exHs_nil]
  · rw [List.getElem?_set_ne (by omega), List.getElem?_append_left (by omega), i2]
end VM

set_option Elab.async false
set_option linter.all false
set_option maxRecDepth 100000
set_option maxHeartbeats 2000000
/-! LibG12: the law's two looks. -/
namespace VM
open PySem
variable (n : Nat)
theorem kfacts (k : Kind) {m : Nat} (hm : m ≤ 6) : (groupingsF k m).length = (lawGs k m).length ∧ (((homesHere k m).zip (homesHere k m).tail).all fun p => ltN p.1 p.2) = true ∧ ((groupingsF k m).all fun g => (lawGs k m).contains g) = true ∧ (∀ g ∈ groupingsF k m, ∀ l ∈ g, ∀ x ∈ l, x < m) := by
  have h := okall_k k m (by omega)
  simp only [okAll, Bool.and_eq_true] at h
  obtain ⟨⟨⟨h1, h2⟩, h3⟩, h4⟩ := h
  refine ⟨of_decide_eq_true h1, h2, h3, fun g hg l hl x hx => ?_⟩
  have := List.all_eq_true.mp (List.all_eq_true.mp (List.all_eq_true.mp h4 g hg) l hl) x hx
  exact of_decide_eq_true this
theorem gs_len (k : Kind) {m : Nat} (hm : m ≤ 6) : (groupingsF k m).length ≤ 203 := by
  refine Nat.le_trans (List.length_filter_le _ _) ?_
  rw [List.length_map]
  exact (homes_ok m (by omega)).2
theorem gs_mem (k : Kind) {m : Nat} (hm : m ≤ 6) {g : Grp} (h : g ∈ groupingsF k m) : g.length ≤ 6 := by
  have h1 := (List.mem_filter.mp h).1
  obtain ⟨hs, h2, rfl⟩ := List.mem_map.mp h1
  exact (homes_of hm h2).2.2.2
def dueO (k : Kind) (m : Nat) : HOb := .lst (((lawGs k m).map enc).map HV.p)
theorem due_see {k : Kind} {m : Nat} {h : HHp} (hD : h[0]? = some (dueO k m)) : deref h 60 (.r 0) = some (enc (lawGs k m)) := by
  unfold deref
  rw [hD]
  show (omap (deref h 59) (((lawGs k m).map enc).map HV.p)).map Val.lst = _
  rw [omap_p]; rfl
theorem right_step (k : Kind) {m : Nat} (hm : m ≤ 6) {h : HHp} (hD : h[0]? = some (dueO k m)) {i a4 a5 a6 a7 a8 a9 : Option HV} : ∃ b4 b5 b6 h4,
    exHs (Pr.tab (n + 4)) ((D80.body.at 1).inner) [some (.p (.int m)), some (.p (kv k)), some (.r 0), i, a4, a5, a6, a7, a8, a9] h =
      .ok (.nx, [some (.p (.int m)), some (.p (kv k)), some (.r 0), i, b4, b5, b6, a7, a8, a9], h4) ∧ h4[0]? = some (dueO k m) := by
  obtain ⟨x, h1, e1, p1, gi⟩ := h_groupings n k hm h
  have hd := gi.dr
  obtain ⟨N, xs, rfl, hloN, hN, hl, hx⟩ := gi.ex
  obtain ⟨f1, f2, f3, f4⟩ := kfacts k hm
  have hgl := gs_len k hm
  have hgl' : (groupingsF k m).length ≤ lineN := by unfold lineN; omega
  have hpos : 1 ≤ List.length h := by have := (List.getElem?_eq_some_iff.mp hD).1; omega
  obtain ⟨ys, h2, e2, p2, hdh⟩ := right_homes (n + 3) (gs := groupingsF k m) hm hN hl (by omega) hx f4 (o1 := some (.p (kv k))) (o2 := some (.r 0)) (o3 := i) (o5 := a5) (o6 := a6) (o7 := a7) (o8 := a8) (o9 := a9)
  have hN3 := pre_at (p2.trans (List.prefix_append _ [HOb.lst ys])) hN
  have hD3 := pre_at (p1.trans (p2.trans (List.prefix_append _ [HOb.lst ys]))) hD
  have p13 : h1 <+: h2 ++ [HOb.lst ys] := p2.trans (List.prefix_append _ _)
  have d1 : deref h1 60 (.r N) = some (enc (groupingsF k m)) := hd h1 (List.prefix_refl _) 56
  have d3 : deref (h2 ++ [HOb.lst ys]) 60 (.r N) = some (enc (groupingsF k m)) := hd _ p13 56
  have due3 := due_see hD3
  obtain ⟨b6, h4, e4, hD4⟩ := right_grow (n + 4) (h3 := h2 ++ [HOb.lst ys]) (lo := List.length h) (N := N) (xs := xs) (D := dueO k m) hpos hloN hN3 (by omega) hD3 (fun i v hv => by
    have hi : i < (groupingsF k m).length := by have := (List.getElem?_eq_some_iff.mp hv).1; omega
    obtain ⟨j, zs, q1, q2, q3, q4, q5, q6⟩ := hx i _ (List.getElem?_eq_getElem hi)
    rw [hv] at q1
    exact ⟨j, zs, Option.some.inj q1, q2, q3, pre_at p13 q4, q5⟩) (o0 := some (.p (.int m))) (o1 := some (.p (kv k))) (o2 := some (.r 0)) (o3 := i) (o5 := some (.r h2.length)) (o6 := a6) (o7 := a7) (o8 := a8) (o9 := a9)
  refine ⟨some (.r N), some (.r h2.length), b6, h4, ?_, hD4⟩
  have hGl : bi1 .len [enc (groupingsF k m)] = .ok (.int ((groupingsF k m).length : Nat)) := len_enc _
  have hLl : bi1 .len [enc (lawGs k m)] = .ok (.int ((lawGs k m).length : Nat)) := len_enc _
  have hHl : (homesHere k m).length ≤ lineN := by unfold homesHere; rw [List.length_map]; exact hgl'
  have hgm := fun g hg => gs_mem k hm (g := g) hg
  have hdh' : deref (h2 ++ [HOb.lst ys]) 60 (.r h2.length) = some (enc (homesHere k m)) := hdh
  generalize homesHere k m = hh at *
  generalize hG : groupingsF k m = gs at *
  generalize hL : lawGs k m = due at *
  have s2 : exH (Pr.tab (n + 4)) (.iff [4, 6] (.bop false (.cons (.not1 (.isi (.var 4) .list)) (.cons (.not1 (.bi .all (.cons (.comp [6] (.nm 6) (.seq (.var 4)) .none (.isi (.var 6) .list)) .nil))) .nil))) (.cons (.ret (.pu [] (.cbl false))) .nil) .nil)
      [some (.p (.int m)), some (.p (kv k)), some (.r 0), i, some (.r N), a5, a6, a7, a8, a9] h1 = .ok (.nx, [some (.p (.int m)), some (.p (kv k)), some (.r 0), i, some (.r N), a5, a6, a7, a8, a9], h1) := by
    have e := @look1 (Pr.tab (n + 4)) none none none none none (a6.bind (deref h1 60)) none none none gs hgl'
    have see : seeH [4, 6] h1 [some (.p (.int m)), some (.p (kv k)), some (.r 0), i, some (.r N), a5, a6, a7, a8, a9] = [none, none, none, none, some (enc gs), none, a6.bind (deref h1 60), none, none, none] := by
      simp only [seeG_cons, seeG_nil, Option.bind_some, d1]; rfl
    rw [exH_iff, see]
    simp [e, -ev_bi]
  have s3 : exH (Pr.tab (n + 4)) (.iff [4, 6, 9] (.not1 (.bi .all (.cons (.comp [6] (.nm 6) (.seq (.var 4)) .none (.bi .all (.cons (.comp [9] (.nm 9) (.seq (.var 6)) .none (.isi (.var 9) .list)) .nil))) .nil))) (.cons (.ret (.pu [] (.cbl false))) .nil) .nil)
      [some (.p (.int m)), some (.p (kv k)), some (.r 0), i, some (.r N), a5, a6, a7, a8, a9] h1 = .ok (.nx, [some (.p (.int m)), some (.p (kv k)), some (.r 0), i, some (.r N), a5, a6, a7, a8, a9], h1) := by
    have e := @look2 (Pr.tab (n + 4)) none none none none none (a6.bind (deref h1 60)) none none (a9.bind (deref h1 60)) gs hgl' (fun g hg => by have := hgm g hg; unfold lineN; omega)
    have see : seeH [4, 6, 9] h1 [some (.p (.int m)), some (.p (kv k)), some (.r 0), i, some (.r N), a5, a6, a7, a8, a9] = [none, none, none, none, some (enc gs), none, a6.bind (deref h1 60), none, none, a9.bind (deref h1 60)] := by
      simp only [seeG_cons, seeG_nil, Option.bind_some, d1]; rfl
    rw [exH_iff, see]
    simp [e, -ev_bi]
  have s5 : exH (Pr.tab (n + 4)) (.iff [2, 4, 5, 7, 8] (.bop false (.cons (.op .ne (.bi .len (.cons (.var 4) .nil)) (.bi .len (.cons (.var 2) .nil))) (.cons (.bi .any (.cons (.comp [7, 8] (.tp (.cons (.nm 7) (.cons (.nm 8) .nil))) (.zip (.var 5) (.sl (.var 5) (.some (.cint 1)) .none)) .none (.op .ge (.var 7) (.var 8))) .nil)) .nil))) (.cons (.ret (.pu [] (.cbl false))) .nil) .nil)
      [some (.p (.int m)), some (.p (kv k)), some (.r 0), i, some (.r N), some (.r h2.length), a6, a7, a8, a9] (h2 ++ [HOb.lst ys]) = .ok (.nx, [some (.p (.int m)), some (.p (kv k)), some (.r 0), i, some (.r N), some (.r h2.length), a6, a7, a8, a9], h2 ++ [HOb.lst ys]) := by
    have e := @look3 (Pr.tab (n + 4)) none none (some (enc due)) none (some (enc gs)) none (a7.bind (deref (h2 ++ [HOb.lst ys]) 60)) (a8.bind (deref (h2 ++ [HOb.lst ys]) 60)) none hh hHl f2
    have see : seeH [2, 4, 5, 7, 8] (h2 ++ [HOb.lst ys]) [some (.p (.int m)), some (.p (kv k)), some (.r 0), i, some (.r N), some (.r h2.length), a6, a7, a8, a9] = [none, none, some (enc due), none, some (enc gs), some (enc hh), none, a7.bind (deref (h2 ++ [HOb.lst ys]) 60), a8.bind (deref (h2 ++ [HOb.lst ys]) 60), none] := by
      simp only [seeG_cons, seeG_nil, Option.bind_some, d3, due3, hdh']; rfl
    rw [exH_iff, see]
    simp [e, -ev_bi, bi_var, hGl, hLl, f1]
  have s6 : exH (Pr.tab (n + 4)) (.iff [2, 4, 6] (.not1 (.bi .all (.cons (.comp [6] (.nm 6) (.seq (.var 4)) .none (.op .inn (.var 6) (.var 2))) .nil))) (.cons (.ret (.pu [] (.cbl false))) .nil) .nil)
      [some (.p (.int m)), some (.p (kv k)), some (.r 0), i, some (.r N), some (.r h2.length), a6, a7, a8, a9] (h2 ++ [HOb.lst ys]) = .ok (.nx, [some (.p (.int m)), some (.p (kv k)), some (.r 0), i, some (.r N), some (.r h2.length), a6, a7, a8, a9], h2 ++ [HOb.lst ys]) := by
    have e := @look4 (Pr.tab (n + 4)) none none none none (a6.bind (deref (h2 ++ [HOb.lst ys]) 60)) none none none gs due hgl' f3
    have see : seeH [2, 4, 6] (h2 ++ [HOb.lst ys]) [some (.p (.int m)), some (.p (kv k)), some (.r 0), i, some (.r N), some (.r h2.length), a6, a7, a8, a9] = [none, none, some (enc due), none, some (enc gs), none, a6.bind (deref (h2 ++ [HOb.lst ys]) 60), none, none, none] := by
      simp only [seeG_cons, seeG_nil, Option.bind_some, d3, due3]; rfl
    rw [exH_iff, see]
    simp [e, -ev_bi]
  have s1 : exH (Pr.tab (n + 4)) (.asg (.nm 4) (.call 78 (.cons (.var 0) (.cons (.var 1) .nil)))) [some (.p (.int m)), some (.p (kv k)), some (.r 0), i, a4, a5, a6, a7, a8, a9] h = .ok (.nx, [some (.p (.int m)), some (.p (kv k)), some (.r 0), i, some (.r N), a5, a6, a7, a8, a9], h1) := by
    simp [e1]
  have s4 : exH (Pr.tab (n + 4)) (.asg (.nm 5) (.comp [6] (.nm 6) (.seq (.var 4)) [] .none (.call 79 (.cons (.var 6) (.cons (.var 0) .nil))))) [some (.p (.int m)), some (.p (kv k)), some (.r 0), i, some (.r N), a5, a6, a7, a8, a9] h1 = .ok (.nx, [some (.p (.int m)), some (.p (kv k)), some (.r 0), i, some (.r N), some (.r h2.length), a6, a7, a8, a9], h2 ++ [HOb.lst ys]) := by
    simp only [exH_asg, e2, okb, bindH_nm, List.set_cons_succ, List.set_cons_zero]
  simp only [D80, HB.at, HS.inner]
  rw [exHs_cons, s1, seqH_nx, exHs_cons, s2, seqH_nx, exHs_cons, s3, seqH_nx, exHs_cons, s4, seqH_nx, exHs_cons, s5, seqH_nx, exHs_cons, s6, seqH_nx]
  exact e4
theorem c_lawright (k : Kind) {m : Nat} (hm : m ≤ 6) : callP Pr (n + 5) 80 [.int m, kv k] = .ok (.bl true) := by
  have e0 := c_lawgroupings (n + 1) k hm
  rw [callP_pure (d := D80) rfl rfl, callH_eq (d := D80) rfl rfl]
  have h0' : ([Val.int (m : Int), kv k].map HV.p).map some ++ List.replicate (D80.ns - D80.np) none = [some (.p (.int m)), some (.p (kv k)), none, none, none, none, none, none, none, none] := rfl
  obtain ⟨ρ', h', r1, a3, a4, a5, a6, rfl, i1⟩ := forH_fx (bind := fun h ρ v => bindH h (.nm 3) ρ v) (body := fun ρ h => exHs (Pr.tab (n + 4)) ((D80.body.at 1).inner) ρ h) (J := .fx ((rngC 0 1 2).map HV.p)) (all := (rngC 0 1 2).map HV.p)
    (fun pre ρ h => ∃ a3 a4 a5 a6, ρ = [some (.p (.int m)), some (.p (kv k)), some (.r 0), a3, a4, a5, a6, none, none, none] ∧ h[0]? = some (dueO k m))
    (fun _ _ _ _ => rfl) ((rngC 0 1 2).map HV.p) [] 3 [some (.p (.int m)), some (.p (kv k)), some (.r 0), none, none, none, none, none, none, none] [dueO k m] rfl (by simp [rngC]) ⟨none, none, none, none, rfl, rfl⟩ (by
      rintro pre v post ρ h ha ⟨a3, a4, a5, a6, rfl, hD⟩
      obtain ⟨b4, b5, b6, h4, e, hD4⟩ := right_step n k hm hD (i := some v) (a4 := a4) (a5 := a5) (a6 := a6) (a7 := none) (a8 := none) (a9 := none)
      refine ⟨_, h4, ?_, some v, b4, b5, b6, rfl, hD4⟩
      simp only [bindH_nm, okb, List.set_cons_succ, List.set_cons_zero]
      exact e)
  have s1 : exH (Pr.tab (n + 4)) (.asg (.nm 2) (.puF [0, 1] (.call 68 (.cons (.var 0) (.cons (.var 1) .nil))))) [some (.p (.int m)), some (.p (kv k)), none, none, none, none, none, none, none, none] [] = .ok (.nx, [some (.p (.int m)), some (.p (kv k)), some (.r 0), none, none, none, none, none, none, none], [dueO k m]) := by
    have hs : ev (Pr.tab (n + 4)) (.call 68 (.cons (.var 0) (.cons (.var 1) .nil))) (seeH [0, 1] [] [some (.p (.int m)), some (.p (kv k)), none, none, none, none, none, none, none, none]) = .ok (enc (lawGs k m)) := by
      simp [e0]
    have ho : onlyP [0, 1] [some (.p (.int m)), some (.p (kv k)), none, none, none, none, none, none, none, none] = true := rfl
    have he : evH (Pr.tab (n + 4)) (.puF [0, 1] (.call 68 (.cons (.var 0) (.cons (.var 1) .nil)))) [some (.p (.int m)), some (.p (kv k)), none, none, none, none, none, none, none, none] [] = .ok (.r 0, [dueO k m]) := by
      simp only [evH, hs, okb, ho, Bool.or_true, if_true, enc_lst]
      rfl
    simp only [exH_asg, he, okb, bindH_nm, List.set_cons_succ, List.set_cons_zero]
  have hit : evHI (Pr.tab (n + 4)) (.rng [] (.rng1 (.cint 2))) [some (.p (.int m)), some (.p (kv k)), some (.r 0), none, none, none, none, none, none, none] [dueO k m] = .ok (.fx ((rngC 0 1 2).map HV.p), [dueO k m]) := by
    have hsm : smallR 0 2 = true := by decide +kernel
    simp [hsm]
  have s2 := exH_loop (T := Pr.tab (n + 4)) (tg := .nm 3) (it := .rng [] (.rng1 (.cint 2))) (b := (D80.body.at 1).inner) (ρ := [some (.p (.int m)), some (.p (kv k)), some (.r 0), none, none, none, none, none, none, none]) (h := [dueO k m])
  rw [hit, okb] at s2
  have hmany : (HIt.fx ((rngC 0 1 2).map HV.p)).many [dueO k m] + 1 = 3 := rfl
  simp only [hmany] at s2
  simp only [List.length_nil] at r1
  rw [r1] at s2
  simp only [D80, HB.at, HS.inner] at s2 h0' ⊢
  rw [h0', exHs_cons, s1, seqH_nx, exHs_cons, s2, seqH_nx]
  simp only [exHs_cons, exH_ret, evH_pu, ev_bl, okb, flat, Bool.true_or, if_true, seqH_rt, finH_rt]
  rfl
end VM

set_option Elab.async false
set_option linter.all false
set_option maxRecDepth 100000
set_option maxHeartbeats 2000000
/-! LibC1: how many groupings there are; by the program and by the law. -/
namespace VM
open PySem
def frc {α : Type} (x : Nat) (k : Nat → α) : α := match x with
  | 0 => k 0
  | n + 1 => k (n + 1)
theorem frc_eq {α : Type} (x : Nat) (k : Nat → α) : frc x k = k x := by cases x <;> rfl
def catN : Nat → Nat
  | 0 => 1
  | t + 1 => catN t * 2 * (2 * t + 1) / (t + 2)
def scanG (a : Nat) : List Nat → List Nat
  | [] => [a]
  | x :: r => a :: scanG (a + x) r
def bellRow : Nat → List Nat
  | 0 => [1]
  | t + 1 => scanG ((bellRow t).getLastD 0) (bellRow t)
def sumTo (f : Nat → Nat) : Nat → Nat
  | 0 => 0
  | n + 1 => sumTo f n + f n
def zipA : List Nat → List Nat → List Nat
  | x :: a, y :: b => (x + y) :: zipA a b
  | _, _ => []
def waysF : Nat → List Nat
  | 0 => [1]
  | t + 1 => 1 :: (zipA (waysF t) (waysF t).tail ++ [1])
def gainF : Kind → List Nat → List Nat → Nat → Nat
  | .rows, f, w, m => sumTo (fun i => f.getD (m - (i + 1)) 0) m
  | .all, f, w, m => sumTo (fun i => w.getD i 0 * f.getD (m - (i + 1)) 0) m
  | .nested, f, w, m => sumTo (fun i => f.getD i 0 * f.getD (m - 1 - i) 0) m
def foundF (k : Kind) : Nat → List Nat
  | 0 => [1]
  | t + 1 => foundF k t ++ [gainF k (foundF k t) (waysF t) (t + 1)]
def howF : Kind → Nat → Nat
  | .all, m => (bellRow m).headD 0
  | .nested, m => catN m
  | .rows, m => if m = 0 then 1 else 2 ^ (m - 1)
-- quick ways, numbers made ready
def scanQ {α : Type} (a : Nat) (l : List Nat) (k : List Nat → α) : α := match l with
  | [] => k [a]
  | x :: r => frc (a + x) fun b => scanQ b r fun t => k (a :: t)
theorem scanQ_eq {α : Type} : ∀ (l : List Nat) (a : Nat) (k : List Nat → α), scanQ a l k = k (scanG a l)
  | [], a, k => rfl
  | x :: r, a, k => by rw [scanQ, frc_eq, scanQ_eq r]; rfl
def zipQ {α : Type} (a b : List Nat) (k : List Nat → α) : α := match a, b with
  | x :: a, y :: b => frc (x + y) fun z => zipQ a b fun t => k (z :: t)
  | _, _ => k []
theorem zipQ_eq {α : Type} : ∀ (a b : List Nat) (k : List Nat → α), zipQ a b k = k (zipA a b)
  | [], b, k => rfl
  | x :: a, [], k => rfl
  | x :: a, y :: b, k => by rw [zipQ, frc_eq, zipQ_eq a b]; rfl
def dotQ : List Nat → List Nat → Nat → Nat
  | x :: a, y :: b, s => dotQ a b (s + x * y)
  | _, _, s => s
def bigN : Nat := 2 ^ 1000
/-- the look: n steps more; r the row of sums, w the ways, f what was found, the last first -/
def lookB : Nat → List Nat → List Nat → List Nat → Bool
  | 0, _, _, _ => true
  | n + 1, r, w, f => scanQ (r.getLastD 0) r fun r' => zipQ w w.tail fun w' => frc (r'.headD 0) fun b => (Nat.beq b (dotQ w f 0) && Nat.ble b bigN) && lookB n r' (1 :: (w' ++ [1])) (b :: f)
def lookN : Nat → Nat → Nat → List Nat → Bool
  | 0, _, _, _ => true
  | n + 1, t, c, f => frc (c * 2 * (2 * t + 1) / (t + 2)) fun b => (Nat.beq b (dotQ f.reverse f 0) && Nat.ble b bigN) && lookN n (t + 1) b (b :: f)
def lookR : Nat → Nat → List Nat → Bool
  | 0, _, _ => true
  | n + 1, t, f => frc (2 ^ t) fun b => (Nat.beq b (dotQ (List.replicate f.length 1) f 0) && Nat.ble b bigN) && lookR n (t + 1) (b :: f)
theorem look_b : lookB 200 [1] [1] [1] = true := by decide +kernel
theorem look_n : lookN 200 0 1 [1] = true := by decide +kernel
theorem look_r : lookR 200 0 [1] = true := by decide +kernel
theorem sum_shift (f : Nat → Nat) : ∀ n, sumTo f (n + 1) = f 0 + sumTo (fun i => f (i + 1)) n
  | 0 => by simp [sumTo]
  | n + 1 => by rw [sumTo, sum_shift f n]; simp only [sumTo]; omega
theorem sum_congr {f g : Nat → Nat} : ∀ n, (∀ i, i < n → f i = g i) → sumTo f n = sumTo g n
  | 0, _ => rfl
  | n + 1, h => by simp only [sumTo]; rw [sum_congr n (fun i hi => h i (by omega)), h n (by omega)]
theorem dot_sum : ∀ (a b : List Nat) (s : Nat), a.length = b.length → dotQ a b s = s + sumTo (fun i => a.getD i 0 * b.getD i 0) a.length
  | [], [], s, _ => rfl
  | [], _ :: _, s, h => by simp at h
  | _ :: _, [], s, h => by simp at h
  | x :: a, y :: b, s, h => by
    rw [dotQ, dot_sum a b _ (by simpa using h), List.length_cons, sum_shift]
    simp [Nat.add_assoc]
theorem dot_rev {w F : List Nat} (h : w.length = F.length) : dotQ w F.reverse 0 = sumTo (fun i => w.getD i 0 * F.getD (F.length - (i + 1)) 0) F.length := by
  rw [dot_sum _ _ _ (by simpa using h), Nat.zero_add, h]
  refine sum_congr _ fun i hi => ?_
  congr 1
  rw [List.getD_eq_getElem?_getD, List.getD_eq_getElem?_getD, List.getElem?_reverse hi, show F.length - 1 - i = F.length - (i + 1) by omega]
theorem ways_len : ∀ t, (waysF t).length = t + 1
  | 0 => rfl
  | t + 1 => by
    have h := ways_len t
    have hz : ∀ a b : List Nat, (zipA a b).length = min a.length b.length := by
      intro a
      induction a with
      | nil => intro b; simp [zipA]
      | cons x a ih =>
        intro b
        cases b with
        | nil => simp [zipA]
        | cons y b => simp only [zipA, List.length_cons, ih]; omega
    simp only [waysF, List.length_cons, List.length_append, hz, List.length_tail, h, List.length_nil]; omega
theorem ways_big : ∀ t, ∀ x ∈ waysF t, x ≤ 2 ^ t
  | 0 => by simp [waysF]
  | t + 1 => by
    have h := ways_big t
    have hz : ∀ a b : List Nat, (∀ x ∈ a, x ≤ 2 ^ t) → (∀ x ∈ b, x ≤ 2 ^ t) → ∀ x ∈ zipA a b, x ≤ 2 ^ (t + 1) := by
      intro a
      induction a with
      | nil => intro b _ _ x hx; simp [zipA] at hx
      | cons y a ih =>
        intro b h1 h2 x hx
        cases b with
        | nil => simp [zipA] at hx
        | cons z b =>
          simp only [zipA, List.mem_cons] at hx
          rcases hx with rfl | hx
          · have := h1 y (List.mem_cons_self ..)
            have := h2 z (List.mem_cons_self ..)
            rw [Nat.pow_succ]; omega
          · exact ih b (fun x hx => h1 x (List.mem_cons_of_mem _ hx)) (fun x hx => h2 x (List.mem_cons_of_mem _ hx)) x hx
    have h1 : 1 ≤ 2 ^ (t + 1) := Nat.one_le_two_pow
    intro x hx
    simp only [waysF, List.mem_cons, List.mem_append, List.not_mem_nil, or_false] at hx
    rcases hx with rfl | hx | rfl
    · exact h1
    · exact hz _ _ h (fun x hx => h x (List.mem_of_mem_tail hx)) x hx
    · exact h1
structure Told (k : Kind) (t : Nat) : Prop where
  eq : foundF k t = (List.range (t + 1)).map (howF k)
  big : ∀ x ∈ foundF k t, x ≤ bigN
theorem Told.len {k : Kind} {t : Nat} (h : Told k t) : (foundF k t).length = t + 1 := by rw [h.eq]; simp
theorem Told.next {k : Kind} {t : Nat} (h : Told k t) (h1 : howF k (t + 1) = gainF k (foundF k t) (waysF t) (t + 1)) (h2 : howF k (t + 1) ≤ bigN) : Told k (t + 1) := by
  constructor
  · rw [foundF, ← h1, List.range_succ, List.map_append, ← h.eq]; rfl
  · intro x hx
    rw [foundF, ← h1] at hx
    rcases List.mem_append.mp hx with hx | hx
    · exact h.big x hx
    · rw [List.mem_singleton.mp hx]; exact h2
theorem told_b : ∀ n t, Told .all t → lookB n (bellRow t) (waysF t) (foundF .all t).reverse = true → ∀ s, s ≤ n → Told .all (t + s)
  | n, t, h, _, 0, _ => h
  | 0, t, h, _, s + 1, hs => by omega
  | n + 1, t, h, hk, s + 1, hs => by
    rw [lookB, scanQ_eq, zipQ_eq, frc_eq] at hk
    simp only [Bool.and_eq_true] at hk
    obtain ⟨⟨h1, h2⟩, h3⟩ := hk
    have e1 : howF .all (t + 1) = gainF .all (foundF .all t) (waysF t) (t + 1) := by
      have := Nat.eq_of_beq_eq_true h1
      rw [dot_rev (by rw [ways_len, h.len]), h.len] at this
      exact this
    have hn := h.next e1 (Nat.le_of_ble_eq_true h2)
    have hr : (foundF .all (t + 1)).reverse = howF .all (t + 1) :: (foundF .all t).reverse := by rw [foundF, ← e1]; simp
    have := told_b n (t + 1) hn (by rw [hr]; exact h3) s (by omega)
    rw [show t + (s + 1) = t + 1 + s by omega]; exact this
theorem told_n : ∀ n t, Told .nested t → lookN n t (catN t) (foundF .nested t).reverse = true → ∀ s, s ≤ n → Told .nested (t + s)
  | n, t, h, _, 0, _ => h
  | 0, t, h, _, s + 1, hs => by omega
  | n + 1, t, h, hk, s + 1, hs => by
    rw [lookN, frc_eq] at hk
    simp only [Bool.and_eq_true] at hk
    obtain ⟨⟨h1, h2⟩, h3⟩ := hk
    have e1 : howF .nested (t + 1) = gainF .nested (foundF .nested t) (waysF t) (t + 1) := by
      have := Nat.eq_of_beq_eq_true h1
      rw [List.reverse_reverse, dot_rev rfl, h.len] at this
      refine this.trans ?_
      exact sum_congr _ fun i hi => by rw [show t + 1 - (i + 1) = t + 1 - 1 - i by omega]
    have hn := h.next e1 (Nat.le_of_ble_eq_true h2)
    have hr : (foundF .nested (t + 1)).reverse = howF .nested (t + 1) :: (foundF .nested t).reverse := by rw [foundF, ← e1]; simp
    have := told_n n (t + 1) hn (by rw [hr]; exact h3) s (by omega)
    rw [show t + (s + 1) = t + 1 + s by omega]; exact this
theorem told_r : ∀ n t, Told .rows t → lookR n t (foundF .rows t).reverse = true → ∀ s, s ≤ n → Told .rows (t + s)
  | n, t, h, _, 0, _ => h
  | 0, t, h, _, s + 1, hs => by omega
  | n + 1, t, h, hk, s + 1, hs => by
    rw [lookR, frc_eq] at hk
    simp only [Bool.and_eq_true] at hk
    obtain ⟨⟨h1, h2⟩, h3⟩ := hk
    have hh : howF .rows (t + 1) = 2 ^ t := rfl
    have e1 : howF .rows (t + 1) = gainF .rows (foundF .rows t) (waysF t) (t + 1) := by
      have := Nat.eq_of_beq_eq_true h1
      rw [dot_rev (by simp), h.len] at this
      rw [hh]
      refine this.trans ?_
      refine sum_congr _ fun i hi => ?_
      have hl := h.len
      simp [List.getD_eq_getElem?_getD, List.getElem?_replicate, hl, hi]
    have hn := h.next e1 (Nat.le_of_ble_eq_true h2)
    have hr : (foundF .rows (t + 1)).reverse = howF .rows (t + 1) :: (foundF .rows t).reverse := by rw [foundF, ← e1]; simp
    have := told_r n (t + 1) hn (by rw [hr]; exact h3) s (by omega)
    rw [show t + (s + 1) = t + 1 + s by omega]; exact this
theorem told (k : Kind) {t : Nat} (ht : t ≤ 200) : Told k t := by
  have h0 : ∀ k, Told k 0 := fun k => ⟨by cases k <;> rfl, fun x hx => by
    have : x = 1 := List.mem_singleton.mp hx
    subst this; exact Nat.one_le_two_pow⟩
  have e : t = 0 + t := by omega
  cases k
  · rw [e]; exact told_b 200 0 (h0 _) look_b t ht
  · rw [e]; exact told_n 200 0 (h0 _) look_n t ht
  · rw [e]; exact told_r 200 0 (h0 _) look_r t ht
theorem few_same : ∀ k m, m < 6 → (groupingsF k m).length = howF k m := by
  intro k m hm
  have : m = 0 ∨ m = 1 ∨ m = 2 ∨ m = 3 ∨ m = 4 ∨ m = 5 := by omega
  cases k <;> rcases this with rfl | rfl | rfl | rfl | rfl | rfl <;> decide +kernel
end VM

set_option Elab.async false
set_option linter.all false
set_option maxRecDepth 100000
set_option maxHeartbeats 2000000
/-! LibC2: how_many. -/
namespace VM
open PySem
variable (n : Nat)
theorem lg_big {x : Nat} (h : x ≤ bigN) : lg (x : Int) ≤ 1001 := by
  refine lg_small (by decide) ?_
  rw [Int.natAbs_natCast]
  refine Nat.lt_of_le_of_lt h ?_
  unfold bigN
  exact Nat.pow_lt_pow_right (by decide) (by decide)
theorem lg_few {x : Nat} (h : x ≤ 1000) : lg (x : Int) ≤ 10 := lg_small (by decide) (by rw [Int.natAbs_natCast]; omega)
theorem cat_big {t : Nat} (ht : t ≤ 200) : catN t ≤ bigN := by
  have h := told .nested ht
  refine h.big _ ?_
  rw [h.eq]
  exact List.mem_map.mpr ⟨t, by simp, rfl⟩
theorem cat_step {c t : Nat} (hc : c ≤ bigN) (ht : t ≤ 200) : mulOk (c : Int) 2 = true ∧ mulOk ((c : Int) * 2) (2 * (t : Int) + 1) = true ∧ mulOk 2 (t : Int) = true ∧ divOk ((t : Int) + 2) = true ∧ ((c : Int) * 2 * (2 * (t : Int) + 1)).fdiv ((t : Int) + 2) = ((c * 2 * (2 * t + 1) / (t + 2) : Nat) : Int) := by
  have l2 : lg 2 = 1 := by decide +kernel
  have l1 := lg_big hc
  have l3 := lg_few (x := t) (by omega)
  have l4 := lg_few (x := 2 * t + 1) (by omega)
  have l5 := lg_few (x := t + 2) (by omega)
  have e4 : ((2 * t + 1 : Nat) : Int) = 2 * (t : Int) + 1 := by omega
  have e5 : ((t + 2 : Nat) : Int) = (t : Int) + 2 := by omega
  rw [e4] at l4
  rw [e5] at l5
  have l6 : lg ((c : Int) * 2) ≤ 1003 := by
    refine lg_small (by decide) ?_
    have e6 : ((c : Int) * 2).natAbs = c * 2 := by omega
    rw [e6]
    have : bigN = 2 ^ 1000 := rfl
    have h3 : (2 : Nat) ^ 1003 = 2 ^ 1000 * 8 := by rw [Nat.pow_succ, Nat.pow_succ, Nat.pow_succ]; omega
    have h4 : 0 < (2 : Nat) ^ 1000 := Nat.two_pow_pos _
    rw [h3, ← this]; rw [← this] at h4; omega
  refine ⟨mulOk_of (by omega), mulOk_of (by omega), mulOk_of (by omega), divOk_of (by omega) (by omega), ?_⟩
  rw [Int.fdiv_eq_ediv_of_nonneg _ (by omega), Int.natCast_ediv]
  rw [e5]
  congr 1
theorem c_catalan {m : Nat} (hm : m ≤ 200) : callP Pr (n + 1) 61 [.int m] = .ok (.int (catN m)) := by
  rw [call_eq (d := D61) rfl rfl]
  obtain ⟨ρ', h1, b2, rfl⟩ := forGo_map (bind := bindS (.nm 2)) (body := exs (Pr.tab n) ((D61.body.at 1).inner)) (fun (i : Nat) => Val.int (0 + (i : Int) * 1))
    (fun pre ρ => ∃ a2, ρ = [.sh (.int m), .sh (.int (catN pre.length)), a2]) (List.range m) [] [.sh (.int m), .sh (.int 1), .no] ⟨.no, rfl⟩ (by
      rintro p i q ρ hp ⟨a2, rfl⟩
      rw [List.nil_append] at hp
      obtain ⟨hi, hpl⟩ := rng_at hp
      subst hi
      obtain ⟨q1, q2, q3, q4, q5⟩ := cat_step (cat_big (t := p.length) (by omega)) (t := p.length) (by omega)
      refine ⟨[.sh (.int m), .sh (.int (catN (p.length + 1))), .sh (.int p.length)], ?_, .sh (.int p.length), by simp⟩
      rw [Int.zero_add, Int.mul_one]
      simp only [D61, SB.at, SS.inner]
      have hcn : catN (p.length + 1) = catN p.length * 2 * (2 * p.length + 1) / (p.length + 2) := rfl
      rw [hcn]
      generalize catN p.length * 2 * (2 * p.length + 1) / (p.length + 2) = z at *
      generalize catN p.length = c at *
      simp [q1, q2, q3, q4, q5])
  have hsm : smallR 0 (m : Int) = true := by unfold smallR; apply decide_eq_true; omega
  have h0 : [Val.int (m : Int)].map Slot.sh ++ List.replicate (3 - 1) Slot.no = [.sh (.int m), .no, .no] := rfl
  rw [show (List.range m).map (fun (i : Nat) => Val.int (0 + (i : Int) * 1)) = rngC 0 1 m from rfl] at h1
  simp only [D61, SB.at, SS.inner] at h1
  simp only [D61, h0]
  simp [hsm, h1, -forGo_cons]
theorem c_checkmany2 {m : Nat} (hm : m ≤ 200) : callP Pr (n + 2) 60 [.int m, .int 200] = .ok .non := by
  rw [call_eq (d := D60) rfl rfl]
  have := c_whole n (m : Int)
  simp [D60, this]
  omega
theorem scan_snoc : ∀ (l : List Nat) (a x : Nat), scanG a (l ++ [x]) = scanG a l ++ [(scanG a l).getLastD 0 + x]
  | [], a, x => rfl
  | y :: l, a, x => by
    show a :: scanG (a + y) (l ++ [x]) = a :: (scanG (a + y) l ++ _)
    rw [scan_snoc l]
    have hne : scanG (a + y) l ≠ [] := by cases l <;> simp [scanG]
    have : (a :: scanG (a + y) l).getLastD 0 = (scanG (a + y) l).getLastD 0 := by
      cases h : scanG (a + y) l with
      | nil => exact absurd h hne
      | cons b r => simp [List.getLastD_eq_getLast?]
    show _ = a :: (scanG (a + y) l ++ [(a :: scanG (a + y) l).getLastD 0 + x])
    rw [this]
theorem scan_len : ∀ (l : List Nat) (a : Nat), (scanG a l).length = l.length + 1
  | [], a => rfl
  | y :: l, a => by simp [scanG, scan_len l]
theorem scan_ne (l : List Nat) (a : Nat) : scanG a l ≠ [] := by intro h; have := scan_len l a; rw [h] at this; simp at this
theorem bell_len : ∀ t, (bellRow t).length = t + 1
  | 0 => rfl
  | t + 1 => by rw [bellRow, scan_len, bell_len t]
theorem bell1 {row : List Nat} {a : Nat} (hr : row.length ≤ 300) {s0 s1 s3 : Slot} (a5 : Slot) : ∃ b5,
    forGo (bindS (.nm 5)) (exs (Pr.tab n) (((D62.body.at 5).inner.at 1).inner)) (row.map enc) [s0, s1, .sh (enc row), s3, .ow [enc a], a5] =
      .ok (.nx, [s0, s1, .sh (enc row), s3, .ow ((scanG a row).map enc), b5]) := by
  obtain ⟨ρ', h1, b5, rfl⟩ := forGo_map (bind := bindS (.nm 5)) (body := exs (Pr.tab n) (((D62.body.at 5).inner.at 1).inner)) (fun x : Nat => enc x)
    (fun pre ρ => ∃ a5, ρ = [s0, s1, .sh (enc row), s3, .ow ((scanG a pre).map enc), a5]) row [] [s0, s1, .sh (enc row), s3, .ow [enc a], a5] ⟨a5, rfl⟩ (by
      rintro p x q ρ hp ⟨a5, rfl⟩
      rw [List.nil_append] at hp
      have hpl : p.length < 300 := by have := congrArg List.length hp; simp at this; omega
      have hx := ixV_last (scan_ne p a)
      have hlt : ((scanG a p).map (enc : Nat → Val)).length < 16777216 := by rw [List.length_map, scan_len]; omega
      refine ⟨[s0, s1, .sh (enc row), s3, .ow ((scanG a (p ++ [x])).map enc), .sh (enc x)], ?_, _, rfl⟩
      rw [scan_snoc]
      have hv : (.lst ((scanG a p).map enc) : Val) = enc (scanG a p) := rfl
      simp only [D62, SB.at, SS.inner]
      generalize hS : scanG a p = S at *
      have hsum : (.int ((S.getLastD 0 : Nat) : Int) : Val) = enc (S.getLastD 0) := rfl
      generalize S.getLastD 0 = z at *
      have hc : ([4] : List Nat).contains 4 = true := rfl
      simp only [exs_cons, bindS_nm, okb, List.set_cons_succ, List.set_cons_zero, exs_nil]
      rw [ex_app (v := enc (z + x)) (vs := S.map enc) (by
        simp [hv, hx, enc_nat]) (by simp [enc_nat, flat]) (by simp [enc_nat, kept]) hlt]
      simp [enc_nat, kept])
  exact ⟨b5, h1⟩
theorem bell2 {m : Nat} (hm : m ≤ 200) {s1 : Slot} : ∃ b3 b4 b5,
    forGo (bindS (.nm 3)) (exs (Pr.tab n) ((D62.body.at 5).inner)) (rngC 0 1 m) [.sh (.int m), s1, .sh (.lst [.int 1]), .no, .no, .no] =
      .ok (.nx, [.sh (.int m), s1, .sh (enc (bellRow m)), b3, b4, b5]) := by
  obtain ⟨ρ', h1, b3, b4, b5, rfl⟩ := forGo_map (bind := bindS (.nm 3)) (body := exs (Pr.tab n) ((D62.body.at 5).inner)) (fun (i : Nat) => Val.int (0 + (i : Int) * 1))
    (fun pre ρ => ∃ a3 a4 a5, ρ = [.sh (.int m), s1, .sh (enc (bellRow pre.length)), a3, a4, a5]) (List.range m) [] [.sh (.int m), s1, .sh (.lst [.int 1]), .no, .no, .no] ⟨.no, .no, .no, rfl⟩ (by
      rintro p i q ρ hp ⟨a3, a4, a5, rfl⟩
      rw [List.nil_append] at hp
      obtain ⟨hi, hpl⟩ := rng_at hp
      subst hi
      have hne : bellRow p.length ≠ [] := by intro h; have := bell_len p.length; rw [h] at this; simp at this
      have hx := ixV_last hne
      have hbl := bell_len p.length
      have hnx : bellRow (p.length + 1) = scanG ((bellRow p.length).getLastD 0) (bellRow p.length) := rfl
      obtain ⟨b5, e⟩ := bell1 n (row := bellRow p.length) (a := (bellRow p.length).getLastD 0) (by omega) (s0 := .sh (.int m)) (s1 := s1) (s3 := .sh (.int p.length)) a5
      refine ⟨[.sh (.int m), s1, .sh (enc (bellRow (p.length + 1))), .sh (.int p.length), .sh (enc (bellRow (p.length + 1))), b5], ?_, .sh (.int p.length), .sh (enc (bellRow (p.length + 1))), b5, by simp⟩
      rw [hnx]
      simp only [D62, SB.at, SS.inner, enc_nat] at e ⊢
      rw [Int.zero_add, Int.mul_one]
      generalize (bellRow p.length).getLastD 0 = z at *
      generalize bellRow p.length = row at *
      generalize scanG z row = S at *
      have hf : flats [Val.int (z : Int)] = true := rfl
      have hf2 : flat (.lst (S.map enc)) = false := rfl
      simp only [exs_cons, bindS_nm, okb, List.set_cons_succ, List.set_cons_zero, ex_ownE, ev_lst, evs_cons, evs_nil, ev_ix, ev_neg, ev_int, asInt_int, ev_var, visG_c, isOwn_sh, val_sh, Bool.false_and, Bool.false_eq_true, if_false, getE_succ, getE_zero, hx, List.length_cons, List.length_nil, lineN, show 0 + 1 ≤ 16777216 from by decide, if_true, asLst_l, hf, kept_nil, show (4 : Nat) < 0 + 1 + 1 + 1 + 1 + 1 + 1 from by decide, seqF_nx, ex_loop, evI_seq, seqV_enc, e]
      simp [hf2, kept, frzs, frz1, enc_lst])
  rw [show rngC 0 1 m = (List.range m).map fun (i : Nat) => Val.int (0 + (i : Int) * 1) from rfl, h1]
  exact ⟨b3, b4, b5, by simp⟩
theorem c_howmany (k : Kind) {m : Nat} (hm : m ≤ 200) : callP Pr (n + 3) 62 [.int m, kv k] = .ok (.int (howF k m)) := by
  rw [call_eq (d := D62) rfl rfl]
  have e1 := c_checkmany2 n hm
  have e2 := c_checkkind (n + 1) k
  have hG : ofO (Pr.G 8) = .ok (.int 200) := rfl
  have er := eq_rows k
  have en := eq_nested k
  have h0 : [Val.int (m : Int), kv k].map Slot.sh ++ List.replicate (6 - 2) Slot.no = [.sh (.int m), .sh (kv k), .no, .no, .no, .no] := rfl
  have hG' : Pr.G 8 = some (.int 200) := rfl
  have hof : ofO (some (Val.int 200)) = .ok (.int 200) := rfl
  cases k with
  | nested =>
    have := c_catalan (n + 1) hm
    simp only [D62, h0]
    simp [e1, e2, hG', hof, en, this, howF]
  | rows =>
    simp only [D62, h0]
    simp [e1, e2, hG', hof, en, er, isRows, howF]
    by_cases hz : m = 0
    · subst hz; simp
    · have hp : powOk 1 ((m : Int) - 1) = true := by unfold powOk; apply decide_eq_true; refine ⟨by omega, by omega, by decide⟩
      have hz' : ¬ ((m : Int) = 0) := by omega
      have ht : ((m : Int) - 1).toNat = m - 1 := by omega
      simp [hz, hz', hp, ht]
  | all =>
    obtain ⟨b3, b4, b5, e⟩ := bell2 (n + 2) hm (s1 := .sh (kv .all))
    have hne : bellRow m ≠ [] := by intro h; have := bell_len m; rw [h] at this; simp at this
    have hx := ixV_zero hne
    have hsm : smallR 0 (m : Int) = true := by unfold smallR; apply decide_eq_true; omega
    simp only [D62, SB.at, SS.inner] at e
    simp only [D62, h0]
    simp [e1, e2, hG', hof, en, er, isRows, howF, hsm, lineN, -forGo_cons]
    simp only [e, seqF_nx, exs_cons, ex_ret]
    simp [hx]
end VM

set_option Elab.async false
set_option linter.all false
set_option maxRecDepth 100000
set_option maxHeartbeats 2000000
/-! LibC3: the law's counts. -/
namespace VM
open PySem
variable (n : Nat)
theorem ixV_getD {l : List Nat} {i : Nat} (h : i < l.length) : ixV (enc l) (.int (i : Int)) = .ok (.int (l.getD i 0 : Nat)) := by
  rw [ixV_enc h]
  simp [enc_nat, List.getD_eq_getElem?_getD, h]
theorem getD_le {l : List Nat} {B i : Nat} (h : ∀ x ∈ l, x ≤ B) : l.getD i 0 ≤ B := by
  rw [List.getD_eq_getElem?_getD]
  cases e : l[i]? with
  | none => exact Nat.zero_le _
  | some x => exact h x (List.mem_of_getElem? e)
def f6 (k : Kind) (F W : List Nat) (t i : Nat) : Nat := match k with
  | .rows => F.getD (t + 1 - (i + 1)) 0
  | .all => W.getD i 0 * F.getD (t + 1 - (i + 1)) 0
  | .nested => 0
theorem counts6 (k : Kind) {F W : List Nat} {t : Nat} (hF : F.length = t + 1) (hW : W.length = t + 1) (bF : ∀ x ∈ F, x ≤ bigN) (bW : ∀ x ∈ W, x ≤ bigN) {s1 a7 : Slot} (a6 : Slot) : ∃ b6,
    forGo (bindS (.nm 6)) (exs (Pr.tab n) (((D87.body.at 1).inner.at 1).inner)) (rngC 1 1 (t + 1)) [.sh (kv k), s1, .ow (F.map enc), .sh (enc W), .sh (.int ((t : Int) + 1)), .sh (.int 0), a6, a7, .no, .no] =
      .ok (.nx, [.sh (kv k), s1, .ow (F.map enc), .sh (enc W), .sh (.int ((t : Int) + 1)), .sh (.int (sumTo (f6 k F W t) (t + 1) : Nat)), b6, a7, .no, .no]) := by
  obtain ⟨ρ', h1, b6, rfl⟩ := forGo_map (bind := bindS (.nm 6)) (body := exs (Pr.tab n) (((D87.body.at 1).inner.at 1).inner)) (fun (i : Nat) => Val.int (1 + (i : Int) * 1))
    (fun pre ρ => ∃ a6, ρ = [.sh (kv k), s1, .ow (F.map enc), .sh (enc W), .sh (.int ((t : Int) + 1)), .sh (.int (sumTo (f6 k F W t) pre.length : Nat)), a6, a7, .no, .no]) (List.range (t + 1)) [] [.sh (kv k), s1, .ow (F.map enc), .sh (enc W), .sh (.int ((t : Int) + 1)), .sh (.int 0), a6, a7, .no, .no] ⟨a6, rfl⟩ (by
      rintro p i q ρ hp ⟨a6, rfl⟩
      rw [List.nil_append] at hp
      obtain ⟨hi, hpl⟩ := rng_at hp
      subst hi
      have hi6 : (1 + (p.length : Int) * 1) = (p.length : Int) + 1 := by omega
      rw [hi6]
      have ix1 : ((t : Int) + 1) - ((p.length : Int) + 1) = ((t + 1 - (p.length + 1) : Nat) : Int) := by omega
      have ix2 : ((p.length : Int) + 1) - 1 = ((p.length : Nat) : Int) := by omega
      have r1 := ixV_getD (l := F) (i := t + 1 - (p.length + 1)) (by omega)
      have r2 := ixV_getD (l := W) (i := p.length) (by omega)
      have m1 : mulOk ((W.getD p.length 0 : Nat) : Int) ((F.getD (t + 1 - (p.length + 1)) 0 : Nat) : Int) = true := mulOk_of (by
        have := lg_big (getD_le (i := p.length) bW)
        have := lg_big (getD_le (i := t + 1 - (p.length + 1)) bF)
        omega)
      refine ⟨[.sh (kv k), s1, .ow (F.map enc), .sh (enc W), .sh (.int ((t : Int) + 1)), .sh (.int (sumTo (f6 k F W t) (p ++ [p.length]).length : Nat)), .sh (.int ((p.length : Int) + 1)), a7, .no, .no], ?_, _, rfl⟩
      have hs : ((sumTo (f6 k F W t) (p ++ [p.length]).length : Nat) : Int) = ((sumTo (f6 k F W t) p.length : Nat) : Int) + ((f6 k F W t p.length : Nat) : Int) := by
        rw [List.length_append, List.length_singleton, sumTo]; omega
      rw [hs]
      have er := eq_rows k
      have ea := eq_all k
      have hv : (.lst (F.map enc) : Val) = enc F := rfl
      simp only [D87, SB.at, SS.inner]
      generalize sumTo (f6 k F W t) p.length = z at *
      clear hs
      simp only [f6]
      generalize t + 1 - (p.length + 1) = w at *
      cases k with
      | rows =>
        generalize F.getD w 0 = y at *
        simp [er, ea, isRows, isAll, hv, ix1, r1, kept]
      | all =>
        have hmul : ((W.getD p.length 0 * F.getD w 0 : Nat) : Int) = ((W.getD p.length 0 : Nat) : Int) * ((F.getD w 0 : Nat) : Int) := Int.natCast_mul _ _
        rw [hmul]
        generalize F.getD w 0 = y at *
        generalize W.getD p.length 0 = u at *
        simp [er, ea, isRows, isAll, hv, ix1, ix2, r1, r2, m1, kept]
      | nested =>
        simp [er, ea, isRows, isAll])
  rw [show rngC 1 1 (t + 1) = (List.range (t + 1)).map fun (i : Nat) => Val.int (1 + (i : Int) * 1) from rfl, h1]
  exact ⟨b6, by simp⟩
theorem counts7 {F : List Nat} {t : Nat} (hF : F.length = t + 1) (bF : ∀ x ∈ F, x ≤ bigN) {s0 s1 s3 a6 : Slot} (a7 : Slot) : ∃ b7,
    forGo (bindS (.nm 7)) (exs (Pr.tab n) (.cons (.asg [2] (.nm 5) (.op .add (.var 5) (.op .mul (.ix (.var 2) (.var 7)) (.ix (.var 2) (.op .sub (.op .sub (.var 4) (.cint 1)) (.var 7)))))) .nil)) (rngC 0 1 (t + 1)) [s0, s1, .ow (F.map enc), s3, .sh (.int ((t : Int) + 1)), .sh (.int 0), a6, a7, .no, .no] =
      .ok (.nx, [s0, s1, .ow (F.map enc), s3, .sh (.int ((t : Int) + 1)), .sh (.int (sumTo (fun i => F.getD i 0 * F.getD (t + 1 - 1 - i) 0) (t + 1) : Nat)), a6, b7, .no, .no]) := by
  obtain ⟨ρ', h1, b7, rfl⟩ := forGo_map (bind := bindS (.nm 7)) (body := exs (Pr.tab n) (.cons (.asg [2] (.nm 5) (.op .add (.var 5) (.op .mul (.ix (.var 2) (.var 7)) (.ix (.var 2) (.op .sub (.op .sub (.var 4) (.cint 1)) (.var 7)))))) .nil)) (fun (i : Nat) => Val.int (0 + (i : Int) * 1))
    (fun pre ρ => ∃ a7, ρ = [s0, s1, .ow (F.map enc), s3, .sh (.int ((t : Int) + 1)), .sh (.int (sumTo (fun i => F.getD i 0 * F.getD (t + 1 - 1 - i) 0) pre.length : Nat)), a6, a7, .no, .no]) (List.range (t + 1)) [] [s0, s1, .ow (F.map enc), s3, .sh (.int ((t : Int) + 1)), .sh (.int 0), a6, a7, .no, .no] ⟨a7, rfl⟩ (by
      rintro p i q ρ hp ⟨a7, rfl⟩
      rw [List.nil_append] at hp
      obtain ⟨hi, hpl⟩ := rng_at hp
      subst hi
      have hi6 : (0 + (p.length : Int) * 1) = ((p.length : Nat) : Int) := by omega
      rw [hi6]
      have ix1 : ((t : Int) + 1) - 1 - (p.length : Int) = ((t + 1 - 1 - p.length : Nat) : Int) := by omega
      have r1 := ixV_getD (l := F) (i := t + 1 - 1 - p.length) (by omega)
      have r2 := ixV_getD (l := F) (i := p.length) (by omega)
      have m1 : mulOk ((F.getD p.length 0 : Nat) : Int) ((F.getD (t + 1 - 1 - p.length) 0 : Nat) : Int) = true := mulOk_of (by
        have := lg_big (getD_le (i := p.length) bF)
        have := lg_big (getD_le (i := t + 1 - 1 - p.length) bF)
        omega)
      refine ⟨[s0, s1, .ow (F.map enc), s3, .sh (.int ((t : Int) + 1)), .sh (.int (sumTo (fun i => F.getD i 0 * F.getD (t + 1 - 1 - i) 0) (p ++ [p.length]).length : Nat)), a6, .sh (.int (p.length : Nat)), .no, .no], ?_, _, rfl⟩
      have hs : ((sumTo (fun i => F.getD i 0 * F.getD (t + 1 - 1 - i) 0) (p ++ [p.length]).length : Nat) : Int) = ((sumTo (fun i => F.getD i 0 * F.getD (t + 1 - 1 - i) 0) p.length : Nat) : Int) + ((F.getD p.length 0 : Nat) : Int) * ((F.getD (t + 1 - 1 - p.length) 0 : Nat) : Int) := by
        rw [List.length_append, List.length_singleton, sumTo, Int.natCast_add, Int.natCast_mul]
      rw [hs]
      have hv : (.lst (F.map enc) : Val) = enc F := rfl
      generalize sumTo (fun i => F.getD i 0 * F.getD (t + 1 - 1 - i) 0) p.length = z at *
      clear hs
      generalize t + 1 - 1 - p.length = w at *
      have ix1' : (t : Int) - (p.length : Int) = (w : Int) := by omega
      generalize F.getD w 0 = y at *
      generalize F.getD p.length 0 = u at *
      simp only [exs_cons, bindS_nm, okb, List.set_cons_succ, List.set_cons_zero, ex_asg, ev_op, ev_var, ev_ix, ev_int, visG_c, visG_nil, getE_succ, getE_zero]
      simp [hv, ix1, ix1', r1, r2, m1, kept])
  rw [show rngC 0 1 (t + 1) = (List.range (t + 1)).map fun (i : Nat) => Val.int (0 + (i : Int) * 1) from rfl, h1]
  exact ⟨b7, by simp⟩
theorem zipA_eq : ∀ a b : List Nat, zipA a b = (a.zip b).map fun p => p.1 + p.2
  | [], b => by simp [zipA]
  | x :: a, [] => by simp [zipA]
  | x :: a, y :: b => by simp [zipA, zipA_eq a b]
theorem counts_ways {T : Tab} {W : List Nat} (hW : W.length ≤ 1000) {v0 v1 v2 v4 v5 v6 v7 : Option Val} : ev T (.op .add (.op .add (.lst (.cons (.cint 1) .nil)) (.comp [8, 9] (.tp (.cons (.nm 8) (.cons (.nm 9) .nil))) (.zip (.var 3) (.sl (.var 3) (.some (.cint 1)) .none)) .none (.op .add (.var 8) (.var 9)))) (.lst (.cons (.cint 1) .nil))) [v0, v1, v2, some (enc W), v4, v5, v6, v7, none, none] = .ok (enc (1 :: (zipA W W.tail ++ [1]))) := by
  have s1 : slV (enc W) (some 1) none = .ok (enc W.tail) := by have := slV_enc_from (l := W) (i := 1); rw [List.drop_one] at this; exact this
  have h := comp_all (T := T) (e := [v0, v1, v2, some (enc W), v4, v5, v6, v7, none, none]) (own := [8, 9]) (tg := .tp (.cons (.nm 8) (.cons (.nm 9) .nil))) (it := .zip (.var 3) (.sl (.var 3) (.some (.cint 1)) .none)) (el := .op .add (.var 8) (.var 9)) (l := W.zip W.tail) (g := fun p => .tup [enc p.1, enc p.2]) (f := fun p => enc (p.1 + p.2)) (by
      rw [← zipV_map]
      simp [s1, -List.map_tail]) (by rw [List.length_zip]; unfold lineN; omega) (fun p hp => ⟨[v0, v1, v2, some (enc W), v4, v5, v6, v7, some (enc p.1), some (enc p.2)], by simp, by
      simp [enc_nat]⟩)
  have hl : Val.lst ((W.zip W.tail).map fun p => enc (p.1 + p.2)) = enc (zipA W W.tail) := by rw [zipA_eq, enc_lst, List.map_map]; rfl
  have hlen : (zipA W W.tail).length ≤ 1000 := by rw [zipA_eq, List.length_map, List.length_zip]; omega
  have a1 : op2 .add (.lst [.int 1]) (enc (zipA W W.tail)) = .ok (enc (1 :: zipA W W.tail)) := add_enc (a := [1]) (by simp [lineN]; omega)
  have a2 : op2 .add (enc (1 :: zipA W W.tail)) (.lst [.int 1]) = .ok (enc (1 :: (zipA W W.tail ++ [1]))) := add_enc (a := 1 :: zipA W W.tail) (b := [1]) (by simp [lineN]; omega)
  rw [hl] at h
  simp only [ev_op, ev_lst, evs_cons, evs_nil, ev_int, okb, List.length_cons, List.length_nil, lineN, show 0 + 1 ≤ 16777216 from by decide, if_true, h, a1, a2]
def pick7 (k : Kind) (b a : Slot) : Slot := match k with
  | .nested => b
  | _ => a
theorem counts_t3 (k : Kind) {F : List Nat} {t S6 S7 G : Nat} (ht : t ≤ 200) {s1 s3 b6 a7 b7 : Slot} (h1 : k = .nested ∨ S6 = G) (h2 : k = .nested → S6 = 0) (h3 : k = .nested → S7 = G)
    (e7 : forGo (bindS (.nm 7)) (exs (Pr.tab n) (.cons (.asg [2] (.nm 5) (.op .add (.var 5) (.op .mul (.ix (.var 2) (.var 7)) (.ix (.var 2) (.op .sub (.op .sub (.var 4) (.cint 1)) (.var 7)))))) .nil)) (rngC 0 1 (t + 1)) [.sh (kv k), s1, .ow (F.map enc), s3, .sh (.int ((t : Int) + 1)), .sh (.int 0), b6, a7, .no, .no] =
      .ok (.nx, [.sh (kv k), s1, .ow (F.map enc), s3, .sh (.int ((t : Int) + 1)), .sh (.int (S7 : Nat)), b6, b7, .no, .no])) :
    ex (Pr.tab n) (.iff [] (.op .eq (.var 0) (.cstr "nested")) (.cons (.loop [] (.nm 7) (.rng1 (.var 4)) (.cons (.asg [2] (.nm 5) (.op .add (.var 5) (.op .mul (.ix (.var 2) (.var 7)) (.ix (.var 2) (.op .sub (.op .sub (.var 4) (.cint 1)) (.var 7)))))) .nil)) .nil) .nil) [.sh (kv k), s1, .ow (F.map enc), s3, .sh (.int ((t : Int) + 1)), .sh (.int (S6 : Nat)), b6, a7, .no, .no] = .ok (.nx, [.sh (kv k), s1, .ow (F.map enc), s3, .sh (.int ((t : Int) + 1)), .sh (.int (G : Nat)), b6, (pick7 k b7 a7), .no, .no]) := by
  have en := eq_nested k
  have hsm2 : smallR 0 ((t : Int) + 1) = true := by unfold smallR; apply decide_eq_true; omega
  have htn2 : ((t : Int) + 1).toNat = t + 1 := by omega
  generalize F.map enc = FF at *
  cases k with
  | rows =>
    rcases h1 with h | h
    · cases h
    · subst h; simp [en, pick7]
  | all =>
    rcases h1 with h | h
    · cases h
    · subst h; simp [en, pick7]
  | nested =>
    have h6 := h2 rfl
    have h7 := h3 rfl
    subst h6
    subst h7
    rw [ex_iff]
    simp only [ev_op, ev_var, ev_str, visG_c, isOwn_sh, val_sh, Bool.false_and, Bool.false_eq_true, if_false, getE_zero, okb, en, tru_bl, if_true, exs_cons, ex_loop, evI_rng1, getE_succ, asInt_int, isOwn_ow, List.contains_nil, Bool.not_false, Bool.and_self, hsm2, htn2, kept_nil, Int.natCast_zero, Int.cast_ofNat_Int, e7, seqF_nx, exs_nil, pick7]
theorem counts_go (k : Kind) {m : Nat} (hm : m ≤ 200) : ∃ b4 b5 b6 b7,
    forGo (bindS (.nm 4)) (exs (Pr.tab n) ((D87.body.at 1).inner)) (rngC 1 1 m) [.sh (kv k), .sh (.int m), .ow [.int 1], .sh (.lst [.int 1]), .no, .no, .no, .no, .no, .no] =
      .ok (.nx, [.sh (kv k), .sh (.int m), .ow ((foundF k m).map enc), .sh (enc (waysF m)), b4, b5, b6, b7, .no, .no]) := by
  obtain ⟨ρ', h1, b4, b5, b6, b7, rfl⟩ := forGo_map (bind := bindS (.nm 4)) (body := exs (Pr.tab n) ((D87.body.at 1).inner)) (fun (i : Nat) => Val.int (1 + (i : Int) * 1))
    (fun pre ρ => ∃ a4 a5 a6 a7, ρ = [.sh (kv k), .sh (.int m), .ow ((foundF k pre.length).map enc), .sh (enc (waysF pre.length)), a4, a5, a6, a7, .no, .no]) (List.range m) [] [.sh (kv k), .sh (.int m), .ow [.int 1], .sh (.lst [.int 1]), .no, .no, .no, .no, .no, .no] ⟨.no, .no, .no, .no, rfl⟩ (by
      rintro p i q ρ hp ⟨a4, a5, a6, a7, rfl⟩
      rw [List.nil_append] at hp
      obtain ⟨hi, hpl⟩ := rng_at hp
      subst hi
      have hT := told k (t := p.length) (by omega)
      have hi6 : (1 + (p.length : Int) * 1) = (p.length : Int) + 1 := by omega
      rw [hi6]
      have bW : ∀ x ∈ waysF p.length, x ≤ bigN := fun x hx => Nat.le_trans (ways_big _ x hx) (Nat.pow_le_pow_right (by decide) (by omega))
      have hWl := ways_len p.length
      obtain ⟨b6, e6⟩ := counts6 n k hT.len hWl hT.big bW (s1 := .sh (.int m)) (a7 := a7) a6
      obtain ⟨b7, e7⟩ := counts7 n hT.len hT.big (s0 := .sh (kv k)) (s1 := .sh (.int m)) (s3 := .sh (enc (waysF p.length))) (a6 := b6) a7
      have en := eq_nested k
      have hgain : ∀ g : Nat, g = gainF k (foundF k p.length) (waysF p.length) (p.length + 1) → foundF k (p.length + 1) = foundF k p.length ++ [g] := fun g hg => by rw [hg]; rfl
      have hways : waysF (p.length + 1) = 1 :: (zipA (waysF p.length) (waysF p.length).tail ++ [1]) := rfl
      have hlt : ((foundF k p.length).map (enc : Nat → Val)).length < 16777216 := by rw [List.length_map, hT.len]; omega
      have hsm : smallR 1 ((p.length : Int) + 1 + 1) = true := by unfold smallR; apply decide_eq_true; omega
      have hsm2 : smallR 0 ((p.length : Int) + 1) = true := by unfold smallR; apply decide_eq_true; omega
      have htn : ((p.length : Int) + 1 + 1 - 1).toNat = p.length + 1 := by omega
      have htn2 : ((p.length : Int) + 1).toNat = p.length + 1 := by omega
      have cw := fun v0 v1 v2 v4 v5 v6 v7 => counts_ways (T := Pr.tab n) (W := waysF p.length) (by omega) (v0 := v0) (v1 := v1) (v2 := v2) (v4 := v4) (v5 := v5) (v6 := v6) (v7 := v7)
      have hg6 : k = .nested ∨ sumTo (f6 k (foundF k p.length) (waysF p.length) p.length) (p.length + 1) = gainF k (foundF k p.length) (waysF p.length) (p.length + 1) := by
        cases k
        · exact .inr rfl
        · exact .inl rfl
        · exact .inr rfl
      have hz6 : k = .nested → sumTo (f6 k (foundF k p.length) (waysF p.length) p.length) (p.length + 1) = 0 := by
        rintro rfl
        have : ∀ j, sumTo (f6 .nested (foundF .nested p.length) (waysF p.length) p.length) j = 0 := by
          intro j
          induction j with
          | zero => rfl
          | succ j ih => rw [sumTo, ih]; rfl
        exact this _
      have hg7 : k = .nested → sumTo (fun i => (foundF k p.length).getD i 0 * (foundF k p.length).getD (p.length + 1 - 1 - i) 0) (p.length + 1) = gainF k (foundF k p.length) (waysF p.length) (p.length + 1) := by rintro rfl; rfl
      have hl : (p ++ [p.length]).length = p.length + 1 := by simp
      simp only [D87, SB.at, SS.inner] at e6 e7 ⊢
      generalize hS6 : sumTo (f6 k (foundF k p.length) (waysF p.length) p.length) (p.length + 1) = S6 at *
      generalize hS7 : sumTo (fun i => (foundF k p.length).getD i 0 * (foundF k p.length).getD (p.length + 1 - 1 - i) 0) (p.length + 1) = S7 at *
      generalize hG : gainF k (foundF k p.length) (waysF p.length) (p.length + 1) = G at *
      have hfound := hgain G rfl
      refine ⟨[.sh (kv k), .sh (.int m), .ow ((foundF k (p ++ [p.length]).length).map enc), .sh (enc (waysF (p ++ [p.length]).length)), .sh (.int ((p.length : Int) + 1)), .sh (.int G), b6, (pick7 k b7 a7), .no, .no], ?_, _, _, _, _, rfl⟩
      rw [hl, hfound, hways]
      simp only [bindS_nm, okb, List.set_cons_succ, List.set_cons_zero]
      have t1 : ex (Pr.tab n) (.asg [] (.nm 5) (.cint 0)) [.sh (kv k), .sh (.int m), .ow ((foundF k p.length).map enc), .sh (enc (waysF p.length)), .sh (.int ((p.length : Int) + 1)), a5, a6, a7, .no, .no] = .ok (.nx, [.sh (kv k), .sh (.int m), .ow ((foundF k p.length).map enc), .sh (enc (waysF p.length)), .sh (.int ((p.length : Int) + 1)), .sh (.int 0), a6, a7, .no, .no]) := by simp
      have t2 := @ex_loop (Pr.tab n) [.sh (kv k), .sh (.int m), .ow ((foundF k p.length).map enc), .sh (enc (waysF p.length)), .sh (.int ((p.length : Int) + 1)), .sh (.int 0), a6, a7, .no, .no] [] (.nm 6) (.rng2 (.cint 1) (.op .add (.var 4) (.cint 1)))
      simp only [evI_rng2, ev_int, ev_op, ev_var, visG_c, visG_nil, isOwn_sh, val_sh, isOwn_ow, List.contains_nil, Bool.not_false, Bool.and_self, if_true, Bool.false_and, Bool.false_eq_true, if_false, getE_succ, getE_zero, okb, op_add_i, asInt_int, hsm, htn, kept_nil] at t2
      rw [exs_cons, t1, seqF_nx, exs_cons, t2, e6, seqF_nx]
      have t4 : ∀ c7 : Slot, ex (Pr.tab n) (.app [] 2 (.var 5)) [.sh (kv k), .sh (.int m), .ow ((foundF k p.length).map enc), .sh (enc (waysF p.length)), .sh (.int ((p.length : Int) + 1)), .sh (.int (G : Nat)), b6, c7, .no, .no] = .ok (.nx, [.sh (kv k), .sh (.int m), .ow ((foundF k p.length ++ [G]).map enc), .sh (enc (waysF p.length)), .sh (.int ((p.length : Int) + 1)), .sh (.int (G : Nat)), b6, c7, .no, .no]) := fun c7 => by
        rw [ex_app (v := .int (G : Nat)) (vs := (foundF k p.length).map enc) (by simp) rfl rfl hlt]
        simp [enc_nat]
      have t5 : ∀ (FF : List Val) (c7 : Slot), ex (Pr.tab n) (.asg [] (.nm 3) (.op .add (.op .add (.lst (.cons (.cint 1) .nil)) (.comp [8, 9] (.tp (.cons (.nm 8) (.cons (.nm 9) .nil))) (.zip (.var 3) (.sl (.var 3) (.some (.cint 1)) .none)) .none (.op .add (.var 8) (.var 9)))) (.lst (.cons (.cint 1) .nil)))) [.sh (kv k), .sh (.int m), .ow FF, .sh (enc (waysF p.length)), .sh (.int ((p.length : Int) + 1)), .sh (.int (G : Nat)), b6, c7, .no, .no] = .ok (.nx, [.sh (kv k), .sh (.int m), .ow FF, .sh (enc (1 :: (zipA (waysF p.length) (waysF p.length).tail ++ [1]))), .sh (.int ((p.length : Int) + 1)), .sh (.int (G : Nat)), b6, c7, .no, .no]) := fun FF c7 => by
        simp only [ex_asg, visG_c, visG_nil, isOwn_sh, val_sh, isOwn_ow, isOwn_no, val_no, List.contains_nil, Bool.not_false, Bool.and_self, Bool.and_true, if_true, Bool.false_and, Bool.false_eq_true, if_false, cw, okb, kept_nil, bindS_nm, List.set_cons_succ, List.set_cons_zero]
      have t3 := counts_t3 n k (t := p.length) (by omega) hg6 hz6 hg7 e7
      rw [exs_cons, t3, seqF_nx, exs_cons, t4, seqF_nx, exs_cons, t5, seqF_nx, exs_nil])
  rw [show rngC 1 1 m = (List.range m).map fun (i : Nat) => Val.int (1 + (i : Int) * 1) from rfl, h1]
  exact ⟨b4, b5, b6, b7, by simp⟩
theorem c_lawcounts (k : Kind) {m : Nat} (hm : m ≤ 200) : callP Pr (n + 1) 87 [kv k, .int m] = .ok (enc (foundF k m)) := by
  rw [call_eq (d := D87) rfl rfl]
  obtain ⟨b4, b5, b6, b7, e⟩ := counts_go n k hm
  have h0 : [kv k, Val.int (m : Int)].map Slot.sh ++ List.replicate (10 - 2) Slot.no = [.sh (kv k), .sh (.int m), .no, .no, .no, .no, .no, .no, .no, .no] := rfl
  have hsm : smallR 1 ((m : Int) + 1) = true := by unfold smallR; apply decide_eq_true; omega
  have htn : ((m : Int) + 1 - 1).toNat = m := by omega
  have hfl : flats [Val.int 1] = true := rfl
  simp only [D87, SB.at, SS.inner] at e
  simp only [D87, h0]
  simp only [exs_cons, ex_parO, ev_lst, evs_cons, evs_nil, ev_int, okb, List.length_cons, List.length_nil, lineN, show 0 + 1 ≤ 16777216 from by decide, if_true, asLst_l, show (2 : Nat) < 0 + 1 + 1 + 1 + 1 + 1 + 1 + 1 + 1 + 1 + 1 from by decide, kept_nil, List.set_cons_succ, List.set_cons_zero, seqF_nx, ex_loop, evI_rng2, ev_op, ev_var, visG_c, visG_nil, isOwn_sh, val_sh, Bool.false_and, Bool.false_eq_true, if_false, getE_succ, getE_zero, op_add_i, asInt_int, hsm, htn, e]
  simp [enc_lst]
theorem due_at (k : Kind) {m i : Nat} (hm : m ≤ 200) (hi : i ≤ m) : ixV (enc (foundF k m)) (.int (i : Int)) = .ok (.int (howF k i : Nat)) := by
  have hT := told k hm
  rw [ixV_getD (by rw [hT.len]; omega), hT.eq]
  simp [List.getD_eq_getElem?_getD, List.getElem?_range, show i < m + 1 by omega]
end VM

set_option Elab.async false
set_option linter.all false
set_option maxRecDepth 100000
set_option maxHeartbeats 2000000
/-! LibB1: between. -/
namespace VM
open PySem
variable (n : Nat) {D : Nat} [hD : Dk D]
/-- sums of another kind with the same means -/
def betw (k o : Kind) (l : List Rat) : List Rat := sumsT o (meansT k l l.length) l.length
theorem betw_len (k o : Kind) (l : List Rat) : (betw k o l).length = l.length := sumsT_len _ _ _
theorem betw_dl (k o : Kind) {l : List Rat} {c : Nat} (hr : Dl D c 0 (1 :: l)) (h10 : l.length ≤ 10) : Dl D (c + 120000) 0 (1 :: betw k o l) := by
  have h1 := means_dl k hr h10 l.length (Nat.le_refl _)
  have hl : (meansT k l l.length).length = l.length := meansT_len _ _ _
  have h2 := sums_dl o h1 (by omega) l.length (by omega)
  have e : c + 20000 + 100000 = c + 120000 := by omega
  rw [e] at h2
  exact h2
theorem means_betw (k o : Kind) {l : List Rat} (h10 : l.length ≤ 10) : meansT o (betw k o l) l.length = meansT k l l.length := by
  have hl : (meansT k l l.length).length = l.length := meansT_len _ _ _
  have := undo_sm o (meansT k l l.length) l.length (by omega) h10
  rw [List.take_of_length_le (by omega)] at this
  exact this
theorem betw_same (k : Kind) {l : List Rat} (h10 : l.length ≤ 10) : betw k k l = l := by
  have := undo_ms k l l.length (Nat.le_refl _) h10
  rw [List.take_length] at this
  exact this
theorem betw_betw (k o p : Kind) {l : List Rat} (h10 : l.length ≤ 10) : betw o p (betw k o l) = betw k p l := by
  unfold betw
  rw [sumsT_len]
  have := means_betw k o h10
  unfold betw at this
  rw [this]
theorem betw_back (k o : Kind) {l : List Rat} (h10 : l.length ≤ 10) : betw o k (betw k o l) = l := by rw [betw_betw k o k h10, betw_same k h10]
theorem betw_take (k o : Kind) (l : List Rat) {h : Nat} (hh : h ≤ l.length) : betw k o (l.take h) = (betw k o l).take h := by
  have hl : (meansT k l l.length).length = l.length := meansT_len _ _ _
  have e1 := means_beg k l hh
  have e2 := sums_beg o (meansT k l l.length) (h := h) (by omega)
  have e3 : (l.take h).length = h := by rw [List.length_take]; omega
  have e4 : ((meansT k l l.length).take h).length = h := by rw [List.length_take]; omega
  unfold betw
  rw [e3] at e1 ⊢
  rw [e1]
  rw [e4, hl] at e2
  exact e2
theorem c_between (k o : Kind) {l : List Rat} {c : Nat} (hr : Dl D c 0 (1 :: l)) (h10 : l.length ≤ 10) (hA : c ≤ 2000000) :
    callP Pr (n + 7) 67 [svs l, kv k, kv o] = .ok (svs (betw k o l)) := by
  rw [call_eq (d := D67) rfl rfl]
  have e1 : callP Pr (n + 6) 52 [svs l] = .ok .non := c_checkmeans (n + 3) h10
  have e2 : callP Pr (n + 6) 53 [kv k] = .ok .non := c_checkkind (n + 5) k
  have e2' : callP Pr (n + 6) 53 [kv o] = .ok .non := c_checkkind (n + 5) o
  have e3 := c_means n k hr h10 (by omega)
  have hl : (meansT k l l.length).length = l.length := meansT_len _ _ _
  have h1 := means_dl k hr h10 l.length (Nat.le_refl _)
  have e4 := c_sums n o h1 (by omega) (by omega)
  rw [hl] at e4
  have e5 : svs (sumsT o (meansT k l l.length) l.length) = svs (betw k o l) := rfl
  rw [e5] at e4
  simp [D67, ex, e1, e2, e2', e3, e4]
/-- what the law adds up: products over the nested groupings whose first group has the last thing -/
def prodG (l : List Rat) : Grp → Rat → Rat
  | [], p => p
  | g :: r, p => prodG l r (p * l.getD (g.length - 1) 0)
def dueG (l : List Rat) (size : Nat) : List Grp → Rat → Rat
  | [], a => a
  | g :: r, a => dueG l size r (if (g.headD []).contains (size - 1) then a + prodG l g 1 else a)
def dueR (l : List Rat) (size : Nat) : Rat := dueG l size (lawGs .nested size) 0
theorem gs1 : lawGs .nested 1 = [[[0]]] := by decide +kernel
theorem due1 (a : Rat) : (betw .nested .rows [a]).getD 0 0 = dueR [a] 1 := by
  unfold dueR
  rw [gs1]
  simp [betw, sumsT, meansT, subS, addS, weightF, powT, convS, dueG, prodG, List.range_succ]
  grind
end VM

set_option Elab.async false
set_option linter.all false
set_option maxRecDepth 100000
set_option maxHeartbeats 8000000
/-! LibB2: between by groupings; sizes to 5. -/
namespace VM
open PySem
theorem gs2 : lawGs .nested 2 = [[[0, 1]], [[0], [1]]] := by decide +kernel
theorem due2 (a b : Rat) : (betw .nested .rows [a, b]).getD 1 0 = dueR [a, b] 2 := by
  unfold dueR
  rw [gs2]
  simp [betw, sumsT, meansT, subS, addS, weightF, powT, convS, dueG, prodG, List.range_succ]
  grind
theorem gs3 : lawGs .nested 3 = [[[0, 1, 2]], [[0, 1], [2]], [[0, 2], [1]], [[0], [1, 2]], [[0], [1], [2]]] := by decide +kernel
theorem due3 (a b c : Rat) : (betw .nested .rows [a, b, c]).getD 2 0 = dueR [a, b, c] 3 := by
  unfold dueR
  rw [gs3]
  simp [betw, sumsT, meansT, subS, addS, weightF, powT, convS, dueG, prodG, List.range_succ]
  grind
theorem gs4 : lawGs .nested 4 = [[[0, 1, 2, 3]], [[0, 1, 2], [3]], [[0, 1, 3], [2]], [[0, 1], [2, 3]], [[0, 1], [2], [3]], [[0, 2, 3], [1]], [[0, 2], [1], [3]], [[0, 3], [1, 2]], [[0], [1, 2, 3]], [[0], [1, 2], [3]], [[0, 3], [1], [2]], [[0], [1, 3], [2]], [[0], [1], [2, 3]], [[0], [1], [2], [3]]] := by decide +kernel
theorem due4 (a b c d : Rat) : (betw .nested .rows [a, b, c, d]).getD 3 0 = dueR [a, b, c, d] 4 := by
  unfold dueR
  rw [gs4]
  simp [betw, sumsT, meansT, subS, addS, weightF, powT, convS, dueG, prodG, List.range_succ]
  grind
theorem gs5 : lawGs .nested 5 = [[[0, 1, 2, 3, 4]], [[0, 1, 2, 3], [4]], [[0, 1, 2, 4], [3]], [[0, 1, 2], [3, 4]], [[0, 1, 2], [3], [4]], [[0, 1, 3, 4], [2]], [[0, 1, 3], [2], [4]], [[0, 1, 4], [2, 3]], [[0, 1], [2, 3, 4]], [[0, 1], [2, 3], [4]], [[0, 1, 4], [2], [3]], [[0, 1], [2, 4], [3]], [[0, 1], [2], [3, 4]], [[0, 1], [2], [3], [4]], [[0, 2, 3, 4], [1]], [[0, 2, 3], [1], [4]], [[0, 2, 4], [1], [3]], [[0, 2], [1], [3, 4]], [[0, 2], [1], [3], [4]], [[0, 3, 4], [1, 2]], [[0, 3], [1, 2], [4]], [[0, 4], [1, 2, 3]], [[0], [1, 2, 3, 4]], [[0], [1, 2, 3], [4]], [[0, 4], [1, 2], [3]], [[0], [1, 2, 4], [3]], [[0], [1, 2], [3, 4]], [[0], [1, 2], [3], [4]], [[0, 3, 4], [1], [2]], [[0, 3], [1], [2], [4]], [[0, 4], [1, 3], [2]], [[0], [1, 3, 4], [2]], [[0], [1, 3], [2], [4]], [[0, 4], [1], [2, 3]], [[0], [1, 4], [2, 3]], [[0], [1], [2, 3, 4]], [[0], [1], [2, 3], [4]], [[0, 4], [1], [2], [3]], [[0], [1, 4], [2], [3]], [[0], [1], [2, 4], [3]], [[0], [1], [2], [3, 4]], [[0], [1], [2], [3], [4]]] := by decide +kernel
theorem due5 (a b c d e : Rat) : (betw .nested .rows [a, b, c, d, e]).getD 4 0 = dueR [a, b, c, d, e] 5 := by
  unfold dueR
  rw [gs5]
  simp [betw, sumsT, meansT, subS, addS, weightF, powT, convS, dueG, prodG, List.range_succ]
  grind
end VM

set_option Elab.async false
set_option linter.all false
set_option maxRecDepth 100000
set_option maxHeartbeats 2000000
/-! LibB3: the law's sums over nested groupings. -/
namespace VM
open PySem
variable (n : Nat)
theorem svs_ixN {l : List Rat} {i : Nat} (h : i < l.length) : ixV (svs l) (.int (i : Int)) = .ok (sv (l.getD i 0)) := by
  have := svs_ix (l := l) (i := (i : Int)) (by omega) (by omega)
  rw [Int.toNat_natCast] at this
  exact this
theorem c_lawby {a b c d : Nat} {p q : Rat} (h : Sz a b p) (g : Sz c d q) (h1 : a + c < 100000000 := by omega) (h3 : b + d + 1 < 9000 := by omega) : callP Pr (n + 2) 43 [sv p, sv q] = .ok (sv (p * q)) := by
  have m1 : mulOk p.num q.num = true := mulOk_of (by have := h.1; have := g.1; omega)
  have m3 : mulOk (p.den : Int) q.den = true := mulOk_of (by have := h.2; have := g.2; omega)
  have l1 : lg ((p.den : Int) * q.den) < 9000 := by have := lg_mul (p.den : Int) q.den; have := h.2; have := g.2; omega
  rw [call_eq (d := D43) rfl rfl]
  simp [D43, sv, m1, m3]
  rw [c_llow n (den_mul_ne p q) l1, ← mul_divInt]; rfl
theorem c_lawadd {a b c d : Nat} {p q : Rat} (h : Sz a b p) (g : Sz c d q) (h1 : a + d < 100000000 := by omega) (h2 : c + b < 100000000 := by omega) (h3 : b + d + 1 < 9000 := by omega) : callP Pr (n + 2) 69 [sv p, sv q] = .ok (sv (p + q)) := by
  have m1 : mulOk p.num q.den = true := mulOk_of (by have := h.1; have := g.2; omega)
  have m2 : mulOk q.num p.den = true := mulOk_of (by have := g.1; have := h.2; omega)
  have m3 : mulOk (p.den : Int) q.den = true := mulOk_of (by have := h.2; have := g.2; omega)
  have l1 : lg ((p.den : Int) * q.den) < 9000 := by have := lg_mul (p.den : Int) q.den; have := h.2; have := g.2; omega
  rw [call_eq (d := D69) rfl rfl]
  simp [D69, sv, m1, m2, m3]
  rw [c_llow n (den_mul_ne p q) l1, ← add_divInt]; rfl
def gsOk (size : Nat) : Bool := (lawGs .nested size).all (fun g => !g.isEmpty && decide (g.length ≤ 5) && g.all fun x => decide (1 ≤ x.length) && decide (x.length ≤ size)) && decide ((lawGs .nested size).length ≤ 42)
theorem gs_ok : ∀ size, size < 6 → 1 ≤ size → gsOk size = true := by
  intro m hm h1
  have : m = 1 ∨ m = 2 ∨ m = 3 ∨ m = 4 ∨ m = 5 := by omega
  rcases this with rfl | rfl | rfl | rfl | rfl <;> decide +kernel
theorem gs_all {size : Nat} (h5 : size ≤ 5) (h1 : 1 ≤ size) : (∀ g ∈ lawGs .nested size, g ≠ [] ∧ g.length ≤ 5 ∧ ∀ x ∈ g, 1 ≤ x.length ∧ x.length ≤ size) ∧ (lawGs .nested size).length ≤ 42 := by
  have h := gs_ok size (by omega) h1
  simp only [gsOk, Bool.and_eq_true, decide_eq_true_eq] at h
  refine ⟨fun g hg => ?_, h.2⟩
  have := List.all_eq_true.mp h.1 g hg
  simp only [Bool.and_eq_true, decide_eq_true_eq, List.all_eq_true, Bool.not_eq_true', List.isEmpty_eq_false_iff] at this
  exact ⟨this.1.1, this.1.2, this.2⟩
theorem prod_snoc (l : List Rat) : ∀ (g : Grp) (x : List Nat) (p : Rat), prodG l (g ++ [x]) p = prodG l g p * l.getD (x.length - 1) 0
  | [], x, p => rfl
  | y :: g, x, p => prod_snoc l g x _
theorem prod_dz {l : List Rat} (hl : ∀ i, i < l.length → Dz 60 1 134 (l.getD i 0)) : ∀ (g : Grp) (p : Rat) (m : Nat), g.length + m ≤ 5 → (∀ x ∈ g, 1 ≤ x.length ∧ x.length ≤ l.length) → Dz 60 m (135 * m) p → Dz 60 (m + g.length) (135 * (m + g.length)) (prodG l g p)
  | [], p, m, _, _, h => h
  | x :: g, p, m, hm, hx, h => by
    have hxx := hx x (List.mem_cons_self ..)
    have h1 := h.mul (hl (x.length - 1) (by omega)) (by simp at hm; omega) (by decide)
    have h2 := prod_dz hl g (p * l.getD (x.length - 1) 0) (m + 1) (by simp at hm; omega) (fun y hy => hx y (List.mem_cons_of_mem _ hy)) (h1.mono (by omega))
    rw [List.length_cons, show m + (g.length + 1) = m + 1 + g.length by omega]
    exact h2
theorem prod5 {l : List Rat} (hl : ∀ i, i < l.length → Dz 60 1 134 (l.getD i 0)) {g : Grp} (hg : g.length ≤ 5) (hx : ∀ x ∈ g, 1 ≤ x.length ∧ x.length ≤ l.length) : Dz 60 5 1000 (prodG l g 1) := by
  have h := prod_dz hl g 1 0 (by omega) hx (dz1 60 0 _)
  rw [Nat.zero_add] at h
  exact ⟨Nat.dvd_trans h.1 (Nat.pow_dvd_pow 60 hg), Nat.le_trans h.2 (by omega)⟩
theorem gain_walk {l : List Rat} (hl : ∀ i, i < l.length → Dz 60 1 134 (l.getD i 0)) {g : Grp} (hg : g.length ≤ 5) (hx : ∀ x ∈ g, 1 ≤ x.length ∧ x.length ≤ l.length) {s0 s1 s2 s4 s5 s6 s7 s8 s9 s10 s11 : Slot} (a13 : Slot) : ∃ b13,
    forGo (bindS (.nm 13)) (exs (Pr.tab (n + 2)) (.cons (.asg [] (.nm 12) (.call 43 (.cons (.var 12) (.cons (.ix (.var 3) (.op .sub (.bi .len (.cons (.var 13) .nil)) (.cint 1))) .nil)))) .nil)) (g.map enc) [s0, s1, s2, .sh (svs l), s4, s5, s6, s7, s8, s9, s10, s11, .sh (sv 1), a13] =
      .ok (.nx, [s0, s1, s2, .sh (svs l), s4, s5, s6, s7, s8, s9, s10, s11, .sh (sv (prodG l g 1)), b13]) := by
  obtain ⟨ρ', h1, b13, rfl⟩ := forGo_map (bind := bindS (.nm 13)) (body := exs (Pr.tab (n + 2)) (.cons (.asg [] (.nm 12) (.call 43 (.cons (.var 12) (.cons (.ix (.var 3) (.op .sub (.bi .len (.cons (.var 13) .nil)) (.cint 1))) .nil)))) .nil)) (fun x : List Nat => enc x)
    (fun pre ρ => ∃ a13, ρ = [s0, s1, s2, .sh (svs l), s4, s5, s6, s7, s8, s9, s10, s11, .sh (sv (prodG l pre 1)), a13]) g [] [s0, s1, s2, .sh (svs l), s4, s5, s6, s7, s8, s9, s10, s11, .sh (sv 1), a13] ⟨a13, rfl⟩ (by
      rintro p x q ρ hp ⟨a13, rfl⟩
      rw [List.nil_append] at hp
      have hxm : x ∈ g := by rw [hp]; simp
      have hxx := hx x hxm
      have hpl : p.length ≤ 5 := by have := congrArg List.length hp; simp at this; omega
      have d1 := prod5 hl (g := p) hpl (fun y hy => hx y (by rw [hp]; simp [hy]))
      have d2 := hl (x.length - 1) (by omega)
      have c1 := c_lawby n (d1.sz (by decide)) (d2.sz (by decide))
      have ix := svs_ixN (l := l) (i := x.length - 1) (by omega)
      have hsub : ((x.length : Nat) : Int) - 1 = ((x.length - 1 : Nat) : Int) := by omega
      have hlen := len_enc x
      refine ⟨[s0, s1, s2, .sh (svs l), s4, s5, s6, s7, s8, s9, s10, s11, .sh (sv (prodG l (p ++ [x]) 1)), .sh (enc x)], ?_, _, rfl⟩
      rw [prod_snoc]
      generalize prodG l p 1 = P at *
      generalize l.getD (x.length - 1) 0 = Q at *
      generalize x.length - 1 = w at *
      simp only [bindS_nm, okb, List.set_cons_succ, List.set_cons_zero, exs_cons, ex_asg, ev_call, evs_cons, evs_nil, ev_var, ev_ix, ev_op, ev_bi, ev_int, visG_c, visG_nil, isOwn_sh, val_sh, Bool.false_and, Bool.false_eq_true, if_false, getE_succ, getE_zero, hlen, op_sub_i, hsub, ix, c1, kept_nil, seqF_nx, exs_nil])
  exact ⟨b13, h1⟩
theorem due_snoc (l : List Rat) (size : Nat) : ∀ (gs : List Grp) (g : Grp) (a : Rat), dueG l size (gs ++ [g]) a = if (g.headD []).contains (size - 1) then dueG l size gs a + prodG l g 1 else dueG l size gs a
  | [], g, a => rfl
  | h :: gs, g, a => due_snoc l size gs g _
theorem due_dz {l : List Rat} (hl : ∀ i, i < l.length → Dz 60 1 134 (l.getD i 0)) (size : Nat) : ∀ (gs : List Grp) (a : Rat) (m : Nat), (∀ g ∈ gs, g.length ≤ 5 ∧ ∀ x ∈ g, 1 ≤ x.length ∧ x.length ≤ l.length) → Dz 60 5 (1000 + 802 * m) a → Dz 60 5 (1000 + 802 * (m + gs.length)) (dueG l size gs a)
  | [], a, m, _, h => h
  | g :: gs, a, m, hg, h => by
    have hgg := hg g (List.mem_cons_self ..)
    have d := prod5 hl hgg.1 hgg.2
    have h2 : Dz 60 5 (1000 + 802 * (m + 1)) (if (g.headD []).contains (size - 1) then a + prodG l g 1 else a) := by
      split
      · exact (h.add d (by decide)).mono (by omega)
      · exact h.mono (by omega)
    have := due_dz hl size gs _ (m + 1) (fun y hy => hg y (List.mem_cons_of_mem _ hy)) h2
    rw [List.length_cons, show m + (gs.length + 1) = m + 1 + gs.length by omega]
    exact this
theorem due_step {l : List Rat} (hl : ∀ i, i < l.length → Dz 60 1 134 (l.getD i 0)) {size : Nat} (h1 : 1 ≤ size) (h5 : size ≤ 5) (hs : size ≤ l.length) {p : List Grp} {g : Grp} {q : List Grp} (hp : lawGs .nested size = p ++ g :: q) {s0 s1 s2 s4 s5 s6 s7 s8 : Slot} (a11 a12 a13 : Slot) : ∃ b12 b13,
    (bindS (.nm 11) [s0, s1, s2, .sh (svs l), s4, s5, s6, s7, s8, .sh (.int (size : Nat)), .sh (sv (dueG l size p 0)), a11, a12, a13] (enc g) >>= exs (Pr.tab (n + 2)) (((D70.body.at 6).inner.at 1).inner)) =
      .ok (.nx, [s0, s1, s2, .sh (svs l), s4, s5, s6, s7, s8, .sh (.int (size : Nat)), .sh (sv (dueG l size (p ++ [g]) 0)), .sh (enc g), b12, b13]) := by
  obtain ⟨hg, hlen⟩ := gs_all h5 h1
  have hgm : g ∈ lawGs .nested size := by rw [hp]; simp
  obtain ⟨g1, g2, g3⟩ := hg g hgm
  have hx : ∀ x ∈ g, 1 ≤ x.length ∧ x.length ≤ l.length := fun x h => ⟨(g3 x h).1, Nat.le_trans (g3 x h).2 hs⟩
  have dz := due_dz hl size p 0 0 (fun y hy => by
    obtain ⟨k1, k2, k3⟩ := hg y (by rw [hp]; simp [hy])
    exact ⟨k2, fun x h => ⟨(k3 x h).1, Nat.le_trans (k3 x h).2 hs⟩⟩) (dz0 60 5 _)
  have hpl : p.length ≤ 42 := by have := congrArg List.length hp; simp at this; omega
  have dg := prod5 hl g2 hx
  have dz' := (dz.mono (B := 40000) (by omega)).sz (by decide)
  have c69 := c_lawadd n dz' (dg.sz (by decide))
  have ix0 : ixV (enc g) (.int 0) = .ok (enc (g.headD [])) := by
    cases g with
    | nil => exact absurd rfl g1
    | cons a g => exact ix_l0
  have hin := op_in_enc (by decide) (size - 1) (g.headD [])
  have hsub : ((size : Nat) : Int) - 1 = ((size - 1 : Nat) : Int) := by omega
  obtain ⟨b13, e⟩ := gain_walk n hl g2 hx (s0 := s0) (s1 := s1) (s2 := s2) (s4 := s4) (s5 := s5) (s6 := s6) (s7 := s7) (s8 := s8) (s9 := .sh (.int (size : Nat))) (s10 := .sh (sv (dueG l size p 0))) (s11 := .sh (enc g)) a13
  have hds := due_snoc l size p g 0
  have sv1 : (.tup [.int 1, .int 1] : Val) = sv 1 := rfl
  have hin' : op2 .inn (.int ((size - 1 : Nat) : Int)) (enc (g.headD [])) = .ok (.bl ((g.headD []).contains (size - 1))) := by
    refine hin.trans ?_
    refine congrArg Except.ok (congrArg Val.bl ?_)
    rw [Bool.eq_iff_iff]
    simp
  rw [hds]
  generalize dueG l size p 0 = A at *
  generalize prodG l g 1 = Q at *
  generalize (g.headD []).contains (size - 1) = b at *
  generalize g.headD [] = hd at *
  simp only [D70, SB.at, SS.inner]
  have sq := seqV_enc g
  cases b with
  | false =>
    refine ⟨a12, a13, ?_⟩
    simp only [bindS_nm, okb, List.set_cons_succ, List.set_cons_zero, exs_cons, ex_iff, ev_op, ev_var, ev_int, ev_ix, visG_c, visG_nil, isOwn_sh, val_sh, Bool.false_and, Bool.false_eq_true, if_false, getE_succ, getE_zero, op_sub_i, hsub, ix0, hin', tru_bl, exs_nil, seqF_nx]
  | true =>
    refine ⟨.sh (sv Q), b13, ?_⟩
    simp only [bindS_nm, okb, List.set_cons_succ, List.set_cons_zero, exs_cons, ex_iff, ev_op, ev_var, ev_int, ev_ix, visG_c, visG_nil, isOwn_sh, val_sh, Bool.false_and, Bool.false_eq_true, if_false, getE_succ, getE_zero, op_sub_i, hsub, ix0, hin', tru_bl, if_true, ex_asg, ev_tup, evs_cons, evs_nil, List.length_cons, List.length_nil, lineN, show 0 + 1 + 1 ≤ 16777216 from by decide, kept_nil, seqF_nx, sv1, ex_loop, evI_seq, sq]
    simp only [e, seqF_nx]
    simp only [exs_cons, ex_asg, ev_call, evs_cons, evs_nil, ev_var, visG_c, visG_nil, isOwn_sh, val_sh, Bool.false_and, Bool.false_eq_true, if_false, getE_succ, getE_zero, okb, c69, kept_nil, bindS_nm, List.set_cons_succ, List.set_cons_zero, seqF_nx, exs_nil]
theorem due_walk {l : List Rat} (hl : ∀ i, i < l.length → Dz 60 1 134 (l.getD i 0)) {size : Nat} (h1 : 1 ≤ size) (h5 : size ≤ 5) (hs : size ≤ l.length) {s0 s1 s2 s4 s5 s6 s7 s8 : Slot} (a11 a12 a13 : Slot) : ∃ b11 b12 b13,
    forGo (bindS (.nm 11)) (exs (Pr.tab (n + 2)) (((D70.body.at 6).inner.at 1).inner)) ((lawGs .nested size).map enc) [s0, s1, s2, .sh (svs l), s4, s5, s6, s7, s8, .sh (.int (size : Nat)), .sh (sv 0), a11, a12, a13] =
      .ok (.nx, [s0, s1, s2, .sh (svs l), s4, s5, s6, s7, s8, .sh (.int (size : Nat)), .sh (sv (dueR l size)), b11, b12, b13]) := by
  obtain ⟨ρ', r1, b11, b12, b13, rfl⟩ := forGo_map (bind := bindS (.nm 11)) (body := exs (Pr.tab (n + 2)) (((D70.body.at 6).inner.at 1).inner)) (fun g : Grp => enc g)
    (fun pre ρ => ∃ a11 a12 a13, ρ = [s0, s1, s2, .sh (svs l), s4, s5, s6, s7, s8, .sh (.int (size : Nat)), .sh (sv (dueG l size pre 0)), a11, a12, a13]) (lawGs .nested size) [] [s0, s1, s2, .sh (svs l), s4, s5, s6, s7, s8, .sh (.int (size : Nat)), .sh (sv 0), a11, a12, a13] ⟨a11, a12, a13, rfl⟩ (by
      rintro p g q ρ hp ⟨a11, a12, a13, rfl⟩
      rw [List.nil_append] at hp
      obtain ⟨b12, b13, e⟩ := due_step n hl h1 h5 hs hp (s0 := s0) (s1 := s1) (s2 := s2) (s4 := s4) (s5 := s5) (s6 := s6) (s7 := s7) (s8 := s8) a11 a12 a13
      exact ⟨_, e, _, _, _, rfl⟩)
  exact ⟨b11, b12, b13, r1⟩
end VM

set_option Elab.async false
set_option linter.all false
set_option maxRecDepth 100000
set_option maxHeartbeats 2000000
/-! LibB4: rows of between against the law's sums. -/
namespace VM
open PySem
theorem prod_congr {l m : List Rat} : ∀ (g : Grp) (p : Rat), (∀ x ∈ g, l.getD (x.length - 1) 0 = m.getD (x.length - 1) 0) → prodG l g p = prodG m g p
  | [], p, _ => rfl
  | x :: g, p, h => by
    rw [prodG, prodG, h x (List.mem_cons_self ..)]
    exact prod_congr g _ (fun y hy => h y (List.mem_cons_of_mem _ hy))
theorem due_congr {l m : List Rat} (size : Nat) : ∀ (gs : List Grp) (a : Rat), (∀ g ∈ gs, ∀ x ∈ g, l.getD (x.length - 1) 0 = m.getD (x.length - 1) 0) → dueG l size gs a = dueG m size gs a
  | [], a, _ => rfl
  | g :: gs, a, h => by
    rw [dueG, dueG, prod_congr g 1 (h g (List.mem_cons_self ..))]
    exact due_congr size gs _ (fun y hy => h y (List.mem_cons_of_mem _ hy))
theorem due_small : ∀ (l : List Rat) (size : Nat), 1 ≤ size → size ≤ 5 → l.length = size → (betw .nested .rows l).getD (size - 1) 0 = dueR l size
  | [], size, h1, _, h => by simp at h; omega
  | [a], size, h1, _, h => by simp at h; subst h; exact due1 a
  | [a, b], size, h1, _, h => by simp at h; subst h; exact due2 a b
  | [a, b, c], size, h1, _, h => by simp at h; subst h; exact due3 a b c
  | [a, b, c, d], size, h1, _, h => by simp at h; subst h; exact due4 a b c d
  | [a, b, c, d, e], size, h1, _, h => by simp at h; subst h; exact due5 a b c d e
  | a :: b :: c :: d :: e :: f :: l, size, h1, h5, h => by simp at h; omega
theorem due_eq {l : List Rat} {size : Nat} (h1 : 1 ≤ size) (h5 : size ≤ 5) (hs : size ≤ l.length) : (betw .nested .rows l).getD (size - 1) 0 = dueR l size := by
  have hl : (l.take size).length = size := by rw [List.length_take]; omega
  have e1 := due_small (l.take size) size h1 h5 hl
  rw [betw_take .nested .rows l hs] at e1
  have e2 : ((betw .nested .rows l).take size).getD (size - 1) 0 = (betw .nested .rows l).getD (size - 1) 0 := by
    rw [List.getD_eq_getElem?_getD, List.getD_eq_getElem?_getD, List.getElem?_take_of_lt (by omega)]
  have e3 : dueR (l.take size) size = dueR l size := by
    refine due_congr size _ _ fun g hg x hx => ?_
    have := ((gs_all h5 h1).1 g hg).2.2 x hx
    rw [List.getD_eq_getElem?_getD, List.getD_eq_getElem?_getD, List.getElem?_take_of_lt (by omega)]
  rw [← e2, e1, e3]
theorem size_step {l : List Rat} (hl : ∀ i, i < l.length → Dz 60 1 134 (l.getD i 0)) {size : Nat} (h1 : 1 ≤ size) (h5 : size ≤ 5) (hs : size ≤ l.length) {s0 s1 s2 s4 s5 s6 s7 : Slot} (a10 a11 a12 a13 : Slot) : ∃ b10 b11 b12 b13,
    exs (Pr.tab 23) ((D70.body.at 6).inner) [s0, s1, s2, .sh (svs l), s4, s5, s6, s7, .sh (svs (betw .nested .rows l)), .sh (.int (size : Nat)), a10, a11, a12, a13] =
      .ok (.nx, [s0, s1, s2, .sh (svs l), s4, s5, s6, s7, .sh (svs (betw .nested .rows l)), .sh (.int (size : Nat)), b10, b11, b12, b13]) := by
  obtain ⟨b11, b12, b13, e⟩ := due_walk 21 hl h1 h5 hs (s0 := s0) (s1 := s1) (s2 := s2) (s4 := s4) (s5 := s5) (s6 := s6) (s7 := s7) (s8 := .sh (svs (betw .nested .rows l))) a11 a12 a13
  have c68 := c_lawgroupings 20 .nested (m := size) (by omega)
  have hsub : ((size : Nat) : Int) - 1 = ((size - 1 : Nat) : Int) := by omega
  have ix := svs_ixN (l := betw .nested .rows l) (i := size - 1) (by rw [betw_len]; omega)
  rw [due_eq h1 h5 hs] at ix
  have hne : op2 .ne (sv (dueR l size)) (sv (dueR l size)) = .ok (.bl false) := op_ne_self (okD_mono 59 _ (okD_sv _))
  have sv0 : (.tup [.int 0, .int 1] : Val) = sv 0 := rfl
  have sq := seqV_enc (lawGs .nested size)
  refine ⟨.sh (sv (dueR l size)), b11, b12, b13, ?_⟩
  generalize enc (lawGs .nested size) = GV at *
  generalize (lawGs .nested size).map enc = GL at *
  generalize dueR l size = Q at *
  simp only [D70, SB.at, SS.inner, kv] at e c68 ⊢
  simp only [exs_cons, ex_asg, ev_tup, evs_cons, evs_nil, ev_int, okb, List.length_cons, List.length_nil, lineN, show 0 + 1 + 1 ≤ 16777216 from by decide, if_true, kept_nil, bindS_nm, List.set_cons_succ, List.set_cons_zero, seqF_nx, sv0, ex_loop, evI_seq, ev_call, ev_var, ev_str, visG_c, visG_nil, isOwn_sh, val_sh, Bool.false_and, Bool.false_eq_true, if_false, getE_succ, getE_zero, c68, sq, exs_nil] at e ⊢
  rw [e]
  simp only [seqF_nx, exs_cons, ex_iff, ev_op, ev_ix, ev_var, ev_int, visG_c, visG_nil, isOwn_sh, val_sh, Bool.false_and, Bool.false_eq_true, if_false, getE_succ, getE_zero, okb, op_sub_i, hsub, ix, hne, tru_bl, exs_nil]
theorem size_walk {l : List Rat} (hl : ∀ i, i < l.length → Dz 60 1 134 (l.getD i 0)) {m : Nat} (hm : m ≤ 5) (hs : m ≤ l.length) {s0 s1 s2 s4 s5 s6 s7 : Slot} : ∃ b9 b10 b11 b12 b13,
    forGo (bindS (.nm 9)) (exs (Pr.tab 23) ((D70.body.at 6).inner)) (rngC 1 1 m) [s0, s1, s2, .sh (svs l), s4, s5, s6, s7, .sh (svs (betw .nested .rows l)), .no, .no, .no, .no, .no] =
      .ok (.nx, [s0, s1, s2, .sh (svs l), s4, s5, s6, s7, .sh (svs (betw .nested .rows l)), b9, b10, b11, b12, b13]) := by
  obtain ⟨ρ', r1, b9, b10, b11, b12, b13, rfl⟩ := forGo_inv (bind := bindS (.nm 9)) (body := exs (Pr.tab 23) ((D70.body.at 6).inner)) (fun ρ => ∃ a9 a10 a11 a12 a13, ρ = [s0, s1, s2, .sh (svs l), s4, s5, s6, s7, .sh (svs (betw .nested .rows l)), a9, a10, a11, a12, a13])
    (l := rngC 1 1 m) (ρ := [s0, s1, s2, .sh (svs l), s4, s5, s6, s7, .sh (svs (betw .nested .rows l)), .no, .no, .no, .no, .no]) ⟨_, _, _, _, _, rfl⟩ (by
      rintro v hv ρ ⟨a9, a10, a11, a12, a13, rfl⟩
      obtain ⟨i, hi, rfl⟩ := rngC_mem hv
      rw [show (1 : Int) + (i : Int) * 1 = ((i + 1 : Nat) : Int) by omega]
      obtain ⟨b10, b11, b12, b13, e⟩ := size_step hl (size := i + 1) (by omega) (by omega) (by omega) (s0 := s0) (s1 := s1) (s2 := s2) (s4 := s4) (s5 := s5) (s6 := s6) (s7 := s7) a10 a11 a12 a13
      exact ⟨_, _, bindS_nm, e, _, _, _, _, _, rfl⟩)
  exact ⟨b9, b10, b11, b12, b13, r1⟩
end VM

set_option Elab.async false
set_option linter.all false
set_option maxRecDepth 100000
set_option maxHeartbeats 4000000
namespace VM
open PySem
theorem eq_kinds (k o : Kind) : ∃ b, op2 .eq (kv k) (kv o) = .ok (.bl b) ∧ (b = true → k = o) := by
  cases k <;> cases o <;> first
    | exact ⟨true, ok_of (by decide +kernel), fun _ => rfl⟩
    | exact ⟨false, ok_of (by decide +kernel), fun h => by cases h⟩
theorem pair_turn (k o : Kind) {l : List Rat} {m : Nat} (hr : Dl 60 134 0 (1 :: l)) (h10 : l.length ≤ 10) (hm : l.length = m) {s0 s1 : Slot} (a6 a7 : Slot) :
    exs (Pr.tab 23) (((D70.body.at 4).inner.at 0).inner) [s0, s1, .sh (.int m), .sh (svs l), .sh (kv k), .sh (kv o), a6, a7, .no, .no, .no, .no, .no, .no] = .ok (.nx, [s0, s1, .sh (.int m), .sh (svs l), .sh (kv k), .sh (kv o), .sh (svs l), .sh (svs (betw k o l)), .no, .no, .no, .no, .no, .no]) := by
  have hF := betw_dl k o hr h10
  have hFl := betw_len k o l
  have hG := betw_dl k .rows hr h10
  have hGl := betw_len k .rows l
  have c1 : callP Pr 23 67 [svs l, kv k, kv o] = .ok (svs (betw k o l)) := c_between 16 k o hr h10 (by decide)
  have c2 : callP Pr 23 58 [svs (betw k o l)] = .ok (.bl true) := lareshares 20 hF (by omega)
  have c3 : callP Pr 23 57 [svs (betw k o l), kv o] = .ok (svs (meansT k l l.length)) := by
    have := c_meansfrom 16 o hF (by omega) (by omega)
    rw [hFl, means_betw k o h10] at this
    exact this
  have c4 : callP Pr 23 57 [svs l, kv k] = .ok (svs (meansT k l l.length)) := c_meansfrom 16 k hr h10 (by decide)
  have c5 : callP Pr 23 67 [svs (betw k o l), kv o, kv k] = .ok (svs l) := by
    have := c_between 16 o k hF (by omega) (by omega)
    rw [betw_back k o h10] at this
    exact this
  have c6 : callP Pr 23 67 [svs l, kv k, kv .rows] = .ok (svs (betw k .rows l)) := c_between 16 k .rows hr h10 (by decide)
  have c7 : callP Pr 23 67 [svs (betw k .rows l), kv .rows, kv o] = .ok (svs (betw k o l)) := by
    have := c_between 16 .rows o hG (by omega) (by omega)
    rw [betw_betw k .rows o h10] at this
    exact this
  have n1 := ne_svs l
  have n2 := ne_svs (meansT k l l.length)
  have n3 := ne_svs (betw k o l)
  have bl : bi1 .list [svs l] = .ok (svs l) := rfl
  have ln : bi1 .len [svs (betw k o l)] = .ok (.int m) := by rw [← hm, ← hFl]; simp [svs]
  have nm : op2 .ne (.int (m : Int)) (.int m) = .ok (.bl false) := by simp
  obtain ⟨b, q1, q2⟩ := eq_kinds k o
  have q3 : b = true → op2 .ne (svs (betw k o l)) (svs l) = .ok (.bl false) := fun h => by
    have := q2 h
    subst this
    rw [betw_same k h10]; exact n1
  generalize svs (betw k o l) = F at *
  generalize svs (betw k .rows l) = G at *
  generalize svs (meansT k l l.length) = M at *
  generalize svs l = L at *
  simp only [D70, SB.at, SS.inner]
  simp only [kv] at c6 c7
  cases b with
  | false =>
    simp only [exs_cons, ex_asg, ev_bi, ev_call, evs_cons, evs_nil, ev_var, ev_op, ev_str, visG_c, visG_nil, isOwn_sh, val_sh, isOwn_no, val_no, Bool.false_and, Bool.false_eq_true, if_false, getE_succ, getE_zero, okb, bl, kept_nil, bindS_nm, List.set_cons_succ, List.set_cons_zero, seqF_nx, c1, ex_iff, ev_bop, evB_more, evB_one, ev_not, c2, tru_bl, Bool.not_true, if_true, ln, nm, n1, c3, c4, n2, c5, q1, show ¬ (false = true) from by decide, c6, c7, n3, exs_nil, Bool.not_false, show ¬ (true = false) from by decide]
    simp only [kv] at c7 ⊢
    simp [c6, c7, n3]
  | true =>
    have q3' := q3 rfl
    simp only [exs_cons, ex_asg, ev_bi, ev_call, evs_cons, evs_nil, ev_var, ev_op, ev_str, visG_c, visG_nil, isOwn_sh, val_sh, isOwn_no, val_no, Bool.false_and, Bool.false_eq_true, if_false, getE_succ, getE_zero, okb, bl, kept_nil, bindS_nm, List.set_cons_succ, List.set_cons_zero, seqF_nx, c1, ex_iff, ev_bop, evB_more, evB_one, ev_not, c2, tru_bl, Bool.not_true, if_true, ln, nm, n1, c3, c4, n2, c5, q1, q3', c6, c7, n3, exs_nil, Bool.not_false, show ¬ (false = true) from by decide]
    simp only [kv] at c7 ⊢
    simp [c6, c7, n3]
theorem kind_in {v : Val} (hv : v ∈ [kv .all, kv .nested, kv .rows]) : ∃ k, v = kv k := by
  simp only [List.mem_cons, List.not_mem_nil, or_false] at hv
  rcases hv with rfl | rfl | rfl <;> exact ⟨_, rfl⟩
theorem pair_walk (k : Kind) {l : List Rat} {m : Nat} (hr : Dl 60 134 0 (1 :: l)) (h10 : l.length ≤ 10) (hm : l.length = m) {s0 s1 : Slot} (a5 a6 a7 : Slot) : ∃ b5 b6 b7,
    forGo (bindS (.nm 5)) (exs (Pr.tab 23) (((D70.body.at 4).inner.at 0).inner)) [kv .all, kv .nested, kv .rows] [s0, s1, .sh (.int m), .sh (svs l), .sh (kv k), a5, a6, a7, .no, .no, .no, .no, .no, .no] = .ok (.nx, [s0, s1, .sh (.int m), .sh (svs l), .sh (kv k), b5, b6, b7, .no, .no, .no, .no, .no, .no]) := by
  obtain ⟨ρ', r1, b5, b6, b7, rfl⟩ := forGo_inv (bind := bindS (.nm 5)) (body := exs (Pr.tab 23) (((D70.body.at 4).inner.at 0).inner)) (fun ρ => ∃ a5 a6 a7, ρ = [s0, s1, .sh (.int m), .sh (svs l), .sh (kv k), a5, a6, a7, .no, .no, .no, .no, .no, .no])
    (l := [kv .all, kv .nested, kv .rows]) (ρ := [s0, s1, .sh (.int m), .sh (svs l), .sh (kv k), a5, a6, a7, .no, .no, .no, .no, .no, .no]) ⟨_, _, _, rfl⟩ (by
      rintro v hv ρ ⟨a5, a6, a7, rfl⟩
      obtain ⟨o, rfl⟩ := kind_in hv
      exact ⟨_, _, bindS_nm, pair_turn k o hr h10 hm a6 a7, _, _, _, rfl⟩)
  exact ⟨b5, b6, b7, r1⟩
theorem pairs_walk {l : List Rat} {m : Nat} (hr : Dl 60 134 0 (1 :: l)) (h10 : l.length ≤ 10) (hm : l.length = m) {s0 s1 : Slot} : ∃ b4 b5 b6 b7,
    forGo (bindS (.nm 4)) (exs (Pr.tab 23) ((D70.body.at 4).inner)) [kv .all, kv .nested, kv .rows] [s0, s1, .sh (.int m), .sh (svs l), .no, .no, .no, .no, .no, .no, .no, .no, .no, .no] = .ok (.nx, [s0, s1, .sh (.int m), .sh (svs l), b4, b5, b6, b7, .no, .no, .no, .no, .no, .no]) := by
  obtain ⟨ρ', r1, b4, b5, b6, b7, rfl⟩ := forGo_inv (bind := bindS (.nm 4)) (body := exs (Pr.tab 23) ((D70.body.at 4).inner)) (fun ρ => ∃ a4 a5 a6 a7, ρ = [s0, s1, .sh (.int m), .sh (svs l), a4, a5, a6, a7, .no, .no, .no, .no, .no, .no])
    (l := [kv .all, kv .nested, kv .rows]) (ρ := [s0, s1, .sh (.int m), .sh (svs l), .no, .no, .no, .no, .no, .no, .no, .no, .no, .no]) ⟨_, _, _, _, rfl⟩ (by
      rintro v hv ρ ⟨a4, a5, a6, a7, rfl⟩
      obtain ⟨k, rfl⟩ := kind_in hv
      obtain ⟨b5, b6, b7, e⟩ := pair_walk k hr h10 hm (s0 := s0) (s1 := s1) a5 a6 a7
      refine ⟨_, [s0, s1, .sh (.int m), .sh (svs l), .sh (kv k), b5, b6, b7, .no, .no, .no, .no, .no, .no], bindS_nm, ?_, _, _, _, _, rfl⟩
      simp only [D70, SB.at, SS.inner, kv] at e ⊢
      simp only [exs_cons, ex_loop, List.set_cons_succ, List.set_cons_zero, evI_seq, ev_tup, evs_cons, evs_nil, ev_str, okb, List.length_cons, List.length_nil, lineN, show 0 + 1 + 1 + 1 ≤ 16777216 from by decide, if_true, seqV_t, kept_nil, e, seqF_nx, exs_nil])
  exact ⟨b4, b5, b6, b7, r1⟩
def wdT : List Int := [1, 6, 60]
def wdF (v : Int) : Int := wdT.getD (v.fmod 3).toNat 1
theorem wd_in (v : Int) : 1 ≤ wdF v ∧ wdF v ≤ 60 := by
  unfold wdF
  generalize (v.fmod 3).toNat = j
  rcases j with _ | _ | _ | j <;> simp [wdT, List.getD]
theorem wd_ix (v : Int) : ixV (.tup [.int 1, .int 6, .int 60]) (.int (v.fmod 3)) = .ok (.int (wdF v)) := by
  obtain ⟨h0, h1⟩ := mod_in v (m := 3) (by decide)
  have e : (.tup [.int 1, .int 6, .int 60] : Val) = .tup (wdT.map Val.int) := by simp [wdT]
  rw [e]
  simp only [ixV]
  rw [atI_in h0 (by simpa [wdT] using h1), List.getElem?_map, List.getElem?_eq_getElem (by simp [wdT]; omega)]
  simp [ofO, wdF]
  rw [List.getElem?_eq_getElem (by simp [wdT]; omega)]
  rfl
theorem shares_each {c w : Int} (k : Nat) (h1 : 1 ≤ w) (h2 : w ≤ 10 ^ 40) : ∀ i, i < (sharesF c w k).length → Dz 60 1 134 ((sharesF c w k).getD i 0) := by
  intro i hi
  have hm : (sharesF c w k).getD i 0 ∈ sharesF c w k := by
    rw [List.getD_eq_getElem?_getD, List.getElem?_eq_getElem hi]
    exact List.getElem_mem hi
  obtain ⟨j, _, e⟩ := List.mem_map.mp hm
  rw [← e]
  exact shareF_dz _ h1 h2
theorem law_plain : ∀ ns, Small ns → runD (Pr.tab 23) D70 [.scr ns] = .ok (.bl true) := by
  rintro ns ⟨hl, hb⟩
  have hg : ∀ i ∈ ns, lg i ≤ 1048577 := fun i hi => bits_lg (hb i hi)
  rw [runD_eq rfl]
  have hs := cut63 hl
  have c16 : callP Pr 23 16 [cells ns, .int 0] = .ok (.int (cellAt ns 0)) := c_cell 22 ns 0 (by decide)
  have c181 : callP Pr 23 18 [.int (cellAt ns 0), .int 1] = .ok (.int (valF (cellAt ns 0) 1)) := c_value 21 (cell_lg hg _) (by decide) (by decide)
  have c183 : callP Pr 23 18 [.int (cellAt ns 0), .int 3] = .ok (.int (valF (cellAt ns 0) 3)) := c_value 21 (cell_lg hg _) (by decide) (by decide)
  obtain ⟨z0, z1⟩ := mod_in (valF (cellAt ns 0) 1) (m := 9) (by decide)
  obtain ⟨L, hL⟩ : ∃ L : Nat, (valF (cellAt ns 0) 1).fmod 9 = (L : Int) := ⟨((valF (cellAt ns 0) 1).fmod 9).toNat, by omega⟩
  rw [hL] at z0 z1
  obtain ⟨w1, w2⟩ := wd_in (valF (cellAt ns 0) 3)
  have wi := wd_ix (valF (cellAt ns 0) 3)
  have w3 : wdF (valF (cellAt ns 0) 3) ≤ 10 ^ 40 := by omega
  have c25 : callP Pr 23 25 [.int (cellAt ns 0), .int L, .int (wdF (valF (cellAt ns 0) 3))] = .ok (svs (sharesF (cellAt ns 0) (wdF (valF (cellAt ns 0) 3)) L)) := c_lshares 20 (cell_lg hg _) w1 w3 (by omega)
  have hr := shares_dl (c := cellAt ns 0) L w1 w3
  have he := shares_each (c := cellAt ns 0) L w1 w3
  have hlen := shares_len (c := cellAt ns 0) (w := wdF (valF (cellAt ns 0) 3)) L
  generalize hl' : sharesF (cellAt ns 0) (wdF (valF (cellAt ns 0) 3)) L = l at *
  generalize wdF (valF (cellAt ns 0) 3) = W at *
  have h10 : l.length ≤ 10 := by omega
  obtain ⟨b4, b5, b6, b7, e1⟩ := pairs_walk hr h10 hlen (s0 := .sh (cells ns)) (s1 := .sh (.int (cellAt ns 0)))
  have c67 : callP Pr 23 67 [svs l, kv .nested, kv .rows] = .ok (svs (betw .nested .rows l)) := c_between 16 .nested .rows hr h10 (by decide)
  obtain ⟨b9, b10, b11, b12, b13, e2⟩ := size_walk he (m := min L 5) (by omega) (by omega) (s0 := .sh (cells ns)) (s1 := .sh (.int (cellAt ns 0))) (s2 := .sh (.int L)) (s4 := b4) (s5 := b5) (s6 := b6) (s7 := b7)
  have hmin : (if (5 : Int) < (L : Int) then (5 : Int) else (L : Int)) = ((min L 5 : Nat) : Int) := by split <;> omega
  have hsm : smallR 1 (((min L 5 : Nat) : Int) + 1) = true := by unfold smallR; apply decide_eq_true; omega
  have htn : (((min L 5 : Nat) : Int) + 1 - 1).toNat = min L 5 := by omega
  have o1 : (.lst [.tup [.int 1, .int 1], .tup [.int 1, .int 1], .tup [.int 1, .int 1]] : Val) = svs [1, 1, 1] := rfl
  have cl : callP Pr 23 67 [svs [1, 1, 1], kv .rows, kv .all] = .ok (svs (betw .rows .all [1, 1, 1])) := c_between 16 .rows .all (l := [1, 1, 1]) (c := 134) (dl_of fun q hq => by
    have : q = 1 := by simpa using hq
    rw [this]; exact dz1 60 1 134) (by decide) (by decide)
  have qe : op2 .eq (svs (betw .rows .all [1, 1, 1])) (.lst [.tup [.int 1, .int 1], .tup [.int 1, .int 1], .tup [.int 0, .int 1]]) = .ok (.bl true) := by
    have : betw .rows .all [1, 1, 1] = [1, 1, 0] := by decide +kernel
    rw [this]
    exact op_eq_self (okD_svs [1, 1, 0])
  generalize valF (cellAt ns 0) 1 = V1 at *
  generalize valF (cellAt ns 0) 3 = V3 at *
  generalize cellAt ns 0 = C at *
  generalize cells ns = CS at *
  generalize svs (betw .rows .all [1, 1, 1]) = BL at *
  generalize min L 5 = M5 at *
  have h0 : [Val.scr ns].map Slot.sh ++ List.replicate (14 - 1) Slot.no = [.sh (.scr ns), .no, .no, .no, .no, .no, .no, .no, .no, .no, .no, .no, .no, .no] := rfl
  have z9 : ¬ ((9 : Int) = 0) := by decide
  have z3 : ¬ ((3 : Int) = 0) := by decide
  simp only [D70, SB.at, SS.inner, kv] at e1 e2 c67 cl ⊢
  simp only [h0]
  simp only [exs_cons, ex_asg, ev_sl, ev_op, ev_call, evs_cons, evs_nil, ev_int, ev_var, evO_none, evO_some, asInt_int, visG_c, visG_nil, isOwn_sh, val_sh, isOwn_no, val_no, Bool.false_and, Bool.false_eq_true, if_false, getE_succ, getE_zero, okb, hs, kept_nil, bindS_nm, List.set_cons_succ, List.set_cons_zero, seqF_nx, c16, c181, op_mod_i, z9, z3, hL, ev_ix, ev_tup, List.length_cons, List.length_nil, lineN, show 0 + 1 + 1 + 1 ≤ 16777216 from by decide, if_true, c183, wi, c25, ex_loop, evI_seq, ev_str, seqV_t, e1, c67, evI_rng2, ev_bi, bi_min2_i, hmin, op_add_i, hsm, htn, e2, ex_ret, ev_lst, show 0 + 1 + 1 ≤ 16777216 from by decide, o1, cl, qe, seqF_rt, finD_rt]
end VM

set_option maxHeartbeats 8000000
namespace VM
open PySem PySem.Spec PyProof.Rows L2
def topS (i : Nat) : Stmt := PySem.Challenge.pw_meanloom_k20_whole_between.main.body.getD i (.Pass ⟨0, 0, 0, 0⟩)
def nmF : List (Nat × Str) := [(1, "is_whole"), (2, "common"), (3, "lowest"), (4, "is_share"), (7, "add"), (8, "cut"), (9, "grow"), (53, "check_kind"), (52, "check_means"), (49, "chosen"), (51, "weight_of"), (50, "power_of"), (54, "sums_of"), (55, "means_of"), (57, "means_from"), (67, "between"), (16, "_law_cell_at"), (17, "_law_draw"), (18, "_law_value"), (19, "_law_low"), (69, "_law_add"), (43, "_law_by"), (20, "_law_whole"), (21, "_law_is_share"), (58, "_law_are_shares"), (24, "_law_share"), (25, "_law_shares"), (65, "_law_nested"), (66, "_law_of_kind"), (68, "_law_groupings"), (70, "law")]
def nmG : List (Nat × Str) := [(4, "KINDS"), (5, "LONGEST"), (6, "ONE"), (7, "NOUGHT")]
def nmR : List Nat := [54, 55, 57, 67, 25, 68]
def nmH : List (Nat × Str) := []
def MM : Nm := ⟨fun f => nmF.lookup f, fun g => nmG.lookup g, fun f => nmR.contains f, fun f => nmH.lookup f⟩
theorem chk1 : chkD MM ["thing"] ["thing"] D1 (topS 7) = true := by decide +kernel
theorem chk2 : chkD MM ["one", "other"] ["one", "other"] D2 (topS 8) = true := by decide +kernel
theorem chk3 : chkD MM ["top", "bottom", "by"] ["top", "bottom"] D3 (topS 9) = true := by decide +kernel
theorem chk4 : chkD MM ["thing"] ["thing"] D4 (topS 10) = true := by decide +kernel
theorem chk7 : chkD MM ["one", "other"] ["one", "other"] D7 (topS 11) = true := by decide +kernel
theorem chk8 : chkD MM ["one", "other"] ["one", "other"] D8 (topS 12) = true := by decide +kernel
theorem chk9 : chkD MM ["one", "other"] ["one", "other"] D9 (topS 13) = true := by decide +kernel
theorem chk53 : chkD MM ["kind"] ["kind"] D53 (topS 16) = true := by decide +kernel
theorem chk52 : chkD MM ["means", "one"] ["means"] D52 (topS 19) = true := by decide +kernel
theorem chk49 : chkD MM ["many", "some", "found", "step"] ["many", "some"] D49 (topS 20) = true := by decide +kernel
theorem chk51 : chkD MM ["kind", "means", "many", "size", "rest"] ["kind", "means", "many", "size"] D51 (topS 21) = true := by decide +kernel
theorem chk50 : chkD MM ["means", "size", "rest", "row", "found", "turn", "longer", "many", "gain", "first"] ["means", "size", "rest"] D50 (topS 22) = true := by decide +kernel
theorem chk54 : chkD MM ["means", "kind", "found", "many", "gain", "size"] ["means", "kind"] D54 (topS 23) = true := by decide +kernel
theorem chk55 : chkD MM ["sums", "kind", "found", "many", "gain", "size"] ["sums", "kind"] D55 (topS 24) = true := by decide +kernel
theorem chk57 : chkD MM ["sums", "kind"] ["sums", "kind"] D57 (topS 25) = true := by decide +kernel
theorem chk67 : chkD MM ["sums", "kind", "other"] ["sums", "kind", "other"] D67 (topS 26) = true := by decide +kernel
theorem chk16 : chkD MM ["_law_script", "_law_k"] ["_law_script", "_law_k"] D16 (topS 28) = true := by decide +kernel
theorem chk17 : chkD MM ["_law_cell", "_law_k", "_law_many", "_law_primes"] ["_law_cell", "_law_k", "_law_many"] D17 (topS 29) = true := by decide +kernel
theorem chk18 : chkD MM ["_law_cell", "_law_turn", "_law_mixed"] ["_law_cell", "_law_turn"] D18 (topS 30) = true := by decide +kernel
theorem chk19 : chkD MM ["_law_top", "_law_bottom", "_law_one", "_law_other"] ["_law_top", "_law_bottom"] D19 (topS 31) = true := by decide +kernel
theorem chk69 : chkD MM ["_law_one", "_law_other"] ["_law_one", "_law_other"] D69 (topS 32) = true := by decide +kernel
theorem chk43 : chkD MM ["_law_one", "_law_other"] ["_law_one", "_law_other"] D43 (topS 33) = true := by decide +kernel
theorem chk20 : chkD MM ["_law_number"] ["_law_number"] D20 (topS 34) = true := by decide +kernel
theorem chk21 : chkD MM ["_law_found"] ["_law_found"] D21 (topS 35) = true := by decide +kernel
theorem chk58 : chkD MM ["_law_found", "_law_one"] ["_law_found"] D58 (topS 36) = true := by decide +kernel
theorem chk24 : chkD MM ["_law_number", "_law_wide"] ["_law_number", "_law_wide"] D24 (topS 37) = true := by decide +kernel
theorem chk25 : chkD MM ["_law_cell", "_law_many", "_law_wide", "_law_turn"] ["_law_cell", "_law_many", "_law_wide"] D25 (topS 38) = true := by decide +kernel
theorem chk65 : chkD MM ["_law_grouping", "_law_at", "_law_one", "_law_other", "_law_a", "_law_c", "_law_inside", "_law_thing"] ["_law_grouping"] D65 (topS 39) = true := by decide +kernel
theorem chk66 : chkD MM ["_law_grouping", "_law_kind", "_law_group"] ["_law_grouping", "_law_kind"] D66 (topS 40) = true := by decide +kernel
theorem chk68 : chkD MM ["_law_many", "_law_kind", "_law_found", "_law_thing", "_law_longer", "_law_grouping", "_law_at", "_law_group"] ["_law_many", "_law_kind"] D68 (topS 41) = true := by decide +kernel
theorem chk70 : chkD MM ["_law_script", "_law_cell", "_law_many", "_law_sums", "_law_kind", "_law_other", "_law_handed", "_law_found", "_law_rows", "_law_size", "_law_due", "_law_grouping", "_law_gain", "_law_group"] ["_law_script"] D70 (topS 42) = true := by decide +kernel
theorem chf54 : chkDr true MM ["means", "kind", "found", "many", "gain", "size"] ["means", "kind"] D54 (topS 23) = true := by decide +kernel
theorem chf55 : chkDr true MM ["sums", "kind", "found", "many", "gain", "size"] ["sums", "kind"] D55 (topS 24) = true := by decide +kernel
theorem chf57 : chkDr true MM ["sums", "kind"] ["sums", "kind"] D57 (topS 25) = true := by decide +kernel
theorem chf67 : chkDr true MM ["sums", "kind", "other"] ["sums", "kind", "other"] D67 (topS 26) = true := by decide +kernel
theorem chf25 : chkDr true MM ["_law_cell", "_law_many", "_law_wide", "_law_turn"] ["_law_cell", "_law_many", "_law_wide"] D25 (topS 38) = true := by decide +kernel
theorem chf68 : chkDr true MM ["_law_many", "_law_kind", "_law_found", "_law_thing", "_law_longer", "_law_grouping", "_law_at", "_law_group"] ["_law_many", "_law_kind"] D68 (topS 41) = true := by decide +kernel
section
variable {w : World} {K : PySem.W.Frag} {h : Heap} {mg : Str → Option Value} {fa : Addr}
theorem all_mk (X : K.In h) (G : h.Ns mainGlobals mg) (hfa : mg "law" = some (.ref fa))
    {od1 an1 : Option Addr} {sl1 : Array (Option Value)} {oc1 kV1 dc1 pm1 cd1 ct1 : Value} {f1 : Addr}
    {od2 an2 : Option Addr} {sl2 : Array (Option Value)} {oc2 kV2 dc2 pm2 cd2 ct2 : Value} {f2 : Addr}
    {od3 an3 : Option Addr} {sl3 : Array (Option Value)} {oc3 kV3 dc3 pm3 cd3 ct3 : Value} {f3 : Addr}
    {od4 an4 : Option Addr} {sl4 : Array (Option Value)} {oc4 kV4 dc4 pm4 cd4 ct4 : Value} {f4 : Addr}
    {od7 an7 : Option Addr} {sl7 : Array (Option Value)} {oc7 kV7 dc7 pm7 cd7 ct7 : Value} {f7 : Addr}
    {od8 an8 : Option Addr} {sl8 : Array (Option Value)} {oc8 kV8 dc8 pm8 cd8 ct8 : Value} {f8 : Addr}
    {od9 an9 : Option Addr} {sl9 : Array (Option Value)} {oc9 kV9 dc9 pm9 cd9 ct9 : Value} {f9 : Addr}
    {od53 an53 : Option Addr} {sl53 : Array (Option Value)} {oc53 kV53 dc53 pm53 cd53 ct53 : Value} {f53 : Addr}
    {od52 an52 : Option Addr} {sl52 : Array (Option Value)} {oc52 kV52 dc52 pm52 cd52 ct52 : Value} {f52 : Addr}
    {od49 an49 : Option Addr} {sl49 : Array (Option Value)} {oc49 kV49 dc49 pm49 cd49 ct49 : Value} {f49 : Addr}
    {od51 an51 : Option Addr} {sl51 : Array (Option Value)} {oc51 kV51 dc51 pm51 cd51 ct51 : Value} {f51 : Addr}
    {od50 an50 : Option Addr} {sl50 : Array (Option Value)} {oc50 kV50 dc50 pm50 cd50 ct50 : Value} {f50 : Addr}
    {od54 an54 : Option Addr} {sl54 : Array (Option Value)} {oc54 kV54 dc54 pm54 cd54 ct54 : Value} {f54 : Addr}
    {od55 an55 : Option Addr} {sl55 : Array (Option Value)} {oc55 kV55 dc55 pm55 cd55 ct55 : Value} {f55 : Addr}
    {od57 an57 : Option Addr} {sl57 : Array (Option Value)} {oc57 kV57 dc57 pm57 cd57 ct57 : Value} {f57 : Addr}
    {od67 an67 : Option Addr} {sl67 : Array (Option Value)} {oc67 kV67 dc67 pm67 cd67 ct67 : Value} {f67 : Addr}
    {od16 an16 : Option Addr} {sl16 : Array (Option Value)} {oc16 kV16 dc16 pm16 cd16 ct16 : Value} {f16 : Addr}
    {od17 an17 : Option Addr} {sl17 : Array (Option Value)} {oc17 kV17 dc17 pm17 cd17 ct17 : Value} {f17 : Addr}
    {od18 an18 : Option Addr} {sl18 : Array (Option Value)} {oc18 kV18 dc18 pm18 cd18 ct18 : Value} {f18 : Addr}
    {od19 an19 : Option Addr} {sl19 : Array (Option Value)} {oc19 kV19 dc19 pm19 cd19 ct19 : Value} {f19 : Addr}
    {od69 an69 : Option Addr} {sl69 : Array (Option Value)} {oc69 kV69 dc69 pm69 cd69 ct69 : Value} {f69 : Addr}
    {od43 an43 : Option Addr} {sl43 : Array (Option Value)} {oc43 kV43 dc43 pm43 cd43 ct43 : Value} {f43 : Addr}
    {od20 an20 : Option Addr} {sl20 : Array (Option Value)} {oc20 kV20 dc20 pm20 cd20 ct20 : Value} {f20 : Addr}
    {od21 an21 : Option Addr} {sl21 : Array (Option Value)} {oc21 kV21 dc21 pm21 cd21 ct21 : Value} {f21 : Addr}
    {od58 an58 : Option Addr} {sl58 : Array (Option Value)} {oc58 kV58 dc58 pm58 cd58 ct58 : Value} {f58 : Addr}
    {od24 an24 : Option Addr} {sl24 : Array (Option Value)} {oc24 kV24 dc24 pm24 cd24 ct24 : Value} {f24 : Addr}
    {od25 an25 : Option Addr} {sl25 : Array (Option Value)} {oc25 kV25 dc25 pm25 cd25 ct25 : Value} {f25 : Addr}
    {od65 an65 : Option Addr} {sl65 : Array (Option Value)} {oc65 kV65 dc65 pm65 cd65 ct65 : Value} {f65 : Addr}
    {od66 an66 : Option Addr} {sl66 : Array (Option Value)} {oc66 kV66 dc66 pm66 cd66 ct66 : Value} {f66 : Addr}
    {od68 an68 : Option Addr} {sl68 : Array (Option Value)} {oc68 kV68 dc68 pm68 cd68 ct68 : Value} {f68 : Addr}
    {od70 an70 : Option Addr} {sl70 : Array (Option Value)} {oc70 kV70 dc70 pm70 cd70 ct70 : Value} {f70 : Addr}
    {ag4 : Addr} {og4 : Option Addr} {ng4 : Nat} {sg4 : Array (Option Value)} {tg4_0 : Tok} {tg4_1 : Tok} {tg4_2 : Tok}
    {tg5 : Tok}
    {ag6 : Addr} {og6 : Option Addr} {ng6 : Nat} {sg6 : Array (Option Value)} {tg6_0 : Tok} {tg6_1 : Tok}
    {ag7 : Addr} {og7 : Option Addr} {ng7 : Nat} {sg7 : Array (Option Value)} {tg7_0 : Tok} {tg7_1 : Tok}
    (a1 : PySem.W.nsIn K mainGlobals "is_whole" = some (some (.ref f1)))
    (l1 : K.lookup f1 = some ⟨oc1, od1, .func (PySem.W.fnOf "is_whole" "is_whole" (defArgs (topS 7)) (defBody (topS 7)) (defScope (topS 7)) .none kV1 dc1 pm1 an1 cd1 ct1), sl1⟩)
    (c1 : PySem.W.codeIn K cd1 "is_whole" = true) (k1 : PySem.W.keepIn K (.ref f1) = true)
    (a2 : PySem.W.nsIn K mainGlobals "common" = some (some (.ref f2)))
    (l2 : K.lookup f2 = some ⟨oc2, od2, .func (PySem.W.fnOf "common" "common" (defArgs (topS 8)) (defBody (topS 8)) (defScope (topS 8)) .none kV2 dc2 pm2 an2 cd2 ct2), sl2⟩)
    (c2 : PySem.W.codeIn K cd2 "common" = true) (k2 : PySem.W.keepIn K (.ref f2) = true)
    (a3 : PySem.W.nsIn K mainGlobals "lowest" = some (some (.ref f3)))
    (l3 : K.lookup f3 = some ⟨oc3, od3, .func (PySem.W.fnOf "lowest" "lowest" (defArgs (topS 9)) (defBody (topS 9)) (defScope (topS 9)) .none kV3 dc3 pm3 an3 cd3 ct3), sl3⟩)
    (c3 : PySem.W.codeIn K cd3 "lowest" = true) (k3 : PySem.W.keepIn K (.ref f3) = true)
    (a4 : PySem.W.nsIn K mainGlobals "is_share" = some (some (.ref f4)))
    (l4 : K.lookup f4 = some ⟨oc4, od4, .func (PySem.W.fnOf "is_share" "is_share" (defArgs (topS 10)) (defBody (topS 10)) (defScope (topS 10)) .none kV4 dc4 pm4 an4 cd4 ct4), sl4⟩)
    (c4 : PySem.W.codeIn K cd4 "is_share" = true) (k4 : PySem.W.keepIn K (.ref f4) = true)
    (a7 : PySem.W.nsIn K mainGlobals "add" = some (some (.ref f7)))
    (l7 : K.lookup f7 = some ⟨oc7, od7, .func (PySem.W.fnOf "add" "add" (defArgs (topS 11)) (defBody (topS 11)) (defScope (topS 11)) .none kV7 dc7 pm7 an7 cd7 ct7), sl7⟩)
    (c7 : PySem.W.codeIn K cd7 "add" = true) (k7 : PySem.W.keepIn K (.ref f7) = true)
    (a8 : PySem.W.nsIn K mainGlobals "cut" = some (some (.ref f8)))
    (l8 : K.lookup f8 = some ⟨oc8, od8, .func (PySem.W.fnOf "cut" "cut" (defArgs (topS 12)) (defBody (topS 12)) (defScope (topS 12)) .none kV8 dc8 pm8 an8 cd8 ct8), sl8⟩)
    (c8 : PySem.W.codeIn K cd8 "cut" = true) (k8 : PySem.W.keepIn K (.ref f8) = true)
    (a9 : PySem.W.nsIn K mainGlobals "grow" = some (some (.ref f9)))
    (l9 : K.lookup f9 = some ⟨oc9, od9, .func (PySem.W.fnOf "grow" "grow" (defArgs (topS 13)) (defBody (topS 13)) (defScope (topS 13)) .none kV9 dc9 pm9 an9 cd9 ct9), sl9⟩)
    (c9 : PySem.W.codeIn K cd9 "grow" = true) (k9 : PySem.W.keepIn K (.ref f9) = true)
    (a53 : PySem.W.nsIn K mainGlobals "check_kind" = some (some (.ref f53)))
    (l53 : K.lookup f53 = some ⟨oc53, od53, .func (PySem.W.fnOf "check_kind" "check_kind" (defArgs (topS 16)) (defBody (topS 16)) (defScope (topS 16)) .none kV53 dc53 pm53 an53 cd53 ct53), sl53⟩)
    (c53 : PySem.W.codeIn K cd53 "check_kind" = true) (k53 : PySem.W.keepIn K (.ref f53) = true)
    (a52 : PySem.W.nsIn K mainGlobals "check_means" = some (some (.ref f52)))
    (l52 : K.lookup f52 = some ⟨oc52, od52, .func (PySem.W.fnOf "check_means" "check_means" (defArgs (topS 19)) (defBody (topS 19)) (defScope (topS 19)) .none kV52 dc52 pm52 an52 cd52 ct52), sl52⟩)
    (c52 : PySem.W.codeIn K cd52 "check_means" = true) (k52 : PySem.W.keepIn K (.ref f52) = true)
    (a49 : PySem.W.nsIn K mainGlobals "chosen" = some (some (.ref f49)))
    (l49 : K.lookup f49 = some ⟨oc49, od49, .func (PySem.W.fnOf "chosen" "chosen" (defArgs (topS 20)) (defBody (topS 20)) (defScope (topS 20)) .none kV49 dc49 pm49 an49 cd49 ct49), sl49⟩)
    (c49 : PySem.W.codeIn K cd49 "chosen" = true) (k49 : PySem.W.keepIn K (.ref f49) = true)
    (a51 : PySem.W.nsIn K mainGlobals "weight_of" = some (some (.ref f51)))
    (l51 : K.lookup f51 = some ⟨oc51, od51, .func (PySem.W.fnOf "weight_of" "weight_of" (defArgs (topS 21)) (defBody (topS 21)) (defScope (topS 21)) .none kV51 dc51 pm51 an51 cd51 ct51), sl51⟩)
    (c51 : PySem.W.codeIn K cd51 "weight_of" = true) (k51 : PySem.W.keepIn K (.ref f51) = true)
    (a50 : PySem.W.nsIn K mainGlobals "power_of" = some (some (.ref f50)))
    (l50 : K.lookup f50 = some ⟨oc50, od50, .func (PySem.W.fnOf "power_of" "power_of" (defArgs (topS 22)) (defBody (topS 22)) (defScope (topS 22)) .none kV50 dc50 pm50 an50 cd50 ct50), sl50⟩)
    (c50 : PySem.W.codeIn K cd50 "power_of" = true) (k50 : PySem.W.keepIn K (.ref f50) = true)
    (a54 : PySem.W.nsIn K mainGlobals "sums_of" = some (some (.ref f54)))
    (l54 : K.lookup f54 = some ⟨oc54, od54, .func (PySem.W.fnOf "sums_of" "sums_of" (defArgs (topS 23)) (defBody (topS 23)) (defScope (topS 23)) .none kV54 dc54 pm54 an54 cd54 ct54), sl54⟩)
    (c54 : PySem.W.codeIn K cd54 "sums_of" = true) (k54 : PySem.W.keepIn K (.ref f54) = true)
    (a55 : PySem.W.nsIn K mainGlobals "means_of" = some (some (.ref f55)))
    (l55 : K.lookup f55 = some ⟨oc55, od55, .func (PySem.W.fnOf "means_of" "means_of" (defArgs (topS 24)) (defBody (topS 24)) (defScope (topS 24)) .none kV55 dc55 pm55 an55 cd55 ct55), sl55⟩)
    (c55 : PySem.W.codeIn K cd55 "means_of" = true) (k55 : PySem.W.keepIn K (.ref f55) = true)
    (a57 : PySem.W.nsIn K mainGlobals "means_from" = some (some (.ref f57)))
    (l57 : K.lookup f57 = some ⟨oc57, od57, .func (PySem.W.fnOf "means_from" "means_from" (defArgs (topS 25)) (defBody (topS 25)) (defScope (topS 25)) .none kV57 dc57 pm57 an57 cd57 ct57), sl57⟩)
    (c57 : PySem.W.codeIn K cd57 "means_from" = true) (k57 : PySem.W.keepIn K (.ref f57) = true)
    (a67 : PySem.W.nsIn K mainGlobals "between" = some (some (.ref f67)))
    (l67 : K.lookup f67 = some ⟨oc67, od67, .func (PySem.W.fnOf "between" "between" (defArgs (topS 26)) (defBody (topS 26)) (defScope (topS 26)) .none kV67 dc67 pm67 an67 cd67 ct67), sl67⟩)
    (c67 : PySem.W.codeIn K cd67 "between" = true) (k67 : PySem.W.keepIn K (.ref f67) = true)
    (a16 : PySem.W.nsIn K mainGlobals "_law_cell_at" = some (some (.ref f16)))
    (l16 : K.lookup f16 = some ⟨oc16, od16, .func (PySem.W.fnOf "_law_cell_at" "_law_cell_at" (defArgs (topS 28)) (defBody (topS 28)) (defScope (topS 28)) .none kV16 dc16 pm16 an16 cd16 ct16), sl16⟩)
    (c16 : PySem.W.codeIn K cd16 "_law_cell_at" = true) (k16 : PySem.W.keepIn K (.ref f16) = true)
    (a17 : PySem.W.nsIn K mainGlobals "_law_draw" = some (some (.ref f17)))
    (l17 : K.lookup f17 = some ⟨oc17, od17, .func (PySem.W.fnOf "_law_draw" "_law_draw" (defArgs (topS 29)) (defBody (topS 29)) (defScope (topS 29)) .none kV17 dc17 pm17 an17 cd17 ct17), sl17⟩)
    (c17 : PySem.W.codeIn K cd17 "_law_draw" = true) (k17 : PySem.W.keepIn K (.ref f17) = true)
    (a18 : PySem.W.nsIn K mainGlobals "_law_value" = some (some (.ref f18)))
    (l18 : K.lookup f18 = some ⟨oc18, od18, .func (PySem.W.fnOf "_law_value" "_law_value" (defArgs (topS 30)) (defBody (topS 30)) (defScope (topS 30)) .none kV18 dc18 pm18 an18 cd18 ct18), sl18⟩)
    (c18 : PySem.W.codeIn K cd18 "_law_value" = true) (k18 : PySem.W.keepIn K (.ref f18) = true)
    (a19 : PySem.W.nsIn K mainGlobals "_law_low" = some (some (.ref f19)))
    (l19 : K.lookup f19 = some ⟨oc19, od19, .func (PySem.W.fnOf "_law_low" "_law_low" (defArgs (topS 31)) (defBody (topS 31)) (defScope (topS 31)) .none kV19 dc19 pm19 an19 cd19 ct19), sl19⟩)
    (c19 : PySem.W.codeIn K cd19 "_law_low" = true) (k19 : PySem.W.keepIn K (.ref f19) = true)
    (a69 : PySem.W.nsIn K mainGlobals "_law_add" = some (some (.ref f69)))
    (l69 : K.lookup f69 = some ⟨oc69, od69, .func (PySem.W.fnOf "_law_add" "_law_add" (defArgs (topS 32)) (defBody (topS 32)) (defScope (topS 32)) .none kV69 dc69 pm69 an69 cd69 ct69), sl69⟩)
    (c69 : PySem.W.codeIn K cd69 "_law_add" = true) (k69 : PySem.W.keepIn K (.ref f69) = true)
    (a43 : PySem.W.nsIn K mainGlobals "_law_by" = some (some (.ref f43)))
    (l43 : K.lookup f43 = some ⟨oc43, od43, .func (PySem.W.fnOf "_law_by" "_law_by" (defArgs (topS 33)) (defBody (topS 33)) (defScope (topS 33)) .none kV43 dc43 pm43 an43 cd43 ct43), sl43⟩)
    (c43 : PySem.W.codeIn K cd43 "_law_by" = true) (k43 : PySem.W.keepIn K (.ref f43) = true)
    (a20 : PySem.W.nsIn K mainGlobals "_law_whole" = some (some (.ref f20)))
    (l20 : K.lookup f20 = some ⟨oc20, od20, .func (PySem.W.fnOf "_law_whole" "_law_whole" (defArgs (topS 34)) (defBody (topS 34)) (defScope (topS 34)) .none kV20 dc20 pm20 an20 cd20 ct20), sl20⟩)
    (c20 : PySem.W.codeIn K cd20 "_law_whole" = true) (k20 : PySem.W.keepIn K (.ref f20) = true)
    (a21 : PySem.W.nsIn K mainGlobals "_law_is_share" = some (some (.ref f21)))
    (l21 : K.lookup f21 = some ⟨oc21, od21, .func (PySem.W.fnOf "_law_is_share" "_law_is_share" (defArgs (topS 35)) (defBody (topS 35)) (defScope (topS 35)) .none kV21 dc21 pm21 an21 cd21 ct21), sl21⟩)
    (c21 : PySem.W.codeIn K cd21 "_law_is_share" = true) (k21 : PySem.W.keepIn K (.ref f21) = true)
    (a58 : PySem.W.nsIn K mainGlobals "_law_are_shares" = some (some (.ref f58)))
    (l58 : K.lookup f58 = some ⟨oc58, od58, .func (PySem.W.fnOf "_law_are_shares" "_law_are_shares" (defArgs (topS 36)) (defBody (topS 36)) (defScope (topS 36)) .none kV58 dc58 pm58 an58 cd58 ct58), sl58⟩)
    (c58 : PySem.W.codeIn K cd58 "_law_are_shares" = true) (k58 : PySem.W.keepIn K (.ref f58) = true)
    (a24 : PySem.W.nsIn K mainGlobals "_law_share" = some (some (.ref f24)))
    (l24 : K.lookup f24 = some ⟨oc24, od24, .func (PySem.W.fnOf "_law_share" "_law_share" (defArgs (topS 37)) (defBody (topS 37)) (defScope (topS 37)) .none kV24 dc24 pm24 an24 cd24 ct24), sl24⟩)
    (c24 : PySem.W.codeIn K cd24 "_law_share" = true) (k24 : PySem.W.keepIn K (.ref f24) = true)
    (a25 : PySem.W.nsIn K mainGlobals "_law_shares" = some (some (.ref f25)))
    (l25 : K.lookup f25 = some ⟨oc25, od25, .func (PySem.W.fnOf "_law_shares" "_law_shares" (defArgs (topS 38)) (defBody (topS 38)) (defScope (topS 38)) .none kV25 dc25 pm25 an25 cd25 ct25), sl25⟩)
    (c25 : PySem.W.codeIn K cd25 "_law_shares" = true) (k25 : PySem.W.keepIn K (.ref f25) = true)
    (a65 : PySem.W.nsIn K mainGlobals "_law_nested" = some (some (.ref f65)))
    (l65 : K.lookup f65 = some ⟨oc65, od65, .func (PySem.W.fnOf "_law_nested" "_law_nested" (defArgs (topS 39)) (defBody (topS 39)) (defScope (topS 39)) .none kV65 dc65 pm65 an65 cd65 ct65), sl65⟩)
    (c65 : PySem.W.codeIn K cd65 "_law_nested" = true) (k65 : PySem.W.keepIn K (.ref f65) = true)
    (a66 : PySem.W.nsIn K mainGlobals "_law_of_kind" = some (some (.ref f66)))
    (l66 : K.lookup f66 = some ⟨oc66, od66, .func (PySem.W.fnOf "_law_of_kind" "_law_of_kind" (defArgs (topS 40)) (defBody (topS 40)) (defScope (topS 40)) .none kV66 dc66 pm66 an66 cd66 ct66), sl66⟩)
    (c66 : PySem.W.codeIn K cd66 "_law_of_kind" = true) (k66 : PySem.W.keepIn K (.ref f66) = true)
    (a68 : PySem.W.nsIn K mainGlobals "_law_groupings" = some (some (.ref f68)))
    (l68 : K.lookup f68 = some ⟨oc68, od68, .func (PySem.W.fnOf "_law_groupings" "_law_groupings" (defArgs (topS 41)) (defBody (topS 41)) (defScope (topS 41)) .none kV68 dc68 pm68 an68 cd68 ct68), sl68⟩)
    (c68 : PySem.W.codeIn K cd68 "_law_groupings" = true) (k68 : PySem.W.keepIn K (.ref f68) = true)
    (a70 : PySem.W.nsIn K mainGlobals "law" = some (some (.ref f70)))
    (l70 : K.lookup f70 = some ⟨oc70, od70, .func (PySem.W.fnOf "law" "law" (defArgs (topS 42)) (defBody (topS 42)) (defScope (topS 42)) .none kV70 dc70 pm70 an70 cd70 ct70), sl70⟩)
    (c70 : PySem.W.codeIn K cd70 "law" = true) (k70 : PySem.W.keepIn K (.ref f70) = true)
    (z_len : PySem.W.nsIn K mainGlobals "len" = some none)
    (z_abs : PySem.W.nsIn K mainGlobals "abs" = some none)
    (z_sum : PySem.W.nsIn K mainGlobals "sum" = some none)
    (z_all : PySem.W.nsIn K mainGlobals "all" = some none)
    (z_any : PySem.W.nsIn K mainGlobals "any" = some none)
    (z_max : PySem.W.nsIn K mainGlobals "max" = some none)
    (z_min : PySem.W.nsIn K mainGlobals "min" = some none)
    (z_sorted : PySem.W.nsIn K mainGlobals "sorted" = some none)
    (z_list : PySem.W.nsIn K mainGlobals "list" = some none)
    (z_tuple : PySem.W.nsIn K mainGlobals "tuple" = some none)
    (z_int : PySem.W.nsIn K mainGlobals "int" = some none)
    (z_bool : PySem.W.nsIn K mainGlobals "bool" = some none)
    (z_str : PySem.W.nsIn K mainGlobals "str" = some none)
    (z_isinstance : PySem.W.nsIn K mainGlobals "isinstance" = some none)
    (z_range : PySem.W.nsIn K mainGlobals "range" = some none)
    (z_enumerate : PySem.W.nsIn K mainGlobals "enumerate" = some none)
    (z_zip : PySem.W.nsIn K mainGlobals "zip" = some none)
    (g4 : PySem.W.nsIn K mainGlobals "KINDS" = some (some (.ref ag4)))
    (gl4 : K.lookup ag4 = some ⟨.type "tuple", og4, .seq #[.str (PySem.Str.ofString "all") tg4_0, .str (PySem.Str.ofString "nested") tg4_1, .str (PySem.Str.ofString "rows") tg4_2] ng4, sg4⟩)
    (g5 : PySem.W.nsIn K mainGlobals "LONGEST" = some (some (.int 10 tg5)))
    (g6 : PySem.W.nsIn K mainGlobals "ONE" = some (some (.ref ag6)))
    (gl6 : K.lookup ag6 = some ⟨.type "tuple", og6, .seq #[.int 1 tg6_0, .int 1 tg6_1] ng6, sg6⟩)
    (g7 : PySem.W.nsIn K mainGlobals "NOUGHT" = some (some (.ref ag7)))
    (gl7 : K.lookup ag7 = some ⟨.type "tuple", og7, .seq #[.int 0 tg7_0, .int 1 tg7_1] ng7, sg7⟩) :
    ∃ fd : FuncData, (∀ (s : Shared) (u : Value), BindsTo s fd ⟨[u], []⟩ [("_law_script", u)]) ∧ ∀ base : Heap, K.In base → base.Ns mainGlobals mg →
      FnOk PySem.Challenge.rw_meanloom_k20_whole_between.prog w K mg base CX0 24 fa fd ["_law_script"] (spC K 1 (runD (Pr.tab 23) D70)) := by
  have e := hfa.symm.trans (PySem.W.mg_of X G a70)
  cases e
  have defs : ∀ f x, MM.fn f = some x → DefOk MM Pr K mg f x := by
    intro f x hf
    have hm := look_mem (show nmF.lookup f = some x from hf)
    unfold nmF at hm
    simp only [List.mem_cons, Prod.mk.injEq, List.not_mem_nil, or_false] at hm
    rcases hm with ⟨rfl, rfl⟩ | ⟨rfl, rfl⟩ | ⟨rfl, rfl⟩ | ⟨rfl, rfl⟩ | ⟨rfl, rfl⟩ | ⟨rfl, rfl⟩ | ⟨rfl, rfl⟩ | ⟨rfl, rfl⟩ | ⟨rfl, rfl⟩ | ⟨rfl, rfl⟩ | ⟨rfl, rfl⟩ | ⟨rfl, rfl⟩ | ⟨rfl, rfl⟩ | ⟨rfl, rfl⟩ | ⟨rfl, rfl⟩ | ⟨rfl, rfl⟩ | ⟨rfl, rfl⟩ | ⟨rfl, rfl⟩ | ⟨rfl, rfl⟩ | ⟨rfl, rfl⟩ | ⟨rfl, rfl⟩ | ⟨rfl, rfl⟩ | ⟨rfl, rfl⟩ | ⟨rfl, rfl⟩ | ⟨rfl, rfl⟩ | ⟨rfl, rfl⟩ | ⟨rfl, rfl⟩ | ⟨rfl, rfl⟩ | ⟨rfl, rfl⟩ | ⟨rfl, rfl⟩ | ⟨rfl, rfl⟩
    · have F := fun_mk (st := topS 7) l1 c1 k1
      exact ⟨["thing"], ["thing"], topS 7, _, _, F, PySem.W.mg_of X G a1, F.binds (ps := ["thing"]) (fun _ _ _ _ _ _ us hl => match us, hl with | [_], _ => rfl), .inl ⟨D1, rfl, chk1, fun hr => absurd (show nmR.contains 1 = true from hr) (by decide)⟩⟩
    · have F := fun_mk (st := topS 8) l2 c2 k2
      exact ⟨["one", "other"], ["one", "other"], topS 8, _, _, F, PySem.W.mg_of X G a2, F.binds (ps := ["one", "other"]) (fun _ _ _ _ _ _ us hl => match us, hl with | [_, _], _ => rfl), .inl ⟨D2, rfl, chk2, fun hr => absurd (show nmR.contains 2 = true from hr) (by decide)⟩⟩
    · have F := fun_mk (st := topS 9) l3 c3 k3
      exact ⟨["top", "bottom", "by"], ["top", "bottom"], topS 9, _, _, F, PySem.W.mg_of X G a3, F.binds (ps := ["top", "bottom"]) (fun _ _ _ _ _ _ us hl => match us, hl with | [_, _], _ => rfl), .inl ⟨D3, rfl, chk3, fun hr => absurd (show nmR.contains 3 = true from hr) (by decide)⟩⟩
    · have F := fun_mk (st := topS 10) l4 c4 k4
      exact ⟨["thing"], ["thing"], topS 10, _, _, F, PySem.W.mg_of X G a4, F.binds (ps := ["thing"]) (fun _ _ _ _ _ _ us hl => match us, hl with | [_], _ => rfl), .inl ⟨D4, rfl, chk4, fun hr => absurd (show nmR.contains 4 = true from hr) (by decide)⟩⟩
    · have F := fun_mk (st := topS 11) l7 c7 k7
      exact ⟨["one", "other"], ["one", "other"], topS 11, _, _, F, PySem.W.mg_of X G a7, F.binds (ps := ["one", "other"]) (fun _ _ _ _ _ _ us hl => match us, hl with | [_, _], _ => rfl), .inl ⟨D7, rfl, chk7, fun hr => absurd (show nmR.contains 7 = true from hr) (by decide)⟩⟩
    · have F := fun_mk (st := topS 12) l8 c8 k8
      exact ⟨["one", "other"], ["one", "other"], topS 12, _, _, F, PySem.W.mg_of X G a8, F.binds (ps := ["one", "other"]) (fun _ _ _ _ _ _ us hl => match us, hl with | [_, _], _ => rfl), .inl ⟨D8, rfl, chk8, fun hr => absurd (show nmR.contains 8 = true from hr) (by decide)⟩⟩
    · have F := fun_mk (st := topS 13) l9 c9 k9
      exact ⟨["one", "other"], ["one", "other"], topS 13, _, _, F, PySem.W.mg_of X G a9, F.binds (ps := ["one", "other"]) (fun _ _ _ _ _ _ us hl => match us, hl with | [_, _], _ => rfl), .inl ⟨D9, rfl, chk9, fun hr => absurd (show nmR.contains 9 = true from hr) (by decide)⟩⟩
    · have F := fun_mk (st := topS 16) l53 c53 k53
      exact ⟨["kind"], ["kind"], topS 16, _, _, F, PySem.W.mg_of X G a53, F.binds (ps := ["kind"]) (fun _ _ _ _ _ _ us hl => match us, hl with | [_], _ => rfl), .inl ⟨D53, rfl, chk53, fun hr => absurd (show nmR.contains 53 = true from hr) (by decide)⟩⟩
    · have F := fun_mk (st := topS 19) l52 c52 k52
      exact ⟨["means", "one"], ["means"], topS 19, _, _, F, PySem.W.mg_of X G a52, F.binds (ps := ["means"]) (fun _ _ _ _ _ _ us hl => match us, hl with | [_], _ => rfl), .inl ⟨D52, rfl, chk52, fun hr => absurd (show nmR.contains 52 = true from hr) (by decide)⟩⟩
    · have F := fun_mk (st := topS 20) l49 c49 k49
      exact ⟨["many", "some", "found", "step"], ["many", "some"], topS 20, _, _, F, PySem.W.mg_of X G a49, F.binds (ps := ["many", "some"]) (fun _ _ _ _ _ _ us hl => match us, hl with | [_, _], _ => rfl), .inl ⟨D49, rfl, chk49, fun hr => absurd (show nmR.contains 49 = true from hr) (by decide)⟩⟩
    · have F := fun_mk (st := topS 21) l51 c51 k51
      exact ⟨["kind", "means", "many", "size", "rest"], ["kind", "means", "many", "size"], topS 21, _, _, F, PySem.W.mg_of X G a51, F.binds (ps := ["kind", "means", "many", "size"]) (fun _ _ _ _ _ _ us hl => match us, hl with | [_, _, _, _], _ => rfl), .inl ⟨D51, rfl, chk51, fun hr => absurd (show nmR.contains 51 = true from hr) (by decide)⟩⟩
    · have F := fun_mk (st := topS 22) l50 c50 k50
      exact ⟨["means", "size", "rest", "row", "found", "turn", "longer", "many", "gain", "first"], ["means", "size", "rest"], topS 22, _, _, F, PySem.W.mg_of X G a50, F.binds (ps := ["means", "size", "rest"]) (fun _ _ _ _ _ _ us hl => match us, hl with | [_, _, _], _ => rfl), .inl ⟨D50, rfl, chk50, fun hr => absurd (show nmR.contains 50 = true from hr) (by decide)⟩⟩
    · have F := fun_mk (st := topS 23) l54 c54 k54
      exact ⟨["means", "kind", "found", "many", "gain", "size"], ["means", "kind"], topS 23, _, _, F, PySem.W.mg_of X G a54, F.binds (ps := ["means", "kind"]) (fun _ _ _ _ _ _ us hl => match us, hl with | [_, _], _ => rfl), .inl ⟨D54, rfl, chk54, fun _ => chf54⟩⟩
    · have F := fun_mk (st := topS 24) l55 c55 k55
      exact ⟨["sums", "kind", "found", "many", "gain", "size"], ["sums", "kind"], topS 24, _, _, F, PySem.W.mg_of X G a55, F.binds (ps := ["sums", "kind"]) (fun _ _ _ _ _ _ us hl => match us, hl with | [_, _], _ => rfl), .inl ⟨D55, rfl, chk55, fun _ => chf55⟩⟩
    · have F := fun_mk (st := topS 25) l57 c57 k57
      exact ⟨["sums", "kind"], ["sums", "kind"], topS 25, _, _, F, PySem.W.mg_of X G a57, F.binds (ps := ["sums", "kind"]) (fun _ _ _ _ _ _ us hl => match us, hl with | [_, _], _ => rfl), .inl ⟨D57, rfl, chk57, fun _ => chf57⟩⟩
    · have F := fun_mk (st := topS 26) l67 c67 k67
      exact ⟨["sums", "kind", "other"], ["sums", "kind", "other"], topS 26, _, _, F, PySem.W.mg_of X G a67, F.binds (ps := ["sums", "kind", "other"]) (fun _ _ _ _ _ _ us hl => match us, hl with | [_, _, _], _ => rfl), .inl ⟨D67, rfl, chk67, fun _ => chf67⟩⟩
    · have F := fun_mk (st := topS 28) l16 c16 k16
      exact ⟨["_law_script", "_law_k"], ["_law_script", "_law_k"], topS 28, _, _, F, PySem.W.mg_of X G a16, F.binds (ps := ["_law_script", "_law_k"]) (fun _ _ _ _ _ _ us hl => match us, hl with | [_, _], _ => rfl), .inl ⟨D16, rfl, chk16, fun hr => absurd (show nmR.contains 16 = true from hr) (by decide)⟩⟩
    · have F := fun_mk (st := topS 29) l17 c17 k17
      exact ⟨["_law_cell", "_law_k", "_law_many", "_law_primes"], ["_law_cell", "_law_k", "_law_many"], topS 29, _, _, F, PySem.W.mg_of X G a17, F.binds (ps := ["_law_cell", "_law_k", "_law_many"]) (fun _ _ _ _ _ _ us hl => match us, hl with | [_, _, _], _ => rfl), .inl ⟨D17, rfl, chk17, fun hr => absurd (show nmR.contains 17 = true from hr) (by decide)⟩⟩
    · have F := fun_mk (st := topS 30) l18 c18 k18
      exact ⟨["_law_cell", "_law_turn", "_law_mixed"], ["_law_cell", "_law_turn"], topS 30, _, _, F, PySem.W.mg_of X G a18, F.binds (ps := ["_law_cell", "_law_turn"]) (fun _ _ _ _ _ _ us hl => match us, hl with | [_, _], _ => rfl), .inl ⟨D18, rfl, chk18, fun hr => absurd (show nmR.contains 18 = true from hr) (by decide)⟩⟩
    · have F := fun_mk (st := topS 31) l19 c19 k19
      exact ⟨["_law_top", "_law_bottom", "_law_one", "_law_other"], ["_law_top", "_law_bottom"], topS 31, _, _, F, PySem.W.mg_of X G a19, F.binds (ps := ["_law_top", "_law_bottom"]) (fun _ _ _ _ _ _ us hl => match us, hl with | [_, _], _ => rfl), .inl ⟨D19, rfl, chk19, fun hr => absurd (show nmR.contains 19 = true from hr) (by decide)⟩⟩
    · have F := fun_mk (st := topS 32) l69 c69 k69
      exact ⟨["_law_one", "_law_other"], ["_law_one", "_law_other"], topS 32, _, _, F, PySem.W.mg_of X G a69, F.binds (ps := ["_law_one", "_law_other"]) (fun _ _ _ _ _ _ us hl => match us, hl with | [_, _], _ => rfl), .inl ⟨D69, rfl, chk69, fun hr => absurd (show nmR.contains 69 = true from hr) (by decide)⟩⟩
    · have F := fun_mk (st := topS 33) l43 c43 k43
      exact ⟨["_law_one", "_law_other"], ["_law_one", "_law_other"], topS 33, _, _, F, PySem.W.mg_of X G a43, F.binds (ps := ["_law_one", "_law_other"]) (fun _ _ _ _ _ _ us hl => match us, hl with | [_, _], _ => rfl), .inl ⟨D43, rfl, chk43, fun hr => absurd (show nmR.contains 43 = true from hr) (by decide)⟩⟩
    · have F := fun_mk (st := topS 34) l20 c20 k20
      exact ⟨["_law_number"], ["_law_number"], topS 34, _, _, F, PySem.W.mg_of X G a20, F.binds (ps := ["_law_number"]) (fun _ _ _ _ _ _ us hl => match us, hl with | [_], _ => rfl), .inl ⟨D20, rfl, chk20, fun hr => absurd (show nmR.contains 20 = true from hr) (by decide)⟩⟩
    · have F := fun_mk (st := topS 35) l21 c21 k21
      exact ⟨["_law_found"], ["_law_found"], topS 35, _, _, F, PySem.W.mg_of X G a21, F.binds (ps := ["_law_found"]) (fun _ _ _ _ _ _ us hl => match us, hl with | [_], _ => rfl), .inl ⟨D21, rfl, chk21, fun hr => absurd (show nmR.contains 21 = true from hr) (by decide)⟩⟩
    · have F := fun_mk (st := topS 36) l58 c58 k58
      exact ⟨["_law_found", "_law_one"], ["_law_found"], topS 36, _, _, F, PySem.W.mg_of X G a58, F.binds (ps := ["_law_found"]) (fun _ _ _ _ _ _ us hl => match us, hl with | [_], _ => rfl), .inl ⟨D58, rfl, chk58, fun hr => absurd (show nmR.contains 58 = true from hr) (by decide)⟩⟩
    · have F := fun_mk (st := topS 37) l24 c24 k24
      exact ⟨["_law_number", "_law_wide"], ["_law_number", "_law_wide"], topS 37, _, _, F, PySem.W.mg_of X G a24, F.binds (ps := ["_law_number", "_law_wide"]) (fun _ _ _ _ _ _ us hl => match us, hl with | [_, _], _ => rfl), .inl ⟨D24, rfl, chk24, fun hr => absurd (show nmR.contains 24 = true from hr) (by decide)⟩⟩
    · have F := fun_mk (st := topS 38) l25 c25 k25
      exact ⟨["_law_cell", "_law_many", "_law_wide", "_law_turn"], ["_law_cell", "_law_many", "_law_wide"], topS 38, _, _, F, PySem.W.mg_of X G a25, F.binds (ps := ["_law_cell", "_law_many", "_law_wide"]) (fun _ _ _ _ _ _ us hl => match us, hl with | [_, _, _], _ => rfl), .inl ⟨D25, rfl, chk25, fun _ => chf25⟩⟩
    · have F := fun_mk (st := topS 39) l65 c65 k65
      exact ⟨["_law_grouping", "_law_at", "_law_one", "_law_other", "_law_a", "_law_c", "_law_inside", "_law_thing"], ["_law_grouping"], topS 39, _, _, F, PySem.W.mg_of X G a65, F.binds (ps := ["_law_grouping"]) (fun _ _ _ _ _ _ us hl => match us, hl with | [_], _ => rfl), .inl ⟨D65, rfl, chk65, fun hr => absurd (show nmR.contains 65 = true from hr) (by decide)⟩⟩
    · have F := fun_mk (st := topS 40) l66 c66 k66
      exact ⟨["_law_grouping", "_law_kind", "_law_group"], ["_law_grouping", "_law_kind"], topS 40, _, _, F, PySem.W.mg_of X G a66, F.binds (ps := ["_law_grouping", "_law_kind"]) (fun _ _ _ _ _ _ us hl => match us, hl with | [_, _], _ => rfl), .inl ⟨D66, rfl, chk66, fun hr => absurd (show nmR.contains 66 = true from hr) (by decide)⟩⟩
    · have F := fun_mk (st := topS 41) l68 c68 k68
      exact ⟨["_law_many", "_law_kind", "_law_found", "_law_thing", "_law_longer", "_law_grouping", "_law_at", "_law_group"], ["_law_many", "_law_kind"], topS 41, _, _, F, PySem.W.mg_of X G a68, F.binds (ps := ["_law_many", "_law_kind"]) (fun _ _ _ _ _ _ us hl => match us, hl with | [_, _], _ => rfl), .inl ⟨D68, rfl, chk68, fun _ => chf68⟩⟩
    · have F := fun_mk (st := topS 42) l70 c70 k70
      exact ⟨["_law_script", "_law_cell", "_law_many", "_law_sums", "_law_kind", "_law_other", "_law_handed", "_law_found", "_law_rows", "_law_size", "_law_due", "_law_grouping", "_law_gain", "_law_group"], ["_law_script"], topS 42, _, _, F, PySem.W.mg_of X G a70, F.binds (ps := ["_law_script"]) (fun _ _ _ _ _ _ us hl => match us, hl with | [_], _ => rfl), .inl ⟨D70, rfl, chk70, fun hr => absurd (show nmR.contains 70 = true from hr) (by decide)⟩⟩
  have defsH : ∀ f x, MM.hn f = some x → DefOkH MM Pr K mg f x := by
    intro f x hf
    have hm := look_mem (show nmH.lookup f = some x from hf)
    unfold nmH at hm
    exact absurd hm (by simp)
  have bis : ∀ x ∈ biNames, mg (Str.ofString x) = none := by
    intro x hx
    simp only [biNames, List.mem_cons, List.not_mem_nil, or_false] at hx
    rcases hx with rfl | rfl | rfl | rfl | rfl | rfl | rfl | rfl | rfl | rfl | rfl | rfl | rfl | rfl | rfl | rfl | rfl
    · exact PySem.W.mg_none_of X G z_len
    · exact PySem.W.mg_none_of X G z_abs
    · exact PySem.W.mg_none_of X G z_sum
    · exact PySem.W.mg_none_of X G z_all
    · exact PySem.W.mg_none_of X G z_any
    · exact PySem.W.mg_none_of X G z_max
    · exact PySem.W.mg_none_of X G z_min
    · exact PySem.W.mg_none_of X G z_sorted
    · exact PySem.W.mg_none_of X G z_list
    · exact PySem.W.mg_none_of X G z_tuple
    · exact PySem.W.mg_none_of X G z_int
    · exact PySem.W.mg_none_of X G z_bool
    · exact PySem.W.mg_none_of X G z_str
    · exact PySem.W.mg_none_of X G z_isinstance
    · exact PySem.W.mg_none_of X G z_range
    · exact PySem.W.mg_none_of X G z_enumerate
    · exact PySem.W.mg_none_of X G z_zip
  have gls : ∀ g x v, MM.gl g = some x → Pr.G g = some v → ∃ u y, mg x = some u ∧ RelV y u ∧ ∀ H O, Rep K H O v y := by
    intro g x v hg hv
    have hm := look_mem (show nmG.lookup g = some x from hg)
    unfold nmG at hm
    simp only [List.mem_cons, Prod.mk.injEq, List.not_mem_nil, or_false] at hm
    rcases hm with ⟨rfl, rfl⟩ | ⟨rfl, rfl⟩ | ⟨rfl, rfl⟩ | ⟨rfl, rfl⟩
    · cases (show some (Val.tup [.str (PySem.Str.ofString "all"), .str (PySem.Str.ofString "nested"), .str (PySem.Str.ofString "rows")]) = some v from hv)
      refine ⟨_, .ref ag4, PySem.W.mg_of X G g4, rfl, fun H O => ?_⟩
      simp only [Rep, Reps]
      exact ⟨ag4, [.str (PySem.Str.ofString "all"), .str (PySem.Str.ofString "nested"), .str (PySem.Str.ofString "rows")], rfl, .inr ⟨_, _, _, gl4, rfl, rfl, (show 3 ≤ sizeLine by rw [sizeLine_eq]; decide), (.cons ⟨_, rfl⟩ (.cons ⟨_, rfl⟩ (.cons ⟨_, rfl⟩ .nil)))⟩, _, _, rfl, rfl, _, _, rfl, rfl, _, _, rfl, rfl, rfl⟩
    · cases (show some (Val.int 10) = some v from hv)
      exact ⟨_, .int 10, PySem.W.mg_of X G g5, ⟨_, rfl⟩, fun H O => by simp only [Rep]⟩
    · cases (show some (Val.tup [.int 1, .int 1]) = some v from hv)
      refine ⟨_, .ref ag6, PySem.W.mg_of X G g6, rfl, fun H O => ?_⟩
      simp only [Rep, Reps]
      exact ⟨ag6, [.int 1, .int 1], rfl, .inr ⟨_, _, _, gl6, rfl, rfl, (show 2 ≤ sizeLine by rw [sizeLine_eq]; decide), (.cons ⟨_, rfl⟩ (.cons ⟨_, rfl⟩ .nil))⟩, _, _, rfl, rfl, _, _, rfl, rfl, rfl⟩
    · cases (show some (Val.tup [.int 0, .int 1]) = some v from hv)
      refine ⟨_, .ref ag7, PySem.W.mg_of X G g7, rfl, fun H O => ?_⟩
      simp only [Rep, Reps]
      exact ⟨ag7, [.int 0, .int 1], rfl, .inr ⟨_, _, _, gl7, rfl, rfl, (show 2 ≤ sizeLine by rw [sizeLine_eq]; decide), (.cons ⟨_, rfl⟩ (.cons ⟨_, rfl⟩ .nil))⟩, _, _, rfl, rfl, _, _, rfl, rfl, rfl⟩
  exact ⟨_, fun s v => .of_eq rfl, fun base KB GB => fn_ok (fun_mk (st := topS 42) l70 c70 k70) chk70 (prog_facts defs defsH gls bis 23)⟩
end
end VM
open PySem PySem.W PyProof.Rows
set_option maxHeartbeats 0 in
theorem PySem.Challenge.cw_meanloom_k20_whole_between_holds : PySem.Challenge.rw_meanloom_k20_whole_between.Holds := by
  w_on; o_law; k_head; (case hw => w_witness2)
  k_fill
  refine VM.walk_plain (l := PySem.Challenge.rw_meanloom_k20_whole_between) (k := 24) (x := "_law_script") (g := VM.runD (VM.Pr.tab 23) VM.D70) rfl rfl ⟨rfl, by decide, by decide⟩ (fun w h Y => PySem.W.kIn_of Y) ?F VM.law_plain
  case F =>
    intro w mg fa h KX G hmg
    refine' VM.all_mk KX G hmg ?a1 ?l1 ?c1 ?k1 ?a2 ?l2 ?c2 ?k2 ?a3 ?l3 ?c3 ?k3 ?a4 ?l4 ?c4 ?k4 ?a7 ?l7 ?c7 ?k7 ?a8 ?l8 ?c8 ?k8 ?a9 ?l9 ?c9 ?k9 ?a53 ?l53 ?c53 ?k53 ?a52 ?l52 ?c52 ?k52 ?a49 ?l49 ?c49 ?k49 ?a51 ?l51 ?c51 ?k51 ?a50 ?l50 ?c50 ?k50 ?a54 ?l54 ?c54 ?k54 ?a55 ?l55 ?c55 ?k55 ?a57 ?l57 ?c57 ?k57 ?a67 ?l67 ?c67 ?k67 ?a16 ?l16 ?c16 ?k16 ?a17 ?l17 ?c17 ?k17 ?a18 ?l18 ?c18 ?k18 ?a19 ?l19 ?c19 ?k19 ?a69 ?l69 ?c69 ?k69 ?a43 ?l43 ?c43 ?k43 ?a20 ?l20 ?c20 ?k20 ?a21 ?l21 ?c21 ?k21 ?a58 ?l58 ?c58 ?k58 ?a24 ?l24 ?c24 ?k24 ?a25 ?l25 ?c25 ?k25 ?a65 ?l65 ?c65 ?k65 ?a66 ?l66 ?c66 ?k66 ?a68 ?l68 ?c68 ?k68 ?a70 ?l70 ?c70 ?k70 ?z_len ?z_abs ?z_sum ?z_all ?z_any ?z_max ?z_min ?z_sorted ?z_list ?z_tuple ?z_int ?z_bool ?z_str ?z_isinstance ?z_range ?z_enumerate ?z_zip ?g4 ?gl4 ?g5 ?g6 ?gl6 ?g7 ?gl7
    (case a1 => k_is); (case l1 => k_is); (case c1 => k_is); (case k1 => k_is); (case a2 => k_is); (case l2 => k_is); (case c2 => k_is); (case k2 => k_is); (case a3 => k_is); (case l3 => k_is); (case c3 => k_is); (case k3 => k_is); (case a4 => k_is); (case l4 => k_is); (case c4 => k_is); (case k4 => k_is); (case a7 => k_is); (case l7 => k_is); (case c7 => k_is); (case k7 => k_is); (case a8 => k_is); (case l8 => k_is); (case c8 => k_is); (case k8 => k_is); (case a9 => k_is); (case l9 => k_is); (case c9 => k_is); (case k9 => k_is); (case a53 => k_is); (case l53 => k_is); (case c53 => k_is); (case k53 => k_is); (case a52 => k_is); (case l52 => k_is); (case c52 => k_is); (case k52 => k_is); (case a49 => k_is); (case l49 => k_is); (case c49 => k_is); (case k49 => k_is); (case a51 => k_is); (case l51 => k_is); (case c51 => k_is); (case k51 => k_is); (case a50 => k_is); (case l50 => k_is); (case c50 => k_is); (case k50 => k_is); (case a54 => k_is); (case l54 => k_is); (case c54 => k_is); (case k54 => k_is); (case a55 => k_is); (case l55 => k_is); (case c55 => k_is); (case k55 => k_is); (case a57 => k_is); (case l57 => k_is); (case c57 => k_is); (case k57 => k_is); (case a67 => k_is); (case l67 => k_is); (case c67 => k_is); (case k67 => k_is); (case a16 => k_is); (case l16 => k_is); (case c16 => k_is); (case k16 => k_is); (case a17 => k_is); (case l17 => k_is); (case c17 => k_is); (case k17 => k_is); (case a18 => k_is); (case l18 => k_is); (case c18 => k_is); (case k18 => k_is); (case a19 => k_is); (case l19 => k_is); (case c19 => k_is); (case k19 => k_is); (case a69 => k_is); (case l69 => k_is); (case c69 => k_is); (case k69 => k_is); (case a43 => k_is); (case l43 => k_is); (case c43 => k_is); (case k43 => k_is); (case a20 => k_is); (case l20 => k_is); (case c20 => k_is); (case k20 => k_is); (case a21 => k_is); (case l21 => k_is); (case c21 => k_is); (case k21 => k_is); (case a58 => k_is); (case l58 => k_is); (case c58 => k_is); (case k58 => k_is); (case a24 => k_is); (case l24 => k_is); (case c24 => k_is); (case k24 => k_is); (case a25 => k_is); (case l25 => k_is); (case c25 => k_is); (case k25 => k_is); (case a65 => k_is); (case l65 => k_is); (case c65 => k_is); (case k65 => k_is); (case a66 => k_is); (case l66 => k_is); (case c66 => k_is); (case k66 => k_is); (case a68 => k_is); (case l68 => k_is); (case c68 => k_is); (case k68 => k_is); (case a70 => k_is); (case l70 => k_is); (case c70 => k_is); (case k70 => k_is); (case z_len => k_is); (case z_abs => k_is); (case z_sum => k_is); (case z_all => k_is); (case z_any => k_is); (case z_max => k_is); (case z_min => k_is); (case z_sorted => k_is); (case z_list => k_is); (case z_tuple => k_is); (case z_int => k_is); (case z_bool => k_is); (case z_str => k_is); (case z_isinstance => k_is); (case z_range => k_is); (case z_enumerate => k_is); (case z_zip => k_is); (case g4 => k_is); (case gl4 => k_is); (case g5 => k_is); (case g6 => k_is); (case gl6 => k_is); (case g7 => k_is); (case gl7 => k_is)


