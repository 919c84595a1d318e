import PyProof.Rows.All
import Wide.All
import OpenK.AllK
import Wide.FinOn
import HandS.ForMost
import HandS.ForExc
import HandS.HeadHook4
import HandS.Wide
import HandS.WideBits
import HandS.Style
import HandS.TupLe
import HandS.TupAny
import HandS.IsInst
import HandS.Strs
import HandS.SetKeys
import HandS.Zip
import HandS.Deep
import HandS.More
import PyProof.NeData
import HandS.Small
import HandS.Head0
import HandS.Head1
import HandS.Head2
import HandS.HeadEnd
import HandS.HeadWalk
import PySem.Challenge.RW_ohmyard_k81_names
set_option Elab.async false
set_option linter.all false
set_option maxRecDepth 100000
set_option maxHeartbeats 0
/-! A1: plain values, plain heap, and how the hand layer's abstract heap stands for them. -/
namespace Mi
open PySem PySem.Spec L2

abbrev Fg := PySem.W.Frag

/-- plain values: tuples are trees, what can change stands in the heap -/
inductive Vl where
  | non | bl (b : Bool) | int (i : Int) | str (x : Str) | ref (n : Nat) | tup (xs : List Vl) | kl (ns : List Int)
  deriving Inhabited
/-- plain objects -/
inductive Ob where
  | lst (xs : List Vl) | scr (xs : List Vl) | dic (kvs : List (Key × Vl)) | ins (c : Nat) (fs : List (Nat × Vl)) | exc (c : Nat) (fs : List (Nat × Vl))
  deriving Inhabited
abbrev Hs := List Ob

/-- the names of classes and fields: a number stands for each -/
def tbl : List Str := (["OhmError", "NoNumber", "NoPoint", "NoSize", "NoRow", "NoWord", "NoName", "NoStreams", "NoRoad", "TooMany", "Lame", "Ring", "Floats", "Held", "Row", "Piece", "Push", "Hold", "Net", "Answer", "Table", "Watch", "Sheet", "Yard", "Desk", "start", "goal", "size", "sizes", "kept", "squares", "high", "flow", "tips", "square", "coming", "seen", "outer", "points", "flat", "puts", "sheet", "parts", "part_name", "part", "yard", "multiples", "ring", "total", "number", "word", "joins", "told", "turned", "at", "stream", "many", "count", "has", "add", "change", "rows", "copy", "heights", "streams", "fall", "paper", "ends", "matrix", "comes", "brought", "taken", "net", "grow", "built", "here", "tell", "begin", "put_in", "lay", "names", "spots", "say"] : List String).map Str.ofString
def nm (i : Nat) : Str := match tbl[i]? with
  | some s => s
  | none => ⟨#[i + 1000]⟩
theorem tbl_nd : tbl.Nodup := by decide +kernel
theorem tbl_low : (tbl.all fun s => s.cps.all fun c => decide (c < 1000)) = true := by decide +kernel
theorem nm_inj {i j : Nat} (e : nm i = nm j) : i = j := by
  have low : ∀ (i k : Nat) (s : Str), tbl[i]? = some s → s ≠ ⟨#[k + 1000]⟩ := fun i k s h z => by
    have q := List.all_eq_true.mp tbl_low s (List.mem_of_getElem? h)
    rw [z] at q
    have q2 : k + 1000 < 1000 := by simpa using q
    omega
  unfold nm at e
  cases hi : tbl[i]? with
  | some s =>
    cases hj : tbl[j]? with
    | some t =>
      rw [hi, hj] at e
      have e' : s = t := e
      subst e'
      obtain ⟨a, b⟩ := List.getElem?_eq_some_iff.mp hi
      obtain ⟨c, d⟩ := List.getElem?_eq_some_iff.mp hj
      exact (List.getElem_inj tbl_nd).mp (b.trans d.symm)
    | none =>
      rw [hi, hj] at e
      exact (low i j s hi e).elim
  | none =>
    cases hj : tbl[j]? with
    | some t =>
      rw [hi, hj] at e
      exact (low j i t hj e.symm).elim
    | none =>
      rw [hi, hj] at e
      have e' : (⟨#[i + 1000]⟩ : Str) = ⟨#[j + 1000]⟩ := e
      injection e' with e'
      have e2 := congrArg Array.toList e'
      simp at e2
      exact e2

/-- a list that nobody changes: frozen, or one of the module's -/
def SqF (K : Fg) (H : Hp) (a : Addr) (vs : List V) : Prop :=
  (∃ o, H a = some (.frz o (.lst vs))) ∨ ((∃ (o : Obj) (its : Array Value) (n : Nat), K.lookup a = some o ∧ o.cls = .type "list" ∧ o.dict = none ∧ o.data = .seq its n ∧ its.size ≤ sizeLine ∧ Vals vs its.toList))
theorem SqF.sq {K : Fg} {H : Hp} {a : Addr} {vs : List V} (h : SqF K H a vs) : SqL K H a vs := by
  rcases h with ⟨o, h⟩ | h
  · exact .inl (.inr ⟨o, h⟩)
  · exact .inr h
mutual
def RV (K : Fg) (r : List Addr) (H : Hp) : Vl → V → Prop
  | .non, v => v = .non
  | .bl b, v => v = .bl b
  | .int i, v => v = .int i
  | .str x, v => v = .str x
  | .ref n, v => ∃ a, r[n]? = some a ∧ v = .ref a
  | .tup xs, v => ∃ a vs, v = .ref a ∧ SqT K H a vs ∧ RVs K r H xs vs
  | .kl ns, v => ∃ a, v = .ref a ∧ SqF K H a (ns.map V.int)
def RVs (K : Fg) (r : List Addr) (H : Hp) : List Vl → List V → Prop
  | [], vs => vs = []
  | x :: xs, vs => ∃ v t, vs = v :: t ∧ RV K r H x v ∧ RVs K r H xs t
end

/-- fields -/
def RN (K : Fg) (r : List Addr) (H : Hp) : List (Nat × Vl) → List (Str × V) → Prop
  | [], q => q = []
  | p :: ps, q => ∃ v t, q = (nm p.1, v) :: t ∧ RV K r H p.2 v ∧ RN K r H ps t
/-- entries: keys alike, values standing for each other -/
def RF {κ : Type} (K : Fg) (r : List Addr) (H : Hp) : List (κ × Vl) → List (κ × V) → Prop
  | [], q => q = []
  | p :: ps, q => ∃ v t, q = (p.1, v) :: t ∧ RV K r H p.2 v ∧ RF K r H ps t

/-- an exception that is held -/
def exH (a C : Addr) (d : Option Addr) : HO := .ext fun h => ∃ oe, h.get? a = some oe ∧ oe.cls = .ref C ∧ oe.dict = d

def RO (K : Fg) (r : List Addr) (H : Hp) : Ob → Addr → Prop
  | .lst xs, a => ∃ vs, H a = some (.lst vs) ∧ RVs K r H xs vs
  | .scr _, _ => False
  | .dic kvs, a => ∃ q, H a = some (.dK q) ∧ RF K r H kvs q
  | .ins c fs, a => ∃ dx q, H a = some (.ins (He.ga K (nm c)) dx q) ∧ RN K r H fs q
  | .exc c fs, a => ∃ d q, H a = some (exH a (He.ga K (nm c)) d) ∧ (fs = [] ∨ ∃ dx, d = some dx ∧ H dx = some (.xd q) ∧ dx ∉ r) ∧ RN K r H fs q

/-- the later heap: addresses are added, what is tracked stays so, untracked and frozen things stay as they are -/
structure Ext (r r' : List Addr) (H H' : Hp) : Prop where
  pre : ∃ t, r' = r ++ t ∧ ∀ a ∈ t, H a = none
  dm : ∀ b, H' b = none → H b = none
  fr : ∀ b o, b ∉ r → H b = some o → H' b = some o
  tp : ∀ b xs, H b = some (.tup xs) → H' b = some (.tup xs)
  fz : ∀ b o u, H b = some (.frz o u) → H' b = some (.frz o u)

def isScr : Ob → Bool
  | .scr _ => true
  | _ => false
structure RH (K : Fg) (r : List Addr) (h : Hs) (H : Hp) : Prop where
  len : r.length = h.length
  nd : ∀ (i j : Nat) (o o' : Ob) (a : Addr), h[i]? = some o → h[j]? = some o' → isScr o = false → isScr o' = false → r[i]? = some a → r[j]? = some a → i = j
  ob : ∀ (i : Nat) (o : Ob) (a : Addr), h[i]? = some o → r[i]? = some a → RO K r H o a

theorem Ext.refl (r : List Addr) (H : Hp) : Ext r r H H := ⟨⟨[], by simp, by simp⟩, fun _ h => h, fun _ _ _ h => h, fun _ _ h => h, fun _ _ _ h => h⟩
theorem Ext.trans {r r1 r2 : List Addr} {H H1 H2 : Hp} (a : Ext r r1 H H1) (b : Ext r1 r2 H1 H2) : Ext r r2 H H2 := by
  obtain ⟨t, e, n⟩ := a.pre
  obtain ⟨t', e', n'⟩ := b.pre
  have key : ∀ c o, c ∉ r → H c = some o → c ∉ r1 := fun c o hc ho hm => by
    rw [e] at hm
    rcases List.mem_append.mp hm with h | h
    · exact hc h
    · rw [n c h] at ho; cases ho
  refine ⟨⟨t ++ t', by rw [e', e, List.append_assoc], fun c hc => ?_⟩, fun c hc => a.dm c (b.dm c hc), fun c o hc ho => b.fr c o (key c o hc ho) (a.fr c o hc ho), fun c xs h => b.tp c xs (a.tp c xs h), fun c o u h => b.fz c o u (a.fz c o u h)⟩
  rcases List.mem_append.mp hc with h | h
  · exact n c h
  · exact a.dm c (n' c h)

theorem Ext.sqT {K : Fg} {r r' : List Addr} {H H' : Hp} (x : Ext r r' H H') {a : Addr} {vs : List V} (h : SqT K H a vs) : SqT K H' a vs := by
  rcases h with (h | ⟨o, h⟩) | h
  · exact .inl (.inl (x.tp _ _ h))
  · exact .inl (.inr ⟨o, x.fz _ _ _ h⟩)
  · exact .inr h
theorem Ext.sqF {K : Fg} {r r' : List Addr} {H H' : Hp} (x : Ext r r' H H') {a : Addr} {vs : List V} (q : SqF K H a vs) : SqF K H' a vs := by
  rcases q with ⟨o, q⟩ | q
  · exact .inl ⟨o, x.fz _ _ _ q⟩
  · exact .inr q
theorem Ext.get {r r' : List Addr} {H H' : Hp} (x : Ext r r' H H') {n : Nat} {a : Addr} (h : r[n]? = some a) : r'[n]? = some a := by
  obtain ⟨t, e, _⟩ := x.pre
  rw [e, List.getElem?_append_left (List.getElem?_eq_some_iff.mp h).1]
  exact h
mutual
theorem RV.ext {K : Fg} {r r' : List Addr} {H H' : Hp} (x : Ext r r' H H') : ∀ {v : Vl} {u : V}, RV K r H v u → RV K r' H' v u
  | .non, _, h => by simpa only [RV] using h
  | .bl _, _, h => by simpa only [RV] using h
  | .int _, _, h => by simpa only [RV] using h
  | .str _, _, h => by simpa only [RV] using h
  | .ref n, _, h => by
    simp only [RV] at h ⊢
    obtain ⟨a, h1, h2⟩ := h
    exact ⟨a, x.get h1, h2⟩
  | .tup xs, _, h => by
    simp only [RV] at h ⊢
    obtain ⟨a, vs, h1, h2, h3⟩ := h
    exact ⟨a, vs, h1, x.sqT h2, RVs.ext x h3⟩
  | .kl ns, _, h => by
    simp only [RV] at h ⊢
    obtain ⟨a, h1, h2⟩ := h
    exact ⟨a, h1, x.sqF h2⟩
theorem RVs.ext {K : Fg} {r r' : List Addr} {H H' : Hp} (x : Ext r r' H H') : ∀ {vs : List Vl} {us : List V}, RVs K r H vs us → RVs K r' H' vs us
  | [], _, h => by simpa only [RVs] using h
  | v :: vs, _, h => by
    simp only [RVs] at h ⊢
    obtain ⟨u, t, h1, h2, h3⟩ := h
    exact ⟨u, t, h1, RV.ext x h2, RVs.ext x h3⟩
end
theorem RF.ext {κ : Type} {K : Fg} {r r' : List Addr} {H H' : Hp} (x : Ext r r' H H') : ∀ {vs : List (κ × Vl)} {us : List (κ × V)}, RF K r H vs us → RF K r' H' vs us
  | [], _, h => by simpa only [RF] using h
  | v :: vs, _, h => by
    simp only [RF] at h ⊢
    obtain ⟨u, t, h1, h2, h3⟩ := h
    exact ⟨u, t, h1, h2.ext x, RF.ext x h3⟩

theorem RN.ext {K : Fg} {r r' : List Addr} {H H' : Hp} (x : Ext r r' H H') : ∀ {vs : List (Nat × Vl)} {us : List (Str × V)}, RN K r H vs us → RN K r' H' vs us
  | [], _, h => by simpa only [RN] using h
  | v :: vs, _, h => by
    simp only [RN] at h ⊢
    obtain ⟨u, t, h1, h2, h3⟩ := h
    exact ⟨u, t, h1, h2.ext x, RN.ext x h3⟩

/-! ### lists of values -/
section
variable {K : Fg} {r : List Addr} {H : Hp}
theorem RVs.length : ∀ {xs : List Vl} {vs : List V}, RVs K r H xs vs → vs.length = xs.length
  | [], _, h => by simp only [RVs] at h; simp [h]
  | _ :: _, _, h => by
    simp only [RVs] at h
    obtain ⟨u, t, h1, h2, h3⟩ := h
    simp [h1, RVs.length h3]
theorem RVs.get : ∀ {xs : List Vl} {vs : List V} {i : Nat} {x : Vl}, RVs K r H xs vs → xs[i]? = some x → ∃ v, vs[i]? = some v ∧ RV K r H x v
  | [], _, i, _, _, e => by simp at e
  | y :: ys, _, i, x, h, e => by
    simp only [RVs] at h
    obtain ⟨u, t, h1, h2, h3⟩ := h
    subst h1
    cases i with
    | zero => simp at e; subst e; exact ⟨u, by simp, h2⟩
    | succ i =>
      obtain ⟨v, q1, q2⟩ := RVs.get (i := i) (x := x) h3 (by simpa using e)
      exact ⟨v, by simpa using q1, q2⟩
theorem RVs.append : ∀ {xs ys : List Vl} {vs us : List V}, RVs K r H xs vs → RVs K r H ys us → RVs K r H (xs ++ ys) (vs ++ us)
  | [], _, _, _, h, h' => by simp only [RVs] at h; simpa [h] using h'
  | x :: xs, _, _, _, h, h' => by
    simp only [RVs] at h
    obtain ⟨u, t, h1, h2, h3⟩ := h
    subst h1
    show RVs K r H (x :: (xs ++ _)) (u :: (t ++ _))
    simp only [RVs]
    exact ⟨u, _, rfl, h2, RVs.append h3 h'⟩
theorem RVs.one {x : Vl} {v : V} (h : RV K r H x v) : RVs K r H [x] [v] := by
  simp only [RVs]
  exact ⟨v, [], rfl, h, rfl⟩
theorem RVs.nil : RVs K r H [] [] := by simp only [RVs]
theorem RVs.cons {x : Vl} {v : V} {xs : List Vl} {vs : List V} (h : RV K r H x v) (t : RVs K r H xs vs) : RVs K r H (x :: xs) (v :: vs) := by
  simp only [RVs]
  exact ⟨v, vs, rfl, h, t⟩
theorem RVs.take : ∀ {xs : List Vl} {vs : List V} (n : Nat), RVs K r H xs vs → RVs K r H (xs.take n) (vs.take n)
  | [], _, n, h => by simp only [RVs] at h; subst h; simp [RVs]
  | x :: xs, _, n, h => by
    simp only [RVs] at h
    obtain ⟨u, t, h1, h2, h3⟩ := h
    subst h1
    cases n with
    | zero => exact RVs.nil
    | succ n => exact RVs.cons h2 (RVs.take n h3)
theorem RVs.drop : ∀ {xs : List Vl} {vs : List V} (n : Nat), RVs K r H xs vs → RVs K r H (xs.drop n) (vs.drop n)
  | [], _, n, h => by simp only [RVs] at h; subst h; simp [RVs]
  | x :: xs, _, n, h => by
    simp only [RVs] at h
    obtain ⟨u, t, h1, h2, h3⟩ := h
    subst h1
    cases n with
    | zero => exact RVs.cons h2 h3
    | succ n => exact RVs.drop n h3
theorem RVs.set : ∀ {xs : List Vl} {vs : List V} {x : Vl} {v : V} (i : Nat), RVs K r H xs vs → RV K r H x v → RVs K r H (xs.set i x) (vs.set i v)
  | [], _, _, _, i, h, _ => by simp only [RVs] at h; subst h; simp [RVs]
  | y :: ys, _, _, _, i, h, q => by
    simp only [RVs] at h
    obtain ⟨u, t, h1, h2, h3⟩ := h
    subst h1
    cases i with
    | zero => exact RVs.cons q h3
    | succ i => exact RVs.cons h2 (RVs.set i h3 q)
theorem RVs.reverse : ∀ {xs : List Vl} {vs : List V}, RVs K r H xs vs → RVs K r H xs.reverse vs.reverse
  | [], _, h => by simp only [RVs] at h; subst h; simp [RVs]
  | y :: ys, _, h => by
    simp only [RVs] at h
    obtain ⟨u, t, h1, h2, h3⟩ := h
    subst h1
    rw [List.reverse_cons, List.reverse_cons]
    exact (RVs.reverse h3).append (RVs.one h2)
theorem RVs.rep {xs : List Vl} {vs : List V} (h : RVs K r H xs vs) : ∀ n : Nat, RVs K r H (List.replicate n xs).flatten (List.replicate n vs).flatten
  | 0 => by simp [RVs]
  | n + 1 => by
    rw [List.replicate_succ, List.replicate_succ, List.flatten_cons, List.flatten_cons]
    exact h.append (RVs.rep h n)
theorem RVs.ints : ∀ {ns : List Int} {vs : List V}, RVs K r H (ns.map Vl.int) vs → vs = ns.map V.int
  | [], _, h => by simpa [RVs] using h
  | n :: ns, _, h => by
    simp only [List.map_cons, RVs, RV] at h
    obtain ⟨u, t, h1, h2, h3⟩ := h
    rw [h1, h2, RVs.ints h3]; rfl
theorem RVs.ofInts : ∀ ns : List Int, RVs K r H (ns.map Vl.int) (ns.map V.int)
  | [] => RVs.nil
  | n :: ns => RVs.cons (by simp only [RV]) (RVs.ofInts ns)
theorem RVs.strs : ∀ {ns : List Str} {vs : List V}, RVs K r H (ns.map Vl.str) vs → vs = ns.map V.str
  | [], _, h => by simpa [RVs] using h
  | n :: ns, _, h => by
    simp only [List.map_cons, RVs, RV] at h
    obtain ⟨u, t, h1, h2, h3⟩ := h
    rw [h1, h2, RVs.strs h3]; rfl
theorem RVs.ofStrs : ∀ ns : List Str, RVs K r H (ns.map Vl.str) (ns.map V.str)
  | [] => RVs.nil
  | n :: ns => RVs.cons (by simp only [RV]) (RVs.ofStrs ns)
theorem RVs.bls : ∀ {ns : List Bool} {vs : List V}, RVs K r H (ns.map Vl.bl) vs → vs = ns.map V.bl
  | [], _, h => by simpa [RVs] using h
  | n :: ns, _, h => by
    simp only [List.map_cons, RVs, RV] at h
    obtain ⟨u, t, h1, h2, h3⟩ := h
    rw [h1, h2, RVs.bls h3]; rfl
end

/-! ### changes of the heap -/
section
variable {K : Fg} {r : List Addr} {H : Hp} {h : Hs}
theorem RO.ext {r' : List Addr} {H' : Hp} {o : Ob} {a : Addr} (x : Ext r r' H H') (e : isScr o = false → H' a = H a) (q : RO K r H o a) : RO K r' H' o a := by
  cases o with
  | lst xs => obtain ⟨vs, h1, h2⟩ := q; exact ⟨vs, (e rfl).trans h1, h2.ext x⟩
  | scr xs => exact q.elim
  | dic kvs => obtain ⟨vs, h1, h2⟩ := q; exact ⟨vs, (e rfl).trans h1, h2.ext x⟩
  | ins c fs => obtain ⟨dx, vs, h1, h2⟩ := q; exact ⟨dx, vs, (e rfl).trans h1, h2.ext x⟩
  | exc c fs =>
    obtain ⟨d, vs, h1, h2, h3⟩ := q
    refine ⟨d, vs, (e rfl).trans h1, ?_, h3.ext x⟩
    rcases h2 with h2 | ⟨dx, h2, h4, h5⟩
    · exact .inl h2
    · refine .inr ⟨dx, h2, x.fr _ _ h5 h4, fun hm => ?_⟩
      obtain ⟨t, e, n⟩ := x.pre
      rw [e] at hm
      rcases List.mem_append.mp hm with z | z
      · exact h5 z
      · rw [n _ z] at h4; cases h4
/-- only the untracked or the tracked outside r changed: all objects stand -/
theorem RH.same {H' : Hp} (R : RH K r h H) (x : Ext r r H H') (e : ∀ a ∈ r, H a ≠ none → H' a = H a) : RH K r h H' :=
  ⟨R.len, R.nd, fun i o a h1 h2 => (R.ob i o a h1 h2).ext x fun z => e a (List.mem_of_getElem? h2) (by
    have q := R.ob i o a h1 h2
    cases o with
    | lst xs => obtain ⟨vs, h1, _⟩ := q; rw [h1]; simp
    | scr xs => exact q.elim
    | dic kvs => obtain ⟨vs, h1, _⟩ := q; rw [h1]; simp
    | ins c fs => obtain ⟨dx, vs, h1, _⟩ := q; rw [h1]; simp
    | exc c fs => obtain ⟨d, vs, h1, _⟩ := q; rw [h1]; simp)⟩
theorem RO.live {o : Ob} {a : Addr} (q : RO K r H o a) (z : isScr o = false) : H a ≠ none := by
  cases o with
  | lst xs => obtain ⟨vs, h1, _⟩ := q; rw [h1]; simp
  | scr xs => exact q.elim
  | dic kvs => obtain ⟨vs, h1, _⟩ := q; rw [h1]; simp
  | ins c fs => obtain ⟨dx, vs, h1, _⟩ := q; rw [h1]; simp
  | exc c fs => obtain ⟨d, vs, h1, _⟩ := q; rw [h1]; simp
theorem RO.alive {o : Ob} {a : Addr} (q : RO K r H o a) : H a ≠ none := by
  cases o with
  | scr xs => exact q.elim
  | _ => exact q.live rfl
/-- what the heap holds for one of ours is no tuple and nothing frozen -/
theorem RO.ntup {o : Ob} {a : Addr} (q : RO K r H o a) (z : isScr o = false) : (∀ xs, H a ≠ some (.tup xs)) ∧ ∀ ob u, H a ≠ some (.frz ob u) := by
  cases o with
  | lst xs => obtain ⟨vs, h1, _⟩ := q; rw [h1]; exact ⟨fun _ => by simp, fun _ _ => by simp⟩
  | scr xs => exact q.elim
  | dic kvs => obtain ⟨vs, h1, _⟩ := q; rw [h1]; exact ⟨fun _ => by simp, fun _ _ => by simp⟩
  | ins c fs => obtain ⟨dx, vs, h1, _⟩ := q; rw [h1]; exact ⟨fun _ => by simp, fun _ _ => by simp⟩
  | exc c fs => obtain ⟨d, vs, h1, _⟩ := q; rw [h1]; exact ⟨fun _ z => by simp [exH] at z, fun _ _ z => by simp [exH] at z⟩
/-- a new object that is none of ours (a tuple, say) -/
theorem ext_new {p : Addr} {o : HO} (hp : H p = none) : Ext r r H (upd H p o) :=
  ⟨⟨[], by simp, by simp⟩, fun b hb => by
      by_cases e : b = p
      · rw [e]; exact hp
      · rw [upd_ne e] at hb; exact hb,
    fun b u _ hb => by rw [upd_ne (ne_of_none hb hp)]; exact hb, fun b xs hb => by rw [upd_ne (ne_of_none hb hp)]; exact hb, fun b v u hb => by rw [upd_ne (ne_of_none hb hp)]; exact hb⟩
theorem RH.new {p : Addr} {o : HO} (R : RH K r h H) (hp : H p = none) : RH K r h (upd H p o) :=
  R.same (ext_new hp) fun a _ ha => upd_ne fun e => ha (by rw [e]; exact hp)
/-- a new object of ours -/
theorem ext_mine {p : Addr} {o : HO} (hp : H p = none) : Ext r (r ++ [p]) H (upd H p o) := by
  obtain ⟨_, a, b, c, d⟩ := ext_new (r := r) (o := o) hp
  exact ⟨⟨[p], rfl, by simp [hp]⟩, a, b, c, d⟩
theorem RH.mine {p : Addr} {o : HO} {ob : Ob} (R : RH K r h H) (hp : H p = none) (q : RO K (r ++ [p]) (upd H p o) ob p) (z : isScr ob = false) : RH K (r ++ [p]) (h ++ [ob]) (upd H p o) := by
  have live : ∀ (i : Nat) (o' : Ob) (a : Addr), h[i]? = some o' → isScr o' = false → r[i]? = some a → a ≠ p := fun i o' a h1 h2 h3 e => (R.ob i o' a h1 h3).live h2 (by rw [e]; exact hp)
  have cut : ∀ {i : Nat} {o' : Ob}, (h ++ [ob])[i]? = some o' → (i < h.length ∧ h[i]? = some o') ∨ (i = h.length ∧ o' = ob) := fun {i o'} e => by
    by_cases hi : i < h.length
    · rw [List.getElem?_append_left hi] at e; exact .inl ⟨hi, e⟩
    · have e' := (List.getElem?_eq_some_iff.mp e).1
      simp at e'
      have : i = h.length := by omega
      subst this
      simp at e
      exact .inr ⟨rfl, e.symm⟩
  have at1 : ∀ {i : Nat} {a : Addr}, i < h.length → (r ++ [p])[i]? = some a → r[i]? = some a := fun {i a} hi e => by
    rw [List.getElem?_append_left (by rw [R.len]; exact hi)] at e; exact e
  have at2 : ∀ {a : Addr}, (r ++ [p])[h.length]? = some a → a = p := fun {a} e => by
    rw [← R.len] at e; simp at e; exact e.symm
  refine ⟨by simp [R.len], fun i j o1 o2 a h1 h2 s1 s2 h3 h4 => ?_, fun i o1 a h1 h2 => ?_⟩
  · rcases cut h1 with ⟨i1, h1⟩ | ⟨i1, h1⟩
    · rcases cut h2 with ⟨j1, h2⟩ | ⟨j1, h2⟩
      · exact R.nd i j o1 o2 a h1 h2 s1 s2 (at1 i1 h3) (at1 j1 h4)
      · subst j1
        exact absurd (at2 h4) (live i o1 a h1 s1 (at1 i1 h3))
    · rcases cut h2 with ⟨j1, h2⟩ | ⟨j1, h2⟩
      · subst i1
        exact absurd (at2 h3) (live j o2 a h2 s2 (at1 j1 h4))
      · omega
  · rcases cut h1 with ⟨i1, z1⟩ | ⟨i1, z1⟩
    · exact (R.ob i o1 a z1 (at1 i1 h2)).ext (ext_mine hp) fun s1 => upd_ne (live i o1 a z1 s1 (at1 i1 h2))
    · subst i1 z1
      rw [at2 h2]; exact q
/-- one of ours is changed -/
theorem ext_put {i : Nat} {a : Addr} {o : HO} {ob : Ob} (R : RH K r h H) (h1 : h[i]? = some ob) (h2 : r[i]? = some a) (z : isScr ob = false) : Ext r r H (upd H a o) := by
  have q := R.ob i ob a h1 h2
  have hm := List.mem_of_getElem? h2
  refine ⟨⟨[], by simp, by simp⟩, fun b hb => ?_, fun b u hn hb => ?_, fun b xs hb => ?_, fun b v u hb => ?_⟩
  · by_cases e : b = a
    · rw [e, upd_same] at hb; cases hb
    · rw [upd_ne e] at hb; exact hb
  · rw [upd_ne (fun e => hn (by rw [e]; exact hm))]; exact hb
  · rw [upd_ne (fun e => (q.ntup z).1 xs (by rw [← e]; exact hb))]; exact hb
  · rw [upd_ne (fun e => (q.ntup z).2 v u (by rw [← e]; exact hb))]; exact hb
theorem RH.put {i : Nat} {a : Addr} {o : HO} {ob ob' : Ob} (R : RH K r h H) (h1 : h[i]? = some ob) (h2 : r[i]? = some a) (z : isScr ob = false) (q : RO K r (upd H a o) ob' a) (z' : isScr ob' = false) : RH K r (h.set i ob') (upd H a o) := by
  have hi : i < h.length := (List.getElem?_eq_some_iff.mp h1).1
  have cut : ∀ {j : Nat} {o' : Ob}, (h.set i ob')[j]? = some o' → (j ≠ i ∧ h[j]? = some o') ∨ (j = i ∧ o' = ob') := fun {j o'} e => by
    by_cases hj : j = i
    · subst hj
      rw [List.getElem?_set_self hi] at e
      exact .inr ⟨rfl, (Option.some.inj e).symm⟩
    · rw [List.getElem?_set_ne (Ne.symm hj)] at e
      exact .inl ⟨hj, e⟩
  have off : ∀ (j : Nat) (o' : Ob) (b : Addr), j ≠ i → h[j]? = some o' → isScr o' = false → r[j]? = some b → b ≠ a := fun j o' b hj e s e2 eb => hj (R.nd j i o' ob a e h1 s z (by rw [← eb]; exact e2) h2)
  refine ⟨by rw [List.length_set]; exact R.len, fun j k o1 o2 b e1 e2 s1 s2 e3 e4 => ?_, fun j o1 b e1 e2 => ?_⟩
  · rcases cut e1 with ⟨j1, f1⟩ | ⟨j1, f1⟩
    · rcases cut e2 with ⟨k1, f2⟩ | ⟨k1, f2⟩
      · exact R.nd j k o1 o2 b f1 f2 s1 s2 e3 e4
      · subst k1
        exact R.nd j k o1 ob b f1 h1 s1 z e3 e4
    · rcases cut e2 with ⟨k1, f2⟩ | ⟨k1, f2⟩
      · subst j1
        exact R.nd j k ob o2 b h1 f2 z s2 e3 e4
      · omega
  · rcases cut e1 with ⟨j1, f1⟩ | ⟨j1, f1⟩
    · exact (R.ob j o1 b f1 e2).ext (ext_put R h1 h2 z) fun s1 => upd_ne (off j o1 b j1 f1 s1 e2)
    · subst j1 f1
      rw [h2] at e2
      cases e2
      exact q
end
end Mi

/-! AE: == of nested data whose texts may be any (no dicts within). -/
namespace Mi
open PySem PySem.Spec PySem.SeqAt

mutual
def nodic : PyData → Bool
  | .dict _ => false
  | .list xs => nodics xs
  | .tuple xs => nodics xs
  | _ => true
def nodics : List PyData → Bool
  | [] => true
  | x :: xs => nodic x && nodics xs
end
mutual
theorem rd_one {h : Heap} : ∀ (d d' : PyData) (v : Value) (p q : List Addr), nodic d = true → Reads h v d p → Reads h v d' q → d = d'
  | .none, _, _, _, _, _, r, r' => by cases r; cases r'; rfl
  | .bool _, _, _, _, _, _, r, r' => by cases r; cases r'; rfl
  | .int _, _, _, _, _, _, r, r' => by cases r; cases r'; rfl
  | .str _, _, _, _, _, _, r, r' => by cases r; cases r'; rfl
  | .dict _, _, _, _, _, z, _, _ => nomatch z
  | .list xs, d', _, _, _, z, r, r' => by
    cases r with
    | list a1 a2 a3 a4 => cases r' with
      | list b1 b2 b3 b4 =>
        rw [a1] at b1; cases b1; rw [a3] at b3; cases b3
        exact congrArg _ (rd_all xs _ _ _ _ z a4 b4)
      | tuple b1 b2 b3 b4 => rw [a1] at b1; cases b1; rw [a2] at b2; simp at b2
      | dict b1 b2 b3 b4 b5 => rw [a1] at b1; cases b1; rw [a2] at b2; simp at b2
  | .tuple xs, d', _, _, _, z, r, r' => by
    cases r with
    | tuple a1 a2 a3 a4 => cases r' with
      | tuple b1 b2 b3 b4 =>
        rw [a1] at b1; cases b1; rw [a3] at b3; cases b3
        exact congrArg _ (rd_all xs _ _ _ _ z a4 b4)
      | list b1 b2 b3 b4 => rw [a1] at b1; cases b1; rw [a2] at b2; simp at b2
      | dict b1 b2 b3 b4 b5 => rw [a1] at b1; cases b1; rw [a2] at b2; simp at b2
theorem rd_all {h : Heap} : ∀ (xs ys : List PyData) (vs : List Value) (p q : List Addr), nodics xs = true → ReadsAll h vs xs p → ReadsAll h vs ys q → xs = ys
  | [], _, _, _, _, _, r, r' => by cases r; cases r'; rfl
  | x :: xs, _, _, _, _, z, r, r' => by
    obtain ⟨z1, z2⟩ := Bool.and_eq_true_iff.mp (show (nodic x && nodics xs) = true from z)
    cases r with
    | cons a b => cases r' with
      | cons c d => rw [rd_one x _ _ _ _ z1 a c, rd_all xs _ _ _ _ z2 b d]
end
mutual
theorem eqv_me : ∀ d : PyData, nodic d = true → PyData.eqv d d = true
  | .none, _ => rfl
  | .bool _, _ => by simp only [PyData.eqv, beq_self_eq_true]
  | .int _, _ => by simp only [PyData.eqv, beq_self_eq_true]
  | .str _, _ => by simp only [PyData.eqv, beq_self_eq_true]
  | .list xs, z => by rw [PyData.eqv]; exact eqvs_me xs z
  | .tuple xs, z => by rw [PyData.eqv]; exact eqvs_me xs z
  | .dict _, z => nomatch z
theorem eqvs_me : ∀ xs : List PyData, nodics xs = true → PyData.eqvAll xs xs = true
  | [], _ => rfl
  | x :: xs, z => by
    obtain ⟨z1, z2⟩ := Bool.and_eq_true_iff.mp (show (nodic x && nodics xs) = true from z)
    rw [PyData.eqvAll, eqv_me x z1, eqvs_me xs z2]; rfl
end
mutual
theorem eqA : ∀ (da db : PyData) (A : Around) (s : Shared) (a b : Value) (p q : List Addr), Reads s.heap a da p → Reads s.heap b db q → nodic da = true → nodic db = true → A.units + min da.depth db.depth < cLine → EqAt A s a b (PyData.eqv da db)
  | .dict _, _, _, _, _, _, _, _, _, _, z, _, _ => nomatch z
  | .none, db, A, s, _, _, _, _, ra, rb, _, zb, u => by
    cases ra
    cases rb with
    | none => exact EqAt.same _
    | bool y => exact EqAt.none_bool y
    | int y k => exact EqAt.none_int y k
    | str y k => exact EqAt.none_str y k
    | list b1 b2 b3 b4 => exact EqAt.none_list ⟨_, b1, b2, _, b3⟩ (room_here u)
    | tuple b1 b2 b3 b4 => exact EqAt.none_tuple ⟨_, b1, b2, _, b3⟩ (room_here u)
    | dict => exact nomatch zb
  | .bool x, db, A, s, _, _, _, _, ra, rb, _, zb, u => by
    cases ra
    cases rb with
    | none => exact EqAt.bool_none x
    | bool y => exact EqAt.bool_bool x y
    | int y k => exact EqAt.bool_int x y k
    | str y k => exact EqAt.bool_str x y k
    | list b1 b2 b3 b4 => exact EqAt.bool_list x ⟨_, b1, b2, _, b3⟩ (room_here u)
    | tuple b1 b2 b3 b4 => exact EqAt.bool_tuple x ⟨_, b1, b2, _, b3⟩ (room_here u)
    | dict => exact nomatch zb
  | .int x, db, A, s, _, _, _, _, ra, rb, _, zb, u => by
    cases ra with
    | int _ t =>
      cases rb with
      | none => exact EqAt.int_none x t
      | bool y => exact EqAt.int_bool x t y
      | int y k => exact EqAt.int_int x t y k
      | str y k => exact EqAt.int_str x t y k
      | list b1 b2 b3 b4 => exact EqAt.int_list x t ⟨_, b1, b2, _, b3⟩ (room_here u)
      | tuple b1 b2 b3 b4 => exact EqAt.int_tuple x t ⟨_, b1, b2, _, b3⟩ (room_here u)
      | dict => exact nomatch zb
  | .str x, db, A, s, _, _, _, _, ra, rb, _, zb, u => by
    cases ra with
    | str _ t =>
      cases rb with
      | none => exact EqAt.str_none x t
      | bool y => exact EqAt.str_bool x t y
      | int y k => exact EqAt.str_int x t y k
      | str y k => exact EqAt.str_str x t y k
      | list b1 b2 b3 b4 => exact EqAt.str_list x t ⟨_, b1, b2, _, b3⟩ (room_here u)
      | tuple b1 b2 b3 b4 => exact EqAt.str_tuple x t ⟨_, b1, b2, _, b3⟩ (room_here u)
      | dict => exact nomatch zb
  | .list xs, db, A, s, _, _, _, _, ra, rb, za, zb, u => by
    cases ra with
    | @list l o vs n _ p a1 a2 a3 a4 =>
      have hl : s.heap.IsList l vs := ⟨_, a1, a2, _, a3⟩
      cases rb with
      | @list l' o' vs' n' ys q b1 b2 b3 b4 =>
        have hl' : s.heap.IsList l' vs' := ⟨_, b1, b2, _, b3⟩
        have n1 : vs.size = xs.length := by simpa using ReadsAll.length _ _ _ a4
        have n2 : vs'.size = ys.length := by simpa using ReadsAll.length _ _ _ b4
        show EqAt A s (.ref l) (.ref l') (PyData.eqvAll xs ys)
        by_cases e : l = l'
        · subst e
          have k : PyData.list xs = PyData.list ys := rd_one _ _ _ _ _ za (.list a1 a2 a3 a4) (.list b1 b2 b3 b4)
          cases k
          rw [eqvs_me xs za]
          exact EqAt.same _
        · by_cases sz : vs.size = vs'.size
          · rw [← eqvAll_same_length (xs := xs) (ys := ys) (by omega), ← n1]
            exact EqAt.of_refs e (RcAt.lists hl hl' sz (room_here u) fun j j1 j2 => (by have z := eqAs xs ys A.in1 s vs.toList vs'.toList _ _ a4 b4 za zb (room_in u) j (by simpa using j1) (by simpa using j2); simpa using z))
          · rw [eqvAll_other_length (xs := xs) (ys := ys) (by omega)]
            exact EqAt.of_refs e (RcAt.lists_lengths hl hl' (by simpa using sz) (room_here u))
      | none => exact EqAt.list_none hl (room_here u)
      | bool y => exact EqAt.list_bool y hl (room_here u)
      | int y t => exact EqAt.list_int y t hl (room_here u)
      | str y t => exact EqAt.list_str y t hl (room_here u)
      | tuple b1 b2 b3 b4 => exact EqAt.list_tuple hl ⟨_, b1, b2, _, b3⟩ (room_here u)
      | dict => exact nomatch zb
  | .tuple xs, db, A, s, _, _, _, _, ra, rb, za, zb, u => by
    cases ra with
    | @tuple l o vs n _ p a1 a2 a3 a4 =>
      have hl : s.heap.IsTuple l vs := ⟨_, a1, a2, _, a3⟩
      cases rb with
      | @tuple l' o' vs' n' ys q b1 b2 b3 b4 =>
        have hl' : s.heap.IsTuple l' vs' := ⟨_, b1, b2, _, b3⟩
        have n1 : vs.size = xs.length := by simpa using ReadsAll.length _ _ _ a4
        have n2 : vs'.size = ys.length := by simpa using ReadsAll.length _ _ _ b4
        show EqAt A s (.ref l) (.ref l') (PyData.eqvAll xs ys)
        by_cases e : l = l'
        · subst e
          have k : PyData.tuple xs = PyData.tuple ys := rd_one _ _ _ _ _ za (.tuple a1 a2 a3 a4) (.tuple b1 b2 b3 b4)
          cases k
          rw [eqvs_me xs za]
          exact EqAt.same _
        · rw [← eqvAll_eq xs ys, ← n1, ← n2]
          exact EqAt.of_refs e (RcAt.tuples hl hl' (room_here u) fun j j1 j2 => (by have z := eqAs xs ys A.in1 s vs.toList vs'.toList _ _ a4 b4 za zb (room_in u) j (by simpa using j1) (by simpa using j2); simpa using z))
      | none => exact EqAt.tuple_none hl (room_here u)
      | bool y => exact EqAt.tuple_bool y hl (room_here u)
      | int y t => exact EqAt.tuple_int y t hl (room_here u)
      | str y t => exact EqAt.tuple_str y t hl (room_here u)
      | list b1 b2 b3 b4 => exact EqAt.tuple_list hl ⟨_, b1, b2, _, b3⟩ (room_here u)
      | dict => exact nomatch zb
theorem eqAs : ∀ (xs ys : List PyData) (A : Around) (s : Shared) (vs ws : List Value) (p q : List Addr), ReadsAll s.heap vs xs p → ReadsAll s.heap ws ys q → nodics xs = true → nodics ys = true →
    A.units + min (PyData.depthAll xs) (PyData.depthAll ys) < cLine → ∀ j (h1 : j < vs.length) (h2 : j < ws.length), EqAt A s vs[j] ws[j] (pairEq xs ys j)
  | [], _, _, _, _, _, _, _, ra, _, _, _, _, j, h1, _ => by cases ra; exact absurd h1 (Nat.not_lt_zero _)
  | _ :: _, [], _, _, _, _, _, _, _, rb, _, _, _, j, _, h2 => by cases rb; exact absurd h2 (Nat.not_lt_zero _)
  | x :: xs, y :: ys, A, s, _, _, _, _, ra, rb, za, zb, u, j, h1, h2 => by
    obtain ⟨z1, z2⟩ := Bool.and_eq_true_iff.mp (show (nodic x && nodics xs) = true from za)
    obtain ⟨z3, z4⟩ := Bool.and_eq_true_iff.mp (show (nodic y && nodics ys) = true from zb)
    cases ra with
    | cons a1 a2 => cases rb with
      | cons b1 b2 => cases j with
        | zero => exact eqA x y A s _ _ _ _ a1 b1 z1 z3 (room_head u)
        | succ j => exact eqAs xs ys A s _ _ _ _ a2 b2 z2 z4 (room_tail u) j (Nat.lt_of_succ_lt_succ h1) (Nat.lt_of_succ_lt_succ h2)
end
theorem rcA {da db : PyData} {A : Around} {s : Shared} {a b : Value} {p q : List Addr} (ra : Reads s.heap a da p) (rb : Reads s.heap b db q) (za : nodic da = true) (zb : nodic db = true)
    (u : A.units + min da.depth db.depth < cLine) : RcAt A s a b (PyData.eqv da db) := by
  cases ra with
  | @list l o vs n xs _ a1 a2 a3 a4 =>
    have hl : s.heap.IsList l vs := ⟨_, a1, a2, _, a3⟩
    cases rb with
    | @list l' o' vs' n' ys _ b1 b2 b3 b4 =>
      have hl' : s.heap.IsList l' vs' := ⟨_, b1, b2, _, b3⟩
      have n1 : vs.size = xs.length := by simpa using ReadsAll.length _ _ _ a4
      have n2 : vs'.size = ys.length := by simpa using ReadsAll.length _ _ _ b4
      show RcAt A s (.ref l) (.ref l') (PyData.eqvAll xs ys)
      by_cases sz : vs.size = vs'.size
      · rw [← eqvAll_same_length (xs := xs) (ys := ys) (by omega), ← n1]
        exact RcAt.lists hl hl' sz (room_here u) fun j j1 j2 => (by have z := eqAs xs ys A.in1 s vs.toList vs'.toList _ _ a4 b4 za zb (room_in u) j (by simpa using j1) (by simpa using j2); simpa using z)
      · rw [eqvAll_other_length (xs := xs) (ys := ys) (by omega)]
        exact RcAt.lists_lengths hl hl' (by simpa using sz) (room_here u)
    | none => exact RcAt.list_none hl (room_here u)
    | bool y => exact RcAt.list_bool y hl (room_here u)
    | int y t => exact RcAt.list_int y t hl (room_here u)
    | str y t => exact RcAt.list_str y t hl (room_here u)
    | tuple b1 b2 b3 b4 => exact RcAt.list_tuple hl ⟨_, b1, b2, _, b3⟩ (room_here u)
    | dict => exact nomatch zb
  | @tuple l o vs n xs _ a1 a2 a3 a4 =>
    have hl : s.heap.IsTuple l vs := ⟨_, a1, a2, _, a3⟩
    cases rb with
    | @tuple l' o' vs' n' ys _ b1 b2 b3 b4 =>
      have hl' : s.heap.IsTuple l' vs' := ⟨_, b1, b2, _, b3⟩
      have n1 : vs.size = xs.length := by simpa using ReadsAll.length _ _ _ a4
      have n2 : vs'.size = ys.length := by simpa using ReadsAll.length _ _ _ b4
      show RcAt A s (.ref l) (.ref l') (PyData.eqvAll xs ys)
      rw [← eqvAll_eq xs ys, ← n1, ← n2]
      exact RcAt.tuples hl hl' (room_here u) fun j j1 j2 => (by have z := eqAs xs ys A.in1 s vs.toList vs'.toList _ _ a4 b4 za zb (room_in u) j (by simpa using j1) (by simpa using j2); simpa using z)
    | none => exact RcAt.tuple_none hl (room_here u)
    | bool y => exact RcAt.tuple_bool y hl (room_here u)
    | int y t => exact RcAt.tuple_int y t hl (room_here u)
    | str y t => exact RcAt.tuple_str y t hl (room_here u)
    | list b1 b2 b3 b4 => exact RcAt.tuple_list hl ⟨_, b1, b2, _, b3⟩ (room_here u)
    | dict => exact nomatch zb
  | dict => exact nomatch za
  | none =>
    cases rb with
    | none => exact RcAt.none_none
    | bool y => exact RcAt.none_bool y
    | int y k => exact RcAt.none_int y k
    | str y k => exact RcAt.none_str y k
    | list b1 b2 b3 b4 => exact RcAt.none_list ⟨_, b1, b2, _, b3⟩ (room_here u)
    | tuple b1 b2 b3 b4 => exact RcAt.none_tuple ⟨_, b1, b2, _, b3⟩ (room_here u)
    | dict => exact nomatch zb
  | bool x =>
    cases rb with
    | none => exact RcAt.bool_none x
    | bool y => exact RcAt.bool_bool x y
    | int y k => exact RcAt.bool_int x y k
    | str y k => exact RcAt.bool_str x y k
    | list b1 b2 b3 b4 => exact RcAt.bool_list x ⟨_, b1, b2, _, b3⟩ (room_here u)
    | tuple b1 b2 b3 b4 => exact RcAt.bool_tuple x ⟨_, b1, b2, _, b3⟩ (room_here u)
    | dict => exact nomatch zb
  | int x t =>
    cases rb with
    | none => exact RcAt.int_none x t
    | bool y => exact RcAt.int_bool x t y
    | int y k => exact RcAt.int_int x t y k
    | str y k => exact RcAt.int_str x t y k
    | list b1 b2 b3 b4 => exact RcAt.int_list x t ⟨_, b1, b2, _, b3⟩ (room_here u)
    | tuple b1 b2 b3 b4 => exact RcAt.int_tuple x t ⟨_, b1, b2, _, b3⟩ (room_here u)
    | dict => exact nomatch zb
  | str x t =>
    cases rb with
    | none => exact RcAt.str_none x t
    | bool y => exact RcAt.str_bool x t y
    | int y k => exact RcAt.str_int x t y k
    | str y k => exact RcAt.str_str x t y k
    | list b1 b2 b3 b4 => exact RcAt.str_list x t ⟨_, b1, b2, _, b3⟩ (room_here u)
    | tuple b1 b2 b3 b4 => exact RcAt.str_tuple x t ⟨_, b1, b2, _, b3⟩ (room_here u)
    | dict => exact nomatch zb
theorem rcN {da db : PyData} {A : Around} {s : Shared} {a b : Value} {p q : List Addr} (ra : Reads s.heap a da p) (rb : Reads s.heap b db q) (za : nodic da = true) (zb : nodic db = true)
    (u : A.units + min da.depth db.depth < cLine) : RcNeAt A s a b (!PyData.eqv da db) := by
  cases ra with
  | @list l o vs n xs _ a1 a2 a3 a4 =>
    have hl : s.heap.IsList l vs := ⟨_, a1, a2, _, a3⟩
    cases rb with
    | @list l' o' vs' n' ys _ b1 b2 b3 b4 =>
      have hl' : s.heap.IsList l' vs' := ⟨_, b1, b2, _, b3⟩
      have n1 : vs.size = xs.length := by simpa using ReadsAll.length _ _ _ a4
      have n2 : vs'.size = ys.length := by simpa using ReadsAll.length _ _ _ b4
      show RcNeAt A s (.ref l) (.ref l') (!PyData.eqvAll xs ys)
      by_cases sz : vs.size = vs'.size
      · rw [← eqvAll_same_length (xs := xs) (ys := ys) (by omega), ← n1]
        exact RcNeAt.lists hl hl' sz (room_here u) fun j j1 j2 => (by have z := eqAs xs ys A.in1 s vs.toList vs'.toList _ _ a4 b4 za zb (room_in u) j (by simpa using j1) (by simpa using j2); simpa using z)
      · rw [eqvAll_other_length (xs := xs) (ys := ys) (by omega)]
        exact RcNeAt.lists_lengths hl hl' (by simpa using sz) (room_here u)
    | none => exact RcNeAt.list_none hl (room_here u)
    | bool y => exact RcNeAt.list_bool y hl (room_here u)
    | int y t => exact RcNeAt.list_int y t hl (room_here u)
    | str y t => exact RcNeAt.list_str y t hl (room_here u)
    | tuple b1 b2 b3 b4 => exact RcNeAt.list_tuple hl ⟨_, b1, b2, _, b3⟩ (room_here u)
    | dict => exact nomatch zb
  | @tuple l o vs n xs _ a1 a2 a3 a4 =>
    have hl : s.heap.IsTuple l vs := ⟨_, a1, a2, _, a3⟩
    cases rb with
    | @tuple l' o' vs' n' ys _ b1 b2 b3 b4 =>
      have hl' : s.heap.IsTuple l' vs' := ⟨_, b1, b2, _, b3⟩
      have n1 : vs.size = xs.length := by simpa using ReadsAll.length _ _ _ a4
      have n2 : vs'.size = ys.length := by simpa using ReadsAll.length _ _ _ b4
      show RcNeAt A s (.ref l) (.ref l') (!PyData.eqvAll xs ys)
      rw [← eqvAll_eq xs ys, ← n1, ← n2]
      exact RcNeAt.tuples hl hl' (room_here u) fun j j1 j2 => (by have z := eqAs xs ys A.in1 s vs.toList vs'.toList _ _ a4 b4 za zb (room_in u) j (by simpa using j1) (by simpa using j2); simpa using z)
    | none => exact RcNeAt.tuple_none hl (room_here u)
    | bool y => exact RcNeAt.tuple_bool y hl (room_here u)
    | int y t => exact RcNeAt.tuple_int y t hl (room_here u)
    | str y t => exact RcNeAt.tuple_str y t hl (room_here u)
    | list b1 b2 b3 b4 => exact RcNeAt.tuple_list hl ⟨_, b1, b2, _, b3⟩ (room_here u)
    | dict => exact nomatch zb
  | dict => exact nomatch za
  | none =>
    cases rb with
    | none => exact RcNeAt.none_none
    | bool y => exact RcNeAt.none_bool y
    | int y k => exact RcNeAt.none_int y k
    | str y k => exact RcNeAt.none_str y k
    | list b1 b2 b3 b4 => exact RcNeAt.none_list ⟨_, b1, b2, _, b3⟩ (room_here u)
    | tuple b1 b2 b3 b4 => exact RcNeAt.none_tuple ⟨_, b1, b2, _, b3⟩ (room_here u)
    | dict => exact nomatch zb
  | bool x =>
    cases rb with
    | none => exact RcNeAt.bool_none x
    | bool y => exact RcNeAt.bool_bool x y
    | int y k => exact RcNeAt.bool_int x y k
    | str y k => exact RcNeAt.bool_str x y k
    | list b1 b2 b3 b4 => exact RcNeAt.bool_list x ⟨_, b1, b2, _, b3⟩ (room_here u)
    | tuple b1 b2 b3 b4 => exact RcNeAt.bool_tuple x ⟨_, b1, b2, _, b3⟩ (room_here u)
    | dict => exact nomatch zb
  | int x t =>
    cases rb with
    | none => exact RcNeAt.int_none x t
    | bool y => exact RcNeAt.int_bool x t y
    | int y k => exact RcNeAt.int_int x t y k
    | str y k => exact RcNeAt.int_str x t y k
    | list b1 b2 b3 b4 => exact RcNeAt.int_list x t ⟨_, b1, b2, _, b3⟩ (room_here u)
    | tuple b1 b2 b3 b4 => exact RcNeAt.int_tuple x t ⟨_, b1, b2, _, b3⟩ (room_here u)
    | dict => exact nomatch zb
  | str x t =>
    cases rb with
    | none => exact RcNeAt.str_none x t
    | bool y => exact RcNeAt.str_bool x t y
    | int y k => exact RcNeAt.str_int x t y k
    | str y k => exact RcNeAt.str_str x t y k
    | list b1 b2 b3 b4 => exact RcNeAt.str_list x t ⟨_, b1, b2, _, b3⟩ (room_here u)
    | tuple b1 b2 b3 b4 => exact RcNeAt.str_tuple x t ⟨_, b1, b2, _, b3⟩ (room_here u)
    | dict => exact nomatch zb
end Mi

/-! A2: outcomes, readings of plain computations, operations on values. -/
namespace Mi
open PySem PySem.Spec L2

inductive Out (α : Type) where
  | ok (a : α) (h : Hs) | ex (c : Nat) (fs : List (Nat × Vl)) (h : Hs) | bad
def Out.bind {α β : Type} (x : Out α) (f : α → Hs → Out β) : Out β := match x with
  | .ok a h => f a h
  | .ex c fs h => .ex c fs h
  | .bad => .bad
@[simp] theorem Out.bind_ok {α β : Type} (a : α) (h : Hs) (f : α → Hs → Out β) : (Out.ok a h).bind f = f a h := rfl
@[simp] theorem Out.bind_ex {α β : Type} (c : Nat) (fs) (h : Hs) (f : α → Hs → Out β) : (Out.ex c fs h : Out α).bind f = .ex c fs h := rfl
@[simp] theorem Out.bind_bad {α β : Type} (f : α → Hs → Out β) : (Out.bad : Out α).bind f = .bad := rfl

/-- the names' values by slot -/
abbrev Ev := List (Option Vl)
structure RE (K : Fg) (r : List Addr) (H : Hp) (env : Ev) (σ : St) : Prop where
  len : env.length = σ.length
  get : ∀ (i : Nat) (v : Vl), env[i]? = some (some v) → ∃ u, σ[i]? = some (some u) ∧ RV K r H v u
/-- an exception that flies -/
def RX (K : Fg) (r : List Addr) (H : Hp) (c : Nat) (fs : List (Nat × Vl)) (cls : Value) (d : Option Addr) : Prop :=
  cls = .ref (He.ga K (nm c)) ∧ ((fs = [] ∧ d = none) ∨ ∃ dx q, d = some dx ∧ H dx = some (.xd q) ∧ dx ∉ r ∧ RN K r H fs q)

def Pst {α : Type} (K : Fg) (r : List Addr) (H : Hp) (W : WX) (σ : St) (P : α → Hs → List Addr → Hp → Prop) : Out α → Prop
  | .ok a h' => ∀ r' H', Ext r r' H H' → RH K r' h' H' → P a h' r' H'
  | .ex c fs h' => ∀ r' H' cls d, Ext r r' H H' → RH K r' h' H' → RX K r' H' c fs cls d → W cls d σ H'
  | .bad => False
section
variable {α β : Type} {K : Fg} {r r1 : List Addr} {H H1 : Hp} {W : WX} {σ : St} {P P' : α → Hs → List Addr → Hp → Prop} {x : Out α}
theorem Pst.later (e : Ext r r1 H H1) (h : Pst K r H W σ P x) : Pst K r1 H1 W σ P x := by
  cases x with
  | ok a h' => exact fun r' H' x R => h r' H' (e.trans x) R
  | ex c fs h' => exact fun r' H' cls d x R q => h r' H' cls d (e.trans x) R q
  | bad => exact h
theorem Pst.imp (h : Pst K r H W σ P x) (k : ∀ a h' r' H', Ext r r' H H' → RH K r' h' H' → P a h' r' H' → P' a h' r' H') : Pst K r H W σ P' x := by
  cases x with
  | ok a h' => exact fun r' H' x R => k a h' r' H' x R (h r' H' x R)
  | ex c fs h' => exact h
  | bad => exact h
theorem Pst.bind {f : α → Hs → Out β} {P : β → Hs → List Addr → Hp → Prop} (h : Pst K r H W σ P (x.bind f)) : Pst K r H W σ (fun a h1 r1 H1 => Pst K r1 H1 W σ P (f a h1)) x := by
  cases x with
  | ok a h' => exact fun r' H' e R => Pst.later e (show Pst K r H W σ P (f a h') from h)
  | ex c fs h' => exact h
  | bad => exact h
end
theorem RE.ext {K : Fg} {r r' : List Addr} {H H' : Hp} {env : Ev} {σ : St} (x : Ext r r' H H') (R : RE K r H env σ) : RE K r' H' env σ :=
  ⟨R.len, fun i v e => let ⟨u, h1, h2⟩ := R.get i v e; ⟨u, h1, h2.ext x⟩⟩

/-- the reading of a plain computation -/
abbrev ME := Ev → Hs → Out Vl
abbrev MT := Ev → Hs → Out Bool
abbrev MA := Ev → Hs → Out (List Vl)
def rE (K : Fg) (W : WX) (m : ME) : TE := fun σ H Q => ∃ r env h, RH K r h H ∧ RE K r H env σ ∧ Pst K r H W σ (fun v _ r' H' => ∀ u, RV K r' H' v u → Q u H') (m env h)
def rT (K : Fg) (W : WX) (m : MT) : TT := fun σ H Q => ∃ r env h, RH K r h H ∧ RE K r H env σ ∧ Pst K r H W σ (fun b _ _ H' => Q b H') (m env h)
def rA (K : Fg) (W : WX) (m : MA) : TA := fun σ H Q => ∃ r env h, RH K r h H ∧ RE K r H env σ ∧ Pst K r H W σ (fun vs _ r' H' => ∀ us, RVs K r' H' vs us → Q us H') (m env h)

theorem PE.imp {X : Cx} {e : Expr} {t t' : TE} (h : PE X e t) (k : ∀ σ H Q, t' σ H Q → t σ H Q) : PE X e t' := ⟨fun pins s σ H Q I q => h.run pins s σ H Q I (k σ H Q q)⟩
theorem PT.imp {X : Cx} {e : Expr} {t t' : TT} (h : PT X e t) (k : ∀ σ H Q, t' σ H Q → t σ H Q) : PT X e t' := ⟨fun pins s σ H Q I q => h.run pins s σ H Q I (k σ H Q q)⟩
theorem PA.imp {X : Cx} {e : List Expr} {t t' : TA} (h : PA X e t) (k : ∀ σ H Q, t' σ H Q → t σ H Q) : PA X e t' := ⟨fun pos pins s σ H Q I q => h.run pos pins s σ H Q I (k σ H Q q)⟩
theorem OpR.or {X : Cx} {f : Value → Value → Sem Value} {r r' : R2} (h : OpR X f r) (h' : OpR X f r') : OpR X f (fun x y H Q => r x y H Q ∨ r' x y H Q) := by
  intro pins s σ H x y v u Q I rx ry q
  rcases q with q | q
  · exact h pins s σ H x y v u Q I rx ry q
  · exact h' pins s σ H x y v u Q I rx ry q
theorem OpR.imp {X : Cx} {f : Value → Value → Sem Value} {r r' : R2} (h : OpR X f r) (k : ∀ x y H Q, r' x y H Q → r x y H Q) : OpR X f r' := fun pins s σ H x y v u Q I rx ry q => h pins s σ H x y v u Q I rx ry (k _ _ _ _ q)

/-- a plain operation on two values is kept by a rule -/
abbrev G2 := Vl → Vl → Hs → Out Vl
def Keeps2 (K : Fg) (g : G2) (t : R2) : Prop := ∀ (r : List Addr) (h : Hs) (H : Hp) (W : WX) (σ : St) (x y : Vl) (u v : V) (Q : VK), RH K r h H → RV K r H x u → RV K r H y v →
  Pst K r H W σ (fun z _ r' H' => ∀ w, RV K r' H' z w → Q w H') (g x y h) → t u v H Q
def mBin (g : G2) (ma mb : ME) : ME := fun env h => (ma env h).bind fun x h1 => (mb env h1).bind fun y h2 => g x y h2
theorem rE_bin {K : Fg} {W : WX} {g : G2} {t : R2} {ma mb : ME} (k : Keeps2 K g t) {σ : St} {H : Hp} {Q : VK} (q : rE K W (mBin g ma mb) σ H Q) : tOp t (rE K W ma) (rE K W mb) σ H Q := by
  obtain ⟨r, env, h, R, E, p⟩ := q
  refine ⟨r, env, h, R, E, p.bind.imp fun x h1 r1 H1 e1 R1 p1 u ru => ?_⟩
  refine ⟨r1, env, h1, R1, E.ext e1, p1.bind.imp fun y h2 r2 H2 e2 R2 p2 v rv => ?_⟩
  exact k r2 h2 H2 W σ x y u v Q R2 (ru.ext e2) rv p2
theorem pe_bin {X : Cx} {W : WX} {op : Operator} {g : G2} {t : R2} {a b : Expr} {ma mb : ME} {pos : Pos} (ho : OpR X (binaryOp op) t) (k : Keeps2 X.K g t) (ha : PE X a (rE X.K W ma)) (hb : PE X b (rE X.K W mb)) : PE X (.BinOp a op b pos) (rE X.K W (mBin g ma mb)) :=
  PE.imp (pe_op ho ha hb) fun _ _ _ q => rE_bin k q
theorem pe_cmpM {X : Cx} {W : WX} {op : CmpOp} {g : G2} {t : R2} {a b : Expr} {ma mb : ME} {pos : Pos} (ho : OpR X (compareOp op) t) (k : Keeps2 X.K g t) (ha : PE X a (rE X.K W ma)) (hb : PE X b (rE X.K W mb)) (hm : behindInMarks op b = false) : PE X (.Compare a [op] [b] pos) (rE X.K W (mBin g ma mb)) :=
  PE.imp (pe_cmpR ho ha hb hm) fun _ _ _ q => rE_bin k q
/-- a bool, as a test -/
def mTest (m : ME) : MT := fun env h => (m env h).bind fun v h1 => match v with
  | .bl b => .ok b h1
  | _ => .bad
theorem rT_test {K : Fg} {W : WX} {m : ME} {σ : St} {H : Hp} {Q : Bool → Hp → Prop} (q : rT K W (mTest m) σ H Q) : rE K W m σ H fun x H' => ∃ k, x = .bl k ∧ Q k H' := by
  obtain ⟨r, env, h, R, E, p⟩ := q
  refine ⟨r, env, h, R, E, p.bind.imp fun x h1 r1 H1 e1 R1 p1 u ru => ?_⟩
  cases x with
  | bl b =>
    simp only [RV] at ru
    exact ⟨b, ru, p1 r1 H1 (Ext.refl _ _) R1⟩
  | _ => exact p1.elim
theorem pt_cmpM {X : Cx} {W : WX} {op : CmpOp} {g : G2} {t : R2} {a b : Expr} {ma mb : ME} {pos : Pos} (ho : OpR X (compareOp op) t) (k : Keeps2 X.K g t) (ha : PE X a (rE X.K W ma)) (hb : PE X b (rE X.K W mb)) (hm : behindInMarks op b = false) : PT X (.Compare a [op] [b] pos) (rT X.K W (mTest (mBin g ma mb))) :=
  PT.imp (pt_cmpR ho ha hb hm) fun σ H Q q => rE_bin k (rT_test q)

/-! ### operations -/
abbrev bigN : Nat := 1000000
theorem big_line : bigN ≤ sizeLine := by decide
def isBig (x : Int) : Bool := !decide (x.natAbs.log2 < 64)
def mulFits (i j : Int) : Bool := decide (i.natAbs.log2 < 63) || decide (j.natAbs.log2 < 63) || decide (i.natAbs.log2 + j.natAbs.log2 < 134000000)
def mk2 (f : Int → Int → Vl) (x y : Vl) (h : Hs) : Out Vl := match x, y with
  | .int i, .int j => .ok (f i j) h
  | _, _ => .bad
/-- the items of a list -/
def itemsOf : Ob → Option (List Vl)
  | .lst xs => some xs
  | .scr xs => some xs
  | _ => none
def getL (h : Hs) (n : Nat) : Option (List Vl) := (h[n]?).bind itemsOf
def gAdd : G2 := fun x y h => match x, y with
  | .int i, .int j => .ok (.int (i + j)) h
  | .str a, .str b => if a.length + b.length ≤ bigN then .ok (.str (a ++ b)) h else .bad
  | .tup a, .tup b => if a.length + b.length ≤ bigN then .ok (.tup (a ++ b)) h else .bad
  | .ref m, .ref n => match h[m]?, h[n]? with
    | some (.lst a), some (.lst b) => if a.length + b.length ≤ bigN then .ok (.ref h.length) (h ++ [.lst (a ++ b)]) else .bad
    | _, _ => .bad
  | _, _ => .bad
def gSub : G2 := mk2 fun i j => .int (i - j)
def gMul : G2 := fun x y h => match x, y with
  | .int i, .int j => if mulFits i j = true then .ok (.int (i * j)) h else .bad
  | .ref m, .int k => match h[m]? with
    | some (.lst a) => if decide (k.natAbs ≤ 1000) && decide (a.length * k.toNat ≤ bigN) then .ok (.ref h.length) (h ++ [.lst (List.replicate k.toNat a).flatten]) else .bad
    | _ => .bad
  | .str a, .int k => if decide (k.natAbs ≤ 1000) && decide (a.length ≤ 1000) then .ok (.str (Txt.mul a k)) h else .bad
  | _, _ => .bad
def gMod : G2 := fun x y h => match x, y with
  | .int i, .int j => if j = 0 then .bad else .ok (.int (i.fmod j)) h
  | _, _ => .bad
def gDiv : G2 := fun x y h => match x, y with
  | .int i, .int j => if j = 0 then .bad else if j.natAbs.log2 < 9000 then .ok (.int (i.fdiv j)) h else .bad
  | _, _ => .bad
def gPow : G2 := fun x y h => match x, y with
  | .int i, .int j => if decide (0 ≤ j) && decide (j ≤ 1000) && decide (i.natAbs < 1000) then .ok (.int (i ^ j.toNat)) h else .bad
  | _, _ => .bad
def gShr : G2 := fun x y h => match x, y with
  | .int i, .int j => if 0 ≤ j then .ok (.int (i / 2 ^ j.toNat)) h else .bad
  | _, _ => .bad

section
variable {K : Fg}
theorem RV.int_ {r : List Addr} {H : Hp} {i : Int} {u : V} (h : RV K r H (.int i) u) : u = .int i := by simpa only [RV] using h
theorem RV.str_ {r : List Addr} {H : Hp} {i : Str} {u : V} (h : RV K r H (.str i) u) : u = .str i := by simpa only [RV] using h
theorem RV.bl_ {r : List Addr} {H : Hp} {i : Bool} {u : V} (h : RV K r H (.bl i) u) : u = .bl i := by simpa only [RV] using h
theorem RV.non_ {r : List Addr} {H : Hp} {u : V} (h : RV K r H .non u) : u = .non := by simpa only [RV] using h
theorem RV.ref_ {r : List Addr} {H : Hp} {n : Nat} {u : V} (h : RV K r H (.ref n) u) : ∃ a, r[n]? = some a ∧ u = .ref a := by simpa only [RV] using h
theorem RV.tup_ {r : List Addr} {H : Hp} {xs : List Vl} {u : V} (h : RV K r H (.tup xs) u) : ∃ a vs, u = .ref a ∧ SqT K H a vs ∧ RVs K r H xs vs := by simpa only [RV] using h
theorem RV.kl_ {r : List Addr} {H : Hp} {xs : List Int} {u : V} (h : RV K r H (.kl xs) u) : ∃ a, u = .ref a ∧ SqL K H a (xs.map V.int) := by
  simp only [RV] at h
  obtain ⟨a, h1, h2⟩ := h
  exact ⟨a, h1, h2.sq⟩
theorem RV.ofInt {r : List Addr} {H : Hp} (i : Int) : RV K r H (.int i) (.int i) := by simp only [RV]
theorem RV.ofStr {r : List Addr} {H : Hp} (i : Str) : RV K r H (.str i) (.str i) := by simp only [RV]
theorem RV.ofBl {r : List Addr} {H : Hp} (i : Bool) : RV K r H (.bl i) (.bl i) := by simp only [RV]
theorem RV.ofNon {r : List Addr} {H : Hp} : RV K r H .non .non := by simp only [RV]
theorem RV.ofRef {r : List Addr} {H : Hp} {n : Nat} {a : Addr} (e : r[n]? = some a) : RV K r H (.ref n) (.ref a) := by simp only [RV]; exact ⟨a, e, rfl⟩
theorem RV.ofTup {r : List Addr} {H : Hp} {xs : List Vl} {vs : List V} {a : Addr} (e : SqT K H a vs) (q : RVs K r H xs vs) : RV K r H (.tup xs) (.ref a) := by simp only [RV]; exact ⟨a, vs, rfl, e, q⟩
end
section
variable {K : Fg} {r : List Addr} {h : Hs} {H : Hp} {W : WX} {σ : St} {Q : VK}
/-- nothing happens to the heap -/
theorem Pst.here {α : Type} {P : α → Hs → List Addr → Hp → Prop} {a : α} (R : RH K r h H) (q : Pst K r H W σ P (.ok a h)) : P a h r H := q r H (Ext.refl _ _) R
/-- the answer is a new tuple -/
theorem Pst.newTup {xs : List Vl} {vs : List V} (R : RH K r h H) (q : Pst K r H W σ (fun z _ r' H' => ∀ w, RV K r' H' z w → Q w H') (.ok (.tup xs) h)) (rs : RVs K r H xs vs) : ∀ p, H p = none → Q (.ref p) (upd H p (.tup vs)) := fun p hp =>
  q r _ (ext_new hp) (R.new hp) _ (.ofTup (SqT.of upd_same) (rs.ext (ext_new hp)))
/-- the answer is a new object of ours -/
theorem Pst.newOb {ob : Ob} {o : HO} (R : RH K r h H) (q : Pst K r H W σ (fun z _ r' H' => ∀ w, RV K r' H' z w → Q w H') (.ok (.ref h.length) (h ++ [ob]))) (z : isScr ob = false) (ro : ∀ p, H p = none → RO K (r ++ [p]) (upd H p o) ob p) : ∀ p, H p = none → Q (.ref p) (upd H p o) := fun p hp =>
  q (r ++ [p]) _ (ext_mine hp) (R.mine hp (ro p hp) z) _ (.ofRef (by rw [← R.len]; simp))
theorem RO.newLst {xs : List Vl} {vs : List V} (rs : RVs K r H xs vs) : ∀ p, H p = none → RO K (r ++ [p]) (upd H p (.lst vs)) (.lst xs) p := fun p hp => ⟨vs, upd_same, rs.ext (ext_mine hp)⟩
theorem Pst.newLst {xs : List Vl} {vs : List V} (R : RH K r h H) (q : Pst K r H W σ (fun z _ r' H' => ∀ w, RV K r' H' z w → Q w H') (.ok (.ref h.length) (h ++ [.lst xs]))) (rs : RVs K r H xs vs) : ∀ p, H p = none → Q (.ref p) (upd H p (.lst vs)) :=
  Pst.newOb R q rfl (RO.newLst rs)
/-- what a list of ours is -/
theorem RH.lst {n : Nat} {a : Addr} {xs : List Vl} (R : RH K r h H) (e : r[n]? = some a) (q : h[n]? = some (.lst xs)) : ∃ vs, H a = some (.lst vs) ∧ RVs K r H xs vs := R.ob n _ a q e
theorem RH.seq {n : Nat} {a : Addr} {xs : List Vl} (R : RH K r h H) (e : r[n]? = some a) (q : getL h n = some xs) : ∃ vs, SqL K H a vs ∧ RVs K r H xs vs := by
  unfold getL at q
  cases o : h[n]? with
  | none => rw [o] at q; cases q
  | some ob =>
    rw [o] at q
    have z := R.ob n _ a o e
    cases ob with
    | lst ys => cases (show some ys = some xs from q); obtain ⟨vs, h1, h2⟩ := z; exact ⟨vs, SqL.of h1, h2⟩
    | scr ys => exact z.elim
    | _ => cases (show none = some xs from q)
theorem RH.dic {n : Nat} {a : Addr} {xs : List (Key × Vl)} (R : RH K r h H) (e : r[n]? = some a) (q : h[n]? = some (.dic xs)) : ∃ vs, H a = some (.dK vs) ∧ RF K r H xs vs := R.ob n _ a q e
theorem RH.ins {n : Nat} {a : Addr} {c : Nat} {fs : List (Nat × Vl)} (R : RH K r h H) (e : r[n]? = some a) (q : h[n]? = some (.ins c fs)) : ∃ dx vs, H a = some (.ins (He.ga K (nm c)) dx vs) ∧ RN K r H fs vs := R.ob n _ a q e
end

/-! ### + -/
def tAddAll (K : Fg) : R2 := fun x y H Q => rI0 (fun i j => .int (i + j)) x y H Q ∨ (∃ i j, x = .str i ∧ y = .str j ∧ i.length + j.length ≤ sizeLine ∧ Q (.str (i ++ j)) H) ∨ rCatA K x y H Q ∨ rCat x y H Q
theorem op_addAll {X : Cx} : OpR X (binaryOp .Add) (tAddAll X.K) := OpR.or op_add (OpR.or op_add_str (OpR.or op_catA op_cat))
theorem keeps_add {K : Fg} : Keeps2 K gAdd (tAddAll K) := by
  intro r h H W σ x y u v Q R rx ry p
  unfold gAdd at p
  split at p
  · rw [rx.int_, ry.int_]
    exact .inl ⟨_, _, rfl, rfl, p.here R _ (.ofInt _)⟩
  · split at p
    · rename_i hz
      rw [rx.str_, ry.str_]
      exact .inr (.inl ⟨_, _, rfl, rfl, Nat.le_trans hz big_line, p.here R _ (.ofStr _)⟩)
    · exact p.elim
  · split at p
    · rename_i hz
      obtain ⟨a, vs, rfl, h1, h2⟩ := rx.tup_
      obtain ⟨b, us, rfl, h3, h4⟩ := ry.tup_
      refine .inr (.inr (.inl ⟨a, b, vs, us, rfl, rfl, h1, h3, ?_, fun z => ?_, fun z z' => ?_, fun _ _ => ?_⟩))
      · rw [h2.length, h4.length]; exact Nat.le_trans hz big_line
      · subst z
        have e := h2.length
        obtain rfl := List.eq_nil_of_length_eq_zero e.symm
        exact p.here R _ (.ofTup h3 h4)
      · subst z'
        have e := h4.length
        obtain rfl := List.eq_nil_of_length_eq_zero e.symm
        rw [List.append_nil] at p
        exact p.here R _ (.ofTup h1 h2)
      · exact Pst.newTup R p (h2.append h4)
    · exact p.elim
  · split at p
    · split at p
      · rename_i m n _ _ a b e1 e2 hz
        obtain ⟨a1, q1, rfl⟩ := rx.ref_
        obtain ⟨b1, q2, rfl⟩ := ry.ref_
        obtain ⟨vs, h1, h2⟩ := R.lst q1 e1
        obtain ⟨us, h3, h4⟩ := R.lst q2 e2
        refine .inr (.inr (.inr ⟨a1, b1, vs, us, rfl, rfl, h1, h3, ?_, ?_⟩))
        · rw [h2.length, h4.length]; exact Nat.le_trans hz big_line
        · exact Pst.newLst R p (h2.append h4)
      · exact p.elim
    · exact p.elim
  · exact p.elim
theorem keeps_sub {K : Fg} : Keeps2 K gSub (rI0 fun i j => .int (i - j)) := by
  intro r h H W σ x y u v Q R rx ry p
  unfold gSub mk2 at p
  split at p
  · rw [rx.int_, ry.int_]
    exact ⟨_, _, rfl, rfl, p.here R _ (.ofInt _)⟩
  · exact p.elim
end Mi

/-! A3: numbers, texts, comparisons, in, is, subscripts, slices. -/
namespace Mi
open PySem PySem.Spec L2

/-! ### numbers -/
theorem log2_bits (x : Int) : Builtin.Int.intBits x ≤ x.natAbs.log2 + 1 := by
  unfold Builtin.Int.intBits
  split <;> omega
theorem mulFits_ok {i j : Int} (h : mulFits i j = true) : IntMulOk i j := by
  unfold mulFits at h
  simp only [Bool.or_eq_true, decide_eq_true_eq] at h
  have h1 := log2_bits i
  have h2 := log2_bits j
  rcases h with (h | h) | h
  · exact .of_left (by omega)
  · exact .of_right (by omega)
  · have e : bitsLine = 134217728 := by decide
    unfold IntMulOk
    intro z
    rw [Bool.and_eq_true] at z
    have z2 := z.2
    unfold Builtin.Int.intTooBig at z2
    have z3 := of_decide_eq_true z2
    rw [e] at z3
    omega
def tMulAll (K : Fg) : R2 := fun x y H Q => rI IntMulOk (fun i j => .int (i * j)) x y H Q ∨ rRep x y H Q ∨ (∃ z k, x = .str z ∧ y = .int k ∧ MulOk z k ∧ Q (.str (Txt.mul z k)) H)
theorem op_mulI {X : Cx} : OpR X (binaryOp .Mult) (rI IntMulOk fun i j => .int (i * j)) := opI fun _ _ _ _ _ _ _ hc q => PyProof.Rows.mul_int q hc
theorem op_mulS {X : Cx} : OpR X (binaryOp .Mult) (fun x y H Q => ∃ z k, x = .str z ∧ y = .int k ∧ MulOk z k ∧ Q (.str (Txt.mul z k)) H) := by
  intro pins s σ H x y v u Q I rx ry h
  obtain ⟨z, k, rfl, rfl, hk, q⟩ := h
  obtain ⟨t, rfl⟩ := rx
  obtain ⟨t', rfl⟩ := ry
  exact SB.mul hk fun t' k' => ⟨.str (Txt.mul z k), H, I.tok _, ⟨t', rfl⟩, q⟩
theorem op_mulAll {X : Cx} : OpR X (binaryOp .Mult) (tMulAll X.K) := OpR.or op_mulI (OpR.or op_rep op_mulS)
theorem mulOk_of {a : Str} {k : Int} (h1 : k.natAbs ≤ 1000) (h2 : a.length ≤ 1000) : MulOk a k := by
  refine ⟨?_, fun h _ => ?_, fun h _ => ?_⟩
  · rw [Bool.or_eq_false_iff, decide_eq_false_iff_not, decide_eq_false_iff_not]; omega
  · have : (1000 : Int) ≤ (2 ^ 63 - 1) / k := (Int.le_ediv_iff_mul_le (by omega)).mpr (by omega)
    omega
  · have e : a.length * k.toNat ≤ 1000 * 1000 := Nat.mul_le_mul h2 (by omega)
    unfold Builtin.Str.tooLong
    simp only [decide_eq_false_iff_not]
    have := sizeLine_eq
    omega
theorem keeps_mul {K : Fg} : Keeps2 K gMul (tMulAll K) := by
  intro r h H W σ x y u v Q R rx ry p
  unfold gMul at p
  split at p
  · split at p
    · rename_i hz
      rw [rx.int_, ry.int_]
      exact .inl ⟨_, _, rfl, rfl, mulFits_ok hz, p.here R _ (.ofInt _)⟩
    · exact p.elim
  · split at p
    · split at p
      · rename_i m k _ a e1 hz
        obtain ⟨a1, q1, rfl⟩ := rx.ref_
        rw [ry.int_]
        obtain ⟨vs, h1, h2⟩ := R.lst q1 e1
        simp only [Bool.and_eq_true, decide_eq_true_eq] at hz
        exact .inr (.inl ⟨a1, k, vs, rfl, rfl, h1, by omega, by omega, by rw [h2.length]; exact Nat.le_trans hz.2 big_line, Pst.newLst R p (h2.rep _)⟩)
      · exact p.elim
    · exact p.elim
  · split at p
    · rename_i hz
      simp only [Bool.and_eq_true, decide_eq_true_eq] at hz
      rw [rx.str_, ry.int_]
      exact .inr (.inr ⟨_, _, rfl, rfl, mulOk_of hz.1 hz.2, p.here R _ (.ofStr _)⟩)
    · exact p.elim
  · exact p.elim
theorem keeps_mod {K : Fg} : Keeps2 K gMod (rI (fun _ j => j ≠ 0) fun i j => .int (i.fmod j)) := by
  intro r h H W σ x y u v Q R rx ry p
  unfold gMod at p
  split at p
  · split at p
    · exact p.elim
    · rename_i hz
      rw [rx.int_, ry.int_]
      exact ⟨_, _, rfl, rfl, hz, p.here R _ (.ofInt _)⟩
  · exact p.elim
theorem op_divL {X : Cx} : OpR X (binaryOp .FloorDiv) (rI (fun _ j => j ≠ 0 ∧ j.natAbs.log2 < 9000) fun i j => .int (i.fdiv j)) := opI fun i j _ _ _ _ _ hc q =>
  PyProof.Rows.floordiv_int hc.1 q (.inl (PyProof.noPylong_of_log2 hc.2))
theorem keeps_div {K : Fg} : Keeps2 K gDiv (rI (fun _ j => j ≠ 0 ∧ j.natAbs.log2 < 9000) fun i j => .int (i.fdiv j)) := by
  intro r h H W σ x y u v Q R rx ry p
  unfold gDiv at p
  split at p
  · split at p
    · exact p.elim
    · split at p
      · rename_i hz hz2
        rw [rx.int_, ry.int_]
        exact ⟨_, _, rfl, rfl, ⟨hz, hz2⟩, p.here R _ (.ofInt _)⟩
      · exact p.elim
  · exact p.elim
theorem keeps_pow {K : Fg} : Keeps2 K gPow (rI CPow fun i j => .int (i ^ j.toNat)) := by
  intro r h H W σ x y u v Q R rx ry p
  unfold gPow at p
  split at p
  · split at p
    · rename_i hz
      simp only [Bool.and_eq_true, decide_eq_true_eq] at hz
      rw [rx.int_, ry.int_]
      exact ⟨_, _, rfl, rfl, ⟨hz.1.1, by omega, Nat.lt_trans hz.2 (by decide)⟩, p.here R _ (.ofInt _)⟩
    · exact p.elim
  · exact p.elim
theorem keeps_shr {K : Fg} : Keeps2 K gShr (rI (fun _ j => 0 ≤ j) fun i j => .int (i / 2 ^ j.toNat)) := by
  intro r h H W σ x y u v Q R rx ry p
  unfold gShr at p
  split at p
  · split at p
    · rename_i hz
      rw [rx.int_, ry.int_]
      exact ⟨_, _, rfl, rfl, hz, p.here R _ (.ofInt _)⟩
    · exact p.elim
  · exact p.elim

/-! ### data -/
def allS {α β : Type} (f : α → Option β) : List α → Option (List β)
  | [] => some []
  | x :: xs => match f x, allS f xs with
    | some y, some ys => some (y :: ys)
    | _, _ => none
/-- a value as data, by depth -/
def toD (h : Hs) : Nat → Vl → Option PyData
  | 0, _ => none
  | _ + 1, .non => some .none
  | _ + 1, .bl b => some (.bool b)
  | _ + 1, .int i => some (.int i)
  | _ + 1, .str x => some (.str x)
  | n + 1, .ref a => match getL h a with
    | some xs => (allS (toD h n) xs).map .list
    | none => none
  | n + 1, .tup xs => (allS (toD h n) xs).map .tuple
  | _ + 1, .kl _ => none
abbrev deep : Nat := 30
theorem toD_ok {K : Fg} {r : List Addr} {h : Hs} {H : Hp} (R : RH K r h H) : ∀ (n : Nat) (x : Vl) (u : V) (d : PyData), RV K r H x u → toD h n x = some d → Dp K H u d ∧ nodic d = true ∧ d.depth ≤ n := by
  intro n
  induction n with
  | zero => intro x u d _ e; simp [toD] at e
  | succ n ih =>
    have all : ∀ (xs : List Vl) (us : List V) (ds : List PyData), RVs K r H xs us → allS (toD h n) xs = some ds → DpAll K H us ds ∧ nodics ds = true ∧ PyData.depthAll ds ≤ n := by
      intro xs
      induction xs with
      | nil =>
        intro us ds q e
        simp only [RVs] at q
        subst q
        cases (show some [] = some ds from e)
        exact ⟨.nil, rfl, Nat.zero_le _⟩
      | cons x xs ihx =>
        intro us ds q e
        simp only [RVs] at q
        obtain ⟨v, t, rfl, q1, q2⟩ := q
        unfold allS at e
        split at e
        · rename_i y ys e1 e2
          cases e
          obtain ⟨a1, a2, a3⟩ := ih _ _ _ q1 e1
          obtain ⟨b1, b2, b3⟩ := ihx _ _ q2 e2
          refine ⟨.cons a1 b1, ?_, Nat.max_le.mpr ⟨a3, b3⟩⟩
          show (nodic y && nodics ys) = true
          rw [a2, b2]; rfl
        · cases e
    intro x u d q e
    cases x with
    | non => cases (show some PyData.none = some d from e); rw [q.non_]; exact ⟨.non, rfl, Nat.zero_le _⟩
    | bl b => cases (show some (PyData.bool b) = some d from e); rw [q.bl_]; exact ⟨.bl b, rfl, Nat.zero_le _⟩
    | int b => cases (show some (PyData.int b) = some d from e); rw [q.int_]; exact ⟨.int b, rfl, Nat.zero_le _⟩
    | str b => cases (show some (PyData.str b) = some d from e); rw [q.str_]; exact ⟨.str b, rfl, Nat.zero_le _⟩
    | ref a =>
      obtain ⟨b, q1, rfl⟩ := q.ref_
      unfold toD at e
      split at e
      · rename_i xs e1
        obtain ⟨vs, q2, q3⟩ := R.seq q1 e1
        cases e2 : allS (toD h n) xs with
        | none => rw [e2] at e; cases e
        | some ds =>
          rw [e2] at e
          cases (show some (PyData.list ds) = some d from e)
          obtain ⟨a1, a2, a3⟩ := all _ _ _ q3 e2
          exact ⟨.lst q2 a1, a2, Nat.succ_le_succ a3⟩
      · cases e
    | kl ns => cases (show none = some d from e)
    | tup xs =>
      obtain ⟨b, vs, rfl, q2, q3⟩ := q.tup_
      unfold toD at e
      cases e2 : allS (toD h n) xs with
      | none => rw [e2] at e; cases e
      | some ds =>
        rw [e2] at e
        cases (show some (PyData.tuple ds) = some d from e)
        obtain ⟨a1, a2, a3⟩ := all _ _ _ q3 e2
        exact ⟨.tup q2 a1, a2, Nat.succ_le_succ a3⟩
def tEqN (K : Fg) (neg : Bool) : R2 := fun x y H Q => ∃ d e, Dp K H x d ∧ Dp K H y e ∧ nodic d = true ∧ nodic e = true ∧ d.depth ≤ 60 ∧ Q (.bl (if neg then !PyData.eqv d e else PyData.eqv d e)) H
theorem op_eqN {X : Cx} (hu : X.A.units + 64 < cLine) : OpR X (compareOp .Eq) (tEqN X.K false) := by
  intro pins s σ H x y v u Q I rx ry h
  obtain ⟨d, e, hd, he, sd, se, dp, q⟩ := h
  obtain ⟨as, r1⟩ := Dp.reads I d x v hd rx
  obtain ⟨bs, r2⟩ := Dp.reads I e y u he ry
  exact rcA r1 r2 sd se (by have := Nat.min_le_left d.depth e.depth; omega) X.prog X.w X.xe _ ⟨.bl _, H, I, rfl, q⟩
def gEq : G2 := fun x y h => match toD h deep x, toD h deep y with
  | some d, some e => .ok (.bl (PyData.eqv d e)) h
  | _, _ => .bad
def gNe : G2 := fun x y h => match toD h deep x, toD h deep y with
  | some d, some e => .ok (.bl (!PyData.eqv d e)) h
  | _, _ => .bad
theorem keeps_eq {K : Fg} : Keeps2 K gEq (tEqN K false) := by
  intro r h H W σ x y u v Q R rx ry p
  unfold gEq at p
  split at p
  · rename_i d e e1 e2
    obtain ⟨a1, a2, a3⟩ := toD_ok R _ _ _ _ rx e1
    obtain ⟨b1, b2, b3⟩ := toD_ok R _ _ _ _ ry e2
    exact ⟨d, e, a1, b1, a2, b2, Nat.le_trans a3 (by decide), p.here R _ (.ofBl _)⟩
  · exact p.elim
theorem op_neN {X : Cx} (hu : X.A.units + 64 < cLine) : OpR X (compareOp .NotEq) (tEqN X.K true) := by
  intro pins s σ H x y v u Q I rx ry h
  obtain ⟨d, e, hd, he, sd, se, dp, q⟩ := h
  obtain ⟨as, r1⟩ := Dp.reads I d x v hd rx
  obtain ⟨bs, r2⟩ := Dp.reads I e y u he ry
  exact rcN r1 r2 sd se (by have := Nat.min_le_left d.depth e.depth; omega) X.prog X.w X.xe _ ⟨.bl _, H, I, rfl, q⟩
theorem keeps_ne {K : Fg} : Keeps2 K gNe (tEqN K true) := by
  intro r h H W σ x y u v Q R rx ry p
  unfold gNe at p
  split at p
  · rename_i d e e1 e2
    obtain ⟨a1, a2, a3⟩ := toD_ok R _ _ _ _ rx e1
    obtain ⟨b1, b2, b3⟩ := toD_ok R _ _ _ _ ry e2
    exact ⟨d, e, a1, b1, a2, b2, Nat.le_trans a3 (by decide), p.here R _ (.ofBl _)⟩
  · exact p.elim

/-! ### order of numbers -/
def gLt : G2 := mk2 fun i j => .bl (decide (i < j))
def gLe : G2 := mk2 fun i j => .bl (decide (i ≤ j))
def gGt : G2 := mk2 fun i j => .bl (decide (j < i))
def gGe : G2 := mk2 fun i j => .bl (decide (j ≤ i))
theorem keeps_mk2 {K : Fg} {f : Int → Int → Vl} {g : Int → Int → V} (hf : ∀ (r : List Addr) (H : Hp) i j, RV K r H (f i j) (g i j)) : Keeps2 K (mk2 f) (rI0 g) := by
  intro r h H W σ x y u v Q R rx ry p
  unfold mk2 at p
  split at p
  · rw [rx.int_, ry.int_]
    exact ⟨_, _, rfl, rfl, p.here R _ (hf _ _ _ _)⟩
  · exact p.elim
theorem keeps_lt {K : Fg} : Keeps2 K gLt (rI0 fun i j => .bl (decide (i < j))) := keeps_mk2 fun _ _ _ _ => .ofBl _
theorem keeps_le {K : Fg} : Keeps2 K gLe (rI0 fun i j => .bl (decide (i ≤ j))) := keeps_mk2 fun _ _ _ _ => .ofBl _
theorem keeps_gt {K : Fg} : Keeps2 K gGt (rI0 fun i j => .bl (decide (j < i))) := keeps_mk2 fun _ _ _ _ => .ofBl _
theorem keeps_ge {K : Fg} : Keeps2 K gGe (rI0 fun i j => .bl (decide (j ≤ i))) := keeps_mk2 fun _ _ _ _ => .ofBl _

/-! ### is -/
def isNon : Vl → Bool
  | .non => true
  | _ => false
def tIs : R2 := fun x y H Q => (y = .non ∧ Q (.bl (decide (x = .non))) H) ∨ ∃ a b, x = .bl a ∧ y = .bl b ∧ Q (.bl (decide (a = b))) H
def tIsnt : R2 := fun x y H Q => (y = .non ∧ Q (.bl (!decide (x = .non))) H) ∨ ∃ a b, x = .bl a ∧ y = .bl b ∧ Q (.bl (!decide (a = b))) H
theorem op_isA {X : Cx} : OpR X (compareOp .Is) tIs := OpR.or op_isN op_is_bl
theorem op_isntA {X : Cx} : OpR X (compareOp .IsNot) tIsnt := OpR.or op_notN op_isnot_bl
def gIs : G2 := fun x y h => match y with
  | .non => .ok (.bl (isNon x)) h
  | .bl b => match x with
    | .bl a => .ok (.bl (a == b)) h
    | _ => .bad
  | _ => .bad
def gIsnt : G2 := fun x y h => match y with
  | .non => .ok (.bl (!isNon x)) h
  | .bl b => match x with
    | .bl a => .ok (.bl (!(a == b))) h
    | _ => .bad
  | _ => .bad
theorem isNon_eq {K : Fg} {r : List Addr} {H : Hp} {x : Vl} {u : V} (q : RV K r H x u) : decide (u = .non) = isNon x := by
  cases x with
  | non => rw [q.non_]; rfl
  | bl b => rw [q.bl_]; rfl
  | int b => rw [q.int_]; rfl
  | str b => rw [q.str_]; rfl
  | ref b => obtain ⟨a, _, rfl⟩ := q.ref_; rfl
  | tup b => obtain ⟨a, _, rfl, _⟩ := q.tup_; rfl
  | kl b => obtain ⟨a, rfl, _⟩ := q.kl_; rfl
theorem keeps_is {K : Fg} : Keeps2 K gIs tIs := by
  intro r h H W σ x y u v Q R rx ry p
  unfold gIs at p
  split at p
  · rw [ry.non_]
    exact .inl ⟨rfl, by rw [isNon_eq rx]; exact p.here R _ (.ofBl _)⟩
  · split at p
    · rename_i b _ a
      rw [ry.bl_, rx.bl_]
      refine .inr ⟨_, _, rfl, rfl, ?_⟩
      rw [show decide (a = b) = (a == b) from by cases a <;> cases b <;> rfl]
      exact p.here R _ (.ofBl _)
    · exact p.elim
  · exact p.elim
theorem keeps_isnt {K : Fg} : Keeps2 K gIsnt tIsnt := by
  intro r h H W σ x y u v Q R rx ry p
  unfold gIsnt at p
  split at p
  · rw [ry.non_]
    exact .inl ⟨rfl, by rw [isNon_eq rx]; exact p.here R _ (.ofBl _)⟩
  · split at p
    · rename_i b _ a
      rw [ry.bl_, rx.bl_]
      refine .inr ⟨_, _, rfl, rfl, ?_⟩
      rw [show decide (a = b) = (a == b) from by cases a <;> cases b <;> rfl]
      exact p.here R _ (.ofBl _)
    · exact p.elim
  · exact p.elim

/-! ### in a list or a tuple of flat items, in a text -/
def flat : Vl → Bool
  | .non => true
  | .bl _ => true
  | .int _ => true
  | .str _ => true
  | _ => false
def eqF : Vl → Vl → Bool
  | .non, .non => true
  | .bl a, .bl b => a == b
  | .bl a, .int b => (if a then 1 else 0) == b
  | .int a, .bl b => a == (if b then 1 else 0)
  | .int a, .int b => a == b
  | .str a, .str b => a == b
  | _, _ => false
theorem flat_v {K : Fg} {r : List Addr} {H : Hp} {x : Vl} {u : V} (q : RV K r H x u) (f : flat x = true) : flatV u = true := by
  cases x with
  | non => rw [q.non_]; rfl
  | bl b => rw [q.bl_]; rfl
  | int b => rw [q.int_]; rfl
  | str b => rw [q.str_]; rfl
  | ref b => cases f
  | tup b => cases f
  | kl b => cases f
theorem eqF_v {K : Fg} {r : List Addr} {H : Hp} {x y : Vl} {u v : V} (q : RV K r H x u) (q' : RV K r H y v) (f : flat x = true) (f' : flat y = true) : eqV u v = eqF x y := by
  cases x with
  | ref _ => cases f
  | tup _ => cases f
  | kl _ => cases f
  | _ =>
    cases y with
    | ref _ => cases f'
    | tup _ => cases f'
    | kl _ => cases f'
    | _ =>
      simp only [RV] at q q'
      rw [q, q']
      rfl
theorem flats_v {K : Fg} {r : List Addr} {H : Hp} : ∀ {xs : List Vl} {us : List V}, RVs K r H xs us → xs.all flat = true → us.all flatV = true
  | [], _, q, _ => by simp only [RVs] at q; subst q; rfl
  | x :: xs, _, q, f => by
    simp only [RVs] at q
    obtain ⟨v, t, rfl, q1, q2⟩ := q
    rw [List.all_cons, Bool.and_eq_true] at f
    rw [List.all_cons, flat_v q1 f.1, flats_v q2 f.2]; rfl
theorem anyF_v {K : Fg} {r : List Addr} {H : Hp} {x : Vl} {u : V} (q : RV K r H x u) (f : flat x = true) : ∀ {xs : List Vl} {us : List V}, RVs K r H xs us → xs.all flat = true → (us.any fun y => eqV y u) = xs.any fun y => eqF y x
  | [], _, q, _ => by simp only [RVs] at q; subst q; rfl
  | y :: xs, _, q', f' => by
    simp only [RVs] at q'
    obtain ⟨v, t, rfl, q1, q2⟩ := q'
    rw [List.all_cons, Bool.and_eq_true] at f'
    rw [List.any_cons, List.any_cons, eqF_v q1 q f'.1 f, anyF_v q f q2 f'.2]
def hasSub (x z : Str) : Bool := !(Builtin.Str.occurrences z x 0 z.length 1).isEmpty
def tInA (K : Fg) : R2 := fun x y H Q => rIn K false x y H Q ∨ ∃ i j, x = .str i ∧ y = .str j ∧ Q (.bl (!(Builtin.Str.occurrences j i 0 j.length 1).isEmpty)) H
def tNiA (K : Fg) : R2 := fun x y H Q => rIn K true x y H Q ∨ ∃ i j, x = .str i ∧ y = .str j ∧ Q (.bl (!(!(Builtin.Str.occurrences j i 0 j.length 1).isEmpty))) H
theorem op_inA {X : Cx} : OpR X (compareOp .In) (tInA X.K) := OpR.or op_in_seq op_in_str
theorem op_niA {X : Cx} : OpR X (compareOp .NotIn) (tNiA X.K) := OpR.or op_notIn_seq op_notIn_str
def memF (x : Vl) (xs : List Vl) (h : Hs) (neg : Bool) : Out Vl := if flat x && xs.all flat then .ok (.bl (if neg then !(xs.any fun y => eqF y x) else xs.any fun y => eqF y x)) h else .bad
def gInG (neg : Bool) : G2 := fun x y h => match y with
  | .tup xs => memF x xs h neg
  | .ref n => match getL h n with
    | some xs => memF x xs h neg
    | none => .bad
  | .str z => match x with
    | .str i => .ok (.bl (if neg then !hasSub i z else hasSub i z)) h
    | _ => .bad
  | _ => .bad
def gIn : G2 := gInG false
def gNi : G2 := gInG true
theorem memF_v {K : Fg} {r : List Addr} {h : Hs} {H : Hp} {W : WX} {σ : L2.St} {neg : Bool} {x : Vl} {xs : List Vl} {u : V} {us : List V} {a : Addr} {Q : VK} (R : RH K r h H) (rx : RV K r H x u) (rs : RVs K r H xs us) (s : SqL K H a us ∨ SqT K H a us)
    (p : Pst K r H W σ (fun z _ r' H' => ∀ w, RV K r' H' z w → Q w H') (memF x xs h neg)) : rIn K neg u (.ref a) H Q := by
  unfold memF at p
  split at p
  · rename_i hz
    simp only [Bool.and_eq_true] at hz
    refine ⟨a, us, rfl, s, flat_v rx hz.1, flats_v rs hz.2, ?_⟩
    unfold inV
    rw [anyF_v rx hz.1 rs hz.2]
    exact p.here R _ (.ofBl _)
  · exact p.elim
theorem keeps_in {K : Fg} : Keeps2 K gIn (tInA K) := by
  intro r h H W σ x y u v Q R rx ry p
  unfold gIn gInG at p
  split at p
  · obtain ⟨a, vs, rfl, h1, h2⟩ := ry.tup_
    exact .inl (memF_v R rx h2 (.inr h1) p)
  · split at p
    · rename_i n _ xs e1
      obtain ⟨a, q1, rfl⟩ := ry.ref_
      obtain ⟨vs, h1, h2⟩ := R.seq q1 e1
      exact .inl (memF_v R rx h2 (.inl h1) p)
    · exact p.elim
  · split at p
    · rw [rx.str_, ry.str_]
      exact .inr ⟨_, _, rfl, rfl, p.here R _ (.ofBl _)⟩
    · exact p.elim
  · exact p.elim
theorem keeps_ni {K : Fg} : Keeps2 K gNi (tNiA K) := by
  intro r h H W σ x y u v Q R rx ry p
  unfold gNi gInG at p
  split at p
  · obtain ⟨a, vs, rfl, h1, h2⟩ := ry.tup_
    exact .inl (memF_v R rx h2 (.inr h1) p)
  · split at p
    · rename_i n _ xs e1
      obtain ⟨a, q1, rfl⟩ := ry.ref_
      obtain ⟨vs, h1, h2⟩ := R.seq q1 e1
      exact .inl (memF_v R rx h2 (.inl h1) p)
    · exact p.elim
  · split at p
    · rw [rx.str_, ry.str_]
      exact .inr ⟨_, _, rfl, rfl, p.here R _ (.ofBl _)⟩
    · exact p.elim
  · exact p.elim

/-! ### -n -/
abbrev G1 := Vl → Hs → Out Vl
def Keeps1 (K : Fg) (g : G1) (t : V → Hp → VK → Prop) : Prop := ∀ (r : List Addr) (h : Hs) (H : Hp) (W : WX) (σ : L2.St) (x : Vl) (u : V) (Q : VK), RH K r h H → RV K r H x u →
  Pst K r H W σ (fun z _ r' H' => ∀ w, RV K r' H' z w → Q w H') (g x h) → t u H Q
def mUn (g : G1) (ma : ME) : ME := fun env h => (ma env h).bind g
theorem rE_un {K : Fg} {W : WX} {g : G1} {t : V → Hp → VK → Prop} {ma : ME} (k : Keeps1 K g t) {σ : L2.St} {H : Hp} {Q : VK} (q : rE K W (mUn g ma) σ H Q) : rE K W ma σ H fun x H1 => t x H1 Q := by
  obtain ⟨r, env, h, R, E, p⟩ := q
  exact ⟨r, env, h, R, E, p.bind.imp fun x h1 r1 H1 e1 R1 p1 u ru => k r1 h1 H1 W σ x u Q R1 ru p1⟩
def gNeg : G1 := fun x h => match x with
  | .int i => .ok (.int (-i)) h
  | _ => .bad
theorem keeps_neg {K : Fg} : Keeps1 K gNeg (rU fun i => .int (-i)) := by
  intro r h H W σ x u Q R rx p
  unfold gNeg at p
  split at p
  · rw [rx.int_]; exact ⟨_, rfl, p.here R _ (.ofInt _)⟩
  · exact p.elim

/-! ### subscripts -/
def atL {α : Type} (xs : List α) (i : Int) : Option α := if 0 ≤ i then xs[i.toNat]? else if -(xs.length : Int) ≤ i then xs[(i + xs.length).toNat]? else none
theorem atI_atL {α : Type} {xs : List α} {i : Int} {v : α} (h : atL xs i = some v) : atI xs i = some v := by
  unfold atL at h
  unfold atI ixN
  split at h
  · rename_i h0
    have hi := (List.getElem?_eq_some_iff.mp h).1
    rw [if_pos h0, if_pos (by omega)]
    exact h
  · rename_i h0
    split at h
    · rename_i h1
      rw [if_neg h0, if_pos h1]
      exact h
    · cases h
theorem RVs.atL {K : Fg} {r : List Addr} {H : Hp} {xs : List Vl} {vs : List V} {i : Int} {x : Vl} (q : RVs K r H xs vs) (e : Mi.atL xs i = some x) : ∃ v, Mi.atL vs i = some v ∧ RV K r H x v := by
  unfold Mi.atL at e ⊢
  rw [q.length]
  split at e
  · rename_i h0; rw [if_pos h0]; exact q.get e
  · rename_i h0
    split at e
    · rename_i h1; rw [if_neg h0, if_pos h1]; exact q.get e
    · cases e
def gIx : G2 := fun x y h => match y with
  | .int i => match x with
    | .tup xs => match atL xs i with
      | some v => .ok v h
      | none => .bad
    | .ref n => match getL h n with
      | some xs => match atL xs i with
        | some v => .ok v h
        | none => .bad
      | none => .bad
    | .kl ns => match atL (ns.map Vl.int) i with
      | some v => .ok v h
      | none => .bad
    | .str z => if z.length ≤ bigN then match atL z.cps.toList i with
        | some c => .ok (.str ⟨#[c]⟩) h
        | none => .bad
      else .bad
    | _ => .bad
  | _ => .bad
def tIxA (K : Fg) : R2 := fun x y H Q => rIxL K x y H Q ∨ rIxT K x y H Q ∨ rIxS x y H Q
theorem ix_all {X : Cx} : IxR X (tIxA X.K) := IxR.or ix_list (IxR.or ix_tup ix_str)
theorem keeps_ix {K : Fg} : Keeps2 K gIx (tIxA K) := by
  intro r h H W σ x y u v Q R rx ry p
  unfold gIx at p
  split at p
  · rw [ry.int_]
    split at p
    · obtain ⟨a, vs, rfl, h1, h2⟩ := rx.tup_
      split at p
      · rename_i z e
        obtain ⟨w, e1, e2⟩ := h2.atL e
        exact .inr (.inl ⟨a, vs, _, w, rfl, rfl, h1, atI_atL e1, p.here R _ e2⟩)
      · exact p.elim
    · obtain ⟨a, q1, rfl⟩ := rx.ref_
      split at p
      · rename_i xs e0
        obtain ⟨vs, h1, h2⟩ := R.seq q1 e0
        split at p
        · rename_i z e
          obtain ⟨w, e1, e2⟩ := h2.atL e
          exact .inl ⟨a, vs, _, w, rfl, rfl, h1, atI_atL e1, p.here R _ e2⟩
        · exact p.elim
      · exact p.elim
    · obtain ⟨a, rfl, h1⟩ := rx.kl_
      split at p
      · rename_i z e
        obtain ⟨w, e1, e2⟩ := (RVs.ofInts (K := K) (r := r) (H := H) _).atL e
        exact .inl ⟨a, _, _, w, rfl, rfl, h1, atI_atL e1, p.here R _ e2⟩
      · exact p.elim
    · rw [rx.str_]
      split at p
      · rename_i hz
        split at p
        · rename_i c e
          exact .inr (.inr ⟨_, _, c, rfl, rfl, Nat.le_trans hz big_line, atI_atL e, p.here R _ (.ofStr _)⟩)
        · exact p.elim
      · exact p.elim
    · exact p.elim
  · exact p.elim
theorem pe_ixM {X : Cx} {W : WX} {a b : Expr} {ma mb : ME} {pos : Pos} (ha : PE X a (rE X.K W ma)) (hb : PE X b (rE X.K W mb)) (hs : PlainIx b) : PE X (.Subscript a b pos) (rE X.K W (mBin gIx ma mb)) :=
  PE.imp (pe_ix ix_all ha hb hs) fun _ _ _ q => rE_bin keeps_ix q

/-! ### slices -/
def cutL {α : Type} (xs : List α) (lo hi : Option Int) : List α := (xs.drop (HT.sIx xs.length 0 lo)).take (HT.sIx xs.length xs.length hi - HT.sIx xs.length 0 lo)
theorem RVs.cut {K : Fg} {r : List Addr} {H : Hp} {xs : List Vl} {vs : List V} (q : RVs K r H xs vs) (lo hi : Option Int) : RVs K r H (cutL xs lo hi) (cutV vs lo hi) := by
  unfold cutL cutV
  rw [q.length]
  exact (q.drop _).take _
abbrev MO := Ev → Hs → Out (Option Int)
def rO (K : Fg) (W : WX) (m : MO) : TO := fun σ H Q => ∃ r env h, RH K r h H ∧ RE K r H env σ ∧ Pst K r H W σ (fun o _ _ H' => Q o H') (m env h)
def mNoPart : MO := fun _ h => .ok none h
def mPart (m : ME) : MO := fun env h => (m env h).bind fun v h1 => match v with
  | .int i => .ok (some i) h1
  | _ => .bad
theorem PO.imp {X : Cx} {e : Option Expr} {t t' : TO} (h : PO X e t) (k : ∀ σ H Q, t' σ H Q → t σ H Q) : PO X e t' := ⟨fun pins s σ H Q I q => h.run pins s σ H Q I (k σ H Q q)⟩
theorem po_noneM {X : Cx} {W : WX} : PO X none (rO X.K W mNoPart) := PO.imp po_none fun σ H Q q => by
  obtain ⟨r, env, h, R, E, p⟩ := q
  exact p.here R
theorem po_someM {X : Cx} {W : WX} {e : Expr} {m : ME} (he : PE X e (rE X.K W m)) : PO X (some e) (rO X.K W (mPart m)) := PO.imp (po_some he) fun σ H Q q => by
  obtain ⟨r, env, h, R, E, p⟩ := q
  refine ⟨r, env, h, R, E, p.bind.imp fun x h1 r1 H1 e1 R1 p1 u ru => ?_⟩
  cases x with
  | int i => rw [ru.int_]; exact ⟨i, rfl, p1.here R1⟩
  | _ => exact p1.elim
def gSl (x : Vl) (lo hi : Option Int) (h : Hs) : Out Vl := match x with
  | .str z => if z.length ≤ bigN then .ok (.str (cutS z lo hi)) h else .bad
  | .ref n => match getL h n with
    | some xs => .ok (.ref h.length) (h ++ [.lst (cutL xs lo hi)])
    | none => .bad
  | .kl ns => .ok (.ref h.length) (h ++ [.lst (cutL (ns.map Vl.int) lo hi)])
  | .tup xs => if HT.sIx xs.length 0 lo = 0 ∧ HT.sIx xs.length xs.length hi = xs.length then .bad else .ok (.tup (cutL xs lo hi)) h
  | _ => .bad
def tSlA (K : Fg) : V → Option Int → Option Int → Hp → VK → Prop := fun x lo hi H Q => rSlS x lo hi H Q ∨ rSlL K x lo hi H Q ∨ rSlT K x lo hi H Q
theorem sl_all {X : Cx} : SlR X (tSlA X.K) := SlR.or sl_str (SlR.or sl_list sl_tup)
def mSl (ma : ME) (ml mu : MO) : ME := fun env h => (ma env h).bind fun x h1 => (ml env h1).bind fun lo h2 => (mu env h2).bind fun hi h3 => gSl x lo hi h3
theorem pe_slM {X : Cx} {W : WX} {e : Expr} {lo hi : Option Expr} {ma : ME} {ml mu : MO} {p2 pos : Pos} (he : PE X e (rE X.K W ma)) (hl : PO X lo (rO X.K W ml)) (hu : PO X hi (rO X.K W mu)) : PE X (.Subscript e (.Slice lo hi none p2) pos) (rE X.K W (mSl ma ml mu)) :=
  PE.imp (pe_slice sl_all he hl hu) fun σ H Q q => by
    obtain ⟨r, env, h, R, E, p⟩ := q
    refine ⟨r, env, h, R, E, p.bind.imp fun x h1 r1 H1 e1 R1 p1 u ru => ?_⟩
    refine ⟨r1, env, h1, R1, E.ext e1, p1.bind.imp fun l h2 r2 H2 e2 R2 p2 => ?_⟩
    refine ⟨r2, env, h2, R2, (E.ext e1).ext e2, p2.bind.imp fun u' h3 r3 H3 e3 R3 p3 => ?_⟩
    have ru' := ru.ext (e2.trans e3)
    unfold gSl at p3
    split at p3
    · split at p3
      · rename_i hz
        rw [ru'.str_]
        exact .inl ⟨_, rfl, Nat.le_trans hz big_line, p3.here R3 _ (.ofStr _)⟩
      · exact p3.elim
    · split at p3
      · rename_i n xs e0
        obtain ⟨a, q1, rfl⟩ := ru'.ref_
        obtain ⟨vs, h1, h2⟩ := R3.seq q1 e0
        exact .inr (.inl ⟨a, vs, rfl, h1, Pst.newLst R3 p3 (h2.cut l u')⟩)
      · exact p3.elim
    · obtain ⟨a, rfl, h1⟩ := ru'.kl_
      exact .inr (.inl ⟨a, _, rfl, h1, Pst.newLst R3 p3 ((RVs.ofInts _).cut l u')⟩)
    · split at p3
      · exact p3.elim
      · rename_i xs hn
        obtain ⟨a, vs, rfl, h1, h2⟩ := ru'.tup_
        exact .inr (.inr ⟨a, vs, rfl, h1, by rw [h2.length]; exact hn, Pst.newTup R3 p3 (h2.cut l u')⟩)
    · exact p3.elim
def gRev : G1 := fun x h => match x with
  | .ref n => match getL h n with
    | some xs => .ok (.ref h.length) (h ++ [.lst xs.reverse])
    | none => .bad
  | _ => .bad
theorem pe_revM {X : Cx} {W : WX} {e : Expr} {ma : ME} {k : Nat} {p1 p2 p3 pos : Pos} (he : PE X e (rE X.K W ma)) : PE X (.Subscript e (.Slice none none (some (.UnaryOp .USub (.Constant (.int 1) k p1) p2)) p3) pos) (rE X.K W (mUn gRev ma)) :=
  PE.imp (pe_revL he) fun σ H Q q => by
    refine rE_un (t := fun x H Q => ∃ a xs, x = .ref a ∧ SqL X.K H a xs ∧ ∀ p, H p = none → Q (.ref p) (upd H p (.lst xs.reverse))) ?_ q
    intro r h H W σ x u Q R rx p
    unfold gRev at p
    split at p
    · split at p
      · rename_i n xs e0
        obtain ⟨a, q1, rfl⟩ := rx.ref_
        obtain ⟨vs, h1, h2⟩ := R.seq q1 e0
        exact ⟨a, vs, rfl, h1, Pst.newLst R p h2.reverse⟩
      · exact p.elim
    · exact p.elim
end Mi

/-! A4: names, constants, displays, built-in calls and methods, dicts. -/
namespace Mi
open PySem PySem.Spec L2

/-! ### the syntax that is no odd one -/
def plainX : Expr → Bool
  | .Starred _ _ => false
  | .Set _ _ _ => false
  | .Slice _ _ _ _ => false
  | .Call (.Name _ _) [] [] _ => false
  | _ => true
def noStar : Expr → Bool
  | .Starred _ _ => false
  | .Set _ _ _ => false
  | .Slice _ _ _ _ => false
  | _ => true
theorem noStar_of {e : Expr} (h : plainX e = true) : noStar e = true := by
  cases e <;> first | rfl | cases h
theorem star_each {e : Expr} {es : List Expr} {env : Env} (h : noStar e = true) : starEach (e :: es) env = (false, eval e env) :: starEach es env := by
  cases e <;> first | rfl | cases h
theorem star_any {env : Env} {pos : Pos} : ∀ {es : List Expr}, es.all noStar = true → (backTo pos (starEach es env)).any (·.1) = false
  | [], _ => rfl
  | e :: es, h => by
    rw [List.all_cons, Bool.and_eq_true] at h
    rw [star_each h.1]
    show (false || (backTo pos (starEach es env)).any (·.1)) = false
    rw [star_any h.2]; rfl
theorem star_back {env : Env} {pos : Pos} {e : Expr} {es : List Expr} (h : noStar e = true) : backTo pos (starEach (e :: es) env) = (false, eval e env) :: backTo pos (starEach es env) := by
  rw [star_each h]; rfl
theorem star_alln {env : Env} {pos : Pos} : ∀ {es : List Expr}, es.all noStar = true → (backTo pos (starEach es env)).all (fun x => !x.1) = true
  | [], _ => rfl
  | e :: es, h => by
    rw [List.all_cons, Bool.and_eq_true] at h
    rw [star_back h.1, List.all_cons, star_alln h.2]; rfl
theorem base_plain {e : Expr} {m : Str} {env : Env} (h : plainX e = true) : attributeBase e m env (eval e env) = eval e env := by
  cases e with
  | Call f args kws p =>
    cases f with
    | Name x p' =>
      cases args with
      | nil =>
        cases kws with
        | nil => cases h
        | cons k ks => rfl
      | cons a as => rfl
    | _ => rfl
  | _ => first | rfl | cases h
theorem sub_plain {e : Expr} (h : noStar e = true) (o i : Value) : subscripted e false o i = operate [o, i] (getItem o i) := by
  cases e <;> first | rfl | cases h
theorem marks_plain {op : CmpOp} {e : Expr} (h : noStar e = true) : behindInMarks op e = false := by
  cases e <;> first | rfl | cases h
theorem fold_plain {e : Expr} {env : Env} (h : noStar e = true) (x : Value) : foldedSetIterable e env x = pure x := by
  cases e <;> first | rfl | cases h
def noComp : Expr → Bool
  | .ListComp _ _ _ _ => false
  | .SetComp _ _ _ _ => false
  | .DictComp _ _ _ _ _ => false
  | _ => true
theorem swaps_none {e : Expr} {t : Option Expr} {l : Nat} {env : Env} (h : noComp e = true) : swapsWith e t l env = pure false := by
  cases e <;> first | rfl | cases h
theorem swaps_attr {e o : Expr} {f : Str} {p : Pos} {l : Nat} {env : Env} : swapsWith e (some (.Attribute o f p)) l env = pure false := by
  cases e <;> rfl
theorem swaps_sub {e o i : Expr} {p : Pos} {l : Nat} {env : Env} : swapsWith e (some (.Subscript o i p)) l env = pure false := by
  cases e <;> rfl
def noTest : Expr → Bool
  | .UnaryOp .Not _ _ => false
  | .BoolOp _ _ _ => false
  | .IfExp _ _ _ _ => false
  | .Compare _ _ _ _ => false
  | _ => true
theorem test_plain {e : Expr} {env : Env} (h : noTest e = true) (whole : Sem Value) : isTrue e env whole = (do let v ← whole; standAt e.pos; holding [v] (truthy v)) := by
  cases e with
  | UnaryOp op x p => cases op <;> first | rfl | cases h
  | BoolOp _ _ _ => cases h
  | IfExp _ _ _ _ => cases h
  | Compare _ _ _ _ => cases h
  | _ => rfl

/-! ### names, constants -/
def mVar (i : Nat) : ME := fun env h => match env[i]? with
  | some (some v) => .ok v h
  | _ => .bad
def mC (v : Vl) : ME := fun _ h => .ok v h
section
variable {X : Cx} {W : WX} {pos : Pos}
theorem pe_varM {i : Nat} {x : Str} (hN : X.N[i]? = some x) (hv : Vis X.env.scope x) (hd : (x == ("__debug__" : Str)) = false) (hcd : (x == ("__classdict__" : Str)) = false) : PE X (.Name x pos) (rE X.K W (mVar i)) :=
  PE.imp (pe_var hN hv hd hcd) fun σ H Q q => by
    obtain ⟨r, env, h, R, E, p⟩ := q
    unfold mVar at p
    split at p
    · rename_i v e
      obtain ⟨u, e1, e2⟩ := E.get _ _ e
      exact ⟨u, e1, p.here R u e2⟩
    · exact p.elim
theorem rE_const {K : Fg} {v : Vl} {u : V} (hv : ∀ r H, RV K r H v u) {σ : L2.St} {H : Hp} {Q : VK} (q : rE K W (mC v) σ H Q) : Q u H := by
  obtain ⟨r, env, h, R, E, p⟩ := q
  exact p.here R u (hv _ _)
theorem pe_intM {i : Int} {j : Nat} : PE X (.Constant (.int i) j pos) (rE X.K W (mC (.int i))) := PE.imp pe_int fun σ H Q q => rE_const (u := .int i) (fun _ _ => .ofInt _) q
theorem pe_blM {b : Bool} {j : Nat} : PE X (.Constant (.bool b) j pos) (rE X.K W (mC (.bl b))) := PE.imp pe_bl fun σ H Q q => rE_const (u := .bl b) (fun _ _ => .ofBl _) q
theorem pe_strM {x : Str} {j : Nat} : PE X (.Constant (.str x) j pos) (rE X.K W (mC (.str x))) := PE.imp pe_str fun σ H Q q => rE_const (u := .str x) (fun _ _ => .ofStr _) q
theorem pe_nonM {j : Nat} : PE X (.Constant .none j pos) (rE X.K W (mC .non)) := PE.imp pe_non fun σ H Q q => rE_const (u := .non) (fun _ _ => .ofNon) q
/-- a module's constant -/
theorem pe_globM {x : Str} {v : Vl} {u : V} {w : Value} (hg : Gl X x) (hm : X.mg x = some w) (rw : RelV u w) (hv : ∀ r H, RV X.K r H v u) (hd : (x == ("__debug__" : Str)) = false) : PE X (.Name x pos) (rE X.K W (mC v)) :=
  PE.imp (pe_glob hg hm rw hd) fun σ H Q q => rE_const hv q
end

/-! ### argument lists, displays -/
def mNil : MA := fun _ h => .ok [] h
def mCons (m : ME) (ms : MA) : MA := fun env h => (m env h).bind fun v h1 => (ms env h1).bind fun vs h2 => .ok (v :: vs) h2
section
variable {X : Cx} {W : WX} {pos : Pos}
theorem pa_nilM : PA X [] (rA X.K W mNil) := PA.imp pa_nil fun σ H Q q => by
  obtain ⟨r, env, h, R, E, p⟩ := q
  exact p.here R _ RVs.nil
theorem pa_consM {e : Expr} {es : List Expr} {m : ME} {ms : MA} (he : PE X e (rE X.K W m)) (hs : PA X es (rA X.K W ms)) (hn : noStar e = true) : PA X (e :: es) (rA X.K W (mCons m ms)) :=
  PA.imp (pa_cons he hs (star_each hn)) fun σ H Q q => by
    obtain ⟨r, env, h, R, E, p⟩ := q
    refine ⟨r, env, h, R, E, p.bind.imp fun x h1 r1 H1 e1 R1 p1 u ru => ?_⟩
    refine ⟨r1, env, h1, R1, E.ext e1, p1.bind.imp fun y h2 r2 H2 e2 R2 p2 us rus => ?_⟩
    exact p2.here R2 _ (RVs.cons (ru.ext e2) rus)
def mTup (ms : MA) : ME := fun env h => (ms env h).bind fun vs h1 => if vs.length ≤ bigN then .ok (.tup vs) h1 else .bad
def mLst (ms : MA) : ME := fun env h => (ms env h).bind fun vs h1 => if vs.length ≤ bigN then .ok (.ref h1.length) (h1 ++ [.lst vs]) else .bad
theorem pe_tupM {es : List Expr} {ms : MA} {k : Nat} (hs : PA X es (rA X.K W ms)) : PE X (.Tuple es k pos) (rE X.K W (mTup ms)) :=
  PE.imp (pe_tup hs) fun σ H Q q => by
    obtain ⟨r, env, h, R, E, p⟩ := q
    refine ⟨r, env, h, R, E, p.bind.imp fun x h1 r1 H1 e1 R1 p1 us ru => ?_⟩
    split at p1
    · rename_i hz
      exact ⟨by rw [ru.length]; exact Nat.le_trans hz big_line, Pst.newTup R1 p1 ru⟩
    · exact p1.elim
theorem pe_lstM {es : List Expr} {ms : MA} (hs : PA X es (rA X.K W ms)) : PE X (.List es pos) (rE X.K W (mLst ms)) :=
  PE.imp (pe_lst hs) fun σ H Q q => by
    obtain ⟨r, env, h, R, E, p⟩ := q
    refine ⟨r, env, h, R, E, p.bind.imp fun x h1 r1 H1 e1 R1 p1 us ru => ?_⟩
    split at p1
    · rename_i hz
      exact ⟨by rw [ru.length]; exact Nat.le_trans hz big_line, Pst.newLst R1 p1 ru⟩
    · exact p1.elim
end

/-! ### built-in functions -/
abbrev GC := List Vl → Hs → Out Vl
def KeepsC (K : Fg) (g : GC) (t : List V → Hp → VK → Prop) : Prop := ∀ (r : List Addr) (h : Hs) (H : Hp) (W : WX) (σ : L2.St) (xs : List Vl) (us : List V) (Q : VK), RH K r h H → RVs K r H xs us →
  Pst K r H W σ (fun z _ r' H' => ∀ w, RV K r' H' z w → Q w H') (g xs h) → t us H Q
def mCall (g : GC) (ms : MA) : ME := fun env h => (ms env h).bind g
theorem rE_call {K : Fg} {W : WX} {g : GC} {t : List V → Hp → VK → Prop} {ms : MA} (k : KeepsC K g t) {σ : L2.St} {H : Hp} {Q : VK} (q : rE K W (mCall g ms) σ H Q) : tCB t (rA K W ms) σ H Q := by
  obtain ⟨r, env, h, R, E, p⟩ := q
  exact ⟨r, env, h, R, E, p.bind.imp fun x h1 r1 H1 e1 R1 p1 u ru => k r1 h1 H1 W σ x u Q R1 ru p1⟩
section
variable {X : Cx} {W : WX} {x : Str} {p pos : Pos} {e : Expr} {es : List Expr} {ms : MA} {g : GC} {t : List V → Hp → VK → Prop}
theorem pe_callBM {id : String} (hc : CallR X (.builtin id) t) (k : KeepsC X.K g t) (hg : Gl X x) (hm : X.mg x = none) (hv : bootBuiltins x = some (.builtin id)) (ha : PA X (e :: es) (rA X.K W ms)) (hn : x ≠ "__name__") (hdb : (x == ("__debug__" : Str)) = false) (hs : (e :: es).all noStar = true) :
    PE X (.Call (.Name x p) (e :: es) [] pos) (rE X.K W (mCall g ms)) := by
  rw [List.all_cons, Bool.and_eq_true] at hs
  exact PE.imp (pe_callB hc hg hm hv ha hn hdb (star_each hs.1) (star_any hs.2)) fun _ _ _ q => rE_call k q
theorem pe_callTyM {T : String} (hc : CallR X (.type T) t) (k : KeepsC X.K g t) (hg : Gl X x) (hm : X.mg x = none) (hv : bootBuiltins x = some (.type T)) (ha : PA X (e :: es) (rA X.K W ms)) (hn : x ≠ "__name__") (hdb : (x == ("__debug__" : Str)) = false) (hs : (e :: es).all noStar = true) :
    PE X (.Call (.Name x p) (e :: es) [] pos) (rE X.K W (mCall g ms)) := by
  rw [List.all_cons, Bool.and_eq_true] at hs
  exact PE.imp (pe_callTy hc hg hm hv ha hn hdb (star_each hs.1) (star_any hs.2)) fun _ _ _ q => rE_call k q
end
def gAbs : GC := fun xs h => match xs with
  | [.int i] => .ok (.int (if i < 0 then -i else i)) h
  | _ => .bad
def gMax : GC := fun xs h => match xs with
  | [.int i, .int j] => .ok (.int (if j > i then j else i)) h
  | _ => .bad
def gMin : GC := fun xs h => match xs with
  | [.int i, .int j] => .ok (.int (if j < i then j else i)) h
  | _ => .bad
def gLen : GC := fun xs h => match xs with
  | [.str z] => if z.length ≤ bigN then .ok (.int z.length) h else .bad
  | [.tup ys] => .ok (.int ys.length) h
  | [.kl ys] => .ok (.int ys.length) h
  | [.ref n] => match h[n]? with
    | some (.lst ys) => .ok (.int ys.length) h
    | some (.scr ys) => .ok (.int ys.length) h
    | some (.dic ys) => .ok (.int ys.length) h
    | _ => .bad
  | _ => .bad
def gInt : GC := fun xs h => match xs with
  | [.int i] => .ok (.int i) h
  | [.bl b] => .ok (.int (if b then 1 else 0)) h
  | [.str a] => match PySem.intText? a with
    | some n => if a.length ≤ 640 then .ok (.int n) h else .bad
    | none => .bad
  | _ => .bad
def gStr : GC := fun xs h => match xs with
  | [.int i] => if i.natAbs.log2 < 1920 then .ok (.str (toString i)) h else .bad
  | _ => .bad
def gList : GC := fun xs h => match xs with
  | [.tup ys] => .ok (.ref h.length) (h ++ [.lst ys])
  | [.ref n] => match getL h n with
    | some ys => .ok (.ref h.length) (h ++ [.lst ys])
    | none => .bad
  | _ => .bad
/-- the list's items, all truths -/
def bls : List Vl → Option (List Bool)
  | [] => some []
  | .bl b :: r => (bls r).map (b :: ·)
  | _ => none
theorem bls_map : ∀ {xs : List Vl} {bs : List Bool}, bls xs = some bs → xs = bs.map Vl.bl
  | [], bs, e => by cases e; rfl
  | .bl b :: r, bs, e => by
    unfold bls at e
    cases q : bls r with
    | none => rw [q] at e; cases e
    | some cs =>
      rw [q] at e
      cases e
      rw [bls_map q]; rfl
  | .non :: _, _, e => by cases e
  | .int _ :: _, _, e => by cases e
  | .str _ :: _, _, e => by cases e
  | .ref _ :: _, _, e => by cases e
  | .tup _ :: _, _, e => by cases e
  | .kl _ :: _, _, e => by cases e
def gAll : GC := fun xs h => match xs with
  | [.ref n] => match (getL h n).bind bls with
    | some bs => .ok (.bl (bs.all id)) h
    | none => .bad
  | _ => .bad
def gAny : GC := fun xs h => match xs with
  | [.ref n] => match (getL h n).bind bls with
    | some bs => .ok (.bl (bs.any id)) h
    | none => .bad
  | _ => .bad
section
variable {K : Fg} {r : List Addr} {H : Hp}
theorem RVs.one_ {x : Vl} {us : List V} (q : RVs K r H [x] us) : ∃ u, us = [u] ∧ RV K r H x u := by
  simp only [RVs] at q
  obtain ⟨u, t, rfl, h1, rfl⟩ := q
  exact ⟨u, rfl, h1⟩
theorem RVs.nil_ {us : List V} (q : RVs K r H [] us) : us = [] := by simpa only [RVs] using q
theorem RVs.two_ {x y : Vl} {us : List V} (q : RVs K r H [x, y] us) : ∃ u v, us = [u, v] ∧ RV K r H x u ∧ RV K r H y v := by
  simp only [RVs] at q
  obtain ⟨u, t, rfl, h1, v, t', rfl, h2, rfl⟩ := q
  exact ⟨u, v, rfl, h1, h2⟩
end
theorem keeps_abs {K : Fg} : KeepsC K gAbs (fun xs H Q => ∃ i, xs = [.int i] ∧ Q (.int (if i < 0 then -i else i)) H) := by
  intro r h H W σ xs us Q R rx p
  unfold gAbs at p
  split at p
  · obtain ⟨u, rfl, q⟩ := rx.one_
    rw [q.int_]
    exact ⟨_, rfl, p.here R _ (.ofInt _)⟩
  · exact p.elim
theorem keeps_max {K : Fg} : KeepsC K gMax (fun xs H Q => ∃ i j, xs = [.int i, .int j] ∧ Q (.int (if j > i then j else i)) H) := by
  intro r h H W σ xs us Q R rx p
  unfold gMax at p
  split at p
  · obtain ⟨u, v, rfl, q, q'⟩ := rx.two_
    rw [q.int_, q'.int_]
    exact ⟨_, _, rfl, p.here R _ (.ofInt _)⟩
  · exact p.elim
theorem keeps_min {K : Fg} : KeepsC K gMin (fun xs H Q => ∃ i j, xs = [.int i, .int j] ∧ Q (.int (if j < i then j else i)) H) := by
  intro r h H W σ xs us Q R rx p
  unfold gMin at p
  split at p
  · obtain ⟨u, v, rfl, q, q'⟩ := rx.two_
    rw [q.int_, q'.int_]
    exact ⟨_, _, rfl, p.here R _ (.ofInt _)⟩
  · exact p.elim
def tLenA (K : Fg) : List V → Hp → VK → Prop := fun xs H Q => (∃ p ys, xs = [.ref p] ∧ (SqL K H p ys ∨ SqT K H p ys) ∧ Q (.int ys.length) H) ∨ (∃ z, xs = [.str z] ∧ z.length ≤ sizeLine ∧ Q (.int z.length) H) ∨ (∃ a kvs, xs = [V.ref a] ∧ H a = some (.dK kvs) ∧ Q (.int kvs.length) H)
theorem call_lenA {X : Cx} : CallR X (.builtin "len") (tLenA X.K) := CallR.or call_len_seq (CallR.or call_len_str call_lenD)
theorem RF.length {κ : Type} {K : Fg} {r : List Addr} {H : Hp} : ∀ {xs : List (κ × Vl)} {vs : List (κ × V)}, RF K r H xs vs → vs.length = xs.length
  | [], _, h => by simp only [RF] at h; simp [h]
  | _ :: _, _, h => by
    simp only [RF] at h
    obtain ⟨u, t, h1, h2, h3⟩ := h
    simp [h1, RF.length h3]
theorem keeps_len {K : Fg} : KeepsC K gLen (tLenA K) := by
  intro r h H W σ xs us Q R rx p
  unfold gLen at p
  split at p
  · obtain ⟨u, rfl, q⟩ := rx.one_
    split at p
    · rename_i hz
      rw [q.str_]
      exact .inr (.inl ⟨_, rfl, Nat.le_trans hz big_line, p.here R _ (.ofInt _)⟩)
    · exact p.elim
  · obtain ⟨u, rfl, q⟩ := rx.one_
    obtain ⟨a, vs, rfl, h1, h2⟩ := q.tup_
    refine .inl ⟨a, vs, rfl, .inr h1, ?_⟩
    rw [h2.length]
    exact p.here R _ (.ofInt _)
  · obtain ⟨u, rfl, q⟩ := rx.one_
    obtain ⟨a, rfl, h1⟩ := q.kl_
    refine .inl ⟨a, _, rfl, .inl h1, ?_⟩
    rw [List.length_map]
    exact p.here R _ (.ofInt _)
  · obtain ⟨u, rfl, q⟩ := rx.one_
    obtain ⟨a, q1, rfl⟩ := q.ref_
    split at p
    · rename_i ys e
      obtain ⟨vs, h1, h2⟩ := R.seq (xs := ys) q1 (by unfold getL; rw [e]; rfl)
      refine .inl ⟨a, vs, rfl, .inl h1, ?_⟩
      rw [h2.length]
      exact p.here R _ (.ofInt _)
    · rename_i ys e
      obtain ⟨vs, h1, h2⟩ := R.seq (xs := ys) q1 (by unfold getL; rw [e]; rfl)
      refine .inl ⟨a, vs, rfl, .inl h1, ?_⟩
      rw [h2.length]
      exact p.here R _ (.ofInt _)
    · rename_i ys e
      obtain ⟨vs, h1, h2⟩ := R.dic q1 e
      refine .inr (.inr ⟨a, vs, rfl, h1, ?_⟩)
      rw [h2.length]
      exact p.here R _ (.ofInt _)
    · exact p.elim
  · exact p.elim
def tIntA : List V → Hp → VK → Prop := fun xs H Q => ((∃ i, xs = [.int i] ∧ Q (.int i) H) ∨ ∃ k, xs = [.bl k] ∧ Q (.int (if k then 1 else 0)) H) ∨ ∃ a n, xs = [.str a] ∧ PySem.intText? a = some n ∧ a.length ≤ 640 ∧ Q (.int n) H
theorem call_intA {X : Cx} : CallR X (.type "int") tIntA := CallR.or call_int1 call_int_str
theorem keeps_int {K : Fg} : KeepsC K gInt tIntA := by
  intro r h H W σ xs us Q R rx p
  unfold gInt at p
  split at p
  · obtain ⟨u, rfl, q⟩ := rx.one_
    rw [q.int_]
    exact .inl (.inl ⟨_, rfl, p.here R _ (.ofInt _)⟩)
  · obtain ⟨u, rfl, q⟩ := rx.one_
    rw [q.bl_]
    exact .inl (.inr ⟨_, rfl, p.here R _ (.ofInt _)⟩)
  · obtain ⟨u, rfl, q⟩ := rx.one_
    split at p
    · rename_i n e
      split at p
      · rename_i hz
        rw [q.str_]
        exact .inr ⟨_, _, rfl, e, hz, p.here R _ (.ofInt _)⟩
      · exact p.elim
    · exact p.elim
  · exact p.elim
theorem keeps_str {K : Fg} : KeepsC K gStr (fun xs H Q => ∃ i : Int, xs = [.int i] ∧ i.natAbs.log2 < 1920 ∧ Q (.str (toString i)) H) := by
  intro r h H W σ xs us Q R rx p
  unfold gStr at p
  split at p
  · obtain ⟨u, rfl, q⟩ := rx.one_
    split at p
    · rename_i hz
      rw [q.int_]
      exact ⟨_, rfl, hz, p.here R _ (.ofStr _)⟩
    · exact p.elim
  · exact p.elim
theorem keeps_list {K : Fg} : KeepsC K gList (fun xs H Q => ∃ p ys, xs = [.ref p] ∧ (SqL K H p ys ∨ SqT K H p ys) ∧ ∀ l, H l = none → Q (.ref l) (upd H l (.lst ys))) := by
  intro r h H W σ xs us Q R rx p
  unfold gList at p
  split at p
  · obtain ⟨u, rfl, q⟩ := rx.one_
    obtain ⟨a, vs, rfl, h1, h2⟩ := q.tup_
    exact ⟨a, vs, rfl, .inr h1, Pst.newLst R p h2⟩
  · obtain ⟨u, rfl, q⟩ := rx.one_
    obtain ⟨a, q1, rfl⟩ := q.ref_
    split at p
    · rename_i ys e
      obtain ⟨vs, h1, h2⟩ := R.seq q1 e
      exact ⟨a, vs, rfl, .inl h1, Pst.newLst R p h2⟩
    · exact p.elim
  · exact p.elim
theorem keeps_all {K : Fg} : KeepsC K gAll (rAll K) := by
  intro r h H W σ xs us Q R rx p
  unfold gAll at p
  split at p
  · obtain ⟨u, rfl, q⟩ := rx.one_
    obtain ⟨a, q1, rfl⟩ := q.ref_
    split at p
    · rename_i n bs e
      obtain ⟨ys, e1, e2⟩ := Option.bind_eq_some_iff.mp e
      obtain ⟨vs, h1, h2⟩ := R.seq q1 e1
      rw [bls_map e2] at h2
      rw [h2.bls] at h1
      exact ⟨a, bs, rfl, h1, p.here R _ (.ofBl _)⟩
    · exact p.elim
  · exact p.elim
theorem keeps_any {K : Fg} : KeepsC K gAny (rAny K) := by
  intro r h H W σ xs us Q R rx p
  unfold gAny at p
  split at p
  · obtain ⟨u, rfl, q⟩ := rx.one_
    obtain ⟨a, q1, rfl⟩ := q.ref_
    split at p
    · rename_i n bs e
      obtain ⟨ys, e1, e2⟩ := Option.bind_eq_some_iff.mp e
      obtain ⟨vs, h1, h2⟩ := R.seq q1 e1
      rw [bls_map e2] at h2
      rw [h2.bls] at h1
      exact ⟨a, bs, rfl, h1, p.here R _ (.ofBl _)⟩
    · exact p.elim
  · exact p.elim
/-- sorted: insertion -/
def ins1 (x : Int) : List Int → List Int
  | [] => [x]
  | y :: ys => if x ≤ y then x :: y :: ys else y :: ins1 x ys
def isort : List Int → List Int
  | [] => []
  | x :: xs => ins1 x (isort xs)
theorem ins1_perm (x : Int) : ∀ ys, (ins1 x ys).Perm (x :: ys)
  | [] => .refl _
  | y :: ys => by
    unfold ins1
    split
    · exact .refl _
    · exact .trans (.cons y (ins1_perm x ys)) (.swap x y ys)
theorem isort_perm : ∀ xs, (isort xs).Perm xs
  | [] => .refl _
  | x :: xs => (ins1_perm x _).trans (.cons x (isort_perm xs))
theorem ins1_sorted (x : Int) : ∀ {ys : List Int}, ys.Pairwise (· ≤ ·) → (ins1 x ys).Pairwise (· ≤ ·)
  | [], _ => by simp [ins1]
  | y :: ys, h => by
    unfold ins1
    rw [List.pairwise_cons] at h
    split
    · rename_i e
      refine List.pairwise_cons.mpr ⟨fun z hz => ?_, List.pairwise_cons.mpr h⟩
      rcases List.mem_cons.mp hz with rfl | hz
      · exact e
      · exact Int.le_trans e (h.1 z hz)
    · rename_i e
      refine List.pairwise_cons.mpr ⟨fun z hz => ?_, ins1_sorted x h.2⟩
      rcases List.mem_cons.mp ((ins1_perm x ys).mem_iff.mp hz) with rfl | hz
      · omega
      · exact h.1 z hz
theorem isort_sorted : ∀ xs, (isort xs).Pairwise (· ≤ ·)
  | [] => .nil
  | x :: xs => ins1_sorted x (isort_sorted xs)
theorem sorted_one {a b : List Int} (p : a.Perm b) (ha : a.Pairwise (· ≤ ·)) (hb : b.Pairwise (· ≤ ·)) : a = b :=
  List.Perm.eq_of_pairwise (le := (· ≤ ·)) (fun _ _ _ _ h1 h2 => Int.le_antisymm h1 h2) ha hb p
def intsOf : List Vl → Option (List Int)
  | [] => some []
  | .int b :: r => (intsOf r).map (b :: ·)
  | _ => none
theorem intsOf_map : ∀ {xs : List Vl} {bs : List Int}, intsOf xs = some bs → xs = bs.map Vl.int
  | [], bs, e => by cases e; rfl
  | .int b :: r, bs, e => by
    unfold intsOf at e
    cases q : intsOf r with
    | none => rw [q] at e; cases e
    | some cs =>
      rw [q] at e
      cases e
      rw [intsOf_map q]; rfl
  | .non :: _, _, e => by cases e
  | .bl _ :: _, _, e => by cases e
  | .str _ :: _, _, e => by cases e
  | .ref _ :: _, _, e => by cases e
  | .tup _ :: _, _, e => by cases e
  | .kl _ :: _, _, e => by cases e
def gSorted : GC := fun xs h => match xs with
  | [.ref n] => match (getL h n).bind intsOf with
    | some ns => if ns.length < 64 then .ok (.ref h.length) (h ++ [.lst ((isort ns).map Vl.int)]) else .bad
    | none => .bad
  | _ => .bad
theorem keeps_sorted {K : Fg} : KeepsC K gSorted (rSorted K) := by
  intro r h H W σ xs us Q R rx p
  unfold gSorted at p
  split at p
  · obtain ⟨u, rfl, q⟩ := rx.one_
    obtain ⟨a, q1, rfl⟩ := q.ref_
    split at p
    · rename_i n ns e
      split at p
      · rename_i hz
        obtain ⟨ys, e1, e2⟩ := Option.bind_eq_some_iff.mp e
        obtain ⟨vs, h1, h2⟩ := R.seq q1 e1
        rw [intsOf_map e2] at h2
        rw [h2.ints] at h1
        refine ⟨a, ns, rfl, h1, hz, fun ns' l hp hs hn => ?_⟩
        rw [sorted_one (hp.trans (isort_perm ns).symm) hs (isort_sorted ns)]
        exact Pst.newLst R p (RVs.ofInts _) l hn
      · exact p.elim
    · exact p.elim
  · exact p.elim
end Mi

/-! A5: methods of lists and texts, dicts, fields. -/
namespace Mi
open PySem PySem.Spec L2

abbrev GM := Vl → List Vl → Hs → Out Vl
def KeepsM (K : Fg) (g : GM) (t : V → List V → Hp → VK → Prop) : Prop := ∀ (r : List Addr) (h : Hs) (H : Hp) (W : WX) (σ : L2.St) (x : Vl) (xs : List Vl) (u : V) (us : List V) (Q : VK), RH K r h H → RV K r H x u → RVs K r H xs us →
  Pst K r H W σ (fun z _ r' H' => ∀ w, RV K r' H' z w → Q w H') (g x xs h) → t u us H Q
def isLst (x : Vl) (h : Hs) : Bool := match x with
  | .ref n => (getL h n).isSome
  | _ => false
def isStr (x : Vl) (h : Hs) : Bool := match x with
  | .str _ => true
  | _ => false
def mMeth (ty : Vl → Hs → Bool) (g : GM) (mo : ME) (ms : MA) : ME := fun env h => (mo env h).bind fun x h1 => if ty x h1 = true then (ms env h1).bind fun vs h2 => g x vs h2 else .bad
def TyOk (K : Fg) (T : String) (ty : Vl → Hs → Bool) : Prop := ∀ (r : List Addr) (h : Hs) (H : Hp) (x : Vl) (u : V), RH K r h H → RV K r H x u → ty x h = true → tyV K T u H
theorem tyLst {K : Fg} : TyOk K "list" isLst := by
  intro r h H x u R rx q
  cases x with
  | ref n =>
    obtain ⟨a, q1, rfl⟩ := rx.ref_
    obtain ⟨xs, e⟩ := Option.isSome_iff_exists.mp (show (getL h n).isSome = true from q)
    obtain ⟨vs, h1, h2⟩ := R.seq q1 e
    exact .inl ⟨rfl, vs, h1⟩
  | _ => cases q
theorem tyStr {K : Fg} : TyOk K "str" isStr := by
  intro r h H x u R rx q
  cases x with
  | str n => rw [rx.str_]; rfl
  | _ => cases q
section
variable {X : Cx} {W : WX} {o e : Expr} {es : List Expr} {mo : ME} {ms : MA} {name : Str} {apos cpos : Pos} {T id : String} {t : V → List V → Hp → VK → Prop} {g : GM} {ty : Vl → Hs → Bool}
theorem pe_bmM (pa : PlainAttrs T) (slot : Slot T name id) (hty : typeOf (.builtin id) = pure (.type "method_descriptor")) (hm : MtR X id t) (k : KeepsM X.K g t) (tk : TyOk X.K T ty) (ho : PE X o (rE X.K W mo)) (ha : PA X (e :: es) (rA X.K W ms))
    (hp : plainX o = true) (hs : (e :: es).all noStar = true) (hl : (e :: es).length < 30) (hline : (apos.endLine == cpos.line) = true) : PE X (.Call (.Attribute o name apos) (e :: es) [] cpos) (rE X.K W (mMeth ty g mo ms)) := by
  have hs' := hs
  rw [List.all_cons, Bool.and_eq_true] at hs'
  refine PE.imp (pe_bm pa slot hty hm ho ha (base_plain hp) ?_ hline (star_each hs'.1) (star_any hs'.2)) fun σ H Q q => ?_
  · rw [star_alln hs]
    show (true && true && decide ((e :: es).length + 0 + 0 < 30)) = true
    rw [decide_eq_true (by omega)]; rfl
  · obtain ⟨r, env, h, R, E, p⟩ := q
    refine ⟨r, env, h, R, E, p.bind.imp fun x h1 r1 H1 e1 R1 p1 u ru => ?_⟩
    split at p1
    · rename_i hz
      exact ⟨tk _ _ _ _ _ R1 ru hz, r1, env, h1, R1, E.ext e1, p1.bind.imp fun vs h2 r2 H2 e2 R2 p2 us rus => k r2 h2 H2 W σ x vs u us Q R2 (ru.ext e2) rus p2⟩
    · exact p1.elim
theorem pe_bm0M (pa : PlainAttrs T) (slot : Slot T name id) (hty : typeOf (.builtin id) = pure (.type "method_descriptor")) (hm : MtR X id t) (k : KeepsM X.K g t) (tk : TyOk X.K T ty) (ho : PE X o (rE X.K W mo))
    (hp : plainX o = true) (hline : (apos.endLine == cpos.line) = true) : PE X (.Call (.Attribute o name apos) [] [] cpos) (rE X.K W (mMeth ty g mo mNil)) := by
  refine PE.imp (pe_bm0 pa slot hty hm ho (base_plain hp) hline) fun σ H Q q => ?_
  obtain ⟨r, env, h, R, E, p⟩ := q
  refine ⟨r, env, h, R, E, p.bind.imp fun x h1 r1 H1 e1 R1 p1 u ru => ?_⟩
  split at p1
  · rename_i hz
    exact ⟨tk _ _ _ _ _ R1 ru hz, k r1 h1 H1 W σ x [] u [] Q R1 ru RVs.nil p1⟩
  · exact p1.elim
end
section
variable {K : Fg} {r : List Addr} {h : Hs} {H : Hp} {W : WX} {σ : L2.St} {Q : VK}
/-- a list of ours is changed in place -/
theorem Pst.putLst {n : Nat} {a : Addr} {xs ys : List Vl} {us : List V} {z : Vl} {w : V} (R : RH K r h H) (q1 : r[n]? = some a) (e : h[n]? = some (.lst xs)) (rs : RVs K r H ys us) (rz : RV K r H z w)
    (p : Pst K r H W σ (fun z _ r' H' => ∀ w, RV K r' H' z w → Q w H') (.ok z (h.set n (.lst ys)))) : Q w (upd H a (.lst us)) :=
  p r _ (ext_put R e q1 rfl) (R.put e q1 rfl ⟨us, upd_same, rs.ext (ext_put R e q1 rfl)⟩ rfl) w (rz.ext (ext_put R e q1 rfl))
end
def gAppend : GM := fun x vs h => match x, vs with
  | .ref n, [y] => match h[n]? with
    | some (.lst xs) => if xs.length < bigN then .ok .non (h.set n (.lst (xs ++ [y]))) else .bad
    | _ => .bad
  | _, _ => .bad
theorem keeps_append {K : Fg} : KeepsM K gAppend rAppend := by
  intro r h H W σ x xs u us Q R rx rs p
  unfold gAppend at p
  split at p
  · split at p
    · split at p
      · rename_i n y _ ys e hz
        obtain ⟨a, q1, rfl⟩ := rx.ref_
        obtain ⟨v, rfl, q⟩ := rs.one_
        obtain ⟨vs, h1, h2⟩ := R.lst q1 e
        exact ⟨a, vs, v, rfl, rfl, h1, by rw [h2.length]; exact Nat.lt_of_lt_of_le hz big_line, Pst.putLst R q1 e (h2.append (RVs.one q)) .ofNon p⟩
      · exact p.elim
    · exact p.elim
  · exact p.elim
def gInsert : GM := fun x vs h => match x, vs with
  | .ref n, [.int i, y] => match h[n]? with
    | some (.lst xs) => if decide (xs.length < bigN) && decide (0 ≤ i) && decide (i < 1000000) then .ok .non (h.set n (.lst (xs.take i.toNat ++ [y] ++ xs.drop i.toNat))) else .bad
    | _ => .bad
  | _, _ => .bad
theorem keeps_insert {K : Fg} : KeepsM K gInsert (fun x vs H Q => ∃ (l : Addr) (xs : List V) (i : Int) (y : V), x = .ref l ∧ vs = [.int i, y] ∧ H l = some (.lst xs) ∧ xs.length < sizeLine ∧ 0 ≤ i ∧ i < 2 ^ 63 ∧
    Q .non (upd H l (.lst (xs.take i.toNat ++ [y] ++ xs.drop i.toNat)))) := by
  intro r h H W σ x xs u us Q R rx rs p
  unfold gInsert at p
  split at p
  · split at p
    · split at p
      · rename_i n i y _ ys e hz
        simp only [Bool.and_eq_true, decide_eq_true_eq] at hz
        obtain ⟨a, q1, rfl⟩ := rx.ref_
        obtain ⟨v, w, rfl, q, q'⟩ := rs.two_
        rw [q.int_]
        obtain ⟨vs, h1, h2⟩ := R.lst q1 e
        exact ⟨a, vs, i, w, rfl, rfl, h1, by rw [h2.length]; exact Nat.lt_of_lt_of_le hz.1.1 big_line, hz.1.2, by omega, Pst.putLst R q1 e (((h2.take _).append (RVs.one q')).append (h2.drop _)) .ofNon p⟩
      · exact p.elim
    · exact p.elim
  · exact p.elim
def gExtend : GM := fun x vs h => match x, vs with
  | .ref n, [.ref m] => match h[n]?, h[m]? with
    | some (.lst xs), some (.lst ys) => if xs.length + ys.length ≤ bigN then .ok .non (h.set n (.lst (xs ++ ys))) else .bad
    | _, _ => .bad
  | _, _ => .bad
theorem keeps_extend {K : Fg} : KeepsM K gExtend rExtend := by
  intro r h H W σ x xs u us Q R rx rs p
  unfold gExtend at p
  split at p
  · split at p
    · split at p
      · rename_i n m _ _ xs ys e e' hz
        obtain ⟨a, q1, rfl⟩ := rx.ref_
        obtain ⟨v, rfl, q⟩ := rs.one_
        obtain ⟨b, q2, rfl⟩ := q.ref_
        obtain ⟨vs, h1, h2⟩ := R.lst q1 e
        obtain ⟨ws, h3, h4⟩ := R.lst q2 e'
        exact ⟨a, b, vs, ws, rfl, rfl, h1, h3, by rw [h2.length, h4.length]; exact Nat.le_trans hz big_line, Pst.putLst R q1 e (h2.append h4) .ofNon p⟩
      · exact p.elim
    · exact p.elim
  · exact p.elim
def gClear : GM := fun x vs h => match x, vs with
  | .ref n, [] => match h[n]? with
    | some (.lst xs) => .ok .non (h.set n (.lst []))
    | _ => .bad
  | _, _ => .bad
theorem keeps_clear {K : Fg} : KeepsM K gClear rClear := by
  intro r h H W σ x xs u us Q R rx rs p
  unfold gClear at p
  split at p
  · split at p
    · rename_i n _ xs e
      obtain ⟨a, q1, rfl⟩ := rx.ref_
      rw [rs.nil_]
      obtain ⟨vs, h1, h2⟩ := R.lst q1 e
      exact ⟨a, vs, rfl, rfl, h1, Pst.putLst R q1 e RVs.nil .ofNon p⟩
    · exact p.elim
  · exact p.elim
theorem RVs.dropLast {K : Fg} {r : List Addr} {H : Hp} {xs : List Vl} {vs : List V} (q : RVs K r H xs vs) : RVs K r H xs.dropLast vs.dropLast := by
  rw [List.dropLast_eq_take, List.dropLast_eq_take, q.length]; exact q.take _
theorem RVs.erase {K : Fg} {r : List Addr} {H : Hp} {xs : List Vl} {vs : List V} (q : RVs K r H xs vs) (k : Nat) : RVs K r H (xs.eraseIdx k) (vs.eraseIdx k) := by
  rw [List.eraseIdx_eq_take_drop_succ, List.eraseIdx_eq_take_drop_succ]; exact (q.take _).append (q.drop _)
def gPop : GM := fun x vs h => match x, vs with
  | .ref n, [] => match h[n]? with
    | some (.lst xs) => match xs[xs.length - 1]? with
      | some y => .ok y (h.set n (.lst xs.dropLast))
      | none => .bad
    | _ => .bad
  | _, _ => .bad
theorem keeps_pop {K : Fg} : KeepsM K gPop rPop := by
  intro r h H W σ x xs u us Q R rx rs p
  unfold gPop at p
  split at p
  · split at p
    · split at p
      · rename_i n _ xs e _ y ey
        obtain ⟨a, q1, rfl⟩ := rx.ref_
        rw [rs.nil_]
        obtain ⟨vs, h1, h2⟩ := R.lst q1 e
        obtain ⟨w, e1, e2⟩ := h2.get ey
        exact ⟨a, vs, w, rfl, rfl, h1, by rw [h2.length]; exact e1, Pst.putLst R q1 e h2.dropLast e2 p⟩
      · exact p.elim
    · exact p.elim
  · exact p.elim
def gPopAt : GM := fun x vs h => match x, vs with
  | .ref n, [.int i] => match h[n]? with
    | some (.lst xs) => if decide (0 ≤ i) && decide (i < 1000000) then match xs[i.toNat]? with
        | some y => .ok y (h.set n (.lst (xs.eraseIdx i.toNat)))
        | none => .bad
      else .bad
    | _ => .bad
  | _, _ => .bad
theorem seq_at {i : Int} {n : Nat} (h0 : 0 ≤ i) (h1 : i.toNat < n) : seqIndex? i n = some i.toNat := by
  unfold seqIndex?
  have h2 : ¬ i < 0 := by omega
  have h3 : i < (n : Int) := by omega
  simp [h2, h0, h3]
theorem keeps_popAt {K : Fg} : KeepsM K gPopAt rPopAt := by
  intro r h H W σ x xs u us Q R rx rs p
  unfold gPopAt at p
  split at p
  · split at p
    · split at p
      · split at p
        · rename_i n i _ xs e hz _ y ey
          simp only [Bool.and_eq_true, decide_eq_true_eq] at hz
          obtain ⟨a, q1, rfl⟩ := rx.ref_
          obtain ⟨v, rfl, q⟩ := rs.one_
          rw [q.int_]
          obtain ⟨vs, h1, h2⟩ := R.lst q1 e
          obtain ⟨w, e1, e2⟩ := h2.get ey
          exact ⟨a, vs, i, i.toNat, w, rfl, rfl, h1, by omega, by omega, seq_at hz.1 (List.getElem?_eq_some_iff.mp e1).1, e1, Pst.putLst R q1 e (h2.erase _) e2 p⟩
        · exact p.elim
      · exact p.elim
    · exact p.elim
  · exact p.elim
def idxF (y : Vl) : List Vl → Option Nat
  | [] => none
  | z :: zs => if eqF z y then some 0 else (idxF y zs).map (· + 1)
theorem idxF_at {y : Vl} : ∀ {xs : List Vl} {j : Nat}, idxF y xs = some j → (∃ z, xs[j]? = some z ∧ eqF z y = true) ∧ ∀ (m : Nat) (z' : Vl), m < j → xs[m]? = some z' → eqF z' y = false
  | [], _, e => by cases e
  | z :: zs, j, e => by
    unfold idxF at e
    split at e
    · rename_i hz
      cases e
      exact ⟨⟨z, rfl, hz⟩, fun m z' hm => absurd hm (Nat.not_lt_zero _)⟩
    · rename_i hz
      cases q : idxF y zs with
      | none => rw [q] at e; cases e
      | some k =>
        rw [q] at e
        cases e
        obtain ⟨⟨z1, a1, a2⟩, a3⟩ := idxF_at q
        refine ⟨⟨z1, by simpa using a1, a2⟩, fun m z' hm hz' => ?_⟩
        cases m with
        | zero => simp at hz'; subst hz'; simpa using hz
        | succ m => exact a3 m z' (by have q : m + 1 < k + 1 := hm; omega) (by simpa using hz')
def gIndex : GM := fun x vs h => match x, vs with
  | .ref n, [y] => match getL h n with
    | some xs => if flat y && xs.all flat then match idxF y xs with
        | some j => .ok (.int (j : Nat)) h
        | none => .bad
      else .bad
    | none => .bad
  | _, _ => .bad
theorem RVs.back {K : Fg} {r : List Addr} {H : Hp} : ∀ {xs : List Vl} {vs : List V} {i : Nat} {v : V}, RVs K r H xs vs → vs[i]? = some v → ∃ x, xs[i]? = some x ∧ RV K r H x v
  | [], _, i, v, q, e => by simp only [RVs] at q; subst q; simp at e
  | x :: xs, _, i, v, q, e => by
    simp only [RVs] at q
    obtain ⟨u, t, rfl, h1, h2⟩ := q
    cases i with
    | zero => simp at e; subst e; exact ⟨x, rfl, h1⟩
    | succ i =>
      obtain ⟨y, e1, e2⟩ := RVs.back (i := i) h2 (by simpa using e)
      exact ⟨y, by simpa using e1, e2⟩
theorem keeps_index {K : Fg} : KeepsM K gIndex (rIndex K) := by
  intro r h H W σ x xs u us Q R rx rs p
  unfold gIndex at p
  split at p
  · split at p
    · split at p
      · split at p
        · rename_i n y _ ys e hz _ j ej
          rw [Bool.and_eq_true] at hz
          obtain ⟨a, q1, rfl⟩ := rx.ref_
          obtain ⟨v, rfl, q⟩ := rs.one_
          obtain ⟨vs, h1, h2⟩ := R.seq q1 e
          obtain ⟨⟨z, a1, a2⟩, a3⟩ := idxF_at ej
          obtain ⟨w, b1, b2⟩ := h2.get a1
          have fl : ∀ {m : Nat} {z : Vl}, ys[m]? = some z → flat z = true := fun e => List.all_eq_true.mp hz.2 _ (List.mem_of_getElem? e)
          refine ⟨a, vs, v, j, w, rfl, rfl, h1, flat_v q hz.1, flats_v h2 hz.2, b1, (eqF_v b2 q (fl a1) hz.1).trans a2, fun m z' hm hz' => ?_, p.here R _ (.ofInt _)⟩
          obtain ⟨x', c1, c2⟩ := h2.back hz'
          exact (eqF_v c2 q (fl c1) hz.1).trans (a3 m x' hm c1)
        · exact p.elim
      · exact p.elim
    · exact p.elim
  · exact p.elim

/-! ### texts -/
def gSplit : GM := fun x vs h => match x, vs with
  | .str a, [.str b] => if (b.length == 0) = false ∧ a.length + 2 ≤ bigN then .ok (.ref h.length) (h ++ [.lst ((Txt.split a b).map Vl.str)]) else .bad
  | _, _ => .bad
theorem keeps_split {K : Fg} : KeepsM K gSplit (fun x xs H Q => ∃ a b, x = .str a ∧ xs = [.str b] ∧ (b.length == 0) = false ∧ a.length + 2 ≤ sizeLine ∧ rNewStrs (Txt.split a b) H Q) := by
  intro r h H W σ x xs u us Q R rx rs p
  unfold gSplit at p
  split at p
  · split at p
    · rename_i hz
      obtain ⟨v, rfl, q⟩ := rs.one_
      rw [rx.str_, q.str_]
      exact ⟨_, _, rfl, rfl, hz.1, Nat.le_trans hz.2 big_line, Pst.newLst R p (RVs.ofStrs _)⟩
    · exact p.elim
  · exact p.elim
def gPartition : GM := fun x vs h => match x, vs with
  | .str a, [.str b] => if (b.length == 0) = false ∧ a.length ≤ bigN then .ok (.tup [.str (Txt.partition a b).1, .str (Txt.partition a b).2.1, .str (Txt.partition a b).2.2]) h else .bad
  | _, _ => .bad
theorem keeps_partition {K : Fg} : KeepsM K gPartition (fun x xs H Q => ∃ a b, x = .str a ∧ xs = [.str b] ∧ (b.length == 0) = false ∧ a.length ≤ sizeLine ∧ ∀ p, H p = none → Q (.ref p) (upd H p (.tup [.str (Txt.partition a b).1, .str (Txt.partition a b).2.1, .str (Txt.partition a b).2.2]))) := by
  intro r h H W σ x xs u us Q R rx rs p
  unfold gPartition at p
  split at p
  · split at p
    · rename_i hz
      obtain ⟨v, rfl, q⟩ := rs.one_
      rw [rx.str_, q.str_]
      exact ⟨_, _, rfl, rfl, hz.1, Nat.le_trans hz.2 big_line, Pst.newTup R p (.cons (.ofStr _) (.cons (.ofStr _) (.cons (.ofStr _) .nil)))⟩
    · exact p.elim
  · exact p.elim
def strOf : List Vl → Option (List Str)
  | [] => some []
  | .str b :: r => (strOf r).map (b :: ·)
  | _ => none
theorem strOf_map : ∀ {xs : List Vl} {bs : List Str}, strOf xs = some bs → xs = bs.map Vl.str
  | [], bs, e => by cases e; rfl
  | .str b :: r, bs, e => by
    unfold strOf at e
    cases q : strOf r with
    | none => rw [q] at e; cases e
    | some cs =>
      rw [q] at e
      cases e
      rw [strOf_map q]; rfl
  | .non :: _, _, e => by cases e
  | .bl _ :: _, _, e => by cases e
  | .int _ :: _, _, e => by cases e
  | .ref _ :: _, _, e => by cases e
  | .tup _ :: _, _, e => by cases e
  | .kl _ :: _, _, e => by cases e
def gJoin : GM := fun x vs h => match x, vs with
  | .str a, [.ref n] => match (getL h n).bind strOf with
    | some ys => if (ys.map (·.length)).sum + ys.length * a.length ≤ bigN then .ok (.str (Txt.join a ys)) h else .bad
    | none => .bad
  | _, _ => .bad
theorem keeps_join {K : Fg} : KeepsM K gJoin (fun x xs H Q => ∃ a p, ∃ ys : List Str, x = .str a ∧ xs = [.ref p] ∧ (SqL K H p (ys.map V.str) ∨ SqT K H p (ys.map V.str)) ∧ (ys.map (·.length)).sum + ys.length * a.length ≤ 16777216 ∧ Q (.str (Txt.join a ys)) H) := by
  intro r h H W σ x xs u us Q R rx rs p
  unfold gJoin at p
  split at p
  · split at p
    · split at p
      · rename_i n _ ys e hz
        obtain ⟨v, rfl, q⟩ := rs.one_
        obtain ⟨b, q1, rfl⟩ := q.ref_
        obtain ⟨zs, e1, e2⟩ := Option.bind_eq_some_iff.mp e
        obtain ⟨vs, h1, h2⟩ := R.seq q1 e1
        rw [strOf_map e2] at h2
        rw [h2.strs] at h1
        rw [rx.str_]
        exact ⟨_, b, ys, rfl, rfl, .inl h1, Nat.le_trans hz (by decide), p.here R _ (.ofStr _)⟩
      · exact p.elim
    · exact p.elim
  · exact p.elim

/-! ### dicts -/
def keyOf : Vl → Option Key
  | .int i => some (.inl i)
  | .str x => some (.inr x)
  | _ => none
theorem keyOf_v {K : Fg} {r : List Addr} {H : Hp} {x : Vl} {u : V} {k : Key} (q : RV K r H x u) (e : keyOf x = some k) : u = kV k := by
  cases x with
  | int i => cases e; exact q.int_
  | str i => cases e; exact q.str_
  | _ => cases e
def getK (kvs : List (Key × Vl)) (k : Key) : Option Vl := match kvs with
  | [] => none
  | p :: r => if p.1 = k then some p.2 else getK r k
def setK (kvs : List (Key × Vl)) (k : Key) (v : Vl) : List (Key × Vl) := match kvs with
  | [] => [(k, v)]
  | p :: r => if p.1 = k then (p.1, v) :: r else p :: setK r k v
/-- no key twice (what every dict is) -/
theorem RF.get {K : Fg} {r : List Addr} {H : Hp} (k : Key) : ∀ {xs : List (Key × Vl)} {vs : List (Key × V)}, RF K r H xs vs → (∀ v, getK xs k = some v → ∃ u, valV vs k = some u ∧ RV K r H v u) ∧ (getK xs k = none → valV vs k = none)
  | [], _, q => by
    simp only [RF] at q; subst q
    exact ⟨fun v e => (by cases e), fun _ => rfl⟩
  | p :: ps, _, q => by
    simp only [RF] at q
    obtain ⟨u, t, rfl, h1, h2⟩ := q
    obtain ⟨i1, i2⟩ := RF.get k h2
    by_cases e : p.1 = k
    · have e1 : getK (p :: ps) k = some p.2 := if_pos e
      have e2 : valV ((p.1, u) :: t) k = some u := valV_pos (p := (p.1, u)) e
      rw [e1, e2]
      exact ⟨fun v z => (by cases z; exact ⟨u, rfl, h1⟩), fun z => (by cases z)⟩
    · have e1 : getK (p :: ps) k = getK ps k := if_neg e
      have e2 : valV ((p.1, u) :: t) k = valV t k := valV_neg (p := (p.1, u)) e
      rw [e1, e2]
      exact ⟨i1, i2⟩
theorem putK_cons_ne {p : Key × V} {r : List (Key × V)} {k : Key} {v : V} (e : ¬ p.1 = k) : putK (p :: r) k v = p :: putK r k v := by
  unfold putK
  rw [List.any_cons, decide_eq_false e, Bool.false_or]
  split
  · rw [List.map_cons, if_neg e]
  · rfl
theorem noKey {K : Fg} {r : List Addr} {H : Hp} {k : Key} : ∀ {xs : List (Key × Vl)} {vs : List (Key × V)}, RF K r H xs vs → k ∉ xs.map (·.1) → ∀ v : V, vs.map (fun kv => if kv.1 = k then (kv.1, v) else kv) = vs
  | [], _, q, _, v => by simp only [RF] at q; subst q; rfl
  | p :: ps, _, q, n, v => by
    simp only [RF] at q
    obtain ⟨u, t, rfl, h1, h2⟩ := q
    rw [List.map_cons] at n
    simp only [List.mem_cons, not_or] at n
    rw [List.map_cons, noKey h2 n.2 v, if_neg (Ne.symm n.1)]
theorem RF.put {K : Fg} {r : List Addr} {H : Hp} {k : Key} {v : Vl} {u : V} (rv : RV K r H v u) : ∀ {xs : List (Key × Vl)} {vs : List (Key × V)}, RF K r H xs vs → (xs.map (·.1)).Nodup → RF K r H (setK xs k v) (putK vs k u)
  | [], _, q, _ => by
    simp only [RF] at q; subst q
    show RF K r H [(k, v)] [(k, u)]
    simp only [RF]
    exact ⟨u, [], rfl, rv, rfl⟩
  | p :: ps, _, q, nd => by
    simp only [RF] at q
    obtain ⟨w, t, rfl, h1, h2⟩ := q
    rw [List.map_cons, List.nodup_cons] at nd
    by_cases e : p.1 = k
    · have e1 : setK (p :: ps) k v = (p.1, v) :: ps := if_pos e
      have e2 : putK ((p.1, w) :: t) k u = (p.1, u) :: t := by
        unfold putK
        rw [List.any_cons, decide_eq_true (show (p.1, w).1 = k from e), Bool.true_or, if_pos rfl, List.map_cons, if_pos (show (p.1, w).1 = k from e), noKey h2 (by rw [← e]; exact nd.1) u]
      rw [e1, e2]
      simp only [RF]
      exact ⟨u, t, rfl, rv, h2⟩
    · have e1 : setK (p :: ps) k v = p :: setK ps k v := if_neg e
      have e2 : putK ((p.1, w) :: t) k u = (p.1, w) :: putK t k u := putK_cons_ne (p := (p.1, w)) e
      rw [e1, e2]
      simp only [RF]
      exact ⟨w, _, rfl, h1, RF.put rv h2 nd.2⟩
def nodupK (kvs : List (Key × Vl)) : Bool := decide (kvs.map (·.1)).Nodup
section
variable {K : Fg} {r : List Addr} {h : Hs} {H : Hp} {W : WX} {σ : L2.St} {Q : VK}
theorem ext_putD {n : Nat} {a : Addr} {xs ys : List (Key × Vl)} {us : List (Key × V)} (R : RH K r h H) (q1 : r[n]? = some a) (e : h[n]? = some (.dic xs)) (rs : RF K r H ys us) : Ext r r H (upd H a (.dK us)) ∧ RH K r (h.set n (.dic ys)) (upd H a (.dK us)) :=
  ⟨ext_put R e q1 rfl, R.put e q1 rfl ⟨us, upd_same, rs.ext (ext_put R e q1 rfl)⟩ rfl⟩
end
/-- d[k] -/
def gDget : G2 := fun x y h => match x, keyOf y with
  | .ref n, some k => match h[n]? with
    | some (.dic kvs) => match getK kvs k with
      | some v => .ok v h
      | none => .bad
    | _ => .bad
  | _, _ => .bad
def gDin : G2 := fun y x h => match x, keyOf y with
  | .ref n, some k => match h[n]? with
    | some (.dic kvs) => .ok (.bl (getK kvs k).isSome) h
    | _ => .bad
  | _, _ => .bad
def gDni : G2 := fun y x h => match x, keyOf y with
  | .ref n, some k => match h[n]? with
    | some (.dic kvs) => .ok (.bl (!(getK kvs k).isSome)) h
    | _ => .bad
  | _, _ => .bad
section
variable {X : Cx} {W : WX} {o i f : Expr} {pos apos cpos : Pos} {mo mi mf : ME}
theorem pe_dgetM (hu : X.A.units + 1 < cLine) (ho : PE X o (rE X.K W mo)) (hi : PE X i (rE X.K W mi)) (hn : noStar i = true) : PE X (.Subscript o i pos) (rE X.K W (mBin gDget mo mi)) :=
  PE.imp (pe_dget hu ho hi (sub_plain hn)) fun σ H Q q => by
    refine rE_bin (t := fun x y H Q => ∃ a v, x = .ref a ∧ DGet H a y (some v) ∧ Q v H) ?_ q
    intro r h H W σ x y u v Q R rx ry p
    unfold gDget at p
    split at p
    · split at p
      · split at p
        · rename_i n k ek _ kvs e _ z ez
          obtain ⟨a, q1, rfl⟩ := rx.ref_
          obtain ⟨vs, h1, h2⟩ := R.dic q1 e
          obtain ⟨w, e1, e2⟩ := (h2.get k).1 z ez
          exact ⟨a, w, rfl, by rw [keyOf_v ry ek, ← e1]; exact DGet.k h1, p.here R _ e2⟩
        · exact p.elim
      · exact p.elim
    · exact p.elim
theorem keeps_din {K : Fg} : Keeps2 K gDin (fun y x H Q => ∃ a o, x = .ref a ∧ DGet H a y o ∧ Q (.bl o.isSome) H) := by
  intro r h H W σ y x v u Q R ry rx p
  unfold gDin at p
  split at p
  · split at p
    · rename_i n k ek _ kvs e
      obtain ⟨a, q1, rfl⟩ := rx.ref_
      obtain ⟨vs, h1, h2⟩ := R.dic q1 e
      refine ⟨a, _, rfl, by rw [keyOf_v ry ek]; exact DGet.k (k := k) h1, ?_⟩
      cases ez : getK kvs k with
      | none =>
        rw [ez] at p
        rw [(h2.get k).2 ez]
        exact p.here R _ (.ofBl _)
      | some z =>
        rw [ez] at p
        obtain ⟨w, e1, e2⟩ := (h2.get k).1 z ez
        rw [e1]
        exact p.here R _ (.ofBl _)
    · exact p.elim
  · exact p.elim
theorem keeps_dni {K : Fg} : Keeps2 K gDni (fun y x H Q => ∃ a o, x = .ref a ∧ DGet H a y o ∧ Q (.bl (!o.isSome)) H) := by
  intro r h H W σ y x v u Q R ry rx p
  unfold gDni at p
  split at p
  · split at p
    · rename_i n k ek _ kvs e
      obtain ⟨a, q1, rfl⟩ := rx.ref_
      obtain ⟨vs, h1, h2⟩ := R.dic q1 e
      refine ⟨a, _, rfl, by rw [keyOf_v ry ek]; exact DGet.k (k := k) h1, ?_⟩
      cases ez : getK kvs k with
      | none =>
        rw [ez] at p
        rw [(h2.get k).2 ez]
        exact p.here R _ (.ofBl _)
      | some z =>
        rw [ez] at p
        obtain ⟨w, e1, e2⟩ := (h2.get k).1 z ez
        rw [e1]
        exact p.here R _ (.ofBl _)
    · exact p.elim
  · exact p.elim
theorem PC.imp {op : CmpOp} {a b : Expr} {t t' : TE} (h : PC X op a b t) (k : ∀ σ H Q, t' σ H Q → t σ H Q) : PC X op a b t' := ⟨fun pins s σ H Q I q => h.run pins s σ H Q I (k σ H Q q)⟩
theorem pc_dinM (hu : X.A.units + 1 < cLine) (hi : PE X i (rE X.K W mi)) (ho : PE X o (rE X.K W mo)) : PC X .In i o (rE X.K W (mBin gDin mi mo)) := PC.imp (pc_din hu hi ho) fun _ _ _ q => rE_bin keeps_din q
theorem pc_dniM (hu : X.A.units + 1 < cLine) (hi : PE X i (rE X.K W mi)) (ho : PE X o (rE X.K W mo)) : PC X .NotIn i o (rE X.K W (mBin gDni mi mo)) := PC.imp (pc_dnotin hu hi ho) fun _ _ _ q => rE_bin keeps_dni q
theorem pe_pcM {op : CmpOp} {m : ME} (h : PC X op i o (rE X.K W m)) (hn : noStar o = true) : PE X (.Compare i [op] [o] pos) (rE X.K W m) := pe_cmp h (marks_plain hn)
theorem pt_pcM {op : CmpOp} {m : ME} (h : PC X op i o (rE X.K W m)) (hn : noStar o = true) : PT X (.Compare i [op] [o] pos) (rT X.K W (mTest m)) := PT.imp (pt_cmp h (marks_plain hn)) fun _ _ _ q => rT_test q
/-- {} -/
def mDnew : ME := fun _ h => .ok (.ref h.length) (h ++ [.dic []])
theorem pe_dnewM : PE X (.Dict [] [] pos) (rE X.K W mDnew) := PE.imp pe_dnewK fun σ H Q q => by
  obtain ⟨r, env, h, R, E, p⟩ := q
  exact Pst.newOb R p rfl fun p hp => ⟨[], upd_same, by simp only [RF]⟩
theorem m1_of {m : Str} (hp : plainX o = true) (hi : noStar i = true) (hline : (apos.endLine == cpos.line) = true) : M1 X o m apos i cpos :=
  ⟨base_plain hp, by rw [star_alln (es := [i]) (by simp [hi])]; rfl, hline, by rw [star_back hi]; rfl⟩
theorem m2_of {m : Str} (hp : plainX o = true) (hi : noStar i = true) (hf : noStar f = true) (hline : (apos.endLine == cpos.line) = true) : M2 X o m apos i f cpos :=
  ⟨base_plain hp, by rw [star_alln (es := [i, f]) (by simp [hi, hf])]; rfl, hline, by rw [star_back hi, star_back hf]; rfl⟩
def isDic (x : Vl) (h : Hs) : Bool := match x with
  | .ref n => match h[n]? with
    | some (.dic _) => true
    | _ => false
  | _ => false
theorem isDic_v {K : Fg} {r : List Addr} {h : Hs} {H : Hp} {x : Vl} {u : V} (R : RH K r h H) (q : RV K r H x u) (e : isDic x h = true) : ∃ a, u = .ref a ∧ IsD H a := by
  unfold isDic at e
  split at e
  · split at e
    · rename_i n _ kvs e1
      obtain ⟨a, q1, rfl⟩ := q.ref_
      obtain ⟨vs, h1, h2⟩ := R.dic q1 e1
      exact ⟨a, rfl, .inl ⟨vs, .inl h1⟩⟩
    · cases e
  · cases e
/-- d.get(k), d.get(k, x) -/
def gGet : GM := fun x vs h => match x, vs with
  | .ref n, [y] => match keyOf y with
    | some k => match h[n]? with
      | some (.dic kvs) => .ok ((getK kvs k).getD .non) h
      | _ => .bad
    | none => .bad
  | .ref n, [y, z] => match keyOf y with
    | some k => match h[n]? with
      | some (.dic kvs) => .ok ((getK kvs k).getD z) h
      | _ => .bad
    | none => .bad
  | _, _ => .bad
theorem pe_get1M (hu : X.A.units + 1 < cLine) (ho : PE X o (rE X.K W mo)) (hi : PE X i (rE X.K W mi)) (hp : plainX o = true) (hn : noStar i = true) (hline : (apos.endLine == cpos.line) = true) :
    PE X (.Call (.Attribute o "get" apos) [i] [] cpos) (rE X.K W (mMeth isDic gGet mo (mCons mi mNil))) :=
  PE.imp (pe_dget1 hu ho hi (m1_of hp hn hline)) fun σ H Q q => by
    obtain ⟨r, env, h, R, E, p⟩ := q
    refine ⟨r, env, h, R, E, p.bind.imp fun x h1 r1 H1 e1 R1 p1 u ru => ?_⟩
    split at p1
    · rename_i hz
      obtain ⟨a, rfl, hd⟩ := isDic_v R1 ru hz
      refine ⟨a, rfl, hd, r1, env, h1, R1, E.ext e1, p1.bind.bind.imp fun y h2 r2 H2 e2 R2 p2 v rv => ?_⟩
      have p3 := p2
      unfold gGet at p3
      simp only [mNil, Out.bind_ok] at p3
      replace p3 := p3.here R2
      split at p3
      · rename_i n _ y e
        cases e
        split at p3
        · rename_i k ek
          split at p3
          · rename_i kvs e
            have ru2 := ru.ext e2
            obtain ⟨b, q1, eb⟩ := ru2.ref_
            cases eb
            obtain ⟨vs, h1, h2⟩ := R2.dic q1 e
            refine ⟨_, by rw [keyOf_v rv ek]; exact DGet.k (k := k) h1, ?_⟩
            cases ez : getK kvs k with
            | none =>
              rw [ez] at p3
              rw [(h2.get k).2 ez]
              exact p3.here R2 _ .ofNon
            | some z =>
              rw [ez] at p3
              obtain ⟨w, e1, e2⟩ := (h2.get k).1 z ez
              rw [e1]
              exact p3.here R2 _ e2
          · exact p3.elim
        · exact p3.elim
      · rename_i e; cases e
      · exact p3.elim
    · exact p1.elim
theorem pe_get2M (hu : X.A.units + 1 < cLine) (ho : PE X o (rE X.K W mo)) (hi : PE X i (rE X.K W mi)) (hf : PE X f (rE X.K W mf)) (hp : plainX o = true) (hn : noStar i = true) (hn' : noStar f = true) (hline : (apos.endLine == cpos.line) = true) :
    PE X (.Call (.Attribute o "get" apos) [i, f] [] cpos) (rE X.K W (mMeth isDic gGet mo (mCons mi (mCons mf mNil)))) :=
  PE.imp (pe_dget2 hu ho hi hf (m2_of hp hn hn' hline)) fun σ H Q q => by
    obtain ⟨r, env, h, R, E, p⟩ := q
    refine ⟨r, env, h, R, E, p.bind.imp fun x h1 r1 H1 e1 R1 p1 u ru => ?_⟩
    split at p1
    · rename_i hz
      obtain ⟨a, rfl, hd⟩ := isDic_v R1 ru hz
      refine ⟨a, rfl, hd, r1, env, h1, R1, E.ext e1, p1.bind.bind.imp fun y h2 r2 H2 e2 R2 p2 v rv => ?_⟩
      refine ⟨r2, env, h2, R2, (E.ext e1).ext e2, p2.bind.bind.imp fun z h3 r3 H3 e3 R3 p3 w rw => ?_⟩
      unfold gGet at p3
      simp only [mNil, Out.bind_ok] at p3
      replace p3 := (p3.here R3).here R3
      have rv3 := rv.ext e3
      split at p3
      · rename_i e; cases e
      · rename_i n _ y z e
        cases e
        split at p3
        · rename_i k ek
          split at p3
          · rename_i kvs e
            have ru2 := ru.ext (e2.trans e3)
            obtain ⟨b, q1, eb⟩ := ru2.ref_
            cases eb
            obtain ⟨vs, h1, h2⟩ := R3.dic q1 e
            refine ⟨_, by rw [keyOf_v rv3 ek]; exact DGet.k (k := k) h1, ?_⟩
            cases ez : getK kvs k with
            | none =>
              rw [ez] at p3
              rw [(h2.get k).2 ez]
              exact p3.here R3 _ rw
            | some z =>
              rw [ez] at p3
              obtain ⟨w, e1, e2⟩ := (h2.get k).1 z ez
              rw [e1]
              exact p3.here R3 _ e2
          · exact p3.elim
        · exact p3.elim
      · exact p3.elim
    · exact p1.elim
/-- d.setdefault(k, x) -/
def gSetd : GM := fun x vs h => match x, vs with
  | .ref n, [y, z] => match keyOf y with
    | some k => match h[n]? with
      | some (.dic kvs) => match getK kvs k with
        | some v => if kvs.length < bigN then .ok v h else .bad
        | none => if decide (kvs.length < bigN) && nodupK kvs then .ok z (h.set n (.dic (setK kvs k z))) else .bad
      | _ => .bad
    | none => .bad
  | _, _ => .bad
theorem pe_setdM (ho : PE X o (rE X.K W mo)) (hi : PE X i (rE X.K W mi)) (hf : PE X f (rE X.K W mf)) (hp : plainX o = true) (hn : noStar i = true) (hn' : noStar f = true) (hline : (apos.endLine == cpos.line) = true) :
    PE X (.Call (.Attribute o "setdefault" apos) [i, f] [] cpos) (rE X.K W (mMeth isDic gSetd mo (mCons mi (mCons mf mNil)))) :=
  PE.imp (pe_dsetd ho hi hf (m2_of hp hn hn' hline)) fun σ H Q q => by
    obtain ⟨r, env, h, R, E, p⟩ := q
    refine ⟨r, env, h, R, E, p.bind.imp fun x h1 r1 H1 e1 R1 p1 u ru => ?_⟩
    split at p1
    · rename_i hz
      obtain ⟨a, rfl, hd⟩ := isDic_v R1 ru hz
      refine ⟨a, rfl, hd, r1, env, h1, R1, E.ext e1, p1.bind.bind.imp fun y h2 r2 H2 e2 R2 p2 v rv => ?_⟩
      refine ⟨r2, env, h2, R2, (E.ext e1).ext e2, p2.bind.bind.imp fun z h3 r3 H3 e3 R3 p3 w rw => ?_⟩
      unfold gSetd at p3
      simp only [mNil, Out.bind_ok] at p3
      replace p3 := (p3.here R3).here R3
      have rv3 := rv.ext e3
      split at p3
      · rename_i n _ y z e
        cases e
        split at p3
        · rename_i k ek
          split at p3
          · rename_i kvs e
            have ru2 := ru.ext (e2.trans e3)
            obtain ⟨b, q1, eb⟩ := ru2.ref_
            cases eb
            obtain ⟨vs, h1, h2⟩ := R3.dic q1 e
            split at p3
            · rename_i z' ez
              split at p3
              · rename_i hz
                refine ⟨vs, k, h1, keyOf_v rv3 ek, by rw [h2.length]; exact Nat.lt_of_lt_of_le hz big_line, fun v' ev => ?_, fun ev => ?_⟩
                · obtain ⟨w', e1, e2⟩ := (h2.get k).1 z' ez
                  rw [e1] at ev
                  cases ev
                  exact p3.here R3 _ e2
                · obtain ⟨w', e1, e2⟩ := (h2.get k).1 z' ez
                  rw [e1] at ev
                  cases ev
              · exact p3.elim
            · rename_i ez
              split at p3
              · rename_i hz
                simp only [Bool.and_eq_true, decide_eq_true_eq] at hz
                refine ⟨vs, k, h1, keyOf_v rv3 ek, by rw [h2.length]; exact Nat.lt_of_lt_of_le hz.1 big_line, fun v' ev => ?_, fun ev => ?_⟩
                · rw [(h2.get k).2 ez] at ev; cases ev
                · obtain ⟨x1, x2⟩ := ext_putD R3 q1 e (RF.put (k := k) rw h2 (of_decide_eq_true hz.2))
                  exact p3 r3 _ x1 x2 _ (rw.ext x1)
              · exact p3.elim
          · exact p3.elim
        · exact p3.elim
      · exact p3.elim
    · exact p1.elim
end
end Mi

/-! A6: what stands for what, with more of ours or beside a change; and, or, not, choices, chains, fields, calls. -/
namespace Mi
open PySem PySem.Spec L2

/-- a weaker word than Ext: enough for values and objects -/
structure Wk (K : Fg) (r r' : List Addr) (H H' : Hp) : Prop where
  pre : ∃ t, r' = r ++ t
  tq : ∀ a vs, SqT K H a vs → SqT K H' a vs
  fq : ∀ a vs, SqF K H a vs → SqF K H' a vs
  xq : ∀ a q, a ∉ r → H a = some (.xd q) → H' a = some (.xd q) ∧ a ∉ r'
theorem Wk.get {K : Fg} {r r' : List Addr} {H H' : Hp} (x : Wk K r r' H H') {n : Nat} {a : Addr} (h : r[n]? = some a) : r'[n]? = some a := by
  obtain ⟨t, e⟩ := x.pre
  rw [e, List.getElem?_append_left (List.getElem?_eq_some_iff.mp h).1]
  exact h
mutual
theorem RV.wk {K : Fg} {r r' : List Addr} {H H' : Hp} (x : Wk K r r' H H') : ∀ {v : Vl} {u : V}, RV K r H v u → RV K r' H' v u
  | .non, _, h => by simpa only [RV] using h
  | .bl _, _, h => by simpa only [RV] using h
  | .int _, _, h => by simpa only [RV] using h
  | .str _, _, h => by simpa only [RV] using h
  | .ref n, _, h => by
    simp only [RV] at h ⊢
    obtain ⟨a, h1, h2⟩ := h
    exact ⟨a, x.get h1, h2⟩
  | .tup xs, _, h => by
    simp only [RV] at h ⊢
    obtain ⟨a, vs, h1, h2, h3⟩ := h
    exact ⟨a, vs, h1, x.tq _ _ h2, RVs.wk x h3⟩
  | .kl ns, _, h => by
    simp only [RV] at h ⊢
    obtain ⟨a, h1, h2⟩ := h
    exact ⟨a, h1, x.fq _ _ h2⟩
theorem RVs.wk {K : Fg} {r r' : List Addr} {H H' : Hp} (x : Wk K r r' H H') : ∀ {vs : List Vl} {us : List V}, RVs K r H vs us → RVs K r' H' vs us
  | [], _, h => by simpa only [RVs] using h
  | v :: vs, _, h => by
    simp only [RVs] at h ⊢
    obtain ⟨u, t, h1, h2, h3⟩ := h
    exact ⟨u, t, h1, RV.wk x h2, RVs.wk x h3⟩
end
theorem RF.wk {κ : Type} {K : Fg} {r r' : List Addr} {H H' : Hp} (x : Wk K r r' H H') : ∀ {vs : List (κ × Vl)} {us : List (κ × V)}, RF K r H vs us → RF K r' H' vs us
  | [], _, h => by simpa only [RF] using h
  | v :: vs, _, h => by
    simp only [RF] at h ⊢
    obtain ⟨u, t, h1, h2, h3⟩ := h
    exact ⟨u, t, h1, h2.wk x, RF.wk x h3⟩
theorem RN.wk {K : Fg} {r r' : List Addr} {H H' : Hp} (x : Wk K r r' H H') : ∀ {vs : List (Nat × Vl)} {us : List (Str × V)}, RN K r H vs us → RN K r' H' vs us
  | [], _, h => by simpa only [RN] using h
  | v :: vs, _, h => by
    simp only [RN] at h ⊢
    obtain ⟨u, t, h1, h2, h3⟩ := h
    exact ⟨u, t, h1, h2.wk x, RN.wk x h3⟩
theorem RO.wk {K : Fg} {r r' : List Addr} {H H' : Hp} {o : Ob} {a : Addr} (x : Wk K r r' H H') (e : isScr o = false → H' a = H a) (q : RO K r H o a) : RO K r' H' o a := by
  cases o with
  | lst xs => obtain ⟨vs, h1, h2⟩ := q; exact ⟨vs, (e rfl).trans h1, h2.wk x⟩
  | scr xs => exact q.elim
  | dic kvs => obtain ⟨vs, h1, h2⟩ := q; exact ⟨vs, (e rfl).trans h1, h2.wk x⟩
  | ins c fs => obtain ⟨dx, vs, h1, h2⟩ := q; exact ⟨dx, vs, (e rfl).trans h1, h2.wk x⟩
  | exc c fs =>
    obtain ⟨d, vs, h1, h2, h3⟩ := q
    refine ⟨d, vs, (e rfl).trans h1, ?_, h3.wk x⟩
    rcases h2 with h2 | ⟨dx, h2, h4, h5⟩
    · exact .inl h2
    · obtain ⟨z1, z2⟩ := x.xq _ _ h5 h4
      exact .inr ⟨dx, h2, z1, z2⟩
/-- a list of nobody's changes -/
theorem wk_side {K : Fg} {r : List Addr} {H : Hp} {D : Addr} {us ws : List V} (hd : H D = some (.lst us)) : Wk K r r H (upd H D (.lst ws)) := by
  refine ⟨⟨[], by simp⟩, fun a vs h => ?_, fun a vs h => ?_, fun a q n h => ?_⟩
  · rcases h with (h | ⟨o, h⟩) | h
    · exact .inl (.inl (by rw [upd_ne (fun e => by rw [e, hd] at h; cases h)]; exact h))
    · exact .inl (.inr ⟨o, by rw [upd_ne (fun e => by rw [e, hd] at h; cases h)]; exact h⟩)
    · exact .inr h
  · rcases h with ⟨o, h⟩ | h
    · exact .inl ⟨o, by rw [upd_ne (fun e => by rw [e, hd] at h; cases h)]; exact h⟩
    · exact .inr h
  · exact ⟨by rw [upd_ne (fun e => by rw [e, hd] at h; cases h)]; exact h, n⟩
theorem RH.side {K : Fg} {r : List Addr} {H : Hp} {h : Hs} {D : Addr} {us ws : List V} (R : RH K r h H) (hd : H D = some (.lst us)) (hn : D ∉ r) : RH K r h (upd H D (.lst ws)) :=
  ⟨R.len, R.nd, fun i o a h1 h2 => (R.ob i o a h1 h2).wk (wk_side hd) fun _ => upd_ne (fun e => hn (by rw [← e]; exact List.mem_of_getElem? h2))⟩
/-- a list of nobody's becomes one of ours -/
theorem wk_adopt {K : Fg} {r : List Addr} {H : Hp} {D : Addr} {us : List V} (hd : H D = some (.lst us)) : Wk K r (r ++ [D]) H H :=
  ⟨⟨[D], rfl⟩, fun _ _ h => h, fun _ _ h => h, fun a q n h => ⟨h, fun m => by
    rcases List.mem_append.mp m with m | m
    · exact n m
    · rw [List.mem_singleton.mp m, hd] at h; cases h⟩⟩
theorem RH.adopt {K : Fg} {r : List Addr} {H : Hp} {h : Hs} {D : Addr} {us : List V} {xs : List Vl} (R : RH K r h H) (hd : H D = some (.lst us)) (hn : D ∉ r) (q : RVs K r H xs us) : RH K (r ++ [D]) (h ++ [.lst xs]) H := by
  have cut : ∀ {i : Nat} {o' : Ob}, (h ++ [Ob.lst xs])[i]? = some o' → (i < h.length ∧ h[i]? = some o') ∨ (i = h.length ∧ o' = .lst xs) := fun {i o'} e => by
    by_cases hi : i < h.length
    · rw [List.getElem?_append_left hi] at e; exact .inl ⟨hi, e⟩
    · have e' := (List.getElem?_eq_some_iff.mp e).1
      simp at e'
      have : i = h.length := by omega
      subst this
      simp at e
      exact .inr ⟨rfl, e.symm⟩
  have at1 : ∀ {i : Nat} {a : Addr}, i < h.length → (r ++ [D])[i]? = some a → r[i]? = some a := fun {i a} hi e => by
    rw [List.getElem?_append_left (by rw [R.len]; exact hi)] at e; exact e
  have at2 : ∀ {a : Addr}, (r ++ [D])[h.length]? = some a → a = D := fun {a} e => by
    rw [← R.len] at e; simp at e; exact e.symm
  refine ⟨by simp [R.len], fun i j o1 o2 a h1 h2 s1 s2 h3 h4 => ?_, fun i o1 a h1 h2 => ?_⟩
  · rcases cut h1 with ⟨i1, h1⟩ | ⟨i1, h1⟩
    · rcases cut h2 with ⟨j1, h2⟩ | ⟨j1, h2⟩
      · exact R.nd i j o1 o2 a h1 h2 s1 s2 (at1 i1 h3) (at1 j1 h4)
      · subst j1
        exact absurd (List.mem_of_getElem? (at1 i1 h3)) (by rw [at2 h4]; exact hn)
    · rcases cut h2 with ⟨j1, h2⟩ | ⟨j1, h2⟩
      · subst i1
        exact absurd (List.mem_of_getElem? (at1 j1 h4)) (by rw [at2 h3]; exact hn)
      · omega
  · rcases cut h1 with ⟨i1, z1⟩ | ⟨i1, z1⟩
    · exact (R.ob i o1 a z1 (at1 i1 h2)).wk (wk_adopt hd) fun _ => rfl
    · subst i1 z1
      rw [at2 h2]; exact ⟨us, hd, q.wk (wk_adopt hd)⟩
/-- from ahead of a new list to behind its changes -/
theorem Ext.side {r r' : List Addr} {H H' : Hp} {D : Addr} {ws : List V} (x : Ext r r' H H') (hn : H D = none) : Ext r r' H (upd H' D (.lst ws)) := by
  have ne : ∀ {b : Addr} {o : HO}, H b = some o → b ≠ D := fun {b o} e z => by rw [z, hn] at e; cases e
  refine ⟨x.pre, fun b hb => ?_, fun b o n e => ?_, fun b xs e => ?_, fun b o u e => ?_⟩
  · by_cases e : b = D
    · rw [e]; exact hn
    · rw [upd_ne e] at hb; exact x.dm b hb
  · rw [upd_ne (ne e)]; exact x.fr b o n e
  · rw [upd_ne (ne e)]; exact x.tp b xs e
  · rw [upd_ne (ne e)]; exact x.fz b o u e
theorem Ext.adopt {r r' : List Addr} {H H' : Hp} {D : Addr} (x : Ext r r' H H') (hn : H D = none) : Ext r (r' ++ [D]) H H' := by
  obtain ⟨t, e, n⟩ := x.pre
  refine ⟨⟨t ++ [D], by rw [e, List.append_assoc], fun a ha => ?_⟩, x.dm, x.fr, x.tp, x.fz⟩
  rcases List.mem_append.mp ha with m | m
  · exact n a m
  · rw [List.mem_singleton.mp m]; exact hn
/-- a list of nobody's stays so -/
theorem Ext.off {r r' : List Addr} {H H' : Hp} {D : Addr} {o : HO} (x : Ext r r' H H') (hd : H D = some o) (hn : D ∉ r) : H' D = some o ∧ D ∉ r' := by
  refine ⟨x.fr _ _ hn hd, fun m => ?_⟩
  obtain ⟨t, e, n⟩ := x.pre
  rw [e] at m
  rcases List.mem_append.mp m with m | m
  · exact hn m
  · rw [n _ m] at hd; cases hd

/-! ### and, or, not, choices -/
def mAnd (a b : ME) : ME := fun env h => (a env h).bind fun v h1 => match v with
  | .bl true => b env h1
  | .bl false => .ok (.bl false) h1
  | _ => .bad
def mOr (a b : ME) : ME := fun env h => (a env h).bind fun v h1 => match v with
  | .bl true => .ok (.bl true) h1
  | .bl false => b env h1
  | _ => .bad
def mNot (a : ME) : ME := fun env h => (a env h).bind fun v h1 => match v with
  | .bl b => .ok (.bl (!b)) h1
  | _ => .bad
def mIte (c a b : ME) : ME := fun env h => (mTest c env h).bind fun k h1 => if k = true then a env h1 else b env h1
def mTAnd (a b : MT) : MT := fun env h => (a env h).bind fun k h1 => if k = true then b env h1 else .ok false h1
def mTOr (a b : MT) : MT := fun env h => (a env h).bind fun k h1 => if k = true then .ok true h1 else b env h1
def mTNot (a : MT) : MT := fun env h => (a env h).bind fun k h1 => .ok (!k) h1
theorem Out.bind_assoc {α β γ : Type} (x : Out α) (f : α → Hs → Out β) (g : β → Hs → Out γ) : (x.bind f).bind g = x.bind fun a h => (f a h).bind g := by cases x <;> rfl
theorem test_and (a b : ME) : mTest (mAnd a b) = mTAnd (mTest a) (mTest b) := by
  funext env h
  show ((a env h).bind _).bind _ = ((a env h).bind _).bind _
  rw [Out.bind_assoc, Out.bind_assoc]
  cases a env h with
  | ok v h1 =>
    cases v with
    | bl c => cases c <;> rfl
    | _ => rfl
  | _ => rfl
theorem test_or (a b : ME) : mTest (mOr a b) = mTOr (mTest a) (mTest b) := by
  funext env h
  show ((a env h).bind _).bind _ = ((a env h).bind _).bind _
  rw [Out.bind_assoc, Out.bind_assoc]
  cases a env h with
  | ok v h1 =>
    cases v with
    | bl c => cases c <;> rfl
    | _ => rfl
  | _ => rfl
theorem test_not (a : ME) : mTest (mNot a) = mTNot (mTest a) := by
  funext env h
  show ((a env h).bind _).bind _ = ((a env h).bind _).bind _
  rw [Out.bind_assoc, Out.bind_assoc]
  cases a env h with
  | ok v h1 =>
    cases v with
    | bl c => cases c <;> rfl
    | _ => rfl
  | _ => rfl
theorem RV.bl_v {K : Fg} {r : List Addr} {H : Hp} {b : Bool} {u : V} (q : RV K r H (.bl b) u) : u = .bl b := q.bl_
section
variable {X : Cx} {W : WX} {a b c : Expr} {rest : List Expr} {pos : Pos} {ma mb mc : ME}
theorem pe_andM (ha : PE X a (rE X.K W ma)) (hb : PE X (.BoolOp .And (b :: rest) pos) (rE X.K W mb)) : PE X (.BoolOp .And (a :: b :: rest) pos) (rE X.K W (mAnd ma mb)) :=
  PE.imp (pe_and ha hb) fun σ H Q q => by
    obtain ⟨r, env, h, R, E, p⟩ := q
    refine ⟨r, env, h, R, E, p.bind.imp fun x h1 r1 H1 e1 R1 p1 u ru => ?_⟩
    cases x with
    | bl k =>
      cases k with
      | true => exact ⟨true, ru.bl_v, r1, env, h1, R1, E.ext e1, p1⟩
      | false => exact ⟨false, ru.bl_v, p1.here R1 _ (.ofBl _)⟩
    | _ => exact p1.elim
theorem pe_orM (ha : PE X a (rE X.K W ma)) (hb : PE X (.BoolOp .Or (b :: rest) pos) (rE X.K W mb)) : PE X (.BoolOp .Or (a :: b :: rest) pos) (rE X.K W (mOr ma mb)) :=
  PE.imp (pe_or ha hb) fun σ H Q q => by
    obtain ⟨r, env, h, R, E, p⟩ := q
    refine ⟨r, env, h, R, E, p.bind.imp fun x h1 r1 H1 e1 R1 p1 u ru => ?_⟩
    cases x with
    | bl k =>
      cases k with
      | false => exact ⟨false, ru.bl_v, r1, env, h1, R1, E.ext e1, p1⟩
      | true => exact ⟨true, ru.bl_v, p1.here R1 _ (.ofBl _)⟩
    | _ => exact p1.elim
theorem pe_notM (ha : PE X a (rE X.K W ma)) : PE X (.UnaryOp .Not a pos) (rE X.K W (mNot ma)) :=
  PE.imp (pe_not ha) fun σ H Q q => by
    obtain ⟨r, env, h, R, E, p⟩ := q
    refine ⟨r, env, h, R, E, p.bind.imp fun x h1 r1 H1 e1 R1 p1 u ru => ?_⟩
    cases x with
    | bl k => exact ⟨k, ru.bl_v, p1.here R1 _ (.ofBl _)⟩
    | _ => exact p1.elim
theorem rT_and {K : Fg} {ma mb : MT} {σ : L2.St} {H : Hp} {Q : Bool → Hp → Prop} (q : rT K W (mTAnd ma mb) σ H Q) : tAnd (rT K W ma) (rT K W mb) σ H Q := by
  obtain ⟨r, env, h, R, E, p⟩ := q
  refine ⟨r, env, h, R, E, p.bind.imp fun x h1 r1 H1 e1 R1 p1 => ?_⟩
  cases x with
  | true => exact ⟨r1, env, h1, R1, E.ext e1, p1⟩
  | false => exact p1.here R1
theorem rT_or {K : Fg} {ma mb : MT} {σ : L2.St} {H : Hp} {Q : Bool → Hp → Prop} (q : rT K W (mTOr ma mb) σ H Q) : tOr (rT K W ma) (rT K W mb) σ H Q := by
  obtain ⟨r, env, h, R, E, p⟩ := q
  refine ⟨r, env, h, R, E, p.bind.imp fun x h1 r1 H1 e1 R1 p1 => ?_⟩
  cases x with
  | false => exact ⟨r1, env, h1, R1, E.ext e1, p1⟩
  | true => exact p1.here R1
theorem pt_notM (ha : PT X a (rT X.K W (mTest ma))) : PT X (.UnaryOp .Not a pos) (rT X.K W (mTest (mNot ma))) :=
  PT.imp (pt_not ha) fun σ H Q q => by
    rw [test_not] at q
    obtain ⟨r, env, h, R, E, p⟩ := q
    exact ⟨r, env, h, R, E, p.bind.imp fun x h1 r1 H1 e1 R1 p1 => p1.here R1⟩
theorem PW.imp {X : Cx} {e : Expr} {t t' : TT} (h : PW X e t) (k : ∀ σ H Q, t' σ H Q → t σ H Q) : PW X e t' := ⟨fun wh pins s σ H Q I q => h.run wh pins s σ H Q I (k σ H Q q)⟩
theorem pw_andM (ha : PT X a (rT X.K W (mTest ma))) (hb : PW X (.BoolOp .And (b :: rest) pos) (rT X.K W (mTest mb))) : PW X (.BoolOp .And (a :: b :: rest) pos) (rT X.K W (mTest (mAnd ma mb))) :=
  PW.imp (pw_and ha hb) fun σ H Q q => by rw [test_and] at q; exact rT_and q
theorem pw_orM (ha : PT X a (rT X.K W (mTest ma))) (hb : PW X (.BoolOp .Or (b :: rest) pos) (rT X.K W (mTest mb))) : PW X (.BoolOp .Or (a :: b :: rest) pos) (rT X.K W (mTest (mOr ma mb))) :=
  PW.imp (pw_or ha hb) fun σ H Q q => by rw [test_or] at q; exact rT_or q
theorem pe_iteM (hc : PT X c (rT X.K W (mTest mc))) (ha : PE X a (rE X.K W ma)) (hb : PE X b (rE X.K W mb)) : PE X (.IfExp c a b pos) (rE X.K W (mIte mc ma mb)) :=
  PE.imp (pe_ifExp hc ha hb) fun σ H Q q => by
    obtain ⟨r, env, h, R, E, p⟩ := q
    refine ⟨r, env, h, R, E, p.bind.imp fun x h1 r1 H1 e1 R1 p1 => ?_⟩
    cases x with
    | true => exact ⟨r1, env, h1, R1, E.ext e1, p1⟩
    | false => exact ⟨r1, env, h1, R1, E.ext e1, p1⟩
theorem pt_valM {m : ME} (h : PE X a (rE X.K W m)) (hn : noTest a = true) : PT X a (rT X.K W (mTest m)) :=
  PT.imp (pt_val h (test_plain hn)) fun σ H Q q => rT_test q
def mChain (g g' : G2) (a b c : ME) : ME := fun env h => (a env h).bind fun x h1 => (b env h1).bind fun y h2 => (g x y h2).bind fun z h3 => match z with
  | .bl true => (c env h3).bind fun w h4 => g' y w h4
  | .bl false => .ok (.bl false) h3
  | _ => .bad
theorem rE_chain {K : Fg} {g g' : G2} {t t' : R2} (k : Keeps2 K g t) (k' : Keeps2 K g' t') {σ : L2.St} {H : Hp} {Q : VK} (q : rE K W (mChain g g' ma mb mc) σ H Q) : tChain t t' (rE K W ma) (rE K W mb) (rE K W mc) σ H Q := by
  obtain ⟨r, env, h, R, E, p⟩ := q
  refine ⟨r, env, h, R, E, p.bind.imp fun x h1 r1 H1 e1 R1 p1 u ru => ?_⟩
  refine ⟨r1, env, h1, R1, E.ext e1, p1.bind.imp fun y h2 r2 H2 e2 R2 p2 v rv => ?_⟩
  refine k r2 h2 H2 W σ x y u v _ R2 (ru.ext e2) rv (p2.bind.imp fun z h3 r3 H3 e3 R3 p3 w rw => ?_)
  cases z with
  | bl b =>
    cases b with
    | false => exact ⟨false, rw.bl_v, p3.here R3 _ (.ofBl _)⟩
    | true => exact ⟨true, rw.bl_v, r3, env, h3, R3, (((E.ext e1).ext e2).ext e3), p3.bind.imp fun w' h4 r4 H4 e4 R4 p4 v4 rv4 => k' r4 h4 H4 W σ y w' v v4 Q R4 ((rv.ext e3).ext e4) rv4 p4⟩
  | _ => exact p3.elim
theorem last_plain {op op' : CmpOp} (h2 : noStar c = true) : lastMarks [op, op'] [b, c] = false :=
  (show lastMarks [op, op'] [b, c] = behindInMarks op' c by with_unfolding_all rfl).trans (marks_plain h2)
theorem pe_chainM {op op' : CmpOp} {g g' : G2} {t t' : R2} (ho : OpR X (compareOp op) t) (ho' : OpR X (compareOp op') t') (k : Keeps2 X.K g t) (k' : Keeps2 X.K g' t') (ha : PE X a (rE X.K W ma)) (hb : PE X b (rE X.K W mb)) (hc : PE X c (rE X.K W mc)) (nc : noStar c = true) :
    PE X (.Compare a [op, op'] [b, c] pos) (rE X.K W (mChain g g' ma mb mc)) := PE.imp (pe_chain ho ho' ha hb hc (last_plain nc)) fun _ _ _ q => rE_chain k k' q
theorem pt_chainM {op op' : CmpOp} {g g' : G2} {t t' : R2} (ho : OpR X (compareOp op) t) (ho' : OpR X (compareOp op') t') (k : Keeps2 X.K g t) (k' : Keeps2 X.K g' t') (ha : PE X a (rE X.K W ma)) (hb : PE X b (rE X.K W mb)) (hc : PE X c (rE X.K W mc)) (nc : noStar c = true) :
    PT X (.Compare a [op, op'] [b, c] pos) (rT X.K W (mTest (mChain g g' ma mb mc))) := PT.imp (pt_chain ho ho' ha hb hc (last_plain nc)) fun _ _ _ q => rE_chain k k' (rT_test q)
end

/-! ### fields -/
def getN (fs : List (Nat × Vl)) (f : Nat) : Option Vl := match fs with
  | [] => none
  | p :: r => if p.1 = f then some p.2 else getN r f
def setN (fs : List (Nat × Vl)) (f : Nat) (v : Vl) : List (Nat × Vl) := match fs with
  | [] => [(f, v)]
  | p :: r => if p.1 = f then (f, v) :: r else p :: setN r f v
section
variable {K : Fg} {r : List Addr} {H : Hp}
theorem RN.get {f : Nat} : ∀ {xs : List (Nat × Vl)} {vs : List (Str × V)} {v : Vl}, RN K r H xs vs → getN xs f = some v → ∃ u, vs.lookup (nm f) = some u ∧ RV K r H v u
  | [], _, _, q, e => by cases e
  | p :: ps, _, v, q, e => by
    simp only [RN] at q
    obtain ⟨u, t, rfl, h1, h2⟩ := q
    unfold getN at e
    split at e
    · rename_i z
      cases e
      refine ⟨u, ?_, h1⟩
      rw [z, List.lookup_cons, beq_self_eq_true]
    · rename_i z
      obtain ⟨w, e1, e2⟩ := RN.get h2 e
      refine ⟨w, ?_, e2⟩
      rw [List.lookup_cons, beq_false_of_ne (fun z' => z (nm_inj z').symm)]
      exact e1
theorem RN.none {m : Str} : ∀ {xs : List (Nat × Vl)} {vs : List (Str × V)}, RN K r H xs vs → (∀ f, f ∈ xs.map (·.1) → nm f ≠ m) → vs.lookup m = none
  | [], _, q, _ => by simp only [RN] at q; subst q; rfl
  | p :: ps, _, q, n => by
    simp only [RN] at q
    obtain ⟨u, t, rfl, h1, h2⟩ := q
    rw [List.lookup_cons, beq_false_of_ne (fun z => n p.1 (by simp) z.symm)]
    exact RN.none h2 fun f hf => n f (by rw [List.map_cons]; exact List.mem_cons_of_mem _ hf)
theorem RN.len : ∀ {xs : List (Nat × Vl)} {vs : List (Str × V)}, RN K r H xs vs → vs.length = xs.length
  | [], _, q => by simp only [RN] at q; subst q; rfl
  | p :: ps, _, q => by
    simp only [RN] at q
    obtain ⟨u, t, rfl, h1, h2⟩ := q
    simp [RN.len h2]
theorem putF_eq {f : Str} {v w : V} {rest : List (Str × V)} : putF f v ((f, w) :: rest) = (f, v) :: rest := by
  unfold putF; simp
theorem putF_ne {f g : Str} {v w : V} {rest : List (Str × V)} (h : g ≠ f) : putF f v ((g, w) :: rest) = (g, w) :: putF f v rest := by
  rw [putF]; simp [h]
theorem RN.put {f : Nat} {v : Vl} {u : V} (rv : RV K r H v u) : ∀ {xs : List (Nat × Vl)} {vs : List (Str × V)}, RN K r H xs vs → RN K r H (setN xs f v) (putF (nm f) u vs)
  | [], _, q => by
    simp only [RN] at q; subst q
    show RN K r H [(f, v)] [(nm f, u)]
    simp only [RN]
    exact ⟨u, [], rfl, rv, rfl⟩
  | p :: ps, _, q => by
    simp only [RN] at q
    obtain ⟨w, t, rfl, h1, h2⟩ := q
    by_cases z : p.1 = f
    · have e1 : setN (p :: ps) f v = (f, v) :: ps := if_pos z
      rw [e1, z, putF_eq]
      simp only [RN]
      exact ⟨u, t, rfl, rv, h2⟩
    · have e1 : setN (p :: ps) f v = p :: setN ps f v := if_neg z
      rw [e1, putF_ne (fun z' => z (nm_inj z'))]
      simp only [RN]
      exact ⟨w, _, rfl, h1, RN.put rv h2⟩
end
/-- the classes and fields that the program has -/
abbrev Flds := Nat → Nat → Bool
def mFld (ok : Flds) (m : ME) (f : Nat) : ME := fun env h => (m env h).bind fun x h1 => match x with
  | .ref n => match h1[n]? with
    | some (.ins c fs) => if ok c f = true then match getN fs f with
        | some v => .ok v h1
        | none => .bad
      else .bad
    | _ => .bad
  | _ => .bad
def FldOk (K : Fg) (ok : Flds) : Prop := ∀ c f, ok c f = true → Cls K (He.ga K (nm c)) ∧ NoAttr K (He.ga K (nm c)) (nm f)
section
variable {X : Cx} {W : WX} {e o value : Expr} {pos pos' tpos : Pos} {m mo mv : ME} {ok : Flds}
theorem pe_fldM {f : Nat} {x : Str} (F : FldOk X.K ok) (hx : x = nm f) (he : PE X e (rE X.K W m)) (hp : plainX e = true) : PE X (.Attribute e x pos) (rE X.K W (mFld ok m f)) := by
  subst hx
  refine PE.imp (pe_fld he (base_plain hp)) fun σ H Q q => ?_
  obtain ⟨r, env, h, R, E, p⟩ := q
  refine ⟨r, env, h, R, E, p.bind.imp fun x h1 r1 H1 e1 R1 p1 u ru => ?_⟩
  split at p1
  · split at p1
    · split at p1
      · split at p1
        · rename_i n _ c fs eo hk _ v ev
          obtain ⟨a, q1, rfl⟩ := ru.ref_
          obtain ⟨dx, vs, h3, h4⟩ := R1.ins q1 eo
          obtain ⟨w, e3, e4⟩ := h4.get ev
          obtain ⟨k1, k2⟩ := F c f hk
          exact ⟨a, _, dx, vs, w, rfl, h3, k1, k2, e3, p1.here R1 _ e4⟩
        · exact p1.elim
      · exact p1.elim
    · exact p1.elim
  · exact p1.elim
end
end Mi

/-! A7: calls of the program's own functions, methods and classes. -/
namespace Mi
open PySem PySem.Spec L2

/-- a function of the program: what it makes of arguments and heap -/
abbrev Fun1 := List Vl → Hs → Out Vl
abbrev Clr := Nat → Fun1
/-- its promise -/
def spOf (K : Fg) (g : Fun1) (np : Nat) : Sp := fun vs H Q E => vs.length = np ∧ ∃ r h xs, RH K r h H ∧ RVs K r H xs vs ∧ Pst K r H (fun cls d _ H' => E cls d H') [] (fun z _ r' H' => ∀ w, RV K r' H' z w → Q w H') (g xs h)
theorem Pst.nost {α : Type} {K : Fg} {r : List Addr} {H : Hp} {W : WX} {σ τ : L2.St} {P : α → Hs → List Addr → Hp → Prop} {x : Out α} (p : Pst K r H W σ P x) : Pst K r H (fun cls d _ H' => W cls d σ H') τ P x := by
  cases x with
  | ok a h => exact p
  | ex c fs h => exact p
  | bad => exact p
section
variable {X : Cx} {W : WX} {L : Nat} {f C : Addr} {fd : FuncData} {ps : List Str} {sp : Sp} {dvs : List V} {ds : List Value}
/-- a function of the program is run -/
theorem go_fn {pins : List (Addr × Obj)} {σ : L2.St} {H : Hp} {s : Shared} {Q : VK} {us : List Value} {vs : List V} (F : FnOk X.prog X.w X.K X.mg X.base (L2.CX X.prog X.w) L f fd ps sp)
    (room : Room L X.A) (bi : Binds X.K fd ps ds) (rd : Vals dvs ds) (tk : Takes X W) (J : Inv X pins σ H s) (rv : Vals vs us) (q : sp (vs ++ dvs) H Q (WE W σ)) :
    wpAny (model X.prog X.w) X.A (call (.ref f) us) (EP X pins σ Q) X.xe s := by
  have both : Vals (vs ++ dvs) (us ++ ds) := Vals.append rv rd
  have long : (us ++ ds).length = ps.length := both.length.symm.trans (F.len _ _ _ _ q)
  have run := F.run X.A X.stack s H ⟨us, []⟩ (us ++ ds) (vs ++ dvs) Q (WE W σ) room J.env0 (bi s us J.kIn long) both q
  refine wpAny_call (codeAny_mono run ?_)
  intro res s2 e2
  match res, e2 with
  | .error x, e2 => exact passAt tk σ pins H s x s2 J e2
  | .ok (.ret u), e2 => exact J.after e2
theorem go_make {pins : List (Addr × Obj)} {σ : L2.St} {H : Hp} {s : Shared} {Q : VK} {us : List Value} {vs : List V} (M : Mk X.K C f) (F : FnOk X.prog X.w X.K X.mg X.base (L2.CX X.prog X.w) L f fd ps sp)
    (room : Room (L + 1) X.A) (bi : Binds X.K fd ps []) (tk : Takes X W) (J : Inv X pins σ H s) (rv : Vals vs us)
    (q : ∀ x dx, H x = none → H dx = none → dx ≠ x → sp (.ref x :: vs) (upd (upd H dx (.own x)) x (.ins C dx [])) (fun v H2 => v = .non ∧ Q (.ref x) H2) (WE W σ)) :
    wpAny (model X.prog X.w) X.A (call (.ref C) us) (EP X pins σ Q) X.xe s := by
  let n := s.heap.objs.size
  have q1 := q (n + 1) n (J.hok.fresh (Nat.le_succ n)) (J.hok.fresh (Nat.le_refl n)) (Nat.ne_of_lt (Nat.lt_succ_self n))
  have J2 := Inv.made (C := C) J
  have both : Vals (V.ref (n + 1) :: vs) (Value.ref (n + 1) :: us) := .cons rfl rv
  have long : (Value.ref (n + 1) :: us ++ []).length = ps.length := by
    rw [List.append_nil, ← both.length]; exact F.len _ _ _ _ q1
  have bd := bi _ (Value.ref (n + 1) :: us) J2.kIn long
  rw [List.append_nil] at bd
  have run := F.run _ X.stack _ _ ⟨Value.ref (n + 1) :: us, []⟩ (Value.ref (n + 1) :: us) _ _ (WE W σ) (room.make C us []) (J2.env0.make C us []) bd both q1
  refine wpAny_call (make_map (f := f) J.kIn M.makes M.init (beq_iff_eq.mp M.fn) (codeAny_mono run ?_))
  intro res s2 e2
  match res, e2 with
  | .error x, e2 => exact passAt tk σ pins _ _ x s2 J2 e2
  | .ok (.ret u), e2 =>
    obtain ⟨v, H2, J3, rz, rfl, q3⟩ := J2.after e2
    exact ⟨rz, V.ref (n + 1), H2, J3, rfl, q3⟩
end

/-- what is known of a function: its place, data and parameters -/
structure FnAt (K : Fg) (f : Addr) (fd : FuncData) (ps : List Str) (np : Nat) (dfl : Option Vl) : Prop where
  kp : PySem.W.keepIn K (.ref f) = true
  np : ps.length = np
  bi : Binds K fd ps []
  df : ∀ v, dfl = some v → ∃ (u : V) (w : Value), RelV u w ∧ (∀ r H, RV K r H v u) ∧ Binds K fd ps [w]
/-- functions by number: parameters, a last default -/
abbrev Sig := Nat → Option (Nat × Option Vl)
def CallsOk (P : Program) (w : World) (K : Fg) (mg : Str → Option Value) (base : Heap) (L : Nat) (sig : Sig) (fA : Nat → Addr) (C : Clr) : Prop :=
  ∀ f np dfl, sig f = some (np, dfl) → ∃ fd ps, FnOk P w K mg base (L2.CX P w) L (fA f) fd ps (spOf K (C f) np) ∧ FnAt K (fA f) fd ps np dfl ∧ ∀ xs h, xs.length ≠ np → C f xs h = .bad
def mCallF (C : Clr) (f : Nat) (ms : MA) : ME := fun env h => (ms env h).bind fun vs h1 => C f vs h1
/-- .. the last parameter by its default -/
def mCallD (C : Clr) (f : Nat) (v : Vl) (ms : MA) : ME := fun env h => (ms env h).bind fun vs h1 => C f (vs ++ [v]) h1
def fin0 (n : Nat) : Out Vl → Out Vl
  | .ok .non h => .ok (.ref n) h
  | .ok _ _ => .bad
  | .ex c fs h => .ex c fs h
  | .bad => .bad
def mMake (C : Clr) (c f : Nat) (ms : MA) : ME := fun env h => (ms env h).bind fun vs h1 => fin0 h1.length (C f (.ref h1.length :: vs) (h1 ++ [.ins c []]))
abbrev Mts := Nat → Nat → Option Nat
def gMethF (C : Clr) (mt : Mts) (m : Nat) (ms : MA) (env : Ev) (x : Vl) (h1 : Hs) : Out Vl := match x with
  | .ref n => match h1[n]? with
    | some (.ins c fs) => match mt c m with
      | some f => if (getN fs m).isSome = true then .bad else (ms env h1).bind fun vs h2 => C f (x :: vs) h2
      | none => .bad
    | _ => .bad
  | _ => .bad
def mMethF (C : Clr) (mt : Mts) (m : Nat) (mo : ME) (ms : MA) : ME := fun env h => (mo env h).bind (gMethF C mt m ms env)
theorem getN_none {m : Nat} : ∀ {fs : List (Nat × Vl)}, ¬ (getN fs m).isSome = true → ∀ f, f ∈ fs.map (·.1) → nm f ≠ nm m
  | [], _, f, hf => by simp at hf
  | p :: ps, h, f, hf => by
    unfold getN at h
    split at h
    · exact absurd rfl h
    · rename_i z
      rw [List.map_cons] at hf
      rcases List.mem_cons.mp hf with e | hf
      · rw [e]; exact fun q => z (nm_inj q)
      · exact getN_none h f hf
/-- what is known of methods and classes -/
def MtOk (K : Fg) (sig : Sig) (fA : Nat → Addr) (mt : Mts) : Prop := ∀ c m f, mt c m = some f → Cls K (He.ga K (nm c)) ∧ Meth K (He.ga K (nm c)) (nm m) (fA f) ∧ (sig f).isSome = true
section
variable {X : Cx} {W : WX} {L : Nat} {sig : Sig} {fA : Nat → Addr} {C : Clr} {e o : Expr} {es : List Expr} {x : Str} {p pos apos : Pos} {ms : MA} {mo : ME} {f np : Nat} {dfl : Option Vl}
theorem keep_of {g : Fun1} (gl : ∀ xs h, xs.length ≠ np → g xs h = .bad) {vs : List V} {r : List Addr} {h : Hs} {H : Hp} {σ : L2.St} {Q : VK} {xs : List Vl} (R : RH X.K r h H) (rs : RVs X.K r H xs vs)
    (q : Pst X.K r H W σ (fun z _ r' H' => ∀ w, RV X.K r' H' z w → Q w H') (g xs h)) : spOf X.K g np vs H Q (WE W σ) := by
  refine ⟨?_, r, h, xs, R, rs, q.nost⟩
  rw [rs.length]
  by_cases z : xs.length = np
  · exact z
  · rw [gl xs h z] at q; exact q.elim
/-- a reading's arguments, then what the callee asks -/
theorem rA_call {g : Fun1} {σ : L2.St} {H : Hp} {Q : VK} {vs0 : List Vl} {dvs : List V} (gl : ∀ xs h, xs.length ≠ np → g xs h = .bad) (rd : ∀ r H, RVs X.K r H vs0 dvs) {r : List Addr} {env : Ev} {h : Hs} (R : RH X.K r h H) (E : RE X.K r H env σ)
    (p : Pst X.K r H W σ (fun z _ r' H' => ∀ w, RV X.K r' H' z w → Q w H') ((ms env h).bind fun vs h1 => g (vs ++ vs0) h1)) : rA X.K W ms σ H fun vs H1 => spOf X.K g np (vs ++ dvs) H1 Q (WE W σ) :=
  ⟨r, env, h, R, E, p.bind.imp fun vs' h2 r1 H1 e1 R1 p1 us rus => keep_of gl R1 (rus.append (rd r1 H1)) p1⟩
theorem pe_callFM (cs : CallsOk X.prog X.w X.K X.mg X.base L sig fA C) (room : Room L X.A) (tk : Takes X W) (sg : sig f = some (np, dfl)) (hg : Gl X x) (hm : X.mg x = some (.ref (fA f))) (hdb : (x == ("__debug__" : Str)) = false)
    (ha : PA X (e :: es) (rA X.K W ms)) (hs : (e :: es).all noStar = true) : PE X (.Call (.Name x p) (e :: es) [] pos) (rE X.K W (mCallF C f ms)) := by
  rw [List.all_cons, Bool.and_eq_true] at hs
  obtain ⟨fd, ps, F, A, gl⟩ := cs f np dfl sg
  refine ⟨fun pins s σ H Q J q => ?_⟩
  obtain ⟨r, env, h, R, E, p⟩ := q
  refine wpAny_Call_Name_kw (ld_glob J hg hm ?_ hdb)
  have args := ha.run pos pins s σ H (fun vs H1 => spOf X.K (C f) np (vs ++ []) H1 Q (WE W σ)) J (rA_call (vs0 := []) gl (fun _ _ => RVs.nil) R E (by simp only [List.append_nil]; exact p))
  refine PySem.W.callWith_K (h₀ := X.base) J.ok.mod.kin A.kp (thn args fun us s1 z => ?_) (star_each hs.1) (star_any hs.2)
  obtain ⟨vs, H1, J1, rv, q1⟩ := z
  exact ⟨J1.kIn, go_fn (ds := []) (dvs := []) F room A.bi .nil tk J1 rv q1⟩
theorem pe_callF0M (cs : CallsOk X.prog X.w X.K X.mg X.base L sig fA C) (room : Room L X.A) (tk : Takes X W) (sg : sig f = some (np, dfl)) (hg : Gl X x) (hm : X.mg x = some (.ref (fA f))) (hdb : (x == ("__debug__" : Str)) = false) :
    PE X (.Call (.Name x p) [] [] pos) (rE X.K W (mCallF C f mNil)) := by
  obtain ⟨fd, ps, F, A, gl⟩ := cs f np dfl sg
  refine ⟨fun pins s σ H Q J q => ?_⟩
  obtain ⟨r, env, h, R, E, p⟩ := q
  refine wpAny_Call_Name_kw (ld_glob J hg hm ?_ hdb)
  exact PySem.W.callWith_K0 J.kIn A.kp (go_fn (us := []) (vs := []) (ds := []) (dvs := []) F room A.bi .nil tk J .nil (keep_of gl R RVs.nil p))
theorem pe_callDM {v : Vl} (cs : CallsOk X.prog X.w X.K X.mg X.base L sig fA C) (room : Room L X.A) (tk : Takes X W) (sg : sig f = some (np, some v)) (hg : Gl X x) (hm : X.mg x = some (.ref (fA f))) (hdb : (x == ("__debug__" : Str)) = false)
    (ha : PA X (e :: es) (rA X.K W ms)) (hs : (e :: es).all noStar = true) : PE X (.Call (.Name x p) (e :: es) [] pos) (rE X.K W (mCallD C f v ms)) := by
  rw [List.all_cons, Bool.and_eq_true] at hs
  obtain ⟨fd, ps, F, A, gl⟩ := cs f np _ sg
  obtain ⟨u, w, ru, rv0, bd⟩ := A.df v rfl
  refine ⟨fun pins s σ H Q J q => ?_⟩
  obtain ⟨r, env, h, R, E, p⟩ := q
  refine wpAny_Call_Name_kw (ld_glob J hg hm ?_ hdb)
  have args := ha.run pos pins s σ H (fun vs H1 => spOf X.K (C f) np (vs ++ [u]) H1 Q (WE W σ)) J (rA_call (vs0 := [v]) gl (fun r H => RVs.one (rv0 r H)) R E p)
  refine PySem.W.callWith_K (h₀ := X.base) J.ok.mod.kin A.kp (thn args fun us s1 z => ?_) (star_each hs.1) (star_any hs.2)
  obtain ⟨vs, H1, J1, rv, q1⟩ := z
  exact ⟨J1.kIn, go_fn F room bd (.cons ru .nil) tk J1 rv q1⟩
/-- a class called: a new object, then its __init__ -/
theorem make_keeps {c : Nat} {g : Fun1} (gl : ∀ xs h, xs.length ≠ np → g xs h = .bad) {σ : L2.St} {H : Hp} {Q : VK} {vs : List V} {xs : List Vl} {r : List Addr} {h : Hs} (R : RH X.K r h H) (rs : RVs X.K r H xs vs)
    (p : Pst X.K r H W σ (fun z _ r' H' => ∀ w, RV X.K r' H' z w → Q w H') (fin0 h.length (g (.ref h.length :: xs) (h ++ [.ins c []])))) (y dx : Addr) (h1 : H y = none) (h2 : H dx = none) (h3 : dx ≠ y) :
    spOf X.K g np (.ref y :: vs) (upd (upd H dx (.own y)) y (.ins (He.ga X.K (nm c)) dx [])) (fun v H2 => v = .non ∧ Q (.ref y) H2) (WE W σ) := by
  have y1 : upd H dx (.own y) y = none := by rw [upd_ne (Ne.symm h3)]; exact h1
  have x1 : Ext r (r ++ [y]) H (upd (upd H dx (.own y)) y (.ins (He.ga X.K (nm c)) dx [])) := (ext_new (r := r) h2).trans (ext_mine y1)
  have R1 := (R.new (o := .own y) h2).mine (o := .ins (He.ga X.K (nm c)) dx []) (ob := .ins c []) y1 ⟨dx, [], upd_same, by simp only [RN]⟩ rfl
  have ry : (r ++ [y])[h.length]? = some y := by rw [← R.len]; simp
  refine keep_of gl R1 (RVs.cons (.ofRef ry) (rs.ext x1)) ?_
  cases e : g (.ref h.length :: xs) (h ++ [.ins c []]) with
  | ok v h5 =>
    rw [e] at p
    cases v with
    | non => exact fun r' H' x R' w rw => ⟨rw.non_, p r' H' (x1.trans x) R' _ (.ofRef (x.get ry))⟩
    | _ => exact p.elim
  | ex c' fs h5 =>
    rw [e] at p
    exact fun r' H' cls d x R' rx => p r' H' cls d (x1.trans x) R' rx
  | bad => rw [e] at p; exact p.elim
theorem pe_makeM {c : Nat} (cs : CallsOk X.prog X.w X.K X.mg X.base L sig fA C) (room : Room (L + 1) X.A) (tk : Takes X W) (sg : sig f = some (np, dfl)) (M : Mk X.K (He.ga X.K (nm c)) (fA f)) (hg : Gl X x) (hm : X.mg x = some (.ref (He.ga X.K (nm c)))) (hdb : (x == ("__debug__" : Str)) = false)
    (ha : PA X (e :: es) (rA X.K W ms)) (hs : (e :: es).all noStar = true) : PE X (.Call (.Name x p) (e :: es) [] pos) (rE X.K W (mMake C c f ms)) := by
  rw [List.all_cons, Bool.and_eq_true] at hs
  obtain ⟨fd, ps, F, A, gl⟩ := cs f np dfl sg
  refine ⟨fun pins s σ H Q J q => ?_⟩
  obtain ⟨r, env, h, R, E, p⟩ := q
  refine wpAny_Call_Name_kw (ld_glob J hg hm ?_ hdb)
  have args := ha.run pos pins s σ H _ J (show rA X.K W ms σ H _ from ⟨r, env, h, R, E, p.bind.imp fun vs' h2 r1 H1 e1 R1 p1 us rus => make_keeps (vs := us) gl R1 rus p1⟩)
  refine PySem.W.callWith_K (h₀ := X.base) J.ok.mod.kin M.kp (thn args fun us s1 z => ?_) (star_each hs.1) (star_any hs.2)
  obtain ⟨vs, H1, J1, rv, q1⟩ := z
  exact ⟨J1.kIn, go_make M F room A.bi tk J1 rv q1⟩
theorem pe_make0M {c : Nat} (cs : CallsOk X.prog X.w X.K X.mg X.base L sig fA C) (room : Room (L + 1) X.A) (tk : Takes X W) (sg : sig f = some (np, dfl)) (M : Mk X.K (He.ga X.K (nm c)) (fA f)) (hg : Gl X x) (hm : X.mg x = some (.ref (He.ga X.K (nm c)))) (hdb : (x == ("__debug__" : Str)) = false) :
    PE X (.Call (.Name x p) [] [] pos) (rE X.K W (mMake C c f mNil)) := by
  obtain ⟨fd, ps, F, A, gl⟩ := cs f np dfl sg
  refine ⟨fun pins s σ H Q J q => ?_⟩
  obtain ⟨r, env, h, R, E, p⟩ := q
  refine wpAny_Call_Name_kw (ld_glob J hg hm ?_ hdb)
  exact PySem.W.callWith_K0 J.kIn M.kp (go_make (us := []) (vs := []) M F room A.bi tk J .nil (make_keeps (vs := []) gl R RVs.nil p))
/-- o.m(..): the object, the method, the call -/
theorem meth_run {M : Model} {A : Around} {env : Env} {o : Expr} {name : Str} {apos pos : Pos} {args : List Expr} {Q : Value → Shared → Prop} {E : Value → Shared → Prop} {s : Shared} (hp : plainX o = true) (hs : args.all noStar = true) (hl : args.length < 29) (hline : (apos.endLine == pos.line) = true)
    (h : wpAny M A (eval o env) (fun ov s1 => ∀ pl, wpAny M A (getMethod ov name pl) (fun fx s2 => wpAny M A (callWith pos fx.1 fx.2 (backTo pos (starEach args env)) []) Q E s2) E s1) E s) :
    wpAny M A (eval (.Call (.Attribute o name apos) args [] pos) env) Q E s := by
  rw [arm_eval_Call, base_plain hp]
  refine wpAny_bind (wpAny_mono h (fun ov s1 h1 => wpAny_bind (wpAny_standAt ?_)) fun _ _ z => z)
  have few : methodCallForm (args.length + ([] : List Keyword).length) (backTo pos (starEach args env)) (backToKw pos (keywordEach [] env)) = true := by
    unfold methodCallForm
    rw [star_alln hs]
    show (true && true && decide (args.length + 0 + 0 < 30)) = true
    rw [decide_eq_true (by omega)]; rfl
  have at_ : methodCallPos true o env apos pos = pure pos := by
    unfold methodCallPos
    rw [hline]; rfl
  unfold methodCall
  rw [few]
  refine wpAny_bind (wpAny_holding (wpAny_mono (h1 _) (fun fx s2 h2 => ?_) fun _ _ z => z))
  exact wpAny_bind (wpAny_of_eq at_ h2)
/-- o.m(..): the class by the object -/
theorem pe_methM {m : Nat} {mt : Mts} (hx : x = nm m) (cs : CallsOk X.prog X.w X.K X.mg X.base L sig fA C) (room : Room L X.A) (tk : Takes X W) (T : MtOk X.K sig fA mt) (ho : PE X o (rE X.K W mo))
    (ha : PA X (e :: es) (rA X.K W ms)) (hp : plainX o = true) (hs : (e :: es).all noStar = true) (hl : (e :: es).length < 29) (hline : (apos.endLine == pos.line) = true) : PE X (.Call (.Attribute o x apos) (e :: es) [] pos) (rE X.K W (mMethF C mt m mo ms)) := by
  subst hx
  have hs0 := hs
  rw [List.all_cons, Bool.and_eq_true] at hs
  refine ⟨fun pins s σ H Q J q => ?_⟩
  obtain ⟨r, env, h, R, E, p⟩ := q
  have first := ho.run pins s σ H (fun u H1 => ∃ x h1 r1, Ext r r1 H H1 ∧ RH X.K r1 h1 H1 ∧ Pst X.K r1 H1 W σ (fun z _ r' H' => ∀ w, RV X.K r' H' z w → Q w H') (gMethF C mt m ms env x h1) ∧ RV X.K r1 H1 x u) J (show rE X.K W mo σ H _ from ⟨r, env, h, R, E, p.bind.imp fun x h1 r1 H1 e1 R1 p1 u ru => ⟨x, h1, r1, e1, R1, p1, ru⟩⟩)
  refine meth_run hp hs0 hl hline (thn first fun u s1 z pl => ?_)
  obtain ⟨y, H1, J1, ry, x, h1, r1, e1, R1, p1, ru⟩ := z
  unfold gMethF at p1
  split at p1
  · split at p1
    · split at p1
      · split at p1
        · exact p1.elim
        · rename_i n _ c fs eo _ f em hn
          obtain ⟨a, q1, rfl⟩ := ru.ref_
          obtain rfl : u = Value.ref a := ry
          obtain ⟨dx, vs, hH, hN⟩ := R1.ins q1 eo
          obtain ⟨k1, k2, k3⟩ := T c m f em
          obtain ⟨⟨np, dfl⟩, sg⟩ := Option.isSome_iff_exists.mp k3
          obtain ⟨fd, ps, F, A, gl⟩ := cs f np dfl sg
          refine getmeth_ok J1 hH k1 k2 (hN.none (getN_none hn)) ?_
          have args := ha.run pos pins s1 σ H1 _ J1 (show rA X.K W ms σ H1 _ from ⟨r1, env, h1, R1, E.ext e1, p1.bind.imp fun vs' h2 r2 H2 e2 R2 p2 us rus => keep_of gl R2 (RVs.cons (ru.ext e2) rus) p2⟩)
          refine PySem.W.callWith_K (first := [.ref a]) (h₀ := X.base) J1.ok.mod.kin k2.kp (thn args fun us s2 z => ?_) (star_each hs.1) (star_any hs.2)
          obtain ⟨vs, H2, J2, rv, q2⟩ := z
          exact ⟨J2.kIn, go_fn (us := .ref a :: us) (vs := .ref a :: vs) (ds := []) (dvs := []) F room A.bi .nil tk J2 (.cons rfl rv) (by rw [List.append_nil]; exact q2)⟩
      · exact p1.elim
    · exact p1.elim
  · exact p1.elim
theorem pe_meth0M {m : Nat} {mt : Mts} (hx : x = nm m) (cs : CallsOk X.prog X.w X.K X.mg X.base L sig fA C) (room : Room L X.A) (tk : Takes X W) (T : MtOk X.K sig fA mt) (ho : PE X o (rE X.K W mo)) (hp : plainX o = true) (hline : (apos.endLine == pos.line) = true) :
    PE X (.Call (.Attribute o x apos) [] [] pos) (rE X.K W (mMethF C mt m mo mNil)) := by
  subst hx
  refine ⟨fun pins s σ H Q J q => ?_⟩
  obtain ⟨r, env, h, R, E, p⟩ := q
  have first := ho.run pins s σ H (fun u H1 => ∃ x h1 r1, Ext r r1 H H1 ∧ RH X.K r1 h1 H1 ∧ Pst X.K r1 H1 W σ (fun z _ r' H' => ∀ w, RV X.K r' H' z w → Q w H') (gMethF C mt m mNil env x h1) ∧ RV X.K r1 H1 x u) J (show rE X.K W mo σ H _ from ⟨r, env, h, R, E, p.bind.imp fun x h1 r1 H1 e1 R1 p1 u ru => ⟨x, h1, r1, e1, R1, p1, ru⟩⟩)
  refine meth_run hp rfl (by decide) hline (thn first fun u s1 z pl => ?_)
  obtain ⟨y, H1, J1, ry, x, h1, r1, e1, R1, p1, ru⟩ := z
  unfold gMethF at p1
  split at p1
  · split at p1
    · split at p1
      · split at p1
        · exact p1.elim
        · rename_i n _ c fs eo _ f em hn
          obtain ⟨a, q1, rfl⟩ := ru.ref_
          obtain rfl : u = Value.ref a := ry
          obtain ⟨dx, vs, hH, hN⟩ := R1.ins q1 eo
          obtain ⟨k1, k2, k3⟩ := T c m f em
          obtain ⟨⟨np, dfl⟩, sg⟩ := Option.isSome_iff_exists.mp k3
          obtain ⟨fd, ps, F, A, gl⟩ := cs f np dfl sg
          refine getmeth_ok J1 hH k1 k2 (hN.none (getN_none hn)) ?_
          exact PySem.W.callWith_K0 (first := [.ref a]) J1.kIn k2.kp (go_fn (us := [.ref a]) (vs := [.ref a]) (ds := []) (dvs := []) F room A.bi .nil tk J1 (.cons rfl .nil) (keep_of (vs := [.ref a]) gl R1 (RVs.cons ru RVs.nil) p1))
      · exact p1.elim
    · exact p1.elim
  · exact p1.elim
end
end Mi

/-! A8: targets, what loops walk, comprehensions. -/
namespace Mi
open PySem PySem.Spec L2

/-! ### the names' values -/
theorem RE.set {K : Fg} {r : List Addr} {H : Hp} {env : Ev} {σ : L2.St} {v : Vl} {u : V} (E : RE K r H env σ) (q : RV K r H v u) (i : Nat) : RE K r H (env.set i (some v)) (σ.set i (some u)) := by
  refine ⟨by rw [List.length_set, List.length_set]; exact E.len, fun j w e => ?_⟩
  by_cases hj : i = j
  · subst hj
    by_cases hl : i < env.length
    · rw [List.getElem?_set_self hl] at e
      cases e
      exact ⟨u, List.getElem?_set_self (by rw [← E.len]; exact hl), q⟩
    · rw [List.getElem?_eq_none (by rw [List.length_set]; omega)] at e; cases e
  · rw [List.getElem?_set_ne hj] at e ⊢
    exact E.get j w e
theorem RE.drop {K : Fg} {r : List Addr} {H : Hp} {env : Ev} {σ : L2.St} (E : RE K r H env σ) (i : Nat) : RE K r H (env.set i none) (σ.set i none) := by
  refine ⟨by rw [List.length_set, List.length_set]; exact E.len, fun j w e => ?_⟩
  by_cases hj : i = j
  · subst hj
    by_cases hl : i < env.length
    · rw [List.getElem?_set_self hl] at e; cases e
    · rw [List.getElem?_eq_none (by rw [List.length_set]; omega)] at e; cases e
  · rw [List.getElem?_set_ne hj] at e ⊢
    exact E.get j w e
def wipeE (env : Ev) : List Nat → Ev
  | [] => env
  | v :: vs => (wipeE env vs).set v none
theorem RE.wipe {K : Fg} {r : List Addr} {H : Hp} {env : Ev} {σ : L2.St} (E : RE K r H env σ) : ∀ vs : List Nat, RE K r H (wipeE env vs) (wipe σ vs)
  | [] => E
  | v :: vs => (RE.wipe E vs).drop v
theorem wipe_get {σ : L2.St} {vs : List Nat} {j : Nat} : (wipe σ vs)[j]? = if j ∈ vs then (if j < σ.length then some none else none) else σ[j]? := by
  induction vs with
  | nil => simp [wipe]
  | cons v vs ih =>
    unfold wipe
    by_cases e : v = j
    · subst e
      by_cases hl : v < (wipe σ vs).length
      · rw [List.getElem?_set_self hl]
        rw [wipe_length] at hl
        simp [hl]
      · rw [List.getElem?_eq_none (by rw [List.length_set]; omega)]
        rw [wipe_length] at hl
        simp [hl]
    · rw [List.getElem?_set_ne e, ih]
      have : (j ∈ v :: vs) ↔ j ∈ vs := by simp [Ne.symm e]
      simp only [this]
theorem wipe_set {σ : L2.St} {vs : List Nat} {i : Nat} {x : Option V} (h : i ∈ vs) : wipe (σ.set i x) vs = wipe σ vs := by
  refine List.ext_getElem? fun j => ?_
  rw [wipe_get, wipe_get, List.length_set]
  by_cases e : j ∈ vs
  · rw [if_pos e, if_pos e]
  · rw [if_neg e, if_neg e, List.getElem?_set_ne (fun z => e (by rw [← z]; exact h))]
theorem wipe_twice {σ : L2.St} {vs : List Nat} : wipe (wipe σ vs) vs = wipe σ vs := by
  refine List.ext_getElem? fun j => ?_
  rw [wipe_get, wipe_length, wipe_get]
  by_cases e : j ∈ vs
  · rw [if_pos e, if_pos e]
  · rw [if_neg e, if_neg e]

/-! ### targets that are names -/
inductive Tg where
  | one (i : Nat) | many (is : List Nat)
def Tg.slots : Tg → List Nat
  | .one i => [i]
  | .many is => is
def setsE (env : Ev) : List Nat → List Vl → Option Ev
  | [], [] => some env
  | i :: is, x :: xs => setsE (env.set i (some x)) is xs
  | _, _ => none
def bindT (t : Tg) (x : Vl) (env : Ev) (h : Hs) : Option Ev := match t with
  | .one i => some (env.set i (some x))
  | .many is => match x with
    | .tup xs => setsE env is xs
    | .ref n => match getL h n with
      | some xs => setsE env is xs
      | none => none
    | _ => none
def rG (K : Fg) (t : Tg) : TG := fun v σ H Q => ∃ r env h x env', RH K r h H ∧ RE K r H env σ ∧ RV K r H x v ∧ bindT t x env h = some env' ∧
  ∀ σ', RE K r H env' σ' → (∀ vs : List Nat, (∀ i ∈ t.slots, i ∈ vs) → wipe σ' vs = wipe σ vs) → Q σ' H
/-- what a store to a name asks -/
def NmOk (X : Cx) (e : Expr) (i : Nat) : Prop := ∃ x p, e = .Name x p ∧ X.N[i]? = some x ∧ Loc X.env.scope x ∧ (X.fn x = true ∨ X.env.scope.names.lookup x = some .local)
def NmsOk (X : Cx) : List Expr → List Nat → Prop
  | [], [] => True
  | e :: es, i :: is => NmOk X e i ∧ NmsOk X es is
  | _, _ => False
def gNames : List Nat → TGs
  | [] => gNil
  | i :: is => gCons (gName i) (gNames is)
theorem PG.or {X : Cx} {e : Expr} {t u : TG} (h : PG X e t) (h' : PG X e u) : PG X e (fun v σ H Q => t v σ H Q ∨ u v σ H Q) :=
  ⟨fun pins s σ H v w Q I r q => q.elim (fun q => h.run pins s σ H v w Q I r q) fun q => h'.run pins s σ H v w Q I r q⟩
theorem PG.imp {X : Cx} {e : Expr} {t u : TG} (h : PG X e t) (k : ∀ v σ H Q, u v σ H Q → t v σ H Q) : PG X e u := ⟨fun pins s σ H v w Q I r q => h.run pins s σ H v w Q I r (k v σ H Q q)⟩
section
variable {X : Cx}
theorem nms_each : ∀ {es : List Expr} {is : List Nat}, NmsOk X es is → (assignEach es X.env).length = is.length ∧ (assignEach es X.env).findIdx? (·.1) = none ∧ PGs X es (gNames is) ∨ X.N.Nodup = False
  | [], [], _ => .inl ⟨rfl, rfl, pgs_nil⟩
  | e :: es, i :: is, q => by
    obtain ⟨⟨x, p, rfl, h1, h2, h3⟩, q⟩ := q
    rcases nms_each q with ⟨a, b, c⟩ | z
    · by_cases nd : X.N.Nodup
      · refine .inl ⟨?_, ?_, pgs_cons (pg_name nd h1 h2 h3) c (by rfl)⟩
        · show (assignEach es X.env).length + 1 = is.length + 1
          rw [a]
        · show ((false, assign (.Name x p) X.env) :: assignEach es X.env).findIdx? (·.1) = none
          rw [List.findIdx?_cons]
          simp only [Bool.false_eq_true, if_false]
          rw [b]; rfl
      · exact .inr (by simp [nd])
    · exact .inr z
  | [], _ :: _, q => q.elim
  | _ :: _, [], q => q.elim
theorem g_names {K : Fg} {r : List Addr} {H : Hp} {Q : L2.St → Hp → Prop} : ∀ {is : List Nat} {xs : List Vl} {vs : List V} {env env' : Ev} {σ : L2.St}, RE K r H env σ → RVs K r H xs vs → setsE env is xs = some env' →
    (∀ σ', RE K r H env' σ' → (∀ ws : List Nat, (∀ i ∈ is, i ∈ ws) → wipe σ' ws = wipe σ ws) → Q σ' H) → gNames is vs σ H Q
  | [], [], vs, env, env', σ, E, q, e, k => by
    cases e
    simp only [RVs] at q
    exact ⟨q, k σ E fun _ _ => rfl⟩
  | i :: is, x :: xs, vs, env, env', σ, E, q, e, k => by
    simp only [RVs] at q
    obtain ⟨u, t, rfl, h1, h2⟩ := q
    exact ⟨u, t, rfl, g_names (E.set h1 i) h2 e fun σ' E' kw => k σ' E' fun ws hw => (kw ws fun j hj => hw j (List.mem_cons_of_mem _ hj)).trans (wipe_set (hw i List.mem_cons_self))⟩
  | [], _ :: _, _, _, _, _, _, _, e, _ => by cases e
  | _ :: _, [], _, _, _, _, _, _, e, _ => by cases e
theorem setsE_len : ∀ {is : List Nat} {xs : List Vl} {env env' : Ev}, setsE env is xs = some env' → xs.length = is.length
  | [], [], _, _, _ => rfl
  | i :: is, x :: xs, env, env', e => by
    have := setsE_len (show setsE (env.set i (some x)) is xs = some env' from e)
    simp [this]
  | [], _ :: _, _, _, e => by cases e
  | _ :: _, [], _, _, e => by cases e
theorem pg_one {e : Expr} {i : Nat} (nd : X.N.Nodup) (h : NmOk X e i) : PG X e (rG X.K (.one i)) := by
  obtain ⟨x, p, rfl, h1, h2, h3⟩ := h
  refine PG.imp (pg_name nd h1 h2 h3) fun v σ H Q q => ?_
  obtain ⟨r, env, h, x, env', R, E, rv, e, k⟩ := q
  cases e
  exact k _ (E.set rv i) fun vs hv => wipe_set (hv i (by simp [Tg.slots]))
theorem pg_many {es : List Expr} {k : Nat} {pos : Pos} {is : List Nat} (hc : X.calm = true) (nd : X.N.Nodup) (h : NmsOk X es is) : PG X (.Tuple es k pos) (rG X.K (.many is)) := by
  rcases nms_each h with ⟨a, b, c⟩ | z
  · refine PG.imp (PG.or (pg_tup hc c a b) (pg_lst hc c a b)) fun v σ H Q q => ?_
    obtain ⟨r, env, h, x, env', R, E, rv, e, k⟩ := q
    unfold bindT at e
    simp only at e
    split at e
    · obtain ⟨a, vs, rfl, h1, h2⟩ := rv.tup_
      exact .inl ⟨a, vs, rfl, h1, h2.length.trans (setsE_len e), g_names E h2 e k⟩
    · split at e
      · rename_i n _ xs en
        obtain ⟨a, q1, rfl⟩ := rv.ref_
        obtain ⟨vs, h1, h2⟩ := R.seq q1 en
        exact .inr ⟨a, vs, rfl, h1, h2.length.trans (setsE_len e), g_names E h2 e k⟩
      · cases e
    · cases e
  · exact (z.mp nd).elim
end

/-! ### what a loop walks -/
inductive Itv where
  | klv (ns : List Int) | live (n : Nat) | fix (xs : List Vl) | zip (m n : Nat) | enum (n : Nat)
def stp (it : Itv) (i : Nat) (h : Hs) : Option (Option Vl) := match it with
  | .klv ns => some (ns[i]?.map Vl.int)
  | .live n => (getL h n).map fun xs => xs[i]?
  | .fix xs => some xs[i]?
  | .zip m n => match getL h m, getL h n with
    | some xs, some ys => match xs[i]?, ys[i]? with
      | some x, some y => some (some (.tup [x, y]))
      | _, _ => some none
    | _, _ => none
  | .enum n => (getL h n).map fun xs => xs[i]?.map fun x => .tup [.int (i : Nat), x]
def itLen (it : Itv) (h : Hs) : Nat := match it with
  | .klv ns => ns.length
  | .live n => ((getL h n).getD []).length
  | .fix xs => xs.length
  | .zip m _ => ((getL h m).getD []).length
  | .enum n => ((getL h n).getD []).length
def chars (s : Str) : List Vl := s.cps.toList.map fun c => .str ⟨#[c]⟩
def RIt (K : Fg) (r : List Addr) (H : Hp) (it : Itv) (J : It) : Prop := match it with
  | .klv ns => ∃ a, SqF K H a (ns.map V.int) ∧ J = Itl K a
  | .live n => ∃ a, r[n]? = some a ∧ J = Itl K a
  | .fix xs => (∃ a vs, SqT K H a vs ∧ RVs K r H xs vs ∧ J = Itt K a) ∨ (∃ s, J = Its s ∧ xs = chars s) ∨ (∃ (lo : Int) (n : Nat), J = Itr lo n ∧ xs = (List.range n).map fun (i : Nat) => .int (lo + i))
  | .zip m n => ∃ a b, r[m]? = some a ∧ r[n]? = some b ∧ J = Itz K a b
  | .enum n => ∃ a, r[n]? = some a ∧ J = Ite K a
theorem RIt.ext {K : Fg} {r r' : List Addr} {H H' : Hp} {it : Itv} {J : It} (x : Ext r r' H H') (q : RIt K r H it J) : RIt K r' H' it J := by
  cases it with
  | klv ns => obtain ⟨a, e, z⟩ := q; exact ⟨a, x.sqF e, z⟩
  | live n => obtain ⟨a, e, z⟩ := q; exact ⟨a, x.get e, z⟩
  | fix xs =>
    rcases q with ⟨a, vs, h1, h2, h3⟩ | q | q
    · exact .inl ⟨a, vs, x.sqT h1, h2.ext x, h3⟩
    · exact .inr (.inl q)
    · exact .inr (.inr q)
  | zip m n => obtain ⟨a, b, e, e', z⟩ := q; exact ⟨a, b, x.get e, x.get e', z⟩
  | enum n => obtain ⟨a, e, z⟩ := q; exact ⟨a, x.get e, z⟩
theorem RIt.wk {K : Fg} {r r' : List Addr} {H H' : Hp} {it : Itv} {J : It} (x : Wk K r r' H H') (q : RIt K r H it J) : RIt K r' H' it J := by
  cases it with
  | klv ns => obtain ⟨a, e, z⟩ := q; exact ⟨a, x.fq _ _ e, z⟩
  | live n => obtain ⟨a, e, z⟩ := q; exact ⟨a, x.get e, z⟩
  | fix xs =>
    rcases q with ⟨a, vs, h1, h2, h3⟩ | q | q
    · exact .inl ⟨a, vs, x.tq _ _ h1, h2.wk x, h3⟩
    · exact .inr (.inl q)
    · exact .inr (.inr q)
  | zip m n => obtain ⟨a, b, e, e', z⟩ := q; exact ⟨a, b, x.get e, x.get e', z⟩
  | enum n => obtain ⟨a, e, z⟩ := q; exact ⟨a, x.get e, z⟩
section
variable {K : Fg} {r : List Addr} {h : Hs} {H : Hp} {it : Itv} {J : It} {i : Nat} {x : Vl}
theorem stp_go (R : RH K r h H) (q : RIt K r H it J) (e : stp it i h = some (some x)) : J.go i H ∧ ∀ v H', J.yld i H v H' → Ext r r H H' ∧ RH K r h H' ∧ RV K r H' x v := by
  unfold stp at e
  split at e
  · rename_i ns
    obtain ⟨a, q1, rfl⟩ := q
    obtain ⟨j, e2, rfl⟩ := Option.map_eq_some_iff.mp (Option.some.inj e)
    have h3 : (ns.map V.int)[i]? = some (.int j) := by rw [List.getElem?_map, e2]; rfl
    refine ⟨⟨_, _, q1.sq, h3⟩, fun w H' y => ?_⟩
    obtain ⟨rfl, y⟩ := y
    have z := y _ q1.sq
    rw [h3] at z; cases z
    exact ⟨Ext.refl _ _, R, .ofInt _⟩
  · rename_i n
    obtain ⟨a, q1, rfl⟩ := q
    obtain ⟨xs, e1, e2⟩ := Option.map_eq_some_iff.mp e
    obtain ⟨vs, h1, h2⟩ := R.seq q1 e1
    obtain ⟨v, h3, h4⟩ := h2.get e2
    refine ⟨⟨vs, v, h1, h3⟩, fun w H' y => ?_⟩
    obtain ⟨rfl, y⟩ := y
    have z := y vs h1
    rw [h3] at z; cases z
    exact ⟨Ext.refl _ _, R, h4⟩
  · rename_i xs
    have e : xs[i]? = some x := Option.some.inj e
    rcases q with ⟨a, vs, h1, h2, rfl⟩ | ⟨s, rfl, rfl⟩ | ⟨lo, n, rfl, rfl⟩
    · obtain ⟨v, h3, h4⟩ := h2.get e
      refine ⟨⟨vs, v, h1, h3⟩, fun w H' y => ?_⟩
      obtain ⟨rfl, y⟩ := y
      have z := y vs h1
      rw [h3] at z; cases z
      exact ⟨Ext.refl _ _, R, h4⟩
    · unfold chars at e
      rw [List.getElem?_map] at e
      obtain ⟨c, e1, e2⟩ := Option.map_eq_some_iff.mp e
      have e3 : s.cps[i]? = some c := by simpa using e1
      refine ⟨(Array.getElem?_eq_some_iff.mp e3).1, fun w H' y => ?_⟩
      obtain ⟨rfl, c', y1, rfl⟩ := y
      rw [e3] at y1; cases y1
      rw [← e2]
      exact ⟨Ext.refl _ _, R, .ofStr _⟩
    · rw [List.getElem?_map] at e
      obtain ⟨c, e1, e2⟩ := Option.map_eq_some_iff.mp e
      obtain ⟨hl, e3⟩ := List.getElem?_eq_some_iff.mp e1
      have hi : i < n := by simpa using hl
      have e4 : c = i := by rw [← e3]; simp
      subst e4
      refine ⟨hi, fun w H' y => ?_⟩
      obtain ⟨rfl, rfl⟩ := y
      rw [← e2]
      exact ⟨Ext.refl _ _, R, .ofInt _⟩
  · rename_i m n
    obtain ⟨a, b, q1, q2, rfl⟩ := q
    split at e
    · rename_i xs ys e1 e2
      split at e
      · rename_i x1 y1 f1 f2
        cases e
        obtain ⟨vs, h1, h2⟩ := R.seq q1 e1
        obtain ⟨us, h3, h4⟩ := R.seq q2 e2
        obtain ⟨v, g1, g2⟩ := h2.get f1
        obtain ⟨u, g3, g4⟩ := h4.get f2
        refine ⟨⟨vs, us, v, u, h1, h3, g1, g3⟩, fun w H' y => ?_⟩
        obtain ⟨T, x2, y2, rfl, hT, rfl, k1, k2⟩ := y
        have z1 := k1 vs h1
        have z2 := k2 us h3
        rw [g1] at z1; cases z1
        rw [g3] at z2; cases z2
        exact ⟨ext_new hT, R.new hT, .ofTup (SqT.of upd_same) (.cons (g2.ext (ext_new hT)) (.cons (g4.ext (ext_new hT)) .nil))⟩
      · cases e
    · cases e
  · rename_i n
    obtain ⟨a, q1, rfl⟩ := q
    obtain ⟨xs, e1, e2⟩ := Option.map_eq_some_iff.mp e
    obtain ⟨y, e3, rfl⟩ := Option.map_eq_some_iff.mp e2
    obtain ⟨vs, h1, h2⟩ := R.seq q1 e1
    obtain ⟨v, h3, h4⟩ := h2.get e3
    refine ⟨⟨vs, v, h1, h3⟩, fun w H' y => ?_⟩
    obtain ⟨T, x2, rfl, hT, rfl, k1⟩ := y
    have z := k1 vs h1
    rw [h3] at z; cases z
    exact ⟨ext_new hT, R.new hT, .ofTup (SqT.of upd_same) (.cons (.ofInt _) (.cons (h4.ext (ext_new hT)) .nil))⟩
theorem stp_end (R : RH K r h H) (q : RIt K r H it J) (e : stp it i h = some none) : J.stop i H := by
  unfold stp at e
  split at e
  · rename_i ns
    obtain ⟨a, q1, rfl⟩ := q
    have e2 := Option.map_eq_none_iff.mp (Option.some.inj e)
    exact ⟨_, q1.sq, by rw [List.length_map]; exact List.getElem?_eq_none_iff.mp e2⟩
  · rename_i n
    obtain ⟨a, q1, rfl⟩ := q
    obtain ⟨xs, e1, e2⟩ := Option.map_eq_some_iff.mp e
    obtain ⟨vs, h1, h2⟩ := R.seq q1 e1
    exact ⟨vs, h1, by rw [h2.length]; exact List.getElem?_eq_none_iff.mp e2⟩
  · rename_i xs
    have e : xs[i]? = none := Option.some.inj e
    have e := List.getElem?_eq_none_iff.mp e
    rcases q with ⟨a, vs, h1, h2, rfl⟩ | ⟨s, rfl, rfl⟩ | ⟨lo, n, rfl, rfl⟩
    · exact ⟨vs, h1, by rw [h2.length]; exact e⟩
    · show s.cps.size ≤ i
      simpa [chars] using e
    · show n ≤ i
      simpa using e
  · rename_i m n
    obtain ⟨a, b, q1, q2, rfl⟩ := q
    split at e
    · rename_i xs ys e1 e2
      obtain ⟨vs, h1, h2⟩ := R.seq q1 e1
      obtain ⟨us, h3, h4⟩ := R.seq q2 e2
      refine ⟨vs, us, h1, h3, ?_⟩
      rw [h2.length, h4.length]
      split at e
      · cases e
      · rename_i hn
        cases f1 : xs[i]? with
        | none => exact .inl (List.getElem?_eq_none_iff.mp f1)
        | some x1 =>
          cases f2 : ys[i]? with
          | none => exact .inr (List.getElem?_eq_none_iff.mp f2)
          | some y1 => exact (hn _ _ f1 f2).elim
    · cases e
  · rename_i n
    obtain ⟨a, q1, rfl⟩ := q
    obtain ⟨xs, e1, e2⟩ := Option.map_eq_some_iff.mp e
    obtain ⟨vs, h1, h2⟩ := R.seq q1 e1
    have e3 : xs[i]? = none := by
      cases f : xs[i]? with
      | none => rfl
      | some y => rw [f] at e2; cases e2
    exact ⟨vs, h1, by rw [h2.length]; exact List.getElem?_eq_none_iff.mp e3⟩
end

/-! ### the walk's start -/
abbrev MI := Ev → Hs → Out Itv
def rI (K : Fg) (W : WX) (m : MI) : TI := fun σ H R => ∃ r env h, RH K r h H ∧ RE K r H env σ ∧ Pst K r H W σ (fun it _ r' H' => ∀ J, RIt K r' H' it J → R J H') (m env h)
theorem PI.or {X : Cx} {tg e : Expr} {t u : TI} (h : PI X tg e t) (h' : PI X tg e u) : PI X tg e (fun σ H R => t σ H R ∨ u σ H R) :=
  ⟨fun pins s σ H R I q => q.elim (fun q => h.run pins s σ H R I q) fun q => h'.run pins s σ H R I q⟩
theorem PI.imp {X : Cx} {tg e : Expr} {t u : TI} (h : PI X tg e t) (k : ∀ σ H R, u σ H R → t σ H R) : PI X tg e u := ⟨fun pins s σ H R I q => h.run pins s σ H R I (k σ H R q)⟩
def gIter (v : Vl) (h : Hs) : Out Itv := match v with
  | .ref n => if (getL h n).isSome = true then .ok (.live n) h else .bad
  | .tup xs => .ok (.fix xs) h
  | .str s => .ok (.fix (chars s)) h
  | .kl ns => .ok (.klv ns) h
  | _ => .bad
def mIter (m : ME) : MI := fun env h => (m env h).bind gIter
def inRg (i : Int) : Bool := decide (-1000000 ≤ i) && decide (i ≤ 1000000)
def rgI (lo : Int) (n : Nat) : List Vl := (List.range n).map fun (i : Nat) => .int (lo + i)
def gRng1 (vs : List Vl) (h : Hs) : Out Itv := match vs with
  | [.int j] => if inRg j = true then .ok (.fix (rgI 0 j.toNat)) h else .bad
  | _ => .bad
def gRng2 (vs : List Vl) (h : Hs) : Out Itv := match vs with
  | [.int i, .int j] => if inRg i = true ∧ inRg j = true then .ok (.fix (rgI i (j - i).toNat)) h else .bad
  | _ => .bad
def mRng1 (ms : MA) : MI := fun env h => (ms env h).bind gRng1
def mRng2 (ms : MA) : MI := fun env h => (ms env h).bind gRng2
def gZip (vs : List Vl) (h : Hs) : Out Itv := match vs with
  | [.ref m, .ref n] => if (getL h m).isSome = true ∧ (getL h n).isSome = true then .ok (.zip m n) h else .bad
  | _ => .bad
def mZip (ms : MA) : MI := fun env h => (ms env h).bind gZip
def gEnum (vs : List Vl) (h : Hs) : Out Itv := match vs with
  | [.ref n] => if (getL h n).isSome = true then .ok (.enum n) h else .bad
  | _ => .bad
def mEnum (ms : MA) : MI := fun env h => (ms env h).bind gEnum
section
variable {X : Cx} {W : WX} {tg e a b : Expr} {m : ME} {ms : MA} {p pos tpos : Pos} {elts : List Expr} {kk : Nat}
theorem PE.or {t u : TE} (h : PE X e t) (h' : PE X e u) : PE X e (fun σ H Q => t σ H Q ∨ u σ H Q) := ⟨fun pins s σ H Q I q => q.elim (fun q => h.run pins s σ H Q I q) fun q => h'.run pins s σ H Q I q⟩
/-- a reading that chooses behind its value is a choice of readings, the value known -/
theorem pi_iterM (he : PE X e (rE X.K W m)) : PI X tg e (rI X.K W (mIter m)) := by
  refine PI.imp (PI.or (pi_list (X := X) (tl := rE X.K W m) he) (PI.or (pi_tup (tl := rE X.K W m) he) (pi_str he))) fun σ H R q => ?_
  obtain ⟨r, env, h, Rh, E, p⟩ := q
  cases em : m env h with
  | bad => unfold mIter at p; rw [em] at p; exact p.elim
  | ex c fs h1 =>
    unfold mIter at p; rw [em] at p
    refine .inl ⟨r, env, h, Rh, E, ?_⟩
    rw [em]; exact p
  | ok v h1 =>
    unfold mIter at p; rw [em] at p
    have p : Pst X.K r H W σ (fun it _ r' H' => ∀ J, RIt X.K r' H' it J → R J H') (gIter v h1) := p
    cases v with
    | ref n =>
      refine .inl ⟨r, env, h, Rh, E, ?_⟩
      rw [em]
      intro r' H' x R' u ru
      obtain ⟨a, q1, rfl⟩ := ru.ref_
      have p2 := Pst.later x p
      unfold gIter at p2
      simp only at p2
      split at p2
      · rename_i hz
        obtain ⟨xs, ex⟩ := Option.isSome_iff_exists.mp hz
        obtain ⟨vs, h1, h2⟩ := R'.seq q1 ex
        exact ⟨a, rfl, ⟨vs, h1⟩, p2.here R' _ ⟨a, q1, rfl⟩⟩
      · exact p2.elim
    | tup xs =>
      refine .inr (.inl ⟨r, env, h, Rh, E, ?_⟩)
      rw [em]
      intro r' H' x R' u ru
      obtain ⟨a, vs, rfl, h1, h2⟩ := ru.tup_
      exact ⟨a, rfl, ⟨vs, h1⟩, (Pst.later x p).here R' _ (.inl ⟨a, vs, h1, h2, rfl⟩)⟩
    | kl ns =>
      refine .inl ⟨r, env, h, Rh, E, ?_⟩
      rw [em]
      intro r' H' x R' u ru
      simp only [RV] at ru
      obtain ⟨a, rfl, h2⟩ := ru
      exact ⟨a, rfl, ⟨_, h2.sq⟩, (Pst.later x p).here R' _ ⟨a, h2, rfl⟩⟩
    | str s =>
      refine .inr (.inr ⟨r, env, h, Rh, E, ?_⟩)
      rw [em]
      intro r' H' x R' u ru
      exact ⟨s, ru.str_, (Pst.later x p).here R' _ (.inr (.inl ⟨s, rfl, rfl⟩))⟩
    | _ => exact p.elim
theorem inRg_b {i : Int} (h : inRg i = true) : -(2 ^ 62) ≤ i ∧ i < 2 ^ 62 := by
  unfold inRg at h
  simp only [Bool.and_eq_true, decide_eq_true_eq] at h
  omega
theorem pi_rng1M (hg : Gl X "range") (hm : X.mg "range" = none) (ha : PA X [a] (rA X.K W ms)) (hs : noStar a = true) : PI X tg (.Call (.Name "range" p) [a] [] pos) (rI X.K W (mRng1 ms)) := by
  refine PI.imp (pi_range1 hg hm ha (star_each hs)) fun σ H R q => ?_
  obtain ⟨r, env, h, Rh, E, p⟩ := q
  refine ⟨r, env, h, Rh, E, p.bind.imp fun vs h1 r1 H1 e1 R1 p1 us rus => ?_⟩
  unfold gRng1 at p1
  split at p1
  · split at p1
    · rename_i j hz
      obtain ⟨u, rfl, q1⟩ := rus.one_
      obtain ⟨b1, b2⟩ := inRg_b hz
      exact ⟨j, by rw [q1.int_], b1, b2, p1.here R1 _ (.inr (.inr ⟨0, _, rfl, rfl⟩))⟩
    · exact p1.elim
  · exact p1.elim
theorem pi_rng2M (hg : Gl X "range") (hm : X.mg "range" = none) (ha : PA X [a, b] (rA X.K W ms)) (hs : noStar a = true) (hs2 : noStar b = true) : PI X tg (.Call (.Name "range" p) [a, b] [] pos) (rI X.K W (mRng2 ms)) := by
  refine PI.imp (pi_range2 hg hm ha (by rw [star_each hs, star_each hs2]; rfl) (star_each hs2)) fun σ H R q => ?_
  obtain ⟨r, env, h, Rh, E, p⟩ := q
  refine ⟨r, env, h, Rh, E, p.bind.imp fun vs h1 r1 H1 e1 R1 p1 us rus => ?_⟩
  unfold gRng2 at p1
  split at p1
  · split at p1
    · rename_i i j hz
      obtain ⟨u, v, rfl, q1, q2⟩ := rus.two_
      obtain ⟨b1, b2⟩ := inRg_b hz.1
      obtain ⟨b3, b4⟩ := inRg_b hz.2
      exact ⟨i, j, by rw [q1.int_, q2.int_], ⟨b1, b2, b3, b4⟩, p1.here R1 _ (.inr (.inr ⟨i, _, rfl, rfl⟩))⟩
    · exact p1.elim
  · exact p1.elim
theorem pi_zipM (hg : Gl X "zip") (hm : X.mg "zip" = none) (ha : PA X [a, b] (rA X.K W ms)) (hs : noStar a = true) (hs2 : noStar b = true) : PI X (.Tuple elts kk tpos) (.Call (.Name "zip" p) [a, b] [] pos) (rI X.K W (mZip ms)) := by
  refine PI.imp (pi_zip hg hm ha (star_each hs) (star_any (es := [b]) (by simp [hs2]))) fun σ H R q => ?_
  obtain ⟨r, env, h, Rh, E, p⟩ := q
  refine ⟨r, env, h, Rh, E, p.bind.imp fun vs h1 r1 H1 e1 R1 p1 us rus => ?_⟩
  unfold gZip at p1
  split at p1
  · split at p1
    · rename_i m n hz
      obtain ⟨u, v, rfl, q1, q2⟩ := rus.two_
      obtain ⟨a1, f1, rfl⟩ := q1.ref_
      obtain ⟨a2, f2, rfl⟩ := q2.ref_
      obtain ⟨xs, ex⟩ := Option.isSome_iff_exists.mp hz.1
      obtain ⟨ys, ey⟩ := Option.isSome_iff_exists.mp hz.2
      obtain ⟨vs, g1, g2⟩ := R1.seq f1 ex
      obtain ⟨ws, g3, g4⟩ := R1.seq f2 ey
      exact ⟨a1, a2, vs, ws, rfl, g1, g3, p1.here R1 _ ⟨a1, a2, f1, f2, rfl⟩⟩
    · exact p1.elim
  · exact p1.elim
theorem pi_enumM (hg : Gl X "enumerate") (hm : X.mg "enumerate" = none) (ha : PA X [a] (rA X.K W ms)) (hs : noStar a = true) : PI X (.Tuple elts kk tpos) (.Call (.Name "enumerate" p) [a] [] pos) (rI X.K W (mEnum ms)) := by
  refine PI.imp (pi_enum hg hm ha (star_each hs)) fun σ H R q => ?_
  obtain ⟨r, env, h, Rh, E, p⟩ := q
  refine ⟨r, env, h, Rh, E, p.bind.imp fun vs h1 r1 H1 e1 R1 p1 us rus => ?_⟩
  unfold gEnum at p1
  split at p1
  · split at p1
    · rename_i n hz
      obtain ⟨u, rfl, q1⟩ := rus.one_
      obtain ⟨a1, f1, rfl⟩ := q1.ref_
      obtain ⟨xs, ex⟩ := Option.isSome_iff_exists.mp hz
      obtain ⟨vs, g1, g2⟩ := R1.seq f1 ex
      exact ⟨a1, vs, rfl, g1, p1.here R1 _ ⟨a1, f1, rfl⟩⟩
    · exact p1.elim
  · exact p1.elim
end

/-! ### comprehensions -/
def Out.calm {α : Type} : Out α → Out α
  | .ok a h => .ok a h
  | _ => .bad
/-- the items so far, the block's names forgotten ahead of each turn -/
def lcL (g : Tg) (cond : MT) (elt : ME) (it : Itv) (env : Ev) : Nat → Nat → List Vl → Hs → Out (List Vl)
  | 0, i, acc, h => match stp it i h with
    | some none => .ok acc h
    | _ => .bad
  | k + 1, i, acc, h => match stp it i h with
    | some none => .ok acc h
    | some (some x) => match bindT g x env h with
      | some env1 => match cond env1 h with
        | .ok true h1 => match elt env1 h1 with
          | .ok y h2 => if acc.length < bigN then lcL g cond elt it env k (i + 1) (acc ++ [y]) h2 else .bad
          | _ => .bad
        | .ok false h1 => lcL g cond elt it env k (i + 1) acc h1
        | _ => .bad
      | none => .bad
    | none => .bad
def mLc (mi : MI) (g : Tg) (cond : MT) (elt : ME) (own : List Nat) : ME := fun env h => (mi env h).bind fun it h1 =>
  (lcL g cond elt it (wipeE env own) (itLen it h1) 0 [] h1).calm.bind fun acc h2 => .ok (.ref h2.length) (h2 ++ [.lst acc])
abbrev W0 : WX := fun _ _ _ _ => False
theorem rE_lc {K : Fg} {W : WX} {mi : MI} {g : Tg} {cond : MT} {elt : ME} {own : List Nat} (hg : ∀ i ∈ g.slots, i ∈ own) {σ : L2.St} {H : Hp} {Q : VK} (q : rE K W (mLc mi g cond elt own) σ H Q) :
    tLc (rI K W mi) (rG K g) (rT K W0 cond) (rE K W0 elt) own σ H Q := by
  obtain ⟨r, env, h, R, E, p⟩ := q
  refine ⟨r, env, h, R, E, p.bind.imp fun it h1 r1 H1 e1 R1 p1 J rj D hD => ?_⟩
  -- what the rest of the walk must come to
  let Fin : Out (List Vl) → Prop := fun o => match o with
    | .ok acc hf => ∀ r2 H2 us, Ext r1 r2 H1 H2 → RH K r2 hf H2 → H2 D = some (.lst us) → D ∉ r2 → RVs K r2 H2 acc us → Q (.ref D) H2
    | _ => False
  let Wv : Nat → Nat → Hp → Prop := fun i m H' => ∃ r' h' acc us, Ext r1 r' H1 H' ∧ RH K r' h' H' ∧ H' D = some (.lst us) ∧ D ∉ r' ∧ RVs K r' H' acc us ∧ Fin (lcL g cond elt it (wipeE env own) m i acc h')
  have hDr : D ∉ r1 := fun hm => by
    obtain ⟨n, hn⟩ := List.mem_iff_getElem?.mp hm
    have hl : n < h1.length := by rw [← R1.len]; exact (List.getElem?_eq_some_iff.mp hn).1
    have ob := R1.ob n _ D (List.getElem?_eq_getElem hl) hn
    exact ob.alive hD
  have start : Fin (lcL g cond elt it (wipeE env own) (itLen it h1) 0 [] h1) := by
    cases e : lcL g cond elt it (wipeE env own) (itLen it h1) 0 [] h1 with
    | ok acc hf =>
      rw [e] at p1
      intro r2 H2 us x2 R2 hd nd rv
      have R3 := R2.adopt hd nd rv
      refine p1 (r2 ++ [D]) H2 (x2.adopt hD) R3 _ (.ofRef ?_)
      rw [← R2.len]; simp
    | ex c fs hf => rw [e] at p1; exact p1.elim
    | bad => rw [e] at p1; exact p1.elim
  refine ⟨Wv, ⟨_, r1, h1, [], [], (Ext.refl r1 H1).side hD, ?_, upd_same, hDr, RVs.nil, start⟩, ?_⟩
  · exact R1.new hD
  · rintro i m H' ⟨r', h', acc, us, x', R', hd, nd, rv, fin⟩
    have rj' := rj.ext x'
    have E' := ((E.ext e1).ext x').wipe own
    have stop : ∀ (e : stp it i h' = some none) (fin : Fin (.ok acc h')), J.stop i H' ∧ Q (.ref D) H' := fun e fin => ⟨stp_end R' rj' e, fin r' H' us x' R' hd nd rv⟩
    cases m with
    | zero =>
      unfold lcL at fin
      split at fin
      · rename_i e; exact .inl (stop e fin)
      · exact fin.elim
    | succ m =>
      unfold lcL at fin
      split at fin
      · rename_i e; exact .inl (stop e fin)
      · rename_i x e
        obtain ⟨go, yl⟩ := stp_go R' rj' e
        refine .inr ⟨go, fun H'' => Wv (i + 1) m H'', fun H'' w => ⟨m, Nat.lt_succ_self m, w⟩, fun v H2 y => ?_⟩
        obtain ⟨x2, R2, rx⟩ := yl v H2 y
        obtain ⟨hd2, nd2⟩ := x2.off hd nd
        split at fin
        · rename_i env1 eb
          refine ⟨r', wipeE env own, h', x, env1, R2, E'.ext x2, rx, eb, fun σ' Eσ kw => ⟨(kw own hg).trans wipe_twice, ?_⟩⟩
          refine ⟨r', env1, h', R2, Eσ, ?_⟩
          split at fin
          · rename_i h3 ec
            rw [ec]
            intro r3 H3 x3 R3
            obtain ⟨hd3, nd3⟩ := x3.off hd2 nd2
            show rE K W0 elt σ' H3 _
            refine ⟨r3, env1, h3, R3, Eσ.ext x3, ?_⟩
            split at fin
            · rename_i y1 h4 ee
              rw [ee]
              intro r4 H4 x4 R4 w rw_
              obtain ⟨hd4, nd4⟩ := x4.off hd3 nd3
              split at fin
              · rename_i hz
                have x14 := (x'.trans x2).trans (x3.trans x4)
                refine ⟨us, hd4, by rw [rv.length]; exact Nat.lt_of_lt_of_le hz big_line, r4, h4, acc ++ [y1], us ++ [w], x14.side hD, R4.side hd4 nd4, upd_same, nd4, ?_, fin⟩
                exact (((rv.ext x2).ext (x3.trans x4)).append (RVs.one rw_)).wk (wk_side hd4)
              · exact fin.elim
            · exact fin.elim
          · rename_i h3 ec
            rw [ec]
            intro r3 H3 x3 R3
            obtain ⟨hd3, nd3⟩ := x3.off hd2 nd2
            show Wv (i + 1) m H3
            exact ⟨r3, h3, acc, us, (x'.trans x2).trans x3, R3, hd3, nd3, (rv.ext x2).ext x3, fin⟩
          · exact fin.elim
        · exact fin.elim
      · exact fin.elim
section
variable {X : Cx} {W : WX} {elt tg iter : Expr} {ifs : List Expr} {scope : Scope} {own : List (Str × Nat)} {pos spos py : Pos} {mi : MI} {g : Tg} {cond : MT} {me : ME}
theorem pe_lcM (hc : X.calm = true) (nd : X.N.Nodup) (hi : PI X tg iter (rI X.K W mi)) (ok : BlkOk X.N X.env.scope scope own) (hin : ∀ i ∈ g.slots, i ∈ own.map (·.2))
    (hb : ∀ (s : Shared) (H : Hp) (C : Addr) (cl : List (Str × Addr)) (fp : List Addr), PG (X.blk s H scope (compEnvC scope cl C X.env) fp) tg (rG X.K g) ∧ PTs (X.blk s H scope (compEnvC scope cl C X.env) fp) ifs (rT X.K W0 cond) ∧ PE (X.blk s H scope (compEnvC scope cl C X.env) fp) elt (rE X.K W0 me))
    (hs : noStar iter = true) : PE X (.ListComp elt [⟨tg, iter, ifs, 0⟩] scope pos) (rE X.K W (mLc mi g cond me (own.map (·.2)))) :=
  PE.imp (pe_lc hc nd hi ok (fun s H C cl fp => (hb s H C cl fp).1) (fun s H C cl fp => (hb s H C cl fp).2.1) (fun s H C cl fp => (hb s H C cl fp).2.2) (fold_plain hs)) fun _ _ _ q => rE_lc hin q
end
end Mi

/-! A9: statements. -/
namespace Mi
open PySem PySem.Spec L2

inductive SO where
  | nx (env : Ev) (h : Hs) | rt (v : Vl) (h : Hs) | bk (env : Ev) (h : Hs) | ct (env : Ev) (h : Hs) | ex (c : Nat) (fs : List (Nat × Vl)) (env : Ev) (h : Hs) | bad
abbrev MS := Ev → Hs → SO
def Sst (K : Fg) (r : List Addr) (H : Hp) (W : WX) (D : Ends) : SO → Prop
  | .nx env h => ∀ r' H' σ', Ext r r' H H' → RH K r' h H' → RE K r' H' env σ' → D.nx σ' H'
  | .rt v h => ∀ r' H' u, Ext r r' H H' → RH K r' h H' → RV K r' H' v u → D.rt u H'
  | .bk env h => ∀ r' H' σ', Ext r r' H H' → RH K r' h H' → RE K r' H' env σ' → D.bk σ' H'
  | .ct env h => ∀ r' H' σ', Ext r r' H H' → RH K r' h H' → RE K r' H' env σ' → D.ct σ' H'
  | .ex c fs env h => ∀ r' H' σ' cls d, Ext r r' H H' → RH K r' h H' → RE K r' H' env σ' → RX K r' H' c fs cls d → W cls d σ' H'
  | .bad => False
theorem Sst.later {K : Fg} {r r1 : List Addr} {H H1 : Hp} {W : WX} {D : Ends} {x : SO} (e : Ext r r1 H H1) (p : Sst K r H W D x) : Sst K r1 H1 W D x := by
  cases x with
  | nx env h => exact fun r' H' σ' x => p r' H' σ' (e.trans x)
  | rt v h => exact fun r' H' u x => p r' H' u (e.trans x)
  | bk env h => exact fun r' H' σ' x => p r' H' σ' (e.trans x)
  | ct env h => exact fun r' H' σ' x => p r' H' σ' (e.trans x)
  | ex c fs env h => exact fun r' H' σ' cls d x => p r' H' σ' cls d (e.trans x)
  | bad => exact p
def rS (K : Fg) (W : WX) (m : MS) : TS := fun D σ H => ∃ r env h, RH K r h H ∧ RE K r H env σ ∧ Sst K r H W D (m env h)
/-- a value, then what is done with it -/
def Out.seq {α : Type} (x : Out α) (env : Ev) (k : α → Hs → SO) : SO := match x with
  | .ok a h => k a h
  | .ex c fs h => .ex c fs env h
  | .bad => .bad
@[simp] theorem Out.seq_ok {α : Type} (a : α) (h : Hs) (env : Ev) (k : α → Hs → SO) : (Out.ok a h).seq env k = k a h := rfl
theorem Sst.ofOut {α : Type} {K : Fg} {r : List Addr} {H : Hp} {W : WX} {D : Ends} {σ : L2.St} {x : Out α} {env : Ev} {k : α → Hs → SO} (p : Sst K r H W D (x.seq env k)) (E : RE K r H env σ) :
    Pst K r H W σ (fun a h1 r1 H1 => Sst K r1 H1 W D (k a h1)) x := by
  cases x with
  | ok a h => exact fun r' H' x R => Sst.later x (show Sst K r H W D (k a h) from p)
  | ex c fs h => exact fun r' H' cls d x R q => p r' H' σ cls d x R (E.ext x) q
  | bad => exact p
theorem Sst.here {K : Fg} {r : List Addr} {H : Hp} {W : WX} {D : Ends} {σ : L2.St} {env : Ev} {h : Hs} (R : RH K r h H) (E : RE K r H env σ) (p : Sst K r H W D (.nx env h)) : D.nx σ H := p r H σ (Ext.refl _ _) R E
def sSeq (a b : MS) : MS := fun env h => match a env h with
  | .nx e h1 => b e h1
  | o => o
def sNil : MS := fun env h => .nx env h
def sExpr (m : ME) : MS := fun env h => (m env h).seq env fun _ h1 => .nx env h1
def sRet (m : ME) : MS := fun env h => (m env h).seq env fun v h1 => .rt v h1
def sRetN : MS := fun _ h => .rt .non h
def sIf (c : MT) (a b : MS) : MS := fun env h => (c env h).seq env fun k h1 => if k = true then a env h1 else b env h1
def sBrk : MS := fun env h => .bk env h
def sCnt : MS := fun env h => .ct env h
def sAsg (g : Tg) (m : ME) : MS := fun env h => (m env h).seq env fun v h1 => match bindT g v env h1 with
  | some e => .nx e h1
  | none => .bad
def sPar (i j : Nat) (ms : MA) : MS := fun env h => (ms env h).seq env fun vs h1 => match vs with
  | [v, w] => .nx ((env.set i (some v)).set j (some w)) h1
  | _ => .bad
def sFldM (ok : Flds) (mo : ME) (f : Nat) (mv : ME) : MS := fun env h => (mv env h).seq env fun y h1 => (mo env h1).seq env fun x h2 => match x with
  | .ref n => match h2[n]? with
    | some (.ins c fs) => if ok c f = true ∧ fs.length < 100 then .nx env (h2.set n (.ins c (setN fs f y))) else .bad
    | _ => .bad
  | _ => .bad
def gSetI (x i y : Vl) (h : Hs) : Option Hs := match x with
  | .ref n => match h[n]? with
    | some (.lst xs) => match i with
      | .int k => match ixN xs.length k with
        | some j => some (h.set n (.lst (xs.set j y)))
        | none => none
      | _ => none
    | some (.dic kvs) => match keyOf i with
      | some k => if decide (kvs.length < bigN) && nodupK kvs then some (h.set n (.dic (setK kvs k y))) else none
      | none => none
    | _ => none
  | _ => none
def sSetI (mo mi mv : ME) : MS := fun env h => (mv env h).seq env fun y h1 => (mo env h1).seq env fun x h2 => (mi env h2).seq env fun i h3 => match gSetI x i y h3 with
  | some h4 => .nx env h4
  | none => .bad
theorem PS.imp {X : Cx} {st : Stmt} {t u : TS} (h : PS X st t) (k : ∀ D σ H, u D σ H → t D σ H) : PS X st u := ⟨fun pins s σ H D I q => h.run pins s σ H D I (k D σ H q)⟩
theorem PSs.imp {X : Cx} {st : List Stmt} {t u : TS} (h : PSs X st t) (k : ∀ D σ H, u D σ H → t D σ H) : PSs X st u := ⟨fun pins s σ H D I q => h.run pins s σ H D I (k D σ H q)⟩
section
variable {X : Cx} {W : WX} {pos pos' : Pos} {e : Expr} {st : Stmt} {rest a b : List Stmt} {m mv mo mi : ME} {ma mb : MS} {c : Expr} {mc : MT}
theorem pss_nilM : PSs X [] (rS X.K W sNil) := PSs.imp pss_nil fun D σ H q => by
  obtain ⟨r, env, h, R, E, p⟩ := q
  exact p.here R E
theorem seq_rS {K : Fg} {D : Ends} {σ : L2.St} {H : Hp} (q : rS K W (sSeq ma mb) D σ H) : tSeq (rS K W ma) (rS K W mb) D σ H := by
  obtain ⟨r, env, h, R, E, p⟩ := q
  refine ⟨r, env, h, R, E, ?_⟩
  unfold sSeq at p
  cases e : ma env h with
  | nx e1 h1 =>
    rw [e] at p
    exact fun r' H' σ' x R' E' => ⟨r', e1, h1, R', E', Sst.later x p⟩
  | rt v h1 => rw [e] at p; exact p
  | bk e1 h1 => rw [e] at p; exact p
  | ct e1 h1 => rw [e] at p; exact p
  | ex c fs e1 h1 => rw [e] at p; exact p
  | bad => rw [e] at p; exact p
theorem pss_consM (h1 : PS X st (rS X.K W ma)) (h2 : PSs X rest (rS X.K W mb)) : PSs X (st :: rest) (rS X.K W (sSeq ma mb)) := PSs.imp (pss_cons h1 h2) fun D σ H q => seq_rS q
theorem ps_passM : PS X (.Pass pos) (rS X.K W sNil) := PS.imp ps_pass fun D σ H q => by
  obtain ⟨r, env, h, R, E, p⟩ := q
  exact p.here R E
theorem ps_brkM : PS X (.Break pos) (rS X.K W sBrk) := PS.imp ps_break fun D σ H q => by
  obtain ⟨r, env, h, R, E, p⟩ := q
  exact p r H σ (Ext.refl _ _) R E
theorem ps_cntM : PS X (.Continue pos) (rS X.K W sCnt) := PS.imp ps_continue fun D σ H q => by
  obtain ⟨r, env, h, R, E, p⟩ := q
  exact p r H σ (Ext.refl _ _) R E
theorem ps_exprM (he : PE X e (rE X.K W m)) (hn : noComp e = true) : PS X (.Expr e pos) (rS X.K W (sExpr m)) := PS.imp (ps_expr he (swaps_none hn)) fun D σ H q => by
  obtain ⟨r, env, h, R, E, p⟩ := q
  exact ⟨r, env, h, R, E, (p.ofOut E).imp fun x h1 r1 H1 e1 R1 p1 u ru => p1.here R1 (E.ext e1)⟩
theorem ps_retM (he : PE X e (rE X.K W m)) : PS X (.Return (some e) pos) (rS X.K W (sRet m)) := PS.imp (ps_ret he) fun D σ H q => by
  obtain ⟨r, env, h, R, E, p⟩ := q
  exact ⟨r, env, h, R, E, (p.ofOut E).imp fun x h1 r1 H1 e1 R1 p1 u ru => p1 r1 H1 u (Ext.refl _ _) R1 ru⟩
theorem ps_retNM : PS X (.Return none pos) (rS X.K W sRetN) := PS.imp ps_retN fun D σ H q => by
  obtain ⟨r, env, h, R, E, p⟩ := q
  exact p r H .non (Ext.refl _ _) R .ofNon
theorem ps_ifM (hc : PT X c (rT X.K W mc)) (ha : PSs X a (rS X.K W ma)) (hb : PSs X b (rS X.K W mb)) : PS X (.If c a b pos) (rS X.K W (sIf mc ma mb)) := PS.imp (ps_if hc ha hb) fun D σ H q => by
  obtain ⟨r, env, h, R, E, p⟩ := q
  refine ⟨r, env, h, R, E, (p.ofOut E).imp fun k h1 r1 H1 e1 R1 p1 => ?_⟩
  cases k with
  | true => exact ⟨r1, env, h1, R1, E.ext e1, p1⟩
  | false => exact ⟨r1, env, h1, R1, E.ext e1, p1⟩
theorem asg_rS {K : Fg} {g : Tg} {D : Ends} {σ : L2.St} {H : Hp} (q : rS K W (sAsg g m) D σ H) : tAsg (rE K W m) (rG K g) D σ H := by
  obtain ⟨r, env, h, R, E, p⟩ := q
  refine ⟨r, env, h, R, E, (p.ofOut E).imp fun x h1 r1 H1 e1 R1 p1 u ru => ?_⟩
  split at p1
  · rename_i env1 eb
    exact ⟨r1, env, h1, x, env1, R1, E.ext e1, ru, eb, fun σ' E' _ => p1 r1 H1 σ' (Ext.refl _ _) R1 E'⟩
  · exact p1.elim
theorem asg1_rS {K : Fg} {i : Nat} {D : Ends} {σ : L2.St} {H : Hp} (q : rS K W (sAsg (.one i) m) D σ H) : tAsg (rE K W m) (gName i) D σ H := by
  obtain ⟨r, env, h, R, E, p⟩ := q
  exact ⟨r, env, h, R, E, (p.ofOut E).imp fun x h1 r1 H1 e1 R1 p1 u ru => p1 r1 H1 _ (Ext.refl _ _) R1 ((E.ext e1).set ru i)⟩
/-- name = e, e no comprehension -/
theorem ps_setM {x : Str} {i : Nat} (nd : X.N.Nodup) (hi : X.N[i]? = some x) (hx : Loc X.env.scope x) (he : PE X e (rE X.K W m)) (hn : noComp e = true) (hf : X.fn x = true ∨ X.env.scope.names.lookup x = some .local) :
    PS X (.Assign [.Name x pos'] e pos) (rS X.K W (sAsg (.one i) m)) := PS.imp (ps_set nd hi hx he (swaps_none hn) hf) fun D σ H q => asg1_rS q
def noTup : Expr → Bool
  | .Tuple _ _ _ => false
  | _ => true
theorem swapped_no {ts : List Expr} {k : Nat} {p : Pos} {env : Env} (hn : noTup e = true) : swappedStores [.Tuple ts k p] e env = pure none := by
  cases e <;> first | rfl | cases hn
theorem sole_no {ts : List Expr} {k : Nat} {p : Pos} {env : Env} {l : Nat} : swapsWithSole [.Tuple ts k p] e l env = pure false := by
  cases e <;> rfl
theorem ps_tupM {es : List Expr} {k : Nat} {is : List Nat} (hc : X.calm = true) (nd : X.N.Nodup) (hs : NmsOk X es is) (he : PE X e (rE X.K W m)) (hn : noTup e = true) :
    PS X (.Assign [.Tuple es k pos'] e pos) (rS X.K W (sAsg (.many is) m)) := PS.imp (ps_asg he (pg_many hc nd hs) sole_no (swapped_no hn)) fun D σ H q => asg_rS q
theorem ps_parM {i j : Nat} {x y : Str} {e1 e2 : Expr} {ms : MA} {px py pt pt2 : Pos} {kt k2 : Nat} (hc : X.calm = true) (hN : X.N.Nodup) (hi : X.N[i]? = some x) (hj : X.N[j]? = some y) (hij : i ≠ j)
    (hx : X.env.scope.names.lookup x = some .local) (hy : X.env.scope.names.lookup y = some .local) (ha : PA X [e1, e2] (rA X.K W ms))
    (hw : swappedStores [.Tuple [.Name x px, .Name y py] kt pt] (.Tuple [e1, e2] k2 pt2) X.env = pure (some [x, y])) :
    PS X (.Assign [.Tuple [.Name x px, .Name y py] kt pt] (.Tuple [e1, e2] k2 pt2) pos) (rS X.K W (sPar i j ms)) := PS.imp (ps_par hc hN hi hj hij hx hy ha hw) fun D σ H q => by
  obtain ⟨r, env, h, R, E, p⟩ := q
  refine ⟨r, env, h, R, E, (p.ofOut E).imp fun vs h1 r1 H1 e1 R1 p1 us rus => ?_⟩
  split at p1
  · rename_i v w
    obtain ⟨u1, u2, rfl, q1, q2⟩ := rus.two_
    exact ⟨u1, u2, rfl, p1 r1 H1 _ (Ext.refl _ _) R1 (((E.ext e1).set q1 i).set q2 j)⟩
  · exact p1.elim
/-- o.f = e -/
theorem ps_fldM {o : Expr} {f : Nat} {x : Str} {ok : Flds} (F : FldOk X.K ok) (hx : x = nm f) (ho : PE X o (rE X.K W mo)) (he : PE X e (rE X.K W mv)) : PS X (.Assign [.Attribute o x pos'] e pos) (rS X.K W (sFldM ok mo f mv)) := by
  subst hx
  refine PS.imp (ps_fld ho he swaps_attr) fun D σ H q => ?_
  obtain ⟨r, env, h, R, E, p⟩ := q
  refine ⟨r, env, h, R, E, (p.ofOut E).imp fun y h1 r1 H1 e1 R1 p1 u ru => ?_⟩
  refine ⟨r1, env, h1, R1, E.ext e1, (p1.ofOut (E.ext e1)).imp fun x h2 r2 H2 e2 R2 p2 v rv => ?_⟩
  split at p2
  · split at p2
    · split at p2
      · rename_i n _ c fs eo hz
        obtain ⟨a, q1, rfl⟩ := rv.ref_
        obtain ⟨dx, vs, h3, h4⟩ := R2.ins q1 eo
        obtain ⟨k1, k2⟩ := F c f hz.1
        have ru2 := ru.ext e2
        refine ⟨a, _, dx, vs, rfl, h3, k1, k2, by rw [h4.len]; exact Nat.lt_trans hz.2 (by decide), ?_⟩
        have x3 := ext_put (o := .ins (He.ga X.K (nm c)) dx (putF (nm f) u vs)) R2 eo q1 rfl
        exact p2 r2 _ σ x3 (R2.put eo q1 rfl ⟨dx, _, upd_same, (h4.put ru2).ext x3⟩ rfl) (((E.ext e1).ext e2).ext x3)
      · exact p2.elim
    · exact p2.elim
  · exact p2.elim
theorem PSet.or {t u : TSet} (h : PSet X t) (h' : PSet X u) : PSet X (fun o i v H Q => t o i v H Q ∨ u o i v H Q) :=
  fun pins s σ H o i v ov iv w Q I ro ri rv q => q.elim (fun q => h pins s σ H o i v ov iv w Q I ro ri rv q) fun q => h' pins s σ H o i v ov iv w Q I ro ri rv q
theorem gSetI_ok {K : Fg} {r : List Addr} {h h' : Hs} {H : Hp} {x i y : Vl} {u v w : V} {Q : Hp → Prop} (R : RH K r h H) (rx : RV K r H x u) (ri : RV K r H i v) (ry : RV K r H y w) (e : gSetI x i y h = some h')
    (q : ∀ H', Ext r r H H' → RH K r h' H' → Q H') : rSetL u v w H Q ∨ rSetD u v w H Q := by
  unfold gSetI at e
  split at e
  · split at e
    · split at e
      · split at e
        · rename_i n _ xs eo _ k _ j ej
          cases e
          obtain ⟨a, q1, rfl⟩ := rx.ref_
          obtain ⟨vs, h1, h2⟩ := R.lst q1 eo
          have x1 := ext_put (o := .lst (vs.set j w)) R eo q1 rfl
          exact .inl ⟨a, vs, k, j, rfl, ri.int_, h1, by rw [h2.length]; exact ej, q _ x1 (R.put eo q1 rfl ⟨_, upd_same, (h2.set j ry).ext x1⟩ rfl)⟩
        · cases e
      · cases e
    · split at e
      · split at e
        · rename_i n _ kvs eo _ k ek hz
          cases e
          rw [Bool.and_eq_true, decide_eq_true_eq] at hz
          obtain ⟨a, q1, rfl⟩ := rx.ref_
          obtain ⟨vs, h1, h2⟩ := R.dic q1 eo
          obtain ⟨x1, x2⟩ := ext_putD R q1 eo (RF.put (k := k) ry h2 (of_decide_eq_true hz.2))
          exact .inr ⟨a, _, rfl, by rw [keyOf_v ri ek]; exact DPut.k h1 (by rw [h2.length]; exact Nat.lt_of_lt_of_le hz.1 big_line), q _ x1 x2⟩
        · cases e
      · cases e
    · cases e
  · cases e
theorem ps_setIM {o i : Expr} (hu : X.A.units + 1 < cLine) (ho : PE X o (rE X.K W mo)) (hi : PE X i (rE X.K W mi)) (hn : noStar i = true) (he : PE X e (rE X.K W mv)) : PS X (.Assign [.Subscript o i pos'] e pos) (rS X.K W (sSetI mo mi mv)) := by
  refine PS.imp (ps_asg he (pg_sub ho hi (PSet.or set_list (set_dict hu)) (by intro v; cases i <;> first | rfl | cases hn)) (by cases e <;> rfl) (by cases e <;> rfl)) fun D σ H q => ?_
  obtain ⟨r, env, h, R, E, p⟩ := q
  refine ⟨r, env, h, R, E, (p.ofOut E).imp fun y h1 r1 H1 e1 R1 p1 u ru => ?_⟩
  refine ⟨r1, env, h1, R1, E.ext e1, (p1.ofOut (E.ext e1)).imp fun x h2 r2 H2 e2 R2 p2 v rv => ?_⟩
  refine ⟨r2, env, h2, R2, (E.ext e1).ext e2, (p2.ofOut ((E.ext e1).ext e2)).imp fun z h3 r3 H3 e3 R3 p3 w rw => ?_⟩
  split at p3
  · rename_i h4 eg
    exact gSetI_ok R3 (rv.ext e3) rw (ru.ext (e2.trans e3)) eg fun H' x R' => p3 r3 H' σ x R' ((((E.ext e1).ext e2).ext e3).ext x)
  · exact p3.elim
end

/-! ### loops -/
def forL (g : Tg) (it : Itv) (b : MS) : Nat → Nat → Ev → Hs → SO
  | 0, i, env, h => match stp it i h with
    | some none => .nx env h
    | _ => .bad
  | k + 1, i, env, h => match stp it i h with
    | some none => .nx env h
    | some (some x) => match bindT g x env h with
      | some env1 => match b env1 h with
        | .nx e h1 => forL g it b k (i + 1) e h1
        | .ct e h1 => forL g it b k (i + 1) e h1
        | .bk e h1 => .nx e h1
        | .rt v h1 => .rt v h1
        | .ex c fs e h1 => .ex c fs e h1
        | .bad => .bad
      | none => .bad
    | none => .bad
def sFor (mi : MI) (g : Tg) (b : MS) : MS := fun env h => (mi env h).seq env fun it h1 => forL g it b (itLen it h1) 0 env h1
def whN (c : MT) (b : MS) : Nat → Ev → Hs → SO
  | 0, _, _ => .bad
  | k + 1, env, h => match c env h with
    | .ok true h1 => match b env h1 with
      | .nx e h2 => whN c b k e h2
      | .ct e h2 => whN c b k e h2
      | .bk e h2 => .nx e h2
      | .rt v h2 => .rt v h2
      | .ex c fs e h2 => .ex c fs e h2
      | .bad => .bad
    | .ok false h1 => .nx env h1
    | .ex c fs h1 => .ex c fs env h1
    | .bad => .bad
open Classical in
noncomputable def sWhile (c : MT) (b : MS) : MS := fun env h => if q : ∃ k, whN c b k env h ≠ .bad then whN c b q.choose env h else .bad
section
variable {X : Cx} {W : WX} {pos pos' : Pos} {tg iter c : Expr} {body : List Stmt} {mi : MI} {g : Tg} {mb : MS} {mc : MT}
theorem ps_forM (hp : PassesOwn (model X.prog X.w) X.A X.env X.xe) (hc : X.calm = true) (hi : PI X tg iter (rI X.K W mi)) (hg : PG X tg (rG X.K g)) (hb : PSs X body (rS X.K W mb)) (hs : noStar iter = true) :
    PS X (.For tg iter body [] pos) (rS X.K W (sFor mi g mb)) := by
  refine PS.imp (ps_for hp hc hi hg hb (fold_plain hs)) fun D σ H q => ?_
  obtain ⟨r, env, h, R, E, p⟩ := q
  refine ⟨r, env, h, R, E, (p.ofOut E).imp fun it h1 r1 H1 e1 R1 p1 J rj => ?_⟩
  refine ⟨fun i m σ' H' => ∃ r' env' h', Ext r1 r' H1 H' ∧ RH X.K r' h' H' ∧ RE X.K r' H' env' σ' ∧ Sst X.K r' H' W D (forL g it mb m i env' h'), ⟨_, r1, env, h1, Ext.refl _ _, R1, E.ext e1, p1⟩, ?_⟩
  rintro i m σ' H' ⟨r', env', h', x', R', E', fin⟩
  have rj' := rj.ext x'
  cases m with
  | zero =>
    unfold forL at fin
    split at fin
    · rename_i e; exact .inl ⟨stp_end R' rj' e, fin.here R' E'⟩
    · exact fin.elim
  | succ m =>
    unfold forL at fin
    split at fin
    · rename_i e; exact .inl ⟨stp_end R' rj' e, fin.here R' E'⟩
    · rename_i x e
      obtain ⟨go, yl⟩ := stp_go R' rj' e
      let N : L2.St → Hp → Prop := fun σ2 H2 => ∃ r2 env2 h2, Ext r1 r2 H1 H2 ∧ RH X.K r2 h2 H2 ∧ RE X.K r2 H2 env2 σ2 ∧ Sst X.K r2 H2 W D (forL g it mb m (i + 1) env2 h2)
      refine .inr ⟨go, N, fun σ2 H2 w => ⟨m, Nat.lt_succ_self m, w⟩, fun v H2 y => ?_⟩
      obtain ⟨x2, R2, rx⟩ := yl v H2 y
      split at fin
      · rename_i env1 eb
        refine ⟨r', env', h', x, env1, R2, E'.ext x2, rx, eb, fun σ3 E3 _ => ⟨r', env1, h', R2, E3, ?_⟩⟩
        have fin2 := Sst.later x2 fin
        split at fin2
        · rename_i e2 h2 eb2
          rw [eb2]
          exact fun r3 H3 σ4 x3 R3 E4 => ⟨r3, e2, h2, (x'.trans x2).trans x3, R3, E4, Sst.later x3 fin2⟩
        · rename_i e2 h2 eb2
          rw [eb2]
          exact fun r3 H3 σ4 x3 R3 E4 => ⟨r3, e2, h2, (x'.trans x2).trans x3, R3, E4, Sst.later x3 fin2⟩
        · rename_i e2 h2 eb2
          rw [eb2]; exact fin2
        · rename_i e2 h2 eb2
          rw [eb2]; exact fin2
        · rename_i e2 h2 eb2
          rw [eb2]; exact fin2
        · exact fin2.elim
      · exact fin.elim
    · exact fin.elim
theorem ps_whileM (hp : PassesOwn (model X.prog X.w) X.A X.env X.xe) (hc : PT X c (rT X.K W mc)) (hb : PSs X body (rS X.K W mb)) : PS X (.While c body [] pos) (rS X.K W (sWhile mc mb)) := by
  refine PS.imp (ps_while hp hc hb) fun D σ H q => ?_
  obtain ⟨r, env, h, R, E, p⟩ := q
  unfold sWhile at p
  split at p
  · rename_i hk
    refine ⟨fun m σ' H' => ∃ r' env' h', RH X.K r' h' H' ∧ RE X.K r' H' env' σ' ∧ Sst X.K r' H' W D (whN mc mb m env' h'), ⟨_, r, env, h, R, E, p⟩, ?_⟩
    rintro m σ' H' ⟨r', env', h', R', E', fin⟩
    cases m with
    | zero => exact fin.elim
    | succ m =>
      refine ⟨r', env', h', R', E', ?_⟩
      unfold whN at fin
      split at fin
      · rename_i h1 ec
        rw [ec]
        intro r1 H1 x1 R1
        show ∃ N : L2.St → Hp → Prop, _
        refine ⟨fun σ2 H2 => ∃ r2 env2 h2, RH X.K r2 h2 H2 ∧ RE X.K r2 H2 env2 σ2 ∧ Sst X.K r2 H2 W D (whN mc mb m env2 h2), fun σ2 H2 w => ⟨m, Nat.lt_succ_self m, w⟩, r1, env', h1, R1, E'.ext x1, ?_⟩
        have fin2 := Sst.later x1 fin
        split at fin2
        · rename_i e2 h2 eb2
          rw [eb2]
          exact fun r3 H3 σ4 x3 R3 E4 => ⟨r3, e2, h2, R3, E4, Sst.later x3 fin2⟩
        · rename_i e2 h2 eb2
          rw [eb2]
          exact fun r3 H3 σ4 x3 R3 E4 => ⟨r3, e2, h2, R3, E4, Sst.later x3 fin2⟩
        · rename_i e2 h2 eb2
          rw [eb2]; exact fin2
        · rename_i e2 h2 eb2
          rw [eb2]; exact fin2
        · rename_i e2 h2 eb2
          rw [eb2]; exact fin2
        · exact fin2.elim
      · rename_i h1 ec
        rw [ec]
        exact fun r1 H1 x1 R1 => fin r1 H1 σ' x1 R1 (E'.ext x1)
      · rename_i cc fs h1 ec
        rw [ec]
        exact fun r1 H1 cls d x1 R1 rx => fin r1 H1 σ' cls d x1 R1 (E'.ext x1) rx
      · exact fin.elim
  · exact p.elim
end
/-- more turns change nothing -/
theorem whN_more {c : MT} {b : MS} : ∀ {k : Nat} {env : Ev} {h : Hs}, whN c b k env h ≠ .bad → whN c b (k + 1) env h = whN c b k env h
  | 0, env, h, q => absurd rfl q
  | k + 1, env, h, q => by
    rw [whN] at q
    rw [whN, whN]
    split at q
    · rename_i h1 e
      split at q
      · rename_i e2 h2 eb; exact whN_more q
      · rename_i e2 h2 eb; exact whN_more q
      · rfl
      · rfl
      · rfl
      · rfl
    · rfl
    · rfl
    · rfl
theorem whN_far {c : MT} {b : MS} {k : Nat} {env : Ev} {h : Hs} (q : whN c b k env h ≠ .bad) : ∀ j, whN c b (k + j) env h = whN c b k env h
  | 0 => rfl
  | j + 1 => by
    have i := whN_far q j
    rw [← i]
    exact whN_more (k := k + j) (fun z => q (i.symm.trans z))
theorem sWhile_of {c : MT} {b : MS} {k : Nat} {env : Ev} {h : Hs} (q : whN c b k env h ≠ .bad) : sWhile c b env h = whN c b k env h := by
  have z : ∃ k, whN c b k env h ≠ .bad := ⟨k, q⟩
  unfold sWhile
  rw [dif_pos z]
  have f1 := whN_far z.choose_spec k
  have f2 := whN_far q z.choose
  rw [Nat.add_comm] at f1
  exact f1.symm.trans f2
/-! ### name = [..] -/
section
variable {X : Cx} {W : WX} {elt tg iter : Expr} {ifs : List Expr} {scope : Scope} {own : List (Str × Nat)} {pos spos py : Pos} {mi : MI} {g : Tg} {cond : MT} {me : ME} {i : Nat} {y : Str}
theorem ps_setLcM (hc : X.calm = true) (nd : X.N.Nodup) (hy : X.N[i]? = some y) (hyl : X.env.scope.names.lookup y = some .local) (hf : X.fn y = true ∨ X.env.scope.names.lookup y = some .local)
    (hi : PI X tg iter (rI X.K W mi)) (ok : BlkOk X.N X.env.scope scope own) (hin : ∀ i ∈ g.slots, i ∈ own.map (·.2))
    (hb : ∀ (s : Shared) (H : Hp) (C : Addr) (cl : List (Str × Addr)) (fp : List Addr), PG (X.blk s H scope (compEnvC scope cl C X.env) fp) tg (rG X.K g) ∧ PTs (X.blk s H scope (compEnvC scope cl C X.env) fp) ifs (rT X.K W0 cond) ∧ PE (X.blk s H scope (compEnvC scope cl C X.env) fp) elt (rE X.K W0 me))
    (hs : noStar iter = true) : PS X (.Assign [.Name y py] (.ListComp elt [⟨tg, iter, ifs, 0⟩] scope pos) spos) (rS X.K W (sAsg (.one i) (mLc mi g cond me (own.map (·.2))))) := by
  have sw : ∃ b, swapsWith (.ListComp elt [⟨tg, iter, ifs, 0⟩] scope pos) (some (.Name y py)) spos.line X.env = pure b := ⟨_, rfl⟩
  obtain ⟨b, sw⟩ := sw
  cases b with
  | true =>
    refine PS.imp (ps_setLc hc nd hy hyl sw hi ok (fun s H C cl fp => (hb s H C cl fp).1) (fun s H C cl fp => (hb s H C cl fp).2.1) (fun s H C cl fp => (hb s H C cl fp).2.2) (fold_plain hs)) fun D σ H q => ?_
    exact rE_lc hin (asg1_rS q)
  | false =>
    exact PS.imp (ps_set nd hy (.inl hyl) (pe_lcM hc nd hi ok hin hb hs) sw hf) fun D σ H q => asg1_rS q
end
end Mi

/-! A10: refusals, try, isinstance. -/
namespace Mi
open PySem PySem.Spec L2

/-- raise C('..') -/
def sRaise (c : Nat) : MS := fun env h => .ex c [] env h
theorem ps_raiseM {X : Cx} {W : WX} {x m : Str} {j c : Nat} {p p2 pos pos' : Pos} (hc : X.calm = true) (tk : Takes X W) (q : PySem.W.excIn X.K (He.ga X.K (nm c)) He.veBase "ValueError.__new__" = true) (gC : X.mg x = some (.ref (He.ga X.K (nm c))))
    (kC : PySem.W.keepIn X.K (.ref (He.ga X.K (nm c))) = true) (r : Raises X (.ref (He.ga X.K (nm c)))) (hg : Gl X x) (hdb : (x == ("__debug__" : Str)) = false) :
    PS X (.Raise (some (.Call (.Name x p) [.Constant (.str m) j p2] [] pos)) none pos') (rS X.K W (sRaise c)) :=
  PS.imp (ps_raise hc tk (pmk_own F.excBase_ValueError q gC kC r hg hdb)) fun D σ H z => by
    obtain ⟨rr, env, h, R, E, p⟩ := z
    exact p rr H σ _ none (Ext.refl _ _) R E ⟨rfl, .inl ⟨rfl, rfl⟩⟩

/-! ### try: .. except C: name = True -/
abbrev Subs := Nat → Nat → Option Bool
def SubOk (K : Fg) (sub : Subs) : Prop := ∀ c' c b, sub c' c = some b → PySem.W.exmOne K (.ref (He.ga K (nm c'))) (.ref (He.ga K (nm c))) = some b
def sTrySet (sub : Subs) (b : MS) (c i : Nat) (v : Vl) : MS := fun env h => match b env h with
  | .ex c' fs e h1 => match sub c' c with
    | some true => .nx (e.set i (some v)) h1
    | some false => .ex c' fs e h1
    | none => .bad
  | o => o
section
variable {X : Cx} {W : WX} {x y : Str} {i c : Nat} {body : List Stmt} {mb : MS} {pos pos' pos2 np p1 p2 : Pos} {b : Bool} {j : Nat} {sub : Subs}
theorem ps_trySetM (S : SubOk X.K sub) (hs : X.stack = X.env :: X.outer) (hf : X.env.frame = some X.env.locals) (hc : Gl X x) (hx : X.mg x = some (.ref (He.ga X.K (nm c)))) (hdb : (x == ("__debug__" : Str)) = false) (tk : Takes X W)
    (nd : X.N.Nodup) (hi : X.N[i]? = some y) (hyl : X.env.scope.names.lookup y = some .local)
    (hb : ∀ (W : WX) (pn : List (Addr × Obj)) (xe : Value → Shared → Prop), Takes (X.tr pn xe) W → PassesOwn (model X.prog X.w) X.A X.env xe → PSs (X.tr pn xe) body (rS X.K W mb)) :
    PS X (.Try body [.ExceptHandler (some (.Name x np)) none [.Assign [.Name y p1] (.Constant (.bool b) j p2) pos2] pos'] [] [] pos) (rS X.K W (sTrySet sub mb c i (.bl b))) := by
  refine PS.imp (ps_try_only (Wout := W) (tb := fun W => rS X.K W mb) (ts := fun _ _ _ => tAsg (tC (.bl b)) (gName i)) hs hf ⟨hc, hdb, .inl hx⟩ tk hb fun a oe cls d pn _ _ => ?_) fun D σ H q => ?_
  · exact pss_one (ps_set (X := X.suite a ((a, oe) :: pn)) nd hi (.inl hyl) pe_bl rfl (.inr hyl))
  · obtain ⟨r, env, h, R, E, p⟩ := q
    refine ⟨r, env, h, R, E, ?_⟩
    unfold sTrySet at p
    cases e : mb env h with
    | nx e1 h1 => rw [e] at p; exact p
    | rt v h1 => rw [e] at p; exact p
    | bk e1 h1 => rw [e] at p; exact p
    | ct e1 h1 => rw [e] at p; exact p
    | bad => rw [e] at p; exact p
    | ex c' fs e1 h1 =>
      rw [e] at p
      intro r' H' σ' cls d x' R' E' rx
      simp only at p
      split at p
      · rename_i es
        refine ⟨true, by rw [rx.1]; exact S _ _ _ es, fun _ a ha => ?_, fun z => by cases z⟩
        exact p r' H' _ x' R' (E'.set (.ofBl b) i)
      · rename_i es
        exact ⟨false, by rw [rx.1]; exact S _ _ _ es, (fun z => by cases z), fun _ => p r' H' σ' cls d x' R' E' rx⟩
      · exact p.elim
end

/-! ### isinstance -/
inductive TyT where
  | b (n : Nat) | own (c : Nat)
  deriving DecidableEq
def bty : Nat → String
  | 0 => "NoneType"
  | 1 => "bool"
  | 2 => "int"
  | 3 => "str"
  | 4 => "list"
  | 5 => "tuple"
  | _ => "dict"
def tyVal (K : Fg) : TyT → Value
  | .b n => .type (bty n)
  | .own c => .ref (He.ga K (nm c))
def tyV_ (K : Fg) : TyT → V
  | .b n => .ty (bty n)
  | .own c => .ref (He.ga K (nm c))
theorem tyV_cls (K : Fg) (t : TyT) : ClsV (tyV_ K t) (tyVal K t) := by
  cases t with
  | b n => exact .ty _
  | own c => exact .own _
def tyOf (x : Vl) (h : Hs) : Option TyT := match x with
  | .non => some (.b 0)
  | .bl _ => some (.b 1)
  | .int _ => some (.b 2)
  | .str _ => some (.b 3)
  | .tup _ => some (.b 5)
  | .kl _ => some (.b 4)
  | .ref n => match h[n]? with
    | some (.lst _) => some (.b 4)
    | some (.dic _) => some (.b 6)
    | some (.ins c _) => some (.own c)
    | _ => none
/-- what is known of the program's classes -/
structure InsC (K : Fg) (C : Addr) : Prop where
  cl : Cls K C
  ha : PySem.W.findIn K (.ref C) "__class__" = some (some (.builtin "object.__class__"))
  hn : PySem.W.specialIn K (.builtin "object.__class__") "__get__" = some (some (.builtin "getset_descriptor.__get__"))
  ht : PySem.W.takesIn K (.builtin "object.__class__") = some true
  hm : PySem.W.mroIn K C (.type "object") = some true
/-- the answers known -/
abbrev Isi := TyT → TyT → Option Bool
def IsiOk (K : Fg) (isi : Isi) : Prop := ∀ t c b, isi t c = some b → PySem.W.kitOne K (tyVal K t) (tyVal K c) = some b ∧ ∀ n, t = .own n → InsC K (He.ga K (nm n))
theorem ty_ok {K : Fg} {r : List Addr} {h : Hs} {H : Hp} {x : Vl} {u : V} {t : TyT} (R : RH K r h H) (q : RV K r H x u) (e : tyOf x h = some t) (hi : ∀ n, t = .own n → InsC K (He.ga K (nm n))) : TyX K H u (tyVal K t) := by
  cases x with
  | non => cases e; rw [q.non_]; exact .base .non
  | bl b => cases e; rw [q.bl_]; exact .base (.bl b)
  | int b => cases e; rw [q.int_]; exact .base (.int b)
  | str b => cases e; rw [q.str_]; exact .base (.str b)
  | tup xs =>
    cases e
    obtain ⟨a, vs, rfl, h1, h2⟩ := q.tup_
    rcases h1 with (h1 | ⟨o, h1⟩) | ⟨o, its, n, h1, h2, _⟩
    · exact .base (.tup h1)
    · exact .fTuple h1
    · exact .kTuple h1 h2
  | kl ns =>
    cases e
    simp only [RV] at q
    obtain ⟨a, rfl, h1⟩ := q
    rcases h1 with ⟨o, h1⟩ | ⟨o, its, n, h1, h2, _⟩
    · exact .base (.frz h1)
    · exact .kList h1 h2
  | ref n =>
    obtain ⟨a, q1, rfl⟩ := q.ref_
    unfold tyOf at e
    simp only at e
    split at e
    · rename_i xs eo
      cases e
      obtain ⟨vs, h1, h2⟩ := R.lst q1 eo
      exact .base (.lst h1)
    · rename_i xs eo
      cases e
      obtain ⟨vs, h1, h2⟩ := R.dic q1 eo
      exact .base (.dK h1)
    · rename_i c fs eo
      cases e
      obtain ⟨dx, vs, h1, h2⟩ := R.ins q1 eo
      obtain ⟨a1, a2, a3, a4, a5⟩ := hi c rfl
      exact .base (.ins h1 a1 a2 a3 a4 a5)
    · cases e
def gIsi (isi : Isi) (t : TyT) (x : Vl) (h : Hs) : Out Vl := match tyOf x h with
  | some s => match isi s t with
    | some b => .ok (.bl b) h
    | none => .bad
  | none => .bad
/-- (A, B, ..): the first that says yes -/
def isiAny (isi : Isi) (s : TyT) : List TyT → Option Bool
  | [] => some false
  | t :: ts => match isi s t with
    | some true => some true
    | some false => isiAny isi s ts
    | none => none
def gIsiT (isi : Isi) (ts : List TyT) (x : Vl) (h : Hs) : Out Vl := match tyOf x h with
  | some s => match isiAny isi s ts with
    | some b => .ok (.bl b) h
    | none => .bad
  | none => .bad
def mIsi (isi : Isi) (m : ME) (t : TyT) : ME := fun env h => (m env h).bind (gIsi isi t)
def mIsiT (isi : Isi) (m : ME) (ts : List TyT) : ME := fun env h => (m env h).bind (gIsiT isi ts)
theorem isiAny_ok {K : Fg} {isi : Isi} {s : TyT} (I : IsiOk K isi) : ∀ {ts : List TyT} {b : Bool}, isiAny isi s ts = some b → PySem.W.kitAny K (tyVal K s) (ts.map (tyVal K)) = some b
  | [], b, e => by cases e; rfl
  | t :: ts, b, e => by
    unfold isiAny at e
    show (match PySem.W.kitOne K (tyVal K s) (tyVal K t) with
      | some true => some true
      | some false => PySem.W.kitAny K (tyVal K s) (ts.map (tyVal K))
      | none => none) = some b
    split at e
    · rename_i e1
      cases e
      rw [(I _ _ _ e1).1]
    · rename_i e1
      rw [(I _ _ _ e1).1]
      exact isiAny_ok I e
    · cases e
theorem isiAny_ins {K : Fg} {isi : Isi} {s : TyT} (I : IsiOk K isi) {t : TyT} {ts : List TyT} {b : Bool} (e : isiAny isi s (t :: ts) = some b) : ∀ n, s = .own n → InsC K (He.ga K (nm n)) := by
  unfold isiAny at e
  split at e
  · rename_i e1; exact (I _ _ _ e1).2
  · rename_i e1; exact (I _ _ _ e1).2
  · cases e
/-- a class by its name -/
def TyNm (X : Cx) (e : Expr) (t : TyT) : Prop := PE X e (tC (tyV_ X.K t)) ∧ noStar e = true
section
variable {X : Cx} {W : WX} {a e : Expr} {es : List Expr} {m : ME} {t : TyT} {ts : List TyT} {p pos tp : Pos} {k : Nat} {isi : Isi}
theorem pe_isiM (I : IsiOk X.K isi) (hg : Gl X "isinstance") (hm : X.mg "isinstance" = none) (ha : PE X a (rE X.K W m)) (hn : noStar a = true) (ht : TyNm X e t) : PE X (.Call (.Name "isinstance" p) [a, e] [] pos) (rE X.K W (mIsi isi m t)) := by
  refine PE.imp (pe_callB call_isi hg hm PyProof.Rows.boot_isinstance (pa_cons ha (pa_cons ht.1 pa_nil (star_each ht.2)) (star_each hn)) (by decide) (by decide) (star_each hn) (star_any (by simp [ht.2]))) fun σ H Q q => ?_
  obtain ⟨r, env, h, R, E, p⟩ := q
  refine ⟨r, env, h, R, E, p.bind.imp fun x h1 r1 H1 e1 R1 p1 u ru => ?_⟩
  show rIsi X.K [u, tyV_ X.K t] H1 Q
  unfold gIsi at p1
  split at p1
  · rename_i s es
    split at p1
    · rename_i b eb
      obtain ⟨i1, i2⟩ := I _ _ _ eb
      exact ⟨u, _, _, _, b, rfl, tyV_cls _ _, ty_ok R1 ru es i2, i1, p1.here R1 _ (.ofBl b)⟩
    · exact p1.elim
  · exact p1.elim
/-- several classes by names -/
def TyNms (X : Cx) : List Expr → List TyT → Prop
  | [], [] => True
  | e :: es, t :: ts => TyNm X e t ∧ TyNms X es ts
  | _, _ => False
theorem pa_nms : ∀ {es : List Expr} {ts : List TyT}, TyNms X es ts → PA X es (fun _ H Q => Q (ts.map (tyV_ X.K)) H)
  | [], [], _ => PA.imp pa_nil fun σ H Q q => q
  | e :: es, t :: ts, q => PA.imp (pa_cons q.1.1 (pa_nms q.2) (star_each q.1.2)) fun σ H Q q => q
  | [], _ :: _, q => q.elim
  | _ :: _, [], q => q.elim
theorem nms_cls {K : Fg} : ∀ ts : List TyT, Paired ClsV (ts.map (tyV_ K)) (ts.map (tyVal K))
  | [] => .nil
  | t :: ts => .cons (tyV_cls K t) (nms_cls ts)
theorem pe_isiTM (I : IsiOk X.K isi) (hg : Gl X "isinstance") (hm : X.mg "isinstance" = none) (ha : PE X a (rE X.K W m)) (hn : noStar a = true) (ht : TyNms X es (t :: ts)) (hl : (t :: ts).length ≤ 100) : PE X (.Call (.Name "isinstance" p) [a, .Tuple es k tp] [] pos) (rE X.K W (mIsiT isi m (t :: ts))) := by
  refine PE.imp (pe_callB call_isiT hg hm PyProof.Rows.boot_isinstance (pa_cons ha (pa_cons (pe_tup (pa_nms ht)) pa_nil (star_each rfl)) (star_each hn)) (by decide) (by decide) (star_each hn) (star_any (by rfl))) fun σ H Q q => ?_
  obtain ⟨r, env, h, R, E, p⟩ := q
  refine ⟨r, env, h, R, E, p.bind.imp fun x h1 r1 H1 e1 R1 p1 u ru => ?_⟩
  refine ⟨by rw [List.length_map]; exact Nat.le_trans hl (by decide), fun tpl hn => ?_⟩
  show rIsiT X.K [u, .ref tpl] _ Q
  unfold gIsiT at p1
  split at p1
  · rename_i s es
    split at p1
    · rename_i b eb
      have x2 := ext_new (r := r1) (o := .tup ((t :: ts).map (tyV_ X.K))) hn
      have R2 := R1.new (o := .tup ((t :: ts).map (tyV_ X.K))) hn
      exact ⟨u, tpl, _, _, _, b, rfl, upd_same, nms_cls _, ty_ok R2 (ru.ext x2) es (isiAny_ins I eb), isiAny_ok I eb, (Pst.later x2 p1).here R2 _ (.ofBl b)⟩
    · exact p1.elim
  · exact p1.elim
theorem nm_blt {x : Str} {n : Nat} (hg : Gl X x) (hm : X.mg x = none) (hv : bootBuiltins x = some (.type (bty n))) (h1 : x ≠ "__name__") (h2 : (x == ("__debug__" : Str)) = false) : TyNm X (.Name x p) (.b n) :=
  ⟨pe_bltn (v := .ty (bty n)) hg hm hv rfl h1 h2, rfl⟩
theorem nm_own {x : Str} {c : Nat} (hg : Gl X x) (hm : X.mg x = some (.ref (He.ga X.K (nm c)))) (h2 : (x == ("__debug__" : Str)) = false) : TyNm X (.Name x p) (.own c) :=
  ⟨pe_glob hg hm rfl h2, rfl⟩
end

/-! ### a dict display of one entry -/
def inert : HO → Bool
  | .dK _ => true
  | .lst _ => true
  | _ => false
theorem wk_at {K : Fg} {r : List Addr} {H : Hp} {D : Addr} {o o' : HO} (hd : H D = some o) (ho : inert o = true) : Wk K r r H (upd H D o') := by
  have ne : ∀ {a : Addr} {u : HO}, H a = some u → inert u = false → a ≠ D := fun {a u} e hu z => by
    rw [z, hd] at e
    cases e
    rw [ho] at hu; cases hu
  refine ⟨⟨[], by simp⟩, fun a vs h => ?_, fun a vs h => ?_, fun a q n h => ?_⟩
  · rcases h with (h | ⟨ob, h⟩) | h
    · exact .inl (.inl (by rw [upd_ne (ne h rfl)]; exact h))
    · exact .inl (.inr ⟨ob, by rw [upd_ne (ne h rfl)]; exact h⟩)
    · exact .inr h
  · rcases h with ⟨ob, h⟩ | h
    · exact .inl ⟨ob, by rw [upd_ne (ne h rfl)]; exact h⟩
    · exact .inr h
  · exact ⟨by rw [upd_ne (ne h rfl)]; exact h, n⟩
theorem wk_in {K : Fg} {r : List Addr} {H : Hp} {D : Addr} {o : HO} (hd : H D = some o) (ho : inert o = true) : Wk K r (r ++ [D]) H H :=
  ⟨⟨[D], rfl⟩, fun _ _ h => h, fun _ _ h => h, fun a q n h => ⟨h, fun m => by
    rcases List.mem_append.mp m with m | m
    · exact n m
    · rw [List.mem_singleton.mp m, hd] at h
      cases h; cases ho⟩⟩
theorem RH.in_ {K : Fg} {r : List Addr} {H : Hp} {h : Hs} {D : Addr} {o : HO} {ob : Ob} (R : RH K r h H) (hd : H D = some o) (ho : inert o = true) (hn : D ∉ r) (q : RO K (r ++ [D]) H ob D) : RH K (r ++ [D]) (h ++ [ob]) H := by
  have cut : ∀ {i : Nat} {o' : Ob}, (h ++ [ob])[i]? = some o' → (i < h.length ∧ h[i]? = some o') ∨ (i = h.length ∧ o' = ob) := fun {i o'} e => by
    by_cases hi : i < h.length
    · rw [List.getElem?_append_left hi] at e; exact .inl ⟨hi, e⟩
    · have e' := (List.getElem?_eq_some_iff.mp e).1
      simp at e'
      have : i = h.length := by omega
      subst this
      simp at e
      exact .inr ⟨rfl, e.symm⟩
  have at1 : ∀ {i : Nat} {a : Addr}, i < h.length → (r ++ [D])[i]? = some a → r[i]? = some a := fun {i a} hi e => by
    rw [List.getElem?_append_left (by rw [R.len]; exact hi)] at e; exact e
  have at2 : ∀ {a : Addr}, (r ++ [D])[h.length]? = some a → a = D := fun {a} e => by
    rw [← R.len] at e; simp at e; exact e.symm
  refine ⟨by simp [R.len], fun i j o1 o2 a h1 h2 s1 s2 h3 h4 => ?_, fun i o1 a h1 h2 => ?_⟩
  · rcases cut h1 with ⟨i1, h1⟩ | ⟨i1, h1⟩
    · rcases cut h2 with ⟨j1, h2⟩ | ⟨j1, h2⟩
      · exact R.nd i j o1 o2 a h1 h2 s1 s2 (at1 i1 h3) (at1 j1 h4)
      · subst j1
        exact absurd (List.mem_of_getElem? (at1 i1 h3)) (by rw [at2 h4]; exact hn)
    · rcases cut h2 with ⟨j1, h2⟩ | ⟨j1, h2⟩
      · subst i1
        exact absurd (List.mem_of_getElem? (at1 j1 h4)) (by rw [at2 h3]; exact hn)
      · omega
  · rcases cut h1 with ⟨i1, z1⟩ | ⟨i1, z1⟩
    · exact (R.ob i o1 a z1 (at1 i1 h2)).wk (wk_in hd ho) fun _ => rfl
    · subst i1 z1
      rw [at2 h2]; exact q
theorem Ext.beside {r r' : List Addr} {H H' : Hp} {D : Addr} {o : HO} (x : Ext r r' H H') (hn : H D = none) : Ext r r' H (upd H' D o) := by
  have ne : ∀ {b : Addr} {u : HO}, H b = some u → b ≠ D := fun {b u} e z => by rw [z, hn] at e; cases e
  refine ⟨x.pre, fun b hb => ?_, fun b u n e => ?_, fun b xs e => ?_, fun b u v e => ?_⟩
  · by_cases e : b = D
    · rw [e]; exact hn
    · rw [upd_ne e] at hb; exact x.dm b hb
  · rw [upd_ne (ne e)]; exact x.fr b u n e
  · rw [upd_ne (ne e)]; exact x.tp b xs e
  · rw [upd_ne (ne e)]; exact x.fz b u v e
theorem RH.notin {K : Fg} {r : List Addr} {h : Hs} {H : Hp} {D : Addr} (R : RH K r h H) (hD : H D = none) : D ∉ r := fun hm => by
  obtain ⟨n, hn⟩ := List.mem_iff_getElem?.mp hm
  have hl : n < h.length := by rw [← R.len]; exact (List.getElem?_eq_some_iff.mp hn).1
  exact (R.ob n _ D (List.getElem?_eq_getElem hl) hn).alive hD
def mDict1 (mk mv : ME) : ME := fun env h => (mk env h).bind fun k h1 => (mv env h1).bind fun v h2 => match keyOf k with
  | some q => .ok (.ref h2.length) (h2 ++ [.dic [(q, v)]])
  | none => .bad
theorem pe_dict1M {X : Cx} {W : WX} {k v : Expr} {mk mv : ME} {pos : Pos} (hk : PE X k (rE X.K W mk)) (hv : PE X v (rE X.K W mv)) : PE X (.Dict [some k] [v] pos) (rE X.K W (mDict1 mk mv)) := by
  refine PE.imp (pe_disp (pps_cons hk hv pps_nil) rfl rfl (by simp) (Nat.le_of_ble_eq_true rfl)) fun σ H Q q p hp => ?_
  obtain ⟨r, env, h, R, E, z⟩ := q
  have x0 := ext_new (r := r) (o := .dK []) hp
  have n0 := R.notin hp
  refine ⟨r, env, h, R.new hp, E.ext x0, ?_⟩
  unfold mDict1 at z
  cases em : mk env h with
  | bad => rw [em] at z; exact z.elim
  | ex c fs h1 => rw [em] at z; exact Pst.later (P := fun _ _ _ _ => True) x0 (show Pst X.K r H W σ _ (Out.ex c fs h1 : Out Vl) from z)
  | ok x h1 =>
    rw [em] at z
    intro r1 H1 e1 R1 u ru
    refine ⟨r1, env, h1, R1, (E.ext x0).ext e1, ?_⟩
    simp only [Out.bind_ok] at z
    cases ev : mv env h1 with
    | bad => rw [ev] at z; exact z.elim
    | ex c fs h2 => rw [ev] at z; exact Pst.later (P := fun _ _ _ _ => True) (x0.trans e1) (show Pst X.K r H W σ _ (Out.ex c fs h2 : Out Vl) from z)
    | ok y h2 =>
      rw [ev] at z
      intro r2 H2 e2 R2 w rw_
      simp only [Out.bind_ok] at z
      obtain ⟨hd1, n1⟩ := e1.off (upd_same (H := H)) n0
      obtain ⟨hd2, n2⟩ := e2.off hd1 n1
      split at z
      · rename_i q eq
        refine ⟨hd2, [(q, w)], by rw [keyOf_v (ru.ext e2) eq]; rfl, Nat.le_of_ble_eq_true rfl, ?_⟩
        have m1 : mergeK [] [(q, w)] = [(q, w)] := rfl
        rw [m1]
        have wk1 : Wk X.K r2 r2 H2 (upd H2 p (.dK [(q, w)])) := wk_at hd2 rfl
        have R3 : RH X.K r2 h2 (upd H2 p (.dK [(q, w)])) := ⟨R2.len, R2.nd, fun i o a f1 f2 => (R2.ob i o a f1 f2).wk wk1 fun _ => upd_ne (fun e => n2 (by rw [← e]; exact List.mem_of_getElem? f2))⟩
        have wk2 : Wk X.K r2 (r2 ++ [p]) (upd H2 p (.dK [(q, w)])) (upd H2 p (.dK [(q, w)])) := wk_in upd_same rfl
        have R4 := R3.in_ (ob := .dic [(q, y)]) upd_same rfl n2 ⟨[(q, w)], upd_same, by simp only [RF]; exact ⟨w, [], rfl, (rw_.wk wk1).wk wk2, rfl⟩⟩
        have rp : (r2 ++ [p])[h2.length]? = some p := by rw [← R2.len]; simp
        exact z _ _ ((((x0.trans e1).trans e2).beside hp).adopt hp) R4 _ (.ofRef rp)
      · exact z.elim
end Mi

/-! I1: the small language, what it means. -/
namespace Mi
open PySem PySem.Spec L2

inductive Op2 where
  | add | sub | mul | mod | div | pow | shr | eq | ne | lt | le | gt | ge | is_ | isnt | in_ | ni | ix
  deriving DecidableEq, Repr
inductive Bf where
  | abs | max | min | len | int | str | list | all | any | sorted
  deriving DecidableEq, Repr
inductive Bm where
  | append | insert | extend | clear | pop | popat | index | split | partition | join | get | setd
  deriving DecidableEq, Repr
inductive Ik where
  | seq | r1 | r2 | zip | enum
  deriving DecidableEq, Repr
inductive Ex where
  | bad | c (v : Vl) | v (i : Nat) | bin (op : Op2) (a b : Ex) | neg (a : Ex) | not (a : Ex) | and (a b : Ex) | or (a b : Ex) | ite (c a b : Ex) | chain (op op' : Op2) (a b c : Ex)
  | nil | cons (a as : Ex) | tup (as : Ex) | lst (as : Ex) | sl (a lo hi : Ex) | rev (a : Ex) | fld (a : Ex) (f : Nat) | blt (b : Bf) (as : Ex)
  | isi (a : Ex) (t : TyT) | isit (a : Ex) (ts : List TyT) | call (f : Nat) (as : Ex) | calld (f : Nat) (v : Vl) (as : Ex) | make (c f : Nat) (as : Ex) | meth (m : Nat) (o as : Ex)
  | bm (m : Bm) (o as : Ex) | dnew | dict1 (k v : Ex) | lc (k : Ik) (as : Ex) (g : Tg) (cond elt : Ex) (own : List Nat)
def gIxD : G2 := fun x y h => if isDic x h = true then gDget x y h else gIx x y h
def gInD : G2 := fun x y h => if isDic y h = true then gDin x y h else gIn x y h
def gNiD : G2 := fun x y h => if isDic y h = true then gDni x y h else gNi x y h
def g2 : Op2 → G2
  | .add => gAdd
  | .sub => gSub
  | .mul => gMul
  | .mod => gMod
  | .div => gDiv
  | .pow => gPow
  | .shr => gShr
  | .eq => gEq
  | .ne => gNe
  | .lt => gLt
  | .le => gLe
  | .gt => gGt
  | .ge => gGe
  | .is_ => gIs
  | .isnt => gIsnt
  | .in_ => gInD
  | .ni => gNiD
  | .ix => gIxD
def gB : Bf → GC
  | .abs => gAbs
  | .max => gMax
  | .min => gMin
  | .len => gLen
  | .int => gInt
  | .str => gStr
  | .list => gList
  | .all => gAll
  | .any => gAny
  | .sorted => gSorted
def gM : Bm → GM
  | .append => gAppend
  | .insert => gInsert
  | .extend => gExtend
  | .clear => gClear
  | .pop => gPop
  | .popat => gPopAt
  | .index => gIndex
  | .split => gSplit
  | .partition => gPartition
  | .join => gJoin
  | .get => gGet
  | .setd => gSetd
def tyM : Bm → Vl → Hs → Bool
  | .split => isStr
  | .partition => isStr
  | .join => isStr
  | .get => isDic
  | .setd => isDic
  | _ => isLst
/-- what the program's tables tell -/
structure Pr where
  ok : Flds
  mt : Mts
  isi : Isi
  sub : Subs
def mBad : ME := fun _ _ => .bad
mutual
def ev (P : Pr) (C : Clr) : Ex → ME
  | .bad => mBad
  | .c v => mC v
  | .v i => mVar i
  | .bin op a b => mBin (g2 op) (ev P C a) (ev P C b)
  | .neg a => mUn gNeg (ev P C a)
  | .not a => mNot (ev P C a)
  | .and a b => mAnd (ev P C a) (ev P C b)
  | .or a b => mOr (ev P C a) (ev P C b)
  | .ite c a b => mIte (ev P C c) (ev P C a) (ev P C b)
  | .chain op op' a b c => mChain (g2 op) (g2 op') (ev P C a) (ev P C b) (ev P C c)
  | .nil => mBad
  | .cons _ _ => mBad
  | .tup as => mTup (evs P C as)
  | .lst as => mLst (evs P C as)
  | .sl a lo hi => mSl (ev P C a) (evo P C lo) (evo P C hi)
  | .rev a => mUn gRev (ev P C a)
  | .fld a f => mFld P.ok (ev P C a) f
  | .blt b as => mCall (gB b) (evs P C as)
  | .isi a t => mIsi P.isi (ev P C a) t
  | .isit a ts => mIsiT P.isi (ev P C a) ts
  | .call f as => mCallF C f (evs P C as)
  | .calld f v as => mCallD C f v (evs P C as)
  | .make c f as => mMake C c f (evs P C as)
  | .meth m o as => mMethF C P.mt m (ev P C o) (evs P C as)
  | .bm m o as => mMeth (tyM m) (gM m) (ev P C o) (evs P C as)
  | .dnew => mDnew
  | .dict1 k v => mDict1 (ev P C k) (ev P C v)
  | .lc k as g cond elt own => mLc (evi P C k as) g (mTest (ev P C cond)) (ev P C elt) own
def evs (P : Pr) (C : Clr) : Ex → MA
  | .nil => mNil
  | .cons a as => mCons (ev P C a) (evs P C as)
  | _ => fun _ _ => .bad
def evo (P : Pr) (C : Clr) : Ex → MO
  | .nil => mNoPart
  | .cons a _ => mPart (ev P C a)
  | _ => fun _ _ => .bad
def evi (P : Pr) (C : Clr) (k : Ik) : Ex → MI
  | .cons a as => match k with
    | .seq => mIter (ev P C a)
    | .r1 => mRng1 (mCons (ev P C a) (evs P C as))
    | .r2 => mRng2 (mCons (ev P C a) (evs P C as))
    | .zip => mZip (mCons (ev P C a) (evs P C as))
    | .enum => mEnum (mCons (ev P C a) (evs P C as))
  | _ => fun _ _ => .bad
end

inductive Sm where
  | bad | skip | seq (a b : Sm) | expr (e : Ex) | ret (e : Ex) | retn | ite (c : Ex) (a b : Sm) | asg (g : Tg) (e : Ex) | par (i j : Nat) (as : Ex) | setf (o : Ex) (f : Nat) (e : Ex) | seti (o i e : Ex)
  | loop (k : Ik) (as : Ex) (g : Tg) (b : Sm) | whl (c : Ex) (b : Sm) | brk | cnt | rais (c : Nat) | tryset (b : Sm) (c i : Nat) (v : Bool)
noncomputable def ex (P : Pr) (C : Clr) : Sm → MS
  | .bad => fun _ _ => .bad
  | .skip => sNil
  | .seq a b => sSeq (ex P C a) (ex P C b)
  | .expr e => sExpr (ev P C e)
  | .ret e => sRet (ev P C e)
  | .retn => sRetN
  | .ite c a b => sIf (mTest (ev P C c)) (ex P C a) (ex P C b)
  | .asg g e => sAsg g (ev P C e)
  | .par i j as => sPar i j (evs P C as)
  | .setf o f e => sFldM P.ok (ev P C o) f (ev P C e)
  | .seti o i e => sSetI (ev P C o) (ev P C i) (ev P C e)
  | .loop k as g b => sFor (evi P C k as) g (ex P C b)
  | .whl c b => sWhile (mTest (ev P C c)) (ex P C b)
  | .brk => sBrk
  | .cnt => sCnt
  | .rais c => sRaise c
  | .tryset b c i v => sTrySet P.sub (ex P C b) c i (.bl v)
/-- a function: how many parameters, how many names, its body -/
structure Fd where
  np : Nat
  nl : Nat
  body : Sm
def SO.fin : SO → Out Vl
  | .nx _ h => .ok .non h
  | .rt v h => .ok v h
  | .ex c fs _ h => .ex c fs h
  | _ => .bad
noncomputable def Fd.run (P : Pr) (C : Clr) (d : Fd) : Fun1 := fun vs h => if vs.length = d.np ∧ d.np ≤ d.nl then (ex P C d.body (vs.map some ++ List.replicate (d.nl - d.np) none) h).fin else .bad
/-- the functions by number, by depth -/
noncomputable def clr (P : Pr) (T : Nat → Option Fd) : Nat → Clr
  | 0 => fun _ _ _ => .bad
  | n + 1 => fun f vs h => match T f with
    | some d => d.run P (clr P T n) vs h
    | none => .bad
end Mi

/-! T1: from the text's syntax to the small language. What is not known becomes bad. -/
namespace Mi
open PySem PySem.Spec L2

/-- what a global name is -/
inductive Gb where
  | fn (f np : Nat) (dfl : Option Vl) | cls (c f : Nat) | exc (c : Nat) | val (v : Vl) | free
structure TC where
  N : List Str
  sc : Scope
  g : Str → Option Gb
def okNm (x : Str) : Bool := !(x == ("__debug__" : Str)) && !(x == ("__classdict__" : Str)) && !(x == ("__name__" : Str))
def idx : List Str → Str → Option Nat
  | [], _ => none
  | y :: r, x => if y = x then some 0 else (idx r x).map (· + 1)
def TC.loc (T : TC) (x : Str) : Option Nat := match T.sc.names.lookup x with
  | some .local => idx T.N x
  | some .cell => idx T.N x
  | some .free => idx T.N x
  | _ => none
/-- a name that is stored to -/
def TC.sto (T : TC) (x : Str) : Option Nat := match T.sc.names.lookup x with
  | some .local => idx T.N x
  | some .cell => idx T.N x
  | _ => none
def TC.glo (T : TC) (x : Str) : Option Gb := match T.sc.names.lookup x with
  | some .globalImplicit => if okNm x then T.g x else none
  | _ => none
def trName (T : TC) (x : Str) : Ex := match T.loc x with
  | some i => if okNm x then .v i else .bad
  | none => match T.glo x with
    | some (.val v) => .c v
    | _ => .bad
def trC : Const → Ex
  | .none => .c .non
  | .bool b => .c (.bl b)
  | .int i => .c (.int i)
  | .str s => .c (.str s)
  | _ => .bad
def opOf : Operator → Option Op2
  | .Add => some .add
  | .Sub => some .sub
  | .Mult => some .mul
  | .Mod => some .mod
  | .Pow => some .pow
  | .RShift => some .shr
  | .FloorDiv => some .div
  | _ => none
def cmpOf : CmpOp → Op2
  | .Eq => .eq
  | .NotEq => .ne
  | .Lt => .lt
  | .LtE => .le
  | .Gt => .gt
  | .GtE => .ge
  | .Is => .is_
  | .IsNot => .isnt
  | .In => .in_
  | .NotIn => .ni
def linOp : CmpOp → Bool
  | .Lt => true
  | .LtE => true
  | .Gt => true
  | .GtE => true
  | _ => false
def trL (tr : Expr → Ex) : List Expr → Ex
  | [] => .nil
  | e :: es => if noStar e then .cons (tr e) (trL tr es) else .bad
/-- an expression whose test is no choice's -/
def tst : Nat → Expr → Bool
  | 0, _ => false
  | n + 1, e => match e with
    | .IfExp _ _ _ _ => false
    | .UnaryOp .Not x _ => tst n x
    | .BoolOp _ vs _ => vs.all (tst n)
    | _ => true
def trBool (op : BoolOp) : List Ex → Ex
  | [] => .bad
  | [a] => a
  | a :: b :: r => match op with
    | .And => .and a (trBool op (b :: r))
    | .Or => .or a (trBool op (b :: r))
def trO (tr : Expr → Ex) : Option Expr → Ex
  | none => .nil
  | some e => .cons (tr e) .nil
def trSub (tr : Expr → Ex) (a i : Expr) : Ex := match i with
  | .Slice lo hi none _ => .sl (tr a) (trO tr lo) (trO tr hi)
  | .Slice none none (some (.UnaryOp .USub (.Constant (.int 1) _ _) _)) _ => .rev (tr a)
  | i => if noStar i then .bin .ix (tr a) (tr i) else .bad
def bfOf (x : Str) : Option Bf :=
  if x = ("len" : Str) then some .len else if x = ("abs" : Str) then some .abs else if x = ("max" : Str) then some .max else if x = ("min" : Str) then some .min
  else if x = ("int" : Str) then some .int else if x = ("str" : Str) then some .str else if x = ("list" : Str) then some .list
  else if x = ("all" : Str) then some .all else if x = ("any" : Str) then some .any else if x = ("sorted" : Str) then some .sorted else none
def btyOf (x : Str) : Option Nat :=
  if x = ("int" : Str) then some 2 else if x = ("bool" : Str) then some 1 else if x = ("str" : Str) then some 3 else if x = ("list" : Str) then some 4 else if x = ("tuple" : Str) then some 5 else if x = ("dict" : Str) then some 6 else none
def bmT : List ((Str × Nat) × Bm) := [(("append", 1), .append), (("insert", 2), .insert), (("extend", 1), .extend), (("clear", 0), .clear), (("pop", 0), .pop), (("pop", 1), .popat), (("index", 1), .index), (("split", 1), .split),
  (("partition", 1), .partition), (("join", 1), .join), (("get", 1), .get), (("get", 2), .get), (("setdefault", 2), .setd)]
def bmOf (m : Str) (n : Nat) : Option Bm := (bmT.find? fun p => decide (p.1 = (m, n))).map (·.2)
def tyNm (T : TC) : Expr → Option TyT
  | .Name x _ => match T.glo x with
    | some .free => (btyOf x).map .b
    | some (.cls c _) => some (.own c)
    | some (.exc c) => some (.own c)
    | _ => none
  | _ => none
def tyNms (T : TC) : List Expr → Option (List TyT)
  | [] => some []
  | e :: es => match tyNm T e, tyNms T es with
    | some t, some ts => some (t :: ts)
    | _, _ => none
def trIsi (T : TC) (tr : Expr → Ex) (a t : Expr) : Ex := if noStar a then match t with
  | .Tuple es _ _ => match tyNms T es with
    | some (t :: ts) => if (t :: ts).length ≤ 100 then .isit (tr a) (t :: ts) else .bad
    | _ => .bad
  | t => match tyNm T t with
    | some t => .isi (tr a) t
    | none => .bad
  else .bad
def trFree (T : TC) (tr : Expr → Ex) (x : Str) (args : List Expr) : Ex :=
  if x = ("isinstance" : Str) then match args with
    | [a, t] => trIsi T tr a t
    | _ => .bad
  else match bfOf x with
    | some b => match args with
      | [] => .bad
      | e :: es => if (e :: es).all noStar then .blt b (trL tr (e :: es)) else .bad
    | none => .bad
def trCall (T : TC) (tr : Expr → Ex) (f : Expr) (args : List Expr) (pos : Pos) : Ex := match f with
  | .Name x _ => match T.glo x with
    | some (.fn g np dfl) => if args.all noStar then (if args.length = np then .call g (trL tr args) else match dfl, args with
        | some v, e :: es => .calld g v (trL tr (e :: es))
        | _, _ => .bad) else .bad
    | some (.cls c g) => if args.all noStar then .make c g (trL tr args) else .bad
    | some .free => trFree T tr x args
    | _ => .bad
  | .Attribute o m apos => if plainX o && args.all noStar && decide (args.length < 29) && (apos.endLine == pos.line) then match bmOf m args.length with
      | some b => .bm b (tr o) (trL tr args)
      | none => match idx tbl m with
        | some k => .meth k (tr o) (trL tr args)
        | none => .bad
    else .bad
  | _ => .bad
def isTup : Expr → Bool
  | .Tuple _ _ _ => true
  | _ => false
/-- what a loop walks -/
def trIter (T : TC) (tr : Expr → Ex) (tg iter : Expr) : Ik × Ex := if noStar iter then match iter with
    | .Call (.Name x _) args [] _ => match T.glo x with
      | some .free => if x = ("range" : Str) then (match args with
            | [a] => if noStar a then (.r1, .cons (tr a) .nil) else (.seq, .bad)
            | [a, b] => if noStar a && noStar b then (.r2, .cons (tr a) (.cons (tr b) .nil)) else (.seq, .bad)
            | _ => (.seq, .bad))
          else if x = ("zip" : Str) then (match args with
            | [a, b] => if isTup tg && noStar a && noStar b then (.zip, .cons (tr a) (.cons (tr b) .nil)) else (.seq, .bad)
            | _ => (.seq, .bad))
          else if x = ("enumerate" : Str) then (match args with
            | [a] => if isTup tg && noStar a then (.enum, .cons (tr a) .nil) else (.seq, .bad)
            | _ => (.seq, .bad))
          else (.seq, .cons (tr iter) .nil)
      | _ => (.seq, .cons (tr iter) .nil)
    | _ => (.seq, .cons (tr iter) .nil)
  else (.seq, .bad)
def nmsOf (T : TC) : List Expr → Option (List Nat)
  | [] => some []
  | .Name x _ :: es => match T.sto x, nmsOf T es with
    | some i, some is => some (i :: is)
    | _, _ => none
  | _ => none
def trTg (T : TC) : Expr → Option Tg
  | .Name x _ => (T.sto x).map .one
  | .Tuple es _ _ => (nmsOf T es).map .many
  | _ => none
def ownOf (N : List Str) (names : List (Str × NameKind)) : List (Str × Nat) := names.filterMap fun y => match y.2 with
  | .local => (idx N y.1).map fun i => (y.1, i)
  | .cell => (idx N y.1).map fun i => (y.1, i)
  | _ => none
def TC.in_ (T : TC) (scope : Scope) : TC := ⟨T.N, scope, T.g⟩
def trIfs (m : Nat) (tr : Expr → Ex) : List Expr → Ex
  | [] => .c (.bl true)
  | [c] => if tst m c then tr c else .bad
  | _ => .bad
def trLc (T : TC) (m : Nat) (tr tr' : Expr → Ex) (elt tg iter : Expr) (ifs : List Expr) (scope : Scope) : Ex :=
  match trTg (T.in_ scope) tg with
  | some g => if blkC T.N T.sc scope (ownOf T.N scope.names) && g.slots.all (fun i => ((ownOf T.N scope.names).map (·.2)).contains i) && noStar iter then
      .lc (trIter T tr tg iter).1 (trIter T tr tg iter).2 g (trIfs m tr' ifs) (tr' elt) ((ownOf T.N scope.names).map (·.2))
    else .bad
  | none => .bad
def trE : Nat → TC → Expr → Ex
  | 0, _, _ => .bad
  | n + 1, T, e => match e with
    | .Constant c _ _ => trC c
    | .Name x _ => trName T x
    | .BoolOp op es _ => trBool op (es.map (trE n T))
    | .BinOp a op b _ => match opOf op with
      | some o => .bin o (trE n T a) (trE n T b)
      | none => .bad
    | .UnaryOp .Not a _ => .not (trE n T a)
    | .UnaryOp .USub a _ => .neg (trE n T a)
    | .IfExp c a b _ => if tst n c then .ite (trE n T c) (trE n T a) (trE n T b) else .bad
    | .Compare a [op] [b] _ => if noStar b then .bin (cmpOf op) (trE n T a) (trE n T b) else .bad
    | .Compare a [op, op'] [b, c] _ => if noStar c && linOp op && linOp op' then .chain (cmpOf op) (cmpOf op') (trE n T a) (trE n T b) (trE n T c) else .bad
    | .Tuple es _ _ => .tup (trL (trE n T) es)
    | .List es _ => .lst (trL (trE n T) es)
    | .Dict [] [] _ => .dnew
    | .Dict [some k] [v] _ => .dict1 (trE n T k) (trE n T v)
    | .Subscript a i _ => trSub (trE n T) a i
    | .Attribute a x _ => if plainX a then match idx tbl x with
        | some f => .fld (trE n T a) f
        | none => .bad
      else .bad
    | .Call f args [] pos => trCall T (trE n T) f args pos
    | .ListComp elt [⟨tg, iter, ifs, 0⟩] scope _ => trLc T n (trE n T) (trE n (T.in_ scope)) elt tg iter ifs scope
    | _ => .bad

/-! ### statements -/
/-- a, b = x, y: what the model asks for the stores from the right -/
def parB (T : TC) (x y : Str) (px py : Pos) (a b : Expr) : Bool :=
  decide (T.sc.names.lookup x = some .local) && decide (T.sc.names.lookup y = some .local) && decide (x ≠ y) && (py.line == px.line) && noStar a && noStar b && !([a, b].all (foldedForSure 8)) && !([a, b].all (constantsAlone 8))
def trAsg (T : TC) (tr : Expr → Ex) (t e : Expr) : Sm := match t with
  | .Name x _ => match T.sto x with
    | some i => .asg (.one i) (tr e)
    | none => .bad
  | .Tuple es _ _ => match e with
    | .Tuple vs _ _ => match es, vs with
      | [.Name x px, .Name y py], [a, b] => match idx T.N x, idx T.N y with
        | some i, some j => if parB T x y px py a b then .par i j (trL tr [a, b]) else .bad
        | _, _ => .bad
      | _, _ => .bad
    | e => match nmsOf T es with
      | some is => .asg (.many is) (tr e)
      | none => .bad
  | .Attribute o f _ => match idx tbl f with
    | some k => .setf (tr o) k (tr e)
    | none => .bad
  | .Subscript o i _ => if noStar i then .seti (tr o) (tr i) (tr e) else .bad
  | _ => .bad
def trRaise (T : TC) : Expr → Sm
  | .Call (.Name x _) [.Constant (.str _) _ _] [] _ => match T.glo x with
    | some (.exc c) => .rais c
    | _ => .bad
  | _ => .bad
mutual
def trS : Nat → TC → Stmt → Sm
  | 0, _, _ => .bad
  | n + 1, T, st => match st with
    | .Pass _ => .skip
    | .Break _ => .brk
    | .Continue _ => .cnt
    | .Expr e _ => if noComp e then .expr (trE n T e) else .bad
    | .Return none _ => .retn
    | .Return (some e) _ => .ret (trE n T e)
    | .If c a b _ => if tst n c then .ite (trE n T c) (trB n T a) (trB n T b) else .bad
    | .For tg iter body [] _ => match trTg T tg with
      | some g => if noStar iter then .loop (trIter T (trE n T) tg iter).1 (trIter T (trE n T) tg iter).2 g (trB n T body) else .bad
      | none => .bad
    | .While c body [] _ => if tst n c then .whl (trE n T c) (trB n T body) else .bad
    | .Assign [t] e _ => trAsg T (trE n T) t e
    | .Raise (some e) none _ => trRaise T e
    | .Try body [.ExceptHandler (some (.Name x _)) none [.Assign [.Name y _] (.Constant (.bool b) _ _) _] _] [] [] _ => match T.glo x, T.sc.names.lookup y, idx T.N y with
      | some (.exc c), some .local, some i => .tryset (trB n T body) c i b
      | _, _, _ => .bad
    | _ => .bad
def trB : Nat → TC → List Stmt → Sm
  | _, _, [] => .skip
  | 0, _, _ => .bad
  | n + 1, T, st :: r => .seq (trS n T st) (trB n T r)
end
end Mi

/-! S1: expressions mean what the small language says. -/
namespace Mi
open PySem PySem.Spec L2

structure ExcF (K : Fg) (mg : Str → Option Value) (x : Str) (c : Nat) : Prop where
  m : mg x = some (.ref (He.ga K (nm c)))
  e : PySem.W.excIn K (He.ga K (nm c)) He.veBase "ValueError.__new__" = true
  k : PySem.W.keepIn K (.ref (He.ga K (nm c))) = true
  s : PySem.W.subIn K (.ref (He.ga K (nm c))) (.type "BaseException") = some true
  t : PySem.W.typeIn K (.ref (He.ga K (nm c))) = some (.type "type")
structure Facts (K : Fg) (mg : Str → Option Value) (g : Str → Option Gb) (P : Pr) (sig : Sig) (fA : Nat → Addr) : Prop where
  val : ∀ x v, g x = some (.val v) → ∃ u w, mg x = some w ∧ RelV u w ∧ ∀ r H, RV K r H v u
  fn : ∀ x f np dfl, g x = some (.fn f np dfl) → mg x = some (.ref (fA f)) ∧ sig f = some (np, dfl)
  cls : ∀ x c f, g x = some (.cls c f) → mg x = some (.ref (He.ga K (nm c))) ∧ Mk K (He.ga K (nm c)) (fA f) ∧ (sig f).isSome = true
  exc : ∀ x c, g x = some (.exc c) → ExcF K mg x c
  free : ∀ x, g x = some .free → mg x = none
  fld : FldOk K P.ok
  mt : MtOk K sig fA P.mt
  isi : IsiOk K P.isi
  sub : SubOk K P.sub
/-- a scope as the code runs in it -/
structure Agr (e sc : Scope) : Prop where
  l : ∀ x, sc.names.lookup x = some .local → e.names.lookup x = some .local
  c : ∀ x, sc.names.lookup x = some .cell → e.names.lookup x = some .cell
  f : ∀ x, sc.names.lookup x = some .free → e.names.lookup x = some .cell ∨ e.names.lookup x = some .free
  g : ∀ x, sc.names.lookup x = some .globalImplicit → e.names.lookup x = some .globalImplicit
structure Good (X : Cx) (W : WX) (T : TC) (L : Nat) (P : Pr) (sig : Sig) (fA : Nat → Addr) (C : Clr) : Prop where
  cs : CallsOk X.prog X.w X.K X.mg X.base L sig fA C
  room : Room (L + 1) X.A
  calm : X.calm = true
  tk : Takes X W
  nd : X.N.Nodup
  N : X.N = T.N
  sc : Agr X.env.scope T.sc
  fnc : ∀ x, T.sc.names.lookup x = some .cell → X.fn x = true
  kd : X.env.scope.kind = .function
  F : Facts X.K X.mg T.g P sig fA
theorem idx_get : ∀ {N : List Str} {x : Str} {i : Nat}, idx N x = some i → N[i]? = some x
  | [], _, _, e => by cases e
  | y :: r, x, i, e => by
    unfold idx at e
    split at e
    · rename_i h; cases e; rw [h]; rfl
    · obtain ⟨j, h1, h2⟩ := Option.map_eq_some_iff.mp e
      subst h2
      simpa using idx_get h1
theorem nm_of {x : Str} {k : Nat} (e : idx tbl x = some k) : x = nm k := by
  unfold nm
  rw [idx_get e]
theorem okNm_d {x : Str} (h : okNm x = true) : (x == ("__debug__" : Str)) = false ∧ (x == ("__classdict__" : Str)) = false ∧ x ≠ "__name__" := by
  unfold okNm at h
  simp only [Bool.and_eq_true, Bool.not_eq_true'] at h
  exact ⟨h.1.1, h.1.2, fun z => by rw [z] at h; simp at h⟩
section
variable {X : Cx} {W : WX} {T : TC} {L : Nat} {P : Pr} {sig : Sig} {fA : Nat → Addr} {C : Clr}
theorem Good.loc (G : Good X W T L P sig fA C) {x : Str} {i : Nat} (h : T.loc x = some i) : X.N[i]? = some x ∧ Vis X.env.scope x := by
  unfold TC.loc at h
  split at h
  · rename_i e; exact ⟨by rw [G.N]; exact idx_get h, .inl (G.sc.l x e)⟩
  · rename_i e; exact ⟨by rw [G.N]; exact idx_get h, .inr (.inl (G.sc.c x e))⟩
  · rename_i e; exact ⟨by rw [G.N]; exact idx_get h, (G.sc.f x e).elim (fun z => .inr (.inl z)) fun z => .inr (.inr z)⟩
  · cases h
theorem Good.sto (G : Good X W T L P sig fA C) {x : Str} {i : Nat} (h : T.sto x = some i) : X.N[i]? = some x ∧ Loc X.env.scope x ∧ (X.fn x = true ∨ X.env.scope.names.lookup x = some .local) := by
  unfold TC.sto at h
  split at h
  · rename_i e; exact ⟨by rw [G.N]; exact idx_get h, .inl (G.sc.l x e), .inr (G.sc.l x e)⟩
  · rename_i e; exact ⟨by rw [G.N]; exact idx_get h, .inr (G.sc.c x e), .inl (G.fnc x e)⟩
  · cases h
theorem Good.glo (G : Good X W T L P sig fA C) {x : Str} {g : Gb} (h : T.glo x = some g) : Gl X x ∧ T.g x = some g ∧ (x == ("__debug__" : Str)) = false ∧ x ≠ "__name__" := by
  unfold TC.glo at h
  split at h
  · rename_i e
    split at h
    · rename_i z
      exact ⟨G.sc.g x e, h, (okNm_d z).1, (okNm_d z).2.2⟩
    · cases h
  · cases h
/-- what is never come to -/
theorem rE_bad {K : Fg} {σ : L2.St} {H : Hp} {Q : VK} (q : rE K W mBad σ H Q) : False := by
  obtain ⟨r, env, h, R, E, p⟩ := q
  exact p
theorem pe_badM {e : Expr} : PE X e (rE X.K W mBad) := ⟨fun pins s σ H Q I q => (rE_bad q).elim⟩
theorem pa_badM {es : List Expr} : PA X es (rA X.K W fun _ _ => .bad) := ⟨fun pos pins s σ H Q I q => by
  obtain ⟨r, env, h, R, E, p⟩ := q
  exact p.elim⟩
/-- what a translation of expressions must be -/
def Snd (X : Cx) (W : WX) (P : Pr) (C : Clr) (tr : Expr → Ex) : Prop := ∀ e, PE X e (rE X.K W (ev P C (tr e)))
variable {tr : Expr → Ex}
theorem trL_ok (S : Snd X W P C tr) : ∀ es : List Expr, PA X es (rA X.K W (evs P C (trL tr es)))
  | [] => pa_nilM
  | e :: es => by
    unfold trL
    split
    · rename_i h; exact pa_consM (S e) (trL_ok S es) h
    · exact pa_badM
theorem trName_ok (G : Good X W T L P sig fA C) (x : Str) (p : Pos) : PE X (.Name x p) (rE X.K W (ev P C (trName T x))) := by
  unfold trName
  split
  · rename_i i h
    split
    · rename_i z
      obtain ⟨a, b⟩ := G.loc h
      obtain ⟨c, d, _⟩ := okNm_d z
      exact pe_varM a b c d
    · exact pe_badM
  · split
    · rename_i v h
      obtain ⟨a, b, c, _⟩ := G.glo h
      obtain ⟨u, w, h1, h2, h3⟩ := G.F.val x v b
      exact pe_globM a h1 h2 h3 c
    · exact pe_badM
theorem trC_ok (c : Const) (j : Nat) (p : Pos) : PE X (.Constant c j p) (rE X.K W (ev P C (trC c))) := by
  cases c with
  | none => exact pe_nonM
  | bool b => exact pe_blM
  | int i => exact pe_intM
  | str s => exact pe_strM
  | _ => exact pe_badM
theorem op_ok (G : Good X W T L P sig fA C) {op : Operator} {o : Op2} (h : opOf op = some o) : ∃ t, OpR X (binaryOp op) t ∧ Keeps2 X.K (g2 o) t := by
  cases op <;> first | cases h | (cases h; skip)
  · exact ⟨_, op_addAll, keeps_add⟩
  · exact ⟨_, op_sub, keeps_sub⟩
  · exact ⟨_, op_mulAll, keeps_mul⟩
  · exact ⟨_, op_modN, keeps_mod⟩
  · exact ⟨_, op_pow, keeps_pow⟩
  · exact ⟨_, op_shr, keeps_shr⟩
  · exact ⟨_, op_divL, keeps_div⟩
theorem lin_ok {op : CmpOp} (h : linOp op = true) : ∃ t, OpR X (compareOp op) t ∧ Keeps2 X.K (g2 (cmpOf op)) t := by
  cases op <;> first | cases h | skip
  · exact ⟨_, op_lt, keeps_lt⟩
  · exact ⟨_, op_le, keeps_le⟩
  · exact ⟨_, op_gt, keeps_gt⟩
  · exact ⟨_, op_ge, keeps_ge⟩
/-- a choice by values: one of two readings stands -/
theorem bin_split {g a b : G2} {c : Vl → Vl → Hs → Bool} (hg : ∀ x y h, g x y h = if c x y h = true then a x y h else b x y h) {ma mb : ME} (env : Ev) (h : Hs) : mBin g ma mb env h = mBin a ma mb env h ∨ mBin g ma mb env h = mBin b ma mb env h := by
  unfold mBin
  cases ma env h with
  | ok x h1 =>
    simp only [Out.bind_ok]
    cases mb env h1 with
    | ok y h2 =>
      simp only [Out.bind_ok]
      rw [hg]
      split
      · exact .inl rfl
      · exact .inr rfl
    | ex c fs h2 => exact .inl rfl
    | bad => exact .inl rfl
  | ex c fs h1 => exact .inl rfl
  | bad => exact .inl rfl
theorem rE_split {K : Fg} {m a b : ME} (hm : ∀ env h, m env h = a env h ∨ m env h = b env h) {σ : L2.St} {H : Hp} {Q : VK} (q : rE K W m σ H Q) : rE K W a σ H Q ∨ rE K W b σ H Q := by
  obtain ⟨r, env, h, R, E, p⟩ := q
  rcases hm env h with z | z
  · exact .inl ⟨r, env, h, R, E, by rw [← z]; exact p⟩
  · exact .inr ⟨r, env, h, R, E, by rw [← z]; exact p⟩
theorem test_split {m a b : ME} (hm : ∀ env h, m env h = a env h ∨ m env h = b env h) (env : Ev) (h : Hs) : mTest m env h = mTest a env h ∨ mTest m env h = mTest b env h := by
  unfold mTest
  rcases hm env h with z | z
  · exact .inl (by rw [z])
  · exact .inr (by rw [z])
theorem rT_split {K : Fg} {m a b : MT} (hm : ∀ env h, m env h = a env h ∨ m env h = b env h) {σ : L2.St} {H : Hp} {Q : Bool → Hp → Prop} (q : rT K W m σ H Q) : rT K W a σ H Q ∨ rT K W b σ H Q := by
  obtain ⟨r, env, h, R, E, p⟩ := q
  rcases hm env h with z | z
  · exact .inl ⟨r, env, h, R, E, by rw [← z]; exact p⟩
  · exact .inr ⟨r, env, h, R, E, by rw [← z]; exact p⟩
theorem PT.or {e : Expr} {t u : TT} (h : PT X e t) (h' : PT X e u) : PT X e (fun σ H Q => t σ H Q ∨ u σ H Q) := ⟨fun pins s σ H Q I q => q.elim (fun q => h.run pins s σ H Q I q) fun q => h'.run pins s σ H Q I q⟩
theorem Good.un (G : Good X W T L P sig fA C) : X.A.units + 64 < cLine := G.room.units
theorem cmp_ok (G : Good X W T L P sig fA C) {op : CmpOp} {a b : Expr} {ma mb : ME} {pos : Pos} (hn : noStar b = true) (ha : PE X a (rE X.K W ma)) (hb : PE X b (rE X.K W mb)) :
    PE X (.Compare a [op] [b] pos) (rE X.K W (mBin (g2 (cmpOf op)) ma mb)) ∧ PT X (.Compare a [op] [b] pos) (rT X.K W (mTest (mBin (g2 (cmpOf op)) ma mb))) := by
  have hu := G.un
  have hu1 : X.A.units + 1 < cLine := by omega
  have two : ∀ {o : CmpOp} {t : R2} {g : G2}, OpR X (compareOp o) t → Keeps2 X.K g t → PE X (.Compare a [o] [b] pos) (rE X.K W (mBin g ma mb)) ∧ PT X (.Compare a [o] [b] pos) (rT X.K W (mTest (mBin g ma mb))) :=
    fun ho k => ⟨pe_cmpM ho k ha hb (marks_plain hn), pt_cmpM ho k ha hb (marks_plain hn)⟩
  cases op with
  | Eq => exact two (op_eqN hu) keeps_eq
  | NotEq => exact two (op_neN hu) keeps_ne
  | Lt => exact two op_lt keeps_lt
  | LtE => exact two op_le keeps_le
  | Gt => exact two op_gt keeps_gt
  | GtE => exact two op_ge keeps_ge
  | Is => exact two op_isA keeps_is
  | IsNot => exact two op_isntA keeps_isnt
  | In =>
    obtain ⟨e1, t1⟩ := two op_inA keeps_in
    have pc := pc_dinM hu1 ha hb
    have sp := fun env h => bin_split (g := gInD) (a := gDin) (b := gIn) (c := fun _ y h => isDic y h) (fun _ _ _ => rfl) (ma := ma) (mb := mb) env h
    exact ⟨PE.imp (PE.or (pe_pcM pc hn) e1) fun σ H Q q => rE_split sp q, PT.imp (PT.or (pt_pcM pc hn) t1) fun σ H Q q => rT_split (test_split sp) q⟩
  | NotIn =>
    obtain ⟨e1, t1⟩ := two op_niA keeps_ni
    have pc := pc_dniM hu1 ha hb
    have sp := fun env h => bin_split (g := gNiD) (a := gDni) (b := gNi) (c := fun _ y h => isDic y h) (fun _ _ _ => rfl) (ma := ma) (mb := mb) env h
    exact ⟨PE.imp (PE.or (pe_pcM pc hn) e1) fun σ H Q q => rE_split sp q, PT.imp (PT.or (pt_pcM pc hn) t1) fun σ H Q q => rT_split (test_split sp) q⟩
theorem trSub_ok (G : Good X W T L P sig fA C) (S : Snd X W P C tr) (a i : Expr) (pos : Pos) : PE X (.Subscript a i pos) (rE X.K W (ev P C (trSub tr a i))) := by
  have part : ∀ o : Option Expr, PO X o (rO X.K W (evo P C (trO tr o))) := fun o => by
    cases o with
    | none => exact po_noneM
    | some e => exact po_someM (S e)
  have plain : ∀ i : Expr, noStar i = true → PE X (.Subscript a i pos) (rE X.K W (ev P C (.bin .ix (tr a) (tr i)))) := fun i hn => by
    have hu1 : X.A.units + 1 < cLine := by have := G.un; omega
    have sp := fun env h => bin_split (g := gIxD) (a := gDget) (b := gIx) (c := fun x _ h => isDic x h) (fun _ _ _ => rfl) (ma := ev P C (tr a)) (mb := ev P C (tr i)) env h
    exact PE.imp (PE.or (pe_dgetM hu1 (S a) (S i) hn) (pe_ixM (S a) (S i) (sub_plain hn))) fun σ H Q q => rE_split sp q
  unfold trSub
  split
  · exact pe_slM (S a) (part _) (part _)
  · exact pe_revM (S a)
  · split
    · rename_i h; exact plain _ h
    · exact pe_badM
/-! ### built-in functions, isinstance -/
theorem bf_ok (G : Good X W T L P sig fA C) {x : Str} {b : Bf} (h : bfOf x = some b) : (∃ id t, bootBuiltins x = some (.builtin id) ∧ CallR X (.builtin id) t ∧ KeepsC X.K (gB b) t) ∨ ∃ id t, bootBuiltins x = some (.type id) ∧ CallR X (.type id) t ∧ KeepsC X.K (gB b) t := by
  unfold bfOf at h
  split at h
  · rename_i e; cases h; rw [e]; exact .inl ⟨_, _, by decide +kernel, call_lenA, keeps_len⟩
  · split at h
    · rename_i e; cases h; rw [e]; exact .inl ⟨_, _, PyProof.Rows.boot_abs, call_abs, keeps_abs⟩
    · split at h
      · rename_i e; cases h; rw [e]; exact .inl ⟨_, _, PyProof.Rows.boot_max, call_max2 G.calm, keeps_max⟩
      · split at h
        · rename_i e; cases h; rw [e]; exact .inl ⟨_, _, PyProof.Rows.boot_min, call_min2 G.calm, keeps_min⟩
        · split at h
          · rename_i e; cases h; rw [e]; exact .inr ⟨_, _, by decide +kernel, call_intA, keeps_int⟩
          · split at h
            · rename_i e; cases h; rw [e]; exact .inr ⟨_, _, by decide +kernel, call_str_int, keeps_str⟩
            · split at h
              · rename_i e; cases h; rw [e]; exact .inr ⟨_, _, by decide +kernel, call_list_of, keeps_list⟩
              · split at h
                · rename_i e; cases h; rw [e]; exact .inl ⟨_, _, PyProof.Rows.boot_all, cr_all G.calm, keeps_all⟩
                · split at h
                  · rename_i e; cases h; rw [e]; exact .inl ⟨_, _, PyProof.Rows.boot_any, cr_any G.calm, keeps_any⟩
                  · split at h
                    · rename_i e; cases h; rw [e]; exact .inl ⟨_, _, PyProof.Rows.boot_sorted, cr_sorted, keeps_sorted⟩
                    · cases h
theorem bty_ok {x : Str} {n : Nat} (h : btyOf x = some n) : bootBuiltins x = some (.type (bty n)) := by
  unfold btyOf at h
  split at h
  · rename_i e; cases h; rw [e]; decide +kernel
  · split at h
    · rename_i e; cases h; rw [e]; decide +kernel
    · split at h
      · rename_i e; cases h; rw [e]; decide +kernel
      · split at h
        · rename_i e; cases h; rw [e]; decide +kernel
        · split at h
          · rename_i e; cases h; rw [e]; decide +kernel
          · split at h
            · rename_i e; cases h; rw [e]; decide +kernel
            · cases h
theorem tyNm_ok (G : Good X W T L P sig fA C) {e : Expr} {t : TyT} (h : tyNm T e = some t) : TyNm X e t := by
  unfold tyNm at h
  split at h
  · split at h
    · rename_i eg
      obtain ⟨n, h1, rfl⟩ := Option.map_eq_some_iff.mp h
      obtain ⟨a, b, c, d⟩ := G.glo eg
      exact nm_blt a (G.F.free _ b) (bty_ok h1) d c
    · rename_i c _ eg
      cases h
      obtain ⟨a, b, c, d⟩ := G.glo eg
      exact nm_own a (G.F.cls _ _ _ b).1 c
    · rename_i c eg
      cases h
      obtain ⟨a, b, c, d⟩ := G.glo eg
      exact nm_own a (G.F.exc _ _ b).m c
    · cases h
  · cases h
theorem tyNms_ok (G : Good X W T L P sig fA C) : ∀ {es : List Expr} {ts : List TyT}, tyNms T es = some ts → TyNms X es ts
  | [], ts, h => by cases h; trivial
  | e :: es, ts, h => by
    unfold tyNms at h
    split at h
    · rename_i t ts' h1 h2
      cases h
      exact ⟨tyNm_ok G h1, tyNms_ok G h2⟩
    · cases h
theorem trIsi_ok (G : Good X W T L P sig fA C) (S : Snd X W P C tr) (hg : Gl X "isinstance") (hm : X.mg "isinstance" = none) (a t : Expr) (p pos : Pos) : PE X (.Call (.Name "isinstance" p) [a, t] [] pos) (rE X.K W (ev P C (trIsi T tr a t))) := by
  unfold trIsi
  split
  · rename_i hn
    split
    · split
      · rename_i t ts h
        split
        · rename_i hl
          exact pe_isiTM G.F.isi hg hm (S a) hn (tyNms_ok G h) hl
        · exact pe_badM
      · exact pe_badM
    · split
      · rename_i h
        exact pe_isiM G.F.isi hg hm (S a) hn (tyNm_ok G h)
      · exact pe_badM
  · exact pe_badM
theorem trFree_ok (G : Good X W T L P sig fA C) (S : Snd X W P C tr) {x : Str} (args : List Expr) (p pos : Pos) (h : T.glo x = some .free) : PE X (.Call (.Name x p) args [] pos) (rE X.K W (ev P C (trFree T tr x args))) := by
  obtain ⟨hg, h2, h3, h4⟩ := G.glo h
  have hm := G.F.free _ h2
  unfold trFree
  split
  · rename_i e
    subst e
    split
    · exact trIsi_ok G S hg hm _ _ _ _
    · exact pe_badM
  · split
    · rename_i b hb
      split
      · exact pe_badM
      · rename_i e es
        split
        · rename_i hs
          rcases bf_ok G hb with ⟨id, t, h5, h6, h7⟩ | ⟨id, t, h5, h6, h7⟩
          · exact pe_callBM h6 h7 hg hm h5 (trL_ok S _) h4 h3 hs
          · exact pe_callTyM h6 h7 hg hm h5 (trL_ok S _) h4 h3 hs
        · exact pe_badM
    · exact pe_badM

/-! ### calls -/
theorem bm_one {m : Str} {b : Bm} {o e0 : Expr} {es : List Expr} {apos pos : Pos} (G : Good X W T L P sig fA C) (S : Snd X W P C tr) (h : bmOf m (e0 :: es).length = some b) (hp : plainX o = true) (hs : (e0 :: es).all noStar = true) (hl : (e0 :: es).length < 29)
    (hline : (apos.endLine == pos.line) = true) : PE X (.Call (.Attribute o m apos) (e0 :: es) [] pos) (rE X.K W (ev P C (.bm b (tr o) (trL tr (e0 :: es))))) := by
  have hu1 : X.A.units + 1 < cLine := by have := G.un; omega
  have l30 : (e0 :: es).length < 30 := by omega
  have all := trL_ok S (e0 :: es)
  have hs0 := hs
  rw [List.all_cons, Bool.and_eq_true] at hs0
  obtain ⟨p, h1, h2⟩ := Option.map_eq_some_iff.mp h
  have hm := List.mem_of_find?_eq_some h1
  have e : p.1 = (m, (e0 :: es).length) := by simpa using List.find?_some h1
  subst h2
  unfold bmT at hm
  rcases List.mem_cons.mp hm with rfl | hm
  · have em := (Prod.mk.inj e).1
    subst em
    exact pe_bmM F.plainAttrs_list F.slot_list_append F.type_list_append mt_append keeps_append tyLst (S o) all hp hs l30 hline
  rcases List.mem_cons.mp hm with rfl | hm
  · have em := (Prod.mk.inj e).1
    subst em
    exact pe_bmM F.plainAttrs_list F.slot_list_insert F.type_list_insert mt_insert keeps_insert tyLst (S o) all hp hs l30 hline
  rcases List.mem_cons.mp hm with rfl | hm
  · have em := (Prod.mk.inj e).1
    subst em
    exact pe_bmM F.plainAttrs_list F.slot_list_extend F.type_list_extend mt_extend keeps_extend tyLst (S o) all hp hs l30 hline
  rcases List.mem_cons.mp hm with rfl | hm
  · have em := (Prod.mk.inj e).1
    subst em
    exact absurd (Prod.mk.inj e).2.symm (by simp)
  rcases List.mem_cons.mp hm with rfl | hm
  · have em := (Prod.mk.inj e).1
    subst em
    exact absurd (Prod.mk.inj e).2.symm (by simp)
  rcases List.mem_cons.mp hm with rfl | hm
  · have em := (Prod.mk.inj e).1
    subst em
    exact pe_bmM F.plainAttrs_list F.slot_list_pop F.type_list_pop mt_popAt keeps_popAt tyLst (S o) all hp hs l30 hline
  rcases List.mem_cons.mp hm with rfl | hm
  · have em := (Prod.mk.inj e).1
    subst em
    exact pe_bmM F.plainAttrs_list F.slot_list_index F.type_list_index mt_index keeps_index tyLst (S o) all hp hs l30 hline
  rcases List.mem_cons.mp hm with rfl | hm
  · have em := (Prod.mk.inj e).1
    subst em
    exact pe_bmM F.plainAttrs_str F.slot_str_split F.type_str_split mt_split keeps_split tyStr (S o) all hp hs l30 hline
  rcases List.mem_cons.mp hm with rfl | hm
  · have em := (Prod.mk.inj e).1
    subst em
    exact pe_bmM F.plainAttrs_str F.slot_str_partition F.type_str_partition mt_partition keeps_partition tyStr (S o) all hp hs l30 hline
  rcases List.mem_cons.mp hm with rfl | hm
  · have em := (Prod.mk.inj e).1
    subst em
    exact pe_bmM F.plainAttrs_str F.slot_str_join F.type_str_join mt_join keeps_join tyStr (S o) all hp hs l30 hline
  rcases List.mem_cons.mp hm with rfl | hm
  · have em := (Prod.mk.inj e).1
    subst em
    obtain rfl : es = [] := List.eq_nil_of_length_eq_zero (by have := (Prod.mk.inj e).2; simpa using this.symm)
    unfold trL trL
    rw [if_pos hs0.1]
    exact pe_get1M hu1 (S o) (S e0) hp hs0.1 hline
  rcases List.mem_cons.mp hm with rfl | hm
  · have em := (Prod.mk.inj e).1
    subst em
    obtain ⟨f, rfl⟩ : ∃ f, es = [f] := by
      match es, (Prod.mk.inj e).2.symm with
      | [f], _ => exact ⟨f, rfl⟩
    have n2 : noStar f = true := by simpa using hs0.2
    unfold trL trL trL
    rw [if_pos hs0.1, if_pos n2]
    exact pe_get2M hu1 (S o) (S e0) (S f) hp hs0.1 n2 hline
  rcases List.mem_cons.mp hm with rfl | hm
  · have em := (Prod.mk.inj e).1
    subst em
    obtain ⟨f, rfl⟩ : ∃ f, es = [f] := by
      match es, (Prod.mk.inj e).2.symm with
      | [f], _ => exact ⟨f, rfl⟩
    have n2 : noStar f = true := by simpa using hs0.2
    unfold trL trL trL
    rw [if_pos hs0.1, if_pos n2]
    exact pe_setdM (S o) (S e0) (S f) hp hs0.1 n2 hline
  cases hm
theorem bm_none {m : Str} {b : Bm} {o : Expr} {apos pos : Pos} (S : Snd X W P C tr) (h : bmOf m 0 = some b) (hp : plainX o = true) (hline : (apos.endLine == pos.line) = true) :
    PE X (.Call (.Attribute o m apos) [] [] pos) (rE X.K W (ev P C (.bm b (tr o) .nil))) := by
  obtain ⟨p, h1, h2⟩ := Option.map_eq_some_iff.mp h
  have hm := List.mem_of_find?_eq_some h1
  have e : p.1 = (m, 0) := by simpa using List.find?_some h1
  subst h2
  unfold bmT at hm
  rcases List.mem_cons.mp hm with rfl | hm
  · have em := (Prod.mk.inj e).1
    subst em
    exact absurd (Prod.mk.inj e).2 (by decide)
  rcases List.mem_cons.mp hm with rfl | hm
  · have em := (Prod.mk.inj e).1
    subst em
    exact absurd (Prod.mk.inj e).2 (by decide)
  rcases List.mem_cons.mp hm with rfl | hm
  · have em := (Prod.mk.inj e).1
    subst em
    exact absurd (Prod.mk.inj e).2 (by decide)
  rcases List.mem_cons.mp hm with rfl | hm
  · have em := (Prod.mk.inj e).1
    subst em
    exact pe_bm0M F.plainAttrs_list F.slot_list_clear F.type_list_clear mt_clear keeps_clear tyLst (S o) hp hline
  rcases List.mem_cons.mp hm with rfl | hm
  · have em := (Prod.mk.inj e).1
    subst em
    exact pe_bm0M F.plainAttrs_list F.slot_list_pop F.type_list_pop mt_pop keeps_pop tyLst (S o) hp hline
  rcases List.mem_cons.mp hm with rfl | hm
  · have em := (Prod.mk.inj e).1
    subst em
    exact absurd (Prod.mk.inj e).2 (by decide)
  rcases List.mem_cons.mp hm with rfl | hm
  · have em := (Prod.mk.inj e).1
    subst em
    exact absurd (Prod.mk.inj e).2 (by decide)
  rcases List.mem_cons.mp hm with rfl | hm
  · have em := (Prod.mk.inj e).1
    subst em
    exact absurd (Prod.mk.inj e).2 (by decide)
  rcases List.mem_cons.mp hm with rfl | hm
  · have em := (Prod.mk.inj e).1
    subst em
    exact absurd (Prod.mk.inj e).2 (by decide)
  rcases List.mem_cons.mp hm with rfl | hm
  · have em := (Prod.mk.inj e).1
    subst em
    exact absurd (Prod.mk.inj e).2 (by decide)
  rcases List.mem_cons.mp hm with rfl | hm
  · have em := (Prod.mk.inj e).1
    subst em
    exact absurd (Prod.mk.inj e).2 (by decide)
  rcases List.mem_cons.mp hm with rfl | hm
  · have em := (Prod.mk.inj e).1
    subst em
    exact absurd (Prod.mk.inj e).2 (by decide)
  rcases List.mem_cons.mp hm with rfl | hm
  · have em := (Prod.mk.inj e).1
    subst em
    exact absurd (Prod.mk.inj e).2 (by decide)
  cases hm
theorem trCall_ok (G : Good X W T L P sig fA C) (S : Snd X W P C tr) (f : Expr) (args : List Expr) (pos : Pos) : PE X (.Call f args [] pos) (rE X.K W (ev P C (trCall T tr f args pos))) := by
  have room := G.room.mono (Nat.le_succ L)
  unfold trCall
  split
  · split
    · rename_i g np dfl eg
      obtain ⟨hg, h2, h3, h4⟩ := G.glo eg
      obtain ⟨hm, sg⟩ := G.F.fn _ _ _ _ h2
      split
      · rename_i hs
        split
        · cases args with
          | nil => exact pe_callF0M G.cs room G.tk sg hg hm h3
          | cons e es => exact pe_callFM G.cs room G.tk sg hg hm h3 (trL_ok S _) hs
        · split
          · exact pe_callDM G.cs room G.tk sg hg hm h3 (trL_ok S _) hs
          · exact pe_badM
      · exact pe_badM
    · rename_i c g eg
      obtain ⟨hg, h2, h3, h4⟩ := G.glo eg
      obtain ⟨hm, M, sg⟩ := G.F.cls _ _ _ h2
      obtain ⟨⟨np, dfl⟩, sg⟩ := Option.isSome_iff_exists.mp sg
      split
      · rename_i hs
        cases args with
        | nil => exact pe_make0M G.cs G.room G.tk sg M hg hm h3
        | cons e es => exact pe_makeM G.cs G.room G.tk sg M hg hm h3 (trL_ok S _) hs
      · exact pe_badM
    · rename_i eg
      exact trFree_ok G S args _ _ eg
    · exact pe_badM
  · split
    · rename_i hc
      simp only [Bool.and_eq_true, decide_eq_true_eq] at hc
      obtain ⟨⟨⟨hp, hs⟩, hl⟩, hline⟩ := hc
      split
      · rename_i b hb
        cases args with
        | nil => exact bm_none S hb hp hline
        | cons e es => exact bm_one G S hb hp hs hl hline
      · split
        · rename_i k hk
          cases args with
          | nil => exact pe_meth0M (nm_of hk) G.cs room G.tk G.F.mt (S _) hp hline
          | cons e es => exact pe_methM (nm_of hk) G.cs room G.tk G.F.mt (S _) (trL_ok S _) hp hs hl hline
        · exact pe_badM
    · exact pe_badM
  · exact pe_badM
end
end Mi

/-! S2: comprehensions and all expressions. -/
namespace Mi
open PySem PySem.Spec L2
section
variable {X : Cx} {W : WX} {T : TC} {L : Nat} {P : Pr} {sig : Sig} {fA : Nat → Addr} {C : Clr} {tr tr' : Expr → Ex}
theorem rI_bad {K : Fg} {σ : L2.St} {H : Hp} {R : It → Hp → Prop} (q : rI K W (fun _ _ => .bad) σ H R) : False := by
  obtain ⟨r, env, h, Rh, E, p⟩ := q
  exact p
theorem pi_badM {tg e : Expr} : PI X tg e (rI X.K W fun _ _ => .bad) := ⟨fun pins s σ H R I q => (rI_bad q).elim⟩
theorem isTup_of {e : Expr} (h : isTup e = true) : ∃ es k p, e = .Tuple es k p := by
  cases e with
  | Tuple es k p => exact ⟨es, k, p, rfl⟩
  | _ => cases h
theorem evi_cons {k : Ik} {a as : Ex} : evi P C k (.cons a as) = (match k with
    | .seq => mIter (ev P C a)
    | .r1 => mRng1 (mCons (ev P C a) (evs P C as))
    | .r2 => mRng2 (mCons (ev P C a) (evs P C as))
    | .zip => mZip (mCons (ev P C a) (evs P C as))
    | .enum => mEnum (mCons (ev P C a) (evs P C as))) := by cases k <;> rfl
theorem pa_one (S : Snd X W P C tr) {e : Expr} (h : noStar e = true) : PA X [e] (rA X.K W (mCons (ev P C (tr e)) mNil)) := pa_consM (S e) pa_nilM h
theorem pa_two (S : Snd X W P C tr) {e f : Expr} (h : noStar e = true) (h' : noStar f = true) : PA X [e, f] (rA X.K W (mCons (ev P C (tr e)) (mCons (ev P C (tr f)) mNil))) := pa_consM (S e) (pa_one S h') h
theorem trIter_ok (G : Good X W T L P sig fA C) (S : Snd X W P C tr) (tg iter : Expr) : PI X tg iter (rI X.K W (evi P C (trIter T tr tg iter).1 (trIter T tr tg iter).2)) := by
  have plain : PI X tg iter (rI X.K W (evi P C .seq (.cons (tr iter) .nil))) := pi_iterM (S iter)
  unfold trIter
  split
  · split
    · split
      · rename_i eg
        obtain ⟨hg, h2, h3, h4⟩ := G.glo eg
        have hm := G.F.free _ h2
        split
        · rename_i ex
          subst ex
          split
          · split
            · rename_i hn; exact pi_rng1M hg hm (pa_one S hn) hn
            · exact pi_badM
          · split
            · rename_i hn
              rw [Bool.and_eq_true] at hn
              exact pi_rng2M hg hm (pa_two S hn.1 hn.2) hn.1 hn.2
            · exact pi_badM
          · exact pi_badM
        · split
          · rename_i ex
            subst ex
            split
            · split
              · rename_i hn
                simp only [Bool.and_eq_true] at hn
                obtain ⟨es, k, p, rfl⟩ := isTup_of hn.1.1
                exact pi_zipM hg hm (pa_two S hn.1.2 hn.2) hn.1.2 hn.2
              · exact pi_badM
            · exact pi_badM
          · split
            · rename_i ex
              subst ex
              split
              · split
                · rename_i hn
                  simp only [Bool.and_eq_true] at hn
                  obtain ⟨es, k, p, rfl⟩ := isTup_of hn.1
                  exact pi_enumM hg hm (pa_one S hn.2) hn.2
                · exact pi_badM
              · exact pi_badM
            · exact plain
      · exact plain
    · exact plain
  · exact pi_badM
theorem nmsOf_ok (G : Good X W T L P sig fA C) : ∀ {es : List Expr} {is : List Nat}, nmsOf T es = some is → NmsOk X es is
  | [], is, h => by cases h; trivial
  | e :: es, is, h => by
    cases e <;> first
      | (unfold nmsOf at h
         split at h
         · rename_i i is' h1 h2
           cases h
           obtain ⟨a, b, c⟩ := G.sto h1
           exact ⟨⟨_, _, rfl, a, b, c⟩, nmsOf_ok G h2⟩
         · cases h)
      | cases h
theorem trTg_ok (G : Good X W T L P sig fA C) {tg : Expr} {g : Tg} (h : trTg T tg = some g) : PG X tg (rG X.K g) := by
  unfold trTg at h
  split at h
  · obtain ⟨i, h1, rfl⟩ := Option.map_eq_some_iff.mp h
    obtain ⟨a, b, c⟩ := G.sto h1
    exact pg_one G.nd ⟨_, _, rfl, a, b, c⟩
  · obtain ⟨is, h1, rfl⟩ := Option.map_eq_some_iff.mp h
    exact pg_many G.calm G.nd (nmsOf_ok G h1)
  · cases h
theorem lookup_rel {s : Scope} {x : Str} {k : NameKind} : ∀ {names : List (Str × NameKind)}, names.lookup x = some k → (names.map fun (n, k) => if (k == .free && s.kind == .function && s.names.lookup n == some .cell) then (n, NameKind.cell) else (n, k)).lookup x =
    some (if (k == .free && s.kind == .function && s.names.lookup x == some .cell) then NameKind.cell else k)
  | [], h => by cases h
  | (n, k') :: r, h => by
    rw [List.lookup_cons] at h
    rw [List.map_cons]
    cases hb : (x == n) with
    | true =>
      rw [hb] at h
      cases h
      have en : x = n := beq_iff_eq.mp hb
      subst en
      simp only
      split
      · rw [List.lookup_cons, beq_self_eq_true]
      · rw [List.lookup_cons, beq_self_eq_true]
    | false =>
      rw [hb] at h
      have i := lookup_rel (s := s) (names := r) h
      simp only
      split
      · rw [List.lookup_cons, hb]; exact i
      · rw [List.lookup_cons, hb]; exact i
theorem agr_rel (scope e : Scope) : Agr (relS scope e) scope := by
  have key : ∀ x k, scope.names.lookup x = some k → (relS scope e).names.lookup x = some (if (k == .free && e.kind == .function && e.names.lookup x == some .cell) then NameKind.cell else k) := fun x k h => lookup_rel (s := e) h
  refine ⟨fun x h => ?_, fun x h => ?_, fun x h => ?_, fun x h => ?_⟩
  · rw [key x _ h]; rfl
  · rw [key x _ h]; rfl
  · rw [key x _ h]
    split
    · exact .inl rfl
    · exact .inr rfl
  · rw [key x _ h]; rfl
theorem blk_ok (G : Good X W T L P sig fA C) {scope : Scope} {own : List (Str × Nat)} (h : blkC T.N T.sc scope own = true) : BlkOk X.N X.env.scope scope own := by
  have q := blkOk_by h
  rw [← G.N] at q
  exact ⟨q.kind, q.uniq, q.ix, fun y hy e => (q.free y hy e).elim (fun z => .inl (G.sc.c _ z)) fun z => G.sc.f _ z, q.own⟩
/-- within a comprehension -/
theorem good_blk (G : Good X W T L P sig fA C) {scope : Scope} (hk : scope.kind = .function) (s : Shared) (H : Hp) (Cc : Addr) (cl : List (Str × Addr)) (fp : List Addr) :
    Good (X.blk s H scope (compEnvC scope cl Cc X.env) fp) W0 (T.in_ scope) L P sig fA C := by
  refine ⟨G.cs, G.room, G.calm, fun u s' z => ?_, G.nd, G.N, ?_, fun x h => ?_, hk, G.F⟩
  · obtain ⟨a, B, sI, pins', σ', H', cls, d, _, _, _, _, _, _, _, _, w⟩ := z
    exact w
  · exact agr_rel scope X.env.scope
  · show (scope.names.lookup x == some .cell) = true
    rw [show scope.names.lookup x = some .cell from h]; rfl
/-- tests -/
def SndT (X : Cx) (W : WX) (P : Pr) (C : Clr) (m : Nat) (tr : Expr → Ex) : Prop := ∀ e, tst m e = true → PT X e (rT X.K W (mTest (ev P C (tr e))))
theorem trIfs_ok {m : Nat} (S : SndT X W P C m tr) (ifs : List Expr) : PTs X ifs (rT X.K W (mTest (ev P C (trIfs m tr ifs)))) := by
  have bad : ∀ es, PTs X es (rT X.K W (mTest (ev P C .bad))) := fun es => ⟨fun pins s σ H Q I q => by
    obtain ⟨r, env, h, R, E, p⟩ := q
    exact p.elim⟩
  match ifs with
  | [] =>
    refine ⟨fun pins s σ H Q I q => pts_nil.run pins s σ H Q I ?_⟩
    obtain ⟨r, env, h, R, E, p⟩ := q
    exact p.here R
  | [c] =>
    show PTs X [c] (rT X.K W (mTest (ev P C (if tst m c = true then tr c else .bad))))
    split
    · rename_i h; exact pts_one (S c h)
    · exact bad _
  | _ :: _ :: _ => exact bad _
theorem lc_parts (G : Good X W T L P sig fA C) {m : Nat} (S : Snd X W P C tr) {scope : Scope} (S' : scope.kind = .function → ∀ (s : Shared) (H : Hp) (Cc : Addr) (cl : List (Str × Addr)) (fp : List Addr), Snd (X.blk s H scope (compEnvC scope cl Cc X.env) fp) W0 P C tr' ∧ SndT (X.blk s H scope (compEnvC scope cl Cc X.env) fp) W0 P C m tr')
    {elt tg iter : Expr} {ifs : List Expr} {g : Tg} (h1 : trTg (T.in_ scope) tg = some g) (h2 : (blkC T.N T.sc scope (ownOf T.N scope.names) && g.slots.all (fun i => ((ownOf T.N scope.names).map (·.2)).contains i) && noStar iter) = true) :
    PI X tg iter (rI X.K W (evi P C (trIter T tr tg iter).1 (trIter T tr tg iter).2)) ∧ BlkOk X.N X.env.scope scope (ownOf T.N scope.names) ∧ (∀ i ∈ g.slots, i ∈ (ownOf T.N scope.names).map (·.2)) ∧ noStar iter = true ∧
    ∀ (s : Shared) (H : Hp) (Cc : Addr) (cl : List (Str × Addr)) (fp : List Addr), PG (X.blk s H scope (compEnvC scope cl Cc X.env) fp) tg (rG X.K g) ∧ PTs (X.blk s H scope (compEnvC scope cl Cc X.env) fp) ifs (rT X.K W0 (mTest (ev P C (trIfs m tr' ifs)))) ∧ PE (X.blk s H scope (compEnvC scope cl Cc X.env) fp) elt (rE X.K W0 (ev P C (tr' elt))) := by
  simp only [Bool.and_eq_true] at h2
  have B := blk_ok G h2.1.1
  refine ⟨trIter_ok G S tg iter, B, fun i hi => ?_, h2.2, fun s H Cc cl fp => ?_⟩
  · simpa using List.all_eq_true.mp h2.1.2 i hi
  · obtain ⟨a, b⟩ := S' B.kind s H Cc cl fp
    exact ⟨trTg_ok (good_blk G B.kind s H Cc cl fp) h1, trIfs_ok b ifs, a elt⟩
theorem trLc_ok (G : Good X W T L P sig fA C) {m : Nat} (S : Snd X W P C tr) {scope : Scope} (S' : scope.kind = .function → ∀ (s : Shared) (H : Hp) (Cc : Addr) (cl : List (Str × Addr)) (fp : List Addr), Snd (X.blk s H scope (compEnvC scope cl Cc X.env) fp) W0 P C tr' ∧ SndT (X.blk s H scope (compEnvC scope cl Cc X.env) fp) W0 P C m tr')
    (elt tg iter : Expr) (ifs : List Expr) (pos : Pos) : PE X (.ListComp elt [⟨tg, iter, ifs, 0⟩] scope pos) (rE X.K W (ev P C (trLc T m tr tr' elt tg iter ifs scope))) := by
  unfold trLc
  split
  · rename_i g h1
    split
    · rename_i h2
      obtain ⟨a, b, c, d, e⟩ := lc_parts (elt := elt) (ifs := ifs) G S S' h1 h2
      exact pe_lcM G.calm G.nd a b c e d
    · exact pe_badM
  · exact pe_badM
/-- every expression: as a value, as a test -/
theorem trBool_ok {op : BoolOp} {pos : Pos} : ∀ {es : List Expr} {tr : Expr → Ex}, Snd X W P C tr → PE X (.BoolOp op es pos) (rE X.K W (ev P C (trBool op (es.map tr))))
  | [], _, _ => pe_badM
  | [a], _, S => pe_one (S a)
  | a :: b :: r, tr, S => by
    have i := trBool_ok (op := op) (pos := pos) (es := b :: r) S
    cases op with
    | And => exact pe_andM (S a) i
    | Or => exact pe_orM (S a) i
theorem trBool_t {op : BoolOp} {pos : Pos} {m : Nat} : ∀ {es : List Expr} {tr : Expr → Ex}, SndT X W P C m tr → es.all (tst m) = true → es ≠ [] → PW X (.BoolOp op es pos) (rT X.K W (mTest (ev P C (trBool op (es.map tr)))))
  | [], _, _, _, h => absurd rfl h
  | [a], _, S, h, _ => by
    have ha := S a (by simpa using h)
    cases op with
    | And => exact pw_and1 ha
    | Or => exact pw_or1 ha
  | a :: b :: r, tr, S, h, _ => by
    rw [List.all_cons, Bool.and_eq_true] at h
    have i := trBool_t (op := op) (pos := pos) (es := b :: r) S h.2 (by simp)
    cases op with
    | And => exact pw_andM (S a h.1) i
    | Or => exact pw_orM (S a h.1) i
theorem pt_badM {e : Expr} : PT X e (rT X.K W (mTest (ev P C .bad))) := ⟨fun pins s σ H Q I q => by
  obtain ⟨r, env, h, R, E, p⟩ := q
  exact p.elim⟩
theorem noTest_of {e : Expr} (h1 : ∀ x p, e ≠ .UnaryOp .Not x p) (h2 : ∀ o x p, e ≠ .BoolOp o x p) (h3 : ∀ a b c p, e ≠ .IfExp a b c p) (h4 : ∀ a b c p, e ≠ .Compare a b c p) : noTest e = true := by
  cases e with
  | UnaryOp op x p => cases op <;> first | rfl | exact absurd rfl (h1 _ _)
  | BoolOp o x p => exact absurd rfl (h2 _ _ _)
  | IfExp a b c p => exact absurd rfl (h3 _ _ _ _)
  | Compare a b c p => exact absurd rfl (h4 _ _ _ _)
  | _ => rfl
end
theorem trE_ok {L : Nat} {P : Pr} {sig : Sig} {fA : Nat → Addr} {C : Clr} : ∀ (n : Nat) {X : Cx} {W : WX} {T : TC}, Good X W T L P sig fA C → Snd X W P C (trE n T) ∧ SndT X W P C n (trE n T)
  | 0, X, W, T, G => ⟨fun e => pe_badM, fun e h => by cases h⟩
  | n + 1, X, W, T, G => by
    obtain ⟨S, St⟩ := trE_ok n G
    have V : Snd X W P C (trE (n + 1) T) := fun e => by
      unfold trE
      split
      · exact trC_ok _ _ _
      · exact trName_ok G _ _
      · exact trBool_ok S
      · split
        · rename_i h
          obtain ⟨t, h1, h2⟩ := op_ok (X := X) G h
          exact pe_bin h1 h2 (S _) (S _)
        · exact pe_badM
      · exact pe_notM (S _)
      · exact PE.imp (pe_un un_neg (S _)) fun σ H Q q => rE_un keeps_neg q
      · split
        · rename_i h; exact pe_iteM (St _ h) (S _) (S _)
        · exact pe_badM
      · split
        · rename_i h; exact (cmp_ok G h (S _) (S _)).1
        · exact pe_badM
      · split
        · rename_i h
          simp only [Bool.and_eq_true] at h
          obtain ⟨t, h1, h2⟩ := lin_ok (X := X) h.1.2
          obtain ⟨t', h3, h4⟩ := lin_ok (X := X) h.2
          exact pe_chainM h1 h3 h2 h4 (S _) (S _) (S _) h.1.1
        · exact pe_badM
      · exact pe_tupM (trL_ok S _)
      · exact pe_lstM (trL_ok S _)
      · exact pe_dnewM
      · exact pe_dict1M (S _) (S _)
      · exact trSub_ok G S _ _ _
      · split
        · rename_i h
          split
          · rename_i f hf; exact pe_fldM G.F.fld (nm_of hf) (S _) h
          · exact pe_badM
        · exact pe_badM
      · exact trCall_ok G S _ _ _
      · exact trLc_ok G S (fun hk s H Cc cl fp => trE_ok n (good_blk G hk s H Cc cl fp)) _ _ _ _ _
      · exact pe_badM
    refine ⟨V, fun e ht => ?_⟩
    by_cases h1 : ∃ x p, e = .UnaryOp .Not x p
    · obtain ⟨x, p, rfl⟩ := h1
      exact pt_notM (St x ht)
    · by_cases h2 : ∃ o x p, e = .BoolOp o x p
      · obtain ⟨o, x, p, rfl⟩ := h2
        cases x with
        | nil => exact pt_badM
        | cons a r => exact (trBool_t St ht (by simp)).pt
      · by_cases h3 : ∃ a b c p, e = .IfExp a b c p
        · obtain ⟨a, b, c, p, rfl⟩ := h3
          cases ht
        · by_cases h4 : ∃ a b c p, e = .Compare a b c p
          · obtain ⟨a, ops, cs, p, rfl⟩ := h4
            unfold trE
            split
            · rename_i z; cases z
            · rename_i z; cases z
            · rename_i z; cases z
            · rename_i z; cases z
            · rename_i z; cases z
            · rename_i z; cases z
            · rename_i z; cases z
            · rename_i z
              cases z
              split
              · rename_i h; exact (cmp_ok G h (S _) (S _)).2
              · exact pt_badM
            · rename_i z
              cases z
              split
              · rename_i h
                simp only [Bool.and_eq_true] at h
                obtain ⟨t, h1, h2⟩ := lin_ok (X := X) h.1.2
                obtain ⟨t', h3, h4⟩ := lin_ok (X := X) h.2
                exact pt_chainM h1 h3 h2 h4 (S _) (S _) (S _) h.1.1
              · exact pt_badM
            all_goals first
              | exact pt_badM
              | (rename_i z; cases z)
          · exact pt_valM (V e) (noTest_of (fun x p z => h1 ⟨x, p, z⟩) (fun o x p z => h2 ⟨o, x, p, z⟩) (fun a b c p z => h3 ⟨a, b, c, p, z⟩) (fun a b c p z => h4 ⟨a, b, c, p, z⟩))
end Mi

/-! S3: statements mean what the small language says; functions keep their promises. -/
namespace Mi
open PySem PySem.Spec L2
structure GoodS (X : Cx) (W : WX) (T : TC) (L : Nat) (P : Pr) (sig : Sig) (fA : Nat → Addr) (C : Clr) : Prop extends Good X W T L P sig fA C where
  hs : X.stack = X.env :: X.outer
  hf : X.env.frame = some X.env.locals
  po : PassesOwn (model X.prog X.w) X.A X.env X.xe
theorem rS_bad {K : Fg} {W : WX} {D : Ends} {σ : L2.St} {H : Hp} (q : rS K W (fun _ _ => .bad) D σ H) : False := by
  obtain ⟨r, env, h, R, E, p⟩ := q
  exact p
section
variable {X : Cx} {W : WX} {T : TC} {L : Nat} {P : Pr} {sig : Sig} {fA : Nat → Addr} {C : Clr} {tr : Expr → Ex}
theorem ps_badM {st : Stmt} : PS X st (rS X.K W fun _ _ => .bad) := ⟨fun pins s σ H D I q => (rS_bad q).elim⟩
theorem pss_badM {st : List Stmt} : PSs X st (rS X.K W fun _ _ => .bad) := ⟨fun pins s σ H D I q => (rS_bad q).elim⟩
theorem swapped_yes {env : Env} {x y : Str} {px py pt pt2 : Pos} {kt k2 : Nat} {a b : Expr} (hk : env.scope.kind = .function) (hx : env.scope.names.lookup x = some .local) (hy : env.scope.names.lookup y = some .local) (hxy : x ≠ y) (hl : (py.line == px.line) = true)
    (na : noStar a = true) (nb : noStar b = true) (h1 : ([a, b].all (foldedForSure 8)) = false) (h2 : ([a, b].all (constantsAlone 8)) = false) :
    swappedStores [.Tuple [.Name x px, .Name y py] kt pt] (.Tuple [a, b] k2 pt2) env = pure (some [x, y]) := by
  have kx : env.kindOf x = some .local := hx
  have ky : env.kindOf y = some .local := hy
  have bk : env.blockKind = .function := by unfold Env.blockKind; rw [hk]; rfl
  have hl' : py.line = px.line := by simpa using hl
  have hyx : ¬ y = x := fun z => hxy z.symm
  unfold swappedStores
  simp only [List.any_cons, List.any_nil, bk, Bool.or_false]
  simp [kx, ky, hl', h1, h2, Expr.pos, hxy, hyx, List.eraseDups_cons]
  intro z
  exfalso
  rcases z with z | z
  · cases a <;> first | (cases z; done) | (cases na; done)
  · cases b <;> first | (cases z; done) | (cases nb; done)
theorem swaps_cell {elt : Expr} {gs : List Comprehension} {scope : Scope} {pos py : Pos} {y : Str} {l : Nat} {env : Env} (h : env.scope.names.lookup y = some .cell) : swapsWith (.ListComp elt gs scope pos) (some (.Name y py)) l env = pure false := by
  have k : env.kindOf y = some .cell := h
  have ne : (NameKind.cell == NameKind.local) = false := rfl
  unfold swapsWith
  simp [k, ne]
theorem GoodS.tr_ (G : GoodS X W T L P sig fA C) {W' : WX} {pn : List (Addr × Obj)} {xe : Value → Shared → Prop} (tk : Takes (X.tr pn xe) W') (po : PassesOwn (model X.prog X.w) X.A X.env xe) : GoodS (X.tr pn xe) W' T L P sig fA C :=
  ⟨⟨G.cs, G.room, G.calm, tk, G.nd, G.N, G.sc, G.fnc, G.kd, G.F⟩, G.hs, G.hf, po⟩
theorem asg1_ok (G : GoodS X W T L P sig fA C) {n : Nat} {x : Str} {i : Nat} (h : T.sto x = some i) (e : Expr) (p pos : Pos) : PS X (.Assign [.Name x p] e pos) (rS X.K W (sAsg (.one i) (ev P C (trE n T e)))) := by
  obtain ⟨a, b, c⟩ := G.sto h
  obtain ⟨S, St⟩ := trE_ok n G.toGood
  by_cases hn : noComp e = true
  · exact ps_setM G.nd a b (S e) hn c
  · have bad : trE n T e = .bad → PS X (.Assign [.Name x p] e pos) (rS X.K W (sAsg (.one i) (ev P C (trE n T e)))) := fun z => by
      rw [z]
      exact ⟨fun pins s σ H D I q => by
        obtain ⟨r, env, h, R, E, p⟩ := q
        exact p.elim⟩
    cases n with
    | zero => exact bad rfl
    | succ n =>
      cases e with
      | SetComp _ _ _ _ => exact bad rfl
      | DictComp _ _ _ _ _ => exact bad rfl
      | ListComp elt gs scope cp =>
        match gs with
        | [] => exact bad rfl
        | [⟨tg, iter, ifs, k⟩] =>
          by_cases hk : k = 0
          · subst hk
            show PS X _ (rS X.K W (sAsg (.one i) (ev P C (trLc T n (trE n T) (trE n (T.in_ scope)) elt tg iter ifs scope))))
            obtain ⟨S1, St1⟩ := trE_ok n G.toGood
            unfold trLc
            split
            · rename_i g h1
              split
              · rename_i h2
                obtain ⟨q1, q2, q3, q4, q5⟩ := lc_parts (elt := elt) (ifs := ifs) G.toGood S1 (fun hk s H Cc cl fp => trE_ok n (good_blk G.toGood hk s H Cc cl fp)) h1 h2
                rcases b with b | b
                · exact ps_setLcM G.calm G.nd a b c q1 q2 q3 q5 q4
                · exact PS.imp (ps_set G.nd a (.inr b) (pe_lcM G.calm G.nd q1 q2 q3 q5 q4) (swaps_cell b) c) fun D σ H q => asg1_rS q
              · exact ⟨fun pins s σ H D I q => by
                  obtain ⟨r, env, h, R, E, p⟩ := q
                  exact p.elim⟩
            · exact ⟨fun pins s σ H D I q => by
                obtain ⟨r, env, h, R, E, p⟩ := q
                exact p.elim⟩
          · refine bad ?_
            unfold trE
            split <;> first
              | rfl
              | (rename_i z; cases z; exact absurd rfl hk)
              | (rename_i z; cases z)
        | _ :: _ :: _ =>
          refine bad ?_
          unfold trE
          split <;> first
            | rfl
            | (rename_i z; cases z)
      | _ => exact absurd rfl hn
theorem trAsg_ok (G : GoodS X W T L P sig fA C) (n : Nat) (t e : Expr) (pos : Pos) : PS X (.Assign [t] e pos) (rS X.K W (ex P C (trAsg T (trE n T) t e))) := by
  obtain ⟨S, St⟩ := trE_ok n G.toGood
  unfold trAsg
  split
  · split
    · rename_i h; exact asg1_ok G h _ _ _
    · exact ps_badM
  · split
    · split
      · split
        · rename_i i j hi hj
          split
          · rename_i hp
            unfold parB at hp
            simp only [Bool.and_eq_true, decide_eq_true_eq, Bool.not_eq_true'] at hp
            obtain ⟨⟨⟨⟨⟨⟨⟨p1, p2⟩, p3⟩, p4⟩, p5⟩, p6⟩, p7⟩, p8⟩ := hp
            have lx := G.sc.l _ p1
            have ly := G.sc.l _ p2
            have gi := idx_get hi
            have gj := idx_get hj
            rw [← G.N] at gi gj
            exact ps_parM G.calm G.nd gi gj (fun z => p3 (by rw [z, gj] at gi; exact (Option.some.inj gi).symm)) lx ly (trL_ok S _) (swapped_yes G.kd lx ly p3 p4 p5 p6 p7 p8)
          · exact ps_badM
        · exact ps_badM
      · exact ps_badM
    · split
      · rename_i hne _ is h
        exact ps_tupM G.calm G.nd (nmsOf_ok G.toGood h) (S e) (by
          cases e with
          | Tuple a b c => exact (hne _ _ _ rfl).elim
          | _ => rfl)
      · exact ps_badM
  · split
    · rename_i k h; exact ps_fldM G.F.fld (nm_of h) (S _) (S e)
    · exact ps_badM
  · split
    · rename_i h; exact ps_setIM (by have := G.un; omega) (S _) (S _) h (S e)
    · exact ps_badM
  · exact ps_badM
theorem trRaise_ok (G : GoodS X W T L P sig fA C) (e : Expr) (pos : Pos) : PS X (.Raise (some e) none pos) (rS X.K W (ex P C (trRaise T e))) := by
  unfold trRaise
  split
  · split
    · rename_i c eg
      obtain ⟨hg, h2, h3, h4⟩ := G.glo eg
      have q := G.F.exc _ _ h2
      exact ps_raiseM G.calm G.tk q.e q.m q.k (raises_own q.s q.t) hg h3
    · exact ps_badM
  · exact ps_badM
end
theorem trS_ok {L : Nat} {P : Pr} {sig : Sig} {fA : Nat → Addr} {C : Clr} : ∀ (n : Nat) {X : Cx} {W : WX} {T : TC}, GoodS X W T L P sig fA C → (∀ st, PS X st (rS X.K W (ex P C (trS n T st)))) ∧ ∀ sts, PSs X sts (rS X.K W (ex P C (trB n T sts)))
  | 0, X, W, T, G => by
    refine ⟨fun st => by unfold trS; exact ps_badM, fun sts => ?_⟩
    cases sts with
    | nil => unfold trB; exact pss_nilM
    | cons st r => unfold trB; exact pss_badM
  | n + 1, X, W, T, G => by
    obtain ⟨S, St⟩ := trE_ok n G.toGood
    obtain ⟨A, B⟩ := trS_ok n G
    refine ⟨fun st => ?_, fun sts => ?_⟩
    · unfold trS
      split
      · exact ps_passM
      · exact ps_brkM
      · exact ps_cntM
      · split
        · rename_i h; exact ps_exprM (S _) h
        · exact ps_badM
      · exact ps_retNM
      · exact ps_retM (S _)
      · split
        · rename_i h; exact ps_ifM (St _ h) (B _) (B _)
        · exact ps_badM
      · split
        · rename_i g h
          split
          · rename_i hn; exact ps_forM G.po G.calm (trIter_ok G.toGood S _ _) (trTg_ok G.toGood h) (B _) hn
          · exact ps_badM
        · exact ps_badM
      · split
        · rename_i h; exact ps_whileM G.po (St _ h) (B _)
        · exact ps_badM
      · exact trAsg_ok G n _ _ _
      · exact trRaise_ok G _ _
      · split
        · rename_i eg el ei
          obtain ⟨hg, h2, h3, h4⟩ := G.glo eg
          have gi := idx_get ei
          rw [← G.N] at gi
          exact ps_trySetM G.F.sub G.hs G.hf hg (G.F.exc _ _ h2).m h3 G.tk G.nd gi (G.sc.l _ el) fun W' pn xe tk po => (trS_ok n (G.tr_ tk po)).2 _
        · exact ps_badM
      · exact ps_badM
    · cases sts with
      | nil => unfold trB; exact pss_nilM
      | cons st r => unfold trB; exact pss_consM (A st) (B r)
/-! ### functions -/
theorem fin_sst {K : Fg} {r : List Addr} {H : Hp} {E : XK} {Q : VK} {o : SO} (p : Pst K r H (fun cls d _ H' => E cls d H') [] (fun z _ r' H' => ∀ w, RV K r' H' z w → Q w H') o.fin) : Sst K r H (fun cls d _ H' => E cls d H') { nx := fun _ H' => Q .non H', rt := Q } o := by
  cases o with
  | nx env h => exact fun r' H' σ' x R E' => p r' H' x R .non .ofNon
  | rt v h => exact fun r' H' u x R ru => p r' H' x R u ru
  | bk env h => exact p.elim
  | ct env h => exact p.elim
  | ex c fs env h => exact fun r' H' σ' cls d x R E' rx => p r' H' cls d x R rx
  | bad => exact p.elim
theorem re_start {K : Fg} {r : List Addr} {H : Hp} {xs : List Vl} {vs : List V} {N : List Str} {n : Nat} (q : RVs K r H xs vs) (hn : n = N.length) (hl : xs.length ≤ n) : RE K r H (xs.map some ++ List.replicate (n - xs.length) none) (L2.start N vs) := by
  have hv := q.length
  unfold L2.start
  refine ⟨by simp [hv, hn], fun i v e => ?_⟩
  by_cases hi : i < xs.length
  · rw [List.getElem?_append_left (by simpa using hi)] at e
    rw [List.getElem?_append_left (by simpa [hv] using hi)]
    rw [List.getElem?_map] at e ⊢
    obtain ⟨x, e1, e2⟩ := Option.map_eq_some_iff.mp e
    cases e2
    obtain ⟨u, h1, h2⟩ := q.get e1
    exact ⟨u, by rw [h1]; rfl, h2⟩
  · rw [List.getElem?_append_right (by simpa using hi), List.getElem?_replicate] at e
    split at e <;> cases e
theorem cx_agr (sc : Scope) : Agr sc sc := ⟨fun _ h => h, fun _ h => h, fun _ h => .inr h, fun _ h => h⟩
/-- THE WORD ON A FUNCTION: its promise one level up -/
theorem fd_ok {Pg : Program} {w : World} {K : Fg} {mg : Str → Option Value} {base : Heap} {L : Nat} {P : Pr} {sig : Sig} {fA : Nat → Addr} {C : Clr} {g : Str → Option Gb} (F : Facts K mg g P sig fA) (cs : CallsOk Pg w K mg base L sig fA C)
    {x qual : Str} {params : Arguments} {body : List Stmt} {scope : Scope} {dvs : List V} {f : Addr} {fd : FuncData} (D : FunD K x qual params body scope dvs [] f fd) {N ps : List Str} (S : FnScope N ps scope) (n : Nat) :
    FnOk Pg w K mg base (L2.CX Pg w) (L + 2) f fd ps (spOf K (Fd.run P C ⟨ps.length, N.length, trB n ⟨N, scope, g⟩ body⟩) ps.length) := by
  refine D.ok (N := N) S (fun vs H Q E q => q.1) fun cdv A outer s H vs Q E room q => ?_
  obtain ⟨hl, r, h, xs, R, rs, p⟩ := q
  let X := cxOf (L2.CX Pg w) Pg w K mg base N qual scope f cdv A outer s H E
  have G : GoodS X (fun cls d _ H' => E cls d H') ⟨N, scope, g⟩ L P sig fA C :=
    ⟨⟨cs, room, rfl, takes_of rfl rfl rfl rfl, S.nd, rfl, cx_agr scope, fun _ _ => rfl, S.kind, F⟩, rfl, rfl, passes_of rfl⟩
  refine ⟨_, (trS_ok n G).2 body, r, xs.map some ++ List.replicate (N.length - ps.length) none, h, R, ?_, ?_⟩
  · have e : xs.length = ps.length := by rw [← rs.length]; exact hl
    rw [← e]
    refine re_start rs rfl ?_
    rw [e]
    have := congrArg List.length S.pre
    rw [List.length_take] at this
    omega
  · unfold Fd.run at p
    split at p
    · exact fin_sst p
    · exact p.elim
end Mi

/-! H1: a law's program: tables, what is asked of the top's end, the word on all functions. -/
namespace Mi
open PySem PySem.Spec L2

structure FR where
  at_ : Str × Option Str
  qual : Str
  st : Stmt
  N : List Str
  ps : List Str
  dfl : Option Vl
def FR.name (F : FR) : Str := match F.at_.2 with
  | some m => m
  | none => F.at_.1
def dvOf : Option Vl → List He.Dv
  | some .non => [.non]
  | some (.int i) => [.int i]
  | _ => []
def dfGood : Option Vl → Bool
  | none => true
  | some .non => true
  | some (.int _) => true
  | _ => false
def FR.d (F : FR) : He.DefD := ⟨F.at_, F.name, F.qual, defArgs F.st, defBody F.st, defScope F.st, dvOf F.dfl, []⟩
abbrev FRs := List (Nat × FR)
def fAt (K : Fg) (frs : FRs) (f : Nat) : Addr := match frs.lookup f with
  | some F => He.fAd K F.at_
  | none => 0
def sigOf (frs : FRs) : Sig := fun f => (frs.lookup f).map fun F => (F.ps.length, F.dfl)
def gOf (frs : FRs) (oth : List (Str × Gb)) (x : Str) : Option Gb := match oth.lookup x with
  | some b => some b
  | none => (frs.find? fun q => decide (q.2.at_ = (x, none))).map fun q => .fn q.1 q.2.ps.length q.2.dfl
def tabT (frs : FRs) (g : Str → Option Gb) (n : Nat) (f : Nat) : Option Fd := (frs.lookup f).map fun F => ⟨F.ps.length, F.N.length, trB n ⟨F.N, defScope F.st, g⟩ (defBody F.st)⟩
structure Tbs where
  fl : List (Nat × Nat)
  mt : List ((Nat × Nat) × Nat)
  is : List ((TyT × TyT) × Bool)
  su : List ((Nat × Nat) × Bool)
def Tbs.pr (t : Tbs) : Pr := ⟨fun c f => decide ((c, f) ∈ t.fl), fun c m => (t.mt.find? fun q => decide (q.1 = (c, m))).map (·.2), fun a b => (t.is.find? fun q => decide (q.1 = (a, b))).map (·.2), fun a b => (t.su.find? fun q => decide (q.1 = (a, b))).map (·.2)⟩
/-! ### what is asked of K -/
def flatB : List Vl → List Value → Bool
  | [], [] => true
  | .int i :: r, .int j _ :: s => decide (i = j) && flatB r s
  | .str x :: r, .str y _ :: s => decide (x = y) && flatB r s
  | _, _ => false
def valB (K : Fg) : Vl → Value → Bool
  | .int i, .int j _ => decide (i = j)
  | .str x, .str y _ => decide (x = y)
  | .tup xs, .ref a => match K.lookup a with
    | some ⟨.type c, _, .seq its _, _⟩ => decide (c = "tuple") && flatB xs its.toList && decide (its.size ≤ 1000)
    | _ => false
  | _, _ => false
def gbB (K : Fg) (frs : FRs) (x : Str) : Gb → Bool
  | .fn _ _ _ => false
  | .val v => match PySem.W.nsIn K mainGlobals x with
    | some (some w) => valB K v w
    | _ => false
  | .cls c f => decide (x = nm c) && (He.Fa.glo x).ok K && (He.Fa.mkr x).ok K && decide (He.ma K (He.ga K x) "__init__" = fAt K frs f) && (frs.lookup f).isSome
  | .exc c => decide (x = nm c) && (He.Fa.glo x).ok K && (He.Fa.exc x).ok K
  | .free => (He.Fa.free x).ok K
def insB (K : Fg) : TyT → Bool
  | .b _ => true
  | .own c => (He.Fa.cls (nm c)).ok K && decide (PySem.W.findIn K (.ref (He.ga K (nm c))) "__class__" = some (some (.builtin "object.__class__"))) && decide (PySem.W.specialIn K (.builtin "object.__class__") "__get__" = some (some (.builtin "getset_descriptor.__get__"))) &&
    decide (PySem.W.takesIn K (.builtin "object.__class__") = some true) && decide (PySem.W.mroIn K (He.ga K (nm c)) (.type "object") = some true)
def chkB (frs : FRs) (oth : List (Str × Gb)) (t : Tbs) (K : Fg) : Bool :=
  (frs.all fun q => q.2.at_.2.isSome || (He.Fa.glo q.2.at_.1).ok K) && (oth.all fun q => gbB K frs q.1 q.2) && (t.fl.all fun q => (He.Fa.cls (nm q.1)).ok K && (He.Fa.noat (nm q.1) (nm q.2)).ok K) &&
  (t.mt.all fun q => (He.Fa.cls (nm q.1.1)).ok K && (He.Fa.meth (nm q.1.1) (nm q.1.2)).ok K && decide (He.ma K (He.ga K (nm q.1.1)) (nm q.1.2) = fAt K frs q.2) && (frs.lookup q.2).isSome) &&
  (t.is.all fun q => decide (PySem.W.kitOne K (tyVal K q.1.1) (tyVal K q.1.2) = some q.2) && insB K q.1.1) && (t.su.all fun q => (He.Fa.exm (nm q.1.1) (nm q.1.2) q.2).ok K)
theorem flatB_ok {K : Fg} : ∀ {xs : List Vl} {ws : List Value}, flatB xs ws = true → ∃ vs, Vals vs ws ∧ ∀ r H, RVs K r H xs vs
  | [], [], _ => ⟨[], .nil, fun _ _ => RVs.nil⟩
  | .int i :: r, .int j t :: s, h => by
    unfold flatB at h
    rw [Bool.and_eq_true, decide_eq_true_eq] at h
    obtain ⟨vs, h1, h2⟩ := flatB_ok (K := K) h.2
    exact ⟨.int i :: vs, .cons ⟨t, by rw [h.1]⟩ h1, fun r H => .cons (.ofInt _) (h2 r H)⟩
  | .str x :: r, .str y t :: s, h => by
    unfold flatB at h
    rw [Bool.and_eq_true, decide_eq_true_eq] at h
    obtain ⟨vs, h1, h2⟩ := flatB_ok (K := K) h.2
    exact ⟨.str x :: vs, .cons ⟨t, by rw [h.1]⟩ h1, fun r H => .cons (.ofStr _) (h2 r H)⟩
theorem valB_ok {K : Fg} {v : Vl} {w : Value} (h : valB K v w = true) : ∃ u, RelV u w ∧ ∀ r H, RV K r H v u := by
  unfold valB at h
  split at h
  · rename_i i j t; rw [decide_eq_true_eq] at h; exact ⟨.int i, ⟨t, by rw [h]⟩, fun _ _ => .ofInt _⟩
  · rename_i i j t; rw [decide_eq_true_eq] at h; exact ⟨.str i, ⟨t, by rw [h]⟩, fun _ _ => .ofStr _⟩
  · rename_i xs a
    split at h
    · rename_i c od its n sl ek
      simp only [Bool.and_eq_true, decide_eq_true_eq] at h
      obtain ⟨vs, h1, h2⟩ := flatB_ok (K := K) h.1.2
      refine ⟨.ref a, rfl, fun r H => .ofTup (.inr ⟨_, its, n, ek, by rw [h.1.1], rfl, Nat.le_trans h.2 (by decide), h1⟩) (h2 r H)⟩
    · cases h
  · cases h
theorem look_mem {α β : Type} [BEq α] [LawfulBEq α] {x : α} {b : β} : ∀ {l : List (α × β)}, l.lookup x = some b → (x, b) ∈ l
  | [], h => by simp at h
  | (y, c) :: r, h => by
    rw [List.lookup_cons] at h
    split at h
    · rename_i e
      cases h
      rw [beq_iff_eq.mp e]
      exact List.mem_cons_self
    · exact List.mem_cons_of_mem _ (look_mem h)
theorem look_of {α β : Type} [BEq α] [LawfulBEq α] {x : α} {b : β} : ∀ {l : List (α × β)}, (l.map (·.1)).Nodup → (x, b) ∈ l → l.lookup x = some b
  | [], _, h => by cases h
  | (y, c) :: r, nd, h => by
    rw [List.map_cons, List.nodup_cons] at nd
    rw [List.lookup_cons]
    rcases List.mem_cons.mp h with e | h
    · cases e; rw [beq_self_eq_true]
    · rw [beq_false_of_ne (fun z => nd.1 (List.mem_map.mpr ⟨(x, b), h, z⟩))]
      exact look_of nd.2 h
theorem facts_of {frs : FRs} {oth : List (Str × Gb)} {t : Tbs} {K : Fg} {h : Heap} {mg : Str → Option Value} (X : K.In h) (G : h.Ns mainGlobals mg) (nd : (frs.map (·.1)).Nodup) (c : chkB frs oth t K = true) :
    Facts K mg (gOf frs oth) t.pr (sigOf frs) (fAt K frs) := by
  unfold chkB at c
  simp only [Bool.and_eq_true] at c
  obtain ⟨⟨⟨⟨⟨c1, c2⟩, c3⟩, c4⟩, c5⟩, c6⟩ := c
  have oth_ : ∀ {x b}, oth.lookup x = some b → gbB K frs x b = true := fun e => List.all_eq_true.mp c2 _ (look_mem e)
  have cut : ∀ {x b}, gOf frs oth x = some b → oth.lookup x = some b ∨ ∃ q, q ∈ frs ∧ q.2.at_ = (x, none) ∧ b = .fn q.1 q.2.ps.length q.2.dfl := fun {x b} e => by
    unfold gOf at e
    split at e
    · rename_i b' e'; cases e; exact .inl e'
    · obtain ⟨q, e1, e2⟩ := Option.map_eq_some_iff.mp e
      exact .inr ⟨q, List.mem_of_find?_eq_some e1, by simpa using List.find?_some e1, e2.symm⟩
  refine ⟨fun x v e => ?_, fun x f np dfl e => ?_, fun x c f e => ?_, fun x c e => ?_, fun x e => ?_, fun c f e => ?_, fun c m f e => ?_, fun a b r e => ?_, fun a b r e => ?_⟩
  · rcases cut e with e | ⟨q, _, _, e⟩
    · have z := oth_ e
      unfold gbB at z
      simp only at z
      split at z
      · rename_i w ew
        obtain ⟨u, h1, h2⟩ := valB_ok z
        exact ⟨u, w, PySem.W.mg_of X G ew, h1, h2⟩
      · cases z
    · cases e
  · rcases cut e with e | ⟨q, hq, ha, e⟩
    · have z := oth_ e
      cases z
    · cases e
      have lk : frs.lookup q.1 = some q.2 := look_of nd hq
      have z := List.all_eq_true.mp c1 q hq
      rw [ha] at z
      have z2 : (He.Fa.glo x).ok K = true := by simpa using z
      refine ⟨?_, ?_⟩
      · unfold fAt
        rw [lk]
        show mg x = some (.ref (He.fAd K q.2.at_))
        rw [ha]
        exact He.glo_ok X G z2
      · unfold sigOf; rw [lk]; rfl
  · rcases cut e with e | ⟨q, _, _, e⟩
    · have z := oth_ e
      unfold gbB at z
      simp only [Bool.and_eq_true, decide_eq_true_eq] at z
      obtain ⟨⟨⟨⟨z1, z2⟩, z3⟩, z4⟩, z5⟩ := z
      have M := He.mkr_ok z3
      rw [z4, z1] at M
      rw [← z1]
      refine ⟨He.glo_ok X G z2, by rw [z1]; exact M, ?_⟩
      unfold sigOf
      rw [Option.isSome_map]; exact z5
    · cases e
  · rcases cut e with e | ⟨q, _, _, e⟩
    · have z := oth_ e
      unfold gbB at z
      simp only [Bool.and_eq_true, decide_eq_true_eq] at z
      obtain ⟨⟨z1, z2⟩, z3⟩ := z
      obtain ⟨a1, a2, a3, a4⟩ := He.exc_ok z3
      rw [z1] at a1 a2 a3 a4
      exact ⟨by rw [← z1]; exact He.glo_ok X G z2, a1, a2, a3, a4⟩
    · cases e
  · rcases cut e with e | ⟨q, _, _, e⟩
    · exact He.free_ok X G (oth_ e)
    · cases e
  · have z := List.all_eq_true.mp c3 _ (of_decide_eq_true e)
    rw [Bool.and_eq_true] at z
    exact ⟨He.cls_ok z.1, He.noat_ok z.2⟩
  · obtain ⟨q, e1, e2⟩ := Option.map_eq_some_iff.mp e
    have z := List.all_eq_true.mp c4 _ (List.mem_of_find?_eq_some e1)
    have k : q.1 = (c, m) := by simpa using List.find?_some e1
    simp only [Bool.and_eq_true, decide_eq_true_eq] at z
    obtain ⟨⟨⟨z1, z2⟩, z3⟩, z4⟩ := z
    rw [k] at z1 z2 z3
    have M := He.meth_ok z2
    rw [z3, e2] at M
    refine ⟨He.cls_ok z1, M, ?_⟩
    unfold sigOf
    rw [Option.isSome_map, ← e2]; exact z4
  · obtain ⟨q, e1, e2⟩ := Option.map_eq_some_iff.mp e
    have z := List.all_eq_true.mp c5 _ (List.mem_of_find?_eq_some e1)
    have k : q.1 = (a, b) := by simpa using List.find?_some e1
    simp only [Bool.and_eq_true, decide_eq_true_eq] at z
    rw [k, e2] at z
    refine ⟨z.1, fun n en => ?_⟩
    subst en
    have w := z.2
    unfold insB at w
    simp only [Bool.and_eq_true, decide_eq_true_eq] at w
    exact ⟨He.cls_ok w.1.1.1.1, w.1.1.1.2, w.1.1.2, w.1.2, w.2⟩
  · obtain ⟨q, e1, e2⟩ := Option.map_eq_some_iff.mp e
    have z := List.all_eq_true.mp c6 _ (List.mem_of_find?_eq_some e1)
    have k : q.1 = (a, b) := by simpa using List.find?_some e1
    rw [k, e2] at z
    exact He.exm_ok z

/-! ### the functions -/
def scB (N ps : List Str) (sc : Scope) : Bool := (match sc.kind with | .function => true | _ => false) && !sc.isCoroutine && !sc.isGenerator && decide N.Nodup && decide (N.take ps.length = ps) &&
  (ps.all fun x => decide (sc.names.lookup x = some .local) || decide (sc.names.lookup x = some .cell)) && sc.names.all fun y => decide (y.2 ≠ .free)
theorem scB_ok {N ps : List Str} {sc : Scope} (h : scB N ps sc = true) : FnScope N ps sc := by
  unfold scB at h
  simp only [Bool.and_eq_true, Bool.not_eq_true', decide_eq_true_eq, List.all_eq_true, Bool.or_eq_true] at h
  obtain ⟨⟨⟨⟨⟨⟨h1, h2⟩, h3⟩, h4⟩, h5⟩, h6⟩, h7⟩ := h
  refine ⟨?_, h2, h3, h4, h5, h6, h7⟩
  split at h1
  · assumption
  · cases h1
/-- how a call binds -/
def BindN (F : FR) : Prop := F.dfl = none ∧ ∀ (kV doc pm : Value) (an : Option Addr) (cdv ct : Value) (us : List Value), us.length = F.ps.length → bindArgs (PySem.W.fnOf F.name F.qual (defArgs F.st) (defBody F.st) (defScope F.st) .none kV doc pm an cdv ct) ⟨us, []⟩ = pure (F.ps.zip us)
def BindD (F : FR) : Prop := (∃ v, F.dfl = some v) ∧ F.ps.length ≠ 0 ∧ (∀ (T : Addr) (kV doc pm : Value) (an : Option Addr) (cdv ct : Value) (us its : List Value), us.length = F.ps.length → its.length = 1 →
      ∃ k, bindArgs (PySem.W.fnOf F.name F.qual (defArgs F.st) (defBody F.st) (defScope F.st) (.ref T) kV doc pm an cdv ct) ⟨us, []⟩ = seqItems? (.ref T) >>= k ∧ k (some its.toArray) = pure (F.ps.zip (us ++ its.drop 1))) ∧
    ∀ (T : Addr) (kV doc pm : Value) (an : Option Addr) (cdv ct : Value) (us its : List Value), us.length = F.ps.length - 1 → its.length = 1 →
      ∃ k, bindArgs (PySem.W.fnOf F.name F.qual (defArgs F.st) (defBody F.st) (defScope F.st) (.ref T) kV doc pm an cdv ct) ⟨us, []⟩ = seqItems? (.ref T) >>= k ∧ k (some its.toArray) = pure (F.ps.zip (us ++ its.drop 0))
structure Good1 (F : FR) : Prop where
  sc : scB F.N F.ps (defScope F.st) = true
  df : dfGood F.dfl = true
  bi : BindN F ∨ BindD F
theorem fn_at {K : Fg} {F : FR} (g : Good1 F) {f : Addr} {fd : FuncData} (D : FunD K F.d.name F.d.qual F.d.params F.d.body F.d.scope (F.d.dvs K) (F.d.kws K) f fd) : FnAt K f fd F.ps F.ps.length F.dfl := by
  have D' : FunD K F.name F.qual (defArgs F.st) (defBody F.st) (defScope F.st) ((dvOf F.dfl).map (He.Dv.v K)) [] f fd := D
  rcases g.bi with ⟨n1, n2⟩ | ⟨⟨v, d1⟩, d0, d2, d3⟩
  · rw [n1] at D'
    refine ⟨D.kp, rfl, D'.bindsN n2, fun v e => ?_⟩
    rw [n1] at e; cases e
  · have two : ∃ x : V, (dvOf F.dfl).map (He.Dv.v K) = [x] ∧ ∀ v, F.dfl = some v → ∀ r H, RV K r H v x := by
      have df := g.df
      rw [d1] at df ⊢
      cases v with
      | non => exact ⟨.non, rfl, fun v e r H => by cases e; exact .ofNon⟩
      | int i => exact ⟨.int i, rfl, fun v e r H => by cases e; exact .ofInt _⟩
      | _ => cases df
    obtain ⟨x, hx, hr⟩ := two
    rw [hx] at D'
    obtain ⟨ds, e1, e2⟩ := D'.binds1 F.ps.length 1 (by simp) (by simp) d2
    obtain ⟨ds', e3, e4⟩ := D'.binds1 (F.ps.length - 1) 0 (by simp) (by simp; omega) d3
    have z : ds = [] := by cases e1; rfl
    rw [z] at e2
    refine ⟨D.kp, rfl, e2, fun v e => ?_⟩
    cases e3 with
    | cons ru rn =>
      rename_i u us
      cases rn
      exact ⟨x, u, ru, hr v e, e4⟩
theorem calls_ok {Pg : Program} {w : World} {K : Fg} {mg : Str → Option Value} {base : Heap} {frs : FRs} {oth : List (Str × Gb)} {t : Tbs} (F : Facts K mg (gOf frs oth) t.pr (sigOf frs) (fAt K frs)) (fu : Nat)
    (D : ∀ q ∈ frs, ∃ fd, FunD K q.2.d.name q.2.d.qual q.2.d.params q.2.d.body q.2.d.scope (q.2.d.dvs K) (q.2.d.kws K) (He.fAd K q.2.d.at_) fd) (g : ∀ q ∈ frs, Good1 q.2) : ∀ n, CallsOk Pg w K mg base (2 * n) (sigOf frs) (fAt K frs) (clr t.pr (tabT frs (gOf frs oth) fu) n)
  | 0 => fun f np dfl e => by
    unfold sigOf at e
    obtain ⟨R, e1, e2⟩ := Option.map_eq_some_iff.mp e
    cases e2
    obtain ⟨fd, d⟩ := D _ (look_mem e1)
    have A := fn_at (g _ (look_mem e1)) d
    refine ⟨fd, R.ps, ?_, ?_, fun xs h _ => rfl⟩
    · exact ⟨fun vs H Q E q => q.1, fun _ _ _ _ _ _ vs Q E _ _ _ _ q => by
        obtain ⟨_, r, h, xs, _, _, p⟩ := q
        exact p.elim⟩
    · have : fAt K frs f = He.fAd K R.at_ := by unfold fAt; rw [e1]
      rw [this]; exact A
  | n + 1 => fun f np dfl e => by
    unfold sigOf at e
    obtain ⟨R, e1, e2⟩ := Option.map_eq_some_iff.mp e
    cases e2
    obtain ⟨fd, d⟩ := D _ (look_mem e1)
    have g1 := g _ (look_mem e1)
    have A := fn_at g1 d
    have d' : FunD K R.name R.qual (defArgs R.st) (defBody R.st) (defScope R.st) ((dvOf R.dfl).map (He.Dv.v K)) [] (He.fAd K R.at_) fd := d
    have here : fAt K frs f = He.fAd K R.at_ := by unfold fAt; rw [e1]
    have ok := fd_ok (Pg := Pg) (w := w) (base := base) F (calls_ok F fu D g n) d' (scB_ok g1.sc) fu
    have ef : clr t.pr (tabT frs (gOf frs oth) fu) (n + 1) f = Fd.run t.pr (clr t.pr (tabT frs (gOf frs oth) fu) n) ⟨R.ps.length, R.N.length, trB fu ⟨R.N, defScope R.st, gOf frs oth⟩ (defBody R.st)⟩ := by
      funext vs h
      show (match tabT frs (gOf frs oth) fu f with
        | some d => d.run t.pr (clr t.pr (tabT frs (gOf frs oth) fu) n) vs h
        | none => .bad) = _
      unfold tabT
      rw [e1]; rfl
    refine ⟨fd, R.ps, ?_, ?_, fun xs h hl => ?_⟩
    · rw [here, ef]; exact ok
    · rw [here]; exact A
    · rw [ef]
      unfold Fd.run
      rw [if_neg (fun z => hl z.1)]
/-- THE WORD ON A LAW's own def -/
theorem law_ok {Pg : Program} {w : World} {K : Fg} {h : Heap} {mg : Str → Option Value} {frs : FRs} {oth : List (Str × Gb)} {t : Tbs} (X : K.In h) (G : h.Ns mainGlobals mg) (nd : (frs.map (·.1)).Nodup) (c : chkB frs oth t K = true) (fu n : Nat)
    (D : ∀ q ∈ frs, ∃ fd, FunD K q.2.d.name q.2.d.qual q.2.d.params q.2.d.body q.2.d.scope (q.2.d.dvs K) (q.2.d.kws K) (He.fAd K q.2.d.at_) fd) (g : ∀ q ∈ frs, Good1 q.2) {f : Nat} {R : FR} (hm : (f, R) ∈ frs) {x : Str} (ha : R.at_ = (x, none)) (hd : R.dfl = none) {y : Str} (hp : R.ps = [y])
    (hx : gOf frs oth x = some (.fn f 1 none)) {fa : Addr} (hfa : mg x = some (.ref fa)) :
    ∃ fd : FuncData, (∀ (s : Shared) (v : Value), BindsTo s fd ⟨[v], []⟩ [(y, v)]) ∧ ∀ base : Heap, K.In base → base.Ns mainGlobals mg → FnOk Pg w K mg base (L2.CX Pg w) (2 * n + 2) fa fd [y] (spOf K (clr t.pr (tabT frs (gOf frs oth) fu) (n + 1) f) 1) := by
  obtain ⟨fd, d⟩ := D _ hm
  have lk : frs.lookup f = some R := look_of nd hm
  have d' : FunD K R.name R.qual (defArgs R.st) (defBody R.st) (defScope R.st) ((dvOf R.dfl).map (He.Dv.v K)) [] (He.fAd K R.at_) fd := d
  have g1 := g _ hm
  have F0 := facts_of X G nd c
  have e := (F0.fn _ _ _ _ hx).1
  rw [hfa] at e
  have ef : fa = He.fAd K R.at_ := by
    unfold fAt at e
    rw [lk] at e
    injection e with e
    injection e
  have b : ∀ (s : Shared) (us : List Value), us.length = R.ps.length → BindsTo s fd ⟨us, []⟩ (R.ps.zip us) := by
    rcases g1.bi with ⟨n1, n2⟩ | ⟨⟨v, d1⟩, _⟩
    · rw [hd] at d'
      exact fun s us hl => d'.bindsA n2 s us hl
    · rw [hd] at d1; cases d1
  rw [hp] at b
  refine ⟨fd, fun s v => b s [v] rfl, fun base kb nb => ?_⟩
  have F := facts_of kb nb nd c
  have ok := fd_ok (Pg := Pg) (w := w) (base := base) F (calls_ok F fu D g n) d' (scB_ok g1.sc) fu
  have es : clr t.pr (tabT frs (gOf frs oth) fu) (n + 1) f = Fd.run t.pr (clr t.pr (tabT frs (gOf frs oth) fu) n) ⟨R.ps.length, R.N.length, trB fu ⟨R.N, defScope R.st, gOf frs oth⟩ (defBody R.st)⟩ := by
    funext vs h
    show (match tabT frs (gOf frs oth) fu f with
      | some d => d.run t.pr (clr t.pr (tabT frs (gOf frs oth) fu) n) vs h
      | none => .bad) = _
    unfold tabT
    rw [lk]; rfl
  rw [ef, es]
  rw [hp] at ok ⊢
  exact ok
theorem sp_law {K : Fg} {g : Fun1} {H : Hp} {a : Addr} {ns : List Int} (only : Only H) (q : SqL K H a (ns.map V.int)) {h' : Hs} (e : g [.kl ns] [] = .ok (.bl true) h') : spOf K g 1 [.ref a] H (fun v _ => v = .bl true) (fun _ _ _ => False) := by
  have sf : SqF K H a (ns.map V.int) := by
    rcases q with (q | ⟨o, q⟩) | q
    · rcases only a with z | ⟨o, xs, z⟩
      · rw [z] at q; cases q
      · rw [z] at q; cases q
    · exact .inl ⟨o, q⟩
    · exact .inr q
  refine ⟨rfl, [], [], [.kl ns], ⟨rfl, fun i j o o' a h1 => by simp at h1, fun i o a h1 => by simp at h1⟩, RVs.one (by simp only [RV]; exact ⟨a, rfl, sf⟩), ?_⟩
  rw [e]
  exact fun r' H' x R w rw => rw.bl_
/-- the law's call, its exceptions' word by the world; the script's numbers are bounded -/
theorem walk_law {l : PySem.W.OpenLaw} {n k : Nat} {q : Program} {loose : List Str} {XP : (Str → Option Value) → Heap → Prop} {YP : World → Heap → Prop} {d : DefRec} {CX : World → CXT} {x : Str} (most : l.most = some n) (fits : n ≤ sizeLine) (plain : d.params.defaults = []) (room : Room k callerA)
    (F : ∀ (w : World) (mg : Str → Option Value) (fa : Addr) (h : Heap), YP w h → h.Ns mainGlobals mg → mg d.name = some (.ref fa) → ∃ (K : Fg) (fd : FuncData) (sp : Sp), K.In h ∧ (∀ (s : Shared) (u : Value), BindsTo s fd ⟨[u], []⟩ [(x, u)]) ∧
      (∀ (H : Hp) (a : Addr) (ns : List Int), ns.length ≤ n → (∀ z ∈ ns, Builtin.Int.intBits z ≤ 1048576) → Only H → SqL K H a (ns.map V.int) → sp [.ref a] H (fun v _ => v = .bl true) fun _ _ _ => False) ∧
      ∀ base : Heap, K.In base → base.Ns mainGlobals mg → FnOk l.prog w K mg base (CX w) k fa fd [x] sp)
    (none_ : ∀ (w : World) (H : Hp) (s : Shared) (e : Value) (s' : Shared), CX w [] H s (fun _ _ _ => False) e s' → False) : PySem.W.WalkO q loose XP YP l.row.toRowW d [] (fun f vs => PySem.call f vs) := by
  refine Att.attach_callB most plain ?_
  intro w s0 s1 mg mb fa o pm cd doc a vs ns G Y ho hd hcd at_ ob its len bits gens
  obtain ⟨K, fd, sp, inK, bi, word, fn⟩ := F w mg fa _ Y G.T.g at_
  exact law_call inK G.T.g G.T.b G.T.builtins G.T.nolimit gens ob its (Nat.le_trans len fits) room fn bi (fun H only sq => word H a ns len bits only sq) (fun H e s' => none_ w H s1 e s')
end Mi

/-! D0: how the small language is computed with. -/
namespace Mi
open PySem PySem.Spec L2

theorem clr_at {P : Pr} {T : Nat → Option Fd} {f : Nat} {d : Fd} (e : T f = some d) (n : Nat) (vs : List Vl) (h : Hs) : clr P T (n + 1) f vs h = d.run P (clr P T n) vs h := by
  show (match T f with
    | some d => d.run P (clr P T n) vs h
    | none => .bad) = _
  rw [e]
theorem run_np {P : Pr} {C : Clr} {np nl : Nat} {b : Sm} {vs : List Vl} {h : Hs} (e : vs.length = np) (l : np ≤ nl) : Fd.run P C ⟨np, nl, b⟩ vs h = (ex P C b (vs.map some ++ List.replicate (nl - np) none) h).fin := by
  unfold Fd.run
  rw [if_pos ⟨e, l⟩]
end Mi

/-! D1: loops over items that stand still. -/
namespace Mi
open PySem PySem.Spec L2

def forF (g : Tg) (b : MS) : List Vl → Ev → Hs → SO
  | [], env, h => .nx env h
  | x :: xs, env, h => match bindT g x env h with
    | some e => match b e h with
      | .nx e1 h1 => forF g b xs e1 h1
      | .ct e1 h1 => forF g b xs e1 h1
      | .bk e1 h1 => .nx e1 h1
      | .rt v h1 => .rt v h1
      | .ex c fs e1 h1 => .ex c fs e1 h1
      | .bad => .bad
    | none => .bad
theorem forL_fix {g : Tg} {b : MS} {xs : List Vl} : ∀ {ys : List Vl} {i : Nat} {env : Ev} {h : Hs}, xs.drop i = ys → forL g (.fix xs) b ys.length i env h = forF g b ys env h
  | [], i, env, h, e => by
    have z : xs[i]? = none := by
      rw [← List.head?_drop, e]; rfl
    show forL g (.fix xs) b 0 i env h = _
    simp only [forL, forF, stp, z]
  | y :: ys, i, env, h, e => by
    have z : xs[i]? = some y := by
      rw [← List.head?_drop, e]; rfl
    have d : xs.drop (i + 1) = ys := by
      rw [← List.drop_drop, e]; rfl
    show forL g (.fix xs) b (ys.length + 1) i env h = _
    simp only [forL, forF, stp, z]
    cases bindT g y env h with
    | none => rfl
    | some e1 =>
      simp only
      cases b e1 h with
      | nx e2 h2 => exact forL_fix d
      | ct e2 h2 => exact forL_fix d
      | _ => rfl
theorem for_fix {g : Tg} {b : MS} {xs : List Vl} {env : Ev} {h : Hs} : forL g (.fix xs) b (itLen (.fix xs) h) 0 env h = forF g b xs env h := forL_fix (by simp)
/-- a list of ours that stands still while it is walked -/
theorem forL_live {g : Tg} {b : MS} {n : Nat} {xs : List Vl} (I : Hs → Prop) (hI : ∀ h, I h → getL h n = some xs)
    (hb : ∀ x ∈ xs, ∀ env env1 h, I h → bindT g x env h = some env1 → ∀ e h1, (b env1 h = .nx e h1 ∨ b env1 h = .ct e h1) → I h1) : ∀ {ys : List Vl} {i : Nat} {env : Ev} {h : Hs}, xs.drop i = ys → I h → forL g (.live n) b ys.length i env h = forF g b ys env h
  | [], i, env, h, e, ih => by
    have z : xs[i]? = none := by
      rw [← List.head?_drop, e]; rfl
    show forL g (.live n) b 0 i env h = _
    simp only [forL, forF, stp, hI h ih, Option.map_some, z]
  | y :: ys, i, env, h, e, ih => by
    have z : xs[i]? = some y := by
      rw [← List.head?_drop, e]; rfl
    have d : xs.drop (i + 1) = ys := by
      rw [← List.drop_drop, e]; rfl
    show forL g (.live n) b (ys.length + 1) i env h = _
    simp only [forL, forF, stp, hI h ih, Option.map_some, z]
    cases eb : bindT g y env h with
    | none => rfl
    | some e1 =>
      simp only
      cases e2 : b e1 h with
      | nx e2' h2 => exact forL_live I hI hb d (hb y (List.mem_of_getElem? z) env e1 h ih eb _ _ (.inl e2))
      | ct e2' h2 => exact forL_live I hI hb d (hb y (List.mem_of_getElem? z) env e1 h ih eb _ _ (.inr e2))
      | _ => rfl
/-- each item is asked; the first that is refused ends it -/
theorem forF_all {i L : Nat} {b : MS} {p : Vl → Bool} {P : Vl → Prop} {h : Hs} {v : Vl} (hb : ∀ (x : Vl) (env : Ev), P x → env.length = L → b (env.set i (some x)) h = if p x = true then .nx (env.set i (some x)) h else .rt v h) : ∀ (xs : List Vl) (env : Ev), (∀ x ∈ xs, P x) → env.length = L →
    (xs.all p = true → ∃ e, forF (.one i) b xs env h = .nx e h ∧ (e = env ∨ ∃ x, e = env.set i (some x))) ∧ (xs.all p = false → forF (.one i) b xs env h = .rt v h)
  | [], env, _, _ => ⟨fun _ => ⟨env, rfl, .inl rfl⟩, fun e => (by cases e)⟩
  | x :: xs, env, hP, hl => by
    have q := hb x env (hP x List.mem_cons_self) hl
    obtain ⟨i1, i2⟩ := forF_all hb xs (env.set i (some x)) (fun y hy => hP y (List.mem_cons_of_mem _ hy)) (by rw [List.length_set]; exact hl)
    simp only [forF, bindT]
    rw [q, List.all_cons]
    cases hp : p x with
    | true =>
      simp only [if_true, Bool.true_and]
      refine ⟨fun e => ?_, i2⟩
      obtain ⟨e', z1, z2⟩ := i1 e
      refine ⟨e', z1, .inr ?_⟩
      rcases z2 with z | ⟨y, z⟩
      · exact ⟨x, z⟩
      · exact ⟨y, by rw [z, List.set_set]⟩
    | false => exact ⟨fun e => (by cases e), fun _ => rfl⟩
theorem has_one (s : Str) (c : Nat) : hasSub ⟨#[c]⟩ s = decide (c ∈ s.cps.toList) := StrLaws.found_one s c
theorem forF_run {g : Tg} {b : MS} {I : Ev → Hs → Prop} : ∀ {xs : List Vl}, (∀ x ∈ xs, ∀ env h, I env h → ∃ e1, bindT g x env h = some e1 ∧ ∃ e2 h2, b e1 h = .nx e2 h2 ∧ I e2 h2) → ∀ env h, I env h → ∃ e h', forF g b xs env h = .nx e h' ∧ I e h'
  | [], _, env, h, q => ⟨env, h, rfl, q⟩
  | x :: xs, hb, env, h, q => by
    obtain ⟨e1, z1, e2, h2, z2, q2⟩ := hb x List.mem_cons_self env h q
    obtain ⟨e, h', z3, q3⟩ := forF_run (xs := xs) (fun y hy => hb y (List.mem_cons_of_mem _ hy)) e2 h2 q2
    exact ⟨e, h', by simp only [forF, z1, z2]; exact z3, q3⟩
theorem fits_small {i j : Int} (h1 : 0 ≤ i) (h2 : i < 2 ^ 62) : mulFits i j = true := by
  unfold mulFits
  have : i.natAbs.log2 < 63 := by
    by_cases z : i.natAbs = 0
    · rw [z]; decide
    · exact (Nat.log2_lt z).mpr (by omega)
  simp [this]
theorem forF_step {g : Tg} {b : MS} {I : Nat → Ev → Hs → Prop} : ∀ {xs : List Vl} {k : Nat}, (∀ j x, xs[j]? = some x → ∀ env h, I (k + j) env h → ∃ e1, bindT g x env h = some e1 ∧ ∃ e2 h2, b e1 h = .nx e2 h2 ∧ I (k + j + 1) e2 h2) → ∀ env h, I k env h → ∃ e h', forF g b xs env h = .nx e h' ∧ I (k + xs.length) e h'
  | [], k, _, env, h, q => ⟨env, h, rfl, q⟩
  | x :: xs, k, hb, env, h, q => by
    obtain ⟨e1, z1, e2, h2, z2, q2⟩ := hb 0 x rfl env h q
    obtain ⟨e, h', z3, q3⟩ := forF_step (xs := xs) (k := k + 1) (fun j y hy env h q => by
      have := hb (j + 1) y (by simpa using hy) env h (by rw [show k + (j + 1) = k + 1 + j by omega]; exact q)
      rw [show k + (j + 1) + 1 = k + 1 + j + 1 by omega] at this
      exact this) e2 h2 q2
    refine ⟨e, h', by simp only [forF, z1, z2]; exact z3, ?_⟩
    rw [List.length_cons, show k + (xs.length + 1) = k + 1 + xs.length by omega]
    exact q3
theorem atL_some {α : Type} {xs : List α} {i : Int} (h0 : 0 ≤ i) (h1 : i < xs.length) : ∃ v, atL xs i = some v := by
  unfold atL
  rw [if_pos h0]
  exact ⟨_, List.getElem?_eq_getElem (by omega)⟩
end Mi

/-! tables of law_k81_names, printed by gen.py -/
namespace Mi
open PySem PySem.Spec L2
def prg : Program := PySem.Challenge.pw_ohmyard_k81_names
def top (i : Nat) : Stmt := prg.main.body.getD i (.Pass ⟨0, 0, 0, 0⟩)
def mth (i j : Nat) : Stmt := match top i with
  | .ClassDef _ _ _ b _ _ _ _ _ _ _ => b.getD j (.Pass ⟨0, 0, 0, 0⟩)
  | _ => .Pass ⟨0, 0, 0, 0⟩
def r4 : FR := ⟨("is_whole", none), "is_whole", top 11, ["thing"], ["thing"], none⟩
theorem good_4 : Good1 r4 := ⟨by decide +kernel, rfl, .inl ⟨rfl, fun _ _ _ _ _ _ us hl => match us, hl with | [_], _ => rfl⟩⟩
def r5 : FR := ⟨("divisor", none), "divisor", top 12, ["one", "other"], ["one", "other"], none⟩
theorem good_5 : Good1 r5 := ⟨by decide +kernel, rfl, .inl ⟨rfl, fun _ _ _ _ _ _ us hl => match us, hl with | [_, _], _ => rfl⟩⟩
def r6 : FR := ⟨("is_fraction", none), "is_fraction", top 13, ["thing"], ["thing"], none⟩
theorem good_6 : Good1 r6 := ⟨by decide +kernel, rfl, .inl ⟨rfl, fun _ _ _ _ _ _ us hl => match us, hl with | [_], _ => rfl⟩⟩
def r15 : FR := ⟨("whole_of", none), "whole_of", top 17, ["figures", "sign"], ["figures"], none⟩
theorem good_15 : Good1 r15 := ⟨by decide +kernel, rfl, .inl ⟨rfl, fun _ _ _ _ _ _ us hl => match us, hl with | [_], _ => rfl⟩⟩
def r16 : FR := ⟨("read", none), "read", top 18, ["text", "head", "stroke", "tail", "low", "top", "bottom"], ["text"], none⟩
theorem good_16 : Good1 r16 := ⟨by decide +kernel, rfl, .inl ⟨rfl, fun _ _ _ _ _ _ us hl => match us, hl with | [_], _ => rfl⟩⟩
def r17 : FR := ⟨("Row", some "__init__"), "Row.__init__", mth 20 0, ["self", "start", "goal", "size"], ["self", "start", "goal", "size"], none⟩
theorem good_17 : Good1 r17 := ⟨by decide +kernel, rfl, .inl ⟨rfl, fun _ _ _ _ _ _ us hl => match us, hl with | [_, _, _, _], _ => rfl⟩⟩
def r18 : FR := ⟨("Row", some "word"), "Row.word", mth 20 1, ["self"], ["self"], none⟩
theorem good_18 : Good1 r18 := ⟨by decide +kernel, rfl, .inl ⟨rfl, fun _ _ _ _ _ _ us hl => match us, hl with | [_], _ => rfl⟩⟩
def r20 : FR := ⟨("Row", some "told"), "Row.told", mth 20 3, ["self"], ["self"], none⟩
theorem good_20 : Good1 r20 := ⟨by decide +kernel, rfl, .inl ⟨rfl, fun _ _ _ _ _ _ us hl => match us, hl with | [_], _ => rfl⟩⟩
def r22 : FR := ⟨("Row", some "at"), "Row.at", mth 20 5, ["self", "places"], ["self", "places"], none⟩
theorem good_22 : Good1 r22 := ⟨by decide +kernel, rfl, .inl ⟨rfl, fun _ _ _ _ _ _ us hl => match us, hl with | [_, _], _ => rfl⟩⟩
def r24 : FR := ⟨("Piece", some "word"), "Piece.word", mth 21 0, ["self"], ["self"], none⟩
theorem good_24 : Good1 r24 := ⟨by decide +kernel, rfl, .inl ⟨rfl, fun _ _ _ _ _ _ us hl => match us, hl with | [_], _ => rfl⟩⟩
def r27 : FR := ⟨("Push", some "word"), "Push.word", mth 22 0, ["self"], ["self"], none⟩
theorem good_27 : Good1 r27 := ⟨by decide +kernel, rfl, .inl ⟨rfl, fun _ _ _ _ _ _ us hl => match us, hl with | [_], _ => rfl⟩⟩
def r29 : FR := ⟨("Hold", some "word"), "Hold.word", mth 23 0, ["self"], ["self"], none⟩
theorem good_29 : Good1 r29 := ⟨by decide +kernel, rfl, .inl ⟨rfl, fun _ _ _ _ _ _ us hl => match us, hl with | [_], _ => rfl⟩⟩
def r31 : FR := ⟨("row_of", none), "row_of", top 24, ["told", "word", "start", "goal", "size"], ["told"], none⟩
theorem good_31 : Good1 r31 := ⟨by decide +kernel, rfl, .inl ⟨rfl, fun _ _ _ _ _ _ us hl => match us, hl with | [_], _ => rfl⟩⟩
def r32 : FR := ⟨("fits", none), "fits", top 28, ["word", "size"], ["word", "size"], none⟩
theorem good_32 : Good1 r32 := ⟨by decide +kernel, rfl, .inl ⟨rfl, fun _ _ _ _ _ _ us hl => match us, hl with | [_, _], _ => rfl⟩⟩
def r33 : FR := ⟨("Net", some "__init__"), "Net.__init__", mth 29 0, ["self", "many"], ["self", "many"], none⟩
theorem good_33 : Good1 r33 := ⟨by decide +kernel, rfl, .inl ⟨rfl, fun _ _ _ _ _ _ us hl => match us, hl with | [_, _], _ => rfl⟩⟩
def r34 : FR := ⟨("Net", some "many"), "Net.many", mth 29 1, ["self"], ["self"], none⟩
theorem good_34 : Good1 r34 := ⟨by decide +kernel, rfl, .inl ⟨rfl, fun _ _ _ _ _ _ us hl => match us, hl with | [_], _ => rfl⟩⟩
def r35 : FR := ⟨("Net", some "count"), "Net.count", mth 29 2, ["self"], ["self"], none⟩
theorem good_35 : Good1 r35 := ⟨by decide +kernel, rfl, .inl ⟨rfl, fun _ _ _ _ _ _ us hl => match us, hl with | [_], _ => rfl⟩⟩
def r36 : FR := ⟨("Net", some "has"), "Net.has", mth 29 3, ["self", "point"], ["self", "point"], none⟩
theorem good_36 : Good1 r36 := ⟨by decide +kernel, rfl, .inl ⟨rfl, fun _ _ _ _ _ _ us hl => match us, hl with | [_, _], _ => rfl⟩⟩
def r37 : FR := ⟨("Net", some "add"), "Net.add", mth 29 4, ["self", "row"], ["self", "row"], none⟩
theorem good_37 : Good1 r37 := ⟨by decide +kernel, rfl, .inl ⟨rfl, fun _ _ _ _ _ _ us hl => match us, hl with | [_, _], _ => rfl⟩⟩
def r39 : FR := ⟨("Net", some "rows"), "Net.rows", mth 29 6, ["self", "told"], ["self"], none⟩
theorem good_39 : Good1 r39 := ⟨by decide +kernel, rfl, .inl ⟨rfl, fun _ _ _ _ _ _ us hl => match us, hl with | [_], _ => rfl⟩⟩
def r40 : FR := ⟨("Net", some "told"), "Net.told", mth 29 7, ["self"], ["self"], none⟩
theorem good_40 : Good1 r40 := ⟨by decide +kernel, rfl, .inl ⟨rfl, fun _ _ _ _ _ _ us hl => match us, hl with | [_], _ => rfl⟩⟩
def r82 : FR := ⟨("is_name", none), "is_name", top 33, ["thing", "sign"], ["thing"], none⟩
theorem good_82 : Good1 r82 := ⟨by decide +kernel, rfl, .inl ⟨rfl, fun _ _ _ _ _ _ us hl => match us, hl with | [_], _ => rfl⟩⟩
def r83 : FR := ⟨("Sheet", some "__init__"), "Sheet.__init__", mth 34 0, ["self", "outer"], ["self", "outer"], none⟩
theorem good_83 : Good1 r83 := ⟨by decide +kernel, rfl, .inl ⟨rfl, fun _ _ _ _ _ _ us hl => match us, hl with | [_, _], _ => rfl⟩⟩
def r84 : FR := ⟨("Sheet", some "grow"), "Sheet.grow", mth 34 1, ["self", "come", "more", "points", "one"], ["self", "come", "more"], none⟩
theorem good_84 : Good1 r84 := ⟨by decide +kernel, rfl, .inl ⟨rfl, fun _ _ _ _ _ _ us hl => match us, hl with | [_, _, _], _ => rfl⟩⟩
def r85 : FR := ⟨("Sheet", some "built"), "Sheet.built", mth 34 2, ["self", "name", "spots", "places", "k", "come", "one", "word", "a", "b", "size"], ["self", "name", "spots"], none⟩
theorem good_85 : Good1 r85 := ⟨by decide +kernel, rfl, .inl ⟨rfl, fun _ _ _ _ _ _ us hl => match us, hl with | [_, _, _], _ => rfl⟩⟩
def r86 : FR := ⟨("counted", none), "counted", top 35, ["words", "within", "many", "good"], ["words", "within"], none⟩
theorem good_86 : Good1 r86 := ⟨by decide +kernel, rfl, .inl ⟨rfl, fun _ _ _ _ _ _ us hl => match us, hl with | [_, _], _ => rfl⟩⟩
def r87 : FR := ⟨("Yard", some "__init__"), "Yard.__init__", mth 36 0, ["self"], ["self"], none⟩
theorem good_87 : Good1 r87 := ⟨by decide +kernel, rfl, .inl ⟨rfl, fun _ _ _ _ _ _ us hl => match us, hl with | [_], _ => rfl⟩⟩
def r88 : FR := ⟨("Yard", some "here"), "Yard.here", mth 36 1, ["self"], ["self"], none⟩
theorem good_88 : Good1 r88 := ⟨by decide +kernel, rfl, .inl ⟨rfl, fun _ _ _ _ _ _ us hl => match us, hl with | [_], _ => rfl⟩⟩
def r89 : FR := ⟨("Yard", some "tell"), "Yard.tell", mth 36 2, ["self", "row", "words"], ["self", "row"], none⟩
theorem good_89 : Good1 r89 := ⟨by decide +kernel, rfl, .inl ⟨rfl, fun _ _ _ _ _ _ us hl => match us, hl with | [_, _], _ => rfl⟩⟩
def r90 : FR := ⟨("Yard", some "begin"), "Yard.begin", mth 36 3, ["self", "name", "outer", "one"], ["self", "name", "outer"], none⟩
theorem good_90 : Good1 r90 := ⟨by decide +kernel, rfl, .inl ⟨rfl, fun _ _ _ _ _ _ us hl => match us, hl with | [_, _, _], _ => rfl⟩⟩
def r91 : FR := ⟨("Yard", some "put_in"), "Yard.put_in", mth 36 4, ["self", "name", "which", "spots", "one", "inner", "come", "more"], ["self", "name", "which", "spots"], none⟩
theorem good_91 : Good1 r91 := ⟨by decide +kernel, rfl, .inl ⟨rfl, fun _ _ _ _ _ _ us hl => match us, hl with | [_, _, _, _], _ => rfl⟩⟩
def r92 : FR := ⟨("Yard", some "lay"), "Yard.lay", mth 36 5, ["self", "words", "word", "one", "other", "figures", "size"], ["self", "words"], none⟩
theorem good_92 : Good1 r92 := ⟨by decide +kernel, rfl, .inl ⟨rfl, fun _ _ _ _ _ _ us hl => match us, hl with | [_, _], _ => rfl⟩⟩
def r93 : FR := ⟨("Yard", some "names"), "Yard.names", mth 36 6, ["self"], ["self"], none⟩
theorem good_93 : Good1 r93 := ⟨by decide +kernel, rfl, .inl ⟨rfl, fun _ _ _ _ _ _ us hl => match us, hl with | [_], _ => rfl⟩⟩
def r94 : FR := ⟨("Yard", some "count"), "Yard.count", mth 36 7, ["self"], ["self"], none⟩
theorem good_94 : Good1 r94 := ⟨by decide +kernel, rfl, .inl ⟨rfl, fun _ _ _ _ _ _ us hl => match us, hl with | [_], _ => rfl⟩⟩
def r95 : FR := ⟨("Yard", some "net"), "Yard.net", mth 36 8, ["self", "made", "places", "k", "told"], ["self"], none⟩
theorem good_95 : Good1 r95 := ⟨by decide +kernel, rfl, .inl ⟨rfl, fun _ _ _ _ _ _ us hl => match us, hl with | [_], _ => rfl⟩⟩
def r1001 : FR := ⟨("_law_pick", none), "_law_pick", top 38, ["script", "k"], ["script", "k"], none⟩
theorem good_1001 : Good1 r1001 := ⟨by decide +kernel, rfl, .inl ⟨rfl, fun _ _ _ _ _ _ us hl => match us, hl with | [_, _], _ => rfl⟩⟩
def r1002 : FR := ⟨("_law_mix", none), "_law_mix", top 39, ["cell", "prime", "many", "number", "rest"], ["cell", "prime", "many"], none⟩
theorem good_1002 : Good1 r1002 := ⟨by decide +kernel, rfl, .inl ⟨rfl, fun _ _ _ _ _ _ us hl => match us, hl with | [_, _, _], _ => rfl⟩⟩
def r1003 : FR := ⟨("_law_text", none), "_law_text", top 40, ["cell", "number", "text", "k", "at", "signs"], ["cell"], none⟩
theorem good_1003 : Good1 r1003 := ⟨by decide +kernel, rfl, .inl ⟨rfl, fun _ _ _ _ _ _ us hl => match us, hl with | [_], _ => rfl⟩⟩
def r1004 : FR := ⟨("_law_good", none), "_law_good", top 41, ["text", "sign"], ["text"], none⟩
theorem good_1004 : Good1 r1004 := ⟨by decide +kernel, rfl, .inl ⟨rfl, fun _ _ _ _ _ _ us hl => match us, hl with | [_], _ => rfl⟩⟩
def r1005 : FR := ⟨("_law_taken", none), "_law_taken", top 42, ["text", "cell", "yard", "other", "refused"], ["text", "cell"], none⟩
theorem good_1005 : Good1 r1005 := ⟨by decide +kernel, rfl, .inl ⟨rfl, fun _ _ _ _ _ _ us hl => match us, hl with | [_, _], _ => rfl⟩⟩
def r1006 : FR := ⟨("law", none), "law", top 43, ["script", "k", "thing", "cell", "text", "found"], ["script"], none⟩
theorem good_1006 : Good1 r1006 := ⟨by decide +kernel, rfl, .inl ⟨rfl, fun _ _ _ _ _ _ us hl => match us, hl with | [_], _ => rfl⟩⟩
def frs : FRs := [(4, r4), (5, r5), (6, r6), (15, r15), (16, r16), (17, r17), (18, r18), (20, r20), (22, r22), (24, r24), (27, r27), (29, r29), (31, r31), (32, r32), (33, r33), (34, r34), (35, r35), (36, r36), (37, r37), (39, r39), (40, r40), (82, r82), (83, r83), (84, r84), (85, r85), (86, r86), (87, r87), (88, r88), (89, r89), (90, r90), (91, r91), (92, r92), (93, r93), (94, r94), (95, r95), (1001, r1001), (1002, r1002), (1003, r1003), (1004, r1004), (1005, r1005), (1006, r1006)]
theorem frs_good : ∀ q ∈ frs, Good1 q.2 := by
  intro q hq
  unfold frs at hq
  rcases List.mem_cons.mp hq with rfl | hq
  · exact good_4
  rcases List.mem_cons.mp hq with rfl | hq
  · exact good_5
  rcases List.mem_cons.mp hq with rfl | hq
  · exact good_6
  rcases List.mem_cons.mp hq with rfl | hq
  · exact good_15
  rcases List.mem_cons.mp hq with rfl | hq
  · exact good_16
  rcases List.mem_cons.mp hq with rfl | hq
  · exact good_17
  rcases List.mem_cons.mp hq with rfl | hq
  · exact good_18
  rcases List.mem_cons.mp hq with rfl | hq
  · exact good_20
  rcases List.mem_cons.mp hq with rfl | hq
  · exact good_22
  rcases List.mem_cons.mp hq with rfl | hq
  · exact good_24
  rcases List.mem_cons.mp hq with rfl | hq
  · exact good_27
  rcases List.mem_cons.mp hq with rfl | hq
  · exact good_29
  rcases List.mem_cons.mp hq with rfl | hq
  · exact good_31
  rcases List.mem_cons.mp hq with rfl | hq
  · exact good_32
  rcases List.mem_cons.mp hq with rfl | hq
  · exact good_33
  rcases List.mem_cons.mp hq with rfl | hq
  · exact good_34
  rcases List.mem_cons.mp hq with rfl | hq
  · exact good_35
  rcases List.mem_cons.mp hq with rfl | hq
  · exact good_36
  rcases List.mem_cons.mp hq with rfl | hq
  · exact good_37
  rcases List.mem_cons.mp hq with rfl | hq
  · exact good_39
  rcases List.mem_cons.mp hq with rfl | hq
  · exact good_40
  rcases List.mem_cons.mp hq with rfl | hq
  · exact good_82
  rcases List.mem_cons.mp hq with rfl | hq
  · exact good_83
  rcases List.mem_cons.mp hq with rfl | hq
  · exact good_84
  rcases List.mem_cons.mp hq with rfl | hq
  · exact good_85
  rcases List.mem_cons.mp hq with rfl | hq
  · exact good_86
  rcases List.mem_cons.mp hq with rfl | hq
  · exact good_87
  rcases List.mem_cons.mp hq with rfl | hq
  · exact good_88
  rcases List.mem_cons.mp hq with rfl | hq
  · exact good_89
  rcases List.mem_cons.mp hq with rfl | hq
  · exact good_90
  rcases List.mem_cons.mp hq with rfl | hq
  · exact good_91
  rcases List.mem_cons.mp hq with rfl | hq
  · exact good_92
  rcases List.mem_cons.mp hq with rfl | hq
  · exact good_93
  rcases List.mem_cons.mp hq with rfl | hq
  · exact good_94
  rcases List.mem_cons.mp hq with rfl | hq
  · exact good_95
  rcases List.mem_cons.mp hq with rfl | hq
  · exact good_1001
  rcases List.mem_cons.mp hq with rfl | hq
  · exact good_1002
  rcases List.mem_cons.mp hq with rfl | hq
  · exact good_1003
  rcases List.mem_cons.mp hq with rfl | hq
  · exact good_1004
  rcases List.mem_cons.mp hq with rfl | hq
  · exact good_1005
  rcases List.mem_cons.mp hq with rfl | hq
  · exact good_1006
  cases hq
def oth : List (Str × Gb) := [("OhmError", .exc 0), ("NoNumber", .exc 1), ("NoPoint", .exc 2), ("NoSize", .exc 3), ("NoRow", .exc 4), ("NoWord", .exc 5), ("NoName", .exc 6), ("TooMany", .exc 9), ("Row", .cls 14 17), ("Piece", .cls 15 17), ("Push", .cls 16 17), ("Hold", .cls 17 17), ("Net", .cls 18 33), ("Sheet", .cls 22 83), ("Yard", .cls 23 87), ("FIGURES", .val (.str "0123456789")), ("MOST", .val (.int (200))), ("MOST_POINTS", .val (.int (20))), ("MOST_ROWS", .val (.int (40))), ("LETTERS", .val (.str "abcdefghijklmnopqrstuvwxyz")), ("MOST_PARTS", .val (.int (20))), ("abs", .free), ("bool", .free), ("int", .free), ("isinstance", .free), ("len", .free), ("list", .free), ("max", .free), ("min", .free), ("range", .free), ("str", .free), ("tuple", .free)]
def tbs : Tbs := ⟨[(14, 25), (14, 26), (14, 27), (15, 25), (15, 26), (15, 27), (16, 25), (16, 26), (16, 27), (17, 25), (17, 26), (17, 27), (18, 28), (18, 29), (22, 37), (22, 38), (22, 39), (22, 40), (23, 41), (23, 42), (23, 43), (23, 44)], [((14, 50), 18), ((14, 52), 20), ((14, 54), 22), ((15, 50), 24), ((15, 52), 20), ((15, 54), 22), ((16, 50), 27), ((16, 52), 20), ((16, 54), 22), ((17, 50), 29), ((17, 52), 20), ((17, 54), 22), ((18, 56), 34), ((18, 57), 35), ((18, 58), 36), ((18, 59), 37), ((18, 61), 39), ((18, 52), 40), ((22, 73), 84), ((22, 74), 85), ((23, 75), 88), ((23, 76), 89), ((23, 77), 90), ((23, 78), 91), ((23, 79), 92), ((23, 80), 93), ((23, 57), 94), ((23, 72), 95)], [((.b 0, .b 2), false), ((.b 1, .b 2), true), ((.b 2, .b 2), true), ((.b 3, .b 2), false), ((.b 4, .b 2), false), ((.b 5, .b 2), false), ((.b 6, .b 2), false), ((.own 14, .b 2), false), ((.own 15, .b 2), false), ((.own 16, .b 2), false), ((.own 17, .b 2), false), ((.own 18, .b 2), false), ((.own 22, .b 2), false), ((.own 23, .b 2), false), ((.b 0, .b 3), false), ((.b 1, .b 3), false), ((.b 2, .b 3), false), ((.b 3, .b 3), true), ((.b 4, .b 3), false), ((.b 5, .b 3), false), ((.b 6, .b 3), false), ((.own 14, .b 3), false), ((.own 15, .b 3), false), ((.own 16, .b 3), false), ((.own 17, .b 3), false), ((.own 18, .b 3), false), ((.own 22, .b 3), false), ((.own 23, .b 3), false), ((.b 0, .b 1), false), ((.b 1, .b 1), true), ((.b 2, .b 1), false), ((.b 3, .b 1), false), ((.b 4, .b 1), false), ((.b 5, .b 1), false), ((.b 6, .b 1), false), ((.own 14, .b 1), false), ((.own 15, .b 1), false), ((.own 16, .b 1), false), ((.own 17, .b 1), false), ((.own 18, .b 1), false), ((.own 22, .b 1), false), ((.own 23, .b 1), false), ((.b 0, .b 5), false), ((.b 1, .b 5), false), ((.b 2, .b 5), false), ((.b 3, .b 5), false), ((.b 4, .b 5), false), ((.b 5, .b 5), true), ((.b 6, .b 5), false), ((.own 14, .b 5), false), ((.own 15, .b 5), false), ((.own 16, .b 5), false), ((.own 17, .b 5), false), ((.own 18, .b 5), false), ((.own 22, .b 5), false), ((.own 23, .b 5), false)], [((0, 6), false), ((1, 6), false), ((2, 6), false), ((3, 6), false), ((4, 6), false), ((5, 6), false), ((6, 6), true), ((9, 6), false)]⟩
abbrev glb : Str → Option Gb := gOf frs oth
noncomputable abbrev run (n : Nat) : Clr := clr tbs.pr (tabT frs glb 40) n
theorem run_at {f : Nat} {d : Fd} (e : tabT frs glb 40 f = some d) (n : Nat) (vs : List Vl) (h : Hs) : run (n + 1) f vs h = d.run tbs.pr (run n) vs h := clr_at e n vs h
theorem fl_all : tbs.pr.ok 14 25 = true ∧ tbs.pr.ok 14 26 = true ∧ tbs.pr.ok 14 27 = true ∧ tbs.pr.ok 15 25 = true ∧ tbs.pr.ok 15 26 = true ∧ tbs.pr.ok 15 27 = true ∧ tbs.pr.ok 16 25 = true ∧ tbs.pr.ok 16 26 = true ∧ tbs.pr.ok 16 27 = true ∧ tbs.pr.ok 17 25 = true ∧ tbs.pr.ok 17 26 = true ∧ tbs.pr.ok 17 27 = true ∧ tbs.pr.ok 18 28 = true ∧ tbs.pr.ok 18 29 = true ∧ tbs.pr.ok 22 37 = true ∧ tbs.pr.ok 22 38 = true ∧ tbs.pr.ok 22 39 = true ∧ tbs.pr.ok 22 40 = true ∧ tbs.pr.ok 23 41 = true ∧ tbs.pr.ok 23 42 = true ∧ tbs.pr.ok 23 43 = true ∧ tbs.pr.ok 23 44 = true := by repeat (first | exact rfl | refine ⟨rfl, ?_⟩)
theorem mt_all : tbs.pr.mt 14 50 = some 18 ∧ tbs.pr.mt 14 52 = some 20 ∧ tbs.pr.mt 14 54 = some 22 ∧ tbs.pr.mt 15 50 = some 24 ∧ tbs.pr.mt 15 52 = some 20 ∧ tbs.pr.mt 15 54 = some 22 ∧ tbs.pr.mt 16 50 = some 27 ∧ tbs.pr.mt 16 52 = some 20 ∧ tbs.pr.mt 16 54 = some 22 ∧ tbs.pr.mt 17 50 = some 29 ∧ tbs.pr.mt 17 52 = some 20 ∧ tbs.pr.mt 17 54 = some 22 ∧ tbs.pr.mt 18 56 = some 34 ∧ tbs.pr.mt 18 57 = some 35 ∧ tbs.pr.mt 18 58 = some 36 ∧ tbs.pr.mt 18 59 = some 37 ∧ tbs.pr.mt 18 61 = some 39 ∧ tbs.pr.mt 18 52 = some 40 ∧ tbs.pr.mt 22 73 = some 84 ∧ tbs.pr.mt 22 74 = some 85 ∧ tbs.pr.mt 23 75 = some 88 ∧ tbs.pr.mt 23 76 = some 89 ∧ tbs.pr.mt 23 77 = some 90 ∧ tbs.pr.mt 23 78 = some 91 ∧ tbs.pr.mt 23 79 = some 92 ∧ tbs.pr.mt 23 80 = some 93 ∧ tbs.pr.mt 23 57 = some 94 ∧ tbs.pr.mt 23 72 = some 95 := by repeat (first | exact rfl | refine ⟨rfl, ?_⟩)
theorem is_all : tbs.pr.isi (.b 0) (.b 2) = some false ∧ tbs.pr.isi (.b 1) (.b 2) = some true ∧ tbs.pr.isi (.b 2) (.b 2) = some true ∧ tbs.pr.isi (.b 3) (.b 2) = some false ∧ tbs.pr.isi (.b 4) (.b 2) = some false ∧ tbs.pr.isi (.b 5) (.b 2) = some false ∧ tbs.pr.isi (.b 6) (.b 2) = some false ∧ tbs.pr.isi (.own 14) (.b 2) = some false ∧ tbs.pr.isi (.own 15) (.b 2) = some false ∧ tbs.pr.isi (.own 16) (.b 2) = some false ∧ tbs.pr.isi (.own 17) (.b 2) = some false ∧ tbs.pr.isi (.own 18) (.b 2) = some false ∧ tbs.pr.isi (.own 22) (.b 2) = some false ∧ tbs.pr.isi (.own 23) (.b 2) = some false ∧ tbs.pr.isi (.b 0) (.b 3) = some false ∧ tbs.pr.isi (.b 1) (.b 3) = some false ∧ tbs.pr.isi (.b 2) (.b 3) = some false ∧ tbs.pr.isi (.b 3) (.b 3) = some true ∧ tbs.pr.isi (.b 4) (.b 3) = some false ∧ tbs.pr.isi (.b 5) (.b 3) = some false ∧ tbs.pr.isi (.b 6) (.b 3) = some false ∧ tbs.pr.isi (.own 14) (.b 3) = some false ∧ tbs.pr.isi (.own 15) (.b 3) = some false ∧ tbs.pr.isi (.own 16) (.b 3) = some false ∧ tbs.pr.isi (.own 17) (.b 3) = some false ∧ tbs.pr.isi (.own 18) (.b 3) = some false ∧ tbs.pr.isi (.own 22) (.b 3) = some false ∧ tbs.pr.isi (.own 23) (.b 3) = some false ∧ tbs.pr.isi (.b 0) (.b 1) = some false ∧ tbs.pr.isi (.b 1) (.b 1) = some true ∧ tbs.pr.isi (.b 2) (.b 1) = some false ∧ tbs.pr.isi (.b 3) (.b 1) = some false ∧ tbs.pr.isi (.b 4) (.b 1) = some false ∧ tbs.pr.isi (.b 5) (.b 1) = some false ∧ tbs.pr.isi (.b 6) (.b 1) = some false ∧ tbs.pr.isi (.own 14) (.b 1) = some false ∧ tbs.pr.isi (.own 15) (.b 1) = some false ∧ tbs.pr.isi (.own 16) (.b 1) = some false ∧ tbs.pr.isi (.own 17) (.b 1) = some false ∧ tbs.pr.isi (.own 18) (.b 1) = some false ∧ tbs.pr.isi (.own 22) (.b 1) = some false ∧ tbs.pr.isi (.own 23) (.b 1) = some false ∧ tbs.pr.isi (.b 0) (.b 5) = some false ∧ tbs.pr.isi (.b 1) (.b 5) = some false ∧ tbs.pr.isi (.b 2) (.b 5) = some false ∧ tbs.pr.isi (.b 3) (.b 5) = some false ∧ tbs.pr.isi (.b 4) (.b 5) = some false ∧ tbs.pr.isi (.b 5) (.b 5) = some true ∧ tbs.pr.isi (.b 6) (.b 5) = some false ∧ tbs.pr.isi (.own 14) (.b 5) = some false ∧ tbs.pr.isi (.own 15) (.b 5) = some false ∧ tbs.pr.isi (.own 16) (.b 5) = some false ∧ tbs.pr.isi (.own 17) (.b 5) = some false ∧ tbs.pr.isi (.own 18) (.b 5) = some false ∧ tbs.pr.isi (.own 22) (.b 5) = some false ∧ tbs.pr.isi (.own 23) (.b 5) = some false := by repeat (first | exact rfl | refine ⟨rfl, ?_⟩)
theorem su_all : tbs.pr.sub 0 6 = some false ∧ tbs.pr.sub 1 6 = some false ∧ tbs.pr.sub 2 6 = some false ∧ tbs.pr.sub 3 6 = some false ∧ tbs.pr.sub 4 6 = some false ∧ tbs.pr.sub 5 6 = some false ∧ tbs.pr.sub 6 6 = some true ∧ tbs.pr.sub 9 6 = some false := by repeat (first | exact rfl | refine ⟨rfl, ?_⟩)
/-! ### the head -/
def loose0 : List Str := ["_wall", "__name__", "OhmError", "NoNumber", "NoPoint", "NoSize", "NoRow", "NoWord", "NoName", "TooMany", "is_whole", "divisor", "is_fraction", "FIGURES", "MOST", "whole_of", "read", "Row", "Piece", "Push"]
def loose1 : List Str := ["Hold", "row_of", "MOST_POINTS", "MOST_ROWS", "fits", "Net", "LETTERS", "MOST_PARTS", "is_name", "Sheet", "counted", "Yard", "_law_pick", "_law_mix", "_law_text", "_law_good", "_law_taken"]
def loose : List Str := loose0 ++ (loose1)
def fnL : List He.DefD := frs.map (·.2.d)
abbrev Rw : PySem.W.OpenRow := PySem.W.OpenLaw.row PySem.Challenge.rw_ohmyard_k81_names
abbrev hk : PySem.W.Hook := He.hookX 6 [] fnL [] [] (chkB frs oth tbs)
def obs_ (s : PySem.W.SharedT) : He.AlX := He.obsX 6 [] fnL [] [] (chkB frs oth tbs) (HandSHeadRun.getT s)
theorem obs_eq (s : PySem.W.SharedT) : obs_ s = hk.obs s.abs := He.obsX_eq (HandSHeadRun.getT_eq s)
theorem top_run (w : World) : HandSHeadRun.RunEq Rw (PySem.W.view Rw.prog [43]) hk obs_ 20000 loose w := by
  intro os
  kernel_rfl
/-- what is left: the law in the small language -/
theorem holds_of (ok : ∀ ns : List Int, ns.length ≤ 63 → (∀ z ∈ ns, Builtin.Int.intBits z ≤ 1048576) → ∃ h, run 31 1006 [.kl ns] [] = .ok (.bl true) h) (hwit : (PySem.W.OpenRow.toRowW Rw).promised) : Rw.Holds := by
  refine HandSHeadRun.head_any (r := Rw) (q := PySem.W.view Rw.prog [43]) (H := hk) (ob := obs_) (M := 20000) (loose := loose) (d := HandSHeadRun.topDef Rw.prog 43) (kwd := []) obs_eq
    (by kernel_rfl) (fun s => by kernel_rfl) top_run (by kernel_rfl) (by kernel_rfl) (by kernel_rfl) (by rfl) (by first | assumption | decide +kernel) (by decide +kernel) ⟨rfl, rfl, rfl, rfl, rfl, by decide +kernel⟩ hwit ?_
  refine walk_law (l := PySem.Challenge.rw_ohmyard_k81_names) (n := 63) (k := 62) (x := "script") (CX := fun w => L2.CX Rw.prog w) rfl (by decide) (by kernel_rfl) ⟨rfl, by decide, by decide⟩ ?_ (fun w H s e s' z => by obtain ⟨a, B, H', cls, d, _, _, _, _, _, _, _, f⟩ := z; exact f)
  intro w mg fa h Y G hmg0
  obtain ⟨K, KX, c⟩ := Y
  have hmg : mg ("law" : PySem.Str) = some (.ref fa) := by
    have e : (HandSHeadRun.topDef Rw.prog 43).name = ("law" : PySem.Str) := by kernel_rfl
    rw [← e]
    exact hmg0
  have D : ∀ q ∈ frs, ∃ fd, FunD K q.2.d.name q.2.d.qual q.2.d.params q.2.d.body q.2.d.scope (q.2.d.dvs K) (q.2.d.kws K) (He.fAd K q.2.d.at_) fd := fun q hq => He.SaysD.defs c.t.d (List.mem_map.mpr ⟨q, hq, rfl⟩)
  obtain ⟨fd, hb, hF⟩ := law_ok (Pg := Rw.prog) (w := w) (f := 1006) (R := r1006) (x := "law") (y := "script") KX G (by decide +kernel) c.more 40 30 D frs_good (by unfold frs; simp only [List.mem_cons]; simp) rfl rfl rfl (by rfl) hmg
  exact ⟨K, fd, _, KX, hb, fun H a ns hl hbits hO hS => (ok ns hl hbits).elim fun h' e => sp_law hO hS e, hF⟩
end Mi

namespace Mi
open PySem PySem.Spec L2
def b4 : Sm := (.seq (.ret (.and (.isi (.v 0) (.b 2)) (.not (.isi (.v 0) (.b 1))))) .skip)
theorem t4 : tabT frs glb 40 4 = some ⟨1, 1, b4⟩ := by rfl
def b5l0 : Sm := (.seq (.par 0 1 (.cons (.v 1) (.cons (.bin .mod (.v 0) (.v 1)) .nil))) .skip)
def b5 : Sm := (.seq (.asg (.one 0) (.blt .abs (.cons (.v 0) .nil))) (.seq (.asg (.one 1) (.blt .abs (.cons (.v 1) .nil))) (.seq (.whl (.bin .ne (.v 1) (.c (.int (0)))) b5l0) (.seq (.ret (.v 0)) .skip))))
theorem t5 : tabT frs glb 40 5 = some ⟨2, 2, b5⟩ := by rfl
def b6 : Sm := (.seq (.ite (.or (.not (.isi (.v 0) (.b 5))) (.bin .ne (.blt .len (.cons (.v 0) .nil)) (.c (.int (2))))) (.seq (.ret (.c (.bl false))) .skip) .skip) (.seq (.ite (.or (.not (.call 4 (.cons (.bin .ix (.v 0) (.c (.int (0)))) .nil))) (.or (.not (.call 4 (.cons (.bin .ix (.v 0) (.c (.int (1)))) .nil))) (.bin .lt (.bin .ix (.v 0) (.c (.int (1)))) (.c (.int (1)))))) (.seq (.ret (.c (.bl false))) .skip) .skip) (.seq (.ret (.bin .eq (.call 5 (.cons (.bin .ix (.v 0) (.c (.int (0)))) (.cons (.bin .ix (.v 0) (.c (.int (1)))) .nil))) (.c (.int (1))))) .skip)))
theorem t6 : tabT frs glb 40 6 = some ⟨1, 1, b6⟩ := by rfl
def b15l0 : Sm := (.seq (.ite (.bin .ni (.v 1) (.c (.str "0123456789"))) (.seq (.ret (.c .non)) .skip) .skip) .skip)
def b15 : Sm := (.seq (.ite (.or (.bin .eq (.v 0) (.c (.str ""))) (.bin .gt (.blt .len (.cons (.v 0) .nil)) (.c (.int (200))))) (.seq (.ret (.c .non)) .skip) .skip) (.seq (.ite (.and (.bin .eq (.bin .ix (.v 0) (.c (.int (0)))) (.c (.str "0"))) (.bin .gt (.blt .len (.cons (.v 0) .nil)) (.c (.int (1))))) (.seq (.ret (.c .non)) .skip) .skip) (.seq (.loop .seq (.cons (.v 0) .nil) (.one 1) b15l0) (.seq (.ret (.blt .int (.cons (.v 0) .nil))) .skip))))
theorem t15 : tabT frs glb 40 15 = some ⟨1, 2, b15⟩ := by rfl
def b16 : Sm := (.seq (.ite (.not (.isi (.v 0) (.b 3))) (.seq (.rais 1) .skip) .skip) (.seq (.asg (.many [1, 2, 3]) (.bm .partition (.v 0) (.cons (.c (.str "/")) .nil))) (.seq (.asg (.one 4) (.bin .eq (.sl (.v 1) .nil (.cons (.c (.int (1))) .nil)) (.c (.str "-")))) (.seq (.ite (.v 4) (.seq (.asg (.one 1) (.sl (.v 1) (.cons (.c (.int (1))) .nil) .nil)) .skip) .skip) (.seq (.asg (.one 5) (.call 15 (.cons (.v 1) .nil))) (.seq (.asg (.one 6) (.c (.int (1)))) (.seq (.ite (.bin .ne (.v 2) (.c (.str ""))) (.seq (.asg (.one 6) (.call 15 (.cons (.v 3) .nil))) .skip) .skip) (.seq (.ite (.or (.bin .is_ (.v 5) (.c .non)) (.or (.bin .is_ (.v 6) (.c .non)) (.and (.v 4) (.bin .eq (.v 5) (.c (.int (0))))))) (.seq (.rais 1) .skip) .skip) (.seq (.ite (.or (.and (.bin .ne (.v 2) (.c (.str ""))) (.bin .lt (.v 6) (.c (.int (2))))) (.bin .ne (.call 5 (.cons (.v 5) (.cons (.v 6) .nil))) (.c (.int (1))))) (.seq (.rais 1) .skip) .skip) (.seq (.ite (.v 4) (.seq (.asg (.one 5) (.bin .sub (.c (.int (0))) (.v 5))) .skip) .skip) (.seq (.ret (.tup (.cons (.v 5) (.cons (.v 6) .nil)))) .skip)))))))))))
theorem t16 : tabT frs glb 40 16 = some ⟨1, 7, b16⟩ := by rfl
def b17 : Sm := (.seq (.setf (.v 0) 25 (.v 1)) (.seq (.setf (.v 0) 26 (.v 2)) (.seq (.setf (.v 0) 27 (.v 3)) .skip)))
theorem t17 : tabT frs glb 40 17 = some ⟨4, 4, b17⟩ := by rfl
def b18 : Sm := (.seq (.ret (.c (.str "row"))) .skip)
theorem t18 : tabT frs glb 40 18 = some ⟨1, 1, b18⟩ := by rfl
def b20 : Sm := (.seq (.ret (.tup (.cons (.meth 50 (.v 0) .nil) (.cons (.fld (.v 0) 25) (.cons (.fld (.v 0) 26) (.cons (.fld (.v 0) 27) .nil)))))) .skip)
theorem t20 : tabT frs glb 40 20 = some ⟨1, 1, b20⟩ := by rfl
def b22 : Sm := (.seq (.ret (.call 31 (.cons (.tup (.cons (.meth 50 (.v 0) .nil) (.cons (.bin .ix (.v 1) (.fld (.v 0) 25)) (.cons (.bin .ix (.v 1) (.fld (.v 0) 26)) (.cons (.fld (.v 0) 27) .nil))))) .nil))) .skip)
theorem t22 : tabT frs glb 40 22 = some ⟨2, 2, b22⟩ := by rfl
def b24 : Sm := (.seq (.ret (.c (.str "piece"))) .skip)
theorem t24 : tabT frs glb 40 24 = some ⟨1, 1, b24⟩ := by rfl
def b27 : Sm := (.seq (.ret (.c (.str "push"))) .skip)
theorem t27 : tabT frs glb 40 27 = some ⟨1, 1, b27⟩ := by rfl
def b29 : Sm := (.seq (.ret (.c (.str "hold"))) .skip)
theorem t29 : tabT frs glb 40 29 = some ⟨1, 1, b29⟩ := by rfl
def b31 : Sm := (.seq (.asg (.many [1, 2, 3, 4]) (.v 0)) (.seq (.ite (.bin .eq (.v 1) (.c (.str "piece"))) (.seq (.ret (.make 15 17 (.cons (.v 2) (.cons (.v 3) (.cons (.v 4) .nil))))) .skip) .skip) (.seq (.ite (.bin .eq (.v 1) (.c (.str "push"))) (.seq (.ret (.make 16 17 (.cons (.v 2) (.cons (.v 3) (.cons (.v 4) .nil))))) .skip) .skip) (.seq (.ite (.bin .eq (.v 1) (.c (.str "hold"))) (.seq (.ret (.make 17 17 (.cons (.v 2) (.cons (.v 3) (.cons (.v 4) .nil))))) .skip) .skip) (.seq (.rais 5) .skip)))))
theorem t31 : tabT frs glb 40 31 = some ⟨1, 5, b31⟩ := by rfl
def b32 : Sm := (.seq (.ret (.and (.call 6 (.cons (.v 1) .nil)) (.or (.bin .ne (.v 0) (.c (.str "piece"))) (.bin .gt (.bin .ix (.v 1) (.c (.int (0)))) (.c (.int (0))))))) .skip)
theorem t32 : tabT frs glb 40 32 = some ⟨2, 2, b32⟩ := by rfl
def b33 : Sm := (.seq (.ite (.or (.not (.call 4 (.cons (.v 1) .nil))) (.or (.bin .lt (.v 1) (.c (.int (1)))) (.bin .gt (.v 1) (.c (.int (20)))))) (.seq (.rais 2) .skip) .skip) (.seq (.setf (.v 0) 28 (.v 1)) (.seq (.setf (.v 0) 29 (.lst .nil)) .skip)))
theorem t33 : tabT frs glb 40 33 = some ⟨2, 2, b33⟩ := by rfl
def b34 : Sm := (.seq (.ret (.fld (.v 0) 28)) .skip)
theorem t34 : tabT frs glb 40 34 = some ⟨1, 1, b34⟩ := by rfl
def b35 : Sm := (.seq (.ret (.blt .len (.cons (.fld (.v 0) 29) .nil))) .skip)
theorem t35 : tabT frs glb 40 35 = some ⟨1, 1, b35⟩ := by rfl
def b36 : Sm := (.seq (.ret (.and (.call 4 (.cons (.v 1) .nil)) (.chain .le .lt (.c (.int (0))) (.v 1) (.fld (.v 0) 28)))) .skip)
theorem t36 : tabT frs glb 40 36 = some ⟨2, 2, b36⟩ := by rfl
def b37 : Sm := (.seq (.ite (.or (.not (.meth 58 (.v 0) (.cons (.fld (.v 1) 25) .nil))) (.not (.meth 58 (.v 0) (.cons (.fld (.v 1) 26) .nil)))) (.seq (.rais 2) .skip) .skip) (.seq (.ite (.not (.call 32 (.cons (.meth 50 (.v 1) .nil) (.cons (.fld (.v 1) 27) .nil)))) (.seq (.rais 3) .skip) .skip) (.seq (.ite (.bin .ge (.blt .len (.cons (.fld (.v 0) 29) .nil)) (.c (.int (40)))) (.seq (.rais 9) .skip) .skip) (.seq (.expr (.bm .append (.fld (.v 0) 29) (.cons (.meth 52 (.v 1) .nil) .nil))) (.seq (.ret (.bin .sub (.blt .len (.cons (.fld (.v 0) 29) .nil)) (.c (.int (1))))) .skip)))))
theorem t37 : tabT frs glb 40 37 = some ⟨2, 2, b37⟩ := by rfl
def b39 : Sm := (.seq (.ret (.lc .seq (.cons (.fld (.v 0) 29) .nil) (.one 1) (.c (.bl true)) (.call 31 (.cons (.v 1) .nil)) [1])) .skip)
theorem t39 : tabT frs glb 40 39 = some ⟨1, 2, b39⟩ := by rfl
def b40 : Sm := (.seq (.ret (.blt .list (.cons (.fld (.v 0) 29) .nil))) .skip)
theorem t40 : tabT frs glb 40 40 = some ⟨1, 1, b40⟩ := by rfl
def b82l0 : Sm := (.seq (.ite (.bin .ni (.v 1) (.c (.str "abcdefghijklmnopqrstuvwxyz"))) (.seq (.ret (.c (.bl false))) .skip) .skip) .skip)
def b82 : Sm := (.seq (.ite (.or (.not (.isi (.v 0) (.b 3))) (.or (.bin .eq (.v 0) (.c (.str ""))) (.bin .gt (.blt .len (.cons (.v 0) .nil)) (.c (.int (8)))))) (.seq (.ret (.c (.bl false))) .skip) .skip) (.seq (.loop .seq (.cons (.v 0) .nil) (.one 1) b82l0) (.seq (.ret (.c (.bl true))) .skip)))
theorem t82 : tabT frs glb 40 82 = some ⟨1, 2, b82⟩ := by rfl
def b83 : Sm := (.seq (.setf (.v 0) 37 (.blt .list (.cons (.v 1) .nil))) (.seq (.setf (.v 0) 38 (.blt .list (.cons (.v 1) .nil))) (.seq (.setf (.v 0) 39 (.lst .nil)) (.seq (.setf (.v 0) 40 .dnew) .skip))))
theorem t83 : tabT frs glb 40 83 = some ⟨2, 2, b83⟩ := by rfl
def b84l0 : Sm := (.seq (.ite (.bin .ni (.v 4) (.v 3)) (.seq (.expr (.bm .append (.v 3) (.cons (.v 4) .nil))) .skip) .skip) .skip)
def b84 : Sm := (.seq (.asg (.one 3) (.blt .list (.cons (.fld (.v 0) 38) .nil))) (.seq (.loop .seq (.cons (.v 1) .nil) (.one 4) b84l0) (.seq (.ite (.or (.bin .gt (.blt .len (.cons (.v 3) .nil)) (.c (.int (20)))) (.bin .gt (.bin .add (.blt .len (.cons (.fld (.v 0) 39) .nil)) (.blt .len (.cons (.v 2) .nil))) (.c (.int (40))))) (.seq (.rais 9) .skip) .skip) (.seq (.setf (.v 0) 38 (.v 3)) (.seq (.setf (.v 0) 39 (.bin .add (.fld (.v 0) 39) (.v 2))) .skip)))))
theorem t84 : tabT frs glb 40 84 = some ⟨3, 5, b84⟩ := by rfl
def b85l0 : Sm := (.seq (.seti (.v 3) (.bin .ix (.fld (.v 0) 37) (.v 4)) (.bin .ix (.v 2) (.v 4))) .skip)
def b85l1 : Sm := (.seq (.ite (.bin .ni (.v 6) (.v 3)) (.seq (.seti (.v 3) (.v 6) (.bin .add (.bin .add (.v 1) (.c (.str "."))) (.v 6))) (.seq (.expr (.bm .append (.v 5) (.cons (.bin .ix (.v 3) (.v 6)) .nil))) .skip)) .skip) .skip)
def b85 : Sm := (.seq (.asg (.one 3) .dnew) (.seq (.loop .r1 (.cons (.blt .len (.cons (.fld (.v 0) 37) .nil)) .nil) (.one 4) b85l0) (.seq (.asg (.one 5) (.blt .list (.cons (.v 2) .nil))) (.seq (.loop .seq (.cons (.fld (.v 0) 38) .nil) (.one 6) b85l1) (.seq (.ret (.tup (.cons (.v 5) (.cons (.lc .seq (.cons (.fld (.v 0) 39) .nil) (.many [7, 8, 9, 10]) (.c (.bl true)) (.tup (.cons (.v 7) (.cons (.bin .ix (.v 3) (.v 8)) (.cons (.bin .ix (.v 3) (.v 9)) (.cons (.v 10) .nil))))) [7, 8, 9, 10]) .nil)))) .skip)))))
theorem t85 : tabT frs glb 40 85 = some ⟨3, 11, b85⟩ := by rfl
def b86 : Sm := (.seq (.asg (.one 2) (.blt .len (.cons (.v 0) .nil))) (.seq (.asg (.one 3) (.and (.bin .in_ (.bin .ix (.v 0) (.c (.int (0)))) (.tup (.cons (.c (.str "piece")) (.cons (.c (.str "push")) (.cons (.c (.str "hold")) .nil))))) (.bin .eq (.v 2) (.c (.int (4)))))) (.seq (.ite (.bin .eq (.bin .ix (.v 0) (.c (.int (0)))) (.c (.str "part"))) (.seq (.asg (.one 3) (.and (.bin .gt (.v 2) (.c (.int (2)))) (.not (.v 1)))) .skip) .skip) (.seq (.ite (.bin .eq (.bin .ix (.v 0) (.c (.int (0)))) (.c (.str "done"))) (.seq (.asg (.one 3) (.and (.bin .eq (.v 2) (.c (.int (1)))) (.v 1))) .skip) .skip) (.seq (.ite (.bin .eq (.bin .ix (.v 0) (.c (.int (0)))) (.c (.str "put"))) (.seq (.asg (.one 3) (.bin .gt (.v 2) (.c (.int (3))))) .skip) .skip) (.seq (.ite (.not (.v 3)) (.seq (.rais 4) .skip) .skip) .skip))))))
theorem t86 : tabT frs glb 40 86 = some ⟨2, 4, b86⟩ := by rfl
def b87 : Sm := (.seq (.setf (.v 0) 41 (.make 22 83 (.cons (.lst .nil) .nil))) (.seq (.setf (.v 0) 42 .dnew) (.seq (.setf (.v 0) 43 (.c (.str ""))) (.seq (.setf (.v 0) 44 (.c .non)) .skip))))
theorem t87 : tabT frs glb 40 87 = some ⟨1, 1, b87⟩ := by rfl
def b88 : Sm := (.seq (.ite (.bin .is_ (.fld (.v 0) 44) (.c .non)) (.seq (.ret (.fld (.v 0) 41)) .skip) .skip) (.seq (.ret (.fld (.v 0) 44)) .skip))
theorem t88 : tabT frs glb 40 88 = some ⟨1, 1, b88⟩ := by rfl
def b89 : Sm := (.seq (.ite (.not (.isi (.v 1) (.b 3))) (.seq (.rais 4) .skip) .skip) (.seq (.asg (.one 2) (.bm .split (.v 1) (.cons (.c (.str " ")) .nil))) (.seq (.expr (.call 86 (.cons (.v 2) (.cons (.bin .isnt (.fld (.v 0) 44) (.c .non)) .nil)))) (.seq (.ite (.bin .eq (.bin .ix (.v 2) (.c (.int (0)))) (.c (.str "part"))) (.seq (.expr (.meth 77 (.v 0) (.cons (.bin .ix (.v 2) (.c (.int (1)))) (.cons (.sl (.v 2) (.cons (.c (.int (2))) .nil) .nil) .nil)))) .skip) (.seq (.ite (.bin .eq (.bin .ix (.v 2) (.c (.int (0)))) (.c (.str "done"))) (.seq (.seti (.fld (.v 0) 42) (.fld (.v 0) 43) (.fld (.v 0) 44)) (.seq (.setf (.v 0) 44 (.c .non)) .skip)) (.seq (.ite (.bin .eq (.bin .ix (.v 2) (.c (.int (0)))) (.c (.str "put"))) (.seq (.expr (.meth 78 (.v 0) (.cons (.bin .ix (.v 2) (.c (.int (1)))) (.cons (.bin .ix (.v 2) (.c (.int (2)))) (.cons (.sl (.v 2) (.cons (.c (.int (3))) .nil) .nil) .nil))))) .skip) (.seq (.expr (.meth 79 (.v 0) (.cons (.v 2) .nil))) .skip)) .skip)) .skip)) .skip))))
theorem t89 : tabT frs glb 40 89 = some ⟨2, 3, b89⟩ := by rfl
def b90l0 : Sm := (.seq (.ite (.not (.call 82 (.cons (.v 3) .nil))) (.seq (.rais 6) .skip) .skip) .skip)
def b90 : Sm := (.seq (.loop .seq (.cons (.bin .add (.lst (.cons (.v 1) .nil)) (.v 2)) .nil) (.one 3) b90l0) (.seq (.ite (.or (.bin .in_ (.v 1) (.fld (.v 0) 42)) (.bin .lt (.blt .len (.cons .bad .nil)) (.blt .len (.cons (.v 2) .nil)))) (.seq (.rais 6) .skip) .skip) (.seq (.ite (.or (.bin .gt (.blt .len (.cons (.v 2) .nil)) (.c (.int (20)))) (.bin .ge (.blt .len (.cons (.fld (.v 0) 42) .nil)) (.c (.int (20))))) (.seq (.rais 9) .skip) .skip) (.seq (.setf (.v 0) 43 (.v 1)) (.seq (.setf (.v 0) 44 (.make 22 83 (.cons (.v 2) .nil))) .skip)))))
theorem t90 : tabT frs glb 40 90 = some ⟨3, 4, b90⟩ := by rfl
def b91l0 : Sm := (.seq (.ite (.not (.call 82 (.cons (.v 4) .nil))) (.seq (.rais 6) .skip) .skip) .skip)
def b91 : Sm := (.seq (.loop .seq (.cons (.bin .add (.lst (.cons (.v 1) (.cons (.v 2) .nil))) (.v 3)) .nil) (.one 4) b91l0) (.seq (.ite (.or (.bin .in_ (.v 1) (.fld (.meth 75 (.v 0) .nil) 40)) (.bin .ni (.v 2) (.fld (.v 0) 42))) (.seq (.rais 6) .skip) .skip) (.seq (.asg (.one 5) (.bin .ix (.fld (.v 0) 42) (.v 2))) (.seq (.ite (.bin .ne (.blt .len (.cons (.fld (.v 5) 37) .nil)) (.blt .len (.cons (.v 3) .nil))) (.seq (.rais 6) .skip) .skip) (.seq (.asg (.many [6, 7]) (.meth 74 (.v 5) (.cons (.v 1) (.cons (.v 3) .nil)))) (.seq (.expr (.meth 73 (.meth 75 (.v 0) .nil) (.cons (.v 6) (.cons (.v 7) .nil)))) (.seq (.seti (.fld (.meth 75 (.v 0) .nil) 40) (.v 1) (.c (.bl true))) .skip)))))))
theorem t91 : tabT frs glb 40 91 = some ⟨4, 8, b91⟩ := by rfl
def b92 : Sm := (.seq (.asg (.many [2, 3, 4, 5]) (.v 1)) (.seq (.ite (.or (.not (.call 82 (.cons (.v 3) .nil))) (.not (.call 82 (.cons (.v 4) .nil)))) (.seq (.rais 6) .skip) .skip) (.seq (.asg (.one 6) (.call 16 (.cons (.v 5) .nil))) (.seq (.ite (.not (.call 32 (.cons (.v 2) (.cons (.v 6) .nil)))) (.seq (.rais 3) .skip) .skip) (.seq (.expr (.meth 73 (.meth 75 (.v 0) .nil) (.cons (.lst (.cons (.v 3) (.cons (.v 4) .nil))) (.cons (.lst (.cons (.tup (.cons (.v 2) (.cons (.v 3) (.cons (.v 4) (.cons (.v 6) .nil))))) .nil)) .nil)))) .skip)))))
theorem t92 : tabT frs glb 40 92 = some ⟨2, 7, b92⟩ := by rfl
def b93 : Sm := (.seq (.ret (.blt .list (.cons (.fld (.fld (.v 0) 41) 38) .nil))) .skip)
theorem t93 : tabT frs glb 40 93 = some ⟨1, 1, b93⟩ := by rfl
def b94 : Sm := (.seq (.ret (.blt .len (.cons (.fld (.fld (.v 0) 41) 39) .nil))) .skip)
theorem t94 : tabT frs glb 40 94 = some ⟨1, 1, b94⟩ := by rfl
def b95l0 : Sm := (.seq (.seti (.v 2) (.bin .ix (.fld (.fld (.v 0) 41) 38) (.v 3)) (.v 3)) .skip)
def b95l1 : Sm := (.seq (.expr (.meth 59 (.v 1) (.cons (.meth 54 (.call 31 (.cons (.v 4) .nil)) (.cons (.v 2) .nil)) .nil))) .skip)
def b95 : Sm := (.seq (.asg (.one 1) (.make 18 33 (.cons (.blt .len (.cons (.fld (.fld (.v 0) 41) 38) .nil)) .nil))) (.seq (.asg (.one 2) .dnew) (.seq (.loop .r1 (.cons (.blt .len (.cons (.fld (.fld (.v 0) 41) 38) .nil)) .nil) (.one 3) b95l0) (.seq (.loop .seq (.cons (.fld (.fld (.v 0) 41) 39) .nil) (.one 4) b95l1) (.seq (.ret (.v 1)) .skip)))))
theorem t95 : tabT frs glb 40 95 = some ⟨1, 5, b95⟩ := by rfl
def b1001 : Sm := (.seq (.ret (.bin .ix (.bin .add (.sl (.v 0) (.cons (.v 1) .nil) (.cons (.bin .add (.v 1) (.c (.int (1)))) .nil)) (.lst (.cons (.c (.int (0))) .nil))) (.c (.int (0))))) .skip)
theorem t1001 : tabT frs glb 40 1001 = some ⟨2, 2, b1001⟩ := by rfl
def b1002 : Sm := (.seq (.ite (.bin .ge (.v 0) (.bin .pow (.c (.int (10))) (.c (.int (18))))) (.seq (.asg (.one 4) (.bin .shr (.v 0) (.bin .add (.c (.int (1))) (.bin .mul (.c (.int (24))) (.bin .mod (.v 1) (.c (.int (274)))))))) (.seq (.ite (.bin .gt (.v 4) (.c (.int (0)))) (.seq (.ret (.bin .mod (.v 4) (.v 2))) .skip) .skip) .skip)) .skip) (.seq (.asg (.one 3) (.bin .mod (.bin .mul (.bin .add (.bin .mod (.v 0) (.c (.int (1000003)))) (.c (.int (1)))) (.v 1)) (.c (.int (999983))))) (.seq (.ret (.bin .mod (.bin .mod (.bin .mul (.v 3) (.bin .add (.v 3) (.v 1))) (.c (.int (1000033)))) (.v 2))) .skip)))
theorem t1002 : tabT frs glb 40 1002 = some ⟨3, 5, b1002⟩ := by rfl
def b1003l0 : Sm := (.seq (.asg (.one 2) (.bin .add (.v 2) (.bin .ix (.c (.str "abcdefghijklmnopqrstuvwxyz")) (.bin .mod (.v 1) (.c (.int (26))))))) (.seq (.asg (.one 1) (.bin .add (.bin .div (.v 1) (.c (.int (26)))) (.bin .mul (.c (.int (7))) (.v 3)))) .skip))
def b1003 : Sm := (.seq (.asg (.one 1) (.bin .mod (.v 0) (.bin .pow (.c (.int (10))) (.c (.int (18)))))) (.seq (.asg (.one 2) (.c (.str ""))) (.seq (.loop .r1 (.cons (.call 1002 (.cons (.v 0) (.cons (.c (.int (48271))) (.cons (.c (.int (12))) .nil)))) .nil) (.one 3) b1003l0) (.seq (.ite (.bin .lt (.call 1002 (.cons (.v 0) (.cons (.c (.int (69621))) (.cons (.c (.int (5))) .nil)))) (.c (.int (2)))) (.seq (.asg (.one 4) (.call 1002 (.cons (.v 0) (.cons (.c (.int (16807))) (.cons (.bin .add (.blt .len (.cons (.v 2) .nil)) (.c (.int (1)))) .nil))))) (.seq (.asg (.one 5) (.c (.str "ABCDEFGHIJKLMNOPQRSTUVWXYZ0123456789 !\"#$&'()*+,-./:;<=>?\x40[\\]^_`{|}~\n\t"))) (.seq (.asg (.one 2) (.bin .add (.bin .add (.sl (.v 2) .nil (.cons (.v 4) .nil)) (.bin .ix (.v 5) (.call 1002 (.cons (.v 0) (.cons (.c (.int (40692))) (.cons (.blt .len (.cons (.v 5) .nil)) .nil)))))) (.sl (.v 2) (.cons (.v 4) .nil) .nil))) .skip))) .skip) (.seq (.ret (.v 2)) .skip)))))
theorem t1003 : tabT frs glb 40 1003 = some ⟨1, 6, b1003⟩ := by rfl
def b1004l0 : Sm := (.seq (.ite (.bin .ni (.v 1) (.c (.str "abcdefghijklmnopqrstuvwxyz"))) (.seq (.ret (.c (.bl false))) .skip) .skip) .skip)
def b1004 : Sm := (.seq (.loop .seq (.cons (.v 0) .nil) (.one 1) b1004l0) (.seq (.ret (.chain .lt .lt (.c (.int (0))) (.blt .len (.cons (.v 0) .nil)) (.c (.int (9))))) .skip))
theorem t1004 : tabT frs glb 40 1004 = some ⟨1, 2, b1004⟩ := by rfl
def b1005 : Sm := (.seq (.asg (.one 2) (.make 23 87 .nil)) (.seq (.asg (.one 3) (.bin .ix (.lst (.cons (.c (.str "kuw")) (.cons (.c (.str "kux")) .nil))) (.bin .mod (.v 1) (.c (.int (2)))))) (.seq (.asg (.one 4) (.c (.bl false))) (.seq (.tryset (.seq (.expr (.meth 76 (.v 2) (.cons (.bin .add (.bin .add (.bin .add (.bin .add (.c (.str "hold ")) (.v 0)) (.c (.str " "))) (.v 3)) (.c (.str " 0"))) .nil))) .skip) 6 4 true) (.seq (.ite (.v 4) (.seq (.ret (.and (.bin .eq (.meth 80 (.v 2) .nil) (.lst .nil)) (.not (.call 1004 (.cons (.v 0) .nil))))) .skip) .skip) (.seq (.ret (.and (.call 1004 (.cons (.v 0) .nil)) (.bin .eq (.bin .ix (.meth 80 (.v 2) .nil) (.c (.int (0)))) (.v 0)))) .skip))))))
theorem t1005 : tabT frs glb 40 1005 = some ⟨2, 5, b1005⟩ := by rfl
def b1006l0 : Sm := (.seq (.asg (.one 3) (.call 1001 (.cons (.v 0) (.cons (.v 1) .nil)))) (.seq (.asg (.one 4) (.call 1003 (.cons (.v 3) .nil))) (.seq (.asg (.one 5) (.call 82 (.cons (.v 4) .nil))) (.seq (.ite (.or (.not (.isi (.v 5) (.b 1))) (.bin .ne (.v 5) (.call 1004 (.cons (.v 4) .nil)))) (.seq (.ret (.c (.bl false))) .skip) .skip) (.seq (.ite (.and (.bin .ni (.c (.str " ")) (.v 4)) (.not (.call 1005 (.cons (.v 4) (.cons (.v 3) .nil))))) (.seq (.ret (.c (.bl false))) .skip) .skip) .skip)))))
def b1006l1 : Sm := (.seq (.ite (.bin .isnt (.call 82 (.cons (.v 2) .nil)) (.c (.bl false))) (.seq (.ret (.c (.bl false))) .skip) .skip) .skip)
def b1006 : Sm := (.seq (.loop .r1 (.cons (.blt .max (.cons (.c (.int (1))) (.cons (.blt .min (.cons (.blt .len (.cons (.v 0) .nil)) (.cons (.c (.int (40))) .nil))) .nil))) .nil) (.one 1) b1006l0) (.seq (.loop .seq (.cons (.lst (.cons (.c .non) (.cons (.c (.int (3))) (.cons (.c (.bl true)) (.cons (.lst (.cons (.c (.str "a")) .nil)) (.cons (.tup (.cons (.c (.str "a")) .nil)) (.cons (.dict1 (.c (.str "a")) (.c (.int (1)))) .nil))))))) .nil) (.one 2) b1006l1) (.seq (.ret (.c (.bl true))) .skip)))
theorem t1006 : tabT frs glb 40 1006 = some ⟨1, 6, b1006⟩ := by rfl
end Mi

namespace Mi
open PySem PySem.Spec L2
theorem whole_int (n : Nat) (i : Int) (h : Hs) : run (n + 1) 4 [.int i] h = .ok (.bl true) h := by
  rw [run_at t4, run_np (by rfl) (by decide)]
  simp [b4, ex, ev, sSeq, sRet, mAnd, mNot, mIsi, mVar, gIsi, tyOf, is_all, Out.seq, SO.fin]
/-! ### names -/
def letters : Str := "abcdefghijklmnopqrstuvwxyz"
def isLow (c : Nat) : Bool := decide (c ∈ letters.cps.toList)
def isName (s : Str) : Bool := !(s == ("" : Str)) && decide (s.length ≤ 8) && s.cps.toList.all isLow
def lowV : Vl → Bool
  | .str s => hasSub s letters
  | _ => false
theorem chars_low (s : Str) : (chars s).all lowV = s.cps.toList.all isLow := by
  unfold chars
  rw [List.all_map]
  refine congrArg (fun p => s.cps.toList.all p) (funext fun c => ?_)
  exact has_one letters c
theorem eq_str (a b : Str) (h : Hs) : gEq (.str a) (.str b) h = .ok (.bl (a == b)) h := by
  simp [gEq, toD, PyData.eqv]
theorem low_body (n : Nat) (x : Vl) (env : Ev) (h : Hs) (hx : ∃ s, x = .str s) (hl : env.length = 2) : ex tbs.pr (run n) b82l0 (env.set 1 (some x)) h = if lowV x = true then .nx (env.set 1 (some x)) h else .rt (.bl false) h := by
  obtain ⟨s, rfl⟩ := hx
  have g : (env.set 1 (some (.str s)))[1]? = some (some (.str s)) := List.getElem?_set_self (by omega)
  simp only [b82l0, ex, ev, sSeq, sIf, mTest, mBin, mVar, mC, g, Out.bind_ok, g2, gNiD, isDic, gNi, gInG, Bool.false_eq_true, if_false, if_true, Out.seq_ok, sRet, sNil, lowV, letters]
  rcases Bool.eq_false_or_eq_true (hasSub s (Str.ofString "abcdefghijklmnopqrstuvwxyz")) with e | e <;> simp [e]
theorem name_str (n : Nat) (s : Str) (h : Hs) (hl : s.length ≤ 1000000) : run (n + 1) 82 [.str s] h = .ok (.bl (isName s)) h := by
  rw [run_at t82, run_np (by rfl) (by decide)]
  have lp := forF_all (i := 1) (L := 2) (v := .bl false) (P := fun x => ∃ s, x = .str s) (fun x env hx hl => low_body n x env h hx hl) (chars s) [some (.str s), none] (by
    intro x hx
    unfold chars at hx
    obtain ⟨c, _, rfl⟩ := List.mem_map.mp hx
    exact ⟨_, rfl⟩) rfl
  rw [chars_low] at lp
  unfold isName
  rcases Bool.eq_false_or_eq_true (s == ("" : Str)) with e1 | e1
  · simp [b82, ex, ev, evs, sSeq, sIf, sRet, mTest, mNot, mOr, mIsi, mBin, mVar, mC, gIsi, tyOf, is_all, g2, eq_str, e1, Out.seq, SO.fin]
  · by_cases h8 : s.length ≤ 8
    · have e2 : decide (8 < (s.length : Int)) = false := by simp; omega
      rcases Bool.eq_false_or_eq_true (s.cps.toList.all isLow) with e3 | e3
      · obtain ⟨e, z, _⟩ := lp.1 e3
        simp [b82, ex, ev, evs, evi, sSeq, sIf, sRet, sNil, sFor, mTest, mNot, mOr, mIsi, mBin, mVar, mC, mCall, mCons, mNil, mIter, gIter, gIsi, tyOf, is_all, g2, gB, gLen, gGt, mk2, eq_str, hl, for_fix, Out.seq, SO.fin, List.replicate, e1, e2, e3, z, h8]
      · have z := lp.2 e3
        simp [b82, ex, ev, evs, evi, sSeq, sIf, sRet, sNil, sFor, mTest, mNot, mOr, mIsi, mBin, mVar, mC, mCall, mCons, mNil, mIter, gIter, gIsi, tyOf, is_all, g2, gB, gLen, gGt, mk2, eq_str, hl, for_fix, Out.seq, SO.fin, List.replicate, e1, e2, e3, z, h8]
    · have e2 : decide (8 < (s.length : Int)) = true := by simp; omega
      simp [b82, ex, ev, evs, evi, sSeq, sIf, sRet, sNil, mTest, mNot, mOr, mIsi, mBin, mVar, mC, mCall, mCons, mNil, gIsi, tyOf, is_all, g2, gB, gLen, gGt, mk2, eq_str, hl, Out.seq, SO.fin, e1, e2, h8]
theorem len_zero (s : Str) : (s == ("" : Str)) = decide (s.length = 0) := by
  rcases s with ⟨⟨l⟩⟩
  cases l with
  | nil => rfl
  | cons a l =>
    have : ((⟨⟨a :: l⟩⟩ : Str) == ("" : Str)) = false := by
      refine beq_false_of_ne fun z => ?_
      have := congrArg (fun s : Str => s.cps.toList.length) z
      exact absurd this (by show (a :: l).length ≠ 0; simp)
    rw [this]
    symm
    exact decide_eq_false (by show ¬ (a :: l).length = 0; simp)
theorem good_str (n : Nat) (s : Str) (h : Hs) (hl : s.length ≤ 1000000) : run (n + 1) 1004 [.str s] h = .ok (.bl (isName s)) h := by
  rw [run_at t1004, run_np (by rfl) (by decide)]
  have lp := forF_all (i := 1) (L := 2) (v := .bl false) (P := fun x => ∃ s, x = .str s) (fun x env hx hl => low_body n x env h hx hl) (chars s) [some (.str s), none] (by
    intro x hx
    unfold chars at hx
    obtain ⟨c, _, rfl⟩ := List.mem_map.mp hx
    exact ⟨_, rfl⟩) rfl
  rw [chars_low] at lp
  rw [show b82l0 = b1004l0 from rfl] at lp
  unfold isName
  rw [len_zero]
  rcases Bool.eq_false_or_eq_true (s.cps.toList.all isLow) with e3 | e3
  · obtain ⟨e, z, ze⟩ := lp.1 e3
    have e0 : e[0]? = some (some (.str s)) := by
      rcases ze with rfl | ⟨x, rfl⟩ <;> rfl
    by_cases h0 : s.length = 0
    · simp [b1004, ex, ev, evs, evi, sSeq, sRet, sNil, sFor, mBin, mVar, mC, mCall, mCons, mNil, mIter, gIter, g2, gB, gLen, gLt, mk2, mChain, hl, for_fix, Out.seq, SO.fin, List.replicate, e3, z, e0, h0]
    · by_cases h8 : s.length ≤ 8
      · have e4 : 0 < s.length := by omega
        have e5 : (s.length : Int) < 9 := by omega
        simp [b1004, ex, ev, evs, evi, sSeq, sRet, sNil, sFor, mBin, mVar, mC, mCall, mCons, mNil, mIter, gIter, g2, gB, gLen, gLt, mk2, mChain, hl, for_fix, Out.seq, SO.fin, List.replicate, e3, z, e0, h0, h8, e4, e5]
      · have e4 : 0 < s.length := by omega
        have e5 : ¬ (s.length : Int) < 9 := by omega
        simp [b1004, ex, ev, evs, evi, sSeq, sRet, sNil, sFor, mBin, mVar, mC, mCall, mCons, mNil, mIter, gIter, g2, gB, gLen, gLt, mk2, mChain, hl, for_fix, Out.seq, SO.fin, List.replicate, e3, z, e0, h0, h8, e4, e5]
  · have z := lp.2 e3
    simp [b1004, ex, ev, evs, evi, sSeq, sRet, sNil, sFor, mVar, mC, mIter, gIter, for_fix, Out.seq, SO.fin, List.replicate, e3, z]
theorem mix_int (n : Nat) (c p m : Int) (h : Hs) (hp : 0 ≤ p) (hp2 : p < 2 ^ 40) (hm : 0 < m) : ∃ r : Int, run (n + 1) 1002 [.int c, .int p, .int m] h = .ok (.int r) h ∧ 0 ≤ r ∧ r < m := by
  rw [run_at t1002, run_np (by rfl) (by decide)]
  have m0 : ¬ m = 0 := by omega
  have a1 := Int.fmod_nonneg_of_pos c (b := 1000003) (by decide)
  have a2 := Int.fmod_lt_of_pos c (b := 1000003) (by decide)
  have f1 : mulFits (c.fmod 1000003 + 1) p = true := fits_small (by omega) (by omega)
  have a3 := Int.fmod_nonneg_of_pos ((c.fmod 1000003 + 1) * p) (b := 999983) (by decide)
  have a4 := Int.fmod_lt_of_pos ((c.fmod 1000003 + 1) * p) (b := 999983) (by decide)
  have f2 : mulFits (((c.fmod 1000003 + 1) * p).fmod 999983) (((c.fmod 1000003 + 1) * p).fmod 999983 + p) = true := fits_small a3 (by omega)
  have a5 := Int.fmod_nonneg_of_pos p (b := 274) (by decide)
  have f3 : ∀ x, mulFits 24 x = true := fun x => fits_small (by decide) (by decide)
  have s0 : 0 ≤ 1 + 24 * p.fmod 274 := by omega
  by_cases hc : 1000000000000000000 ≤ c
  · by_cases hr : 0 < c / 2 ^ (1 + 24 * p.fmod 274).toNat
    · refine ⟨_, ?_, Int.fmod_nonneg_of_pos (c / 2 ^ (1 + 24 * p.fmod 274).toNat) hm, Int.fmod_lt_of_pos _ hm⟩
      simp [b1002, ex, ev, evs, sSeq, sIf, sRet, sNil, sAsg, bindT, mTest, mBin, mVar, mC, g2, gGe, gGt, gPow, gShr, gAdd, gMul, gMod, mk2, Out.seq, SO.fin, List.replicate, hc, hr, f3, s0, m0]
    · refine ⟨_, ?_, Int.fmod_nonneg_of_pos ((((c.fmod 1000003 + 1) * p).fmod 999983 * (((c.fmod 1000003 + 1) * p).fmod 999983 + p)).fmod 1000033) hm, Int.fmod_lt_of_pos _ hm⟩
      simp [b1002, ex, ev, evs, sSeq, sIf, sRet, sNil, sAsg, bindT, mTest, mBin, mVar, mC, g2, gGe, gGt, gPow, gShr, gAdd, gMul, gMod, mk2, Out.seq, SO.fin, List.replicate, hc, hr, f1, f2, f3, s0, m0]
  · refine ⟨_, ?_, Int.fmod_nonneg_of_pos ((((c.fmod 1000003 + 1) * p).fmod 999983 * (((c.fmod 1000003 + 1) * p).fmod 999983 + p)).fmod 1000033) hm, Int.fmod_lt_of_pos _ hm⟩
    simp [b1002, ex, ev, evs, sSeq, sIf, sRet, sNil, sAsg, bindT, mTest, mBin, mVar, mC, g2, gGe, gPow, gAdd, gMul, gMod, mk2, Out.seq, SO.fin, List.replicate, hc, f1, f2, m0]
theorem text_int (n : Nat) (c : Int) (h : Hs) : ∃ s : Str, run (n + 2) 1003 [.int c] h = .ok (.str s) h ∧ s.length ≤ 100 := by
  rw [run_at t1003, run_np (by rfl) (by decide)]
  obtain ⟨r1, m1, p1, q1⟩ := mix_int n c 48271 12 h (by decide) (by decide) (by decide)
  have lp := forF_step (g := .one 3) (b := ex tbs.pr (run (n + 1)) b1003l0) (I := fun k e h' => h' = h ∧ ∃ (num : Int) (t : Str) (x : Option Vl), e = [some (.int c), some (.int num), some (.str t), x, none, none] ∧ t.length = k) (xs := rgI 0 r1.toNat) (k := 0) (by
    rintro j x hx env h' ⟨rfl, num, t, y, rfl, ht⟩
    have hj : j < r1.toNat := by
      have := (List.getElem?_eq_some_iff.mp hx).1
      simpa [rgI] using this
    have ex1 : x = .int (j : Int) := by
      unfold rgI at hx
      rw [List.getElem?_map] at hx
      obtain ⟨z, z1, z2⟩ := Option.map_eq_some_iff.mp hx
      obtain ⟨hl, z3⟩ := List.getElem?_eq_some_iff.mp z1
      have : z = j := by rw [← z3]; simp
      rw [← z2, this]; simp
    subst ex1
    refine ⟨_, rfl, ?_⟩
    obtain ⟨cc, hc⟩ := atL_some (xs := letters.cps.toList) (i := num.fmod 26) (Int.fmod_nonneg_of_pos _ (by decide)) (Int.fmod_lt_of_pos _ (by decide))
    have lim : Nat.log2 26 < 9000 := by decide
    have f7 : mulFits 7 (j : Int) = true := fits_small (by decide) (by decide)
    have tl : t.length + 1 ≤ 1000000 := by omega
    have cl : (⟨#[cc]⟩ : Str).length = 1 := rfl
    have ll : letters.length ≤ 1000000 := by decide
    refine ⟨[some (.int c), some (.int (num.fdiv 26 + 7 * j)), some (.str (t ++ ⟨#[cc]⟩)), some (.int j), none, none], h', ?_, rfl, _, _, _, rfl, ?_⟩
    · simp only [letters] at hc ll
      simp [b1003l0, ex, ev, sSeq, sAsg, sNil, bindT, mBin, mVar, mC, g2, gAdd, gIxD, isDic, gIx, gMod, gDiv, gMul, Out.seq, hc, ll, cl, tl, lim, f7]
    · rw [Str.length_append, cl]; omega) [some (.int c), some (.int (c.fmod 1000000000000000000)), some (.str ""), none, none, none] h ⟨rfl, _, _, _, rfl, rfl⟩
  obtain ⟨e, h', z, rfl, num, t, x, rfl, ht⟩ := lp
  have ht2 : t.length ≤ 11 := by
    rw [ht]
    simp [rgI]; omega
  obtain ⟨r2, m2, p2, q2⟩ := mix_int n c 69621 5 h' (by decide) (by decide) (by decide)
  have in1 : inRg r1 = true := by unfold inRg; simp; omega
  have tl : t.length ≤ 1000000 := by omega
  by_cases hr : r2 < 2
  · obtain ⟨r3, m3, p3, q3⟩ := mix_int n c 16807 ((t.length : Int) + 1) h' (by decide) (by decide) (by omega)
    have sl : 0 < ((Str.ofString "ABCDEFGHIJKLMNOPQRSTUVWXYZ0123456789 !\"#$&'()*+,-./:;<=>?\x40[\\]^_`{|}~\n\t").length : Int) := by decide
    have sl2 : (Str.ofString "ABCDEFGHIJKLMNOPQRSTUVWXYZ0123456789 !\"#$&'()*+,-./:;<=>?\x40[\\]^_`{|}~\n\t").length ≤ 1000000 := by decide
    obtain ⟨r4, m4, p4, q4⟩ := mix_int n c 40692 ((Str.ofString "ABCDEFGHIJKLMNOPQRSTUVWXYZ0123456789 !\"#$&'()*+,-./:;<=>?\x40[\\]^_`{|}~\n\t").length : Int) h' (by decide) (by decide) sl
    obtain ⟨cc, hc⟩ := atL_some (xs := (Str.ofString "ABCDEFGHIJKLMNOPQRSTUVWXYZ0123456789 !\"#$&'()*+,-./:;<=>?\x40[\\]^_`{|}~\n\t").cps.toList) (i := r4) p4 (by
      have : ((Str.ofString "ABCDEFGHIJKLMNOPQRSTUVWXYZ0123456789 !\"#$&'()*+,-./:;<=>?\x40[\\]^_`{|}~\n\t").cps.toList.length : Int) = ((Str.ofString "ABCDEFGHIJKLMNOPQRSTUVWXYZ0123456789 !\"#$&'()*+,-./:;<=>?\x40[\\]^_`{|}~\n\t").length : Int) := by rfl
      rw [this]; exact q4)
    have l1 := L2.cutS_length t none (some r3)
    have l2 := L2.cutS_length t (some r3) none
    have cl : (⟨#[cc]⟩ : Str).length = 1 := rfl
    have b1 : (cutS t none (some r3)).length + 1 ≤ 1000000 := by omega
    have b2 : (cutS t none (some r3) ++ (⟨#[cc]⟩ : Str)).length + (cutS t (some r3) none).length ≤ 1000000 := by rw [Str.length_append, cl]; omega
    refine ⟨cutS t none (some r3) ++ ⟨#[cc]⟩ ++ cutS t (some r3) none, ?_, by rw [Str.length_append, Str.length_append, cl]; omega⟩
    simp [b1003, ex, ev, evs, evi, evo, sSeq, sRet, sNil, sFor, sAsg, sIf, mTest, bindT, mBin, mVar, mC, mCallF, mCons, mNil, mRng1, gRng1, mSl, gSl, mPart, mNoPart, mCall, gB, gLen, g2, gMod, gPow, gLt, gAdd, gIxD, isDic, gIx, mk2, for_fix, Out.seq, SO.fin, List.replicate, m1, in1, z, m2, hr, m3, m4, tl, sl2, hc, cl, b1, b2]
  · refine ⟨t, ?_, by omega⟩
    simp [b1003, ex, ev, evs, evi, sSeq, sRet, sNil, sFor, sAsg, sIf, mTest, bindT, mBin, mVar, mC, mCallF, mCons, mNil, mRng1, gRng1, g2, gMod, gPow, gLt, mk2, for_fix, Out.seq, SO.fin, List.replicate, m1, in1, z, m2, hr]
end Mi

namespace Mi
open PySem PySem.Spec L2
theorem div01 (n : Nat) (h : Hs) : run (n + 1) 5 [.int 0, .int 1] h = .ok (.int 1) h := by
  rw [run_at t5, run_np (by rfl) (by decide)]
  have w : whN (mTest (ev tbs.pr (run n) (.bin .ne (.v 1) (.c (.int 0))))) (ex tbs.pr (run n) b5l0) 2 [some (.int 0), some (.int 1)] h = .nx [some (.int 1), some (.int 0)] h := by
    simp [whN, b5l0, ex, ev, evs, sSeq, sPar, sNil, mTest, mBin, mVar, mC, mCons, mNil, g2, gNe, toD, PyData.eqv, gMod, Out.seq]
  have w2 := sWhile_of (k := 2) (q := by rw [w]; simp)
  rw [w] at w2
  simp only [ev] at w2
  simp [b5, bigN, ex, ev, evs, sSeq, sAsg, sRet, sNil, bindT, mVar, mC, mCall, mCons, mNil, gB, gAbs, Out.seq, SO.fin, List.replicate, w2]
theorem whole0 (n : Nat) (h : Hs) : run (n + 1) 15 [.str "0"] h = .ok (.int 0) h := by
  rw [run_at t15, run_np (by rfl) (by decide)]
  have c0 : chars "0" = [.str "0"] := rfl
  have i0 : intText? ("0" : Str) = some 0 := by decide +kernel
  have e0 : (("0" : Str) == ("" : Str)) = false := by decide +kernel
  have l0 : ("0" : Str).length = 1 := rfl
  have a0 : atL ("0" : Str).cps.toList 0 = some 48 := by decide +kernel
  have z0 : ((⟨#[48]⟩ : Str) == ("0" : Str)) = true := by decide +kernel
  have s0 : hasSub ("0" : Str) ("0123456789" : Str) = true := by decide +kernel
  have lp : forF (.one 1) (ex tbs.pr (run n) b15l0) [.str "0"] [some (.str "0"), none] h = .nx [some (.str "0"), some (.str "0")] h := by
    simp [forF, bindT, b15l0, ex, ev, sSeq, sIf, sRet, sNil, mTest, mBin, mVar, mC, g2, gNiD, isDic, gNi, gInG, Out.seq, s0]
  simp [b15, bigN, ex, ev, evs, evi, sSeq, sIf, sRet, sNil, sFor, mTest, mOr, mAnd, mBin, mVar, mC, mCall, mCons, mNil, mIter, gIter, gB, gLen, gInt, g2, eq_str, gGt, gIxD, isDic, gIx, mk2, for_fix, Out.seq, SO.fin, List.replicate, c0, i0, e0, l0, a0, z0, lp]
theorem read0 (n : Nat) (h : Hs) : run (n + 2) 16 [.str "0"] h = .ok (.tup [.int 0, .int 1]) h := by
  rw [run_at t16, run_np (by rfl) (by decide)]
  have p0 : Txt.partition ("0" : Str) ("/" : Str) = (("0" : Str), ("" : Str), ("" : Str)) := by decide +kernel
  have c1 : cutS ("0" : Str) none (some 1) = "0" := by decide +kernel
  have e1 : (("0" : Str) == ("-" : Str)) = false := by decide +kernel
  have e2 : (("" : Str) == ("" : Str)) = true := by decide +kernel
  have l0 : ("0" : Str).length = 1 := rfl
  have l1 : ("/" : Str).length = 1 := rfl
  simp [b16, bigN, ex, ev, evs, evo, sSeq, sIf, sRet, sNil, sAsg, bindT, setsE, mTest, mOr, mAnd, mNot, mIsi, gIsi, tyOf, is_all, mBin, mVar, mC, mCallF, mCons, mNil, mMeth, mSl, gSl, mPart, mNoPart, mTup, tyM, isStr, gM, gPartition, g2, eq_str, gNe, gIs, isNon, toD, PyData.eqv, Out.seq, SO.fin, List.replicate, p0, c1, e1, e2, l0, l1, whole0, div01]
theorem frac01 (n : Nat) (h : Hs) : run (n + 2) 6 [.tup [.int 0, .int 1]] h = .ok (.bl true) h := by
  rw [run_at t6, run_np (by rfl) (by decide)]
  simp [b6, bigN, ex, ev, evs, sSeq, sIf, sRet, sNil, mTest, mOr, mNot, mIsi, gIsi, tyOf, is_all, mBin, mVar, mC, mCall, mCallF, mCons, mNil, gB, gLen, g2, gNe, gEq, gLt, gIxD, isDic, gIx, atL, mk2, toD, PyData.eqv, Out.seq, SO.fin, whole_int, div01]
theorem fits01 (n : Nat) (h : Hs) : run (n + 3) 32 [.str "hold", .tup [.int 0, .int 1]] h = .ok (.bl true) h := by
  rw [run_at t32, run_np (by rfl) (by decide)]
  have e1 : (("hold" : Str) == ("piece" : Str)) = false := by decide +kernel
  simp [b32, bigN, ex, ev, evs, sSeq, sRet, sNil, mOr, mAnd, mBin, mVar, mC, mCallF, mCons, mNil, g2, gNe, toD, PyData.eqv, Out.seq, SO.fin, frac01, e1]
end Mi

namespace Mi
open PySem PySem.Spec L2
theorem rel_get {h L : Hs} {i : Nat} : (h ++ L)[h.length + i]? = L[i]? := by rw [List.getElem?_append_right (by omega), Nat.add_sub_cancel_left]
theorem rel_get0 {h L : Hs} : (h ++ L)[h.length]? = L[0]? := rel_get (i := 0)
theorem rel_set {h L : Hs} {i : Nat} {o : Ob} : (h ++ L).set (h.length + i) o = h ++ L.set i o := by rw [List.set_append_right _ _ (by omega), Nat.add_sub_cancel_left]
theorem rel_set0 {h L : Hs} {o : Ob} : (h ++ L).set h.length o = h ++ L.set 0 o := rel_set (i := 0)
def yard0 (k : Nat) : Hs := [.ins 23 [(41, .ref (k + 2)), (42, .ref (k + 7)), (43, .str ""), (44, .non)], .lst [], .ins 22 [(37, .ref (k + 3)), (38, .ref (k + 4)), (39, .ref (k + 5)), (40, .ref (k + 6))], .lst [], .lst [], .lst [], .dic [], .dic []]
theorem sheet_init (n : Nat) (h : Hs) (k : Nat) (hk : k = h.length) : run (n + 1) 83 [.ref (k + 2), .ref (k + 1)] (h ++ [.ins 23 [], .lst [], .ins 22 []]) = .ok .non (h ++ [.ins 23 [], .lst [], .ins 22 [(37, .ref (k + 3)), (38, .ref (k + 4)), (39, .ref (k + 5)), (40, .ref (k + 6))], .lst [], .lst [], .lst [], .dic []]) := by
  subst hk
  rw [run_at t83, run_np (by rfl) (by decide)]
  simp [b83, bigN, ex, ev, evs, sSeq, sNil, sFldM, mVar, mC, mCall, mCons, mNil, mLst, mDnew, gB, gList, getL, itemsOf, fl_all, setN, Out.seq, SO.fin, rel_get, rel_get0, rel_set, rel_set0]
theorem yard_init (n : Nat) (h : Hs) : run (n + 3) 87 [.ref h.length] (h ++ [.ins 23 []]) = .ok .non (h ++ yard0 h.length) := by
  rw [run_at t87, run_np (by rfl) (by decide)]
  have si := sheet_init (n + 1) h h.length rfl
  simp [b87, bigN, ex, ev, evs, sSeq, sNil, sFldM, mVar, mC, mMake, fin0, mCons, mNil, mLst, mDnew, fl_all, setN, Out.seq, SO.fin, rel_get, rel_get0, rel_set, rel_set0, si, yard0]
theorem split_row (s o : Str) (h1 : 32 ∉ s.cps.toList) (h2 : 32 ∉ o.cps.toList) : Txt.split ("hold " ++ s ++ " " ++ o ++ " 0") " " = [("hold" : Str), s, o, ("0" : Str)] := by
  have e : ("hold " : Str) ++ s ++ (" " : Str) ++ o ++ (" 0" : Str) = Txt.join " " [("hold" : Str), s, o, ("0" : Str)] := by
    rw [TL.join_eq]
    have a : ("hold " : Str) = ("hold" : Str) ++ (" " : Str) := by decide +kernel
    have b : (" 0" : Str) = (" " : Str) ++ ("0" : Str) := by decide +kernel
    rw [a, b]
    show _ = ("hold" : Str) ++ (" " : Str) ++ (s ++ (" " : Str) ++ (o ++ (" " : Str) ++ ("0" : Str)))
    simp only [Str.append_assoc]
  rw [e]
  refine TL.split_join (s := 32) (S := []) (by decide +kernel) (by decide +kernel) (by simp) ?_
  intro p hp
  simp only [List.mem_cons, List.not_mem_nil, or_false] at hp
  rcases hp with rfl | rfl | rfl | rfl
  · decide +kernel
  · exact h1
  · exact h2
  · decide +kernel
theorem counted4 (n : Nat) (hh : Hs) (w : Nat) (a b c : Vl) (hw : hh[w]? = some (.lst [.str "hold", a, b, c])) : run (n + 1) 86 [.ref w, .bl false] hh = .ok .non hh := by
  rw [run_at t86, run_np (by rfl) (by decide)]
  have e1 : (("piece" : Str) == ("hold" : Str)) = false := by decide +kernel
  have e2 : (("push" : Str) == ("hold" : Str)) = false := by decide +kernel
  have e3 : (("hold" : Str) == ("part" : Str)) = false := by decide +kernel
  have e4 : (("hold" : Str) == ("done" : Str)) = false := by decide +kernel
  have e5 : (("hold" : Str) == ("put" : Str)) = false := by decide +kernel
  have gl : getL hh w = some [.str "hold", a, b, c] := by unfold getL; rw [hw]; rfl
  simp [b86, bigN, ex, ev, evs, sSeq, sNil, sAsg, sIf, bindT, mTest, mAnd, mNot, mBin, mVar, mC, mCall, mCons, mNil, mTup, gB, gLen, g2, gIxD, gInD, isDic, gIx, atL, gIn, gInG, memF, flat, eqF, gEq, toD, PyData.eqv, Out.seq, SO.fin, List.replicate, hw, gl, e1, e2, e3, e4, e5]
def words4 (s o : Str) : Ob := .lst [.str "hold", .str s, .str o, .str "0"]
def two : Ob := .lst [.str "kuw", .str "kux"]
theorem tell_no (n : Nat) (h : Hs) (s o row : Str) (hrow : Txt.split row " " = [("hold" : Str), s, o, ("0" : Str)]) (rl : row.length ≤ 1000) (sl : s.length ≤ 1000) (ol : o.length ≤ 1000) (hs : isName s = false) :
    run (n + 8) 89 [.ref h.length, .str row] (h ++ (yard0 h.length ++ [two])) = .ex 6 [] (h ++ (yard0 h.length ++ [two, words4 s o])) := by
  rw [run_at t89, run_np (by rfl) (by decide)]
  have e3 : (("hold" : Str) == ("part" : Str)) = false := by decide +kernel
  have e4 : (("hold" : Str) == ("done" : Str)) = false := by decide +kernel
  have e5 : (("hold" : Str) == ("put" : Str)) = false := by decide +kernel
  have l1 : (" " : Str).length = 1 := rfl
  have r2 : row.length ≤ 999998 := by omega
  have cw := counted4 (n + 6) (h ++ (yard0 h.length ++ [two, words4 s o])) (h.length + 9) (.str s) (.str o) (.str "0") (by rw [rel_get]; rfl)
  have lay : run (n + 7) 92 [.ref h.length, .ref (h.length + 9)] (h ++ (yard0 h.length ++ [two, words4 s o])) = .ex 6 [] (h ++ (yard0 h.length ++ [two, words4 s o])) := by
    rw [run_at t92, run_np (by rfl) (by decide)]
    have nm1 := name_str (n + 5) s (h ++ (yard0 h.length ++ [two, words4 s o])) (by omega)
    rw [hs] at nm1
    simp only [yard0, two, words4, List.cons_append, List.nil_append] at nm1
    simp [b92, bigN, ex, ev, evs, sSeq, sAsg, sIf, sRaise, bindT, setsE, mTest, mOr, mNot, mVar, mCallF, mCons, mNil, getL, itemsOf, Out.seq, SO.fin, List.replicate, rel_get, rel_get0, yard0, two, words4, nm1]
  simp only [yard0, two, words4, List.cons_append, List.nil_append] at cw lay
  simp [b89, bigN, ex, ev, evs, sSeq, sNil, sExpr, sAsg, sIf, bindT, mTest, mNot, mIsi, gIsi, tyOf, is_all, mBin, mVar, mC, mCallF, mMethF, gMethF, mMeth, mFld, tyM, isStr, gM, gSplit, mCons, mNil, g2, gIxD, isDic, gIx, atL, getL, itemsOf, gIsnt, isNon, gEq, toD, PyData.eqv, fl_all, mt_all, getN, Out.seq, SO.fin, List.replicate, rel_get, rel_get0, yard0, two, words4, hrow, l1, r2, cw, e3, e4, e5, lay]
end Mi

namespace Mi
open PySem PySem.Spec L2
def pts (s o : Str) : List Vl := if (s == o) = true then [.str s] else [.str s, .str o]
def tpl (s o : Str) : Vl := .tup [.str "hold", .str s, .str o, .tup [.int 0, .int 1]]
def grown (k : Nat) (s o : Str) : Hs := [.ins 23 [(41, .ref (k + 2)), (42, .ref (k + 7)), (43, .str ""), (44, .non)], .lst [], .ins 22 [(37, .ref (k + 3)), (38, .ref (k + 12)), (39, .ref (k + 13)), (40, .ref (k + 6))], .lst [], .lst [], .lst [], .dic [], .dic [], two, words4 s o,
  .lst [.str s, .str o], .lst [tpl s o], .lst (pts s o), .lst [tpl s o]]
theorem grow2 (n : Nat) (h : Hs) (s o : Str) : run (n + 1) 84 [.ref (h.length + 2), .ref (h.length + 10), .ref (h.length + 11)] (h ++ (yard0 h.length ++ [two, words4 s o, .lst [.str s, .str o], .lst [tpl s o]])) = .ok .non (h ++ grown h.length s o) := by
  rw [run_at t84, run_np (by rfl) (by decide)]
  rcases Bool.eq_false_or_eq_true (s == o) with e | e
  · simp [b84, b84l0, bigN, ex, ev, evs, evi, sSeq, sNil, sExpr, sAsg, sIf, sFor, sFldM, forL, stp, itLen, bindT, mTest, mOr, mNot, mBin, mVar, mC, mCall, mMeth, mFld, mIter, gIter, mCons, mNil, gB, gLen, gList, gM, tyM, isLst, gAppend, g2, gNiD, isDic, gNi, gInG, memF, flat, eqF, gGt, gAdd, mk2, getL, itemsOf, fl_all, getN, setN, Out.seq, SO.fin, List.replicate, rel_get, rel_get0, rel_set, rel_set0, yard0, two, words4, grown, pts, tpl, e]
  · simp [b84, b84l0, bigN, ex, ev, evs, evi, sSeq, sNil, sExpr, sAsg, sIf, sFor, sFldM, forL, stp, itLen, bindT, mTest, mOr, mNot, mBin, mVar, mC, mCall, mMeth, mFld, mIter, gIter, mCons, mNil, gB, gLen, gList, gM, tyM, isLst, gAppend, g2, gNiD, isDic, gNi, gInG, memF, flat, eqF, gGt, gAdd, mk2, getL, itemsOf, fl_all, getN, setN, Out.seq, SO.fin, List.replicate, rel_get, rel_get0, rel_set, rel_set0, yard0, two, words4, grown, pts, tpl, e]
theorem here_yes (n : Nat) (h L : Hs) : run (n + 1) 88 [.ref h.length] (h ++ (yard0 h.length ++ L)) = .ok (.ref (h.length + 2)) (h ++ (yard0 h.length ++ L)) := by
  rw [run_at t88, run_np (by rfl) (by decide)]
  simp [b88, ex, ev, evs, sSeq, sRet, sIf, mTest, mBin, mVar, mC, mFld, g2, gIs, isNon, fl_all, getN, Out.seq, SO.fin, rel_get, rel_get0, yard0]
theorem tell_yes (n : Nat) (h : Hs) (s o row : Str) (hrow : Txt.split row " " = [("hold" : Str), s, o, ("0" : Str)]) (rl : row.length ≤ 1000) (sl : s.length ≤ 1000) (ol : o.length ≤ 1000) (hs : isName s = true) (ho : isName o = true) :
    run (n + 8) 89 [.ref h.length, .str row] (h ++ (yard0 h.length ++ [two])) = .ok .non (h ++ grown h.length s o) := by
  rw [run_at t89, run_np (by rfl) (by decide)]
  have e3 : (("hold" : Str) == ("part" : Str)) = false := by decide +kernel
  have e4 : (("hold" : Str) == ("done" : Str)) = false := by decide +kernel
  have e5 : (("hold" : Str) == ("put" : Str)) = false := by decide +kernel
  have l1 : (" " : Str).length = 1 := rfl
  have r2 : row.length ≤ 999998 := by omega
  have cw := counted4 (n + 6) (h ++ (yard0 h.length ++ [two, words4 s o])) (h.length + 9) (.str s) (.str o) (.str "0") (by rw [rel_get]; rfl)
  have lay : run (n + 7) 92 [.ref h.length, .ref (h.length + 9)] (h ++ (yard0 h.length ++ [two, words4 s o])) = .ok .non (h ++ grown h.length s o) := by
    rw [run_at t92, run_np (by rfl) (by decide)]
    have nm1 := name_str (n + 5) s (h ++ (yard0 h.length ++ [two, words4 s o])) (by omega)
    have nm2 := name_str (n + 5) o (h ++ (yard0 h.length ++ [two, words4 s o])) (by omega)
    have rd := read0 (n + 4) (h ++ (yard0 h.length ++ [two, words4 s o]))
    have ft := fits01 (n + 3) (h ++ (yard0 h.length ++ [two, words4 s o]))
    have hr := here_yes (n + 5) h [two, words4 s o]
    have gr := grow2 (n + 5) h s o
    rw [hs] at nm1
    rw [ho] at nm2
    simp only [yard0, two, words4, tpl, List.cons_append, List.nil_append] at nm1 nm2 rd ft hr gr
    simp [b92, bigN, ex, ev, evs, sSeq, sNil, sAsg, sIf, sExpr, bindT, setsE, mTest, mOr, mNot, mVar, mC, mCallF, mMethF, gMethF, mCons, mNil, mLst, mTup, getL, itemsOf, mt_all, getN, Out.seq, SO.fin, List.replicate, rel_get, rel_get0, yard0, two, words4, nm1, nm2, rd, ft, hr, gr]
  simp only [yard0, two, words4, List.cons_append, List.nil_append] at cw lay
  simp [b89, bigN, ex, ev, evs, sSeq, sNil, sExpr, sAsg, sIf, bindT, mTest, mNot, mIsi, gIsi, tyOf, is_all, mBin, mVar, mC, mCallF, mMethF, gMethF, mMeth, mFld, tyM, isStr, gM, gSplit, mCons, mNil, g2, gIxD, isDic, gIx, atL, getL, itemsOf, gIsnt, isNon, gEq, toD, PyData.eqv, fl_all, mt_all, getN, Out.seq, SO.fin, List.replicate, rel_get, rel_get0, yard0, two, words4, hrow, l1, r2, cw, e3, e4, e5, lay]
end Mi

namespace Mi
open PySem PySem.Spec L2
theorem names_of (n : Nat) (h L : Hs) (p : Nat) (ys : List Vl) (hy : (h ++ L)[h.length + 2]? = some (.ins 22 [(37, .ref (h.length + 3)), (38, .ref p), (39, .ref (h.length + 13)), (40, .ref (h.length + 6))])) (h0 : ∃ fs, (h ++ L)[h.length]? = some (.ins 23 ((41, .ref (h.length + 2)) :: fs))) (hp : getL (h ++ L) p = some ys) :
    run (n + 1) 93 [.ref h.length] (h ++ L) = .ok (.ref (h ++ L).length) (h ++ L ++ [.lst ys]) := by
  obtain ⟨fs, h0⟩ := h0
  rw [run_at t93, run_np (by rfl) (by decide)]
  simp [b93, ex, ev, evs, sSeq, sRet, mVar, mFld, mCall, mCons, mNil, gB, gList, fl_all, getN, Out.seq, SO.fin, hy, h0, hp]
theorem names_none (n : Nat) (h : Hs) (s o : Str) : run (n + 1) 93 [.ref h.length] (h ++ (yard0 h.length ++ [two, words4 s o])) = .ok (.ref (h.length + 10)) (h ++ (yard0 h.length ++ [two, words4 s o, .lst []])) := by
  rw [run_at t93, run_np (by rfl) (by decide)]
  simp [b93, ex, ev, evs, sSeq, sRet, mVar, mFld, mCall, mCons, mNil, gB, gList, fl_all, getN, getL, itemsOf, Out.seq, SO.fin, rel_get, rel_get0, yard0]
theorem names_some (n : Nat) (h : Hs) (s o : Str) : run (n + 1) 93 [.ref h.length] (h ++ grown h.length s o) = .ok (.ref (h.length + 14)) (h ++ (grown h.length s o ++ [.lst (pts s o)])) := by
  rw [run_at t93, run_np (by rfl) (by decide)]
  simp [b93, ex, ev, evs, sSeq, sRet, mVar, mFld, mCall, mCons, mNil, gB, gList, fl_all, getN, getL, itemsOf, Out.seq, SO.fin, rel_get, rel_get0, grown]
theorem pts_head (s o : Str) : atL (pts s o) 0 = some (.str s) := by
  unfold pts
  split <;> rfl
theorem taken_o (n : Nat) (h : Hs) (s o : Str) (c : Int) (nb : 32 ∉ s.cps.toList) (sl : s.length ≤ 100) (ho : isName o = true) (ob : 32 ∉ o.cps.toList) (ol : o.length = 3) (oc : atL [Vl.str "kuw", Vl.str "kux"] (c.fmod 2) = some (.str o)) :
    ∃ h', run (n + 9) 1005 [.str s, .int c] h = .ok (.bl true) h' := by
  rw [run_at t1005, run_np (by rfl) (by decide)]
  have yi := yard_init (n + 5) h
  have sl' : ∀ N, 200 ≤ N → 5 + s.length ≤ N := fun N hN => by omega
  have l1 : ("hold " : Str).length = 5 := rfl
  have l2 : (" " : Str).length = 1 := rfl
  have l3 : (" 0" : Str).length = 2 := rfl
  have sp := split_row s o nb ob
  have rl : (("hold " : Str) ++ s ++ (" " : Str) ++ o ++ (" 0" : Str)).length ≤ 1000 := by
    simp only [Str.length_append, l1, l2, l3, ol]; omega
  cases hs : isName s with
  | false =>
    have tn := tell_no n h s o _ sp rl (by omega) (by omega) hs
    have nn := names_none (n + 7) h s o
    have gs := good_str (n + 7) s (h ++ (yard0 h.length ++ [two, words4 s o, .lst [], .lst []])) (by omega)
    rw [hs] at gs
    refine ⟨h ++ (yard0 h.length ++ [two, words4 s o, .lst [], .lst []]), ?_⟩
    simp only [yard0, two, words4, List.cons_append, List.nil_append] at yi tn nn gs
    simp [b1005, bigN, ex, ev, evs, sSeq, sNil, sExpr, sAsg, sIf, sRet, sTrySet, su_all, bindT, mTest, mAnd, mNot, mBin, mVar, mC, mCallF, mMethF, gMethF, mMake, fin0, mCons, mNil, mLst, g2, gAdd, gMod, gIxD, isDic, gIx, gEq, getL, itemsOf, toD, allS, PyData.eqv, PyData.eqvAll, mt_all, getN, Out.seq, SO.fin, List.replicate, rel_get, rel_get0, yard0, two, words4, Str.length_append, l1, l2, l3, ol, sl', oc, yi, tn, nn, gs]
  | true =>
    have ty := tell_yes n h s o _ sp rl (by omega) (by omega) hs ho
    have ns := names_some (n + 7) h s o
    have gs := good_str (n + 7) s (h ++ grown h.length s o) (by omega)
    rw [hs] at gs
    refine ⟨h ++ (grown h.length s o ++ [.lst (pts s o)]), ?_⟩
    simp only [yard0, two, words4, grown, List.cons_append, List.nil_append] at yi ty ns gs
    have ph := pts_head s o
    simp [b1005, bigN, ex, ev, evs, sSeq, sNil, sExpr, sAsg, sIf, sRet, sTrySet, bindT, mTest, mAnd, mNot, mBin, mVar, mC, mCallF, mMethF, gMethF, mMake, fin0, mCons, mNil, mLst, g2, gAdd, gMod, gIxD, isDic, gIx, eq_str, getL, itemsOf, mt_all, getN, Out.seq, SO.fin, List.replicate, rel_get, rel_get0, yard0, two, words4, grown, Str.length_append, l1, l2, l3, ol, sl', oc, yi, ty, ns, gs, ph]
theorem taken_ok (n : Nat) (h : Hs) (s : Str) (c : Int) (nb : 32 ∉ s.cps.toList) (sl : s.length ≤ 100) : ∃ h', run (n + 9) 1005 [.str s, .int c] h = .ok (.bl true) h' := by
  have a1 := Int.fmod_nonneg_of_pos c (b := 2) (by decide)
  have a2 := Int.fmod_lt_of_pos c (b := 2) (by decide)
  by_cases hc : c.fmod 2 = 0
  · exact taken_o n h s "kuw" c nb sl (by decide +kernel) (by decide +kernel) rfl (by rw [hc]; rfl)
  · have h1 : c.fmod 2 = 1 := by omega
    exact taken_o n h s "kux" c nb sl (by decide +kernel) (by decide +kernel) rfl (by rw [h1]; rfl)
end Mi

namespace Mi
open PySem PySem.Spec L2
theorem rel_get2 {h L : Hs} : (h ++ L)[h.length + 1 + 1]? = L[2]? := rel_get (i := 2)
theorem pick_ok (n : Nat) (ns : List Int) (k : Nat) (h : Hs) : ∃ (c : Int) (h' : Hs), run (n + 1) 1001 [.kl ns, .int (k : Int)] h = .ok (.int c) h' := by
  rw [run_at t1001, run_np (by rfl) (by decide)]
  obtain ⟨c, hc⟩ : ∃ c : Int, atL (cutL (ns.map Vl.int) (some (k : Int)) (some ((k : Int) + 1)) ++ [Vl.int 0]) 0 = some (.int c) := by
    have e1 : HT.sIx (ns.map Vl.int).length 0 (some (k : Int)) = min k ns.length := by rw [HT.sIx_nat, List.length_map]
    have e2 : HT.sIx (ns.map Vl.int).length (ns.map Vl.int).length (some ((k : Int) + 1)) = min (k + 1) ns.length := by
      have := HT.sIx_nat (ns.map Vl.int).length (ns.map Vl.int).length (k + 1)
      rw [List.length_map] at this ⊢
      exact this
    unfold cutL
    rw [e1, e2]
    by_cases hk : k < ns.length
    · have z : ((ns.map Vl.int).drop (min k ns.length)).take (min (k + 1) ns.length - min k ns.length) = [Vl.int ns[k]] := by
        rw [Nat.min_eq_left (by omega), Nat.min_eq_left (by omega), Nat.add_sub_cancel_left, ← List.map_drop, ← List.map_take, List.drop_eq_getElem_cons hk]
        rfl
      rw [z]
      exact ⟨_, rfl⟩
    · have z : ((ns.map Vl.int).drop (min k ns.length)).take (min (k + 1) ns.length - min k ns.length) = [] := by
        rw [Nat.min_eq_right (by omega), Nat.min_eq_right (by omega), Nat.sub_self, List.take_zero]
      rw [z]
      exact ⟨0, rfl⟩
  have len : (cutL (ns.map Vl.int) (some (k : Int)) (some ((k : Int) + 1))).length ≤ 999999 := by
    have e1 : HT.sIx (ns.map Vl.int).length 0 (some (k : Int)) = min k ns.length := by rw [HT.sIx_nat, List.length_map]
    have e2 : HT.sIx (ns.map Vl.int).length (ns.map Vl.int).length (some ((k : Int) + 1)) = min (k + 1) ns.length := by
      have := HT.sIx_nat (ns.map Vl.int).length (ns.map Vl.int).length (k + 1)
      rw [List.length_map] at this ⊢
      exact this
    unfold cutL
    rw [e1, e2, List.length_take]
    omega
  refine ⟨c, h ++ [.lst (cutL (ns.map Vl.int) (some (k : Int)) (some ((k : Int) + 1))), .lst [.int 0], .lst (cutL (ns.map Vl.int) (some (k : Int)) (some ((k : Int) + 1)) ++ [.int 0])], ?_⟩
  simp [b1001, bigN, ex, ev, evs, evo, sSeq, sRet, mBin, mVar, mC, mSl, gSl, mPart, mCons, mNil, mLst, g2, gAdd, gIxD, isDic, gIx, getL, itemsOf, Out.seq, SO.fin, rel_get, rel_get0, rel_get2, hc, len, List.getElem?_cons_zero, List.getElem?_cons_succ, -getElem?_pos]
theorem name_other (n : Nat) (v : Vl) (h : Hs) (t : TyT) (ht : tyOf v h = some t) (hi : tbs.pr.isi t (.b 3) = some false) : run (n + 1) 82 [v] h = .ok (.bl false) h := by
  rw [run_at t82, run_np (by rfl) (by decide)]
  simp [b82, ex, ev, evs, sSeq, sIf, sRet, mTest, mNot, mOr, mIsi, mVar, mC, gIsi, ht, hi, Out.seq, SO.fin]
theorem turn_ok (n : Nat) (ns : List Int) (k : Nat) (x2 x3 x4 x5 : Option Vl) (h : Hs) : ∃ c t f h', ex tbs.pr (run (n + 10)) b1006l0 [some (.kl ns), some (.int (k : Int)), x2, x3, x4, x5] h = .nx [some (.kl ns), some (.int (k : Int)), x2, c, t, f] h' := by
  obtain ⟨c, h1, p1⟩ := pick_ok (n + 9) ns k h
  obtain ⟨t, p2, tl⟩ := text_int (n + 8) c h1
  have nm := name_str (n + 9) t h1 (by omega)
  have gd := good_str (n + 9) t h1 (by omega)
  have hb : hasSub (" " : Str) t = decide (32 ∈ t.cps.toList) := has_one t 32
  by_cases nb : 32 ∈ t.cps.toList
  · have hb1 : hasSub (" " : Str) t = true := by rw [hb]; exact decide_eq_true nb
    refine ⟨some (.int c), some (.str t), some (.bl (isName t)), h1, ?_⟩
    simp [b1006l0, ex, ev, evs, sSeq, sNil, sAsg, sIf, sRet, bindT, mTest, mOr, mAnd, mNot, mIsi, gIsi, tyOf, is_all, mBin, mVar, mC, mCallF, mCons, mNil, g2, gNe, gNiD, isDic, gNi, gInG, toD, PyData.eqv, Out.seq, p1, p2, nm, gd, hb1]
  · have hb1 : hasSub (" " : Str) t = false := by rw [hb]; exact decide_eq_false nb
    obtain ⟨h2, tk⟩ := taken_ok (n + 1) h1 t c nb tl
    refine ⟨some (.int c), some (.str t), some (.bl (isName t)), h2, ?_⟩
    simp [b1006l0, ex, ev, evs, sSeq, sNil, sAsg, sIf, sRet, bindT, mTest, mOr, mAnd, mNot, mIsi, gIsi, tyOf, is_all, mBin, mVar, mC, mCallF, mCons, mNil, g2, gNe, gNiD, isDic, gNi, gInG, toD, PyData.eqv, Out.seq, p1, p2, nm, gd, hb1, tk]
theorem law_true (ns : List Int) (hl : ns.length ≤ 63) : ∃ h, run 31 1006 [.kl ns] [] = .ok (.bl true) h := by
  rw [run_at t1006 30, run_np (by rfl) (by decide)]
  obtain ⟨cnt, hc, c0, c1⟩ : ∃ cnt : Int, (if (if (40 : Int) < (ns.length : Int) then (40 : Int) else (ns.length : Int)) > 1 then (if (40 : Int) < (ns.length : Int) then (40 : Int) else (ns.length : Int)) else 1) = cnt ∧ 0 ≤ cnt ∧ cnt ≤ 63 := ⟨_, rfl, by split <;> split <;> omega, by split <;> split <;> omega⟩
  have in1 : inRg cnt = true := by unfold inRg; simp; omega
  obtain ⟨e, h1, z1, x1, x2, x3, x4, x5, rfl⟩ := forF_run (g := .one 1) (b := ex tbs.pr (run 30) b1006l0) (I := fun env _ => ∃ x1 x2 x3 x4 x5 : Option Vl, env = [some (.kl ns), x1, x2, x3, x4, x5]) (xs := rgI 0 cnt.toNat) (by
    rintro x hx env h ⟨x1, x2, x3, x4, x5, rfl⟩
    unfold rgI at hx
    obtain ⟨k, _, rfl⟩ := List.mem_map.mp hx
    refine ⟨[some (.kl ns), some (.int (k : Int)), x2, x3, x4, x5], by simp [bindT], ?_⟩
    obtain ⟨c, t, f, h', z⟩ := turn_ok 20 ns k x2 x3 x4 x5 h
    exact ⟨_, h', z, _, _, _, _, _, rfl⟩) [some (.kl ns), none, none, none, none, none] [] ⟨_, _, _, _, _, rfl⟩
  have rest : ∃ e2, ex tbs.pr (run 30) (.loop .seq (.cons (.lst (.cons (.c .non) (.cons (.c (.int (3))) (.cons (.c (.bl true)) (.cons (.lst (.cons (.c (.str "a")) .nil)) (.cons (.tup (.cons (.c (.str "a")) .nil)) (.cons (.dict1 (.c (.str "a")) (.c (.int (1)))) .nil))))))) .nil) (.one 2) b1006l1) [some (.kl ns), x1, x2, x3, x4, x5] h1 =
      .nx e2 (h1 ++ [.lst [.str "a"], .dic [(.inr "a", .int 1)], .lst [.non, .int 3, .bl true, .ref h1.length, .tup [.str "a"], .ref (h1.length + 1)]]) := by
    have no : ∀ v t, tyOf v (h1 ++ [.lst [.str "a"], .dic [(.inr "a", .int 1)], .lst [.non, .int 3, .bl true, .ref h1.length, .tup [.str "a"], .ref (h1.length + 1)]]) = some t → tbs.pr.isi t (.b 3) = some false → run 30 82 [v] (h1 ++ [.lst [.str "a"], .dic [(.inr "a", .int 1)], .lst [.non, .int 3, .bl true, .ref h1.length, .tup [.str "a"], .ref (h1.length + 1)]]) = .ok (.bl false) (h1 ++ [.lst [.str "a"], .dic [(.inr "a", .int 1)], .lst [.non, .int 3, .bl true, .ref h1.length, .tup [.str "a"], .ref (h1.length + 1)]]) := fun v t a b => name_other 29 v _ t a b
    have n1 := no .non (.b 0) rfl rfl
    have n2 := no (.int 3) (.b 2) rfl rfl
    have n3 := no (.bl true) (.b 1) rfl rfl
    have n4 := no (.ref h1.length) (.b 4) (by simp [tyOf, rel_get0]) rfl
    have n5 := no (.tup [.str "a"]) (.b 5) rfl rfl
    have n6 := no (.ref (h1.length + 1)) (.b 6) (by simp [tyOf, rel_get]) rfl
    refine ⟨[some (.kl ns), x1, some (.ref (h1.length + 1)), x3, x4, x5], ?_⟩
    simp [b1006l1, bigN, ex, ev, evs, evi, sSeq, sNil, sFor, sIf, sRet, forL, stp, itLen, bindT, mTest, mBin, mVar, mC, mCallF, mCons, mNil, mLst, mTup, mDict1, keyOf, mIter, gIter, g2, gIsnt, getL, itemsOf, Out.seq, rel_get, rel_get0, rel_get2, n1, n2, n3, n4, n5, n6]
  obtain ⟨e2, z2⟩ := rest
  refine ⟨h1 ++ [.lst [.str "a"], .dic [(.inr "a", .int 1)], .lst [.non, .int 3, .bl true, .ref h1.length, .tup [.str "a"], .ref (h1.length + 1)]], ?_⟩
  have z0 : ex tbs.pr (run 30) (.loop .r1 (.cons (.blt .max (.cons (.c (.int (1))) (.cons (.blt .min (.cons (.blt .len (.cons (.v 0) .nil)) (.cons (.c (.int (40))) .nil))) .nil))) .nil) (.one 1) b1006l0) [some (.kl ns), none, none, none, none, none] [] = .nx [some (.kl ns), x1, x2, x3, x4, x5] h1 := by
    show (sFor _ _ _ : MS) _ _ = _
    have mi : mRng1 (mCons (ev tbs.pr (run 30) (.blt .max (.cons (.c (.int (1))) (.cons (.blt .min (.cons (.blt .len (.cons (.v 0) .nil)) (.cons (.c (.int (40))) .nil))) .nil)))) (evs tbs.pr (run 30) .nil)) [some (.kl ns), none, none, none, none, none] [] = .ok (.fix (rgI 0 cnt.toNat)) [] := by
      simp only [ev, evs, mRng1, mCons, mNil, mCall, mVar, mC, gB, gLen, gMin, gMax, Out.bind_ok, List.getElem?_cons_zero]
      rw [hc]
      simp [gRng1, in1]
    unfold sFor
    show (Out.seq (mRng1 _ _ _) _ _) = _
    rw [mi]
    show forL _ (.fix _) _ _ _ _ _ = _
    rw [for_fix]
    exact z1
  show ((sSeq (ex tbs.pr (run 30) _) (sSeq (ex tbs.pr (run 30) _) _)) _ _).fin = _
  unfold sSeq
  show SO.fin (match ex tbs.pr (run 30) (.loop .r1 _ _ _) [some (.kl ns), none, none, none, none, none] [] with
    | .nx e h1 => _
    | o => o) = _
  rw [z0]
  show SO.fin (match ex tbs.pr (run 30) (.loop .seq _ _ _) [some (.kl ns), x1, x2, x3, x4, x5] h1 with
    | .nx e h1 => _
    | o => o) = _
  rw [z2]
  rfl
end Mi

theorem PySem.Challenge.cw_ohmyard_k81_names_holds : PySem.Challenge.rw_ohmyard_k81_names.Holds := by
  w_on; o_law
  refine Mi.holds_of (fun ns hl _ => Mi.law_true ns hl) ?_
  w_witness2

