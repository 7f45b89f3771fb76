import PyProof.Rows.All
import Wide.All
import OpenK.AllK
import Wide.FinOn
import HandS.ForMost
import HandS.Walk
import HandS.Wide
import HandS.HeadHook1
import HandS.TupLe
import HandS.Style
import HandS.Text
import HandS.Codes
import HandS.IsInst
import HandS.Conv
import HandS.SortInts
import PyProof.SumWalkG
import PyProof.MinMaxWalk
import PyProof.WalksMore
import PyProof.ReprRoads
import KE.KSortedM
import PyProof.Rows.Digits
import KE.GoesEnum
import HandS.TupAny
import HandS.Rev
import PyProof.EnumMake
import HandS.CallSlots
import HandS.Lambda
import HandS.EndBits
import HandS.HeadEnd
import HandS.Defaults
import KE.KStateDown
import HandS.Words
import HandS.Head0
import HandS.Head1
import HandS.Head2
import HandS.HeadHook2
import PySem.Challenge.RW_sunstrings_k35_whole_loss_and_fair_lengt
set_option Elab.async false
set_option linter.all false
set_option maxRecDepth 100000
set_option maxHeartbeats 0
namespace Ev
open PySem PySem.Spec PyProof.Rows L2

/-! ## logical values -/
inductive L where
  | non | bl (b : Bool) | int (i : Int) | str (x : Str) | ty (n : String)
  | tup (xs : List L) | lst (xs : List L) | scr (xs : List L)
  | ins (C : Str) (ns : List Str) (vs : List L)
  | exc (C : Str) (v : L)
  | obj (k : Nat)
  deriving Inhabited
/-- a changeable object: a list, an instance -/
inductive LO where
  | lst (xs : List L) | ins (C : Str) (ns : List Str) (vs : List L)
  deriving Inhabited
abbrev LH := List LO

/-- the world: what is frozen, where the changeable objects stand -/
structure Wd where
  F : Hp
  r : List Addr

mutual
def RelL (K : PySem.W.Frag) (w : Wd) : L → V → Prop
  | .non, v => v = .non
  | .bl b, v => v = .bl b
  | .int i, v => v = .int i
  | .str x, v => v = .str x
  | .ty n, v => v = .ty n
  | .tup xs, v => ∃ a vs, v = .ref a ∧ SqT K w.F a vs ∧ RelLs K w xs vs
  | .lst xs, v => ∃ a vs, v = .ref a ∧ w.F a = some (.lst vs) ∧ RelLs K w xs vs
  | .scr xs, v => ∃ a vs, v = .ref a ∧ SqL K w.F a vs ∧ RelLs K w xs vs
  | .ins C ns xs, v => ∃ a dx vs, v = .ref a ∧ w.F a = some (.ins (He.ga K C) dx (ns.zip vs)) ∧ ns.length = vs.length ∧ RelLs K w xs vs
  | .exc C x, v => ∃ a dx y, v = .ref a ∧ w.F a = some (.ins (He.ga K C) dx [("value", y)]) ∧ RelL K w x y
  | .obj k, v => ∃ a, v = .ref a ∧ w.r[k]? = some a
def RelLs (K : PySem.W.Frag) (w : Wd) : List L → List V → Prop
  | [], vs => vs = []
  | x :: xs, vs => ∃ v r, vs = v :: r ∧ RelL K w x v ∧ RelLs K w xs r
end
def RelO (K : PySem.W.Frag) (w : Wd) : LO → HO → Prop
  | .lst xs, h => ∃ vs, h = .lst vs ∧ RelLs K w xs vs
  | .ins C ns xs, h => ∃ dx vs, h = .ins (He.ga K C) dx (ns.zip vs) ∧ ns.length = vs.length ∧ RelLs K w xs vs

/-- the world only grows -/
structure Le (w w' : Wd) : Prop where
  fz : ∀ a o, w.F a = some o → w'.F a = some o
  rr : ∃ m, w'.r = w.r ++ m
theorem Le.refl (w : Wd) : Le w w := ⟨fun _ _ h => h, [], by simp⟩
theorem Le.trans {a b c : Wd} (h : Le a b) (k : Le b c) : Le a c := by
  obtain ⟨m, e⟩ := h.rr
  obtain ⟨n, f⟩ := k.rr
  exact ⟨fun x o q => k.fz x o (h.fz x o q), m ++ n, by rw [f, e, List.append_assoc]⟩
theorem rd_mono {F F' : Hp} (h : ∀ a o, F a = some o → F' a = some o) {a : Addr} {u : HO} (r : Rd F a u) : Rd F' a u := by
  rcases r with r | ⟨o, r⟩
  · exact .inl (h _ _ r)
  · exact .inr ⟨o, h _ _ r⟩
theorem sqT_mono {K : PySem.W.Frag} {F F' : Hp} (h : ∀ a o, F a = some o → F' a = some o) {a : Addr} {vs : List V} (r : SqT K F a vs) : SqT K F' a vs := by
  rcases r with r | r
  · exact .inl (rd_mono h r)
  · exact .inr r
theorem sqL_mono {K : PySem.W.Frag} {F F' : Hp} (h : ∀ a o, F a = some o → F' a = some o) {a : Addr} {vs : List V} (r : SqL K F a vs) : SqL K F' a vs := by
  rcases r with r | r
  · exact .inl (rd_mono h r)
  · exact .inr r
mutual
theorem RelL.mono {K : PySem.W.Frag} {w w' : Wd} (h : Le w w') : ∀ {x : L} {v : V}, RelL K w x v → RelL K w' x v
  | .non, v, r | .bl _, v, r | .int _, v, r | .str _, v, r | .ty _, v, r => by simpa only [RelL] using r
  | .tup xs, v, r => by
    simp only [RelL] at r ⊢
    obtain ⟨a, vs, e, q, l⟩ := r
    exact ⟨a, vs, e, sqT_mono h.fz q, RelLs.mono h l⟩
  | .lst xs, v, r => by
    simp only [RelL] at r ⊢
    obtain ⟨a, vs, e, q, l⟩ := r
    exact ⟨a, vs, e, h.fz _ _ q, RelLs.mono h l⟩
  | .scr xs, v, r => by
    simp only [RelL] at r ⊢
    obtain ⟨a, vs, e, q, l⟩ := r
    exact ⟨a, vs, e, sqL_mono h.fz q, RelLs.mono h l⟩
  | .ins C ns xs, v, r => by
    simp only [RelL] at r ⊢
    obtain ⟨a, dx, vs, e, q, n, l⟩ := r
    exact ⟨a, dx, vs, e, h.fz _ _ q, n, RelLs.mono h l⟩
  | .exc C x, v, r => by
    simp only [RelL] at r ⊢
    obtain ⟨a, dx, y, e, q, l⟩ := r
    exact ⟨a, dx, y, e, h.fz _ _ q, RelL.mono h l⟩
  | .obj k, v, r => by
    simp only [RelL] at r ⊢
    obtain ⟨a, e, q⟩ := r
    obtain ⟨m, f⟩ := h.rr
    exact ⟨a, e, by rw [f]; exact List.getElem?_append_left (List.getElem?_eq_some_iff.mp q).1 ▸ q⟩
theorem RelLs.mono {K : PySem.W.Frag} {w w' : Wd} (h : Le w w') : ∀ {xs : List L} {vs : List V}, RelLs K w xs vs → RelLs K w' xs vs
  | [], vs, r => by simpa only [RelLs] using r
  | x :: xs, vs, r => by
    simp only [RelLs] at r ⊢
    obtain ⟨v, t, e, a, b⟩ := r
    exact ⟨v, t, e, RelL.mono h a, RelLs.mono h b⟩
end
theorem RelO.mono {K : PySem.W.Frag} {w w' : Wd} (h : Le w w') : ∀ {x : LO} {o : HO}, RelO K w x o → RelO K w' x o
  | .lst xs, o, ⟨vs, e, r⟩ => ⟨vs, e, r.mono h⟩
  | .ins C ns xs, o, ⟨dx, vs, e, n, r⟩ => ⟨dx, vs, e, n, r.mono h⟩

/-! ### lists of related values -/
section
variable {K : PySem.W.Frag} {w : Wd}
theorem RelLs.nil : RelLs K w [] [] := by simp only [RelLs]
theorem RelLs.cons {x : L} {v : V} {xs : List L} {vs : List V} (a : RelL K w x v) (b : RelLs K w xs vs) : RelLs K w (x :: xs) (v :: vs) := by
  simp only [RelLs]
  exact ⟨v, vs, rfl, a, b⟩
theorem RelLs.nil_inv {vs : List V} (h : RelLs K w [] vs) : vs = [] := by simpa only [RelLs] using h
theorem RelLs.cons_inv {x : L} {xs : List L} {vs : List V} (h : RelLs K w (x :: xs) vs) : ∃ v r, vs = v :: r ∧ RelL K w x v ∧ RelLs K w xs r := by simpa only [RelLs] using h
theorem RelLs.length : ∀ {xs : List L} {vs : List V}, RelLs K w xs vs → xs.length = vs.length
  | [], _, h => by rw [h.nil_inv]; rfl
  | x :: xs, _, h => by
    obtain ⟨v, r, rfl, _, b⟩ := h.cons_inv
    simp [b.length]
theorem RelLs.get : ∀ {xs : List L} {vs : List V} {i : Nat} {x : L}, RelLs K w xs vs → xs[i]? = some x → ∃ v, vs[i]? = some v ∧ RelL K w x v
  | [], _, _, _, _, e => by simp at e
  | y :: ys, _, 0, x, h, e => by
    obtain ⟨v, r, rfl, a, _⟩ := h.cons_inv
    simp at e
    subst e
    exact ⟨v, by simp, a⟩
  | y :: ys, _, i + 1, x, h, e => by
    obtain ⟨v, r, rfl, _, b⟩ := h.cons_inv
    obtain ⟨u, e1, e2⟩ := RelLs.get (i := i) (x := x) b (by simpa using e)
    exact ⟨u, by simpa using e1, e2⟩
theorem RelLs.append : ∀ {xs ys : List L} {vs us : List V}, RelLs K w xs vs → RelLs K w ys us → RelLs K w (xs ++ ys) (vs ++ us)
  | [], _, _, _, h, k => by rw [h.nil_inv]; exact k
  | x :: xs, _, _, _, h, k => by
    obtain ⟨v, r, rfl, a, b⟩ := h.cons_inv
    exact RelLs.cons a (b.append k)
theorem RelLs.set : ∀ {xs : List L} {vs : List V} {x : L} {v : V} (i : Nat), RelLs K w xs vs → RelL K w x v → RelLs K w (xs.set i x) (vs.set i v)
  | [], _, _, _, i, h, _ => by rw [h.nil_inv]; simpa using RelLs.nil
  | y :: ys, _, _, _, 0, h, k => by
    obtain ⟨u, r, rfl, _, b⟩ := h.cons_inv
    exact RelLs.cons k b
  | y :: ys, _, _, _, i + 1, h, k => by
    obtain ⟨u, r, rfl, a, b⟩ := h.cons_inv
    exact RelLs.cons a (b.set i k)
theorem RelLs.take : ∀ {xs : List L} {vs : List V} (n : Nat), RelLs K w xs vs → RelLs K w (xs.take n) (vs.take n)
  | _, _, 0, _ => by simpa using RelLs.nil
  | [], _, n + 1, h => by rw [h.nil_inv]; simpa using RelLs.nil
  | y :: ys, _, n + 1, h => by
    obtain ⟨u, r, rfl, a, b⟩ := h.cons_inv
    simpa using RelLs.cons a (b.take n)
theorem RelLs.drop : ∀ {xs : List L} {vs : List V} (n : Nat), RelLs K w xs vs → RelLs K w (xs.drop n) (vs.drop n)
  | _, _, 0, h => by simpa using h
  | [], _, n + 1, h => by rw [h.nil_inv]; simpa using RelLs.nil
  | y :: ys, _, n + 1, h => by
    obtain ⟨u, r, rfl, a, b⟩ := h.cons_inv
    simpa using b.drop n
theorem RelLs.reverse : ∀ {xs : List L} {vs : List V}, RelLs K w xs vs → RelLs K w xs.reverse vs.reverse
  | [], _, h => by rw [h.nil_inv]; simpa using RelLs.nil
  | y :: ys, _, h => by
    obtain ⟨u, r, rfl, a, b⟩ := h.cons_inv
    rw [List.reverse_cons, List.reverse_cons]
    exact b.reverse.append (.cons a .nil)
/-- related ints -/
theorem RelLs.ints : ∀ {ns : List Int} {vs : List V}, RelLs K w (ns.map L.int) vs → vs = ns.map V.int
  | [], _, h => h.nil_inv
  | n :: ns, _, h => by
    obtain ⟨v, r, rfl, a, b⟩ := h.cons_inv
    simp only [RelL] at a
    rw [a, b.ints]
    rfl
theorem RelLs.of_ints : ∀ (ns : List Int), RelLs K w (ns.map L.int) (ns.map V.int)
  | [] => .nil
  | n :: ns => .cons (by simp only [RelL]) (RelLs.of_ints ns)
end

/-! ### the heap, the slots -/
structure RelH (K : PySem.W.Frag) (w : Wd) (lh : LH) (H : Hp) : Prop where
  sub : ∀ a o, w.F a = some o → H a = some o
  len : w.r.length = lh.length
  obj : ∀ (k : Nat) (o : LO) (a : Addr), lh[k]? = some o → w.r[k]? = some a → ∃ ho, H a = some ho ∧ RelO K w o ho
  nd : w.r.Nodup
  nf : ∀ a ∈ w.r, w.F a = none
/-- a slot: nothing, a value that is shared, an object of the slot's own -/
inductive Sl where
  | no | sh (x : L) | ow (o : LO)
  deriving Inhabited
structure RelS (K : PySem.W.Frag) (w : Wd) (ls : List Sl) (σ : L2.St) (H : Hp) : Prop where
  len : ls.length = σ.length
  sh : ∀ (i : Nat) (x : L), ls[i]? = some (.sh x) → ∃ v, σ[i]? = some (some v) ∧ RelL K w x v
  ow : ∀ (i : Nat) (o : LO), ls[i]? = some (.ow o) → ∃ a ho, σ[i]? = some (some (.ref a)) ∧ H a = some ho ∧ RelO K w o ho ∧ w.F a = none ∧ a ∉ w.r
  dj : ∀ (i j : Nat) (o o' : LO) (a : Addr), ls[i]? = some (.ow o) → ls[j]? = some (.ow o') → σ[i]? = some (some (.ref a)) → σ[j]? = some (some (.ref a)) → i = j
/-- what an expression leaves as it was -/
structure Ext (w : Wd) (H : Hp) (w' : Wd) (H' : Hp) : Prop where
  fz : ∀ a o, w.F a = some o → w'.F a = some o
  rr : ∃ m, w'.r = w.r ++ m ∧ ∀ a ∈ m, H a = none
  kp : ∀ a o, H a = some o → a ∉ w.r → H' a = some o
  al : ∀ a o, H a = some o → ∃ o', H' a = some o'
  nf : ∀ a o, H a = some o → w.F a = none → w'.F a = none
theorem Ext.le {w w' : Wd} {H H' : Hp} (e : Ext w H w' H') : Le w w' := ⟨e.fz, let ⟨m, h, _⟩ := e.rr; ⟨m, h⟩⟩
theorem Ext.refl (w : Wd) (H : Hp) : Ext w H w H := ⟨fun _ _ h => h, ⟨[], by simp⟩, fun _ _ h _ => h, fun _ o h => ⟨o, h⟩, fun _ _ _ h => h⟩
theorem Ext.trans {w w1 w2 : Wd} {H H1 H2 : Hp} (a : Ext w H w1 H1) (b : Ext w1 H1 w2 H2) : Ext w H w2 H2 := by
  obtain ⟨m, e, f⟩ := a.rr
  obtain ⟨n, g, k⟩ := b.rr
  refine ⟨fun x o q => b.fz x o (a.fz x o q), ⟨m ++ n, by rw [g, e, List.append_assoc], fun x hx => ?_⟩, fun x o q hr => ?_, fun x o q => ?_, fun x o q n => ?_⟩
  · rcases List.mem_append.mp hx with hx | hx
    · exact f x hx
    · cases q : H x with
      | none => rfl
      | some o =>
        obtain ⟨o', q'⟩ := a.al x o q
        rw [k x hx] at q'
        cases q'
  · refine b.kp x o (a.kp x o q hr) ?_
    rw [e]
    intro hx
    rcases List.mem_append.mp hx with hx | hx
    · exact hr hx
    · rw [f x hx] at q
      cases q
  · obtain ⟨o', q'⟩ := a.al x o q
    exact b.al x o' q'
  · obtain ⟨o', q'⟩ := a.al x o q
    exact b.nf x o' q' (a.nf x o q n)
theorem Ext.notin {w w' : Wd} {H H' : Hp} (e : Ext w H w' H') {a : Addr} {o : HO} (h : H a = some o) (hr : a ∉ w.r) : a ∉ w'.r := by
  obtain ⟨m, f, g⟩ := e.rr
  rw [f]
  intro hx
  rcases List.mem_append.mp hx with hx | hx
  · exact hr hx
  · rw [g a hx] at h
    cases h
theorem RelS.ext {K : PySem.W.Frag} {w w' : Wd} {ls : List Sl} {σ : L2.St} {H H' : Hp} (s : RelS K w ls σ H) (e : Ext w H w' H') : RelS K w' ls σ H' := by
  refine ⟨s.len, fun i x q => ?_, fun i o q => ?_, s.dj⟩
  · obtain ⟨v, a, b⟩ := s.sh i x q
    exact ⟨v, a, b.mono e.le⟩
  · obtain ⟨a, ho, q1, q2, q3, q4, q5⟩ := s.ow i o q
    exact ⟨a, ho, q1, e.kp _ _ q2 q5, q3.mono e.le, e.nf _ _ q2 q4, e.notin q2 q5⟩
section
variable {K : PySem.W.Frag} {w : Wd} {lh : LH} {H : Hp}
/-- a new object at p, frozen -/
def Wd.put (w : Wd) (p : Addr) (o : HO) : Wd := ⟨upd w.F p o, w.r⟩
theorem RelH.fresh (h : RelH K w lh H) {p : Addr} (n : H p = none) : w.F p = none := by
  cases q : w.F p with
  | none => rfl
  | some o =>
    rw [h.sub p o q] at n
    cases n
theorem RelH.notin (h : RelH K w lh H) {p : Addr} (n : H p = none) : p ∉ w.r := fun hm => by
  obtain ⟨k, hk, e⟩ := List.getElem_of_mem hm
  have hl : k < lh.length := by rw [← h.len]; exact hk
  obtain ⟨ho, q, _⟩ := h.obj k lh[k] p (by simp [hl]) (by simp [hk, e])
  rw [q] at n
  cases n
theorem le_put (w : Wd) {p : Addr} (o : HO) (n : w.F p = none) : Le w (w.put p o) := ⟨fun a u q => by
  show upd w.F p o a = some u
  rw [upd_ne (ne_of_none q n)]
  exact q, [], by simp [Wd.put]⟩
theorem RelH.put (h : RelH K w lh H) {p : Addr} (o : HO) (n : H p = none) : RelH K (w.put p o) lh (upd H p o) := by
  have nF := h.fresh n
  refine ⟨fun a u q => ?_, h.len, fun k u a q1 q2 => ?_, h.nd, fun a ha => ?_⟩
  · have q : upd w.F p o a = some u := q
    by_cases e : a = p
    · subst e
      rw [upd_same] at q ⊢
      exact q
    · rw [upd_ne e] at q ⊢
      exact h.sub a u q
  · obtain ⟨ho, r1, r2⟩ := h.obj k u a q1 q2
    exact ⟨ho, by rw [upd_ne (ne_of_none r1 n)]; exact r1, r2.mono (le_put w o nF)⟩
  · show upd w.F p o a = none
    rw [upd_ne (fun e => h.notin n (by rw [← e]; exact ha))]
    exact h.nf a ha
theorem ext_put (h : RelH K w lh H) {p : Addr} (o : HO) (n : H p = none) : Ext w H (w.put p o) (upd H p o) :=
  ⟨(le_put w o (h.fresh n)).fz, ⟨[], by simp [Wd.put]⟩, fun a u q _ => by rw [upd_ne (ne_of_none q n)]; exact q, fun a u q => ⟨u, by rw [upd_ne (ne_of_none q n)]; exact q⟩,
    fun a u q e => by
      show upd w.F p o a = none
      rw [upd_ne (ne_of_none q n)]
      exact e⟩
/-- a new object at p, nobody's yet -/
theorem RelH.new (h : RelH K w lh H) {p : Addr} (o : HO) (n : H p = none) : RelH K w lh (upd H p o) :=
  ⟨fun a u q => by rw [upd_ne (ne_of_none (h.sub a u q) n)]; exact h.sub a u q, h.len, fun k u a q1 q2 => by
    obtain ⟨ho, r1, r2⟩ := h.obj k u a q1 q2
    exact ⟨ho, by rw [upd_ne (ne_of_none r1 n)]; exact r1, r2⟩, h.nd, h.nf⟩
theorem ext_new {p : Addr} (o : HO) (n : H p = none) : Ext w H w (upd H p o) :=
  ⟨fun _ _ q => q, ⟨[], by simp⟩, fun a u q _ => by rw [upd_ne (ne_of_none q n)]; exact q, fun a u q => ⟨u, by rw [upd_ne (ne_of_none q n)]; exact q⟩, fun _ _ _ q => q⟩
/-- an object of nobody's is frozen as it stands -/
theorem le_froze (w : Wd) {p : Addr} {o : HO} (n : w.F p = none) : Le w (w.put p o) := le_put w o n
theorem RelH.froze (h : RelH K w lh H) {p : Addr} {o : HO} (e : H p = some o) (n : w.F p = none) (hr : p ∉ w.r) : RelH K (w.put p o) lh H := by
  refine ⟨fun a u q => ?_, h.len, fun k u a q1 q2 => ?_, h.nd, fun a ha => ?_⟩
  · have q : upd w.F p o a = some u := q
    by_cases x : a = p
    · subst x
      rw [upd_same] at q
      cases q
      exact e
    · rw [upd_ne x] at q
      exact h.sub a u q
  · obtain ⟨ho, r1, r2⟩ := h.obj k u a q1 q2
    exact ⟨ho, r1, r2.mono (le_put w o n)⟩
  · show upd w.F p o a = none
    rw [upd_ne (fun e => hr (by rw [← e]; exact ha))]
    exact h.nf a ha
/-- an object of nobody's becomes a changeable one -/
def Wd.add (w : Wd) (p : Addr) : Wd := ⟨w.F, w.r ++ [p]⟩
theorem le_add (w : Wd) (p : Addr) : Le w (w.add p) := ⟨fun _ _ q => q, [p], rfl⟩
theorem RelH.add (h : RelH K w lh H) {p : Addr} {o : LO} {ho : HO} (e : H p = some ho) (r : RelO K w o ho) (n : w.F p = none) (hr : p ∉ w.r) : RelH K (w.add p) (lh ++ [o]) H := by
  refine ⟨h.sub, by simp [Wd.add, h.len], fun k u a q1 q2 => ?_, ?_, fun a ha => ?_⟩
  · have q2 : (w.r ++ [p])[k]? = some a := q2
    by_cases hk : k < lh.length
    · rw [List.getElem?_append_left hk] at q1
      rw [List.getElem?_append_left (by rw [h.len]; exact hk)] at q2
      obtain ⟨x, y, z⟩ := h.obj k u a q1 q2
      exact ⟨x, y, z.mono (le_add w p)⟩
    · have hk2 : lh.length ≤ k := Nat.le_of_not_lt hk
      rw [List.getElem?_append_right hk2] at q1
      rw [List.getElem?_append_right (by rw [h.len]; exact hk2), h.len] at q2
      cases hz : k - lh.length with
      | zero =>
        rw [hz] at q1 q2
        simp at q1 q2
        subst q1
        subst q2
        exact ⟨ho, e, r.mono (le_add w p)⟩
      | succ n =>
        rw [hz] at q1
        simp at q1
  · show (w.r ++ [p]).Nodup
    rw [List.nodup_append]
    exact ⟨h.nd, by simp, fun a ha b hb => by
      have e : b = p := by simpa using hb
      rw [e]
      exact fun z => hr (by rw [← z]; exact ha)⟩
  · have ha : a ∈ w.r ++ [p] := ha
    rcases List.mem_append.mp ha with ha | ha
    · exact h.nf a ha
    · have e : a = p := by simpa using ha
      rw [e]
      exact n
end
end Ev

namespace Ev
open PySem PySem.Spec PyProof.Rows L2

/-! ## results -/
inductive Res (α : Type) where
  | ok (x : α) (h : LH) | exn (C : Str) (x : L) (h : LH) | no
def Res.bind {α β : Type} (r : Res α) (f : α → LH → Res β) : Res β := match r with
  | .ok x h => f x h
  | .exn C x h => .exn C x h
  | .no => .no
def Res.opt {α : Type} (o : Option α) (h : LH) : Res α := match o with
  | some x => .ok x h
  | none => .no
@[simp] theorem Res.bind_ok {α β : Type} (x : α) (h : LH) (f : α → LH → Res β) : (Res.ok x h).bind f = f x h := rfl
@[simp] theorem Res.bind_exn {α β : Type} (C : Str) (x : L) (h : LH) (f : α → LH → Res β) : (Res.exn C x h : Res α).bind f = .exn C x h := rfl
@[simp] theorem Res.bind_no {α β : Type} (f : α → LH → Res β) : (Res.no : Res α).bind f = .no := rfl
@[simp] theorem Res.opt_some {α : Type} (x : α) (h : LH) : Res.opt (some x) h = .ok x h := rfl
@[simp] theorem Res.opt_none {α : Type} (h : LH) : Res.opt (none : Option α) h = .no := rfl

/-! ## what a reading asks -/
section
variable (K : PySem.W.Frag) (W : WX)
/-- an exception behind a call: its class, its own dict -/
def RelX (w : Wd) (H : Hp) (C : Str) (x : L) (cls : Value) (d : Option Addr) : Prop := cls = .ref (He.ga K C) ∧ ∃ dd y, d = some dd ∧ H dd = some (.xd [("value", y)]) ∧ RelL K w x y
/-- relations of results: values, lists of values, bools -/
abbrev Rl (α β : Type) := Wd → Hp → α → β → Prop
def Post {α β : Type} (R : Rl α β) (w : Wd) (H : Hp) (σ : L2.St) (Q : β → Hp → Prop) : Res α → Prop
  | .ok x lh => ∀ (w' : Wd) (v : β) (H' : Hp), Ext w H w' H' → RelH K w' lh H' → R w' H' x v → Q v H'
  | .exn C x lh => ∀ (w' : Wd) (cls : Value) (d : Option Addr) (H' : Hp), Ext w H w' H' → RelH K w' lh H' → RelX K w' H' C x cls d → W cls d σ H'
  | .no => False
/-- a reading by an evaluator -/
def rd {α β : Type} (R : Rl α β) (f : List Sl → LH → Res α) : L2.St → Hp → (β → Hp → Prop) → Prop := fun σ H Q =>
  ∃ w ls lh, RelH K w lh H ∧ RelS K w ls σ H ∧ Post K W R w H σ Q (f ls lh)
/-- an operation on values -/
def PostV {α β : Type} (R : Rl α β) (w : Wd) (lh : LH) (H : Hp) (Q : β → Hp → Prop) : Option α → Prop
  | some x => ∀ (w' : Wd) (v : β) (H' : Hp), Ext w H w' H' → RelH K w' lh H' → R w' H' x v → Q v H'
  | none => False
end
abbrev RL (K : PySem.W.Frag) : Rl L V := fun w _ x v => RelL K w x v
abbrev RLs (K : PySem.W.Frag) : Rl (List L) (List V) := fun w _ x v => RelLs K w x v
abbrev RB : Rl Bool Bool := fun _ _ a b => a = b
/-- a new object that is nobody's, of which H0 knew nothing -/
abbrev RF (K : PySem.W.Frag) (H0 : Hp) : Rl LO V := fun w H o v => ∃ a ho, v = .ref a ∧ H a = some ho ∧ RelO K w o ho ∧ w.F a = none ∧ a ∉ w.r ∧ H0 a = none
theorem Ext.none {w w' : Wd} {H H' : Hp} (e : Ext w H w' H') {a : Addr} (n : H' a = none) : H a = none := by
  cases q : H a with
  | none => rfl
  | some o =>
    obtain ⟨o', q'⟩ := e.al a o q
    rw [n] at q'
    cases q'
section
variable {K : PySem.W.Frag} {W : WX} {α β γ δ : Type} {R : Rl α β} {R' : Rl γ δ} {w w1 : Wd} {H H1 : Hp} {σ : L2.St} {Q : β → Hp → Prop}
theorem Post.step {r : Res α} (e : Ext w H w1 H1) (p : Post K W R w H σ Q r) : Post K W R w1 H1 σ Q r := by
  cases r with
  | ok x lh => exact fun w' v H' e' => p w' v H' (e.trans e')
  | exn C x lh => exact fun w' cls d H' e' => p w' cls d H' (e.trans e')
  | no => exact p
/-- one after another -/
theorem Post.seq {r : Res γ} {f : γ → LH → Res α} {T : δ → Hp → Prop} (p : Post K W R w H σ Q (r.bind f))
    (k : ∀ x lh, r = .ok x lh → ∀ (w1 : Wd) (v : δ) (H1 : Hp), Ext w H w1 H1 → RelH K w1 lh H1 → R' w1 H1 x v → Post K W R w1 H1 σ Q (f x lh) → T v H1) : Post K W R' w H σ T r := by
  cases r with
  | ok x lh => exact fun w1 v H1 e h q => k x lh rfl w1 v H1 e h q (Post.step e p)
  | exn C x lh => exact p
  | no => exact p
/-- the last one -/
theorem Post.opt {o : Option α} {lh : LH} (p : Post K W R w H σ Q (Res.opt o lh)) : PostV K R w lh H Q o := by
  cases o with
  | some x => exact p
  | none => exact p
theorem PostV.here {lh : LH} {o : Option α} {x : α} {v : β} (p : PostV K R w lh H Q o) (e : o = some x) (h : RelH K w lh H) (r : R w H x v) : Q v H := by
  subst e
  exact p w v H (Ext.refl w H) h r
theorem rd.mk {f : List Sl → LH → Res α} {ls : List Sl} {lh : LH} (h : RelH K w lh H) (s : RelS K w ls σ H) (p : Post K W R w H σ Q (f ls lh)) : rd K W R f σ H Q := ⟨w, ls, lh, h, s, p⟩
end
/-! ### weaker readings -/
section
variable {X : Cx}
theorem PE.imp {e : Expr} {t t' : TE} (h : PE X e t) (k : ∀ σ H Q, t' σ H Q → t σ H Q) : PE X e t' := ⟨fun pins s σ H Q I q => h.run pins s σ H Q I (k σ H Q q)⟩
theorem PT.imp {e : Expr} {t t' : TT} (h : PT X e t) (k : ∀ σ H Q, t' σ H Q → t σ H Q) : PT X e t' := ⟨fun pins s σ H Q I q => h.run pins s σ H Q I (k σ H Q q)⟩
theorem PW.imp {e : Expr} {t t' : TT} (h : PW X e t) (k : ∀ σ H Q, t' σ H Q → t σ H Q) : PW X e t' := ⟨fun wh pins s σ H Q I q => h.run wh pins s σ H Q I (k σ H Q q)⟩
theorem PA.imp {es : List Expr} {t t' : TA} (h : PA X es t) (k : ∀ σ H Q, t' σ H Q → t σ H Q) : PA X es t' := ⟨fun p pins s σ H Q I q => h.run p pins s σ H Q I (k σ H Q q)⟩
theorem PS.imp {e : Stmt} {t t' : TS} (h : PS X e t) (k : ∀ D σ H, t' D σ H → t D σ H) : PS X e t' := ⟨fun pins s σ H D I q => h.run pins s σ H D I (k D σ H q)⟩
theorem PSs.imp {e : List Stmt} {t t' : TS} (h : PSs X e t) (k : ∀ D σ H, t' D σ H → t D σ H) : PSs X e t' := ⟨fun pins s σ H D I q => h.run pins s σ H D I (k D σ H q)⟩
theorem OpR.imp {f : Value → Value → Sem Value} {r r' : R2} (h : OpR X f r) (k : ∀ x y H Q, r' x y H Q → r x y H Q) : OpR X f r' := fun pins s σ H x y v u Q I a b q => h pins s σ H x y v u Q I a b (k x y H Q q)
theorem CallR.imp {f : Value} {r r' : List V → Hp → VK → Prop} (h : CallR X f r) (k : ∀ xs H Q, r' xs H Q → r xs H Q) : CallR X f r' := fun pins s σ H xs us Q I a q => h pins s σ H xs us Q I a (k xs H Q q)
theorem IxR.imp {r r' : R2} (h : IxR X r) (k : ∀ x y H Q, r' x y H Q → r x y H Q) : IxR X r' := fun va sl pins s σ H x y v u Q I a b q => h va sl pins s σ H x y v u Q I a b (k x y H Q q)
theorem MtR.imp {id : String} {r r' : V → List V → Hp → VK → Prop} (h : MtR X id r) (k : ∀ x xs H Q, r' x xs H Q → r x xs H Q) : MtR X id r' := fun pins s σ H x xs v us Q I a b q => h pins s σ H x xs v us Q I a b (k x xs H Q q)
end

/-! ## operators on values -/
inductive BOp where
  | add | sub | mul | fdiv | mod | pow
  deriving DecidableEq
def BOp.op : BOp → Operator
  | .add => .Add | .sub => .Sub | .mul => .Mult | .fdiv => .FloorDiv | .mod => .Mod | .pow => .Pow
def mulOk (i j : Int) : Bool := decide (i.natAbs.log2 + j.natAbs.log2 < 1000000)
def divOk (j : Int) : Bool := decide (j ≠ 0) && decide (j.natAbs.log2 < 9000)
def powOk (i j : Int) : Bool := decide (0 ≤ j) && decide (((i.natAbs.log2 + 1 : Nat) : Int) * j ≤ 100000000)
def evBin : BOp → L → L → Option L
  | .add, .int i, .int j => some (.int (i + j))
  | .add, .str x, .str y => if x.length + y.length ≤ 1000000 then some (.str (x ++ y)) else none
  | .sub, .int i, .int j => some (.int (i - j))
  | .mul, .int i, .int j => if mulOk i j then some (.int (i * j)) else none
  | .fdiv, .int i, .int j => if divOk j then some (.int (i.fdiv j)) else none
  | .mod, .int i, .int j => if j ≠ 0 then some (.int (i.fmod j)) else none
  | .pow, .int i, .int j => if powOk i j then some (.int (i ^ j.toNat)) else none
  | _, _, _ => none
/-- two values in, by a partial function -/
def rd2 (K : PySem.W.Frag) (f : LH → L → L → Option L) : R2 := fun a b H Q => ∃ w x y lh, RelH K w lh H ∧ RelL K w x a ∧ RelL K w y b ∧ PostV K (RL K) w lh H Q (f lh x y)
def rd1 (K : PySem.W.Frag) (f : LH → L → Option L) : V → Hp → VK → Prop := fun a H Q => ∃ w x lh, RelH K w lh H ∧ RelL K w x a ∧ PostV K (RL K) w lh H Q (f lh x)
theorem small_line {n : Nat} (h : n ≤ 1000000) : n ≤ sizeLine := by rw [sizeLine_eq]; omega
section
variable {X : Cx}
theorem op_mulB : OpR X (binaryOp .Mult) (rI (fun i j => mulOk i j = true) fun i j => .int (i * j)) := opI fun i j _ _ _ _ _ hc q => by
  have h : i.natAbs.log2 + j.natAbs.log2 < 1000000 := of_decide_eq_true hc
  exact mul_int q (CMulW.ok h)
theorem op_divB : OpR X (binaryOp .FloorDiv) (rI (fun _ j => divOk j = true) fun i j => .int (i.fdiv j)) := opI fun i j _ _ _ _ _ hc q => by
  have h := Bool.and_eq_true_iff.mp hc
  exact floordiv_int (of_decide_eq_true h.1) q (.inl (PyProof.noPylong_of_log2 (of_decide_eq_true h.2)))
theorem op_powB : OpR X (binaryOp .Pow) (rI (fun i j => powOk i j = true) fun i j => .int (i ^ j.toNat)) := opI fun i j _ _ _ _ _ hc q => by
  have h := Bool.and_eq_true_iff.mp hc
  have h0 : 0 ≤ j := of_decide_eq_true h.1
  have h1 : ((i.natAbs.log2 + 1 : Nat) : Int) * j ≤ 100000000 := of_decide_eq_true h.2
  refine pow_int h0 ?_ q
  have b : Builtin.Int.intBits i ≤ i.natAbs.log2 + 1 := by
    unfold Builtin.Int.intBits
    split <;> omega
  have h2 : (Builtin.Int.intBits i : Int) * j ≤ ((i.natAbs.log2 + 1 : Nat) : Int) * j := Int.mul_le_mul_of_nonneg_right (by omega) h0
  omega
theorem opBin (o : BOp) : OpR X (binaryOp o.op) (rd2 X.K fun _ => evBin o) := by
  cases o with
  | add =>
    refine OpR.imp (op_add.or op_add_str) fun a b H Q h => ?_
    obtain ⟨w, x, y, lh, hh, ra, rb, p⟩ := h
    cases x <;> cases y <;> try exact p.elim
    · simp only [RelL] at ra rb
      subst ra rb
      exact .inl ⟨_, _, rfl, rfl, p.here rfl hh (by show RelL _ _ _ _; simp only [RelL])⟩
    · simp only [RelL] at ra rb
      subst ra rb
      rename_i x y
      by_cases c : x.length + y.length ≤ 1000000
      · exact .inr ⟨_, _, rfl, rfl, small_line c, p.here (if_pos c) hh (by show RelL _ _ _ _; simp only [RelL])⟩
      · simp only [evBin, if_neg c] at p
        exact p.elim
  | sub =>
    refine OpR.imp op_sub fun a b H Q h => ?_
    obtain ⟨w, x, y, lh, hh, ra, rb, p⟩ := h
    cases x <;> cases y <;> try exact p.elim
    simp only [RelL] at ra rb
    subst ra rb
    exact ⟨_, _, rfl, rfl, p.here rfl hh (by show RelL _ _ _ _; simp only [RelL])⟩
  | mul =>
    refine OpR.imp op_mulB fun a b H Q h => ?_
    obtain ⟨w, x, y, lh, hh, ra, rb, p⟩ := h
    cases x <;> cases y <;> try exact p.elim
    simp only [RelL] at ra rb
    subst ra rb
    rename_i i j
    by_cases c : mulOk i j = true
    · exact ⟨_, _, rfl, rfl, c, p.here (if_pos c) hh (by show RelL _ _ _ _; simp only [RelL])⟩
    · simp only [evBin, if_neg c] at p
      exact p.elim
  | fdiv =>
    refine OpR.imp op_divB fun a b H Q h => ?_
    obtain ⟨w, x, y, lh, hh, ra, rb, p⟩ := h
    cases x <;> cases y <;> try exact p.elim
    simp only [RelL] at ra rb
    subst ra rb
    rename_i i j
    by_cases c : divOk j = true
    · exact ⟨_, _, rfl, rfl, c, p.here (if_pos c) hh (by show RelL _ _ _ _; simp only [RelL])⟩
    · simp only [evBin, if_neg c] at p
      exact p.elim
  | mod =>
    refine OpR.imp op_modN fun a b H Q h => ?_
    obtain ⟨w, x, y, lh, hh, ra, rb, p⟩ := h
    cases x <;> cases y <;> try exact p.elim
    simp only [RelL] at ra rb
    subst ra rb
    rename_i i j
    by_cases c : j ≠ 0
    · exact ⟨_, _, rfl, rfl, c, p.here (if_pos c) hh (by show RelL _ _ _ _; simp only [RelL])⟩
    · simp only [evBin, if_neg c] at p
      exact p.elim
  | pow =>
    refine OpR.imp op_powB fun a b H Q h => ?_
    obtain ⟨w, x, y, lh, hh, ra, rb, p⟩ := h
    cases x <;> cases y <;> try exact p.elim
    simp only [RelL] at ra rb
    subst ra rb
    rename_i i j
    by_cases c : powOk i j = true
    · exact ⟨_, _, rfl, rfl, c, p.here (if_pos c) hh (by show RelL _ _ _ _; simp only [RelL])⟩
    · simp only [evBin, if_neg c] at p
      exact p.elim
end
/-! ### data: what == and repr take -/
mutual
def toD : L → Option PyData
  | .non => some .none
  | .bl b => some (.bool b)
  | .int i => some (.int i)
  | .str x => some (.str x)
  | .tup xs => (toDs xs).map .tuple
  | .lst xs => (toDs xs).map .list
  | _ => none
def toDs : List L → Option (List PyData)
  | [] => some []
  | x :: xs => match toD x, toDs xs with
    | some d, some ds => some (d :: ds)
    | _, _ => none
end
mutual
theorem toD_dp {K : PySem.W.Frag} {w : Wd} {H : Hp} (hs : ∀ a o, w.F a = some o → H a = some o) : ∀ {x : L} {d : PyData} {v : V}, toD x = some d → RelL K w x v → Dp K H v d
  | .non, d, v, e, r => by
    simp only [toD, Option.some.injEq] at e
    simp only [RelL] at r
    subst e r
    exact .non
  | .bl b, d, v, e, r => by
    simp only [toD, Option.some.injEq] at e
    simp only [RelL] at r
    subst e r
    exact .bl b
  | .int i, d, v, e, r => by
    simp only [toD, Option.some.injEq] at e
    simp only [RelL] at r
    subst e r
    exact .int i
  | .str x, d, v, e, r => by
    simp only [toD, Option.some.injEq] at e
    simp only [RelL] at r
    subst e r
    exact .str x
  | .tup xs, d, v, e, r => by
    simp only [toD] at e
    simp only [RelL] at r
    obtain ⟨a, vs, rfl, q, l⟩ := r
    cases z : toDs xs with
    | none => rw [z] at e; cases e
    | some ds =>
      rw [z] at e
      cases e
      exact .tup (sqT_mono hs q) (toDs_dp hs z l)
  | .lst xs, d, v, e, r => by
    simp only [toD] at e
    simp only [RelL] at r
    obtain ⟨a, vs, rfl, q, l⟩ := r
    cases z : toDs xs with
    | none => rw [z] at e; cases e
    | some ds =>
      rw [z] at e
      cases e
      exact .lst (SqL.of (hs _ _ q)) (toDs_dp hs z l)
  | .scr _, _, _, e, _ => by simp [toD] at e
  | .ty _, _, _, e, _ => by simp [toD] at e
  | .ins _ _ _, _, _, e, _ => by simp [toD] at e
  | .exc _ _, _, _, e, _ => by simp [toD] at e
  | .obj _, _, _, e, _ => by simp [toD] at e
theorem toDs_dp {K : PySem.W.Frag} {w : Wd} {H : Hp} (hs : ∀ a o, w.F a = some o → H a = some o) : ∀ {xs : List L} {ds : List PyData} {vs : List V}, toDs xs = some ds → RelLs K w xs vs → DpAll K H vs ds
  | [], ds, vs, e, r => by
    simp only [toDs, Option.some.injEq] at e
    rw [r.nil_inv]
    subst e
    exact .nil
  | x :: xs, ds, vs, e, r => by
    obtain ⟨v, t, rfl, a, b⟩ := r.cons_inv
    simp only [toDs] at e
    cases z : toD x with
    | none => rw [z] at e; cases e
    | some d =>
      cases y : toDs xs with
      | none => rw [z, y] at e; cases e
      | some es =>
        rw [z, y] at e
        cases e
        exact .cons (toD_dp hs z a) (toDs_dp hs y b)
end
/-- x == y, of data -/
def eqL (x y : L) : Option Bool := match toD x, toD y with
  | some d, some e => if SeqAt.shaped d && SeqAt.shaped e then some (PyData.eqv d e) else none
  | _, _ => none
inductive COp where
  | eq | ne | lt | le | gt | ge | is | isnot | isin | notin
  deriving DecidableEq
def COp.op : COp → CmpOp
  | .eq => .Eq | .ne => .NotEq | .lt => .Lt | .le => .LtE | .gt => .Gt | .ge => .GtE | .is => .Is | .isnot => .IsNot | .isin => .In | .notin => .NotIn
/-- a text within a text -/
def inStr (x y : Str) : Bool := !(Builtin.Str.occurrences y x 0 y.length 1).isEmpty
def isL : L → L → Option Bool
  | .non, .non => some true
  | .bl _, .non | .int _, .non | .str _, .non | .tup _, .non | .lst _, .non | .scr _, .non | .ins _ _ _, .non | .exc _ _, .non | .obj _, .non | .ty _, .non => some false
  | .bl a, .bl b => some (decide (a = b))
  | _, _ => none
def flatL : L → Bool
  | .non | .bl _ | .int _ | .str _ => true
  | _ => false
def toV : L → V
  | .bl b => .bl b | .int i => .int i | .str x => .str x | _ => .non
def inSeq (x : L) (xs : List L) : Option Bool := if flatL x && xs.all flatL then some (inV (toV x) (xs.map toV)) else none
def evCmp : COp → L → L → Option L
  | .eq, x, y => (eqL x y).map .bl
  | .ne, x, y => (eqL x y).map fun b => .bl (!b)
  | .lt, .int i, .int j => some (.bl (decide (i < j)))
  | .lt, .str i, .str j => some (.bl (decide (i.cps.toList < j.cps.toList)))
  | .le, .int i, .int j => some (.bl (decide (i ≤ j)))
  | .gt, .int i, .int j => some (.bl (decide (j < i)))
  | .ge, .int i, .int j => some (.bl (decide (j ≤ i)))
  | .is, x, y => (isL x y).map .bl
  | .isnot, x, y => (isL x y).map fun b => .bl (!b)
  | .isin, .str x, .str y => some (.bl (inStr x y))
  | .notin, .str x, .str y => some (.bl (!inStr x y))
  | .isin, x, .tup ys => (inSeq x ys).map .bl
  | .isin, x, .lst ys => (inSeq x ys).map .bl
  | .notin, x, .tup ys => (inSeq x ys).map fun b => .bl (!b)
  | .notin, x, .lst ys => (inSeq x ys).map fun b => .bl (!b)
  | _, _, _ => none
theorem flat_rel {K : PySem.W.Frag} {w : Wd} {x : L} {v : V} (f : flatL x = true) (r : RelL K w x v) : v = toV x ∧ flatV v = true := by
  cases x <;> simp only [flatL, Bool.false_eq_true] at f <;> simp only [RelL] at r <;> subst r <;> exact ⟨rfl, rfl⟩
theorem flat_rels {K : PySem.W.Frag} {w : Wd} : ∀ {xs : List L} {vs : List V}, xs.all flatL = true → RelLs K w xs vs → vs = xs.map toV ∧ vs.all flatV = true
  | [], _, _, r => by rw [r.nil_inv]; exact ⟨rfl, rfl⟩
  | x :: xs, _, f, r => by
    obtain ⟨v, t, rfl, a, b⟩ := r.cons_inv
    rw [List.all_cons, Bool.and_eq_true] at f
    obtain ⟨e1, e2⟩ := flat_rel f.1 a
    obtain ⟨e3, e4⟩ := flat_rels f.2 b
    rw [e1, e3]
    rw [e1] at e2
    rw [e3] at e4
    exact ⟨rfl, by rw [List.all_cons, e2, e4]; rfl⟩
theorem rel_non {K : PySem.W.Frag} {w : Wd} {x : L} {v : V} (r : RelL K w x v) : decide (v = .non) = (match x with | .non => true | _ => false) := by
  cases x <;> simp only [RelL] at r
  case non => subst r; rfl
  case bl => subst r; rfl
  case int => subst r; rfl
  case str => subst r; rfl
  case ty => subst r; rfl
  case tup => obtain ⟨a, vs, rfl, _⟩ := r; rfl
  case lst => obtain ⟨a, vs, rfl, _⟩ := r; rfl
  case scr => obtain ⟨a, vs, rfl, _⟩ := r; rfl
  case ins => obtain ⟨a, _, vs, rfl, _⟩ := r; rfl
  case exc => obtain ⟨a, _, vs, rfl, _⟩ := r; rfl
  case obj => obtain ⟨a, rfl, _⟩ := r; rfl
section
variable {X : Cx}
theorem eq_use {K : PySem.W.Frag} {w : Wd} {lh : LH} {H : Hp} {a b : V} {x y : L} {Q : VK} {f : Bool → L} (hh : RelH K w lh H) (ra : RelL K w x a) (rb : RelL K w y b)
    (p : PostV K (RL K) w lh H Q ((eqL x y).map f)) : ∃ d e, Dp K H a d ∧ Dp K H b e ∧ SeqAt.shaped d = true ∧ SeqAt.shaped e = true ∧ PostV K (RL K) w lh H Q (some (f (PyData.eqv d e))) := by
  unfold eqL at p
  cases zx : toD x with
  | none => rw [zx] at p; exact p.elim
  | some d =>
    cases zy : toD y with
    | none => rw [zx, zy] at p; exact p.elim
    | some e =>
      rw [zx, zy] at p
      by_cases c : (SeqAt.shaped d && SeqAt.shaped e) = true
      · simp only [c, if_true] at p
        have c' := Bool.and_eq_true_iff.mp c
        exact ⟨d, e, toD_dp hh.sub zx ra, toD_dp hh.sub zy rb, c'.1, c'.2, p⟩
      · simp only [if_neg c] at p
        exact p.elim
theorem opCmp (hu : X.A.units + 64 < cLine) (o : COp) : OpR X (compareOp o.op) (rd2 X.K fun _ => evCmp o) := by
  cases o with
  | eq =>
    refine OpR.imp (op_eqD hu) fun a b H Q h => ?_
    obtain ⟨w, x, y, lh, hh, ra, rb, p⟩ := h
    obtain ⟨d, e, h1, h2, h3, h4, p⟩ := eq_use hh ra rb p
    exact ⟨d, e, h1, h2, h3, h4, p.here rfl hh (by show RelL _ _ _ _; simp only [RelL])⟩
  | ne =>
    refine OpR.imp (op_neD hu) fun a b H Q h => ?_
    obtain ⟨w, x, y, lh, hh, ra, rb, p⟩ := h
    obtain ⟨d, e, h1, h2, h3, h4, p⟩ := eq_use hh ra rb p
    exact ⟨d, e, h1, h2, h3, h4, p.here rfl hh (by show RelL _ _ _ _; simp only [RelL])⟩
  | lt =>
    refine OpR.imp (op_lt.or op_lt_str) fun a b H Q h => ?_
    obtain ⟨w, x, y, lh, hh, ra, rb, p⟩ := h
    cases x <;> cases y <;> try exact p.elim
    · simp only [RelL] at ra rb
      subst ra rb
      exact .inl ⟨_, _, rfl, rfl, p.here rfl hh (by show RelL _ _ _ _; simp only [RelL])⟩
    · simp only [RelL] at ra rb
      subst ra rb
      exact .inr ⟨_, _, rfl, rfl, p.here rfl hh (by show RelL _ _ _ _; simp only [RelL])⟩
  | le =>
    refine OpR.imp op_le fun a b H Q h => ?_
    obtain ⟨w, x, y, lh, hh, ra, rb, p⟩ := h
    cases x <;> cases y <;> try exact p.elim
    simp only [RelL] at ra rb
    subst ra rb
    exact ⟨_, _, rfl, rfl, p.here rfl hh (by show RelL _ _ _ _; simp only [RelL])⟩
  | gt =>
    refine OpR.imp op_gt fun a b H Q h => ?_
    obtain ⟨w, x, y, lh, hh, ra, rb, p⟩ := h
    cases x <;> cases y <;> try exact p.elim
    simp only [RelL] at ra rb
    subst ra rb
    exact ⟨_, _, rfl, rfl, p.here rfl hh (by show RelL _ _ _ _; simp only [RelL])⟩
  | ge =>
    refine OpR.imp op_ge fun a b H Q h => ?_
    obtain ⟨w, x, y, lh, hh, ra, rb, p⟩ := h
    cases x <;> cases y <;> try exact p.elim
    simp only [RelL] at ra rb
    subst ra rb
    exact ⟨_, _, rfl, rfl, p.here rfl hh (by show RelL _ _ _ _; simp only [RelL])⟩
  | is =>
    refine OpR.imp (op_isN.or op_is_bl) fun a b H Q h => ?_
    obtain ⟨w, x, y, lh, hh, ra, rb, p⟩ := h
    cases y with
    | non =>
      have rn := rel_non ra
      simp only [RelL] at rb
      subst rb
      refine .inl ⟨rfl, ?_⟩
      rw [rn]
      cases x <;> exact p.here rfl hh (by show RelL _ _ _ _; simp only [RelL])
    | bl b =>
      cases x <;> try exact p.elim
      simp only [RelL] at ra rb
      subst ra rb
      exact .inr ⟨_, _, rfl, rfl, p.here rfl hh (by show RelL _ _ _ _; simp only [RelL])⟩
    | _ => cases x <;> exact p.elim
  | isnot =>
    refine OpR.imp (op_notN.or op_isnot_bl) fun a b H Q h => ?_
    obtain ⟨w, x, y, lh, hh, ra, rb, p⟩ := h
    cases y with
    | non =>
      have rn := rel_non ra
      simp only [RelL] at rb
      subst rb
      refine .inl ⟨rfl, ?_⟩
      rw [rn]
      cases x <;> exact p.here rfl hh (by show RelL _ _ _ _; simp only [RelL])
    | bl b =>
      cases x <;> try exact p.elim
      simp only [RelL] at ra rb
      subst ra rb
      exact .inr ⟨_, _, rfl, rfl, p.here rfl hh (by show RelL _ _ _ _; simp only [RelL])⟩
    | _ => cases x <;> exact p.elim
  | isin =>
    refine OpR.imp (op_in_str.or op_in_seq) fun a b H Q h => ?_
    obtain ⟨w, x, y, lh, hh, ra, rb, p⟩ := h
    have seq : ∀ ys vs, RelLs X.K w ys vs → PostV X.K (RL X.K) w lh H Q ((inSeq x ys).map .bl) → flatV a = true ∧ vs.all flatV = true ∧ Q (.bl (inV a vs)) H := fun ys vs rs p => by
      unfold inSeq at p
      by_cases c : (flatL x && ys.all flatL) = true
      · have c' := Bool.and_eq_true_iff.mp c
        obtain ⟨e1, e2⟩ := flat_rel c'.1 ra
        obtain ⟨e3, e4⟩ := flat_rels c'.2 rs
        rw [if_pos c] at p
        refine ⟨e2, e4, ?_⟩
        rw [e1, e3]
        exact p.here rfl hh (by show RelL _ _ _ _; simp only [RelL])
      · rw [if_neg c] at p
        exact p.elim
    cases y with
    | str y =>
      cases x <;> try exact p.elim
      simp only [RelL] at ra rb
      subst ra rb
      exact .inl ⟨_, _, rfl, rfl, p.here rfl hh (by show RelL _ _ _ _; simp only [RelL, inStr])⟩
    | tup ys =>
      have p' : PostV X.K (RL X.K) w lh H Q ((inSeq x ys).map .bl) := by cases x <;> exact p
      simp only [RelL] at rb
      obtain ⟨q, vs, rfl, sq, rs⟩ := rb
      obtain ⟨e1, e2, e3⟩ := seq ys vs rs p'
      exact .inr ⟨q, vs, rfl, .inr (sqT_mono hh.sub sq), e1, e2, e3⟩
    | lst ys =>
      have p' : PostV X.K (RL X.K) w lh H Q ((inSeq x ys).map .bl) := by cases x <;> exact p
      simp only [RelL] at rb
      obtain ⟨q, vs, rfl, sq, rs⟩ := rb
      obtain ⟨e1, e2, e3⟩ := seq ys vs rs p'
      exact .inr ⟨q, vs, rfl, .inl (SqL.of (hh.sub _ _ sq)), e1, e2, e3⟩
    | _ => cases x <;> exact p.elim
  | notin =>
    refine OpR.imp (op_notIn_str.or op_notIn_seq) fun a b H Q h => ?_
    obtain ⟨w, x, y, lh, hh, ra, rb, p⟩ := h
    have seq : ∀ ys vs, RelLs X.K w ys vs → PostV X.K (RL X.K) w lh H Q ((inSeq x ys).map fun b => .bl (!b)) → flatV a = true ∧ vs.all flatV = true ∧ Q (.bl (!inV a vs)) H := fun ys vs rs p => by
      unfold inSeq at p
      by_cases c : (flatL x && ys.all flatL) = true
      · have c' := Bool.and_eq_true_iff.mp c
        obtain ⟨e1, e2⟩ := flat_rel c'.1 ra
        obtain ⟨e3, e4⟩ := flat_rels c'.2 rs
        rw [if_pos c] at p
        refine ⟨e2, e4, ?_⟩
        rw [e1, e3]
        exact p.here rfl hh (by show RelL _ _ _ _; simp only [RelL])
      · rw [if_neg c] at p
        exact p.elim
    cases y with
    | str y =>
      cases x <;> try exact p.elim
      simp only [RelL] at ra rb
      subst ra rb
      exact .inl ⟨_, _, rfl, rfl, p.here rfl hh (by show RelL _ _ _ _; simp only [RelL, inStr])⟩
    | tup ys =>
      have p' : PostV X.K (RL X.K) w lh H Q ((inSeq x ys).map fun b => .bl (!b)) := by cases x <;> exact p
      simp only [RelL] at rb
      obtain ⟨q, vs, rfl, sq, rs⟩ := rb
      obtain ⟨e1, e2, e3⟩ := seq ys vs rs p'
      exact .inr ⟨q, vs, rfl, .inr (sqT_mono hh.sub sq), e1, e2, e3⟩
    | lst ys =>
      have p' : PostV X.K (RL X.K) w lh H Q ((inSeq x ys).map fun b => .bl (!b)) := by cases x <;> exact p
      simp only [RelL] at rb
      obtain ⟨q, vs, rfl, sq, rs⟩ := rb
      obtain ⟨e1, e2, e3⟩ := seq ys vs rs p'
      exact .inr ⟨q, vs, rfl, .inl (SqL.of (hh.sub _ _ sq)), e1, e2, e3⟩
    | _ => cases x <;> exact p.elim
end
end Ev

namespace Ev
open PySem PySem.Spec PyProof.Rows L2

/-! ## built-ins by values -/
def intsOf : List L → Option (List Int)
  | [] => some []
  | .int i :: r => (intsOf r).map (i :: ·)
  | _ :: _ => none
def blsOf : List L → Option (List Bool)
  | [] => some []
  | .bl b :: r => (blsOf r).map (b :: ·)
  | _ :: _ => none
theorem intsOf_map : ∀ ns : List Int, intsOf (ns.map L.int) = some ns
  | [] => rfl
  | n :: ns => by simp [intsOf, intsOf_map ns]
theorem blsOf_map : ∀ bs : List Bool, blsOf (bs.map L.bl) = some bs
  | [] => rfl
  | n :: ns => by simp [blsOf, blsOf_map ns]
theorem intsOf_eq : ∀ {xs : List L} {ns : List Int}, intsOf xs = some ns → xs = ns.map L.int
  | [], ns, h => by
    simp only [intsOf, Option.some.injEq] at h
    subst h
    rfl
  | x :: xs, ns, h => by
    cases x <;> simp only [intsOf, reduceCtorEq] at h
    rename_i i
    cases e : intsOf xs with
    | none => rw [e] at h; cases h
    | some ms =>
      rw [e] at h
      cases h
      rw [intsOf_eq e]
      rfl
theorem blsOf_eq : ∀ {xs : List L} {ns : List Bool}, blsOf xs = some ns → xs = ns.map L.bl
  | [], ns, h => by
    simp only [blsOf, Option.some.injEq] at h
    subst h
    rfl
  | x :: xs, ns, h => by
    cases x <;> simp only [blsOf, reduceCtorEq] at h
    rename_i i
    cases e : blsOf xs with
    | none => rw [e] at h; cases h
    | some ms =>
      rw [e] at h
      cases h
      rw [blsOf_eq e]
      rfl
theorem RelLs.bls {K : PySem.W.Frag} {w : Wd} : ∀ {ns : List Bool} {vs : List V}, RelLs K w (ns.map L.bl) vs → vs = ns.map V.bl
  | [], _, h => h.nil_inv
  | n :: ns, _, h => by
    obtain ⟨v, r, rfl, a, b⟩ := h.cons_inv
    simp only [RelL] at a
    rw [a, b.bls]
    rfl
/-- the greatest, the least of some ints -/
def maxI : List Int → Option Int
  | [] => none
  | n :: ns => some (ns.foldl max n)
def minI : List Int → Option Int
  | [] => none
  | n :: ns => some (ns.foldl min n)
theorem foldl_max : ∀ (ns : List Int) (n : Int), (ns.foldl max n = n ∨ ns.foldl max n ∈ ns) ∧ n ≤ ns.foldl max n ∧ ∀ y ∈ ns, y ≤ ns.foldl max n
  | [], n => ⟨.inl rfl, Int.le_refl _, fun _ h => nomatch h⟩
  | m :: ns, n => by
    obtain ⟨h1, h2, h3⟩ := foldl_max ns (max n m)
    rw [List.foldl_cons]
    refine ⟨?_, by omega, fun y hy => ?_⟩
    · rcases h1 with h1 | h1
      · rw [h1]
        by_cases c : n ≤ m
        · exact .inr (by rw [Int.max_eq_right c]; exact List.mem_cons_self)
        · exact .inl (by rw [Int.max_eq_left (by omega)])
      · exact .inr (List.mem_cons_of_mem _ h1)
    · rcases List.mem_cons.mp hy with e | hy
      · rw [e]; omega
      · exact h3 y hy
theorem foldl_min : ∀ (ns : List Int) (n : Int), (ns.foldl min n = n ∨ ns.foldl min n ∈ ns) ∧ ns.foldl min n ≤ n ∧ ∀ y ∈ ns, ns.foldl min n ≤ y
  | [], n => ⟨.inl rfl, Int.le_refl _, fun _ h => nomatch h⟩
  | m :: ns, n => by
    obtain ⟨h1, h2, h3⟩ := foldl_min ns (min n m)
    rw [List.foldl_cons]
    refine ⟨?_, by omega, fun y hy => ?_⟩
    · rcases h1 with h1 | h1
      · rw [h1]
        by_cases c : n ≤ m
        · exact .inl (by rw [Int.min_eq_left c])
        · exact .inr (by rw [Int.min_eq_right (by omega)]; exact List.mem_cons_self)
      · exact .inr (List.mem_cons_of_mem _ h1)
    · rcases List.mem_cons.mp hy with e | hy
      · rw [e]; omega
      · exact h3 y hy
theorem maxI_one {ns : List Int} {m k : Int} (h : maxI ns = some k) (hm : m ∈ ns) (hg : ∀ y ∈ ns, y ≤ m) : m = k := by
  cases ns with
  | nil => cases h
  | cons n ns =>
    cases h
    obtain ⟨h1, h2, h3⟩ := foldl_max ns n
    have a : ns.foldl max n ≤ m := by
      rcases h1 with h1 | h1
      · rw [h1]; exact hg n List.mem_cons_self
      · exact hg _ (List.mem_cons_of_mem _ h1)
    have b : m ≤ ns.foldl max n := by
      rcases List.mem_cons.mp hm with e | hm
      · rw [e]; exact h2
      · exact h3 m hm
    omega
theorem minI_one {ns : List Int} {m k : Int} (h : minI ns = some k) (hm : m ∈ ns) (hg : ∀ y ∈ ns, m ≤ y) : m = k := by
  cases ns with
  | nil => cases h
  | cons n ns =>
    cases h
    obtain ⟨h1, h2, h3⟩ := foldl_min ns n
    have a : m ≤ ns.foldl min n := by
      rcases h1 with h1 | h1
      · rw [h1]; exact hg n List.mem_cons_self
      · exact hg _ (List.mem_cons_of_mem _ h1)
    have b : ns.foldl min n ≤ m := by
      rcases List.mem_cons.mp hm with e | hm
      · rw [e]; exact h2
      · exact h3 m hm
    omega
/-- some ints in order -/
def sortI (ns : List Int) : List Int := ns.mergeSort fun a b => decide (a ≤ b)
theorem sortI_one {ns ms : List Int} (hp : ms.Perm ns) (hs : ms.Pairwise (· ≤ ·)) : ms = sortI ns := by
  refine List.Perm.eq_of_pairwise (le := fun a b : Int => a ≤ b) (fun a b _ _ h1 h2 => Int.le_antisymm h1 h2) hs ?_ (hp.trans (List.mergeSort_perm ns _).symm)
  have h := List.pairwise_mergeSort (le := fun a b : Int => decide (a ≤ b)) (fun a b c h1 h2 => by simp only [decide_eq_true_eq] at *; omega) (fun a b => by simp only [Bool.or_eq_true, decide_eq_true_eq]; omega) ns
  exact h.imp fun q => of_decide_eq_true q

/-! ### sum, max of a tuple -/
def atN (ns : List Int) (i : Nat) : Int := (ns[i]?).getD 0
theorem ints_at : ∀ {vs : List Value} {ns : List Int} {i : Nat} {v : Value}, IntsAre vs ns → vs[i]? = some v → ∃ t, v = .int (atN ns i) t
  | _, _, _, _, .nil, e => by simp at e
  | _, _, 0, v, .cons i t h, e => by
    simp at e
    subst e
    exact ⟨t, rfl⟩
  | _, _, i + 1, v, .cons k t h, e => by
    have e' : _ := ints_at (i := i) (v := v) h (by simpa using e)
    simpa [atN] using e'
theorem preSum_atN : ∀ (ns : List Int) (k : Nat), k ≤ ns.length → preSum (atN ns) k = (ns.take k).sum
  | ns, 0, _ => by simp [preSum]
  | ns, k + 1, h => by
    have ih := preSum_atN ns k (by omega)
    have hk : k < ns.length := by omega
    rw [preSum, ih, List.take_succ_eq_append_getElem hk, List.sum_append]
    simp [atN, hk]
section
variable {prog : Program} {w : World} {A : Around} {E : Value → Shared → Prop} {s : Shared} {l : Addr} {its : List Value} {ns : List Int} {Q : Value → Shared → Prop}
theorem iter_tupG {Q : Value → Shared → Prop} (hl : IsTup s.heap l its.toArray)
    (h : ∀ s2 : Shared, s2 = { s with heap := s.heap.push { cls := .type "tuple_iterator", data := .fields #[.ref l, .int 0 0] } } → (s2.heap.IsTupleIter s.heap.objs.size l 0 ∧ s2.heap.IsTuple l its.toArray) →
      (∀ b ∈ [s.heap.objs.size, l], b < s2.heap.objs.size) → l ≠ s.heap.objs.size → Q (.ref s.heap.objs.size) s2) : wpAny (model prog w) A (pyIter (.ref l)) Q E s := by
  have hlt : l < s.heap.objs.size := by
    obtain ⟨_, e, _⟩ := hl
    exact Heap.lt_size e
  have up : ∀ b o, s.heap.get? b = some o → (s.heap.push { cls := .type "tuple_iterator", data := .fields #[.ref l, .int 0 0] }).get? b = some o := fun b o e => Heap.get?_push_of_some _ e
  refine wpAny_pyIter_tuple (show s.heap.IsTuple l its.toArray from hl) (h _ rfl ⟨⟨_, Heap.get?_push_size _ rfl, rfl, rfl⟩, ?_⟩ (fun b hb => ?_) (Nat.ne_of_lt hlt))
  · obtain ⟨o, e, r⟩ := hl
    exact ⟨o, up _ _ e, r⟩
  · show b < (s.heap.push _).objs.size
    rw [Heap.size_push]
    rcases List.mem_cons.mp hb with e | hb
    · rw [e]; exact Nat.lt_succ_self _
    · have e : b = l := by simpa using hb
      rw [e]; exact Nat.lt_succ_of_lt hlt
theorem keptT {h' : Heap} (hk : ∀ b o, b ∉ [s.heap.objs.size] → (s.heap.push { cls := .type "tuple_iterator", data := .fields #[.ref l, .int 0 0] }).get? b = some o → h'.get? b = some o) :
    ∀ b o, s.heap.get? b = some o → h'.get? b = some o := fun b o e => by
  refine hk b o (fun hm => ?_) (Heap.get?_push_of_some _ e)
  have hm : b = s.heap.objs.size := by simpa using hm
  exact absurd (hm ▸ Heap.lt_size e) (Nat.lt_irrefl _)
theorem sum_tupG (hh : A.handled = none) (hl : IsTup s.heap l its.toArray) (hi : IntsAre its ns)
    (h : ∀ h' tk t', (∀ b o, s.heap.get? b = some o → h'.get? b = some o) → Q (.int ns.sum t') { s with heap := h', toks := tk }) : wpAny (model prog w) A (call (.builtin "sum") [.ref l]) Q E s := by
  have hn := hi.length
  refine PySem.call_sum_walkG (iter_tupG hl fun s2 e st hfp hlI => ?_)
  subst e
  refine ⟨_, _, _, _, _, _, atN ns, rfl, Walks.tuple (A := A.in1) hh _ l hlI its.toArray, st, hfp, fun i v e => ints_at hi (by simpa using e), fun h' tk t' hk => ?_⟩
  have := h h' tk t' (keptT hk)
  rw [preSum_atN _ _ (by simp; omega), List.take_of_length_le (by simp; omega)]
  exact this
theorem max_tupG (hh : A.handled = none) (hl : IsTup s.heap l its.toArray) (hi : IntsAre its ns) (hne : 0 < ns.length)
    (h : ∀ h' tk M t', (∀ b o, s.heap.get? b = some o → h'.get? b = some o) → M ∈ ns → (∀ a, a ∈ ns → a ≤ M) → Q (.int M t') { s with heap := h', toks := tk }) : wpAny (model prog w) A (call (.builtin "max") [.ref l]) Q E s := by
  have hn := hi.length
  refine PySem.call_max_walk (iter_tupG hl fun s2 e st hfp hlI => ?_)
  subst e
  have hz : its.toArray.size = ns.length := by simp; omega
  refine ⟨_, _, _, _, _, _, _, rfl, Walks.tuple (A := A.in1) hh _ l hlI its.toArray, st, hfp, by rw [hz]; exact hne, CmpOf.ints_gt (atN ns) (fun i v e => ints_at hi (by simpa using e)), fun v h' tk hP hk => ?_⟩
  obtain ⟨h1, h2⟩ := argBest_gt (atN ns) (its.toArray.size - 1)
  rw [hz] at h1 h2 hP
  generalize argBest (fun i j => decide (atN ns i > atN ns j)) (ns.length - 1) = p at h1 h2 hP
  obtain ⟨t, rfl⟩ := ints_at hi (show its[p]? = some v by simpa using hP)
  have hp : p < ns.length := by omega
  refine h h' tk _ t (keptT hk) (by simp [atN, hp]) fun a ha => ?_
  obtain ⟨j, hj, e⟩ := List.getElem_of_mem ha
  have q := h2 j (by omega)
  simpa [atN, hj, e] using q
end
end Ev

namespace Ev
open PySem PySem.Spec PyProof.Rows L2

/-! ## repr of data with great ints -/
mutual
def showB : PyData → Bool
  | .none | .bool _ | .str _ => true
  | .int i => decide (i.natAbs < 10 ^ 4300)
  | .list xs => showBs xs
  | .tuple xs => showBs xs
  | .dict _ => false
def showBs : List PyData → Bool
  | [] => true
  | x :: xs => showB x && showBs xs
end
section
variable {prog : Program} {w : World} {A : Around} {E : Value → Shared → Prop} {s : Shared}
theorem call_reprInt {i : Int} {t : Tok} {Q : Value → Shared → Prop} (hn : s.heap.NoDigits) (hi : i.natAbs < 10 ^ 4300) (h : Q (.str (toString i) s.toks) { s with toks := s.toks + 1 }) :
    wpAny (model prog w) A (call (.builtin "int.__repr__") [.int i t]) Q E s := by
  refine wpAny_call_entry F.slot_int_repr (typeIs_int s i t) F.entry_int_repr ?_ (F.args_int_repr_1 _)
  unfold Builtin.«int.__repr__»
  show wpAny _ _ (do let r ← Builtin.overDigitLimit? i; _) _ _ s
  refine wpAny_bind (overDigitLimit_any hn (fun hlt => ?_) (fun hge => absurd hi (Nat.not_lt.mpr hge)))
  exact wpAny_bind (wpAny_mkStr (wpAny_pure ⟨_, rfl, h⟩) (int_text_fits10 hi))
theorem reprInt_obj {i : Int} {t : Tok} {Q : Value → Shared → Prop} (hu : A.units < cLine) (hn : s.heap.NoDigits) (hi : i.natAbs < 10 ^ 4300) (h : Q (.str (toString i) s.toks) { s with toks := s.toks + 1 }) :
    wpAny (model prog w) A (pyReprObj (.int i t)) Q E s :=
  wpAny_pyReprObj_slot hu (typeIs_int s i t) F.slot_int_repr.toG (call_reprInt hn hi ⟨_, _, rfl, h⟩)
theorem reprK_int {h0 : Heap} {d : Nat} {i : Int} (t : Tok) (hn : h0.NoDigits) (hi : i.natAbs < 10 ^ 4300) : ReprK prog w [] h0 d (.int i t) (toString i) := fun b hb A g E s Q _ _ hu hk h => by
  have hb' : b ≤ sizeLine := by omega
  rw [pyReprUnder_leaf (v := .int i t) hb' (fun _ e => nomatch e)]
  unfold pyRepr
  exact wpAny_bind (reprInt_obj (by omega) (hn.keeps hk) hi (wpAny_pure (h s.heap _ fun _ _ e => e)))
end
section
variable {prog : Program} {w : World} {h0 : Heap}
theorem most_nil {n : Nat} : ReadAtMost h0 n [] := fun _ h => nomatch h
mutual
theorem reprK_data (hn : h0.NoDigits) : ∀ {v : Value} {d : PyData} {as : List Addr}, Reads h0 v d as → showB d = true → d.shown.length ≤ sizeLine →
    ∃ bs, ReadAtMost h0 d.depth bs ∧ ReprK prog w bs h0 d.depth v d.shown
  | _, _, _, .none, _, _ => by
    refine ⟨[], most_nil, ?_⟩
    simp only [PyData.shown]
    exact .of_is ReprIs.none _ _ _
  | _, _, _, .bool b, _, _ => by
    refine ⟨[], most_nil, ?_⟩
    simp only [PyData.shown]
    exact .of_is (ReprIs.bool b) _ _ _
  | _, _, _, .int i t, hs, _ => by
    refine ⟨[], most_nil, ?_⟩
    simp only [PyData.shown]
    exact reprK_int t hn (by simpa only [showB, decide_eq_true_eq] using hs)
  | _, _, _, .str x t, _, hz => by
    refine ⟨[], most_nil, ?_⟩
    simp only [PyData.shown] at hz ⊢
    exact .of_is (ReprIs.str x t hz) _ _ _
  | _, _, _, .list (a := a) (vs := vs) (xs := xs) e1 e2 e3 e4, hs, hz => by
    simp only [PyData.shown] at hz
    simp only [showB] at hs
    obtain ⟨bs, hb, hk⟩ := reprK_datas hn e4 hs fun t ht => Nat.le_trans (listText_mem_le ht) hz
    have whole : Reads h0 (.ref a) (.list xs) _ := .list e1 e2 e3 e4
    have dp : PyData.depthAll xs < (PyData.list xs).depth := by simp only [PyData.depth]; omega
    have out : a ∉ bs := not_mem_of_deeper whole dp hb
    refine ⟨a :: bs, ReadAtMost.cons whole (Nat.le_of_lt dp) hb, ?_⟩
    simp only [PyData.depth, PyData.shown]
    rcases vs with ⟨_ | ⟨x, l⟩⟩
    · cases (show ReadsAll h0 [] xs _ from e4)
      simp only [PyData.shownAll, listText_nil]
      exact ReprK.listEmpty e1 e2 e3
    · refine ReprK.list e1 e2 e3 out (by simpa using hk.length_eq) fun i y e => ?_
      exact hk.item i y (by simpa using e)
  | _, _, _, .tuple (a := a) (xs := xs) e1 e2 e3 e4, hs, hz => by
    simp only [PyData.shown] at hz
    simp only [showB] at hs
    obtain ⟨bs, hb, hk⟩ := reprK_datas hn e4 hs fun t ht => Nat.le_trans (tupleText_mem_le ht) hz
    have whole : Reads h0 (.ref a) (.tuple xs) _ := .tuple e1 e2 e3 e4
    have dp : PyData.depthAll xs < (PyData.tuple xs).depth := by simp only [PyData.depth]; omega
    have out : a ∉ bs := not_mem_of_deeper whole dp hb
    refine ⟨a :: bs, ReadAtMost.cons whole (Nat.le_of_lt dp) hb, ?_⟩
    simp only [PyData.depth, PyData.shown]
    exact ReprK.tuple e1 e2 e3 out hk
  | _, _, _, .dict _ _ _ _ _, hs, _ => by simp [showB] at hs
theorem reprK_datas (hn : h0.NoDigits) : ∀ {vs : List Value} {ds : List PyData} {as : List Addr}, ReadsAll h0 vs ds as → showBs ds = true → (∀ t ∈ PyData.shownAll ds, t.length ≤ sizeLine) →
    ∃ bs, ReadAtMost h0 (PyData.depthAll ds) bs ∧ ReprAllK prog w bs h0 (PyData.depthAll ds) vs (PyData.shownAll ds)
  | _, _, _, .nil, _, _ => by
    refine ⟨[], most_nil, ?_⟩
    simp only [PyData.shownAll]
    exact .nil
  | _, _, _, .cons (d := d) (ds := ds) r rs, hs, hz => by
    simp only [showBs, Bool.and_eq_true] at hs
    simp only [PyData.shownAll, List.mem_cons, forall_eq_or_imp] at hz
    obtain ⟨b1, m1, k1⟩ := reprK_data hn r hs.1 hz.1
    obtain ⟨b2, m2, k2⟩ := reprK_datas hn rs hs.2 hz.2
    simp only [PyData.depthAll, PyData.shownAll]
    refine ⟨b1 ++ b2, fun b hb => ?_, .cons ((k1.more fun b hb => List.mem_append_left _ hb).level_le (by omega)) (k2.more_le (fun b hb => List.mem_append_right _ hb) (by omega))⟩
    rcases List.mem_append.mp hb with hb | hb
    · obtain ⟨d', q', r', l'⟩ := m1 b hb
      exact ⟨d', q', r', by omega⟩
    · obtain ⟨d', q', r', l'⟩ := m2 b hb
      exact ⟨d', q', r', by omega⟩
end
/-- repr(v) of data -/
theorem call_reprD (hn : h0.NoDigits) {v : Value} {d : PyData} {as : List Addr} (r : Reads h0 v d as) (hs : showB d = true) (hz : d.shown.length ≤ sizeLine) {A : Around} {E : Value → Shared → Prop} {s : Shared} {Q : Value → Shared → Prop}
    (hg : A.guards = some []) (hu : A.units + (d.depth + 1) < cLine) (hk : ∀ b o, h0.get? b = some o → s.heap.get? b = some o)
    (hQ : ∀ h' u tk, (∀ b o, s.heap.get? b = some o → h'.get? b = some o) → Q (.str d.shown u) { s with heap := h', toks := tk }) : wpAny (model prog w) A (call (.builtin "repr") [v]) Q E s := by
  have hu1 : A.units + 1 < cLine := by omega
  cases r with
  | none =>
    simp only [PyData.shown] at hQ
    exact PySem.P.repr_of_none (hQ s.heap _ _ fun _ _ e => e)
  | bool b =>
    simp only [PyData.shown] at hQ
    exact PySem.P.repr_of_bool (hQ s.heap _ _ fun _ _ e => e)
  | int i t =>
    simp only [PyData.shown] at hQ
    exact call_repr_slot hu1 (typeIs_int s i t) F.slot_int_repr.toG (call_reprInt (hn.keeps hk) (by simpa only [showB, decide_eq_true_eq] using hs) ⟨_, _, rfl, hQ s.heap _ _ fun _ _ e => e⟩)
  | str x t =>
    simp only [PyData.shown] at hQ hz
    exact PySem.P.repr_of_str (hQ s.heap _ _ fun _ _ e => e) hz
  | list e1 e2 e3 e4 =>
    rename_i a o vs n xs bs0
    simp only [PyData.shown] at hz hQ
    simp only [showB] at hs
    simp only [PyData.depth] at hu
    obtain ⟨bs, hb, kk⟩ := reprK_datas (prog := prog) (w := w) hn e4 hs fun t ht => Nat.le_trans (listText_mem_le ht) hz
    have out : a ∉ bs := not_mem_of_deeper (.list e1 e2 e3 e4) (by simp only [PyData.depth]; omega) hb
    refine call_repr_slot hu1 (T := "list") ⟨o, hk _ _ e1, e2⟩ F.slot_list_repr.toG ?_
    rcases vs with ⟨_ | ⟨x, l⟩⟩
    · cases (show ReadsAll h0 [] xs _ from e4)
      simp only [PyData.shownAll, listText_nil] at hQ
      exact call_list_repr_empty ⟨o, hk _ _ e1, e2⟩ (hk _ _ e1) e3 ⟨_, _, rfl, hQ s.heap _ _ fun _ _ e => e⟩
    · refine call_list_reprK e1 e2 e3 out (by simpa using kk.length_eq) (fun i y e => kk.item i y (by simpa using e)) (A := A.in1) hg (fun b _ => Clear.nil b) ?_ hk (fun h' u tk q => ⟨_, _, rfl, hQ h' u tk q⟩) hz
      show A.units + 1 + _ < cLine
      omega
  | tuple e1 e2 e3 e4 =>
    rename_i a o vs n xs
    simp only [PyData.shown] at hz hQ
    simp only [showB] at hs
    simp only [PyData.depth] at hu
    obtain ⟨bs, hb, kk⟩ := reprK_datas (prog := prog) (w := w) hn e4 hs fun t ht => Nat.le_trans (tupleText_mem_le ht) hz
    have out : a ∉ bs := not_mem_of_deeper (.tuple e1 e2 e3 e4) (by simp only [PyData.depth]; omega) hb
    refine call_repr_slot hu1 (T := "tuple") ⟨o, hk _ _ e1, e2⟩ F.slot_tuple_repr ?_
    refine call_tuple_reprK e1 e2 e3 out kk (A := A.in1) hg (fun b _ => Clear.nil b) ?_ hk (fun h' u tk q => ⟨_, _, rfl, hQ h' u tk q⟩) hz
    show A.units + 1 + _ < cLine
    omega
  | dict _ _ _ _ _ => simp [showB] at hs
end
end Ev

namespace Ev
open PySem PySem.Spec PyProof.Rows L2

/-! ## the built-ins' table -/
inductive Bi where
  | len | abs | int | isinst | sum | all | any | max | min | repr | str | tuple
  deriving DecidableEq
def Bi.name : Bi → Str
  | .len => "len" | .abs => "abs" | .int => "int" | .isinst => "isinstance" | .sum => "sum" | .all => "all" | .any => "any" | .max => "max" | .min => "min" | .repr => "repr" | .str => "str" | .tuple => "tuple"
def Bi.val : Bi → Value
  | .len => .builtin "len" | .abs => .builtin "abs" | .int => .type "int" | .isinst => .builtin "isinstance" | .sum => .builtin "sum" | .all => .builtin "all" | .any => .builtin "any"
  | .max => .builtin "max" | .min => .builtin "min" | .repr => .builtin "repr" | .str => .type "str" | .tuple => .type "tuple"
theorem Bi.boot (b : Bi) : bootBuiltins b.name = some b.val := by cases b <;> decide +kernel
/-- the type of a value -/
def tyName : L → Option String
  | .non => some "NoneType" | .bl _ => some "bool" | .int _ => some "int" | .str _ => some "str" | .tup _ => some "tuple" | .lst _ => some "list" | _ => none
def evIs (x : L) (n : String) : Option L := match tyName x with
  | some t => (kitB t n).map .bl
  | none => none
def evBlt : Bi → LH → List L → Option L
  | .len, _, [.str x] => if x.length ≤ 1000000 then some (.int x.length) else none
  | .len, _, [.tup xs] => some (.int xs.length)
  | .len, _, [.lst xs] => some (.int xs.length)
  | .len, _, [.scr xs] => some (.int xs.length)
  | .len, h, [.obj k] => match h[k]? with
    | some (.lst xs) => some (.int xs.length)
    | _ => none
  | .abs, _, [.int i] => some (.int (if i < 0 then -i else i))
  | .int, _, [.int i] => some (.int i)
  | .int, _, [.bl b] => some (.int (if b then 1 else 0))
  | .isinst, _, [x, .ty n] => evIs x n
  | .sum, _, [.lst xs] => (intsOf xs).map fun ns => .int ns.sum
  | .sum, _, [.tup xs] => (intsOf xs).map fun ns => .int ns.sum
  | .all, _, [.lst xs] => (blsOf xs).map fun bs => .bl (bs.all id)
  | .any, _, [.lst xs] => (blsOf xs).map fun bs => .bl (bs.any id)
  | .max, _, [.lst xs] => match intsOf xs with
    | some ns => (maxI ns).map .int
    | none => none
  | .max, _, [.tup xs] => match intsOf xs with
    | some ns => (maxI ns).map .int
    | none => none
  | .min, _, [.lst xs] => match intsOf xs with
    | some ns => (minI ns).map .int
    | none => none
  | .max, _, [.int i, .int j] => some (.int (if j > i then j else i))
  | .min, _, [.int i, .int j] => some (.int (if j < i then j else i))
  | .repr, _, [x] => match toD x with
    | some d => if showB d && decide (d.depth ≤ 64) && decide (d.shown.length ≤ 1000000) then some (.str d.shown) else none
    | none => none
  | .str, _, [.int i] => if i.natAbs.log2 < 1920 then some (.str (toString i)) else none
  | .tuple, _, [.tup xs] => some (.tup xs)
  | .tuple, _, [.lst xs] => some (.tup xs)
  | _, _, _ => none
def rdN (K : PySem.W.Frag) (f : LH → List L → Option L) : List V → Hp → VK → Prop := fun vs H Q => ∃ w xs lh, RelH K w lh H ∧ RelLs K w xs vs ∧ PostV K (RL K) w lh H Q (f lh xs)
section
variable {K : PySem.W.Frag} {w : Wd} {lh : LH} {H : Hp}
theorem rels1 {x : L} {vs : List V} (h : RelLs K w [x] vs) : ∃ v, vs = [v] ∧ RelL K w x v := by
  obtain ⟨v, r, rfl, a, b⟩ := h.cons_inv
  rw [b.nil_inv]
  exact ⟨v, rfl, a⟩
theorem rels2 {x y : L} {vs : List V} (h : RelLs K w [x, y] vs) : ∃ v u, vs = [v, u] ∧ RelL K w x v ∧ RelL K w y u := by
  obtain ⟨v, r, rfl, a, b⟩ := h.cons_inv
  obtain ⟨u, rfl, c⟩ := rels1 b
  exact ⟨v, u, rfl, a, c⟩
theorem rel_tup {xs : List L} {v : V} (hh : RelH K w lh H) (h : RelL K w (.tup xs) v) : ∃ a vs, v = .ref a ∧ SqT K H a vs ∧ RelLs K w xs vs := by
  simp only [RelL] at h
  obtain ⟨a, vs, e, q, r⟩ := h
  exact ⟨a, vs, e, sqT_mono hh.sub q, r⟩
theorem rel_lstH {xs : List L} {v : V} (hh : RelH K w lh H) (h : RelL K w (.lst xs) v) : ∃ a vs, v = .ref a ∧ H a = some (.lst vs) ∧ RelLs K w xs vs := by
  simp only [RelL] at h
  obtain ⟨a, vs, e, q, r⟩ := h
  exact ⟨a, vs, e, hh.sub _ _ q, r⟩
theorem rel_lst {xs : List L} {v : V} (hh : RelH K w lh H) (h : RelL K w (.lst xs) v) : ∃ a vs, v = .ref a ∧ SqL K H a vs ∧ RelLs K w xs vs := by
  obtain ⟨a, vs, e, q, r⟩ := rel_lstH hh h
  exact ⟨a, vs, e, SqL.of q, r⟩
theorem rel_scr {xs : List L} {v : V} (hh : RelH K w lh H) (h : RelL K w (.scr xs) v) : ∃ a vs, v = .ref a ∧ SqL K H a vs ∧ RelLs K w xs vs := by
  simp only [RelL] at h
  obtain ⟨a, vs, e, q, r⟩ := h
  exact ⟨a, vs, e, sqL_mono hh.sub q, r⟩
theorem rel_objL {k : Nat} {v : V} {xs : List L} (hh : RelH K w lh H) (h : RelL K w (.obj k) v) (e : lh[k]? = some (.lst xs)) : ∃ a vs, v = .ref a ∧ w.r[k]? = some a ∧ H a = some (.lst vs) ∧ RelLs K w xs vs := by
  simp only [RelL] at h
  obtain ⟨a, rfl, q⟩ := h
  obtain ⟨ho, h1, vs, rfl, h3⟩ := hh.obj k _ a e q
  exact ⟨a, vs, rfl, q, h1, h3⟩
theorem rel_int {i : Int} {v : V} (h : RelL K w (.int i) v) : v = .int i := by simpa only [RelL] using h
theorem rel_str {i : Str} {v : V} (h : RelL K w (.str i) v) : v = .str i := by simpa only [RelL] using h
theorem rel_bl {i : Bool} {v : V} (h : RelL K w (.bl i) v) : v = .bl i := by simpa only [RelL] using h
theorem rel_ty {i : String} {v : V} (h : RelL K w (.ty i) v) : v = .ty i := by simpa only [RelL] using h
theorem mk_int (i : Int) : RelL K w (.int i) (.int i) := by simp only [RelL]
theorem mk_str (i : Str) : RelL K w (.str i) (.str i) := by simp only [RelL]
theorem mk_bl (i : Bool) : RelL K w (.bl i) (.bl i) := by simp only [RelL]
theorem mk_non : RelL K w .non .non := by simp only [RelL]
/-- a new tuple -/
theorem PostV.tupNew {Q : VK} {xs : List L} {vs : List V} {o : Option L} (p : PostV K (RL K) w lh H Q o) (e : o = some (.tup xs)) (hh : RelH K w lh H) (r : RelLs K w xs vs) : ∀ q, H q = none → Q (.ref q) (upd H q (.tup vs)) := fun q n => by
  subst e
  refine p (w.put q (.tup vs)) (.ref q) _ (ext_put hh _ n) (hh.put _ n) ?_
  show RelL K _ (.tup xs) _
  simp only [RelL]
  exact ⟨q, vs, rfl, .inl (.inl (by show upd w.F q _ q = _; rw [upd_same])), r.mono (le_put w _ (hh.fresh n))⟩
theorem tyOf_rel {x : L} {v : V} {t : String} (hh : RelH K w lh H) (e : tyName x = some t) (r : RelL K w x v) : TyX K H v (.type t) := by
  cases x with
  | non => cases e; rw [show v = .non by simpa only [RelL] using r]; exact .base .non
  | bl b => cases e; rw [rel_bl r]; exact .base (.bl b)
  | int b => cases e; rw [rel_int r]; exact .base (.int b)
  | str b => cases e; rw [rel_str r]; exact .base (.str b)
  | tup xs =>
    cases e
    obtain ⟨a, vs, rfl, q, _⟩ := rel_tup hh r
    rcases q with (q | ⟨o, q⟩) | ⟨o, its, n, e1, e2, _⟩
    · exact .base (.tup q)
    · exact .fTuple q
    · exact .kTuple e1 e2
  | lst xs =>
    cases e
    obtain ⟨a, vs, rfl, q, _⟩ := rel_lst hh r
    rcases q with (q | ⟨o, q⟩) | ⟨o, its, n, e1, e2, _⟩
    · exact .base (.lst q)
    · exact .base (.frz q)
    · exact .kList e1 e2
  | _ => cases e
end
end Ev

namespace Ev
open PySem PySem.Spec PyProof.Rows L2
theorem PostV.map {K : PySem.W.Frag} {w : Wd} {lh : LH} {H : Hp} {Q : VK} {α : Type} {o : Option α} {f : α → L} (p : PostV K (RL K) w lh H Q (o.map f)) : ∃ a, o = some a ∧ PostV K (RL K) w lh H Q (some (f a)) := by
  cases o with
  | none => exact p.elim
  | some a => exact ⟨a, rfl, p⟩
section
variable {X : Cx}
theorem blt_len : CallR X (.builtin "len") (rdN X.K (evBlt .len)) := by
  refine CallR.imp call_len fun vs H Q h => ?_
  obtain ⟨w, xs, lh, hh, rs, p⟩ := h
  rcases xs with _ | ⟨x, _ | ⟨y, r⟩⟩
  · exact p.elim
  · obtain ⟨v, rfl, rv⟩ := rels1 rs
    cases x <;> try exact p.elim
    case str x =>
      by_cases c : x.length ≤ 1000000
      · rw [rel_str rv]
        exact ⟨_, _, rfl, ⟨small_line c, rfl⟩, p.here (if_pos c) hh (mk_int _)⟩
      · simp only [evBlt, if_neg c] at p
        exact p.elim
    case tup xs =>
      obtain ⟨a, vs, rfl, q, r⟩ := rel_tup hh rv
      exact ⟨_, _, rfl, .inr ⟨vs, q, rfl⟩, p.here rfl hh (by rw [r.length]; exact mk_int _)⟩
    case lst xs =>
      obtain ⟨a, vs, rfl, q, r⟩ := rel_lst hh rv
      exact ⟨_, _, rfl, .inl ⟨vs, q, rfl⟩, p.here rfl hh (by rw [r.length]; exact mk_int _)⟩
    case scr xs =>
      obtain ⟨a, vs, rfl, q, r⟩ := rel_scr hh rv
      exact ⟨_, _, rfl, .inl ⟨vs, q, rfl⟩, p.here rfl hh (by rw [r.length]; exact mk_int _)⟩
    case obj k =>
      simp only [evBlt] at p
      cases e : lh[k]? with
      | none => rw [e] at p; exact p.elim
      | some o =>
        rw [e] at p
        cases o with
        | lst xs =>
          obtain ⟨a, vs, rfl, _, q, r⟩ := rel_objL hh rv e
          exact ⟨_, _, rfl, .inl ⟨vs, SqL.of q, rfl⟩, p.here rfl hh (by rw [r.length]; exact mk_int _)⟩
        | ins C ns xs => exact p.elim
  · cases x <;> exact p.elim
theorem blt_abs : CallR X (.builtin "abs") (rdN X.K (evBlt .abs)) := by
  refine CallR.imp call_abs fun vs H Q h => ?_
  obtain ⟨w, xs, lh, hh, rs, p⟩ := h
  rcases xs with _ | ⟨x, _ | ⟨y, r⟩⟩
  · exact p.elim
  · obtain ⟨v, rfl, rv⟩ := rels1 rs
    cases x <;> try exact p.elim
    rw [rel_int rv]
    exact ⟨_, rfl, p.here rfl hh (mk_int _)⟩
  · cases x <;> exact p.elim
theorem blt_int : CallR X (.type "int") (rdN X.K (evBlt .int)) := by
  refine CallR.imp call_int1 fun vs H Q h => ?_
  obtain ⟨w, xs, lh, hh, rs, p⟩ := h
  rcases xs with _ | ⟨x, _ | ⟨y, r⟩⟩
  · exact p.elim
  · obtain ⟨v, rfl, rv⟩ := rels1 rs
    cases x <;> try exact p.elim
    · rw [rel_bl rv]
      exact .inr ⟨_, rfl, p.here rfl hh (mk_int _)⟩
    · rw [rel_int rv]
      exact .inl ⟨_, rfl, p.here rfl hh (mk_int _)⟩
  · cases x <;> exact p.elim
theorem blt_isinst : CallR X (.builtin "isinstance") (rdN X.K (evBlt .isinst)) := by
  refine CallR.imp call_isi fun vs H Q h => ?_
  obtain ⟨w, xs, lh, hh, rs, p⟩ := h
  rcases xs with _ | ⟨x, _ | ⟨y, _ | ⟨z, r⟩⟩⟩
  · exact p.elim
  · cases x <;> exact p.elim
  · obtain ⟨v, u, rfl, rv, ru⟩ := rels2 rs
    cases y <;> try (cases x <;> exact p.elim)
    rename_i n
    have p : PostV X.K (RL X.K) w lh H Q (evIs x n) := by cases x <;> exact p
    unfold evIs at p
    cases e : tyName x with
    | none => rw [e] at p; exact p.elim
    | some t =>
      rw [e] at p
      obtain ⟨b, e2, p⟩ := p.map
      rw [rel_ty ru]
      exact ⟨v, .ty n, .type t, .type n, b, rfl, .ty n, tyOf_rel hh e rv, kit_ty e2, p.here rfl hh (mk_bl _)⟩
  · cases x <;> cases y <;> exact p.elim
theorem rInts {Q : VK} {w : Wd} {lh : LH} {H : Hp} {xs : List L} {vs : List V} {ns : List Int} (e : intsOf xs = some ns) (r : RelLs X.K w xs vs) : vs = ns.map V.int := by
  rw [intsOf_eq e] at r
  exact r.ints
theorem rSumT : CallR X (.builtin "sum") (fun vs H Q => X.A.handled = none ∧ ∃ (a : Addr) (ns : List Int), vs = [V.ref a] ∧ SqT X.K H a (ns.map V.int) ∧ Q (.int ns.sum) H) := by
  intro pins s σ H vs us Q I rv h
  obtain ⟨hh, a, ns, rfl, q, k⟩ := h
  rw [rv.ref1]
  obtain ⟨its, ri, pt, hz⟩ := I.tuple q
  exact sum_tupG hh pt ri.ints fun h' tk t' kk => ⟨.int ns.sum, H, I.kept kk, ⟨_, rfl⟩, k⟩
theorem rMaxT : CallR X (.builtin "max") (fun vs H Q => X.A.handled = none ∧ ∃ (a : Addr) (ns : List Int), vs = [V.ref a] ∧ SqT X.K H a (ns.map V.int) ∧ 0 < ns.length ∧ ∀ m, m ∈ ns → (∀ y, y ∈ ns → y ≤ m) → Q (.int m) H) := by
  intro pins s σ H vs us Q I rv h
  obtain ⟨hh, a, ns, rfl, q, hl, k⟩ := h
  rw [rv.ref1]
  obtain ⟨its, ri, pt, hz⟩ := I.tuple q
  exact max_tupG hh pt ri.ints hl fun h' tk M t' kk m1 m2 => ⟨.int M, H, I.kept kk, ⟨_, rfl⟩, k M m1 m2⟩
theorem blt_sum (hc : X.calm = true) (hd : X.A.handled = none) : CallR X (.builtin "sum") (rdN X.K (evBlt .sum)) := by
  refine CallR.imp ((cr_sum hc).or rSumT) fun vs H Q h => ?_
  obtain ⟨w, xs, lh, hh, rs, p⟩ := h
  rcases xs with _ | ⟨x, _ | ⟨y, r⟩⟩
  · exact p.elim
  · obtain ⟨v, rfl, rv⟩ := rels1 rs
    cases x <;> try exact p.elim
    case tup xs =>
      obtain ⟨a, vs, rfl, q, r⟩ := rel_tup hh rv
      obtain ⟨ns, e, p⟩ := p.map
      rw [intsOf_eq e] at r
      rw [r.ints] at q
      exact .inr ⟨hd, a, ns, rfl, q, p.here rfl hh (mk_int _)⟩
    case lst xs =>
      obtain ⟨a, vs, rfl, q, r⟩ := rel_lst hh rv
      obtain ⟨ns, e, p⟩ := p.map
      rw [intsOf_eq e] at r
      rw [r.ints] at q
      exact .inl ⟨a, ns, rfl, q, p.here rfl hh (mk_int _)⟩
  · cases x <;> exact p.elim
theorem blt_all (hc : X.calm = true) : CallR X (.builtin "all") (rdN X.K (evBlt .all)) := by
  refine CallR.imp (cr_all hc) fun vs H Q h => ?_
  obtain ⟨w, xs, lh, hh, rs, p⟩ := h
  rcases xs with _ | ⟨x, _ | ⟨y, r⟩⟩
  · exact p.elim
  · obtain ⟨v, rfl, rv⟩ := rels1 rs
    cases x <;> try exact p.elim
    obtain ⟨a, vs, rfl, q, r⟩ := rel_lst hh rv
    obtain ⟨ns, e, p⟩ := p.map
    rw [blsOf_eq e] at r
    rw [r.bls] at q
    exact ⟨a, ns, rfl, q, p.here rfl hh (mk_bl _)⟩
  · cases x <;> exact p.elim
theorem blt_any (hc : X.calm = true) : CallR X (.builtin "any") (rdN X.K (evBlt .any)) := by
  refine CallR.imp (cr_any hc) fun vs H Q h => ?_
  obtain ⟨w, xs, lh, hh, rs, p⟩ := h
  rcases xs with _ | ⟨x, _ | ⟨y, r⟩⟩
  · exact p.elim
  · obtain ⟨v, rfl, rv⟩ := rels1 rs
    cases x <;> try exact p.elim
    obtain ⟨a, vs, rfl, q, r⟩ := rel_lst hh rv
    obtain ⟨ns, e, p⟩ := p.map
    rw [blsOf_eq e] at r
    rw [r.bls] at q
    exact ⟨a, ns, rfl, q, p.here rfl hh (mk_bl _)⟩
  · cases x <;> exact p.elim
theorem maxI_pos {ns : List Int} {k : Int} (h : maxI ns = some k) : 0 < ns.length := by
  cases ns with
  | nil => cases h
  | cons n ns => simp
theorem minI_pos {ns : List Int} {k : Int} (h : minI ns = some k) : 0 < ns.length := by
  cases ns with
  | nil => cases h
  | cons n ns => simp
theorem blt_max (hc : X.calm = true) (hd : X.A.handled = none) : CallR X (.builtin "max") (rdN X.K (evBlt .max)) := by
  refine CallR.imp ((cr_max hc).or (rMaxT.or (call_max2 hc))) fun vs H Q h => ?_
  obtain ⟨w, xs, lh, hh, rs, p⟩ := h
  rcases xs with _ | ⟨x, _ | ⟨y, _ | ⟨z, r⟩⟩⟩
  · exact p.elim
  · obtain ⟨v, rfl, rv⟩ := rels1 rs
    cases x <;> try exact p.elim
    case tup xs =>
      obtain ⟨a, vs, rfl, q, r⟩ := rel_tup hh rv
      simp only [evBlt] at p
      cases e : intsOf xs with
      | none => rw [e] at p; exact p.elim
      | some ns =>
        rw [e] at p
        obtain ⟨k, ek, p⟩ := p.map
        rw [intsOf_eq e] at r
        rw [r.ints] at q
        exact .inr (.inl ⟨hd, a, ns, rfl, q, maxI_pos ek, fun m h1 h2 => by rw [maxI_one ek h1 h2]; exact p.here rfl hh (mk_int _)⟩)
    case lst xs =>
      obtain ⟨a, vs, rfl, q, r⟩ := rel_lst hh rv
      simp only [evBlt] at p
      cases e : intsOf xs with
      | none => rw [e] at p; exact p.elim
      | some ns =>
        rw [e] at p
        obtain ⟨k, ek, p⟩ := p.map
        rw [intsOf_eq e] at r
        rw [r.ints] at q
        exact .inl ⟨a, ns, rfl, q, maxI_pos ek, fun m h1 h2 => by rw [maxI_one ek h1 h2]; exact p.here rfl hh (mk_int _)⟩
  · obtain ⟨v, u, rfl, rv, ru⟩ := rels2 rs
    cases x <;> cases y <;> try exact p.elim
    rw [rel_int rv, rel_int ru]
    exact .inr (.inr ⟨_, _, rfl, p.here rfl hh (mk_int _)⟩)
  · cases x <;> cases y <;> exact p.elim
theorem blt_min (hc : X.calm = true) : CallR X (.builtin "min") (rdN X.K (evBlt .min)) := by
  refine CallR.imp ((cr_min hc).or (call_min2 hc)) fun vs H Q h => ?_
  obtain ⟨w, xs, lh, hh, rs, p⟩ := h
  rcases xs with _ | ⟨x, _ | ⟨y, _ | ⟨z, r⟩⟩⟩
  · exact p.elim
  · obtain ⟨v, rfl, rv⟩ := rels1 rs
    cases x <;> try exact p.elim
    obtain ⟨a, vs, rfl, q, r⟩ := rel_lst hh rv
    simp only [evBlt] at p
    rename_i xs
    cases e : intsOf xs with
    | none => rw [e] at p; exact p.elim
    | some ns =>
      rw [e] at p
      obtain ⟨k, ek, p⟩ := p.map
      rw [intsOf_eq e] at r
      rw [r.ints] at q
      exact .inl ⟨a, ns, rfl, q, minI_pos ek, fun m h1 h2 => by rw [minI_one ek h1 h2]; exact p.here rfl hh (mk_int _)⟩
  · obtain ⟨v, u, rfl, rv, ru⟩ := rels2 rs
    cases x <;> cases y <;> try exact p.elim
    rw [rel_int rv, rel_int ru]
    exact .inr ⟨_, _, rfl, p.here rfl hh (mk_int _)⟩
  · cases x <;> cases y <;> exact p.elim
theorem blt_repr (hg : X.A.guards = some []) (hu : X.A.units + 200 < cLine) (nd : X.base.NoDigits) : CallR X (.builtin "repr") (rdN X.K (evBlt .repr)) := by
  intro pins s σ H vs us Q I rv h
  obtain ⟨w, xs, lh, hh, rs, p⟩ := h
  rcases xs with _ | ⟨x, _ | ⟨y, r⟩⟩
  · exact p.elim
  · obtain ⟨v, rfl, rx⟩ := rels1 rs
    obtain ⟨u, rfl, ru⟩ := vals1 rv
    have p : PostV X.K (RL X.K) w lh H Q (match toD x with
      | some d => if showB d && decide (d.depth ≤ 64) && decide (d.shown.length ≤ 1000000) then some (.str d.shown) else none
      | none => none) := by cases x <;> exact p
    cases e : toD x with
    | none => rw [e] at p; exact p.elim
    | some d =>
      rw [e] at p
      by_cases c : (showB d && decide (d.depth ≤ 64) && decide (d.shown.length ≤ 1000000)) = true
      · simp only [if_pos c] at p
        simp only [Bool.and_eq_true, decide_eq_true_eq] at c
        obtain ⟨as, rd⟩ := Dp.reads I d v u (toD_dp hh.sub e rx) ru
        refine call_reprD (nd.keeps I.bk) rd c.1.1 (small_line c.2) hg (by omega) (fun _ _ q => q) fun h' t tk k => ?_
        exact ⟨.str d.shown, H, I.kept k, ⟨_, rfl⟩, p.here rfl hh (mk_str _)⟩
      · simp only [if_neg c] at p
        exact p.elim
  · cases x <;> exact p.elim
theorem blt_str : CallR X (.type "str") (rdN X.K (evBlt .str)) := by
  refine CallR.imp call_str_int fun vs H Q h => ?_
  obtain ⟨w, xs, lh, hh, rs, p⟩ := h
  rcases xs with _ | ⟨x, _ | ⟨y, r⟩⟩
  · exact p.elim
  · obtain ⟨v, rfl, rv⟩ := rels1 rs
    cases x <;> try exact p.elim
    rename_i i
    by_cases c : i.natAbs.log2 < 1920
    · rw [rel_int rv]
      exact ⟨_, rfl, c, p.here (if_pos c) hh (mk_str _)⟩
    · simp only [evBlt, if_neg c] at p
      exact p.elim
  · cases x <;> exact p.elim
theorem blt_tuple : CallR X (.type "tuple") (rdN X.K (evBlt .tuple)) := by
  refine CallR.imp call_tuple_of fun vs H Q h => ?_
  obtain ⟨w, xs, lh, hh, rs, p⟩ := h
  rcases xs with _ | ⟨x, _ | ⟨y, r⟩⟩
  · exact p.elim
  · obtain ⟨v, rfl, rv⟩ := rels1 rs
    cases x <;> try exact p.elim
    case tup xs =>
      obtain ⟨a, vs, rfl, q, r⟩ := rel_tup hh rv
      exact ⟨a, vs, rfl, .inr ⟨q, p.here rfl hh rv⟩⟩
    case lst xs =>
      obtain ⟨a, vs, rfl, q, r⟩ := rel_lst hh rv
      exact ⟨a, vs, rfl, .inl ⟨q, p.tupNew rfl hh r⟩⟩
  · cases x <;> exact p.elim
theorem bltOk (hc : X.calm = true) (hd : X.A.handled = none) (hg : X.A.guards = some []) (hu : X.A.units + 200 < cLine) (nd : X.base.NoDigits) (b : Bi) : CallR X b.val (rdN X.K (evBlt b)) := by
  cases b with
  | len => exact blt_len
  | abs => exact blt_abs
  | int => exact blt_int
  | isinst => exact blt_isinst
  | sum => exact blt_sum hc hd
  | all => exact blt_all hc
  | any => exact blt_any hc
  | max => exact blt_max hc hd
  | min => exact blt_min hc
  | repr => exact blt_repr hg hu nd
  | str => exact blt_str
  | tuple => exact blt_tuple
end
end Ev

namespace Ev
open PySem PySem.Spec PyProof.Rows L2

/-! ## the syntax -/
/-- a target of plain names, perhaps nested -/
inductive Tg where
  | n (i : Nat) | t (ts : List Tg)
mutual
inductive ME where
  | var (i : Nat) | con (j : Nat)
  | int (i : Int) | str (x : Str) | bl (b : Bool) | non
  | ty (x : Str) (n : String)
  | tup (es : List ME)
  | bin (o : BOp) (a b : ME) | neg (a : ME)
  | cmp (o : COp) (a b : ME) | chn (o p : COp) (a b c : ME)
  | not (a : ME) | and (es : List ME) | or (es : List ME)
  | ife (c a b : ME)
  | idx (a i : ME)
  | slc (a : ME) (lo hi : MO)
  | call (f : Nat) (es : List ME)
  | blt (b : Bi) (es : List ME)
  | fr (f : MF) | hp (f : MF)
inductive MO where
  | no | some (e : ME)
inductive MF where
  | lst (es : List ME)
  | list (a : ME) | sorted (a : ME)
  | rev (a : ME) | slc (a : ME) (lo hi : MO)
  | cat (a b : ME) | rep (a b : ME)
  | rng (a : ME)
  | comp (e : ME) (t : Tg) (it : MI) (cs : List ME)
inductive MI where
  | val (a : ME) | rng1 (a : ME) | rng2 (a b : ME) | zip (a b : ME) | enm (a : ME) | rev (a : ME)
end
structure FnE where
  name : Str
  ps : List Str
  dfl : List L
  ar : List Nat
structure Tab where
  con : List (Str × L)
  fns : List FnE

/-! ## the evaluator -/
def slotV (ls : List Sl) (i : Nat) : Option L := match ls[i]? with
  | some (.sh x) => some x
  | _ => none
def evIdx (h : LH) (x i : L) : Option L := match x, i with
  | .tup xs, .int i => atI xs i
  | .lst xs, .int i => atI xs i
  | .scr xs, .int i => atI xs i
  | .str x, .int i => if x.length ≤ 1000000 then (atI x.cps.toList i).map fun c => .str ⟨#[c]⟩ else none
  | .obj k, .int i => match h[k]? with
    | some (.lst xs) => atI xs i
    | _ => none
  | _, _ => none
def cutL (xs : List L) (lo hi : Option Int) : List L := (xs.drop (HT.sIx xs.length 0 lo)).take (HT.sIx xs.length xs.length hi - HT.sIx xs.length 0 lo)
/-- a slice of a tuple, of a text -/
def evSlc (x : L) (lo hi : Option Int) : Option L := match x with
    | .tup xs => some (.tup (cutL xs lo hi))
    | .str x => if x.length ≤ 1000000 then some (.str (cutS x lo hi)) else none
    | _ => none
def evSlcL (x : L) (lo hi : Option Int) : Option LO := match x with
    | .lst xs => some (.lst (cutL xs lo hi))
    | .scr xs => some (.lst (cutL xs lo hi))
    | _ => none
def asgT : Tg → L → List Sl → Option (List Sl)
  | .n i, x, ls => if i < ls.length then some (ls.set i (.sh x)) else none
  | .t ts, .tup xs, ls => if ts.length = xs.length then asgTs ts xs ls else none
  | .t _, _, _ => none
where asgTs : List Tg → List L → List Sl → Option (List Sl)
  | [], _, ls => some ls
  | t :: ts, x :: xs, ls => (asgT t x ls).bind fun ls => asgTs ts xs ls
  | _ :: _, [], _ => none
mutual
def slotsT : Tg → List Nat
  | .n i => [i]
  | .t ts => slotsTs ts
def slotsTs : List Tg → List Nat
  | [] => []
  | t :: ts => slotsT t ++ slotsTs ts
end
/-- slots forgotten -/
def wipeL (ls : List Sl) : List Nat → List Sl
  | [] => ls
  | v :: vs => (wipeL ls vs).set v .no
def rngL (lo : Int) (n : Nat) : List L := (List.range n).map fun i => .int (lo + (i : Nat))
def rngOk (i : Int) : Bool := decide (-(2 ^ 60) ≤ i) && decide (i ≤ 10000000)
def zipL : List L → List L → List L
  | x :: xs, y :: ys => .tup [x, y] :: zipL xs ys
  | _, _ => []
def enmL : Nat → List L → List L
  | _, [] => []
  | n, x :: xs => .tup [.int n, x] :: enmL (n + 1) xs
/-- what may be walked -/
def seqB : L → Option (List L)
  | .tup xs => some xs
  | .lst xs => some xs
  | .scr xs => some xs
  | _ => none
/-- no exception goes out of a comprehension here -/
def Res.calm {α : Type} : Res α → Res α
  | .ok x h => .ok x h
  | _ => .no
def frzL : LO → L
  | .lst xs => .lst xs
  | .ins C ns vs => .ins C ns vs
def boolR (r : Res L) : Res Bool := r.bind fun x h => match x with
  | .bl b => .ok b h
  | _ => .no
section
variable (T : Tab) (R : Nat → List L → LH → Res L)
/-- the comprehension's turns -/
def turns (f : List Sl → LH → Res L) (cs : List Sl → LH → Res Bool) (t : Tg) (ls : List Sl) : List L → List L → LH → Res LO
  | [], acc, h => .ok (.lst acc) h
  | x :: xs, acc, h => match asgT t x ls with
    | none => .no
    | some ls' => (cs ls' h).bind fun b h => if b then (f ls' h).bind fun y h => if acc.length < 10000000 then turns f cs t ls xs (acc ++ [y]) h else .no else turns f cs t ls xs acc h
mutual
def evE : ME → List Sl → LH → Res L
  | .var i, ls, h => .opt (slotV ls i) h
  | .con j, _, h => .opt ((T.con[j]?).map (·.2)) h
  | .int i, _, h => .ok (.int i) h
  | .str x, _, h => .ok (.str x) h
  | .bl b, _, h => .ok (.bl b) h
  | .non, _, h => .ok .non h
  | .ty _ n, _, h => .ok (.ty n) h
  | .tup es, ls, h => (evEs es ls h).bind fun xs h => .ok (.tup xs) h
  | .bin o a b, ls, h => (evE a ls h).bind fun x h => (evE b ls h).bind fun y h => .opt (evBin o x y) h
  | .neg a, ls, h => (evE a ls h).bind fun x h => match x with
    | .int i => .ok (.int (-i)) h
    | _ => .no
  | .cmp o a b, ls, h => (evE a ls h).bind fun x h => (evE b ls h).bind fun y h => .opt (evCmp o x y) h
  | .chn o p a b c, ls, h => (evE a ls h).bind fun x h => (evE b ls h).bind fun y h => match evCmp o x y with
    | some (.bl true) => (evE c ls h).bind fun z h => .opt (evCmp p y z) h
    | some (.bl false) => .ok (.bl false) h
    | _ => .no
  | .not a, ls, h => (boolR (evE a ls h)).bind fun b h => .ok (.bl (!b)) h
  | .and es, ls, h => evAnd es ls h
  | .or es, ls, h => evOr es ls h
  | .ife c a b, ls, h => (boolR (evE c ls h)).bind fun k h => if k then evE a ls h else evE b ls h
  | .idx a i, ls, h => (evE a ls h).bind fun x h => (evE i ls h).bind fun y h => .opt (evIdx h x y) h
  | .slc a lo hi, ls, h => (evE a ls h).bind fun x h => (evO lo ls h).bind fun l h => (evO hi ls h).bind fun u h => .opt (evSlc x l u) h
  | .call f es, ls, h => (evEs es ls h).bind fun xs h => match T.fns[f]? with
    | some fe => R f (xs ++ fe.dfl.drop (fe.dfl.length - (fe.ps.length - xs.length))) h
    | none => .no
  | .blt b es, ls, h => (evEs es ls h).bind fun xs h => .opt (evBlt b h xs) h
  | .fr f, ls, h => (evF f ls h).bind fun o h => .ok (frzL o) h
  | .hp f, ls, h => (evF f ls h).bind fun o h => .ok (.obj h.length) (h ++ [o])
def evEs : List ME → List Sl → LH → Res (List L)
  | [], _, h => .ok [] h
  | e :: es, ls, h => (evE e ls h).bind fun x h => (evEs es ls h).bind fun xs h => .ok (x :: xs) h
def evAnd : List ME → List Sl → LH → Res L
  | [], _, _ => .no
  | [e], ls, h => evE e ls h
  | e :: es, ls, h => (boolR (evE e ls h)).bind fun b h => if b then evAnd es ls h else .ok (.bl false) h
def evOr : List ME → List Sl → LH → Res L
  | [], _, _ => .no
  | [e], ls, h => evE e ls h
  | e :: es, ls, h => (boolR (evE e ls h)).bind fun b h => if b then .ok (.bl true) h else evOr es ls h
def evO : MO → List Sl → LH → Res (Option Int)
  | .no, _, h => .ok none h
  | .some e, ls, h => (evE e ls h).bind fun x h => match x with
    | .int i => .ok (some i) h
    | _ => .no
def evF : MF → List Sl → LH → Res LO
  | .lst es, ls, h => (evEs es ls h).bind fun xs h => .ok (.lst xs) h
  | .list a, ls, h => (evE a ls h).bind fun x h => .opt ((seqB x).map .lst) h
  | .sorted a, ls, h => (evE a ls h).bind fun x h => .opt ((seqB x).bind fun xs => (intsOf xs).map fun ns => .lst ((sortI ns).map .int)) h
  | .rev a, ls, h => (evE a ls h).bind fun x h => match x with
    | .lst xs => .ok (.lst xs.reverse) h
    | _ => .no
  | .slc a lo hi, ls, h => (evE a ls h).bind fun x h => (evO lo ls h).bind fun l h => (evO hi ls h).bind fun u h => .opt (evSlcL x l u) h
  | .cat a b, ls, h => (evE a ls h).bind fun x h => (evE b ls h).bind fun y h => match x, y with
    | .lst xs, .lst ys => if xs.length + ys.length ≤ 1000000 then .ok (.lst (xs ++ ys)) h else .no
    | _, _ => .no
  | .rep a b, ls, h => (evE a ls h).bind fun x h => (evE b ls h).bind fun y h => match x, y with
    | .lst xs, .int k => if -(2 ^ 60) ≤ k ∧ k ≤ 1000000 ∧ xs.length * k.toNat ≤ 1000000 then .ok (.lst (List.replicate k.toNat xs).flatten) h else .no
    | _, _ => .no
  | .rng a, ls, h => (evE a ls h).bind fun x h => match x with
      | .int i => if rngOk i then .ok (.lst (rngL 0 i.toNat)) h else .no
      | _ => .no
  | .comp e t it cs, ls, h => (evI it ls h).bind fun xs h => turns (fun ls h => (evE e ls h).calm) (fun ls h => (evC cs ls h).calm) t (wipeL ls (slotsT t)) xs [] h
def evC : List ME → List Sl → LH → Res Bool
  | [], _, h => .ok true h
  | [c], ls, h => boolR (evE c ls h)
  | _, _, _ => .no
def evI : MI → List Sl → LH → Res (List L)
  | .val a, ls, h => (evE a ls h).bind fun x h => match x with
    | .tup xs => .ok xs h
    | .lst xs => .ok xs h
    | .scr xs => .ok xs h
    | .str x => .ok (x.cps.toList.map fun c => .str ⟨#[c]⟩) h
    | _ => .no
  | .rng1 a, ls, h => (evE a ls h).bind fun x h => match x with
    | .int i => if rngOk i then .ok (rngL 0 i.toNat) h else .no
    | _ => .no
  | .rng2 a b, ls, h => (evE a ls h).bind fun x h => (evE b ls h).bind fun y h => match x, y with
    | .int i, .int j => if rngOk i && rngOk j then .ok (rngL i (j - i).toNat) h else .no
    | _, _ => .no
  | .zip a b, ls, h => (evE a ls h).bind fun x h => (evE b ls h).bind fun y h => match seqB x, seqB y with
    | some xs, some ys => .ok (zipL xs ys) h
    | _, _ => .no
  | .enm a, ls, h => (evE a ls h).bind fun x h => .opt ((seqB x).map (enmL 0)) h
  | .rev a, ls, h => (evE a ls h).bind fun x h => .opt ((seqB x).map List.reverse) h
end
end
end Ev

namespace Ev
open PySem PySem.Spec PyProof.Rows L2

/-! ## zip, enumerate over lists and tuples -/
/-- k: a tuple, else a list -/
def SqB (K : PySem.W.Frag) (k : Bool) (H : Hp) (a : Addr) (xs : List V) : Prop := match k with
  | true => SqT K H a xs
  | false => SqL K H a xs
def IterB (k : Bool) (h : Heap) (it a : Addr) (i : Nat) : Prop := match k with
  | true => h.IsTupleIter it a i
  | false => h.IsListIter it a i
def DataB (k : Bool) (h : Heap) (a : Addr) (items : Array Value) : Prop := match k with
  | true => h.IsTuple a items
  | false => h.IsList a items
def itObj (k : Bool) (a : Addr) : Obj := { cls := .type (if k then "tuple_iterator" else "list_iterator"), data := .fields #[.ref a, .int 0 0] }
section
variable {X : Cx} {pins : List (Addr × Obj)} {σ : L2.St} {H : Hp} {s : Shared} {a : Addr} {xs ys : List V} {k : Bool}
theorem sqB (I : Inv X pins σ H s) (h : SqB X.K k H a xs) : ∃ its : List Value, Vals xs its ∧ DataB k s.heap a its.toArray := by
  cases k with
  | true =>
    obtain ⟨its, r, p, _⟩ := I.tuple h
    exact ⟨its, r, p⟩
  | false =>
    obtain ⟨its, r, p, _⟩ := I.list h
    exact ⟨its, r, p.isList⟩
theorem sqB_inj (I : Inv X pins σ H s) (h : SqB X.K k H a xs) (h' : SqB X.K k H a ys) : xs = ys := by
  cases k with
  | true => exact I.tuple_inj h h'
  | false => exact I.list_inj h h'
theorem dataB_lt {h : Heap} {items : Array Value} (d : DataB k h a items) : a < h.objs.size := by
  cases k with
  | true => obtain ⟨_, e, _⟩ := d; exact Heap.lt_size e
  | false => obtain ⟨_, e, _⟩ := d; exact Heap.lt_size e
theorem iterB_at {h h' : Heap} {it : Addr} {i : Nat} (x : IterB k h it a i) (e : ∀ o, h.get? it = some o → h'.get? it = some o) : IterB k h' it a i := by
  cases k with
  | true => exact Heap.IsTupleIter.at x e
  | false => exact Heap.IsListIter.at x e
theorem iterB_obj {h : Heap} {it : Addr} {i : Nat} (x : IterB k h it a i) : ∃ o, h.get? it = some o ∧ ∀ v, o.data ≠ .cell v := by
  cases k with
  | true => obtain ⟨o, e, _, d⟩ := x; exact ⟨o, e, fun v q => by rw [d] at q; cases q⟩
  | false => obtain ⟨o, e, _, d⟩ := x; exact ⟨o, e, fun v q => by rw [d] at q; cases q⟩
theorem iterB_new {h : Heap} {it : Addr} (e : h.get? it = some (itObj k a)) : IterB k h it a 0 := by
  cases k with
  | true => exact ⟨_, e, rfl, rfl⟩
  | false => exact ⟨_, e, rfl, rfl⟩
theorem iterB_ne {h : Heap} {it : Addr} {i : Nat} {items : Array Value} (x : IterB k h it a i) (d : DataB k h a items) : a ≠ it := fun e => by
  subst e
  cases k with
  | true =>
    obtain ⟨o, e1, _, d1⟩ := x
    obtain ⟨o', e2, _, n, d2⟩ := d
    rw [e1] at e2
    cases e2
    rw [d1] at d2
    cases d2
  | false =>
    obtain ⟨o, e1, c1, d1⟩ := x
    obtain ⟨o', e2, c2, r⟩ := d
    rw [e1] at e2
    cases e2
    rw [c1] at c2
    exact absurd c2 (by simp)
theorem drawsB {prog : Program} {w : World} {A : Around} (hh : A.handled = none) (it : Addr) (hne : a ≠ it) (items : Array Value) :
    Draws prog w A it [it, a] items.size (fun i v => items[i]? = some v) (fun i h => IterB k h it a i ∧ DataB k h a items) := by
  cases k with
  | true => exact Draws.tuple hh it a hne items
  | false => exact Draws.list hh it a hne items
theorem beginsB (items : Array Value) : Begins (.ref a) (itObj k a) fun h => DataB k h a items := by
  cases k with
  | true => exact begins_tuple a items
  | false => exact begins_list a items
end
def ItzB (K : PySem.W.Frag) (k l : Bool) (a b : Addr) : It where
  go := fun i H => ∃ (xs ys : List V) (x y : V), SqB K k H a xs ∧ SqB K l H b ys ∧ xs[i]? = some x ∧ ys[i]? = some y
  yld := fun i H v H' => ∃ T x y, v = .ref T ∧ H T = none ∧ H' = upd H T (.tup [x, y]) ∧ (∀ xs, SqB K k H a xs → xs[i]? = some x) ∧ ∀ ys, SqB K l H b ys → ys[i]? = some y
  stop := fun i H => ∃ xs ys : List V, SqB K k H a xs ∧ SqB K l H b ys ∧ i = min xs.length ys.length
theorem turn_zipB {P : Program} {w : World} {K : PySem.W.Frag} {elts : List Expr} {kk : Nat} {tpos : Pos} {k l : Bool} {a b z TI TO i1 i2 : Addr} (D : ZipSep2 z TI TO i1 i2 [i1, a] [i2, b]) (ne : i1 ≠ i2) :
    Turn P w K (.Tuple elts kk tpos) (ItzB K k l a b) [z, TI, TO, i1, i2] z
      (fun i h => IsZip h z TI TO .none ∧ IsTupOf2 h TI (.ref i1) (.ref i2) ∧ (∃ x y, IsTupOf2 h TO x y) ∧ IterB k h i1 a i ∧ IterB l h i2 b i) where
  mem := by simp
  obj := fun i h st c hc => by
    obtain ⟨hz, hTI, ⟨x, y, hTO⟩, h1, h2⟩ := st
    simp only [List.mem_cons, List.not_mem_nil, or_false] at hc
    rcases hc with rfl | rfl | rfl | rfl | rfl
    · exact ⟨_, hz, fun v q => nomatch q⟩
    · exact ⟨_, hTI, fun v q => nomatch q⟩
    · exact ⟨_, hTO, fun v q => nomatch q⟩
    · exact iterB_obj h1
    · exact iterB_obj h2
  keep := fun i h h' st kp => by
    obtain ⟨hz, hTI, ⟨x, y, hTO⟩, h1, h2⟩ := st
    exact ⟨kp z (by simp) _ hz, kp TI (by simp) _ hTI, ⟨x, y, kp TO (by simp) _ hTO⟩, iterB_at h1 fun o q => kp i1 (by simp) o q, iterB_at h2 fun o q => kp i2 (by simp) o q⟩
  item := by
    intro X hP hw hK hc i pins s σ H E I hf st hg
    subst hP hw hK
    obtain ⟨hz, hTI, hTO, h1, h2⟩ := st
    obtain ⟨xs, ys, x, y, hqx, hqy, hx, hy⟩ := hg
    obtain ⟨its, rv, p⟩ := sqB I hqx
    obtain ⟨its2, rv2, p2⟩ := sqB I hqy
    obtain ⟨u, hu, ru⟩ := rv.get hx
    obtain ⟨u2, hu2, ru2⟩ := rv2.get hy
    have ne1 : a ≠ i1 := iterB_ne h1 p
    have ne2 : b ≠ i2 := iterB_ne h2 p2
    have W := WalksT.zipD2 (prog := X.prog) (w := X.w) (A := X.A) D (drawsB (prog := X.prog) (w := X.w) (A := X.A.in1) (k := k) (I.ok.hd hc) i1 ne1 its.toArray) (drawsB (prog := X.prog) (w := X.w) (A := X.A.in1) (k := l) (I.ok.hd hc) i2 ne2 its2.toArray)
    have lt1 : i < its.toArray.size := by
      have := (List.getElem?_eq_some_iff.mp hu).1
      simpa using this
    have lt2 : i < its2.toArray.size := by
      have := (List.getElem?_eq_some_iff.mp hu2).1
      simpa using this
    refine W.item i s _ _ (by omega) ⟨hz, hTI, hTO, ⟨h1, p⟩, ⟨h2, p2⟩⟩ fun T vals h' tk hv hT hT2 mid hk => ?_
    refine ⟨_, rfl, W.go elts kk tpos i T _ _ _ mid fun h'' st'' hk2 => ?_⟩
    obtain ⟨v1, v2, e1, e2, rfl⟩ := hv
    have e1 : its[i]? = some v1 := by simpa using e1
    have e2 : its2[i]? = some v2 := by simpa using e2
    rw [hu] at e1
    rw [hu2] at e2
    cases e1
    cases e2
    have kept : ∀ c o, c ∉ [z, TI, TO, i1, i2] → s.heap.get? c = some o → h''.get? c = some o := fun c o hcm q => by
      have out : c ∉ [z, TO, i1, i2] := fun m => hcm (by
        simp only [List.mem_cons, List.not_mem_nil, or_false] at m ⊢
        rcases m with m | m | m | m
        · exact .inl m
        · exact .inr (.inr (.inl m))
        · exact .inr (.inr (.inr (.inl m)))
        · exact .inr (.inr (.inr (.inr m))))
      exact hk2 c o out (hk c o out q)
    have outT : T ∉ [z, TO, i1, i2] := W.apart i T h' mid
    have tupT : h''.IsTuple T #[u, u2] := by
      obtain ⟨o, q1, q2, n, q3⟩ := hT2
      exact ⟨o, hk2 T o outT q1, q2, n, q3⟩
    have new : ObjOk X.prog X.w (upd H T (.tup [x, y])) h'' T (.tup [x, y]) := ⟨by show 2 ≤ sizeLine; decide, [u, u2], .cons ru (.cons ru2 .nil), tupT⟩
    have I1 : Inv X pins σ (upd H T (.tup [x, y])) { s with heap := h'', toks := tk } := I.turnedNew (ch := [z, TI, TO, i1, i2]) kept hf hT new
    refine ⟨.ref T, _, I1, rfl, ⟨T, x, y, rfl, I.hok.fresh hT, rfl, fun l hl => by rw [sqB_inj I hl hqx]; exact hx, fun l hl => by rw [sqB_inj I hl hqy]; exact hy⟩, ⟨st''.1, st''.2.1, st''.2.2.1, st''.2.2.2.1.1, st''.2.2.2.2.1⟩, fun c hcm => ?_⟩
    have hlt : c ≠ T := fun q => by
      have f := (hf c hcm)
      have live : ∃ o, s.heap.get? c = some o := by
        simp only [List.mem_cons, List.not_mem_nil, or_false] at hcm
        rcases hcm with rfl | rfl | rfl | rfl | rfl
        · exact ⟨_, hz⟩
        · exact ⟨_, hTI⟩
        · obtain ⟨_, _, q⟩ := hTO; exact ⟨_, q⟩
        · obtain ⟨o, q, _⟩ := iterB_obj h1; exact ⟨o, q⟩
        · obtain ⟨o, q, _⟩ := iterB_obj h2; exact ⟨o, q⟩
      obtain ⟨o, e⟩ := live
      rw [q] at e
      exact absurd (Nat.lt_of_lt_of_le (Heap.lt_size e) hT) (Nat.lt_irrefl _)
    rw [upd_ne hlt]
    exact (hf c hcm).1
  done := by
    intro X hP hw hK hc i pins s σ H E I hf st hg
    subst hP hw hK
    obtain ⟨hz, hTI, hTO, h1, h2⟩ := st
    obtain ⟨xs, ys, hqx, hqy, rfl⟩ := hg
    obtain ⟨its, rv, p⟩ := sqB I hqx
    obtain ⟨its2, rv2, p2⟩ := sqB I hqy
    have ne1 : a ≠ i1 := iterB_ne h1 p
    have ne2 : b ≠ i2 := iterB_ne h2 p2
    have W := WalksT.zipD2 (prog := X.prog) (w := X.w) (A := X.A) D (drawsB (prog := X.prog) (w := X.w) (A := X.A.in1) (k := k) (I.ok.hd hc) i1 ne1 its.toArray) (drawsB (prog := X.prog) (w := X.w) (A := X.A.in1) (k := l) (I.ok.hd hc) i2 ne2 its2.toArray)
    have e : min xs.length ys.length = min its.toArray.size its2.toArray.size := by rw [rv.length, rv2.length, List.size_toArray, List.size_toArray]
    rw [e] at h1 h2
    refine W.done s _ _ ⟨hz, hTI, hTO, ⟨h1, p⟩, ⟨h2, p2⟩⟩ fun h' tk hk => ⟨rfl, I.turnedL (ch := [z, TI, TO, i1, i2]) (fun c o hcm q => hk c o (fun m => hcm ?_) q) hf⟩
    simp only [List.mem_cons, List.not_mem_nil, or_false] at m ⊢
    rcases m with m | m | m | m
    · exact .inl m
    · exact .inr (.inr (.inl m))
    · exact .inr (.inr (.inr (.inl m)))
    · exact .inr (.inr (.inr (.inr m)))
  self := fun A i s Q E st h => wpAny_pyIter_zip st.1 h
def iZipB (K : PySem.W.Frag) (ta : TA) : TI := fun σ H R => ta σ H fun vs H1 => ∃ k l a b xs ys, vs = [.ref a, .ref b] ∧ SqB K k H1 a xs ∧ SqB K l H1 b ys ∧ R (ItzB K k l a b) H1
theorem pi_zipB {X : Cx} {e e2 : Expr} {ta : TA} {p pos tpos : Pos} {elts : List Expr} {kk : Nat} (hg : Gl X "zip") (hm : X.mg "zip" = none) (ha : PA X [e, e2] ta)
    (hs : starEach [e, e2] X.env = (false, eval e X.env) :: starEach [e2] X.env) (hpl : (backTo pos (starEach [e2] X.env)).any (·.1) = false) :
    PI X (.Tuple elts kk tpos) (.Call (.Name "zip" p) [e, e2] [] pos) (iZipB X.K ta) := by
  refine ⟨fun pins s σ H R I h => ?_⟩
  refine Call_ (ld_blt I hg hm PyProof.Rows.boot_zip (PyProof.Rows.callWith_type1 (thn (ha.run pos pins s σ H _ I h) fun us s1 hh => ?_) hs hpl))
  obtain ⟨vs, H1, I1, r1, k, l, a, b, xs, ys, ex, hqx, hqy, q⟩ := hh
  subst ex
  obtain ⟨u1, u2, rfl, r, r'⟩ := vals2 r1
  cases r
  cases r'
  obtain ⟨its, rv, p1⟩ := sqB I1 hqx
  obtain ⟨its2, rv2, p2⟩ := sqB I1 hqy
  have la := dataB_lt p1
  have lb := dataB_lt p2
  refine zip_begins2 (beginsB (k := k) its.toArray) (beginsB (k := l) its2.toArray) p1 p2 fun h' hz hTI hTO h1 h2 hsz hk => wpAny_pyIter_zip hz ?_
  have I2 : Inv X pins σ H1 { s1 with heap := h' } := I1.kept (t' := s1.toks) hk
  have hS : ZipSep2 (s1.heap.objs.size + 4) (s1.heap.objs.size + 2) (s1.heap.objs.size + 3) s1.heap.objs.size (s1.heap.objs.size + 1) [s1.heap.objs.size, a] [s1.heap.objs.size + 1, b] :=
    zip_sep2 (fun c hc => by rw [List.mem_singleton.mp hc]; exact la) (fun c hc => by rw [List.mem_singleton.mp hc]; exact lb)
  refine ⟨s1.heap.objs.size + 4, [s1.heap.objs.size + 4, s1.heap.objs.size + 2, s1.heap.objs.size + 3, s1.heap.objs.size, s1.heap.objs.size + 1], _, _, H1, rfl, I2, turn_zipB hS (Nat.ne_of_lt (Nat.lt_succ_self _)),
    ⟨hz, hTI, ⟨_, _, hTO⟩, iterB_new h1, iterB_new h2⟩, fun c hcm => ?_, q⟩
  have hle : s1.heap.objs.size ≤ c := by
    simp only [List.mem_cons, List.not_mem_nil, or_false] at hcm
    rcases hcm with e | e | e | e | e <;> rw [e]
    · exact Nat.le_add_right _ _
    · exact Nat.le_add_right _ _
    · exact Nat.le_add_right _ _
    · exact Nat.le_refl _
    · exact Nat.le_add_right _ _
  exact I1.fpOk hle (I1.hok.fresh hle)
def IteB (K : PySem.W.Frag) (k : Bool) (a : Addr) : It where
  go := fun i H => ∃ (xs : List V) (x : V), SqB K k H a xs ∧ xs[i]? = some x
  yld := fun i H v H' => ∃ T x, v = .ref T ∧ H T = none ∧ H' = upd H T (.tup [.int (i : Nat), x]) ∧ ∀ xs, SqB K k H a xs → xs[i]? = some x
  stop := fun i H => ∃ xs : List V, SqB K k H a xs ∧ i = xs.length
theorem turn_enumB {P : Program} {w : World} {K : PySem.W.Frag} {elts : List Expr} {kk : Nat} {tpos : Pos} {k : Bool} {a e it : Addr} (ne : e ≠ it) (nea : e ≠ a) :
    Turn P w K (.Tuple elts kk tpos) (IteB K k a) [e, it] e (fun i h => (∃ old, IsEnum h e it (0 + ((i : Nat) : Int)) old) ∧ IterB k h it a i) where
  mem := by simp
  obj := fun i h st c hc => by
    obtain ⟨⟨old, he⟩, h1⟩ := st
    simp only [List.mem_cons, List.not_mem_nil, or_false] at hc
    rcases hc with rfl | rfl
    · exact ⟨_, he, fun v q => nomatch q⟩
    · exact iterB_obj h1
  keep := fun i h h' st kp => by
    obtain ⟨⟨old, he⟩, h1⟩ := st
    exact ⟨⟨old, kp e (by simp) _ he⟩, iterB_at h1 fun o q => kp it (by simp) o q⟩
  item := by
    intro X hP hw hK hc i pins s σ H E I hf st hg
    subst hP hw hK
    obtain ⟨he, h1⟩ := st
    obtain ⟨xs, x, hqx, hx⟩ := hg
    obtain ⟨its, rv, p⟩ := sqB I hqx
    obtain ⟨u, hu, ru⟩ := rv.get hx
    have ne1 : a ≠ it := iterB_ne h1 p
    have W := WalksT.enumFrom (prog := X.prog) (w := X.w) (A := X.A) 0 (drawsB (prog := X.prog) (w := X.w) (A := X.A.in1) (k := k) (I.ok.hd hc) it ne1 its.toArray) e ne (by simp [ne, nea]) (by simp)
    have lt1 : i < its.toArray.size := by
      have := (List.getElem?_eq_some_iff.mp hu).1
      simpa using this
    refine W.item i s _ _ lt1 ⟨he, h1, p⟩ fun T vals h' tk hv hT hT2 mid hk => ?_
    refine ⟨_, rfl, W.go elts kk tpos i T _ _ _ mid fun h'' st'' hk2 => ?_⟩
    obtain ⟨t, v1, e1, rfl⟩ := hv
    have e1 : its[i]? = some v1 := by simpa using e1
    rw [hu] at e1
    cases e1
    have kept : ∀ c o, c ∉ [e, it] → s.heap.get? c = some o → h''.get? c = some o := fun c o hcm q => hk2 c o hcm (hk c o hcm q)
    have outT : T ∉ [e, it] := W.apart i T h' mid
    have tupT : h''.IsTuple T #[.int (0 + (i : Int)) t, u] := by
      obtain ⟨o, q1, q2, n, q3⟩ := hT2
      exact ⟨o, hk2 T o outT q1, q2, n, q3⟩
    have new : ObjOk X.prog X.w (upd H T (.tup [.int (i : Nat), x])) h'' T (.tup [.int (i : Nat), x]) := by
      refine ⟨by show 2 ≤ sizeLine; decide, [.int (0 + (i : Int)) t, u], .cons ⟨t, by rw [Int.zero_add]⟩ (.cons ru .nil), tupT⟩
    have I1 : Inv X pins σ (upd H T (.tup [.int (i : Nat), x])) { s with heap := h'', toks := tk } := I.turnedNew (ch := [e, it]) kept hf hT new
    refine ⟨.ref T, _, I1, rfl, ⟨T, x, rfl, I.hok.fresh hT, rfl, fun l hl => by rw [sqB_inj I hl hqx]; exact hx⟩, ⟨st''.1, st''.2.1⟩, fun c hcm => ?_⟩
    have hlt : c ≠ T := fun q => by
      have live : ∃ o, s.heap.get? c = some o := by
        simp only [List.mem_cons, List.not_mem_nil, or_false] at hcm
        rcases hcm with rfl | rfl
        · obtain ⟨_, q⟩ := he; exact ⟨_, q⟩
        · obtain ⟨o, q, _⟩ := iterB_obj h1; exact ⟨o, q⟩
      obtain ⟨o, z⟩ := live
      rw [q] at z
      exact absurd (Nat.lt_of_lt_of_le (Heap.lt_size z) hT) (Nat.lt_irrefl _)
    rw [upd_ne hlt]
    exact (hf c hcm).1
  done := by
    intro X hP hw hK hc i pins s σ H E I hf st hg
    subst hP hw hK
    obtain ⟨he, h1⟩ := st
    obtain ⟨xs, hqx, rfl⟩ := hg
    obtain ⟨its, rv, p⟩ := sqB I hqx
    have ne1 : a ≠ it := iterB_ne h1 p
    have W := WalksT.enumFrom (prog := X.prog) (w := X.w) (A := X.A) 0 (drawsB (prog := X.prog) (w := X.w) (A := X.A.in1) (k := k) (I.ok.hd hc) it ne1 its.toArray) e ne (by simp [ne, nea]) (by simp)
    have ez : xs.length = its.toArray.size := by rw [rv.length, List.size_toArray]
    rw [ez] at h1 he
    exact W.done s _ _ ⟨he, h1, p⟩ fun h' tk hk => ⟨rfl, I.turnedL (ch := [e, it]) hk hf⟩
  self := fun A i s Q E st h => let ⟨⟨_, he⟩, _⟩ := st; wpAny_pyIter_enum he h
end Ev

namespace Ev
open PySem PySem.Spec PyProof.Rows L2
/-! ## readings of forms -/
section
variable {X : Cx} {W : WX} {a b c : Expr} {es : List Expr} {fa fb fc : List Sl → LH → Res L} {fs : List Sl → LH → Res (List L)} {pos : Pos}
abbrev rE (K : PySem.W.Frag) (W : WX) (f : List Sl → LH → Res L) : TE := rd K W (RL K) f
abbrev rEs (K : PySem.W.Frag) (W : WX) (f : List Sl → LH → Res (List L)) : TA := rd K W (RLs K) f
abbrev rB (K : PySem.W.Frag) (W : WX) (f : List Sl → LH → Res L) : TT := rd K W RB (fun ls h => boolR (f ls h))
theorem rel_var {w : Wd} {lh : LH} {ls : List Sl} {σ : L2.St} {H : Hp} {Q : VK} {i : Nat} (hs : RelS X.K w ls σ H) (hh : RelH X.K w lh H) (p : Post X.K W (RL X.K) w H σ Q (.opt (slotV ls i) lh)) : tVar i σ H Q := by
  unfold slotV at p
  cases e : ls[i]? with
  | none => rw [e] at p; exact p.elim
  | some s =>
    rw [e] at p
    cases s with
    | no => exact p.elim
    | ow o => exact p.elim
    | sh x =>
      obtain ⟨v, e1, r⟩ := hs.sh i x e
      exact ⟨v, e1, p w v H (Ext.refl w H) hh r⟩
theorem e_var {i : Nat} {x : Str} (hN : X.N[i]? = some x) (hv : Vis X.env.scope x) (hd : (x == ("__debug__" : Str)) = false) (hcd : (x == ("__classdict__" : Str)) = false) :
    PE X (.Name x pos) (rE X.K W fun ls h => .opt (slotV ls i) h) :=
  PE.imp (pe_var hN hv hd hcd) fun σ H Q ⟨w, ls, lh, hh, hs, p⟩ => rel_var hs hh p
theorem e_con {v : V} {l : L} (h : PE X a (tC v)) (hl : ∀ w lh H, RelH X.K w lh H → RelL X.K w l v) : PE X a (rE X.K W fun _ h => .ok l h) :=
  PE.imp h fun σ H Q ⟨w, ls, lh, hh, hs, p⟩ => p w v H (Ext.refl w H) hh (hl _ _ _ hh)
theorem e_bin (o : BOp) (ha : PE X a (rE X.K W fa)) (hb : PE X b (rE X.K W fb)) :
    PE X (.BinOp a o.op b pos) (rE X.K W fun ls h => (fa ls h).bind fun x h => (fb ls h).bind fun y h => .opt (evBin o x y) h) :=
  PE.imp (pe_op (opBin o) ha hb) fun σ H Q ⟨w, ls, lh, hh, hs, p⟩ =>
    rd.mk hh hs (Post.seq p fun x lh1 _ w1 v H1 e1 h1 r1 p1 => rd.mk h1 (hs.ext e1) (Post.seq p1 fun y lh2 _ w2 u H2 e2 h2 r2 p2 => ⟨w2, x, y, lh2, h2, r1.mono e2.le, r2, p2.opt⟩))
def negL : L → Option L
  | .int i => some (.int (-i))
  | _ => none
theorem e_neg (ha : PE X a (rE X.K W fa)) : PE X (.UnaryOp .USub a pos) (rE X.K W fun ls h => (fa ls h).bind fun x h => match x with
    | .int i => .ok (.int (-i)) h
    | _ => .no) :=
  PE.imp (pe_un un_neg ha) fun σ H Q ⟨w, ls, lh, hh, hs, p⟩ =>
    rd.mk hh hs (Post.seq p fun x lh1 _ w1 v H1 e1 h1 r1 p1 => by
      cases x <;> try exact p1.elim
      have r1 : RelL X.K w1 _ v := r1
      simp only [RelL] at r1
      subst r1
      exact ⟨_, rfl, p1 w1 _ H1 (Ext.refl _ _) h1 (by show RelL _ _ _ _; simp only [RelL])⟩)
theorem i_cmp {o : COp} {σ : L2.St} {H : Hp} {Q : VK} (h : rE X.K W (fun ls h => (fa ls h).bind fun x h => (fb ls h).bind fun y h => .opt (evCmp o x y) h) σ H Q) : tOp (rd2 X.K fun _ => evCmp o) (rE X.K W fa) (rE X.K W fb) σ H Q :=
  let ⟨w, ls, lh, hh, hs, p⟩ := h
  rd.mk hh hs (Post.seq p fun x lh1 _ w1 v H1 e1 h1 r1 p1 => rd.mk h1 (hs.ext e1) (Post.seq p1 fun y lh2 _ w2 u H2 e2 h2 r2 p2 => ⟨w2, x, y, lh2, h2, r1.mono e2.le, r2, p2.opt⟩))
theorem e_cmp (hu : X.A.units + 64 < cLine) (o : COp) (ha : PE X a (rE X.K W fa)) (hb : PE X b (rE X.K W fb)) (hm : behindInMarks o.op b = false) :
    PE X (.Compare a [o.op] [b] pos) (rE X.K W fun ls h => (fa ls h).bind fun x h => (fb ls h).bind fun y h => .opt (evCmp o x y) h) :=
  PE.imp (pe_cmpR (opCmp hu o) ha hb hm) fun _ _ _ h => i_cmp h
/-- a test: the value as a bool -/
theorem rB_rE {f : List Sl → LH → Res L} {σ : L2.St} {H : Hp} {Q : Bool → Hp → Prop} (h : rB X.K W f σ H Q) : rE X.K W f σ H (fun x H' => ∃ k, x = .bl k ∧ Q k H') := by
  obtain ⟨w, ls, lh, hh, hs, p⟩ := h
  refine rd.mk hh hs ?_
  have p : Post X.K W RB w H σ Q (boolR (f ls lh)) := p
  cases z : f ls lh with
  | ok x h =>
    rw [z] at p
    intro w' v H' e' h' r'
    cases x <;> try exact p.elim
    have r' : RelL X.K w' _ v := r'
    simp only [RelL] at r'
    subst r'
    exact ⟨_, rfl, p w' _ H' e' h' rfl⟩
  | exn C x h => rw [z] at p; exact p
  | no => rw [z] at p; exact p
theorem t_cmp (hu : X.A.units + 64 < cLine) (o : COp) (ha : PE X a (rE X.K W fa)) (hb : PE X b (rE X.K W fb)) (hm : behindInMarks o.op b = false) :
    PT X (.Compare a [o.op] [b] pos) (rB X.K W fun ls h => (fa ls h).bind fun x h => (fb ls h).bind fun y h => .opt (evCmp o x y) h) :=
  PT.imp (pt_cmpR (opCmp hu o) ha hb hm) fun σ H Q h => i_cmp (rB_rE h)
theorem t_val {e : Expr} {f : List Sl → LH → Res L} (h : PE X e (rE X.K W f)) (he : ∀ whole, isTrue e X.env whole = (do let v ← whole; standAt e.pos; holding [v] (truthy v))) : PT X e (rB X.K W f) :=
  PT.imp (pt_val h he) fun σ H Q h => rB_rE h
theorem i_chn {o o' : COp} {σ : L2.St} {H : Hp} {Q : VK} (h : rE X.K W (fun ls h => (fa ls h).bind fun x h => (fb ls h).bind fun y h => match evCmp o x y with
    | some (.bl true) => (fc ls h).bind fun z h => .opt (evCmp o' y z) h
    | some (.bl false) => .ok (.bl false) h
    | _ => .no) σ H Q) : tChain (rd2 X.K fun _ => evCmp o) (rd2 X.K fun _ => evCmp o') (rE X.K W fa) (rE X.K W fb) (rE X.K W fc) σ H Q := by
  obtain ⟨w, ls, lh, hh, hs, p⟩ := h
  refine rd.mk hh hs (Post.seq p fun x lh1 _ w1 v H1 e1 h1 r1 p1 => rd.mk h1 (hs.ext e1) (Post.seq p1 fun y lh2 _ w2 u H2 e2 h2 r2 p2 => ⟨w2, x, y, lh2, h2, r1.mono e2.le, r2, ?_⟩))
  have hs2 := (hs.ext e1).ext e2
  show PostV X.K (RL X.K) w2 lh2 H2 _ (evCmp o x y)
  cases z : evCmp o x y with
  | none => rw [z] at p2; exact p2
  | some l =>
    rw [z] at p2
    intro w3 v3 H3 e3 h3 r3
    cases l <;> try exact p2.elim
    rename_i k
    have r3 : RelL X.K w3 _ v3 := r3
    simp only [RelL] at r3
    subst r3
    refine ⟨k, rfl, ?_⟩
    cases k with
    | true =>
      simp only [if_true]
      exact rd.mk h3 (hs2.ext e3) (Post.seq (Post.step e3 p2) fun z lh4 _ w4 u4 H4 e4 h4 r4 p4 => ⟨w4, y, z, lh4, h4, (r2.mono e3.le).mono e4.le, r4, p4.opt⟩)
    | false =>
      simp only [Bool.false_eq_true, if_false]
      exact p2 w3 _ H3 e3 h3 (by show RelL _ _ _ _; simp only [RelL])
theorem e_chn (hu : X.A.units + 64 < cLine) (o o' : COp) (ha : PE X a (rE X.K W fa)) (hb : PE X b (rE X.K W fb)) (hc : PE X c (rE X.K W fc)) (hm : lastMarks [o.op, o'.op] [b, c] = false) :
    PE X (.Compare a [o.op, o'.op] [b, c] pos) (rE X.K W fun ls h => (fa ls h).bind fun x h => (fb ls h).bind fun y h => match evCmp o x y with
    | some (.bl true) => (fc ls h).bind fun z h => .opt (evCmp o' y z) h
    | some (.bl false) => .ok (.bl false) h
    | _ => .no) := PE.imp (pe_chain (opCmp hu o) (opCmp hu o') ha hb hc hm) fun σ H Q h => i_chn h
theorem t_chn (hu : X.A.units + 64 < cLine) (o o' : COp) (ha : PE X a (rE X.K W fa)) (hb : PE X b (rE X.K W fb)) (hc : PE X c (rE X.K W fc)) (hm : lastMarks [o.op, o'.op] [b, c] = false) :
    PT X (.Compare a [o.op, o'.op] [b, c] pos) (rB X.K W fun ls h => (fa ls h).bind fun x h => (fb ls h).bind fun y h => match evCmp o x y with
    | some (.bl true) => (fc ls h).bind fun z h => .opt (evCmp o' y z) h
    | some (.bl false) => .ok (.bl false) h
    | _ => .no) := PT.imp (pt_chain (opCmp hu o) (opCmp hu o') ha hb hc hm) fun σ H Q h => i_chn (rB_rE h)
/-- a bool first -/
theorem boolR_seq {α : Type} (r : Res L) (k : Bool → LH → Res α) : (boolR r).bind k = r.bind fun x h => (boolR (.ok x h)).bind k := by cases r <;> rfl
theorem e_not (ha : PE X a (rE X.K W fa)) : PE X (.UnaryOp .Not a pos) (rE X.K W fun ls h => (boolR (fa ls h)).bind fun b h => .ok (.bl (!b)) h) :=
  PE.imp (pe_not ha) fun σ H Q ⟨w, ls, lh, hh, hs, p⟩ => by
    have p : Post X.K W (RL X.K) w H σ Q ((boolR (fa ls lh)).bind fun b h => .ok (.bl (!b)) h) := p
    rw [boolR_seq] at p
    refine rd.mk hh hs (Post.seq p fun x lh1 _ w1 v H1 e1 h1 r1 p1 => ?_)
    cases x <;> try exact p1.elim
    have r1 : RelL X.K w1 _ v := r1
    simp only [RelL] at r1
    subst r1
    exact ⟨_, rfl, p1 w1 _ H1 (Ext.refl _ _) h1 (by show RelL _ _ _ _; simp only [RelL])⟩
theorem t_not (ha : PT X a (rB X.K W fa)) : PT X (.UnaryOp .Not a pos) (rB X.K W fun ls h => (boolR (fa ls h)).bind fun b h => .ok (.bl (!b)) h) :=
  PT.imp (pt_not ha) fun σ H Q ⟨w, ls, lh, hh, hs, p⟩ => by
    refine rd.mk hh hs ?_
    have p : Post X.K W RB w H σ Q (boolR ((boolR (fa ls lh)).bind fun b h => .ok (.bl (!b)) h)) := p
    show Post X.K W RB w H σ _ (boolR (fa ls lh))
    cases z : boolR (fa ls lh) with
    | ok x h =>
      rw [z] at p
      intro w' v H' e' h' r'
      have r' : x = v := r'
      subst r'
      exact p w' _ H' e' h' rfl
    | exn C x h => rw [z] at p; exact p
    | no => rw [z] at p; exact p
theorem e_and1 (ha : PE X a (rE X.K W fa)) : PE X (.BoolOp .And [a] pos) (rE X.K W fa) := pe_one ha
/-- a test, and then something else -/
theorem Post.test {α β : Type} {R : Rl α β} {w : Wd} {H : Hp} {σ : L2.St} {Q : β → Hp → Prop} {r : Res L} {k : Bool → LH → Res α} {T : Bool → Hp → Prop} (p : Post X.K W R w H σ Q ((boolR r).bind k))
    (h : ∀ b lh (w1 : Wd) (H1 : Hp), Ext w H w1 H1 → RelH X.K w1 lh H1 → Post X.K W R w1 H1 σ Q (k b lh) → T b H1) : Post X.K W RB w H σ T (boolR r) := by
  cases z : boolR r with
  | ok x lh =>
    rw [z] at p
    intro w' v H' e' h' r'
    have r' : x = v := r'
    subst r'
    exact h x lh w' H' e' h' (Post.step e' p)
  | exn C x h => rw [z] at p; exact p
  | no => rw [z] at p; exact p
theorem e_and {rest : List Expr} {fr : List Sl → LH → Res L} (ha : PE X a (rE X.K W fa)) (hb : PE X (.BoolOp .And (b :: rest) pos) (rE X.K W fr)) :
    PE X (.BoolOp .And (a :: b :: rest) pos) (rE X.K W fun ls h => (boolR (fa ls h)).bind fun b h => if b then fr ls h else .ok (.bl false) h) :=
  PE.imp (pe_and ha hb) fun σ H Q ⟨w, ls, lh, hh, hs, p⟩ => by
    refine rB_rE (rd.mk hh hs (Post.test p fun k lh1 w1 H1 e1 h1 p1 => ?_))
    cases k with
    | true =>
      simp only [if_true] at p1 ⊢
      exact rd.mk h1 (hs.ext e1) p1
    | false => exact p1 w1 _ H1 (Ext.refl _ _) h1 (by show RelL _ _ _ _; simp only [RelL])
theorem e_or {rest : List Expr} {fr : List Sl → LH → Res L} (ha : PE X a (rE X.K W fa)) (hb : PE X (.BoolOp .Or (b :: rest) pos) (rE X.K W fr)) :
    PE X (.BoolOp .Or (a :: b :: rest) pos) (rE X.K W fun ls h => (boolR (fa ls h)).bind fun b h => if b then .ok (.bl true) h else fr ls h) :=
  PE.imp (pe_or ha hb) fun σ H Q ⟨w, ls, lh, hh, hs, p⟩ => by
    refine rB_rE (rd.mk hh hs (Post.test p fun k lh1 w1 H1 e1 h1 p1 => ?_))
    cases k with
    | false =>
      simp only [Bool.false_eq_true, if_false] at p1 ⊢
      exact rd.mk h1 (hs.ext e1) p1
    | true => exact p1 w1 _ H1 (Ext.refl _ _) h1 (by show RelL _ _ _ _; simp only [RelL])
theorem boolR_test (r : Res L) (k : Bool → LH → Res L) : boolR ((boolR r).bind k) = (boolR r).bind fun b h => boolR (k b h) := by cases boolR r <;> rfl
theorem w_and1 (ha : PT X a (rB X.K W fa)) : PW X (.BoolOp .And [a] pos) (rB X.K W fa) := pw_and1 ha
theorem w_or1 (ha : PT X a (rB X.K W fa)) : PW X (.BoolOp .Or [a] pos) (rB X.K W fa) := pw_or1 ha
theorem w_and {rest : List Expr} {fr : List Sl → LH → Res L} (ha : PT X a (rB X.K W fa)) (hb : PW X (.BoolOp .And (b :: rest) pos) (rB X.K W fr)) :
    PW X (.BoolOp .And (a :: b :: rest) pos) (rB X.K W fun ls h => (boolR (fa ls h)).bind fun b h => if b then fr ls h else .ok (.bl false) h) :=
  PW.imp (pw_and ha hb) fun σ H Q ⟨w, ls, lh, hh, hs, p⟩ => by
    have p : Post X.K W RB w H σ Q (boolR ((boolR (fa ls lh)).bind fun b h => if b then fr ls h else .ok (.bl false) h)) := p
    rw [boolR_test] at p
    refine rd.mk hh hs (Post.test p fun k lh1 w1 H1 e1 h1 p1 => ?_)
    cases k with
    | true =>
      simp only [if_true] at p1 ⊢
      exact rd.mk h1 (hs.ext e1) p1
    | false => exact p1 w1 _ H1 (Ext.refl _ _) h1 rfl
theorem w_or {rest : List Expr} {fr : List Sl → LH → Res L} (ha : PT X a (rB X.K W fa)) (hb : PW X (.BoolOp .Or (b :: rest) pos) (rB X.K W fr)) :
    PW X (.BoolOp .Or (a :: b :: rest) pos) (rB X.K W fun ls h => (boolR (fa ls h)).bind fun b h => if b then .ok (.bl true) h else fr ls h) :=
  PW.imp (pw_or ha hb) fun σ H Q ⟨w, ls, lh, hh, hs, p⟩ => by
    have p : Post X.K W RB w H σ Q (boolR ((boolR (fa ls lh)).bind fun b h => if b then .ok (.bl true) h else fr ls h)) := p
    rw [boolR_test] at p
    refine rd.mk hh hs (Post.test p fun k lh1 w1 H1 e1 h1 p1 => ?_)
    cases k with
    | false =>
      simp only [Bool.false_eq_true, if_false] at p1 ⊢
      exact rd.mk h1 (hs.ext e1) p1
    | true => exact p1 w1 _ H1 (Ext.refl _ _) h1 rfl
theorem e_ife (hc : PT X c (rB X.K W fc)) (ha : PE X a (rE X.K W fa)) (hb : PE X b (rE X.K W fb)) :
    PE X (.IfExp c a b pos) (rE X.K W fun ls h => (boolR (fc ls h)).bind fun k h => if k then fa ls h else fb ls h) :=
  PE.imp (pe_ifExp hc ha hb) fun σ H Q ⟨w, ls, lh, hh, hs, p⟩ => by
    refine rd.mk hh hs (Post.test p fun k lh1 w1 H1 e1 h1 p1 => ?_)
    cases k with
    | true =>
      simp only [if_true] at p1 ⊢
      exact rd.mk h1 (hs.ext e1) p1
    | false =>
      simp only [Bool.false_eq_true, if_false] at p1 ⊢
      exact rd.mk h1 (hs.ext e1) p1
theorem t_ife (hc : PT X c (rB X.K W fc)) (ha : PT X a (rB X.K W fa)) (hb : PT X b (rB X.K W fb)) :
    PT X (.IfExp c a b pos) (rB X.K W fun ls h => (boolR (fc ls h)).bind fun k h => if k then fa ls h else fb ls h) := by
  refine ⟨fun pins s σ H Q I h => ?_⟩
  show wpAny _ _ (isTrue c X.env (eval c X.env) >>= fun d => if d = true then isTrue a X.env (eval a X.env) else isTrue b X.env (eval b X.env)) _ _ _
  have h' : rB X.K W fc σ H (fun k H1 => if k = true then rB X.K W fa σ H1 Q else rB X.K W fb σ H1 Q) := by
    obtain ⟨w, ls, lh, hh, hs, p⟩ := h
    have p : Post X.K W RB w H σ Q (boolR ((boolR (fc ls lh)).bind fun k h => if k then fa ls h else fb ls h)) := p
    rw [boolR_test] at p
    refine rd.mk hh hs (Post.test p fun k lh1 w1 H1 e1 h1 p1 => ?_)
    cases k with
    | true =>
      simp only [if_true] at p1 ⊢
      exact rd.mk h1 (hs.ext e1) p1
    | false =>
      simp only [Bool.false_eq_true, if_false] at p1 ⊢
      exact rd.mk h1 (hs.ext e1) p1
  refine wpAny_bind (thn (hc.run pins s σ H _ I h') fun d s1 ⟨H1, I1, q1⟩ => ?_)
  cases d with
  | true => exact ha.run pins s1 σ H1 Q I1 q1
  | false => exact hb.run pins s1 σ H1 Q I1 q1
/-! lists of expressions -/
theorem a_nil : PA X [] (rEs X.K W fun _ h => .ok [] h) := PA.imp pa_nil fun σ H Q ⟨w, ls, lh, hh, hs, p⟩ => p w _ H (Ext.refl _ _) hh RelLs.nil
theorem a_cons {e : Expr} (ha : PE X e (rE X.K W fa)) (hr : PA X es (rEs X.K W fs)) (hs : starEach (e :: es) X.env = (false, eval e X.env) :: starEach es X.env) :
    PA X (e :: es) (rEs X.K W fun ls h => (fa ls h).bind fun x h => (fs ls h).bind fun xs h => .ok (x :: xs) h) :=
  PA.imp (pa_cons ha hr hs) fun σ H Q ⟨w, ls, lh, hh, hs, p⟩ =>
    rd.mk hh hs (Post.seq p fun x lh1 _ w1 v H1 e1 h1 r1 p1 => rd.mk h1 (hs.ext e1) (Post.seq p1 fun y lh2 _ w2 u H2 e2 h2 r2 p2 => p2 w2 _ H2 (Ext.refl _ _) h2 (RelLs.cons (r1.mono e2.le) r2)))
theorem e_tup {x1} (ha : PA X es (rEs X.K W fs)) (hl : es.length ≤ 1000000) (hn : ∀ ls h xs h', fs ls h = .ok xs h' → xs.length = es.length) : PE X (.Tuple es x1 pos) (rE X.K W fun ls h => (fs ls h).bind fun xs h => .ok (.tup xs) h) :=
  PE.imp (pe_tup ha) fun σ H Q ⟨w, ls, lh, hh, hs, p⟩ =>
    rd.mk hh hs (Post.seq p fun xs lh1 z w1 vs H1 e1 h1 r1 p1 => ⟨small_line (by rw [← r1.length, hn _ _ _ _ z]; exact hl), fun q n => p1 (w1.put q _) _ _ (ext_put h1 _ n) (h1.put _ n) (by
      show RelL _ _ _ _
      simp only [RelL]
      exact ⟨q, vs, rfl, .inl (.inl (by show upd w1.F q _ q = _; rw [upd_same])), r1.mono (le_put w1 _ (h1.fresh n))⟩)⟩)
end
end Ev

namespace Ev
open PySem PySem.Spec PyProof.Rows L2

/-! ## sorted(t), t a tuple of ints -/
section
open PySem.Builtin PySem.Builtin.List
variable {prog : Program} {w : World} {A : Around} {E : Value → Shared → Prop} {s : Shared}
theorem collect_tup {l : Addr} {vs : List Value} {Q : List Value → Shared → Prop} (hl : s.heap.IsTuple l vs.toArray)
    (h : Q vs { s with heap := (s.heap.push (seqObj "list" #[] 0)).update s.heap.objs.size (Obj.mapSeq (· ++ vs.toArray)) }) (hsz : vs.length ≤ sizeLine) :
    wpAny (model prog w) A (collect (.ref l)) Q E s := by
  obtain ⟨o, ho, hc, n, hd⟩ := id hl
  unfold collect
  refine wpAny_bind (wpAny_runValue (codeAny_builtin entry_proto_collect' ?_))
  show wpAny _ _ (do again (.builtin "list.__iadd__" ⟨[← newList [], .ref l], []⟩)) _ _ s
  refine wpAny_bind (wpAny_newList (wpAny_pure ⟨Code.quiet_builtin _ (by decide +kernel), codeAny_builtin entry_list_iadd' ?_⟩))
  show wpAny _ _ (Builtin.List.listExtendWith (.ref s.heap.objs.size) (.ref l) (.ref s.heap.objs.size)) _ _ { s with heap := s.heap.push (seqObj "list" #[] 0) }
  unfold Builtin.List.listExtendWith
  have ho' : (s.heap.push (seqObj "list" #[] 0)).get? l = some o := Heap.get?_push_of_some _ ho
  refine wpAny_bind (wpAny_typeOf (T := "tuple") ⟨o, ho', hc⟩ ?_)
  have ht : (Value.type "tuple" == Value.type "tuple") = true := by rfl
  rw [if_pos (by rw [ht]; simp)]
  refine wpAny_bind (listItems_at ho' hd ?_)
  refine wpAny_bind (listItems_at (xs := #[]) (n := 0) (Heap.get?_push_size _ rfl) rfl ?_)
  rw [if_neg (by simp)]
  refine wpAny_bind (listUpdate_at (xs := #[]) (n := 0) (Heap.get?_push_size _ rfl) rfl ?_ (Nat.zero_le _) (by show (#[] ++ vs.toArray).size ≤ sizeLine + 1; simp only [Array.size_append, List.size_toArray, List.length_nil]; omega))
  refine wpAny_pure ?_
  show wpAny (model prog w) A (do
      let o ← load s.heap.objs.size
      match o.data with
      | .seq xs _ => pure xs.toList
      | _ => unsupported "internal:collect") Q E { s with heap := (s.heap.push (seqObj "list" #[] 0)).update s.heap.objs.size (Obj.mapSeq (· ++ vs.toArray)) }
  refine wpAny_bind (wpAny_load (get?_update_seq (Heap.get?_push_size _ rfl) _) ?_)
  show wpAny _ _ (pure ((#[] : Array Value) ++ vs.toArray).toList) Q E _
  rw [show ((#[] : Array Value) ++ vs.toArray).toList = vs by simp]
  exact wpAny_pure h
theorem sorted_ordT {l : Addr} {vs : List Value} {ltv : Value → Value → Bool} {Q : Value → Shared → Prop} (O : SrtO.Swo ltv) (hl : s.heap.IsTuple l vs.toArray) (hz : vs.length ≤ sizeLine)
    (hS : 2 ≤ vs.length → ∀ (h₁ : Heap) (a : Addr), h₁.get? a = some (seqObj "list" vs.toArray 0) → (∀ b o, s.heap.get? b = some o → b ≠ a ∧ h₁.get? b = some o) → SrtO.SortableO prog w A.in1.in1 { s with heap := h₁ } a vs ltv)
    (h : ∀ out : List Value, SrtO.Srtd ltv out → SrtO.Stb ltv out vs → Q (.ref (s.heap.objs.size + 1)) { s with heap := sortedAll s.heap vs out.toArray }) :
    wpAny (model prog w) A (call (.builtin "sorted") [.ref l]) Q E s := by
  refine Calls.call_function_entry kind_sorted plain_sorted entry_sorted (args_sorted1 _) ?_
  unfold Builtin.«sorted»
  refine wpAny_bind (m := checkCount "sorted" 1 1 _) (wpAny_pure ?_)
  refine wpAny_bind (collect_tup hl ?_ hz)
  refine wpAny_bind (wpAny_newList ?_ hz)
  have hsz : ((s.heap.push (seqObj "list" #[] 0)).update s.heap.objs.size (Obj.mapSeq (· ++ vs.toArray))).objs.size = s.heap.objs.size + 1 := by
    rw [Heap.size_update, size_push']
  have hoL : (((s.heap.push (seqObj "list" #[] 0)).update s.heap.objs.size (Obj.mapSeq (· ++ vs.toArray))).push (seqObj "list" vs.toArray 0)).get? (s.heap.objs.size + 1) = some (seqObj "list" vs.toArray 0) := by
    rw [← hsz]; exact Heap.get?_push_size _ rfl
  have keep : ∀ b o, s.heap.get? b = some o → b ≠ s.heap.objs.size + 1 ∧ (((s.heap.push (seqObj "list" #[] 0)).update s.heap.objs.size (Obj.mapSeq (· ++ vs.toArray))).push (seqObj "list" vs.toArray 0)).get? b = some o := fun b o q => by
    have hlt : b < s.heap.objs.size := Heap.lt_size q
    refine ⟨Nat.ne_of_lt (Nat.lt_succ_of_lt hlt), Heap.get?_push_of_some _ ?_⟩
    rw [Heap.get?_update_ne _ _ _ _ (Nat.ne_of_lt hlt)]
    exact Heap.get?_push_of_some _ q
  show wpAny _ _ _ _ _ { s with heap := ((s.heap.push (seqObj "list" #[] 0)).update s.heap.objs.size (Obj.mapSeq (· ++ vs.toArray))).push (seqObj "list" vs.toArray 0) }
  rw [hsz]
  refine wpAny_bind (wpAny_holding (wpAny_call_entry slot_list_sort ⟨_, hoL, rfl⟩ entry_list_sort (SrtO.list_sort_ord O hoL hz (fun h2 => hS h2 _ _ hoL keep) fun out hs hb => ⟨_, rfl, ?_⟩) (args_list_sort _)))
  exact wpAny_pure ⟨_, rfl, h out hs hb⟩
end
def rSortedT (K : PySem.W.Frag) : List V → Hp → VK → Prop := fun vs H Q => ∃ (a : Addr) (ns : List Int), vs = [V.ref a] ∧ SqT K H a (ns.map V.int) ∧
  ∀ (ns' : List Int) (p : Addr), ns'.Perm ns → ns'.Pairwise (· ≤ ·) → H p = none → Q (.ref p) (upd H p (.lst (ns'.map V.int)))
theorem cr_sortedT {X : Cx} : CallR X (.builtin "sorted") (rSortedT X.K) := by
  intro pins s σ H vs us Q I r h
  obtain ⟨a, ns, rfl, hs, q⟩ := h
  obtain ⟨its, rv, hl, hz⟩ := I.tuple hs
  rw [Vals.ref1 r]
  have hi := rv.ints
  refine sorted_ordT SrtO.swo_int hl (by rw [← rv.length]; exact hz) (fun h2 h₁ a' _ _ => SrtO.ints_sortable hi h2) fun out h1 h2 => ?_
  obtain ⟨k1, k2, k3⟩ := SrtO.ints_out hi h1 h2
  obtain ⟨ep, he'⟩ := PyProof.Rows.sortedAll_at s.heap its out.toArray
  have hlen : ((out.map SrtO.iv).map V.int).length ≤ sizeLine := by
    rw [List.length_map, k2.length_eq]
    rw [List.length_map] at hz
    exact hz
  exact ⟨.ref _, upd H (s.heap.objs.size + 1) (.lst ((out.map SrtO.iv).map V.int)), I.laid (t' := s.toks) (fun _ _ => PyProof.Rows.sortedAll_old) (Nat.le_succ _) ⟨hlen, out, ep, vals_of_ints k1, he'⟩, rfl, q _ _ k2 k3 (I.hok.fresh (Nat.le_succ _))⟩

section
variable {X : Cx} {W : WX} {a b c : Expr} {es : List Expr} {fa fb fc : List Sl → LH → Res L} {fs : List Sl → LH → Res (List L)} {pos : Pos}
/-! ## indices -/
theorem atI_map {α β : Type} {R : α → β → Prop} {xs : List α} {ys : List β} (hl : xs.length = ys.length) (h : ∀ (i : Nat) (x : α), xs[i]? = some x → ∃ y, ys[i]? = some y ∧ R x y) {i : Int} {x : α} (e : atI xs i = some x) : ∃ y, atI ys i = some y ∧ R x y := by
  unfold atI at e ⊢
  rw [← hl]
  cases z : ixN xs.length i with
  | none => rw [z] at e; cases e
  | some j => rw [z] at e; exact h j x e
theorem rels_atI {K : PySem.W.Frag} {w : Wd} {xs : List L} {vs : List V} (r : RelLs K w xs vs) {i : Int} {x : L} (e : atI xs i = some x) : ∃ v, atI vs i = some v ∧ RelL K w x v :=
  atI_map r.length (fun _ _ => r.get) e
theorem ixL : IxR X (rd2 X.K evIdx) := by
  refine IxR.imp ix_seq fun x y H Q h => ?_
  obtain ⟨w, l, i, lh, hh, rx, ry, p⟩ := h
  have p' := p
  unfold evIdx at p
  split at p
  · rename_i xs i
    obtain ⟨a, vs, rfl, q, r⟩ := rel_tup hh rx
    rw [rel_int ry]
    cases e : atI xs i with
    | none => rw [e] at p; exact p.elim
    | some z =>
      obtain ⟨v, e1, r1⟩ := rels_atI r e
      exact .inr (.inl ⟨a, vs, i, v, rfl, rfl, q, e1, p.here e hh r1⟩)
  · rename_i xs i
    obtain ⟨a, vs, rfl, q, r⟩ := rel_lst hh rx
    rw [rel_int ry]
    cases e : atI xs i with
    | none => rw [e] at p; exact p.elim
    | some z =>
      obtain ⟨v, e1, r1⟩ := rels_atI r e
      exact .inl ⟨a, vs, i, v, rfl, rfl, q, e1, p.here e hh r1⟩
  · rename_i xs i
    obtain ⟨a, vs, rfl, q, r⟩ := rel_scr hh rx
    rw [rel_int ry]
    cases e : atI xs i with
    | none => rw [e] at p; exact p.elim
    | some z =>
      obtain ⟨v, e1, r1⟩ := rels_atI r e
      exact .inl ⟨a, vs, i, v, rfl, rfl, q, e1, p.here e hh r1⟩
  · rename_i z i
    rw [rel_str rx, rel_int ry]
    by_cases c : z.length ≤ 1000000
    · rw [if_pos c] at p
      cases e : atI z.cps.toList i with
      | none => rw [e] at p; exact p.elim
      | some u =>
        rw [e] at p
        exact .inr (.inr ⟨z, i, u, rfl, rfl, small_line c, e, p.here rfl hh (mk_str _)⟩)
    · rw [if_neg c] at p
      exact p.elim
  · rename_i k i
    cases e0 : lh[k]? with
    | none => rw [e0] at p; exact p.elim
    | some o =>
      rw [e0] at p
      cases o with
      | ins => exact p.elim
      | lst xs =>
        obtain ⟨a, vs, rfl, _, q, r⟩ := rel_objL hh rx e0
        rw [rel_int ry]
        cases e : atI xs i with
        | none =>
          have p : PostV X.K (RL X.K) w lh H Q (atI xs i) := p
          rw [e] at p
          exact p.elim
        | some z =>
          obtain ⟨v, e1, r1⟩ := rels_atI r e
          exact .inl ⟨a, vs, i, v, rfl, rfl, SqL.of q, e1, p.here e hh r1⟩
  · exact p.elim
theorem e_idx (ha : PE X a (rE X.K W fa)) (hb : PE X b (rE X.K W fb)) (hs : PlainIx b) : PE X (.Subscript a b pos) (rE X.K W fun ls h => (fa ls h).bind fun x h => (fb ls h).bind fun y h => .opt (evIdx h x y) h) :=
  PE.imp (pe_ix ixL ha hb hs) fun σ H Q ⟨w, ls, lh, hh, hs, p⟩ =>
    rd.mk hh hs (Post.seq p fun x lh1 z1 w1 v H1 e1 h1 r1 p1 => rd.mk h1 (hs.ext e1) (Post.seq p1 fun y lh2 z2 w2 u H2 e2 h2 r2 p2 => ⟨w2, x, y, lh2, h2, r1.mono e2.le, r2, p2.opt⟩))
/-! ## slices -/
abbrev RO : Rl (Option Int) (Option Int) := fun _ _ a b => a = b
abbrev rO (K : PySem.W.Frag) (W : WX) (f : List Sl → LH → Res (Option Int)) : TO := rd K W RO f
theorem o_no : PO X none (rO X.K W fun _ h => .ok none h) := ⟨fun pins s σ H Q I ⟨w, ls, lh, hh, hs, p⟩ => po_none.run pins s σ H Q I (p w _ H (Ext.refl _ _) hh rfl)⟩
theorem o_some (ha : PE X a (rE X.K W fa)) : PO X (some a) (rO X.K W fun ls h => (fa ls h).bind fun x h => match x with
    | .int i => .ok (some i) h
    | _ => .no) := ⟨fun pins s σ H Q I ⟨w, ls, lh, hh, hs, p⟩ => (po_some ha).run pins s σ H Q I (rd.mk hh hs (Post.seq p fun x lh1 z1 w1 v H1 e1 h1 r1 p1 => by
      cases x <;> try exact p1.elim
      exact ⟨_, rel_int r1, p1 w1 _ H1 (Ext.refl _ _) h1 rfl⟩))⟩
theorem rels_cut {K : PySem.W.Frag} {w : Wd} {xs : List L} {vs : List V} (r : RelLs K w xs vs) (lo hi : Option Int) : RelLs K w (cutL xs lo hi) (cutV vs lo hi) := by
  unfold cutL cutV
  rw [r.length]
  exact (r.drop _).take _
theorem e_slc {lo hi : Option Expr} {fl fh : List Sl → LH → Res (Option Int)} {p2 : Pos} (ha : PE X a (rE X.K W fa)) (hl : PO X lo (rO X.K W fl)) (hh : PO X hi (rO X.K W fh)) :
    PE X (.Subscript a (.Slice lo hi none p2) pos) (rE X.K W fun ls h => (fa ls h).bind fun x h => (fl ls h).bind fun l h => (fh ls h).bind fun u h => .opt (evSlc x l u) h) :=
  PE.imp (pe_slice (sl_tupA.or sl_str) ha hl hh) fun σ H Q ⟨w, ls, lh, hh, hs, p⟩ =>
    rd.mk hh hs (Post.seq p fun x lh1 z1 w1 v H1 e1 h1 r1 p1 => rd.mk h1 (hs.ext e1) (Post.seq p1 fun l lh2 z2 w2 l' H2 e2 h2 r2 p2 => rd.mk h2 ((hs.ext e1).ext e2) (Post.seq p2 fun u lh3 z3 w3 u' H3 e3 h3 r3 p3 => by
      replace r2 : l = l' := r2
      replace r3 : u = u' := r3
      subst r2 r3
      replace r1 := (r1.mono e2.le).mono e3.le
      replace p3 := p3.opt
      cases x <;> try exact p3.elim
      · rename_i z
        rw [rel_str r1]
        by_cases c : z.length ≤ 1000000
        · simp only [evSlc, if_pos c] at p3
          exact .inr ⟨z, rfl, small_line c, p3.here rfl h3 (mk_str _)⟩
        · simp only [evSlc, if_neg c] at p3
          exact p3.elim
      · rename_i xs
        obtain ⟨q, vs, rfl, sq, r⟩ := rel_tup h3 r1
        refine .inl ⟨q, vs, rfl, sq, fun hw => ?_, fun _ => p3.tupNew rfl h3 (rels_cut r l u)⟩
        refine p3.here rfl h3 ?_
        have e : cutL xs l u = xs := by
          unfold cutL
          rw [r.length, hw.1, hw.2, List.drop_zero, Nat.sub_zero, ← r.length, List.take_length]
        rw [e]
        exact r1)))
/-! ## new lists, nobody's yet -/
abbrev rF (K : PySem.W.Frag) (W : WX) (f : List Sl → LH → Res LO) : TE := fun σ H Q => rd K W (RF K H) f σ H Q
theorem rf_new {w0 w : Wd} {lh : LH} {H0 H : Hp} {σ : L2.St} {Q : VK} {xs : List L} {vs : List V} (p : Post X.K W (RF X.K H0) w H σ Q (.ok (.lst xs) lh)) (e : Ext w0 H0 w H) (hh : RelH X.K w lh H) (r : RelLs X.K w xs vs) :
    ∀ q, H q = none → Q (.ref q) (upd H q (.lst vs)) := fun q n =>
  p w (.ref q) _ (ext_new _ n) (hh.new _ n) ⟨q, .lst vs, rfl, upd_same .., ⟨vs, rfl, r⟩, hh.fresh n, hh.notin n, e.none n⟩
theorem f_lst (ha : PA X es (rEs X.K W fs)) (hl : es.length ≤ 1000000) (hn : ∀ ls h xs h', fs ls h = .ok xs h' → xs.length = es.length) : PE X (.List es pos) (rF X.K W fun ls h => (fs ls h).bind fun xs h => .ok (.lst xs) h) :=
  PE.imp (pe_lst ha) fun σ H Q ⟨w, ls, lh, hh, hs, p⟩ =>
    rd.mk hh hs (Post.seq p fun xs lh1 z w1 vs H1 e1 h1 r1 p1 => ⟨small_line (by rw [← RelLs.length r1, hn _ _ _ _ z]; exact hl), rf_new p1 e1 h1 r1⟩)
theorem seq_of {K : PySem.W.Frag} {w : Wd} {lh : LH} {H : Hp} {x : L} {xs : List L} {v : V} (hh : RelH K w lh H) (e : seqB x = some xs) (r : RelL K w x v) : ∃ a vs k, v = .ref a ∧ SqB K k w.F a vs ∧ RelLs K w xs vs := by
  cases x <;> simp only [seqB, Option.some.injEq, reduceCtorEq] at e
  · subst e
    simp only [RelL] at r
    obtain ⟨a, vs, e, q, r⟩ := r
    exact ⟨a, vs, true, e, q, r⟩
  · subst e
    simp only [RelL] at r
    obtain ⟨a, vs, e, q, r⟩ := r
    exact ⟨a, vs, false, e, SqL.of q, r⟩
  · subst e
    simp only [RelL] at r
    obtain ⟨a, vs, e, q, r⟩ := r
    exact ⟨a, vs, false, e, q, r⟩
theorem sqB_mono {K : PySem.W.Frag} {F F' : Hp} (h : ∀ a o, F a = some o → F' a = some o) {k : Bool} {a : Addr} {vs : List V} (r : SqB K k F a vs) : SqB K k F' a vs := by
  cases k with
  | true => exact sqT_mono h r
  | false => exact sqL_mono h r
def rSeqNew (K : PySem.W.Frag) (P : List V → Prop) (C : List V → List V → Prop) : List V → Hp → VK → Prop := fun vs H Q => ∃ a xs k, vs = [.ref a] ∧ SqB K k H a xs ∧ P xs ∧ ∀ ys q, C xs ys → H q = none → Q (.ref q) (upd H q (.lst ys))
theorem cr_list : CallR X (.type "list") (rSeqNew X.K (fun _ => True) fun xs ys => ys = xs) :=
  CallR.imp call_list_of fun xs H Q ⟨a, vs, k, e, q, _, f⟩ => ⟨a, vs, e, by cases k with
    | true => exact .inr q
    | false => exact .inl q, fun l n => f vs l rfl n⟩
theorem cr_sortedB : CallR X (.builtin "sorted") (rSeqNew X.K (fun xs => ∃ ns : List Int, xs = ns.map V.int) fun xs ys => ∀ ns : List Int, xs = ns.map V.int → ∃ ns' : List Int, ys = ns'.map V.int ∧ ns'.Perm ns ∧ ns'.Pairwise (· ≤ ·)) :=
  CallR.imp (cr_sortedI.or cr_sortedT) fun vs H Q ⟨a, xs, k, e, q, ⟨ns, en⟩, f⟩ => by
    subst en
    have inj : ∀ {as bs : List Int}, as.map V.int = bs.map V.int → as = bs := fun {as bs} h => by
      have : ∀ (as bs : List Int), as.map V.int = bs.map V.int → as = bs := by
        intro as
        induction as with
        | nil => intro bs h; cases bs with
          | nil => rfl
          | cons => simp at h
        | cons a as ih => intro bs h; cases bs with
          | nil => simp at h
          | cons b bs =>
            simp only [List.map_cons, List.cons.injEq, V.int.injEq] at h
            rw [h.1, ih bs h.2]
      exact this as bs h
    have f' : ∀ (ns' : List Int) (p : Addr), ns'.Perm ns → ns'.Pairwise (· ≤ ·) → H p = none → Q (.ref p) (upd H p (.lst (ns'.map V.int))) := fun ns' p h1 h2 n => f _ p (fun ms hm => ⟨ns', rfl, by rw [← inj hm]; exact h1, h2⟩) n
    cases k with
    | false => exact .inl ⟨a, ns, e, q, f'⟩
    | true => exact .inr ⟨a, ns, e, q, f'⟩
theorem f_call {x : Str} {p : Pos} {e : Expr} {P : List V → Prop} {C : List V → List V → Prop} {g : List L → Option (List L)} (hp : ∀ ta, PA X [e] ta → PE X (.Call (.Name x p) [e] [] pos) (tCB (rSeqNew X.K P C) ta))
    (ha : PE X e (rE X.K W fa)) (hs : starEach [e] X.env = (false, eval e X.env) :: starEach [] X.env) (hg : ∀ w xs ys vs, g xs = some ys → RelLs X.K w xs vs → P vs ∧ ∀ us, C vs us → RelLs X.K w ys us) :
    PE X (.Call (.Name x p) [e] [] pos) (rF X.K W fun ls h => (fa ls h).bind fun x h => .opt ((seqB x).bind fun xs => (g xs).map .lst) h) :=
  PE.imp (hp _ (a_cons ha a_nil hs)) fun σ H Q ⟨w, ls, lh, hh, hs, p⟩ => by
    refine rd.mk hh hs ?_
    have p : Post X.K W (RF X.K H) w H σ Q ((fa ls lh).bind fun x h => .opt ((seqB x).bind fun xs => (g xs).map .lst) h) := p
    show Post X.K W (RLs X.K) w H σ _ ((fa ls lh).bind fun x h => .ok [x] h)
    cases z : fa ls lh with
    | no => rw [z] at p; exact p
    | exn C x h => rw [z] at p; exact p
    | ok x lh1 =>
      rw [z] at p
      intro w1 vs H1 e1 h1 r1
      obtain ⟨v, rfl, rv⟩ := rels1 r1
      have p := Post.step e1 p
      cases z1 : seqB x with
      | none => simp only [Res.bind_ok, z1, Option.bind_none, Res.opt_none] at p; exact p.elim
      | some xs =>
        cases z2 : g xs with
        | none => simp only [Res.bind_ok, z1, Option.bind_some, z2, Option.map_none, Res.opt_none] at p; exact p.elim
        | some ys =>
          simp only [Res.bind_ok, z1, Option.bind_some, z2, Option.map_some, Res.opt_some] at p
          obtain ⟨a, vs, k, rfl, sq, r⟩ := seq_of h1 z1 rv
          obtain ⟨c1, c2⟩ := hg _ _ _ _ z2 r
          exact ⟨a, vs, k, rfl, sqB_mono h1.sub sq, c1, fun us q hc n => rf_new p e1 h1 (c2 us hc) q n⟩
theorem opt_map_id (o : Option (List L)) : o.map LO.lst = o.bind fun xs => (some xs).map .lst := by cases o <;> rfl
theorem f_list {p : Pos} {e : Expr} (hg : Gl X "list") (hm : X.mg "list" = none) (ha : PE X e (rE X.K W fa)) (hs : starEach [e] X.env = (false, eval e X.env) :: starEach [] X.env) :
    PE X (.Call (.Name "list" p) [e] [] pos) (rF X.K W fun ls h => (fa ls h).bind fun x h => .opt ((seqB x).map .lst) h) := by
  have q := f_call (g := some) (pos := pos) (W := W) (fun ta h => pe_callTy (p := p) (pos := pos) cr_list hg hm boot_list h (he := hs)) ha hs (fun w xs ys vs e r => ⟨True.intro, fun us hc => by cases e; rw [hc]; exact r⟩)
  refine PE.imp q fun σ H Q h => ?_
  obtain ⟨w, ls, lh, hh, hs, p⟩ := h
  refine ⟨w, ls, lh, hh, hs, ?_⟩
  have p : Post X.K W (RF X.K H) w H σ Q ((fa ls lh).bind fun x h => .opt ((seqB x).map .lst) h) := p
  have e : (fun x (h : LH) => Res.opt ((seqB x).map LO.lst) h) = fun x h => Res.opt ((seqB x).bind fun xs => (some xs).map .lst) h := by funext x h; cases seqB x <;> rfl
  rw [e] at p
  exact p
theorem f_sorted {p : Pos} {e : Expr} (hg : Gl X "sorted") (hm : X.mg "sorted" = none) (ha : PE X e (rE X.K W fa)) (hs : starEach [e] X.env = (false, eval e X.env) :: starEach [] X.env) :
    PE X (.Call (.Name "sorted" p) [e] [] pos) (rF X.K W fun ls h => (fa ls h).bind fun x h => .opt ((seqB x).bind fun xs => (intsOf xs).map fun ns => .lst ((sortI ns).map .int)) h) := by
  have q := f_call (g := fun xs => (intsOf xs).map fun ns => (sortI ns).map .int) (pos := pos) (W := W) (fun ta h => pe_callB (p := p) (pos := pos) cr_sortedB hg hm (by decide +kernel) h (he := hs)) ha hs (fun w xs ys vs e r => by
    cases z : intsOf xs with
    | none => rw [z] at e; cases e
    | some ns =>
      rw [z] at e
      cases e
      rw [intsOf_eq z] at r
      have er := r.ints
      refine ⟨⟨ns, er⟩, fun us hc => ?_⟩
      obtain ⟨ns', e1, e2, e3⟩ := hc ns er
      rw [e1, sortI_one e2 e3]
      exact RelLs.of_ints _)
  refine PE.imp q fun σ H Q h => ?_
  obtain ⟨w, ls, lh, hh, hs, p⟩ := h
  refine ⟨w, ls, lh, hh, hs, ?_⟩
  have p : Post X.K W (RF X.K H) w H σ Q ((fa ls lh).bind fun x h => .opt ((seqB x).bind fun xs => (intsOf xs).map fun ns => .lst ((sortI ns).map .int)) h) := p
  have e : ∀ xs : List L, ((intsOf xs).map fun ns => (sortI ns).map L.int).map LO.lst = (intsOf xs).map fun ns => .lst ((sortI ns).map .int) := fun xs => by cases intsOf xs <;> rfl
  simp only [e]
  exact p
theorem f_rev {k : Nat} {p1 p2 p3 : Pos} (ha : PE X a (rE X.K W fa)) :
    PE X (.Subscript a (.Slice none none (some (.UnaryOp .USub (.Constant (.int 1) k p1) p2)) p3) pos) (rF X.K W fun ls h => (fa ls h).bind fun x h => match x with
    | .lst xs => .ok (.lst xs.reverse) h
    | _ => .no) :=
  PE.imp (pe_revL ha) fun σ H Q ⟨w, ls, lh, hh, hs, p⟩ =>
    rd.mk hh hs (Post.seq p fun x lh1 z1 w1 v H1 e1 h1 r1 p1 => by
      cases x <;> try exact p1.elim
      obtain ⟨q, vs, rfl, sq, r⟩ := rel_lst h1 r1
      exact ⟨q, vs, rfl, sq, rf_new p1 e1 h1 r.reverse⟩)
theorem f_slc {lo hi : Option Expr} {fl fh : List Sl → LH → Res (Option Int)} {p2 : Pos} (ha : PE X a (rE X.K W fa)) (hl : PO X lo (rO X.K W fl)) (hh : PO X hi (rO X.K W fh)) :
    PE X (.Subscript a (.Slice lo hi none p2) pos) (rF X.K W fun ls h => (fa ls h).bind fun x h => (fl ls h).bind fun l h => (fh ls h).bind fun u h => .opt (evSlcL x l u) h) :=
  PE.imp (pe_slice sl_list ha hl hh) fun σ H Q ⟨w, ls, lh, hh, hs, p⟩ =>
    rd.mk hh hs (Post.seq p fun x lh1 z1 w1 v H1 e1 h1 r1 p1 => rd.mk h1 (hs.ext e1) (Post.seq p1 fun l lh2 z2 w2 l' H2 e2 h2 r2 p2 => rd.mk h2 ((hs.ext e1).ext e2) (Post.seq p2 fun u lh3 z3 w3 u' H3 e3 h3 r3 p3 => by
      replace r2 : l = l' := r2
      replace r3 : u = u' := r3
      subst r2 r3
      replace r1 := (RelL.mono e2.le r1).mono e3.le
      cases x <;> try exact p3.elim
      · obtain ⟨q, vs, rfl, sq, r⟩ := rel_lst h3 r1
        exact ⟨q, vs, rfl, sq, rf_new p3 ((e1.trans e2).trans e3) h3 (rels_cut r l u)⟩
      · obtain ⟨q, vs, rfl, sq, r⟩ := rel_scr h3 r1
        exact ⟨q, vs, rfl, sq, rf_new p3 ((e1.trans e2).trans e3) h3 (rels_cut r l u)⟩)))
theorem f_cat (ha : PE X a (rE X.K W fa)) (hb : PE X b (rE X.K W fb)) :
    PE X (.BinOp a .Add b pos) (rF X.K W fun ls h => (fa ls h).bind fun x h => (fb ls h).bind fun y h => match x, y with
    | .lst xs, .lst ys => if xs.length + ys.length ≤ 1000000 then .ok (.lst (xs ++ ys)) h else .no
    | _, _ => .no) :=
  PE.imp (pe_op op_cat ha hb) fun σ H Q ⟨w, ls, lh, hh, hs, p⟩ =>
    rd.mk hh hs (Post.seq p fun x lh1 z1 w1 v H1 e1 h1 r1 p1 => rd.mk h1 (hs.ext e1) (Post.seq p1 fun y lh2 z2 w2 u H2 e2 h2 r2 p2 => by
      replace r1 := RelL.mono e2.le r1
      cases x <;> cases y <;> try exact p2.elim
      rename_i xs ys
      obtain ⟨q, vs, rfl, sq, r⟩ := rel_lstH h2 r1
      obtain ⟨q', us, rfl, sq', r'⟩ := rel_lstH h2 r2
      by_cases c : xs.length + ys.length ≤ 1000000
      · simp only [if_pos c] at p2
        exact ⟨q, q', vs, us, rfl, rfl, sq, sq', by rw [← r.length, ← r'.length]; exact small_line c, rf_new p2 (e1.trans e2) h2 (r.append r')⟩
      · simp only [if_neg c] at p2
        exact p2.elim))
theorem rels_rep {K : PySem.W.Frag} {w : Wd} {xs : List L} {vs : List V} (r : RelLs K w xs vs) : ∀ n : Nat, RelLs K w (List.replicate n xs).flatten (List.replicate n vs).flatten
  | 0 => .nil
  | n + 1 => by
    simp only [List.replicate_succ, List.flatten_cons]
    exact r.append (rels_rep r n)
theorem f_rep (ha : PE X a (rE X.K W fa)) (hb : PE X b (rE X.K W fb)) :
    PE X (.BinOp a .Mult b pos) (rF X.K W fun ls h => (fa ls h).bind fun x h => (fb ls h).bind fun y h => match x, y with
    | .lst xs, .int k => if -(2 ^ 60) ≤ k ∧ k ≤ 1000000 ∧ xs.length * k.toNat ≤ 1000000 then .ok (.lst (List.replicate k.toNat xs).flatten) h else .no
    | _, _ => .no) :=
  PE.imp (pe_op op_rep ha hb) fun σ H Q ⟨w, ls, lh, hh, hs, p⟩ =>
    rd.mk hh hs (Post.seq p fun x lh1 z1 w1 v H1 e1 h1 r1 p1 => rd.mk h1 (hs.ext e1) (Post.seq p1 fun y lh2 z2 w2 u H2 e2 h2 r2 p2 => by
      replace r1 := RelL.mono e2.le r1
      cases x <;> cases y <;> try exact p2.elim
      rename_i xs k
      obtain ⟨q, vs, rfl, sq, r⟩ := rel_lstH h2 r1
      rw [rel_int r2]
      by_cases c : -(2 ^ 60) ≤ k ∧ k ≤ 1000000 ∧ xs.length * k.toNat ≤ 1000000
      · simp only [if_pos c] at p2
        exact ⟨q, k, vs, rfl, rfl, sq, by omega, by omega, by rw [← r.length]; exact small_line c.2.2, rf_new p2 (e1.trans e2) h2 (rels_rep r _)⟩
      · simp only [if_neg c] at p2
        exact p2.elim))
theorem rels_rng {K : PySem.W.Frag} {w : Wd} (lo hi : Int) : RelLs K w (rngL lo (hi - lo).toNat) (rgV lo hi) := by
  unfold rngL rgV
  generalize (List.range (hi - lo).toNat) = l
  induction l with
  | nil => exact .nil
  | cons n l ih => exact .cons (mk_int _) ih
theorem f_rng {p p2 pos2 : Pos} {e : Expr} (hc : X.calm = true) (hg : Gl X "list") (hm : X.mg "list" = none) (hg2 : Gl X "range") (hm2 : X.mg "range" = none) (ha : PE X e (rE X.K W fa)) (hs : starEach [e] X.env = (false, eval e X.env) :: starEach [] X.env)
    (hs2 : starEach [.Call (.Name "range" p2) [e] [] pos2] X.env = (false, eval (.Call (.Name "range" p2) [e] [] pos2) X.env) :: starEach [] X.env) :
    PE X (.Call (.Name "list" p) [.Call (.Name "range" p2) [e] [] pos2] [] pos) (rF X.K W fun ls h => (fa ls h).bind fun x h => match x with
      | .int i => if rngOk i then .ok (.lst (rngL 0 i.toNat)) h else .no
      | _ => .no) :=
  PE.imp (pe_listRg hc hg hm (prg_1 hg2 hm2 ha hs) hs2) fun σ H Q ⟨w, ls, lh, hh, hs, p⟩ =>
    rd.mk hh hs (Post.seq p fun x lh1 z1 w1 v H1 e1 h1 r1 p1 => by
      cases x <;> try exact p1.elim
      rename_i i
      refine ⟨i, rel_int r1, ?_⟩
      by_cases c : rngOk i = true
      · simp only [if_pos c] at p1
        have c' := Bool.and_eq_true_iff.mp c
        have c1 := of_decide_eq_true c'.1
        have c2 := of_decide_eq_true c'.2
        refine ⟨⟨by omega, by omega, by omega, by omega, by omega⟩, rf_new p1 e1 h1 ?_⟩
        have q := rels_rng (K := X.K) (w := w1) 0 i
        rw [Int.sub_zero] at q
        exact q
      · simp only [if_neg c] at p1
        exact p1.elim)
/-- a new list that stands frozen from now on -/
theorem rel_frz {K : PySem.W.Frag} {w : Wd} {o : LO} {ho : HO} {a : Addr} (n : w.F a = none) (r : RelO K w o ho) : RelL K (w.put a ho) (frzL o) (.ref a) := by
  cases o with
  | lst xs =>
    obtain ⟨vs, rfl, r⟩ := r
    simp only [frzL, RelL]
    exact ⟨a, vs, rfl, by show upd w.F a _ a = _; rw [upd_same], r.mono (le_put w _ n)⟩
  | ins C ns xs =>
    obtain ⟨dx, vs, rfl, hl, r⟩ := r
    simp only [frzL, RelL]
    exact ⟨a, dx, vs, rfl, by show upd w.F a _ a = _; rw [upd_same], hl, r.mono (le_put w _ n)⟩
theorem ext_froze {w w1 : Wd} {H H1 : Hp} (e : Ext w H w1 H1) {a : Addr} (ho : HO) (n : w1.F a = none) (n0 : H a = none) : Ext w H (w1.put a ho) H1 := by
  refine ⟨fun b o q => (le_put w1 ho n).fz b o (e.fz b o q), e.rr, e.kp, e.al, fun b o q z => ?_⟩
  show upd w1.F a ho b = none
  rw [upd_ne (ne_of_none q n0)]
  exact e.nf b o q z
theorem e_fr {e : Expr} {f : List Sl → LH → Res LO} (h : PE X e (rF X.K W f)) : PE X e (rE X.K W fun ls h => (f ls h).bind fun o h => .ok (frzL o) h) :=
  PE.imp h fun σ H Q ⟨w, ls, lh, hh, hs, p⟩ => by
    refine rd.mk hh hs ?_
    have p : Post X.K W (RL X.K) w H σ Q ((f ls lh).bind fun o h => .ok (frzL o) h) := p
    cases z : f ls lh with
    | no => rw [z] at p; exact p
    | exn C x h => rw [z] at p; exact p
    | ok o lh1 =>
      rw [z] at p
      intro w1 v H1 e1 h1 ⟨a, ho, ev, e2, r, n, m, n0⟩
      subst ev
      exact p _ _ H1 (ext_froze e1 ho n n0) (h1.froze e2 n m) (rel_frz n r)
/-- a new list that is an object from now on -/
theorem e_hp {e : Expr} {f : List Sl → LH → Res LO} (h : PE X e (rF X.K W f)) : PE X e (rE X.K W fun ls h => (f ls h).bind fun o h => .ok (.obj h.length) (h ++ [o])) :=
  PE.imp h fun σ H Q ⟨w, ls, lh, hh, hs, p⟩ => by
    refine rd.mk hh hs ?_
    have p : Post X.K W (RL X.K) w H σ Q ((f ls lh).bind fun o h => .ok (.obj h.length) (h ++ [o])) := p
    cases z : f ls lh with
    | no => rw [z] at p; exact p
    | exn C x h => rw [z] at p; exact p
    | ok o lh1 =>
      rw [z] at p
      intro w1 v H1 e1 h1 ⟨a, ho, ev, e2, r, n, m, n0⟩
      subst ev
      obtain ⟨q1, q2, q3⟩ := e1.rr
      refine p (w1.add a) _ H1 ⟨e1.fz, ⟨q1 ++ [a], by show w1.r ++ [a] = _; rw [q2, List.append_assoc], fun b hb => ?_⟩, e1.kp, e1.al, e1.nf⟩ (h1.add e2 r n m) ?_
      · rcases List.mem_append.mp hb with hb | hb
        · exact q3 b hb
        · rw [List.mem_singleton.mp hb]
          exact n0
      · show RelL X.K _ (.obj lh1.length) _
        simp only [RelL]
        refine ⟨a, rfl, ?_⟩
        show (w1.r ++ [a])[lh1.length]? = some a
        rw [← h1.len]
        simp
end
end Ev

namespace Ev
open PySem PySem.Spec PyProof.Rows L2

/-! ## slots and targets -/
theorem RelS.set {K : PySem.W.Frag} {w : Wd} {ls : List Sl} {σ : L2.St} {H : Hp} (s : RelS K w ls σ H) {x : L} {v : V} (i : Nat) (r : RelL K w x v) : RelS K w (ls.set i (.sh x)) (σ.set i (some v)) H := by
  refine ⟨by simp [s.len], fun j y q => ?_, fun j o q => ?_, fun j k o o' a q1 q2 q3 q4 => ?_⟩
  · by_cases e : i = j
    · subst e
      rw [List.getElem?_set] at q
      rw [if_pos rfl] at q
      by_cases hl : i < ls.length
      · rw [if_pos hl] at q
        cases q
        exact ⟨v, by rw [List.getElem?_set, if_pos rfl, if_pos (by rw [← s.len]; exact hl)], r⟩
      · rw [if_neg hl] at q
        cases q
    · rw [List.getElem?_set_ne e] at q
      rw [List.getElem?_set_ne e]
      exact s.sh j y q
  · have e : i ≠ j := fun e => by
      subst e
      rw [List.getElem?_set, if_pos rfl] at q
      split at q <;> cases q
    rw [List.getElem?_set_ne e] at q
    rw [List.getElem?_set_ne e]
    exact s.ow j o q
  · have e1 : i ≠ j := fun e => by
      subst e
      rw [List.getElem?_set, if_pos rfl] at q1
      split at q1 <;> cases q1
    have e2 : i ≠ k := fun e => by
      subst e
      rw [List.getElem?_set, if_pos rfl] at q2
      split at q2 <;> cases q2
    rw [List.getElem?_set_ne e1] at q1 q3
    rw [List.getElem?_set_ne e2] at q2 q4
    exact s.dj j k o o' a q1 q2 q3 q4
theorem RelS.drop1 {K : PySem.W.Frag} {w : Wd} {ls : List Sl} {σ : L2.St} {H : Hp} (s : RelS K w ls σ H) (i : Nat) (v : Option V) : RelS K w (ls.set i .no) (σ.set i v) H := by
  refine ⟨by simp [s.len], fun j y q => ?_, fun j o q => ?_, fun j k o o' a q1 q2 q3 q4 => ?_⟩
  · have e : i ≠ j := fun e => by
      subst e
      rw [List.getElem?_set, if_pos rfl] at q
      split at q <;> cases q
    rw [List.getElem?_set_ne e] at q
    rw [List.getElem?_set_ne e]
    exact s.sh j y q
  · have e : i ≠ j := fun e => by
      subst e
      rw [List.getElem?_set, if_pos rfl] at q
      split at q <;> cases q
    rw [List.getElem?_set_ne e] at q
    rw [List.getElem?_set_ne e]
    exact s.ow j o q
  · have e1 : i ≠ j := fun e => by
      subst e
      rw [List.getElem?_set, if_pos rfl] at q1
      split at q1 <;> cases q1
    have e2 : i ≠ k := fun e => by
      subst e
      rw [List.getElem?_set, if_pos rfl] at q2
      split at q2 <;> cases q2
    rw [List.getElem?_set_ne e1] at q1 q3
    rw [List.getElem?_set_ne e2] at q2 q4
    exact s.dj j k o o' a q1 q2 q3 q4
theorem RelS.wipe {K : PySem.W.Frag} {w : Wd} {ls : List Sl} {σ : L2.St} {H : Hp} (s : RelS K w ls σ H) : ∀ vs : List Nat, RelS K w (wipeL ls vs) (L2.wipe σ vs) H
  | [] => s
  | v :: vs => (s.wipe vs).drop1 v none
/-- the same but for the slots told -/
def Agree (ts : List Nat) (σ σ' : L2.St) : Prop := σ'.length = σ.length ∧ ∀ i, i ∉ ts → σ'[i]? = σ[i]?
theorem Agree.refl (ts : List Nat) (σ : L2.St) : Agree ts σ σ := ⟨rfl, fun _ _ => rfl⟩
theorem Agree.trans {ts us : List Nat} {σ σ1 σ2 : L2.St} (a : Agree ts σ σ1) (b : Agree us σ1 σ2) : Agree (ts ++ us) σ σ2 :=
  ⟨b.1.trans a.1, fun i hi => by
    have h1 : i ∉ us := fun h => hi (List.mem_append_right _ h)
    have h2 : i ∉ ts := fun h => hi (List.mem_append_left _ h)
    rw [b.2 i h1, a.2 i h2]⟩
theorem agree_set (σ : L2.St) (i : Nat) (v : Option V) : Agree [i] σ (σ.set i v) := ⟨by simp, fun j hj => by
  have e : i ≠ j := fun e => hj (by rw [e]; simp)
  rw [List.getElem?_set_ne e]⟩
theorem wipe_get (σ : L2.St) : ∀ (vs : List Nat) (i : Nat), (L2.wipe σ vs)[i]? = if i ∈ vs then (if i < σ.length then some none else none) else σ[i]?
  | [], i => by simp [L2.wipe]
  | v :: vs, i => by
    unfold L2.wipe
    rw [List.getElem?_set]
    by_cases e : v = i
    · subst e
      simp [L2.wipe_length]
    · rw [if_neg e, wipe_get σ vs i]
      have : i ≠ v := fun z => e z.symm
      simp [this]
theorem wipe_agree {vs : List Nat} {σ σ' : L2.St} (a : Agree vs (L2.wipe σ vs) σ') : L2.wipe σ' vs = L2.wipe σ vs := by
  apply List.ext_getElem?
  intro i
  rw [wipe_get, wipe_get]
  have hl : σ'.length = σ.length := by rw [a.1, L2.wipe_length]
  by_cases h : i ∈ vs
  · rw [if_pos h, if_pos h, hl]
  · rw [if_neg h, if_neg h, a.2 i h, wipe_get, if_neg h]
def rG (K : PySem.W.Frag) (t : Tg) : TG := fun v σ H Q => ∃ w x lh ls ls', RelH K w lh H ∧ RelS K w ls σ H ∧ RelL K w x v ∧ asgT t x ls = some ls' ∧ ∀ σ', RelS K w ls' σ' H → Agree (slotsT t) σ σ' → Q σ' H
def rGs (K : PySem.W.Frag) (ts : List Tg) : TGs := fun vs σ H Q => ∃ w xs lh ls ls', RelH K w lh H ∧ RelS K w ls σ H ∧ RelLs K w xs vs ∧ xs.length = ts.length ∧ asgT.asgTs ts xs ls = some ls' ∧ ∀ σ', RelS K w ls' σ' H → Agree (slotsTs ts) σ σ' → Q σ' H
section
variable {X : Cx} {pos : Pos}
theorem PG.imp {e : Expr} {t t' : TG} (h : PG X e t) (k : ∀ v σ H Q, t' v σ H Q → t v σ H Q) : PG X e t' := ⟨fun pins s σ H v u Q I r q => h.run pins s σ H v u Q I r (k v σ H Q q)⟩
theorem PGs.imp {e : List Expr} {t t' : TGs} (h : PGs X e t) (k : ∀ v σ H Q, t' v σ H Q → t v σ H Q) : PGs X e t' := ⟨fun pins s σ H v u Q I r q => h.run pins s σ H v u Q I r (k v σ H Q q)⟩
theorem g_name {i : Nat} {x : Str} (hN : X.N.Nodup) (hi : X.N[i]? = some x) (hx : Loc X.env.scope x) (hf : X.fn x = true ∨ X.env.scope.names.lookup x = some .local) : PG X (.Name x pos) (rG X.K (.n i)) :=
  PG.imp (pg_name hN hi hx hf) fun v σ H Q ⟨w, x, lh, ls, ls', hh, hs, r, e, q⟩ => by
    unfold asgT at e
    split at e
    · cases e
      exact q _ (hs.set i r) (agree_set σ i _)
    · cases e
theorem gs_nil : PGs X [] (rGs X.K []) :=
  PGs.imp pgs_nil fun v σ H Q ⟨w, xs, lh, ls, ls', hh, hs, r, hl, e, q⟩ => by
    have : xs = [] := List.length_eq_zero_iff.mp hl
    subst this
    cases e
    exact ⟨r.nil_inv, q σ hs (Agree.refl _ _)⟩
theorem gs_cons {e : Expr} {es : List Expr} {t : Tg} {ts : List Tg} (h1 : PG X e (rG X.K t)) (h2 : PGs X es (rGs X.K ts)) (hs : (assignEach (e :: es) X.env).map (·.2) = assign e X.env :: (assignEach es X.env).map (·.2)) :
    PGs X (e :: es) (rGs X.K (t :: ts)) :=
  PGs.imp (pgs_cons h1 h2 hs) fun v σ H Q ⟨w, xs, lh, ls, ls', hh, hs, r, hl, e, q⟩ => by
    cases xs with
    | nil => simp at hl
    | cons x xs =>
      obtain ⟨v, vs, rfl, a, b⟩ := r.cons_inv
      unfold asgT.asgTs at e
      cases z : asgT t x ls with
      | none => rw [z] at e; cases e
      | some l1 =>
        rw [z] at e
        exact ⟨v, vs, rfl, w, x, lh, ls, l1, hh, hs, a, z, fun σ1 hs1 ag1 => ⟨w, xs, lh, l1, ls', hh, hs1, b, by simpa using hl, e, fun σ2 hs2 ag2 => q σ2 hs2 (by
          show Agree (slotsT t ++ slotsTs ts) σ σ2
          exact ag1.trans ag2)⟩⟩
theorem g_tup {es : List Expr} {k : Nat} {ts : List Tg} (hc : X.calm = true) (h : PGs X es (rGs X.K ts)) (hn : (assignEach es X.env).length = ts.length) (hst : (assignEach es X.env).findIdx? (·.1) = none) : PG X (.Tuple es k pos) (rG X.K (.t ts)) :=
  PG.imp (pg_tup hc h hn hst) fun v σ H Q ⟨w, x, lh, ls, ls', hh, hs, r, e, q⟩ => by
    cases x <;> simp only [asgT, reduceCtorEq] at e
    rename_i xs
    split at e
    · rename_i c
      obtain ⟨a, vs, rfl, sq, rs⟩ := rel_tup hh r
      exact ⟨a, vs, rfl, sq, by rw [← rs.length, c], w, xs, lh, ls, ls', hh, hs, rs, c.symm, e, q⟩
    · cases e
end

/-! ## sources -/
def Frz (w : Wd) (H : Hp) : Prop := ∀ a o, w.F a = some o → H a = some o
structure Src (K : PySem.W.Frag) (w : Wd) (J : It) (xs : List L) : Prop where
  goes : ∀ i H, i < xs.length → Frz w H → J.go i H
  stops : ∀ H, Frz w H → J.stop xs.length H
  yields : ∀ i H v H' w' lh x, xs[i]? = some x → Le w w' → RelH K w' lh H → J.yld i H v H' → ∃ w'', Ext w' H w'' H' ∧ RelH K w'' lh H' ∧ RelL K w'' x v
section
variable {K : PySem.W.Frag} {w : Wd} {a b : Addr} {xs ys : List L} {vs us : List V}
theorem src_list (q : SqL K w.F a vs) (r : RelLs K w xs vs) : Src K w (Itl K a) xs := by
  refine ⟨fun i H hi f => walk_list.goes i H (by rw [← r.length]; exact hi) (sqL_mono f q), fun H f => by rw [r.length]; exact walk_list.stops H (sqL_mono f q), fun i H v H' w' lh x e l h y => ?_⟩
  have hi : i < vs.length := by rw [← r.length]; exact (List.getElem?_eq_some_iff.mp e).1
  obtain ⟨rfl, y2⟩ := walk_list.yields i H v H' hi (sqL_mono (fun a o z => h.sub a o (l.fz a o z)) q) y
  obtain ⟨u, e1, r1⟩ := r.get e
  rw [e1] at y2
  cases y2
  exact ⟨w', Ext.refl _ _, h, r1.mono l⟩
theorem src_tup (q : SqT K w.F a vs) (r : RelLs K w xs vs) : Src K w (Itt K a) xs := by
  refine ⟨fun i H hi f => walk_tup.goes i H (by rw [← r.length]; exact hi) (sqT_mono f q), fun H f => by rw [r.length]; exact walk_tup.stops H (sqT_mono f q), fun i H v H' w' lh x e l h y => ?_⟩
  have hi : i < vs.length := by rw [← r.length]; exact (List.getElem?_eq_some_iff.mp e).1
  obtain ⟨rfl, y2⟩ := walk_tup.yields i H v H' hi (sqT_mono (fun a o z => h.sub a o (l.fz a o z)) q) y
  obtain ⟨u, e1, r1⟩ := r.get e
  rw [e1] at y2
  cases y2
  exact ⟨w', Ext.refl _ _, h, r1.mono l⟩
theorem src_str (z : Str) : Src K w (Its z) (z.cps.toList.map fun c => .str ⟨#[c]⟩) := by
  have hl : (z.cps.toList.map fun c => L.str ⟨#[c]⟩).length = z.cps.size := by simp
  refine ⟨fun i H hi f => walk_str.goes i H (by rw [← hl]; exact hi) True.intro, fun H f => by rw [hl]; exact walk_str.stops H True.intro, fun i H v H' w' lh x e l h y => ?_⟩
  have hi : i < z.cps.size := by rw [← hl]; exact (List.getElem?_eq_some_iff.mp e).1
  obtain ⟨rfl, c, e1, rfl⟩ := walk_str.yields i H v H' hi True.intro y
  refine ⟨w', Ext.refl _ _, h, ?_⟩
  have : x = .str ⟨#[c]⟩ := by
    rw [List.getElem?_map, Array.getElem?_toList, e1] at e
    cases e
    rfl
  rw [this]
  exact mk_str _
theorem src_rng (lo : Int) (n : Nat) : Src K w (Itr lo n) (rngL lo n) := by
  have hl : (rngL lo n).length = n := by simp [rngL]
  refine ⟨fun i H hi f => walk_range.goes i H (by rw [← hl]; exact hi) True.intro, fun H f => by rw [hl]; exact walk_range.stops H True.intro, fun i H v H' w' lh x e l h y => ?_⟩
  have hi : i < n := by rw [← hl]; exact (List.getElem?_eq_some_iff.mp e).1
  obtain ⟨rfl, rfl⟩ := walk_range.yields i H v H' hi True.intro y
  refine ⟨w', Ext.refl _ _, h, ?_⟩
  have : x = .int (lo + (i : Nat)) := by
    unfold rngL at e
    rw [List.getElem?_map, List.getElem?_range hi] at e
    cases e
    rfl
  rw [this]
  exact mk_int _
theorem zipL_length : ∀ xs ys : List L, (zipL xs ys).length = min xs.length ys.length
  | [], _ => by simp [zipL]
  | _ :: _, [] => by simp [zipL]
  | x :: xs, y :: ys => by simp [zipL, zipL_length xs ys]
theorem zipL_get : ∀ {xs ys : List L} {i : Nat} {z : L}, (zipL xs ys)[i]? = some z → ∃ x y, xs[i]? = some x ∧ ys[i]? = some y ∧ z = .tup [x, y]
  | [], _, i, z, e => by simp [zipL] at e
  | _ :: _, [], i, z, e => by simp [zipL] at e
  | x :: xs, y :: ys, 0, z, e => by
    simp [zipL] at e
    exact ⟨x, y, by simp, by simp, e.symm⟩
  | x :: xs, y :: ys, i + 1, z, e => by
    obtain ⟨x', y', h1, h2, h3⟩ := zipL_get (xs := xs) (ys := ys) (i := i) (z := z) (by simpa [zipL] using e)
    exact ⟨x', y', by simpa using h1, by simpa using h2, h3⟩
theorem src_zip {k l : Bool} (q : SqB K k w.F a vs) (r : RelLs K w xs vs) (q' : SqB K l w.F b us) (r' : RelLs K w ys us) : Src K w (ItzB K k l a b) (zipL xs ys) := by
  refine ⟨fun i H hi f => ?_, fun H f => ⟨vs, us, sqB_mono f q, sqB_mono f q', by rw [zipL_length, r.length, r'.length]⟩, fun i H v H' w' lh x e l' h y => ?_⟩
  · rw [zipL_length, r.length, r'.length] at hi
    have h1 : i < vs.length := by omega
    have h2 : i < us.length := by omega
    exact ⟨vs, us, vs[i], us[i], sqB_mono f q, sqB_mono f q', by simp [h1], by simp [h2]⟩
  · obtain ⟨T, v1, v2, rfl, n, rfl, y1, y2⟩ := y
    obtain ⟨x1, x2, e1, e2, rfl⟩ := zipL_get e
    have f : Frz w H := fun a o z => h.sub a o (l'.fz a o z)
    have y1 := y1 vs (sqB_mono f q)
    have y2 := y2 us (sqB_mono f q')
    obtain ⟨u1, z1, r1⟩ := r.get e1
    obtain ⟨u2, z2, r2⟩ := r'.get e2
    rw [z1] at y1
    rw [z2] at y2
    cases y1
    cases y2
    refine ⟨w'.put T (.tup [v1, v2]), ext_put h _ n, h.put _ n, ?_⟩
    simp only [RelL]
    exact ⟨T, [v1, v2], rfl, .inl (.inl (by show upd w'.F T _ T = _; rw [upd_same])), RelLs.cons ((r1.mono l').mono (le_put w' _ (h.fresh n))) (RelLs.cons ((r2.mono l').mono (le_put w' _ (h.fresh n))) .nil)⟩
theorem enmL_length : ∀ (n : Nat) (xs : List L), (enmL n xs).length = xs.length
  | _, [] => rfl
  | n, x :: xs => by simp [enmL, enmL_length (n + 1) xs]
theorem enmL_get : ∀ {n : Nat} {xs : List L} {i : Nat} {z : L}, (enmL n xs)[i]? = some z → ∃ x, xs[i]? = some x ∧ z = .tup [.int ((n + i : Nat) : Int), x]
  | n, [], i, z, e => by simp [enmL] at e
  | n, x :: xs, 0, z, e => by
    simp [enmL] at e
    exact ⟨x, by simp, e.symm⟩
  | n, x :: xs, i + 1, z, e => by
    obtain ⟨x', h1, h3⟩ := enmL_get (n := n + 1) (xs := xs) (i := i) (z := z) (by simpa [enmL] using e)
    exact ⟨x', by simpa using h1, by rw [h3]; congr 4; omega⟩
theorem src_enm {k : Bool} (q : SqB K k w.F a vs) (r : RelLs K w xs vs) : Src K w (IteB K k a) (enmL 0 xs) := by
  refine ⟨fun i H hi f => ?_, fun H f => ⟨vs, sqB_mono f q, by rw [enmL_length, r.length]⟩, fun i H v H' w' lh x e l' h y => ?_⟩
  · rw [enmL_length, r.length] at hi
    exact ⟨vs, vs[i], sqB_mono f q, by simp [hi]⟩
  · obtain ⟨T, v1, rfl, n, rfl, y1⟩ := y
    obtain ⟨x1, e1, rfl⟩ := enmL_get e
    have f : Frz w H := fun a o z => h.sub a o (l'.fz a o z)
    have y1 := y1 vs (sqB_mono f q)
    obtain ⟨u1, z1, r1⟩ := r.get e1
    rw [z1] at y1
    cases y1
    refine ⟨w'.put T (.tup [.int (i : Nat), v1]), ext_put h _ n, h.put _ n, ?_⟩
    simp only [RelL]
    exact ⟨T, _, rfl, .inl (.inl (by show upd w'.F T _ T = _; rw [upd_same])), RelLs.cons (by rw [Nat.zero_add]; exact mk_int _) (RelLs.cons ((r1.mono l').mono (le_put w' _ (h.fresh n))) .nil)⟩
theorem rev_get {α : Type} {xs : List α} {i : Nat} {x : α} (e : xs.reverse[i]? = some x) : xs[xs.length - 1 - i]? = some x := by
  have hi : i < xs.length := by simpa using (List.getElem?_eq_some_iff.mp e).1
  rw [List.getElem?_reverse hi] at e
  exact e
theorem src_revL (q : SqL K w.F a vs) (r : RelLs K w xs vs) : Src K w (Itv K a vs.length) xs.reverse := by
  have hl : xs.reverse.length = vs.length := by rw [List.length_reverse, r.length]
  refine ⟨fun i H hi f => ?_, fun H f => by rw [hl]; exact Nat.le_refl _, fun i H v H' w' lh x e l h y => ?_⟩
  · rw [hl] at hi
    exact ⟨hi, vs, vs[vs.length - 1 - i]'(by omega), sqL_mono f q, by simp⟩
  · obtain ⟨rfl, y2⟩ := y
    have y2 := y2 vs (sqL_mono (fun a o z => h.sub a o (l.fz a o z)) q)
    obtain ⟨u, e1, r1⟩ := r.get (rev_get e)
    rw [r.length, y2] at e1
    cases e1
    exact ⟨w', Ext.refl _ _, h, r1.mono l⟩
theorem src_revT (q : SqT K w.F a vs) (r : RelLs K w xs vs) : Src K w (RT.ItvT K a vs.length) xs.reverse := by
  have hl : xs.reverse.length = vs.length := by rw [List.length_reverse, r.length]
  refine ⟨fun i H hi f => ?_, fun H f => by rw [hl]; exact Nat.le_refl _, fun i H v H' w' lh x e l h y => ?_⟩
  · rw [hl] at hi
    exact ⟨hi, vs, vs[vs.length - 1 - i]'(by omega), sqT_mono f q, by simp⟩
  · obtain ⟨rfl, y2⟩ := y
    have y2 := y2 vs (sqT_mono (fun a o z => h.sub a o (l.fz a o z)) q)
    obtain ⟨u, e1, r1⟩ := r.get (rev_get e)
    rw [r.length, y2] at e1
    cases e1
    exact ⟨w', Ext.refl _ _, h, r1.mono l⟩
end
/-! ## what is walked -/
def rI (K : PySem.W.Frag) (W : WX) (f : List Sl → LH → Res (List L)) : TI := fun σ H R' => ∃ w ls lh, RelH K w lh H ∧ RelS K w ls σ H ∧ (match f ls lh with
  | .ok xs lh' => ∀ (w' : Wd) (H' : Hp) (J : It), Ext w H w' H' → RelH K w' lh' H' → Src K w' J xs → R' J H'
  | .exn C x lh' => ∀ (w' : Wd) (cls : Value) (d : Option Addr) (H' : Hp), Ext w H w' H' → RelH K w' lh' H' → RelX K w' H' C x cls d → W cls d σ H'
  | .no => False)
section
variable {X : Cx} {W : WX} {a b tg : Expr} {fa fb : List Sl → LH → Res L} {pos : Pos}
theorem PI.imp {tg e : Expr} {t t' : TI} (h : PI X tg e t) (k : ∀ σ H R, t' σ H R → t σ H R) : PI X tg e t' := ⟨fun pins s σ H R I q => h.run pins s σ H R I (k σ H R q)⟩
/-- from a value to a source -/
theorem rI_step {f : List Sl → LH → Res L} {g : L → LH → Res (List L)} {σ : L2.St} {H : Hp} {R' : It → Hp → Prop} {T : VK} (h : rI X.K W (fun ls h => (f ls h).bind g) σ H R')
    (k : ∀ (w : Wd) (ls : List Sl) (x : L) (lh : LH) (v : V) (w1 : Wd) (H1 : Hp), Ext w H w1 H1 → RelH X.K w1 lh H1 → RelS X.K w1 ls σ H1 → RelL X.K w1 x v → (match g x lh with
      | .ok xs lh' => ∀ (w' : Wd) (H' : Hp) (J : It), Ext w1 H1 w' H' → RelH X.K w' lh' H' → Src X.K w' J xs → R' J H'
      | .exn C x lh' => ∀ (w' : Wd) (cls : Value) (d : Option Addr) (H' : Hp), Ext w1 H1 w' H' → RelH X.K w' lh' H' → RelX X.K w' H' C x cls d → W cls d σ H'
      | .no => False) → T v H1) : rE X.K W f σ H T := by
  obtain ⟨w, ls, lh, hh, hs, p⟩ := h
  refine rd.mk hh hs ?_
  have p : (match (f ls lh).bind g with
  | .ok xs lh' => ∀ (w' : Wd) (H' : Hp) (J : It), Ext w H w' H' → RelH X.K w' lh' H' → Src X.K w' J xs → R' J H'
  | .exn C x lh' => ∀ (w' : Wd) (cls : Value) (d : Option Addr) (H' : Hp), Ext w H w' H' → RelH X.K w' lh' H' → RelX X.K w' H' C x cls d → W cls d σ H'
  | .no => False) := p
  cases z : f ls lh with
  | no => rw [z] at p; exact p
  | exn C x h => rw [z] at p; exact p
  | ok x lh1 =>
    rw [z, Res.bind_ok] at p
    intro w1 v H1 e1 h1 r1
    refine k w ls x lh1 v w1 H1 e1 h1 (hs.ext e1) r1 ?_
    cases z1 : g x lh1 with
    | no => rw [z1] at p; exact p
    | exn C x h => rw [z1] at p; exact fun w' cls d H' e h r => p w' cls d H' (e1.trans e) h r
    | ok xs lh2 => rw [z1] at p; exact fun w' H' J e h r => p w' H' J (e1.trans e) h r
theorem i_val (ha : PE X a (rE X.K W fa)) : PI X tg a (rI X.K W fun ls h => (fa ls h).bind fun x h => match x with
    | .tup xs => .ok xs h
    | .lst xs => .ok xs h
    | .scr xs => .ok xs h
    | .str x => .ok (x.cps.toList.map fun c => .str ⟨#[c]⟩) h
    | _ => .no) := by
  refine ⟨fun pins s σ H R I h => ?_⟩
  -- which walk it is shows only when the value is there
  have h2 := rI_step (T := fun v H1 => (∃ x, v = .str x ∧ R (Its x) H1) ∨ (∃ q, v = .ref q ∧ (∃ xs, SqL X.K H1 q xs) ∧ R (Itl X.K q) H1) ∨ (∃ q, v = .ref q ∧ (∃ xs, SqT X.K H1 q xs) ∧ R (Itt X.K q) H1)) h (fun w ls x lh v w1 H1 e1 h1 hs1 r1 p => by
    cases x <;> try exact p.elim
    case str z =>
      rw [rel_str r1]
      exact .inl ⟨z, rfl, p w1 H1 _ (Ext.refl _ _) h1 (src_str z)⟩
    case tup xs =>
      have r1' := r1
      simp only [RelL] at r1'
      obtain ⟨q, vs, rfl, sq, r⟩ := r1'
      exact .inr (.inr ⟨q, rfl, ⟨vs, sqT_mono h1.sub sq⟩, p w1 H1 _ (Ext.refl _ _) h1 (src_tup sq r)⟩)
    case lst xs =>
      have r1' := r1
      simp only [RelL] at r1'
      obtain ⟨q, vs, rfl, sq, r⟩ := r1'
      exact .inr (.inl ⟨q, rfl, ⟨vs, SqL.of (h1.sub _ _ sq)⟩, p w1 H1 _ (Ext.refl _ _) h1 (src_list (SqL.of sq) r)⟩)
    case scr xs =>
      have r1' := r1
      simp only [RelL] at r1'
      obtain ⟨q, vs, rfl, sq, r⟩ := r1'
      exact .inr (.inl ⟨q, rfl, ⟨vs, sqL_mono h1.sub sq⟩, p w1 H1 _ (Ext.refl _ _) h1 (src_list sq r)⟩))
  refine thn (ha.run pins s σ H _ I h2) fun v s1 ⟨x, H1, I1, r1, q1⟩ => ?_
  rcases q1 with ⟨z, rfl, q⟩ | ⟨a, rfl, ⟨xs, hq⟩, q⟩ | ⟨a, rfl, ⟨xs, hq⟩, q⟩
  · obtain ⟨t, rfl⟩ := r1
    cases ha : z.cps.all (· < 128)
    · exact wpAny_pyIter_wide ha (pi_one (tk := s1.toks) I1 _ (turn_str _ z t "str_iterator" (.inr rfl)) ⟨_, Heap.get?_push_size _ rfl, rfl, rfl⟩ q)
    · exact wpAny_pyIter_ascii ha (pi_one (tk := s1.toks) I1 _ (turn_str _ z t "str_ascii_iterator" (.inl rfl)) ⟨_, Heap.get?_push_size _ rfl, rfl, rfl⟩ q)
  · cases r1
    obtain ⟨its, rv, p, hz⟩ := I1.list hq
    refine wpAny_pyIter_list p.isList ?_
    refine ⟨s1.heap.objs.size, [s1.heap.objs.size], _, _, H1, rfl, I1.kept (t' := s1.toks) fun b o e => Heap.get?_push_of_some _ e, turn_list a _, ⟨_, Heap.get?_push_size _ rfl, rfl, rfl⟩, fun b hb => ?_, q⟩
    have e : b = s1.heap.objs.size := by simpa using hb
    subst e
    exact I1.fpOk (Nat.le_refl _) (I1.hok.fresh (Nat.le_refl _))
  · cases r1
    obtain ⟨its, rv, p, hz⟩ := I1.tuple hq
    refine wpAny_pyIter_tuple (show s1.heap.IsTuple a its.toArray from p) ?_
    refine ⟨s1.heap.objs.size, [s1.heap.objs.size], _, _, H1, rfl, I1.kept (t' := s1.toks) fun b o e => Heap.get?_push_of_some _ e, turn_tuple a _, ⟨_, Heap.get?_push_size _ rfl, rfl, rfl⟩, fun b hb => ?_, q⟩
    have e : b = s1.heap.objs.size := by simpa using hb
    subst e
    exact I1.fpOk (Nat.le_refl _) (I1.hok.fresh (Nat.le_refl _))
/-- one argument -/
theorem a_one {e : Expr} {T : TA} {σ : L2.St} {H : Hp} {Q : List V → Hp → Prop} (h : rE X.K W fa σ H fun v H1 => Q [v] H1) : rEs X.K W (fun ls h => (fa ls h).bind fun x h => .ok [x] h) σ H Q := by
  obtain ⟨w, ls, lh, hh, hs, p⟩ := h
  refine rd.mk hh hs ?_
  show Post X.K W (RLs X.K) w H σ Q ((fa ls lh).bind fun x h => .ok [x] h)
  cases z : fa ls lh with
  | no => rw [z] at p; exact p
  | exn C x h => rw [z] at p; exact p
  | ok x lh1 =>
    rw [z] at p
    intro w1 vs H1 e1 h1 r1
    obtain ⟨v, rfl, rv⟩ := rels1 r1
    exact p w1 v H1 e1 h1 rv
theorem i_rng1 {p : Pos} (hg : Gl X "range") (hm : X.mg "range" = none) (ha : PE X a (rE X.K W fa)) (hs : starEach [a] X.env = [(false, eval a X.env)]) :
    PI X tg (.Call (.Name "range" p) [a] [] pos) (rI X.K W fun ls h => (fa ls h).bind fun x h => match x with
    | .int i => if rngOk i then .ok (rngL 0 i.toNat) h else .no
    | _ => .no) :=
  PI.imp (pi_range1 hg hm (a_cons ha a_nil hs) hs) fun σ H R h => a_one (T := fun _ _ _ => True) (e := a) (rI_step h fun w ls x lh v w1 H1 e1 h1 hs1 r1 p => by
    cases x <;> try exact p.elim
    rename_i i
    by_cases c : rngOk i = true
    · simp only [if_pos c] at p
      have c' := Bool.and_eq_true_iff.mp c
      have c1 := of_decide_eq_true c'.1
      have c2 := of_decide_eq_true c'.2
      rw [rel_int r1]
      exact ⟨i, rfl, by omega, by omega, p w1 H1 _ (Ext.refl _ _) h1 (src_rng 0 _)⟩
    · simp only [if_neg c] at p)
/-- two arguments -/
theorem rI_step2 {f f2 : List Sl → LH → Res L} {g : L → L → LH → Res (List L)} {σ : L2.St} {H : Hp} {R' : It → Hp → Prop} {T : List V → Hp → Prop} (h : rI X.K W (fun ls h => (f ls h).bind fun x h => (f2 ls h).bind (g x)) σ H R')
    (k : ∀ (w : Wd) (ls : List Sl) (x y : L) (lh : LH) (v u : V) (w1 : Wd) (H1 : Hp), Ext w H w1 H1 → RelH X.K w1 lh H1 → RelS X.K w1 ls σ H1 → RelL X.K w1 x v → RelL X.K w1 y u → (match g x y lh with
      | .ok xs lh' => ∀ (w' : Wd) (H' : Hp) (J : It), Ext w1 H1 w' H' → RelH X.K w' lh' H' → Src X.K w' J xs → R' J H'
      | .exn C x lh' => ∀ (w' : Wd) (cls : Value) (d : Option Addr) (H' : Hp), Ext w1 H1 w' H' → RelH X.K w' lh' H' → RelX X.K w' H' C x cls d → W cls d σ H'
      | .no => False) → T [v, u] H1) : rEs X.K W (fun ls h => (f ls h).bind fun x h => ((f2 ls h).bind fun y h => .ok [y] h).bind fun xs h => .ok (x :: xs) h) σ H T := by
  obtain ⟨w, ls, lh, hh, hs, p⟩ := h
  refine rd.mk hh hs ?_
  have p : (match (f ls lh).bind fun x h => (f2 ls h).bind (g x) with
  | .ok xs lh' => ∀ (w' : Wd) (H' : Hp) (J : It), Ext w H w' H' → RelH X.K w' lh' H' → Src X.K w' J xs → R' J H'
  | .exn C x lh' => ∀ (w' : Wd) (cls : Value) (d : Option Addr) (H' : Hp), Ext w H w' H' → RelH X.K w' lh' H' → RelX X.K w' H' C x cls d → W cls d σ H'
  | .no => False) := p
  show Post X.K W (RLs X.K) w H σ T ((f ls lh).bind fun x h => ((f2 ls h).bind fun y h => .ok [y] h).bind fun xs h => .ok (x :: xs) h)
  cases z : f ls lh with
  | no => rw [z] at p; exact p
  | exn C x h => rw [z] at p; exact p
  | ok x lh1 =>
    rw [z, Res.bind_ok] at p
    rw [Res.bind_ok]
    cases z2 : f2 ls lh1 with
    | no => rw [z2] at p; exact p
    | exn C x h => rw [z2] at p; exact p
    | ok y lh2 =>
      rw [z2, Res.bind_ok] at p
      intro w1 vs H1 e1 h1 r1
      obtain ⟨v, u, rfl, rv, ru⟩ := rels2 r1
      refine k w ls x y lh2 v u w1 H1 e1 h1 (hs.ext e1) rv ru ?_
      cases z1 : g x y lh2 with
      | no => rw [z1] at p; exact p
      | exn C x h => rw [z1] at p; exact fun w' cls d H' e h r => p w' cls d H' (e1.trans e) h r
      | ok xs lh2 => rw [z1] at p; exact fun w' H' J e h r => p w' H' J (e1.trans e) h r
theorem i_rng2 {p : Pos} (hg : Gl X "range") (hm : X.mg "range" = none) (ha : PE X a (rE X.K W fa)) (hb : PE X b (rE X.K W fb)) (hs : starEach [a, b] X.env = [(false, eval a X.env), (false, eval b X.env)]) (hs2 : starEach [b] X.env = [(false, eval b X.env)]) :
    PI X tg (.Call (.Name "range" p) [a, b] [] pos) (rI X.K W fun ls h => (fa ls h).bind fun x h => (fb ls h).bind fun y h => match x, y with
    | .int i, .int j => if rngOk i && rngOk j then .ok (rngL i (j - i).toNat) h else .no
    | _, _ => .no) :=
  PI.imp (pi_range2 hg hm (a_cons ha (a_cons hb a_nil hs2) (by rw [hs, hs2])) hs hs2) fun σ H R h => rI_step2 h fun w ls x y lh v u w1 H1 e1 h1 hs1 r1 r2 p => by
    cases x <;> cases y <;> try exact p.elim
    rename_i i j
    by_cases c : (rngOk i && rngOk j) = true
    · simp only [if_pos c] at p
      obtain ⟨d1, d2⟩ := Bool.and_eq_true_iff.mp c
      have c' := Bool.and_eq_true_iff.mp d1
      have c1 := of_decide_eq_true c'.1
      have c2 := of_decide_eq_true c'.2
      have c'' := Bool.and_eq_true_iff.mp d2
      have c3 := of_decide_eq_true c''.1
      have c4 := of_decide_eq_true c''.2
      rw [rel_int r1, rel_int r2]
      exact ⟨i, j, rfl, ⟨by omega, by omega, by omega, by omega⟩, p w1 H1 _ (Ext.refl _ _) h1 (src_rng i _)⟩
    · simp only [if_neg c] at p
theorem i_zip {p tpos : Pos} {elts : List Expr} {kk : Nat} (hg : Gl X "zip") (hm : X.mg "zip" = none) (ha : PE X a (rE X.K W fa)) (hb : PE X b (rE X.K W fb)) (hs : starEach [a, b] X.env = (false, eval a X.env) :: starEach [b] X.env) (hs2 : starEach [b] X.env = [(false, eval b X.env)]) :
    PI X (.Tuple elts kk tpos) (.Call (.Name "zip" p) [a, b] [] pos) (rI X.K W fun ls h => (fa ls h).bind fun x h => (fb ls h).bind fun y h => match seqB x, seqB y with
    | some xs, some ys => .ok (zipL xs ys) h
    | _, _ => .no) :=
  PI.imp (pi_zipB hg hm (a_cons ha (a_cons hb a_nil hs2) hs) hs (by rw [hs2]; rfl)) fun σ H R h => rI_step2 h fun w ls x y lh v u w1 H1 e1 h1 hs1 r1 r2 p => by
    cases z1 : seqB x with
    | none => rw [z1] at p; exact p.elim
    | some xs =>
      cases z2 : seqB y with
      | none => rw [z1, z2] at p; exact p.elim
      | some ys =>
        rw [z1, z2] at p
        obtain ⟨q, vs, k, rfl, sq, r⟩ := seq_of h1 z1 r1
        obtain ⟨q', us, l, rfl, sq', r'⟩ := seq_of h1 z2 r2
        exact ⟨k, l, q, q', vs, us, rfl, sqB_mono h1.sub sq, sqB_mono h1.sub sq', p w1 H1 _ (Ext.refl _ _) h1 (src_zip sq r sq' r')⟩
end
set_option maxHeartbeats 1000000 in
theorem meets_enum1 {v : Value} {o : Obj} {H : Heap → Prop} (B : Begins v o H) :
    Meets (Builtin.«enumerate.__new__» ⟨[.type "enumerate", v], []⟩) (fun _ R s => H s.heap ∧
      R (.ok (.ret (.ref (s.heap.push o).objs.size))) { s with heap := (s.heap.push o).push { cls := .type "enumerate", data := .fields #[.none, .bool false, .ref s.heap.objs.size, rawInt 0, .none, .none] } }) :=
  .of_wp fun prog w A R s h => by
    obtain ⟨hp, g, d, tk, os⟩ := s; obtain ⟨h1, h⟩ := h
    have hsub := sub_enumerate
    have q1 : ∀ {A' : Around} {E : Value → Shared → Prop} {Q : Value → Shared → Prop}, Q (.ref hp.objs.size) ⟨hp.push o, g, d, tk, os⟩ → wpAny (model prog w) A' (pyIter v) Q E ⟨hp, g, d, tk, os⟩ :=
      fun q => B.iter prog w _ _ ⟨hp, g, d, tk, os⟩ _ h1 q
    wp_walk using q1
    refine wpAny_stack_any fun st => wpAny_pure ?_
    split
    · rename_i c _ _ _ _ _
      cases (c == Value.type "enumerate")
      · wp_walk using q1
        exact ⟨_, rfl, h⟩
      · wp_walk using q1
        exact ⟨_, rfl, h⟩
    · wp_walk using q1
      exact ⟨_, rfl, h⟩
theorem enum_begins1 {prog : Program} {w : World} {A : Around} {E : Value → Shared → Prop} {s : Shared} {v : Value} {o : Obj} {H : Heap → Prop} {Q : Value → Shared → Prop} (B : Begins v o H) (h1 : H s.heap)
    (h : ∀ h', IsEnum h' (s.heap.objs.size + 1) s.heap.objs.size 0 .none → h'.get? s.heap.objs.size = some o → h'.objs.size = s.heap.objs.size + 2 →
      (∀ b o, s.heap.get? b = some o → h'.get? b = some o) → Q (.ref (s.heap.objs.size + 1)) { s with heap := h' }) :
    wpAny (model prog w) A (call (.type "enumerate") [v]) Q E s := by
  refine callType_new F.called_enumerate (by decide) (F.typeCall_enumerate_1 _) (F.newCall_enumerate_1 _) (fun obj => F.args_object_init_2 obj _) F.entry_enumerate_new
    (meets_enum1 B) ⟨h1, ?_⟩
  have hz : (s.heap.push o).objs.size = s.heap.objs.size + 1 := Heap.size_push ..
  show _ ∧ _
  rw [hz]
  have he : IsEnum ((s.heap.push o).push { cls := .type "enumerate", data := .fields #[.none, .bool false, .ref s.heap.objs.size, rawInt 0, .none, .none] }) (s.heap.objs.size + 1) s.heap.objs.size 0 .none := by
    have := Heap.get?_push_size (s.heap.push o) (o := { cls := .type "enumerate", data := .fields #[.none, .bool false, .ref s.heap.objs.size, rawInt 0, .none, .none] }) rfl
    rw [hz] at this; exact this
  refine ⟨⟨_, he, rfl⟩, h _ he (Heap.get?_push_of_some _ (Heap.get?_push_size _ B.free)) (by rw [Heap.size_push, hz]) fun b o x => Heap.get?_push_of_some _ (Heap.get?_push_of_some _ x)⟩
section
variable {X : Cx} {W : WX} {a b tg : Expr} {fa fb : List Sl → LH → Res L} {pos : Pos}
def iEnumB (K : PySem.W.Frag) (ta : TA) : TI := fun σ H R => ta σ H fun vs H1 => ∃ a xs k, vs = [.ref a] ∧ SqB K k H1 a xs ∧ R (IteB K k a) H1
theorem pi_enumB {e : Expr} {ta : TA} {p pos tpos : Pos} {elts : List Expr} {kk : Nat} (hg : Gl X "enumerate") (hm : X.mg "enumerate" = none) (ha : PA X [e] ta) (hs : starEach [e] X.env = [(false, eval e X.env)]) :
    PI X (.Tuple elts kk tpos) (.Call (.Name "enumerate" p) [e] [] pos) (iEnumB X.K ta) := by
  refine ⟨fun pins s σ H R I h => ?_⟩
  refine Call_ (ld_blt I hg hm boot_enumerate (PyProof.Rows.callWith_type1 (thn (ha.run pos pins s σ H _ I h) fun us s1 ⟨vs, H1, I1, r1, q1⟩ => ?_) hs rfl))
  obtain ⟨a, xs, k, ex, hq, q⟩ := q1
  subst ex
  cases r1 with
  | cons r rr =>
    cases rr
    cases r
    obtain ⟨its, rv, p'⟩ := sqB I1 hq
    refine enum_begins1 (beginsB (k := k) its.toArray) p' fun h' he hit hsz hk => wpAny_pyIter_enum he ?_
    have I2 : Inv X pins σ H1 { s1 with heap := h' } := I1.kept (t' := s1.toks) hk
    refine ⟨s1.heap.objs.size + 1, [s1.heap.objs.size + 1, s1.heap.objs.size], _, _, H1, rfl, I2, turn_enumB (Nat.succ_ne_self _) (fun e => by
      have q : a < s1.heap.objs.size := dataB_lt p'
      have e : s1.heap.objs.size + 1 = a := e
      rw [← e] at q
      exact absurd q (Nat.not_lt.mpr (Nat.le_succ _))), ⟨⟨.none, he⟩, iterB_new hit⟩, fun b hb => ?_, q⟩
    have e' : b = s1.heap.objs.size + 1 ∨ b = s1.heap.objs.size := by simpa using hb
    have hle : s1.heap.objs.size ≤ b := by
      rcases e' with z | z
      · rw [z]; exact Nat.le_add_right _ _
      · rw [z]; exact Nat.le_refl _
    exact I1.fpOk hle (I1.hok.fresh hle)
theorem i_enm {p tpos : Pos} {elts : List Expr} {kk : Nat} (hg : Gl X "enumerate") (hm : X.mg "enumerate" = none) (ha : PE X a (rE X.K W fa)) (hs : starEach [a] X.env = [(false, eval a X.env)]) :
    PI X (.Tuple elts kk tpos) (.Call (.Name "enumerate" p) [a] [] pos) (rI X.K W fun ls h => (fa ls h).bind fun x h => .opt ((seqB x).map (enmL 0)) h) :=
  PI.imp (pi_enumB hg hm (a_cons ha a_nil hs) hs) fun σ H R h => a_one (T := fun _ _ _ => True) (e := a) (rI_step h fun w ls x lh v w1 H1 e1 h1 hs1 r1 p => by
    cases z1 : seqB x with
    | none => rw [z1] at p; exact p.elim
    | some xs =>
      rw [z1] at p
      obtain ⟨q, vs, k, rfl, sq, r⟩ := seq_of h1 z1 r1
      exact ⟨q, vs, k, rfl, sqB_mono h1.sub sq, p w1 H1 _ (Ext.refl _ _) h1 (src_enm sq r)⟩)
theorem i_rev {p : Pos} (hg : Gl X "reversed") (hm : X.mg "reversed" = none) (ha : PE X a (rE X.K W fa)) (hs : starEach [a] X.env = [(false, eval a X.env)]) :
    PI X tg (.Call (.Name "reversed" p) [a] [] pos) (rI X.K W fun ls h => (fa ls h).bind fun x h => .opt ((seqB x).map List.reverse) h) :=
  PI.imp (RT.pi_revA hg hm ha hs) fun σ H R h => rI_step h fun w ls x lh v w1 H1 e1 h1 hs1 r1 p => by
    cases z1 : seqB x with
    | none => rw [z1] at p; exact p.elim
    | some xs =>
      rw [z1] at p
      obtain ⟨q, vs, k, rfl, sq, r⟩ := seq_of h1 z1 r1
      cases k with
      | true => exact ⟨q, vs, rfl, .inr ⟨sqT_mono h1.sub sq, p w1 H1 _ (Ext.refl _ _) h1 (src_revT sq r)⟩⟩
      | false => exact ⟨q, vs, rfl, .inl ⟨sqL_mono h1.sub sq, p w1 H1 _ (Ext.refl _ _) h1 (src_revL sq r)⟩⟩
end
end Ev

namespace Ev
open PySem PySem.Spec PyProof.Rows L2

/-! ## comprehensions -/
/-- the heap without D -/
def del (H : Hp) (D : Addr) : Hp := fun a => if a = D then none else H a
theorem del_ne {H : Hp} {D a : Addr} (h : a ≠ D) : del H D a = H a := if_neg h
theorem del_some {H : Hp} {D a : Addr} {o : HO} (h : del H D a = some o) : a ≠ D ∧ H a = some o := by
  unfold del at h
  split at h
  · cases h
  · rename_i c; exact ⟨c, h⟩
theorem del_upd (H : Hp) (D : Addr) (o : HO) : del (upd H D o) D = del H D := by
  funext a
  unfold del
  split
  · rfl
  · rename_i c; exact upd_ne c
theorem del_none {H : Hp} {D : Addr} (h : H D = none) : del H D = H := by
  funext a
  unfold del
  split
  · rename_i c; rw [c, h]
  · rfl
theorem Ext.undel {w w' : Wd} {H H' : Hp} {D : Addr} (e : Ext w H w' (del H' D)) : Ext w H w' H' :=
  ⟨e.fz, e.rr, fun a o q n => (del_some (e.kp a o q n)).2, fun a o q => let ⟨o', q'⟩ := e.al a o q; ⟨o', (del_some q').2⟩, e.nf⟩
/-- one step more, D being nobody's -/
theorem Ext.transD {w w1 w2 : Wd} {H H1 H2 : Hp} {D : Addr} (a : Ext w H w1 (del H1 D)) (b : Ext w1 H1 w2 H2) : Ext w H w2 (del H2 D) := by
  obtain ⟨m, e, f⟩ := a.rr
  obtain ⟨n, g, k⟩ := b.rr
  have keep : ∀ x o, H x = some o → x ≠ D ∧ ∃ o', H1 x = some o' := fun x o q => by
    obtain ⟨o', q'⟩ := a.al x o q
    exact ⟨(del_some q').1, o', (del_some q').2⟩
  refine ⟨fun x o q => b.fz x o (a.fz x o q), ⟨m ++ n, by rw [g, e, List.append_assoc], fun x hx => ?_⟩, fun x o q hr => ?_, fun x o q => ?_, fun x o q n => ?_⟩
  · rcases List.mem_append.mp hx with hx | hx
    · exact f x hx
    · cases q : H x with
      | none => rfl
      | some o =>
        obtain ⟨_, o', q'⟩ := keep x o q
        rw [k x hx] at q'
        cases q'
  · obtain ⟨nD, o1, q1⟩ := keep x o q
    rw [del_ne nD]
    refine b.kp x o (del_some (a.kp x o q hr)).2 ?_
    rw [e]
    intro hx
    rcases List.mem_append.mp hx with hx | hx
    · exact hr hx
    · rw [f x hx] at q
      cases q
  · obtain ⟨nD, o1, q1⟩ := keep x o q
    rw [del_ne nD]
    exact b.al x o1 q1
  · obtain ⟨nD, o1, q1⟩ := keep x o q
    exact b.nf x o1 q1 (a.nf x o q n)
/-- nobody's object turns -/
theorem RelH.other {K : PySem.W.Frag} {w : Wd} {lh : LH} {H : Hp} (h : RelH K w lh H) {D : Addr} (o : HO) (n : w.F D = none) (hr : D ∉ w.r) : RelH K w lh (upd H D o) :=
  ⟨fun a u q => by rw [upd_ne (ne_of_none q n)]; exact h.sub a u q, h.len, fun k u a q1 q2 => by
    obtain ⟨ho, r1, r2⟩ := h.obj k u a q1 q2
    refine ⟨ho, ?_, r2⟩
    rw [upd_ne (fun e => hr (by rw [← e]; exact List.mem_of_getElem? q2))]
    exact r1, h.nd, h.nf⟩
abbrev WF : WX := fun _ _ _ _ => False
abbrev rBs (K : PySem.W.Frag) (W : WX) (f : List Sl → LH → Res Bool) : TT := rd K W RB f
theorem post_calm {K : PySem.W.Frag} {α β : Type} {R : Rl α β} {w : Wd} {H : Hp} {σ : L2.St} {Q : β → Hp → Prop} {r : Res α} (h : ∀ C x h, r ≠ .exn C x h) (hn : r ≠ .no)
    (k : ∀ x lh, r = .ok x lh → ∀ (w' : Wd) (v : β) (H' : Hp), Ext w H w' H' → RelH K w' lh H' → R w' H' x v → Q v H') : Post K WF R w H σ Q r := by
  cases r with
  | ok x lh => exact k x lh rfl
  | exn C x h' => exact absurd rfl (h C x h')
  | no => exact absurd rfl hn
section
variable {X : Cx} {W : WX} {pos : Pos}
theorem i_comp {t : Tg} {fi : List Sl → LH → Res (List L)} {fe : List Sl → LH → Res L} {fc : List Sl → LH → Res Bool} {σ : L2.St} {H0 : Hp} {Q : VK}
    (h : rF X.K W (fun ls h => (fi ls h).bind fun xs h => turns (fun ls h => (fe ls h).calm) (fun ls h => (fc ls h).calm) t (wipeL ls (slotsT t)) xs [] h) σ H0 Q) :
    tLc (rI X.K W fi) (rG X.K t) (rBs X.K WF fc) (rE X.K WF fe) (slotsT t) σ H0 Q := by
  obtain ⟨w, ls, lh, hh, hs, p⟩ := h
  refine ⟨w, ls, lh, hh, hs, ?_⟩
  have p : Post X.K W (RF X.K H0) w H0 σ Q ((fi ls lh).bind fun xs h => turns (fun ls h => (fe ls h).calm) (fun ls h => (fc ls h).calm) t (wipeL ls (slotsT t)) xs [] h) := p
  cases z : fi ls lh with
  | no => rw [z] at p; exact p
  | exn C x h => rw [z] at p; exact p
  | ok xs lh1 =>
    rw [z, Res.bind_ok] at p
    intro w1 H1 J e1 h1 src D nD
    have hs1 := hs.ext e1
    refine ⟨fun i m H => m = xs.length - i ∧ i ≤ xs.length ∧ ∃ w' lh' acc vs, RelH X.K w' lh' H ∧ Ext w1 H1 w' (del H D) ∧ H D = some (.lst vs) ∧ RelLs X.K w' acc vs ∧ w'.F D = none ∧ D ∉ w'.r ∧
      Post X.K W (RF X.K H0) w H0 σ Q (turns (fun ls h => (fe ls h).calm) (fun ls h => (fc ls h).calm) t (wipeL ls (slotsT t)) (xs.drop i) acc lh'), ?_, ?_⟩
    · exact ⟨xs.length - 0, rfl, Nat.zero_le _, w1, lh1, [], [], h1.new _ nD, by rw [del_upd, del_none nD]; exact Ext.refl _ _, upd_same .., .nil, h1.fresh nD, h1.notin nD, by rw [List.drop_zero]; exact p⟩
    · rintro i m H ⟨rfl, hi, w', lh', acc, vs, hh', ex, hD, hacc, nF, nr, p'⟩
      have frz : Frz w1 H := fun a o q => hh'.sub a o (ex.fz a o q)
      by_cases hlt : i < xs.length
      · refine .inr ⟨src.goes i H hlt frz, fun H' => ∃ w' lh' acc vs, RelH X.K w' lh' H' ∧ Ext w1 H1 w' (del H' D) ∧ H' D = some (.lst vs) ∧ RelLs X.K w' acc vs ∧ w'.F D = none ∧ D ∉ w'.r ∧
          Post X.K W (RF X.K H0) w H0 σ Q (turns (fun ls h => (fe ls h).calm) (fun ls h => (fc ls h).calm) t (wipeL ls (slotsT t)) (xs.drop (i + 1)) acc lh'), fun H' q => ⟨_, by omega, rfl, hlt, q⟩, fun v H' y => ?_⟩
        have ed : xs.drop i = xs[i] :: xs.drop (i + 1) := List.drop_eq_getElem_cons hlt
        obtain ⟨w2, e2, h2, r2⟩ := src.yields i H v H' w' lh' xs[i] (by simp [hlt]) ex.undel.le hh' y
        have hD2 := e2.kp D _ hD nr
        have nF2 := e2.nf D _ hD nF
        have nr2 := e2.notin hD nr
        have ex2 := ex.transD e2
        rw [ed] at p'
        unfold turns at p'
        cases za : asgT t xs[i] (wipeL ls (slotsT t)) with
        | none => rw [za] at p'; exact p'.elim
        | some ls' =>
          rw [za] at p'
          replace p' : Post X.K W (RF X.K H0) w H0 σ Q ((fc ls' lh').calm.bind fun b h => if b = true then (fe ls' h).calm.bind fun y h => if acc.length < 10000000 then turns (fun ls h => (fe ls h).calm) (fun ls h => (fc ls h).calm) t (wipeL ls (slotsT t)) (xs.drop (i + 1)) (acc ++ [y]) h else .no else turns (fun ls h => (fe ls h).calm) (fun ls h => (fc ls h).calm) t (wipeL ls (slotsT t)) (xs.drop (i + 1)) acc h) := p'
          have hs2 : RelS X.K w2 (wipeL ls (slotsT t)) (L2.wipe σ (slotsT t)) H' := (hs1.ext ex2.undel).wipe _
          refine ⟨w2, xs[i], lh', _, ls', h2, hs2, r2, za, fun σ' hs' ag => ⟨wipe_agree ag, w2, ls', lh', h2, hs', ?_⟩⟩
          cases zc : fc ls' lh' with
          | no => rw [zc] at p'; exact p'
          | exn C x h => rw [zc] at p'; exact p'.elim
          | ok b lh3 =>
            rw [zc] at p'
            intro w3 b' H3 e3 h3 rb
            have rb : b = b' := rb
            subst rb
            have hD3 := e3.kp D _ hD2 nr2
            have nF3 := e3.nf D _ hD2 nF2
            have nr3 := e3.notin hD2 nr2
            have ex3 := ex2.transD e3
            have hacc3 := (hacc.mono e2.le).mono e3.le
            cases b with
            | false => exact ⟨w3, lh3, acc, vs, h3, ex3, hD3, hacc3, nF3, nr3, p'⟩
            | true =>
              replace p' : Post X.K W (RF X.K H0) w H0 σ Q ((fe ls' lh3).calm.bind fun y h => if acc.length < 10000000 then turns (fun ls h => (fe ls h).calm) (fun ls h => (fc ls h).calm) t (wipeL ls (slotsT t)) (xs.drop (i + 1)) (acc ++ [y]) h else .no) := p'
              simp only [if_true]
              refine ⟨w3, ls', lh3, h3, hs'.ext e3, ?_⟩
              cases ze : fe ls' lh3 with
              | no => rw [ze] at p'; exact p'
              | exn C x h => rw [ze] at p'; exact p'.elim
              | ok y lh4 =>
                rw [ze] at p'
                intro w4 v4 H4 e4 h4 r4
                replace p' : Post X.K W (RF X.K H0) w H0 σ Q (if acc.length < 10000000 then turns (fun ls h => (fe ls h).calm) (fun ls h => (fc ls h).calm) t (wipeL ls (slotsT t)) (xs.drop (i + 1)) (acc ++ [y]) lh4 else .no) := p'
                by_cases cl : acc.length < 10000000
                · rw [if_pos cl] at p'
                  have hD4 := e4.kp D _ hD3 nr3
                  have nF4 := e4.nf D _ hD3 nF3
                  have nr4 := e4.notin hD3 nr3
                  refine ⟨vs, hD4, by rw [← hacc.length, sizeLine_eq]; omega, w4, lh4, acc ++ [y], vs ++ [v4], h4.other _ nF4 nr4, by rw [del_upd]; exact ex3.transD e4, upd_same .., (hacc3.mono e4.le).append (.cons r4 .nil), nF4, nr4, p'⟩
                · rw [if_neg cl] at p'
                  exact p'.elim
      · have e : i = xs.length := by omega
        subst e
        rw [List.drop_length] at p'
        refine .inl ⟨src.stops H frz, p' w' _ H (e1.trans ex.undel) hh' ⟨D, .lst vs, rfl, hD, ⟨vs, rfl, hacc⟩, nF, nr, e1.none nD⟩⟩
theorem f_comp {elt tg iter : Expr} {ifs : List Expr} {scope : Scope} {own : List (Str × Nat)} {t : Tg} {fi : List Sl → LH → Res (List L)} {fe : List Sl → LH → Res L} {fc : List Sl → LH → Res Bool} (hc : X.calm = true) (hN : X.N.Nodup)
    (hi : PI X tg iter (rI X.K W fi)) (ok : BlkOk X.N X.env.scope scope own) (ho : own.map (·.2) = slotsT t)
    (hg : ∀ (s : Shared) (H : Hp) (C : Addr) (cl : List (Str × Addr)) (fp : List Addr), PG (X.blk s H scope (compEnvC scope cl C X.env) fp) tg (rG X.K t)) (ht : ∀ (s : Shared) (H : Hp) (C : Addr) (cl : List (Str × Addr)) (fp : List Addr), PTs (X.blk s H scope (compEnvC scope cl C X.env) fp) ifs (rBs X.K WF fc))
    (he : ∀ (s : Shared) (H : Hp) (C : Addr) (cl : List (Str × Addr)) (fp : List Addr), PE (X.blk s H scope (compEnvC scope cl C X.env) fp) elt (rE X.K WF fe)) (hs : ∀ x, foldedSetIterable iter X.env x = pure x) :
    PE X (.ListComp elt [⟨tg, iter, ifs, 0⟩] scope pos) (rF X.K W fun ls h => (fi ls h).bind fun xs h => turns (fun ls h => (fe ls h).calm) (fun ls h => (fc ls h).calm) t (wipeL ls (slotsT t)) xs [] h) :=
  PE.imp (pe_lc (own := own) hc hN hi ok hg ht he hs) fun σ H0 Q h => by rw [ho]; exact i_comp h
end
end Ev

namespace Ev
open PySem PySem.Spec PyProof.Rows L2

/-! ## the look: is this ME that expression? -/
def visB (sc : Scope) (x : Str) : Bool := decide (sc.names.lookup x = some .local) || decide (sc.names.lookup x = some .cell) || decide (sc.names.lookup x = some .free)
def gloB (sc : Scope) (x : Str) : Bool := decide (sc.names.lookup x = some .globalImplicit)
def locB (sc cl : Scope) (x : Str) : Bool := decide (sc.names.lookup x = some .local) || (decide (sc.names.lookup x = some .cell) && decide (cl.names.lookup x = some .cell))
def nmB (x : Str) : Bool := !(x == ("__debug__" : Str)) && !(x == ("__classdict__" : Str)) && !decide (x = ("__name__" : Str))
def nostB : Expr → Bool
  | .Starred _ _ => false
  | _ => true
def nosetB : Expr → Bool
  | .Set _ _ _ => false
  | _ => true
def pixB : Expr → Bool
  | .Slice _ _ _ _ => false
  | _ => true
def plB : Expr → Bool
  | .UnaryOp _ _ _ => false
  | .BoolOp _ _ _ => false
  | .IfExp _ _ _ _ => false
  | .Compare _ _ _ _ => false
  | _ => true
/-- the built-in types by their names -/
def tyTab (x : Str) : Option String :=
  if x = ("int" : Str) then some "int" else if x = ("bool" : Str) then some "bool" else if x = ("str" : Str) then some "str" else if x = ("tuple" : Str) then some "tuple" else if x = ("list" : Str) then some "list" else if x = ("dict" : Str) then some "dict" else none
theorem tyTab_boot {x : Str} {n : String} (h : tyTab x = some n) : bootBuiltins x = some (.type n) := by
  unfold tyTab at h
  split at h
  · rename_i e; cases h; rw [e]; decide +kernel
  · split at h
    · rename_i e; cases h; rw [e]; decide +kernel
    · split at h
      · rename_i e; cases h; rw [e]; decide +kernel
      · split at h
        · rename_i e; cases h; rw [e]; decide +kernel
        · split at h
          · rename_i e; cases h; rw [e]; decide +kernel
          · split at h
            · rename_i e; cases h; rw [e]; decide +kernel
            · cases h
def ownOf (N : List Str) (t : Tg) : List (Str × Nat) := (slotsT t).map fun i => ((N[i]?).getD ⟨#[]⟩, i)
mutual
def chkT (N : List Str) (sc cl : Scope) : Tg → Expr → Bool
  | .n i, e => (match e with
    | .Name x _ => decide (N[i]? = some x) && locB sc cl x
    | _ => false)
  | .t ts, e => (match e with
    | .Tuple es _ _ => chkTs N sc cl ts es
    | _ => false)
def chkTs (N : List Str) (sc cl : Scope) : List Tg → List Expr → Bool
  | [], es => (match es with
    | [] => true
    | _ => false)
  | t :: ts, es => (match es with
    | e :: es => nostB e && chkT N sc cl t e && chkTs N sc cl ts es
    | _ => false)
end
mutual
def chkE (N : List Str) (T : Tab) : Scope → ME → Expr → Bool
  | sc, .var i, e => (match e with
    | .Name x _ => decide (N[i]? = some x) && visB sc x && nmB x
    | _ => false)
  | sc, .con j, e => (match e with
    | .Name x _ => gloB sc x && nmB x && decide ((T.con[j]?).map (·.1) = some x)
    | _ => false)
  | _, .int i, e => (match e with
    | .Constant (.int k) _ _ => decide (i = k)
    | _ => false)
  | _, .str z, e => (match e with
    | .Constant (.str k) _ _ => decide (z = k)
    | _ => false)
  | _, .bl b, e => (match e with
    | .Constant (.bool k) _ _ => decide (b = k)
    | _ => false)
  | _, .non, e => (match e with
    | .Constant .none _ _ => true
    | _ => false)
  | sc, .ty x n, e => (match e with
    | .Name y _ => decide (x = y) && gloB sc y && nmB y && decide (tyTab y = some n)
    | _ => false)
  | sc, .tup es, e => (match e with
    | .Tuple xs _ _ => chkEs N T sc es xs && decide (xs.length ≤ 1000000)
    | _ => false)
  | sc, .bin o a b, e => (match e with
    | .BinOp x op y _ => decide (op = o.op) && chkE N T sc a x && chkE N T sc b y
    | _ => false)
  | sc, .neg a, e => (match e with
    | .UnaryOp .USub x _ => chkE N T sc a x
    | _ => false)
  | sc, .cmp o a b, e => (match e with
    | .Compare x [op] [y] _ => decide (op = o.op) && chkE N T sc a x && chkE N T sc b y && nosetB y
    | _ => false)
  | sc, .chn o p a b c, e => (match e with
    | .Compare x [op, op'] [y, z] _ => decide (op = o.op) && decide (op' = p.op) && chkE N T sc a x && chkE N T sc b y && chkE N T sc c z && nosetB y && nosetB z
    | _ => false)
  | sc, .not a, e => (match e with
    | .UnaryOp .Not x _ => chkE N T sc a x
    | _ => false)
  | sc, .and es, e => (match e with
    | .BoolOp .And xs _ => chkEs N T sc es xs && !xs.isEmpty
    | _ => false)
  | sc, .or es, e => (match e with
    | .BoolOp .Or xs _ => chkEs N T sc es xs && !xs.isEmpty
    | _ => false)
  | sc, .ife c a b, e => (match e with
    | .IfExp x y z _ => chkE N T sc c x && chkE N T sc a y && chkE N T sc b z
    | _ => false)
  | sc, .idx a i, e => (match e with
    | .Subscript x y _ => chkE N T sc a x && chkE N T sc i y && pixB y
    | _ => false)
  | sc, .slc a lo hi, e => (match e with
    | .Subscript x (.Slice l h none _) _ => chkE N T sc a x && chkO N T sc lo l && chkO N T sc hi h
    | _ => false)
  | sc, .call f es, e => (match e with
    | .Call (.Name x _) xs [] _ => gloB sc x && nmB x && decide ((T.fns[f]?).map (·.name) = some x) && (match T.fns[f]? with
      | some fe => decide (xs.length ∈ fe.ar)
      | none => false) && !xs.isEmpty && chkEs N T sc es xs
    | _ => false)
  | sc, .blt b es, e => (match e with
    | .Call (.Name x _) xs [] _ => gloB sc x && nmB x && decide (x = b.name) && !xs.isEmpty && chkEs N T sc es xs
    | _ => false)
  | sc, .fr f, e => chkF N T sc f e
  | sc, .hp f, e => chkF N T sc f e
def chkEs (N : List Str) (T : Tab) : Scope → List ME → List Expr → Bool
  | _, [], es => (match es with
    | [] => true
    | _ => false)
  | sc, m :: ms, es => (match es with
    | e :: es => nostB e && chkE N T sc m e && chkEs N T sc ms es
    | _ => false)
def chkO (N : List Str) (T : Tab) : Scope → MO → Option Expr → Bool
  | _, .no, o => (match o with
    | none => true
    | _ => false)
  | sc, .some m, o => (match o with
    | some e => chkE N T sc m e
    | _ => false)
def chkF (N : List Str) (T : Tab) : Scope → MF → Expr → Bool
  | sc, .lst es, e => (match e with
    | .List xs _ => chkEs N T sc es xs && decide (xs.length ≤ 1000000)
    | _ => false)
  | sc, .list a, e => (match e with
    | .Call (.Name x _) [y] [] _ => decide (x = ("list" : Str)) && gloB sc x && nostB y && chkE N T sc a y
    | _ => false)
  | sc, .sorted a, e => (match e with
    | .Call (.Name x _) [y] [] _ => decide (x = ("sorted" : Str)) && gloB sc x && nostB y && chkE N T sc a y
    | _ => false)
  | sc, .rev a, e => (match e with
    | .Subscript x (.Slice none none (some (.UnaryOp .USub (.Constant (.int 1) _ _) _)) _) _ => chkE N T sc a x
    | _ => false)
  | sc, .slc a lo hi, e => (match e with
    | .Subscript x (.Slice l h none _) _ => chkE N T sc a x && chkO N T sc lo l && chkO N T sc hi h
    | _ => false)
  | sc, .cat a b, e => (match e with
    | .BinOp x .Add y _ => chkE N T sc a x && chkE N T sc b y
    | _ => false)
  | sc, .rep a b, e => (match e with
    | .BinOp x .Mult y _ => chkE N T sc a x && chkE N T sc b y
    | _ => false)
  | sc, .rng a, e => (match e with
    | .Call (.Name x _) [.Call (.Name x2 _) [y] [] _] [] _ => decide (x = ("list" : Str)) && gloB sc x && decide (x2 = ("range" : Str)) && gloB sc x2 && nostB y && chkE N T sc a y
    | _ => false)
  | sc, .comp e t it cs, ex => (match ex with
    | .ListComp elt [⟨tg, iter, ifs, 0⟩] scope _ => chkI N T sc it tg iter && nosetB iter && blkC N sc scope (ownOf N t) && chkT N (relS scope sc) scope t tg && chkEs N T (relS scope sc) cs ifs && decide (ifs.length ≤ 1) && chkE N T (relS scope sc) e elt
    | _ => false)
def chkI (N : List Str) (T : Tab) : Scope → MI → Expr → Expr → Bool
  | sc, .val a, _, e => chkE N T sc a e
  | sc, .rng1 a, _, e => (match e with
    | .Call (.Name x _) [y] [] _ => decide (x = ("range" : Str)) && gloB sc x && nostB y && chkE N T sc a y
    | _ => false)
  | sc, .rng2 a b, _, e => (match e with
    | .Call (.Name x _) [y, z] [] _ => decide (x = ("range" : Str)) && gloB sc x && nostB y && nostB z && chkE N T sc a y && chkE N T sc b z
    | _ => false)
  | sc, .zip a b, tg, e => (match tg, e with
    | .Tuple _ _ _, .Call (.Name x _) [y, z] [] _ => decide (x = ("zip" : Str)) && gloB sc x && nostB y && nostB z && chkE N T sc a y && chkE N T sc b z
    | _, _ => false)
  | sc, .enm a, tg, e => (match tg, e with
    | .Tuple _ _ _, .Call (.Name x _) [y] [] _ => decide (x = ("enumerate" : Str)) && gloB sc x && nostB y && chkE N T sc a y
    | _, _ => false)
  | sc, .rev a, _, e => (match e with
    | .Call (.Name x _) [y] [] _ => decide (x = ("reversed" : Str)) && gloB sc x && nostB y && chkE N T sc a y
    | _ => false)
end
/-! what the looks tell -/
theorem star_of {e : Expr} (h : nostB e = true) (es : List Expr) (env : Env) : starEach (e :: es) env = (false, eval e env) :: starEach es env := by
  cases e <;> first | rfl | exact absurd h Bool.false_ne_true
theorem assign_of {e : Expr} (h : nostB e = true) (es : List Expr) (env : Env) : ∃ t, assignEach (e :: es) env = (false, t) :: assignEach es env ∧ t = assign e env := by
  cases e <;> first | exact ⟨_, rfl, rfl⟩ | exact absurd h Bool.false_ne_true
theorem back_of {N : List Str} {T : Tab} {sc : Scope} {pos : Pos} {env : Env} : ∀ {ms : List ME} {es : List Expr}, chkEs N T sc ms es = true → (backTo pos (starEach es env)).any (·.1) = false
  | [], es, h => by
    unfold chkEs at h
    split at h
    · rfl
    · cases h
  | m :: ms, es, h => by
    unfold chkEs at h
    split at h
    · simp only [Bool.and_eq_true] at h
      rw [star_of h.1.1]
      show (false || (backTo pos (starEach _ env)).any (·.1)) = false
      rw [back_of h.2]
      rfl
    · cases h
theorem len_of {N : List Str} {T : Tab} {sc : Scope} : ∀ {ms : List ME} {es : List Expr}, chkEs N T sc ms es = true → ms.length = es.length
  | [], es, h => by
    unfold chkEs at h
    split at h
    · rfl
    · cases h
  | m :: ms, es, h => by
    unfold chkEs at h
    split at h
    · simp only [Bool.and_eq_true] at h
      simp [len_of h.2]
    · cases h
theorem behind_of {e : Expr} (h : nosetB e = true) (op : CmpOp) : behindInMarks op e = false := by
  cases e <;> first | rfl | exact absurd h Bool.false_ne_true
theorem fold_of {e : Expr} (h : nosetB e = true) (env : Env) (x : Value) : foldedSetIterable e env x = pure x := by
  cases e <;> first | rfl | exact absurd h Bool.false_ne_true
theorem pix_of {e : Expr} (h : pixB e = true) : PlainIx e := by
  cases e <;> first | exact fun _ _ => rfl | exact absurd h Bool.false_ne_true
theorem pl_of {e : Expr} (h : plB e = true) (env : Env) (whole : Sem Value) : isTrue e env whole = (do let v ← whole; standAt e.pos; holding [v] (truthy v)) := by
  cases e <;> first | rfl | exact absurd h Bool.false_ne_true
end Ev

namespace Ev
open PySem PySem.Spec PyProof.Rows L2

/-! ## the defs -/
structure FnG (P : Program) (w : World) (K : PySem.W.Frag) (mg : Str → Option Value) (base : Heap) (k : Nat) (f : Addr) (fd : FuncData) (ps : List Str) (sp : Sp) : Prop where
  len : ∀ vs H Q E, sp vs H Q E → vs.length = ps.length
  run : ∀ (A : Around) (outer : List Env) (s : Shared) (H : Hp) (args : Args) (us : List Value) (vs : List V) (Q : VK) (E : XK), A.guards = some [] → Room k A → Env0 P w K mg base A outer s H → BindsTo s fd args (ps.zip us) → Vals vs us → sp vs H Q E →
    codeAny (model P w) A (.call (.ref f) args) (CR (L2.CX P w) outer P w H s Q E) s
/-- what a def of the evaluator's promises -/
def spR (K : PySem.W.Frag) (n : Nat) (R : List L → LH → Res L) : Sp := fun vs H Q E => vs.length = n ∧ ∃ w xs lh, RelH K w lh H ∧ RelLs K w xs vs ∧ Post K (fun cls d _ H => E cls d H) (RL K) w H [] Q (R xs lh)
structure FnI (P : Program) (w : World) (K : PySem.W.Frag) (mg : Str → Option Value) (base : Heap) (k : Nat) (R : List L → LH → Res L) (fe : FnE) : Prop where
  ex : ∃ fa fd, mg fe.name = some (.ref fa) ∧ PySem.W.keepIn K (.ref fa) = true ∧
    (∀ n ∈ fe.ar, n ≤ fe.ps.length ∧ ∃ dvs ds, (∀ w, RelLs K w (fe.dfl.drop (fe.dfl.length - (fe.ps.length - n))) dvs) ∧ n + dvs.length = fe.ps.length ∧ Vals dvs ds ∧ Binds K fd fe.ps ds) ∧
    FnG P w K mg base k fa fd fe.ps (spR K fe.ps.length R)
/-- the names of built-ins that the evaluator calls -/
def bltNames : List Str := ["list", "sorted", "range", "zip", "enumerate", "reversed", "len", "abs", "int", "isinstance", "sum", "all", "any", "max", "min", "repr", "str", "tuple", "bool", "dict"]
theorem tyTab_in {x : Str} {n : String} (h : tyTab x = some n) : x ∈ bltNames := by
  unfold tyTab at h
  split at h
  · rename_i e; rw [e]; decide +kernel
  · split at h
    · rename_i e; rw [e]; decide +kernel
    · split at h
      · rename_i e; rw [e]; decide +kernel
      · split at h
        · rename_i e; rw [e]; decide +kernel
        · split at h
          · rename_i e; rw [e]; decide +kernel
          · split at h
            · rename_i e; rw [e]; decide +kernel
            · cases h
/-- the constants, the built-ins and the defs of a program -/
structure Prg (P : Program) (w : World) (K : PySem.W.Frag) (mg : Str → Option Value) (base : Heap) (k : Nat) (T : Tab) (R : Nat → List L → LH → Res L) : Prop where
  con : ∀ (j : Nat) (x : Str) (l : L), T.con[j]? = some (x, l) → ∃ u v, mg x = some u ∧ RelV v u ∧ ∀ w, RelL K w l v
  blt : ∀ x ∈ bltNames, mg x = none
  nd : base.NoDigits
  fn : ∀ (f : Nat) (fe : FnE), T.fns[f]? = some fe → FnI P w K mg base k (R f) fe
/-- a place where expressions are evaluated -/
structure Gd (X : Cx) (W : WX) (k : Nat) (T : Tab) (R : Nat → List L → LH → Res L) (N : List Str) (sc : Scope) : Prop where
  calm : X.calm = true
  gd : X.A.guards = some []
  rm : Room k X.A
  nN : X.N = N
  nod : N.Nodup
  sc : X.env.scope = sc
  tk : Takes X W
  pr : Prg X.prog X.w X.K X.mg X.base k T R
section
variable {X : Cx} {W : WX} {k : Nat} {T : Tab} {R : Nat → List L → LH → Res L} {N : List Str} {sc : Scope}
theorem Gd.blk (G : Gd X W k T R N sc) (s : Shared) (H : Hp) (scope : Scope) (C : Addr) (cl : List (Str × Addr)) (fp : List Addr) : Gd (X.blk s H scope (compEnvC scope cl C X.env) fp) WF k T R N (relS scope sc) where
  calm := G.calm
  gd := G.gd
  rm := G.rm
  nN := G.nN
  nod := G.nod
  sc := by rw [← G.sc]; rfl
  tk := fun u s' ⟨_, _, _, _, _, _, _, _, _, _, _, _, _, _, _, _, w⟩ => w.elim
  pr := G.pr
theorem Gd.hu (G : Gd X W k T R N sc) : X.A.units + 200 < cLine := by have := G.rm.un; omega
theorem Gd.gl (G : Gd X W k T R N sc) {x : Str} (h : gloB sc x = true) : Gl X x := by
  show X.env.scope.names.lookup x = _
  rw [G.sc]
  exact of_decide_eq_true h
theorem Gd.vis (G : Gd X W k T R N sc) {x : Str} (h : visB sc x = true) : Vis X.env.scope x := by
  rw [G.sc]
  unfold visB at h
  simp only [Bool.or_eq_true, decide_eq_true_eq] at h
  rcases h with (h | h) | h
  · exact .inl h
  · exact .inr (.inl h)
  · exact .inr (.inr h)
theorem nm_of {x : Str} (h : nmB x = true) : (x == ("__debug__" : Str)) = false ∧ (x == ("__classdict__" : Str)) = false ∧ x ≠ ("__name__" : Str) := by
  unfold nmB at h
  simp only [Bool.and_eq_true, Bool.not_eq_true', decide_eq_false_iff_not] at h
  exact ⟨h.1.1, h.1.2, h.2⟩
theorem evEs_len : ∀ {es : List ME} {ls : List Sl} {h h' : LH} {xs : List L}, evEs T R es ls h = .ok xs h' → xs.length = es.length
  | [], ls, h, h', xs, e => by
    unfold evEs at e
    cases e
    rfl
  | m :: ms, ls, h, h', xs, e => by
    unfold evEs at e
    cases z : evE T R m ls h with
    | no => rw [z] at e; cases e
    | exn C x h => rw [z] at e; cases e
    | ok x h1 =>
      rw [z, Res.bind_ok] at e
      cases z2 : evEs T R ms ls h1 with
      | no => rw [z2] at e; cases e
      | exn C x h => rw [z2] at e; cases e
      | ok ys h2 =>
        rw [z2] at e
        cases e
        simp [evEs_len z2]
theorem post_E {α β : Type} {K : PySem.W.Frag} {R : Rl α β} {w : Wd} {H : Hp} {σ : L2.St} {Q : β → Hp → Prop} {r : Res α} (p : Post K W R w H σ Q r) : Post K (fun cls d _ H => W cls d σ H) R w H [] Q r := by cases r <;> exact p
/-! a call -/
theorem run_fnG {f : Addr} {fd : FuncData} {ps : List Str} {sp : Sp} {ds : List Value} {dvs : List V} {pins : List (Addr × Obj)} {σ : L2.St} {H : Hp} {s : Shared} {Q : VK} {us : List Value} {vs : List V} {E : XK} (F : FnG X.prog X.w X.K X.mg X.base k f fd ps sp) (hg : X.A.guards = some []) (hr : Room k X.A) (hb : Binds X.K fd ps ds) (hd : Vals dvs ds) (hx : PassesAt (L2.CX X.prog X.w) X σ E)
    (I : Inv X pins σ H s) (r : Vals vs us) (h : sp (vs ++ dvs) H Q E) : wpAny (model X.prog X.w) X.A (call (.ref f) us) (EP X pins σ Q) X.xe s := by
  have r2 : Vals (vs ++ dvs) (us ++ ds) := r.append hd
  have hl : (us ++ ds).length = ps.length := by rw [← r2.length]; exact F.len _ _ _ _ h
  refine wpAny_call (codeAny_mono (F.run X.A X.stack s H ⟨us, []⟩ (us ++ ds) (vs ++ dvs) Q E hg hr I.env0 (hb s us I.kIn hl) r2 h) fun r s' hq => ?_)
  cases r with
  | error e => exact hx pins H s e s' I hq
  | ok fl =>
    cases fl with
    | ret u => exact I.after hq
    | next => exact False.elim hq
    | brk => exact False.elim hq
    | cont => exact False.elim hq
theorem e_call (G : Gd X W k T R N sc) {f : Nat} {fe : FnE} {x : Str} {p pos : Pos} {e : Expr} {es : List Expr} {fs : List Sl → LH → Res (List L)} (hf : T.fns[f]? = some fe) (hx : x = fe.name) (hg : Gl X x) (hn : nmB x = true) (har : (e :: es).length ∈ fe.ar)
    (ha : PA X (e :: es) (rEs X.K W fs)) (hlen : ∀ ls h xs h', fs ls h = .ok xs h' → xs.length = (e :: es).length) (he : starEach (e :: es) X.env = (false, eval e X.env) :: starEach es X.env) (hpl : (backTo pos (starEach es X.env)).any (·.1) = false) :
    PE X (.Call (.Name x p) (e :: es) [] pos) (rE X.K W fun ls h => (fs ls h).bind fun xs h => R f (xs ++ fe.dfl.drop (fe.dfl.length - (fe.ps.length - xs.length))) h) := by
  obtain ⟨fa, fd, hm, hk, hb, F⟩ := (G.pr.fn f fe hf).ex
  subst hx
  obtain ⟨hle, dvs, ds, hrd, hlen2, hvd, hbd⟩ := hb _ har
  refine ⟨fun pins s σ H Q I h => ?_⟩
  refine wpAny_Call_Name_kw (ld_glob I hg hm ?_ (nm_of hn).1)
  have h' : rEs X.K W fs σ H (fun vs H1 => spR X.K fe.ps.length (R f) (vs ++ dvs) H1 Q (WE W σ)) := by
    obtain ⟨w, ls, lh, hh, hs, p⟩ := h
    exact rd.mk hh hs (Post.seq p fun xs lh1 z w1 vs H1 e1 h1 r1 p1 => by
      have hxl := hlen _ _ _ _ z
      have r1 : RelLs X.K w1 xs vs := r1
      refine ⟨by rw [List.length_append, ← r1.length, hxl]; exact hlen2, w1, _, lh1, h1, r1.append (hrd w1), ?_⟩
      rw [hxl] at p1
      exact post_E p1)
  exact PySem.W.callWith_K (h₀ := X.base) I.ok.mod.kin hk (thn (ha.run pos pins s σ H _ I h') fun us s1 ⟨vs, H1, I1, r, q⟩ => ⟨I1.kIn, run_fnG F G.gd G.rm hbd hvd (passAt G.tk σ) I1 r q⟩) he hpl
/-! a built-in -/
theorem e_blt (G : Gd X W k T R N sc) {b : Bi} {x : Str} {p pos : Pos} {e : Expr} {es : List Expr} {fs : List Sl → LH → Res (List L)} (hx : x = b.name) (hg : Gl X x) (hn : nmB x = true)
    (ha : PA X (e :: es) (rEs X.K W fs)) (he : starEach (e :: es) X.env = (false, eval e X.env) :: starEach es X.env) (hpl : (backTo pos (starEach es X.env)).any (·.1) = false) :
    PE X (.Call (.Name x p) (e :: es) [] pos) (rE X.K W fun ls h => (fs ls h).bind fun xs h => .opt (evBlt b h xs) h) := by
  subst hx
  have hm : X.mg b.name = none := G.pr.blt _ (by cases b <;> decide +kernel)
  have key : ∀ t, PE X (.Call (.Name b.name p) (e :: es) [] pos) (tCB t (rEs X.K W fs)) → t = rdN X.K (evBlt b) → PE X (.Call (.Name b.name p) (e :: es) [] pos) (rE X.K W fun ls h => (fs ls h).bind fun xs h => .opt (evBlt b h xs) h) := fun t h et => by
    subst et
    exact PE.imp h fun σ H Q ⟨w, ls, lh, hh, hs, p⟩ => rd.mk hh hs (Post.seq p fun xs lh1 z w1 vs H1 e1 h1 r1 p1 => ⟨w1, xs, lh1, h1, r1, p1.opt⟩)
  have ok := bltOk G.calm G.rm.hd G.gd G.hu G.pr.nd b
  have hv := b.boot
  obtain ⟨n1, n2, n3⟩ := nm_of hn
  cases hb : b.val with
  | builtin id =>
    rw [hb] at ok hv
    exact key _ (pe_callB ok hg hm hv ha n3 n1 he hpl) rfl
  | type Ty =>
    rw [hb] at ok hv
    exact key _ (pe_callTy ok hg hm hv ha n3 n1 he hpl) rfl
  | _ => cases b <;> cases hb
end

/-! ## soundness of expressions -/
section
variable {T : Tab} {R : Nat → List L → LH → Res L} {k : Nat} {N : List Str}
theorem sTs {X : Cx} {W : WX} {sc cl : Scope} (G : Gd X W k T R N sc) (hf : ∀ x, cl.names.lookup x = some .cell → X.fn x = true) : (∀ (t : Tg) (e : Expr), chkT N sc cl t e = true → PG X e (rG X.K t)) := by
  refine fun t => Tg.rec (motive_1 := fun t => ∀ e : Expr, chkT N sc cl t e = true → PG X e (rG X.K t)) (motive_2 := fun ts => ∀ es : List Expr, chkTs N sc cl ts es = true → PGs X es (rGs X.K ts) ∧ (assignEach es X.env).length = ts.length ∧ (assignEach es X.env).findIdx? (·.1) = none) ?_ ?_ ?_ ?_ t
  · intro i e h
    unfold chkT at h
    split at h
    · simp only [Bool.and_eq_true, decide_eq_true_eq, locB, Bool.or_eq_true] at h
      obtain ⟨h1, h2⟩ := h
      rcases h2 with h2 | ⟨h2, h3⟩
      · exact g_name (by rw [G.nN]; exact G.nod) (by rw [G.nN]; exact h1) (by rw [G.sc]; exact .inl h2) (.inr (by rw [G.sc]; exact h2))
      · exact g_name (by rw [G.nN]; exact G.nod) (by rw [G.nN]; exact h1) (by rw [G.sc]; exact .inr h2) (.inl (hf _ h3))
    · cases h
  · intro ts ih e h
    unfold chkT at h
    split at h
    · obtain ⟨a, b, c⟩ := ih _ h
      exact g_tup G.calm a b c
    · cases h
  · intro es h
    unfold chkTs at h
    split at h
    · exact ⟨gs_nil, rfl, rfl⟩
    · cases h
  · intro t ts ih1 ih2 es h
    unfold chkTs at h
    split at h
    · rename_i e es
      simp only [Bool.and_eq_true] at h
      obtain ⟨a, b, c⟩ := ih2 _ h.2
      obtain ⟨u, e1, e2⟩ := assign_of h.1.1 es X.env
      refine ⟨gs_cons (ih1 _ h.1.2) a (by rw [e1, List.map_cons, e2]), by rw [e1]; simp [b], ?_⟩
      rw [e1, List.findIdx?_cons]
      simp [c]
    · cases h
end
end Ev

namespace Ev
open PySem PySem.Spec PyProof.Rows L2
section
variable {T : Tab} {R : Nat → List L → LH → Res L} {k : Nat} {N : List Str}
abbrev Both (T : Tab) (R : Nat → List L → LH → Res L) (X : Cx) (W : WX) (m : ME) (e : Expr) : Prop := PE X e (rE X.K W (evE T R m)) ∧ PT X e (rB X.K W (evE T R m))
theorem both {X : Cx} {W : WX} {m : ME} {e : Expr} (h : PE X e (rE X.K W (evE T R m))) (hp : plB e = true) : Both T R X W m e := ⟨h, t_val h (pl_of hp _)⟩
theorem plF {sc : Scope} {f : MF} {e : Expr} (h : chkF N T sc f e = true) : plB e = true := by
  cases f <;> (unfold chkF at h; split at h <;> first | rfl | cases h)
theorem nostF {sc : Scope} {f : MF} {e : Expr} (h : chkF N T sc f e = true) : nostB e = true := by
  cases f <;> (unfold chkF at h; split at h <;> first | rfl | cases h)
mutual
theorem sE : ∀ (m : ME) {X : Cx} {W : WX} {sc : Scope} (e : Expr), Gd X W k T R N sc → chkE N T sc m e = true → Both T R X W m e
  | .var i, X, W, sc, e, G, h => by
    unfold chkE at h
    split at h
    · simp only [Bool.and_eq_true, decide_eq_true_eq] at h
      obtain ⟨⟨h1, h2⟩, h3⟩ := h
      exact both (e_var (by rw [G.nN]; exact h1) (G.vis h2) (nm_of h3).1 (nm_of h3).2.1) rfl
    · cases h
  | .con j, X, W, sc, e, G, h => by
    unfold chkE at h
    split at h
    · rename_i x p
      simp only [Bool.and_eq_true, decide_eq_true_eq] at h
      obtain ⟨⟨h1, h2⟩, h3⟩ := h
      cases z : T.con[j]? with
      | none => rw [z] at h3; cases h3
      | some xl =>
        obtain ⟨y, l⟩ := xl
        rw [z] at h3
        cases h3
        obtain ⟨u, v, hm, r, q⟩ := G.pr.con j _ l z
        have := e_con (W := W) (pe_glob (pos := p) (G.gl h1) hm r (nm_of h2).1) (fun w _ _ _ => q w)
        refine both ?_ rfl
        have e2 : evE T R (.con j) = fun _ h => .ok l h := by
          funext ls h
          show Res.opt ((T.con[j]?).map (·.2)) h = _
          rw [z]
          rfl
        rw [e2]
        exact this
    · cases h
  | .int i, X, W, sc, e, G, h => by
    unfold chkE at h
    split at h
    · simp only [decide_eq_true_eq] at h
      subst h
      exact both (e_con pe_int fun _ _ _ _ => mk_int _) rfl
    · cases h
  | .str z, X, W, sc, e, G, h => by
    unfold chkE at h
    split at h
    · simp only [decide_eq_true_eq] at h
      subst h
      exact both (e_con pe_str fun _ _ _ _ => mk_str _) rfl
    · cases h
  | .bl b, X, W, sc, e, G, h => by
    unfold chkE at h
    split at h
    · simp only [decide_eq_true_eq] at h
      subst h
      exact both (e_con pe_bl fun _ _ _ _ => mk_bl _) rfl
    · cases h
  | .non, X, W, sc, e, G, h => by
    unfold chkE at h
    split at h
    · exact both (e_con pe_non fun _ _ _ _ => mk_non) rfl
    · cases h
  | .ty x n, X, W, sc, e, G, h => by
    unfold chkE at h
    split at h
    · simp only [Bool.and_eq_true, decide_eq_true_eq] at h
      obtain ⟨⟨⟨h1, h2⟩, h3⟩, h4⟩ := h
      have hm : X.mg _ = none := G.pr.blt _ (tyTab_in h4)
      exact both (e_con (pe_bltn (v := .ty n) (G.gl h2) hm (tyTab_boot h4) rfl (nm_of h3).2.2 (nm_of h3).1) fun _ _ _ _ => by simp only [RelL]) rfl
    · cases h
  | .tup es, X, W, sc, e, G, h => by
    unfold chkE at h
    split at h
    · simp only [Bool.and_eq_true, decide_eq_true_eq] at h
      exact both (e_tup (sEs es _ G h.1) h.2 fun _ _ _ _ z => (evEs_len z).trans (len_of h.1)) rfl
    · cases h
  | .bin o a b, X, W, sc, e, G, h => by
    unfold chkE at h
    split at h
    · simp only [Bool.and_eq_true, decide_eq_true_eq] at h
      obtain ⟨⟨h1, h2⟩, h3⟩ := h
      subst h1
      exact both (e_bin o (sE a _ G h2).1 (sE b _ G h3).1) rfl
    · cases h
  | .neg a, X, W, sc, e, G, h => by
    unfold chkE at h
    split at h
    · rename_i x p
      have q : PE X (.UnaryOp .USub x p) (rE X.K W (evE T R (.neg a))) := e_neg (sE a _ G h).1
      exact ⟨q, t_val q fun _ => rfl⟩
    · cases h
  | .cmp o a b, X, W, sc, e, G, h => by
    unfold chkE at h
    split at h
    · simp only [Bool.and_eq_true, decide_eq_true_eq] at h
      obtain ⟨⟨⟨h1, h2⟩, h3⟩, h4⟩ := h
      subst h1
      have hu : X.A.units + 64 < cLine := by have := G.hu; omega
      exact ⟨e_cmp hu o (sE a _ G h2).1 (sE b _ G h3).1 (behind_of h4 _), t_cmp hu o (sE a _ G h2).1 (sE b _ G h3).1 (behind_of h4 _)⟩
    · cases h
  | .chn o p a b c, X, W, sc, e, G, h => by
    unfold chkE at h
    split at h
    · simp only [Bool.and_eq_true, decide_eq_true_eq] at h
      obtain ⟨⟨⟨⟨⟨⟨h1, h2⟩, h3⟩, h4⟩, h5⟩, h6⟩, h7⟩ := h
      subst h1 h2
      have hu : X.A.units + 64 < cLine := by have := G.hu; omega
      exact ⟨e_chn hu o p (sE a _ G h3).1 (sE b _ G h4).1 (sE c _ G h5).1 (behind_of h7 _), t_chn hu o p (sE a _ G h3).1 (sE b _ G h4).1 (sE c _ G h5).1 (behind_of h7 _)⟩
    · cases h
  | .not a, X, W, sc, e, G, h => by
    unfold chkE at h
    split at h
    · exact ⟨e_not (sE a _ G h).1, t_not (sE a _ G h).2⟩
    · cases h
  | .and es, X, W, sc, e, G, h => by
    unfold chkE at h
    split at h
    · rename_i xs p
      simp only [Bool.and_eq_true] at h
      have q := sAnd es (p := p) xs G h.1 (by cases xs <;> simp at h ⊢)
      exact ⟨q.1, q.2.pt⟩
    · cases h
  | .or es, X, W, sc, e, G, h => by
    unfold chkE at h
    split at h
    · rename_i xs p
      simp only [Bool.and_eq_true] at h
      have q := sOr es (p := p) xs G h.1 (by cases xs <;> simp at h ⊢)
      exact ⟨q.1, q.2.pt⟩
    · cases h
  | .ife c a b, X, W, sc, e, G, h => by
    unfold chkE at h
    split at h
    · simp only [Bool.and_eq_true] at h
      obtain ⟨⟨h1, h2⟩, h3⟩ := h
      exact ⟨e_ife (sE c _ G h1).2 (sE a _ G h2).1 (sE b _ G h3).1, t_ife (sE c _ G h1).2 (sE a _ G h2).2 (sE b _ G h3).2⟩
    · cases h
  | .idx a i, X, W, sc, e, G, h => by
    unfold chkE at h
    split at h
    · simp only [Bool.and_eq_true] at h
      obtain ⟨⟨h1, h2⟩, h3⟩ := h
      exact both (e_idx (sE a _ G h1).1 (sE i _ G h2).1 (pix_of h3)) rfl
    · cases h
  | .slc a lo hi, X, W, sc, e, G, h => by
    unfold chkE at h
    split at h
    · simp only [Bool.and_eq_true] at h
      obtain ⟨⟨h1, h2⟩, h3⟩ := h
      exact both (e_slc (sE a _ G h1).1 (sO lo _ G h2) (sO hi _ G h3)) rfl
    · cases h
  | .call f es, X, W, sc, e, G, h => by
    unfold chkE at h
    split at h
    · rename_i x p xs pos
      simp only [Bool.and_eq_true, decide_eq_true_eq] at h
      obtain ⟨⟨⟨⟨⟨h1, h2⟩, h3⟩, h4⟩, h5⟩, h6⟩ := h
      cases z : T.fns[f]? with
      | none => rw [z] at h3; cases h3
      | some fe =>
        rw [z] at h3 h4
        cases xs with
        | nil => cases h5
        | cons y ys =>
          have h3 : some fe.name = some x := h3
          cases h3
          have ha := sEs es _ G h6 (W := W)
          have hst : starEach (y :: ys) X.env = (false, eval y X.env) :: starEach ys X.env ∧ (backTo pos (starEach ys X.env)).any (·.1) = false := by
            cases es with
            | nil => unfold chkEs at h6; cases h6
            | cons m ms =>
              unfold chkEs at h6
              simp only [Bool.and_eq_true] at h6
              exact ⟨star_of h6.1.1 _ _, back_of h6.2⟩
          have q := e_call G (p := p) (pos := pos) z rfl (G.gl h1) h2 (of_decide_eq_true h4) ha (fun _ _ _ _ z => (evEs_len z).trans (len_of h6)) hst.1 hst.2
          refine both ?_ rfl
          have e2 : evE T R (.call f es) = fun ls h => (evEs T R es ls h).bind fun xs h => R f (xs ++ fe.dfl.drop (fe.dfl.length - (fe.ps.length - xs.length))) h := by
            funext ls h
            show ((evEs T R es ls h).bind fun xs h => match T.fns[f]? with
              | some fe => R f (xs ++ fe.dfl.drop (fe.dfl.length - (fe.ps.length - xs.length))) h
              | none => .no) = _
            rw [z]
          rw [e2]
          exact q
    · cases h
  | .blt b es, X, W, sc, e, G, h => by
    unfold chkE at h
    split at h
    · rename_i x p xs pos
      simp only [Bool.and_eq_true, decide_eq_true_eq] at h
      obtain ⟨⟨⟨⟨h1, h2⟩, h3⟩, h4⟩, h5⟩ := h
      cases xs with
      | nil => cases h4
      | cons y ys =>
        have ha := sEs es _ G h5 (W := W)
        have hst : starEach (y :: ys) X.env = (false, eval y X.env) :: starEach ys X.env ∧ (backTo pos (starEach ys X.env)).any (·.1) = false := by
          cases es with
          | nil => unfold chkEs at h5; cases h5
          | cons m ms =>
            unfold chkEs at h5
            simp only [Bool.and_eq_true] at h5
            exact ⟨star_of h5.1.1 _ _, back_of h5.2⟩
        exact both (e_blt G h3 (G.gl h1) h2 ha hst.1 hst.2) rfl
    · cases h
  | .fr f, X, W, sc, e, G, h => by
    unfold chkE at h
    exact both (e_fr (sF f _ G h)) (plF h)
  | .hp f, X, W, sc, e, G, h => by
    unfold chkE at h
    exact both (e_hp (sF f _ G h)) (plF h)
theorem sEs : ∀ (ms : List ME) {X : Cx} {W : WX} {sc : Scope} (es : List Expr), Gd X W k T R N sc → chkEs N T sc ms es = true → PA X es (rEs X.K W (evEs T R ms))
  | [], X, W, sc, es, G, h => by
    unfold chkEs at h
    split at h
    · exact a_nil
    · cases h
  | m :: ms, X, W, sc, es, G, h => by
    unfold chkEs at h
    split at h
    · simp only [Bool.and_eq_true] at h
      exact a_cons (sE m _ G h.1.2).1 (sEs ms _ G h.2) (star_of h.1.1 _ _)
    · cases h
theorem sAnd : ∀ (ms : List ME) {X : Cx} {W : WX} {sc : Scope} {p : Pos} (es : List Expr), Gd X W k T R N sc → chkEs N T sc ms es = true → es ≠ [] → PE X (.BoolOp .And es p) (rE X.K W (evAnd T R ms)) ∧ PW X (.BoolOp .And es p) (rB X.K W (evAnd T R ms))
  | [], X, W, sc, p, es, G, h, hn => by
    unfold chkEs at h
    split at h
    · exact absurd rfl hn
    · cases h
  | [m], X, W, sc, p, es, G, h, hn => by
    unfold chkEs at h
    split at h
    · simp only [Bool.and_eq_true] at h
      obtain ⟨⟨h1, h2⟩, h3⟩ := h
      unfold chkEs at h3
      split at h3
      · exact ⟨e_and1 (sE m _ G h2).1, w_and1 (sE m _ G h2).2⟩
      · cases h3
    · cases h
  | m :: m2 :: ms, X, W, sc, p, es, G, h, hn => by
    unfold chkEs at h
    split at h
    · rename_i e es
      simp only [Bool.and_eq_true] at h
      obtain ⟨⟨h1, h2⟩, h3⟩ := h
      cases es with
      | nil => cases h3
      | cons e2 es =>
        have q := sAnd (m2 :: ms) (p := p) (W := W) _ G h3 (by simp)
        exact ⟨e_and (sE m _ G h2).1 q.1, w_and (sE m _ G h2).2 q.2⟩
    · cases h
theorem sOr : ∀ (ms : List ME) {X : Cx} {W : WX} {sc : Scope} {p : Pos} (es : List Expr), Gd X W k T R N sc → chkEs N T sc ms es = true → es ≠ [] → PE X (.BoolOp .Or es p) (rE X.K W (evOr T R ms)) ∧ PW X (.BoolOp .Or es p) (rB X.K W (evOr T R ms))
  | [], X, W, sc, p, es, G, h, hn => by
    unfold chkEs at h
    split at h
    · exact absurd rfl hn
    · cases h
  | [m], X, W, sc, p, es, G, h, hn => by
    unfold chkEs at h
    split at h
    · simp only [Bool.and_eq_true] at h
      obtain ⟨⟨h1, h2⟩, h3⟩ := h
      unfold chkEs at h3
      split at h3
      · exact ⟨pe_one (sE m _ G h2).1, w_or1 (sE m _ G h2).2⟩
      · cases h3
    · cases h
  | m :: m2 :: ms, X, W, sc, p, es, G, h, hn => by
    unfold chkEs at h
    split at h
    · rename_i e es
      simp only [Bool.and_eq_true] at h
      obtain ⟨⟨h1, h2⟩, h3⟩ := h
      cases es with
      | nil => cases h3
      | cons e2 es =>
        have q := sOr (m2 :: ms) (p := p) (W := W) _ G h3 (by simp)
        exact ⟨e_or (sE m _ G h2).1 q.1, w_or (sE m _ G h2).2 q.2⟩
    · cases h
theorem sO : ∀ (m : MO) {X : Cx} {W : WX} {sc : Scope} (e : Option Expr), Gd X W k T R N sc → chkO N T sc m e = true → PO X e (rO X.K W (evO T R m))
  | .no, X, W, sc, e, G, h => by
    unfold chkO at h
    split at h
    · exact o_no
    · cases h
  | .some m, X, W, sc, e, G, h => by
    unfold chkO at h
    split at h
    · exact o_some (sE m _ G h).1
    · cases h
theorem sF : ∀ (f : MF) {X : Cx} {W : WX} {sc : Scope} (e : Expr), Gd X W k T R N sc → chkF N T sc f e = true → PE X e (rF X.K W (evF T R f))
  | .lst es, X, W, sc, e, G, h => by
    unfold chkF at h
    split at h
    · simp only [Bool.and_eq_true, decide_eq_true_eq] at h
      exact f_lst (sEs es _ G h.1) h.2 fun _ _ _ _ z => (evEs_len z).trans (len_of h.1)
    · cases h
  | .list a, X, W, sc, e, G, h => by
    unfold chkF at h
    split at h
    · simp only [Bool.and_eq_true, decide_eq_true_eq] at h
      obtain ⟨⟨⟨h1, h2⟩, h3⟩, h4⟩ := h
      subst h1
      exact f_list (G.gl h2) (G.pr.blt _ (by decide +kernel)) (sE a _ G h4).1 (star_of h3 _ _)
    · cases h
  | .sorted a, X, W, sc, e, G, h => by
    unfold chkF at h
    split at h
    · simp only [Bool.and_eq_true, decide_eq_true_eq] at h
      obtain ⟨⟨⟨h1, h2⟩, h3⟩, h4⟩ := h
      subst h1
      exact f_sorted (G.gl h2) (G.pr.blt _ (by decide +kernel)) (sE a _ G h4).1 (star_of h3 _ _)
    · cases h
  | .rev a, X, W, sc, e, G, h => by
    unfold chkF at h
    split at h
    · exact f_rev (sE a _ G h).1
    · cases h
  | .slc a lo hi, X, W, sc, e, G, h => by
    unfold chkF at h
    split at h
    · simp only [Bool.and_eq_true] at h
      obtain ⟨⟨h1, h2⟩, h3⟩ := h
      exact f_slc (sE a _ G h1).1 (sO lo _ G h2) (sO hi _ G h3)
    · cases h
  | .cat a b, X, W, sc, e, G, h => by
    unfold chkF at h
    split at h
    · simp only [Bool.and_eq_true] at h
      exact f_cat (sE a _ G h.1).1 (sE b _ G h.2).1
    · cases h
  | .rep a b, X, W, sc, e, G, h => by
    unfold chkF at h
    split at h
    · simp only [Bool.and_eq_true] at h
      exact f_rep (sE a _ G h.1).1 (sE b _ G h.2).1
    · cases h
  | .rng a, X, W, sc, e, G, h => by
    unfold chkF at h
    split at h
    · simp only [Bool.and_eq_true, decide_eq_true_eq] at h
      obtain ⟨⟨⟨⟨⟨h1, h2⟩, h3⟩, h4⟩, h5⟩, h6⟩ := h
      subst h1 h3
      exact f_rng G.calm (G.gl h2) (G.pr.blt _ (by decide +kernel)) (G.gl h4) (G.pr.blt _ (by decide +kernel)) (sE a _ G h6).1 (star_of h5 _ _) rfl
    · cases h
  | .comp em t it cs, X, W, sc, e, G, h => by
    unfold chkF at h
    split at h
    · rename_i elt tg iter ifs scope pos
      simp only [Bool.and_eq_true, decide_eq_true_eq] at h
      obtain ⟨⟨⟨⟨⟨⟨h1, h2⟩, h3⟩, h4⟩, h5⟩, h6⟩, h7⟩ := h
      refine f_comp (own := ownOf N t) G.calm (by rw [G.nN]; exact G.nod) (sI it tg iter G h1) (by rw [G.nN, G.sc]; exact blkOk_by h3) (by unfold ownOf; rw [List.map_map]; exact List.map_id' _)
        (fun s H C cl fp => sTs (G.blk s H scope C cl fp) (fun x hx => by show (scope.names.lookup x == some .cell) = true; rw [hx]; rfl) t tg h4) (fun s H C cl fp => sC cs ifs (G.blk s H scope C cl fp) h5 h6)
        (fun s H C cl fp => (sE em elt (G.blk s H scope C cl fp) h7).1) (fun x => fold_of h2 _ x)
    · cases h
theorem sC : ∀ (ms : List ME) {X : Cx} {W : WX} {sc : Scope} (es : List Expr), Gd X W k T R N sc → chkEs N T sc ms es = true → es.length ≤ 1 → PTs X es (rBs X.K W (evC T R ms))
  | [], X, W, sc, es, G, h, hl => by
    unfold chkEs at h
    split at h
    · exact ⟨fun pins s σ H Q I ⟨w, ls, lh, hh, hs, p⟩ => pts_nil.run pins s σ H Q I (p w _ H (Ext.refl _ _) hh rfl)⟩
    · cases h
  | [m], X, W, sc, es, G, h, hl => by
    unfold chkEs at h
    split at h
    · simp only [Bool.and_eq_true] at h
      obtain ⟨⟨h1, h2⟩, h3⟩ := h
      unfold chkEs at h3
      split at h3
      · exact ⟨fun pins s σ H Q I hq => (pts_one (sE m _ G h2).2).run pins s σ H Q I hq⟩
      · cases h3
    · cases h
  | m :: m2 :: ms, X, W, sc, es, G, h, hl => by
    unfold chkEs at h
    split at h
    · rename_i e es
      simp only [Bool.and_eq_true] at h
      cases es with
      | nil => cases h.2
      | cons e2 es => simp at hl
    · cases h
theorem sI : ∀ (i : MI) {X : Cx} {W : WX} {sc : Scope} (tg e : Expr), Gd X W k T R N sc → chkI N T sc i tg e = true → PI X tg e (rI X.K W (evI T R i))
  | .val a, X, W, sc, tg, e, G, h => by
    unfold chkI at h
    exact i_val (sE a _ G h).1
  | .rng1 a, X, W, sc, tg, e, G, h => by
    unfold chkI at h
    split at h
    · simp only [Bool.and_eq_true, decide_eq_true_eq] at h
      obtain ⟨⟨⟨h1, h2⟩, h3⟩, h4⟩ := h
      subst h1
      exact i_rng1 (G.gl h2) (G.pr.blt _ (by decide +kernel)) (sE a _ G h4).1 (star_of h3 _ _)
    · cases h
  | .rng2 a b, X, W, sc, tg, e, G, h => by
    unfold chkI at h
    split at h
    · simp only [Bool.and_eq_true, decide_eq_true_eq] at h
      obtain ⟨⟨⟨⟨⟨h1, h2⟩, h3⟩, h4⟩, h5⟩, h6⟩ := h
      subst h1
      exact i_rng2 (G.gl h2) (G.pr.blt _ (by decide +kernel)) (sE a _ G h5).1 (sE b _ G h6).1 (by rw [star_of h3, star_of h4]; rfl) (star_of h4 _ _)
    · cases h
  | .zip a b, X, W, sc, tg, e, G, h => by
    unfold chkI at h
    split at h
    · simp only [Bool.and_eq_true, decide_eq_true_eq] at h
      obtain ⟨⟨⟨⟨⟨h1, h2⟩, h3⟩, h4⟩, h5⟩, h6⟩ := h
      subst h1
      exact i_zip (G.gl h2) (G.pr.blt _ (by decide +kernel)) (sE a _ G h5).1 (sE b _ G h6).1 (star_of h3 _ _) (star_of h4 _ _)
    · cases h
  | .enm a, X, W, sc, tg, e, G, h => by
    unfold chkI at h
    split at h
    · simp only [Bool.and_eq_true, decide_eq_true_eq] at h
      obtain ⟨⟨⟨h1, h2⟩, h3⟩, h4⟩ := h
      subst h1
      exact i_enm (G.gl h2) (G.pr.blt _ (by decide +kernel)) (sE a _ G h4).1 (star_of h3 _ _)
    · cases h
  | .rev a, X, W, sc, tg, e, G, h => by
    unfold chkI at h
    split at h
    · simp only [Bool.and_eq_true, decide_eq_true_eq] at h
      obtain ⟨⟨⟨h1, h2⟩, h3⟩, h4⟩ := h
      subst h1
      exact i_rev (G.gl h2) (G.pr.blt _ (by decide +kernel)) (sE a _ G h4).1 (star_of h3 _ _)
    · cases h
end
end
end Ev

namespace Ev
open PySem PySem.Spec PyProof.Rows L2

/-! ## statements -/
inductive MS where
  | set (i : Nat) (e : ME)
  | par (i j : Nat) (a b : ME)
  | par3 (i j l : Nat) (a b c : ME)
  | tgt (t : Tg) (e : ME)
  | ret (e : ME) | retN | exp (e : ME) | brk | cnt | nop | never
  | ifs (c : ME) (a b : List MS)
  | whl (c : ME) (b : List MS)
  | fors (t : Tg) (it : MI) (b : List MS)
  | put (a i v : ME)
inductive Out where
  | nx (ls : List Sl) | rt (x : L) | bk (ls : List Sl) | ct (ls : List Sl)
def loopW (c : List Sl → LH → Res Bool) (b : List Sl → LH → Res Out) : Nat → List Sl → LH → Res Out
  | 0, _, _ => .no
  | n + 1, ls, h => (c ls h).bind fun k h => if k then (b ls h).bind fun o h => (match o with
    | .nx ls => loopW c b n ls h
    | .ct ls => loopW c b n ls h
    | .bk ls => .ok (.nx ls) h
    | .rt x => .ok (.rt x) h) else .ok (.nx ls) h
def loopF (b : List Sl → LH → Res Out) (t : Tg) : List L → List Sl → LH → Res Out
  | [], ls, h => .ok (.nx ls) h
  | x :: xs, ls, h => match asgT t x ls with
    | none => .no
    | some ls => (b ls h).bind fun o h => (match o with
      | .nx ls => loopF b t xs ls h
      | .ct ls => loopF b t xs ls h
      | .bk ls => .ok (.nx ls) h
      | .rt x => .ok (.rt x) h)
def putL (h : LH) (x y z : L) : Option LH := match x, y with
  | .obj k, .int j => (match h[k]? with
    | some (.lst xs) => (ixN xs.length j).map fun n => h.set k (.lst (xs.set n z))
    | _ => none)
  | _, _ => none
section
variable (T : Tab) (R : Nat → List L → LH → Res L) (fu : Nat)
mutual
def evS : MS → List Sl → LH → Res Out
  | .set i e, ls, h => (evE T R e ls h).bind fun x h => if i < ls.length then .ok (.nx (ls.set i (.sh x))) h else .no
  | .par i j a b, ls, h => (evEs T R [a, b] ls h).bind fun xs h => match xs with
    | [x, y] => if i < ls.length ∧ j < ls.length then .ok (.nx ((ls.set i (.sh x)).set j (.sh y))) h else .no
    | _ => .no
  | .par3 i j l a b c, ls, h => (evEs T R [a, b, c] ls h).bind fun xs h => match xs with
    | [x, y, z] => if i < ls.length ∧ j < ls.length ∧ l < ls.length then .ok (.nx (((ls.set i (.sh x)).set j (.sh y)).set l (.sh z))) h else .no
    | _ => .no
  | .tgt t e, ls, h => (evE T R e ls h).bind fun x h => match asgT t x ls with
    | some ls => .ok (.nx ls) h
    | none => .no
  | .ret e, ls, h => (evE T R e ls h).bind fun x h => .ok (.rt x) h
  | .retN, _, h => .ok (.rt .non) h
  | .exp e, ls, h => (evE T R e ls h).bind fun _ h => .ok (.nx ls) h
  | .brk, ls, h => .ok (.bk ls) h
  | .cnt, ls, h => .ok (.ct ls) h
  | .nop, ls, h => .ok (.nx ls) h
  | .never, _, _ => .no
  | .ifs c a b, ls, h => (boolR (evE T R c ls h)).bind fun k h => if k then evSs a ls h else evSs b ls h
  | .whl c b, ls, h => loopW (fun ls h => boolR (evE T R c ls h)) (evSs b) fu ls h
  | .fors t it b, ls, h => (evI T R it ls h).bind fun xs h => loopF (evSs b) t xs ls h
  | .put a i v, ls, h => (evE T R v ls h).bind fun z h => (evE T R a ls h).bind fun x h => (evE T R i ls h).bind fun y h => match putL h x y z with
    | some h => .ok (.nx ls) h
    | none => .no
def evSs : List MS → List Sl → LH → Res Out
  | [], ls, h => .ok (.nx ls) h
  | s :: ss, ls, h => (evS s ls h).bind fun o h => match o with
    | .nx ls => evSs ss ls h
    | o => .ok o h
end
end
/-! ## readings -/
structure At (K : PySem.W.Frag) (w0 : Wd) (H0 : Hp) (w : Wd) (ls : List Sl) (lh : LH) (σ : L2.St) (H : Hp) : Prop where
  ext : Ext w0 H0 w H
  rh : RelH K w lh H
  rs : RelS K w ls σ H
def PostS (K : PySem.W.Frag) (W : WX) (w0 : Wd) (H0 : Hp) (D : Ends) : Res Out → Prop
  | .ok (.nx ls) lh => ∀ w σ H, At K w0 H0 w ls lh σ H → D.nx σ H
  | .ok (.bk ls) lh => ∀ w σ H, At K w0 H0 w ls lh σ H → D.bk σ H
  | .ok (.ct ls) lh => ∀ w σ H, At K w0 H0 w ls lh σ H → D.ct σ H
  | .ok (.rt x) lh => ∀ w v H, Ext w0 H0 w H → RelH K w lh H → RelL K w x v → D.rt v H
  | .exn C x lh => ∀ w cls d σ H, Ext w0 H0 w H → RelH K w lh H → RelX K w H C x cls d → W cls d σ H
  | .no => False
def rS (K : PySem.W.Frag) (W : WX) (f : List Sl → LH → Res Out) : TS := fun D σ H => ∃ w0 H0 w ls lh, At K w0 H0 w ls lh σ H ∧ PostS K W w0 H0 D (f ls lh)
section
variable {K : PySem.W.Frag} {W : WX} {w0 w : Wd} {H0 H : Hp} {ls : List Sl} {lh : LH} {σ : L2.St} {D : Ends}
theorem At.step (a : At K w0 H0 w ls lh σ H) {w1 : Wd} {H1 : Hp} {lh1 : LH} (e : Ext w H w1 H1) (h : RelH K w1 lh1 H1) : At K w0 H0 w1 ls lh1 σ H1 := ⟨a.ext.trans e, h, a.rs.ext e⟩
theorem At.set (a : At K w0 H0 w ls lh σ H) {x : L} {v : V} (i : Nat) (r : RelL K w x v) : At K w0 H0 w (ls.set i (.sh x)) lh (σ.set i (some v)) H := ⟨a.ext, a.rh, a.rs.set i r⟩
theorem PostS.seq {γ δ : Type} {R' : Rl γ δ} {r : Res γ} {f : γ → LH → Res Out} {T : δ → Hp → Prop} (a : At K w0 H0 w ls lh σ H) (p : PostS K W w0 H0 D (r.bind f))
    (k : ∀ x lh1, r = .ok x lh1 → ∀ (w1 : Wd) (v : δ) (H1 : Hp), At K w0 H0 w1 ls lh1 σ H1 → R' w1 H1 x v → PostS K W w0 H0 D (f x lh1) → T v H1) : Post K W R' w H σ T r := by
  cases r with
  | ok x lh1 => exact fun w1 v H1 e h r => k x lh1 rfl w1 v H1 (a.step e h) r p
  | exn C x lh1 => exact fun w1 cls d H1 e h r => p w1 cls d σ H1 (a.ext.trans e) h r
  | no => exact p
theorem PostS.seqE {γ δ : Type} {R' : Rl γ δ} {r : Res γ} {f : γ → LH → Res Out} {T : δ → Hp → Prop} (a : At K w0 H0 w ls lh σ H) (p : PostS K W w0 H0 D (r.bind f))
    (k : ∀ x lh1, r = .ok x lh1 → ∀ (w1 : Wd) (v : δ) (H1 : Hp), Ext w H w1 H1 → At K w0 H0 w1 ls lh1 σ H1 → R' w1 H1 x v → PostS K W w0 H0 D (f x lh1) → T v H1) : Post K W R' w H σ T r := by
  cases r with
  | ok x lh1 => exact fun w1 v H1 e h r => k x lh1 rfl w1 v H1 e (a.step e h) r p
  | exn C x lh1 => exact fun w1 cls d H1 e h r => p w1 cls d σ H1 (a.ext.trans e) h r
  | no => exact p
/-- what is behind -/
theorem PostS.more {r : Res Out} {f : Out → LH → Res Out} {D' : Ends} (p : PostS K W w0 H0 D (r.bind f))
    (k : ∀ o lh1, r = .ok o lh1 → PostS K W w0 H0 D (f o lh1) → PostS K W w0 H0 D' (.ok o lh1)) : PostS K W w0 H0 D' r := by
  cases r with
  | ok o lh1 => exact k o lh1 rfl p
  | exn C x lh1 => exact p
  | no => exact p
/-- .. from here on -/
theorem PostS.from {r : Res Out} {f : Out → LH → Res Out} {D' : Ends} {w1 : Wd} {H1 : Hp} (e : Ext w0 H0 w1 H1) (p : PostS K W w0 H0 D (r.bind f))
    (k : ∀ o lh1, r = .ok o lh1 → PostS K W w0 H0 D (f o lh1) → PostS K W w1 H1 D' (.ok o lh1)) : PostS K W w1 H1 D' r := by
  cases r with
  | ok o lh1 => exact k o lh1 rfl p
  | exn C x lh1 => exact fun w2 cls d σ H2 e2 h r => p w2 cls d σ H2 (e.trans e2) h r
  | no => exact p
theorem At.from {w1 : Wd} {H1 : Hp} (e : Ext w0 H0 w1 H1) (a : At K w1 H1 w ls lh σ H) : At K w0 H0 w ls lh σ H := ⟨e.trans a.ext, a.rh, a.rs⟩
end
section
variable {X : Cx} {W : WX} {pos : Pos} {a b c : Expr} {fa fb fc : List Sl → LH → Res L}
theorem s_set {i : Nat} {x : Str} {p : Pos} (h : PS X (.Assign [.Name x p] a pos) (tAsg (rE X.K W fa) (gName i))) : PS X (.Assign [.Name x p] a pos) (rS X.K W fun ls h => (fa ls h).bind fun x h => if i < ls.length then .ok (.nx (ls.set i (.sh x))) h else .no) :=
  PS.imp h fun D σ H ⟨w0, H0, w, ls, lh, at0, p⟩ => rd.mk at0.rh at0.rs (PostS.seq at0 p fun x lh1 z w1 v H1 a1 r1 p1 => by
    by_cases c : i < ls.length
    · rw [if_pos c] at p1
      exact p1 _ _ _ (a1.set i r1)
    · rw [if_neg c] at p1
      exact p1.elim)
theorem s_tgt {tg : Expr} {t : Tg} (h : PS X (.Assign [tg] a pos) (tAsg (rE X.K W fa) (rG X.K t))) : PS X (.Assign [tg] a pos) (rS X.K W fun ls h => (fa ls h).bind fun x h => match asgT t x ls with
    | some ls => .ok (.nx ls) h
    | none => .no) :=
  PS.imp h fun D σ H ⟨w0, H0, w, ls, lh, at0, p⟩ => rd.mk at0.rh at0.rs (PostS.seq at0 p fun x lh1 z w1 v H1 a1 r1 p1 => by
    cases za : asgT t x ls with
    | none => rw [za] at p1; exact p1.elim
    | some ls' =>
      rw [za] at p1
      exact ⟨w1, x, lh1, ls, ls', a1.rh, a1.rs, r1, za, fun σ' hs' _ => p1 w1 σ' H1 ⟨a1.ext, a1.rh, hs'⟩⟩)
theorem s_par {i j : Nat} {tg e : Expr} {fs : List Sl → LH → Res (List L)} {ta : TA} (h : PS X (.Assign [tg] e pos) (tPar i j (rEs X.K W fs))) : PS X (.Assign [tg] e pos) (rS X.K W fun ls h => (fs ls h).bind fun xs h => match xs with
    | [x, y] => if i < ls.length ∧ j < ls.length then .ok (.nx ((ls.set i (.sh x)).set j (.sh y))) h else .no
    | _ => .no) :=
  PS.imp h fun D σ H ⟨w0, H0, w, ls, lh, at0, p⟩ => rd.mk at0.rh at0.rs (PostS.seq at0 p fun xs lh1 z w1 vs H1 a1 r1 p1 => by
    rcases xs with _ | ⟨x, _ | ⟨y, _ | ⟨q, r⟩⟩⟩
    · exact p1.elim
    · exact p1.elim
    · obtain ⟨v, u, rfl, rv, ru⟩ := rels2 r1
      by_cases c : i < ls.length ∧ j < ls.length
      · simp only [if_pos c] at p1
        exact ⟨v, u, rfl, p1 _ _ _ ((a1.set i rv).set j ru)⟩
      · simp only [if_neg c] at p1
        exact p1.elim
    · exact p1.elim)
theorem s_par3 {i j l : Nat} {tg e : Expr} {fs : List Sl → LH → Res (List L)} {ta : TA} (h : PS X (.Assign [tg] e pos) (tPar3 i j l (rEs X.K W fs))) : PS X (.Assign [tg] e pos) (rS X.K W fun ls h => (fs ls h).bind fun xs h => match xs with
    | [x, y, z] => if i < ls.length ∧ j < ls.length ∧ l < ls.length then .ok (.nx (((ls.set i (.sh x)).set j (.sh y)).set l (.sh z))) h else .no
    | _ => .no) :=
  PS.imp h fun D σ H ⟨w0, H0, w, ls, lh, at0, p⟩ => rd.mk at0.rh at0.rs (PostS.seq at0 p fun xs lh1 z w1 vs H1 a1 r1 p1 => by
    rcases xs with _ | ⟨x, _ | ⟨y, _ | ⟨z, _ | ⟨q, r⟩⟩⟩⟩
    · exact p1.elim
    · exact p1.elim
    · exact p1.elim
    · obtain ⟨v, r', rfl, rv, rr⟩ := RelLs.cons_inv r1
      obtain ⟨u, t, rfl, ru, rt⟩ := rels2 rr
      by_cases c : i < ls.length ∧ j < ls.length ∧ l < ls.length
      · simp only [if_pos c] at p1
        exact ⟨v, u, t, rfl, p1 _ _ _ (((a1.set i rv).set j ru).set l rt)⟩
      · simp only [if_neg c] at p1
        exact p1.elim
    · exact p1.elim)
theorem s_ret (ha : PE X a (rE X.K W fa)) : PS X (.Return (some a) pos) (rS X.K W fun ls h => (fa ls h).bind fun x h => .ok (.rt x) h) :=
  PS.imp (ps_ret ha) fun D σ H ⟨w0, H0, w, ls, lh, at0, p⟩ => rd.mk at0.rh at0.rs (PostS.seq at0 p fun x lh1 z w1 v H1 a1 r1 p1 => p1 w1 v H1 a1.ext a1.rh r1)
theorem s_retN : PS X (.Return none pos) (rS X.K W fun ls h => .ok (.rt .non) h) :=
  PS.imp ps_retN fun D σ H ⟨w0, H0, w, ls, lh, at0, p⟩ => p w .non H at0.ext at0.rh mk_non
theorem s_exp (ha : PE X a (rE X.K W fa)) (hs : swapsWith a none pos.line X.env = pure false) : PS X (.Expr a pos) (rS X.K W fun ls h => (fa ls h).bind fun _ h => .ok (.nx ls) h) :=
  PS.imp (ps_expr ha hs) fun D σ H ⟨w0, H0, w, ls, lh, at0, p⟩ => rd.mk at0.rh at0.rs (PostS.seq at0 p fun x lh1 z w1 v H1 a1 r1 p1 => p1 w1 σ H1 a1)
theorem s_brk : PS X (.Break pos) (rS X.K W fun ls h => .ok (.bk ls) h) := PS.imp ps_break fun D σ H ⟨w0, H0, w, ls, lh, at0, p⟩ => p w σ H at0
theorem s_cnt : PS X (.Continue pos) (rS X.K W fun ls h => .ok (.ct ls) h) := PS.imp ps_continue fun D σ H ⟨w0, H0, w, ls, lh, at0, p⟩ => p w σ H at0
theorem s_nop : PS X (.Pass pos) (rS X.K W fun ls h => .ok (.nx ls) h) := PS.imp ps_pass fun D σ H ⟨w0, H0, w, ls, lh, at0, p⟩ => p w σ H at0
theorem s_never {st : Stmt} : PS X st (rS X.K W fun _ _ => .no) := PS.imp ps_never fun D σ H ⟨w0, H0, w, ls, lh, at0, p⟩ => p
theorem ss_nil : PSs X [] (rS X.K W fun ls h => .ok (.nx ls) h) := PSs.imp pss_nil fun D σ H ⟨w0, H0, w, ls, lh, at0, p⟩ => p w σ H at0
theorem ss_cons {st : Stmt} {sts : List Stmt} {f g : List Sl → LH → Res Out} (h1 : PS X st (rS X.K W f)) (h2 : PSs X sts (rS X.K W g)) : PSs X (st :: sts) (rS X.K W fun ls h => (f ls h).bind fun o h => match o with
    | .nx ls => g ls h
    | o => .ok o h) :=
  PSs.imp (pss_cons h1 h2) fun D σ H ⟨w0, H0, w, ls, lh, at0, p⟩ => ⟨w0, H0, w, ls, lh, at0, PostS.more p fun o lh1 z p1 => by
    cases o with
    | nx ls1 => exact fun w1 σ1 H1 a1 => ⟨w0, H0, w1, ls1, lh1, a1, p1⟩
    | rt x => exact p1
    | bk ls1 => exact p1
    | ct ls1 => exact p1⟩
theorem s_if {p q : List Stmt} {f g : List Sl → LH → Res Out} (hc : PT X c (rB X.K W fc)) (hp : PSs X p (rS X.K W f)) (hq : PSs X q (rS X.K W g)) : PS X (.If c p q pos) (rS X.K W fun ls h => (boolR (fc ls h)).bind fun k h => if k then f ls h else g ls h) :=
  PS.imp (ps_if hc hp hq) fun D σ H ⟨w0, H0, w, ls, lh, at0, p⟩ => rd.mk at0.rh at0.rs (PostS.seq (R' := RB) at0 p fun k lh1 z w1 v H1 a1 r1 p1 => by
    have r1 : k = v := r1
    subst r1
    cases k with
    | true => exact ⟨w0, H0, w1, ls, lh1, a1, p1⟩
    | false => exact ⟨w0, H0, w1, ls, lh1, a1, p1⟩)
theorem s_while {body : List Stmt} {f : List Sl → LH → Res Out} {fu : Nat} (hp : PassesOwn (model X.prog X.w) X.A X.env X.xe) (hc : PT X c (rB X.K W fc)) (hb : PSs X body (rS X.K W f)) :
    PS X (.While c body [] pos) (rS X.K W fun ls h => loopW (fun ls h => boolR (fc ls h)) f fu ls h) :=
  PS.imp (ps_while hp hc hb) fun D σ H ⟨w0, H0, w, ls, lh, at0, p⟩ => by
    refine ⟨fun m σ H => ∃ w ls lh, At X.K w0 H0 w ls lh σ H ∧ PostS X.K W w0 H0 D (loopW (fun ls h => boolR (fc ls h)) f m ls lh), ⟨fu, w, ls, lh, at0, p⟩, ?_⟩
    rintro m σ H ⟨w, ls, lh, at0, p⟩
    cases m with
    | zero => exact p.elim
    | succ m =>
      unfold loopW at p
      refine rd.mk at0.rh at0.rs (PostS.seq (R' := RB) at0 p fun k lh1 z w1 v H1 a1 r1 p1 => ?_)
      have r1 : k = v := r1
      subst r1
      cases k with
      | false => exact p1 w1 σ H1 a1
      | true =>
        refine ⟨fun σ' H' => ∃ w ls lh, At X.K w0 H0 w ls lh σ' H' ∧ PostS X.K W w0 H0 D (loopW (fun ls h => boolR (fc ls h)) f m ls lh), fun σ' H' q => ⟨m, Nat.lt_succ_self m, q⟩, w0, H0, w1, ls, lh1, a1, ?_⟩
        simp only [if_true] at p1
        refine PostS.more p1 fun o lh2 z2 p2 => ?_
        cases o with
        | nx ls2 => exact fun w2 σ2 H2 a2 => ⟨w2, ls2, lh2, a2, p2⟩
        | ct ls2 => exact fun w2 σ2 H2 a2 => ⟨w2, ls2, lh2, a2, p2⟩
        | bk ls2 => exact p2
        | rt x => exact p2
theorem s_for {tg iter : Expr} {t : Tg} {fi : List Sl → LH → Res (List L)} {body : List Stmt} {f : List Sl → LH → Res Out} (hp : PassesOwn (model X.prog X.w) X.A X.env X.xe) (hc : X.calm = true) (hi : PI X tg iter (rI X.K W fi)) (hg : PG X tg (rG X.K t)) (hb : PSs X body (rS X.K W f))
    (hs : ∀ x, foldedSetIterable iter X.env x = pure x) : PS X (.For tg iter body [] pos) (rS X.K W fun ls h => (fi ls h).bind fun xs h => loopF f t xs ls h) :=
  PS.imp (ps_for hp hc hi hg hb hs) fun D σ H ⟨w0, H0, w, ls, lh, at0, p⟩ => by
    refine ⟨w, ls, lh, at0.rh, at0.rs, ?_⟩
    have p : PostS X.K W w0 H0 D ((fi ls lh).bind fun xs h => loopF f t xs ls h) := p
    cases z : fi ls lh with
    | no => rw [z] at p; exact p
    | exn C x h => rw [z] at p; exact fun w1 cls d H1 e h r => p w1 cls d σ H1 (at0.ext.trans e) h r
    | ok xs lh1 =>
      rw [z, Res.bind_ok] at p
      intro w1 H1 J e1 h1 src
      refine ⟨fun i m σ H => m = xs.length - i ∧ i ≤ xs.length ∧ ∃ w2 ls lh, Le w1 w2 ∧ At X.K w0 H0 w2 ls lh σ H ∧ PostS X.K W w0 H0 D (loopF f t (xs.drop i) ls lh), ⟨xs.length - 0, rfl, Nat.zero_le _, w1, ls, lh1, Le.refl _, at0.step e1 h1, by rw [List.drop_zero]; exact p⟩, ?_⟩
      rintro i m σ H ⟨rfl, hi, w2, ls, lh2, l2, a2, p2⟩
      have frz : Frz w1 H := fun a o q => a2.rh.sub a o (l2.fz a o q)
      by_cases hlt : i < xs.length
      · refine .inr ⟨src.goes i H hlt frz, fun σ' H' => ∃ w2 ls lh, Le w1 w2 ∧ At X.K w0 H0 w2 ls lh σ' H' ∧ PostS X.K W w0 H0 D (loopF f t (xs.drop (i + 1)) ls lh), fun σ' H' q => ⟨_, by omega, rfl, hlt, q⟩, fun v H' y => ?_⟩
        obtain ⟨w3, e3, h3, r3⟩ := src.yields i H v H' w2 lh2 xs[i] (by simp [hlt]) l2 a2.rh y
        rw [List.drop_eq_getElem_cons hlt] at p2
        unfold loopF at p2
        have a3 := a2.step e3 h3
        cases za : asgT t xs[i] ls with
        | none => rw [za] at p2; exact p2.elim
        | some ls' =>
          rw [za] at p2
          refine ⟨w3, xs[i], lh2, ls, ls', h3, a3.rs, r3, za, fun σ' hs' _ => ⟨w3, H', w3, ls', lh2, ⟨Ext.refl _ _, h3, hs'⟩, PostS.from a3.ext p2 fun o lh4 z4 p4 => ?_⟩⟩
          cases o with
          | nx ls4 => exact fun w4 σ4 H4 a4 => ⟨w4, ls4, lh4, (l2.trans e3.le).trans a4.ext.le, a4.from a3.ext, p4⟩
          | ct ls4 => exact fun w4 σ4 H4 a4 => ⟨w4, ls4, lh4, (l2.trans e3.le).trans a4.ext.le, a4.from a3.ext, p4⟩
          | bk ls4 => exact fun w4 σ4 H4 a4 => p4 w4 σ4 H4 (a4.from a3.ext)
          | rt x => exact fun w4 v4 H4 e4 h4 r4 => p4 w4 v4 H4 (a3.ext.trans e4) h4 r4
      · have e : i = xs.length := by omega
        subst e
        rw [List.drop_length] at p2
        exact .inl ⟨src.stops H frz, p2 w2 σ H a2⟩
end
end Ev

namespace Ev
open PySem PySem.Spec PyProof.Rows L2

/-! ## a[i] = v -/
theorem nd_ix {N : List Addr} (hN : N.Nodup) {i j : Nat} {x : Addr} (a : N[i]? = some x) (b : N[j]? = some x) : i = j := by
  obtain ⟨h1, e1⟩ := List.getElem?_eq_some_iff.mp a
  obtain ⟨h2, e2⟩ := List.getElem?_eq_some_iff.mp b
  exact (List.getElem_inj hN).mp (e1.trans e2.symm)
theorem RelH.put1 {K : PySem.W.Frag} {w : Wd} {lh : LH} {H : Hp} (h : RelH K w lh H) {k : Nat} {a : Addr} {o : LO} {ho : HO} (ha : w.r[k]? = some a) (r : RelO K w o ho) : RelH K w (lh.set k o) (upd H a ho) := by
  refine ⟨fun b u q => ?_, by rw [List.length_set]; exact h.len, fun j u b q1 q2 => ?_, h.nd, h.nf⟩
  · have hb : b ≠ a := fun e => by
      rw [e, h.nf a (List.mem_of_getElem? ha)] at q
      cases q
    rw [upd_ne hb]
    exact h.sub b u q
  · by_cases e : k = j
    · subst e
      rw [ha] at q2
      cases q2
      rw [List.getElem?_set, if_pos rfl] at q1
      split at q1
      · cases q1
        exact ⟨ho, upd_same .., r⟩
      · cases q1
    · rw [List.getElem?_set_ne e] at q1
      obtain ⟨x, e1, e2⟩ := h.obj j u b q1 q2
      have hb : b ≠ a := fun z => by
        subst z
        exact e (nd_ix h.nd ha q2)
      exact ⟨x, by rw [upd_ne hb]; exact e1, e2⟩
theorem At.put1 {K : PySem.W.Frag} {w0 w : Wd} {H0 H : Hp} {ls : List Sl} {lh : LH} {σ : L2.St} (t : At K w0 H0 w ls lh σ H) {k : Nat} {a : Addr} {o : LO} {ho ho' : HO} (ha : w.r[k]? = some a) (hH : H a = some ho') (r : RelO K w o ho) : At K w0 H0 w ls (lh.set k o) σ (upd H a ho) := by
  have hm : a ∈ w.r := List.mem_of_getElem? ha
  refine ⟨⟨t.ext.fz, t.ext.rr, fun b u q n => ?_, fun b u q => ?_, t.ext.nf⟩, t.rh.put1 ha r, ⟨t.rs.len, t.rs.sh, fun i u q => ?_, t.rs.dj⟩⟩
  · have hb : b ≠ a := fun e => t.ext.notin q n (by rw [e]; exact hm)
    rw [upd_ne hb]
    exact t.ext.kp b u q n
  · by_cases e : b = a
    · subst e
      exact ⟨ho, upd_same ..⟩
    · rw [upd_ne e]
      exact t.ext.al b u q
  · obtain ⟨b, x, e1, e2, e3, e4, e5⟩ := t.rs.ow i u q
    have hb : b ≠ a := fun e => e5 (by rw [e]; exact hm)
    exact ⟨b, x, e1, by rw [upd_ne hb]; exact e2, e3, e4, e5⟩
section
variable {X : Cx} {W : WX} {pos p2 : Pos} {a b c : Expr} {fa fb fc : List Sl → LH → Res L}
theorem asg_sub {a b : Expr} (h : pixB b = true) (env : Env) (v : Value) : assign (.Subscript a b pos) env v = (do
      let ov ← holding [v] (eval a env)
      let iv ← holding [v, ov] (eval b env)
      standAt pos
      holding [v, ov, iv] (setItem ov iv v)
      release [v, ov, iv] []) := by
  cases b <;> first | rfl | exact absurd h Bool.false_ne_true
theorem s_put (hx : pixB b = true) (ha : PE X a (rE X.K W fa)) (hb : PE X b (rE X.K W fb)) (hc : PE X c (rE X.K W fc)) (hs : swapsWithSole [.Subscript a b p2] c pos.line X.env = pure false) (hw : swappedStores [.Subscript a b p2] c X.env = pure none) :
    PS X (.Assign [.Subscript a b p2] c pos) (rS X.K W fun ls h => (fc ls h).bind fun z h => (fa ls h).bind fun x h => (fb ls h).bind fun y h => match putL h x y z with
    | some h => .ok (.nx ls) h
    | none => .no) :=
  PS.imp (ps_asg hc (pg_sub ha hb set_list (asg_sub hx _)) hs hw) fun D σ H ⟨w0, H0, w, ls, lh, at0, p⟩ => rd.mk at0.rh at0.rs (PostS.seq at0 p fun z lh1 z1 w1 u H1 a1 r1 p1 =>
    rd.mk a1.rh a1.rs (PostS.seqE a1 p1 fun x lh2 z2 w2 v H2 e2 a2 r2 p2 => rd.mk a2.rh a2.rs (PostS.seqE a2 p2 fun y lh3 z3 w3 t H3 e3 a3 r3 p3 => by
      replace r1 : RelL X.K w3 z u := (RelL.mono e2.le r1).mono e3.le
      replace r2 : RelL X.K w3 x v := RelL.mono e3.le r2
      cases q : putL lh3 x y z with
      | none => rw [q] at p3; exact p3.elim
      | some lh4 =>
        rw [q] at p3
        unfold putL at q
        split at q
        · rename_i k j
          split at q
          · rename_i xs hk
            cases hj : ixN xs.length j with
            | none => rw [hj] at q; cases q
            | some n =>
              rw [hj] at q
              cases q
              obtain ⟨ad, vs, rfl, hr, hH, rs⟩ := rel_objL a3.rh r2 hk
              refine ⟨ad, vs, j, n, rfl, rel_int r3, hH, by rw [← rs.length]; exact hj, ?_⟩
              exact p3 w3 σ _ (a3.put1 hr hH ⟨_, rfl, rs.set n r1⟩)
          · cases q
        · cases q)))
end
/-! ## stores -/
theorem block_fn {env : Env} (hk : env.scope.kind = .function) : env.blockKind = .function := by unfold Env.blockKind; rw [hk]; rfl
/-- is the comprehension's value stored by the comprehension itself? -/
def swB (sc : Scope) (v : Expr) (x : Str) (p : Pos) : Bool := match v with
  | .ListComp _ _ s pos => decide (sc.names.lookup x = some .local) && p.line == pos.line && !(s.names.any fun (n, k) => n == x && (k == .local || k == .cell))
  | _ => false
def nosdB : Expr → Bool
  | .SetComp _ _ _ _ => false
  | .DictComp _ _ _ _ _ => false
  | _ => true
def nocompB : Expr → Bool
  | .ListComp _ _ _ _ => false
  | .SetComp _ _ _ _ => false
  | .DictComp _ _ _ _ _ => false
  | _ => true
theorem sw_name {env : Env} (hk : env.scope.kind = .function) {v : Expr} {x : Str} {p : Pos} {l : Nat} (hv : nosdB v = true) (h : swB env.scope v x p = false) : swapsWith v (some (.Name x p)) l env = pure false := by
  cases v <;> first | rfl | exact absurd hv Bool.false_ne_true | skip
  rename_i elt gs s pos
  unfold swapsWith
  have hb := block_fn hk
  have h : (decide (env.scope.names.lookup x = some .local) && p.line == pos.line && !(s.names.any fun (n, k) => n == x && (k == .local || k == .cell))) = false := h
  have e : (env.kindOf x == some NameKind.local) = decide (env.scope.names.lookup x = some .local) := by
    show (env.scope.names.lookup x == some NameKind.local) = _
    cases env.scope.names.lookup x with
    | none => rfl
    | some k => cases k <;> rfl
  simp only [hb, Expr.pos, e]
  show (pure (true && decide (env.scope.names.lookup x = some .local) && p.line == pos.line && !(s.names.any fun (n, k) => n == x && (k == .local || k == .cell))) : Sem Bool) = pure false
  rw [Bool.true_and, h]
theorem sw_none {env : Env} {v : Expr} {l : Nat} (hv : nocompB v = true) : swapsWith v none l env = pure false := by
  cases v <;> first | rfl | exact absurd hv Bool.false_ne_true
theorem sw_plain {env : Env} {v t : Expr} {l : Nat} (hv : nocompB v = true) : swapsWith v (some t) l env = pure false := by
  cases v <;> first | rfl | exact absurd hv Bool.false_ne_true
theorem sw_tup {env : Env} {v : Expr} {es : List Expr} {k : Nat} {p : Pos} {l : Nat} : swapsWith v (some (.Tuple es k p)) l env = pure false := by
  cases v <;> rfl
theorem sole_tup {env : Env} {v : Expr} {es : List Expr} {k : Nat} {p : Pos} {l : Nat} : swapsWithSole [.Tuple es k p] v l env = pure false := sw_tup (env := env) (v := v) (es := es) (k := k) (p := p) (l := l)
theorem sole_plain {env : Env} {v t : Expr} {l : Nat} (hv : nocompB v = true) : swapsWithSole [t] v l env = pure false := sw_plain (env := env) (v := v) (t := t) (l := l) hv
/-- a value that is stored part by part, in the sequence of the targets -/
def plainV : Expr → Bool
  | .Tuple vs _ _ => vs.all (foldedForSure 8)
  | _ => true
theorem stores_none {env : Env} {ts : List Expr} {k : Nat} {p : Pos} {v : Expr} (h : plainV v = true) : swappedStores [.Tuple ts k p] v env = pure none := by
  cases v <;> try rfl
  rename_i vs k2 p2
  unfold swappedStores
  have h : vs.all (foldedForSure 8) = true := h
  simp only [h, if_true]
  repeat' (first | rfl | split)
theorem stores_name {env : Env} {x : Str} {p : Pos} {v : Expr} : swappedStores [.Name x p] v env = pure none := by cases v <;> rfl
theorem stores_sub {env : Env} {a b : Expr} {p : Pos} {v : Expr} : swappedStores [.Subscript a b p] v env = pure none := by cases v <;> rfl
theorem nost_is {a : Expr} : nostB a = true → (match a with | .Starred _ _ => true | _ => false) = false := by
  intro h
  cases a <;> first | rfl | exact absurd h Bool.false_ne_true
theorem stores_two {env : Env} (hk : env.scope.kind = .function) {x y : Str} {px py pt pt2 : Pos} {kt k2 : Nat} {a b : Expr} (hx : env.scope.names.lookup x = some .local) (hy : env.scope.names.lookup y = some .local) (hl : py.line = px.line) (hxy : x ≠ y)
    (ha : nostB a = true) (hb : nostB b = true) (hf : [a, b].all (foldedForSure 8) = false) (hc : [a, b].all (constantsAlone 8) = false) :
    swappedStores [.Tuple [.Name x px, .Name y py] kt pt] (.Tuple [a, b] k2 pt2) env = pure (some [x, y]) := by
  have hb' := block_fn hk
  have e1 : env.kindOf x = some NameKind.local := hx
  have e2 : env.kindOf y = some NameKind.local := hy
  have hd : [x, y].eraseDups.length = 2 := by
    have : (y == x) = false := by simpa using fun e => hxy e.symm
    simp [List.eraseDups, List.eraseDupsBy, List.eraseDupsBy.loop, this]
  unfold swappedStores
  simp [hb', e1, e2, hl, hd, hf, hc, Expr.pos, List.filterMap_cons]
  intro h
  exfalso
  rcases h with h | h
  · cases a <;> first | exact absurd h Bool.false_ne_true | exact absurd ha Bool.false_ne_true
  · cases b <;> first | exact absurd h Bool.false_ne_true | exact absurd hb Bool.false_ne_true
theorem stores_three {env : Env} (hk : env.scope.kind = .function) {x y z : Str} {px py pz pt pt2 : Pos} {kt k2 : Nat} {a b c : Expr} (hx : env.scope.names.lookup x = some .local) (hy : env.scope.names.lookup y = some .local) (hz : env.scope.names.lookup z = some .local) (hl : py.line = px.line) (hl2 : pz.line = px.line)
    (hxy : x ≠ y) (hxz : x ≠ z) (hyz : y ≠ z) (ha : nostB a = true) (hb : nostB b = true) (hcc : nostB c = true) (hf : [a, b, c].all (foldedForSure 8) = false) (hc : [a, b, c].all (constantsAlone 8) = false) :
    swappedStores [.Tuple [.Name x px, .Name y py, .Name z pz] kt pt] (.Tuple [a, b, c] k2 pt2) env = pure (some [x, y, z]) := by
  have hb' := block_fn hk
  have e1 : env.kindOf x = some NameKind.local := hx
  have e2 : env.kindOf y = some NameKind.local := hy
  have e3 : env.kindOf z = some NameKind.local := hz
  have hd : [x, y, z].eraseDups.length = 3 := by
    have q1 : (y == x) = false := by simpa using fun e => hxy e.symm
    have q2 : (z == x) = false := by simpa using fun e => hxz e.symm
    have q3 : (z == y) = false := by simpa using fun e => hyz e.symm
    simp [List.eraseDups, List.eraseDupsBy, List.eraseDupsBy.loop, q1, q2, q3]
  unfold swappedStores
  simp [hb', e1, e2, e3, hl, hl2, hd, hf, hc, Expr.pos, List.filterMap_cons]
  intro h
  exfalso
  rcases h with h | h | h
  · cases a <;> first | exact absurd h Bool.false_ne_true | exact absurd ha Bool.false_ne_true
  · cases b <;> first | exact absurd h Bool.false_ne_true | exact absurd hb Bool.false_ne_true
  · cases c <;> first | exact absurd h Bool.false_ne_true | exact absurd hcc Bool.false_ne_true
end Ev

namespace Ev
open PySem PySem.Spec PyProof.Rows L2

/-! ## the look at statements -/
def isLoc (sc : Scope) (x : Str) : Bool := decide (sc.names.lookup x = some .local)
mutual
def chkS (N : List Str) (T : Tab) (sc : Scope) : MS → Stmt → Bool
  | .set i e, st => (match st with
    | .Assign [.Name x p] v _ => decide (N[i]? = some x) && locB sc sc x && nosdB v && chkE N T sc e v
    | _ => false)
  | .par i j a b, st => (match st with
    | .Assign [.Tuple [.Name x px, .Name y py] _ _] (.Tuple [v, u] _ _) _ => decide (N[i]? = some x) && decide (N[j]? = some y) && isLoc sc x && isLoc sc y && decide (py.line = px.line) && decide (x ≠ y) && !([v, u].all (foldedForSure 8)) && !([v, u].all (constantsAlone 8)) && nostB v && nostB u && chkE N T sc a v && chkE N T sc b u
    | _ => false)
  | .par3 i j l a b c, st => (match st with
    | .Assign [.Tuple [.Name x px, .Name y py, .Name z pz] _ _] (.Tuple [v, u, t] _ _) _ => decide (N[i]? = some x) && decide (N[j]? = some y) && decide (N[l]? = some z) && isLoc sc x && isLoc sc y && isLoc sc z && decide (py.line = px.line) && decide (pz.line = px.line) && decide (x ≠ y) && decide (x ≠ z) && decide (y ≠ z) && !([v, u, t].all (foldedForSure 8)) && !([v, u, t].all (constantsAlone 8)) && nostB v && nostB u && nostB t && chkE N T sc a v && chkE N T sc b u && chkE N T sc c t
    | _ => false)
  | .tgt t e, st => (match st with
    | .Assign [.Tuple ts k p] v _ => plainV v && chkT N sc sc t (.Tuple ts k p) && chkE N T sc e v
    | _ => false)
  | .ret e, st => (match st with
    | .Return (some v) _ => chkE N T sc e v
    | _ => false)
  | .retN, st => (match st with
    | .Return none _ => true
    | _ => false)
  | .exp e, st => (match st with
    | .Expr v _ => nocompB v && chkE N T sc e v
    | _ => false)
  | .brk, st => (match st with
    | .Break _ => true
    | _ => false)
  | .cnt, st => (match st with
    | .Continue _ => true
    | _ => false)
  | .nop, st => (match st with
    | .Pass _ => true
    | _ => false)
  | .never, _ => true
  | .ifs c a b, st => (match st with
    | .If v p q _ => chkE N T sc c v && chkSs N T sc a p && chkSs N T sc b q
    | _ => false)
  | .whl c b, st => (match st with
    | .While v p [] _ => chkE N T sc c v && chkSs N T sc b p
    | _ => false)
  | .fors t it b, st => (match st with
    | .For tg iter p [] _ => chkI N T sc it tg iter && nosetB iter && chkT N sc sc t tg && chkSs N T sc b p
    | _ => false)
  | .put a i v, st => (match st with
    | .Assign [.Subscript x y _] z _ => pixB y && nocompB z && chkE N T sc a x && chkE N T sc i y && chkE N T sc v z
    | _ => false)
def chkSs (N : List Str) (T : Tab) (sc : Scope) : List MS → List Stmt → Bool
  | [], sts => (match sts with
    | [] => true
    | _ => false)
  | m :: ms, sts => (match sts with
    | st :: sts => chkS N T sc m st && chkSs N T sc ms sts
    | _ => false)
end
structure GdS (X : Cx) (W : WX) (k : Nat) (T : Tab) (R : Nat → List L → LH → Res L) (N : List Str) (sc0 : Scope) : Prop extends Gd X W k T R N sc0 where
  kind : sc0.kind = .function
  fn : ∀ x, X.fn x = true
  po : PassesOwn (model X.prog X.w) X.A X.env X.xe
section
variable {T : Tab} {R : Nat → List L → LH → Res L} {k fu : Nat} {N : List Str}
theorem chk_comp {sc : Scope} {e : ME} {elt : Expr} {gs : List Comprehension} {s : Scope} {p : Pos} (h : chkE N T sc e (.ListComp elt gs s p) = true) : ∃ f : MF, (e = .fr f ∨ e = .hp f) ∧ chkF N T sc f (.ListComp elt gs s p) = true := by
  cases e with
  | fr f => exact ⟨f, .inl rfl, h⟩
  | hp f => exact ⟨f, .inr rfl, h⟩
  | _ => exact absurd h Bool.false_ne_true
theorem chkF_comp {sc : Scope} {f : MF} {elt : Expr} {gs : List Comprehension} {s : Scope} {p : Pos} (h : chkF N T sc f (.ListComp elt gs s p) = true) : ∃ em t it cs tg iter ifs, f = .comp em t it cs ∧ gs = [⟨tg, iter, ifs, 0⟩] := by
  cases f with
  | comp em t it cs =>
    unfold chkF at h
    split at h
    · rename_i e
      cases e
      exact ⟨em, t, it, cs, _, _, _, rfl, rfl⟩
    · cases h
  | _ => exact absurd h Bool.false_ne_true
theorem i_fr {K : PySem.W.Frag} {W : WX} {f : List Sl → LH → Res LO} {σ : L2.St} {H : Hp} {Q : VK} (h : rE K W (fun ls h => (f ls h).bind fun o h => .ok (frzL o) h) σ H Q) : rF K W f σ H Q := by
  obtain ⟨w, ls, lh, hh, hs, p⟩ := h
  refine rd.mk hh hs ?_
  have p : Post K W (RL K) w H σ Q ((f ls lh).bind fun o h => .ok (frzL o) h) := p
  cases z : f ls lh with
  | no => rw [z] at p; exact p
  | exn C x h => rw [z] at p; exact p
  | ok o lh1 =>
    rw [z] at p
    intro w1 v H1 e1 h1 ⟨a, ho, ev, e2, r, n, m, n0⟩
    subst ev
    exact p _ _ H1 (ext_froze e1 ho n n0) (h1.froze e2 n m) (rel_frz n r)
theorem i_hp {K : PySem.W.Frag} {W : WX} {f : List Sl → LH → Res LO} {σ : L2.St} {H : Hp} {Q : VK} (h : rE K W (fun ls h => (f ls h).bind fun o h => .ok (.obj h.length) (h ++ [o])) σ H Q) : rF K W f σ H Q := by
  obtain ⟨w, ls, lh, hh, hs, p⟩ := h
  refine rd.mk hh hs ?_
  have p : Post K W (RL K) w H σ Q ((f ls lh).bind fun o h => .ok (.obj h.length) (h ++ [o])) := p
  cases z : f ls lh with
  | no => rw [z] at p; exact p
  | exn C x h => rw [z] at p; exact p
  | ok o lh1 =>
    rw [z] at p
    intro w1 v H1 e1 h1 ⟨a, ho, ev, e2, r, n, m, n0⟩
    subst ev
    obtain ⟨q1, q2, q3⟩ := e1.rr
    refine p (w1.add a) _ H1 ⟨e1.fz, ⟨q1 ++ [a], by show w1.r ++ [a] = _; rw [q2, List.append_assoc], fun b hb => ?_⟩, e1.kp, e1.al, e1.nf⟩ (h1.add e2 r n m) ?_
    · rcases List.mem_append.mp hb with hb | hb
      · exact q3 b hb
      · rw [List.mem_singleton.mp hb]
        exact n0
    · show RelL K _ (.obj lh1.length) _
      simp only [RelL]
      refine ⟨a, rfl, ?_⟩
      show (w1.r ++ [a])[lh1.length]? = some a
      rw [← h1.len]
      simp
theorem loc_of {X : Cx} {W : WX} {sc : Scope} (G : Gd X W k T R N sc) {x : Str} (h : locB sc sc x = true) : Loc X.env.scope x := by
  rw [G.sc]
  unfold locB at h
  simp only [Bool.or_eq_true, Bool.and_eq_true, decide_eq_true_eq] at h
  rcases h with h | h
  · exact .inl h
  · exact .inr h.1
/-- name = value -/
theorem s_name {X : Cx} {W : WX} {sc : Scope} (G : GdS X W k T R N sc) {i : Nat} {x : Str} {p pos : Pos} {v : Expr} {e : ME} (h1 : N[i]? = some x) (h2 : locB sc sc x = true) (h3 : nosdB v = true) (h4 : chkE N T sc e v = true) :
    PS X (.Assign [.Name x p] v pos) (tAsg (rE X.K W (evE T R e)) (gName i)) := by
  have hk : X.env.scope.kind = .function := by rw [G.sc]; exact G.kind
  have nd : X.N.Nodup := by rw [G.nN]; exact G.nod
  have hi : X.N[i]? = some x := by rw [G.nN]; exact h1
  by_cases hb : swB X.env.scope v x p = true
  · cases v with
    | ListComp elt gs s lp =>
      obtain ⟨f, hf, hc⟩ := chk_comp h4
      obtain ⟨em, t, it, cs, tg, iter, ifs, rfl, rfl⟩ := chkF_comp hc
      have hb : (decide (X.env.scope.names.lookup x = some .local) && p.line == lp.line && !(s.names.any fun (n, k) => n == x && (k == .local || k == .cell))) = true := hb
      simp only [Bool.and_eq_true, decide_eq_true_eq, Bool.not_eq_true'] at hb
      obtain ⟨⟨b1, b2⟩, b3⟩ := hb
      have hc' := hc
      unfold chkF at hc
      simp only [Bool.and_eq_true, decide_eq_true_eq] at hc
      obtain ⟨⟨⟨⟨⟨⟨c1, c2⟩, c3⟩, c4⟩, c5⟩, c6⟩, c7⟩ := hc
      have key := ps_setLc (spos := pos) (py := p) (pos := lp) (own := ownOf N t) (elt := elt) (te := rE X.K WF (evE T R em)) (tt := rBs X.K WF (evC T R cs)) (g := rG X.K t) G.calm nd hi b1 (sw_true hk b1 b2 b3) (sI it tg iter G.toGd (W := W) c1) (by rw [G.nN, G.sc]; exact blkOk_by c3)
        (fun s' H C cl fp => sTs (G.toGd.blk s' H s C cl fp) (fun x hx => by show (s.names.lookup x == some .cell) = true; rw [hx]; rfl) t tg c4) (fun s' H C cl fp => sC cs ifs (G.toGd.blk s' H s C cl fp) c5 c6)
        (fun s' H C cl fp => (sE em elt (G.toGd.blk s' H s C cl fp) c7).1) (fun x => fold_of c2 _ x)
      have ho : (ownOf N t).map (·.2) = slotsT t := by unfold ownOf; rw [List.map_map]; exact List.map_id' _
      rw [ho] at key
      rcases hf with rfl | rfl
      · exact PS.imp key fun D σ H h => i_comp (i_fr h)
      · exact PS.imp key fun D σ H h => i_comp (i_hp h)
    | _ => exact absurd hb Bool.false_ne_true
  · exact ps_set nd hi (loc_of G.toGd h2) (sE e v G.toGd h4).1 (sw_name hk h3 (by simpa using hb)) (.inl (G.fn x))
mutual
theorem sS : ∀ (m : MS) {X : Cx} {W : WX} {sc : Scope} (st : Stmt), GdS X W k T R N sc → chkS N T sc m st = true → PS X st (rS X.K W (evS T R fu m))
  | .set i e, X, W, sc, st, G, h => by
    unfold chkS at h
    split at h
    · simp only [Bool.and_eq_true, decide_eq_true_eq] at h
      obtain ⟨⟨⟨h1, h2⟩, h3⟩, h4⟩ := h
      exact s_set (s_name G h1 h2 h3 h4)
    · cases h
  | .par i j a b, X, W, sc, st, G, h => by
    unfold chkS at h
    split at h
    · simp only [Bool.and_eq_true, decide_eq_true_eq, Bool.not_eq_true', isLoc] at h
      obtain ⟨⟨⟨⟨⟨⟨⟨⟨⟨⟨⟨h1, h2⟩, h3⟩, h4⟩, h5⟩, h6⟩, h7⟩, h8⟩, h9⟩, h10⟩, h11⟩, h12⟩ := h
      have hk : X.env.scope.kind = .function := by rw [G.sc]; exact G.kind
      have nd : X.N.Nodup := by rw [G.nN]; exact G.nod
      have q : PA X [_, _] (rEs X.K W (evEs T R [a, b])) := a_cons (sE a _ G.toGd h11).1 (a_cons (sE b _ G.toGd h12).1 a_nil (star_of h10 _ _)) (star_of h9 _ _)
      exact s_par (ta := tNil) (ps_par G.calm nd (by rw [G.nN]; exact h1) (by rw [G.nN]; exact h2) (fun e => by subst e; rw [h1] at h2; exact h6 (Option.some.inj h2)) (by rw [G.sc]; exact h3) (by rw [G.sc]; exact h4) q
        (stores_two hk (by rw [G.sc]; exact h3) (by rw [G.sc]; exact h4) h5 h6 h9 h10 h7 h8) sole_tup)
    · cases h
  | .par3 i j l a b c, X, W, sc, st, G, h => by
    unfold chkS at h
    split at h
    · simp only [Bool.and_eq_true, decide_eq_true_eq, Bool.not_eq_true', isLoc] at h
      obtain ⟨⟨⟨⟨⟨⟨⟨⟨⟨⟨⟨⟨⟨⟨⟨⟨⟨⟨h1, h2⟩, h3⟩, h4⟩, h5⟩, h6⟩, h7⟩, h8⟩, h9⟩, h10⟩, h11⟩, h12⟩, h13⟩, h14⟩, h15⟩, h16⟩, h17⟩, h18⟩, h19⟩ := h
      have hk : X.env.scope.kind = .function := by rw [G.sc]; exact G.kind
      have nd : X.N.Nodup := by rw [G.nN]; exact G.nod
      have q : PA X [_, _, _] (rEs X.K W (evEs T R [a, b, c])) := a_cons (sE a _ G.toGd h17).1 (a_cons (sE b _ G.toGd h18).1 (a_cons (sE c _ G.toGd h19).1 a_nil (star_of h16 _ _)) (star_of h15 _ _)) (star_of h14 _ _)
      exact s_par3 (ta := tNil) (ps_par3 G.calm nd (by rw [G.nN]; exact h1) (by rw [G.nN]; exact h2) (by rw [G.nN]; exact h3) (fun e => by subst e; rw [h1] at h2; exact h9 (Option.some.inj h2)) (fun e => by subst e; rw [h1] at h3; exact h10 (Option.some.inj h3)) (fun e => by subst e; rw [h2] at h3; exact h11 (Option.some.inj h3)) (by rw [G.sc]; exact h4) (by rw [G.sc]; exact h5) (by rw [G.sc]; exact h6) q
        (stores_three hk (by rw [G.sc]; exact h4) (by rw [G.sc]; exact h5) (by rw [G.sc]; exact h6) h7 h8 h9 h10 h11 h14 h15 h16 h12 h13) sole_tup)
    · cases h
  | .tgt t e, X, W, sc, st, G, h => by
    unfold chkS at h
    split at h
    · simp only [Bool.and_eq_true] at h
      obtain ⟨⟨h1, h2⟩, h3⟩ := h
      exact s_tgt (ps_asg (sE e _ G.toGd h3).1 (sTs G.toGd (fun x _ => G.fn x) t _ h2) sole_tup (stores_none h1))
    · cases h
  | .ret e, X, W, sc, st, G, h => by
    unfold chkS at h
    split at h
    · exact s_ret (sE e _ G.toGd h).1
    · cases h
  | .retN, X, W, sc, st, G, h => by
    unfold chkS at h
    split at h
    · exact s_retN
    · cases h
  | .exp e, X, W, sc, st, G, h => by
    unfold chkS at h
    split at h
    · simp only [Bool.and_eq_true] at h
      exact s_exp (sE e _ G.toGd h.2).1 (sw_none h.1)
    · cases h
  | .brk, X, W, sc, st, G, h => by
    unfold chkS at h
    split at h
    · exact s_brk
    · cases h
  | .cnt, X, W, sc, st, G, h => by
    unfold chkS at h
    split at h
    · exact s_cnt
    · cases h
  | .nop, X, W, sc, st, G, h => by
    unfold chkS at h
    split at h
    · exact s_nop
    · cases h
  | .never, X, W, sc, st, G, h => s_never
  | .ifs c a b, X, W, sc, st, G, h => by
    unfold chkS at h
    split at h
    · simp only [Bool.and_eq_true] at h
      obtain ⟨⟨h1, h2⟩, h3⟩ := h
      exact s_if (sE c _ G.toGd h1).2 (sSs a _ G h2) (sSs b _ G h3)
    · cases h
  | .whl c b, X, W, sc, st, G, h => by
    unfold chkS at h
    split at h
    · simp only [Bool.and_eq_true] at h
      exact s_while G.po (sE c _ G.toGd h.1).2 (sSs b _ G h.2)
    · cases h
  | .fors t it b, X, W, sc, st, G, h => by
    unfold chkS at h
    split at h
    · simp only [Bool.and_eq_true] at h
      obtain ⟨⟨⟨h1, h2⟩, h3⟩, h4⟩ := h
      exact s_for G.po G.calm (sI it _ _ G.toGd h1) (sTs G.toGd (fun x _ => G.fn x) t _ h3) (sSs b _ G h4) (fun x => fold_of h2 _ x)
    · cases h
  | .put a i v, X, W, sc, st, G, h => by
    unfold chkS at h
    split at h
    · simp only [Bool.and_eq_true] at h
      obtain ⟨⟨⟨⟨h1, h2⟩, h3⟩, h4⟩, h5⟩ := h
      exact s_put h1 (sE a _ G.toGd h3).1 (sE i _ G.toGd h4).1 (sE v _ G.toGd h5).1 (sole_plain h2) stores_sub
    · cases h
theorem sSs : ∀ (ms : List MS) {X : Cx} {W : WX} {sc : Scope} (sts : List Stmt), GdS X W k T R N sc → chkSs N T sc ms sts = true → PSs X sts (rS X.K W (evSs T R fu ms))
  | [], X, W, sc, sts, G, h => by
    unfold chkSs at h
    split at h
    · exact ss_nil
    · cases h
  | m :: ms, X, W, sc, sts, G, h => by
    unfold chkSs at h
    split at h
    · simp only [Bool.and_eq_true] at h
      exact ss_cons (sS m _ G h.1) (sSs ms _ G h.2)
    · cases h
end
end
end Ev

namespace Ev
open PySem PySem.Spec PyProof.Rows L2

/-! ## the program: its defs, by the depth of calls -/
structure DefE where
  fe : FnE
  N : List Str
  body : List MS
def startL (N : List Str) (xs : List L) : List Sl := xs.map Sl.sh ++ List.replicate (N.length - xs.length) Sl.no
def fin : Res Out → Res L
  | .ok (.nx _) h => .ok .non h
  | .ok (.rt x) h => .ok x h
  | .exn C x h => .exn C x h
  | _ => .no
/-- f called with the values xs, at most d calls deep -/
def runD (T : Tab) (fu : Nat) (Ds : List DefE) : Nat → Nat → List L → LH → Res L
  | 0, _, _, _ => .no
  | d + 1, f, xs, h => match Ds[f]? with
    | none => .no
    | some de => if xs.length = de.fe.ps.length then fin (evSs T (runD T fu Ds d) fu de.body (startL de.N xs) h) else .no
/-- a def of the text -/
structure DefOk (K : PySem.W.Frag) (mg : Str → Option Value) (T : Tab) (de : DefE) : Prop where
  ex : ∃ (fa : Addr) (fd : FuncData) (x qual : Str) (params : Arguments) (body : List Stmt) (scope : Scope) (dvs : List V) (kws : List (Str × V)), mg de.fe.name = some (.ref fa) ∧
    FunD K x qual params body scope dvs kws fa fd ∧ FnScope de.N de.fe.ps scope ∧ chkSs de.N T scope de.body body = true ∧
    ∀ n ∈ de.fe.ar, n ≤ de.fe.ps.length ∧ ∃ dvs ds, (∀ w, RelLs K w (de.fe.dfl.drop (de.fe.dfl.length - (de.fe.ps.length - n))) dvs) ∧ n + dvs.length = de.fe.ps.length ∧ Vals dvs ds ∧ Binds K fd de.fe.ps ds
structure AllOk (K : PySem.W.Frag) (mg : Str → Option Value) (T : Tab) (Ds : List DefE) : Prop where
  fns : T.fns = Ds.map (·.fe)
  con : ∀ (j : Nat) (x : Str) (l : L), T.con[j]? = some (x, l) → ∃ u v, mg x = some u ∧ RelV v u ∧ ∀ w, RelL K w l v
  blt : ∀ x ∈ bltNames, mg x = none
  def_ : ∀ (f : Nat) (de : DefE), Ds[f]? = some de → DefOk K mg T de
section
variable {P : Program} {w : World} {K : PySem.W.Frag} {mg : Str → Option Value} {base : Heap} {T : Tab} {Ds : List DefE} {fu : Nat}
theorem rels_start {w : Wd} {xs : List L} {vs : List V} {N : List Str} {H : Hp} (r : RelLs K w xs vs) : RelS K w (startL N xs) (L2.start N vs) H := by
  have hl := r.length
  have get : ∀ (i : Nat) (o : LO), (startL N xs)[i]? ≠ some (.ow o) := fun i o e => by
    unfold startL at e
    rcases List.mem_append.mp (List.mem_of_getElem? e) with h | h
    · obtain ⟨y, _, z⟩ := List.mem_map.mp h
      cases z
    · cases (List.mem_replicate.mp h).2
  refine ⟨by simp [startL, L2.start, hl], fun i x e => ?_, fun i o e => absurd e (get i o), fun i j o o' a e => absurd e (get i o)⟩
  unfold startL at e
  by_cases hi : i < xs.length
  · rw [List.getElem?_append_left (by simpa using hi), List.getElem?_map] at e
    cases z : xs[i]? with
    | none => rw [z] at e; cases e
    | some y =>
      rw [z] at e
      cases e
      obtain ⟨v, e1, r1⟩ := r.get z
      refine ⟨v, ?_, r1⟩
      unfold L2.start
      rw [List.getElem?_append_left (by rw [List.length_map, ← hl]; exact hi), List.getElem?_map, e1]
      rfl
  · rw [List.getElem?_append_right (by simpa using hi)] at e
    cases (List.mem_replicate.mp (List.mem_of_getElem? e)).2
theorem fnG_zero {f : Addr} {fd : FuncData} {ps : List Str} {i : Nat} : FnG P w K mg base 0 f fd ps (spR K ps.length (runD T fu Ds 0 i)) :=
  ⟨fun vs H Q E h => h.1, fun A outer s H args us vs Q E _ _ _ _ _ ⟨_, _, _, _, _, _, p⟩ => p.elim⟩
/-- THE STEP: a def one call deeper -/
theorem fnG_step {d i : Nat} {de : DefE} {f : Addr} {fd : FuncData} {x qual : Str} {params : Arguments} {body : List Stmt} {scope : Scope} {dvs : List V} {kws : List (Str × V)} (hi : Ds[i]? = some de) (F : FunD K x qual params body scope dvs kws f fd) (S : FnScope de.N de.fe.ps scope)
    (hc : chkSs de.N T scope de.body body = true) (pr : Prg P w K mg base d T (runD T fu Ds d)) : FnG P w K mg base (d + 1) f fd de.fe.ps (spR K de.fe.ps.length (runD T fu Ds (d + 1) i)) := by
  refine ⟨fun vs H Q E h => h.1, fun A outer s H args us vs Q E hg hr e0 hb rv hsp => ?_⟩
  obtain ⟨oc, od, dV, kV, doc, pm, an, cdv, ct, osl, rfl, lk, hcd, _, _⟩ := F.ex
  obtain ⟨hl, w0, xs, lh, hh, rs, p⟩ := hsp
  refine LamX.run_ofS (N := de.N) lk hcd S hr e0 hb rv hl fun hroom => ?_
  have G : GdS (cxOf (L2.CX P w) P w K mg base de.N qual scope f cdv A outer s H E) (fun cls d _ H => E cls d H) d T (runD T fu Ds d) de.N scope :=
    { calm := rfl, gd := hg, rm := hroom, nN := rfl, nod := S.nd, sc := rfl, tk := takes_of rfl rfl rfl rfl, pr := pr, kind := S.kind, fn := fun _ => rfl, po := passes_of rfl }
  refine ⟨_, sSs (fu := fu) de.body body G hc, w0, H, w0, startL de.N xs, lh, ⟨Ext.refl _ _, hh, rels_start rs⟩, ?_⟩
  have p : Post K (fun cls d _ H => E cls d H) (RL K) w0 H [] Q (runD T fu Ds (d + 1) i xs lh) := p
  unfold runD at p
  rw [hi] at p
  by_cases c : xs.length = de.fe.ps.length
  · simp only [if_pos c] at p
    show PostS K (fun cls d _ H => E cls d H) w0 H { nx := fun _ H' => Q .non H', rt := Q } (evSs T (runD T fu Ds d) fu de.body (startL de.N xs) lh)
    cases z : evSs T (runD T fu Ds d) fu de.body (startL de.N xs) lh with
    | no => rw [z] at p; exact p
    | exn C x h => rw [z] at p; exact fun w1 cls d σ H1 e h r => p w1 cls d H1 e h r
    | ok o h =>
      rw [z] at p
      cases o with
      | nx ls => exact fun w1 σ H1 a => p w1 .non H1 a.ext a.rh mk_non
      | rt x => exact fun w1 v H1 e h r => p w1 v H1 e h r
      | bk ls => exact p.elim
      | ct ls => exact p.elim
  · simp only [if_neg c] at p
    exact p.elim
theorem prg_all (O : AllOk K mg T Ds) (nd : base.NoDigits) : ∀ d, Prg P w K mg base d T (runD T fu Ds d) := by
  have at_ : ∀ (f : Nat) (fe : FnE), T.fns[f]? = some fe → ∃ de, Ds[f]? = some de ∧ fe = de.fe := fun f fe h => by
    rw [O.fns, List.getElem?_map] at h
    cases z : Ds[f]? with
    | none => rw [z] at h; cases h
    | some de => rw [z] at h; cases h; exact ⟨de, rfl, rfl⟩
  intro d
  induction d with
  | zero =>
    refine ⟨O.con, O.blt, nd, fun f fe h => ?_⟩
    obtain ⟨de, h1, rfl⟩ := at_ f fe h
    obtain ⟨fa, fd, x, qual, params, body, scope, dvs, kws, hm, F, S, hc, hb⟩ := (O.def_ f de h1).ex
    exact ⟨fa, fd, hm, F.kp, hb, fnG_zero⟩
  | succ d ih =>
    refine ⟨O.con, O.blt, nd, fun f fe h => ?_⟩
    obtain ⟨de, h1, rfl⟩ := at_ f fe h
    obtain ⟨fa, fd, x, qual, params, body, scope, dvs, kws, hm, F, S, hc, hb⟩ := (O.def_ f de h1).ex
    exact ⟨fa, fd, hm, F.kp, hb, fnG_step h1 F S hc ih⟩
end
/-! ## the law's end -/
/-- what the law's def yields at a script -/
def Yields (T : Tab) (fu : Nat) (Ds : List DefE) (d f : Nat) (ns : List Int) : Prop := ∃ h, runD T fu Ds d f [.scr (ns.map .int)] [] = .ok (.bl true) h
theorem law_G {P : Program} {w : World} {K : PySem.W.Frag} {mg mb : Str → Option Value} {T : Tab} {fu : Nat} {Ds : List DefE} {d f : Nat} {de : DefE} {fa a : Addr} {x : Str} {s₁ : Shared} {vs : List Value} {ns : List Int}
    (KX : K.In s₁.heap) (hns : s₁.heap.Ns mainGlobals mg) (hb : s₁.heap.Ns builtinsNs mb) (hbb : ∀ x : Str, x ≠ "__name__" → mb x = bootBuiltins x) (hlim : s₁.heap.NoLimit) (hnd : s₁.heap.NoDigits) (hg : s₁.gens = #[])
    (ha : s₁.heap.get? a = some { cls := .type "list", data := .seq vs.toArray }) (hi : IntsAre vs ns) (hl : ns.length ≤ sizeLine) (hr : Room d callerA)
    (O : AllOk K mg T Ds) (hf : Ds[f]? = some de) (hps : de.fe.ps = [x]) (hm : mg de.fe.name = some (.ref fa)) (har : 1 ∈ de.fe.ar)
    (hy : ∃ h, runD T fu Ds d f [.scr (ns.map .int)] [] = .ok (.bl true) h) :
    codeAny (model P w) callerA (.call (.ref fa) ⟨[.ref a], []⟩) (fun r s' => r = .ok (.ret (.bool true)) ∧ OldK s₁.heap s'.heap ∧ s'.os = s₁.os ∧ AllBare s'.gens) s₁ := by
  have rv := vals_ints hi
  have lenV := hi.length
  have core : ∀ H : Hp, Only H → SqL K H a (ns.map V.int) → HOk P w H s₁.heap → (∀ b, H b ≠ none → b = a) → (H a ≠ none → K.lookup a = none) →
      codeAny (model P w) callerA (.call (.ref fa) ⟨[.ref a], []⟩) (fun r s' => r = .ok (.ret (.bool true)) ∧ OldK s₁.heap s'.heap ∧ s'.os = s₁.os ∧ AllBare s'.gens) s₁ := by
    intro H hO hS hok hA hK
    have isA : ∀ {b : Addr} {u : HO}, H b = some u → b = a := fun {b u} q => hA b (by rw [q]; simp)
    have nsK : ∀ {b : Addr} {m : Str → Option Value}, s₁.heap.Ns b m → (hidT s₁.heap H).Ns b m := fun {b m} ⟨o, es, ep, e, dd, r⟩ => by
      refine ⟨o, es, ep, hidT_get e ?_, dd, r⟩
      cases q : H b with
      | none => rfl
      | some u =>
        obtain rfl := isA q
        rw [ha] at e
        cases e
        exact absurd (show Data.seq vs.toArray _ = Data.dict es ep from dd) (fun z => nomatch z)
    have hKb : K.In (hidT s₁.heap H) := fun b o e => hidT_get (KX b o e) (by
      cases q : H b with
      | none => rfl
      | some u =>
        obtain rfl := isA q
        rw [hK (by rw [q]; simp)] at e
        cases e)
    have hM : Mod K mg (hidT s₁.heap H) := ⟨hKb, nsK hns, ⟨mb, nsK hb, hbb⟩, let ⟨mc, h1, h2⟩ := hlim; ⟨mc, nsK h1, h2⟩⟩
    have hD : (hidT s₁.heap H).NoDigits := let ⟨mc, h1, h2⟩ := hnd; ⟨mc, nsK h1, h2⟩
    have e0 : Env0 P w K mg (hidT s₁.heap H) callerA [] s₁ H := ⟨rfl, hM, fun b o e => of_hidT e, Nat.le_of_eq (hidT_size _ _), trivial, fun b hb => absurd (show b ∈ ([] : List Addr) from hb) (by simp), hok, .of_eq hg⟩
    obtain ⟨fb, fdb, hmb, _, hbd, F⟩ := ((prg_all (P := P) (w := w) (fu := fu) O hD d).fn f de.fe (by rw [O.fns, List.getElem?_map, hf]; rfl)).ex
    rw [hm] at hmb
    cases hmb
    obtain ⟨lh, hy⟩ := hy
    -- the world at the beginning: the heap as it stands, frozen
    have hsp : spR K de.fe.ps.length (runD T fu Ds d f) [.ref a] H (fun v _ => v = .bl true) fun _ _ _ => False := by
      refine ⟨by rw [hps]; rfl, ⟨H, []⟩, [.scr (ns.map .int)], [], ⟨fun _ _ q => q, rfl, fun k o a e => by simp at e, .nil, fun a ha => absurd ha (by simp)⟩, RelLs.cons ?_ .nil, ?_⟩
      · simp only [RelL]
        exact ⟨a, _, rfl, hS, RelLs.of_ints ns⟩
      · rw [hy]
        exact fun w' v H' _ _ r => rel_bl r
    obtain ⟨_, dvs, ds, _, hlen, hvd, hbind⟩ := hbd 1 har
    have hdv : dvs = [] := by
      rw [hps] at hlen
      have : dvs.length = 0 := by simpa using hlen
      exact List.length_eq_zero_iff.mp this
    subst hdv
    cases hvd
    have hb1 : BindsTo s₁ fdb ⟨[.ref a], []⟩ (de.fe.ps.zip [.ref a]) := by
      have q := hbind s₁ [.ref a] KX (by rw [hps]; rfl)
      rwa [List.append_nil] at q
    refine codeAny_mono (F.run callerA [] s₁ H ⟨[.ref a], []⟩ [.ref a] [.ref a] _ _ rfl hr e0 hb1 (.cons rfl .nil) hsp) fun r s' h => ?_
    match r, h with
    | .error e, h =>
      obtain ⟨_, _, _, _, _, _, _, _, _, _, _, _, hE⟩ := h
      exact hE.elim
    | .ok .next, h => exact False.elim h
    | .ok .brk, h => exact False.elim h
    | .ok .cont, h => exact False.elim h
    | .ok (.ret u), h =>
      obtain ⟨v, H', os, bare, un, hok', r', q⟩ := h
      have q' : v = .bl true := q
      subst q'
      obtain rfl : u = Value.bool true := r'
      refine ⟨rfl, OldK.of_keep fun b o e => ?_, os, bare⟩
      cases q : H b with
      | none => exact un.keep b o e q (fun z => absurd (show b ∈ ([] : List Addr) from z) (by simp)) (by simp)
      | some u =>
        rcases hO b with z | ⟨ob, xs, z⟩
        · rw [q] at z; cases z
        · have y1 := (hok b _ z).1
          have y2 := (hok' b _ (un.frzs b ob _ z)).1
          rw [e] at y1
          cases y1
          exact y2
  by_cases hk : K.lookup a = none
  · refine core (fun b => if b = a then some (.frz { cls := .type "list", data := .seq vs.toArray } (.lst (ns.map V.int))) else none) (fun b => ?_) (.inl (.inr ⟨{ cls := .type "list", data := .seq vs.toArray }, if_pos rfl⟩)) (fun b u z => ?_) (fun b z => ?_) fun _ => hk
    · by_cases hb : b = a
      · exact .inr ⟨_, _, if_pos hb⟩
      · exact .inl (if_neg hb)
    · by_cases hb : b = a
      · have z' := (if_pos hb).symm.trans z
        cases z'
        subst hb
        exact ⟨ha, by rw [List.length_map]; exact hl, vs, _, rv, ha⟩
      · have z' := (if_neg hb).symm.trans z
        cases z'
    · exact Classical.byContradiction fun hb => z (if_neg hb)
  · obtain ⟨o, hko⟩ := Option.ne_none_iff_exists'.mp hk
    have e := KX a o hko
    rw [ha] at e
    cases e
    exact core (fun _ => none) (fun _ => .inl rfl) (.inr ⟨_, vs.toArray, _, hko, rfl, rfl, rfl, by rw [List.size_toArray, lenV]; exact hl, by simpa using rv⟩) (fun b u z => nomatch (show (none : Option HO) = some u from z)) (fun b z => absurd rfl z) fun z => absurd rfl z
/-- a law, from what the evaluator yields -/
theorem walk_E {l : PySem.W.OpenLaw} {n k : Nat} {q : Program} {loose : List Str} {XP : (Str → Option Value) → Heap → Prop} {YP : World → Heap → Prop} {d : DefRec} {T : Tab} {fu : Nat} {Ds : List DefE} {f : Nat} {de : DefE} {x : Str}
    (hn : l.most = some n) (hn2 : n ≤ sizeLine) (hdf : d.params.defaults = []) (hr : Room k callerA) (hf : Ds[f]? = some de) (hps : de.fe.ps = [x]) (har : 1 ∈ de.fe.ar) (hnm : de.fe.name = d.name)
    (F : ∀ (w : World) (mg : Str → Option Value) (fa : Addr) (h : Heap), YP w h → h.Ns mainGlobals mg → mg d.name = some (.ref fa) → ∃ K : PySem.W.Frag, K.In h ∧ AllOk K mg T Ds)
    (hy : ∀ ns : List Int, ns.length ≤ n → (∀ z ∈ ns, Builtin.Int.intBits z ≤ 1048576) → ∃ h, runD T fu Ds k f [.scr (ns.map .int)] [] = .ok (.bl true) h) :
    PySem.W.WalkO q loose XP YP l.row.toRowW d [] (fun f vs => PySem.call f vs) := by
  refine Att.attach_callB hn hdf fun w s₀ s₁ mg mb fa o pm cd doc a vs ns G Y ho hd hcd hmg hobj hints hlen hbits hg => ?_
  obtain ⟨K, KX, O⟩ := F w mg fa _ Y G.T.g hmg
  exact law_G KX G.T.g G.T.b G.T.builtins G.T.nolimit G.T.nodigits hg hobj hints (Nat.le_trans hlen hn2) hr O hf hps (by rw [hnm]; exact hmg) har (hy ns hlen hbits)
end Ev

namespace Ev
open PySem PySem.Spec PyProof.Rows L2

/-! ## what a law's own part uses -/
section
variable {T : Tab} {fu : Nat} {Ds : List DefE}
theorem runD_at {d f : Nat} {de : DefE} {xs : List L} {h : LH} (hi : Ds[f]? = some de) (hl : xs.length = de.fe.ps.length) : runD T fu Ds (d + 1) f xs h = fin (evSs T (runD T fu Ds d) fu de.body (startL de.N xs) h) := by
  show (match Ds[f]? with | none => (Res.no : Res L) | some de => if xs.length = de.fe.ps.length then fin (evSs T (runD T fu Ds d) fu de.body (startL de.N xs) h) else (Res.no : Res L)) = _
  rw [hi]
  simp only [hl, if_true]
/-- a call -/
theorem call_at {R : Nat → List L → LH → Res L} {f : Nat} {fe : FnE} {es : List ME} {ls : List Sl} {h h' : LH} {xs : List L} (hf : T.fns[f]? = some fe) (he : evEs T R es ls h = .ok xs h') :
    evE T R (.call f es) ls h = R f (xs ++ fe.dfl.drop (fe.dfl.length - (fe.ps.length - xs.length))) h' := by
  show ((evEs T R es ls h).bind fun xs h => match T.fns[f]? with
      | some fe => R f (xs ++ fe.dfl.drop (fe.dfl.length - (fe.ps.length - xs.length))) h
      | none => .no) = _
  rw [he, hf]
  rfl
end
@[simp] theorem fin_rt (x : L) (h : LH) : fin (.ok (.rt x) h) = .ok x h := rfl
@[simp] theorem fin_nx (ls : List Sl) (h : LH) : fin (.ok (.nx ls) h) = .ok .non h := rfl
@[simp] theorem calm_ok {α : Type} (x : α) (h : LH) : (Res.ok x h).calm = .ok x h := rfl
@[simp] theorem boolR_ok (b : Bool) (h : LH) : boolR (.ok (.bl b) h) = .ok b h := rfl
@[simp] theorem slotV_0 (x : L) (ls : List Sl) : slotV (.sh x :: ls) 0 = some x := rfl
@[simp] theorem slotV_s (s : Sl) (ls : List Sl) (i : Nat) : slotV (s :: ls) (i + 1) = slotV ls i := rfl
/-! loops -/
theorem loopF_run {b : List Sl → LH → Res Out} {t : Tg} {xs : List L} (I : Nat → List Sl → LH → Prop)
    (step : ∀ i x ls h, xs[i]? = some x → I i ls h → ∃ ls1 ls2 h2, asgT t x ls = some ls1 ∧ b ls1 h = .ok (.nx ls2) h2 ∧ I (i + 1) ls2 h2) :
    ∀ (n i : Nat) (ls : List Sl) (h : LH), i + n = xs.length → I i ls h → ∃ ls' h', loopF b t (xs.drop i) ls h = .ok (.nx ls') h' ∧ I xs.length ls' h'
  | 0, i, ls, h, e, hI => by
    have e : i = xs.length := by omega
    subst e
    exact ⟨ls, h, by rw [List.drop_length]; rfl, hI⟩
  | n + 1, i, ls, h, e, hI => by
    have hi : i < xs.length := by omega
    obtain ⟨ls1, ls2, h2, a1, a2, a3⟩ := step i xs[i] ls h (by simp [hi]) hI
    obtain ⟨ls', h', b1, b2⟩ := loopF_run I step n (i + 1) ls2 h2 (by omega) a3
    refine ⟨ls', h', ?_, b2⟩
    rw [List.drop_eq_getElem_cons hi]
    unfold loopF
    rw [a1]
    show (b ls1 h).bind _ = _
    rw [a2]
    exact b1
/-- a comprehension that leaves the objects as they are -/
theorem turns_map {f : List Sl → LH → Res L} {cs : List Sl → LH → Res Bool} {t : Tg} {ls : List Sl} {h : LH} (g : L → L) :
    ∀ (xs acc : List L), (∀ x ∈ xs, ∃ ls', asgT t x ls = some ls' ∧ cs ls' h = .ok true h ∧ f ls' h = .ok (g x) h) → acc.length + xs.length ≤ 10000000 → turns f cs t ls xs acc h = .ok (.lst (acc ++ xs.map g)) h
  | [], acc, _, _ => by simp [turns]
  | x :: xs, acc, hx, hl => by
    obtain ⟨ls', a1, a2, a3⟩ := hx x (by simp)
    unfold turns
    rw [a1]
    show (cs ls' h).bind _ = _
    rw [a2, Res.bind_ok, if_pos rfl, a3, Res.bind_ok]
    have hl : acc.length + (xs.length + 1) ≤ 10000000 := by simpa using hl
    rw [if_pos (by omega), turns_map g xs (acc ++ [g x]) (fun y hy => hx y (by simp [hy])) (by simp; omega)]
    simp
/-- .. with a condition -/
theorem turns_filter {f : List Sl → LH → Res L} {cs : List Sl → LH → Res Bool} {t : Tg} {ls : List Sl} {h : LH} (g : L → L) (p : L → Bool) :
    ∀ (xs acc : List L), (∀ x ∈ xs, ∃ ls', asgT t x ls = some ls' ∧ cs ls' h = .ok (p x) h ∧ (p x = true → f ls' h = .ok (g x) h)) → acc.length + xs.length ≤ 10000000 → turns f cs t ls xs acc h = .ok (.lst (acc ++ (xs.filter p).map g)) h
  | [], acc, _, _ => by simp [turns]
  | x :: xs, acc, hx, hl => by
    obtain ⟨ls', a1, a2, a3⟩ := hx x (by simp)
    have hl : acc.length + (xs.length + 1) ≤ 10000000 := by simpa using hl
    unfold turns
    rw [a1]
    show (cs ls' h).bind _ = _
    rw [a2, Res.bind_ok]
    cases hp : p x with
    | false =>
      rw [if_neg Bool.false_ne_true, turns_filter g p xs acc (fun y hy => hx y (by simp [hy])) (by omega)]
      simp [List.filter_cons, hp]
    | true =>
      rw [if_pos rfl, a3 hp, Res.bind_ok, if_pos (by omega), turns_filter g p xs (acc ++ [g x]) (fun y hy => hx y (by simp [hy])) (by simp; omega)]
      simp [List.filter_cons, hp]
/-- .. whose turns all yield True, whatever the objects do -/
theorem turns_true {f : List Sl → LH → Res L} {cs : List Sl → LH → Res Bool} {t : Tg} {ls : List Sl} (y : L) (I : LH → Prop) :
    ∀ (xs acc : List L) (h : LH), I h → (∀ x ∈ xs, ∀ h, I h → ∃ ls' h', asgT t x ls = some ls' ∧ cs ls' h = .ok true h ∧ f ls' h = .ok y h' ∧ I h') → acc.length + xs.length ≤ 10000000 → ∃ h', turns f cs t ls xs acc h = .ok (.lst (acc ++ List.replicate xs.length y)) h' ∧ I h'
  | [], acc, h, hI, _, _ => ⟨h, by simp [turns], hI⟩
  | x :: xs, acc, h, hI, hx, hl => by
    obtain ⟨ls', h1, a1, a2, a3, a4⟩ := hx x (by simp) h hI
    have hl : acc.length + (xs.length + 1) ≤ 10000000 := by simpa using hl
    obtain ⟨h', b1, b2⟩ := turns_true y I xs (acc ++ [y]) h1 a4 (fun y hy => hx y (by simp [hy])) (by simp; omega)
    refine ⟨h', ?_, b2⟩
    unfold turns
    rw [a1]
    show (cs ls' h).bind _ = _
    rw [a2, Res.bind_ok, if_pos rfl, a3, Res.bind_ok, if_pos (by omega), b1]
    simp [List.replicate_succ]
@[simp] theorem evIs_0 (v : Int) : evIs (.int v) "int" = some (.bl true) := congrArg (Option.map L.bl) (show kitB "int" "int" = some _ by decide +kernel)
@[simp] theorem evIs_1 (v : Int) : evIs (.int v) "bool" = some (.bl false) := congrArg (Option.map L.bl) (show kitB "int" "bool" = some _ by decide +kernel)
@[simp] theorem evIs_2 (v : Int) : evIs (.int v) "str" = some (.bl false) := congrArg (Option.map L.bl) (show kitB "int" "str" = some _ by decide +kernel)
@[simp] theorem evIs_3 (v : Int) : evIs (.int v) "tuple" = some (.bl false) := congrArg (Option.map L.bl) (show kitB "int" "tuple" = some _ by decide +kernel)
@[simp] theorem evIs_4 (v : Int) : evIs (.int v) "list" = some (.bl false) := congrArg (Option.map L.bl) (show kitB "int" "list" = some _ by decide +kernel)
@[simp] theorem evIs_5 (v : Bool) : evIs (.bl v) "int" = some (.bl true) := congrArg (Option.map L.bl) (show kitB "bool" "int" = some _ by decide +kernel)
@[simp] theorem evIs_6 (v : Bool) : evIs (.bl v) "bool" = some (.bl true) := congrArg (Option.map L.bl) (show kitB "bool" "bool" = some _ by decide +kernel)
@[simp] theorem evIs_7 (v : Bool) : evIs (.bl v) "str" = some (.bl false) := congrArg (Option.map L.bl) (show kitB "bool" "str" = some _ by decide +kernel)
@[simp] theorem evIs_8 (v : Bool) : evIs (.bl v) "tuple" = some (.bl false) := congrArg (Option.map L.bl) (show kitB "bool" "tuple" = some _ by decide +kernel)
@[simp] theorem evIs_9 (v : Bool) : evIs (.bl v) "list" = some (.bl false) := congrArg (Option.map L.bl) (show kitB "bool" "list" = some _ by decide +kernel)
@[simp] theorem evIs_10 (v : Str) : evIs (.str v) "int" = some (.bl false) := congrArg (Option.map L.bl) (show kitB "str" "int" = some _ by decide +kernel)
@[simp] theorem evIs_11 (v : Str) : evIs (.str v) "bool" = some (.bl false) := congrArg (Option.map L.bl) (show kitB "str" "bool" = some _ by decide +kernel)
@[simp] theorem evIs_12 (v : Str) : evIs (.str v) "str" = some (.bl true) := congrArg (Option.map L.bl) (show kitB "str" "str" = some _ by decide +kernel)
@[simp] theorem evIs_13 (v : Str) : evIs (.str v) "tuple" = some (.bl false) := congrArg (Option.map L.bl) (show kitB "str" "tuple" = some _ by decide +kernel)
@[simp] theorem evIs_14 (v : Str) : evIs (.str v) "list" = some (.bl false) := congrArg (Option.map L.bl) (show kitB "str" "list" = some _ by decide +kernel)
@[simp] theorem evIs_15 (v : List L) : evIs (.tup v) "int" = some (.bl false) := congrArg (Option.map L.bl) (show kitB "tuple" "int" = some _ by decide +kernel)
@[simp] theorem evIs_16 (v : List L) : evIs (.tup v) "bool" = some (.bl false) := congrArg (Option.map L.bl) (show kitB "tuple" "bool" = some _ by decide +kernel)
@[simp] theorem evIs_17 (v : List L) : evIs (.tup v) "str" = some (.bl false) := congrArg (Option.map L.bl) (show kitB "tuple" "str" = some _ by decide +kernel)
@[simp] theorem evIs_18 (v : List L) : evIs (.tup v) "tuple" = some (.bl true) := congrArg (Option.map L.bl) (show kitB "tuple" "tuple" = some _ by decide +kernel)
@[simp] theorem evIs_19 (v : List L) : evIs (.tup v) "list" = some (.bl false) := congrArg (Option.map L.bl) (show kitB "tuple" "list" = some _ by decide +kernel)
@[simp] theorem evIs_20 (v : List L) : evIs (.lst v) "int" = some (.bl false) := congrArg (Option.map L.bl) (show kitB "list" "int" = some _ by decide +kernel)
@[simp] theorem evIs_21 (v : List L) : evIs (.lst v) "bool" = some (.bl false) := congrArg (Option.map L.bl) (show kitB "list" "bool" = some _ by decide +kernel)
@[simp] theorem evIs_22 (v : List L) : evIs (.lst v) "str" = some (.bl false) := congrArg (Option.map L.bl) (show kitB "list" "str" = some _ by decide +kernel)
@[simp] theorem evIs_23 (v : List L) : evIs (.lst v) "tuple" = some (.bl false) := congrArg (Option.map L.bl) (show kitB "list" "tuple" = some _ by decide +kernel)
@[simp] theorem evIs_24 (v : List L) : evIs (.lst v) "list" = some (.bl true) := congrArg (Option.map L.bl) (show kitB "list" "list" = some _ by decide +kernel)
@[simp] theorem evIs_25  : evIs (.non) "int" = some (.bl false) := congrArg (Option.map L.bl) (show kitB "NoneType" "int" = some _ by decide +kernel)
@[simp] theorem evIs_26  : evIs (.non) "bool" = some (.bl false) := congrArg (Option.map L.bl) (show kitB "NoneType" "bool" = some _ by decide +kernel)
@[simp] theorem evIs_27  : evIs (.non) "str" = some (.bl false) := congrArg (Option.map L.bl) (show kitB "NoneType" "str" = some _ by decide +kernel)
@[simp] theorem evIs_28  : evIs (.non) "tuple" = some (.bl false) := congrArg (Option.map L.bl) (show kitB "NoneType" "tuple" = some _ by decide +kernel)
@[simp] theorem evIs_29  : evIs (.non) "list" = some (.bl false) := congrArg (Option.map L.bl) (show kitB "NoneType" "list" = some _ by decide +kernel)
/-! equality of data -/
theorem toDs_ints : ∀ ns : List Int, toDs (ns.map L.int) = some (ns.map PyData.int)
  | [] => rfl
  | n :: ns => by simp [toDs, toD, toDs_ints ns]
theorem canAll_ints : ∀ ns : List Int, PyData.canLayAll0 (ns.map PyData.int) = true
  | [] => by simp [PyData.canLayAll0]
  | n :: ns => by simp [PyData.canLayAll0, PyData.canLay0, canAll_ints ns]
theorem eqvAll_ints : ∀ ns ms : List Int, PyData.eqvAll (ns.map PyData.int) (ms.map PyData.int) = decide (ns = ms)
  | [], [] => by simp [PyData.eqvAll]
  | [], _ :: _ => by simp [PyData.eqvAll]
  | _ :: _, [] => by simp [PyData.eqvAll]
  | n :: ns, m :: ms => by
    simp only [List.map_cons, PyData.eqvAll, PyData.eqv, eqvAll_ints ns ms]
    by_cases h1 : n = m <;> by_cases h2 : ns = ms <;> simp [h1, h2]
theorem depth_ints : ∀ ns : List Int, PyData.depthAll (ns.map PyData.int) = 0
  | [] => by simp [PyData.depthAll]
  | n :: ns => by simp [PyData.depthAll, PyData.depth, depth_ints ns]
@[simp] theorem eqL_int (a b : Int) : eqL (.int a) (.int b) = some (decide (a = b)) := by
  have e : PyData.eqv (.int a) (.int b) = decide (a = b) := by
    simp only [PyData.eqv]
    by_cases h : a = b <;> simp [h]
  simp [eqL, toD, SeqAt.shaped, PyData.canLay0, PyData.depth, e]
theorem shaped_tup (ns : List Int) : SeqAt.shaped (.tuple (ns.map PyData.int)) = true := by
  simp [SeqAt.shaped, PyData.canLay0, PyData.depth, canAll_ints, depth_ints]
theorem shaped_lst (ns : List Int) : SeqAt.shaped (.list (ns.map PyData.int)) = true := by
  simp [SeqAt.shaped, PyData.canLay0, PyData.depth, canAll_ints, depth_ints]
theorem eqL_tups (ns ms : List Int) : eqL (.tup (ns.map L.int)) (.tup (ms.map L.int)) = some (decide (ns = ms)) := by
  simp only [eqL, toD, toDs_ints, Option.map_some, shaped_tup, Bool.and_self, if_true, PyData.eqv, eqvAll_ints]
theorem eqL_lsts (ns ms : List Int) : eqL (.lst (ns.map L.int)) (.lst (ms.map L.int)) = some (decide (ns = ms)) := by
  simp only [eqL, toD, toDs_ints, Option.map_some, shaped_lst, Bool.and_self, if_true, PyData.eqv, eqvAll_ints]
@[simp] theorem eqL_pair (a b c d : Int) : eqL (.tup [.int a, .int b]) (.tup [.int c, .int d]) = some (decide (a = c ∧ b = d)) := by
  have e := eqL_tups [a, b] [c, d]
  simp only [List.map_cons, List.map_nil] at e
  rw [e]
  simp
/-! repr of pairs -/
theorem strOk_of (s : String) : PyData.strOk (Str.ofString s) = true := by
  unfold PyData.strOk
  rw [Str.ofString_eq_toList]
  simp only [List.all_toArray, List.all_map, List.all_eq_true, Function.comp, decide_eq_true_eq]
  intro c hc
  have := c.valid
  have h2 : c.toNat < 0x110000 := by
    rcases this with h | ⟨_, h⟩
    · exact Nat.lt_trans h (by decide)
    · exact h
  exact h2
theorem eqL_str (x : Str) (h : PyData.strOk x = true) : eqL (.str x) (.str x) = some true := by
  have e := SeqAt.eqv_refl (.str x) (by simpa [PyData.canLay0] using h)
  simp [eqL, toD, SeqAt.shaped, PyData.canLay0, PyData.depth, h, e]
theorem strOk_app {x y : Str} (h1 : PyData.strOk x = true) (h2 : PyData.strOk y = true) : PyData.strOk (x ++ y) = true := by
  unfold PyData.strOk at *
  show (x.cps ++ y.cps).all _ = true
  rw [Array.all_append, h1, h2]
  rfl
theorem shown_two (a b : Int) : PyData.shown (.tuple [.int a, .int b]) = Str.ofString "(" ++ (Str.ofString (toString a) ++ Str.ofString ", " ++ Str.ofString (toString b)) ++ Str.ofString ")" := by
  simp only [PyData.shown, PyData.shownAll, tupleText]
  rfl
theorem str_len_app (x y : Str) : (x ++ y).length = x.length + y.length := by
  show (x.cps ++ y.cps).size = _
  rw [Array.size_append]
  rfl
theorem shown_two_ok {a b : Int} (ha : a.natAbs < 10 ^ 4000) (hb : b.natAbs < 10 ^ 4000) : PyData.strOk (PyData.shown (.tuple [.int a, .int b])) = true ∧ (PyData.shown (.tuple [.int a, .int b])).length ≤ 1000000 := by
  rw [shown_two]
  refine ⟨strOk_app (strOk_app (strOk_of _) (strOk_app (strOk_app (strOk_of _) (strOk_of _)) (strOk_of _))) (strOk_of _), ?_⟩
  have h1 := int_text_length_le10 (k := 4000) (by decide) ha
  have h2 := int_text_length_le10 (k := 4000) (by decide) hb
  clear ha hb
  simp only [str_len_app, PySem.ofString_length]
  have e1 : "(".length = 1 := rfl
  have e2 : ", ".length = 2 := rfl
  have e3 : ")".length = 1 := rfl
  omega
/-- the text of a pair of ints -/
def pairText (a b : Int) : Str := PyData.shown (.tuple [.int a, .int b])
theorem repr_pair {a b : Int} {h : LH} (ha : a.natAbs < 10 ^ 4000) (hb : b.natAbs < 10 ^ 4000) : evBlt .repr h [.tup [.int a, .int b]] = some (.str (pairText a b)) := by
  obtain ⟨_, h2⟩ := shown_two_ok ha hb
  have big : (10 : Nat) ^ 4000 ≤ 10 ^ 4300 := Nat.pow_le_pow_right (by decide) (by decide)
  have s1 : showB (.tuple [.int a, .int b]) = true := by
    simp only [showB, showBs, Bool.and_true, Bool.and_eq_true, decide_eq_true_eq]
    exact ⟨Nat.lt_of_lt_of_le ha big, Nat.lt_of_lt_of_le hb big⟩
  have d1 : (PyData.tuple [.int a, .int b]).depth ≤ 64 := by simp [PyData.depth, PyData.depthAll]
  show (match toD (.tup [.int a, .int b]) with
    | some d => if showB d && decide (d.depth ≤ 64) && decide (d.shown.length ≤ 1000000) then some (L.str d.shown) else none
    | none => none) = _
  have e : toD (.tup [.int a, .int b]) = some (.tuple [.int a, .int b]) := rfl
  rw [e]
  simp only [s1, d1, h2, decide_true, Bool.and_self, if_true]
  rfl
theorem eqL_pairText {a b : Int} (ha : a.natAbs < 10 ^ 4000) (hb : b.natAbs < 10 ^ 4000) : eqL (.str (pairText a b)) (.str (pairText a b)) = some true := eqL_str _ (shown_two_ok ha hb).1
end Ev

namespace Hd
open PySem PySem.Spec PyProof.Rows L2
def top (i : Nat) : Stmt := PySem.Challenge.pw_sunstrings_k35_whole_loss_and_fair_lengt.main.body.getD i (.Pass ⟨0, 0, 0, 0⟩)
def fn0 : List He.DefD := [⟨("is_integer", none), "is_integer", "is_integer", defArgs (top 5), defBody (top 5), defScope (top 5), [.non, .non], []⟩, ⟨("is_tuple", none), "is_tuple", "is_tuple", defArgs (top 6), defBody (top 6), defScope (top 6), [.non], []⟩, ⟨("common", none), "common", "common", defArgs (top 8), defBody (top 8), defScope (top 8), [], []⟩, ⟨("ratio", none), "ratio", "ratio", defArgs (top 9), defBody (top 9), defScope (top 9), [], []⟩, ⟨("is_ratio", none), "is_ratio", "is_ratio", defArgs (top 10), defBody (top 10), defScope (top 10), [], []⟩, ⟨("is_share", none), "is_share", "is_share", defArgs (top 11), defBody (top 11), defScope (top 11), [], []⟩, ⟨("plus", none), "plus", "plus", defArgs (top 12), defBody (top 12), defScope (top 12), [], []⟩, ⟨("check_many", none), "check_many", "check_many", defArgs (top 15), defBody (top 15), defScope (top 15), [], []⟩, ⟨("sum_between", none), "sum_between", "sum_between", defArgs (top 16), defBody (top 16), defScope (top 16), [], []⟩, ⟨("loss", none), "loss", "loss", defArgs (top 17), defBody (top 17), defScope (top 17), [], []⟩, ⟨("check_fair", none), "check_fair", "check_fair", defArgs (top 18), defBody (top 18), defScope (top 18), [], []⟩, ⟨("fair", none), "fair", "fair", defArgs (top 19), defBody (top 19), defScope (top 19), [], []⟩, ⟨("shows_fair", none), "shows_fair", "shows_fair", defArgs (top 20), defBody (top 20), defScope (top 20), [], []⟩, ⟨("_law_draws", none), "_law_draws", "_law_draws", defArgs (top 22), defBody (top 22), defScope (top 22), [], []⟩, ⟨("_law_take", none), "_law_take", "_law_take", defArgs (top 23), defBody (top 23), defScope (top 23), [], []⟩, ⟨("_law_of", none), "_law_of", "_law_of", defArgs (top 24), defBody (top 24), defScope (top 24), [], []⟩, ⟨("_law_cells", none), "_law_cells", "_law_cells", defArgs (top 25), defBody (top 25), defScope (top 25), [], []⟩, ⟨("_law_ratio", none), "_law_ratio", "_law_ratio", defArgs (top 26), defBody (top 26), defScope (top 26), [], []⟩, ⟨("_law_plus", none), "_law_plus", "_law_plus", defArgs (top 27), defBody (top 27), defScope (top 27), [], []⟩, ⟨("_law_is_int", none), "_law_is_int", "_law_is_int", defArgs (top 28), defBody (top 28), defScope (top 28), [], []⟩, ⟨("_law_sum_between", none), "_law_sum_between", "_law_sum_between", defArgs (top 29), defBody (top 29), defScope (top 29), [], []⟩, ⟨("_law_number", none), "_law_number", "_law_number", defArgs (top 30), defBody (top 30), defScope (top 30), [], []⟩, ⟨("_law_is_fair", none), "_law_is_fair", "_law_is_fair", defArgs (top 31), defBody (top 31), defScope (top 31), [], []⟩, ⟨("_law_right", none), "_law_right", "_law_right", defArgs (top 32), defBody (top 32), defScope (top 32), [], []⟩, ⟨("law", none), "law", "law", defArgs (top 33), defBody (top 33), defScope (top 33), [], []⟩]
def fn : List He.DefD := fn0
def fa0 : List He.Fa := [.glo "SunError", .glo "BadNumber", .int "PAIR" 2, .glo "is_integer", .glo "is_tuple", .glo "common", .glo "ratio", .glo "is_ratio", .glo "is_share", .glo "plus", .int "MOST_PANELS" 2000, .glo "check_many", .glo "sum_between", .glo "loss", .glo "check_fair", .glo "fair", .glo "shows_fair", .glo "_law_draws", .glo "_law_take", .glo "_law_of", .glo "_law_cells", .glo "_law_ratio", .glo "_law_plus", .glo "_law_is_int", .glo "_law_sum_between", .glo "_law_number", .glo "_law_is_fair", .glo "_law_right", .glo "law", .free "list"]
def fa1 : List He.Fa := [.free "sorted", .free "range", .free "zip", .free "enumerate", .free "reversed", .free "len", .free "abs", .free "int", .free "isinstance", .free "sum", .free "all", .free "any", .free "max", .free "min", .free "repr", .free "str", .free "tuple", .free "bool", .free "dict"]
def fa : List He.Fa := fa0 ++ fa1
def loose0 : List PySem.Str := ["SunError", "BadNumber", "PAIR", "is_integer", "is_tuple", "common", "ratio", "is_ratio", "is_share", "plus", "MOST_PANELS", "check_many", "sum_between", "loss", "check_fair", "fair", "shows_fair", "_law_draws", "_law_take", "_law_of", "_law_cells", "_law_ratio", "_law_plus", "_law_is_int", "_law_sum_between", "_law_number", "_law_is_fair", "_law_right"]
def loose : List PySem.Str := loose0
abbrev R : PySem.W.OpenRow := PySem.W.OpenLaw.row PySem.Challenge.rw_sunstrings_k35_whole_loss_and_fair_lengt
abbrev hk : PySem.W.Hook := He.hookD 5 fa fn
def ob (s : PySem.W.SharedT) : He.AlD := He.obsDG 5 fa fn (HandSHeadRun.getT s)
theorem ob_eq (s : PySem.W.SharedT) : ob s = hk.obs s.abs := He.obsDG_eq (HandSHeadRun.getT_eq s)
theorem run (w : World) : HandSHeadRun.RunEq R (PySem.W.view R.prog [33]) hk ob 20000 loose w := by
  intro os
  kernel_rfl
end Hd

namespace Pr
open PySem PySem.Spec PyProof.Rows L2 Ev
def b0 : List MS := [.ifs (.or [.not (.blt .isinst [.var 0, .ty "int" "int"]), .blt .isinst [.var 0, .ty "bool" "bool"]]) [.ret (.bl false)] [], .ret (.and [.or [.cmp .is (.var 1) (.non), .cmp .le (.var 1) (.var 0)], .or [.cmp .is (.var 2) (.non), .cmp .le (.var 0) (.var 2)]])]
def d0 : DefE := ⟨⟨"is_integer", ["value", "low", "high"], [.non, .non], [1, 2, 3]⟩, ["value", "low", "high"], b0⟩
def b1 : List MS := [.ifs (.or [.not (.blt .isinst [.var 0, .ty "tuple" "tuple"]), .cmp .lt (.blt .len [.var 0]) (.var 1)]) [.ret (.bl false)] [], .ret (.or [.cmp .is (.var 2) (.non), .cmp .le (.blt .len [.var 0]) (.var 2)])]
def d1 : DefE := ⟨⟨"is_tuple", ["value", "least", "most"], [.non], [3]⟩, ["value", "least", "most"], b1⟩
def b2 : List MS := [.par 0 1 (.blt .abs [.var 0]) (.blt .abs [.var 1]), .whl (.cmp .gt (.var 1) (.int 0)) [.par 0 1 (.var 1) (.bin .mod (.var 0) (.var 1))], .ret (.var 0)]
def d2 : DefE := ⟨⟨"common", ["one", "other"], [], [2]⟩, ["one", "other"], b2⟩
def b3 : List MS := [.set 2 (.bin .mul (.call 2 [.var 0, .var 1]) (.ife (.cmp .lt (.var 1) (.int 0)) (.neg (.int 1)) (.int 1))), .ret (.tup [.bin .fdiv (.var 0) (.var 2), .bin .fdiv (.var 1) (.var 2)])]
def d3 : DefE := ⟨⟨"ratio", ["number", "under"], [], [2]⟩, ["number", "under", "divisor"], b3⟩
def b4 : List MS := [.ifs (.or [.not (.call 1 [.var 0, .con 0, .con 0]), .not (.call 0 [.idx (.var 0) (.int 0)]), .not (.call 0 [.idx (.var 0) (.int 1), .int 1])]) [.ret (.bl false)] [], .ret (.cmp .eq (.call 2 [.idx (.var 0) (.int 0), .idx (.var 0) (.int 1)]) (.int 1))]
def d4 : DefE := ⟨⟨"is_ratio", ["value"], [], [1]⟩, ["value"], b4⟩
def b5 : List MS := [.ret (.and [.call 4 [.var 0], .cmp .ge (.idx (.var 0) (.int 0)) (.int 0)])]
def d5 : DefE := ⟨⟨"is_share", ["value"], [], [1]⟩, ["value"], b5⟩
def b6 : List MS := [.ret (.call 3 [.bin .add (.bin .mul (.idx (.var 0) (.int 0)) (.idx (.var 1) (.int 1))) (.bin .mul (.idx (.var 1) (.int 0)) (.idx (.var 0) (.int 1))), .bin .mul (.idx (.var 0) (.int 1)) (.idx (.var 1) (.int 1))])]
def d6 : DefE := ⟨⟨"plus", ["one", "other"], [], [2]⟩, ["one", "other"], b6⟩
def b7 : List MS := [.ifs (.not (.call 0 [.var 0, .int 1, .con 1])) [.never] []]
def d7 : DefE := ⟨⟨"check_many", ["value"], [], [1]⟩, ["value"], b7⟩
def b8 : List MS := [.ifs (.cmp .eq (.bin .sub (.var 1) (.var 0)) (.int 1)) [.ret (.tup [.int 1, .var 0])] [], .set 2 (.bin .fdiv (.bin .add (.var 0) (.var 1)) (.int 2)), .ret (.call 6 [.call 8 [.var 0, .var 2], .call 8 [.var 2, .var 1]])]
def d8 : DefE := ⟨⟨"sum_between", ["low", "high"], [], [2]⟩, ["low", "high", "middle"], b8⟩
def b9 : List MS := [.exp (.call 7 [.var 0]), .ret (.call 8 [.int 1, .bin .add (.var 0) (.int 1)])]
def d9 : DefE := ⟨⟨"loss", ["many"], [], [1]⟩, ["many"], b9⟩
def b10 : List MS := [.exp (.call 7 [.var 0]), .ifs (.not (.call 0 [.var 1, .int 1, .var 0])) [.never] []]
def d10 : DefE := ⟨⟨"check_fair", ["many", "strings"], [], [2]⟩, ["many", "strings"], b10⟩
def b11 : List MS := [.exp (.call 10 [.var 0, .var 1]), .set 2 (.fr (.comp (.bin .add (.bin .fdiv (.var 0) (.var 1)) (.blt .int [.cmp .lt (.var 3) (.bin .mod (.var 0) (.var 1))])) (.n 3) (.rng1 (.var 1)) [])), .ret (.tup [.blt .tuple [.var 2], .call 9 [.idx (.var 2) (.int 0)]])]
def d11 : DefE := ⟨⟨"fair", ["many", "strings"], [], [2]⟩, ["many", "strings", "lengths", "number"], b11⟩
def b12 : List MS := [.exp (.call 10 [.var 0, .var 1]), .set 3 (.call 11 [.var 0, .var 1]), .ifs (.or [.not (.call 1 [.var 2, .con 0, .con 0]), .not (.call 1 [.idx (.var 2) (.int 0), .var 1, .var 1])]) [.ret (.bl false)] [], .ifs (.or [.not (.blt .all [.fr (.comp (.call 0 [.var 4, .int 1]) (.n 4) (.val (.idx (.var 2) (.int 0))) [])]), .cmp .ne (.blt .sum [.idx (.var 2) (.int 0)]) (.var 0)]) [.ret (.bl false)] [], .ifs (.or [.not (.blt .all [.fr (.comp (.cmp .ge (.var 5) (.var 6)) (.t [.n 5, .n 6]) (.zip (.idx (.var 2) (.int 0)) (.slc (.idx (.var 2) (.int 0)) (.some (.int 1)) (.no))) [])]), .cmp .ne (.idx (.idx (.var 2) (.int 0)) (.int 0)) (.idx (.idx (.var 3) (.int 0)) (.int 0))]) [.ret (.bl false)] [], .ret (.and [.call 5 [.idx (.var 2) (.int 1)], .cmp .eq (.idx (.var 2) (.int 1)) (.idx (.var 3) (.int 1))])]
def d12 : DefE := ⟨⟨"shows_fair", ["many", "strings", "value"], [], [3]⟩, ["many", "strings", "value", "told", "length", "one", "other"], b12⟩
def b13 : List MS := [.set 2 (.ife (.cmp .lt (.var 1) (.blt .len [.var 0])) (.idx (.var 0) (.var 1)) (.bin .add (.bin .mul (.int 223) (.var 1)) (.int 91))), .set 3 (.bin .mul (.bin .mod (.blt .int [.blt .abs [.var 2]]) (.bin .pow (.bin .pow (.int 10) (.int 60)) (.int 5))) (.blt .int [.cmp .ge (.blt .abs [.var 2]) (.bin .pow (.int 10) (.int 18))])), .set 4 (.bin .mod (.blt .int [.var 2]) (.int 2305843009213693951)), .ret (.hp (.lst [.var 3, .bin .mod (.blt .int [.bin .add (.bin .add (.bin .mul (.var 4) (.int 71347)) (.bin .mul (.bin .mul (.int 7369) (.var 1)) (.var 1))) (.int 163)]) (.int 2305843009213693921), .int 0]))]
def d13 : DefE := ⟨⟨"_law_draws", ["_law_script", "_law_place"], [], [2]⟩, ["_law_script", "_law_place", "_law_cell", "_law_own", "_law_small"], b13⟩
def b14 : List MS := [.ifs (.cmp .gt (.idx (.var 0) (.int 0)) (.int 0)) [.set 4 (.bin .mod (.blt .int [.idx (.var 0) (.int 0)]) (.var 1)), .put (.var 0) (.int 0) (.bin .fdiv (.idx (.var 0) (.int 0)) (.var 1)), .ret (.var 4)] [], .put (.var 0) (.int 2) (.bin .add (.idx (.var 0) (.int 2)) (.int 1)), .set 2 (.idx (.fr (.lst [.int 2147483647, .int 2147483629, .int 2147483587, .int 2147483579, .int 2147483563])) (.bin .mod (.blt .int [.idx (.var 0) (.int 2)]) (.int 5))), .set 3 (.bin .mod (.blt .int [.bin .pow (.blt .int [.bin .add (.bin .add (.idx (.var 0) (.int 1)) (.bin .mul (.bin .mul (.int 99877) (.idx (.var 0) (.int 2))) (.idx (.var 0) (.int 2)))) (.int 71)]) (.int 3)]) (.var 2)), .set 3 (.bin .mod (.blt .int [.bin .mul (.var 3) (.bin .add (.bin .mod (.blt .int [.var 3]) (.int 10429)) (.bin .mul (.int 163) (.idx (.var 0) (.int 2))))]) (.int 2305843009213693907)), .ret (.bin .mod (.blt .int [.bin .fdiv (.var 3) (.int 149)]) (.var 1))]
def d14 : DefE := ⟨⟨"_law_take", ["_law_pot", "_law_upto"], [], [2]⟩, ["_law_pot", "_law_upto", "_law_prime", "_law_mixed", "_law_digit"], b14⟩
def b15 : List MS := [.ret (.idx (.var 1) (.call 14 [.var 0, .blt .len [.var 1]]))]
def d15 : DefE := ⟨⟨"_law_of", ["_law_pot", "_law_some"], [], [2]⟩, ["_law_pot", "_law_some"], b15⟩
def b16 : List MS := [.ret (.fr (.rng (.blt .max [.int 1, .blt .min [.var 1, .blt .len [.var 0]]])))]
def d16 : DefE := ⟨⟨"_law_cells", ["_law_script", "_law_limit"], [], [2]⟩, ["_law_script", "_law_limit"], b16⟩
def b17 : List MS := [.par 3 4 (.blt .abs [.blt .int [.var 0]]) (.blt .abs [.blt .int [.var 1]]), .whl (.cmp .gt (.var 4) (.int 0)) [.par 3 4 (.var 4) (.bin .mod (.blt .int [.var 3]) (.blt .int [.var 4]))], .set 2 (.ife (.cmp .lt (.var 1) (.int 0)) (.neg (.int 1)) (.int 1)), .ret (.tup [.bin .fdiv (.bin .mul (.var 2) (.var 0)) (.var 3), .bin .fdiv (.bin .mul (.var 2) (.var 1)) (.var 3)])]
def d17 : DefE := ⟨⟨"_law_ratio", ["_law_number_here", "_law_under"], [], [2]⟩, ["_law_number_here", "_law_under", "_law_sign", "_law_one", "_law_other"], b17⟩
def b18 : List MS := [.ret (.call 17 [.bin .add (.bin .mul (.idx (.var 0) (.int 0)) (.idx (.var 1) (.int 1))) (.bin .mul (.idx (.var 1) (.int 0)) (.idx (.var 0) (.int 1))), .bin .mul (.idx (.var 0) (.int 1)) (.idx (.var 1) (.int 1))])]
def d18 : DefE := ⟨⟨"_law_plus", ["_law_one", "_law_other"], [], [2]⟩, ["_law_one", "_law_other"], b18⟩
def b19 : List MS := [.ret (.and [.blt .isinst [.var 0, .ty "int" "int"], .not (.blt .isinst [.var 0, .ty "bool" "bool"]), .cmp .ge (.var 0) (.var 1)])]
def d19 : DefE := ⟨⟨"_law_is_int", ["_law_value", "_law_low"], [], [2]⟩, ["_law_value", "_law_low"], b19⟩
def b20 : List MS := [.ifs (.cmp .lt (.bin .sub (.var 1) (.var 0)) (.int 2)) [.ret (.tup [.int 1, .var 0])] [], .set 2 (.bin .fdiv (.bin .add (.var 0) (.var 1)) (.int 2)), .ret (.call 18 [.call 20 [.var 0, .var 2], .call 20 [.var 2, .var 1]])]
def d20 : DefE := ⟨⟨"_law_sum_between", ["_law_low", "_law_high"], [], [2]⟩, ["_law_low", "_law_high", "_law_middle"], b20⟩
def b21 : List MS := [.ret (.call 15 [.var 0, .fr (.lst [.int 1, .int 2, .bin .add (.int 1) (.call 14 [.var 0, .int 12]), .bin .add (.int 1) (.call 14 [.var 0, .int 60]), .bin .add (.int 1) (.call 14 [.var 0, .int 400]), .int 2000])])]
def d21 : DefE := ⟨⟨"_law_number", ["_law_pot"], [], [1]⟩, ["_law_pot"], b21⟩
def b22 : List MS := [.ifs (.or [.not (.blt .isinst [.var 2, .ty "tuple" "tuple"]), .cmp .ne (.blt .len [.var 2]) (.int 2), .not (.blt .isinst [.idx (.var 2) (.int 0), .ty "tuple" "tuple"]), .cmp .ne (.blt .len [.idx (.var 2) (.int 0)]) (.var 1)]) [.ret (.bl false)] [], .ifs (.or [.not (.blt .all [.fr (.comp (.call 19 [.var 4, .int 1]) (.n 4) (.val (.idx (.var 2) (.int 0))) [])]), .cmp .ne (.blt .int [.blt .sum [.idx (.var 2) (.int 0)]]) (.var 0)]) [.ret (.bl false)] [], .set 3 (.bin .fdiv (.bin .sub (.bin .add (.var 0) (.var 1)) (.int 1)) (.var 1)), .ifs (.or [.cmp .ne (.fr (.list (.idx (.var 2) (.int 0)))) (.fr (.rev (.fr (.sorted (.idx (.var 2) (.int 0)))))), .cmp .ne (.blt .max [.idx (.var 2) (.int 0)]) (.var 3)]) [.ret (.bl false)] [], .ret (.cmp .eq (.blt .repr [.idx (.var 2) (.int 1)]) (.blt .repr [.call 20 [.int 1, .bin .add (.var 3) (.int 1)]]))]
def d22 : DefE := ⟨⟨"_law_is_fair", ["_law_amount", "_law_rows", "_law_told"], [], [3]⟩, ["_law_amount", "_law_rows", "_law_told", "_law_most_here", "_law_size"], b22⟩
def b23 : List MS := [.fors (.n 1) (.rng1 (.int 8)) [.set 2 (.call 21 [.var 0]), .set 3 (.call 9 [.var 2]), .ifs (.cmp .ne (.blt .repr [.var 3]) (.blt .repr [.call 20 [.int 1, .bin .add (.var 2) (.int 1)]])) [.ret (.bl false)] [], .ifs (.and [.cmp .lt (.var 2) (.int 2000), .cmp .ne (.call 9 [.bin .add (.var 2) (.int 1)]) (.call 18 [.var 3, .tup [.int 1, .bin .add (.var 2) (.int 1)]])]) [.ret (.bl false)] [], .set 4 (.call 15 [.var 0, .fr (.lst [.int 1, .var 2, .bin .add (.int 1) (.call 14 [.var 0, .var 2]), .bin .add (.int 1) (.bin .fdiv (.var 2) (.int 2)), .blt .max [.int 1, .bin .fdiv (.var 2) (.int 3)]])]), .set 5 (.call 11 [.var 2, .var 4]), .ifs (.or [.not (.call 22 [.var 2, .var 4, .var 5]), .cmp .isnot (.call 12 [.var 2, .var 4, .var 5]) (.bl true)]) [.ret (.bl false)] []], .ret (.bl true)]
def d23 : DefE := ⟨⟨"_law_right", ["_law_pot"], [], [1]⟩, ["_law_pot", "_law_lap", "_law_amount", "_law_due", "_law_rows", "_law_told"], b23⟩
def b24 : List MS := [.ret (.blt .all [.fr (.comp (.call 23 [.call 13 [.var 0, .var 1]]) (.n 1) (.val (.call 16 [.var 0, .int 4])) [])])]
def d24 : DefE := ⟨⟨"law", ["_law_script"], [], [1]⟩, ["_law_script", "_law_place"], b24⟩
def Ds : List DefE := [d0, d1, d2, d3, d4, d5, d6, d7, d8, d9, d10, d11, d12, d13, d14, d15, d16, d17, d18, d19, d20, d21, d22, d23, d24]
def T : Tab := ⟨[("PAIR", .int 2), ("MOST_PANELS", .int 2000)], Ds.map (·.fe)⟩
@[simp] theorem tf0 : T.fns[0]? = some d0.fe := rfl
@[simp] theorem df0 : d0.fe.dfl = [.non, .non] := rfl
@[simp] theorem pl0 : d0.fe.ps.length = 3 := rfl
@[simp] theorem tf1 : T.fns[1]? = some d1.fe := rfl
@[simp] theorem df1 : d1.fe.dfl = [.non] := rfl
@[simp] theorem pl1 : d1.fe.ps.length = 3 := rfl
@[simp] theorem tf2 : T.fns[2]? = some d2.fe := rfl
@[simp] theorem df2 : d2.fe.dfl = [] := rfl
@[simp] theorem pl2 : d2.fe.ps.length = 2 := rfl
@[simp] theorem tf3 : T.fns[3]? = some d3.fe := rfl
@[simp] theorem df3 : d3.fe.dfl = [] := rfl
@[simp] theorem pl3 : d3.fe.ps.length = 2 := rfl
@[simp] theorem tf4 : T.fns[4]? = some d4.fe := rfl
@[simp] theorem df4 : d4.fe.dfl = [] := rfl
@[simp] theorem pl4 : d4.fe.ps.length = 1 := rfl
@[simp] theorem tf5 : T.fns[5]? = some d5.fe := rfl
@[simp] theorem df5 : d5.fe.dfl = [] := rfl
@[simp] theorem pl5 : d5.fe.ps.length = 1 := rfl
@[simp] theorem tf6 : T.fns[6]? = some d6.fe := rfl
@[simp] theorem df6 : d6.fe.dfl = [] := rfl
@[simp] theorem pl6 : d6.fe.ps.length = 2 := rfl
@[simp] theorem tf7 : T.fns[7]? = some d7.fe := rfl
@[simp] theorem df7 : d7.fe.dfl = [] := rfl
@[simp] theorem pl7 : d7.fe.ps.length = 1 := rfl
@[simp] theorem tf8 : T.fns[8]? = some d8.fe := rfl
@[simp] theorem df8 : d8.fe.dfl = [] := rfl
@[simp] theorem pl8 : d8.fe.ps.length = 2 := rfl
@[simp] theorem tf9 : T.fns[9]? = some d9.fe := rfl
@[simp] theorem df9 : d9.fe.dfl = [] := rfl
@[simp] theorem pl9 : d9.fe.ps.length = 1 := rfl
@[simp] theorem tf10 : T.fns[10]? = some d10.fe := rfl
@[simp] theorem df10 : d10.fe.dfl = [] := rfl
@[simp] theorem pl10 : d10.fe.ps.length = 2 := rfl
@[simp] theorem tf11 : T.fns[11]? = some d11.fe := rfl
@[simp] theorem df11 : d11.fe.dfl = [] := rfl
@[simp] theorem pl11 : d11.fe.ps.length = 2 := rfl
@[simp] theorem tf12 : T.fns[12]? = some d12.fe := rfl
@[simp] theorem df12 : d12.fe.dfl = [] := rfl
@[simp] theorem pl12 : d12.fe.ps.length = 3 := rfl
@[simp] theorem tf13 : T.fns[13]? = some d13.fe := rfl
@[simp] theorem df13 : d13.fe.dfl = [] := rfl
@[simp] theorem pl13 : d13.fe.ps.length = 2 := rfl
@[simp] theorem tf14 : T.fns[14]? = some d14.fe := rfl
@[simp] theorem df14 : d14.fe.dfl = [] := rfl
@[simp] theorem pl14 : d14.fe.ps.length = 2 := rfl
@[simp] theorem tf15 : T.fns[15]? = some d15.fe := rfl
@[simp] theorem df15 : d15.fe.dfl = [] := rfl
@[simp] theorem pl15 : d15.fe.ps.length = 2 := rfl
@[simp] theorem tf16 : T.fns[16]? = some d16.fe := rfl
@[simp] theorem df16 : d16.fe.dfl = [] := rfl
@[simp] theorem pl16 : d16.fe.ps.length = 2 := rfl
@[simp] theorem tf17 : T.fns[17]? = some d17.fe := rfl
@[simp] theorem df17 : d17.fe.dfl = [] := rfl
@[simp] theorem pl17 : d17.fe.ps.length = 2 := rfl
@[simp] theorem tf18 : T.fns[18]? = some d18.fe := rfl
@[simp] theorem df18 : d18.fe.dfl = [] := rfl
@[simp] theorem pl18 : d18.fe.ps.length = 2 := rfl
@[simp] theorem tf19 : T.fns[19]? = some d19.fe := rfl
@[simp] theorem df19 : d19.fe.dfl = [] := rfl
@[simp] theorem pl19 : d19.fe.ps.length = 2 := rfl
@[simp] theorem tf20 : T.fns[20]? = some d20.fe := rfl
@[simp] theorem df20 : d20.fe.dfl = [] := rfl
@[simp] theorem pl20 : d20.fe.ps.length = 2 := rfl
@[simp] theorem tf21 : T.fns[21]? = some d21.fe := rfl
@[simp] theorem df21 : d21.fe.dfl = [] := rfl
@[simp] theorem pl21 : d21.fe.ps.length = 1 := rfl
@[simp] theorem tf22 : T.fns[22]? = some d22.fe := rfl
@[simp] theorem df22 : d22.fe.dfl = [] := rfl
@[simp] theorem pl22 : d22.fe.ps.length = 3 := rfl
@[simp] theorem tf23 : T.fns[23]? = some d23.fe := rfl
@[simp] theorem df23 : d23.fe.dfl = [] := rfl
@[simp] theorem pl23 : d23.fe.ps.length = 1 := rfl
@[simp] theorem tf24 : T.fns[24]? = some d24.fe := rfl
@[simp] theorem df24 : d24.fe.dfl = [] := rfl
@[simp] theorem pl24 : d24.fe.ps.length = 1 := rfl
@[simp] theorem tc0 : T.con[0]? = some (Str.ofString "PAIR", (.int 2 : L)) := rfl
@[simp] theorem tc1 : T.con[1]? = some (Str.ofString "MOST_PANELS", (.int 2000 : L)) := rfl
theorem chk0 : chkSs d0.N T (defScope (Hd.top 5)) d0.body (defBody (Hd.top 5)) = true := by kernel_rfl
theorem chk1 : chkSs d1.N T (defScope (Hd.top 6)) d1.body (defBody (Hd.top 6)) = true := by kernel_rfl
theorem chk2 : chkSs d2.N T (defScope (Hd.top 8)) d2.body (defBody (Hd.top 8)) = true := by kernel_rfl
theorem chk3 : chkSs d3.N T (defScope (Hd.top 9)) d3.body (defBody (Hd.top 9)) = true := by kernel_rfl
theorem chk4 : chkSs d4.N T (defScope (Hd.top 10)) d4.body (defBody (Hd.top 10)) = true := by kernel_rfl
theorem chk5 : chkSs d5.N T (defScope (Hd.top 11)) d5.body (defBody (Hd.top 11)) = true := by kernel_rfl
theorem chk6 : chkSs d6.N T (defScope (Hd.top 12)) d6.body (defBody (Hd.top 12)) = true := by kernel_rfl
theorem chk7 : chkSs d7.N T (defScope (Hd.top 15)) d7.body (defBody (Hd.top 15)) = true := by kernel_rfl
theorem chk8 : chkSs d8.N T (defScope (Hd.top 16)) d8.body (defBody (Hd.top 16)) = true := by kernel_rfl
theorem chk9 : chkSs d9.N T (defScope (Hd.top 17)) d9.body (defBody (Hd.top 17)) = true := by kernel_rfl
theorem chk10 : chkSs d10.N T (defScope (Hd.top 18)) d10.body (defBody (Hd.top 18)) = true := by kernel_rfl
theorem chk11 : chkSs d11.N T (defScope (Hd.top 19)) d11.body (defBody (Hd.top 19)) = true := by kernel_rfl
theorem chk12 : chkSs d12.N T (defScope (Hd.top 20)) d12.body (defBody (Hd.top 20)) = true := by kernel_rfl
theorem chk13 : chkSs d13.N T (defScope (Hd.top 22)) d13.body (defBody (Hd.top 22)) = true := by kernel_rfl
theorem chk14 : chkSs d14.N T (defScope (Hd.top 23)) d14.body (defBody (Hd.top 23)) = true := by kernel_rfl
theorem chk15 : chkSs d15.N T (defScope (Hd.top 24)) d15.body (defBody (Hd.top 24)) = true := by kernel_rfl
theorem chk16 : chkSs d16.N T (defScope (Hd.top 25)) d16.body (defBody (Hd.top 25)) = true := by kernel_rfl
theorem chk17 : chkSs d17.N T (defScope (Hd.top 26)) d17.body (defBody (Hd.top 26)) = true := by kernel_rfl
theorem chk18 : chkSs d18.N T (defScope (Hd.top 27)) d18.body (defBody (Hd.top 27)) = true := by kernel_rfl
theorem chk19 : chkSs d19.N T (defScope (Hd.top 28)) d19.body (defBody (Hd.top 28)) = true := by kernel_rfl
theorem chk20 : chkSs d20.N T (defScope (Hd.top 29)) d20.body (defBody (Hd.top 29)) = true := by kernel_rfl
theorem chk21 : chkSs d21.N T (defScope (Hd.top 30)) d21.body (defBody (Hd.top 30)) = true := by kernel_rfl
theorem chk22 : chkSs d22.N T (defScope (Hd.top 31)) d22.body (defBody (Hd.top 31)) = true := by kernel_rfl
theorem chk23 : chkSs d23.N T (defScope (Hd.top 32)) d23.body (defBody (Hd.top 32)) = true := by kernel_rfl
theorem chk24 : chkSs d24.N T (defScope (Hd.top 33)) d24.body (defBody (Hd.top 33)) = true := by kernel_rfl
section
variable {K : PySem.W.Frag} {h : Heap} {mg : Str → Option Value}
theorem ok0 (X : K.In h) (G : h.Ns mainGlobals mg) (c : He.SaysD Hd.fa Hd.fn K) : DefOk K mg T d0 := by
  obtain ⟨fd, F⟩ := c.def_ 0 (d := ⟨("is_integer", none), "is_integer", "is_integer", defArgs (Hd.top 5), defBody (Hd.top 5), defScope (Hd.top 5), [.non, .non], []⟩) rfl
  refine ⟨⟨_, fd, _, _, _, _, _, _, _, He.glo_ok X G (c.fact 3 (f := .glo "is_integer") rfl), F, C8.fnScope_by (by decide +kernel), chk0, fun n hn => ?_⟩⟩
  have hn : n ∈ [1, 2, 3] := hn
  simp only [List.mem_cons, List.not_mem_nil, or_false] at hn
  rcases hn with rfl | rfl | rfl
  · obtain ⟨ds, h1, h2⟩ := F.binds1 (ps := d0.fe.ps) 1 0 (fun z => nomatch (show (_ :: _ : List V) = [] from z)) rfl fun _ _ _ _ _ _ _ us its hl hd => match us, its, hl, hd with | [_], [_, _], _, _ => ⟨_, rfl, rfl⟩
    exact ⟨by decide, _, ds, fun _ => (.cons (mk_non) (.cons (mk_non) (.nil)) : RelLs K _ _ _), rfl, h1, h2⟩
  · obtain ⟨ds, h1, h2⟩ := F.binds1 (ps := d0.fe.ps) 2 1 (fun z => nomatch (show (_ :: _ : List V) = [] from z)) rfl fun _ _ _ _ _ _ _ us its hl hd => match us, its, hl, hd with | [_, _], [_, _], _, _ => ⟨_, rfl, rfl⟩
    exact ⟨by decide, _, ds, fun _ => (.cons (mk_non) (.nil) : RelLs K _ _ _), rfl, h1, h2⟩
  · obtain ⟨ds, h1, h2⟩ := F.binds1 (ps := d0.fe.ps) 3 2 (fun z => nomatch (show (_ :: _ : List V) = [] from z)) rfl fun _ _ _ _ _ _ _ us its hl hd => match us, its, hl, hd with | [_, _, _], [_, _], _, _ => ⟨_, rfl, rfl⟩
    exact ⟨by decide, _, ds, fun _ => (.nil : RelLs K _ _ _), rfl, h1, h2⟩
theorem ok1 (X : K.In h) (G : h.Ns mainGlobals mg) (c : He.SaysD Hd.fa Hd.fn K) : DefOk K mg T d1 := by
  obtain ⟨fd, F⟩ := c.def_ 1 (d := ⟨("is_tuple", none), "is_tuple", "is_tuple", defArgs (Hd.top 6), defBody (Hd.top 6), defScope (Hd.top 6), [.non], []⟩) rfl
  refine ⟨⟨_, fd, _, _, _, _, _, _, _, He.glo_ok X G (c.fact 4 (f := .glo "is_tuple") rfl), F, C8.fnScope_by (by decide +kernel), chk1, fun n hn => ?_⟩⟩
  have hn : n ∈ [3] := hn
  simp only [List.mem_cons, List.not_mem_nil, or_false] at hn
  rcases hn with rfl
  · obtain ⟨ds, h1, h2⟩ := F.binds1 (ps := d1.fe.ps) 3 1 (fun z => nomatch (show (_ :: _ : List V) = [] from z)) rfl fun _ _ _ _ _ _ _ us its hl hd => match us, its, hl, hd with | [_, _, _], [_], _, _ => ⟨_, rfl, rfl⟩
    exact ⟨by decide, _, ds, fun _ => (.nil : RelLs K _ _ _), rfl, h1, h2⟩
theorem ok2 (X : K.In h) (G : h.Ns mainGlobals mg) (c : He.SaysD Hd.fa Hd.fn K) : DefOk K mg T d2 := by
  obtain ⟨fd, F⟩ := c.def_ 2 (d := ⟨("common", none), "common", "common", defArgs (Hd.top 8), defBody (Hd.top 8), defScope (Hd.top 8), [], []⟩) rfl
  refine ⟨⟨_, fd, _, _, _, _, _, _, _, He.glo_ok X G (c.fact 5 (f := .glo "common") rfl), F, C8.fnScope_by (by decide +kernel), chk2, fun n hn => ?_⟩⟩
  have hn : n ∈ [2] := hn
  simp only [List.mem_cons, List.not_mem_nil, or_false] at hn
  rcases hn with rfl
  · exact ⟨by decide, [], [], fun _ => RelLs.nil, rfl, .nil, F.bindsN fun _ _ _ _ _ _ us hl => match us, hl with | [_, _], _ => rfl⟩
theorem ok3 (X : K.In h) (G : h.Ns mainGlobals mg) (c : He.SaysD Hd.fa Hd.fn K) : DefOk K mg T d3 := by
  obtain ⟨fd, F⟩ := c.def_ 3 (d := ⟨("ratio", none), "ratio", "ratio", defArgs (Hd.top 9), defBody (Hd.top 9), defScope (Hd.top 9), [], []⟩) rfl
  refine ⟨⟨_, fd, _, _, _, _, _, _, _, He.glo_ok X G (c.fact 6 (f := .glo "ratio") rfl), F, C8.fnScope_by (by decide +kernel), chk3, fun n hn => ?_⟩⟩
  have hn : n ∈ [2] := hn
  simp only [List.mem_cons, List.not_mem_nil, or_false] at hn
  rcases hn with rfl
  · exact ⟨by decide, [], [], fun _ => RelLs.nil, rfl, .nil, F.bindsN fun _ _ _ _ _ _ us hl => match us, hl with | [_, _], _ => rfl⟩
theorem ok4 (X : K.In h) (G : h.Ns mainGlobals mg) (c : He.SaysD Hd.fa Hd.fn K) : DefOk K mg T d4 := by
  obtain ⟨fd, F⟩ := c.def_ 4 (d := ⟨("is_ratio", none), "is_ratio", "is_ratio", defArgs (Hd.top 10), defBody (Hd.top 10), defScope (Hd.top 10), [], []⟩) rfl
  refine ⟨⟨_, fd, _, _, _, _, _, _, _, He.glo_ok X G (c.fact 7 (f := .glo "is_ratio") rfl), F, C8.fnScope_by (by decide +kernel), chk4, fun n hn => ?_⟩⟩
  have hn : n ∈ [1] := hn
  simp only [List.mem_cons, List.not_mem_nil, or_false] at hn
  rcases hn with rfl
  · exact ⟨by decide, [], [], fun _ => RelLs.nil, rfl, .nil, F.bindsN fun _ _ _ _ _ _ us hl => match us, hl with | [_], _ => rfl⟩
theorem ok5 (X : K.In h) (G : h.Ns mainGlobals mg) (c : He.SaysD Hd.fa Hd.fn K) : DefOk K mg T d5 := by
  obtain ⟨fd, F⟩ := c.def_ 5 (d := ⟨("is_share", none), "is_share", "is_share", defArgs (Hd.top 11), defBody (Hd.top 11), defScope (Hd.top 11), [], []⟩) rfl
  refine ⟨⟨_, fd, _, _, _, _, _, _, _, He.glo_ok X G (c.fact 8 (f := .glo "is_share") rfl), F, C8.fnScope_by (by decide +kernel), chk5, fun n hn => ?_⟩⟩
  have hn : n ∈ [1] := hn
  simp only [List.mem_cons, List.not_mem_nil, or_false] at hn
  rcases hn with rfl
  · exact ⟨by decide, [], [], fun _ => RelLs.nil, rfl, .nil, F.bindsN fun _ _ _ _ _ _ us hl => match us, hl with | [_], _ => rfl⟩
theorem ok6 (X : K.In h) (G : h.Ns mainGlobals mg) (c : He.SaysD Hd.fa Hd.fn K) : DefOk K mg T d6 := by
  obtain ⟨fd, F⟩ := c.def_ 6 (d := ⟨("plus", none), "plus", "plus", defArgs (Hd.top 12), defBody (Hd.top 12), defScope (Hd.top 12), [], []⟩) rfl
  refine ⟨⟨_, fd, _, _, _, _, _, _, _, He.glo_ok X G (c.fact 9 (f := .glo "plus") rfl), F, C8.fnScope_by (by decide +kernel), chk6, fun n hn => ?_⟩⟩
  have hn : n ∈ [2] := hn
  simp only [List.mem_cons, List.not_mem_nil, or_false] at hn
  rcases hn with rfl
  · exact ⟨by decide, [], [], fun _ => RelLs.nil, rfl, .nil, F.bindsN fun _ _ _ _ _ _ us hl => match us, hl with | [_, _], _ => rfl⟩
theorem ok7 (X : K.In h) (G : h.Ns mainGlobals mg) (c : He.SaysD Hd.fa Hd.fn K) : DefOk K mg T d7 := by
  obtain ⟨fd, F⟩ := c.def_ 7 (d := ⟨("check_many", none), "check_many", "check_many", defArgs (Hd.top 15), defBody (Hd.top 15), defScope (Hd.top 15), [], []⟩) rfl
  refine ⟨⟨_, fd, _, _, _, _, _, _, _, He.glo_ok X G (c.fact 11 (f := .glo "check_many") rfl), F, C8.fnScope_by (by decide +kernel), chk7, fun n hn => ?_⟩⟩
  have hn : n ∈ [1] := hn
  simp only [List.mem_cons, List.not_mem_nil, or_false] at hn
  rcases hn with rfl
  · exact ⟨by decide, [], [], fun _ => RelLs.nil, rfl, .nil, F.bindsN fun _ _ _ _ _ _ us hl => match us, hl with | [_], _ => rfl⟩
theorem ok8 (X : K.In h) (G : h.Ns mainGlobals mg) (c : He.SaysD Hd.fa Hd.fn K) : DefOk K mg T d8 := by
  obtain ⟨fd, F⟩ := c.def_ 8 (d := ⟨("sum_between", none), "sum_between", "sum_between", defArgs (Hd.top 16), defBody (Hd.top 16), defScope (Hd.top 16), [], []⟩) rfl
  refine ⟨⟨_, fd, _, _, _, _, _, _, _, He.glo_ok X G (c.fact 12 (f := .glo "sum_between") rfl), F, C8.fnScope_by (by decide +kernel), chk8, fun n hn => ?_⟩⟩
  have hn : n ∈ [2] := hn
  simp only [List.mem_cons, List.not_mem_nil, or_false] at hn
  rcases hn with rfl
  · exact ⟨by decide, [], [], fun _ => RelLs.nil, rfl, .nil, F.bindsN fun _ _ _ _ _ _ us hl => match us, hl with | [_, _], _ => rfl⟩
theorem ok9 (X : K.In h) (G : h.Ns mainGlobals mg) (c : He.SaysD Hd.fa Hd.fn K) : DefOk K mg T d9 := by
  obtain ⟨fd, F⟩ := c.def_ 9 (d := ⟨("loss", none), "loss", "loss", defArgs (Hd.top 17), defBody (Hd.top 17), defScope (Hd.top 17), [], []⟩) rfl
  refine ⟨⟨_, fd, _, _, _, _, _, _, _, He.glo_ok X G (c.fact 13 (f := .glo "loss") rfl), F, C8.fnScope_by (by decide +kernel), chk9, fun n hn => ?_⟩⟩
  have hn : n ∈ [1] := hn
  simp only [List.mem_cons, List.not_mem_nil, or_false] at hn
  rcases hn with rfl
  · exact ⟨by decide, [], [], fun _ => RelLs.nil, rfl, .nil, F.bindsN fun _ _ _ _ _ _ us hl => match us, hl with | [_], _ => rfl⟩
theorem ok10 (X : K.In h) (G : h.Ns mainGlobals mg) (c : He.SaysD Hd.fa Hd.fn K) : DefOk K mg T d10 := by
  obtain ⟨fd, F⟩ := c.def_ 10 (d := ⟨("check_fair", none), "check_fair", "check_fair", defArgs (Hd.top 18), defBody (Hd.top 18), defScope (Hd.top 18), [], []⟩) rfl
  refine ⟨⟨_, fd, _, _, _, _, _, _, _, He.glo_ok X G (c.fact 14 (f := .glo "check_fair") rfl), F, C8.fnScope_by (by decide +kernel), chk10, fun n hn => ?_⟩⟩
  have hn : n ∈ [2] := hn
  simp only [List.mem_cons, List.not_mem_nil, or_false] at hn
  rcases hn with rfl
  · exact ⟨by decide, [], [], fun _ => RelLs.nil, rfl, .nil, F.bindsN fun _ _ _ _ _ _ us hl => match us, hl with | [_, _], _ => rfl⟩
theorem ok11 (X : K.In h) (G : h.Ns mainGlobals mg) (c : He.SaysD Hd.fa Hd.fn K) : DefOk K mg T d11 := by
  obtain ⟨fd, F⟩ := c.def_ 11 (d := ⟨("fair", none), "fair", "fair", defArgs (Hd.top 19), defBody (Hd.top 19), defScope (Hd.top 19), [], []⟩) rfl
  refine ⟨⟨_, fd, _, _, _, _, _, _, _, He.glo_ok X G (c.fact 15 (f := .glo "fair") rfl), F, C8.fnScope_by (by decide +kernel), chk11, fun n hn => ?_⟩⟩
  have hn : n ∈ [2] := hn
  simp only [List.mem_cons, List.not_mem_nil, or_false] at hn
  rcases hn with rfl
  · exact ⟨by decide, [], [], fun _ => RelLs.nil, rfl, .nil, F.bindsN fun _ _ _ _ _ _ us hl => match us, hl with | [_, _], _ => rfl⟩
theorem ok12 (X : K.In h) (G : h.Ns mainGlobals mg) (c : He.SaysD Hd.fa Hd.fn K) : DefOk K mg T d12 := by
  obtain ⟨fd, F⟩ := c.def_ 12 (d := ⟨("shows_fair", none), "shows_fair", "shows_fair", defArgs (Hd.top 20), defBody (Hd.top 20), defScope (Hd.top 20), [], []⟩) rfl
  refine ⟨⟨_, fd, _, _, _, _, _, _, _, He.glo_ok X G (c.fact 16 (f := .glo "shows_fair") rfl), F, C8.fnScope_by (by decide +kernel), chk12, fun n hn => ?_⟩⟩
  have hn : n ∈ [3] := hn
  simp only [List.mem_cons, List.not_mem_nil, or_false] at hn
  rcases hn with rfl
  · exact ⟨by decide, [], [], fun _ => RelLs.nil, rfl, .nil, F.bindsN fun _ _ _ _ _ _ us hl => match us, hl with | [_, _, _], _ => rfl⟩
theorem ok13 (X : K.In h) (G : h.Ns mainGlobals mg) (c : He.SaysD Hd.fa Hd.fn K) : DefOk K mg T d13 := by
  obtain ⟨fd, F⟩ := c.def_ 13 (d := ⟨("_law_draws", none), "_law_draws", "_law_draws", defArgs (Hd.top 22), defBody (Hd.top 22), defScope (Hd.top 22), [], []⟩) rfl
  refine ⟨⟨_, fd, _, _, _, _, _, _, _, He.glo_ok X G (c.fact 17 (f := .glo "_law_draws") rfl), F, C8.fnScope_by (by decide +kernel), chk13, fun n hn => ?_⟩⟩
  have hn : n ∈ [2] := hn
  simp only [List.mem_cons, List.not_mem_nil, or_false] at hn
  rcases hn with rfl
  · exact ⟨by decide, [], [], fun _ => RelLs.nil, rfl, .nil, F.bindsN fun _ _ _ _ _ _ us hl => match us, hl with | [_, _], _ => rfl⟩
theorem ok14 (X : K.In h) (G : h.Ns mainGlobals mg) (c : He.SaysD Hd.fa Hd.fn K) : DefOk K mg T d14 := by
  obtain ⟨fd, F⟩ := c.def_ 14 (d := ⟨("_law_take", none), "_law_take", "_law_take", defArgs (Hd.top 23), defBody (Hd.top 23), defScope (Hd.top 23), [], []⟩) rfl
  refine ⟨⟨_, fd, _, _, _, _, _, _, _, He.glo_ok X G (c.fact 18 (f := .glo "_law_take") rfl), F, C8.fnScope_by (by decide +kernel), chk14, fun n hn => ?_⟩⟩
  have hn : n ∈ [2] := hn
  simp only [List.mem_cons, List.not_mem_nil, or_false] at hn
  rcases hn with rfl
  · exact ⟨by decide, [], [], fun _ => RelLs.nil, rfl, .nil, F.bindsN fun _ _ _ _ _ _ us hl => match us, hl with | [_, _], _ => rfl⟩
theorem ok15 (X : K.In h) (G : h.Ns mainGlobals mg) (c : He.SaysD Hd.fa Hd.fn K) : DefOk K mg T d15 := by
  obtain ⟨fd, F⟩ := c.def_ 15 (d := ⟨("_law_of", none), "_law_of", "_law_of", defArgs (Hd.top 24), defBody (Hd.top 24), defScope (Hd.top 24), [], []⟩) rfl
  refine ⟨⟨_, fd, _, _, _, _, _, _, _, He.glo_ok X G (c.fact 19 (f := .glo "_law_of") rfl), F, C8.fnScope_by (by decide +kernel), chk15, fun n hn => ?_⟩⟩
  have hn : n ∈ [2] := hn
  simp only [List.mem_cons, List.not_mem_nil, or_false] at hn
  rcases hn with rfl
  · exact ⟨by decide, [], [], fun _ => RelLs.nil, rfl, .nil, F.bindsN fun _ _ _ _ _ _ us hl => match us, hl with | [_, _], _ => rfl⟩
theorem ok16 (X : K.In h) (G : h.Ns mainGlobals mg) (c : He.SaysD Hd.fa Hd.fn K) : DefOk K mg T d16 := by
  obtain ⟨fd, F⟩ := c.def_ 16 (d := ⟨("_law_cells", none), "_law_cells", "_law_cells", defArgs (Hd.top 25), defBody (Hd.top 25), defScope (Hd.top 25), [], []⟩) rfl
  refine ⟨⟨_, fd, _, _, _, _, _, _, _, He.glo_ok X G (c.fact 20 (f := .glo "_law_cells") rfl), F, C8.fnScope_by (by decide +kernel), chk16, fun n hn => ?_⟩⟩
  have hn : n ∈ [2] := hn
  simp only [List.mem_cons, List.not_mem_nil, or_false] at hn
  rcases hn with rfl
  · exact ⟨by decide, [], [], fun _ => RelLs.nil, rfl, .nil, F.bindsN fun _ _ _ _ _ _ us hl => match us, hl with | [_, _], _ => rfl⟩
theorem ok17 (X : K.In h) (G : h.Ns mainGlobals mg) (c : He.SaysD Hd.fa Hd.fn K) : DefOk K mg T d17 := by
  obtain ⟨fd, F⟩ := c.def_ 17 (d := ⟨("_law_ratio", none), "_law_ratio", "_law_ratio", defArgs (Hd.top 26), defBody (Hd.top 26), defScope (Hd.top 26), [], []⟩) rfl
  refine ⟨⟨_, fd, _, _, _, _, _, _, _, He.glo_ok X G (c.fact 21 (f := .glo "_law_ratio") rfl), F, C8.fnScope_by (by decide +kernel), chk17, fun n hn => ?_⟩⟩
  have hn : n ∈ [2] := hn
  simp only [List.mem_cons, List.not_mem_nil, or_false] at hn
  rcases hn with rfl
  · exact ⟨by decide, [], [], fun _ => RelLs.nil, rfl, .nil, F.bindsN fun _ _ _ _ _ _ us hl => match us, hl with | [_, _], _ => rfl⟩
theorem ok18 (X : K.In h) (G : h.Ns mainGlobals mg) (c : He.SaysD Hd.fa Hd.fn K) : DefOk K mg T d18 := by
  obtain ⟨fd, F⟩ := c.def_ 18 (d := ⟨("_law_plus", none), "_law_plus", "_law_plus", defArgs (Hd.top 27), defBody (Hd.top 27), defScope (Hd.top 27), [], []⟩) rfl
  refine ⟨⟨_, fd, _, _, _, _, _, _, _, He.glo_ok X G (c.fact 22 (f := .glo "_law_plus") rfl), F, C8.fnScope_by (by decide +kernel), chk18, fun n hn => ?_⟩⟩
  have hn : n ∈ [2] := hn
  simp only [List.mem_cons, List.not_mem_nil, or_false] at hn
  rcases hn with rfl
  · exact ⟨by decide, [], [], fun _ => RelLs.nil, rfl, .nil, F.bindsN fun _ _ _ _ _ _ us hl => match us, hl with | [_, _], _ => rfl⟩
theorem ok19 (X : K.In h) (G : h.Ns mainGlobals mg) (c : He.SaysD Hd.fa Hd.fn K) : DefOk K mg T d19 := by
  obtain ⟨fd, F⟩ := c.def_ 19 (d := ⟨("_law_is_int", none), "_law_is_int", "_law_is_int", defArgs (Hd.top 28), defBody (Hd.top 28), defScope (Hd.top 28), [], []⟩) rfl
  refine ⟨⟨_, fd, _, _, _, _, _, _, _, He.glo_ok X G (c.fact 23 (f := .glo "_law_is_int") rfl), F, C8.fnScope_by (by decide +kernel), chk19, fun n hn => ?_⟩⟩
  have hn : n ∈ [2] := hn
  simp only [List.mem_cons, List.not_mem_nil, or_false] at hn
  rcases hn with rfl
  · exact ⟨by decide, [], [], fun _ => RelLs.nil, rfl, .nil, F.bindsN fun _ _ _ _ _ _ us hl => match us, hl with | [_, _], _ => rfl⟩
theorem ok20 (X : K.In h) (G : h.Ns mainGlobals mg) (c : He.SaysD Hd.fa Hd.fn K) : DefOk K mg T d20 := by
  obtain ⟨fd, F⟩ := c.def_ 20 (d := ⟨("_law_sum_between", none), "_law_sum_between", "_law_sum_between", defArgs (Hd.top 29), defBody (Hd.top 29), defScope (Hd.top 29), [], []⟩) rfl
  refine ⟨⟨_, fd, _, _, _, _, _, _, _, He.glo_ok X G (c.fact 24 (f := .glo "_law_sum_between") rfl), F, C8.fnScope_by (by decide +kernel), chk20, fun n hn => ?_⟩⟩
  have hn : n ∈ [2] := hn
  simp only [List.mem_cons, List.not_mem_nil, or_false] at hn
  rcases hn with rfl
  · exact ⟨by decide, [], [], fun _ => RelLs.nil, rfl, .nil, F.bindsN fun _ _ _ _ _ _ us hl => match us, hl with | [_, _], _ => rfl⟩
theorem ok21 (X : K.In h) (G : h.Ns mainGlobals mg) (c : He.SaysD Hd.fa Hd.fn K) : DefOk K mg T d21 := by
  obtain ⟨fd, F⟩ := c.def_ 21 (d := ⟨("_law_number", none), "_law_number", "_law_number", defArgs (Hd.top 30), defBody (Hd.top 30), defScope (Hd.top 30), [], []⟩) rfl
  refine ⟨⟨_, fd, _, _, _, _, _, _, _, He.glo_ok X G (c.fact 25 (f := .glo "_law_number") rfl), F, C8.fnScope_by (by decide +kernel), chk21, fun n hn => ?_⟩⟩
  have hn : n ∈ [1] := hn
  simp only [List.mem_cons, List.not_mem_nil, or_false] at hn
  rcases hn with rfl
  · exact ⟨by decide, [], [], fun _ => RelLs.nil, rfl, .nil, F.bindsN fun _ _ _ _ _ _ us hl => match us, hl with | [_], _ => rfl⟩
theorem ok22 (X : K.In h) (G : h.Ns mainGlobals mg) (c : He.SaysD Hd.fa Hd.fn K) : DefOk K mg T d22 := by
  obtain ⟨fd, F⟩ := c.def_ 22 (d := ⟨("_law_is_fair", none), "_law_is_fair", "_law_is_fair", defArgs (Hd.top 31), defBody (Hd.top 31), defScope (Hd.top 31), [], []⟩) rfl
  refine ⟨⟨_, fd, _, _, _, _, _, _, _, He.glo_ok X G (c.fact 26 (f := .glo "_law_is_fair") rfl), F, C8.fnScope_by (by decide +kernel), chk22, fun n hn => ?_⟩⟩
  have hn : n ∈ [3] := hn
  simp only [List.mem_cons, List.not_mem_nil, or_false] at hn
  rcases hn with rfl
  · exact ⟨by decide, [], [], fun _ => RelLs.nil, rfl, .nil, F.bindsN fun _ _ _ _ _ _ us hl => match us, hl with | [_, _, _], _ => rfl⟩
theorem ok23 (X : K.In h) (G : h.Ns mainGlobals mg) (c : He.SaysD Hd.fa Hd.fn K) : DefOk K mg T d23 := by
  obtain ⟨fd, F⟩ := c.def_ 23 (d := ⟨("_law_right", none), "_law_right", "_law_right", defArgs (Hd.top 32), defBody (Hd.top 32), defScope (Hd.top 32), [], []⟩) rfl
  refine ⟨⟨_, fd, _, _, _, _, _, _, _, He.glo_ok X G (c.fact 27 (f := .glo "_law_right") rfl), F, C8.fnScope_by (by decide +kernel), chk23, fun n hn => ?_⟩⟩
  have hn : n ∈ [1] := hn
  simp only [List.mem_cons, List.not_mem_nil, or_false] at hn
  rcases hn with rfl
  · exact ⟨by decide, [], [], fun _ => RelLs.nil, rfl, .nil, F.bindsN fun _ _ _ _ _ _ us hl => match us, hl with | [_], _ => rfl⟩
theorem ok24 (X : K.In h) (G : h.Ns mainGlobals mg) (c : He.SaysD Hd.fa Hd.fn K) : DefOk K mg T d24 := by
  obtain ⟨fd, F⟩ := c.def_ 24 (d := ⟨("law", none), "law", "law", defArgs (Hd.top 33), defBody (Hd.top 33), defScope (Hd.top 33), [], []⟩) rfl
  refine ⟨⟨_, fd, _, _, _, _, _, _, _, He.glo_ok X G (c.fact 28 (f := .glo "law") rfl), F, C8.fnScope_by (by decide +kernel), chk24, fun n hn => ?_⟩⟩
  have hn : n ∈ [1] := hn
  simp only [List.mem_cons, List.not_mem_nil, or_false] at hn
  rcases hn with rfl
  · exact ⟨by decide, [], [], fun _ => RelLs.nil, rfl, .nil, F.bindsN fun _ _ _ _ _ _ us hl => match us, hl with | [_], _ => rfl⟩
theorem allOk (X : K.In h) (G : h.Ns mainGlobals mg) (c : He.SaysD Hd.fa Hd.fn K) : AllOk K mg T Ds := by
  refine ⟨rfl, fun j x l e => ?_, fun x hx => ?_, fun f de e => ?_⟩
  · match j, e with
    | 0, e =>
      cases e
      obtain ⟨t, q⟩ := He.int_ok X G (c.fact 2 (f := .int "PAIR" 2) rfl)
      exact ⟨_, .int 2, q, ⟨t, rfl⟩, fun _ => mk_int _⟩
    | 1, e =>
      cases e
      obtain ⟨t, q⟩ := He.int_ok X G (c.fact 10 (f := .int "MOST_PANELS" 2000) rfl)
      exact ⟨_, .int 2000, q, ⟨t, rfl⟩, fun _ => mk_int _⟩
    | j + 2, e => exact absurd (show (none : Option (Str × L)) = some (x, l) from e) (fun z => nomatch z)
  · simp only [bltNames, List.mem_cons, List.not_mem_nil, or_false] at hx
    rcases hx with rfl | rfl | rfl | rfl | rfl | rfl | rfl | rfl | rfl | rfl | rfl | rfl | rfl | rfl | rfl | rfl | rfl | rfl | rfl | rfl
    · exact He.free_ok X G (c.fact 29 (f := .free "list") rfl)
    · exact He.free_ok X G (c.fact 30 (f := .free "sorted") rfl)
    · exact He.free_ok X G (c.fact 31 (f := .free "range") rfl)
    · exact He.free_ok X G (c.fact 32 (f := .free "zip") rfl)
    · exact He.free_ok X G (c.fact 33 (f := .free "enumerate") rfl)
    · exact He.free_ok X G (c.fact 34 (f := .free "reversed") rfl)
    · exact He.free_ok X G (c.fact 35 (f := .free "len") rfl)
    · exact He.free_ok X G (c.fact 36 (f := .free "abs") rfl)
    · exact He.free_ok X G (c.fact 37 (f := .free "int") rfl)
    · exact He.free_ok X G (c.fact 38 (f := .free "isinstance") rfl)
    · exact He.free_ok X G (c.fact 39 (f := .free "sum") rfl)
    · exact He.free_ok X G (c.fact 40 (f := .free "all") rfl)
    · exact He.free_ok X G (c.fact 41 (f := .free "any") rfl)
    · exact He.free_ok X G (c.fact 42 (f := .free "max") rfl)
    · exact He.free_ok X G (c.fact 43 (f := .free "min") rfl)
    · exact He.free_ok X G (c.fact 44 (f := .free "repr") rfl)
    · exact He.free_ok X G (c.fact 45 (f := .free "str") rfl)
    · exact He.free_ok X G (c.fact 46 (f := .free "tuple") rfl)
    · exact He.free_ok X G (c.fact 47 (f := .free "bool") rfl)
    · exact He.free_ok X G (c.fact 48 (f := .free "dict") rfl)
  · match f, e with
    | 0, e => cases e; exact ok0 X G c
    | 1, e => cases e; exact ok1 X G c
    | 2, e => cases e; exact ok2 X G c
    | 3, e => cases e; exact ok3 X G c
    | 4, e => cases e; exact ok4 X G c
    | 5, e => cases e; exact ok5 X G c
    | 6, e => cases e; exact ok6 X G c
    | 7, e => cases e; exact ok7 X G c
    | 8, e => cases e; exact ok8 X G c
    | 9, e => cases e; exact ok9 X G c
    | 10, e => cases e; exact ok10 X G c
    | 11, e => cases e; exact ok11 X G c
    | 12, e => cases e; exact ok12 X G c
    | 13, e => cases e; exact ok13 X G c
    | 14, e => cases e; exact ok14 X G c
    | 15, e => cases e; exact ok15 X G c
    | 16, e => cases e; exact ok16 X G c
    | 17, e => cases e; exact ok17 X G c
    | 18, e => cases e; exact ok18 X G c
    | 19, e => cases e; exact ok19 X G c
    | 20, e => cases e; exact ok20 X G c
    | 21, e => cases e; exact ok21 X G c
    | 22, e => cases e; exact ok22 X G c
    | 23, e => cases e; exact ok23 X G c
    | 24, e => cases e; exact ok24 X G c
    | f + 25, e => exact absurd (show (none : Option DefE) = some de from e) (fun z => nomatch z)
end
end Pr

namespace K35
/-! ## sums of unit fractions, in plain numbers -/
def lc : Nat → Nat
  | 0 => 1
  | n + 1 => Nat.lcm (lc n) (n + 1)
theorem lc_pos : ∀ n, 0 < lc n
  | 0 => by decide
  | n + 1 => Nat.lcm_pos (lc_pos n) (Nat.succ_pos n)
theorem lc_dvd : ∀ (n i : Nat), 1 ≤ i → i ≤ n → i ∣ lc n
  | 0, i, h1, h2 => by omega
  | n + 1, i, h1, h2 => by
    unfold lc
    by_cases e : i = n + 1
    · rw [e]
      exact Nat.dvd_lcm_right _ _
    · exact Nat.dvd_trans (lc_dvd n i h1 (by omega)) (Nat.dvd_lcm_left _ _)
def M : Nat := lc 2000
theorem M_pos : 0 < M := lc_pos 2000
theorem M_lt : M < 2 ^ 2900 := by unfold M; decide +kernel
theorem M_dvd {i : Nat} (h1 : 1 ≤ i) (h2 : i ≤ 2000) : i ∣ M := lc_dvd 2000 i h1 h2
def A (lo : Nat) : Nat → Nat
  | 0 => 0
  | n + 1 => A lo n + M / (lo + n)
theorem A_add (lo n : Nat) : ∀ m, A lo (n + m) = A lo n + A (lo + n) m
  | 0 => rfl
  | m + 1 => by
    show A lo (n + m) + M / (lo + (n + m)) = A lo n + (A (lo + n) m + M / (lo + n + m))
    rw [A_add lo n m, Nat.add_assoc, Nat.add_assoc]
theorem A_le (lo : Nat) : ∀ n, A lo n ≤ n * M
  | 0 => Nat.zero_le _
  | n + 1 => by
    show A lo n + M / (lo + n) ≤ _
    have := A_le lo n
    have := Nat.div_le_self M (lo + n)
    rw [Nat.succ_mul]
    omega
/-- a / b is the sum of 1 / i, n numbers i from lo on, in least terms -/
structure Fr (lo n a b : Nat) : Prop where
  a0 : 0 < a
  b0 : 0 < b
  co : Nat.Coprime a b
  eq : a * M = b * A lo n
theorem Fr.one {lo : Nat} (h1 : 1 ≤ lo) (h2 : lo ≤ 2000) : Fr lo 1 1 lo :=
  ⟨by omega, by omega, Nat.gcd_one_left lo, by
    show 1 * M = lo * (0 + M / (lo + 0))
    rw [Nat.one_mul, Nat.zero_add, Nat.add_zero, Nat.mul_div_cancel' (M_dvd h1 h2)]⟩
theorem Fr.plus {lo n m a b c d : Nat} (h : Fr lo n a b) (k : Fr (lo + n) m c d) : Fr lo (n + m) ((a * d + c * b) / Nat.gcd (a * d + c * b) (b * d)) ((b * d) / Nat.gcd (a * d + c * b) (b * d)) := by
  have hD : 0 < b * d := Nat.mul_pos h.b0 k.b0
  have hN : 0 < a * d + c * b := Nat.add_pos_left (Nat.mul_pos h.a0 k.b0) _
  have g0 : 0 < Nat.gcd (a * d + c * b) (b * d) := Nat.gcd_pos_of_pos_right _ hD
  have e1 := Nat.gcd_dvd_left (a * d + c * b) (b * d)
  have e2 := Nat.gcd_dvd_right (a * d + c * b) (b * d)
  refine ⟨Nat.div_pos (Nat.le_of_dvd hN e1) g0, Nat.div_pos (Nat.le_of_dvd hD e2) g0, Nat.coprime_div_gcd_div_gcd g0, ?_⟩
  have key : (a * d + c * b) * M = (b * d) * (A lo n + A (lo + n) m) := by
    have x1 : a * d * M = b * d * A lo n := by rw [Nat.mul_right_comm a d M, h.eq, Nat.mul_right_comm]
    have x2 : c * b * M = b * d * A (lo + n) m := by rw [Nat.mul_right_comm c b M, k.eq, Nat.mul_comm b d, Nat.mul_right_comm]
    rw [Nat.add_mul, x1, x2, Nat.mul_add]
  rw [A_add]
  generalize Nat.gcd (a * d + c * b) (b * d) = g at *
  obtain ⟨u, hu⟩ := e1
  obtain ⟨v, hv⟩ := e2
  rw [hu, hv, Nat.mul_div_cancel_left _ g0, Nat.mul_div_cancel_left _ g0]
  rw [hu, hv, Nat.mul_assoc, Nat.mul_assoc] at key
  exact Nat.eq_of_mul_eq_mul_left g0 key
theorem Fr.uniq {lo n a b c d : Nat} (h : Fr lo n a b) (k : Fr lo n c d) : a = c ∧ b = d := by
  have x : a * d = c * b := by
    have y : a * d * M = c * b * M := by
      rw [Nat.mul_right_comm a d M, h.eq, Nat.mul_right_comm c b M, k.eq, Nat.mul_right_comm b, Nat.mul_comm b d, Nat.mul_right_comm d b]
    exact Nat.eq_of_mul_eq_mul_right M_pos y
  have b1 : b ∣ d := Nat.Coprime.dvd_of_dvd_mul_left h.co.symm (x ▸ Nat.dvd_mul_left b c)
  have d1 : d ∣ b := Nat.Coprime.dvd_of_dvd_mul_left k.co.symm (x ▸ Nat.dvd_mul_left d a)
  have e : b = d := Nat.dvd_antisymm b1 d1
  subst e
  exact ⟨Nat.eq_of_mul_eq_mul_right h.b0 x, rfl⟩
theorem Fr.small {lo n a b : Nat} (h : Fr lo n a b) (hn : n ≤ 2000) : a < 2 ^ 3000 ∧ b < 2 ^ 3000 := by
  have b1 : b ∣ M := Nat.Coprime.dvd_of_dvd_mul_left h.co.symm (h.eq ▸ Nat.dvd_mul_right b _)
  have b2 : b ≤ M := Nat.le_of_dvd M_pos b1
  have a1 : a * M ≤ (b * n) * M := by
    rw [h.eq, Nat.mul_assoc]
    exact Nat.mul_le_mul_left b (A_le lo n)
  have a2 : a ≤ b * n := Nat.le_of_mul_le_mul_right a1 M_pos
  have a3 : b * n ≤ M * 2000 := Nat.mul_le_mul b2 hn
  have m1 := M_lt
  have p1 : (2 : Nat) ^ 2900 * 2000 ≤ 2 ^ 3000 := by decide +kernel
  have p2 : (2 : Nat) ^ 2900 ≤ 2 ^ 3000 := by decide +kernel
  have m2 : M * 2000 < 2 ^ 2900 * 2000 := Nat.mul_lt_mul_of_pos_right m1 (by decide)
  exact ⟨Nat.lt_of_le_of_lt (Nat.le_trans a2 a3) (Nat.lt_of_lt_of_le m2 p1), Nat.lt_of_le_of_lt b2 (Nat.lt_of_lt_of_le m1 p2)⟩
end K35

namespace K35
open PySem Ev
/-! ## the lengths -/
def len (m s i : Nat) : Nat := m / s + if i < m % s then 1 else 0
def lens (m s : Nat) : List Int := (List.range s).map fun i => (len m s i : Int)
def most (m s : Nat) : Nat := m / s + if 0 < m % s then 1 else 0
theorem lens_length (m s : Nat) : (lens m s).length = s := by simp [lens]
theorem lens_get {m s i : Nat} (h : i < s) : (lens m s)[i]? = some (len m s i : Int) := by
  unfold lens
  rw [List.getElem?_map, List.getElem?_range h]
  rfl
theorem sum_low (q r : Nat) : ∀ n : Nat, (((List.range n).map fun i => ((q + if i < r then 1 else 0 : Nat) : Int)).sum) = ((n * q + min n r : Nat) : Int)
  | 0 => by simp
  | n + 1 => by
    rw [List.range_succ, List.map_append, List.sum_append, sum_low q r n]
    simp only [List.map_cons, List.map_nil, List.sum_cons, List.sum_nil]
    have : (n + 1) * q = n * q + q := Nat.succ_mul n q
    by_cases h : n < r
    · rw [if_pos h]; omega
    · rw [if_neg h]; omega
theorem lens_sum {m s : Nat} (h : 1 ≤ s) : (lens m s).sum = (m : Int) := by
  have e := sum_low (m / s) (m % s) s
  have h1 : m % s < s := Nat.mod_lt _ h
  have h2 := Nat.div_add_mod m s
  unfold lens len
  rw [e, Nat.min_eq_right (by omega), h2]
theorem len_desc {m s i j : Nat} (h : i ≤ j) : len m s j ≤ len m s i := by
  unfold len
  split <;> split <;> omega
theorem len_pos {m s i : Nat} (h1 : 1 ≤ s) (h2 : s ≤ m) : 1 ≤ len m s i := by
  have : 1 ≤ m / s := (Nat.le_div_iff_mul_le h1).mpr (by omega)
  unfold len
  omega
theorem most_eq (m s : Nat) : most m s = len m s 0 := rfl
theorem most_bounds {m s : Nat} (h1 : 1 ≤ s) (h2 : s ≤ m) : 1 ≤ most m s ∧ most m s ≤ m := by
  refine ⟨len_pos (i := 0) h1 h2, ?_⟩
  have e := Nat.div_add_mod m s
  have : m / s ≤ s * (m / s) := Nat.le_mul_of_pos_left _ h1
  unfold most
  split <;> omega
theorem most_ceil {m s : Nat} (h1 : 1 ≤ s) : (m + s - 1) / s = most m s := by
  have e := Nat.div_add_mod m s
  have hr : m % s < s := Nat.mod_lt _ h1
  unfold most
  split
  · have : m + s - 1 = (m % s - 1) + s * (m / s + 1) := by rw [Nat.mul_add]; omega
    rw [this, Nat.add_mul_div_left _ _ h1, Nat.div_eq_of_lt (by omega)]
    omega
  · have : m + s - 1 = (s - 1) + s * (m / s) := by omega
    rw [this, Nat.add_mul_div_left _ _ h1, Nat.div_eq_of_lt (by omega)]
    omega
theorem lens_pw (m s : Nat) : (lens m s).Pairwise fun a b => b ≤ a := by
  unfold lens
  rw [List.pairwise_map]
  exact (List.pairwise_lt_range (n := s)).imp fun {i j} h => by
    have := len_desc (m := m) (s := s) (Nat.le_of_lt h)
    omega
theorem lens_sorted (m s : Nat) : sortI (lens m s) = (lens m s).reverse :=
  (sortI_one (List.reverse_perm _) (List.pairwise_reverse.mpr (lens_pw m s))).symm
theorem lens_cons {m s : Nat} (h : 1 ≤ s) : ∃ r, lens m s = (most m s : Int) :: r ∧ ∀ x ∈ r, x ≤ (most m s : Int) := by
  have p := lens_pw m s
  cases e : lens m s with
  | nil =>
    have := lens_length m s
    rw [e] at this
    simp at this
    omega
  | cons a r =>
    have g := lens_get (m := m) (show 0 < s by omega)
    rw [e] at g
    have g : some a = some (len m s 0 : Int) := g
    cases g
    rw [e] at p
    exact ⟨r, rfl, (List.pairwise_cons.mp p).1⟩
end K35

namespace K35
open PySem Ev Pr
/-- the fuel -/
def fu : Nat := 2 ^ 8000
abbrev rn (d f : Nat) (xs : List L) (h : LH) : Res L := runD T fu Ds d f xs h
theorem log_lt {a k : Nat} (h : a < 2 ^ k) (hk : 0 < k) : a.log2 < k := by
  by_cases e : a = 0
  · subst e
    simpa using hk
  · exact (Nat.log2_lt e).mpr h
theorem mul_ok {a b : Int} (ha : a.natAbs < 2 ^ 9000) (hb : b.natAbs < 2 ^ 9000) : mulOk a b = true := by
  unfold mulOk
  have h1 := log_lt ha (by decide)
  have h2 := log_lt hb (by decide)
  exact decide_eq_true (by omega)
theorem div_ok {b : Int} (h0 : b ≠ 0) (hb : b.natAbs < 2 ^ 9000) : divOk b = true := by
  unfold divOk
  rw [Bool.and_eq_true, decide_eq_true_eq, decide_eq_true_eq]
  exact ⟨h0, log_lt hb (by decide)⟩
theorem up {a k j : Nat} (h : a < 2 ^ k) (hk : k ≤ j) : a < 2 ^ j := Nat.lt_of_lt_of_le h (Nat.pow_le_pow_right (by decide) hk)
section
/-! ## gcd -/
theorem loop_gcd {g : Nat} {R : Nat → List L → LH → Res L} {h : LH} : ∀ (n : Nat) (a b : Nat), b < n →
    loopW (fun ls h => boolR (evE T R (.cmp .gt (.var 1) (.int 0)) ls h)) (evSs T R g [.par 0 1 (.var 1) (.bin .mod (.var 0) (.var 1))]) n [.sh (.int a), .sh (.int b)] h = .ok (.nx [.sh (.int (Nat.gcd a b : Nat)), .sh (.int 0)]) h
  | 0, a, b, hb => absurd hb (Nat.not_lt_zero _)
  | n + 1, a, 0, hb => by
    unfold loopW
    simp [evSs, evS, evE, evEs, evAnd, evOr, evO, evF, evC, evI, evBin, evCmp, evBlt, evIdx, evSlc, evSlcL, asgT, asgT.asgTs, startL, isL, frzL, seqB]
  | n + 1, a, b + 1, hb => by
    have hm : a % (b + 1) < n := by
      have := Nat.mod_lt a (Nat.succ_pos b)
      simp only [Nat.succ_eq_add_one] at this
      omega
    have ih := loop_gcd (g := g) (h := h) (R := R) n (b + 1) (a % (b + 1)) hm
    have e : Nat.gcd (b + 1) (a % (b + 1)) = Nat.gcd a (b + 1) := by rw [Nat.gcd_comm, ← Nat.gcd_rec, Nat.gcd_comm]
    have c1 : boolR (evE T R (.cmp .gt (.var 1) (.int 0)) [.sh (.int a), .sh (.int ((b + 1 : Nat) : Int))] h) = .ok true h := by
      have : (0 : Int) < ((b + 1 : Nat) : Int) := by omega
      simp [evSs, evS, evE, evEs, evAnd, evOr, evO, evF, evC, evI, evBin, evCmp, evBlt, evIdx, evSlc, evSlcL, asgT, asgT.asgTs, startL, isL, frzL, seqB, this]
    have b1 : evSs T R g [.par 0 1 (.var 1) (.bin .mod (.var 0) (.var 1))] [.sh (.int a), .sh (.int ((b + 1 : Nat) : Int))] h = .ok (.nx [.sh (.int ((b + 1 : Nat) : Int)), .sh (.int ((a % (b + 1) : Nat) : Int))]) h := by
      have : ((b + 1 : Nat) : Int) ≠ 0 := by omega
      have e2 : Int.fmod (a : Int) ((b + 1 : Nat) : Int) = ((a % (b + 1) : Nat) : Int) := by
        rw [Int.fmod_eq_emod_of_nonneg _ (by omega)]
        rfl
      simp only [evSs, evS, evE, evEs, evAnd, evOr, evO, evF, evC, evI, evBin, evCmp, evBlt, evIdx, evSlc, evSlcL, asgT, asgT.asgTs, startL, isL, frzL, seqB, slotV_0, slotV_s, Res.opt_some, Res.bind_ok, e2, this, ne_eq, not_false_eq_true, if_true]
      rfl
    unfold loopW
    rw [c1, Res.bind_ok, if_pos rfl, b1, Res.bind_ok]
    rw [e] at ih
    exact ih
/-- common -/
theorem run_common {d : Nat} {a b : Nat} {h : LH} (hf : b < fu) : runD T fu Ds (d + 1) 2 [.int a, .int b] h = .ok (.int (Nat.gcd a b : Nat)) h := by
  rw [runD_at (de := d2) rfl rfl]
  have habs : ∀ x : Nat, (if (x : Int) < 0 then -(x : Int) else x) = (x : Int) := fun x => by rw [if_neg (by omega)]
  have s1 : evS T (runD T fu Ds d) fu (.par 0 1 (.blt .abs [.var 0]) (.blt .abs [.var 1])) [.sh (.int a), .sh (.int b)] h = .ok (.nx [.sh (.int a), .sh (.int b)]) h := by
    simp only [evSs, evS, evE, evEs, evAnd, evOr, evO, evF, evC, evI, evBin, evCmp, evBlt, evIdx, evSlc, evSlcL, asgT, asgT.asgTs, startL, isL, frzL, seqB, slotV_0, slotV_s, Res.opt_some, Res.bind_ok, habs]
    rfl
  have s2 := loop_gcd (R := runD T fu Ds d) (h := h) (g := fu) fu a b hf
  show fin (evSs T (runD T fu Ds d) fu b2 [.sh (.int a), .sh (.int b)] h) = _
  unfold b2
  simp only [evSs]
  rw [s1]
  simp only [Res.bind_ok]
  rw [evS, s2]
  simp [evSs, evS, evE, evEs, evAnd, evOr, evO, evF, evC, evI, evBin, evCmp, evBlt, evIdx, evSlc, evSlcL, asgT, asgT.asgTs, startL, isL, frzL, seqB]
theorem ediv_nat (a b : Nat) : Int.fdiv (a : Int) (b : Int) = ((a / b : Nat) : Int) := by
  rw [Int.fdiv_eq_ediv_of_nonneg _ (by omega)]
  rfl
/-- ratio -/
theorem run_ratio {d : Nat} {a b : Nat} {h : LH} (hb : 0 < b) (hs : b < fu) : runD T fu Ds (d + 2) 3 [.int a, .int b] h = .ok (.tup [.int (a / Nat.gcd a b : Nat), .int (b / Nat.gcd a b : Nat)]) h := by
  rw [runD_at (de := d3) rfl rfl]
  show fin (evSs T (runD T fu Ds (d + 1)) fu b3 [.sh (.int a), .sh (.int b), .no] h) = _
  have g0 : 0 < Nat.gcd a b := Nat.gcd_pos_of_pos_right _ hb
  have gs : Nat.gcd a b < 2 ^ 9000 := Nat.lt_of_le_of_lt (Nat.gcd_le_right _ hb) (up hs (by decide))
  have c := run_common (d := d) (a := a) (h := h) hs
  have n1 : ¬ ((b : Int) < 0) := by omega
  have m1 : mulOk ((Nat.gcd a b : Nat) : Int) 1 = true := mul_ok gs (by decide)
  have q1 : divOk ((Nat.gcd a b : Nat) : Int) = true := div_ok (by omega) gs
  unfold b3
  simp [evSs, evS, evE, evEs, evAnd, evOr, evO, evF, evC, evI, evBin, evCmp, evBlt, evIdx, evSlc, evSlcL, asgT, asgT.asgTs, startL, isL, frzL, seqB, c, n1, m1, q1, ediv_nat]
theorem pow_mul_lt {a b k j : Nat} (ha : a < 2 ^ k) (hb : b < 2 ^ j) : a * b < 2 ^ (k + j) := by
  rw [Nat.pow_add]
  exact Nat.mul_lt_mul'' ha hb
/-- plus -/
theorem run_plus {d : Nat} {a b x y : Nat} {h : LH} (ha : a < 2 ^ 3000) (hb : b < 2 ^ 3000) (hx : x < 2 ^ 3000) (hy : y < 2 ^ 3000) (b0 : 0 < b) (y0 : 0 < y) :
    runD T fu Ds (d + 3) 6 [.tup [.int a, .int b], .tup [.int x, .int y]] h = .ok (.tup [.int ((a * y + x * b) / Nat.gcd (a * y + x * b) (b * y) : Nat), .int ((b * y) / Nat.gcd (a * y + x * b) (b * y) : Nat)]) h := by
  rw [runD_at (de := d6) rfl rfl]
  show fin (evSs T (runD T fu Ds (d + 2)) fu b6 [.sh (.tup [.int a, .int b]), .sh (.tup [.int x, .int y])] h) = _
  have c := run_ratio (d := d) (a := a * y + x * b) (b := b * y) (h := h) (Nat.mul_pos b0 y0) (up (pow_mul_lt hb hy) (by decide))
  have m1 : mulOk (a : Int) (y : Int) = true := mul_ok (up ha (by decide)) (up hy (by decide))
  have m2 : mulOk (x : Int) (b : Int) = true := mul_ok (up hx (by decide)) (up hb (by decide))
  have m3 : mulOk (b : Int) (y : Int) = true := mul_ok (up hb (by decide)) (up hy (by decide))
  have i0 : ∀ (u v : L), L2.atI [u, v] 0 = some u := fun _ _ => rfl
  have i1 : ∀ (u v : L), L2.atI [u, v] 1 = some v := fun _ _ => rfl
  simp only [Int.natCast_add, Int.natCast_mul] at c
  unfold b6
  simp [evSs, evS, evE, evEs, evAnd, evOr, evO, evF, evC, evI, evBin, evCmp, evBlt, evIdx, evSlc, evSlcL, asgT, asgT.asgTs, startL, isL, frzL, seqB, c, m1, m2, m3, i0, i1]
theorem loop_gcd2 {g : Nat} {R : Nat → List L → LH → Res L} {h : LH} {s0 s1 s2 : Sl} : ∀ (n : Nat) (a b : Nat), b < n →
    loopW (fun ls h => boolR (evE T R (.cmp .gt (.var 4) (.int 0)) ls h)) (evSs T R g [.par 3 4 (.var 4) (.bin .mod (.blt .int [.var 3]) (.blt .int [.var 4]))]) n [s0, s1, s2, .sh (.int a), .sh (.int b)] h = .ok (.nx [s0, s1, s2, .sh (.int (Nat.gcd a b : Nat)), .sh (.int 0)]) h
  | 0, a, b, hb => absurd hb (Nat.not_lt_zero _)
  | n + 1, a, 0, hb => by
    unfold loopW
    simp [evSs, evS, evE, evEs, evAnd, evOr, evO, evF, evC, evI, evBin, evCmp, evBlt, evIdx, evSlc, evSlcL, asgT, asgT.asgTs, startL, isL, frzL, seqB]
  | n + 1, a, b + 1, hb => by
    have hm : a % (b + 1) < n := by
      have := Nat.mod_lt a (Nat.succ_pos b)
      simp only [Nat.succ_eq_add_one] at this
      omega
    have ih := loop_gcd2 (g := g) (h := h) (R := R) (s0 := s0) (s1 := s1) (s2 := s2) n (b + 1) (a % (b + 1)) hm
    have e : Nat.gcd (b + 1) (a % (b + 1)) = Nat.gcd a (b + 1) := by rw [Nat.gcd_comm, ← Nat.gcd_rec, Nat.gcd_comm]
    have c1 : boolR (evE T R (.cmp .gt (.var 4) (.int 0)) [s0, s1, s2, .sh (.int a), .sh (.int ((b + 1 : Nat) : Int))] h) = .ok true h := by
      have : (0 : Int) < ((b + 1 : Nat) : Int) := by omega
      simp [evSs, evS, evE, evEs, evAnd, evOr, evO, evF, evC, evI, evBin, evCmp, evBlt, evIdx, evSlc, evSlcL, asgT, asgT.asgTs, startL, isL, frzL, seqB, this]
    have b1 : evSs T R g [.par 3 4 (.var 4) (.bin .mod (.blt .int [.var 3]) (.blt .int [.var 4]))] [s0, s1, s2, .sh (.int a), .sh (.int ((b + 1 : Nat) : Int))] h = .ok (.nx [s0, s1, s2, .sh (.int ((b + 1 : Nat) : Int)), .sh (.int ((a % (b + 1) : Nat) : Int))]) h := by
      have : ((b + 1 : Nat) : Int) ≠ 0 := by omega
      have e2 : Int.fmod (a : Int) ((b + 1 : Nat) : Int) = ((a % (b + 1) : Nat) : Int) := by
        rw [Int.fmod_eq_emod_of_nonneg _ (by omega)]
        rfl
      simp only [evSs, evS, evE, evEs, evAnd, evOr, evO, evF, evC, evI, evBin, evCmp, evBlt, evIdx, evSlc, evSlcL, asgT, asgT.asgTs, startL, isL, frzL, seqB, slotV_0, slotV_s, Res.opt_some, Res.bind_ok, e2, this, ne_eq, not_false_eq_true, if_true]
      rfl
    unfold loopW
    rw [c1, Res.bind_ok, if_pos rfl, b1, Res.bind_ok]
    rw [e] at ih
    exact ih
theorem run_lratio {d : Nat} {a b : Nat} {h : LH} (ha : a < 2 ^ 9000) (hb : 0 < b) (hs : b < fu) : runD T fu Ds (d + 1) 17 [.int a, .int b] h = .ok (.tup [.int (a / Nat.gcd a b : Nat), .int (b / Nat.gcd a b : Nat)]) h := by
  rw [runD_at (de := d17) rfl rfl]
  have habs : ∀ x : Nat, (if (x : Int) < 0 then -(x : Int) else x) = (x : Int) := fun x => by rw [if_neg (by omega)]
  have g0 : 0 < Nat.gcd a b := Nat.gcd_pos_of_pos_right _ hb
  have gs : Nat.gcd a b < 2 ^ 9000 := Nat.lt_of_le_of_lt (Nat.gcd_le_right _ hb) (up hs (by decide))
  have s1 : evS T (runD T fu Ds d) fu (.par 3 4 (.blt .abs [.blt .int [.var 0]]) (.blt .abs [.blt .int [.var 1]])) [.sh (.int a), .sh (.int b), .no, .no, .no] h = .ok (.nx [.sh (.int a), .sh (.int b), .no, .sh (.int a), .sh (.int b)]) h := by
    simp only [evSs, evS, evE, evEs, evAnd, evOr, evO, evF, evC, evI, evBin, evCmp, evBlt, evIdx, evSlc, evSlcL, asgT, asgT.asgTs, startL, isL, frzL, seqB, slotV_0, slotV_s, Res.opt_some, Res.bind_ok, habs]
    rfl
  have s2 := loop_gcd2 (R := runD T fu Ds d) (h := h) (g := fu) (s0 := .sh (.int a)) (s1 := .sh (.int b)) (s2 := .no) fu a b hs
  show fin (evSs T (runD T fu Ds d) fu b17 [.sh (.int a), .sh (.int b), .no, .no, .no] h) = _
  have n1 : ¬ ((b : Int) < 0) := by omega
  have m1 : mulOk 1 (a : Int) = true := mul_ok (by decide) ha
  have m2 : mulOk 1 (b : Int) = true := mul_ok (by decide) (up hs (by decide))
  have q1 : divOk ((Nat.gcd a b : Nat) : Int) = true := div_ok (by omega) gs
  unfold b17
  simp only [evSs]
  rw [s1]
  simp only [Res.bind_ok]
  rw [evS, s2]
  simp [evSs, evS, evE, evEs, evAnd, evOr, evO, evF, evC, evI, evBin, evCmp, evBlt, evIdx, evSlc, evSlcL, asgT, asgT.asgTs, startL, isL, frzL, seqB, n1, m1, m2, q1, ediv_nat]
theorem run_lplus {d : Nat} {a b x y : Nat} {h : LH} (ha : a < 2 ^ 3000) (hb : b < 2 ^ 3000) (hx : x < 2 ^ 3000) (hy : y < 2 ^ 3000) (b0 : 0 < b) (y0 : 0 < y) :
    runD T fu Ds (d + 2) 18 [.tup [.int a, .int b], .tup [.int x, .int y]] h = .ok (.tup [.int ((a * y + x * b) / Nat.gcd (a * y + x * b) (b * y) : Nat), .int ((b * y) / Nat.gcd (a * y + x * b) (b * y) : Nat)]) h := by
  rw [runD_at (de := d18) rfl rfl]
  show fin (evSs T (runD T fu Ds (d + 1)) fu b18 [.sh (.tup [.int a, .int b]), .sh (.tup [.int x, .int y])] h) = _
  have hs : a * y + x * b < 2 ^ 9000 := by
    have h1 := up (pow_mul_lt ha hy) (show 6000 ≤ 8000 by decide)
    have h2 := up (pow_mul_lt hx hb) (show 6000 ≤ 8000 by decide)
    have h3 : (2 : Nat) ^ 8000 + 2 ^ 8000 ≤ 2 ^ 9000 := by decide +kernel
    omega
  have c := run_lratio (d := d) (a := a * y + x * b) (b := b * y) (h := h) hs (Nat.mul_pos b0 y0) (up (pow_mul_lt hb hy) (by decide))
  have m1 : mulOk (a : Int) (y : Int) = true := mul_ok (up ha (by decide)) (up hy (by decide))
  have m2 : mulOk (x : Int) (b : Int) = true := mul_ok (up hx (by decide)) (up hb (by decide))
  have m3 : mulOk (b : Int) (y : Int) = true := mul_ok (up hb (by decide)) (up hy (by decide))
  have i0 : ∀ (u v : L), L2.atI [u, v] 0 = some u := fun _ _ => rfl
  have i1 : ∀ (u v : L), L2.atI [u, v] 1 = some v := fun _ _ => rfl
  simp only [Int.natCast_add, Int.natCast_mul] at c
  unfold b18
  simp [evSs, evS, evE, evEs, evAnd, evOr, evO, evF, evC, evI, evBin, evCmp, evBlt, evIdx, evSlc, evSlcL, asgT, asgT.asgTs, startL, isL, frzL, seqB, c, m1, m2, m3, i0, i1]
theorem step_sum1 {d : Nat} {lo hi : Int} {h : LH} (h1 : hi - lo = 1) : runD T fu Ds (d + 1) 8 [.int lo, .int hi] h = .ok (.tup [.int 1, .int lo]) h := by
  rw [runD_at (de := d8) rfl rfl]
  show fin (evSs T (runD T fu Ds d) fu b8 [.sh (.int lo), .sh (.int hi), .no] h) = _
  unfold b8
  simp [evSs, evS, evE, evEs, evAnd, evOr, evO, evF, evC, evI, evBin, evCmp, evBlt, evIdx, evSlc, evSlcL, asgT, asgT.asgTs, startL, isL, frzL, seqB, h1]
theorem step_sum {d : Nat} {lo hi mid : Int} {p q r : L} {h : LH} (h1 : hi - lo ≠ 1) (h2 : Int.fdiv (lo + hi) 2 = mid) (c1 : runD T fu Ds d 8 [.int lo, .int mid] h = .ok p h) (c2 : runD T fu Ds d 8 [.int mid, .int hi] h = .ok q h)
    (c3 : runD T fu Ds d 6 [p, q] h = .ok r h) : runD T fu Ds (d + 1) 8 [.int lo, .int hi] h = .ok r h := by
  rw [runD_at (de := d8) rfl rfl]
  show fin (evSs T (runD T fu Ds d) fu b8 [.sh (.int lo), .sh (.int hi), .no] h) = _
  have q2 : divOk 2 = true := by decide +kernel
  unfold b8
  simp [evSs, evS, evE, evEs, evAnd, evOr, evO, evF, evC, evI, evBin, evCmp, evBlt, evIdx, evSlc, evSlcL, asgT, asgT.asgTs, startL, isL, frzL, seqB, h1, h2, q2, c1, c2, c3]
theorem step_lsum1 {d : Nat} {lo hi : Int} {h : LH} (h1 : hi - lo < 2) : runD T fu Ds (d + 1) 20 [.int lo, .int hi] h = .ok (.tup [.int 1, .int lo]) h := by
  rw [runD_at (de := d20) rfl rfl]
  show fin (evSs T (runD T fu Ds d) fu b20 [.sh (.int lo), .sh (.int hi), .no] h) = _
  unfold b20
  simp [evSs, evS, evE, evEs, evAnd, evOr, evO, evF, evC, evI, evBin, evCmp, evBlt, evIdx, evSlc, evSlcL, asgT, asgT.asgTs, startL, isL, frzL, seqB, h1]
theorem step_lsum {d : Nat} {lo hi mid : Int} {p q r : L} {h : LH} (h1 : ¬ hi - lo < 2) (h2 : Int.fdiv (lo + hi) 2 = mid) (c1 : runD T fu Ds d 20 [.int lo, .int mid] h = .ok p h) (c2 : runD T fu Ds d 20 [.int mid, .int hi] h = .ok q h)
    (c3 : runD T fu Ds d 18 [p, q] h = .ok r h) : runD T fu Ds (d + 1) 20 [.int lo, .int hi] h = .ok r h := by
  rw [runD_at (de := d20) rfl rfl]
  show fin (evSs T (runD T fu Ds d) fu b20 [.sh (.int lo), .sh (.int hi), .no] h) = _
  have q2 : divOk 2 = true := by decide +kernel
  unfold b20
  simp [evSs, evS, evE, evEs, evAnd, evOr, evO, evF, evC, evI, evBin, evCmp, evBlt, evIdx, evSlc, evSlcL, asgT, asgT.asgTs, startL, isL, frzL, seqB, h1, h2, q2, c1, c2, c3]
/-- sum_between, by halves: the program's and the law's -/
theorem run_sum : ∀ (k lo n : Nat), 1 ≤ n → n ≤ 2 ^ k → 1 ≤ lo → lo + n ≤ 2001 → ∃ a b, Fr lo n a b ∧ (∀ (d : Nat) (h : LH), runD T fu Ds (d + k + 4) 8 [.int lo, .int (lo + n : Nat)] h = .ok (.tup [.int a, .int b]) h) ∧
    ∀ (d : Nat) (h : LH), runD T fu Ds (d + k + 4) 20 [.int lo, .int (lo + n : Nat)] h = .ok (.tup [.int a, .int b]) h
  | k, lo, 1, _, _, h3, h4 => ⟨1, lo, Fr.one h3 (by omega), fun d h => step_sum1 (by omega), fun d h => step_lsum1 (by omega)⟩
  | 0, lo, n + 2, _, h2, _, _ => by simp at h2
  | k + 1, lo, n + 2, _, h2, h3, h4 => by
    have hp : 2 ^ (k + 1) = 2 * 2 ^ k := by rw [Nat.pow_succ, Nat.mul_comm]
    obtain ⟨a, b, f1, r1, t1⟩ := run_sum k lo ((n + 2) / 2) (by omega) (by omega) h3 (by omega)
    obtain ⟨x, y, f2, r2, t2⟩ := run_sum k (lo + (n + 2) / 2) ((n + 2) - (n + 2) / 2) (by omega) (by omega) (by omega) (by omega)
    have f3 := f1.plus f2
    rw [show (n + 2) / 2 + ((n + 2) - (n + 2) / 2) = n + 2 by omega] at f3
    rw [show lo + (n + 2) / 2 + (n + 2 - (n + 2) / 2) = lo + (n + 2) by omega] at r2 t2
    have e2 : Int.fdiv ((lo : Int) + ((lo + (n + 2) : Nat) : Int)) 2 = ((lo + (n + 2) / 2 : Nat) : Int) := by
      rw [Int.fdiv_eq_ediv_of_nonneg _ (by omega)]
      omega
    have s1 := f1.small (by omega)
    have s2 := f2.small (by omega)
    refine ⟨_, _, f3, fun d h => ?_, fun d h => ?_⟩
    · exact step_sum (d := d + k + 4) (by omega) e2 (r1 d h) (r2 d h) (run_plus (d := d + k + 1) s1.1 s1.2 s2.1 s2.2 f1.b0 f2.b0)
    · exact step_lsum (d := d + k + 4) (by omega) e2 (t1 d h) (t2 d h) (run_lplus (d := d + k + 2) s1.1 s1.2 s2.1 s2.2 f1.b0 f2.b0)
/-- the sum of 1/1 to 1/m, as both tell it -/
theorem sums {m : Nat} (h1 : 1 ≤ m) (h2 : m ≤ 2000) : ∃ a b, Fr 1 m a b ∧ (∀ (d : Nat) (h : LH), runD T fu Ds (d + 15) 8 [.int 1, .int (m + 1 : Int)] h = .ok (.tup [.int a, .int b]) h) ∧
    ∀ (d : Nat) (h : LH), runD T fu Ds (d + 15) 20 [.int 1, .int (m + 1 : Int)] h = .ok (.tup [.int a, .int b]) h := by
  obtain ⟨a, b, f, r, t⟩ := run_sum 11 1 m h1 (by omega) (by omega) (by omega)
  have e : ((1 + m : Nat) : Int) = (m : Int) + 1 := by omega
  rw [e] at r t
  exact ⟨a, b, f, r, t⟩
/-- is_integer -/
theorem run_isint {d : Nat} {v lo hi : Int} {h : LH} : runD T fu Ds (d + 1) 0 [.int v, .int lo, .int hi] h = .ok (.bl (decide (lo ≤ v) && decide (v ≤ hi))) h := by
  rw [runD_at (de := d0) rfl rfl]
  show fin (evSs T (runD T fu Ds d) fu b0 [.sh (.int v), .sh (.int lo), .sh (.int hi)] h) = _
  unfold b0
  by_cases c : lo ≤ v <;> simp [evSs, evS, evE, evEs, evAnd, evOr, evO, evF, evC, evI, evBin, evCmp, evBlt, evIdx, evSlc, evSlcL, asgT, asgT.asgTs, startL, isL, frzL, seqB, c]
theorem run_isint2 {d : Nat} {v lo : Int} {h : LH} : runD T fu Ds (d + 1) 0 [.int v, .int lo, .non] h = .ok (.bl (decide (lo ≤ v))) h := by
  rw [runD_at (de := d0) rfl rfl]
  show fin (evSs T (runD T fu Ds d) fu b0 [.sh (.int v), .sh (.int lo), .sh .non] h) = _
  unfold b0
  by_cases c : lo ≤ v <;> simp [evSs, evS, evE, evEs, evAnd, evOr, evO, evF, evC, evI, evBin, evCmp, evBlt, evIdx, evSlc, evSlcL, asgT, asgT.asgTs, startL, isL, frzL, seqB, c]
theorem run_isint1 {d : Nat} {v : Int} {h : LH} : runD T fu Ds (d + 1) 0 [.int v, .non, .non] h = .ok (.bl true) h := by
  rw [runD_at (de := d0) rfl rfl]
  show fin (evSs T (runD T fu Ds d) fu b0 [.sh (.int v), .sh .non, .sh .non] h) = _
  unfold b0
  simp [evSs, evS, evE, evEs, evAnd, evOr, evO, evF, evC, evI, evBin, evCmp, evBlt, evIdx, evSlc, evSlcL, asgT, asgT.asgTs, startL, isL, frzL, seqB]
/-- is_tuple -/
theorem run_istup {d : Nat} {xs : List L} {lo hi : Int} {h : LH} (h1 : lo ≤ xs.length) (h2 : (xs.length : Int) ≤ hi) : runD T fu Ds (d + 1) 1 [.tup xs, .int lo, .int hi] h = .ok (.bl true) h := by
  rw [runD_at (de := d1) rfl rfl]
  show fin (evSs T (runD T fu Ds d) fu b1 [.sh (.tup xs), .sh (.int lo), .sh (.int hi)] h) = _
  have n1 : ¬ ((xs.length : Int) < lo) := by omega
  unfold b1
  simp [evSs, evS, evE, evEs, evAnd, evOr, evO, evF, evC, evI, evBin, evCmp, evBlt, evIdx, evSlc, evSlcL, asgT, asgT.asgTs, startL, isL, frzL, seqB, n1, h2]
theorem run_check {d : Nat} {v : Int} {h : LH} (h1 : 1 ≤ v) (h2 : v ≤ 2000) : runD T fu Ds (d + 2) 7 [.int v] h = .ok .non h := by
  rw [runD_at (de := d7) rfl rfl]
  show fin (evSs T (runD T fu Ds (d + 1)) fu b7 [.sh (.int v)] h) = _
  have c := run_isint (d := d) (v := v) (lo := 1) (hi := 2000) (h := h)
  unfold b7
  simp [evSs, evS, evE, evEs, evAnd, evOr, evO, evF, evC, evI, evBin, evCmp, evBlt, evIdx, evSlc, evSlcL, asgT, asgT.asgTs, startL, isL, frzL, seqB, c, h1, h2]
theorem run_checkf {d : Nat} {v s : Int} {h : LH} (h1 : 1 ≤ v) (h2 : v ≤ 2000) (h3 : 1 ≤ s) (h4 : s ≤ v) : runD T fu Ds (d + 3) 10 [.int v, .int s] h = .ok .non h := by
  rw [runD_at (de := d10) rfl rfl]
  show fin (evSs T (runD T fu Ds (d + 2)) fu b10 [.sh (.int v), .sh (.int s)] h) = _
  have c1 := run_check (d := d) (h := h) h1 h2
  have c2 := run_isint (d := d + 1) (v := s) (lo := 1) (hi := v) (h := h)
  unfold b10
  simp [evSs, evS, evE, evEs, evAnd, evOr, evO, evF, evC, evI, evBin, evCmp, evBlt, evIdx, evSlc, evSlcL, asgT, asgT.asgTs, startL, isL, frzL, seqB, c1, c2, h3, h4]
/-- loss -/
theorem run_loss {d : Nat} {v : Int} {r : L} {h : LH} (h1 : 1 ≤ v) (h2 : v ≤ 2000) (c2 : runD T fu Ds (d + 2) 8 [.int 1, .int (v + 1)] h = .ok r h) : runD T fu Ds (d + 3) 9 [.int v] h = .ok r h := by
  rw [runD_at (de := d9) rfl rfl]
  show fin (evSs T (runD T fu Ds (d + 2)) fu b9 [.sh (.int v)] h) = _
  have c1 := run_check (d := d) (h := h) h1 h2
  unfold b9
  simp [evSs, evS, evE, evEs, evAnd, evOr, evO, evF, evC, evI, evBin, evCmp, evBlt, evIdx, evSlc, evSlcL, asgT, asgT.asgTs, startL, isL, frzL, seqB, c1, c2]
/-- fair -/
def compF : MF := .comp (.bin .add (.bin .fdiv (.var 0) (.var 1)) (.blt .int [.cmp .lt (.var 3) (.bin .mod (.var 0) (.var 1))])) (.n 3) (.rng1 (.var 1)) []
def gF (m s : Nat) : L → L
  | .int i => .int (if i < (m % s : Nat) then (m / s : Nat) + 1 else (m / s : Nat))
  | _ => .non
theorem comp_fair {R : Nat → List L → LH → Res L} {m s : Nat} {h : LH} (h1 : 1 ≤ s) (h2 : s ≤ 2000) : evF T R compF [.sh (.int m), .sh (.int s), .no, .no] h = .ok (.lst ((lens m s).map .int)) h := by
  have hr : rngOk (s : Int) = true := by
    unfold rngOk
    rw [Bool.and_eq_true, decide_eq_true_eq, decide_eq_true_eq]
    omega
  have e : evF T R compF [.sh (.int m), .sh (.int s), .no, .no] h = turns (fun ls h => (evE T R (.bin .add (.bin .fdiv (.var 0) (.var 1)) (.blt .int [.cmp .lt (.var 3) (.bin .mod (.var 0) (.var 1))])) ls h).calm) (fun ls h => (evC T R [] ls h).calm) (.n 3) [.sh (.int m), .sh (.int s), .no, .no] (rngL 0 s) [] h := by
    show (evI T R (.rng1 (.var 1)) [.sh (.int m), .sh (.int s), .no, .no] h).bind _ = _
    have e1 : evI T R (.rng1 (.var 1)) [.sh (.int m), .sh (.int s), .no, .no] h = .ok (rngL 0 s) h := by simp [evSs, evS, evE, evEs, evAnd, evOr, evO, evF, evC, evI, evBin, evCmp, evBlt, evIdx, evSlc, evSlcL, asgT, asgT.asgTs, startL, isL, frzL, seqB, hr]
    rw [e1]
    rfl
  rw [e, turns_map (gF m s) (rngL 0 s) [] (fun x hx => ?_) (by simp [rngL]; omega)]
  · congr 2
    unfold rngL lens
    rw [List.nil_append, List.map_map, List.map_map]
    refine List.map_congr_left fun i hi => ?_
    show gF m s (.int (0 + (i : Int))) = _
    unfold gF len
    simp only [Int.zero_add, Function.comp]
    congr 1
    split <;> split <;> omega
  · obtain ⟨i, hi, rfl⟩ := List.mem_map.mp hx
    have q1 : divOk (s : Int) = true := div_ok (by omega) (Nat.lt_of_le_of_lt (show s ≤ 2 ^ 11 by omega) (Nat.pow_lt_pow_right (by decide) (by decide)))
    have n0 : (s : Int) ≠ 0 := by omega
    have e2 : Int.fmod (m : Int) (s : Int) = ((m % s : Nat) : Int) := by
      rw [Int.fmod_eq_emod_of_nonneg _ (by omega)]
      rfl
    refine ⟨_, rfl, rfl, ?_⟩
    simp only [evSs, evS, evE, evEs, evAnd, evOr, evO, evF, evC, evI, evBin, evCmp, evBlt, evIdx, evSlc, evSlcL, asgT, asgT.asgTs, startL, isL, frzL, seqB, List.set_cons_succ, List.set_cons_zero, slotV_0, slotV_s, Res.opt_some, Res.bind_ok, q1, if_true, ediv_nat, e2, n0, ne_eq, not_false_eq_true, calm_ok, gF]
    congr 2
    by_cases c : (0 + (i : Int)) < ((m % s : Nat) : Int)
    · simp only [if_pos c, decide_eq_true c, if_true]
    · simp only [if_neg c, decide_eq_false c, Bool.false_eq_true, if_false, Int.add_zero]
theorem atI_0 {α : Type} (x : α) (xs : List α) : L2.atI (x :: xs) 0 = some x := by
  unfold L2.atI L2.ixN
  simp
theorem atI_1 {α : Type} (x y : α) (xs : List α) : L2.atI (x :: y :: xs) 1 = some y := by
  have e : L2.ixN (x :: y :: xs).length 1 = some 1 := by
    unfold L2.ixN
    rw [if_pos (by decide), if_pos (by simp only [List.length_cons]; omega)]
    rfl
  unfold L2.atI
  rw [e]
  rfl
theorem run_fair {d m s : Nat} {r : L} {h : LH} (h1 : 1 ≤ s) (h2 : s ≤ m) (h3 : m ≤ 2000) (c2 : runD T fu Ds (d + 3) 9 [.int (most m s)] h = .ok r h) : runD T fu Ds (d + 4) 11 [.int m, .int s] h = .ok (.tup [.tup ((lens m s).map .int), r]) h := by
  rw [runD_at (de := d11) rfl rfl]
  show fin (evSs T (runD T fu Ds (d + 3)) fu b11 [.sh (.int m), .sh (.int s), .no, .no] h) = _
  have c1 := run_checkf (d := d) (v := m) (s := s) (h := h) (by omega) (by omega) (by omega) (by omega)
  have c3 := comp_fair (R := runD T fu Ds (d + 3)) (m := m) (s := s) (h := h) h1 (by omega)
  obtain ⟨q, e, _⟩ := lens_cons (m := m) h1
  have e : (lens m s).map L.int = .int (most m s) :: q.map .int := by rw [e]; rfl
  rw [e] at c3 ⊢
  have eb : b11 = [.exp (.call 10 [.var 0, .var 1]), .set 2 (.fr compF), .ret (.tup [.blt .tuple [.var 2], .call 9 [.idx (.var 2) (.int 0)]])] := rfl
  rw [eb]
  simp [evSs, evS, evE, evEs, evIdx, evBlt, frzL, c1, c2, c3, atI_0]
end
end K35

namespace K35
open PySem Ev Pr
theorem map_rep (xs : List L) : (xs.map fun _ => L.bl true) = List.replicate xs.length (.bl true) := by
  induction xs with
  | nil => rfl
  | cons x xs ih => rw [List.map_cons, ih]; rfl
theorem all_true {h : LH} (n : Nat) : evBlt .all h [.lst (List.replicate n (.bl true))] = some (.bl true) := by
  have e : List.replicate n (L.bl true) = (List.replicate n true).map L.bl := by rw [List.map_replicate]
  show (blsOf (List.replicate n (L.bl true))).map (fun bs => L.bl (bs.all id)) = _
  rw [e, blsOf_map]
  simp
theorem sum_lens {m s : Nat} {h : LH} (h1 : 1 ≤ s) : evBlt .sum h [.tup ((lens m s).map .int)] = some (.int m) := by
  show (intsOf ((lens m s).map .int)).map (fun ns => L.int ns.sum) = _
  rw [intsOf_map, Option.map_some, lens_sum h1]
theorem foldl_top {x : Int} : ∀ (r : List Int), (∀ y ∈ r, y ≤ x) → r.foldl max x = x
  | [], _ => rfl
  | y :: r, h => by
    rw [List.foldl_cons, Int.max_eq_left (h y (by simp))]
    exact foldl_top r fun z hz => h z (by simp [hz])
theorem max_lens {m s : Nat} {h : LH} (h1 : 1 ≤ s) : evBlt .max h [.tup ((lens m s).map .int)] = some (.int (most m s)) := by
  show (match intsOf ((lens m s).map .int) with | some ns => (maxI ns).map L.int | none => none) = _
  rw [intsOf_map]
  obtain ⟨r, e, hr⟩ := lens_cons (m := m) h1
  show (maxI (lens m s)).map L.int = _
  rw [e]
  show some (L.int (r.foldl max (most m s : Int))) = _
  rw [foldl_top r hr]
/-- all of a tuple's ints, asked one by one -/
theorem comp_ask {R : Nat → List L → LH → Res L} {t : Nat} {e src : ME} {ls : List Sl} {h : LH} {ns : List Int} (hs : evE T R src ls h = .ok (.tup (ns.map .int)) h) (ht : t < (wipeL ls [t]).length) (hl : ns.length ≤ 2000)
    (he : ∀ n ∈ ns, evE T R e ((wipeL ls [t]).set t (.sh (.int n))) h = .ok (.bl true) h) : evF T R (.comp e (.n t) (.val src) []) ls h = .ok (.lst (List.replicate ns.length (.bl true))) h := by
  have e1 : evI T R (.val src) ls h = .ok (ns.map .int) h := by
    show (evE T R src ls h).bind _ = _
    rw [hs]
    rfl
  show (evI T R (.val src) ls h).bind (fun xs h => turns (fun ls h => (evE T R e ls h).calm) (fun ls h => (evC T R [] ls h).calm) (.n t) (wipeL ls (slotsT (.n t))) xs [] h) = _
  rw [e1, Res.bind_ok]
  have e2 : List.replicate ns.length (L.bl true) = [] ++ (ns.map L.int).map fun _ => .bl true := by rw [map_rep, List.length_map]; rfl
  rw [e2]
  refine turns_map (fun _ => L.bl true) (ns.map L.int) [] (fun x hx => ?_) (by simp; omega)
  obtain ⟨n, hn, rfl⟩ := List.mem_map.mp hx
  refine ⟨(wipeL ls [t]).set t (.sh (.int n)), ?_, rfl, ?_⟩
  · show asgT (.n t) (.int n) (wipeL ls (slotsT (.n t))) = _
    unfold asgT
    exact if_pos ht
  · rw [he n hn]
    rfl
theorem lens_mem {m s : Nat} {n : Int} (h1 : 1 ≤ s) (h2 : s ≤ m) (hn : n ∈ lens m s) : 1 ≤ n := by
  obtain ⟨i, _, rfl⟩ := List.mem_map.mp hn
  have := len_pos (i := i) h1 h2
  omega
theorem run_lisint {d : Nat} {v lo : Int} {h : LH} (c : lo ≤ v) : runD T fu Ds (d + 1) 19 [.int v, .int lo] h = .ok (.bl true) h := by
  rw [runD_at (de := d19) rfl rfl]
  show fin (evSs T (runD T fu Ds d) fu b19 [.sh (.int v), .sh (.int lo)] h) = _
  unfold b19
  simp [evSs, evS, evE, evEs, evAnd, evOr, evO, evF, evC, evI, evBin, evCmp, evBlt, evIdx, evSlc, evSlcL, asgT, asgT.asgTs, startL, isL, frzL, seqB, c]
/-! ## _law_is_fair -/
def compL : MF := .comp (.call 19 [.var 4, .int 1]) (.n 4) (.val (.idx (.var 2) (.int 0))) []
theorem run_lfair {d m s a b : Nat} {h : LH} (h1 : 1 ≤ s) (h2 : s ≤ m) (h3 : m ≤ 2000) (ha : a < 2 ^ 3000) (hb : b < 2 ^ 3000) (c20 : runD T fu Ds (d + 1) 20 [.int 1, .int (most m s + 1)] h = .ok (.tup [.int a, .int b]) h) :
    runD T fu Ds (d + 2) 22 [.int m, .int s, .tup [.tup ((lens m s).map .int), .tup [.int a, .int b]]] h = .ok (.bl true) h := by
  rw [runD_at (de := d22) rfl rfl]
  show fin (evSs T (runD T fu Ds (d + 1)) fu b22 [.sh (.int m), .sh (.int s), .sh (.tup [.tup ((lens m s).map .int), .tup [.int a, .int b]]), .no, .no] h) = _
  have eb : b22 = [.ifs (.or [.not (.blt .isinst [.var 2, .ty "tuple" "tuple"]), .cmp .ne (.blt .len [.var 2]) (.int 2), .not (.blt .isinst [.idx (.var 2) (.int 0), .ty "tuple" "tuple"]), .cmp .ne (.blt .len [.idx (.var 2) (.int 0)]) (.var 1)]) [.ret (.bl false)] [], .ifs (.or [.not (.blt .all [.fr compL]), .cmp .ne (.blt .int [.blt .sum [.idx (.var 2) (.int 0)]]) (.var 0)]) [.ret (.bl false)] [], .set 3 (.bin .fdiv (.bin .sub (.bin .add (.var 0) (.var 1)) (.int 1)) (.var 1)), .ifs (.or [.cmp .ne (.fr (.list (.idx (.var 2) (.int 0)))) (.fr (.rev (.fr (.sorted (.idx (.var 2) (.int 0)))))), .cmp .ne (.blt .max [.idx (.var 2) (.int 0)]) (.var 3)]) [.ret (.bl false)] [], .ret (.cmp .eq (.blt .repr [.idx (.var 2) (.int 1)]) (.blt .repr [.call 20 [.int 1, .bin .add (.var 3) (.int 1)]]))] := rfl
  have cc : evF T (runD T fu Ds (d + 1)) compL [.sh (.int m), .sh (.int s), .sh (.tup [.tup ((lens m s).map .int), .tup [.int a, .int b]]), .no, .no] h = .ok (.lst (List.replicate (lens m s).length (.bl true))) h := by
    refine comp_ask ?_ (by simp [wipeL]) (by rw [lens_length]; omega) fun n hn => ?_
    · simp [evSs, evS, evE, evEs, evAnd, evOr, evO, evF, evC, evI, evBin, evCmp, evBlt, evIdx, evSlc, evSlcL, asgT, asgT.asgTs, startL, isL, frzL, seqB, atI_0]
    · have c := run_lisint (d := d) (v := n) (lo := 1) (h := h) (lens_mem h1 h2 hn)
      simp [evSs, evS, evE, evEs, evAnd, evOr, evO, evF, evC, evI, evBin, evCmp, evBlt, evIdx, evSlc, evSlcL, asgT, asgT.asgTs, startL, isL, frzL, seqB, wipeL, c]
  have q1 : divOk (s : Int) = true := div_ok (by omega) (Nat.lt_of_le_of_lt (show s ≤ 2 ^ 11 by omega) (Nat.pow_lt_pow_right (by decide) (by decide)))
  have e1 : Int.fdiv ((m : Int) + (s : Int) - 1) (s : Int) = (most m s : Int) := by
    have : (m : Int) + (s : Int) - 1 = ((m + s - 1 : Nat) : Int) := by omega
    rw [this, ediv_nat, most_ceil h1]
  have hl : (lens m s).length = s := lens_length m s
  have s1 := sum_lens (m := m) (h := h) h1
  have s2 := max_lens (m := m) (h := h) h1
  have s3 := all_true (h := h) (lens m s).length
  have big : (2 : Nat) ^ 3000 ≤ 10 ^ 4000 := by decide +kernel
  have ha' : (a : Int).natAbs < 10 ^ 4000 := Nat.lt_of_lt_of_le ha big
  have hb' : (b : Int).natAbs < 10 ^ 4000 := Nat.lt_of_lt_of_le hb big
  have r1 := repr_pair (h := h) ha' hb'
  have r2 := eqL_pairText ha' hb'
  have x1 : evBlt .len h [.tup [.tup ((lens m s).map .int), .tup [.int a, .int b]]] = some (.int 2) := rfl
  have x2 : evBlt .len h [.tup ((lens m s).map .int)] = some (.int s) := by
    show some (L.int _) = _
    rw [List.length_map, hl]
  have x3 : ∀ i : Int, evBlt .int h [.int i] = some (.int i) := fun _ => rfl
  have x4 : ∀ (x : L) (n : String), evBlt .isinst h [x, .ty n] = evIs x n := fun _ _ => rfl
  rw [eb]
  simp [evSs, evS, evE, evEs, evOr, evBin, evCmp, evIdx, frzL, evF, seqB, cc, q1, e1, s1, s2, s3, r1, r2, x1, x2, x3, x4, atI_0, atI_1, intsOf_map, lens_sorted, eqL_lsts, c20]
end K35

namespace K35
open PySem Ev Pr
/-! ## shows_fair -/
theorem run_isratio {d a b : Nat} {h : LH} (h1 : Nat.Coprime a b) (hb : 0 < b) (hs : b < 2 ^ 3000) : runD T fu Ds (d + 2) 4 [.tup [.int a, .int b]] h = .ok (.bl true) h := by
  rw [runD_at (de := d4) rfl rfl]
  show fin (evSs T (runD T fu Ds (d + 1)) fu b4 [.sh (.tup [.int a, .int b])] h) = _
  have c1 := run_istup (d := d) (xs := [.int a, .int b]) (lo := 2) (hi := 2) (h := h) (Int.le_refl 2) (Int.le_refl 2)
  have c2 := run_isint1 (d := d) (v := a) (h := h)
  have c3 := run_isint2 (d := d) (v := b) (lo := 1) (h := h)
  have hb1 : (1 : Int) ≤ (b : Int) := by omega
  have c4 := run_common (d := d) (a := a) (b := b) (h := h) (up hs (by decide))
  have g : Nat.gcd a b = 1 := h1
  rw [g] at c4
  unfold b4
  simp [evSs, evS, evE, evEs, evAnd, evOr, evO, evF, evC, evI, evBin, evCmp, evBlt, evIdx, evSlc, evSlcL, asgT, asgT.asgTs, startL, isL, frzL, seqB, c1, c2, c3, c4, atI_0, atI_1, hb1]
theorem run_isshare {d a b : Nat} {h : LH} (h1 : Nat.Coprime a b) (hb : 0 < b) (hs : b < 2 ^ 3000) : runD T fu Ds (d + 3) 5 [.tup [.int a, .int b]] h = .ok (.bl true) h := by
  rw [runD_at (de := d5) rfl rfl]
  show fin (evSs T (runD T fu Ds (d + 2)) fu b5 [.sh (.tup [.int a, .int b])] h) = _
  have c1 := run_isratio (d := d) (h := h) h1 hb hs
  have n : (0 : Int) ≤ (a : Int) := by omega
  unfold b5
  simp [evSs, evS, evE, evEs, evAnd, evOr, evO, evF, evC, evI, evBin, evCmp, evBlt, evIdx, evSlc, evSlcL, asgT, asgT.asgTs, startL, isL, frzL, seqB, c1, atI_0, n]
def compA : MF := .comp (.call 0 [.var 4, .int 1]) (.n 4) (.val (.idx (.var 2) (.int 0))) []
def compZ : MF := .comp (.cmp .ge (.var 5) (.var 6)) (.t [.n 5, .n 6]) (.zip (.idx (.var 2) (.int 0)) (.slc (.idx (.var 2) (.int 0)) (.some (.int 1)) (.no))) []
theorem cut1 {xs : List L} (h : 1 ≤ xs.length) : cutL xs (some 1) none = xs.drop 1 := by
  unfold cutL
  have e : HT.sIx xs.length 0 (some 1) = 1 := by
    have q := HT.sIx_nat xs.length 0 1
    rw [Nat.min_eq_left h] at q
    exact q
  have e2 : HT.sIx xs.length xs.length none = xs.length := rfl
  rw [e, e2]
  exact List.take_of_length_le (by rw [List.length_drop]; omega)
theorem zip_desc {ns : List Int} (p : ns.Pairwise fun a b => b ≤ a) {z : L} (hz : z ∈ zipL (ns.map .int) ((ns.map .int).drop 1)) : ∃ x y : Int, z = .tup [.int x, .int y] ∧ y ≤ x := by
  obtain ⟨i, hi⟩ := List.getElem?_of_mem hz
  obtain ⟨x, y, e1, e2, rfl⟩ := zipL_get hi
  rw [List.getElem?_drop, List.getElem?_map] at e2
  rw [List.getElem?_map] at e1
  cases f1 : ns[i]? with
  | none => rw [f1] at e1; cases e1
  | some u =>
    cases f2 : ns[1 + i]? with
    | none => rw [f2] at e2; cases e2
    | some v =>
      rw [f1] at e1
      rw [f2] at e2
      cases e1
      cases e2
      obtain ⟨l1, g1⟩ := List.getElem?_eq_some_iff.mp f1
      obtain ⟨l2, g2⟩ := List.getElem?_eq_some_iff.mp f2
      refine ⟨u, v, rfl, ?_⟩
      have := List.pairwise_iff_getElem.mp p i (1 + i) l1 l2 (by omega)
      rw [g1, g2] at this
      exact this
theorem comp_zip {R : Nat → List L → LH → Res L} {m s : Nat} {q t : L} {h : LH} (h1 : 1 ≤ s) (h2 : s ≤ 2000) : evF T R compZ [.sh (.int m), .sh (.int s), .sh (.tup [.tup ((lens m s).map .int), q]), .sh t, .no, .no, .no] h = .ok (.lst (List.replicate (zipL ((lens m s).map .int) (((lens m s).map .int).drop 1)).length (.bl true))) h := by
  have hl : ((lens m s).map L.int).length = s := by rw [List.length_map, lens_length]
  have hc := cut1 (xs := (lens m s).map .int) (by rw [hl]; exact h1)
  have e1 : evI T R (.zip (.idx (.var 2) (.int 0)) (.slc (.idx (.var 2) (.int 0)) (.some (.int 1)) (.no))) [.sh (.int m), .sh (.int s), .sh (.tup [.tup ((lens m s).map .int), q]), .sh t, .no, .no, .no] h = .ok (zipL ((lens m s).map .int) (((lens m s).map .int).drop 1)) h := by
    simp [evSs, evS, evE, evEs, evAnd, evOr, evO, evF, evC, evI, evBin, evCmp, evBlt, evIdx, evSlc, evSlcL, asgT, asgT.asgTs, startL, isL, frzL, seqB, atI_0, hc]
  show (evI T R (.zip (.idx (.var 2) (.int 0)) (.slc (.idx (.var 2) (.int 0)) (.some (.int 1)) (.no))) [.sh (.int m), .sh (.int s), .sh (.tup [.tup ((lens m s).map .int), q]), .sh t, .no, .no, .no] h).bind (fun xs h => turns (fun ls h => (evE T R (.cmp .ge (.var 5) (.var 6)) ls h).calm) (fun ls h => (evC T R [] ls h).calm) (.t [.n 5, .n 6]) (wipeL [.sh (.int m), .sh (.int s), .sh (.tup [.tup ((lens m s).map .int), q]), .sh t, .no, .no, .no] (slotsT (.t [.n 5, .n 6]))) xs [] h) = _
  rw [e1, Res.bind_ok]
  have e2 : List.replicate (zipL ((lens m s).map .int) (((lens m s).map .int).drop 1)).length (L.bl true) = [] ++ (zipL ((lens m s).map .int) (((lens m s).map .int).drop 1)).map fun _ => .bl true := by rw [map_rep]; rfl
  rw [e2]
  refine turns_map (fun _ => L.bl true) _ [] (fun z hz => ?_) (by rw [zipL_length, hl]; simp; omega)
  obtain ⟨x, y, rfl, hxy⟩ := zip_desc (lens_pw m s) hz
  refine ⟨_, rfl, rfl, ?_⟩
  simp [evSs, evS, evE, evEs, evAnd, evOr, evO, evF, evC, evI, evBin, evCmp, evBlt, evIdx, evSlc, evSlcL, asgT, asgT.asgTs, startL, isL, frzL, seqB, wipeL, slotsT, slotsTs, hxy]
theorem run_shows {d m s a b : Nat} {h : LH} (h1 : 1 ≤ s) (h2 : s ≤ m) (h3 : m ≤ 2000) (co : Nat.Coprime a b) (b0 : 0 < b) (hb : b < 2 ^ 3000)
    (c11 : runD T fu Ds (d + 3) 11 [.int m, .int s] h = .ok (.tup [.tup ((lens m s).map .int), .tup [.int a, .int b]]) h) : runD T fu Ds (d + 4) 12 [.int m, .int s, .tup [.tup ((lens m s).map .int), .tup [.int a, .int b]]] h = .ok (.bl true) h := by
  rw [runD_at (de := d12) rfl rfl]
  show fin (evSs T (runD T fu Ds (d + 3)) fu b12 [.sh (.int m), .sh (.int s), .sh (.tup [.tup ((lens m s).map .int), .tup [.int a, .int b]]), .no, .no, .no, .no] h) = _
  have eb : b12 = [.exp (.call 10 [.var 0, .var 1]), .set 3 (.call 11 [.var 0, .var 1]), .ifs (.or [.not (.call 1 [.var 2, .con 0, .con 0]), .not (.call 1 [.idx (.var 2) (.int 0), .var 1, .var 1])]) [.ret (.bl false)] [], .ifs (.or [.not (.blt .all [.fr compA]), .cmp .ne (.blt .sum [.idx (.var 2) (.int 0)]) (.var 0)]) [.ret (.bl false)] [], .ifs (.or [.not (.blt .all [.fr compZ]), .cmp .ne (.idx (.idx (.var 2) (.int 0)) (.int 0)) (.idx (.idx (.var 3) (.int 0)) (.int 0))]) [.ret (.bl false)] [], .ret (.and [.call 5 [.idx (.var 2) (.int 1)], .cmp .eq (.idx (.var 2) (.int 1)) (.idx (.var 3) (.int 1))])] := rfl
  have hl : ((lens m s).map L.int).length = s := by rw [List.length_map, lens_length]
  have c1 := run_checkf (d := d) (v := m) (s := s) (h := h) (by omega) (by omega) (by omega) (by omega)
  have c2 := run_istup (d := d + 2) (xs := [.tup ((lens m s).map .int), .tup [.int a, .int b]]) (lo := 2) (hi := 2) (h := h) (Int.le_refl 2) (Int.le_refl 2)
  have c3 := run_istup (d := d + 2) (xs := (lens m s).map .int) (lo := s) (hi := s) (h := h) (by rw [hl]; exact Int.le_refl _) (by rw [hl]; exact Int.le_refl _)
  have ca : evF T (runD T fu Ds (d + 3)) compA [.sh (.int m), .sh (.int s), .sh (.tup [.tup ((lens m s).map .int), .tup [.int a, .int b]]), .sh (.tup [.tup ((lens m s).map .int), .tup [.int a, .int b]]), .no, .no, .no] h = .ok (.lst (List.replicate (lens m s).length (.bl true))) h := by
    refine comp_ask ?_ (by simp [wipeL]) (by rw [lens_length]; omega) fun n hn => ?_
    · simp [evSs, evS, evE, evEs, evAnd, evOr, evO, evF, evC, evI, evBin, evCmp, evBlt, evIdx, evSlc, evSlcL, asgT, asgT.asgTs, startL, isL, frzL, seqB, atI_0]
    · have c := run_isint2 (d := d + 2) (v := n) (lo := 1) (h := h)
      have := lens_mem h1 h2 hn
      simp [evSs, evS, evE, evEs, evAnd, evOr, evO, evF, evC, evI, evBin, evCmp, evBlt, evIdx, evSlc, evSlcL, asgT, asgT.asgTs, startL, isL, frzL, seqB, wipeL, c, this]
  have cz := comp_zip (R := runD T fu Ds (d + 3)) (m := m) (s := s) (q := .tup [.int a, .int b]) (t := .tup [.tup ((lens m s).map .int), .tup [.int a, .int b]]) (h := h) h1 (by omega)
  have s1 := sum_lens (m := m) (h := h) h1
  have s3 := all_true (h := h) (lens m s).length
  have s4 := all_true (h := h) (zipL ((lens m s).map .int) (((lens m s).map .int).drop 1)).length
  have c5 := run_isshare (d := d) (h := h) co b0 hb
  have i0 : L2.atI ((lens m s).map L.int) 0 = some (.int (most m s)) := by
    obtain ⟨r, e, _⟩ := lens_cons (m := m) h1
    rw [e]
    exact atI_0 _ _
  rw [eb]
  generalize (zipL ((lens m s).map .int) (((lens m s).map .int).drop 1)).length = nz at cz s4
  generalize hL : (lens m s).map L.int = Ls at *
  simp [evSs, evS, evE, evEs, evOr, evAnd, evCmp, evIdx, frzL, c1, c2, c3, ca, cz, s1, s3, s4, c5, c11, i0, atI_0, atI_1]
end K35

namespace K35
open PySem Ev Pr
/-! ## draws -/
theorem mul64 {a b : Int} (ha : a.natAbs < 18446744073709551616) (hb : b.natAbs < 18446744073709551616) : mulOk a b = true :=
  mul_ok (Nat.lt_of_lt_of_le (show a.natAbs < 2 ^ 64 from ha) (Nat.pow_le_pow_right (by decide) (by decide))) (Nat.lt_of_lt_of_le (show b.natAbs < 2 ^ 64 from hb) (Nat.pow_le_pow_right (by decide) (by decide)))
theorem div64 {b : Int} (h0 : b ≠ 0) (hb : b.natAbs < 18446744073709551616) : divOk b = true :=
  div_ok h0 (Nat.lt_of_lt_of_le (show b.natAbs < 2 ^ 64 from hb) (Nat.pow_le_pow_right (by decide) (by decide)))
theorem pow64 {a : Int} (ha : a.natAbs < 18446744073709551616) : powOk a 3 = true := by
  have := log_lt (show a.natAbs < 2 ^ 64 from ha) (by decide)
  unfold powOk
  rw [Bool.and_eq_true, decide_eq_true_eq, decide_eq_true_eq]
  omega
theorem fmod_lt {a b : Int} (hb : 0 < b) : 0 ≤ a.fmod b ∧ a.fmod b < b := by
  rw [Int.fmod_eq_emod_of_nonneg _ (by omega)]
  exact ⟨Int.emod_nonneg _ (by omega), Int.emod_lt_of_pos _ hb⟩
theorem fdiv_le {a b : Int} (ha : 0 ≤ a) (hb : 0 < b) : 0 ≤ a.fdiv b ∧ a.fdiv b ≤ a := by
  rw [Int.fdiv_eq_ediv_of_nonneg _ (by omega)]
  exact ⟨Int.ediv_nonneg ha (by omega), Int.ediv_le_self _ ha⟩
/-- the pot: what is left of the cell's own, the cell mixed, how many were drawn -/
def pot (a b c : Int) : LO := .lst [.int a, .int b, .int c]
theorem ix3_0 : L2.ixN 3 0 = some 0 := rfl
theorem ix3_2 : L2.ixN 3 2 = some 2 := rfl
theorem at3_2 {α : Type} (x y z : α) : L2.atI [x, y, z] 2 = some z := rfl
theorem prime_at {i : Int} (h0 : 0 ≤ i) (h1 : i < 5) : ∃ p : Int, 0 < p ∧ p < 4294967296 ∧ L2.atI [L.int 2147483647, .int 2147483629, .int 2147483587, .int 2147483579, .int 2147483563] i = some (.int p) := by
  have : i = 0 ∨ i = 1 ∨ i = 2 ∨ i = 3 ∨ i = 4 := by omega
  rcases this with rfl | rfl | rfl | rfl | rfl
  · exact ⟨_, by decide, by decide, rfl⟩
  · exact ⟨_, by decide, by decide, rfl⟩
  · exact ⟨_, by decide, by decide, rfl⟩
  · exact ⟨_, by decide, by decide, rfl⟩
  · exact ⟨_, by decide, by decide, rfl⟩
section
variable {R : Nat → List L → LH → Res L} {k : Nat} {u b c p x y : Int} {h : LH}
abbrev e1 : ME := .bin .mod (.blt .int [.bin .pow (.blt .int [.bin .add (.bin .add (.idx (.var 0) (.int 1)) (.bin .mul (.bin .mul (.int 99877) (.idx (.var 0) (.int 2))) (.idx (.var 0) (.int 2)))) (.int 71)]) (.int 3)]) (.var 2)
abbrev e2 : ME := .bin .mod (.blt .int [.bin .mul (.var 3) (.bin .add (.bin .mod (.blt .int [.var 3]) (.int 10429)) (.bin .mul (.int 163) (.idx (.var 0) (.int 2))))]) (.int 2305843009213693907)
theorem tk1 (hk : h[k]? = some (.lst [.int 0, .int b, .int c])) : evS T R fu (.ifs (.cmp .gt (.idx (.var 0) (.int 0)) (.int 0)) [.set 4 (.bin .mod (.blt .int [.idx (.var 0) (.int 0)]) (.var 1)), .put (.var 0) (.int 0) (.bin .fdiv (.idx (.var 0) (.int 0)) (.var 1)), .ret (.var 4)] []) [.sh (.obj k), .sh (.int u), .no, .no, .no] h = .ok (.nx [.sh (.obj k), .sh (.int u), .no, .no, .no]) h := by
  simp [evSs, evS, evE, evEs, evAnd, evOr, evO, evF, evC, evI, evBin, evCmp, evBlt, evIdx, evSlc, evSlcL, asgT, asgT.asgTs, startL, isL, frzL, seqB, hk, atI_0]
theorem tk2 (hk : h[k]? = some (.lst [.int 0, .int b, .int c])) : evS T R fu (.put (.var 0) (.int 2) (.bin .add (.idx (.var 0) (.int 2)) (.int 1))) [.sh (.obj k), .sh (.int u), .no, .no, .no] h = .ok (.nx [.sh (.obj k), .sh (.int u), .no, .no, .no]) (h.set k (pot 0 b (c + 1))) := by
  simp [evSs, evS, evE, evEs, evAnd, evOr, evO, evF, evC, evI, evBin, evCmp, evBlt, evIdx, evSlc, evSlcL, asgT, asgT.asgTs, startL, isL, frzL, seqB, hk, at3_2, putL, ix3_2]
  rfl
theorem tk3 (k2 : h[k]? = some (.lst [.int 0, .int b, .int c])) (p3 : L2.atI [L.int 2147483647, L.int 2147483629, L.int 2147483587, L.int 2147483579, L.int 2147483563] (c.fmod 5) = some (.int p)) : evS T R fu (.set 2 (.idx (.fr (.lst [.int 2147483647, .int 2147483629, .int 2147483587, .int 2147483579, .int 2147483563])) (.bin .mod (.blt .int [.idx (.var 0) (.int 2)]) (.int 5)))) [.sh (.obj k), .sh (.int u), .no, .no, .no] h = .ok (.nx [.sh (.obj k), .sh (.int u), .sh (.int p), .no, .no]) h := by
  simp [evSs, evS, evE, evEs, evAnd, evOr, evO, evF, evC, evI, evBin, evCmp, evBlt, evIdx, evSlc, evSlcL, asgT, asgT.asgTs, startL, isL, frzL, seqB, k2, at3_2, p3]
theorem pow3 {z : Int} (w : powOk z 3 = true) : evBin .pow (.int z) (.int 3) = some (.int (z ^ 3)) := by
  show (if powOk z 3 = true then some (L.int (z ^ (3 : Int).toNat)) else none) = _
  rw [if_pos w]
  rfl
abbrev e0 : ME := .blt .int [.bin .add (.bin .add (.idx (.var 0) (.int 1)) (.bin .mul (.bin .mul (.int 99877) (.idx (.var 0) (.int 2))) (.idx (.var 0) (.int 2)))) (.int 71)]
theorem tk4a (k2 : h[k]? = some (.lst [.int 0, .int b, .int c])) (m1 : mulOk 99877 c = true) (m2 : mulOk (99877 * c) c = true) :
    evE T R e0 [.sh (.obj k), .sh (.int u), .sh (.int p), .no, .no] h = .ok (.int (b + 99877 * c * c + 71)) h := by
  simp [evSs, evS, evE, evEs, evAnd, evOr, evO, evF, evC, evI, evBin, evCmp, evBlt, evIdx, evSlc, evSlcL, asgT, asgT.asgTs, startL, isL, frzL, seqB, k2, at3_2, atI_1, m1, m2]
theorem tk4 {z : Int} (pn : p ≠ 0) (hz : evE T R e0 [.sh (.obj k), .sh (.int u), .sh (.int p), .no, .no] h = .ok (.int z) h) (w1 : powOk z 3 = true) :
    evE T R e1 [.sh (.obj k), .sh (.int u), .sh (.int p), .no, .no] h = .ok (.int ((z ^ 3).fmod p)) h := by
  have q1 : ∀ (ls : List Sl), evE T R (.bin .pow e0 (.int 3)) ls h = (evE T R e0 ls h).bind fun x h => (evE T R (.int 3) ls h).bind fun y h => .opt (evBin .pow x y) h := fun _ => rfl
  have q2 : ∀ (ls : List Sl) (h : LH), evE T R (.int 3) ls h = .ok (.int 3) h := fun _ _ => rfl
  have s1 : evE T R (.bin .pow e0 (.int 3)) [.sh (.obj k), .sh (.int u), .sh (.int p), .no, .no] h = .ok (.int (z ^ 3)) h := by
    rw [q1, hz, Res.bind_ok, q2, Res.bind_ok, pow3 w1, Res.opt_some]
  have q3 : ∀ (a b : ME) (ls : List Sl), evE T R (.bin .mod (.blt .int [a]) b) ls h = (((evE T R a ls h).bind fun x h => (Res.ok [] h).bind fun xs h => .ok (x :: xs) h).bind fun xs h => .opt (evBlt .int h xs) h).bind fun x h => (evE T R b ls h).bind fun y h => .opt (evBin .mod x y) h := fun _ _ _ => rfl
  generalize z ^ 3 = q at s1 ⊢
  rw [e1, q3, s1]
  simp [evE, evBlt, evBin, pn]
theorem tk5 (k2 : h[k]? = some (.lst [.int 0, .int b, .int c])) (m3 : mulOk 163 c = true) (m4 : mulOk x (x.fmod 10429 + 163 * c) = true) :
    evE T R e2 [.sh (.obj k), .sh (.int u), .sh (.int p), .sh (.int x), .no] h = .ok (.int ((x * (x.fmod 10429 + 163 * c)).fmod 2305843009213693907)) h := by
  simp [evSs, evS, evE, evEs, evAnd, evOr, evO, evF, evC, evI, evBin, evCmp, evBlt, evIdx, evSlc, evSlcL, asgT, asgT.asgTs, startL, isL, frzL, seqB, k2, at3_2, m3, m4]
theorem tk6 (un0 : u ≠ 0) (q149 : divOk 149 = true) : evE T R (.bin .mod (.blt .int [.bin .fdiv (.var 3) (.int 149)]) (.var 1)) [.sh (.obj k), .sh (.int u), .sh (.int p), .sh (.int y), .no] h = .ok (.int ((y.fdiv 149).fmod u)) h := by
  simp [evSs, evS, evE, evEs, evAnd, evOr, evO, evF, evC, evI, evBin, evCmp, evBlt, evIdx, evSlc, evSlcL, asgT, asgT.asgTs, startL, isL, frzL, seqB, un0, q149]
end
theorem run_take {d k : Nat} {u a b c : Int} {h : LH} (hk : h[k]? = some (pot a b c)) (hu : 0 < u) (hu2 : u < 4096) (ha : 0 ≤ a) (hb : 0 ≤ b) (hb2 : b < 4611686018427387904) (hc : 0 ≤ c) (hc2 : c < 1000) :
    ∃ r a' c', runD T fu Ds (d + 1) 14 [.obj k, .int u] h = .ok (.int r) (h.set k (pot a' b c')) ∧ 0 ≤ r ∧ r < u ∧ 0 ≤ a' ∧ c ≤ c' ∧ c' ≤ c + 1 := by
  have hlt : k < h.length := (List.getElem?_eq_some_iff.mp hk).1
  have e0 : runD T fu Ds (d + 1) 14 [.obj k, .int u] h = fin (evSs T (runD T fu Ds d) fu b14 [.sh (.obj k), .sh (.int u), .no, .no, .no] h) := runD_at (de := d14) rfl rfl
  have un0 : u ≠ 0 := by omega
  have qu : divOk u = true := div64 un0 (by omega)
  unfold pot at hk
  by_cases hp : 0 < a
  · refine ⟨a.fmod u, a.fdiv u, c, ?_, (fmod_lt hu).1, (fmod_lt hu).2, (fdiv_le ha hu).1, Int.le_refl _, by omega⟩
    rw [e0]
    unfold b14
    simp [evSs, evS, evE, evEs, evAnd, evOr, evO, evF, evC, evI, evBin, evCmp, evBlt, evIdx, evSlc, evSlcL, asgT, asgT.asgTs, startL, isL, frzL, seqB, hk, hp, un0, qu, atI_0, putL, ix3_0]
    rfl
  · have a0 : a = 0 := by omega
    subst a0
    obtain ⟨p, p1, p2, p3⟩ := prime_at (fmod_lt (a := c + 1) (b := 5) (by decide)).1 (fmod_lt (a := c + 1) (b := 5) (by decide)).2
    have pn : p ≠ 0 := by omega
    have hsq : (c + 1) * (c + 1) ≤ 1000 * 1000 := Int.mul_le_mul (by omega) (by omega) (by omega) (by omega)
    have hsq0 : 0 ≤ (c + 1) * (c + 1) := Int.mul_nonneg (by omega) (by omega)
    have hass : 99877 * (c + 1) * (c + 1) = 99877 * ((c + 1) * (c + 1)) := Int.mul_assoc _ _ _
    have m1 : mulOk 99877 (c + 1) = true := mul64 (by decide) (by omega)
    have m2 : mulOk (99877 * (c + 1)) (c + 1) = true := mul64 (by omega) (by omega)
    have w1 : powOk (b + 99877 * (c + 1) * (c + 1) + 71) 3 = true := by
      rw [hass]
      exact pow64 (by omega)
    have m3 : mulOk 163 (c + 1) = true := mul64 (by decide) (by omega)
    have q149 : divOk 149 = true := by decide +kernel
    have s1 := tk1 (R := runD T fu Ds d) (u := u) hk
    have s2 := tk2 (R := runD T fu Ds d) (u := u) hk
    have k2 : (h.set k (pot 0 b (c + 1)))[k]? = some (.lst [.int 0, .int b, .int (c + 1)]) := List.getElem?_set_self hlt
    have goal : ∃ r, runD T fu Ds (d + 1) 14 [.obj k, .int u] h = .ok (.int r) (h.set k (pot 0 b (c + 1))) ∧ 0 ≤ r ∧ r < u := by
      rw [e0]
      generalize h.set k (pot 0 b (c + 1)) = h2 at s2 k2 ⊢
      have s3 := tk3 (R := runD T fu Ds d) (u := u) k2 p3
      have z0 := tk4a (R := runD T fu Ds d) (u := u) (p := p) k2 m1 m2
      have z1 := tk4 (R := runD T fu Ds d) (u := u) pn z0 w1
      obtain ⟨x, hx⟩ : ∃ x, x = ((b + 99877 * (c + 1) * (c + 1) + 71) ^ 3).fmod p := ⟨_, rfl⟩
      have x1 := fmod_lt (a := (b + 99877 * (c + 1) * (c + 1) + 71) ^ 3) p1
      rw [← hx] at z1 x1
      have x2 := fmod_lt (a := x) (b := 10429) (by decide)
      have m4 : mulOk x (x.fmod 10429 + 163 * (c + 1)) = true := mul64 (by omega) (by omega)
      have z2 := tk5 (R := runD T fu Ds d) (u := u) (p := p) k2 m3 m4
      obtain ⟨y, hy⟩ : ∃ y, y = (x * (x.fmod 10429 + 163 * (c + 1))).fmod 2305843009213693907 := ⟨_, rfl⟩
      rw [← hy] at z2
      have z3 := tk6 (R := runD T fu Ds d) (k := k) (p := p) (y := y) (h := h2) un0 q149
      have s4 : evS T (runD T fu Ds d) fu (.set 3 e1) [.sh (.obj k), .sh (.int u), .sh (.int p), .no, .no] h2 = .ok (.nx [.sh (.obj k), .sh (.int u), .sh (.int p), .sh (.int x), .no]) h2 := by
        rw [evS, z1]
        rfl
      have s5 : evS T (runD T fu Ds d) fu (.set 3 e2) [.sh (.obj k), .sh (.int u), .sh (.int p), .sh (.int x), .no] h2 = .ok (.nx [.sh (.obj k), .sh (.int u), .sh (.int p), .sh (.int y), .no]) h2 := by
        rw [evS, z2]
        rfl
      refine ⟨(y.fdiv 149).fmod u, ?_, (fmod_lt hu).1, (fmod_lt hu).2⟩
      unfold b14
      rw [evSs, s1, Res.bind_ok]
      simp only
      rw [evSs, s2, Res.bind_ok]
      simp only
      rw [evSs, s3, Res.bind_ok]
      simp only
      rw [evSs, s4, Res.bind_ok]
      simp only
      rw [evSs, s5, Res.bind_ok]
      simp only
      rw [evSs, evS, z3, Res.bind_ok, Res.bind_ok]
      rfl
    obtain ⟨r, g1, g2, g3⟩ := goal
    exact ⟨r, 0, c + 1, g1, g2, g3, Int.le_refl _, by omega, Int.le_refl _⟩
/-! ## the pot's state -/
def Pt (h : LH) (k n : Nat) : Prop := ∃ a b c : Int, h[k]? = some (pot a b c) ∧ 0 ≤ a ∧ 0 ≤ b ∧ b < 4611686018427387904 ∧ 0 ≤ c ∧ c ≤ n
theorem Pt.take {d k n : Nat} {u : Int} {h : LH} (p : Pt h k n) (hn : n < 1000) (hu : 0 < u) (hu2 : u < 4096) : ∃ r h', runD T fu Ds (d + 1) 14 [.obj k, .int u] h = .ok (.int r) h' ∧ 0 ≤ r ∧ r < u ∧ Pt h' k (n + 1) := by
  obtain ⟨a, b, c, hk, p1, p2, p3, p4, p5⟩ := p
  obtain ⟨r, a', c', e, r1, r2, r3, r4, r5⟩ := run_take (d := d) hk hu hu2 p1 p2 p3 p4 (by omega)
  exact ⟨r, _, e, r1, r2, a', b, c', List.getElem?_set_self (List.getElem?_eq_some_iff.mp hk).1, r3, p2, p3, by omega, by omega⟩
theorem atI_nat {α : Type} {xs : List α} {r : Int} (h0 : 0 ≤ r) (h1 : r < xs.length) : ∃ x ∈ xs, L2.atI xs r = some x := by
  have e : L2.ixN xs.length r = some r.toNat := by
    unfold L2.ixN
    rw [if_pos h0, if_pos h1]
  have hl : r.toNat < xs.length := by omega
  refine ⟨xs[r.toNat], List.getElem_mem hl, ?_⟩
  unfold L2.atI
  rw [e]
  simp [hl]
theorem Pt.of {d k n : Nat} {xs : List L} {h : LH} (p : Pt h k n) (hn : n < 1000) (hu : 0 < xs.length) (hu2 : xs.length < 4096) : ∃ x ∈ xs, ∃ h', runD T fu Ds (d + 2) 15 [.obj k, .lst xs] h = .ok x h' ∧ Pt h' k (n + 1) := by
  obtain ⟨r, h', e, r1, r2, q⟩ := p.take (d := d) hn (u := xs.length) (by omega) (by omega)
  obtain ⟨x, hx, ex⟩ := atI_nat r1 r2
  refine ⟨x, hx, h', ?_, q⟩
  rw [runD_at (de := d15) rfl rfl]
  show fin (evSs T (runD T fu Ds (d + 1)) fu b15 [.sh (.obj k), .sh (.lst xs)] h) = _
  unfold b15
  simp [evSs, evS, evE, evEs, evAnd, evOr, evO, evF, evC, evI, evBin, evCmp, evBlt, evIdx, evSlc, evSlcL, asgT, asgT.asgTs, startL, isL, frzL, seqB, e, ex]
/-- a number of panels -/
theorem Pt.number {d k n : Nat} {h : LH} (p : Pt h k n) (hn : n + 4 < 1000) : ∃ (m : Nat) (h' : LH), runD T fu Ds (d + 3) 21 [.obj k] h = .ok (.int m) h' ∧ 1 ≤ m ∧ m ≤ 2000 ∧ Pt h' k (n + 4) := by
  obtain ⟨r1, h1, e1, a1, b1, p1⟩ := p.take (d := d + 1) (by omega) (u := 12) (by decide) (by decide)
  obtain ⟨r2, h2, e2, a2, b2, p2⟩ := p1.take (d := d + 1) (by omega) (u := 60) (by decide) (by decide)
  obtain ⟨r3, h3, e3, a3, b3, p3⟩ := p2.take (d := d + 1) (by omega) (u := 400) (by decide) (by decide)
  obtain ⟨x, hx, h4, e4, p4⟩ := p3.of (d := d) (by omega) (xs := [.int 1, .int 2, .int (1 + r1), .int (1 + r2), .int (1 + r3), .int 2000]) (by simp) (by simp)
  have hm : ∃ m : Nat, x = .int m ∧ 1 ≤ m ∧ m ≤ 2000 := by
    simp only [List.mem_cons, List.not_mem_nil, or_false] at hx
    rcases hx with rfl | rfl | rfl | rfl | rfl | rfl
    · exact ⟨1, rfl, by omega, by omega⟩
    · exact ⟨2, rfl, by omega, by omega⟩
    · exact ⟨(1 + r1).toNat, by congr 1; omega, by omega, by omega⟩
    · exact ⟨(1 + r2).toNat, by congr 1; omega, by omega, by omega⟩
    · exact ⟨(1 + r3).toNat, by congr 1; omega, by omega, by omega⟩
    · exact ⟨2000, rfl, by omega, by omega⟩
  obtain ⟨m, rfl, m1, m2⟩ := hm
  refine ⟨m, h4, ?_, m1, m2, p4⟩
  rw [runD_at (de := d21) rfl rfl]
  show fin (evSs T (runD T fu Ds (d + 2)) fu b21 [.sh (.obj k)] h) = _
  unfold b21
  simp [evSs, evS, evE, evEs, evAnd, evOr, evO, evF, evC, evI, evBin, evCmp, evBlt, evIdx, evSlc, evSlcL, asgT, asgT.asgTs, startL, isL, frzL, seqB, e1, e2, e3, e4]
end K35

namespace K35
open PySem Ev Pr
/-! ## the pot of a cell -/
theorem evPow {i j : Int} (w : powOk i j = true) : evBin .pow (.int i) (.int j) = some (.int (i ^ j.toNat)) := if_pos w
section
variable {R : Nat → List L → LH → Res L} {ls : List Sl} {h : LH}
abbrev eTen : ME := .bin .pow (.bin .pow (.int 10) (.int 60)) (.int 5)
def ten : Int := (10 ^ 60) ^ 5
theorem ten_pos : 0 < ten := by unfold ten; decide +kernel
theorem ten_lt : ten.natAbs < 2 ^ 2000 := by unfold ten; decide +kernel
theorem ev_ten : evE T R eTen ls h = .ok (.int ten) h := by
  have q1 : evE T R eTen ls h = (Res.opt (evBin .pow (.int 10) (.int 60)) h).bind fun x h => Res.opt (evBin .pow x (.int 5)) h := rfl
  have e1 : evBin .pow (.int 10) (.int 60) = some (.int (10 ^ 60)) := evPow (i := 10) (j := 60) (by decide +kernel)
  have e2 : evBin .pow (.int (10 ^ 60)) (.int 5) = some (.int ten) := evPow (i := 10 ^ 60) (j := 5) (by decide +kernel)
  rw [q1, e1, Res.opt_some, Res.bind_ok, e2, Res.opt_some]
def big18 : Int := 10 ^ 18
theorem ev_big : evE T R (.bin .pow (.int 10) (.int 18)) ls h = .ok (.int big18) h := by
  have q1 : evE T R (.bin .pow (.int 10) (.int 18)) ls h = Res.opt (evBin .pow (.int 10) (.int 18)) h := rfl
  have e1 : evBin .pow (.int 10) (.int 18) = some (.int big18) := evPow (i := 10) (j := 18) (by decide +kernel)
  rw [q1, e1, Res.opt_some]
/-- a cell's own draws -/
theorem ev_own {s0 s1 s3 s4 : Sl} {v : Int} : ∃ a : Int, 0 ≤ a ∧ evS T R fu (.set 3 (.bin .mul (.bin .mod (.blt .int [.blt .abs [.var 2]]) eTen) (.blt .int [.cmp .ge (.blt .abs [.var 2]) (.bin .pow (.int 10) (.int 18))]))) [s0, s1, .sh (.int v), s3, s4] h = .ok (.nx [s0, s1, .sh (.int v), .sh (.int a), s4]) h := by
  have t0 : ten ≠ 0 := by have := ten_pos; omega
  obtain ⟨w, hw⟩ : ∃ w : Int, w = if v < 0 then -v else v := ⟨_, rfl⟩
  have f1 := fmod_lt (a := w) ten_pos
  have e1 : evE T R (.blt .int [.blt .abs [.var 2]]) [s0, s1, .sh (.int v), s3, s4] h = .ok (.int w) h := by
    rw [hw]
    simp [evE, evEs, evBlt]
  have e2 : evE T R (.bin .mod (.blt .int [.blt .abs [.var 2]]) eTen) [s0, s1, .sh (.int v), s3, s4] h = .ok (.int (w.fmod ten)) h := by
    have q : evE T R (.bin .mod (.blt .int [.blt .abs [.var 2]]) eTen) [s0, s1, .sh (.int v), s3, s4] h = (evE T R (.blt .int [.blt .abs [.var 2]]) [s0, s1, .sh (.int v), s3, s4] h).bind fun x h => (evE T R eTen [s0, s1, .sh (.int v), s3, s4] h).bind fun y h => .opt (evBin .mod x y) h := rfl
    rw [q, e1, Res.bind_ok, ev_ten, Res.bind_ok]
    simp [evBin, t0]
  have e3 : ∃ z : Int, 0 ≤ z ∧ z ≤ 1 ∧ evE T R (.blt .int [.cmp .ge (.blt .abs [.var 2]) (.bin .pow (.int 10) (.int 18))]) [s0, s1, .sh (.int v), s3, s4] h = .ok (.int z) h := by
    have q0 : evE T R (.blt .abs [.var 2]) [s0, s1, .sh (.int v), s3, s4] h = .ok (.int w) h := by
      rw [hw]
      simp [evE, evEs, evBlt]
    have q : evE T R (.cmp .ge (.blt .abs [.var 2]) (.bin .pow (.int 10) (.int 18))) [s0, s1, .sh (.int v), s3, s4] h = (evE T R (.blt .abs [.var 2]) [s0, s1, .sh (.int v), s3, s4] h).bind fun x h => (evE T R (.bin .pow (.int 10) (.int 18)) [s0, s1, .sh (.int v), s3, s4] h).bind fun y h => .opt (evCmp .ge x y) h := rfl
    rw [q0, Res.bind_ok, ev_big, Res.bind_ok] at q
    have q : evE T R (.cmp .ge (.blt .abs [.var 2]) (.bin .pow (.int 10) (.int 18))) [s0, s1, .sh (.int v), s3, s4] h = .ok (.bl (decide (big18 ≤ w))) h := q
    have q2 : ∀ e : ME, evE T R (.blt .int [e]) [s0, s1, .sh (.int v), s3, s4] h = ((evE T R e [s0, s1, .sh (.int v), s3, s4] h).bind fun x h => (Res.ok [] h).bind fun xs h => .ok (x :: xs) h).bind fun xs h => .opt (evBlt .int h xs) h := fun _ => rfl
    refine ⟨if decide (big18 ≤ w) = true then 1 else 0, by split <;> omega, by split <;> omega, ?_⟩
    rw [q2, q]
    rfl
  obtain ⟨z, z0, z1, e3⟩ := e3
  have hm : mulOk (w.fmod ten) z = true := by
    refine mul_ok ?_ (Nat.lt_of_le_of_lt (show z.natAbs ≤ 1 by omega) (Nat.one_lt_two_pow (by decide)))
    refine Nat.lt_trans (show (w.fmod ten).natAbs < ten.natAbs by omega) (up ten_lt (by decide))
  refine ⟨w.fmod ten * z, Int.mul_nonneg f1.1 z0, ?_⟩
  have q : ∀ (a b : ME), evE T R (.bin .mul a b) [s0, s1, .sh (.int v), s3, s4] h = (evE T R a [s0, s1, .sh (.int v), s3, s4] h).bind fun x h => (evE T R b [s0, s1, .sh (.int v), s3, s4] h).bind fun y h => .opt (evBin .mul x y) h := fun _ _ => rfl
  rw [evS, q, e2, Res.bind_ok, e3, Res.bind_ok]
  generalize w.fmod ten = y at hm ⊢
  simp [evBin, hm]
end
theorem run_draws {d i : Nat} {ns : List Int} {h : LH} (hi : i < 64) : ∃ h', runD T fu Ds (d + 1) 13 [.scr (ns.map .int), .int i] h = .ok (.obj h.length) h' ∧ Pt h' h.length 0 := by
  -- the cell
  have c1 : ∃ v : Int, evS T (runD T fu Ds d) fu (.set 2 (.ife (.cmp .lt (.var 1) (.blt .len [.var 0])) (.idx (.var 0) (.var 1)) (.bin .add (.bin .mul (.int 223) (.var 1)) (.int 91)))) [.sh (.scr (ns.map .int)), .sh (.int i), .no, .no, .no] h = .ok (.nx [.sh (.scr (ns.map .int)), .sh (.int i), .sh (.int v), .no, .no]) h := by
    by_cases c : (i : Int) < (ns.length : Int)
    · obtain ⟨x, hx, ex⟩ := atI_nat (xs := ns.map L.int) (r := i) (by omega) (by rw [List.length_map]; exact c)
      obtain ⟨v, _, rfl⟩ := List.mem_map.mp hx
      refine ⟨v, ?_⟩
      simp [evSs, evS, evE, evEs, evAnd, evOr, evO, evF, evC, evI, evBin, evCmp, evBlt, evIdx, evSlc, evSlcL, asgT, asgT.asgTs, startL, isL, frzL, seqB, c, ex]
    · have m1 : mulOk 223 (i : Int) = true := mul64 (by decide) (by omega)
      refine ⟨223 * i + 91, ?_⟩
      simp [evSs, evS, evE, evEs, evAnd, evOr, evO, evF, evC, evI, evBin, evCmp, evBlt, evIdx, evSlc, evSlcL, asgT, asgT.asgTs, startL, isL, frzL, seqB, c, m1]
  obtain ⟨v, c1⟩ := c1
  obtain ⟨a, a0, c2⟩ := ev_own (R := runD T fu Ds d) (h := h) (s0 := .sh (.scr (ns.map .int))) (s1 := .sh (.int i)) (s3 := .no) (s4 := .no) (v := v)
  have c3 : evS T (runD T fu Ds d) fu (.set 4 (.bin .mod (.blt .int [.var 2]) (.int 2305843009213693951))) [.sh (.scr (ns.map .int)), .sh (.int i), .sh (.int v), .sh (.int a), .no] h = .ok (.nx [.sh (.scr (ns.map .int)), .sh (.int i), .sh (.int v), .sh (.int a), .sh (.int (v.fmod 2305843009213693951))]) h := by
    simp [evSs, evS, evE, evEs, evAnd, evOr, evO, evF, evC, evI, evBin, evCmp, evBlt, evIdx, evSlc, evSlcL, asgT, asgT.asgTs, startL, isL, frzL, seqB]
  have f1 := fmod_lt (a := v) (b := 2305843009213693951) (by decide)
  generalize v.fmod 2305843009213693951 = w at c3 f1
  have m1 : mulOk w 71347 = true := mul64 (by omega) (by decide)
  have m2 : mulOk 7369 (i : Int) = true := mul64 (by decide) (by omega)
  have m3 : mulOk (7369 * (i : Int)) (i : Int) = true := mul64 (by omega) (by omega)
  obtain ⟨b, hb⟩ : ∃ b : Int, b = (w * 71347 + 7369 * (i : Int) * (i : Int) + 163).fmod 2305843009213693921 := ⟨_, rfl⟩
  have f2 := fmod_lt (a := w * 71347 + 7369 * (i : Int) * (i : Int) + 163) (b := 2305843009213693921) (by decide)
  rw [← hb] at f2
  have c4 : evS T (runD T fu Ds d) fu (.ret (.hp (.lst [.var 3, .bin .mod (.blt .int [.bin .add (.bin .add (.bin .mul (.var 4) (.int 71347)) (.bin .mul (.bin .mul (.int 7369) (.var 1)) (.var 1))) (.int 163)]) (.int 2305843009213693921), .int 0]))) [.sh (.scr (ns.map .int)), .sh (.int i), .sh (.int v), .sh (.int a), .sh (.int w)] h = .ok (.rt (.obj h.length)) (h ++ [pot a b 0]) := by
    simp [evSs, evS, evE, evEs, evAnd, evOr, evO, evF, evC, evI, evBin, evCmp, evBlt, evIdx, evSlc, evSlcL, asgT, asgT.asgTs, startL, isL, frzL, seqB, m1, m2, m3, hb, pot]
  refine ⟨h ++ [pot a b 0], ?_, a, b, 0, by simp, a0, f2.1, by omega, Int.le_refl _, Int.le_refl _⟩
  rw [runD_at (de := d13) rfl rfl]
  show fin (evSs T (runD T fu Ds d) fu b13 [.sh (.scr (ns.map .int)), .sh (.int i), .no, .no, .no] h) = _
  unfold b13
  rw [evSs, c1, Res.bind_ok]
  simp only
  rw [evSs, c2, Res.bind_ok]
  simp only
  rw [evSs, c3, Res.bind_ok]
  simp only
  rw [evSs, c4, Res.bind_ok]
  rfl
theorem run_cells {d : Nat} {ns : List Int} {h : LH} : ∃ n : Nat, 1 ≤ n ∧ n ≤ 4 ∧ runD T fu Ds (d + 1) 16 [.scr (ns.map .int), .int 4] h = .ok (.lst (rngL 0 n)) h := by
  rw [runD_at (de := d16) rfl rfl]
  show ∃ n : Nat, 1 ≤ n ∧ n ≤ 4 ∧ fin (evSs T (runD T fu Ds d) fu b16 [.sh (.scr (ns.map .int)), .sh (.int 4)] h) = _
  unfold b16
  by_cases c : (ns.length : Int) < 4
  · by_cases c2 : (1 : Int) < (ns.length : Int)
    · have hr : rngOk (ns.length : Int) = true := by
        unfold rngOk
        rw [Bool.and_eq_true, decide_eq_true_eq, decide_eq_true_eq]
        omega
      exact ⟨ns.length, by omega, by omega, by simp [evSs, evS, evE, evEs, evAnd, evOr, evO, evF, evC, evI, evBin, evCmp, evBlt, evIdx, evSlc, evSlcL, asgT, asgT.asgTs, startL, isL, frzL, seqB, c, c2, hr]⟩
    · exact ⟨1, by omega, by omega, by simp [evSs, evS, evE, evEs, evAnd, evOr, evO, evF, evC, evI, evBin, evCmp, evBlt, evIdx, evSlc, evSlcL, asgT, asgT.asgTs, startL, isL, frzL, seqB, c, c2, show rngOk 1 = true by decide]⟩
  · exact ⟨4, by omega, by omega, by simp [evSs, evS, evE, evEs, evAnd, evOr, evO, evF, evC, evI, evBin, evCmp, evBlt, evIdx, evSlc, evSlcL, asgT, asgT.asgTs, startL, isL, frzL, seqB, c, show rngOk 4 = true by decide]⟩
end K35

namespace K35
open PySem Ev Pr
abbrev R22 : Nat → List L → LH → Res L := runD T fu Ds 22
section
variable {k n m : Nat} {h : LH} {s1 s2 s3 s4 s5 : Sl}
theorem lap1 (p : Pt h k n) (hn : n + 4 < 1000) : ∃ (m : Nat) (h' : LH), evS T R22 fu (.set 2 (.call 21 [.var 0])) [.sh (.obj k), s1, s2, s3, s4, s5] h = .ok (.nx [.sh (.obj k), s1, .sh (.int m), s3, s4, s5]) h' ∧ 1 ≤ m ∧ m ≤ 2000 ∧ Pt h' k (n + 4) := by
  obtain ⟨m, h', e, q⟩ := p.number (d := 19) hn
  have e : R22 21 [.obj k] h = .ok (.int m) h' := e
  refine ⟨m, h', ?_, q⟩
  simp [evSs, evS, evE, evEs, evAnd, evOr, evO, evF, evC, evI, evBin, evCmp, evBlt, evIdx, evSlc, evSlcL, asgT, asgT.asgTs, startL, isL, frzL, seqB, e]
theorem lap2 {a b : Nat} (e : R22 9 [.int m] h = .ok (.tup [.int a, .int b]) h) : evS T R22 fu (.set 3 (.call 9 [.var 2])) [.sh (.obj k), s1, .sh (.int m), s3, s4, s5] h = .ok (.nx [.sh (.obj k), s1, .sh (.int m), .sh (.tup [.int a, .int b]), s4, s5]) h := by
  simp [evSs, evS, evE, evEs, evAnd, evOr, evO, evF, evC, evI, evBin, evCmp, evBlt, evIdx, evSlc, evSlcL, asgT, asgT.asgTs, startL, isL, frzL, seqB, e]
theorem small10 {a : Nat} (h : a < 2 ^ 3000) : (a : Int).natAbs < 10 ^ 4000 := Nat.lt_of_lt_of_le h (by decide +kernel)
theorem lap3 {a b : Nat} (ha : a < 2 ^ 3000) (hb : b < 2 ^ 3000) (e : R22 20 [.int 1, .int (m + 1 : Int)] h = .ok (.tup [.int a, .int b]) h) :
    evS T R22 fu (.ifs (.cmp .ne (.blt .repr [.var 3]) (.blt .repr [.call 20 [.int 1, .bin .add (.var 2) (.int 1)]])) [.ret (.bl false)] []) [.sh (.obj k), s1, .sh (.int m), .sh (.tup [.int a, .int b]), s4, s5] h = .ok (.nx [.sh (.obj k), s1, .sh (.int m), .sh (.tup [.int a, .int b]), s4, s5]) h := by
  have r1 := repr_pair (h := h) (small10 ha) (small10 hb)
  have r2 := eqL_pairText (small10 ha) (small10 hb)
  simp [evSs, evS, evE, evEs, evBin, evCmp, e, r1, r2]
theorem lap4 {a b : Nat} (hc : m < 2000 → ∃ x y : Nat, R22 9 [.int (m + 1 : Int)] h = .ok (.tup [.int x, .int y]) h ∧ R22 18 [.tup [.int a, .int b], .tup [.int 1, .int (m + 1 : Int)]] h = .ok (.tup [.int x, .int y]) h) :
    evS T R22 fu (.ifs (.and [.cmp .lt (.var 2) (.int 2000), .cmp .ne (.call 9 [.bin .add (.var 2) (.int 1)]) (.call 18 [.var 3, .tup [.int 1, .bin .add (.var 2) (.int 1)]])]) [.ret (.bl false)] []) [.sh (.obj k), s1, .sh (.int m), .sh (.tup [.int a, .int b]), s4, s5] h = .ok (.nx [.sh (.obj k), s1, .sh (.int m), .sh (.tup [.int a, .int b]), s4, s5]) h := by
  by_cases c : m < 2000
  · obtain ⟨x, y, e1, e2⟩ := hc c
    have c' : (m : Int) < 2000 := by omega
    simp [evSs, evS, evE, evEs, evAnd, evOr, evO, evF, evC, evI, evBin, evCmp, evBlt, evIdx, evSlc, evSlcL, asgT, asgT.asgTs, startL, isL, frzL, seqB, c', e1, e2]
  · have c' : ¬ (m : Int) < 2000 := by omega
    simp [evSs, evS, evE, evEs, evAnd, evOr, evO, evF, evC, evI, evBin, evCmp, evBlt, evIdx, evSlc, evSlcL, asgT, asgT.asgTs, startL, isL, frzL, seqB, c']
theorem lap5 (p : Pt h k n) (hn : n + 2 < 1000) (h1 : 1 ≤ m) (h2 : m ≤ 2000) : ∃ (s : Nat) (h' : LH), evS T R22 fu (.set 4 (.call 15 [.var 0, .fr (.lst [.int 1, .var 2, .bin .add (.int 1) (.call 14 [.var 0, .var 2]), .bin .add (.int 1) (.bin .fdiv (.var 2) (.int 2)), .blt .max [.int 1, .bin .fdiv (.var 2) (.int 3)]])])) [.sh (.obj k), s1, .sh (.int m), s3, s4, s5] h = .ok (.nx [.sh (.obj k), s1, .sh (.int m), s3, .sh (.int s), s5]) h' ∧
    1 ≤ s ∧ s ≤ m ∧ Pt h' k (n + 2) := by
  obtain ⟨r, h1', e1, a1, b1, p1⟩ := p.take (d := 21) (by omega) (u := m) (by omega) (by omega)
  have d2 : Int.fdiv (m : Int) 2 = ((m / 2 : Nat) : Int) := ediv_nat m 2
  have d3 : Int.fdiv (m : Int) 3 = ((m / 3 : Nat) : Int) := ediv_nat m 3
  obtain ⟨x, hx, h2', e2, p2⟩ := p1.of (d := 20) (by omega) (xs := [.int 1, .int m, .int (1 + r), .int (1 + ((m / 2 : Nat) : Int)), .int (if ((m / 3 : Nat) : Int) > 1 then ((m / 3 : Nat) : Int) else 1)]) (by simp) (by simp)
  have hs : ∃ s : Nat, x = .int s ∧ 1 ≤ s ∧ s ≤ m := by
    simp only [List.mem_cons, List.not_mem_nil, or_false] at hx
    rcases hx with rfl | rfl | rfl | rfl | rfl
    · exact ⟨1, rfl, by omega, by omega⟩
    · exact ⟨m, rfl, by omega, by omega⟩
    · exact ⟨(1 + r).toNat, by congr 1; omega, by omega, by omega⟩
    · exact ⟨1 + m / 2, by congr 1, by omega, by omega⟩
    · split
      · exact ⟨m / 3, rfl, by omega, by omega⟩
      · exact ⟨1, rfl, by omega, by omega⟩
  obtain ⟨s, rfl, g1, g2⟩ := hs
  have e1 : R22 14 [.obj k, .int m] h = .ok (.int r) h1' := e1
  have e2 : R22 15 [.obj k, .lst [.int 1, .int m, .int (1 + r), .int (1 + ((m / 2 : Nat) : Int)), .int (if ((m / 3 : Nat) : Int) > 1 then ((m / 3 : Nat) : Int) else 1)]] h1' = .ok (.int s) h2' := e2
  refine ⟨s, h2', ?_, g1, g2, p2⟩
  have q2 : divOk 2 = true := by decide +kernel
  have q3 : divOk 3 = true := by decide +kernel
  generalize ((m / 2 : Nat) : Int) = y2 at d2 e2
  generalize ((m / 3 : Nat) : Int) = y3 at d3 e2
  simp only [gt_iff_lt] at e2
  simp [evSs, evS, evE, evEs, evAnd, evOr, evO, evF, evC, evI, evBin, evCmp, evBlt, evIdx, evSlc, evSlcL, asgT, asgT.asgTs, startL, isL, frzL, seqB, e1, e2, d2, d3, q2, q3]
theorem lap6 {s : Nat} {told : L} (e : R22 11 [.int m, .int s] h = .ok told h) : evS T R22 fu (.set 5 (.call 11 [.var 2, .var 4])) [.sh (.obj k), s1, .sh (.int m), s3, .sh (.int s), s5] h = .ok (.nx [.sh (.obj k), s1, .sh (.int m), s3, .sh (.int s), .sh told]) h := by
  simp [evSs, evS, evE, evEs, evAnd, evOr, evO, evF, evC, evI, evBin, evCmp, evBlt, evIdx, evSlc, evSlcL, asgT, asgT.asgTs, startL, isL, frzL, seqB, e]
theorem lap7 {s : Nat} {told : L} (e1 : R22 22 [.int m, .int s, told] h = .ok (.bl true) h) (e2 : R22 12 [.int m, .int s, told] h = .ok (.bl true) h) :
    evS T R22 fu (.ifs (.or [.not (.call 22 [.var 2, .var 4, .var 5]), .cmp .isnot (.call 12 [.var 2, .var 4, .var 5]) (.bl true)]) [.ret (.bl false)] []) [.sh (.obj k), s1, .sh (.int m), s3, .sh (.int s), .sh told] h = .ok (.nx [.sh (.obj k), s1, .sh (.int m), s3, .sh (.int s), .sh told]) h := by
  simp [evSs, evS, evE, evEs, evAnd, evOr, evO, evF, evC, evI, evBin, evCmp, evBlt, evIdx, evSlc, evSlcL, asgT, asgT.asgTs, startL, isL, frzL, seqB, e1, e2]
end
/-- the loss, at some depth -/
theorem loss_at {m : Nat} (h1 : 1 ≤ m) (h2 : m ≤ 2000) : ∃ a b, Fr 1 m a b ∧ (∀ (d : Nat) (h : LH), runD T fu Ds (d + 16) 9 [.int m] h = .ok (.tup [.int a, .int b]) h) ∧ ∀ (d : Nat) (h : LH), runD T fu Ds (d + 15) 20 [.int 1, .int (m + 1 : Int)] h = .ok (.tup [.int a, .int b]) h := by
  obtain ⟨a, b, f, r, t⟩ := sums h1 h2
  exact ⟨a, b, f, fun d h => run_loss (d := d + 13) (by omega) (by omega) (r d h), t⟩
def lapB : List MS := [.set 2 (.call 21 [.var 0]), .set 3 (.call 9 [.var 2]), .ifs (.cmp .ne (.blt .repr [.var 3]) (.blt .repr [.call 20 [.int 1, .bin .add (.var 2) (.int 1)]])) [.ret (.bl false)] [], .ifs (.and [.cmp .lt (.var 2) (.int 2000), .cmp .ne (.call 9 [.bin .add (.var 2) (.int 1)]) (.call 18 [.var 3, .tup [.int 1, .bin .add (.var 2) (.int 1)]])]) [.ret (.bl false)] [], .set 4 (.call 15 [.var 0, .fr (.lst [.int 1, .var 2, .bin .add (.int 1) (.call 14 [.var 0, .var 2]), .bin .add (.int 1) (.bin .fdiv (.var 2) (.int 2)), .blt .max [.int 1, .bin .fdiv (.var 2) (.int 3)]])]), .set 5 (.call 11 [.var 2, .var 4]), .ifs (.or [.not (.call 22 [.var 2, .var 4, .var 5]), .cmp .isnot (.call 12 [.var 2, .var 4, .var 5]) (.bl true)]) [.ret (.bl false)] []]
theorem run_lap {k n : Nat} {h : LH} {s1 s2 s3 s4 s5 : Sl} (p : Pt h k n) (hn : n + 8 < 1000) : ∃ ls' h', evSs T R22 fu lapB [.sh (.obj k), s1, s2, s3, s4, s5] h = .ok (.nx ls') h' ∧ (∃ t1 t2 t3 t4 t5, ls' = [.sh (.obj k), t1, t2, t3, t4, t5]) ∧ Pt h' k (n + 8) := by
  obtain ⟨m, h1, e1, m1, m2, p1⟩ := lap1 (s1 := s1) (s2 := s2) (s3 := s3) (s4 := s4) (s5 := s5) p (by omega)
  obtain ⟨a, b, f, r, t⟩ := loss_at m1 m2
  have sm := f.small m2
  have e2 := lap2 (k := k) (s1 := s1) (s3 := s3) (s4 := s4) (s5 := s5) (r 6 h1)
  have e3 := lap3 (k := k) (s1 := s1) (s4 := s4) (s5 := s5) sm.1 sm.2 (t 7 h1)
  have e4 := lap4 (k := k) (m := m) (h := h1) (s1 := s1) (s4 := s4) (s5 := s5) (a := a) (b := b) (fun c => by
    obtain ⟨x, y, f2, r2, _⟩ := loss_at (m := m + 1) (by omega) (by omega)
    have f3 := f.plus (Fr.one (lo := 1 + m) (by omega) (by omega))
    obtain ⟨u1, u2⟩ := Fr.uniq f3 f2
    have q := run_lplus (d := 20) (a := a) (b := b) (x := 1) (y := 1 + m) (h := h1) sm.1 sm.2 (Nat.one_lt_two_pow (by decide)) (Nat.lt_of_le_of_lt (show 1 + m ≤ 2 ^ 11 by omega) (Nat.pow_lt_pow_right (by decide) (by decide))) f.b0 (by omega)
    rw [u1, u2] at q
    have z : ((1 + m : Nat) : Int) = (m : Int) + 1 := by omega
    rw [z] at q
    exact ⟨x, y, r2 6 h1, q⟩)
  obtain ⟨s, h2, e5, g1, g2, p2⟩ := lap5 (m := m) (s1 := s1) (s3 := .sh (.tup [.int a, .int b])) (s4 := s4) (s5 := s5) p1 (by omega) m1 m2
  obtain ⟨b1, b2⟩ := most_bounds g1 g2
  obtain ⟨x, y, f2, r2, t2⟩ := loss_at (m := most m s) b1 (by omega)
  have sm2 := f2.small (by omega)
  have fr : ∀ (d : Nat) (h : LH), runD T fu Ds (d + 17) 11 [.int m, .int s] h = .ok (.tup [.tup ((lens m s).map .int), .tup [.int x, .int y]]) h := fun d h => run_fair (d := d + 13) g1 g2 m2 (r2 d h)
  have e6 := lap6 (k := k) (s1 := s1) (s3 := .sh (.tup [.int a, .int b])) (s5 := s5) (fr 5 h2)
  have e7 := lap7 (k := k) (s1 := s1) (s3 := .sh (.tup [.int a, .int b])) (run_lfair (d := 20) (h := h2) g1 g2 m2 sm2.1 sm2.2 (t2 6 h2)) (run_shows (d := 18) (h := h2) g1 g2 m2 f2.co f2.b0 sm2.2 (fr 4 h2))
  obtain ⟨a', b', c', q1, q2, q3, q4, q5, q6⟩ := p2
  refine ⟨[.sh (.obj k), s1, .sh (.int m), .sh (.tup [.int a, .int b]), .sh (.int s), .sh (.tup [.tup ((lens m s).map .int), .tup [.int x, .int y]])], h2, ?_, ⟨_, _, _, _, _, rfl⟩, a', b', c', q1, q2, q3, q4, q5, by omega⟩
  unfold lapB
  rw [evSs, e1, Res.bind_ok]
  simp only
  rw [evSs, e2, Res.bind_ok]
  simp only
  rw [evSs, e3, Res.bind_ok]
  simp only
  rw [evSs, e4, Res.bind_ok]
  simp only
  rw [evSs, e5, Res.bind_ok]
  simp only
  rw [evSs, e6, Res.bind_ok]
  simp only
  rw [evSs, e7, Res.bind_ok]
  rfl
theorem run_right {k : Nat} {h : LH} (p : Pt h k 0) : ∃ h', runD T fu Ds 23 23 [.obj k] h = .ok (.bl true) h' := by
  obtain ⟨ls', h', e, _⟩ := loopF_run (b := evSs T R22 fu lapB) (t := .n 1) (xs := rngL 0 8) (fun i ls h => (∃ s1 s2 s3 s4 s5, ls = [.sh (.obj k), s1, s2, s3, s4, s5]) ∧ Pt h k (8 * i)) (fun i x ls h hx ⟨⟨s1, s2, s3, s4, s5, hl⟩, p⟩ => by
    subst hl
    have hi : i < 8 := by
      have := (List.getElem?_eq_some_iff.mp hx).1
      simpa [rngL] using this
    obtain ⟨ls2, h2, q1, q2, q3⟩ := run_lap (s1 := .sh x) (s2 := s2) (s3 := s3) (s4 := s4) (s5 := s5) p (by omega)
    exact ⟨_, ls2, h2, rfl, q1, q2, q3⟩) 8 0 [.sh (.obj k), .no, .no, .no, .no, .no] h rfl ⟨⟨_, _, _, _, _, rfl⟩, p⟩
  refine ⟨h', ?_⟩
  rw [runD_at (de := d23) rfl rfl]
  show fin (evSs T R22 fu b23 [.sh (.obj k), .no, .no, .no, .no, .no] h) = _
  have eb : b23 = [.fors (.n 1) (.rng1 (.int 8)) lapB, .ret (.bl true)] := rfl
  have q : evS T R22 fu (.fors (.n 1) (.rng1 (.int 8)) lapB) [.sh (.obj k), .no, .no, .no, .no, .no] h = loopF (evSs T R22 fu lapB) (.n 1) (rngL 0 8) [.sh (.obj k), .no, .no, .no, .no, .no] h := rfl
  rw [eb, evSs, q]
  rw [List.drop_zero] at e
  rw [e]
  rfl
/-- the law -/
theorem holds (ns : List Int) : ∃ h, runD T fu Ds 24 24 [.scr (ns.map .int)] [] = .ok (.bl true) h := by
  obtain ⟨n, n1, n2, ec⟩ := run_cells (d := 22) (ns := ns) (h := [])
  obtain ⟨h', e, _⟩ := turns_true (f := fun ls h => (evE T (runD T fu Ds 23) (.call 23 [.call 13 [.var 0, .var 1]]) ls h).calm) (cs := fun ls h => (evC T (runD T fu Ds 23) [] ls h).calm) (t := .n 1) (ls := [.sh (.scr (ns.map .int)), .no]) (.bl true) (fun _ => True) (rngL 0 n) [] [] True.intro (fun x hx h _ => by
    obtain ⟨i, hi, rfl⟩ := List.mem_map.mp hx
    have hi : i < n := List.mem_range.mp hi
    obtain ⟨h1, d1, p⟩ := run_draws (d := 22) (i := i) (ns := ns) (h := h) (by omega)
    obtain ⟨h2, d2⟩ := run_right p
    refine ⟨[.sh (.scr (ns.map .int)), .sh (.int (0 + (i : Int)))], h2, rfl, rfl, ?_, True.intro⟩
    have z : (0 : Int) + (i : Int) = i := by omega
    rw [z]
    simp [evSs, evS, evE, evEs, evAnd, evOr, evO, evF, evC, evI, evBin, evCmp, evBlt, evIdx, evSlc, evSlcL, asgT, asgT.asgTs, startL, isL, frzL, seqB, d1, d2]) (by simp [rngL]; omega)
  refine ⟨h', ?_⟩
  rw [runD_at (de := d24) rfl rfl]
  show fin (evSs T (runD T fu Ds 23) fu b24 [.sh (.scr (ns.map .int)), .no] []) = _
  have q : evF T (runD T fu Ds 23) (.comp (.call 23 [.call 13 [.var 0, .var 1]]) (.n 1) (.val (.call 16 [.var 0, .int 4])) []) [.sh (.scr (ns.map .int)), .no] [] = .ok (.lst (List.replicate (rngL 0 n).length (.bl true))) h' := by
    show (evI T (runD T fu Ds 23) (.val (.call 16 [.var 0, .int 4])) [.sh (.scr (ns.map .int)), .no] []).bind (fun xs h => turns (fun ls h => (evE T (runD T fu Ds 23) (.call 23 [.call 13 [.var 0, .var 1]]) ls h).calm) (fun ls h => (evC T (runD T fu Ds 23) [] ls h).calm) (.n 1) (wipeL [.sh (.scr (ns.map .int)), .no] (slotsT (.n 1))) xs [] h) = _
    have q1 : evI T (runD T fu Ds 23) (.val (.call 16 [.var 0, .int 4])) [.sh (.scr (ns.map .int)), .no] [] = .ok (rngL 0 n) [] := by simp [evSs, evS, evE, evEs, evAnd, evOr, evO, evF, evC, evI, evBin, evCmp, evBlt, evIdx, evSlc, evSlcL, asgT, asgT.asgTs, startL, isL, frzL, seqB, ec]
    rw [q1, Res.bind_ok]
    exact e
  have s3 := all_true (h := h') (rngL 0 n).length
  generalize hc : (MF.comp (.call 23 [.call 13 [.var 0, .var 1]]) (.n 1) (.val (.call 16 [.var 0, .int 4])) []) = cm at q
  have eb : b24 = [.ret (.blt .all [.fr cm])] := by rw [← hc]; rfl
  rw [eb]
  simp [evSs, evS, evE, evEs, frzL, q, s3]
end K35

open PySem PySem.W PySem.Calls PyProof.Rows
theorem PySem.Challenge.cw_sunstrings_k35_whole_loss_and_fair_lengt_holds : PySem.Challenge.rw_sunstrings_k35_whole_loss_and_fair_lengt.Holds := by
  w_on; o_law
  refine HandSHeadRun.head_any (r := OpenLaw.row PySem.Challenge.rw_sunstrings_k35_whole_loss_and_fair_lengt) (q := view (OpenLaw.row PySem.Challenge.rw_sunstrings_k35_whole_loss_and_fair_lengt).prog [33]) (H := Hd.hk) (ob := Hd.ob) (M := 20000) (loose := Hd.loose) (d := HandSHeadRun.topDef (OpenLaw.row PySem.Challenge.rw_sunstrings_k35_whole_loss_and_fair_lengt).prog 33) (kwd := []) Hd.ob_eq
    (by kernel_rfl) (fun s => by kernel_rfl) Hd.run (by kernel_rfl) (by kernel_rfl) (by kernel_rfl) (by rfl) (by first | assumption | decide +kernel) (by decide +kernel) ⟨rfl, rfl, rfl, rfl, rfl, by decide +kernel⟩ ?hw ?hc
  case hw => w_witness2
  case hc =>
    refine Ev.walk_E (l := PySem.Challenge.rw_sunstrings_k35_whole_loss_and_fair_lengt) (n := 63) (k := 24) (T := Pr.T) (fu := K35.fu) (Ds := Pr.Ds) (f := 24) (de := Pr.d24) (x := "_law_script") rfl (by decide) (by kernel_rfl) ⟨rfl, by decide, by decide⟩ rfl rfl (by decide) (by kernel_rfl) ?F (fun ns _ _ => K35.holds ns)
    intro w mg fa h Y G hmg
    obtain ⟨K, KX, c⟩ := Y
    exact ⟨K, KX, Pr.allOk KX G c⟩
