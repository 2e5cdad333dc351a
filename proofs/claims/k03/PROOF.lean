import PyProof.Rows.All
import HandS.ForMost
import HandS.Evl
import HandS.Steps
import HandS.Style
import HandS.TupAny
import HandS.Wide
import HandS.IsInst
import HandS.TupLen
import HandS.SortInts
import HandS.Conv
import HandS.Deep
import HandS.Text
import HandS.TupMul
import HandS.Defaults
import KE.GoesMore
import PySem.Challenge.RW_intervalbench_k03_trees_by_their_ways
import HandS.Head0
import HandS.Head1
import HandS.Head2
import HandS.HeadEnd
import HandS.HeadHook1
import HandS.HeadHook2
import KE.KStateDown
set_option Elab.async false
set_option linter.all false
set_option maxRecDepth 100000
set_option maxHeartbeats 4000000
/-! the data layer: a machine over plain data, and its tie to the hand layer's readings -/
namespace DL
open PySem L2

abbrev D := PyData
/-- what stands in the machine's store -/
inductive MO where
  | lst (xs : List D)
  | dct (t : Bool) (es : List (D × D))
/-- what a name, an argument, an answer is: nothing, a datum, a place in the store, a list | dict that this name alone holds -/
inductive Slot where
  | un
  | d (x : D)
  | r (n : Nat)
  | ol (xs : List D)
  | od (t : Bool) (es : List (D × D))
def Slot.own : Slot → Bool
  | .ol _ => true
  | .od _ _ => true
  | _ => false
abbrev Pr := Addr → Prop
def Pu (os W : Pr) : Pr := fun a => os a ∨ W a
def addP (os : Pr) (a : Addr) : Pr := fun b => os b ∨ b = a

/-! ### heaps -/
structure Step (W : Pr) (H : Hp) (W' : Pr) (H' : Hp) : Prop where
  keep : ∀ a o, H a = some o → ¬ W a → H' a = some o
  new : ∀ a, W' a → W a ∨ H a = none
section
variable {W W1 W2 : Pr} {H H1 H2 : Hp} {a : Addr} {o : HO}
theorem Step.refl : Step W H W H := ⟨fun _ _ h _ => h, fun _ h => .inl h⟩
theorem Step.off (s : Step W H W1 H1) (h : H a = some o) (n : ¬ W a) : ¬ W1 a := fun m => by
  rcases s.new a m with m | m
  · exact n m
  · rw [h] at m
    cases m
theorem Step.trans (s : Step W H W1 H1) (t : Step W1 H1 W2 H2) : Step W H W2 H2 := by
  refine ⟨fun a o h n => t.keep a o (s.keep a o h n) (s.off h n), fun a m => ?_⟩
  rcases t.new a m with m | m
  · exact s.new a m
  · cases e : H a with
    | none => exact .inr rfl
    | some o =>
      by_cases z : W a
      · exact .inl z
      · rw [s.keep a o e z] at m
        cases m
theorem Step.laid (h : H a = none) : Step W H W (upd H a o) := ⟨fun b u e _ => by
  rw [upd_ne (ne_of_none e h)]
  exact e, fun _ m => .inl m⟩
theorem Step.write (m : W a) : Step W H W (upd H a o) := ⟨fun b u e n => by
  rw [upd_ne (fun z => n (by rw [z]; exact m))]
  exact e, fun _ m => .inl m⟩
theorem Step.less (s : ∀ b, W1 b → W b) : Step W H W1 H := ⟨fun _ _ h _ => h, fun b m => .inl (s b m)⟩
end

/-! ### data -/
def kD : Key → D
  | .inl i => .int i
  | .inr x => .str x
def TupAt (K : PySem.W.Frag) (P : Pr) (H : Hp) (a : Addr) (vs : List V) : Prop := H a = some (.tup vs) ∧ ¬ P a
theorem TupAt.sq {K : PySem.W.Frag} {P : Pr} {H : Hp} {a : Addr} {vs : List V} (h : TupAt K P H a vs) : SqT K H a vs := .inl (.inl h.1)
mutual
inductive RV (K : PySem.W.Frag) (P : Pr) (H : Hp) : D → V → Prop where
  | non : RV K P H .none .non
  | bl (b : Bool) : RV K P H (.bool b) (.bl b)
  | int (i : Int) : RV K P H (.int i) (.int i)
  | str (x : Str) : RV K P H (.str x) (.str x)
  | tup {a : Addr} {vs : List V} {ds : List D} : TupAt K P H a vs → RVs K P H ds vs → RV K P H (.tuple ds) (.ref a)
  | lst {a : Addr} {vs : List V} {ds : List D} : ¬ P a → Rd H a (.lst vs) → RVs K P H ds vs → RV K P H (.list ds) (.ref a)
  | lstK {a : Addr} {vs : List V} {ds : List D} : (∀ H', SqL K H' a vs) → RVs K P H ds vs → RV K P H (.list ds) (.ref a)
  | dK {a : Addr} {kvs : List (Key × V)} {es : List (D × D)} : ¬ P a → Rd H a (.dK kvs) → RVk K P H es kvs → RV K P H (.dict es) (.ref a)
  | dT {a : Addr} {kvs : List (List Key × V)} {es : List (D × D)} : ¬ P a → Rd H a (.dT kvs) → RVt K P H es kvs → RV K P H (.dict es) (.ref a)
inductive RVs (K : PySem.W.Frag) (P : Pr) (H : Hp) : List D → List V → Prop where
  | nil : RVs K P H [] []
  | cons {d : D} {v : V} {ds : List D} {vs : List V} : RV K P H d v → RVs K P H ds vs → RVs K P H (d :: ds) (v :: vs)
inductive RVk (K : PySem.W.Frag) (P : Pr) (H : Hp) : List (D × D) → List (Key × V) → Prop where
  | nil : RVk K P H [] []
  | cons {k : Key} {d : D} {v : V} {es : List (D × D)} {kvs : List (Key × V)} : RV K P H d v → RVk K P H es kvs → RVk K P H ((kD k, d) :: es) ((k, v) :: kvs)
inductive RVt (K : PySem.W.Frag) (P : Pr) (H : Hp) : List (D × D) → List (List Key × V) → Prop where
  | nil : RVt K P H [] []
  | cons {k : List Key} {d : D} {v : V} {es : List (D × D)} {kvs : List (List Key × V)} : RV K P H d v → RVt K P H es kvs → RVt K P H ((.tuple (k.map kD), d) :: es) ((k, v) :: kvs)
end
section
variable {K : PySem.W.Frag} {os W W1 W2 P P1 : Pr} {H H1 H2 : Hp} {a : Addr}
theorem off_u (s : Step W H W1 H1) {o : HO} (h : H a = some o) (n : ¬ Pu os W a) : ¬ Pu os W1 a := fun m => by
  rcases m with m | m
  · exact n (.inl m)
  · exact s.off h (fun z => n (.inr z)) m
theorem Rd.step {u : HO} (s : Step W H W1 H1) (n : ¬ Pu os W a) (h : Rd H a u) : Rd H1 a u ∧ ¬ Pu os W1 a := by
  rcases h with h | ⟨o, h⟩
  · exact ⟨.inl (s.keep _ _ h fun z => n (.inr z)), off_u s h n⟩
  · exact ⟨.inr ⟨o, s.keep _ _ h fun z => n (.inr z)⟩, off_u s h n⟩
theorem TupAt.step {vs : List V} (s : Step W H W1 H1) (h : TupAt K (Pu os W) H a vs) : TupAt K (Pu os W1) H1 a vs := ⟨s.keep _ _ h.1 fun z => h.2 (.inr z), off_u s h.1 h.2⟩
mutual
theorem RV.step (s : Step W H W1 H1) : ∀ {d : D} {v : V}, RV K (Pu os W) H d v → RV K (Pu os W1) H1 d v
  | _, _, .non => .non
  | _, _, .bl b => .bl b
  | _, _, .int i => .int i
  | _, _, .str x => .str x
  | _, _, .tup t r => .tup (t.step s) (RVs.step s r)
  | _, _, .lst n h r => .lst (Rd.step s n h).2 (Rd.step s n h).1 (RVs.step s r)
  | _, _, .lstK h r => .lstK h (RVs.step s r)
  | _, _, .dK n h r => .dK (Rd.step s n h).2 (Rd.step s n h).1 (RVk.step s r)
  | _, _, .dT n h r => .dT (Rd.step s n h).2 (Rd.step s n h).1 (RVt.step s r)
theorem RVs.step (s : Step W H W1 H1) : ∀ {ds : List D} {vs : List V}, RVs K (Pu os W) H ds vs → RVs K (Pu os W1) H1 ds vs
  | _, _, .nil => .nil
  | _, _, .cons r t => .cons (RV.step s r) (RVs.step s t)
theorem RVk.step (s : Step W H W1 H1) : ∀ {es : List (D × D)} {kvs : List (Key × V)}, RVk K (Pu os W) H es kvs → RVk K (Pu os W1) H1 es kvs
  | _, _, .nil => .nil
  | _, _, .cons r t => .cons (RV.step s r) (RVk.step s t)
theorem RVt.step (s : Step W H W1 H1) : ∀ {es : List (D × D)} {kvs : List (List Key × V)}, RVt K (Pu os W) H es kvs → RVt K (Pu os W1) H1 es kvs
  | _, _, .nil => .nil
  | _, _, .cons r t => .cons (RV.step s r) (RVt.step s t)
end
/-- fewer protected places -/
def Less (P1 P : Pr) : Prop := ∀ a, P1 a → P a
theorem TupAt.less {vs : List V} (s : Less P1 P) (h : TupAt K P H a vs) : TupAt K P1 H a vs := ⟨h.1, fun m => h.2 (s _ m)⟩
mutual
theorem RV.less (s : Less P1 P) : ∀ {d : D} {v : V}, RV K P H d v → RV K P1 H d v
  | _, _, .non => .non
  | _, _, .bl b => .bl b
  | _, _, .int i => .int i
  | _, _, .str x => .str x
  | _, _, .tup t r => .tup (t.less s) (RVs.less s r)
  | _, _, .lst n h r => .lst (fun m => n (s _ m)) h (RVs.less s r)
  | _, _, .lstK h r => .lstK h (RVs.less s r)
  | _, _, .dK n h r => .dK (fun m => n (s _ m)) h (RVk.less s r)
  | _, _, .dT n h r => .dT (fun m => n (s _ m)) h (RVt.less s r)
theorem RVs.less (s : Less P1 P) : ∀ {ds : List D} {vs : List V}, RVs K P H ds vs → RVs K P1 H ds vs
  | _, _, .nil => .nil
  | _, _, .cons r t => .cons (RV.less s r) (RVs.less s t)
theorem RVk.less (s : Less P1 P) : ∀ {es : List (D × D)} {kvs : List (Key × V)}, RVk K P H es kvs → RVk K P1 H es kvs
  | _, _, .nil => .nil
  | _, _, .cons r t => .cons (RV.less s r) (RVk.less s t)
theorem RVt.less (s : Less P1 P) : ∀ {es : List (D × D)} {kvs : List (List Key × V)}, RVt K P H es kvs → RVt K P1 H es kvs
  | _, _, .nil => .nil
  | _, _, .cons r t => .cons (RV.less s r) (RVt.less s t)
end
theorem RVs.length : ∀ {ds : List D} {vs : List V}, RVs K P H ds vs → ds.length = vs.length
  | _, _, .nil => rfl
  | _, _, .cons _ t => by rw [List.length_cons, List.length_cons, RVs.length t]
theorem RVs.get : ∀ {ds : List D} {vs : List V} {i : Nat} {d : D}, RVs K P H ds vs → ds[i]? = some d → ∃ v, vs[i]? = some v ∧ RV K P H d v
  | _, _, _, _, .nil, e => by simp at e
  | _, _, 0, _, .cons r _, e => by
    simp at e
    subst e
    exact ⟨_, rfl, r⟩
  | _, _, i + 1, d, .cons _ t, e => by
    obtain ⟨v, h1, h2⟩ := RVs.get (i := i) (d := d) t (by simpa using e)
    exact ⟨v, by simpa using h1, h2⟩
theorem RVs.getV : ∀ {ds : List D} {vs : List V} {i : Nat} {v : V}, RVs K P H ds vs → vs[i]? = some v → ∃ d, ds[i]? = some d ∧ RV K P H d v
  | _, _, _, _, .nil, e => by simp at e
  | _, _, 0, _, .cons r _, e => by
    simp at e
    subst e
    exact ⟨_, rfl, r⟩
  | _, _, i + 1, d, .cons _ t, e => by
    obtain ⟨v, h1, h2⟩ := RVs.getV (i := i) (v := d) t (by simpa using e)
    exact ⟨v, by simpa using h1, h2⟩
theorem RVs.append : ∀ {ds es : List D} {vs us : List V}, RVs K P H ds vs → RVs K P H es us → RVs K P H (ds ++ es) (vs ++ us)
  | _, _, _, _, .nil, s => s
  | _, _, _, _, .cons r t, s => .cons r (RVs.append t s)
theorem RVs.take : ∀ {ds : List D} {vs : List V} (n : Nat), RVs K P H ds vs → RVs K P H (ds.take n) (vs.take n)
  | _, _, 0, _ => .nil
  | _, _, _ + 1, .nil => .nil
  | _, _, n + 1, .cons r t => .cons r (RVs.take n t)
theorem RVs.drop : ∀ {ds : List D} {vs : List V} (n : Nat), RVs K P H ds vs → RVs K P H (ds.drop n) (vs.drop n)
  | _, _, 0, r => r
  | _, _, _ + 1, .nil => .nil
  | _, _, n + 1, .cons _ t => RVs.drop n t
theorem RVs.set {d : D} {v : V} (r : RV K P H d v) : ∀ {ds : List D} {vs : List V} (i : Nat), RVs K P H ds vs → RVs K P H (ds.set i d) (vs.set i v)
  | _, _, _, .nil => .nil
  | _, _, 0, .cons _ t => .cons r t
  | _, _, i + 1, .cons q t => .cons q (RVs.set r i t)
theorem RVs.eraseIdx : ∀ {ds : List D} {vs : List V} (i : Nat), RVs K P H ds vs → RVs K P H (ds.eraseIdx i) (vs.eraseIdx i)
  | _, _, _, .nil => .nil
  | _, _, 0, .cons _ t => t
  | _, _, i + 1, .cons q t => .cons q (RVs.eraseIdx i t)
theorem RVs.reverse : ∀ {ds : List D} {vs : List V}, RVs K P H ds vs → RVs K P H ds.reverse vs.reverse
  | _, _, .nil => .nil
  | _, _, .cons r t => by
    rw [List.reverse_cons, List.reverse_cons]
    exact (RVs.reverse t).append (.cons r .nil)
mutual
/-- no dict stands in it -/
def noD : D → Bool
  | .none => true
  | .bool _ => true
  | .int _ => true
  | .str _ => true
  | .list xs => noDs xs
  | .tuple xs => noDs xs
  | .dict _ => false
def noDs : List D → Bool
  | [] => true
  | x :: xs => noD x && noDs xs
end
mutual
theorem RV.dp : ∀ {d : D} {v : V}, RV K P H d v → noD d = true → Dp K H v d
  | _, _, .non, _ => .non
  | _, _, .bl b, _ => .bl b
  | _, _, .int i, _ => .int i
  | _, _, .str x, _ => .str x
  | _, _, .tup t r, p => .tup t.sq (RVs.dp r (by simpa [noD] using p))
  | _, _, .lst n h r, p => .lst (.inl h) (RVs.dp r (by simpa [noD] using p))
  | _, _, .lstK h r, p => .lst (h _) (RVs.dp r (by simpa [noD] using p))
  | _, _, .dK n h r, p => by simp [noD] at p
  | _, _, .dT n h r, p => by simp [noD] at p
theorem RVs.dp : ∀ {ds : List D} {vs : List V}, RVs K P H ds vs → noDs ds = true → DpAll K H vs ds
  | _, _, .nil, _ => .nil
  | _, _, .cons r t, p => by
    simp only [noDs, Bool.and_eq_true] at p
    exact .cons (RV.dp r p.1) (RVs.dp t p.2)
end
theorem RVs.ints : ∀ {ns : List Int} {vs : List V}, RVs K P H (ns.map .int) vs → vs = ns.map V.int
  | [], _, .nil => rfl
  | n :: ns, _, .cons r t => by
    cases r
    rw [RVs.ints t]
    rfl
theorem RVs.bools : ∀ {ns : List Bool} {vs : List V}, RVs K P H (ns.map .bool) vs → vs = ns.map V.bl
  | [], _, .nil => rfl
  | n :: ns, _, .cons r t => by
    cases r
    rw [RVs.bools t]
    rfl
end

/-! ### the store and the names -/
/-- a list, a dict that stands at a -/
def ObjAt (K : PySem.W.Frag) (P : Pr) (H : Hp) (a : Addr) : MO → Prop
  | .lst ds => ∃ vs, H a = some (.lst vs) ∧ RVs K P H ds vs
  | .dct false es => ∃ kvs, H a = some (.dK kvs) ∧ RVk K P H es kvs
  | .dct true es => ∃ kvs, H a = some (.dT kvs) ∧ RVt K P H es kvs
def OwnI (ρ : List Slot) (σ : L2.St) (i : Nat) (a : Addr) : Prop := (∃ s, ρ[i]? = some s ∧ s.own = true) ∧ σ[i]? = some (some (.ref a))
/-- what this frame may change -/
def Wr (f : List Addr) (ρ : List Slot) (σ : L2.St) : Pr := fun a => a ∈ f ∨ ∃ i, OwnI ρ σ i a
def SlotOk (K : PySem.W.Frag) (P : Pr) (f : List Addr) (H : Hp) : Slot → V → Prop
  | .un, _ => False
  | .d x, v => RV K P H x v
  | .r n, v => ∃ a, v = .ref a ∧ f[n]? = some a
  | .ol xs, v => ∃ a, v = .ref a ∧ ObjAt K P H a (.lst xs)
  | .od t es, v => ∃ a, v = .ref a ∧ ObjAt K P H a (.dct t es)
structure Rel (K : PySem.W.Frag) (os : Pr) (f : List Addr) (ρ : List Slot) (M : List MO) (σ : L2.St) (H : Hp) : Prop where
  len : ρ.length = σ.length
  sl : ∀ (i : Nat) (s : Slot), ρ[i]? = some s → s ≠ .un → ∃ v, σ[i]? = some (some v) ∧ SlotOk K (Pu os (Wr f ρ σ)) f H s v
  fl : f.length = M.length
  nd : ∀ (i j : Nat) (a : Addr), f[i]? = some a → f[j]? = some a → i = j
  ob : ∀ (i : Nat) (mo : MO), M[i]? = some mo → ∃ a, f[i]? = some a ∧ ObjAt K (Pu os (Wr f ρ σ)) H a mo
  o1 : ∀ (i j : Nat) (a : Addr), OwnI ρ σ i a → OwnI ρ σ j a → i = j
  o2 : ∀ (i : Nat) (a : Addr), OwnI ρ σ i a → a ∉ f ∧ ¬ os a
  o3 : ∀ a, a ∈ f → ¬ os a
  o4 : ∀ a, os a → ∃ o, H a = some o
section
variable {K : PySem.W.Frag} {os os1 W W1 W2 P P1 : Pr} {f f1 f2 : List Addr} {H H1 H2 : Hp} {M M1 : List MO} {σ σ1 : L2.St} {ρ ρ1 : List Slot} {a : Addr}
theorem ObjAt.there {mo : MO} (h : ObjAt K P H a mo) : ∃ o, H a = some o := by
  cases mo with
  | lst ds =>
    obtain ⟨vs, e, _⟩ := h
    exact ⟨_, e⟩
  | dct t es =>
    cases t with
    | false =>
      obtain ⟨_, e, _⟩ := h
      exact ⟨_, e⟩
    | true =>
      obtain ⟨_, e, _⟩ := h
      exact ⟨_, e⟩
theorem ObjAt.step {mo : MO} (s : Step W H W1 H1) (e : H1 a = H a) (h : ObjAt K (Pu os W) H a mo) : ObjAt K (Pu os W1) H1 a mo := by
  cases mo with
  | lst ds =>
    obtain ⟨vs, q, r⟩ := h
    exact ⟨vs, e.trans q, r.step s⟩
  | dct t es =>
    cases t with
    | false =>
      obtain ⟨kvs, q, r⟩ := h
      exact ⟨kvs, e.trans q, r.step s⟩
    | true =>
      obtain ⟨kvs, q, r⟩ := h
      exact ⟨kvs, e.trans q, r.step s⟩
theorem ObjAt.less {mo : MO} (s : Less P1 P) (h : ObjAt K P H a mo) : ObjAt K P1 H a mo := by
  cases mo with
  | lst ds =>
    obtain ⟨vs, q, r⟩ := h
    exact ⟨vs, q, r.less s⟩
  | dct t es =>
    cases t with
    | false =>
      obtain ⟨kvs, q, r⟩ := h
      exact ⟨kvs, q, r.less s⟩
    | true =>
      obtain ⟨kvs, q, r⟩ := h
      exact ⟨kvs, q, r.less s⟩
/-- what stands at an own or a stored place is no longer protected: a datum -/
theorem ObjAt.rv {mo : MO} (h : ObjAt K P H a mo) (n : ¬ P a) : RV K P H (match mo with | .lst ds => .list ds | .dct _ es => .dict es) (.ref a) := by
  cases mo with
  | lst ds =>
    obtain ⟨vs, q, r⟩ := h
    exact .lst n (.inl q) r
  | dct t es =>
    cases t with
    | false =>
      obtain ⟨kvs, q, r⟩ := h
      exact .dK n (.inl q) r
    | true =>
      obtain ⟨kvs, q, r⟩ := h
      exact .dT n (.inl q) r
theorem SlotOk.less {s : Slot} {v : V} (l : Less P1 P) (h : SlotOk K P f H s v) : SlotOk K P1 f H s v := by
  cases s with
  | un => exact h
  | d x => exact RV.less l h
  | r n => exact h
  | ol xs =>
    obtain ⟨a, e, q⟩ := h
    exact ⟨a, e, q.less l⟩
  | od t es =>
    obtain ⟨a, e, q⟩ := h
    exact ⟨a, e, q.less l⟩
theorem Rel.there (R : Rel K os f ρ M σ H) {a : Addr} (h : Wr f ρ σ a) : ∃ o, H a = some o := by
  rcases h with h | ⟨i, ⟨s, e, n⟩, e2⟩
  · obtain ⟨i, hi⟩ := List.mem_iff_getElem?.mp h
    have li : i < M.length := by rw [← R.fl]; exact (List.getElem?_eq_some_iff.mp hi).1
    obtain ⟨b, e, q⟩ := R.ob i M[i] (List.getElem?_eq_getElem li)
    rw [hi] at e
    cases e
    exact q.there
  · obtain ⟨v, e3, q⟩ := R.sl i s e (by rintro rfl; cases n)
    rw [e2] at e3
    cases e3
    cases s with
    | un => cases n
    | d x => cases n
    | r n' => cases n
    | ol xs =>
      obtain ⟨b, e4, q⟩ := q
      cases e4
      exact q.there
    | od t es =>
      obtain ⟨b, e4, q⟩ := q
      cases e4
      exact q.there
theorem Rel.free (R : Rel K os f ρ M σ H) (h : H a = none) : ¬ Pu os (Wr f ρ σ) a := fun m => by
  rcases m with m | m
  · obtain ⟨o, e⟩ := R.o4 a m
    rw [h] at e
    cases e
  · obtain ⟨o, e⟩ := R.there m
    rw [h] at e
    cases e
/-- all that may be changed stays as it is -/
theorem Rel.same (R : Rel K os f ρ M σ H) (s : Step (Wr f ρ σ) H (Wr f ρ σ) H1) (e : ∀ a, Pu os (Wr f ρ σ) a → H1 a = H a) : Rel K os f ρ M σ H1 := by
  refine ⟨R.len, fun i x h n => ?_, R.fl, R.nd, fun i mo h => ?_, R.o1, R.o2, R.o3, fun a h => ?_⟩
  · obtain ⟨v, e1, q⟩ := R.sl i x h n
    refine ⟨v, e1, ?_⟩
    cases x with
    | un => exact q
    | d x => exact RV.step s q
    | r n => exact q
    | ol xs =>
      obtain ⟨a, e2, q⟩ := q
      subst e2
      exact ⟨a, rfl, q.step s (e a (.inr (.inr ⟨i, ⟨_, h, rfl⟩, e1⟩)))⟩
    | od t xs =>
      obtain ⟨a, e2, q⟩ := q
      subst e2
      exact ⟨a, rfl, q.step s (e a (.inr (.inr ⟨i, ⟨_, h, rfl⟩, e1⟩)))⟩
  · obtain ⟨a, e1, q⟩ := R.ob i mo h
    exact ⟨a, e1, q.step s (e a (.inr (.inl (List.mem_of_getElem? e1))))⟩
  · obtain ⟨o, q⟩ := R.o4 a h
    exact ⟨o, (e a (.inl h)).trans q⟩
theorem Rel.laid {o : HO} (R : Rel K os f ρ M σ H) (h : H a = none) : Rel K os f ρ M σ (upd H a o) := R.same (Step.laid h) fun b m => by
  rw [upd_ne (fun z : b = a => R.free h (by rw [← z]; exact m))]
end
theorem nAdd {os W : Pr} {H : Hp} {a b : Addr} {o u : HO} (h : H a = none) (q : H b = some u) (n : ¬ Pu os W b) : upd H a o b = some u ∧ ¬ Pu (addP os a) W b := by
  have ne : b ≠ a := ne_of_none q h
  refine ⟨by rw [upd_ne ne]; exact q, fun m => ?_⟩
  rcases m with (m | m) | m
  · exact n (.inl m)
  · exact ne m
  · exact n (.inr m)
theorem rdAdd {os W : Pr} {H : Hp} {a b : Addr} {o u : HO} (h : H a = none) (n : ¬ Pu os W b) (q : Rd H b u) : Rd (upd H a o) b u ∧ ¬ Pu (addP os a) W b := by
  rcases q with q | ⟨o', q⟩
  · exact ⟨.inl (nAdd (o := o) h q n).1, (nAdd (o := o) h q n).2⟩
  · exact ⟨.inr ⟨o', (nAdd (o := o) h q n).1⟩, (nAdd (o := o) h q n).2⟩
mutual
theorem RV.addP {K : PySem.W.Frag} {os W : Pr} {H : Hp} {a : Addr} {o : HO} (h : H a = none) : ∀ {d : D} {v : V}, RV K (Pu os W) H d v → RV K (Pu (addP os a) W) (upd H a o) d v
  | _, _, .non => .non
  | _, _, .bl b => .bl b
  | _, _, .int i => .int i
  | _, _, .str x => .str x
  | _, _, .tup ⟨t, n⟩ r => .tup (nAdd (o := o) h t n) (RVs.addP h r)
  | _, _, .lst n q r => .lst (rdAdd (o := o) h n q).2 (rdAdd (o := o) h n q).1 (RVs.addP h r)
  | _, _, .lstK q r => .lstK q (RVs.addP h r)
  | _, _, .dK n q r => .dK (rdAdd (o := o) h n q).2 (rdAdd (o := o) h n q).1 (RVk.addP h r)
  | _, _, .dT n q r => .dT (rdAdd (o := o) h n q).2 (rdAdd (o := o) h n q).1 (RVt.addP h r)
theorem RVs.addP {K : PySem.W.Frag} {os W : Pr} {H : Hp} {a : Addr} {o : HO} (h : H a = none) : ∀ {ds : List D} {vs : List V}, RVs K (Pu os W) H ds vs → RVs K (Pu (addP os a) W) (upd H a o) ds vs
  | _, _, .nil => .nil
  | _, _, .cons r t => .cons (RV.addP h r) (RVs.addP h t)
theorem RVk.addP {K : PySem.W.Frag} {os W : Pr} {H : Hp} {a : Addr} {o : HO} (h : H a = none) : ∀ {es : List (D × D)} {kvs : List (Key × V)}, RVk K (Pu os W) H es kvs → RVk K (Pu (addP os a) W) (upd H a o) es kvs
  | _, _, .nil => .nil
  | _, _, .cons r t => .cons (RV.addP h r) (RVk.addP h t)
theorem RVt.addP {K : PySem.W.Frag} {os W : Pr} {H : Hp} {a : Addr} {o : HO} (h : H a = none) : ∀ {es : List (D × D)} {kvs : List (List Key × V)}, RVt K (Pu os W) H es kvs → RVt K (Pu (addP os a) W) (upd H a o) es kvs
  | _, _, .nil => .nil
  | _, _, .cons r t => .cons (RV.addP h r) (RVt.addP h t)
end
section
variable {K : PySem.W.Frag} {os os1 W W1 W2 P P1 : Pr} {f f1 f2 : List Addr} {H H1 H2 : Hp} {M M1 : List MO} {σ σ1 : L2.St} {ρ ρ1 : List Slot} {a : Addr}
theorem ObjAt.addP {mo : MO} {b : Addr} {o : HO} (h : H a = none) (q : ObjAt K (Pu os W) H b mo) : ObjAt K (Pu (addP os a) W) (upd H a o) b mo := by
  cases mo with
  | lst ds =>
    obtain ⟨vs, q, r⟩ := q
    exact ⟨vs, by rw [upd_ne (ne_of_none q h)]; exact q, r.addP h⟩
  | dct t es =>
    cases t with
    | false =>
      obtain ⟨kvs, q, r⟩ := q
      exact ⟨kvs, by rw [upd_ne (ne_of_none q h)]; exact q, r.addP h⟩
    | true =>
      obtain ⟨kvs, q, r⟩ := q
      exact ⟨kvs, by rw [upd_ne (ne_of_none q h)]; exact q, r.addP h⟩
theorem SlotOk.addP {s : Slot} {v : V} {o : HO} (h : H a = none) (q : SlotOk K (Pu os W) f H s v) : SlotOk K (Pu (addP os a) W) f (upd H a o) s v := by
  cases s with
  | un => exact q
  | d x => exact RV.addP h q
  | r n => exact q
  | ol xs =>
    obtain ⟨b, e, q⟩ := q
    exact ⟨b, e, q.addP h⟩
  | od t es =>
    obtain ⟨b, e, q⟩ := q
    exact ⟨b, e, q.addP h⟩
/-- a new object is laid down and held -/
theorem Rel.lay {o : HO} (R : Rel K os f ρ M σ H) (h : H a = none) : Rel K (addP os a) f ρ M σ (upd H a o) := by
  have n := R.free h
  refine ⟨R.len, fun i x e z => ?_, R.fl, R.nd, fun i mo e => ?_, R.o1, fun i b q => ⟨(R.o2 i b q).1, fun m => ?_⟩, fun b q m => ?_, fun b m => ?_⟩
  · obtain ⟨v, e1, q⟩ := R.sl i x e z
    exact ⟨v, e1, q.addP h⟩
  · obtain ⟨b, e1, q⟩ := R.ob i mo e
    exact ⟨b, e1, q.addP h⟩
  · rcases m with m | m
    · exact (R.o2 i b q).2 m
    · subst m
      exact n (.inr (.inr ⟨i, q⟩))
  · rcases m with m | m
    · exact R.o3 b q m
    · subst m
      exact n (.inr (.inl q))
  · rcases m with m | m
    · obtain ⟨u, q⟩ := R.o4 b m
      exact ⟨u, by rw [upd_ne (ne_of_none q h)]; exact q⟩
    · subst m
      exact ⟨o, upd_same⟩
/-- less is protected -/
theorem Rel.weak (R : Rel K os1 f ρ M σ H) (l : Less os os1) : Rel K os f ρ M σ H := by
  have ll : Less (Pu os (Wr f ρ σ)) (Pu os1 (Wr f ρ σ)) := fun a m => m.elim (fun m => .inl (l a m)) .inr
  refine ⟨R.len, fun i x e z => ?_, R.fl, R.nd, fun i mo e => ?_, R.o1, fun i b q => ⟨(R.o2 i b q).1, fun m => (R.o2 i b q).2 (l b m)⟩, fun b q m => R.o3 b q (l b m), fun b m => R.o4 b (l b m)⟩
  · obtain ⟨v, e1, q⟩ := R.sl i x e z
    exact ⟨v, e1, q.less ll⟩
  · obtain ⟨b, e1, q⟩ := R.ob i mo e
    exact ⟨b, e1, q.less ll⟩
theorem less_add : Less os (addP os a) := fun _ m => .inl m
theorem OwnI.of_set {i j : Nat} {x : Slot} {v : V} (hl : ρ.length = σ.length) (h : OwnI (ρ.set i x) (σ.set i (some v)) j a) : (j = i ∧ x.own = true ∧ v = .ref a) ∨ (j ≠ i ∧ OwnI ρ σ j a) := by
  obtain ⟨⟨s, e, n⟩, e2⟩ := h
  by_cases hj : i = j
  · subst hj
    have li : i < ρ.length := by
      have := (List.getElem?_eq_some_iff.mp e).1
      rwa [List.length_set] at this
    rw [List.getElem?_set_self li] at e
    rw [List.getElem?_set_self (by rw [← hl]; exact li)] at e2
    cases e
    exact .inl ⟨rfl, n, by injection e2 with e2; injection e2⟩
  · rw [List.getElem?_set_ne hj] at e
    rw [List.getElem?_set_ne hj] at e2
    exact .inr ⟨fun z => hj z.symm, ⟨s, e, n⟩, e2⟩
/-- a name is given a datum, a place of the store -/
theorem Rel.asg {i : Nat} {x : Slot} {v : V} (R : Rel K os f ρ M σ H) (hx : x.own = false) (q : SlotOk K (Pu os (Wr f ρ σ)) f H x v) : Rel K os f (ρ.set i x) M (σ.set i (some v)) H := by
  have wl : Less (Wr f (ρ.set i x) (σ.set i (some v))) (Wr f ρ σ) := fun a m => by
    rcases m with m | ⟨j, m⟩
    · exact .inl m
    · rcases OwnI.of_set R.len m with ⟨_, z, _⟩ | ⟨_, m⟩
      · rw [hx] at z
        cases z
      · exact .inr ⟨j, m⟩
  have pl : Less (Pu os (Wr f (ρ.set i x) (σ.set i (some v)))) (Pu os (Wr f ρ σ)) := fun a m => m.elim .inl fun m => .inr (wl a m)
  have ow : ∀ {j a}, OwnI (ρ.set i x) (σ.set i (some v)) j a → OwnI ρ σ j a := fun {j a} m => by
    rcases OwnI.of_set R.len m with ⟨_, z, _⟩ | ⟨_, m⟩
    · rw [hx] at z
      cases z
    · exact m
  refine ⟨by rw [List.length_set, List.length_set, R.len], fun j s e n => ?_, R.fl, R.nd, fun j mo e => ?_, fun j k a h1 h2 => R.o1 j k a (ow h1) (ow h2), fun j b h => R.o2 j b (ow h), R.o3, R.o4⟩
  · by_cases hj : i = j
    · subst hj
      have li : i < ρ.length := by
        have := (List.getElem?_eq_some_iff.mp e).1
        rwa [List.length_set] at this
      rw [List.getElem?_set_self li] at e
      cases e
      exact ⟨v, by rw [List.getElem?_set_self (by rw [← R.len]; exact li)], q.less pl⟩
    · rw [List.getElem?_set_ne hj] at e
      obtain ⟨u, e1, q1⟩ := R.sl j s e n
      exact ⟨u, by rw [List.getElem?_set_ne hj]; exact e1, q1.less pl⟩
  · obtain ⟨b, e1, q1⟩ := R.ob j mo e
    exact ⟨b, e1, q1.less pl⟩
/-- a name forgets -/
theorem Rel.forget {i : Nat} (R : Rel K os f ρ M σ H) (v : Option V) : Rel K os f (ρ.set i .un) M (σ.set i v) H := by
  have ow : ∀ {j a}, OwnI (ρ.set i .un) (σ.set i v) j a → OwnI ρ σ j a := fun {j a} m => by
    obtain ⟨⟨s, e, n⟩, e2⟩ := m
    by_cases hj : i = j
    · subst hj
      have li : i < ρ.length := by
        have := (List.getElem?_eq_some_iff.mp e).1
        rwa [List.length_set] at this
      rw [List.getElem?_set_self li] at e
      cases e
      cases n
    · rw [List.getElem?_set_ne hj] at e
      rw [List.getElem?_set_ne hj] at e2
      exact ⟨⟨s, e, n⟩, e2⟩
  have pl : Less (Pu os (Wr f (ρ.set i .un) (σ.set i v))) (Pu os (Wr f ρ σ)) := fun a m => m.elim .inl fun m => .inr (m.elim .inl fun ⟨j, m⟩ => .inr ⟨j, ow m⟩)
  refine ⟨by rw [List.length_set, List.length_set, R.len], fun j s e n => ?_, R.fl, R.nd, fun j mo e => ?_, fun j k a h1 h2 => R.o1 j k a (ow h1) (ow h2), fun j b h => R.o2 j b (ow h), R.o3, R.o4⟩
  · by_cases hj : i = j
    · subst hj
      have li : i < ρ.length := by
        have := (List.getElem?_eq_some_iff.mp e).1
        rwa [List.length_set] at this
      rw [List.getElem?_set_self li] at e
      cases e
      exact absurd rfl n
    · rw [List.getElem?_set_ne hj] at e
      obtain ⟨u, e1, q1⟩ := R.sl j s e n
      exact ⟨u, by rw [List.getElem?_set_ne hj]; exact e1, q1.less pl⟩
  · obtain ⟨b, e1, q1⟩ := R.ob j mo e
    exact ⟨b, e1, q1.less pl⟩
def MO.slot : MO → Slot
  | .lst xs => .ol xs
  | .dct t es => .od t es
def MO.dat : MO → D
  | .lst xs => .list xs
  | .dct _ es => .dict es
theorem MO.slot_own (mo : MO) : mo.slot.own = true := by cases mo <;> rfl
/-- a name is given a new list, a new dict, as its own -/
theorem Rel.take {i : Nat} {mo : MO} (R : Rel K (addP os a) f ρ M σ H) (na : ¬ os a) (q : ObjAt K (Pu (addP os a) (Wr f ρ σ)) H a mo) : Rel K os f (ρ.set i mo.slot) M (σ.set i (some (.ref a))) H := by
  have af : a ∉ f := fun m => R.o3 a m (.inr rfl)
  have ao : ∀ j, ¬ OwnI ρ σ j a := fun j m => (R.o2 j a m).2 (.inr rfl)
  have wl : ∀ b, Wr f (ρ.set i mo.slot) (σ.set i (some (.ref a))) b → Wr f ρ σ b ∨ b = a := fun b m => by
    rcases m with m | ⟨j, m⟩
    · exact .inl (.inl m)
    · rcases OwnI.of_set R.len m with ⟨_, _, z⟩ | ⟨_, m⟩
      · injection z with z
        exact .inr z.symm
      · exact .inl (.inr ⟨j, m⟩)
  have pl : Less (Pu os (Wr f (ρ.set i mo.slot) (σ.set i (some (.ref a))))) (Pu (addP os a) (Wr f ρ σ)) := fun b m => by
    rcases m with m | m
    · exact .inl (.inl m)
    · rcases wl b m with m | m
      · exact .inr m
      · exact .inl (.inr m)
  refine ⟨by rw [List.length_set, List.length_set, R.len], fun j s e n => ?_, R.fl, R.nd, fun j m e => ?_, fun j k b h1 h2 => ?_, fun j b h => ?_, fun b m z => R.o3 b m (.inl z), fun b m => R.o4 b (.inl m)⟩
  · by_cases hj : i = j
    · subst hj
      have li : i < ρ.length := by
        have := (List.getElem?_eq_some_iff.mp e).1
        rwa [List.length_set] at this
      rw [List.getElem?_set_self li] at e
      cases e
      refine ⟨.ref a, by rw [List.getElem?_set_self (by rw [← R.len]; exact li)], ?_⟩
      cases mo with
      | lst xs => exact ⟨a, rfl, q.less pl⟩
      | dct t es => exact ⟨a, rfl, q.less pl⟩
    · rw [List.getElem?_set_ne hj] at e
      obtain ⟨u, e1, q1⟩ := R.sl j s e n
      exact ⟨u, by rw [List.getElem?_set_ne hj]; exact e1, q1.less pl⟩
  · obtain ⟨b, e1, q1⟩ := R.ob j m e
    exact ⟨b, e1, q1.less pl⟩
  · rcases OwnI.of_set R.len h1 with ⟨e1, _, z1⟩ | ⟨e1, m1⟩ <;> rcases OwnI.of_set R.len h2 with ⟨e2, _, z2⟩ | ⟨e2, m2⟩
    · rw [e1, e2]
    · injection z1 with z1
      subst z1
      exact absurd m2 (ao _)
    · injection z2 with z2
      subst z2
      exact absurd m1 (ao _)
    · exact R.o1 j k b m1 m2
  · rcases OwnI.of_set R.len h with ⟨_, _, z⟩ | ⟨_, m⟩
    · injection z with z
      subst z
      exact ⟨af, na⟩
    · exact ⟨(R.o2 j b m).1, fun z => (R.o2 j b m).2 (.inl z)⟩
theorem OwnI.of_setρ {i j : Nat} {x : Slot} (h : OwnI (ρ.set i x) σ j a) (hx : ∀ s, ρ[i]? = some s → x.own = true → s.own = true) : OwnI ρ σ j a := by
  obtain ⟨⟨s, e, n⟩, e2⟩ := h
  by_cases hj : i = j
  · subst hj
    have li : i < ρ.length := by
      have := (List.getElem?_eq_some_iff.mp e).1
      rwa [List.length_set] at this
    rw [List.getElem?_set_self li] at e
    cases e
    exact ⟨⟨ρ[i], List.getElem?_eq_getElem li, hx _ (List.getElem?_eq_getElem li) n⟩, e2⟩
  · rw [List.getElem?_set_ne hj] at e
    exact ⟨⟨s, e, n⟩, e2⟩
/-- an own list | dict becomes a datum -/
theorem Rel.freeze {i : Nat} {mo : MO} (R : Rel K os f ρ M σ H) (h : ρ[i]? = some mo.slot) : Rel K os f (ρ.set i (.d mo.dat)) M σ H ∧ Step (Wr f ρ σ) H (Wr f (ρ.set i (.d mo.dat)) σ) H ∧ ∃ a, σ[i]? = some (some (.ref a)) ∧ RV K (Pu os (Wr f (ρ.set i (.d mo.dat)) σ)) H mo.dat (.ref a) := by
  have ow : ∀ {j a}, OwnI (ρ.set i (.d mo.dat)) σ j a → OwnI ρ σ j a := fun {j a} m => m.of_setρ fun s _ z => by cases z
  have wl : ∀ b, Wr f (ρ.set i (.d mo.dat)) σ b → Wr f ρ σ b := fun b m => m.elim .inl fun ⟨j, m⟩ => .inr ⟨j, ow m⟩
  have pl : Less (Pu os (Wr f (ρ.set i (.d mo.dat)) σ)) (Pu os (Wr f ρ σ)) := fun a m => m.elim .inl fun m => .inr (wl a m)
  have li : i < ρ.length := (List.getElem?_eq_some_iff.mp h).1
  obtain ⟨a, ea, qa⟩ : ∃ a, σ[i]? = some (some (.ref a)) ∧ ObjAt K (Pu os (Wr f ρ σ)) H a mo := by
    obtain ⟨v, e1, q⟩ := R.sl i _ h (by cases mo <;> exact fun z => nomatch z)
    cases mo with
    | lst xs =>
      obtain ⟨a, e2, q⟩ := q
      subst e2
      exact ⟨a, e1, q⟩
    | dct t xs =>
      obtain ⟨a, e2, q⟩ := q
      subst e2
      exact ⟨a, e1, q⟩
  have oa : OwnI ρ σ i a := ⟨⟨_, h, mo.slot_own⟩, ea⟩
  have na : ¬ Pu os (Wr f (ρ.set i (.d mo.dat)) σ) a := fun m => by
    rcases m with m | m | ⟨j, m⟩
    · exact (R.o2 i a oa).2 m
    · exact (R.o2 i a oa).1 m
    · have e := R.o1 i j a oa (ow m)
      subst e
      obtain ⟨⟨s, e, n⟩, _⟩ := m
      rw [List.getElem?_set_self li] at e
      cases e
      cases n
  have rv : RV K (Pu os (Wr f (ρ.set i (.d mo.dat)) σ)) H mo.dat (.ref a) := by
    have z := (qa.less pl).rv na
    cases mo <;> exact z
  refine ⟨⟨by rw [List.length_set, R.len], fun j s e n => ?_, R.fl, R.nd, fun j m e => ?_, fun j k a h1 h2 => R.o1 j k a (ow h1) (ow h2), fun j b h => R.o2 j b (ow h), R.o3, R.o4⟩, Step.less wl, a, ea, rv⟩
  · by_cases hj : i = j
    · subst hj
      rw [List.getElem?_set_self li] at e
      cases e
      exact ⟨.ref a, ea, rv⟩
    · rw [List.getElem?_set_ne hj] at e
      obtain ⟨u, e1, q1⟩ := R.sl j s e n
      exact ⟨u, e1, q1.less pl⟩
  · obtain ⟨b, e1, q1⟩ := R.ob j m e
    exact ⟨b, e1, q1.less pl⟩
/-- an own list | dict is changed -/
theorem Rel.write {i : Nat} {mo mo' : MO} {o : HO} (R : Rel K os f ρ M σ H) (h : ρ[i]? = some mo.slot) (e : σ[i]? = some (some (.ref a))) (q : ObjAt K (Pu os (Wr f ρ σ)) (upd H a o) a mo') :
    Rel K os f (ρ.set i mo'.slot) M σ (upd H a o) ∧ Step (Wr f ρ σ) H (Wr f (ρ.set i mo'.slot) σ) (upd H a o) := by
  have oa : OwnI ρ σ i a := ⟨⟨_, h, mo.slot_own⟩, e⟩
  have ow : ∀ {j a}, OwnI (ρ.set i mo'.slot) σ j a → OwnI ρ σ j a := fun {j a} m => m.of_setρ fun s z _ => by
    rw [h] at z
    cases z
    exact mo.slot_own
  have wl : ∀ b, Wr f (ρ.set i mo'.slot) σ b → Wr f ρ σ b := fun b m => m.elim .inl fun ⟨j, m⟩ => .inr ⟨j, ow m⟩
  have pl : Less (Pu os (Wr f (ρ.set i mo'.slot) σ)) (Pu os (Wr f ρ σ)) := fun a m => m.elim .inl fun m => .inr (wl a m)
  have li : i < ρ.length := (List.getElem?_eq_some_iff.mp h).1
  have st : Step (Wr f ρ σ) H (Wr f ρ σ) (upd H a o) := Step.write (.inr ⟨i, oa⟩)
  have ne : ∀ b, Pu os (Wr f ρ σ) b → b ≠ a → upd H a o b = H b := fun b _ z => upd_ne z
  refine ⟨⟨by rw [List.length_set, R.len], fun j s e1 n => ?_, R.fl, R.nd, fun j m e1 => ?_, fun j k a h1 h2 => R.o1 j k a (ow h1) (ow h2), fun j b h => R.o2 j b (ow h), R.o3, fun b m => ?_⟩, st.trans (Step.less wl)⟩
  · by_cases hj : i = j
    · subst hj
      rw [List.getElem?_set_self li] at e1
      cases e1
      refine ⟨.ref a, e, ?_⟩
      cases mo' with
      | lst xs => exact ⟨a, rfl, q.less pl⟩
      | dct t es => exact ⟨a, rfl, q.less pl⟩
    · rw [List.getElem?_set_ne hj] at e1
      obtain ⟨u, e2, q1⟩ := R.sl j s e1 n
      refine ⟨u, e2, ?_⟩
      have nb : ∀ {b}, OwnI ρ σ j b → b ≠ a := fun {b} m z => hj (R.o1 i j a oa (z ▸ m))
      cases s with
      | un => exact q1
      | d x => exact (RV.step st q1).less pl
      | r n => exact q1
      | ol xs =>
        obtain ⟨b, e3, q1⟩ := q1
        subst e3
        exact ⟨b, rfl, (q1.step st (upd_ne (nb ⟨⟨_, e1, rfl⟩, e2⟩))).less pl⟩
      | od t xs =>
        obtain ⟨b, e3, q1⟩ := q1
        subst e3
        exact ⟨b, rfl, (q1.step st (upd_ne (nb ⟨⟨_, e1, rfl⟩, e2⟩))).less pl⟩
  · obtain ⟨b, e2, q1⟩ := R.ob j m e1
    exact ⟨b, e2, (q1.step st (upd_ne fun z => (R.o2 i a oa).1 (z ▸ List.mem_of_getElem? e2))).less pl⟩
  · obtain ⟨u, z⟩ := R.o4 b m
    exact ⟨u, by rw [upd_ne (fun z : b = a => (R.o2 i a oa).2 (by rw [← z]; exact m))]; exact z⟩
/-- a place of the store is changed -/
theorem Rel.writeS {n : Nat} {mo' : MO} {o : HO} (R : Rel K os f ρ M σ H) (e : f[n]? = some a) (q : ObjAt K (Pu os (Wr f ρ σ)) (upd H a o) a mo') :
    Rel K os f ρ (M.set n mo') σ (upd H a o) ∧ Step (Wr f ρ σ) H (Wr f ρ σ) (upd H a o) := by
  have af : a ∈ f := List.mem_of_getElem? e
  have st : Step (Wr f ρ σ) H (Wr f ρ σ) (upd H a o) := Step.write (.inl af)
  refine ⟨⟨R.len, fun j s e1 z => ?_, by rw [List.length_set]; exact R.fl, R.nd, fun j m e1 => ?_, R.o1, R.o2, R.o3, fun b m => ?_⟩, st⟩
  · obtain ⟨u, e2, q1⟩ := R.sl j s e1 z
    refine ⟨u, e2, ?_⟩
    have nb : ∀ {b}, OwnI ρ σ j b → b ≠ a := fun {b} m z => (R.o2 j b m).1 (by rw [z]; exact af)
    cases s with
    | un => exact q1
    | d x => exact RV.step st q1
    | r n => exact q1
    | ol xs =>
      obtain ⟨b, e3, q1⟩ := q1
      subst e3
      exact ⟨b, rfl, q1.step st (upd_ne (nb ⟨⟨_, e1, rfl⟩, e2⟩))⟩
    | od t xs =>
      obtain ⟨b, e3, q1⟩ := q1
      subst e3
      exact ⟨b, rfl, q1.step st (upd_ne (nb ⟨⟨_, e1, rfl⟩, e2⟩))⟩
  · by_cases hj : n = j
    · subst hj
      have li : n < M.length := by
        have := (List.getElem?_eq_some_iff.mp e1).1
        rwa [List.length_set] at this
      rw [List.getElem?_set_self li] at e1
      cases e1
      exact ⟨a, e, q⟩
    · rw [List.getElem?_set_ne hj] at e1
      obtain ⟨b, e2, q1⟩ := R.ob j m e1
      exact ⟨b, e2, q1.step st (upd_ne fun z => hj (R.nd n j a e (by rw [e2, z])))⟩
  · obtain ⟨u, z⟩ := R.o4 b m
    exact ⟨u, by rw [upd_ne (fun z : b = a => R.o3 a af (by rw [← z]; exact m))]; exact z⟩
end
end DL
set_option Elab.async false
set_option linter.all false
set_option maxRecDepth 100000
set_option maxHeartbeats 4000000
/-! the machine's expressions -/
namespace DL
open PySem L2

/-- what an expression is worth: a datum, a place of the store, the object that the i-th name holds as its own -/
inductive Vl where
  | d (x : D)
  | r (n : Nat)
  | v (i : Nat)
abbrev Res (α : Type) := Option (α × List MO)
abbrev Call := Nat → List Vl → List MO → Res Vl
abbrev Mm (α : Type) := Call → List Slot → List MO → Res α
abbrev EM := Mm Vl
abbrev LM := Mm (List D)
abbrev TM := Mm Bool
abbrev AM := Mm (List Vl)

def AOk (K : PySem.W.Frag) (P : Pr) (f : List Addr) (σ : L2.St) (H : Hp) : Vl → V → Prop
  | .d x, v => RV K P H x v
  | .r n, v => ∃ a, v = .ref a ∧ f[n]? = some a
  | .v i, v => σ[i]? = some (some v)
inductive AOks (K : PySem.W.Frag) (P : Pr) (f : List Addr) (σ : L2.St) (H : Hp) : List Vl → List V → Prop where
  | nil : AOks K P f σ H [] []
  | cons {x : Vl} {v : V} {xs : List Vl} {vs : List V} : AOk K P f σ H x v → AOks K P f σ H xs vs → AOks K P f σ H (x :: xs) (v :: vs)
/-- how an expression leaves things -/
structure Fin (K : PySem.W.Frag) (os : Pr) (f : List Addr) (ρ : List Slot) (σ : L2.St) (H : Hp) (f' : List Addr) (M' : List MO) (H' : Hp) : Prop where
  st : Step (Wr f ρ σ) H (Wr f' ρ σ) H'
  rel : Rel K os f' ρ M' σ H'
  pre : ∀ (n : Nat) (a : Addr), f[n]? = some a → f'[n]? = some a
section
variable {K : PySem.W.Frag} {os : Pr} {f f1 f2 : List Addr} {ρ : List Slot} {σ : L2.St} {H H1 H2 : Hp} {M M1 M2 : List MO} {x : Vl} {v : V} {a : Addr}
theorem Fin.refl (R : Rel K os f ρ M σ H) : Fin K os f ρ σ H f M H := ⟨Step.refl, R, fun _ _ h => h⟩
theorem Fin.trans (a : Fin K os f ρ σ H f1 M1 H1) (b : Fin K os f1 ρ σ H1 f2 M2 H2) : Fin K os f ρ σ H f2 M2 H2 := ⟨a.st.trans b.st, b.rel, fun n x h => b.pre n x (a.pre n x h)⟩
theorem Fin.laid {o : HO} (R : Rel K os f ρ M σ H) (h : H a = none) : Fin K os f ρ σ H f M (upd H a o) := ⟨Step.laid h, R.laid h, fun _ _ h => h⟩
theorem AOk.fin (F : Fin K os f ρ σ H f1 M1 H1) (h : AOk K (Pu os (Wr f ρ σ)) f σ H x v) : AOk K (Pu os (Wr f1 ρ σ)) f1 σ H1 x v := by
  cases x with
  | d x => exact RV.step F.st h
  | r n =>
    obtain ⟨a, e, q⟩ := h
    exact ⟨a, e, F.pre n a q⟩
  | v i => exact h
theorem AOks.fin (F : Fin K os f ρ σ H f1 M1 H1) : ∀ {xs : List Vl} {vs : List V}, AOks K (Pu os (Wr f ρ σ)) f σ H xs vs → AOks K (Pu os (Wr f1 ρ σ)) f1 σ H1 xs vs
  | _, _, .nil => .nil
  | _, _, .cons r t => .cons (r.fin F) (AOks.fin F t)
end

/-- a value that is looked at: what stands at its top may be protected -/
inductive RVp (K : PySem.W.Frag) (P : Pr) (H : Hp) : D → V → Prop where
  | of {d : D} {v : V} : RV K P H d v → RVp K P H d v
  | lst {a : Addr} {vs : List V} {ds : List D} : Rd H a (.lst vs) → RVs K P H ds vs → RVp K P H (.list ds) (.ref a)
  | dK {a : Addr} {kvs : List (Key × V)} {es : List (D × D)} : Rd H a (.dK kvs) → RVk K P H es kvs → RVp K P H (.dict es) (.ref a)
  | dT {a : Addr} {kvs : List (List Key × V)} {es : List (D × D)} : Rd H a (.dT kvs) → RVt K P H es kvs → RVp K P H (.dict es) (.ref a)
def MO.look : MO → D
  | .lst xs => .list xs
  | .dct _ es => .dict es
def peek (ρ : List Slot) (M : List MO) : Vl → Option D
  | .d x => some x
  | .r n => (M[n]?).map MO.look
  | .v i => match ρ[i]? with
    | some (.ol xs) => some (.list xs)
    | some (.od _ es) => some (.dict es)
    | _ => none
section
variable {K : PySem.W.Frag} {os P : Pr} {f f1 f2 : List Addr} {ρ : List Slot} {σ : L2.St} {H H1 H2 : Hp} {M M1 M2 : List MO} {x : Vl} {v : V} {a : Addr} {d : D}
theorem ObjAt.look {mo : MO} (h : ObjAt K P H a mo) : RVp K P H mo.look (.ref a) := by
  cases mo with
  | lst ds =>
    obtain ⟨vs, e, r⟩ := h
    exact .lst (.inl e) r
  | dct t es =>
    cases t with
    | false =>
      obtain ⟨kvs, e, r⟩ := h
      exact .dK (.inl e) r
    | true =>
      obtain ⟨kvs, e, r⟩ := h
      exact .dT (.inl e) r
theorem peek_ok (R : Rel K os f ρ M σ H) (q : AOk K (Pu os (Wr f ρ σ)) f σ H x v) (h : peek ρ M x = some d) : RVp K (Pu os (Wr f ρ σ)) H d v := by
  cases x with
  | d y =>
    cases h
    exact .of q
  | r n =>
    obtain ⟨a, e, q⟩ := q
    subst e
    simp only [peek, Option.map_eq_some_iff] at h
    obtain ⟨mo, e1, e2⟩ := h
    subst e2
    obtain ⟨b, e3, ob⟩ := R.ob n mo e1
    rw [q] at e3
    cases e3
    exact ob.look
  | v i =>
    have q : σ[i]? = some (some v) := q
    simp only [peek] at h
    split at h
    · rename_i xs e
      cases h
      obtain ⟨u, e1, a, e2, ob⟩ := R.sl i _ e (fun z => nomatch z)
      rw [q] at e1
      cases e1
      subst e2
      exact ob.look
    · rename_i xs e
      cases h
      obtain ⟨u, e1, a, e2, ob⟩ := R.sl i _ e (fun z => nomatch z)
      rw [q] at e1
      cases e1
      subst e2
      exact ob.look
    · cases h
theorem RVp.scal {n : Bool} (h : RVp K P H (.bool n) v) : v = .bl n := by
  cases h with
  | of h => cases h; rfl
theorem RVp.int {n : Int} (h : RVp K P H (.int n) v) : v = .int n := by
  cases h with
  | of h => cases h; rfl
theorem RVp.str {n : Str} (h : RVp K P H (.str n) v) : v = .str n := by
  cases h with
  | of h => cases h; rfl
theorem RVp.non (h : RVp K P H .none v) : v = .non := by
  cases h with
  | of h => cases h; rfl
theorem RVp.tup {ds : List D} (h : RVp K P H (.tuple ds) v) : ∃ a vs, v = .ref a ∧ TupAt K P H a vs ∧ RVs K P H ds vs := by
  cases h with
  | of h =>
    cases h with
    | tup t r => exact ⟨_, _, rfl, t, r⟩
theorem RVp.list {ds : List D} (h : RVp K P H (.list ds) v) : ∃ a vs, v = .ref a ∧ SqL K H a vs ∧ RVs K P H ds vs := by
  cases h with
  | of h =>
    cases h with
    | lst n t r => exact ⟨_, _, rfl, .inl t, r⟩
    | lstK t r => exact ⟨_, _, rfl, t _, r⟩
  | lst t r => exact ⟨_, _, rfl, .inl t, r⟩
theorem RVp.dict {es : List (D × D)} (h : RVp K P H (.dict es) v) : ∃ a, v = .ref a ∧ ((∃ kvs, Rd H a (.dK kvs) ∧ RVk K P H es kvs) ∨ ∃ kvs, Rd H a (.dT kvs) ∧ RVt K P H es kvs) := by
  cases h with
  | of h =>
    cases h with
    | dK n t r => exact ⟨_, rfl, .inl ⟨_, t, r⟩⟩
    | dT n t r => exact ⟨_, rfl, .inr ⟨_, t, r⟩⟩
  | dK t r => exact ⟨_, rfl, .inl ⟨_, t, r⟩⟩
  | dT t r => exact ⟨_, rfl, .inr ⟨_, t, r⟩⟩
theorem RVp.dp (h : RVp K P H d v) (n : noD d = true) : Dp K H v d := by
  cases h with
  | of h => exact h.dp n
  | lst t r => exact .lst (.inl t) (r.dp (by simpa [noD] using n))
  | dK t r => simp [noD] at n
  | dT t r => simp [noD] at n
end

/-! ### readings -/
def tE (K : PySem.W.Frag) (c : Call) (m : EM) : TE := fun σ H Q => ∃ os f ρ M, Rel K os f ρ M σ H ∧ ∃ x M', m c ρ M = some (x, M') ∧
  ∀ v f' H', Fin K os f ρ σ H f' M' H' → AOk K (Pu os (Wr f' ρ σ)) f' σ H' x v → Q v H'
def tT (K : PySem.W.Frag) (c : Call) (m : TM) : TT := fun σ H Q => ∃ os f ρ M, Rel K os f ρ M σ H ∧ ∃ x M', m c ρ M = some (x, M') ∧
  ∀ f' H', Fin K os f ρ σ H f' M' H' → Q x H'
def tA (K : PySem.W.Frag) (c : Call) (m : AM) : TA := fun σ H Q => ∃ os f ρ M, Rel K os f ρ M σ H ∧ ∃ x M', m c ρ M = some (x, M') ∧
  ∀ vs f' H', Fin K os f ρ σ H f' M' H' → AOks K (Pu os (Wr f' ρ σ)) f' σ H' x vs → Q vs H'
/-- how a new list is left -/
structure FinL (K : PySem.W.Frag) (os : Pr) (f : List Addr) (ρ : List Slot) (σ : L2.St) (H : Hp) (a : Addr) (mo : MO) (f' : List Addr) (M' : List MO) (H' : Hp) : Prop where
  st : Step (Wr f ρ σ) H (Wr f' ρ σ) H'
  rel : Rel K (addP os a) f' ρ M' σ H'
  pre : ∀ (n : Nat) (a : Addr), f[n]? = some a → f'[n]? = some a
  new : H a = none
  obj : ObjAt K (Pu (addP os a) (Wr f' ρ σ)) H' a mo
def tL (K : PySem.W.Frag) (c : Call) (m : LM) : TE := fun σ H Q => ∃ os f ρ M, Rel K os f ρ M σ H ∧ ∃ xs M', m c ρ M = some (xs, M') ∧
  ∀ a f' H', FinL K os f ρ σ H a (.lst xs) f' M' H' → Q (.ref a) H'
def tD (K : PySem.W.Frag) (t : Bool) (c : Call) (m : Mm (List (D × D))) : TE := fun σ H Q => ∃ os f ρ M, Rel K os f ρ M σ H ∧ ∃ xs M', m c ρ M = some (xs, M') ∧
  ∀ a f' H', FinL K os f ρ σ H a (.dct t xs) f' M' H' → Q (.ref a) H'
section
variable {X : Cx} {e : Expr} {t t' : TE} {u u' : TT} {es : List Expr} {ta ta' : TA}
theorem pe_imp (h : PE X e t) (i : ∀ σ H Q, t' σ H Q → t σ H Q) : PE X e t' := ⟨fun pins s σ H Q I q => h.run pins s σ H Q I (i σ H Q q)⟩
theorem pt_imp (h : PT X e u) (i : ∀ σ H Q, u' σ H Q → u σ H Q) : PT X e u' := ⟨fun pins s σ H Q I q => h.run pins s σ H Q I (i σ H Q q)⟩
theorem pw_imp (h : PW X e u) (i : ∀ σ H Q, u' σ H Q → u σ H Q) : PW X e u' := ⟨fun w pins s σ H Q I q => h.run w pins s σ H Q I (i σ H Q q)⟩
theorem pa_imp (h : PA X es ta) (i : ∀ σ H Q, ta' σ H Q → ta σ H Q) : PA X es ta' := ⟨fun pos pins s σ H Q I q => h.run pos pins s σ H Q I (i σ H Q q)⟩
end

/-! ### the machine's parts -/
def bnd {α β : Type} (m : Mm α) (k : α → Mm β) : Mm β := fun c ρ M => match m c ρ M with
  | some (a, M1) => k a c ρ M1
  | none => none
theorem bnd_ok {α β : Type} {m : Mm α} {k : α → Mm β} {c : Call} {ρ : List Slot} {M M' : List MO} {b : β} (h : bnd m k c ρ M = some (b, M')) : ∃ a M1, m c ρ M = some (a, M1) ∧ k a c ρ M1 = some (b, M') := by
  unfold bnd at h
  split at h
  · exact ⟨_, _, by assumption, h⟩
  · cases h
def liftO {α : Type} (o : Option α) : Mm α := fun _ _ M => o.map fun a => (a, M)
theorem liftO_ok {α : Type} {o : Option α} {c : Call} {ρ : List Slot} {M M' : List MO} {a : α} (h : liftO o c ρ M = some (a, M')) : o = some a ∧ M' = M := by
  unfold liftO at h
  cases o with
  | none => cases h
  | some b => cases h; exact ⟨rfl, rfl⟩
def pk (x : Vl) : Mm D := fun _ ρ M => (peek ρ M x).map fun d => (d, M)
theorem pk_ok {x : Vl} {c : Call} {ρ : List Slot} {M M' : List MO} {a : D} (h : pk x c ρ M = some (a, M')) : peek ρ M x = some a ∧ M' = M := by
  unfold pk at h
  cases e : peek ρ M x with
  | none => rw [e] at h; cases h
  | some b => rw [e] at h; cases h; exact ⟨rfl, rfl⟩

def mVar (i : Nat) : EM := fun _ ρ M => match ρ[i]? with
  | some (.d x) => some (.d x, M)
  | some (.r n) => some (.r n, M)
  | some (.ol _) => some (.v i, M)
  | some (.od _ _) => some (.v i, M)
  | _ => none
def mC (x : D) : EM := fun _ _ M => some (.d x, M)
/-- two values that are looked at, and an operation on data -/
def mOp (g : D → D → Option D) (a b : EM) : EM := bnd a fun x => bnd b fun y => bnd (pk x) fun d => bnd (pk y) fun e => bnd (liftO (g d e)) fun z _ _ M => some (.d z, M)
def mUn (g : D → Option D) (a : EM) : EM := bnd a fun x => bnd (pk x) fun d => bnd (liftO (g d)) fun z _ _ M => some (.d z, M)
section
variable {X : Cx} {c : Call} {a b e : Expr} {pos : Pos} {ma mb : EM}
theorem pe_varM {i : Nat} {x : Str} (hN : X.N[i]? = some x) (hv : Vis X.env.scope x) (hd : (x == ("__debug__" : Str)) = false) (hcd : (x == ("__classdict__" : Str)) = false) : PE X (.Name x pos) (tE X.K c (mVar i)) := by
  refine pe_imp (pe_var hN hv hd hcd) fun σ H Q h => ?_
  obtain ⟨os, f, ρ, M, R, x, M', e, q⟩ := h
  unfold mVar at e
  split at e
  · rename_i y h1
    cases e
    obtain ⟨v, e1, s⟩ := R.sl i _ h1 (fun z => nomatch z)
    exact ⟨v, e1, q v f H (Fin.refl R) s⟩
  · rename_i y h1
    cases e
    obtain ⟨v, e1, s⟩ := R.sl i _ h1 (fun z => nomatch z)
    exact ⟨v, e1, q v f H (Fin.refl R) s⟩
  · rename_i y h1
    cases e
    obtain ⟨v, e1, s⟩ := R.sl i _ h1 (fun z => nomatch z)
    exact ⟨v, e1, q v f H (Fin.refl R) e1⟩
  · rename_i y h1
    cases e
    obtain ⟨v, e1, s⟩ := R.sl i _ h1 (fun z => nomatch z)
    exact ⟨v, e1, q v f H (Fin.refl R) e1⟩
  · cases e
theorem pe_cM {x : D} {v : V} (h : PE X e (tC v)) (r : ∀ P H, RV X.K P H x v) : PE X e (tE X.K c (mC x)) := by
  refine pe_imp h fun σ H Q h => ?_
  obtain ⟨os, f, ρ, M, R, x, M', e, q⟩ := h
  cases e
  exact q v f H (Fin.refl R) (r _ _)
/-- an operation on values answers as one on data -/
def OpD (K : PySem.W.Frag) (r : R2) (g : D → D → Option D) : Prop := ∀ (os : Pr) (f : List Addr) (ρ : List Slot) (M : List MO) (σ : L2.St) (H : Hp) (d e z : D) (x y : V) (Q : VK),
  Rel K os f ρ M σ H → RVp K (Pu os (Wr f ρ σ)) H d x → RVp K (Pu os (Wr f ρ σ)) H e y → g d e = some z → (∀ v H', Fin K os f ρ σ H f M H' → RV K (Pu os (Wr f ρ σ)) H' z v → Q v H') → r x y H Q
def UnD (K : PySem.W.Frag) (r : V → Hp → VK → Prop) (g : D → Option D) : Prop := ∀ (os : Pr) (f : List Addr) (ρ : List Slot) (M : List MO) (σ : L2.St) (H : Hp) (d z : D) (x : V) (Q : VK),
  Rel K os f ρ M σ H → RVp K (Pu os (Wr f ρ σ)) H d x → g d = some z → (∀ v H', Fin K os f ρ σ H f M H' → RV K (Pu os (Wr f ρ σ)) H' z v → Q v H') → r x H Q
theorem op_imp {r : R2} {g : D → D → Option D} (o : OpD X.K r g) : ∀ σ H Q, tE X.K c (mOp g ma mb) σ H Q → tOp r (tE X.K c ma) (tE X.K c mb) σ H Q := fun σ H Q h => by
  obtain ⟨os, f, ρ, M, R, z, M', e, q⟩ := h
  obtain ⟨x, M1, e1, e⟩ := bnd_ok e
  obtain ⟨y, M2, e2, e⟩ := bnd_ok e
  obtain ⟨dx, M3, e3, e⟩ := bnd_ok e
  obtain ⟨dy, M4, e4, e⟩ := bnd_ok e
  obtain ⟨dz, M5, e5, e⟩ := bnd_ok e
  cases e
  obtain ⟨e3, rfl⟩ := pk_ok e3
  obtain ⟨e4, rfl⟩ := pk_ok e4
  obtain ⟨e6, rfl⟩ := liftO_ok e5
  refine ⟨os, f, ρ, M, R, x, M1, e1, fun vx f1 H1 F1 rx => ?_⟩
  refine ⟨os, f1, ρ, M1, F1.rel, y, _, e2, fun vy f2 H2 F2 ry => ?_⟩
  exact o os f2 ρ _ σ H2 dx dy dz vx vy Q F2.rel (peek_ok F2.rel (rx.fin F2) e3) (peek_ok F2.rel ry e4) e6 fun v H3 F3 r3 => q v f2 H3 ((F1.trans F2).trans F3) r3
theorem un_imp {r : V → Hp → VK → Prop} {g : D → Option D} (o : UnD X.K r g) : ∀ σ H Q, tE X.K c (mUn g ma) σ H Q → tUn r (tE X.K c ma) σ H Q := fun σ H Q h => by
  obtain ⟨os, f, ρ, M, R, z, M', e, q⟩ := h
  obtain ⟨x, M1, e1, e⟩ := bnd_ok e
  obtain ⟨dx, M3, e3, e⟩ := bnd_ok e
  obtain ⟨dz, M5, e5, e⟩ := bnd_ok e
  cases e
  obtain ⟨e3, rfl⟩ := pk_ok e3
  obtain ⟨e6, rfl⟩ := liftO_ok e5
  refine ⟨os, f, ρ, M, R, x, _, e1, fun vx f1 H1 F1 rx => ?_⟩
  exact o os f1 ρ _ σ H1 dx dz vx Q F1.rel (peek_ok F1.rel rx e3) e6 fun v H3 F3 r3 => q v f1 H3 (F1.trans F3) r3
theorem pe_opM {op : Operator} {r : R2} {g : D → D → Option D} (ho : OpR X (binaryOp op) r) (o : OpD X.K r g) (ha : PE X a (tE X.K c ma)) (hb : PE X b (tE X.K c mb)) : PE X (.BinOp a op b pos) (tE X.K c (mOp g ma mb)) :=
  pe_imp (pe_op ho ha hb) (op_imp o)
theorem pe_cmpM {op : CmpOp} {r : R2} {g : D → D → Option D} (ho : OpR X (compareOp op) r) (o : OpD X.K r g) (ha : PE X a (tE X.K c ma)) (hb : PE X b (tE X.K c mb)) (hm : behindInMarks op b = false) : PE X (.Compare a [op] [b] pos) (tE X.K c (mOp g ma mb)) :=
  pe_imp (pe_cmpR ho ha hb hm) (op_imp o)
theorem pe_unM {op : UnaryOp} {r : V → Hp → VK → Prop} {g : D → Option D} (ho : UnR X (unaryOp op) r) (o : UnD X.K r g) (ha : PE X a (tE X.K c ma)) : PE X (.UnaryOp op a pos) (tE X.K c (mUn g ma)) :=
  pe_imp (pe_un ho ha) (un_imp o)
end

/-! ### operations on data -/
def lim : Nat := 1000000
theorem lim_le {n : Nat} (h : n ≤ lim) : n ≤ sizeLine := Nat.le_trans h (by decide)
theorem lim_lt {n : Nat} (h : n ≤ lim) : n < sizeLine := Nat.lt_of_le_of_lt h (by decide)
def gAdd : D → D → Option D
  | .int i, .int j => some (.int (i + j))
  | .int i, .bool b => some (.int (i + PyProof.Rows.b2i b))
  | .tuple xs, .tuple ys => if xs.length + ys.length ≤ lim then some (.tuple (xs ++ ys)) else none
  | .str x, .str y => if x.length + y.length ≤ lim then some (.str (x ++ y)) else none
  | _, _ => none
def rAdd (K : PySem.W.Frag) : R2 := fun x y H Q => rI0 (fun i j => .int (i + j)) x y H Q ∨ ((∃ i k, x = .int i ∧ y = .bl k ∧ Q (.int (i + PyProof.Rows.b2i k)) H) ∨ (rCatA K x y H Q ∨ ∃ i j, x = .str i ∧ y = .str j ∧ i.length + j.length ≤ sizeLine ∧ Q (.str (i ++ j)) H))
theorem op_addM {X : Cx} : OpR X (binaryOp .Add) (rAdd X.K) := op_add.or (op_add_ib.or (op_catA.or op_add_str))
theorem od_add {K : PySem.W.Frag} : OpD K (rAdd K) gAdd := by
  intro os f ρ M σ H d e z x y Q R rx ry h q
  unfold gAdd at h
  split at h
  · rename_i i j
    cases h
    exact .inl ⟨i, j, rx.int, ry.int, q _ H (Fin.refl R) (.int _)⟩
  · rename_i i j
    cases h
    exact .inr (.inl ⟨i, j, rx.int, ry.scal, q _ H (Fin.refl R) (.int _)⟩)
  · rename_i xs ys
    split at h
    · rename_i hl
      cases h
      obtain ⟨a, vs, e1, t1, r1⟩ := rx.tup
      obtain ⟨b, us, e2, t2, r2⟩ := ry.tup
      have l1 := r1.length
      have l2 := r2.length
      refine .inr (.inr (.inl ⟨a, b, vs, us, e1, e2, t1.sq, t2.sq, by rw [← l1, ← l2]; exact lim_le hl, fun e => ?_, fun e e' => ?_, fun e e' p hp => ?_⟩))
      · subst e
        cases r1
        exact q _ H (Fin.refl R) (.tup t2 (by simpa using r2))
      · subst e'
        cases r2
        exact q _ H (Fin.refl R) (.tup t1 (by simpa using r1))
      · have F := Fin.laid (o := .tup (vs ++ us)) R hp
        exact q _ _ F (.tup ⟨upd_same, R.free hp⟩ ((r1.append r2).step F.st))
    · cases h
  · rename_i i j
    split at h
    · rename_i hl
      cases h
      exact .inr (.inr (.inr ⟨i, j, rx.str, ry.str, lim_le hl, q _ H (Fin.refl R) (.str _)⟩))
    · cases h
  · cases h
/-- ints to ints, to truth values -/
def gII (C : Int → Int → Bool) (g : Int → Int → D) : D → D → Option D
  | .int i, .int j => if C i j = true then some (g i j) else none
  | _, _ => none
theorem od_ii {K : PySem.W.Frag} {C : Int → Int → Prop} {Cb : Int → Int → Bool} {g : Int → Int → D} {gv : Int → Int → V} (hC : ∀ i j, Cb i j = true → C i j) (hg : ∀ P H i j, RV K P H (g i j) (gv i j)) : OpD K (rI C gv) (gII Cb g) := by
  intro os f ρ M σ H d e z x y Q R rx ry h q
  unfold gII at h
  split at h
  · rename_i i j
    split at h
    · rename_i hc
      cases h
      exact ⟨i, j, rx.int, ry.int, hC i j hc, q _ H (Fin.refl R) (hg _ _ _ _)⟩
    · cases h
  · cases h
def gI0 (g : Int → Int → D) : D → D → Option D
  | .int i, .int j => some (g i j)
  | _, _ => none
theorem od_i0 {K : PySem.W.Frag} {g : Int → Int → D} {gv : Int → Int → V} (hg : ∀ P H i j, RV K P H (g i j) (gv i j)) : OpD K (rI0 gv) (gI0 g) := by
  intro os f ρ M σ H d e z x y Q R rx ry h q
  unfold gI0 at h
  split at h
  · rename_i i j
    cases h
    exact ⟨i, j, rx.int, ry.int, q _ H (Fin.refl R) (hg _ _ _ _)⟩
  · cases h
def gSub : D → D → Option D := gI0 fun i j => .int (i - j)
def smallI (i : Int) : Bool := decide (i.natAbs < 18446744073709551616)
def gMul : D → D → Option D
  | .int i, .int j => if (smallI i || smallI j) = true then some (.int (i * j)) else none
  | .tuple xs, .int k => if decide (xs ≠ [] ∧ 2 ≤ k ∧ k ≤ 1000 ∧ xs.length ≤ 1000) = true then some (.tuple (List.replicate k.toNat xs).flatten) else none
  | _, _ => none
def gDiv : D → D → Option D := gII (fun _ j => decide (0 < j ∧ j < 1073741824)) fun i j => .int (i / j)
def gMod : D → D → Option D := gII (fun _ j => decide (0 < j)) fun i j => .int (i % j)
def gPow : D → D → Option D := gII (fun i j => decide (0 ≤ j ∧ j ≤ 1000) && smallI i) fun i j => .int (i ^ j.toNat)
def gLt : D → D → Option D := gI0 fun i j => .bool (decide (i < j))
def gLe : D → D → Option D := gI0 fun i j => .bool (decide (i ≤ j))
def gGt : D → D → Option D := gI0 fun i j => .bool (decide (j < i))
def gGe : D → D → Option D := gI0 fun i j => .bool (decide (j ≤ i))
theorem od_sub {K : PySem.W.Frag} : OpD K (rI0 fun i j => .int (i - j)) gSub := od_i0 fun _ _ _ _ => .int _
theorem od_lt {K : PySem.W.Frag} : OpD K (rI0 fun i j => .bl (decide (i < j))) gLt := od_i0 fun _ _ _ _ => .bl _
theorem od_le {K : PySem.W.Frag} : OpD K (rI0 fun i j => .bl (decide (i ≤ j))) gLe := od_i0 fun _ _ _ _ => .bl _
theorem od_gt {K : PySem.W.Frag} : OpD K (rI0 fun i j => .bl (decide (j < i))) gGt := od_i0 fun _ _ _ _ => .bl _
theorem od_ge {K : PySem.W.Frag} : OpD K (rI0 fun i j => .bl (decide (j ≤ i))) gGe := od_i0 fun _ _ _ _ => .bl _
theorem od_div {K : PySem.W.Frag} : OpD K (rI CDiv fun i j => .int (i / j)) gDiv := od_ii (fun i j h => by simpa [CDiv] using h) fun _ _ _ _ => .int _
theorem od_mod {K : PySem.W.Frag} : OpD K (rI (fun _ j => 0 < j) fun i j => .int (i % j)) gMod := od_ii (fun i j h => by simpa using h) fun _ _ _ _ => .int _
theorem od_pow {K : PySem.W.Frag} : OpD K (rI CPow fun i j => .int (i ^ j.toNat)) gPow := od_ii (fun i j h => by
  simp only [Bool.and_eq_true, decide_eq_true_eq, smallI] at h
  exact ⟨h.1.1, by omega, by simpa using h.2⟩) fun _ _ _ _ => .int _
theorem CMulW.of_small {i j : Int} (h : (smallI i || smallI j) = true) : CMul i j := by
  simp only [Bool.or_eq_true, smallI, decide_eq_true_eq] at h
  rcases h with h | h
  · exact .inl ⟨by omega, by omega⟩
  · exact .inr ⟨by omega, by omega⟩
/-- == -/
def gEq : D → D → Option D := fun d e => if (SeqAt.shaped d && SeqAt.shaped e && noD d && noD e) = true then some (.bool (PyData.eqv d e)) else none
def gNe : D → D → Option D := fun d e => if (SeqAt.shaped d && SeqAt.shaped e && noD d && noD e) = true then some (.bool (!PyData.eqv d e)) else none
theorem od_eq {K : PySem.W.Frag} : OpD K (rEqD K) gEq := by
  intro os f ρ M σ H d e z x y Q R rx ry h q
  unfold gEq at h
  split at h
  · rename_i hc
    cases h
    simp only [Bool.and_eq_true] at hc
    exact ⟨d, e, rx.dp hc.1.2, ry.dp hc.2, hc.1.1.1, hc.1.1.2, q _ H (Fin.refl R) (.bl _)⟩
  · cases h
theorem od_ne {K : PySem.W.Frag} : OpD K (rNeD K) gNe := by
  intro os f ρ M σ H d e z x y Q R rx ry h q
  unfold gNe at h
  split at h
  · rename_i hc
    cases h
    simp only [Bool.and_eq_true] at hc
    exact ⟨d, e, rx.dp hc.1.2, ry.dp hc.2, hc.1.1.1, hc.1.1.2, q _ H (Fin.refl R) (.bl _)⟩
  · cases h
def isNone : D → Bool
  | .none => true
  | _ => false
def gIs : D → D → Option D
  | .bool a, .bool b => some (.bool (decide (a = b)))
  | d, .none => some (.bool (isNone d))
  | _, _ => none
def gIsNot : D → D → Option D
  | .bool a, .bool b => some (.bool (!decide (a = b)))
  | d, .none => some (.bool (!isNone d))
  | _, _ => none
theorem non_iff {K : PySem.W.Frag} {P : Pr} {H : Hp} {d : D} {v : V} (h : RVp K P H d v) : decide (v = .non) = (isNone d) := by
  cases h with
  | of h => cases h <;> simp [isNone]
  | lst t r => simp [isNone]
  | dK t r => simp [isNone]
  | dT t r => simp [isNone]
theorem od_is {K : PySem.W.Frag} : OpD K (fun x y H Q => rIsB x y H Q ∨ rIsN x y H Q) gIs := by
  intro os f ρ M σ H d e z x y Q R rx ry h q
  unfold gIs at h
  split at h
  · rename_i i j
    cases h
    exact .inl ⟨i, j, rx.scal, ry.scal, q _ H (Fin.refl R) (.bl _)⟩
  · cases h
    exact .inr ⟨ry.non, by rw [non_iff rx]; exact q _ H (Fin.refl R) (.bl _)⟩
  · cases h
theorem od_isnot {K : PySem.W.Frag} : OpD K (fun x y H Q => rNotB x y H Q ∨ rNotN x y H Q) gIsNot := by
  intro os f ρ M σ H d e z x y Q R rx ry h q
  unfold gIsNot at h
  split at h
  · rename_i i j
    cases h
    exact .inl ⟨i, j, rx.scal, ry.scal, q _ H (Fin.refl R) (.bl _)⟩
  · cases h
    refine .inr ⟨ry.non, ?_⟩
    rw [non_iff rx]
    exact q _ H (Fin.refl R) (.bl _)
  · cases h
/-- items, by place -/
def gIx : D → D → Option D
  | .list xs, .int i => atI xs i
  | .tuple xs, .int i => atI xs i
  | _, _ => none
theorem atI_ok {K : PySem.W.Frag} {P : Pr} {H : Hp} {ds : List D} {vs : List V} {i : Int} {d : D} (r : RVs K P H ds vs) (h : atI ds i = some d) : ∃ v, atI vs i = some v ∧ RV K P H d v := by
  unfold atI at h ⊢
  rw [r.length] at h
  cases e : ixN vs.length i with
  | none => rw [e] at h; cases h
  | some j =>
    rw [e] at h
    obtain ⟨v, e1, q⟩ := r.get (i := j) h
    exact ⟨v, by exact e1, q⟩
theorem od_ix {K : PySem.W.Frag} : OpD K (fun x y H Q => rIxL K x y H Q ∨ rIxT K x y H Q) gIx := by
  intro os f ρ M σ H d e z x y Q R rx ry h q
  unfold gIx at h
  split at h
  · obtain ⟨a, vs, e1, t1, r1⟩ := rx.list
    obtain ⟨v, e2, r2⟩ := atI_ok r1 h
    exact .inl ⟨a, vs, _, v, e1, ry.int, t1, e2, q _ H (Fin.refl R) r2⟩
  · obtain ⟨a, vs, e1, t1, r1⟩ := rx.tup
    obtain ⟨v, e2, r2⟩ := atI_ok r1 h
    exact .inr ⟨a, vs, _, v, e1, ry.int, t1.sq, e2, q _ H (Fin.refl R) r2⟩
  · cases h
end DL
set_option Elab.async false
set_option linter.all false
set_option maxRecDepth 100000
set_option maxHeartbeats 4000000
/-! more of the machine's expressions: tests, displays, dicts, built-ins -/
namespace DL
open PySem L2

/-! ### tests -/
def truD : D → Option Bool
  | .none => some false
  | .bool b => some b
  | .int i => some (i != 0)
  | .str x => if x.length ≤ lim then some ((x.length : Int) != 0) else none
  | .list xs => some (!xs.isEmpty)
  | .tuple xs => some (!xs.isEmpty)
  | .dict _ => none
/-- a value's truth -/
def mTru (a : EM) : TM := bnd a fun x => bnd (pk x) fun d => liftO (truD d)
def bolD : D → Option Bool
  | .bool b => some b
  | _ => none
/-- a value that is True or False -/
def mB (a : EM) : TM := bnd a fun x => bnd (pk x) fun d => liftO (bolD d)
/-- a test as a value -/
def mOfT (t : TM) : EM := bnd t fun b _ _ M => some (.d (.bool b), M)
def mAnd (t u : TM) : TM := bnd t fun b => if b = true then u else fun _ _ M => some (false, M)
def mOr (t u : TM) : TM := bnd t fun b => if b = true then fun _ _ M => some (true, M) else u
def mNot (t : TM) : TM := bnd t fun b _ _ M => some (!b, M)
def mIf (t : TM) (a b : EM) : EM := bnd t fun k => if k = true then a else b
def mAndV (a b : EM) : EM := bnd (mB a) fun k => if k = true then b else fun _ _ M => some (.d (.bool false), M)
def mOrV (a b : EM) : EM := bnd (mB a) fun k => if k = true then fun _ _ M => some (.d (.bool true), M) else b
def mNotV (a : EM) : EM := bnd (mB a) fun k _ _ M => some (.d (.bool (!k)), M)
def mChain (g g' : D → D → Option D) (a b e : EM) : EM := bnd a fun x => bnd b fun y => bnd (pk x) fun dx => bnd (pk y) fun dy => bnd (liftO (g dx dy)) fun z => bnd (liftO (bolD z)) fun k =>
  if k = true then bnd e fun w => bnd (pk y) fun dy' => bnd (pk w) fun dw => bnd (liftO (g' dy' dw)) fun z' _ _ M => some (.d z', M) else fun _ _ M => some (.d (.bool false), M)
section
variable {X : Cx} {c : Call} {a b e : Expr} {pos : Pos} {ma mb me : EM} {t u : TM} {rest : List Expr} {K : PySem.W.Frag}
theorem empty_len {K : PySem.W.Frag} {P : Pr} {H : Hp} {ds : List D} {vs : List V} (r : RVs K P H ds vs) : ds.isEmpty = vs.isEmpty := by cases r <;> rfl
theorem tru_imp {m : EM} : ∀ σ H (Q : Bool → Hp → Prop), tT K c (mTru m) σ H Q → tE K c m σ H fun x H' => ∃ k, TruV K x H' k ∧ Q k H' := fun σ H Q h => by
  obtain ⟨os, f, ρ, M, R, z, M', e, q⟩ := h
  replace e := bnd_ok e
  obtain ⟨x, M1, e1, e⟩ := e
  replace e := bnd_ok e
  obtain ⟨d, M2, e2, e⟩ := e
  replace e2 := pk_ok e2
  obtain ⟨e2, rfl⟩ := e2
  replace e := liftO_ok e
  obtain ⟨e3, rfl⟩ := e
  refine ⟨os, f, ρ, M, R, x, _, e1, fun v f1 H1 F1 r => ⟨z, ?_, q f1 H1 F1⟩⟩
  have rp := peek_ok F1.rel r e2
  unfold truD at e3
  split at e3
  · cases e3
    rw [rp.non]
    exact rfl
  · cases e3
    rw [rp.scal]
    exact rfl
  · cases e3
    rw [rp.int]
    exact rfl
  · split at e3
    · rename_i hl
      cases e3
      rw [rp.str]
      exact ⟨lim_le hl, rfl⟩
    · cases e3
  · cases e3
    obtain ⟨b, vs, e4, t4, r4⟩ := rp.list
    subst e4
    exact .inl ⟨vs, t4, by rw [empty_len r4]⟩
  · cases e3
    obtain ⟨b, vs, e4, t4, r4⟩ := rp.tup
    subst e4
    exact .inr (.inl ⟨vs, t4.sq, by rw [empty_len r4]⟩)
  · cases e3
theorem bol_imp {m : EM} : ∀ σ H (Q : Bool → Hp → Prop), tT K c (mB m) σ H Q → tE K c m σ H fun x H' => ∃ k, x = .bl k ∧ Q k H' := fun σ H Q h => by
  obtain ⟨os, f, ρ, M, R, z, M', e, q⟩ := h
  replace e := bnd_ok e
  obtain ⟨x, M1, e1, e⟩ := e
  replace e := bnd_ok e
  obtain ⟨d, M2, e2, e⟩ := e
  replace e2 := pk_ok e2
  obtain ⟨e2, rfl⟩ := e2
  replace e := liftO_ok e
  obtain ⟨e3, rfl⟩ := e
  refine ⟨os, f, ρ, M, R, x, _, e1, fun v f1 H1 F1 r => ⟨z, ?_, q f1 H1 F1⟩⟩
  have rp := peek_ok F1.rel r e2
  unfold bolD at e3
  split at e3
  · cases e3
    exact rp.scal
  · cases e3
theorem pt_truM (h : PE X a (tE X.K c ma)) (he : ∀ whole, isTrue a X.env whole = (do let v ← whole; standAt a.pos; holding [v] (truthy v))) : PT X a (tT X.K c (mTru ma)) :=
  pt_imp (pt_truth h he) tru_imp
theorem pt_cmpM {op : CmpOp} {r : R2} {g : D → D → Option D} (ho : OpR X (compareOp op) r) (o : OpD X.K r g) (ha : PE X a (tE X.K c ma)) (hb : PE X b (tE X.K c mb)) (hm : behindInMarks op b = false) : PT X (.Compare a [op] [b] pos) (tT X.K c (mB (mOp g ma mb))) :=
  pt_imp (pt_cmpR ho ha hb hm) fun σ H Q h => op_imp o σ H _ (bol_imp σ H Q h)
/-- a bnd, read: the first part, then the rest from where it left -/
theorem bndE {α β : Type} {m : Mm α} {k : α → Mm β} {ρ : List Slot} {M M' : List MO} {z : β} (e : bnd m k c ρ M = some (z, M')) : ∃ x M1, m c ρ M = some (x, M1) ∧ k x c ρ M1 = some (z, M') := bnd_ok e
theorem and_imp : ∀ σ H Q, tT K c (mAnd t u) σ H Q → tAnd (tT K c t) (tT K c u) σ H Q := fun σ H Q h => by
  obtain ⟨os, f, ρ, M, R, z, M', e, q⟩ := h
  replace e := bnd_ok e
  obtain ⟨x, M1, e1, e⟩ := e
  refine ⟨os, f, ρ, M, R, x, _, e1, fun f1 H1 F1 => ?_⟩
  cases x with
  | true =>
    show tT K c u σ H1 Q
    exact ⟨os, f1, ρ, M1, F1.rel, z, M', e, fun f2 H2 F2 => q f2 H2 (F1.trans F2)⟩
  | false =>
    cases e
    exact q f1 H1 F1
theorem or_imp : ∀ σ H Q, tT K c (mOr t u) σ H Q → tOr (tT K c t) (tT K c u) σ H Q := fun σ H Q h => by
  obtain ⟨os, f, ρ, M, R, z, M', e, q⟩ := h
  replace e := bnd_ok e
  obtain ⟨x, M1, e1, e⟩ := e
  refine ⟨os, f, ρ, M, R, x, _, e1, fun f1 H1 F1 => ?_⟩
  cases x with
  | false =>
    show tT K c u σ H1 Q
    exact ⟨os, f1, ρ, M1, F1.rel, z, M', e, fun f2 H2 F2 => q f2 H2 (F1.trans F2)⟩
  | true =>
    cases e
    exact q f1 H1 F1
theorem pw_andM (ha : PT X a (tT X.K c t)) (hb : PW X (.BoolOp .And (b :: rest) pos) (tT X.K c u)) : PW X (.BoolOp .And (a :: b :: rest) pos) (tT X.K c (mAnd t u)) := pw_imp (pw_and ha hb) and_imp
theorem pw_orM (ha : PT X a (tT X.K c t)) (hb : PW X (.BoolOp .Or (b :: rest) pos) (tT X.K c u)) : PW X (.BoolOp .Or (a :: b :: rest) pos) (tT X.K c (mOr t u)) := pw_imp (pw_or ha hb) or_imp
theorem pt_notM (ha : PT X a (tT X.K c t)) : PT X (.UnaryOp .Not a pos) (tT X.K c (mNot t)) := pt_imp (pt_not ha) fun σ H Q h => by
  obtain ⟨os, f, ρ, M, R, z, M', e, q⟩ := h
  replace e := bnd_ok e
  obtain ⟨x, M1, e1, e⟩ := e
  cases e
  exact ⟨os, f, ρ, M, R, x, _, e1, fun f1 H1 F1 => q f1 H1 F1⟩
theorem pe_ifM (hc : PT X e (tT X.K c t)) (ha : PE X a (tE X.K c ma)) (hb : PE X b (tE X.K c mb)) : PE X (.IfExp e a b pos) (tE X.K c (mIf t ma mb)) := pe_imp (pe_ifExp hc ha hb) fun σ H Q h => by
  obtain ⟨os, f, ρ, M, R, z, M', e, q⟩ := h
  replace e := bnd_ok e
  obtain ⟨x, M1, e1, e⟩ := e
  refine ⟨os, f, ρ, M, R, x, _, e1, fun f1 H1 F1 => ?_⟩
  cases x with
  | true =>
    show tE X.K c ma σ H1 Q
    exact ⟨os, f1, ρ, M1, F1.rel, z, M', e, fun v f2 H2 F2 => q v f2 H2 (F1.trans F2)⟩
  | false =>
    show tE X.K c mb σ H1 Q
    exact ⟨os, f1, ρ, M1, F1.rel, z, M', e, fun v f2 H2 F2 => q v f2 H2 (F1.trans F2)⟩
theorem pe_andM (ha : PE X a (tE X.K c ma)) (hb : PE X (.BoolOp .And (b :: rest) pos) (tE X.K c mb)) : PE X (.BoolOp .And (a :: b :: rest) pos) (tE X.K c (mAndV ma mb)) := pe_imp (pe_and ha hb) fun σ H Q h => by
  obtain ⟨os, f, ρ, M, R, z, M', e, q⟩ := h
  replace e := bnd_ok e
  obtain ⟨x, M1, e1, e⟩ := e
  refine bol_imp σ H (fun k H1 => if k = true then tE X.K c mb σ H1 Q else Q (.bl false) H1) ⟨os, f, ρ, M, R, x, _, e1, fun f1 H1 F1 => ?_⟩
  cases x with
  | true =>
    show tE X.K c mb σ H1 Q
    exact ⟨os, f1, ρ, M1, F1.rel, z, M', e, fun v f2 H2 F2 => q v f2 H2 (F1.trans F2)⟩
  | false =>
    cases e
    exact q _ f1 H1 F1 (.bl _)
theorem pe_orM (ha : PE X a (tE X.K c ma)) (hb : PE X (.BoolOp .Or (b :: rest) pos) (tE X.K c mb)) : PE X (.BoolOp .Or (a :: b :: rest) pos) (tE X.K c (mOrV ma mb)) := pe_imp (pe_or ha hb) fun σ H Q h => by
  obtain ⟨os, f, ρ, M, R, z, M', e, q⟩ := h
  replace e := bnd_ok e
  obtain ⟨x, M1, e1, e⟩ := e
  refine bol_imp σ H (fun k H1 => if k = true then Q (.bl true) H1 else tE X.K c mb σ H1 Q) ⟨os, f, ρ, M, R, x, _, e1, fun f1 H1 F1 => ?_⟩
  cases x with
  | false =>
    show tE X.K c mb σ H1 Q
    exact ⟨os, f1, ρ, M1, F1.rel, z, M', e, fun v f2 H2 F2 => q v f2 H2 (F1.trans F2)⟩
  | true =>
    cases e
    exact q _ f1 H1 F1 (.bl _)
theorem pe_notM (ha : PE X a (tE X.K c ma)) : PE X (.UnaryOp .Not a pos) (tE X.K c (mNotV ma)) := pe_imp (pe_not ha) fun σ H Q h => by
  obtain ⟨os, f, ρ, M, R, z, M', e, q⟩ := h
  replace e := bnd_ok e
  obtain ⟨x, M1, e1, e⟩ := e
  cases e
  exact bol_imp σ H (fun k H1 => Q (.bl (!k)) H1) ⟨os, f, ρ, M, R, x, _, e1, fun f1 H1 F1 => q _ f1 H1 F1 (.bl _)⟩
theorem chain_imp {r r' : R2} {g g' : D → D → Option D} (o : OpD K r g) (o' : OpD K r' g') : ∀ σ H Q, tE K c (mChain g g' ma mb me) σ H Q → tChain r r' (tE K c ma) (tE K c mb) (tE K c me) σ H Q := fun σ H Q h => by
  obtain ⟨os, f, ρ, M, R, z, M', e, q⟩ := h
  replace e := bnd_ok e
  obtain ⟨x, M1, e1, e⟩ := e
  replace e := bnd_ok e
  obtain ⟨y, M2, e2, e⟩ := e
  replace e := bnd_ok e
  obtain ⟨dx, M3, e3, e⟩ := e
  replace e := bnd_ok e
  obtain ⟨dy, M4, e4, e⟩ := e
  replace e := bnd_ok e
  obtain ⟨dz, M5, e5, e⟩ := e
  replace e := bnd_ok e
  obtain ⟨k, M6, e6, e⟩ := e
  replace e3 := pk_ok e3
  obtain ⟨e3, rfl⟩ := e3
  replace e4 := pk_ok e4
  obtain ⟨e4, rfl⟩ := e4
  replace e5 := liftO_ok e5
  obtain ⟨e7, rfl⟩ := e5
  replace e6 := liftO_ok e6
  obtain ⟨e8, rfl⟩ := e6
  refine ⟨os, f, ρ, M, R, x, _, e1, fun vx f1 H1 F1 rx => ?_⟩
  refine ⟨os, f1, ρ, M1, F1.rel, y, _, e2, fun vy f2 H2 F2 ry => ?_⟩
  refine o os f2 ρ _ σ H2 dx dy dz vx vy _ F2.rel (peek_ok F2.rel (rx.fin F2) e3) (peek_ok F2.rel ry e4) e7 fun v H3 F3 r3 => ?_
  unfold bolD at e8
  split at e8
  · cases e8
    refine ⟨k, (RVp.of r3).scal, ?_⟩
    cases k with
    | true =>
      rw [if_pos rfl] at e ⊢
      replace e := bnd_ok e
      obtain ⟨w, M7, h1, e⟩ := e
      replace e := bnd_ok e
      obtain ⟨dy', M8, h2, e⟩ := e
      replace e := bnd_ok e
      obtain ⟨dw, M9, h3, e⟩ := e
      replace e := bnd_ok e
      obtain ⟨dz', M10, h4, e⟩ := e
      cases e
      replace h2 := pk_ok h2
      obtain ⟨h2, rfl⟩ := h2
      replace h3 := pk_ok h3
      obtain ⟨h3, rfl⟩ := h3
      replace h4 := liftO_ok h4
      obtain ⟨h5, rfl⟩ := h4
      refine ⟨os, f2, ρ, _, F3.rel, w, _, h1, fun vw f4 H4 F4 rw' => ?_⟩
      exact o' os f4 ρ _ σ H4 dy' dw dz' vy vw Q F4.rel (peek_ok F4.rel ((ry.fin F3).fin F4) h2) (peek_ok F4.rel rw' h3) h5 fun v H5 F5 r5 => q v f4 H5 (((F1.trans F2).trans F3).trans (F4.trans F5)) r5
    | false =>
      rw [if_neg Bool.false_ne_true] at e ⊢
      cases e
      exact q _ f2 H3 ((F1.trans F2).trans F3) (.bl _)
  · cases e8
theorem pe_chainM {op op' : CmpOp} {r r' : R2} {g g' : D → D → Option D} (ho : OpR X (compareOp op) r) (ho' : OpR X (compareOp op') r') (o : OpD X.K r g) (o' : OpD X.K r' g') (ha : PE X a (tE X.K c ma)) (hb : PE X b (tE X.K c mb)) (he : PE X e (tE X.K c me))
    (hm : lastMarks [op, op'] [b, e] = false) : PE X (.Compare a [op, op'] [b, e] pos) (tE X.K c (mChain g g' ma mb me)) := pe_imp (pe_chain ho ho' ha hb he hm) (chain_imp o o')
theorem pt_chainM {op op' : CmpOp} {r r' : R2} {g g' : D → D → Option D} (ho : OpR X (compareOp op) r) (ho' : OpR X (compareOp op') r') (o : OpD X.K r g) (o' : OpD X.K r' g') (ha : PE X a (tE X.K c ma)) (hb : PE X b (tE X.K c mb)) (he : PE X e (tE X.K c me))
    (hm : lastMarks [op, op'] [b, e] = false) : PT X (.Compare a [op, op'] [b, e] pos) (tT X.K c (mB (mChain g g' ma mb me))) := pt_imp (pt_chain ho ho' ha hb he hm) fun σ H Q h => chain_imp o o' σ H _ (bol_imp σ H Q h)
end

/-! ### arguments, displays -/
def mNil : AM := fun _ _ M => some ([], M)
def mCons (a : EM) (r : AM) : AM := bnd a fun x => bnd r fun xs _ _ M => some (x :: xs, M)
/-- the data of arguments -/
def dats : List Vl → Option (List D)
  | [] => some []
  | .d x :: r => (dats r).map (x :: ·)
  | _ :: _ => none
def pks (ρ : List Slot) (M : List MO) : List Vl → Option (List D)
  | [] => some []
  | x :: r => match peek ρ M x, pks ρ M r with
    | some d, some ds => some (d :: ds)
    | _, _ => none
inductive RVps (K : PySem.W.Frag) (P : Pr) (H : Hp) : List D → List V → Prop where
  | nil : RVps K P H [] []
  | cons {d : D} {v : V} {ds : List D} {vs : List V} : RVp K P H d v → RVps K P H ds vs → RVps K P H (d :: ds) (v :: vs)
def mTup (a : AM) : EM := bnd a fun xs => bnd (liftO (dats xs)) fun ds => if ds.length ≤ lim then fun _ _ M => some (.d (.tuple ds), M) else fun _ _ _ => none
def mLst (a : AM) : LM := bnd a fun xs => bnd (liftO (dats xs)) fun ds => if ds.length ≤ lim then fun _ _ M => some (ds, M) else fun _ _ _ => none
/-- a new list, as a datum -/
def mFz (m : LM) : EM := bnd m fun xs _ _ M => some (.d (.list xs), M)
def mFzD (m : Mm (List (D × D))) : EM := bnd m fun xs _ _ M => some (.d (.dict xs), M)
section
variable {X : Cx} {c : Call} {a b e : Expr} {es : List Expr} {pos : Pos} {ma mb me : EM} {m : AM} {K : PySem.W.Frag}
theorem dats_ok {P : Pr} {f : List Addr} {σ : L2.St} {H : Hp} : ∀ {xs : List Vl} {vs : List V} {ds : List D}, AOks K P f σ H xs vs → dats xs = some ds → RVs K P H ds vs
  | _, _, _, .nil, h => by cases h; exact .nil
  | .d x :: r, _, ds, .cons q t, h => by
    simp only [dats, Option.map_eq_some_iff] at h
    obtain ⟨es, h1, h2⟩ := h
    subst h2
    exact .cons q (dats_ok t h1)
  | .r n :: r, _, _, .cons q t, h => by cases h
  | .v n :: r, _, _, .cons q t, h => by cases h
theorem pks_ok {os : Pr} {f : List Addr} {ρ : List Slot} {M : List MO} {σ : L2.St} {H : Hp} (R : Rel K os f ρ M σ H) : ∀ {xs : List Vl} {vs : List V} {ds : List D}, AOks K (Pu os (Wr f ρ σ)) f σ H xs vs → pks ρ M xs = some ds → RVps K (Pu os (Wr f ρ σ)) H ds vs
  | _, _, _, .nil, h => by cases h; exact .nil
  | x :: r, _, ds, .cons q t, h => by
    unfold pks at h
    split at h
    · rename_i h1 h2
      cases h
      exact .cons (peek_ok R q h1) (pks_ok R t h2)
    · cases h
theorem pa_nilM : PA X [] (tA X.K c mNil) := pa_imp pa_nil fun σ H Q h => by
  obtain ⟨os, f, ρ, M, R, x, M', e, q⟩ := h
  cases e
  exact q [] f H (Fin.refl R) .nil
theorem pa_consM (ha : PE X e (tE X.K c me)) (hr : PA X es (tA X.K c m)) (hs : starEach (e :: es) X.env = (false, eval e X.env) :: starEach es X.env) : PA X (e :: es) (tA X.K c (mCons me m)) := pa_imp (pa_cons ha hr hs) fun σ H Q h => by
  obtain ⟨os, f, ρ, M, R, z, M', e, q⟩ := h
  replace e := bnd_ok e
  obtain ⟨x, M1, e1, e⟩ := e
  replace e := bnd_ok e
  obtain ⟨xs, M2, e2, e⟩ := e
  cases e
  refine ⟨os, f, ρ, M, R, x, _, e1, fun v f1 H1 F1 r1 => ?_⟩
  exact ⟨os, f1, ρ, M1, F1.rel, xs, _, e2, fun vs f2 H2 F2 r2 => q _ f2 H2 (F1.trans F2) (.cons (r1.fin F2) r2)⟩
theorem pe_tupM {k : Nat} (h : PA X es (tA X.K c m)) : PE X (.Tuple es k pos) (tE X.K c (mTup m)) := pe_imp (pe_tup h) fun σ H Q h => by
  obtain ⟨os, f, ρ, M, R, z, M', e, q⟩ := h
  replace e := bnd_ok e
  obtain ⟨xs, M1, e1, e⟩ := e
  replace e := bnd_ok e
  obtain ⟨ds, M2, e2, e⟩ := e
  replace e2 := liftO_ok e2
  obtain ⟨e2, rfl⟩ := e2
  split at e
  · rename_i hl
    cases e
    refine ⟨os, f, ρ, M, R, xs, _, e1, fun vs f1 H1 F1 r1 => ?_⟩
    have rs := dats_ok r1 e2
    refine ⟨by rw [← rs.length]; exact lim_le hl, fun p hp => ?_⟩
    have F2 := Fin.laid (o := .tup vs) F1.rel hp
    exact q _ f1 _ (F1.trans F2) (.tup ⟨upd_same, F1.rel.free hp⟩ (rs.step F2.st))
  · cases e
/-- a new object laid behind an evaluation -/
theorem FinL.of {os : Pr} {f f1 : List Addr} {ρ : List Slot} {M1 : List MO} {σ : L2.St} {H H1 : Hp} {p : Addr} {ds : List D} {vs : List V} (R : Rel K os f ρ M1 σ H) (F : Fin K os f ρ σ H f1 M1 H1) (hp : H1 p = none) (r : RVs K (Pu os (Wr f1 ρ σ)) H1 ds vs) :
    FinL K os f ρ σ H p (.lst ds) f1 M1 (upd H1 p (.lst vs)) := by
  refine ⟨F.st.trans (Step.laid hp), F.rel.lay hp, F.pre, ?_, ⟨vs, upd_same, r.addP hp⟩⟩
  cases h : H p with
  | none => rfl
  | some o =>
    by_cases z : Wr f ρ σ p
    · have z1 : Wr f1 ρ σ p := z.elim (fun m => by
        obtain ⟨i, hi⟩ := List.mem_iff_getElem?.mp m
        exact .inl (List.mem_of_getElem? (F.pre i p hi))) .inr
      obtain ⟨u, e⟩ := F.rel.there z1
      rw [hp] at e
      cases e
    · rw [F.st.keep p o h z] at hp
      cases hp
end
theorem gone {K : PySem.W.Frag} {os : Pr} {f f1 : List Addr} {ρ : List Slot} {M1 : List MO} {σ : L2.St} {H H1 : Hp} {p : Addr} (F : Fin K os f ρ σ H f1 M1 H1) (hp : H1 p = none) : H p = none := by
  cases h : H p with
  | none => rfl
  | some o =>
    by_cases z : Wr f ρ σ p
    · have z1 : Wr f1 ρ σ p := z.elim (fun m => by
        obtain ⟨i, hi⟩ := List.mem_iff_getElem?.mp m
        exact .inl (List.mem_of_getElem? (F.pre i p hi))) .inr
      obtain ⟨u, e⟩ := F.rel.there z1
      rw [hp] at e
      cases e
    · rw [F.st.keep p o h z] at hp
      cases hp
section
variable {X : Cx} {c : Call} {a b e : Expr} {es : List Expr} {pos : Pos} {ma mb me : EM} {m : AM} {K : PySem.W.Frag}
theorem FinL.ofO {os : Pr} {f f1 : List Addr} {ρ : List Slot} {M1 : List MO} {σ : L2.St} {H H1 : Hp} {p : Addr} {mo : MO} {o : HO} (F : Fin K os f ρ σ H f1 M1 H1) (hp : H1 p = none) (r : ObjAt K (Pu (addP os p) (Wr f1 ρ σ)) (upd H1 p o) p mo) :
    FinL K os f ρ σ H p mo f1 M1 (upd H1 p o) := ⟨F.st.trans (Step.laid hp), F.rel.lay hp, F.pre, gone F hp, r⟩
theorem pe_lstM (h : PA X es (tA X.K c m)) : PE X (.List es pos) (tL X.K c (mLst m)) := pe_imp (pe_lst h) fun σ H Q h => by
  obtain ⟨os, f, ρ, M, R, z, M', e, q⟩ := h
  replace e := bnd_ok e
  obtain ⟨xs, M1, e1, e⟩ := e
  replace e := bnd_ok e
  obtain ⟨ds, M2, e2, e⟩ := e
  replace e2 := liftO_ok e2
  obtain ⟨e2, rfl⟩ := e2
  split at e
  · rename_i hl
    cases e
    refine ⟨os, f, ρ, M, R, xs, _, e1, fun vs f1 H1 F1 r1 => ?_⟩
    have rs := dats_ok r1 e2
    refine ⟨by rw [← rs.length]; exact lim_le hl, fun p hp => ?_⟩
    exact q p f1 _ (FinL.ofO F1 hp ⟨vs, upd_same, rs.addP hp⟩)
  · cases e
theorem FinL.rv {os : Pr} {f f1 : List Addr} {ρ : List Slot} {M M1 : List MO} {σ : L2.St} {H H1 : Hp} {p : Addr} {mo : MO} (R : Rel K os f ρ M σ H) (F : FinL K os f ρ σ H p mo f1 M1 H1) : Fin K os f ρ σ H f1 M1 H1 ∧ RV K (Pu os (Wr f1 ρ σ)) H1 mo.dat (.ref p) := by
  have np : ¬ Pu os (Wr f1 ρ σ) p := fun z => by
    rcases z with z | z | ⟨i, z⟩
    · obtain ⟨o, e⟩ := R.o4 p z
      rw [F.new] at e
      cases e
    · exact F.rel.o3 p z (.inr rfl)
    · exact (F.rel.o2 i p z).2 (.inr rfl)
  have l : Less (Pu os (Wr f1 ρ σ)) (Pu (addP os p) (Wr f1 ρ σ)) := fun b z => z.elim (fun z => .inl (.inl z)) .inr
  refine ⟨⟨F.st, F.rel.weak less_add, F.pre⟩, ?_⟩
  have q := (F.obj.less l).rv np
  cases mo <;> exact q
theorem pe_fzM {m : LM} (h : PE X e (tL X.K c m)) : PE X e (tE X.K c (mFz m)) := pe_imp h fun σ H Q h => by
  obtain ⟨os, f, ρ, M, R, z, M', e, q⟩ := h
  replace e := bnd_ok e
  obtain ⟨xs, M1, e1, e⟩ := e
  cases e
  refine ⟨os, f, ρ, M, R, xs, _, e1, fun p f1 H1 F => ?_⟩
  obtain ⟨F1, r⟩ := F.rv R
  exact q _ f1 H1 F1 r
theorem pe_fzDM {t : Bool} {m : Mm (List (D × D))} (h : PE X e (tD X.K t c m)) : PE X e (tE X.K c (mFzD m)) := pe_imp h fun σ H Q h => by
  obtain ⟨os, f, ρ, M, R, z, M', e, q⟩ := h
  replace e := bnd_ok e
  obtain ⟨xs, M1, e1, e⟩ := e
  cases e
  refine ⟨os, f, ρ, M, R, xs, _, e1, fun p f1 H1 F => ?_⟩
  obtain ⟨F1, r⟩ := F.rv R
  exact q _ f1 H1 F1 r
def mDNew : Mm (List (D × D)) := fun _ _ M => some ([], M)
theorem pe_dnewKM : PE X (.Dict [] [] pos) (tD X.K false c mDNew) := pe_imp pe_dnewK fun σ H Q h => by
  obtain ⟨os, f, ρ, M, R, z, M', e, q⟩ := h
  cases e
  exact fun p hp => q p f _ (FinL.ofO (Fin.refl R) hp ⟨[], upd_same, .nil⟩)
theorem pe_dnewTM : PE X (.Dict [] [] pos) (tD X.K true c mDNew) := pe_imp pe_dnewT fun σ H Q h => by
  obtain ⟨os, f, ρ, M, R, z, M', e, q⟩ := h
  cases e
  exact fun p hp => q p f _ (FinL.ofO (Fin.refl R) hp ⟨[], upd_same, .nil⟩)
theorem pe_ixM (ha : PE X a (tE X.K c ma)) (hb : PE X b (tE X.K c mb)) (hs : PlainIx b) : PE X (.Subscript a b pos) (tE X.K c (mOp gIx ma mb)) := pe_imp (pe_ix (ix_list.or ix_tup) ha hb hs) (op_imp od_ix)
end

/-! ### dicts that are looked at -/
def skey : D → Option Key
  | .int i => some (.inl i)
  | .str x => some (.inr x)
  | _ => none
def skeys : List D → Option (List Key)
  | [] => some []
  | d :: r => match skey d, skeys r with
    | some k, some ks => some (k :: ks)
    | _, _ => none
def tkey : D → Option (List Key)
  | .tuple ds => skeys ds
  | _ => none
/-- what a dict has at a key; t: its keys are tuples -/
def dLook (t : Bool) (es : List (D × D)) (k : D) : Option (Option D) :=
  if t = true then (tkey k).map fun kk => (es.find? fun e => match tkey e.1 with | some k' => decide (k' = kk) | none => false).map (·.2)
  else (skey k).map fun kk => (es.find? fun e => match skey e.1 with | some k' => decide (k' = kk) | none => false).map (·.2)
def isT (es : List (D × D)) : Option Bool := match es with
  | [] => none
  | e :: _ => some (tkey e.1).isSome
def RO (K : PySem.W.Frag) (P : Pr) (H : Hp) : Option D → Option V → Prop
  | some d, some v => RV K P H d v
  | none, none => True
  | _, _ => False
section
variable {K : PySem.W.Frag} {P : Pr} {H : Hp}
theorem skey_kD (k : Key) : skey (kD k) = some k := by cases k <;> rfl
theorem skeys_kD : ∀ ks : List Key, skeys (ks.map kD) = some ks
  | [] => rfl
  | k :: ks => by
    rw [List.map_cons]
    unfold skeys
    rw [skey_kD, skeys_kD ks]
theorem skey_eq {d : D} {k : Key} (h : skey d = some k) : d = kD k := by
  cases d <;> first | (cases h; rfl) | cases h
theorem skeys_eq : ∀ {ds : List D} {ks : List Key}, skeys ds = some ks → ds = ks.map kD
  | [], ks, h => by cases h; rfl
  | d :: ds, ks, h => by
    unfold skeys at h
    split at h
    · rename_i h1 h2
      cases h
      rw [List.map_cons, skey_eq h1, skeys_eq h2]
    · cases h
theorem tkey_eq {d : D} {ks : List Key} (h : tkey d = some ks) : d = .tuple (ks.map kD) := by
  cases d with
  | tuple ds => rw [skeys_eq h]
  | _ => cases h
theorem kD_rv {k : Key} {v : V} (h : RV K P H (kD k) v) : v = kV k := by
  cases k with
  | inl i => cases h; rfl
  | inr x => cases h; rfl
theorem kDs_rv : ∀ {ks : List Key} {vs : List V}, RVs K P H (ks.map kD) vs → vs = ks.map kV
  | [], _, .nil => rfl
  | k :: ks, _, .cons r t => by rw [List.map_cons, kD_rv r, kDs_rv t]
theorem RVk.find {es : List (D × D)} {kvs : List (Key × V)} (r : RVk K P H es kvs) (kk : Key) : RO K P H ((es.find? fun e => match skey e.1 with | some k' => decide (k' = kk) | none => false).map (·.2)) (valV kvs kk) := by
  induction es generalizing kvs with
  | nil => cases r; exact True.intro
  | cons e es ih =>
    cases r with
    | @cons k d v _ kvs' rd rt =>
      have ih := ih rt
      simp only [List.find?_cons, skey_kD]
      by_cases z : k = kk
      · subst z
        rw [valV_pos (p := (k, v)) rfl]
        simp only [decide_true]
        exact rd
      · rw [valV_neg (p := (k, v)) z]
        simp only [decide_eq_false z]
        exact ih
theorem RVt.find {es : List (D × D)} {kvs : List (List Key × V)} (r : RVt K P H es kvs) (kk : List Key) : RO K P H ((es.find? fun e => match tkey e.1 with | some k' => decide (k' = kk) | none => false).map (·.2)) (valV kvs kk) := by
  induction es generalizing kvs with
  | nil => cases r; exact True.intro
  | cons e es ih =>
    cases r with
    | @cons k d v _ kvs' rd rt =>
      have ih := ih rt
      have tk : tkey (PyData.tuple (k.map kD)) = some k := skeys_kD k
      simp only [List.find?_cons, tk]
      by_cases z : k = kk
      · subst z
        rw [valV_pos (p := (k, v)) rfl]
        simp only [decide_true]
        exact rd
      · rw [valV_neg (p := (k, v)) z]
        simp only [decide_eq_false z]
        exact ih
/-- a look at a dict of a known kind -/
theorem dLook_k {a : Addr} {es : List (D × D)} {kvs : List (Key × V)} {k : D} {v : V} {o : Option D} (hd : Rd H a (.dK kvs)) (r : RVk K P H es kvs) (hk : RVp K P H k v) (h : dLook false es k = some o) :
    ∃ ov, DGet H a v ov ∧ RO K P H o ov := by
  unfold dLook at h
  rw [if_neg Bool.false_ne_true, Option.map_eq_some_iff] at h
  obtain ⟨kk, e1, e2⟩ := h
  have e3 := skey_eq e1
  subst e3 e2
  have ev : v = kV kk := by
    cases kk with
    | inl i => exact hk.int
    | inr y => exact hk.str
  exact ⟨valV kvs kk, .inl ⟨kvs, kk, hd, ev, rfl⟩, r.find kk⟩
theorem dLook_t {a : Addr} {es : List (D × D)} {kvs : List (List Key × V)} {k : D} {v : V} {o : Option D} (hd : Rd H a (.dT kvs)) (r : RVt K P H es kvs) (hk : RVp K P H k v) (h : dLook true es k = some o) :
    ∃ ov, DGet H a v ov ∧ RO K P H o ov := by
  unfold dLook at h
  rw [if_pos rfl, Option.map_eq_some_iff] at h
  obtain ⟨kk, e1, e2⟩ := h
  have e3 := tkey_eq e1
  subst e3 e2
  obtain ⟨b, vs, ev, tb, rs⟩ := hk.tup
  rw [kDs_rv rs] at tb
  exact ⟨valV kvs kk, .inr ⟨kvs, kk, b, hd, ev, tb.1, rfl⟩, r.find kk⟩
theorem isT_k {es : List (D × D)} {kvs : List (Key × V)} {t : Bool} (r : RVk K P H es kvs) (h : isT es = some t) : t = false := by
  cases r with
  | nil => cases h
  | @cons k d v es kvs rd rt => cases k <;> (cases h; rfl)
theorem isT_t {es : List (D × D)} {kvs : List (List Key × V)} {t : Bool} (r : RVt K P H es kvs) (h : isT es = some t) : t = true := by
  cases r with
  | nil => cases h
  | @cons k d v es kvs rd rt =>
    simp only [isT, Option.some.injEq] at h
    rw [← h]
    show (skeys (k.map kD)).isSome = true
    rw [skeys_kD]
    rfl
end
/-- the kind of a dict that is looked at: told by its name, or by its first key -/
def kindOf (ρ : List Slot) (x : Vl) (es : List (D × D)) : Option Bool := match x with
  | .v i => match ρ[i]? with
    | some (.od t _) => some t
    | _ => none
  | _ => isT es
def dGet (x k : Vl) : Mm (Option D) := bnd (pk x) fun dx => bnd (pk k) fun dk => match dx with
  | .dict es => fun _ ρ M => match kindOf ρ x es with
    | some t => (dLook t es dk).map fun o => (o, M)
    | none => none
  | _ => fun _ _ _ => none
theorem dGet_ok {K : PySem.W.Frag} {os : Pr} {f : List Addr} {ρ : List Slot} {M M' : List MO} {σ : L2.St} {H : Hp} {c : Call} {x k : Vl} {vx vk : V} {o : Option D} (R : Rel K os f ρ M σ H) (rx : AOk K (Pu os (Wr f ρ σ)) f σ H x vx) (rk : AOk K (Pu os (Wr f ρ σ)) f σ H k vk)
    (h : dGet x k c ρ M = some (o, M')) : M' = M ∧ ∃ a ov, vx = .ref a ∧ DGet H a vk ov ∧ RO K (Pu os (Wr f ρ σ)) H o ov := by
  replace h := bnd_ok h
  obtain ⟨dx, M1, e1, h⟩ := h
  replace h := bnd_ok h
  obtain ⟨dk, M2, e2, h⟩ := h
  replace e1 := pk_ok e1
  obtain ⟨e1, rfl⟩ := e1
  replace e2 := pk_ok e2
  obtain ⟨e2, rfl⟩ := e2
  have pkk := peek_ok R rk e2
  split at h
  · rename_i es
    split at h
    · rename_i t et
      rw [Option.map_eq_some_iff] at h
      obtain ⟨o', e3, e4⟩ := h
      cases e4
      refine ⟨rfl, ?_⟩
      have px := peek_ok R rx e1
      cases x with
      | v i =>
        have rx : σ[i]? = some (some vx) := rx
        simp only [kindOf] at et
        split at et
        · rename_i t' es' hs
          cases et
          have e5 : PyData.dict es' = PyData.dict es := by
            simp only [peek, hs] at e1
            exact Option.some.inj e1
          cases e5
          obtain ⟨u, e6, a, e7, ob⟩ := R.sl i _ hs (fun z => nomatch z)
          rw [rx] at e6
          cases e6
          subst e7
          cases t with
          | false =>
            obtain ⟨kvs, e8, r8⟩ := ob
            obtain ⟨ov, g, q⟩ := dLook_k (.inl e8) r8 pkk e3
            exact ⟨a, ov, rfl, g, q⟩
          | true =>
            obtain ⟨kvs, e8, r8⟩ := ob
            obtain ⟨ov, g, q⟩ := dLook_t (.inl e8) r8 pkk e3
            exact ⟨a, ov, rfl, g, q⟩
        · cases et
      | d y =>
        obtain ⟨a, ea, z⟩ := px.dict
        subst ea
        rcases z with ⟨kvs, e8, r8⟩ | ⟨kvs, e8, r8⟩
        · have := isT_k r8 et
          subst this
          obtain ⟨ov, g, q⟩ := dLook_k e8 r8 pkk e3
          exact ⟨a, ov, rfl, g, q⟩
        · have := isT_t r8 et
          subst this
          obtain ⟨ov, g, q⟩ := dLook_t e8 r8 pkk e3
          exact ⟨a, ov, rfl, g, q⟩
      | r n =>
        obtain ⟨a, ea, z⟩ := px.dict
        subst ea
        rcases z with ⟨kvs, e8, r8⟩ | ⟨kvs, e8, r8⟩
        · have := isT_k r8 et
          subst this
          obtain ⟨ov, g, q⟩ := dLook_k e8 r8 pkk e3
          exact ⟨a, ov, rfl, g, q⟩
        · have := isT_t r8 et
          subst this
          obtain ⟨ov, g, q⟩ := dLook_t e8 r8 pkk e3
          exact ⟨a, ov, rfl, g, q⟩
    · cases h
  · cases h
/-- d[k] of a dict -/
def mDGet (a b : EM) : EM := bnd a fun x => bnd b fun k => bnd (dGet x k) fun o => bnd (liftO o) fun d _ _ M => some (.d d, M)
def mDIn (neg : Bool) (b a : EM) : EM := bnd b fun k => bnd a fun x => bnd (dGet x k) fun o _ _ M => some (.d (.bool (o.isSome != neg)), M)
/-- d.get(k, x) -/
def mDGet2 (a b e : EM) : EM := bnd a fun x => bnd b fun k => bnd e fun z => bnd (dGet x k) fun o => match o with
  | some d => fun _ _ M => some (.d d, M)
  | none => fun _ _ M => some (z, M)
section
variable {X : Cx} {c : Call} {a b e : Expr} {pos apos cpos : Pos} {ma mb me : EM}
theorem DGet.isD {H : Hp} {a : Addr} {y : V} {o : Option V} (g : DGet H a y o) : IsD H a := by
  rcases g with ⟨kvs, k, e, _, _⟩ | ⟨kvs, k, b, e, _, _, _⟩
  · exact .inl ⟨kvs, e⟩
  · exact .inr ⟨kvs, e⟩
theorem pe_dgetM (hu : X.A.units + 1 < cLine) (ha : PE X a (tE X.K c ma)) (hb : PE X b (tE X.K c mb)) (hs : NoSl b) : PE X (.Subscript a b pos) (tE X.K c (mDGet ma mb)) := pe_imp (pe_dget hu ha hb hs) fun σ H Q h => by
  obtain ⟨os, f, ρ, M, R, z, M', e, q⟩ := h
  replace e := bnd_ok e
  obtain ⟨x, M1, e1, e⟩ := e
  replace e := bnd_ok e
  obtain ⟨k, M2, e2, e⟩ := e
  replace e := bnd_ok e
  obtain ⟨o, M3, e3, e⟩ := e
  replace e := bnd_ok e
  obtain ⟨d, M4, e4, e⟩ := e
  cases e
  replace e4 := liftO_ok e4
  obtain ⟨e5, rfl⟩ := e4
  subst e5
  refine ⟨os, f, ρ, M, R, x, _, e1, fun vx f1 H1 F1 rx => ?_⟩
  refine ⟨os, f1, ρ, M1, F1.rel, k, _, e2, fun vk f2 H2 F2 rk => ?_⟩
  obtain ⟨rfl, a, ov, ea, g, r⟩ := dGet_ok F2.rel (rx.fin F2) rk e3
  cases ov with
  | none => exact False.elim r
  | some u => exact ⟨a, u, ea, g, q u f2 H2 (F1.trans F2) r⟩
theorem din_imp {K : PySem.W.Frag} : ∀ σ H Q, tE K c (mDIn false mb ma) σ H Q → tDIn (tE K c mb) (tE K c ma) σ H Q := fun σ H Q h => by
  obtain ⟨os, f, ρ, M, R, z, M', e, q⟩ := h
  replace e := bnd_ok e
  obtain ⟨k, M1, e1, e⟩ := e
  replace e := bnd_ok e
  obtain ⟨x, M2, e2, e⟩ := e
  replace e := bnd_ok e
  obtain ⟨o, M3, e3, e⟩ := e
  cases e
  refine ⟨os, f, ρ, M, R, k, _, e1, fun vk f1 H1 F1 rk => ?_⟩
  refine ⟨os, f1, ρ, M1, F1.rel, x, _, e2, fun vx f2 H2 F2 rx => ?_⟩
  obtain ⟨rfl, a, ov, ea, g, r⟩ := dGet_ok F2.rel rx (rk.fin F2) e3
  refine ⟨a, ov, ea, g, q _ f2 H2 (F1.trans F2) ?_⟩
  have e5 : ov.isSome = (o.isSome != false) := by cases o <;> cases ov <;> first | rfl | exact False.elim r
  rw [e5]
  exact .bl _
theorem dnin_imp {K : PySem.W.Frag} : ∀ σ H Q, tE K c (mDIn true mb ma) σ H Q → tDNotIn (tE K c mb) (tE K c ma) σ H Q := fun σ H Q h => by
  obtain ⟨os, f, ρ, M, R, z, M', e, q⟩ := h
  replace e := bnd_ok e
  obtain ⟨k, M1, e1, e⟩ := e
  replace e := bnd_ok e
  obtain ⟨x, M2, e2, e⟩ := e
  replace e := bnd_ok e
  obtain ⟨o, M3, e3, e⟩ := e
  cases e
  refine ⟨os, f, ρ, M, R, k, _, e1, fun vk f1 H1 F1 rk => ?_⟩
  refine ⟨os, f1, ρ, M1, F1.rel, x, _, e2, fun vx f2 H2 F2 rx => ?_⟩
  obtain ⟨rfl, a, ov, ea, g, r⟩ := dGet_ok F2.rel rx (rk.fin F2) e3
  refine ⟨a, ov, ea, g, q _ f2 H2 (F1.trans F2) ?_⟩
  have e5 : (!ov.isSome) = (o.isSome != true) := by cases o <;> cases ov <;> first | rfl | exact False.elim r
  rw [e5]
  exact .bl _
theorem pe_dinM (hu : X.A.units + 1 < cLine) (hb : PE X b (tE X.K c mb)) (ha : PE X a (tE X.K c ma)) (hm : behindInMarks .In a = false) : PE X (.Compare b [.In] [a] pos) (tE X.K c (mDIn false mb ma)) := pe_imp (pe_cmp (pc_din hu hb ha) hm) din_imp
theorem pe_dninM (hu : X.A.units + 1 < cLine) (hb : PE X b (tE X.K c mb)) (ha : PE X a (tE X.K c ma)) (hm : behindInMarks .NotIn a = false) : PE X (.Compare b [.NotIn] [a] pos) (tE X.K c (mDIn true mb ma)) := pe_imp (pe_cmp (pc_dnotin hu hb ha) hm) dnin_imp
theorem pt_dinM (hu : X.A.units + 1 < cLine) (hb : PE X b (tE X.K c mb)) (ha : PE X a (tE X.K c ma)) (hm : behindInMarks .In a = false) : PT X (.Compare b [.In] [a] pos) (tT X.K c (mB (mDIn false mb ma))) := pt_imp (pt_cmp (pc_din hu hb ha) hm) fun σ H Q h => din_imp σ H _ (bol_imp σ H Q h)
theorem pt_dninM (hu : X.A.units + 1 < cLine) (hb : PE X b (tE X.K c mb)) (ha : PE X a (tE X.K c ma)) (hm : behindInMarks .NotIn a = false) : PT X (.Compare b [.NotIn] [a] pos) (tT X.K c (mB (mDIn true mb ma))) := pt_imp (pt_cmp (pc_dnotin hu hb ha) hm) fun σ H Q h => dnin_imp σ H _ (bol_imp σ H Q h)
end

/-! ### built-ins -/
def mBlt (g : List D → Option D) (a : AM) : EM := bnd a fun xs => bnd (fun _ ρ M => (pks ρ M xs).map fun ds => (ds, M)) fun ds => bnd (liftO (g ds)) fun z _ _ M => some (.d z, M)
def mBltL (g : List D → Option (List D)) (a : AM) : LM := bnd a fun xs => bnd (fun _ ρ M => (pks ρ M xs).map fun ds => (ds, M)) fun ds => bnd (liftO (g ds)) fun z _ _ M => some (z, M)
def CallD (K : PySem.W.Frag) (r : List V → Hp → VK → Prop) (g : List D → Option D) : Prop := ∀ (os : Pr) (f : List Addr) (ρ : List Slot) (M : List MO) (σ : L2.St) (H : Hp) (ds : List D) (z : D) (vs : List V) (Q : VK),
  Rel K os f ρ M σ H → RVps K (Pu os (Wr f ρ σ)) H ds vs → g ds = some z → (∀ v H', Fin K os f ρ σ H f M H' → RV K (Pu os (Wr f ρ σ)) H' z v → Q v H') → r vs H Q
def CallDL (K : PySem.W.Frag) (r : List V → Hp → VK → Prop) (g : List D → Option (List D)) : Prop := ∀ (os : Pr) (f : List Addr) (ρ : List Slot) (M : List MO) (σ : L2.St) (H : Hp) (ds : List D) (z : List D) (vs : List V) (Q : VK),
  Rel K os f ρ M σ H → RVps K (Pu os (Wr f ρ σ)) H ds vs → g ds = some z → (∀ p us, H p = none → RVs K (Pu os (Wr f ρ σ)) H z us → Q (.ref p) (upd H p (.lst us))) → r vs H Q
section
variable {X : Cx} {c : Call} {x : Str} {p pos : Pos} {e : Expr} {es : List Expr} {m : AM} {id T : String} {r : List V → Hp → VK → Prop} {K : PySem.W.Frag}
theorem blt_imp {g : List D → Option D} (o : CallD K r g) : ∀ σ H Q, tE K c (mBlt g m) σ H Q → tCB r (tA K c m) σ H Q := fun σ H Q h => by
  obtain ⟨os, f, ρ, M, R, z, M', e, q⟩ := h
  replace e := bnd_ok e
  obtain ⟨xs, M1, e1, e⟩ := e
  replace e := bnd_ok e
  obtain ⟨ds, M2, e2, e⟩ := e
  replace e := bnd_ok e
  obtain ⟨dz, M3, e3, e⟩ := e
  cases e
  replace e3 := liftO_ok e3
  obtain ⟨e4, rfl⟩ := e3
  rw [Option.map_eq_some_iff] at e2
  obtain ⟨ds', e2, e5⟩ := e2
  cases e5
  refine ⟨os, f, ρ, M, R, xs, _, e1, fun vs f1 H1 F1 rs => ?_⟩
  exact o os f1 ρ _ σ H1 ds _ vs Q F1.rel (pks_ok F1.rel rs e2) e4 fun v H2 F2 r2 => q v f1 H2 (F1.trans F2) r2
theorem bltL_imp {g : List D → Option (List D)} (o : CallDL K r g) : ∀ σ H Q, tL K c (mBltL g m) σ H Q → tCB r (tA K c m) σ H Q := fun σ H Q h => by
  obtain ⟨os, f, ρ, M, R, z, M', e, q⟩ := h
  replace e := bnd_ok e
  obtain ⟨xs, M1, e1, e⟩ := e
  replace e := bnd_ok e
  obtain ⟨ds, M2, e2, e⟩ := e
  replace e := bnd_ok e
  obtain ⟨dz, M3, e3, e⟩ := e
  cases e
  replace e3 := liftO_ok e3
  obtain ⟨e4, rfl⟩ := e3
  rw [Option.map_eq_some_iff] at e2
  obtain ⟨ds', e2, e5⟩ := e2
  cases e5
  refine ⟨os, f, ρ, M, R, xs, _, e1, fun vs f1 H1 F1 rs => ?_⟩
  exact o os f1 ρ _ σ H1 ds _ vs Q F1.rel (pks_ok F1.rel rs e2) e4 fun p us hp r2 => q p f1 _ (FinL.ofO F1 hp ⟨us, upd_same, r2.addP hp⟩)
theorem pe_bltM {g : List D → Option D} (hc : CallR X (.builtin id) r) (o : CallD X.K r g) (hg : Gl X x) (hm : X.mg x = none) (hv : bootBuiltins x = some (.builtin id)) (ha : PA X (e :: es) (tA X.K c m)) (hn : x ≠ "__name__") (hdb : (x == ("__debug__" : Str)) = false)
    (he : starEach (e :: es) X.env = (false, eval e X.env) :: starEach es X.env) (hpl : (backTo pos (starEach es X.env)).any (·.1) = false) : PE X (.Call (.Name x p) (e :: es) [] pos) (tE X.K c (mBlt g m)) := pe_imp (pe_callB hc hg hm hv ha hn hdb he hpl) (blt_imp o)
theorem pe_bltLM {g : List D → Option (List D)} (hc : CallR X (.builtin id) r) (o : CallDL X.K r g) (hg : Gl X x) (hm : X.mg x = none) (hv : bootBuiltins x = some (.builtin id)) (ha : PA X (e :: es) (tA X.K c m)) (hn : x ≠ "__name__") (hdb : (x == ("__debug__" : Str)) = false)
    (he : starEach (e :: es) X.env = (false, eval e X.env) :: starEach es X.env) (hpl : (backTo pos (starEach es X.env)).any (·.1) = false) : PE X (.Call (.Name x p) (e :: es) [] pos) (tL X.K c (mBltL g m)) := pe_imp (pe_callB hc hg hm hv ha hn hdb he hpl) (bltL_imp o)
theorem pe_bltTM {g : List D → Option D} (hc : CallR X (.type T) r) (o : CallD X.K r g) (hg : Gl X x) (hm : X.mg x = none) (hv : bootBuiltins x = some (.type T)) (ha : PA X (e :: es) (tA X.K c m)) (hn : x ≠ "__name__") (hdb : (x == ("__debug__" : Str)) = false)
    (he : starEach (e :: es) X.env = (false, eval e X.env) :: starEach es X.env) (hpl : (backTo pos (starEach es X.env)).any (·.1) = false) : PE X (.Call (.Name x p) (e :: es) [] pos) (tE X.K c (mBlt g m)) := pe_imp (pe_callTy hc hg hm hv ha hn hdb he hpl) (blt_imp o)
theorem pe_bltTLM {g : List D → Option (List D)} (hc : CallR X (.type T) r) (o : CallDL X.K r g) (hg : Gl X x) (hm : X.mg x = none) (hv : bootBuiltins x = some (.type T)) (ha : PA X (e :: es) (tA X.K c m)) (hn : x ≠ "__name__") (hdb : (x == ("__debug__" : Str)) = false)
    (he : starEach (e :: es) X.env = (false, eval e X.env) :: starEach es X.env) (hpl : (backTo pos (starEach es X.env)).any (·.1) = false) : PE X (.Call (.Name x p) (e :: es) [] pos) (tL X.K c (mBltL g m)) := pe_imp (pe_callTy hc hg hm hv ha hn hdb he hpl) (bltL_imp o)
end
end DL
set_option Elab.async false
set_option linter.all false
set_option maxRecDepth 100000
set_option maxHeartbeats 4000000
/-! the machine's built-ins -/
namespace DL
open PySem L2

/-! ### len -/
def gLen : List D → Option D
  | [.list xs] => some (.int xs.length)
  | [.tuple xs] => some (.int xs.length)
  | [.str x] => if x.length ≤ lim then some (.int x.length) else none
  | [.dict es] => some (.int es.length)
  | _ => none
def rLenDT : List V → Hp → VK → Prop := fun xs H Q => ∃ (p : Addr) (n : Nat), xs = [.ref p] ∧ ((∃ kvs, Rd H p (.dK kvs) ∧ n = kvs.length) ∨ ∃ kvs, Rd H p (.dT kvs) ∧ n = kvs.length) ∧ Q (.int (n : Int)) H
theorem call_lenDT {X : Cx} : CallR X (.builtin "len") rLenDT := by
  intro pins s σ H xs us Q I r h
  obtain ⟨p, n, rfl, hp, q⟩ := h
  obtain ⟨u, rfl, rx⟩ := vals1 r
  obtain rfl : u = .ref p := rx
  rcases hp with ⟨kvs, hp, rfl⟩ | ⟨kvs, hp, rfl⟩
  · exact d_len I hp fun t s' I' => ⟨.int kvs.length, H, I', ⟨t, rfl⟩, q⟩
  · obtain ⟨z, hd, ys, rel, dd⟩ := dt_rd I.hok hp
    have hl : kvs.length = ys.length := Paired.length rel
    refine call_len_dictH hd dd (by rw [← hl]; rw [sizeLine_eq] at z; omega) ?_
    rw [← hl]
    exact ⟨.int ((kvs.length : Nat) : Int), H, I.tok _, ⟨_, rfl⟩, q⟩
def rLen (K : PySem.W.Frag) : List V → Hp → VK → Prop := fun xs H Q => (∃ p ys, xs = [.ref p] ∧ (SqL K H p ys ∨ SqT K H p ys) ∧ Q (.int ys.length) H) ∨ ((∃ z, xs = [.str z] ∧ z.length ≤ sizeLine ∧ Q (.int z.length) H) ∨ rLenDT xs H Q)
theorem cr_len {X : Cx} : CallR X (.builtin "len") (rLen X.K) := call_len_seq.or (call_len_str.or call_lenDT)
theorem RVps.one {K : PySem.W.Frag} {P : Pr} {H : Hp} {d : D} {vs : List V} (h : RVps K P H [d] vs) : ∃ v, vs = [v] ∧ RVp K P H d v := by
  cases h with
  | cons r t => cases t; exact ⟨_, rfl, r⟩
theorem RVps.two {K : PySem.W.Frag} {P : Pr} {H : Hp} {d e : D} {vs : List V} (h : RVps K P H [d, e] vs) : ∃ v u, vs = [v, u] ∧ RVp K P H d v ∧ RVp K P H e u := by
  cases h with
  | cons r t =>
    cases t with
    | cons r2 t2 => cases t2; exact ⟨_, _, rfl, r, r2⟩
theorem RVk.length {K : PySem.W.Frag} {P : Pr} {H : Hp} : ∀ {es : List (D × D)} {kvs : List (Key × V)}, RVk K P H es kvs → es.length = kvs.length
  | _, _, .nil => rfl
  | _, _, .cons _ t => by rw [List.length_cons, List.length_cons, RVk.length t]
theorem RVt.length {K : PySem.W.Frag} {P : Pr} {H : Hp} : ∀ {es : List (D × D)} {kvs : List (List Key × V)}, RVt K P H es kvs → es.length = kvs.length
  | _, _, .nil => rfl
  | _, _, .cons _ t => by rw [List.length_cons, List.length_cons, RVt.length t]
theorem cd_len {K : PySem.W.Frag} : CallD K (rLen K) gLen := by
  intro os f ρ M σ H ds z vs Q R rs h q
  unfold gLen at h
  split at h
  · cases h
    obtain ⟨v, rfl, r⟩ := rs.one
    obtain ⟨a, us, rfl, t, r⟩ := r.list
    refine .inl ⟨a, us, rfl, .inl (t), ?_⟩
    rw [← r.length]
    exact q _ H (Fin.refl R) (.int _)
  · cases h
    obtain ⟨v, rfl, r⟩ := rs.one
    obtain ⟨a, us, rfl, t, r⟩ := r.tup
    refine .inl ⟨a, us, rfl, .inr t.sq, ?_⟩
    rw [← r.length]
    exact q _ H (Fin.refl R) (.int _)
  · split at h
    · rename_i hl
      cases h
      obtain ⟨v, rfl, r⟩ := rs.one
      rw [r.str]
      exact .inr (.inl ⟨_, rfl, lim_le hl, q _ H (Fin.refl R) (.int _)⟩)
    · cases h
  · cases h
    obtain ⟨v, rfl, r⟩ := rs.one
    obtain ⟨a, rfl, t⟩ := r.dict
    rcases t with ⟨kvs, t, r⟩ | ⟨kvs, t, r⟩
    · refine .inr (.inr ⟨a, kvs.length, rfl, .inl ⟨kvs, t, rfl⟩, ?_⟩)
      rw [← r.length]
      exact q _ H (Fin.refl R) (.int _)
    · refine .inr (.inr ⟨a, kvs.length, rfl, .inr ⟨kvs, t, rfl⟩, ?_⟩)
      rw [← r.length]
      exact q _ H (Fin.refl R) (.int _)
  · cases h

/-! ### ints -/
def gAbs : List D → Option D
  | [.int i] => some (.int (if i < 0 then -i else i))
  | _ => none
theorem cd_abs {K : PySem.W.Frag} : CallD K (fun xs H Q => ∃ i, xs = [.int i] ∧ Q (.int (if i < 0 then -i else i)) H) gAbs := by
  intro os f ρ M σ H ds z vs Q R rs h q
  unfold gAbs at h
  split at h
  · cases h
    obtain ⟨v, rfl, r⟩ := rs.one
    rw [r.int]
    exact ⟨_, rfl, q _ H (Fin.refl R) (.int _)⟩
  · cases h
def gMax2 : List D → Option D
  | [.int i, .int j] => some (.int (if j > i then j else i))
  | _ => none
def gMin2 : List D → Option D
  | [.int i, .int j] => some (.int (if j < i then j else i))
  | _ => none
theorem cd_max2 {K : PySem.W.Frag} : CallD K (fun xs H Q => ∃ i j, xs = [.int i, .int j] ∧ Q (.int (if j > i then j else i)) H) gMax2 := by
  intro os f ρ M σ H ds z vs Q R rs h q
  unfold gMax2 at h
  split at h
  · cases h
    obtain ⟨v, u, rfl, r1, r2⟩ := rs.two
    rw [r1.int, r2.int]
    exact ⟨_, _, rfl, q _ H (Fin.refl R) (.int _)⟩
  · cases h
theorem cd_min2 {K : PySem.W.Frag} : CallD K (fun xs H Q => ∃ i j, xs = [.int i, .int j] ∧ Q (.int (if j < i then j else i)) H) gMin2 := by
  intro os f ρ M σ H ds z vs Q R rs h q
  unfold gMin2 at h
  split at h
  · cases h
    obtain ⟨v, u, rfl, r1, r2⟩ := rs.two
    rw [r1.int, r2.int]
    exact ⟨_, _, rfl, q _ H (Fin.refl R) (.int _)⟩
  · cases h
def gInt : List D → Option D
  | [.int i] => some (.int i)
  | [.bool b] => some (.int (if b then 1 else 0))
  | _ => none
theorem cd_int {K : PySem.W.Frag} : CallD K (fun xs H Q => (∃ i, xs = [.int i] ∧ Q (.int i) H) ∨ ∃ k, xs = [.bl k] ∧ Q (.int (if k then 1 else 0)) H) gInt := by
  intro os f ρ M σ H ds z vs Q R rs h q
  unfold gInt at h
  split at h
  · cases h
    obtain ⟨v, rfl, r⟩ := rs.one
    rw [r.int]
    exact .inl ⟨_, rfl, q _ H (Fin.refl R) (.int _)⟩
  · cases h
    obtain ⟨v, rfl, r⟩ := rs.one
    rw [r.scal]
    exact .inr ⟨_, rfl, q _ H (Fin.refl R) (.int _)⟩
  · cases h

/-! ### list(..), tuple(..) -/
def gList : List D → Option (List D)
  | [.list xs] => some xs
  | [.tuple xs] => some xs
  | _ => none
theorem cd_list {K : PySem.W.Frag} : CallDL K (fun xs H Q => ∃ p ys, xs = [.ref p] ∧ (SqL K H p ys ∨ SqT K H p ys) ∧ ∀ l, H l = none → Q (.ref l) (upd H l (.lst ys))) gList := by
  intro os f ρ M σ H ds z vs Q R rs h q
  unfold gList at h
  split at h
  · cases h
    obtain ⟨v, rfl, r⟩ := rs.one
    obtain ⟨a, us, rfl, t, r⟩ := r.list
    exact ⟨a, us, rfl, .inl (t), fun l hl => q l us hl r⟩
  · cases h
    obtain ⟨v, rfl, r⟩ := rs.one
    obtain ⟨a, us, rfl, t, r⟩ := r.tup
    exact ⟨a, us, rfl, .inr t.sq, fun l hl => q l us hl r⟩
  · cases h
def gTuple : List D → Option D
  | [.list xs] => some (.tuple xs)
  | [.tuple xs] => some (.tuple xs)
  | _ => none
theorem cd_tuple {K : PySem.W.Frag} : CallD K (fun xs H Q => ∃ p ys, xs = [.ref p] ∧ ((SqL K H p ys ∧ ∀ l, H l = none → Q (.ref l) (upd H l (.tup ys))) ∨ (SqT K H p ys ∧ Q (.ref p) H))) gTuple := by
  intro os f ρ M σ H ds z vs Q R rs h q
  unfold gTuple at h
  split at h
  · cases h
    obtain ⟨v, rfl, r⟩ := rs.one
    obtain ⟨a, us, rfl, t, r⟩ := r.list
    refine ⟨a, us, rfl, .inl ⟨t, fun l hl => ?_⟩⟩
    have F := Fin.laid (o := .tup us) R hl
    exact q _ _ F (.tup ⟨upd_same, R.free hl⟩ (r.step F.st))
  · cases h
    obtain ⟨v, rfl, r⟩ := rs.one
    obtain ⟨a, us, rfl, t, r⟩ := r.tup
    exact ⟨a, us, rfl, .inr ⟨t.sq, q _ H (Fin.refl R) (.tup t r)⟩⟩
  · cases h

/-! ### sums, any, all, sorted -/
def asInts : List D → Option (List Int)
  | [] => some []
  | .int i :: r => (asInts r).map (i :: ·)
  | _ :: _ => none
def asBools : List D → Option (List Bool)
  | [] => some []
  | .bool i :: r => (asBools r).map (i :: ·)
  | _ :: _ => none
theorem asInts_eq : ∀ {ds : List D} {ns : List Int}, asInts ds = some ns → ds = ns.map .int
  | [], _, h => by cases h; rfl
  | .int i :: r, _, h => by
    simp only [asInts, Option.map_eq_some_iff] at h
    obtain ⟨ns, h1, h2⟩ := h
    subst h2
    rw [List.map_cons, asInts_eq h1]
  | .none :: r, _, h => by cases h
  | .bool _ :: r, _, h => by cases h
  | .str _ :: r, _, h => by cases h
  | .list _ :: r, _, h => by cases h
  | .tuple _ :: r, _, h => by cases h
  | .dict _ :: r, _, h => by cases h
theorem asBools_eq : ∀ {ds : List D} {ns : List Bool}, asBools ds = some ns → ds = ns.map .bool
  | [], _, h => by cases h; rfl
  | .bool i :: r, _, h => by
    simp only [asBools, Option.map_eq_some_iff] at h
    obtain ⟨ns, h1, h2⟩ := h
    subst h2
    rw [List.map_cons, asBools_eq h1]
  | .none :: r, _, h => by cases h
  | .int _ :: r, _, h => by cases h
  | .str _ :: r, _, h => by cases h
  | .list _ :: r, _, h => by cases h
  | .tuple _ :: r, _, h => by cases h
  | .dict _ :: r, _, h => by cases h
theorem asInts_map : ∀ ns : List Int, asInts (ns.map .int) = some ns
  | [] => rfl
  | n :: ns => by
    rw [List.map_cons]
    show (asInts (ns.map .int)).map (n :: ·) = _
    rw [asInts_map ns]
    rfl
theorem asBools_map : ∀ ns : List Bool, asBools (ns.map .bool) = some ns
  | [] => rfl
  | n :: ns => by
    rw [List.map_cons]
    show (asBools (ns.map .bool)).map (n :: ·) = _
    rw [asBools_map ns]
    rfl
def gSum : List D → Option D
  | [.list xs] => (asInts xs).map fun ns => .int ns.sum
  | _ => none
theorem cd_sum {K : PySem.W.Frag} : CallD K (rSum K) gSum := by
  intro os f ρ M σ H ds z vs Q R rs h q
  unfold gSum at h
  split at h
  · rw [Option.map_eq_some_iff] at h
    obtain ⟨ns, e, rfl⟩ := h
    obtain ⟨v, rfl, r⟩ := rs.one
    obtain ⟨a, us, rfl, t, r⟩ := r.list
    rw [asInts_eq e] at r
    rw [r.ints] at t
    exact ⟨a, ns, rfl, t, q _ H (Fin.refl R) (.int _)⟩
  · cases h
def gAny : List D → Option D
  | [.list xs] => (asBools xs).map fun ns => .bool (ns.any id)
  | _ => none
def gAll : List D → Option D
  | [.list xs] => (asBools xs).map fun ns => .bool (ns.all id)
  | _ => none
theorem cd_any {K : PySem.W.Frag} : CallD K (rAny K) gAny := by
  intro os f ρ M σ H ds z vs Q R rs h q
  unfold gAny at h
  split at h
  · rw [Option.map_eq_some_iff] at h
    obtain ⟨ns, e, rfl⟩ := h
    obtain ⟨v, rfl, r⟩ := rs.one
    obtain ⟨a, us, rfl, t, r⟩ := r.list
    rw [asBools_eq e] at r
    rw [r.bools] at t
    exact ⟨a, ns, rfl, t, q _ H (Fin.refl R) (.bl _)⟩
  · cases h
theorem cd_all {K : PySem.W.Frag} : CallD K (rAll K) gAll := by
  intro os f ρ M σ H ds z vs Q R rs h q
  unfold gAll at h
  split at h
  · rw [Option.map_eq_some_iff] at h
    obtain ⟨ns, e, rfl⟩ := h
    obtain ⟨v, rfl, r⟩ := rs.one
    obtain ⟨a, us, rfl, t, r⟩ := r.list
    rw [asBools_eq e] at r
    rw [r.bools] at t
    exact ⟨a, ns, rfl, t, q _ H (Fin.refl R) (.bl _)⟩
  · cases h
theorem RVs.ofInts {K : PySem.W.Frag} {P : Pr} {H : Hp} : ∀ ns : List Int, RVs K P H (ns.map .int) (ns.map V.int)
  | [] => .nil
  | n :: ns => .cons (.int n) (RVs.ofInts ns)
def gSortedI : List D → Option (List D)
  | [.list xs] => (asInts xs).map fun ns => (PySem.W.sortI ns).map .int
  | _ => none
theorem cd_sortedI {K : PySem.W.Frag} : CallDL K (rSortedI K) gSortedI := by
  intro os f ρ M σ H ds z vs Q R rs h q
  unfold gSortedI at h
  split at h
  · rw [Option.map_eq_some_iff] at h
    obtain ⟨ns, e, rfl⟩ := h
    obtain ⟨v, rfl, r⟩ := rs.one
    obtain ⟨a, us, rfl, t, r⟩ := r.list
    rw [asInts_eq e] at r
    rw [r.ints] at t
    refine ⟨a, ns, rfl, t, fun ns' p h1 h2 hp => ?_⟩
    rw [PySem.W.eq_sortI h1 h2]
    exact q p _ hp (.ofInts _)
  · cases h

/-! ### isinstance -/
def tyN : D → String
  | .none => "NoneType"
  | .bool _ => "bool"
  | .int _ => "int"
  | .str _ => "str"
  | .list _ => "list"
  | .tuple _ => "tuple"
  | .dict _ => "dict"
def isTyS (T s : String) : Bool := s == T || (T == "int" && s == "bool")
def isTy (T : String) (d : D) : Bool := isTyS T (tyN d)
/-- the types that are asked for -/
def okTy (T : String) : Bool := ["int", "bool", "str", "list", "tuple", "dict"].contains T
theorem okTy_mem {T : String} (h : okTy T = true) : T = "int" ∨ T = "bool" ∨ T = "str" ∨ T = "list" ∨ T = "tuple" ∨ T = "dict" := by
  simp only [okTy, List.contains_cons, List.contains_nil, Bool.or_eq_true, beq_iff_eq, Bool.or_false] at h
  exact h
theorem kitB_ok {T : String} (h : okTy T = true) (d : D) : kitB (tyN d) T = some (isTy T d) := by
  have m : tyN d ∈ ["NoneType", "bool", "int", "str", "list", "tuple", "dict"] := by cases d <;> simp [tyN]
  unfold isTy
  generalize tyN d = s at m
  revert s
  rcases okTy_mem h with rfl | rfl | rfl | rfl | rfl | rfl <;> decide +kernel
/-- the type of what is looked at; a locked dict too -/
inductive TyD (K : PySem.W.Frag) (H : Hp) : V → String → Prop where
  | x {v : V} {T : String} (h : TyX K H v (.type T)) : TyD K H v T
  | fT {a : Addr} {o : Obj} {kvs : List (List Key × V)} (e : H a = some (.frz o (.dT kvs))) : TyD K H (.ref a) "dict"
theorem RVp.ty {K : PySem.W.Frag} {P : Pr} {H : Hp} {d : D} {v : V} (h : RVp K P H d v) : TyD K H v (tyN d) := by
  have l : ∀ {a : Addr} {vs : List V}, Rd H a (.lst vs) → TyD K H (.ref a) "list" := fun {a vs} h => by
    rcases h with h | ⟨o, h⟩
    · exact .x (.base (.lst h))
    · exact .x (.base (.frz h))
  have k : ∀ {a : Addr} {vs : List (Key × V)}, Rd H a (.dK vs) → TyD K H (.ref a) "dict" := fun {a vs} h => by
    rcases h with h | ⟨o, h⟩
    · exact .x (.base (.dK h))
    · exact .x (.fDict h)
  have t : ∀ {a : Addr} {vs : List (List Key × V)}, Rd H a (.dT vs) → TyD K H (.ref a) "dict" := fun {a vs} h => by
    rcases h with h | ⟨o, h⟩
    · exact .x (.base (.dT h))
    · exact .fT h
  cases h with
  | of h =>
    cases h with
    | non => exact .x (.base .non)
    | bl b => exact .x (.base (.bl b))
    | int b => exact .x (.base (.int b))
    | str b => exact .x (.base (.str b))
    | tup h r => exact .x (.base (.tup h.1))
    | lst n h r => exact l h
    | lstK h r =>
      rcases h (fun _ => none) with (z | ⟨o, z⟩) | ⟨o, its, n, e, c, _⟩
      · cases z
      · cases z
      · exact .x (.kList e c)
    | dK n h r => exact k h
    | dT n h r => exact t h
  | lst h r => exact l h
  | dK h r => exact k h
  | dT h r => exact t h
theorem kit_ofD {X : Cx} {pins : List (Addr × Obj)} {σ : L2.St} {H : Hp} {s : Shared} {x : V} {u : Value} {T : String} (I : Inv X pins σ H s) (rx : RelV x u) (ty : TyD X.K H x T) : ∃ P : Heap → Prop, PySem.W.KitX X.K u (.type T) P ∧ P s.heap ∧ u ≠ .builtin "__main__.__loader__#opaque" := by
  cases ty with
  | x h => exact kit_of I rx h
  | @fT a ob kvs ea =>
    cases (show u = Value.ref a from rx)
    obtain ⟨_, _, _, xs, _, o, es, ep, h1, h2, _⟩ := (show ObjOk X.prog X.w H s.heap a (.frz ob (.dT kvs)) from I.hok a _ ea)
    exact ⟨_, PySem.W.kitx_dict, ⟨o, h1, h2.1⟩, fun z => nomatch z⟩
def rIsiD (K : PySem.W.Frag) : List V → Hp → VK → Prop := fun xs H Q => ∃ (x : V) (T U : String) (b : Bool), xs = [x, .ty U] ∧ TyD K H x T ∧ kitB T U = some b ∧ Q (.bl b) H
def rIsiDT (K : PySem.W.Frag) : List V → Hp → VK → Prop := fun xs H Q => ∃ (x : V) (T : String) (tp : Addr) (Us : List String) (b : Bool), xs = [x, .ref tp] ∧ H tp = some (.tup (Us.map V.ty)) ∧ TyD K H x T ∧ PySem.W.kitAny K (.type T) (Us.map Value.type) = some b ∧ Q (.bl b) H
theorem cls_all : ∀ {Us : List String} {ws : List Value}, Vals (Us.map V.ty) ws → ws = Us.map Value.type
  | [], _, .nil => rfl
  | U :: Us, _, .cons r t => by
    rw [List.map_cons, cls_all t]
    exact congrArg (· :: _) r
theorem call_isiD {X : Cx} : CallR X (.builtin "isinstance") (rIsiD X.K) := by
  intro pins s σ H xs us Q I r h
  obtain ⟨x, T, U, b, rfl, ty, e, q⟩ := h
  obtain ⟨u1, u2, rfl, r1, r2⟩ := vals2 r
  obtain rfl : u2 = Value.type U := r2
  obtain ⟨P, Z, p, hx⟩ := kit_ofD I r1 ty
  exact PySem.W.kia_one Z I.kIn p (kit_ty e) hx fun tk => ⟨.bl b, H, I.tok tk, rfl, q⟩
theorem call_isiDT {X : Cx} : CallR X (.builtin "isinstance") (rIsiDT X.K) := by
  intro pins s σ H xs us Q I r h
  obtain ⟨x, T, tp, Us, b, rfl, hT, ty, e, q⟩ := h
  obtain ⟨u1, u2, rfl, r1, r2⟩ := vals2 r
  obtain rfl : u2 = Value.ref tp := r2
  obtain ⟨P, Z, p, hx⟩ := kit_ofD I r1 ty
  obtain ⟨_, its, rv, o, h1, h2, n, h3⟩ := (show ObjOk X.prog X.w H s.heap tp (.tup (Us.map V.ty)) from I.hok tp _ hT)
  have e3 := cls_all rv
  subst e3
  obtain ⟨oc, od, dt, sl⟩ := o
  simp only at h2 h3
  subst h2 h3
  exact PySem.W.kia_tup Z I.kIn p h1 e hx fun tk => ⟨.bl b, H, I.tok tk, rfl, q⟩
theorem kitAny_ok {K : PySem.W.Frag} {d : D} : ∀ {Us : List String}, Us.all okTy = true → PySem.W.kitAny K (.type (tyN d)) (Us.map Value.type) = some (Us.any fun U => isTy U d)
  | [], _ => kitAny_nil
  | U :: Us, h => by
    rw [List.all_cons, Bool.and_eq_true] at h
    rw [List.map_cons, List.any_cons]
    refine kitAny_cons (kit_ty (kitB_ok h.1 d)) (fun z => ?_) (fun z => ?_)
    · rw [z, Bool.false_or]
      exact kitAny_ok h.2
    · rw [z, Bool.true_or]
/-- isinstance(x, T), isinstance(x, (T, U, ..)) -/
def mIsi (Us : List String) (a : EM) : EM := mUn (fun d => some (.bool (Us.any fun U => isTy U d))) a
section
variable {X : Cx} {c : Call} {e : Expr} {p p1 p2 p3 pos : Pos} {me : EM} {x T : Str} {U U2 : String}
/-- a built-in type as an argument -/
structure TyArg (X : Cx) (x : Str) (U : String) : Prop where
  gl : Gl X x
  mg : X.mg x = none
  bt : bootBuiltins x = some (.type U)
  ok : okTy U = true
  nn : x ≠ "__name__"
  nd : (x == ("__debug__" : Str)) = false
theorem pe_ty (h : TyArg X x U) : PE X (.Name x p) (tC (.ty U)) := pe_bltn h.gl h.mg h.bt (by rfl) h.nn h.nd
theorem pe_isiM {tn : Str} (hg : Gl X "isinstance") (hm : X.mg "isinstance" = none) (he : PE X e (tE X.K c me)) (ht : TyArg X tn U) (h1 : starEach [e, .Name tn p1] X.env = (false, eval e X.env) :: starEach [.Name tn p1] X.env) :
    PE X (.Call (.Name "isinstance" p) [e, .Name tn p1] [] pos) (tE X.K c (mIsi [U] me)) := by
  refine pe_imp (pe_callB (t := tCons (tE X.K c me) (tCons (tC (.ty U)) tNil)) call_isiD hg hm (by decide +kernel) (pa_cons he (pa_cons (pe_ty ht) pa_nil) h1) (by decide) (by decide) h1 (by rfl)) fun σ H Q h => ?_
  obtain ⟨os, f, ρ, M, R, z, M', e, q⟩ := h
  replace e := bnd_ok e
  obtain ⟨x, M1, e1, e⟩ := e
  replace e := bnd_ok e
  obtain ⟨d, M2, e2, e⟩ := e
  replace e := bnd_ok e
  obtain ⟨d2, M3, e3, e⟩ := e
  replace e3 := liftO_ok e3
  obtain ⟨e3, rfl⟩ := e3
  replace e2 := pk_ok e2
  obtain ⟨e2, rfl⟩ := e2
  cases e
  cases e3
  refine ⟨os, f, ρ, M, R, x, _, e1, fun vx f1 H1 F1 rx => ?_⟩
  have rp := peek_ok F1.rel rx e2
  refine ⟨vx, tyN d, U, isTy U d, rfl, rp.ty, kitB_ok ht.ok d, q _ f1 H1 F1 ?_⟩
  rw [List.any_cons, List.any_nil, Bool.or_false]
  exact .bl _
theorem pe_isi2M {tn tn2 : Str} {k : Nat} (hg : Gl X "isinstance") (hm : X.mg "isinstance" = none) (he : PE X e (tE X.K c me)) (ht : TyArg X tn U) (ht2 : TyArg X tn2 U2)
    (h1 : starEach [e, .Tuple [.Name tn p1, .Name tn2 p2] k p3] X.env = (false, eval e X.env) :: starEach [.Tuple [.Name tn p1, .Name tn2 p2] k p3] X.env) :
    PE X (.Call (.Name "isinstance" p) [e, .Tuple [.Name tn p1, .Name tn2 p2] k p3] [] pos) (tE X.K c (mIsi [U, U2] me)) := by
  refine pe_imp (pe_callB (t := tCons (tE X.K c me) (tCons (tTup (tCons (tC (.ty U)) (tCons (tC (.ty U2)) tNil))) tNil)) call_isiDT hg hm (by decide +kernel) (pa_cons he (pa_cons (pe_tup (pa_cons (pe_ty ht) (pa_cons (pe_ty ht2) pa_nil))) pa_nil) h1) (by decide) (by decide) h1 (by rfl)) fun σ H Q h => ?_
  obtain ⟨os, f, ρ, M, R, z, M', e, q⟩ := h
  replace e := bnd_ok e
  obtain ⟨x, M1, e1, e⟩ := e
  replace e := bnd_ok e
  obtain ⟨d, M2, e2, e⟩ := e
  replace e := bnd_ok e
  obtain ⟨d2, M3, e3, e⟩ := e
  replace e3 := liftO_ok e3
  obtain ⟨e3, rfl⟩ := e3
  replace e2 := pk_ok e2
  obtain ⟨e2, rfl⟩ := e2
  cases e
  cases e3
  refine ⟨os, f, ρ, M, R, x, _, e1, fun vx f1 H1 F1 rx => ?_⟩
  refine ⟨by show 2 ≤ sizeLine; decide, fun tp hp => ?_⟩
  have F2 := Fin.laid (o := .tup [.ty U, .ty U2]) F1.rel hp
  have rp := peek_ok F2.rel (rx.fin F2) e2
  refine ⟨vx, tyN d, tp, [U, U2], [U, U2].any fun U => isTy U d, rfl, upd_same, rp.ty, kitAny_ok (by rw [List.all_cons, List.all_cons, ht.ok, ht2.ok]; rfl), q _ f1 _ (F1.trans F2) (.bl _)⟩
end

/-! ### in -/
def gIn (neg : Bool) : D → D → Option D
  | d, .list ds => if (SeqAt.shaped d && SeqAt.shaped (.list ds) && noD d && noDs ds) = true then some (.bool ((ds.any fun z => PyData.eqv z d) != neg)) else none
  | d, .tuple ds => if (SeqAt.shaped d && SeqAt.shaped (.tuple ds) && noD d && noDs ds) = true then some (.bool ((ds.any fun z => PyData.eqv z d) != neg)) else none
  | _, _ => none
def rInA (K : PySem.W.Frag) (neg : Bool) : R2 := fun x y H Q => ∃ d ds, Dp K H x d ∧ (Dp K H y (.list ds) ∨ Dp K H y (.tuple ds)) ∧ SeqAt.shaped d = true ∧ SeqAt.shaped (.list ds) = true ∧ Q (.bl ((ds.any fun z => PyData.eqv z d) != neg)) H
theorem shaped_tl (ds : List D) : SeqAt.shaped (.tuple ds) = SeqAt.shaped (.list ds) := by
  unfold SeqAt.shaped
  rw [PyData.canLay0, PyData.canLay0, PyData.depth, PyData.depth]
theorem op_inA {X : Cx} (hu : X.A.units + 65 < cLine) : OpR X (compareOp .In) (rInA X.K false) := by
  intro pins s σ H x y v u Q I rx ry h
  obtain ⟨d, ds, hd, he, sd, se, q⟩ := h
  obtain ⟨as, r1⟩ := Dp.reads I d x v hd rx
  rcases he with he | he
  · obtain ⟨bs, r2⟩ := Dp.reads I (.list ds) y u he ry
    exact SeqAt.in_list_reads r2 r1 (SeqAt.canLay_of_shaped se) (SeqAt.canLay_of_shaped sd) (PyProof.Rows.room_in_shaped sd hu) ⟨.bl _, H, I, rfl, by rw [Bool.bne_false] at q; exact q⟩
  · obtain ⟨bs, r2⟩ := Dp.reads I (.tuple ds) y u he ry
    exact SeqAt.in_tuple_reads r2 r1 (SeqAt.canLay_of_shaped se) (SeqAt.canLay_of_shaped sd) (PyProof.Rows.room_in_shaped sd hu) ⟨.bl _, H, I, rfl, by rw [Bool.bne_false] at q; exact q⟩
theorem op_notInA {X : Cx} (hu : X.A.units + 65 < cLine) : OpR X (compareOp .NotIn) (rInA X.K true) := by
  intro pins s σ H x y v u Q I rx ry h
  obtain ⟨d, ds, hd, he, sd, se, q⟩ := h
  obtain ⟨as, r1⟩ := Dp.reads I d x v hd rx
  rcases he with he | he
  · obtain ⟨bs, r2⟩ := Dp.reads I (.list ds) y u he ry
    exact SeqAt.notIn_list_reads r2 r1 (SeqAt.canLay_of_shaped se) (SeqAt.canLay_of_shaped sd) (PyProof.Rows.room_in_shaped sd hu) ⟨.bl _, H, I, rfl, by rw [Bool.bne_true] at q; exact q⟩
  · obtain ⟨bs, r2⟩ := Dp.reads I (.tuple ds) y u he ry
    exact SeqAt.notIn_tuple_reads r2 r1 (SeqAt.canLay_of_shaped se) (SeqAt.canLay_of_shaped sd) (PyProof.Rows.room_in_shaped sd hu) ⟨.bl _, H, I, rfl, by rw [Bool.bne_true] at q; exact q⟩
theorem od_in {K : PySem.W.Frag} {neg : Bool} : OpD K (rInA K neg) (gIn neg) := by
  intro os f ρ M σ H d e z x y Q R rx ry h q
  unfold gIn at h
  split at h
  · rename_i ds
    split at h
    · rename_i hc
      cases h
      simp only [Bool.and_eq_true] at hc
      exact ⟨d, ds, rx.dp hc.1.2, .inl (ry.dp (by simpa [noD] using hc.2)), hc.1.1.1, hc.1.1.2, q _ H (Fin.refl R) (.bl _)⟩
    · cases h
  · rename_i ds
    split at h
    · rename_i hc
      cases h
      simp only [Bool.and_eq_true] at hc
      exact ⟨d, ds, rx.dp hc.1.2, .inr (ry.dp (by simpa [noD] using hc.2)), hc.1.1.1, by rw [← shaped_tl]; exact hc.1.1.2, q _ H (Fin.refl R) (.bl _)⟩
    · cases h
  · cases h

/-! ### products, negation -/
def rMulA (K : PySem.W.Frag) : R2 := fun x y H Q => rI CMul (fun i j => .int (i * j)) x y H Q ∨ rRepT K x y H Q
theorem od_mul {K : PySem.W.Frag} : OpD K (rMulA K) gMul := by
  intro os f ρ M σ H d e z x y Q R rx ry h q
  unfold gMul at h
  split at h
  · split at h
    · rename_i hc
      cases h
      exact .inl ⟨_, _, rx.int, ry.int, CMulW.of_small hc, q _ H (Fin.refl R) (.int _)⟩
    · cases h
  · rename_i ds k
    split at h
    · rename_i hc
      cases h
      obtain ⟨a, vs, rfl, t, r⟩ := rx.tup
      have hc := of_decide_eq_true hc
      have hl := r.length
      refine .inr ⟨a, k, vs, rfl, ry.int, t.sq, fun e => ?_, hc.2.1, hc.2.2.1, by rw [← hl]; exact hc.2.2.2, fun p hp => ?_⟩
      · subst e
        cases r
        exact hc.1 rfl
      · have F := Fin.laid (o := .tup (List.replicate k.toNat vs).flatten) R hp
        refine q _ _ F (.tup ⟨upd_same, R.free hp⟩ ?_)
        have r' := r.step F.st (os := os)
        generalize upd H p (HO.tup (List.replicate k.toNat vs).flatten) = H2 at r'
        generalize k.toNat = n
        induction n with
        | zero => exact .nil
        | succ n ih =>
          rw [List.replicate_succ, List.replicate_succ, List.flatten_cons, List.flatten_cons]
          exact r'.append ih
    · cases h
  · cases h
def gNeg : D → Option D
  | .int i => some (.int (-i))
  | _ => none
theorem ud_neg {K : PySem.W.Frag} : UnD K (rU fun i => .int (-i)) gNeg := by
  intro os f ρ M σ H d z x Q R rx h q
  unfold gNeg at h
  split at h
  · cases h
    exact ⟨_, rx.int, q _ H (Fin.refl R) (.int _)⟩
  · cases h

/-! ### slices -/
def cutD (xs : List D) (lo hi : Option Int) : List D := (xs.drop (HT.sIx xs.length 0 lo)).take (HT.sIx xs.length xs.length hi - HT.sIx xs.length 0 lo)
abbrev OM := Mm (Option Int)
def mNoO : OM := fun _ _ M => some (none, M)
def intD : D → Option Int
  | .int i => some i
  | _ => none
def mSomeO (a : EM) : OM := bnd a fun x => bnd (pk x) fun d => bnd (liftO (intD d)) fun i _ _ M => some (some i, M)
def gSl (lo hi : Option Int) : D → Option D
  | .tuple ds => some (.tuple (cutD ds lo hi))
  | .list ds => some (.list (cutD ds lo hi))
  | .str x => if x.length ≤ lim then some (.str (cutS x lo hi)) else none
  | _ => none
def mSl (a : EM) (lo hi : OM) : EM := bnd a fun x => bnd lo fun l => bnd hi fun h => bnd (pk x) fun d => bnd (liftO (gSl l h d)) fun z _ _ M => some (.d z, M)
def tO (K : PySem.W.Frag) (c : Call) (m : OM) : TO := fun σ H Q => ∃ os f ρ M, Rel K os f ρ M σ H ∧ ∃ x M', m c ρ M = some (x, M') ∧ ∀ f' H', Fin K os f ρ σ H f' M' H' → Q x H'
theorem cut_rv {K : PySem.W.Frag} {P : Pr} {H : Hp} {ds : List D} {vs : List V} (r : RVs K P H ds vs) (lo hi : Option Int) : RVs K P H (cutD ds lo hi) (cutV vs lo hi) := by
  unfold cutD cutV
  rw [r.length]
  exact (r.drop _).take _
section
variable {X : Cx} {c : Call} {e : Expr} {p2 pos : Pos} {me : EM} {lo hi : Option Expr} {ml mh : OM}
theorem po_noneM : PO X none (tO X.K c mNoO) := ⟨fun pins s σ H Q I h => by
  obtain ⟨os, f, ρ, M, R, x, M', e, q⟩ := h
  cases e
  exact po_none.run pins s σ H Q I (q f H (Fin.refl R))⟩
theorem po_someM (h : PE X e (tE X.K c me)) : PO X (some e) (tO X.K c (mSomeO me)) := ⟨fun pins s σ H Q I hh => by
  refine (po_some h).run pins s σ H Q I ?_
  obtain ⟨os, f, ρ, M, R, z, M', e, q⟩ := hh
  replace e := bnd_ok e
  obtain ⟨x, M1, e1, e⟩ := e
  replace e := bnd_ok e
  obtain ⟨d, M2, e2, e⟩ := e
  replace e := bnd_ok e
  obtain ⟨d2, M3, e3, e⟩ := e
  replace e3 := liftO_ok e3
  obtain ⟨e3, rfl⟩ := e3
  replace e2 := pk_ok e2
  obtain ⟨e2, rfl⟩ := e2
  cases e
  refine ⟨os, f, ρ, M, R, x, _, e1, fun vx f1 H1 F1 rx => ?_⟩
  have rp := peek_ok F1.rel rx e2
  unfold intD at e3
  split at e3
  · cases e3
    exact ⟨_, rp.int, q f1 H1 F1⟩
  · cases e3⟩
def rSlX (K : PySem.W.Frag) : V → Option Int → Option Int → Hp → VK → Prop := fun x lo hi H Q => rSlA K x lo hi H Q ∨ (rSlL K x lo hi H Q ∨ rSlS x lo hi H Q)
theorem cut_whole (ds : List D) (lo hi : Option Int) (h : HT.sIx ds.length 0 lo = 0 ∧ HT.sIx ds.length ds.length hi = ds.length) : cutD ds lo hi = ds := by
  unfold cutD
  rw [h.1, h.2, List.drop_zero, Nat.sub_zero, List.take_length]
theorem sl_imp {K : PySem.W.Frag} : ∀ σ H Q, tE K c (mSl me ml mh) σ H Q → tSl (rSlX K) (tE K c me) (tO K c ml) (tO K c mh) σ H Q := fun σ H Q h => by
  obtain ⟨os, f, ρ, M, R, z, M', e, q⟩ := h
  replace e := bnd_ok e
  obtain ⟨x, M1, e1, e⟩ := e
  replace e := bnd_ok e
  obtain ⟨l, M2, e2, e⟩ := e
  replace e := bnd_ok e
  obtain ⟨hh, M3, e3, e⟩ := e
  replace e := bnd_ok e
  obtain ⟨d, M4, e4, e⟩ := e
  replace e := bnd_ok e
  obtain ⟨z2, M5, e5, e⟩ := e
  replace e5 := liftO_ok e5
  obtain ⟨e5, rfl⟩ := e5
  replace e4 := pk_ok e4
  obtain ⟨e4, rfl⟩ := e4
  cases e
  refine ⟨os, f, ρ, M, R, x, _, e1, fun vx f1 H1 F1 rx => ?_⟩
  refine ⟨os, f1, ρ, _, F1.rel, l, _, e2, fun f2 H2 F2 => ?_⟩
  refine ⟨os, f2, ρ, _, F2.rel, hh, _, e3, fun f3 H3 F3 => ?_⟩
  have F := (F1.trans F2).trans F3
  have rp := peek_ok F3.rel ((rx.fin F2).fin F3) e4
  unfold gSl at e5
  split at e5
  · cases e5
    obtain ⟨a, vs, rfl, t, r⟩ := rp.tup
    refine .inl ⟨a, vs, rfl, t.sq, fun hw => ?_, fun hw p hp => ?_⟩
    · refine q _ f3 H3 F (.tup t ?_)
      rw [cut_whole _ _ _ (by rw [r.length]; exact hw)]
      exact r
    · have F4 := Fin.laid (o := .tup (cutV vs l hh)) F3.rel hp
      exact q _ f3 _ (F.trans F4) (.tup ⟨upd_same, F3.rel.free hp⟩ ((cut_rv r l hh).step F4.st))
  · cases e5
    obtain ⟨a, vs, rfl, t, r⟩ := rp.list
    refine .inr (.inl ⟨a, vs, rfl, t, fun p hp => ?_⟩)
    obtain ⟨F5, r5⟩ := (FinL.ofO (F := F) hp (mo := .lst (cutD _ l hh)) ⟨cutV vs l hh, upd_same, (cut_rv r l hh).addP hp⟩).rv R
    exact q _ f3 _ F5 r5
  · split at e5
    · rename_i hl
      cases e5
      exact .inr (.inr ⟨_, rp.str, lim_le hl, q _ f3 H3 F (.str _)⟩)
    · cases e5
  · cases e5
theorem pe_slM (he : PE X e (tE X.K c me)) (hl : PO X lo (tO X.K c ml)) (hh : PO X hi (tO X.K c mh)) : PE X (.Subscript e (.Slice lo hi none p2) pos) (tE X.K c (mSl me ml mh)) := pe_imp (pe_slice (sl_tupA.or (sl_list.or sl_str)) he hl hh) sl_imp
end

/-! ### list(range(..)), tuple(range(..)) -/
abbrev RM := Mm (Int × Int)
def mRg1 (a : EM) : RM := bnd a fun x => bnd (pk x) fun d => bnd (liftO (intD d)) fun i _ _ M => some ((0, i), M)
def mRg2 (a b : EM) : RM := bnd a fun x => bnd b fun y => bnd (pk x) fun d => bnd (pk y) fun e => bnd (liftO (intD d)) fun i => bnd (liftO (intD e)) fun j _ _ M => some ((i, j), M)
def rgD (a b : Int) : List D := (List.range (b - a).toNat).map fun i => .int (a + (i : Nat))
def okRg (a b : Int) : Bool := decide (-1000000000000 ≤ a ∧ a ≤ 1000000000000 ∧ -1000000000000 ≤ b ∧ b ≤ 1000000000000)
def mLstRg (m : RM) : LM := bnd m fun r => if (okRg r.1 r.2 && decide ((r.2 - r.1).toNat ≤ lim)) = true then fun _ _ M => some (rgD r.1 r.2, M) else fun _ _ _ => none
def tR (K : PySem.W.Frag) (c : Call) (m : RM) : L2.St → Hp → (Int → Int → Hp → Prop) → Prop := fun σ H Q => ∃ os f ρ M, Rel K os f ρ M σ H ∧ ∃ x M', m c ρ M = some (x, M') ∧ ∀ f' H', Fin K os f ρ σ H f' M' H' → Q x.1 x.2 H'
theorem rg_rv {K : PySem.W.Frag} {P : Pr} {H : Hp} (a b : Int) : RVs K P H (rgD a b) (rgV a b) := by
  unfold rgD rgV
  induction List.range (b - a).toNat with
  | nil => exact .nil
  | cons i r ih => exact .cons (.int _) ih
theorem intD_eq {d : D} {i : Int} (h : intD d = some i) : d = .int i := by cases d <;> first | (cases h; rfl) | cases h
section
variable {X : Cx} {c : Call} {e e2 : Expr} {p pos : Pos} {me me2 : EM} {m : RM}
theorem rg1_imp {K : PySem.W.Frag} : ∀ σ H Q, tR K c (mRg1 me) σ H Q → tRg1 (tE K c me) σ H Q := fun σ H Q h => by
  obtain ⟨os, f, ρ, M, R, z, M', e, q⟩ := h
  replace e := bnd_ok e
  obtain ⟨x, M1, e1, e⟩ := e
  replace e := bnd_ok e
  obtain ⟨d, M2, e2, e⟩ := e
  replace e := bnd_ok e
  obtain ⟨d2, M3, e3, e⟩ := e
  replace e3 := liftO_ok e3
  obtain ⟨e3, rfl⟩ := e3
  replace e2 := pk_ok e2
  obtain ⟨e2, rfl⟩ := e2
  cases e
  refine ⟨os, f, ρ, M, R, x, _, e1, fun vx f1 H1 F1 rx => ?_⟩
  have rp := peek_ok F1.rel rx e2
  rw [intD_eq e3] at rp
  exact ⟨_, rp.int, q f1 H1 F1⟩
theorem rg2_imp {K : PySem.W.Frag} : ∀ σ H Q, tR K c (mRg2 me me2) σ H Q → tRg2 (tE K c me) (tE K c me2) σ H Q := fun σ H Q h => by
  obtain ⟨os, f, ρ, M, R, z, M', e, q⟩ := h
  replace e := bnd_ok e
  obtain ⟨x, M1, e1, e⟩ := e
  replace e := bnd_ok e
  obtain ⟨y, M2, e2, e⟩ := e
  replace e := bnd_ok e
  obtain ⟨d, M3, e3, e⟩ := e
  replace e := bnd_ok e
  obtain ⟨d2, M4, e4, e⟩ := e
  replace e := bnd_ok e
  obtain ⟨i, M5, e5, e⟩ := e
  replace e := bnd_ok e
  obtain ⟨j, M6, e6, e⟩ := e
  replace e6 := liftO_ok e6
  obtain ⟨e6, rfl⟩ := e6
  replace e5 := liftO_ok e5
  obtain ⟨e5, rfl⟩ := e5
  replace e4 := pk_ok e4
  obtain ⟨e4, rfl⟩ := e4
  replace e3 := pk_ok e3
  obtain ⟨e3, rfl⟩ := e3
  cases e
  refine ⟨os, f, ρ, M, R, x, _, e1, fun vx f1 H1 F1 rx => ?_⟩
  refine ⟨os, f1, ρ, _, F1.rel, y, _, e2, fun vy f2 H2 F2 ry => ?_⟩
  have r1 := peek_ok F2.rel (rx.fin F2) e3
  have r2 := peek_ok F2.rel ry e4
  rw [intD_eq e5] at r1
  rw [intD_eq e6] at r2
  exact ⟨_, _, r1.int, r2.int, q f2 H2 (F1.trans F2)⟩
theorem prg_imp {t t' : L2.St → Hp → (Int → Int → Hp → Prop) → Prop} (h : PRg X e t) (i : ∀ σ H Q, t' σ H Q → t σ H Q) : PRg X e t' := fun pins s σ H Q I q => h pins s σ H Q I (i σ H Q q)
theorem prg1M (hg : Gl X "range") (hm : X.mg "range" = none) (ha : PE X e (tE X.K c me)) (na : starEach [e] X.env = (false, eval e X.env) :: starEach [] X.env) : PRg X (.Call (.Name "range" p) [e] [] pos) (tR X.K c (mRg1 me)) := prg_imp (prg_1 hg hm ha na) rg1_imp
theorem pe_lrgM (hc : X.calm = true) (hg : Gl X "list") (hm : X.mg "list" = none) (he : PRg X e (tR X.K c m)) (na : starEach [e] X.env = (false, eval e X.env) :: starEach [] X.env) : PE X (.Call (.Name "list" p) [e] [] pos) (tL X.K c (mLstRg m)) := pe_imp (pe_listRg hc hg hm he na) fun σ H Q h => by
  obtain ⟨os, f, ρ, M, R, z, M', e, q⟩ := h
  replace e := bnd_ok e
  obtain ⟨x, M1, e1, e⟩ := e
  split at e
  · rename_i hc
    cases e
    simp only [Bool.and_eq_true, okRg, decide_eq_true_eq] at hc
    have hl : (x.2 - x.1).toNat ≤ 2 ^ 24 := Nat.le_trans hc.2 (by decide)
    refine ⟨os, f, ρ, M, R, x, _, e1, fun f1 H1 F1 => ⟨⟨by omega, by omega, by omega, by omega, hl⟩, fun p hp => ?_⟩⟩
    exact q p f1 _ (FinL.ofO F1 hp ⟨_, upd_same, (rg_rv _ _).addP hp⟩)
  · cases e
end
end DL
set_option Elab.async false
set_option linter.all false
set_option maxRecDepth 100000
set_option maxHeartbeats 4000000
/-! contexts, calls, what is walked, comprehensions -/
namespace DL
open PySem L2

/-! ### contexts, names -/
structure CtxOk (X : Cx) (sc fs : Scope) (N : List Str) : Prop where
  scope : X.env.scope = sc
  names : X.N = N
  calm : X.calm = true
  nd : N.Nodup
  kind : sc.kind = .function
  fn : ∀ x, fs.names.lookup x = some .cell → X.fn x = true
  po : PassesOwn (model X.prog X.w) X.A X.env X.xe
def visC (sc : Scope) (x : Str) : Bool := match sc.names.lookup x with
  | some .local => true
  | some .cell => true
  | some .free => true
  | _ => false
def nmC (sc : Scope) (N : List Str) (i : Nat) (x : Str) : Bool := visC sc x && (N[i]? == some x) && !(x == ("__debug__" : Str)) && !(x == ("__classdict__" : Str))
def glC (sc : Scope) (x : Str) : Bool := (sc.names.lookup x == some .globalImplicit) && !(x == ("__debug__" : Str)) && !(x == ("__name__" : Str))
theorem visC_ok {sc : Scope} {x : Str} (h : visC sc x = true) : Vis sc x := by
  unfold visC at h
  split at h
  · exact .inl ‹_›
  · exact .inr (.inl ‹_›)
  · exact .inr (.inr ‹_›)
  · cases h
section
variable {X : Cx} {sc fs : Scope} {N : List Str} {c : Call} {i : Nat} {x : Str} {p pos : Pos}
theorem pe_nm (h : CtxOk X sc fs N) (e : nmC sc N i x = true) : PE X (.Name x pos) (tE X.K c (mVar i)) := by
  simp only [nmC, Bool.and_eq_true, Bool.not_eq_true', beq_iff_eq] at e
  exact pe_varM (by rw [h.names]; exact e.1.1.2) (by rw [h.scope]; exact visC_ok e.1.1.1) e.1.2 e.2
structure GlOk (X : Cx) (x : Str) : Prop where
  gl : Gl X x
  nd : (x == ("__debug__" : Str)) = false
  nn : x ≠ "__name__"
theorem CtxOk.gl (h : CtxOk X sc fs N) (e : glC sc x = true) : GlOk X x := by
  simp only [glC, Bool.and_eq_true, Bool.not_eq_true', beq_iff_eq] at e
  refine ⟨?_, e.1.2, fun z => ?_⟩
  · show X.env.scope.names.lookup x = some .globalImplicit
    rw [h.scope]
    exact e.1.1
  · rw [z] at e
    exact absurd e.2 (by decide)
end

/-! ### calls of defs -/
/-- what a def promises: to answer as c's i-th does -/
def spF (K : PySem.W.Frag) (np : Nat) (c : Call) (i : Nat) : Sp := fun vs H Q _ => vs.length = np ∧ ∃ os f M as x M', Rel K os f [] M [] H ∧ AOks K (Pu os (Wr f [] [])) f [] H as vs ∧ c i as M = some (x, M') ∧
  ∀ v f' H', Fin K os f [] [] H f' M' H' → AOk K (Pu os (Wr f' [] [])) f' [] H' x v → Q v H'
section
variable {K : PySem.W.Frag} {os : Pr} {f f1 : List Addr} {ρ : List Slot} {M M1 : List MO} {σ : L2.St} {H H1 : Hp}
/-- what the caller holds as its own, besides -/
def heldBy (os : Pr) (ρ : List Slot) (σ : L2.St) : Pr := fun a => os a ∨ ∃ i, OwnI ρ σ i a
theorem no_own {i : Nat} {a : Addr} : ¬ OwnI [] [] i a := fun ⟨⟨s, e, _⟩, _⟩ => by simp at e
theorem wr_nil {f : List Addr} {a : Addr} : Wr f [] [] a ↔ a ∈ f := ⟨fun h => h.elim id fun ⟨i, h⟩ => (no_own h).elim, .inl⟩
theorem held_eq {f : List Addr} {a : Addr} : Pu (heldBy os ρ σ) (Wr f [] []) a ↔ Pu os (Wr f ρ σ) a := by
  constructor
  · rintro ((h | h) | h)
    · exact .inl h
    · exact .inr (.inr h)
    · exact .inr (.inl (wr_nil.mp h))
  · rintro (h | h | h)
    · exact .inl (.inl h)
    · exact .inr (wr_nil.mpr h)
    · exact .inl (.inr h)
/-- the store alone, as a callee takes it -/
theorem Rel.call (R : Rel K os f ρ M σ H) : Rel K (heldBy os ρ σ) f [] M [] H := by
  have l : Less (Pu (heldBy os ρ σ) (Wr f [] [])) (Pu os (Wr f ρ σ)) := fun a m => held_eq.mp m
  refine ⟨rfl, fun i s e => by simp at e, R.fl, R.nd, fun i mo e => ?_, fun i j a h => (no_own h).elim, fun i a h => (no_own h).elim, fun a m z => ?_, fun a m => ?_⟩
  · obtain ⟨a, e1, q⟩ := R.ob i mo e
    exact ⟨a, e1, q.less l⟩
  · rcases z with z | ⟨i, z⟩
    · exact R.o3 a m z
    · exact (R.o2 i a z).1 m
  · rcases m with m | ⟨i, m⟩
    · exact R.o4 a m
    · exact R.there (.inr ⟨i, m⟩)
/-- .. and gives it back -/
theorem Fin.back (R : Rel K os f ρ M σ H) (F : Fin K (heldBy os ρ σ) f [] [] H f1 M1 H1) : Fin K os f ρ σ H f1 M1 H1 := by
  have st : Step (Wr f ρ σ) H (Wr f1 ρ σ) H1 := by
    refine ⟨fun a o h n => F.st.keep a o h fun z => n (.inl (wr_nil.mp z)), fun a m => ?_⟩
    rcases m with m | m
    · rcases F.st.new a (wr_nil.mpr m) with z | z
      · exact .inl (.inl (wr_nil.mp z))
      · exact .inr z
    · exact .inl (.inr m)
  have own_at : ∀ {i a}, OwnI ρ σ i a → H1 a = H a := fun {i a} m => by
    obtain ⟨o, e⟩ := R.there (.inr ⟨i, m⟩)
    rw [F.st.keep a o e fun z => (R.o2 i a m).1 (wr_nil.mp z), e]
  refine ⟨st, ⟨R.len, fun i s e n => ?_, F.rel.fl, F.rel.nd, fun i mo e => ?_, R.o1, fun i a h => ⟨fun m => F.rel.o3 a m (.inr ⟨i, h⟩), (R.o2 i a h).2⟩, fun a m z => F.rel.o3 a m (.inl z), fun a m => F.rel.o4 a (.inl m)⟩, F.pre⟩
  · obtain ⟨v, e1, q⟩ := R.sl i s e n
    refine ⟨v, e1, ?_⟩
    cases s with
    | un => exact q
    | d x => exact RV.step st q
    | r k =>
      obtain ⟨a, e2, q⟩ := q
      exact ⟨a, e2, F.pre k a q⟩
    | ol xs =>
      obtain ⟨a, e2, q⟩ := q
      subst e2
      exact ⟨a, rfl, q.step st (own_at ⟨⟨_, e, rfl⟩, e1⟩)⟩
    | od t xs =>
      obtain ⟨a, e2, q⟩ := q
      subst e2
      exact ⟨a, rfl, q.step st (own_at ⟨⟨_, e, rfl⟩, e1⟩)⟩
  · obtain ⟨a, e1, q⟩ := F.rel.ob i mo e
    exact ⟨a, e1, q.less fun b m => held_eq.mpr m⟩
theorem AOks.call : ∀ {as : List Vl} {vs : List V}, as.all (fun a => match a with | .v _ => false | _ => true) = true → AOks K (Pu os (Wr f ρ σ)) f σ H as vs → AOks K (Pu (heldBy os ρ σ) (Wr f [] [])) f [] H as vs
  | [], _, _, .nil => .nil
  | .d x :: as, _, h, .cons r t => .cons (RV.less (fun a m => held_eq.mp m) r) (AOks.call (by simpa using h) t)
  | .r x :: as, _, h, .cons r t => .cons r (AOks.call (by simpa using h) t)
  | .v x :: as, _, h, .cons r t => by simp at h
theorem AOk.back {x : Vl} {v : V} (h : AOk K (Pu (heldBy os ρ σ) (Wr f [] [])) f [] H x v) : AOk K (Pu os (Wr f ρ σ)) f σ H x v := by
  cases x with
  | d x => exact RV.less (fun a m => held_eq.mpr m) h
  | r n => exact h
  | v i => exact absurd h (by simp [AOk])
end
def argC (as : List Vl) : Bool := as.all fun a => match a with | .v _ => false | _ => true
/-- f(..): the arguments, then the defaults, then c's i-th -/
def mCall (i np : Nat) (dd : List D) (a : AM) : EM := bnd a fun xs c _ M => if (argC xs && (xs.length + dd.length == np)) = true then c i (xs ++ dd.map Vl.d) M else none
def permL {α : Type} (ix : List Nat) (xs : List α) : List α := ix.filterMap fun j => xs[j]?
/-- the same with keywords: ix tells which argument each parameter takes -/
def mCallK (i np n0 nk : Nat) (ix : List Nat) (dd : List D) (a b : AM) : EM := bnd a fun xs => bnd b fun ys c _ M =>
  if (argC (xs ++ ys) && (xs.length == n0) && (ys.length == nk) && (ix.all fun j => decide (j < (xs ++ ys).length)) && (ix.length + dd.length == np)) = true then c i (permL ix (xs ++ ys) ++ dd.map Vl.d) M else none
/-- how arguments bind -/
def gK {α : Type} (n0 nk : Nat) (ix : List Nat) (ds : List α) (us ws : List α) : List α := if us.length = n0 ∧ ws.length = nk then permL ix (us ++ ws) ++ ds else []
section
variable {X : Cx} {sc fs : Scope} {N : List Str} {c : Call} {i np k : Nat} {x : Str} {p pos : Pos} {e : Expr} {es : List Expr} {m mk : AM} {fa : Addr} {fd : FuncData} {ps ks : List Str} {dvs : List V} {ds : List Value} {dd : List D} {kws : List Keyword} {ix : List Nat} {nk : Nat}
theorem AOks.length {K : PySem.W.Frag} {P : Pr} {f : List Addr} {σ : L2.St} {H : Hp} : ∀ {xs : List Vl} {vs : List V}, AOks K P f σ H xs vs → xs.length = vs.length
  | _, _, .nil => rfl
  | _, _, .cons _ t => by rw [List.length_cons, List.length_cons, AOks.length t]
theorem AOks.append {K : PySem.W.Frag} {P : Pr} {f : List Addr} {σ : L2.St} {H : Hp} : ∀ {xs ys : List Vl} {vs us : List V}, AOks K P f σ H xs vs → AOks K P f σ H ys us → AOks K P f σ H (xs ++ ys) (vs ++ us)
  | _, _, _, _, .nil, s => s
  | _, _, _, _, .cons r t, s => .cons r (AOks.append t s)
theorem AOks.get {K : PySem.W.Frag} {P : Pr} {f : List Addr} {σ : L2.St} {H : Hp} : ∀ {xs : List Vl} {vs : List V} (j : Nat), AOks K P f σ H xs vs → (xs[j]? = none ∧ vs[j]? = none) ∨ ∃ y v, xs[j]? = some y ∧ vs[j]? = some v ∧ AOk K P f σ H y v
  | _, _, j, .nil => .inl ⟨by simp, by simp⟩
  | _, _, 0, .cons r t => .inr ⟨_, _, rfl, rfl, r⟩
  | _, _, j + 1, .cons r t => by
    rcases AOks.get j t with h | h
    · exact .inl (by simpa using h)
    · exact .inr (by simpa using h)
theorem AOks.perm {K : PySem.W.Frag} {P : Pr} {f : List Addr} {σ : L2.St} {H : Hp} {xs : List Vl} {vs : List V} (r : AOks K P f σ H xs vs) : ∀ ix : List Nat, AOks K P f σ H (permL ix xs) (permL ix vs)
  | [] => .nil
  | j :: ix => by
    have t := AOks.perm r ix
    unfold permL at t ⊢
    rcases AOks.get j r with ⟨h1, h2⟩ | ⟨y, v, h1, h2, h3⟩
    · rw [List.filterMap_cons, List.filterMap_cons, h1, h2]
      exact t
    · rw [List.filterMap_cons, List.filterMap_cons, h1, h2]
      exact .cons h3 t
theorem argC_perm {xs : List Vl} (h : argC xs = true) (ix : List Nat) : argC (permL ix xs) = true := by
  unfold argC at h ⊢
  rw [List.all_eq_true] at h ⊢
  intro y hy
  obtain ⟨j, _, e⟩ := List.mem_filterMap.mp hy
  exact h y (List.mem_of_getElem? e)
theorem argC_app {xs ys : List Vl} (h : argC xs = true) (h2 : argC ys = true) : argC (xs ++ ys) = true := by
  unfold argC at h h2 ⊢
  rw [List.all_append, h, h2]
  rfl
theorem argC_d (dd : List D) : argC (dd.map Vl.d) = true := by
  unfold argC
  rw [List.all_map, List.all_eq_true]
  intro y _
  rfl
theorem permL_len {α : Type} {xs : List α} : ∀ {ix : List Nat}, (ix.all fun j => decide (j < xs.length)) = true → (permL ix xs).length = ix.length
  | [], _ => rfl
  | j :: ix, h => by
    rw [List.all_cons, Bool.and_eq_true, decide_eq_true_eq] at h
    have ih := permL_len (xs := xs) h.2
    unfold permL at ih ⊢
    rw [List.filterMap_cons, List.getElem?_eq_getElem h.1]
    show (_ :: _).length = _
    rw [List.length_cons, List.length_cons, ih]
/-- defaults: flat data -/
def flatD : D → Option V
  | .none => some .non
  | .bool b => some (.bl b)
  | .int i => some (.int i)
  | .str x => some (.str x)
  | _ => none
theorem flatD_rv {K : PySem.W.Frag} {P : Pr} {H : Hp} {d : D} {v : V} (h : flatD d = some v) : RV K P H d v := by
  cases d <;> first | (cases h; constructor) | cases h
theorem dflt_ok {K : PySem.W.Frag} {P : Pr} {f : List Addr} {σ : L2.St} {H : Hp} : ∀ {dd : List D} {dvs : List V}, dd.map flatD = dvs.map some → AOks K P f σ H (dd.map Vl.d) dvs
  | [], [], _ => .nil
  | [], _ :: _, h => by simp at h
  | _ :: _, [], h => by simp at h
  | d :: dd, v :: dvs, h => by
    rw [List.map_cons, List.map_cons, List.cons.injEq] at h
    exact .cons (flatD_rv h.1) (dflt_ok h.2)
theorem call_end {K : PySem.W.Frag} {os : Pr} {f f1 : List Addr} {ρ : List Slot} {M1 M' : List MO} {σ : L2.St} {H H1 : Hp} {ys : List Vl} {us : List V} {y : Vl} {Q : VK} {E : XK}
    (F1 : Fin K os f ρ σ H f1 M1 H1) (rs : AOks K (Pu os (Wr f1 ρ σ)) f1 σ H1 ys us) (hn : ys.length = np) (ha : argC ys = true) (e : c i ys M1 = some (y, M')) (q : ∀ v f' H', Fin K os f ρ σ H f' M' H' → AOk K (Pu os (Wr f' ρ σ)) f' σ H' y v → Q v H') :
    spF K np c i us H1 Q E := by
  refine ⟨by rw [← rs.length]; exact hn, heldBy os ρ σ, f1, M1, ys, y, M', F1.rel.call, AOks.call ha rs, e, fun v f2 H2 F2 r2 => ?_⟩
  have F3 := F2.back F1.rel
  exact q v f2 H2 (F1.trans F3) r2.back
/-- how a def stands for a call -/
structure CalleeC (P : Program) (w : World) (K : PySem.W.Frag) (mg : Str → Option Value) (base : Heap) (c : Call) (i k np : Nat) (x : Str) (fa : Addr) (fd : FuncData) (ps : List Str) : Prop where
  ok : FnOk P w K mg base CX0 k fa fd ps (spF K np c i)
  mg : mg x = some (.ref fa)
  kp : PySem.W.keepIn K (.ref fa) = true
abbrev Callee (X : Cx) (c : Call) (i k np : Nat) (x : Str) (fa : Addr) (fd : FuncData) (ps : List Str) : Prop := CalleeC X.prog X.w X.K X.mg X.base c i k np x fa fd ps
theorem pe_callM (C : Callee X c i k np x fa fd ps) (hr : Room k X.A) (hg : GlOk X x) (hb : Binds X.K fd ps ds) (hd : Vals dvs ds) (hdd : dd.map flatD = dvs.map some) (ha : PA X (e :: es) (tA X.K c m))
    (he : starEach (e :: es) X.env = (false, eval e X.env) :: starEach es X.env) (hpl : (backTo pos (starEach es X.env)).any (·.1) = false) : PE X (.Call (.Name x p) (e :: es) [] pos) (tE X.K c (mCall i np dd m)) := by
  refine pe_imp (pe_call C.ok hr hg.gl C.mg C.kp hb hd pass0 ha hg.nd he hpl) fun σ H Q h => ?_
  obtain ⟨os, f, ρ, M, R, z, M', e0, q⟩ := h
  replace e0 := bnd_ok e0
  obtain ⟨xs, M1, e1, e0⟩ := e0
  split at e0
  · rename_i hc
    rw [Bool.and_eq_true, beq_iff_eq] at hc
    refine ⟨os, f, ρ, M, R, xs, _, e1, fun vs f1 H1 F1 rs => ?_⟩
    exact call_end F1 (rs.append (dflt_ok hdd)) (by rw [List.length_append, List.length_map]; exact hc.2) (argC_app hc.1 (argC_d dd)) e0 q
  · cases e0
/-- keywords' values -/
theorem pk_nilM : PK X [] (tA X.K c mNil) := ⟨fun pos pins s σ H Q I h => by
  obtain ⟨os, f, ρ, M, R, x, M', e, q⟩ := h
  cases e
  exact pk_nil.run pos pins s σ H Q I (q [] f H (Fin.refl R) .nil)⟩
theorem pk_consM {nm : Option Str} {kpos : Pos} {me : EM} (ha : PE X e (tE X.K c me)) (hr : PK X kws (tA X.K c m)) : PK X (⟨nm, e, kpos⟩ :: kws) (tA X.K c (mCons me m)) := ⟨fun pos pins s σ H Q I h => by
  refine (pk_cons ha hr).run pos pins s σ H Q I ?_
  obtain ⟨os, f, ρ, M, R, z, M', e, q⟩ := h
  replace e := bnd_ok e
  obtain ⟨x, M1, e1, e⟩ := e
  replace e := bnd_ok e
  obtain ⟨xs, M2, e2, e⟩ := e
  cases e
  refine ⟨os, f, ρ, M, R, x, M1, e1, fun v f1 H1 F1 r1 => ?_⟩
  exact ⟨os, f1, ρ, M1, F1.rel, xs, _, e2, fun vs f2 H2 F2 r2 => q _ f2 H2 (F1.trans F2) (.cons (r1.fin F2) r2)⟩⟩
/-- f(k = v, ..), keywords alone -/
theorem pe_callK0 {CX : CXT} {sp : Sp} {E : XK} {tk : TA} {g : List Value → List Value → List Value} {gV : List V → List V → List V} (F : FnOk X.prog X.w X.K X.mg X.base CX k fa fd ps sp) (hr : Room k X.A) (hg : Gl X x) (hm : X.mg x = some (.ref fa)) (hk : PySem.W.keepIn X.K (.ref fa) = true) (hb : KBinds X.K fd ps ks g gV) (hx : Passes CX X E)
    (hkw : PK X kws tk) (hall : (backToKw pos (keywordEach kws X.env)).all (·.1.isSome) = true) (hks : (backToKw pos (keywordEach kws X.env)).filterMap (·.1) = ks)
    (hdb : (x == ("__debug__" : Str)) = false) (hpl : ((backTo pos (starEach [] X.env)).any (·.1) || (backToKw pos (keywordEach kws X.env)).any (·.1.isNone)) = false) :
    PE X (.Call (.Name x p) [] kws pos) (fun σ H Q => tk σ H fun zs H2 => sp (gV [] zs) H2 Q E) := by
  refine ⟨fun pins s σ H Q I h => ?_⟩
  refine wpAny_Call_Name_kw (ld_glob I hg hm ?_ hdb)
  refine PySem.W.callWith_KW0 (h₀ := X.base) I.ok.mod.kin hk hall ?_ hpl
  refine thn (hkw.run pos pins s σ H _ I h) fun ws s2 ⟨zs, H2, I2, rz, q2⟩ => ⟨I2.kIn, ?_⟩
  rw [hks]
  exact run_fnk (us := []) F hr hb hx I2 .nil rz q2
theorem pe_callK0M (C : Callee X c i k np x fa fd ps) (hr : Room k X.A) (hg : GlOk X x) (hb : KBinds X.K fd ps ks (gK 0 nk ix ds) (gK 0 nk ix dvs)) (hdd : dd.map flatD = dvs.map some)
    (hkw : PK X kws (tA X.K c m)) (hall : (backToKw pos (keywordEach kws X.env)).all (·.1.isSome) = true) (hks : (backToKw pos (keywordEach kws X.env)).filterMap (·.1) = ks)
    (hpl : ((backTo pos (starEach [] X.env)).any (·.1) || (backToKw pos (keywordEach kws X.env)).any (·.1.isNone)) = false) : PE X (.Call (.Name x p) [] kws pos) (tE X.K c (mCallK i np 0 nk ix dd mNil m)) := by
  refine pe_imp (pe_callK0 C.ok hr hg.gl C.mg C.kp hb pass0 hkw hall hks hg.nd hpl) fun σ H Q h => ?_
  obtain ⟨os, f, ρ, M, R, z, M', e0, q⟩ := h
  replace e0 := bnd_ok e0
  obtain ⟨xs, M1, e1, e0⟩ := e0
  cases e1
  replace e0 := bnd_ok e0
  obtain ⟨ys, M2, e2, e0⟩ := e0
  split at e0
  · rename_i hc
    simp only [Bool.and_eq_true, beq_iff_eq] at hc
    obtain ⟨⟨⟨⟨h1, h2⟩, h3⟩, h4⟩, h5⟩ := hc
    rw [List.nil_append] at h1 h4 e0
    refine ⟨os, f, ρ, M, R, ys, _, e2, fun vs f1 H1 F1 rs => ?_⟩
    have el : vs.length = nk := by rw [← rs.length]; exact h3
    have eg : gK 0 nk ix dvs [] vs = permL ix vs ++ dvs := by
      unfold gK
      rw [if_pos ⟨rfl, el⟩]
      rfl
    show spF X.K np c i (gK 0 nk ix dvs [] vs) H1 Q _
    rw [eg]
    exact call_end F1 ((rs.perm ix).append (dflt_ok hdd)) (by rw [List.length_append, List.length_map, permL_len h4]; exact h5) (argC_app (argC_perm h1 ix) (argC_d dd)) e0 q
  · cases e0
/-- f(e, .., k = v, ..) -/
theorem pe_callKM {n0 : Nat} (C : Callee X c i k np x fa fd ps) (hr : Room k X.A) (hg : GlOk X x) (hb : KBinds X.K fd ps ks (gK n0 nk ix ds) (gK n0 nk ix dvs)) (hdd : dd.map flatD = dvs.map some)
    (ha : PA X (e :: es) (tA X.K c m)) (hkw : PK X kws (tA X.K c mk)) (hall : (backToKw pos (keywordEach kws X.env)).all (·.1.isSome) = true) (hks : (backToKw pos (keywordEach kws X.env)).filterMap (·.1) = ks)
    (he : starEach (e :: es) X.env = (false, eval e X.env) :: starEach es X.env)
    (hpl : ((backTo pos (starEach (e :: es) X.env)).any (·.1) || (backToKw pos (keywordEach kws X.env)).any (·.1.isNone)) = false) : PE X (.Call (.Name x p) (e :: es) kws pos) (tE X.K c (mCallK i np n0 nk ix dd m mk)) := by
  refine pe_imp (pe_callK C.ok hr hg.gl C.mg C.kp hb pass0 ha hkw hall hks hg.nd he hpl) fun σ H Q h => ?_
  obtain ⟨os, f, ρ, M, R, z, M', e0, q⟩ := h
  replace e0 := bnd_ok e0
  obtain ⟨x1, M1, e1, e0⟩ := e0
  replace e0 := bnd_ok e0
  obtain ⟨x2, M2, e2, e0⟩ := e0
  split at e0
  · rename_i hc
    simp only [Bool.and_eq_true, beq_iff_eq] at hc
    obtain ⟨⟨⟨⟨h1, h2⟩, h3⟩, h4⟩, h5⟩ := hc
    refine ⟨os, f, ρ, M, R, x1, _, e1, fun vs f1 H1 F1 rs => ?_⟩
    refine ⟨os, f1, ρ, _, F1.rel, x2, _, e2, fun zs f2 H2 F2 rs2 => ?_⟩
    have eg : gK n0 nk ix dvs vs zs = permL ix (vs ++ zs) ++ dvs := by
      unfold gK
      rw [if_pos ⟨by rw [← rs.length]; exact h2, by rw [← rs2.length]; exact h3⟩]
    show spF X.K np c i (gK n0 nk ix dvs vs zs) H2 Q _
    rw [eg]
    exact call_end (F1.trans F2) ((((rs.fin F2).append rs2).perm ix).append (dflt_ok hdd)) (by rw [List.length_append, List.length_map, permL_len h4]; exact h5) (argC_app (argC_perm h1 ix) (argC_d dd)) e0 q
  · cases e0
theorem Vals.perm {xs : List V} {vs : List Value} (r : Vals xs vs) : ∀ ix : List Nat, Vals (permL ix xs) (permL ix vs)
  | [] => .nil
  | j :: ix => by
    have t := Vals.perm r ix
    unfold permL at t ⊢
    have hj : (xs[j]? = none ∧ vs[j]? = none) ∨ ∃ y v, xs[j]? = some y ∧ vs[j]? = some v ∧ RelV y v := by
      clear t
      induction r generalizing j with
      | nil => exact .inl ⟨by simp, by simp⟩
      | cons q t ih =>
        cases j with
        | zero => exact .inr ⟨_, _, rfl, rfl, q⟩
        | succ j => simpa using ih j
    rcases hj with ⟨h1, h2⟩ | ⟨y, v, h1, h2, h3⟩
    · rw [List.filterMap_cons, List.filterMap_cons, h1, h2]
      exact t
    · rw [List.filterMap_cons, List.filterMap_cons, h1, h2]
      exact .cons h3 t
theorem kb_of {K : PySem.W.Frag} {n0 nk : Nat} (hp : ps ≠ []) (hd : Vals dvs ds) (h : ∀ (s : Shared) (us ws : List Value), K.In s.heap → us.length = n0 → ws.length = nk → (permL ix (us ++ ws) ++ ds).length = ps.length → BindsTo s fd ⟨us, ks.zip ws⟩ (ps.zip (permL ix (us ++ ws) ++ ds))) : KBinds K fd ps ks (gK n0 nk ix ds) (gK n0 nk ix dvs) := by
  refine ⟨fun s us ws hk hl => ?_, fun {vs us zs ws} r rz => ?_⟩
  · unfold gK at hl ⊢
    by_cases hc : us.length = n0 ∧ ws.length = nk
    · rw [if_pos hc] at hl ⊢
      exact h s us ws hk hc.1 hc.2 hl
    · rw [if_neg hc] at hl
      cases ps with
      | nil => exact absurd rfl hp
      | cons => cases hl
  · unfold gK
    rw [r.length, rz.length]
    by_cases hc : us.length = n0 ∧ ws.length = nk
    · rw [if_pos hc, if_pos hc]
      exact Vals.append (DL.Vals.perm (Vals.append r rz) ix) hd
    · rw [if_neg hc, if_neg hc]
      exact .nil
end
end DL
set_option Elab.async false
set_option linter.all false
set_option maxRecDepth 100000
set_option maxHeartbeats 4000000
/-! what is walked, targets, comprehensions -/
namespace DL
open PySem L2

/-! ### targets -/
inductive Tg where
  | name (i : Nat)
  | tup (ts : List Tg)
mutual
def setTg : Tg → D → List Slot → Option (List Slot)
  | .name i, d, ρ => some (ρ.set i (.d d))
  | .tup ts, .tuple ds, ρ => setTgs ts ds ρ
  | .tup _, _, _ => none
def setTgs : List Tg → List D → List Slot → Option (List Slot)
  | [], [], ρ => some ρ
  | t :: ts, d :: ds, ρ => match setTg t d ρ with
    | some ρ1 => setTgs ts ds ρ1
    | none => none
  | _, _, _ => none
end
mutual
def Tg.ixs : Tg → List Nat
  | .name i => [i]
  | .tup ts => ixsL ts
def ixsL : List Tg → List Nat
  | [] => []
  | t :: ts => t.ixs ++ ixsL ts
end
/-- a store leaves things: names changed, less that may be written -/
structure FinG (K : PySem.W.Frag) (os : Pr) (f : List Addr) (ρ : List Slot) (M : List MO) (σ : L2.St) (H : Hp) (ix : List Nat) (ρ' : List Slot) (σ' : L2.St) : Prop where
  rel : Rel K os f ρ' M σ' H
  len : σ'.length = σ.length
  same : ∀ i, i ∉ ix → σ'[i]? = σ[i]?
  sameρ : ∀ i, i ∉ ix → ρ'[i]? = ρ[i]?
  wr : ∀ b, Wr f ρ' σ' b → Wr f ρ σ b
  own : ∀ i a, OwnI ρ' σ' i a → OwnI ρ σ i a
def TgOk (K : PySem.W.Frag) (g : TG) (t : Tg) : Prop := ∀ (os : Pr) (f : List Addr) (ρ : List Slot) (M : List MO) (σ : L2.St) (H : Hp) (d : D) (v : V) (ρ' : List Slot) (Q : L2.St → Hp → Prop),
  Rel K os f ρ M σ H → RV K (Pu os (Wr f ρ σ)) H d v → setTg t d ρ = some ρ' → (∀ σ', FinG K os f ρ M σ H t.ixs ρ' σ' → Q σ' H) → g v σ H Q
def TgsOk (K : PySem.W.Frag) (g : TGs) (ts : List Tg) : Prop := ∀ (os : Pr) (f : List Addr) (ρ : List Slot) (M : List MO) (σ : L2.St) (H : Hp) (ds : List D) (vs : List V) (ρ' : List Slot) (Q : L2.St → Hp → Prop),
  Rel K os f ρ M σ H → RVs K (Pu os (Wr f ρ σ)) H ds vs → setTgs ts ds ρ = some ρ' → (∀ σ', FinG K os f ρ M σ H (ixsL ts) ρ' σ' → Q σ' H) → g vs σ H Q
section
variable {K : PySem.W.Frag} {os : Pr} {f f1 : List Addr} {ρ : List Slot} {M M1 : List MO} {σ : L2.St} {H H1 : Hp} {a : Addr}
theorem own_set {i j : Nat} {x : Slot} {v : V} (R : Rel K os f ρ M σ H) (hx : x.own = false) (m : OwnI (ρ.set i x) (σ.set i (some v)) j a) : OwnI ρ σ j a := by
  rcases OwnI.of_set R.len m with ⟨_, z, _⟩ | ⟨_, m⟩
  · rw [hx] at z
    cases z
  · exact m
theorem FinG.asg {i : Nat} {x : Slot} {v : V} (R : Rel K os f ρ M σ H) (hx : x.own = false) (q : SlotOk K (Pu os (Wr f ρ σ)) f H x v) : FinG K os f ρ M σ H [i] (ρ.set i x) (σ.set i (some v)) :=
  ⟨R.asg hx q, List.length_set, fun j n => List.getElem?_set_ne fun z => n (by rw [z]; exact List.mem_singleton.mpr rfl), fun j n => List.getElem?_set_ne fun z => n (by rw [z]; exact List.mem_singleton.mpr rfl), fun b m => m.elim .inl fun ⟨j, m⟩ => .inr ⟨j, own_set R hx m⟩, fun j a m => own_set R hx m⟩
theorem FinG.trans {ρ1 ρ2 : List Slot} {σ1 σ2 : L2.St} {i1 i2 : List Nat} (a : FinG K os f ρ M σ H i1 ρ1 σ1) (b : FinG K os f ρ1 M σ1 H i2 ρ2 σ2) : FinG K os f ρ M σ H (i1 ++ i2) ρ2 σ2 := ⟨b.rel, b.len.trans a.len, fun i n => (b.same i fun z => n (List.mem_append_right _ z)).trans (a.same i fun z => n (List.mem_append_left _ z)), fun i n => (b.sameρ i fun z => n (List.mem_append_right _ z)).trans (a.sameρ i fun z => n (List.mem_append_left _ z)), fun x m => a.wr x (b.wr x m), fun i x m => a.own i x (b.own i x m)⟩
theorem tg_name {i : Nat} : TgOk K (gName i) (.name i) := by
  intro os f ρ M σ H d v ρ' Q R r e q
  cases e
  exact q _ (FinG.asg R rfl r)
theorem tgs_nil : TgsOk K gNil [] := by
  intro os f ρ M σ H ds vs ρ' Q R r e q
  cases r with
  | nil =>
    cases e
    exact ⟨rfl, q σ ⟨R, rfl, fun _ _ => rfl, fun _ _ => rfl, fun _ m => m, fun _ _ m => m⟩⟩
  | cons => cases e
theorem tgs_cons {t : Tg} {ts : List Tg} {g : TG} {u : TGs} (h : TgOk K g t) (h2 : TgsOk K u ts) : TgsOk K (gCons g u) (t :: ts) := by
  intro os f ρ M σ H ds vs ρ' Q R r e q
  cases r with
  | nil => cases e
  | cons r rs =>
    unfold setTgs at e
    split at e
    · rename_i ρ1 e1
      refine ⟨_, _, rfl, h os f ρ M σ H _ _ ρ1 _ R r e1 fun σ1 F1 => ?_⟩
      exact h2 os f ρ1 M σ1 H _ _ ρ' Q F1.rel (rs.less fun b m => m.elim .inl fun m => .inr (F1.wr b m)) e fun σ2 F2 => q σ2 (F1.trans F2)
    · cases e
theorem tg_tup {ts : List Tg} {u : TGs} {n : Nat} (hn : ts.length = n) (h : TgsOk K u ts) : TgOk K (gTup K n u) (.tup ts) := by
  intro os f ρ M σ H d v ρ' Q R r e q
  cases d with
  | tuple ds =>
    cases r with
    | tup t rs =>
      have e : setTgs ts ds ρ = some ρ' := e
      refine ⟨_, _, rfl, t.sq, ?_, h os f ρ M σ H ds _ ρ' Q R rs e q⟩
      rw [← rs.length, ← hn]
      clear h hn q t rs R
      induction ts generalizing ds ρ with
      | nil =>
        cases ds with
        | nil => rfl
        | cons => cases e
      | cons t ts ih =>
        cases ds with
        | nil => cases e
        | cons d ds =>
          unfold setTgs at e
          split at e
          · rw [List.length_cons, List.length_cons, ih _ _ e e]
          · cases e
  | _ => cases e
end

/-! ### what is walked -/
/-- J goes over the data, whatever happens to the rest, as long as G stands -/
structure ItOk (K : PySem.W.Frag) (items : List D) (J : It) (G : Pr → Hp → Prop) : Prop where
  go : ∀ (os : Pr) (f : List Addr) (ρ : List Slot) (M : List MO) (σ : L2.St) (H : Hp) (i : Nat) (d : D), Rel K os f ρ M σ H → G (Pu os (Wr f ρ σ)) H → items[i]? = some d →
    J.go i H ∧ ∀ x H', J.yld i H x H' → Fin K os f ρ σ H f M H' ∧ RV K (Pu os (Wr f ρ σ)) H' d x
  stop : ∀ (P : Pr) (H : Hp) (i : Nat), G P H → items.length ≤ i → J.stop i H
/-- G stands whatever happens to what may be written -/
def Stays (G : Pr → Hp → Prop) : Prop := ∀ (os W : Pr) (H : Hp) (W' : Pr) (H' : Hp), Step W H W' H' → G (Pu os W) H → G (Pu os W') H'
abbrev IM := Mm (List D)
/-- a walk: over data that stay -/
def tI (K : PySem.W.Frag) (c : Call) (m : IM) : TI := fun σ H R => ∃ os f ρ M, Rel K os f ρ M σ H ∧ ∃ items M', m c ρ M = some (items, M') ∧
  ∀ (J : It) (G : Pr → Hp → Prop) f' H', Fin K os f ρ σ H f' M' H' → ItOk K items J G → Stays G → G (Pu os (Wr f' ρ σ)) H' → R J H'
theorem pi_imp {X : Cx} {tg iter : Expr} {t t' : TI} (h : PI X tg iter t) (i : ∀ σ H R, t' σ H R → t σ H R) : PI X tg iter t' := ⟨fun pins s σ H R I q => h.run pins s σ H R I (i σ H R q)⟩
def gSeq : D → Option (List D)
  | .list xs => some xs
  | .tuple xs => some xs
  | _ => none
/-- over a list's or a tuple's data -/
def mItS (a : EM) : IM := bnd a fun x _ _ M => match x with
  | .d d => (gSeq d).map fun xs => (xs, M)
  | _ => none
section
variable {K : PySem.W.Frag} {H : Hp} {a : Addr}
theorem RV.sql {P : Pr} {ds : List D} (r : RV K P H (.list ds) (.ref a)) : ∃ vs, SqL K H a vs ∧ RVs K P H ds vs := by
  cases r with
  | lst n h r => exact ⟨_, .inl h, r⟩
  | lstK h r => exact ⟨_, h _, r⟩
theorem it_list {ds : List D} (a : Addr) : ItOk K ds (Itl K a) (fun P H => RV K P H (.list ds) (.ref a)) := by
  refine ⟨fun os f ρ M σ H i d R g e => ?_, fun P H i g hl => ?_⟩
  · obtain ⟨vs, h, r⟩ := g.sql
    obtain ⟨v, e1, r1⟩ := r.get e
    refine ⟨⟨_, v, h, e1⟩, fun x H' y => ?_⟩
    obtain ⟨rfl, y⟩ := y
    have e2 := y _ h
    rw [e1] at e2
    cases e2
    exact ⟨Fin.refl R, r1⟩
  · obtain ⟨vs, h, r⟩ := g.sql
    exact ⟨_, h, by rw [← r.length]; exact hl⟩
theorem it_tup {ds : List D} (a : Addr) : ItOk K ds (Itt K a) (fun P H => RV K P H (.tuple ds) (.ref a)) := by
  refine ⟨fun os f ρ M σ H i d R g e => ?_, fun P H i g hl => ?_⟩
  · cases g with
    | tup h r =>
      obtain ⟨v, e1, r1⟩ := r.get e
      refine ⟨⟨_, v, h.sq, e1⟩, fun x H' y => ?_⟩
      obtain ⟨rfl, y⟩ := y
      have e2 := y _ h.sq
      rw [e1] at e2
      cases e2
      exact ⟨Fin.refl R, r1⟩
  · cases g with
    | tup h r => exact ⟨_, h.sq, by rw [← r.length]; exact hl⟩
theorem it_range {lo : Int} {n : Nat} : ItOk K ((List.range n).map fun i => .int (lo + (i : Nat))) (Itr lo n) (fun _ _ => True) := by
  refine ⟨fun os f ρ M σ H i d R g e => ?_, fun P H i g hl => by
    show n ≤ i
    simpa using hl⟩
  rw [List.getElem?_map] at e
  cases h : (List.range n)[i]? with
  | none => rw [h] at e; cases e
  | some j =>
    rw [h] at e
    cases e
    have hi : i < n := by
      have := (List.getElem?_eq_some_iff.mp h).1
      simpa using this
    have hj : j = i := by
      rw [List.getElem?_range hi] at h
      exact (Option.some.inj h).symm
    subst hj
    refine ⟨hi, fun x H' y => ?_⟩
    obtain ⟨rfl, rfl⟩ := y
    exact ⟨Fin.refl R, .int _⟩
theorem stays_rv {d : D} {v : V} : Stays (fun P H => RV K P H d v) := fun os W H W' H' s g => g.step s
theorem stays_true : Stays (fun _ _ => True) := fun _ _ _ _ _ _ _ => True.intro
end
section
variable {X : Cx} {c : Call} {e e2 tg : Expr} {p pos : Pos} {me me2 : EM}
/-- lists and tuples both -/
theorem pi_seqM (h : PE X e (tE X.K c me)) : PI X tg e (tI X.K c (mItS me)) := ⟨fun pins s σ H R I h0 => by
  obtain ⟨os, f, ρ, M, Rl, items, M', e0, q⟩ := h0
  replace e0 := bnd_ok e0
  obtain ⟨x, M1, e1, e0⟩ := e0
  split at e0
  · rename_i d
    rw [Option.map_eq_some_iff] at e0
    obtain ⟨xs, e2, e3⟩ := e0
    cases e3
    cases d with
    | list ds =>
      cases e2
      refine (pi_list h).run pins s σ H R I ⟨os, f, ρ, M, Rl, _, _, e1, fun v f1 H1 F1 r => ?_⟩
      have r : RV X.K (Pu os (Wr f1 ρ σ)) H1 (.list items) v := r
      cases v with
      | ref a =>
        obtain ⟨vs, h, _⟩ := r.sql
        exact ⟨a, rfl, ⟨_, h⟩, q _ _ f1 H1 F1 (it_list a) stays_rv r⟩
      | _ => cases r
    | tuple ds =>
      cases e2
      refine (pi_tup h).run pins s σ H R I ⟨os, f, ρ, M, Rl, _, _, e1, fun v f1 H1 F1 r => ?_⟩
      have r : RV X.K (Pu os (Wr f1 ρ σ)) H1 (.tuple items) v := r
      cases v with
      | ref a =>
        cases id r with
        | tup h r1 => exact ⟨a, rfl, ⟨_, h.sq⟩, q _ _ f1 H1 F1 (it_tup a) stays_rv r⟩
      | _ => cases r
    | _ => cases e2
  · cases e0⟩
def mItR (m : RM) : IM := bnd m fun r => if (okRg r.1 r.2) = true then fun _ _ M => some (rgD r.1 r.2, M) else fun _ _ _ => none
theorem pi_rng1M (hg : GlOk X "range") (hm : X.mg "range" = none) (ha : PE X e (tE X.K c me)) (hs : starEach [e] X.env = [(false, eval e X.env)]) : PI X tg (.Call (.Name "range" p) [e] [] pos) (tI X.K c (mItR (mRg1 me))) :=
  pi_imp (pi_range1 hg.gl hm (pa_consM ha pa_nilM hs) hs) fun σ H R h => by
    obtain ⟨os, f, ρ, M, Rl, items, M', e0, q⟩ := h
    replace e0 := bnd_ok e0
    obtain ⟨r, M1, e1, e0⟩ := e0
    split at e0
    · rename_i hc
      cases e0
      replace e1 := bnd_ok e1
      obtain ⟨x, M2, e1, e2⟩ := e1
      replace e2 := bnd_ok e2
      obtain ⟨d, M3, e2, e3⟩ := e2
      replace e3 := bnd_ok e3
      obtain ⟨i, M4, e3, e4⟩ := e3
      replace e2 := pk_ok e2
      obtain ⟨e2, rfl⟩ := e2
      replace e3 := liftO_ok e3
      obtain ⟨e3, rfl⟩ := e3
      cases e4
      simp only [okRg, decide_eq_true_eq] at hc
      have hm : mCons me mNil c ρ M = some ([x], M') := by
        unfold mCons bnd
        rw [e1]
        rfl
      refine ⟨os, f, ρ, M, Rl, [x], M', hm, fun vs f1 H1 F1 rs => ?_⟩
      cases rs with
      | cons r1 rt =>
        cases rt
        have rp := peek_ok F1.rel r1 e2
        rw [intD_eq e3] at rp
        refine ⟨i, by rw [rp.int], by omega, by omega, ?_⟩
        have hr := it_range (K := X.K) (lo := 0) (n := i.toNat)
        refine q _ _ f1 H1 F1 ?_ stays_true True.intro
        have e5 : rgD 0 i = (List.range i.toNat).map fun j => .int (0 + (j : Nat)) := by
          unfold rgD
          rw [Int.sub_zero]
        show ItOk X.K (rgD 0 i) _ _
        rw [e5]
        exact hr
    · cases e0
theorem pi_rng2M (hg : GlOk X "range") (hm : X.mg "range" = none) (ha : PE X e (tE X.K c me)) (hb : PE X e2 (tE X.K c me2)) (hs : starEach [e, e2] X.env = [(false, eval e X.env), (false, eval e2 X.env)]) (hs2 : starEach [e2] X.env = [(false, eval e2 X.env)]) :
    PI X tg (.Call (.Name "range" p) [e, e2] [] pos) (tI X.K c (mItR (mRg2 me me2))) :=
  pi_imp (pi_range2 hg.gl hm (pa_consM ha (pa_consM hb pa_nilM hs2) (by rw [hs, hs2])) hs hs2) fun σ H R h => by
    obtain ⟨os, f, ρ, M, Rl, items, M', e0, q⟩ := h
    replace e0 := bnd_ok e0
    obtain ⟨r, M1, e1, e0⟩ := e0
    split at e0
    · rename_i hc
      cases e0
      replace e1 := bnd_ok e1
      obtain ⟨x, M2, e1, e2⟩ := e1
      replace e2 := bnd_ok e2
      obtain ⟨y, M3, e2, e3⟩ := e2
      replace e3 := bnd_ok e3
      obtain ⟨d, M4, e3, e4⟩ := e3
      replace e4 := bnd_ok e4
      obtain ⟨d2, M5, e4, e5⟩ := e4
      replace e5 := bnd_ok e5
      obtain ⟨i, M6, e5, e6⟩ := e5
      replace e6 := bnd_ok e6
      obtain ⟨j, M7, e6, e7⟩ := e6
      replace e3 := pk_ok e3
      obtain ⟨e3, rfl⟩ := e3
      replace e4 := pk_ok e4
      obtain ⟨e4, rfl⟩ := e4
      replace e5 := liftO_ok e5
      obtain ⟨e5, rfl⟩ := e5
      replace e6 := liftO_ok e6
      obtain ⟨e6, rfl⟩ := e6
      cases e7
      simp only [okRg, decide_eq_true_eq] at hc
      have hm : mCons me (mCons me2 mNil) c ρ M = some ([x, y], M') := by
        unfold mCons bnd
        rw [e1]
        simp only
        rw [e2]
        rfl
      refine ⟨os, f, ρ, M, Rl, [x, y], M', hm, fun vs f1 H1 F1 rs => ?_⟩
      cases rs with
      | cons r1 rt =>
        cases rt with
        | cons r2 rt =>
          cases rt
          have rp := peek_ok F1.rel r1 e3
          have rp2 := peek_ok F1.rel r2 e4
          rw [intD_eq e5] at rp
          rw [intD_eq e6] at rp2
          refine ⟨i, j, by rw [rp.int, rp2.int], ⟨by omega, by omega, by omega, by omega⟩, ?_⟩
          exact q _ _ f1 H1 F1 (it_range (K := X.K) (lo := i) (n := (j - i).toNat)) stays_true True.intro
    · cases e0
end
end DL
set_option Elab.async false
set_option linter.all false
set_option maxRecDepth 100000
set_option maxHeartbeats 4000000
/-! comprehensions -/
namespace DL
open PySem L2

def wipeS (ρ : List Slot) : List Nat → List Slot
  | [] => ρ
  | v :: vs => (wipeS ρ vs).set v .un
def noOwn (ρ : List Slot) (vs : List Nat) : Bool := vs.all fun i => match ρ[i]? with | some s => !s.own | none => true
theorem wipeS_len {ρ : List Slot} : ∀ {vs : List Nat}, (wipeS ρ vs).length = ρ.length
  | [] => rfl
  | v :: vs => by
    unfold wipeS
    rw [List.length_set, wipeS_len]
theorem wipeS_in {ρ : List Slot} {i : Nat} {s : Slot} : ∀ {vs : List Nat}, i ∈ vs → (wipeS ρ vs)[i]? = some s → s = .un
  | v :: vs, h, e => by
    unfold wipeS at e
    by_cases hv : v = i
    · subst hv
      have li : v < (wipeS ρ vs).length := by
        have := (List.getElem?_eq_some_iff.mp e).1
        rwa [List.length_set] at this
      rw [List.getElem?_set_self li] at e
      exact (Option.some.inj e).symm
    · rw [List.getElem?_set_ne hv] at e
      refine wipeS_in (vs := vs) ?_ e
      rcases List.mem_cons.mp h with h | h
      · exact absurd h.symm hv
      · exact h
theorem wipeS_out {ρ : List Slot} {i : Nat} : ∀ {vs : List Nat}, i ∉ vs → (wipeS ρ vs)[i]? = ρ[i]?
  | [], _ => rfl
  | v :: vs, h => by
    unfold wipeS
    rw [List.getElem?_set_ne fun z => h (by rw [z]; exact List.mem_cons_self), wipeS_out fun z => h (List.mem_cons_of_mem _ z)]
theorem wipe_outs {σ : L2.St} {i : Nat} : ∀ {vs : List Nat}, i ∉ vs → (wipe σ vs)[i]? = σ[i]?
  | [], _ => rfl
  | v :: vs, h => by
    unfold wipe
    rw [List.getElem?_set_ne fun z => h (by rw [z]; exact List.mem_cons_self), wipe_outs fun z => h (List.mem_cons_of_mem _ z)]
theorem wipe_ins {σ : L2.St} {i : Nat} : ∀ {vs : List Nat}, i ∈ vs → i < σ.length → (wipe σ vs)[i]? = some none
  | v :: vs, h, hl => by
    unfold wipe
    by_cases hv : v = i
    · subst hv
      rw [List.getElem?_set_self (by rw [wipe_length]; exact hl)]
    · rw [List.getElem?_set_ne hv]
      refine wipe_ins (vs := vs) ?_ hl
      rcases List.mem_cons.mp h with h | h
      · exact absurd h.symm hv
      · exact h
theorem wipe_same {σ σ2 : L2.St} {vs : List Nat} (hl : σ2.length = σ.length) (h : ∀ i, i ∉ vs → σ2[i]? = σ[i]?) : wipe σ2 vs = wipe σ vs := by
  refine List.ext_getElem? fun i => ?_
  by_cases hi : i ∈ vs
  · by_cases li : i < σ.length
    · rw [wipe_ins hi li, wipe_ins hi (by rw [hl]; exact li)]
    · rw [List.getElem?_eq_none (by rw [wipe_length, hl]; omega), List.getElem?_eq_none (by rw [wipe_length]; omega)]
  · rw [wipe_outs hi, wipe_outs hi, h i hi]
theorem wipe_idem {σ : L2.St} {vs : List Nat} : wipe (wipe σ vs) vs = wipe σ vs := wipe_same (wipe_length σ vs) fun i hi => wipe_outs hi
def SameO (ρ : List Slot) (σ : L2.St) (ρ' : List Slot) (σ' : L2.St) : Prop := ∀ i a, OwnI ρ σ i a ↔ OwnI ρ' σ' i a
section
variable {K : PySem.W.Frag} {os : Pr} {f f0 f1 f2 : List Addr} {ρ ρ' ρ1 : List Slot} {σ σ' σ1 : L2.St} {M M1 M2 : List MO} {H H0 H1 H2 : Hp} {a o : Addr} {vs : List Nat} {acc : List D}
theorem SameO.wr (s : SameO ρ σ ρ' σ') : Wr f ρ σ = Wr f ρ' σ' := by
  funext b
  refine propext ⟨fun m => ?_, fun m => ?_⟩
  · exact m.elim .inl fun ⟨i, m⟩ => .inr ⟨i, (s i b).mp m⟩
  · exact m.elim .inl fun ⟨i, m⟩ => .inr ⟨i, (s i b).mpr m⟩
theorem SameO.symm (s : SameO ρ σ ρ' σ') : SameO ρ' σ' ρ σ := fun i a => (s i a).symm
theorem SameO.trans (s : SameO ρ σ ρ' σ') (t : SameO ρ' σ' ρ1 σ1) : SameO ρ σ ρ1 σ1 := fun i a => (s i a).trans (t i a)
/-- fewer names -/
theorem Rel.sub (R : Rel K os f ρ M σ H) (hl : ρ'.length = σ'.length) (h : ∀ (i : Nat) (s : Slot), ρ'[i]? = some s → s ≠ Slot.un → ρ[i]? = some s ∧ σ'[i]? = σ[i]?) : Rel K os f ρ' M σ' H := by
  have ow : ∀ {i a}, OwnI ρ' σ' i a → OwnI ρ σ i a := fun {i a} ⟨⟨s, e, n⟩, e2⟩ => by
    obtain ⟨h1, h2⟩ := h i s e (by rintro rfl; cases n)
    exact ⟨⟨s, h1, n⟩, h2 ▸ e2⟩
  have pl : Less (Pu os (Wr f ρ' σ')) (Pu os (Wr f ρ σ)) := fun a m => m.elim .inl fun m => .inr (m.elim .inl fun ⟨j, m⟩ => .inr ⟨j, ow m⟩)
  refine ⟨hl, fun i s e n => ?_, R.fl, R.nd, fun i mo e => ?_, fun i j a h1 h2 => R.o1 i j a (ow h1) (ow h2), fun i a m => R.o2 i a (ow m), R.o3, R.o4⟩
  · obtain ⟨h1, h2⟩ := h i s e n
    obtain ⟨v, e1, q⟩ := R.sl i s h1 n
    exact ⟨v, h2.trans e1, q.less pl⟩
  · obtain ⟨a, e1, q⟩ := R.ob i mo e
    exact ⟨a, e1, q.less pl⟩
theorem Rel.wipe (R : Rel K os f ρ M σ H) : Rel K os f (wipeS ρ vs) M (wipe σ vs) H := R.sub (by rw [wipeS_len, wipe_length, R.len]) fun i s e n => by
  by_cases hi : i ∈ vs
  · exact absurd (wipeS_in hi e) n
  · rw [wipeS_out hi] at e
    exact ⟨e, wipe_outs hi⟩
theorem sameO_wipe (h : noOwn ρ vs = true) : SameO ρ σ (wipeS ρ vs) (wipe σ vs) := fun i a => by
  constructor
  · rintro ⟨⟨s, e, n⟩, e2⟩
    have hi : i ∉ vs := fun z => by
      have := List.all_eq_true.mp h i z
      rw [e] at this
      simp only [n] at this
      cases this
    exact ⟨⟨s, by rw [wipeS_out hi]; exact e, n⟩, by rw [wipe_outs hi]; exact e2⟩
  · rintro ⟨⟨s, e, n⟩, e2⟩
    have hi : i ∉ vs := fun z => by
      rw [wipeS_in z e] at n
      cases n
    exact ⟨⟨s, by rw [← wipeS_out hi]; exact e, n⟩, by rw [← wipe_outs hi]; exact e2⟩
/-- a store within the names that are forgotten -/
theorem FinG.sameO {ix : List Nat} (F : FinG K os f (wipeS ρ vs) M σ H ix ρ' σ') (hi : ∀ i, i ∈ ix → i ∈ vs) : SameO (wipeS ρ vs) σ ρ' σ' := fun i a => by
  constructor
  · rintro ⟨⟨s, e, n⟩, e2⟩
    have hx : i ∉ ix := fun z => by
      rw [wipeS_in (hi i z) e] at n
      cases n
    exact ⟨⟨s, by rw [F.sameρ i hx]; exact e, n⟩, by rw [F.same i hx]; exact e2⟩
  · exact fun m => F.own i a m
/-- what a loop that puts into D may change -/
def WD (L : Addr) (f : List Addr) (ρ : List Slot) (σ : L2.St) : Pr := fun a => Wr f ρ σ a ∨ a = L
structure AppSt (K : PySem.W.Frag) (os : Pr) (L : Addr) (ρ : List Slot) (σ : L2.St) (f0 : List Addr) (H0 : Hp) (f : List Addr) (M : List MO) (H : Hp) (acc : List D) : Prop where
  rel : Rel K os f ρ M σ H
  obj : ∃ us, H L = some (.lst us) ∧ RVs K (Pu os (Wr f ρ σ)) H acc us
  st : Step (WD L f0 ρ σ) H0 (WD L f ρ σ) H
  pre : ∀ (n : Nat) (a : Addr), f0[n]? = some a → f[n]? = some a
theorem Step.wide {W W' : Pr} (s : Step W H W' H1) (d : Addr) : Step (fun a => W a ∨ a = d) H (fun a => W' a ∨ a = d) H1 := ⟨fun b u e n => s.keep b u e fun z => n (.inl z), fun b m => by
  rcases m with m | m
  · rcases s.new b m with z | z
    · exact .inl (.inl z)
    · exact .inr z
  · exact .inl (.inr m)⟩
theorem pu_held {W : Pr} (h : os a) : Pu os (fun b => W b ∨ b = a) = Pu os W := by
  funext b
  refine propext ⟨fun m => ?_, fun m => m.elim .inl fun m => .inr (.inl m)⟩
  rcases m with m | m | m
  · exact .inl m
  · exact .inr m
  · subst m
    exact .inl h
theorem pu_addP {W : Pr} : Pu os (fun b => W b ∨ b = a) = Pu (addP os a) W := by
  funext b
  refine propext ⟨fun m => ?_, fun m => ?_⟩
  · rcases m with m | m | m
    · exact .inl (.inl m)
    · exact .inr m
    · exact .inl (.inr m)
  · rcases m with (m | m) | m
    · exact .inl m
    · exact .inr (.inr m)
    · exact .inr (.inl m)
theorem RV.held {W : Pr} {u : HO} {d : D} {v : V} (h : os a) (r : RV K (Pu os W) H d v) : RV K (Pu os W) (upd H a u) d v := by
  rw [← pu_held h] at r
  have := r.step (Step.write (W := fun b => W b ∨ b = a) (o := u) (.inr rfl))
  rwa [pu_held h] at this
theorem RVs.held {W : Pr} {u : HO} {d : List D} {v : List V} (h : os a) (r : RVs K (Pu os W) H d v) : RVs K (Pu os W) (upd H a u) d v := by
  rw [← pu_held h] at r
  have := r.step (Step.write (W := fun b => W b ∨ b = a) (o := u) (.inr rfl))
  rwa [pu_held h] at this
theorem ObjAt.held {W : Pr} {u : HO} {mo : MO} {b : Addr} (h : os a) (n : b ≠ a) (r : ObjAt K (Pu os W) H b mo) : ObjAt K (Pu os W) (upd H a u) b mo := by
  rw [← pu_held h] at r
  have := r.step (Step.write (W := fun b => W b ∨ b = a) (o := u) (.inr rfl)) (upd_ne n)
  rwa [pu_held h] at this
/-- what is held changes -/
theorem Rel.held {u : HO} (R : Rel K os f ρ M σ H) (h : os a) : Rel K os f ρ M σ (upd H a u) := by
  refine ⟨R.len, fun i s e n => ?_, R.fl, R.nd, fun i mo e => ?_, R.o1, R.o2, R.o3, fun b m => ?_⟩
  · obtain ⟨v, e1, q⟩ := R.sl i s e n
    refine ⟨v, e1, ?_⟩
    have ne : ∀ {b}, OwnI ρ σ i b → b ≠ a := fun {b} m z => (R.o2 i b m).2 (by rw [z]; exact h)
    cases s with
    | un => exact q
    | d x => exact RV.held h q
    | r k => exact q
    | ol xs =>
      obtain ⟨b, e2, q⟩ := q
      subst e2
      exact ⟨b, rfl, q.held h (ne ⟨⟨_, e, rfl⟩, e1⟩)⟩
    | od t xs =>
      obtain ⟨b, e2, q⟩ := q
      subst e2
      exact ⟨b, rfl, q.held h (ne ⟨⟨_, e, rfl⟩, e1⟩)⟩
  · obtain ⟨b, e1, q⟩ := R.ob i mo e
    exact ⟨b, e1, q.held h fun z => R.o3 b (List.mem_of_getElem? e1) (by rw [z]; exact h)⟩
  · by_cases hb : b = a
    · subst hb
      exact ⟨u, upd_same⟩
    · obtain ⟨w, e⟩ := R.o4 b m
      exact ⟨w, by rw [upd_ne hb]; exact e⟩
theorem AppSt.fin {L : Addr} (hD : os L) (A : AppSt K os L ρ σ f0 H0 f M H acc) (F : Fin K os f ρ σ H f1 M1 H1) : AppSt K os L ρ σ f0 H0 f1 M1 H1 acc := by
  obtain ⟨us, e, r⟩ := A.obj
  refine ⟨F.rel, ⟨us, F.st.keep L _ e fun z => ?_, r.step F.st⟩, A.st.trans (F.st.wide L), fun n a h => F.pre n a (A.pre n a h)⟩
  rcases z with z | ⟨i, z⟩
  · exact A.rel.o3 L z hD
  · exact (A.rel.o2 i L z).2 hD
theorem AppSt.push {L : Addr} {y : D} {v : V} {us : List V} (hD : os L) (A : AppSt K os L ρ σ f0 H0 f M H acc) (r : RV K (Pu os (Wr f ρ σ)) H y v) (e : H L = some (.lst us)) : AppSt K os L ρ σ f0 H0 f M (upd H L (.lst (us ++ [v]))) (acc ++ [y]) := by
  obtain ⟨us', e', r'⟩ := A.obj
  rw [e] at e'
  cases e'
  exact ⟨A.rel.held hD, ⟨_, upd_same, (r'.append (.cons r .nil)).held hD⟩, A.st.trans (Step.write (.inr rfl)), A.pre⟩
theorem AppSt.frame {L : Addr} (A : AppSt K os L ρ σ f0 H0 f M H acc) (s : SameO ρ σ ρ' σ') (R : Rel K os f ρ' M σ' H) : AppSt K os L ρ' σ' f0 H0 f M H acc := by
  refine ⟨R, ?_, ?_, A.pre⟩
  · rw [← s.wr]
    exact A.obj
  · have st := A.st
    unfold WD at st ⊢
    rw [← s.wr, ← s.wr]
    exact st
theorem AppSt.base {L : Addr} (A : AppSt K os L ρ σ f0 H0 f M H acc) : AppSt K os L ρ σ f H f M H acc := ⟨A.rel, A.obj, Step.refl, fun _ _ h => h⟩
theorem AppSt.over {L : Addr} {acc1 : List D} (A : AppSt K os L ρ σ f0 H0 f M H acc) (B : AppSt K os L ρ σ f H f1 M1 H1 acc1) : AppSt K os L ρ σ f0 H0 f1 M1 H1 acc1 := ⟨B.rel, B.obj, A.st.trans B.st, fun n a h => B.pre n a (A.pre n a h)⟩
end

/-! ### the machine's part -/
def lcF (bod : D → List MO → Res (List D)) : List D → List MO → Res (List D)
  | [], M => some ([], M)
  | d :: ds, M => match bod d M with
    | none => none
    | some (ys, M1) => match lcF bod ds M1 with
      | none => none
      | some (zs, M2) => some (ys ++ zs, M2)
def bodE (c : Call) (me : EM) : List Slot → List MO → Res (List D) := fun ρ M => match me c ρ M with
  | some (.d y, M1) => some ([y], M1)
  | _ => none
def bodT (c : Call) (tg : Tg) (mt : TM) (k : List Slot → List MO → Res (List D)) (ρ : List Slot) : D → List MO → Res (List D) := fun d M => match setTg tg d ρ with
  | none => none
  | some ρ1 => match mt c ρ1 M with
    | none => none
    | some (b, M1) => if b = true then k ρ1 M1 else some ([], M1)
def bodI (c : Call) (mi : IM) (vs : List Nat) (tg : Tg) (mt : TM) (me : EM) : List Slot → List MO → Res (List D) := fun ρ M => match mi c ρ M with
  | none => none
  | some (items, M1) => if noOwn ρ vs = true then lcF (bodT c tg mt (bodE c me) (wipeS ρ vs)) items M1 else none
def capL : Res (List D) → Res (List D)
  | some (xs, M) => if xs.length ≤ lim then some (xs, M) else none
  | none => none
def mLc (mi : IM) (tg : Tg) (vs : List Nat) (mt : TM) (me : EM) : LM := bnd mi fun items c ρ M => if noOwn ρ vs = true then capL (lcF (bodT c tg mt (bodE c me) (wipeS ρ vs)) items M) else none
def mLc2 (mi : IM) (tg : Tg) (vs : List Nat) (mt : TM) (mi1 : IM) (tg1 : Tg) (vs1 : List Nat) (mt1 : TM) (me : EM) : LM := bnd mi fun items c ρ M => if noOwn ρ vs = true then capL (lcF (bodT c tg mt (bodI c mi1 vs1 tg1 mt1 me) (wipeS ρ vs)) items M) else none
theorem capL_ok {r : Res (List D)} {xs : List D} {M : List MO} (h : capL r = some (xs, M)) : r = some (xs, M) ∧ xs.length ≤ lim := by
  unfold capL at h
  split at h
  · split at h
    · cases h
      exact ⟨rfl, by assumption⟩
    · cases h
  · cases h
section
variable {K : PySem.W.Frag} {os : Pr} {L : Addr} {ρ : List Slot} {σ : L2.St} {f0 : List Addr} {H0 : Hp} {items : List D} {J : It} {G : Pr → Hp → Prop} {bod : D → List MO → Res (List D)}
/-- a loop that puts into D -/
theorem loop_ok {QS : Hp → Prop} {BODY : V → Hp → (Hp → Prop) → Prop} {Fut : List D → List MO → Prop} {f1 : List Addr} {M1 M2 : List MO} {H1 : Hp} {acc1 rest1 : List D}
    (hD : os L) (it : ItOk K items J G) (hG : ∀ f H, Step (WD L f0 ρ σ) H0 (WD L f ρ σ) H → G (Pu os (Wr f ρ σ)) H)
    (hs : ∀ f M H acc, AppSt K os L ρ σ f0 H0 f M H acc → Fut acc M → QS H)
    (hfut : ∀ xs M, Fut xs M → xs.length ≤ lim)
    (hb : ∀ d f M H acc ys M' (Nx : Hp → Prop) x, AppSt K os L ρ σ f0 H0 f M H acc → RV K (Pu os (Wr f ρ σ)) H d x → bod d M = some (ys, M') → (acc ++ ys).length ≤ lim → (∀ f' H', AppSt K os L ρ σ f0 H0 f' M' H' (acc ++ ys) → Nx H') → BODY x H Nx)
    (A : AppSt K os L ρ σ f0 H0 f1 M1 H1 acc1) (e : lcF bod items M1 = some (rest1, M2)) (hF : Fut (acc1 ++ rest1) M2) :
    ∃ W : Nat → Nat → Hp → Prop, (∃ m, W 0 m H1) ∧ ∀ i m H, W i m H → (J.stop i H ∧ QS H) ∨ (J.go i H ∧ ∃ Nx : Hp → Prop, (∀ H', Nx H' → ∃ m', m' < m ∧ W (i + 1) m' H') ∧ ∀ x H', J.yld i H x H' → BODY x H' Nx) := by
  refine ⟨fun i m H => m = items.length - i ∧ ∃ f M acc rest M', AppSt K os L ρ σ f0 H0 f M H acc ∧ lcF bod (items.drop i) M = some (rest, M') ∧ Fut (acc ++ rest) M', ⟨_, rfl, f1, M1, acc1, rest1, M2, A, e, hF⟩, ?_⟩
  rintro i m H ⟨rfl, f, M, acc, rest, M', A, e, F⟩
  have g := hG f H A.st
  by_cases hi : i < items.length
  · have ei : items[i]? = some items[i] := List.getElem?_eq_getElem hi
    rw [List.drop_eq_getElem_cons hi] at e
    unfold lcF at e
    split at e
    · cases e
    · rename_i ys M3 e1
      split at e
      · cases e
      · rename_i zs M4 e2
        cases e
        obtain ⟨go, yl⟩ := it.go os f ρ M σ H i _ A.rel g ei
        refine .inr ⟨go, fun H' => ∃ f', AppSt K os L ρ σ f0 H0 f' M3 H' (acc ++ ys), fun H' ⟨f', A'⟩ => ⟨_, ?_, rfl, f', M3, _, _, _, A', e2, by rw [List.append_assoc]; exact F⟩, fun x H' y => ?_⟩
        · omega
        · obtain ⟨F1, r⟩ := yl x H' y
          exact hb _ f M H' acc ys M3 _ x (A.fin hD F1) r e1 (by
            have := hfut _ _ F
            rw [List.length_append, List.length_append] at this
            rw [List.length_append]
            omega) fun f' H'' A' => ⟨f', A'⟩
  · rw [List.drop_eq_nil_of_le (by omega)] at e
    cases e
    rw [List.append_nil] at F
    exact .inl ⟨it.stop _ H i g (by omega), hs f M H acc A F⟩
/-- one turn's store and test, then the rest -/
theorem turn_ok {c : Call} {tg : Tg} {mt : TM} {k : List Slot → List MO → Res (List D)} {vs : List Nat} {g : TG} {rest : L2.St → Hp → (Hp → Prop) → Prop} {ρ0 : List Slot} {σ0 : L2.St} {d : D} {f : List Addr} {M M' : List MO} {H : Hp} {acc ys : List D} {Nx : Hp → Prop} {x : V}
    (hL : os L) (hg : TgOk K g tg) (hi : ∀ i, i ∈ tg.ixs → i ∈ vs) (eρ : wipeS ρ vs = ρ0) (eσ : L2.wipe σ vs = σ0)
    (hk : ∀ ρ1 σ1 f1 M1 H1 ys M', AppSt K os L ρ1 σ1 f0 H0 f1 M1 H1 acc → SameO ρ0 σ0 ρ1 σ1 → σ1.length = σ0.length → (∀ i, i ∉ vs → ρ1[i]? = ρ0[i]? ∧ σ1[i]? = σ0[i]?) → k ρ1 M1 = some (ys, M') → (acc ++ ys).length ≤ lim →
      (∀ f' H', AppSt K os L ρ0 σ0 f0 H0 f' M' H' (acc ++ ys) → Nx H') → rest σ1 H1 Nx)
    (A : AppSt K os L ρ0 σ0 f0 H0 f M H acc) (r : RV K (Pu os (Wr f ρ0 σ0)) H d x) (e : bodT c tg mt k ρ0 d M = some (ys, M')) (hl : (acc ++ ys).length ≤ lim) (hn : ∀ f' H', AppSt K os L ρ0 σ0 f0 H0 f' M' H' (acc ++ ys) → Nx H') :
    g x σ0 H fun σ2 H2 => L2.wipe σ2 vs = σ0 ∧ tT K c mt σ2 H2 fun b H3 => if b = true then rest σ2 H3 Nx else Nx H3 := by
  unfold bodT at e
  split at e
  · cases e
  · rename_i ρ1 e1
    refine hg os f ρ0 M σ0 H d x ρ1 _ A.rel r e1 fun σ1 F => ?_
    have out : ∀ i, i ∉ vs → ρ1[i]? = ρ0[i]? ∧ σ1[i]? = σ0[i]? := fun i n => ⟨F.sameρ i fun z => n (hi i z), F.same i fun z => n (hi i z)⟩
    have so : SameO ρ0 σ0 ρ1 σ1 := by
      subst eρ
      exact FinG.sameO F hi
    have ln : ρ0.length = σ0.length := A.rel.len
    refine ⟨by rw [← eσ]; exact (wipe_same (σ2 := σ1) (σ := σ) (by rw [F.len, ← eσ, wipe_length]) fun i n => by rw [(out i n).2, ← eσ, wipe_outs n]), ?_⟩
    have A1 : AppSt K os L ρ1 σ1 f0 H0 f M H acc := A.frame so F.rel
    split at e
    · cases e
    · rename_i b M1 e2
      refine ⟨os, f, ρ1, M, F.rel, b, M1, e2, fun f' H' F2 => ?_⟩
      have A2 := A1.fin hL F2
      cases b with
      | true =>
        rw [if_pos rfl] at e
        show rest σ1 H' Nx
        exact hk ρ1 σ1 f' M1 H' ys M' A2 so F.len out e hl hn
      | false =>
        rw [if_neg Bool.false_ne_true] at e
        cases e
        show Nx H'
        refine hn f' H' ?_
        rw [List.append_nil]
        refine A2.frame so.symm (A2.rel.sub ln fun i s e n => ?_)
        by_cases hv : i ∈ vs
        · subst eρ
          exact absurd (wipeS_in hv e) n
        · exact ⟨by rw [(out i hv).1]; exact e, by rw [(out i hv).2]⟩
/-- what is put in -/
theorem put_ok {c : Call} {me : EM} {vs : List Nat} {ρ0 ρ1 : List Slot} {σ0 σ1 : L2.St} {f1 : List Addr} {M1 M' : List MO} {H1 : Hp} {acc ys : List D} {Nx : Hp → Prop}
    (hL : os L) (eρ : wipeS ρ vs = ρ0) (ln : ρ0.length = σ0.length) (A : AppSt K os L ρ1 σ1 f0 H0 f1 M1 H1 acc) (so : SameO ρ0 σ0 ρ1 σ1) (out : ∀ i, i ∉ vs → ρ1[i]? = ρ0[i]? ∧ σ1[i]? = σ0[i]?) (e : bodE c me ρ1 M1 = some (ys, M')) (hl : (acc ++ ys).length ≤ lim)
    (hn : ∀ f' H', AppSt K os L ρ0 σ0 f0 H0 f' M' H' (acc ++ ys) → Nx H') : tE K c me σ1 H1 fun y H4 => ∃ acc, H4 L = some (.lst acc) ∧ acc.length < sizeLine ∧ Nx (upd H4 L (.lst (acc ++ [y]))) := by
  unfold bodE at e
  split at e
  · rename_i y M2 e1
    cases e
    refine ⟨os, f1, ρ1, M1, A.rel, .d y, _, e1, fun v f' H' F r => ?_⟩
    have r : RV K (Pu os (Wr f' ρ1 σ1)) H' y v := r
    have A2 := A.fin hL F
    obtain ⟨us, e2, r2⟩ := A2.obj
    refine ⟨us, e2, ?_, ?_⟩
    · rw [List.length_append] at hl
      rw [← r2.length]
      exact Nat.lt_of_lt_of_le (Nat.lt_succ_self _) (lim_le hl)
    · have A3 := A2.push hL r e2
      refine hn f' _ (A3.frame so.symm (A3.rel.sub ln fun i s e n => ?_))
      by_cases hv : i ∈ vs
      · subst eρ
        exact absurd (wipeS_in hv e) n
      · exact ⟨by rw [(out i hv).1]; exact e, by rw [(out i hv).2]⟩
  · cases e
/-- back from a block -/
theorem unwipe {f f1 f2 : List Addr} {M1 M2 : List MO} {H H1 H2 : Hp} {vs : List Nat} {xs : List D} (F1 : Fin K os f ρ σ H f1 M1 H1) (ho : noOwn ρ vs = true) (hn : H1 L = none)
    (A : AppSt K (addP os L) L (wipeS ρ vs) (L2.wipe σ vs) f1 H1 f2 M2 H2 xs) : FinL K os f ρ σ H L (.lst xs) f2 M2 H2 := by
  have so := sameO_wipe (σ := σ) ho
  have st : Step (fun a => Wr f1 ρ σ a ∨ a = L) H1 (fun a => Wr f2 ρ σ a ∨ a = L) H2 := by
    have z := A.st
    unfold WD at z
    rw [← so.wr, ← so.wr] at z
    exact z
  have st1 : Step (Wr f1 ρ σ) H1 (fun a => Wr f2 ρ σ a ∨ a = L) H2 := by
    refine ⟨fun a o h n => st.keep a o h fun z => z.elim n fun z => ?_, fun a m => ?_⟩
    · subst z
      rw [hn] at h
      cases h
    · rcases st.new a m with (z | z) | z
      · exact .inl z
      · subst z
        exact .inr hn
      · exact .inr z
  have st2 : Step (Wr f1 ρ σ) H1 (Wr f2 ρ σ) H2 := st1.trans (Step.less fun b m => .inl m)
  have hH : H L = none := by
    cases e : H L with
    | none => rfl
    | some o =>
      by_cases w : Wr f ρ σ L
      · have r1 := F1.rel
        rcases w with w | w
        · obtain ⟨n, w⟩ := List.mem_iff_getElem?.mp w
          obtain ⟨o', e'⟩ := r1.there (.inl (List.mem_of_getElem? (F1.pre n L w)))
          rw [hn] at e'
          cases e'
        · obtain ⟨o', e'⟩ := r1.there (.inr w)
          rw [hn] at e'
          cases e'
      · rw [F1.st.keep L o e w] at hn
        cases hn
  have wr := so.wr (f := f2)
  have R2 := A.rel
  refine ⟨F1.st.trans st2, ⟨F1.rel.len, fun i s e n => ?_, R2.fl, R2.nd, fun i mo e => ?_, fun i j a h1 h2 => F1.rel.o1 i j a h1 h2, fun i a m => R2.o2 i a ((so i a).mp m), R2.o3, R2.o4⟩, fun n a h => A.pre n a (F1.pre n a h), hH, ?_⟩
  · by_cases hv : i ∈ vs
    · obtain ⟨v, e1, q⟩ := F1.rel.sl i s e n
      refine ⟨v, e1, ?_⟩
      have no : s.own = false := by
        have := List.all_eq_true.mp ho i hv
        rw [e] at this
        simpa using this
      cases s with
      | un => exact q
      | d x =>
        have q2 := RV.step st1 q
        rw [pu_addP] at q2
        exact q2
      | r k =>
        obtain ⟨a, e2, q⟩ := q
        exact ⟨a, e2, A.pre k a q⟩
      | ol xs => cases no
      | od t xs => cases no
    · obtain ⟨v, e1, q⟩ := R2.sl i s (by rw [wipeS_out hv]; exact e) n
      rw [wipe_outs hv] at e1
      rw [← wr] at q
      exact ⟨v, e1, q⟩
  · obtain ⟨a, e1, q⟩ := R2.ob i mo e
    rw [← wr] at q
    exact ⟨a, e1, q⟩
  · obtain ⟨us, e1, q⟩ := A.obj
    rw [← wr] at q
    exact ⟨us, e1, q⟩
/-- the walk holds on within the block -/
theorem stays_in {f0 : List Addr} {H0 : Hp} {vs : List Nat} (hs : Stays G) (g : G (Pu os (Wr f0 ρ σ)) H0) (ho : noOwn ρ vs = true) (hn : H0 L = none) (f : List Addr) (H : Hp) (st : Step (WD L f0 (wipeS ρ vs) (L2.wipe σ vs)) H0 (WD L f (wipeS ρ vs) (L2.wipe σ vs)) H) :
    G (Pu (addP os L) (Wr f (wipeS ρ vs) (L2.wipe σ vs))) H := by
  have so := sameO_wipe (σ := σ) ho
  unfold WD at st
  rw [← so.wr, ← so.wr] at st
  rw [← so.wr]
  have st1 : Step (Wr f0 ρ σ) H0 (fun a => Wr f ρ σ a ∨ a = L) H := by
    refine ⟨fun a o h n => st.keep a o h fun z => z.elim n fun z => ?_, fun a m => ?_⟩
    · subst z
      rw [hn] at h
      cases h
    · rcases st.new a m with (z | z) | z
      · exact .inl z
      · subst z
        exact .inr hn
      · exact .inr z
  have := hs os _ _ _ _ st1 g
  rwa [pu_addP] at this
theorem app_start {f f1 : List Addr} {M1 : List MO} {H H1 : Hp} {vs : List Nat} (R : Rel K os f1 ρ M1 σ H1) (hn : H1 L = none) : AppSt K (addP os L) L (wipeS ρ vs) (L2.wipe σ vs) f1 H1 f1 M1 (upd H1 L (.lst [])) [] :=
  ⟨(R.lay hn).wipe, ⟨[], upd_same, .nil⟩, Step.write (.inr rfl), fun _ _ h => h⟩
theorem lc_imp {c : Call} {mi : IM} {tg : Tg} {vs : List Nat} {mt : TM} {me : EM} {g : TG} (hg : TgOk K g tg) (hi : ∀ i, i ∈ tg.ixs → i ∈ vs) : ∀ σ H Q, tL K c (mLc mi tg vs mt me) σ H Q → tLc (tI K c mi) g (tT K c mt) (tE K c me) vs σ H Q := fun σ H Q h => by
  obtain ⟨os, f, ρ, M, R, xs, M', e, q⟩ := h
  replace e := bnd_ok e
  obtain ⟨items, M1, e1, e⟩ := e
  split at e
  · rename_i ho
    replace e := capL_ok e
    obtain ⟨e, hl⟩ := e
    refine ⟨os, f, ρ, M, R, items, M1, e1, fun J G f1 H1 F1 it hs g => fun L hn => ?_⟩
    refine loop_ok (os := addP os L) (L := L) (f0 := f1) (H0 := H1) (ρ := wipeS ρ vs) (σ := L2.wipe σ vs) (Fut := fun ys N => ys = xs ∧ N = M') (BODY := fun x H Nx => _) (.inr rfl) it (stays_in hs g ho hn) ?_ ?_ ?_ (app_start (f := f) (H := H) F1.rel hn) e ⟨rfl, rfl⟩
    · rintro f2 M2 H2 acc A ⟨rfl, rfl⟩
      exact q L f2 H2 (unwipe F1 ho hn A)
    · rintro ys N ⟨rfl, rfl⟩
      exact hl
    · intro d f2 M2 H2 acc ys M3 Nx x A r e2 hl2 hnx
      exact turn_ok (rest := fun σ2 H3 Nx => tE K c me σ2 H3 fun y H4 => ∃ acc, H4 L = some (.lst acc) ∧ acc.length < sizeLine ∧ Nx (upd H4 L (.lst (acc ++ [y])))) (.inr rfl) hg hi rfl rfl
        (fun ρ1 σ1 f3 M4 H3 zs M5 A3 so ln out e3 hl3 hn3 => put_ok (.inr rfl) rfl (by rw [wipeS_len, wipe_length, R.len]) A3 so out e3 hl3 hn3) A r e2 hl2 hnx
  · cases e
theorem lc2_imp {c : Call} {mi mi1 : IM} {tg tg1 : Tg} {vs vs1 : List Nat} {mt mt1 : TM} {me : EM} {g g1 : TG} (hg : TgOk K g tg) (hi : ∀ i, i ∈ tg.ixs → i ∈ vs) (hg1 : TgOk K g1 tg1) (hi1 : ∀ i, i ∈ tg1.ixs → i ∈ vs1) (hv : ∀ i, i ∈ vs1 → i ∈ vs) :
    ∀ σ H Q, tL K c (mLc2 mi tg vs mt mi1 tg1 vs1 mt1 me) σ H Q → tLc2 (tI K c mi) g (tT K c mt) (tI K c mi1) g1 (tT K c mt1) (tE K c me) vs vs1 σ H Q := fun σ H Q h => by
  obtain ⟨os, f, ρ, M, R, xs, M', e, q⟩ := h
  replace e := bnd_ok e
  obtain ⟨items, M1, e1, e⟩ := e
  split at e
  · rename_i ho
    replace e := capL_ok e
    obtain ⟨e, hl⟩ := e
    refine ⟨os, f, ρ, M, R, items, M1, e1, fun J G f1 H1 F1 it hs g => fun L hn => ?_⟩
    refine loop_ok (os := addP os L) (L := L) (f0 := f1) (H0 := H1) (ρ := wipeS ρ vs) (σ := L2.wipe σ vs) (Fut := fun ys N => ys = xs ∧ N = M') (BODY := fun x H Nx => _) (.inr rfl) it (stays_in hs g ho hn) ?_ ?_ ?_ (app_start (f := f) (H := H) F1.rel hn) e ⟨rfl, rfl⟩
    · rintro f2 M2 H2 acc A ⟨rfl, rfl⟩
      exact q L f2 H2 (unwipe F1 ho hn A)
    · rintro ys N ⟨rfl, rfl⟩
      exact hl
    · intro d f2 M2 H2 acc ys M3 Nx x A r e2 hl2 hnx
      refine turn_ok (rest := fun σ2 H3 Nx => tI K c mi1 σ2 H3 fun J1 H4 => ∃ W1 : Nat → Nat → Hp → Prop, (∃ m, W1 0 m H4) ∧ ∀ j k H, W1 j k H →
        (J1.stop j H ∧ Nx H) ∨ (J1.go j H ∧ ∃ Nx1 : Hp → Prop, (∀ H', Nx1 H' → ∃ k', k' < k ∧ W1 (j + 1) k' H') ∧ ∀ x H', J1.yld j H x H' → g1 x (L2.wipe σ2 vs1) H' fun σ3 H5 => L2.wipe σ3 vs1 = L2.wipe σ2 vs1 ∧ tT K c mt1 σ3 H5 fun b H6 =>
          if b = true then tE K c me σ3 H6 fun y H7 => ∃ acc, H7 L = some (.lst acc) ∧ acc.length < sizeLine ∧ Nx1 (upd H7 L (.lst (acc ++ [y]))) else Nx1 H6)) (.inr rfl) hg hi rfl rfl
        (fun ρ1 σ1 f3 M4 H3 zs M5 A3 so ln out e3 hl3 hn3 => ?_) A r e2 hl2 hnx
      unfold bodI at e3
      split at e3
      · cases e3
      · rename_i items1 M6 e4
        split at e3
        · rename_i ho1
          refine ⟨_, f3, ρ1, M4, A3.rel, items1, M6, e4, fun J1 G1 f4 H4 F4 it1 hs1 g1' => ?_⟩
          have A4 : AppSt K (addP os L) L ρ1 σ1 f1 H1 f4 M6 H4 acc := A3.fin (.inr rfl) F4
          have so1 := sameO_wipe (σ := σ1) ho1
          have A5 : AppSt K (addP os L) L (wipeS ρ1 vs1) (L2.wipe σ1 vs1) f1 H1 f4 M6 H4 acc := A4.frame so1 A4.rel.wipe
          have lnr : ρ1.length = σ1.length := A3.rel.len
          have ln0 : (wipeS ρ vs).length = (L2.wipe σ vs).length := by rw [wipeS_len, wipe_length, R.len]
          refine loop_ok (os := addP os L) (L := L) (f0 := f4) (H0 := H4) (ρ := wipeS ρ1 vs1) (σ := L2.wipe σ1 vs1) (Fut := fun ys N => ys = acc ++ zs ∧ N = M5) (BODY := fun x H Nx => _) (.inr rfl) it1 (fun f H st => ?_) ?_ ?_ ?_ A5.base e3 ⟨rfl, rfl⟩
          · unfold WD at st
            rw [← so1.wr, ← so1.wr] at st
            rw [← so1.wr]
            rw [← pu_held (a := L) (.inr rfl)] at g1'
            have := hs1 _ _ _ _ _ st g1'
            rwa [pu_held (a := L) (.inr rfl)] at this
          · rintro f6 M7 H6 acc1 A6 ⟨rfl, rfl⟩
            refine hn3 f6 H6 ?_
            have A7 := A5.over A6
            refine A7.frame (so1.symm.trans so.symm) (A7.rel.sub ln0 fun i s e n => ?_)
            by_cases hv' : i ∈ vs
            · exact absurd (wipeS_in hv' e) n
            · have h1 : i ∉ vs1 := fun z => hv' (hv i z)
              exact ⟨by rw [wipeS_out h1, (out i hv').1]; exact e, by rw [wipe_outs h1, (out i hv').2]⟩
          · rintro ys N ⟨rfl, rfl⟩
            exact hl3
          · intro d1 f6 M7 H6 acc1 ys1 M8 Nx1 x1 A6 r6 e6 hl6 hn6
            exact turn_ok (rest := fun σ2 H3 Nx => tE K c me σ2 H3 fun y H4 => ∃ acc, H4 L = some (.lst acc) ∧ acc.length < sizeLine ∧ Nx (upd H4 L (.lst (acc ++ [y])))) (.inr rfl) hg1 hi1 rfl rfl
              (fun ρ1' σ1' f3' M4' H3' zs' M5' A3' so' ln' out' e3' hl3' hn3' => put_ok (.inr rfl) rfl (by rw [wipeS_len, wipe_length, lnr]) A3' so' out' e3' hl3' hn3') A6 r6 e6 hl6 hn6
        · cases e3
  · cases e
end

/-! ### the rules -/
def mYes : TM := fun _ _ M => some (true, M)
section
variable {X : Cx} {sc fs : Scope} {N : List Str} {c : Call} {e : Expr} {es : List Expr} {t : TM} {scope : Scope}
theorem CtxOk.blk (h : CtxOk X sc fs N) (hk : scope.kind = .function) (s : Shared) (H : Hp) (C : Addr) (cl : List (Str × Addr)) (fp : List Addr) : CtxOk (X.blk s H scope (compEnvC scope cl C X.env) fp) (relS scope sc) scope N :=
  ⟨by rw [← h.scope]; rfl, h.names, h.calm, h.nd, hk, fun x e => by
    show (scope.names.lookup x == some .cell) = true
    rw [e]
    rfl, PassesOwn.never⟩
theorem pts_nilM : PTs X [] (tT X.K c mYes) := ⟨fun pins s σ H Q I h => by
  obtain ⟨os, f, ρ, M, R, x, M', e, q⟩ := h
  cases e
  exact pts_nil.run pins s σ H Q I (q f H (Fin.refl R))⟩
theorem pts_oneM (h : PT X e (tT X.K c t)) : PTs X [e] (tT X.K c t) := pts_one h
def ixC (tg : Tg) (vs : List Nat) : Bool := tg.ixs.all fun i => decide (i ∈ vs)
theorem ixC_ok {tg : Tg} {vs : List Nat} (h : ixC tg vs = true) : ∀ i, i ∈ tg.ixs → i ∈ vs := fun i m => by
  have := List.all_eq_true.mp h i m
  simpa using this
def subC (vs1 vs : List Nat) : Bool := vs1.all fun i => decide (i ∈ vs)
theorem subC_ok {vs1 vs : List Nat} (h : subC vs1 vs = true) : ∀ i, i ∈ vs1 → i ∈ vs := fun i m => by
  have := List.all_eq_true.mp h i m
  simpa using this
section
variable {elt tg iter : Expr} {ifs : List Expr} {scope : Scope} {own : List (Str × Nat)} {pos spos py : Pos} {mi mi1 : IM} {g g1 : TG} {tgm tgm1 : Tg} {mt mt1 : TM} {me : EM} {i : Nat} {y : Str}
theorem pe_lcM (h : CtxOk X sc fs N) (hb : blkC N sc scope own = true) (hx : ixC tgm (own.map (·.2)) = true) (hi : PI X tg iter (tI X.K c mi)) (hg : TgOk X.K g tgm)
    (hp : ∀ s H C cl fp, CtxOk (X.blk s H scope (compEnvC scope cl C X.env) fp) (relS scope sc) scope N → PG (X.blk s H scope (compEnvC scope cl C X.env) fp) tg g) (ht : ∀ s H C cl fp, CtxOk (X.blk s H scope (compEnvC scope cl C X.env) fp) (relS scope sc) scope N → PTs (X.blk s H scope (compEnvC scope cl C X.env) fp) ifs (tT X.K c mt)) (he : ∀ s H C cl fp, CtxOk (X.blk s H scope (compEnvC scope cl C X.env) fp) (relS scope sc) scope N → PE (X.blk s H scope (compEnvC scope cl C X.env) fp) elt (tE X.K c me))
    (hs : ∀ x, foldedSetIterable iter X.env x = pure x := by intro _; rfl) : PE X (.ListComp elt [⟨tg, iter, ifs, 0⟩] scope pos) (tL X.K c (mLc mi tgm (own.map (·.2)) mt me)) :=
  pe_imp (pe_lc h.calm (by rw [h.names]; exact h.nd) hi (by rw [h.names, h.scope]; exact blkOk_by hb) (fun s H C cl fp => hp s H C cl fp (h.blk (blkOk_by hb).kind s H C cl fp)) (fun s H C cl fp => ht s H C cl fp (h.blk (blkOk_by hb).kind s H C cl fp)) (fun s H C cl fp => he s H C cl fp (h.blk (blkOk_by hb).kind s H C cl fp)) hs) (lc_imp hg (ixC_ok hx))
theorem pe_lc2M {tg1 iter1 : Expr} {ifs1 : List Expr} {vs1 : List Nat} (h : CtxOk X sc fs N) (hb : blkC N sc scope own = true) (hx : ixC tgm (own.map (·.2)) = true) (hx1 : ixC tgm1 vs1 = true) (hv : subC vs1 (own.map (·.2)) = true) (hi : PI X tg iter (tI X.K c mi)) (hg : TgOk X.K g tgm) (hg1 : TgOk X.K g1 tgm1)
    (hp : ∀ s H C cl fp, CtxOk (X.blk s H scope (compEnvC scope cl C X.env) fp) (relS scope sc) scope N → PG (X.blk s H scope (compEnvC scope cl C X.env) fp) tg g) (ht : ∀ s H C cl fp, CtxOk (X.blk s H scope (compEnvC scope cl C X.env) fp) (relS scope sc) scope N → PTs (X.blk s H scope (compEnvC scope cl C X.env) fp) ifs (tT X.K c mt))
    (hi1 : ∀ s H C cl fp, CtxOk (X.blk s H scope (compEnvC scope cl C X.env) fp) (relS scope sc) scope N → PI (X.blk s H scope (compEnvC scope cl C X.env) fp) tg1 iter1 (tI X.K c mi1))
    (hp1 : ∀ s H C cl fp, CtxOk (X.blk s H scope (compEnvC scope cl C X.env) fp) (relS scope sc) scope N → PG (X.blk s H scope (compEnvC scope cl C X.env) fp) tg1 g1) (ht1 : ∀ s H C cl fp, CtxOk (X.blk s H scope (compEnvC scope cl C X.env) fp) (relS scope sc) scope N → PTs (X.blk s H scope (compEnvC scope cl C X.env) fp) ifs1 (tT X.K c mt1)) (he : ∀ s H C cl fp, CtxOk (X.blk s H scope (compEnvC scope cl C X.env) fp) (relS scope sc) scope N → PE (X.blk s H scope (compEnvC scope cl C X.env) fp) elt (tE X.K c me))
    (hs : ∀ x, foldedSetIterable iter X.env x = pure x := by intro _; rfl) (hs1 : ∀ env x, foldedSetIterable iter1 env x = pure x := by intro _ _; rfl) :
    PE X (.ListComp elt [⟨tg, iter, ifs, 0⟩, ⟨tg1, iter1, ifs1, 0⟩] scope pos) (tL X.K c (mLc2 mi tgm (own.map (·.2)) mt mi1 tgm1 vs1 mt1 me)) :=
  pe_imp (pe_lc2 h.calm (by rw [h.names]; exact h.nd) hi (by rw [h.names, h.scope]; exact blkOk_by hb) (subC_ok hv) (fun s H C cl fp => hp s H C cl fp (h.blk (blkOk_by hb).kind s H C cl fp)) (fun s H C cl fp => ht s H C cl fp (h.blk (blkOk_by hb).kind s H C cl fp)) (fun s H C cl fp => hi1 s H C cl fp (h.blk (blkOk_by hb).kind s H C cl fp)) (fun s H C cl fp => hp1 s H C cl fp (h.blk (blkOk_by hb).kind s H C cl fp)) (fun s H C cl fp => ht1 s H C cl fp (h.blk (blkOk_by hb).kind s H C cl fp)) (fun s H C cl fp => he s H C cl fp (h.blk (blkOk_by hb).kind s H C cl fp)) hs hs1) (lc2_imp hg (ixC_ok hx) hg1 (ixC_ok hx1) (subC_ok hv))
end
end
end DL
set_option Elab.async false
set_option linter.all false
set_option maxRecDepth 100000
set_option maxHeartbeats 4000000
/-! statements -/
namespace DL
open PySem L2

inductive Out where
  | nx
  | bk
  | ct
  | rt (x : Vl)
abbrev SM := Call → List Slot → List MO → Option (Out × List Slot × List MO)
abbrev WM := Call → List Slot → List MO → Option (Vl × List Slot × List MO)
structure FinS (K : PySem.W.Frag) (os : Pr) (f : List Addr) (ρ : List Slot) (σ : L2.St) (H : Hp) (f' : List Addr) (ρ' : List Slot) (M' : List MO) (σ' : L2.St) (H' : Hp) : Prop where
  st : Step (Wr f ρ σ) H (Wr f' ρ' σ') H'
  rel : Rel K os f' ρ' M' σ' H'
  pre : ∀ (n : Nat) (a : Addr), f[n]? = some a → f'[n]? = some a
section
variable {K : PySem.W.Frag} {os : Pr} {f f1 f2 : List Addr} {ρ ρ1 ρ2 : List Slot} {σ σ1 σ2 : L2.St} {H H1 H2 : Hp} {M M1 M2 : List MO} {x : Vl} {v : V} {a : Addr}
theorem FinS.refl (R : Rel K os f ρ M σ H) : FinS K os f ρ σ H f ρ M σ H := ⟨Step.refl, R, fun _ _ h => h⟩
theorem FinS.trans (a : FinS K os f ρ σ H f1 ρ1 M1 σ1 H1) (b : FinS K os f1 ρ1 σ1 H1 f2 ρ2 M2 σ2 H2) : FinS K os f ρ σ H f2 ρ2 M2 σ2 H2 := ⟨a.st.trans b.st, b.rel, fun n x h => b.pre n x (a.pre n x h)⟩
theorem Fin.s (F : Fin K os f ρ σ H f1 M1 H1) : FinS K os f ρ σ H f1 ρ M1 σ H1 := ⟨F.st, F.rel, F.pre⟩
theorem FinG.s {ix : List Nat} (F : FinG K os f ρ M σ H ix ρ1 σ1) : FinS K os f ρ σ H f ρ1 M σ1 H := ⟨Step.less F.wr, F.rel, fun _ _ h => h⟩
end
def Post (K : PySem.W.Frag) (os : Pr) (f : List Addr) (ρ : List Slot) (σ : L2.St) (H : Hp) (E : Ends) (ρ' : List Slot) (M' : List MO) : Out → Prop
  | .nx => ∀ f' σ' H', FinS K os f ρ σ H f' ρ' M' σ' H' → E.nx σ' H'
  | .bk => ∀ f' σ' H', FinS K os f ρ σ H f' ρ' M' σ' H' → E.bk σ' H'
  | .ct => ∀ f' σ' H', FinS K os f ρ σ H f' ρ' M' σ' H' → E.ct σ' H'
  | .rt x => ∀ v f' σ' H', FinS K os f ρ σ H f' ρ' M' σ' H' → AOk K (Pu os (Wr f' ρ' σ')) f' σ' H' x v → E.rt v H'
def tS (K : PySem.W.Frag) (c : Call) (m : SM) : TS := fun E σ H => ∃ os f ρ M, Rel K os f ρ M σ H ∧ ∃ o ρ' M', m c ρ M = some (o, ρ', M') ∧ Post K os f ρ σ H E ρ' M' o
/-- an expression that may change an own list, too -/
def tW (K : PySem.W.Frag) (c : Call) (m : WM) : TE := fun σ H Q => ∃ os f ρ M, Rel K os f ρ M σ H ∧ ∃ x ρ' M', m c ρ M = some (x, ρ', M') ∧
  ∀ v f' H', FinS K os f ρ σ H f' ρ' M' σ H' → AOk K (Pu os (Wr f' ρ' σ)) f' σ H' x v → Q v H'
def wE (m : EM) : WM := fun c ρ M => (m c ρ M).map fun (x, M') => (x, ρ, M')
theorem w_of {K : PySem.W.Frag} {c : Call} {m : EM} : ∀ σ H Q, tW K c (wE m) σ H Q → tE K c m σ H Q := fun σ H Q h => by
  obtain ⟨os, f, ρ, M, R, x, ρ', M', e, q⟩ := h
  unfold wE at e
  rw [Option.map_eq_some_iff] at e
  obtain ⟨⟨y, M2⟩, e1, e2⟩ := e
  cases e2
  exact ⟨os, f, ρ, M, R, x, M', e1, fun v f' H' F r => q v f' H' F.s r⟩
theorem pe_w {X : Cx} {c : Call} {e : Expr} {m : EM} (h : PE X e (tE X.K c m)) : PE X e (tW X.K c (wE m)) := pe_imp h w_of
section
variable {K : PySem.W.Frag} {os : Pr} {f f1 f2 : List Addr} {ρ ρ1 ρ2 : List Slot} {σ σ1 σ2 : L2.St} {H H1 H2 : Hp} {M M1 M2 : List MO} {x : Vl} {v : V} {a : Addr} {E E2 : Ends} {o : Out}
theorem Post.trans (F : FinS K os f ρ σ H f1 ρ1 M1 σ1 H1) (p : Post K os f ρ σ H E ρ2 M2 o) : Post K os f1 ρ1 σ1 H1 E ρ2 M2 o := by
  cases o with
  | nx => exact fun f' σ' H' F2 => p f' σ' H' (F.trans F2)
  | bk => exact fun f' σ' H' F2 => p f' σ' H' (F.trans F2)
  | ct => exact fun f' σ' H' F2 => p f' σ' H' (F.trans F2)
  | rt x => exact fun v f' σ' H' F2 r => p v f' σ' H' (F.trans F2) r
theorem tS_from {c : Call} {m : SM} {M' : List MO} (F : FinS K os f ρ σ H f1 ρ1 M1 σ1 H1) (e : m c ρ1 M1 = some (o, ρ2, M')) (p : Post K os f ρ σ H E ρ2 M' o) : tS K c m E σ1 H1 :=
  ⟨os, f1, ρ1, M1, F.rel, o, ρ2, M', e, p.trans F⟩
end

/-! ### the machine's statements -/
def mNext : SM := fun _ ρ M => some (.nx, ρ, M)
def mBk : SM := fun _ ρ M => some (.bk, ρ, M)
def mCt : SM := fun _ ρ M => some (.ct, ρ, M)
def mNever : SM := fun _ _ _ => none
def mSeq (a b : SM) : SM := fun c ρ M => match a c ρ M with
  | some (.nx, ρ1, M1) => b c ρ1 M1
  | r => r
def mIfS (t : TM) (a b : SM) : SM := fun c ρ M => match t c ρ M with
  | some (k, M1) => if k = true then a c ρ M1 else b c ρ M1
  | none => none
def mRet (e : EM) : SM := fun c ρ M => match e c ρ M with
  | some (x, M1) => some (.rt x, ρ, M1)
  | none => none
def mDrop (e : EM) : SM := fun c ρ M => match e c ρ M with
  | some (_, M1) => some (.nx, ρ, M1)
  | none => none
/-- name = a value -/
def mSet (i : Nat) (w : WM) : SM := fun c ρ M => match w c ρ M with
  | some (.d y, ρ1, M1) => some (.nx, ρ1.set i (.d y), M1)
  | some (.r n, ρ1, M1) => some (.nx, ρ1.set i (.r n), M1)
  | _ => none
/-- targets = a value -/
def mSetT (t : Tg) (w : WM) : SM := fun c ρ M => match w c ρ M with
  | some (.d y, ρ1, M1) => match setTg t y ρ1 with
    | some ρ2 => some (.nx, ρ2, M1)
    | none => none
  | _ => none
/-- name = a new list, as its own -/
def mSetL (i : Nat) (m : LM) : SM := fun c ρ M => match m c ρ M with
  | some (xs, M1) => some (.nx, ρ.set i (.ol xs), M1)
  | none => none
def mSetD (i : Nat) (t : Bool) (m : Mm (List (D × D))) : SM := fun c ρ M => match m c ρ M with
  | some (es, M1) => some (.nx, ρ.set i (.od t es), M1)
  | none => none
/-- an own list | dict is a datum from here on -/
def mFrz (i : Nat) : SM := fun _ ρ M => match ρ[i]? with
  | some (.ol xs) => some (.nx, ρ.set i (.d (.list xs)), M)
  | some (.od _ es) => some (.nx, ρ.set i (.d (.dict es)), M)
  | _ => some (.nx, ρ, M)
def forGo (t : Tg) (b : SM) (c : Call) : List D → List Slot → List MO → Option (Out × List Slot × List MO)
  | [], ρ, M => some (.nx, ρ, M)
  | d :: ds, ρ, M => match setTg t d ρ with
    | none => none
    | some ρ1 => match b c ρ1 M with
      | some (.nx, ρ2, M2) => forGo t b c ds ρ2 M2
      | some (.ct, ρ2, M2) => forGo t b c ds ρ2 M2
      | some (.bk, ρ2, M2) => some (.nx, ρ2, M2)
      | some (.rt x, ρ2, M2) => some (.rt x, ρ2, M2)
      | none => none
def mFor (mi : IM) (t : Tg) (b : SM) : SM := fun c ρ M => match mi c ρ M with
  | some (items, M1) => forGo t b c items ρ M1
  | none => none
def whGo (t : TM) (b : SM) (c : Call) : Nat → List Slot → List MO → Option (Out × List Slot × List MO)
  | 0, _, _ => none
  | n + 1, ρ, M => match t c ρ M with
    | none => none
    | some (k, M1) => if k = true then
        match b c ρ M1 with
        | some (.nx, ρ2, M2) => whGo t b c n ρ2 M2
        | some (.ct, ρ2, M2) => whGo t b c n ρ2 M2
        | some (.bk, ρ2, M2) => some (.nx, ρ2, M2)
        | some (.rt x, ρ2, M2) => some (.rt x, ρ2, M2)
        | none => none
      else some (.nx, ρ, M1)
def mWhile (t : TM) (b : SM) : SM := fun c ρ M => whGo t b c lim ρ M

section
variable {X : Cx} {sc fs : Scope} {N : List Str} {c : Call} {st : Stmt} {sts rest : List Stmt} {e tg : Expr} {pos pos' : Pos} {a b : SM} {t : TM} {me : EM} {w : WM} {ml : LM} {g : TG} {tm : Tg}
theorem ps_imp {u u' : TS} (h : PS X st u) (i : ∀ E σ H, u' E σ H → u E σ H) : PS X st u' := ⟨fun pins s σ H E I q => h.run pins s σ H E I (i E σ H q)⟩
theorem pss_imp {u u' : TS} (h : PSs X sts u) (i : ∀ E σ H, u' E σ H → u E σ H) : PSs X sts u' := ⟨fun pins s σ H E I q => h.run pins s σ H E I (i E σ H q)⟩
theorem next_imp {K : PySem.W.Frag} : ∀ E σ H, tS K c mNext E σ H → tNext E σ H := fun E σ H h => by
  obtain ⟨os, f, ρ, M, R, o, ρ', M', e, q⟩ := h
  cases e
  exact q f σ H (FinS.refl R)
theorem pss_nilM : PSs X [] (tS X.K c mNext) := pss_imp pss_nil next_imp
theorem ps_passM : PS X (.Pass pos) (tS X.K c mNext) := ps_imp ps_pass next_imp
theorem ps_breakM : PS X (.Break pos) (tS X.K c mBk) := ps_imp ps_break fun E σ H h => by
  obtain ⟨os, f, ρ, M, R, o, ρ', M', e, q⟩ := h
  cases e
  exact q f σ H (FinS.refl R)
theorem ps_continueM : PS X (.Continue pos) (tS X.K c mCt) := ps_imp ps_continue fun E σ H h => by
  obtain ⟨os, f, ρ, M, R, o, ρ', M', e, q⟩ := h
  cases e
  exact q f σ H (FinS.refl R)
theorem ps_neverM : PS X st (tS X.K c mNever) := ps_imp ps_never fun E σ H h => by
  obtain ⟨os, f, ρ, M, R, o, ρ', M', e, q⟩ := h
  cases e
theorem pss_neverM : PSs X sts (tS X.K c mNever) := pss_imp pss_never fun E σ H h => by
  obtain ⟨os, f, ρ, M, R, o, ρ', M', e, q⟩ := h
  cases e
theorem seq_imp {K : PySem.W.Frag} : ∀ E σ H, tS K c (mSeq a b) E σ H → tSeq (tS K c a) (tS K c b) E σ H := fun E σ H h => by
  obtain ⟨os, f, ρ, M, R, o, ρ', M', e, q⟩ := h
  unfold mSeq at e
  split at e
  · rename_i ρ1 M1 e1
    exact ⟨os, f, ρ, M, R, .nx, ρ1, M1, e1, fun f1 σ1 H1 F1 => tS_from F1 e q⟩
  · rename_i r h1
    refine ⟨os, f, ρ, M, R, o, ρ', M', e, ?_⟩
    cases o with
    | nx => exact absurd e (h1 ρ' M')
    | bk => exact q
    | ct => exact q
    | rt x => exact q
theorem pss_consM (h1 : PS X st (tS X.K c a)) (h2 : PSs X rest (tS X.K c b)) : PSs X (st :: rest) (tS X.K c (mSeq a b)) := pss_imp (pss_cons h1 h2) seq_imp
theorem pss_oneM (h1 : PS X st (tS X.K c a)) : PSs X [st] (tS X.K c a) := pss_one h1
theorem ps_ifM {p q : List Stmt} (hc : PT X e (tT X.K c t)) (ha : PSs X p (tS X.K c a)) (hb : PSs X q (tS X.K c b)) : PS X (.If e p q pos) (tS X.K c (mIfS t a b)) := ps_imp (ps_if hc ha hb) fun E σ H h => by
  obtain ⟨os, f, ρ, M, R, o, ρ', M', e, q⟩ := h
  unfold mIfS at e
  split at e
  · rename_i k M1 e1
    refine ⟨os, f, ρ, M, R, k, M1, e1, fun f1 H1 F1 => ?_⟩
    cases k with
    | true => exact tS_from F1.s e q
    | false => exact tS_from F1.s e q
  · cases e
theorem ps_retM (he : PE X e (tE X.K c me)) : PS X (.Return (some e) pos) (tS X.K c (mRet me)) := ps_imp (ps_ret he) fun E σ H h => by
  obtain ⟨os, f, ρ, M, R, o, ρ', M', e, q⟩ := h
  unfold mRet at e
  split at e
  · rename_i x M1 e1
    cases e
    exact ⟨os, f, ρ, M, R, x, _, e1, fun v f1 H1 F1 r => q v f1 σ H1 F1.s r⟩
  · cases e
theorem ps_retNM : PS X (.Return none pos) (tS X.K c (mRet (mC .none))) := ps_imp ps_retN fun E σ H h => by
  obtain ⟨os, f, ρ, M, R, o, ρ', M', e, q⟩ := h
  cases e
  exact q .non f σ H (FinS.refl R) .non
theorem ps_dropM (he : PE X e (tE X.K c me)) (hs : swapsWith e none pos.line X.env = pure false := by rfl) : PS X (.Expr e pos) (tS X.K c (mDrop me)) := ps_imp (ps_expr he hs) fun E σ H h => by
  obtain ⟨os, f, ρ, M, R, o, ρ', M', e, q⟩ := h
  unfold mDrop at e
  split at e
  · rename_i x M1 e1
    cases e
    exact ⟨os, f, ρ, M, R, x, _, e1, fun v f1 H1 F1 r => q f1 σ H1 F1.s⟩
  · cases e
def locC (sc fs : Scope) (N : List Str) (i : Nat) (x : Str) : Bool := (N[i]? == some x) && ((sc.names.lookup x == some .local) || ((sc.names.lookup x == some .cell) && (fs.names.lookup x == some .cell)))
theorem pg_nm {i : Nat} {x : Str} {p : Pos} (h : CtxOk X sc fs N) (e : locC sc fs N i x = true) : PG X (.Name x p) (gName i) := by
  simp only [locC, Bool.and_eq_true, Bool.or_eq_true, beq_iff_eq] at e
  refine pg_name (by rw [h.names]; exact h.nd) (by rw [h.names]; exact e.1) ?_ ?_
  · show X.env.scope.names.lookup x = some .local ∨ X.env.scope.names.lookup x = some .cell
    rw [h.scope]
    exact e.2.elim .inl fun z => .inr z.1
  · rw [h.scope]
    exact e.2.elim .inr fun z => .inl (h.fn x z.2)
/-- the value that is stored -/
theorem set_imp {i : Nat} {K : PySem.W.Frag} : ∀ E σ H, tS K c (mSet i w) E σ H → tAsg (tW K c w) (gName i) E σ H := fun E σ H h => by
  obtain ⟨os, f, ρ, M, R, o, ρ', M', e, q⟩ := h
  unfold mSet at e
  split at e
  · rename_i y ρ1 M1 e1
    cases e
    refine ⟨os, f, ρ, M, R, .d y, ρ1, _, e1, fun v f1 H1 F1 r => ?_⟩
    exact q f1 _ H1 (F1.trans (FinG.asg (x := .d y) F1.rel rfl r).s)
  · rename_i y ρ1 M1 e1
    cases e
    refine ⟨os, f, ρ, M, R, .r y, ρ1, _, e1, fun v f1 H1 F1 r => ?_⟩
    exact q f1 _ H1 (F1.trans (FinG.asg (x := .r y) F1.rel rfl r).s)
  · cases e
theorem setT_imp {K : PySem.W.Frag} (hg : TgOk K g tm) : ∀ E σ H, tS K c (mSetT tm w) E σ H → tAsg (tW K c w) g E σ H := fun E σ H h => by
  obtain ⟨os, f, ρ, M, R, o, ρ', M', e, q⟩ := h
  unfold mSetT at e
  split at e
  · rename_i y ρ1 M1 e1
    split at e
    · rename_i ρ2 e2
      cases e
      refine ⟨os, f, ρ, M, R, .d y, ρ1, _, e1, fun v f1 H1 F1 r => ?_⟩
      exact hg os f1 ρ1 _ σ H1 y v _ _ F1.rel r e2 fun σ' F2 => q f1 σ' H1 (F1.trans F2.s)
    · cases e
  · cases e
/-- a new list becomes a name's own -/
theorem FinL.own {K : PySem.W.Frag} {os : Pr} {f f1 : List Addr} {ρ : List Slot} {σ : L2.St} {H H1 : Hp} {M1 : List MO} {L : Addr} {mo : MO} {i : Nat} {M : List MO} (R : Rel K os f ρ M σ H) (F : FinL K os f ρ σ H L mo f1 M1 H1) : FinS K os f ρ σ H f1 (ρ.set i mo.slot) M1 (σ.set i (some (.ref L))) H1 := by
  have na : ¬ os L := fun z => by
    obtain ⟨o, e⟩ := R.o4 L z
    rw [F.new] at e
    cases e
  refine ⟨⟨fun a o h n => F.st.keep a o h n, fun b m => ?_⟩, F.rel.take na F.obj, F.pre⟩
  rcases m with m | ⟨j, m⟩
  · exact F.st.new b (.inl m)
  · rcases OwnI.of_set R.len m with ⟨_, _, z⟩ | ⟨_, m⟩
    · injection z with z
      subst z
      exact .inr F.new
    · exact F.st.new b (.inr ⟨j, m⟩)
theorem setL_imp {i : Nat} {K : PySem.W.Frag} : ∀ E σ H, tS K c (mSetL i ml) E σ H → tAsg (tL K c ml) (gName i) E σ H := fun E σ H h => by
  obtain ⟨os, f, ρ, M, R, o, ρ', M', e, q⟩ := h
  unfold mSetL at e
  split at e
  · rename_i xs M1 e1
    cases e
    exact ⟨os, f, ρ, M, R, xs, _, e1, fun L f1 H1 F1 => q f1 _ H1 (F1.own R)⟩
  · cases e
theorem setD_imp {i : Nat} {K : PySem.W.Frag} {k : Bool} {md : Mm (List (D × D))} : ∀ E σ H, tS K c (mSetD i k md) E σ H → tAsg (tD K k c md) (gName i) E σ H := fun E σ H h => by
  obtain ⟨os, f, ρ, M, R, o, ρ', M', e, q⟩ := h
  unfold mSetD at e
  split at e
  · rename_i xs M1 e1
    cases e
    exact ⟨os, f, ρ, M, R, xs, _, e1, fun L f1 H1 F1 => q f1 _ H1 (F1.own R)⟩
  · cases e
theorem ps_asgI {te : TE} (h : PE X e te) (hg : PG X tg g) (i : ∀ E σ H, tS X.K c a E σ H → tAsg te g E σ H) (hs : swapsWithSole [tg] e pos.line X.env = pure false) (hw : swappedStores [tg] e X.env = pure none) (h1 : (assignEach [tg] X.env).map (·.2) = [assign tg X.env]) :
    PS X (.Assign [tg] e pos) (tS X.K c a) := ps_imp (ps_asg h hg hs hw h1) i
/-- an own list | dict is frozen -/
theorem frz_s {K : PySem.W.Frag} {os : Pr} {f : List Addr} {ρ ρ' : List Slot} {σ : L2.St} {H : Hp} {M M' : List MO} {o : Out} {i : Nat} (R : Rel K os f ρ M σ H) (e : mFrz i c ρ M = some (o, ρ', M')) : o = .nx ∧ FinS K os f ρ σ H f ρ' M' σ H := by
  unfold mFrz at e
  split at e
  · rename_i xs e1
    cases e
    obtain ⟨h1, h2, _⟩ := R.freeze (mo := .lst xs) e1
    exact ⟨rfl, h2, h1, fun _ _ h => h⟩
  · rename_i t xs e1
    cases e
    obtain ⟨h1, h2, _⟩ := R.freeze (mo := .dct t xs) e1
    exact ⟨rfl, h2, h1, fun _ _ h => h⟩
  · cases e
    exact ⟨rfl, FinS.refl R⟩
theorem frz_imp {i : Nat} {K : PySem.W.Frag} : ∀ E σ H, tS K c (mSeq (mFrz i) a) E σ H → tS K c a E σ H := fun E σ H h => by
  obtain ⟨os, f, ρ, M, R, o, ρ', M', e, q⟩ := h
  unfold mSeq at e
  split at e
  · rename_i ρ1 M1 e1
    exact tS_from (frz_s R e1).2 e q
  · rename_i r h1
    obtain ⟨rfl, F⟩ := frz_s R e
    exact absurd e (h1 ρ' M')
theorem ps_frzM {i : Nat} (h : PS X st (tS X.K c a)) : PS X st (tS X.K c (mSeq (mFrz i) a)) := ps_imp h frz_imp
theorem pss_frzM {i : Nat} (h : PSs X sts (tS X.K c a)) : PSs X sts (tS X.K c (mSeq (mFrz i) a)) := pss_imp h frz_imp
theorem for_imp {K : PySem.W.Frag} {mi : IM} (hg : TgOk K g tm) : ∀ E σ H, tS K c (mFor mi tm b) E σ H → tFor (tI K c mi) g (tS K c b) E σ H := fun E σ H h => by
  obtain ⟨os, f, ρ, M, R, o, ρ', M', e, q⟩ := h
  unfold mFor at e
  split at e
  · rename_i items M1 e1
    refine ⟨os, f, ρ, M, R, items, M1, e1, fun J G f1 H1 F1 it hs g0 => ?_⟩
    refine ⟨fun i m σ2 H2 => m = items.length - i ∧ ∃ f2 ρ2 M2, FinS K os f1 ρ σ H1 f2 ρ2 M2 σ2 H2 ∧ forGo tm b c (items.drop i) ρ2 M2 = some (o, ρ', M'), ⟨_, rfl, f1, ρ, M1, FinS.refl F1.rel, e⟩, ?_⟩
    rintro i m σ2 H2 ⟨rfl, f2, ρ2, M2, F2, e2⟩
    have F12 := F1.s.trans F2
    have g2 := hs os _ _ _ _ F2.st g0
    by_cases hi : i < items.length
    · rw [List.drop_eq_getElem_cons hi] at e2
      unfold forGo at e2
      split at e2
      · cases e2
      · rename_i ρ3 e3
        obtain ⟨go, yl⟩ := it.go os f2 ρ2 M2 σ2 H2 i _ F2.rel g2 (List.getElem?_eq_getElem hi)
        refine .inr ⟨go, fun σ' H' => ∃ f' ρ4 M4, FinS K os f1 ρ σ H1 f' ρ4 M4 σ' H' ∧ forGo tm b c (items.drop (i + 1)) ρ4 M4 = some (o, ρ', M'), fun σ' H' ⟨f', ρ4, M4, F4, e4⟩ => ⟨items.length - (i + 1), by omega, rfl, f', ρ4, M4, F4, e4⟩, fun x H3 y => ?_⟩
        obtain ⟨F3, r3⟩ := yl x H3 y
        refine hg os f2 ρ2 M2 σ2 H3 _ x ρ3 _ F3.rel r3 e3 fun σ3 F4 => ?_
        have F5 := (F2.trans F3.s).trans F4.s
        split at e2
        · rename_i ρ5 M5 e5
          exact ⟨os, f2, ρ3, M2, F4.rel, .nx, ρ5, M5, e5, fun f' σ' H' F6 => ⟨f', ρ5, M5, F5.trans F6, e2⟩⟩
        · rename_i ρ5 M5 e5
          exact ⟨os, f2, ρ3, M2, F4.rel, .ct, ρ5, M5, e5, fun f' σ' H' F6 => ⟨f', ρ5, M5, F5.trans F6, e2⟩⟩
        · rename_i ρ5 M5 e5
          cases e2
          exact ⟨os, f2, ρ3, M2, F4.rel, .bk, _, _, e5, fun f' σ' H' F6 => q f' σ' H' (F1.s.trans (F5.trans F6))⟩
        · rename_i x ρ5 M5 e5
          cases e2
          exact ⟨os, f2, ρ3, M2, F4.rel, .rt x, _, _, e5, fun v f' σ' H' F6 r => q v f' σ' H' (F1.s.trans (F5.trans F6)) r⟩
        · cases e2
    · rw [List.drop_eq_nil_of_le (by omega)] at e2
      cases e2
      exact .inl ⟨it.stop _ H2 i g2 (by omega), q f2 σ2 H2 F12⟩
  · cases e
theorem ps_forM {mi : IM} {iter : Expr} (h : CtxOk X sc fs N) (hi : PI X tg iter (tI X.K c mi)) (hp : PG X tg g) (hg : TgOk X.K g tm) (hb : PSs X sts (tS X.K c b)) (hs : ∀ x, foldedSetIterable iter X.env x = pure x := by intro _; rfl) :
    PS X (.For tg iter sts [] pos) (tS X.K c (mFor mi tm b)) := ps_imp (ps_for h.po h.calm hi hp hb hs) (for_imp hg)
theorem while_imp {K : PySem.W.Frag} : ∀ E σ H, tS K c (mWhile t b) E σ H → tWhile (tT K c t) (tS K c b) E σ H := fun E σ H h => by
  obtain ⟨os, f, ρ, M, R, o, ρ', M', e, q⟩ := h
  unfold mWhile at e
  refine ⟨fun n σ2 H2 => ∃ f2 ρ2 M2, FinS K os f ρ σ H f2 ρ2 M2 σ2 H2 ∧ whGo t b c n ρ2 M2 = some (o, ρ', M'), ⟨lim, f, ρ, M, FinS.refl R, e⟩, ?_⟩
  rintro n σ2 H2 ⟨f2, ρ2, M2, F2, e2⟩
  cases n with
  | zero => cases e2
  | succ n =>
    unfold whGo at e2
    split at e2
    · cases e2
    · rename_i k M3 e3
      refine ⟨os, f2, ρ2, M2, F2.rel, k, M3, e3, fun f3 H3 F3 => ?_⟩
      have F4 := F2.trans F3.s
      cases k with
      | false =>
        rw [if_neg Bool.false_ne_true] at e2
        cases e2
        show E.nx σ2 H3
        exact q f3 σ2 H3 F4
      | true =>
        rw [if_pos rfl] at e2
        refine ⟨fun σ' H' => ∃ f' ρ4 M4, FinS K os f ρ σ H f' ρ4 M4 σ' H' ∧ whGo t b c n ρ4 M4 = some (o, ρ', M'), fun σ' H' z => ⟨n, Nat.lt_succ_self n, z⟩, ?_⟩
        split at e2
        · rename_i ρ5 M5 e5
          exact ⟨os, f3, ρ2, M3, F3.rel, .nx, ρ5, M5, e5, fun f' σ' H' F6 => ⟨f', ρ5, M5, F4.trans F6, e2⟩⟩
        · rename_i ρ5 M5 e5
          exact ⟨os, f3, ρ2, M3, F3.rel, .ct, ρ5, M5, e5, fun f' σ' H' F6 => ⟨f', ρ5, M5, F4.trans F6, e2⟩⟩
        · rename_i ρ5 M5 e5
          cases e2
          exact ⟨os, f3, ρ2, M3, F3.rel, .bk, _, _, e5, fun f' σ' H' F6 => q f' σ' H' (F4.trans F6)⟩
        · rename_i x ρ5 M5 e5
          cases e2
          exact ⟨os, f3, ρ2, M3, F3.rel, .rt x, _, _, e5, fun v f' σ' H' F6 r => q v f' σ' H' (F4.trans F6) r⟩
        · cases e2
theorem ps_whileM (h : CtxOk X sc fs N) (hc : PT X e (tT X.K c t)) (hb : PSs X sts (tS X.K c b)) : PS X (.While e sts [] pos) (tS X.K c (mWhile t b)) := ps_imp (ps_while h.po hc hb) while_imp
end
end DL
set_option Elab.async false
set_option linter.all false
set_option maxRecDepth 100000
set_option maxHeartbeats 4000000
/-! lists and dicts that change; several stores at once -/
namespace DL
open PySem L2

section
variable {K : PySem.W.Frag} {os os1 P P1 W : Pr} {f f1 f2 : List Addr} {ρ ρ1 ρ2 : List Slot} {σ σ1 σ2 : L2.St} {H H0 H1 H2 : Hp} {M M1 M2 : List MO} {a : Addr}
theorem pu_f : Pu (fun _ => False) W = W := by
  funext b
  exact propext ⟨fun m => m.elim False.elim id, .inr⟩
theorem RV.mv {d : D} {v : V} (s : Step P H P1 H1) (r : RV K P H d v) : RV K P1 H1 d v := by
  rw [← pu_f (W := P)] at r
  have := RV.step s r
  rwa [pu_f] at this
theorem RVs.mv {d : List D} {v : List V} (s : Step P H P1 H1) (r : RVs K P H d v) : RVs K P1 H1 d v := by
  rw [← pu_f (W := P)] at r
  have := RVs.step s r
  rwa [pu_f] at this
theorem ObjAt.mv {mo : MO} (s : Step P H P1 H1) (e : H1 a = H a) (r : ObjAt K P H a mo) : ObjAt K P1 H1 a mo := by
  rw [← pu_f (W := P)] at r
  have := ObjAt.step s e r
  rwa [pu_f] at this
theorem AOk.mv {x : Vl} {v : V} (s : Step P H P1 H1) (hp : ∀ (n : Nat) (a : Addr), f[n]? = some a → f1[n]? = some a) (r : AOk K P f σ H x v) : AOk K P1 f1 σ H1 x v := by
  cases x with
  | d x => exact RV.mv s r
  | r n =>
    obtain ⟨a, e, q⟩ := r
    exact ⟨a, e, hp n a q⟩
  | v i => exact r

/-! ### a list that a name holds, or that stands in the store -/
def getL (ρ : List Slot) (M : List MO) (i : Nat) : Option (List D) := match ρ[i]? with
  | some (.ol xs) => some xs
  | some (.r n) => match M[n]? with
    | some (.lst xs) => some xs
    | _ => none
  | _ => none
def putLρ (ρ : List Slot) (i : Nat) (xs : List D) : List Slot := match ρ[i]? with
  | some (.ol _) => ρ.set i (.ol xs)
  | _ => ρ
def putLM (ρ : List Slot) (M : List MO) (i : Nat) (xs : List D) : List MO := match ρ[i]? with
  | some (.r n) => M.set n (.lst xs)
  | _ => M
theorem list_at {i : Nat} {xs : List D} (R : Rel K os f ρ M σ H) (h : getL ρ M i = some xs) : ∃ a vs, σ[i]? = some (some (.ref a)) ∧ H a = some (.lst vs) ∧ RVs K (Pu os (Wr f ρ σ)) H xs vs ∧
    ∀ ds us, RVs K (Pu os (Wr f ρ σ)) H ds us → FinS K os f ρ σ H f (putLρ ρ i ds) (putLM ρ M i ds) σ (upd H a (.lst us)) := by
  unfold getL at h
  split at h
  · rename_i ys e
    cases h
    obtain ⟨v, e1, a, e2, vs, e3, r⟩ := R.sl i _ e (fun z => nomatch z)
    subst e2
    refine ⟨a, vs, e1, e3, r, fun ds us r2 => ?_⟩
    obtain ⟨h1, h2⟩ := R.write (mo := .lst xs) (mo' := .lst ds) (o := .lst us) e e1 ⟨us, upd_same, r2.step (Step.write (.inr ⟨i, ⟨_, e, rfl⟩, e1⟩))⟩
    unfold putLρ putLM
    rw [e]
    exact ⟨h2, h1, fun _ _ h => h⟩
  · rename_i n e
    split at h
    · rename_i ys e4
      cases h
      obtain ⟨v, e1, a, e2, e5⟩ := R.sl i _ e (fun z => nomatch z)
      subst e2
      obtain ⟨b, e6, vs, e3, r⟩ := R.ob n _ e4
      rw [e5] at e6
      cases e6
      refine ⟨a, vs, e1, e3, r, fun ds us r2 => ?_⟩
      obtain ⟨h1, h2⟩ := R.writeS (mo' := .lst ds) (o := .lst us) e5 ⟨us, upd_same, r2.step (Step.write (.inl (List.mem_of_getElem? e5)))⟩
      unfold putLρ putLM
      rw [e]
      exact ⟨h2, h1, fun _ _ h => h⟩
    · cases h
  · cases h
end

def mApp1 (i : Nat) (w : WM) : SM := fun c ρ M => match getL ρ M i, w c ρ M with
  | some _, some (.d y, ρ1, M1) => match getL ρ1 M1 i with
    | some xs => if xs.length < lim then some (.nx, putLρ ρ1 i (xs ++ [y]), putLM ρ1 M1 i (xs ++ [y])) else none
    | none => none
  | _, _ => none
def mExt (i : Nat) (m : LM) : SM := fun c ρ M => match getL ρ M i, m c ρ M with
  | some _, some (ys, M1) => match getL ρ M1 i with
    | some xs => if xs.length + ys.length ≤ lim then some (.nx, putLρ ρ i (xs ++ ys), putLM ρ M1 i (xs ++ ys)) else none
    | none => none
  | _, _ => none
def mPopW (i : Nat) : WM := fun _ ρ M => match getL ρ M i with
  | some xs => match xs[xs.length - 1]? with
    | some y => some (.d y, putLρ ρ i xs.dropLast, putLM ρ M i xs.dropLast)
    | none => none
  | none => none
def mPopAtW (i : Nat) (e : EM) : WM := fun c ρ M => match getL ρ M i, e c ρ M with
  | some _, some (x, M1) => match peek ρ M1 x, getL ρ M1 i with
    | some (.int k), some xs => if xs.length ≤ lim then match ixN xs.length k with
      | some j => match xs[j]? with
        | some y => some (.d y, putLρ ρ i (xs.eraseIdx j), putLM ρ M1 i (xs.eraseIdx j))
        | none => none
      | none => none else none
    | _, _ => none
  | _, _ => none
/-- name[e] = w -/
def mSetIx (i : Nat) (e : EM) (w : WM) : SM := fun c ρ M => match w c ρ M with
  | some (.d y, ρ1, M1) => match getL ρ1 M1 i, e c ρ1 M1 with
    | some _, some (x, M2) => match peek ρ1 M2 x, getL ρ1 M2 i with
      | some (.int k), some xs => match ixN xs.length k with
        | some j => some (.nx, putLρ ρ1 i (xs.set j y), putLM ρ1 M2 i (xs.set j y))
        | none => none
      | _, _ => none
    | _, _ => none
  | _ => none
section
variable {X : Cx} {sc fs : Scope} {N : List Str} {c : Call} {e : Expr} {i : Nat} {x : Str} {p pos apos cpos : Pos} {w : WM} {me : EM} {ml : LM} {K : PySem.W.Frag}
theorem pe_nmV (h : CtxOk X sc fs N) (e : nmC sc N i x = true) : PE X (.Name x pos) (tVar i) := by
  simp only [nmC, Bool.and_eq_true, Bool.not_eq_true', beq_iff_eq] at e
  exact pe_var (by rw [h.names]; exact e.1.1.2) (by rw [h.scope]; exact visC_ok e.1.1.1) e.1.2 e.2
theorem ty_list {H : Hp} {a : Addr} {vs : List V} (h : H a = some (.lst vs)) : tyV K "list" (.ref a) H := .inl ⟨rfl, vs, .inl (.inl h)⟩
def tOne (te : TE) : TA := fun σ H Q => te σ H fun x H1 => Q [x] H1
theorem pa_one {te : TE} (h : PE X e te) (hs : starEach [e] X.env = [(false, eval e X.env)]) : PA X [e] (tOne te) := pa_imp (pa_cons h pa_nil hs) fun σ H Q q => q
theorem RVs.snoc {P : Pr} {H : Hp} {ds : List D} {vs : List V} {d : D} {v : V} (r : RVs K P H ds vs) (q : RV K P H d v) : RVs K P H (ds ++ [d]) (vs ++ [v]) := r.append (.cons q .nil)
theorem app_imp : ∀ E σ H, tS K c (mApp1 i w) E σ H → tDrop (tBM K "list" rAppend (tVar i) (tOne (tW K c w))) E σ H := fun E σ H h => by
  obtain ⟨os, f, ρ, M, R, o, ρ', M', e, q⟩ := h
  unfold mApp1 at e
  split at e
  · rename_i xs y ρ1 M1 e1 e2
    split at e
    · rename_i ys e3
      split at e
      · rename_i hl
        cases e
        obtain ⟨a, vs, h1, h2, h3, _⟩ := list_at R e1
        refine ⟨_, h1, ty_list h2, os, f, ρ, M, R, .d y, ρ1, M1, e2, fun v f1 H1 F1 r => ?_⟩
        obtain ⟨b, us, g1, g2, g3, g4⟩ := list_at F1.rel e3
        rw [h1] at g1
        cases g1
        exact ⟨a, us, v, rfl, rfl, g2, by rw [← g3.length]; exact lim_lt (Nat.le_of_lt hl), q f1 σ _ (F1.trans (g4 _ _ (g3.snoc r)))⟩
      · cases e
    · cases e
  · cases e
theorem ps_appM (h : CtxOk X sc fs N) (hn : nmC sc N i x = true) (he : PE X e (tW X.K c w)) (hs : starEach [e] X.env = [(false, eval e X.env)])
    (hbase : attributeBase (.Name x p) "append" X.env (eval (.Name x p) X.env) = eval (.Name x p) X.env)
    (hfew : ((backTo cpos (starEach [e] X.env)).all (fun x => !x.1) && (backToKw cpos (keywordEach [] X.env)).all (fun x => x.1.isSome) && decide (([e] : List Expr).length + ([] : List Keyword).length + (if ([] : List Keyword).isEmpty then 0 else 1) < 30)) = true)
    (hline : (apos.endLine == cpos.line) = true) : PS X (.Expr (.Call (.Attribute (.Name x p) "append" apos) [e] [] cpos) pos) (tS X.K c (mApp1 i w)) :=
  ps_imp (ps_expr (pe_bm PySem.F.plainAttrs_list PySem.F.slot_list_append PySem.F.type_list_append mt_append (pe_nmV h hn) (pa_one he hs) hbase hfew hline hs rfl) rfl) app_imp
theorem ext_imp : ∀ E σ H, tS K c (mExt i ml) E σ H → tDrop (tBM K "list" rExtend (tVar i) (tOne (tL K c ml))) E σ H := fun E σ H h => by
  obtain ⟨os, f, ρ, M, R, o, ρ', M', e, q⟩ := h
  unfold mExt at e
  split at e
  · rename_i xs ys M1 e1 e2
    split at e
    · rename_i xs2 e3
      split at e
      · rename_i hl
        cases e
        obtain ⟨a, vs, h1, h2, h3, _⟩ := list_at R e1
        refine ⟨_, h1, ty_list h2, os, f, ρ, M, R, ys, M1, e2, fun L f1 H1 F1 => ?_⟩
        obtain ⟨zs, z1, z2⟩ := F1.obj
        have R1 : Rel K os f1 ρ M1 σ H1 := F1.rel.weak less_add
        obtain ⟨b, us, g1, g2, g3, g4⟩ := list_at R1 e3
        rw [h1] at g1
        cases g1
        have z3 : RVs K (Pu os (Wr f1 ρ σ)) H1 ys zs := z2.less fun b m => m.elim (fun m => .inl (less_add b m)) .inr
        refine ⟨a, L, us, zs, rfl, rfl, g2, z1, by rw [← g3.length, ← z2.length]; exact lim_le hl, ?_⟩
        exact q f1 σ _ (FinS.trans ⟨F1.st, R1, F1.pre⟩ (g4 _ _ (g3.append z3)))
      · cases e
    · cases e
  · cases e
theorem ps_extM (h : CtxOk X sc fs N) (hn : nmC sc N i x = true) (he : PE X e (tL X.K c ml)) (hs : starEach [e] X.env = [(false, eval e X.env)])
    (hbase : attributeBase (.Name x p) "extend" X.env (eval (.Name x p) X.env) = eval (.Name x p) X.env)
    (hfew : ((backTo cpos (starEach [e] X.env)).all (fun x => !x.1) && (backToKw cpos (keywordEach [] X.env)).all (fun x => x.1.isSome) && decide (([e] : List Expr).length + ([] : List Keyword).length + (if ([] : List Keyword).isEmpty then 0 else 1) < 30)) = true)
    (hline : (apos.endLine == cpos.line) = true) : PS X (.Expr (.Call (.Attribute (.Name x p) "extend" apos) [e] [] cpos) pos) (tS X.K c (mExt i ml)) :=
  ps_imp (ps_expr (pe_bm PySem.F.plainAttrs_list PySem.F.slot_list_extend PySem.F.type_list_extend mt_extend (pe_nmV h hn) (pa_one he hs) hbase hfew hline hs rfl) rfl) ext_imp
theorem pop_imp : ∀ σ H Q, tW K c (mPopW i) σ H Q → tBM0 K "list" rPop (tVar i) σ H Q := fun σ H Q h => by
  obtain ⟨os, f, ρ, M, R, z, ρ', M', e, q⟩ := h
  unfold mPopW at e
  split at e
  · rename_i xs e1
    split at e
    · rename_i y e2
      cases e
      obtain ⟨a, vs, h1, h2, h3, h4⟩ := list_at R e1
      obtain ⟨v, h5, h6⟩ := h3.get e2
      rw [h3.length] at h5
      have F := h4 xs.dropLast vs.dropLast (by
        rw [List.dropLast_eq_take, List.dropLast_eq_take, h3.length]
        exact h3.take _)
      exact ⟨_, h1, ty_list h2, a, vs, v, rfl, rfl, h2, h5, q v f _ F (RV.step F.st h6)⟩
    · cases e
  · cases e
theorem pe_popM (h : CtxOk X sc fs N) (hn : nmC sc N i x = true)
    (hbase : attributeBase (.Name x p) "pop" X.env (eval (.Name x p) X.env) = eval (.Name x p) X.env) (hline : (apos.endLine == cpos.line) = true) : PE X (.Call (.Attribute (.Name x p) "pop" apos) [] [] cpos) (tW X.K c (mPopW i)) :=
  pe_imp (pe_bm0 PySem.F.plainAttrs_list PySem.F.slot_list_pop PySem.F.type_list_pop mt_pop (pe_nmV h hn) hbase hline) pop_imp
theorem popAt_imp : ∀ σ H Q, tW K c (mPopAtW i me) σ H Q → tBM K "list" rPopAt (tVar i) (tOne (tE K c me)) σ H Q := fun σ H Q h => by
  obtain ⟨os, f, ρ, M, R, z, ρ', M', e, q⟩ := h
  unfold mPopAtW at e
  split at e
  · rename_i xs0 y M1 e1 e2
    split at e
    · rename_i k xs e3 e4
      split at e
      · rename_i hl
        split at e
        · rename_i j e5
          split at e
          · rename_i w e6
            cases e
            obtain ⟨a, vs, h1, h2, h3, _⟩ := list_at R e1
            refine ⟨_, h1, ty_list h2, os, f, ρ, M, R, y, M1, e2, fun v f1 H1 F1 r => ?_⟩
            obtain ⟨b, us, g1, g2, g3, g4⟩ := list_at F1.rel e4
            rw [h1] at g1
            cases g1
            have ek := (peek_ok F1.rel r e3).int
            subst ek
            obtain ⟨u, h5, h6⟩ := g3.get e6
            obtain ⟨b1, b2, b3, b4⟩ := ixN_seq e5
            have hl' : xs.length ≤ 1000000 := hl
            have F := g4 (xs.eraseIdx j) (us.eraseIdx j) (g3.eraseIdx j)
            exact ⟨a, us, k, j, u, rfl, rfl, g2, by omega, by omega, by rw [← g3.length]; exact b1, h5, q u f1 _ (F1.s.trans F) (RV.step F.st h6)⟩
          · cases e
        · cases e
      · cases e
    · cases e
  · cases e
theorem pe_popAtM (h : CtxOk X sc fs N) (hn : nmC sc N i x = true) (he : PE X e (tE X.K c me)) (hs : starEach [e] X.env = [(false, eval e X.env)])
    (hbase : attributeBase (.Name x p) "pop" X.env (eval (.Name x p) X.env) = eval (.Name x p) X.env)
    (hfew : ((backTo cpos (starEach [e] X.env)).all (fun x => !x.1) && (backToKw cpos (keywordEach [] X.env)).all (fun x => x.1.isSome) && decide (([e] : List Expr).length + ([] : List Keyword).length + (if ([] : List Keyword).isEmpty then 0 else 1) < 30)) = true)
    (hline : (apos.endLine == cpos.line) = true) : PE X (.Call (.Attribute (.Name x p) "pop" apos) [e] [] cpos) (tW X.K c (mPopAtW i me)) :=
  pe_imp (pe_bm PySem.F.plainAttrs_list PySem.F.slot_list_pop PySem.F.type_list_pop mt_popAt (pe_nmV h hn) (pa_one he hs) hbase hfew hline hs rfl) popAt_imp
theorem setIx_imp : ∀ E σ H, tS K c (mSetIx i me w) E σ H → tAsg (tW K c w) (L2.gSub (tVar i) (tE K c me) rSetL) E σ H := fun E σ H h => by
  obtain ⟨os, f, ρ, M, R, o, ρ', M', e, q⟩ := h
  unfold mSetIx at e
  split at e
  · rename_i y ρ1 M1 e1
    split at e
    · rename_i xs0 z M2 e2 e3
      split at e
      · rename_i k xs e4 e5
        split at e
        · rename_i j e6
          cases e
          refine ⟨os, f, ρ, M, R, .d y, ρ1, M1, e1, fun v f1 H1 F1 r => ?_⟩
          obtain ⟨a, vs, h1, h2, h3, _⟩ := list_at F1.rel e2
          refine ⟨_, h1, os, f1, ρ1, M1, F1.rel, z, M2, e3, fun u f2 H2 F2 r2 => ?_⟩
          obtain ⟨b, us, g1, g2, g3, g4⟩ := list_at F2.rel e5
          rw [h1] at g1
          cases g1
          have ek := (peek_ok F2.rel r2 e4).int
          subst ek
          exact ⟨a, us, k, j, rfl, rfl, g2, by rw [← g3.length]; exact e6, q f2 σ _ ((F1.trans F2.s).trans (g4 _ _ (RVs.set (RV.step F2.st r) j g3)))⟩
        · cases e
      · cases e
    · cases e
  · cases e
theorem ps_setIxM {ie : Expr} (h : CtxOk X sc fs N) (hn : nmC sc N i x = true) (hi : PE X ie (tE X.K c me)) (he : PE X e (tW X.K c w))
    (ha : ∀ v, assign (.Subscript (.Name x p) ie apos) X.env v = (do
      let ov ← holding [v] (eval (.Name x p) X.env)
      let iv ← holding [v, ov] (eval ie X.env)
      standAt apos
      holding [v, ov, iv] (setItem ov iv v)
      release [v, ov, iv] [])) (hs : swapsWithSole [.Subscript (.Name x p) ie apos] e pos.line X.env = pure false) (hw : swappedStores [.Subscript (.Name x p) ie apos] e X.env = pure none)
    (h1 : (assignEach [.Subscript (.Name x p) ie apos] X.env).map (·.2) = [assign (.Subscript (.Name x p) ie apos) X.env]) : PS X (.Assign [.Subscript (.Name x p) ie apos] e pos) (tS X.K c (mSetIx i me w)) :=
  ps_imp (ps_asg he (pg_sub (pe_nmV h hn) hi set_list ha) hs hw h1) setIx_imp
end
end DL
set_option Elab.async false
set_option linter.all false
set_option maxRecDepth 100000
set_option maxHeartbeats 4000000
/-! dicts that change; several stores at once; new places of the store -/
namespace DL
open PySem L2

/-! ### d[k] = v -/
def getD (ρ : List Slot) (M : List MO) (i : Nat) : Option (Bool × List (D × D)) := match ρ[i]? with
  | some (.od t es) => some (t, es)
  | some (.r n) => match M[n]? with
    | some (.dct t es) => some (t, es)
    | _ => none
  | _ => none
def putDρ (ρ : List Slot) (i : Nat) (t : Bool) (es : List (D × D)) : List Slot := match ρ[i]? with
  | some (.od _ _) => ρ.set i (.od t es)
  | _ => ρ
def putDM (ρ : List Slot) (M : List MO) (i : Nat) (t : Bool) (es : List (D × D)) : List MO := match ρ[i]? with
  | some (.r n) => M.set n (.dct t es)
  | _ => M
/-- in its place, or at the end -/
def putE (eq : D → Bool) (k v : D) (es : List (D × D)) : List (D × D) := if (es.any fun e => eq e.1) = true then es.map (fun e => if eq e.1 = true then (e.1, v) else e) else es ++ [(k, v)]
def dPut (t : Bool) (es : List (D × D)) (k v : D) : Option (List (D × D)) :=
  if t = true then (tkey k).map fun kk => putE (fun d => match tkey d with | some k' => decide (k' = kk) | none => false) k v es
  else (skey k).map fun kk => putE (fun d => match skey d with | some k' => decide (k' = kk) | none => false) k v es
section
variable {K : PySem.W.Frag} {os os1 P P1 W : Pr} {f f1 f2 : List Addr} {ρ ρ1 ρ2 : List Slot} {σ σ1 σ2 : L2.St} {H H0 H1 H2 : Hp} {M M1 M2 : List MO} {a : Addr}
theorem dict_at {i : Nat} {t : Bool} {es : List (D × D)} (R : Rel K os f ρ M σ H) (h : getD ρ M i = some (t, es)) : ∃ a, σ[i]? = some (some (.ref a)) ∧ ObjAt K (Pu os (Wr f ρ σ)) H a (.dct t es) ∧
    ∀ es' o, ObjAt K (Pu os (Wr f ρ σ)) (upd H a o) a (.dct t es') → FinS K os f ρ σ H f (putDρ ρ i t es') (putDM ρ M i t es') σ (upd H a o) := by
  unfold getD at h
  split at h
  · rename_i t' es' e
    cases h
    obtain ⟨v, e1, a, e2, ob⟩ := R.sl i _ e (fun z => nomatch z)
    subst e2
    refine ⟨a, e1, ob, fun es2 o ob2 => ?_⟩
    obtain ⟨h1, h2⟩ := R.write (mo := .dct t es) (mo' := .dct t es2) (o := o) e e1 ob2
    unfold putDρ putDM
    rw [e]
    exact ⟨h2, h1, fun _ _ h => h⟩
  · rename_i n e
    split at h
    · rename_i t' es' e4
      cases h
      obtain ⟨v, e1, a, e2, e5⟩ := R.sl i _ e (fun z => nomatch z)
      subst e2
      obtain ⟨b, e6, ob⟩ := R.ob n _ e4
      rw [e5] at e6
      cases e6
      refine ⟨a, e1, ob, fun es2 o ob2 => ?_⟩
      obtain ⟨h1, h2⟩ := R.writeS (mo' := .dct t es2) (o := o) e5 ob2
      unfold putDρ putDM
      rw [e]
      exact ⟨h2, h1, fun _ _ h => h⟩
    · cases h
  · cases h
theorem RVk.any {es : List (D × D)} {kvs : List (Key × V)} (r : RVk K P H es kvs) (kk : Key) : (es.any fun e => match skey e.1 with | some k' => decide (k' = kk) | none => false) = kvs.any fun kv => decide (kv.1 = kk) := by
  induction kvs generalizing es with
  | nil => cases r; rfl
  | cons kv kvs ih =>
    cases r with
    | cons q t => rw [List.any_cons, List.any_cons, ih t, skey_kD]
theorem RVk.mapPut {es : List (D × D)} {kvs : List (Key × V)} {y : D} {v : V} (r : RVk K P H es kvs) (q : RV K P H y v) (kk : Key) :
    RVk K P H (es.map fun e => if (match skey e.1 with | some k' => decide (k' = kk) | none => false) = true then (e.1, y) else e) (kvs.map fun kv => if kv.1 = kk then (kv.1, v) else kv) := by
  induction kvs generalizing es with
  | nil => cases r; exact .nil
  | cons kv kvs ih =>
    cases r with
    | @cons k d u es' _ q1 t =>
      rw [List.map_cons, List.map_cons, skey_kD]
      by_cases hk : k = kk
      · simp only [hk, decide_true, if_true]
        exact .cons q (ih t)
      · simp only [hk, decide_false, Bool.false_eq_true, if_false]
        exact .cons q1 (ih t)
theorem RVk.snoc {es : List (D × D)} {kvs : List (Key × V)} {y : D} {v : V} (r : RVk K P H es kvs) (q : RV K P H y v) (kk : Key) : RVk K P H (es ++ [(kD kk, y)]) (kvs ++ [(kk, v)]) := by
  induction kvs generalizing es with
  | nil => cases r; exact .cons q .nil
  | cons kv kvs ih =>
    cases r with
    | cons q1 t => exact .cons q1 (ih t)
theorem RVk.put {es : List (D × D)} {kvs : List (Key × V)} {y : D} {v : V} (r : RVk K P H es kvs) (q : RV K P H y v) (kk : Key) :
    RVk K P H (putE (fun d => match skey d with | some k' => decide (k' = kk) | none => false) (kD kk) y es) (putK kvs kk v) := by
  unfold putE putK
  rw [r.any kk]
  by_cases h : (kvs.any fun kv => decide (kv.1 = kk)) = true
  · rw [if_pos h, if_pos h]
    exact r.mapPut q kk
  · rw [if_neg h, if_neg h]
    exact r.snoc q kk
theorem tkey_kD (k : List Key) : tkey (.tuple (k.map kD)) = some k := skeys_kD k
theorem RVt.any {es : List (D × D)} {kvs : List (List Key × V)} (r : RVt K P H es kvs) (kk : List Key) : (es.any fun e => match tkey e.1 with | some k' => decide (k' = kk) | none => false) = kvs.any fun kv => decide (kv.1 = kk) := by
  induction kvs generalizing es with
  | nil => cases r; rfl
  | cons kv kvs ih =>
    cases r with
    | cons q t => rw [List.any_cons, List.any_cons, ih t, tkey_kD]
theorem RVt.mapPut {es : List (D × D)} {kvs : List (List Key × V)} {y : D} {v : V} (r : RVt K P H es kvs) (q : RV K P H y v) (kk : List Key) :
    RVt K P H (es.map fun e => if (match tkey e.1 with | some k' => decide (k' = kk) | none => false) = true then (e.1, y) else e) (kvs.map fun kv => if kv.1 = kk then (kv.1, v) else kv) := by
  induction kvs generalizing es with
  | nil => cases r; exact .nil
  | cons kv kvs ih =>
    cases r with
    | @cons k d u es' _ q1 t =>
      rw [List.map_cons, List.map_cons, tkey_kD]
      by_cases hk : k = kk
      · simp only [hk, decide_true, if_true]
        exact .cons q (ih t)
      · simp only [hk, decide_false, Bool.false_eq_true, if_false]
        exact .cons q1 (ih t)
theorem RVt.snoc {es : List (D × D)} {kvs : List (List Key × V)} {y : D} {v : V} (r : RVt K P H es kvs) (q : RV K P H y v) (kk : List Key) : RVt K P H (es ++ [(.tuple (kk.map kD), y)]) (kvs ++ [(kk, v)]) := by
  induction kvs generalizing es with
  | nil => cases r; exact .cons q .nil
  | cons kv kvs ih =>
    cases r with
    | cons q1 t => exact .cons q1 (ih t)
theorem RVt.put {es : List (D × D)} {kvs : List (List Key × V)} {y : D} {v : V} (r : RVt K P H es kvs) (q : RV K P H y v) (kk : List Key) :
    RVt K P H (putE (fun d => match tkey d with | some k' => decide (k' = kk) | none => false) (.tuple (kk.map kD)) y es) (putK kvs kk v) := by
  unfold putE putK
  rw [r.any kk]
  by_cases h : (kvs.any fun kv => decide (kv.1 = kk)) = true
  · rw [if_pos h, if_pos h]
    exact r.mapPut q kk
  · rw [if_neg h, if_neg h]
    exact r.snoc q kk
theorem RVk.mv {d : List (D × D)} {v : List (Key × V)} (s : Step P H P1 H1) (r : RVk K P H d v) : RVk K P1 H1 d v := by
  rw [← pu_f (W := P)] at r
  have := RVk.step s r
  rwa [pu_f] at this
theorem RVt.mv {d : List (D × D)} {v : List (List Key × V)} (s : Step P H P1 H1) (r : RVt K P H d v) : RVt K P1 H1 d v := by
  rw [← pu_f (W := P)] at r
  have := RVt.step s r
  rwa [pu_f] at this
theorem RVs.keys {P : Pr} : ∀ {ks : List Key} {vs : List V}, RVs K P H (ks.map kD) vs → vs = ks.map kV
  | [], _, .nil => rfl
  | .inl i :: ks, _, .cons r t => by
    cases r
    rw [RVs.keys t]
    rfl
  | .inr i :: ks, _, .cons r t => by
    cases r
    rw [RVs.keys t]
    rfl
/-- the dict at a is given k : v -/
theorem put_at {es es' : List (D × D)} {t : Bool} {k y : D} {kv v : V} (st : ∀ o, Step P H P (upd H a o)) (ob : ObjAt K P H a (.dct t es)) (hl : es.length < lim) (rk : RV K P H k kv) (rv : RV K P H y v) (h : dPut t es k y = some es') : ∃ o, DPut H a kv v (upd H a o) ∧ ObjAt K P (upd H a o) a (.dct t es') := by
  cases t with
  | false =>
    obtain ⟨kvs, e, r⟩ := ob
    simp only [dPut, Bool.false_eq_true, if_false, Option.map_eq_some_iff] at h
    obtain ⟨kk, e1, e2⟩ := h
    have e3 := skey_eq e1
    subst e3
    subst e2
    have ek : kv = kV kk := by
      cases kk with
      | inl i => cases rk; rfl
      | inr i => cases rk; rfl
    subst ek
    exact ⟨.dK (putK kvs kk v), DPut.k e (by rw [← r.length]; exact lim_lt (Nat.le_of_lt hl)), _, upd_same, (r.mv (st _)).put (rv.mv (st _)) kk⟩
  | true =>
    obtain ⟨kvs, e, r⟩ := ob
    simp only [dPut, if_true, Option.map_eq_some_iff] at h
    obtain ⟨kk, e1, e2⟩ := h
    have e3 := tkey_eq e1
    subst e3
    subst e2
    cases rk with
    | @tup b vs _ tt rs =>
      have := rs.keys
      subst this
      exact ⟨.dT (putK kvs kk v), .inr ⟨kvs, kk, b, e, rfl, tt.1, by rw [← r.length]; exact lim_lt (Nat.le_of_lt hl), rfl⟩, _, upd_same, (r.mv (st _)).put (rv.mv (st _)) kk⟩
end
/-- name[e] = w -/
def mDPut (i : Nat) (e : EM) (w : WM) : SM := fun c ρ M => match w c ρ M with
  | some (.d y, ρ1, M1) => match getD ρ1 M1 i, e c ρ1 M1 with
    | some _, some (.d k, M2) => match getD ρ1 M2 i with
      | some (t, es) => if es.length < lim then match dPut t es k y with
        | some es' => some (.nx, putDρ ρ1 i t es', putDM ρ1 M2 i t es')
        | none => none else none
      | _ => none
    | _, _ => none
  | _ => none
section
variable {X : Cx} {sc fs : Scope} {N : List Str} {c : Call} {e : Expr} {i : Nat} {x : Str} {p pos apos cpos : Pos} {w : WM} {me : EM} {ml : LM} {K : PySem.W.Frag}
theorem dput_imp : ∀ E σ H, tS K c (mDPut i me w) E σ H → sDPut (tVar i) (tE K c me) (tW K c w) E σ H := fun E σ H h => by
  obtain ⟨os, f, ρ, M, R, o, ρ', M', e, q⟩ := h
  unfold mDPut at e
  split at e
  · rename_i y ρ1 M1 e1
    split at e
    · rename_i es0 k M2 e2 e3
      split at e
      · rename_i t es e5
        split at e
        · rename_i hl
          split at e
          · rename_i es' e6
            cases e
            refine ⟨os, f, ρ, M, R, .d y, ρ1, M1, e1, fun v f1 H1 F1 r => ?_⟩
            obtain ⟨a, h1, h2, _⟩ := dict_at F1.rel e2
            refine ⟨_, h1, os, f1, ρ1, M1, F1.rel, .d k, M2, e3, fun u f2 H2 F2 r2 => ?_⟩
            obtain ⟨b, g1, g2, g4⟩ := dict_at F2.rel e5
            rw [h1] at g1
            cases g1
            have wa : Pu os (Wr f2 ρ1 σ) a := by
              unfold getD at e5
              split at e5
              · rename_i e7
                exact .inr (.inr ⟨i, ⟨_, e7, rfl⟩, h1⟩)
              · rename_i n e7
                obtain ⟨v', e8, b', e9, e10⟩ := F2.rel.sl i _ e7 (fun z => nomatch z)
                rw [h1] at e8
                cases e8
                cases e9
                exact .inr (.inl (List.mem_of_getElem? e10))
              · cases e5
            obtain ⟨o, d1, d2⟩ := put_at (fun o => Step.write wa) g2 hl r2 (RV.step F2.st r) e6
            exact ⟨a, _, rfl, d1, q f2 σ _ ((F1.trans F2.s).trans (g4 _ _ d2))⟩
          · cases e
        · cases e
      · cases e
    · cases e
  · cases e
theorem ps_dputM {ie : Expr} (h : CtxOk X sc fs N) (hu : X.A.units + 1 < cLine) (hn : nmC sc N i x = true) (hi : PE X ie (tE X.K c me)) (he : PE X e (tW X.K c w)) (hs : swapsWith e (some (.Subscript (.Name x p) ie apos)) pos.line X.env = pure false) :
    PS X (.Assign [.Subscript (.Name x p) ie apos] e pos) (tS X.K c (mDPut i me w)) := ps_imp (ps_dput hu (pe_nmV h hn) hi he hs) dput_imp
end

/-! ### a new list | dict stands in the store -/
def mRf (m : LM) : EM := bnd m fun xs _ _ M => some (.r M.length, M ++ [.lst xs])
def mRfD (t : Bool) (m : Mm (List (D × D))) : EM := bnd m fun xs _ _ M => some (.r M.length, M ++ [.dct t xs])
section
variable {K : PySem.W.Frag} {os os1 P P1 W : Pr} {f f1 f2 : List Addr} {ρ ρ1 ρ2 : List Slot} {σ σ1 σ2 : L2.St} {H H0 H1 H2 : Hp} {M M1 M2 : List MO} {a : Addr} {c : Call}
theorem FinL.grow {mo : MO} (R : Rel K os f ρ M σ H) (F : FinL K os f ρ σ H a mo f1 M1 H1) : Fin K os f ρ σ H (f1 ++ [a]) (M1 ++ [mo]) H1 ∧ (f1 ++ [a])[M1.length]? = some a := by
  have R1 := F.rel
  have na : ¬ os a := fun z => by
    obtain ⟨o, e⟩ := R.o4 a z
    rw [F.new] at e
    cases e
  have af : a ∉ f1 := fun m => R1.o3 a m (.inr rfl)
  have wr : ∀ b, Wr (f1 ++ [a]) ρ σ b → Wr f1 ρ σ b ∨ b = a := fun b m => by
    rcases m with m | m
    · rcases List.mem_append.mp m with m | m
      · exact .inl (.inl m)
      · exact .inr (List.mem_singleton.mp m)
    · exact .inl (.inr m)
  have pl : Less (Pu os (Wr (f1 ++ [a]) ρ σ)) (Pu (addP os a) (Wr f1 ρ σ)) := fun b m => by
    rcases m with m | m
    · exact .inl (.inl m)
    · rcases wr b m with m | m
      · exact .inr m
      · exact .inl (.inr m)
  have last : (f1 ++ [a])[M1.length]? = some a := by rw [← R1.fl, List.getElem?_append_right (Nat.le_refl _), Nat.sub_self]; rfl
  have old : ∀ {n b}, f1[n]? = some b → (f1 ++ [a])[n]? = some b := fun {n b} e => by
    rw [List.getElem?_append_left (List.getElem?_eq_some_iff.mp e).1]
    exact e
  have get : ∀ {n b}, (f1 ++ [a])[n]? = some b → f1[n]? = some b ∨ (n = f1.length ∧ b = a) := fun {n b} e => by
    by_cases hn : n < f1.length
    · rw [List.getElem?_append_left hn] at e
      exact .inl e
    · rw [List.getElem?_append_right (by omega)] at e
      have hl := (List.getElem?_eq_some_iff.mp e).1
      rw [List.length_singleton] at hl
      have e0 : n - f1.length = 0 := by omega
      rw [e0] at e
      cases e
      exact .inr ⟨by omega, rfl⟩
  refine ⟨⟨⟨fun b o h n => F.st.keep b o h n, fun b m => ?_⟩, ⟨R1.len, fun i s e n => ?_, by rw [List.length_append, List.length_append, R1.fl]; rfl, fun i j b h1 h2 => ?_, fun i m e => ?_, R1.o1, fun i b h => ⟨fun m => ?_, fun z => (R1.o2 i b h).2 (.inl z)⟩, fun b m z => ?_, fun b m => R1.o4 b (.inl m)⟩, fun n b h => old (F.pre n b h)⟩, last⟩
  · rcases wr b m with m | m
    · exact F.st.new b m
    · subst m
      exact .inr F.new
  · obtain ⟨v, e1, q⟩ := R1.sl i s e n
    refine ⟨v, e1, ?_⟩
    cases s with
    | un => exact q
    | d x => exact RV.less pl q
    | r k =>
      obtain ⟨b, e2, q⟩ := q
      exact ⟨b, e2, old q⟩
    | ol xs =>
      obtain ⟨b, e2, q⟩ := q
      exact ⟨b, e2, q.less pl⟩
    | od t xs =>
      obtain ⟨b, e2, q⟩ := q
      exact ⟨b, e2, q.less pl⟩
  · rcases get h1 with g1 | ⟨g1, z1⟩ <;> rcases get h2 with g2 | ⟨g2, z2⟩
    · exact R1.nd i j b g1 g2
    · rw [z2] at g1
      exact absurd (List.mem_of_getElem? g1) af
    · rw [z1] at g2
      exact absurd (List.mem_of_getElem? g2) af
    · rw [g1, g2]
  · by_cases hi : i < M1.length
    · rw [List.getElem?_append_left hi] at e
      obtain ⟨b, e1, q⟩ := R1.ob i m e
      exact ⟨b, old e1, q.less pl⟩
    · rw [List.getElem?_append_right (by omega)] at e
      have hl := (List.getElem?_eq_some_iff.mp e).1
      rw [List.length_singleton] at hl
      have e0 : i - M1.length = 0 := by omega
      rw [e0] at e
      cases e
      have e1 : i = M1.length := by omega
      subst e1
      exact ⟨a, last, F.obj.less pl⟩
  · rcases List.mem_append.mp m with m | m
    · exact (R1.o2 i b h).1 m
    · rw [List.mem_singleton.mp m] at h
      exact (R1.o2 i a h).2 (.inr rfl)
  · rcases List.mem_append.mp m with m | m
    · exact R1.o3 b m (.inl z)
    · rw [List.mem_singleton.mp m] at z
      exact na z
theorem rf_imp {ml : LM} : ∀ σ H Q, tE K c (mRf ml) σ H Q → tL K c ml σ H Q := fun σ H Q h => by
  obtain ⟨os, f, ρ, M, R, z, M', e, q⟩ := h
  replace e := bnd_ok e
  obtain ⟨xs, M1, e1, e⟩ := e
  cases e
  refine ⟨os, f, ρ, M, R, xs, M1, e1, fun a f1 H1 F1 => ?_⟩
  obtain ⟨h1, h2⟩ := F1.grow R
  exact q (.ref a) _ H1 h1 ⟨a, rfl, h2⟩
theorem rfD_imp {t : Bool} {md : Mm (List (D × D))} : ∀ σ H Q, tE K c (mRfD t md) σ H Q → tD K t c md σ H Q := fun σ H Q h => by
  obtain ⟨os, f, ρ, M, R, z, M', e, q⟩ := h
  replace e := bnd_ok e
  obtain ⟨xs, M1, e1, e⟩ := e
  cases e
  refine ⟨os, f, ρ, M, R, xs, M1, e1, fun a f1 H1 F1 => ?_⟩
  obtain ⟨h1, h2⟩ := F1.grow R
  exact q (.ref a) _ H1 h1 ⟨a, rfl, h2⟩
theorem pe_rfM {X : Cx} {e : Expr} {ml : LM} (h : PE X e (tL X.K c ml)) : PE X e (tE X.K c (mRf ml)) := pe_imp h rf_imp
theorem pe_rfDM {X : Cx} {e : Expr} {t : Bool} {md : Mm (List (D × D))} (h : PE X e (tD X.K t c md)) : PE X e (tE X.K c (mRfD t md)) := pe_imp h rfD_imp
end
end DL
set_option Elab.async false
set_option linter.all false
set_option maxRecDepth 100000
set_option maxHeartbeats 4000000
/-! several stores at once; comprehensions that are stored -/
namespace DL
open PySem L2

inductive PV where
  | x (v : Vl)
  | o (mo : MO)
abbrev PM := Mm PV
def pE (m : EM) : PM := bnd m fun x _ _ M => some (.x x, M)
def pL (m : LM) : PM := bnd m fun xs _ _ M => some (.o (.lst xs), M)
def pD (t : Bool) (m : Mm (List (D × D))) : PM := bnd m fun xs _ _ M => some (.o (.dct t xs), M)
def mPs : List PM → Mm (List PV)
  | [] => fun _ _ M => some ([], M)
  | p :: ps => bnd p fun z => bnd (mPs ps) fun zs _ _ M => some (z :: zs, M)
/-- what is held, and these, too -/
def addL (os : Pr) (Ls : List Addr) : Pr := fun a => os a ∨ a ∈ Ls
theorem addL_nil {os : Pr} : addL os [] = os := by
  funext b
  exact propext ⟨fun m => m.elim id (fun z => nomatch z), .inl⟩
theorem addL_cons {os : Pr} {L : Addr} {Ls : List Addr} : addL (addP os L) Ls = addL os (L :: Ls) := by
  funext b
  refine propext ⟨fun m => ?_, fun m => ?_⟩
  · rcases m with (m | m) | m
    · exact .inl m
    · exact .inr (by rw [m]; exact List.mem_cons_self)
    · exact .inr (List.mem_cons_of_mem _ m)
  · rcases m with m | m
    · exact .inl (.inl m)
    · rcases List.mem_cons.mp m with m | m
      · exact .inl (.inr m)
      · exact .inr m
theorem addL_cons' {os : Pr} {L : Addr} {Ls : List Addr} : addP (addL os Ls) L = addL os (L :: Ls) := by
  funext b
  refine propext ⟨fun m => ?_, fun m => ?_⟩
  · rcases m with (m | m) | m
    · exact .inl m
    · exact .inr (List.mem_cons_of_mem _ m)
    · exact .inr (by rw [m]; exact List.mem_cons_self)
  · rcases m with m | m
    · exact .inl (.inl m)
    · rcases List.mem_cons.mp m with m | m
      · exact .inr m
      · exact .inl (.inr m)
inductive PVs (K : PySem.W.Frag) (P : Pr) (f : List Addr) (σ : L2.St) (H0 H : Hp) : List PV → List V → List Addr → Prop where
  | nil : PVs K P f σ H0 H [] [] []
  | x {v : Vl} {u : V} {ps : List PV} {us : List V} {Ls : List Addr} : AOk K P f σ H v u → PVs K P f σ H0 H ps us Ls → PVs K P f σ H0 H (.x v :: ps) (u :: us) Ls
  | o {mo : MO} {L : Addr} {ps : List PV} {us : List V} {Ls : List Addr} : H0 L = none → L ∉ Ls → ObjAt K P H L mo → PVs K P f σ H0 H ps us Ls → PVs K P f σ H0 H (.o mo :: ps) (.ref L :: us) (L :: Ls)
/-- one value, or a new list | dict -/
def tQ (K : PySem.W.Frag) (c : Call) (m : PM) : TE := fun σ H Q => ∃ os f ρ M, Rel K os f ρ M σ H ∧ ∃ z M', m c ρ M = some (z, M') ∧ (match z with
  | .x y => ∀ v f' H', Fin K os f ρ σ H f' M' H' → AOk K (Pu os (Wr f' ρ σ)) f' σ H' y v → Q v H'
  | .o mo => ∀ L f' H', FinL K os f ρ σ H L mo f' M' H' → Q (.ref L) H')
structure FinP (K : PySem.W.Frag) (os : Pr) (f : List Addr) (ρ : List Slot) (σ : L2.St) (H : Hp) (f' : List Addr) (M' : List MO) (H' : Hp) (Ls : List Addr) (ps : List PV) (us : List V) : Prop where
  st : Step (Wr f ρ σ) H (Wr f' ρ σ) H'
  rel : Rel K (addL os Ls) f' ρ M' σ H'
  pre : ∀ (n : Nat) (a : Addr), f[n]? = some a → f'[n]? = some a
  vs : PVs K (Pu (addL os Ls) (Wr f' ρ σ)) f' σ H H' ps us Ls
def tP (K : PySem.W.Frag) (c : Call) (ms : List PM) : TA := fun σ H Q => ∃ os f ρ M, Rel K os f ρ M σ H ∧ ∃ ps M', mPs ms c ρ M = some (ps, M') ∧ ∀ us f' H' Ls, FinP K os f ρ σ H f' M' H' Ls ps us → Q us H'
section
variable {K : PySem.W.Frag} {os os1 P P1 W : Pr} {f f1 f2 : List Addr} {ρ ρ1 ρ2 : List Slot} {σ σ1 σ2 : L2.St} {H H0 H1 H2 : Hp} {M M1 M2 : List MO} {a L : Addr} {c : Call} {ps : List PV} {us : List V} {Ls : List Addr}
/-- what is fresh later was fresh before -/
theorem fresh_back (R1 : Rel K os1 f1 ρ M1 σ H1) (st : Step (Wr f ρ σ) H (Wr f1 ρ σ) H1) (pre : ∀ (n : Nat) (a : Addr), f[n]? = some a → f1[n]? = some a) (hn : H1 L = none) : H L = none := by
  cases e : H L with
  | none => rfl
  | some o =>
    by_cases w : Wr f ρ σ L
    · rcases w with w | w
      · obtain ⟨n, w⟩ := List.mem_iff_getElem?.mp w
        obtain ⟨o', e'⟩ := R1.there (.inl (List.mem_of_getElem? (pre n L w)))
        rw [hn] at e'
        cases e'
      · obtain ⟨o', e'⟩ := R1.there (.inr w)
        rw [hn] at e'
        cases e'
    · rw [st.keep L o e w] at hn
      cases hn
theorem PVs.fresh (h : PVs K P f σ H0 H ps us Ls) : ∀ L, L ∈ Ls → H0 L = none := by
  induction h with
  | nil => intro L m; cases m
  | x _ _ ih => exact ih
  | o e _ _ _ ih =>
    intro L m
    rcases List.mem_cons.mp m with m | m
    · rw [m]
      exact e
    · exact ih L m
theorem PVs.base {H3 : Hp} (h : PVs K P f σ H0 H ps us Ls) (i : ∀ L, H0 L = none → H3 L = none) : PVs K P f σ H3 H ps us Ls := by
  induction h with
  | nil => exact .nil
  | x r _ ih => exact .x r ih
  | o e n q _ ih => exact .o (i _ e) n q ih
theorem pe_qE {X : Cx} {e : Expr} {m : EM} (h : PE X e (tE X.K c m)) : PE X e (tQ X.K c (pE m)) := pe_imp h fun σ H Q h => by
  obtain ⟨os, f, ρ, M, R, z, M', e, q⟩ := h
  replace e := bnd_ok e
  obtain ⟨x, M1, e1, e⟩ := e
  cases e
  exact ⟨os, f, ρ, M, R, x, _, e1, q⟩
theorem pe_qL {X : Cx} {e : Expr} {m : LM} (h : PE X e (tL X.K c m)) : PE X e (tQ X.K c (pL m)) := pe_imp h fun σ H Q h => by
  obtain ⟨os, f, ρ, M, R, z, M', e, q⟩ := h
  replace e := bnd_ok e
  obtain ⟨x, M1, e1, e⟩ := e
  cases e
  exact ⟨os, f, ρ, M, R, x, _, e1, q⟩
theorem pe_qD {X : Cx} {e : Expr} {t : Bool} {m : Mm (List (D × D))} (h : PE X e (tD X.K t c m)) : PE X e (tQ X.K c (pD t m)) := pe_imp h fun σ H Q h => by
  obtain ⟨os, f, ρ, M, R, z, M', e, q⟩ := h
  replace e := bnd_ok e
  obtain ⟨x, M1, e1, e⟩ := e
  cases e
  exact ⟨os, f, ρ, M, R, x, _, e1, q⟩
theorem pa_nilP {X : Cx} : PA X [] (tP X.K c []) := pa_imp pa_nil fun σ H Q h => by
  obtain ⟨os, f, ρ, M, R, ps, M', e, q⟩ := h
  cases e
  refine q [] f H [] ⟨Step.refl, ?_, fun _ _ h => h, .nil⟩
  rw [addL_nil]
  exact R
theorem pa_consP {X : Cx} {e : Expr} {es : List Expr} {m : PM} {ms : List PM} (ha : PE X e (tQ X.K c m)) (hr : PA X es (tP X.K c ms)) (hs : starEach (e :: es) X.env = (false, eval e X.env) :: starEach es X.env) : PA X (e :: es) (tP X.K c (m :: ms)) := pa_imp (pa_cons ha hr hs) fun σ H Q h => by
  obtain ⟨os, f, ρ, M, R, ps, M', e, q⟩ := h
  replace e := bnd_ok e
  obtain ⟨z, M1, e1, e⟩ := e
  replace e := bnd_ok e
  obtain ⟨zs, M2, e2, e⟩ := e
  cases e
  refine ⟨os, f, ρ, M, R, z, M1, e1, ?_⟩
  cases z with
  | x y =>
    intro v f1 H1 F1 r
    refine ⟨os, f1, ρ, M1, F1.rel, zs, _, e2, fun us f2 H2 Ls F2 => ?_⟩
    refine q _ f2 H2 Ls ⟨F1.st.trans F2.st, F2.rel, fun n a h => F2.pre n a (F1.pre n a h), .x (r.mv ⟨fun a o h n => F2.st.keep a o h fun z => n (.inr z), fun a m => ?_⟩ F2.pre) (F2.vs.base fun L h => fresh_back F1.rel F1.st F1.pre h)⟩
    rcases m with (m | m) | m
    · exact .inl (.inl m)
    · exact .inr (F2.vs.fresh a m)
    · rcases F2.st.new a m with m | m
      · exact .inl (.inr m)
      · exact .inr m
  | o mo =>
    intro L f1 H1 F1
    refine ⟨addP os L, f1, ρ, M1, F1.rel, zs, _, e2, fun us f2 H2 Ls F2 => ?_⟩
    have hL : ∃ o, H1 L = some o := F1.obj.there
    have nL : L ∉ Ls := fun m => by
      obtain ⟨o, e⟩ := hL
      rw [F2.vs.fresh L m] at e
      cases e
    have nW : ¬ Wr f1 ρ σ L := fun m => by
      rcases m with m | ⟨i, m⟩
      · exact F1.rel.o3 L m (.inr rfl)
      · exact (F1.rel.o2 i L m).2 (.inr rfl)
    have R2 := F2.rel
    have v2 := F2.vs
    rw [addL_cons] at R2 v2
    refine q _ f2 H2 (L :: Ls) ⟨F1.st.trans F2.st, R2, fun n a h => F2.pre n a (F1.pre n a h), .o F1.new nL (F1.obj.mv ⟨fun a o h n => F2.st.keep a o h fun z => n (.inr z), fun a m => ?_⟩ ?_) (v2.base fun L' h => fresh_back F1.rel F1.st F1.pre h)⟩
    · rw [← addL_cons] at m
      rcases m with (m | m) | m
      · exact .inl (.inl m)
      · exact .inr (F2.vs.fresh a m)
      · rcases F2.st.new a m with m | m
        · exact .inl (.inr m)
        · exact .inr m
    · obtain ⟨o, e⟩ := hL
      rw [F2.st.keep L o e nW, e]
end
def putP : List Nat → List PV → List Slot → Option (List Slot)
  | [], [], ρ => some ρ
  | i :: is, .x (.d y) :: ps, ρ => putP is ps (ρ.set i (.d y))
  | i :: is, .x (.r n) :: ps, ρ => putP is ps (ρ.set i (.r n))
  | i :: is, .o mo :: ps, ρ => putP is ps (ρ.set i mo.slot)
  | _, _, _ => none
def putV : List Nat → List V → L2.St → L2.St
  | i :: is, u :: us, σ => putV is us (σ.set i (some u))
  | _, _, σ => σ
section
variable {K : PySem.W.Frag} {os os1 P P1 W : Pr} {f f1 f2 : List Addr} {ρ ρ1 ρ2 : List Slot} {σ σ1 σ2 : L2.St} {H H0 H1 H2 : Hp} {M M1 M2 : List MO} {a L : Addr} {c : Call} {ps : List PV} {us : List V} {Ls : List Addr}
theorem AOk.slot {x : Vl} {v : V} {s : Slot} (h : AOk K P f σ H x v) (e : (match x with | .d y => some (Slot.d y) | .r n => some (Slot.r n) | .v _ => none) = some s) : SlotOk K P f H s v ∧ s.own = false := by
  cases x with
  | d y => cases e; exact ⟨h, rfl⟩
  | r n => cases e; exact ⟨h, rfl⟩
  | v i => cases e
theorem putP_ok (hL : ∀ L, L ∈ Ls → ¬ os L) (v : PVs K P f σ1 H0 H ps us Ls) : ∀ {is : List Nat} {ρ ρ' : List Slot} {σ : L2.St}, Rel K (addL os Ls) f ρ M σ H → Less (Pu (addL os Ls) (Wr f ρ σ)) P → putP is ps ρ = some ρ' →
    Rel K os f ρ' M (putV is us σ) H ∧ ∀ b, Wr f ρ' (putV is us σ) b → Wr f ρ σ b ∨ H0 b = none := by
  induction v with
  | nil =>
    intro is ρ ρ' σ R l e
    cases is with
    | nil =>
      cases e
      rw [addL_nil] at R
      exact ⟨R, fun b m => .inl m⟩
    | cons => cases e
  | @x y u ps us Ls r t ih =>
    intro is ρ ρ' σ R l e
    cases is with
    | nil => cases e
    | cons i is =>
      have key : ∀ s : Slot, SlotOk K P f H s u → s.own = false → putP is ps (ρ.set i s) = some ρ' → Rel K os f ρ' M (putV (i :: is) (u :: us) σ) H ∧ ∀ b, Wr f ρ' (putV (i :: is) (u :: us) σ) b → Wr f ρ σ b ∨ H0 b = none := fun s q n e => by
        have G := FinG.asg (i := i) (x := s) (v := u) R n (q.less l)
        obtain ⟨h1, h2⟩ := ih hL G.rel (fun b m => l b (m.elim .inl fun m => .inr (G.wr b m))) e
        exact ⟨h1, fun b m => (h2 b m).elim (fun m => .inl (G.wr b m)) .inr⟩
      cases y with
      | d y => exact key (.d y) r rfl e
      | r n => exact key (.r n) r rfl e
      | v j => cases e
  | @o mo L ps us Ls e0 n q t ih =>
    intro is ρ ρ' σ R l e
    cases is with
    | nil => cases e
    | cons i is =>
      have R1 := R
      rw [← addL_cons'] at R1
      have na : ¬ addL os Ls L := fun z => z.elim (hL L List.mem_cons_self) n
      have R2 := R1.take (i := i) na (by rw [addL_cons']; exact q.less l)
      have wr : ∀ b, Wr f (ρ.set i mo.slot) (σ.set i (some (.ref L))) b → Wr f ρ σ b ∨ b = L := fun b m => by
        rcases m with m | ⟨j, m⟩
        · exact .inl (.inl m)
        · rcases OwnI.of_set R.len m with ⟨_, _, z⟩ | ⟨_, m⟩
          · injection z with z
            exact .inr z.symm
          · exact .inl (.inr ⟨j, m⟩)
      obtain ⟨h1, h2⟩ := ih (fun L' m => hL L' (List.mem_cons_of_mem _ m)) R2 (fun b m => l b (by
        rcases m with m | m
        · exact .inl (m.elim .inl fun m => .inr (List.mem_cons_of_mem _ m))
        · rcases wr b m with m | m
          · exact .inr m
          · exact .inl (.inr (by rw [m]; exact List.mem_cons_self)))) e
      refine ⟨h1, fun b m => ?_⟩
      rcases h2 b m with m | m
      · rcases wr b m with m | m
        · exact .inl m
        · rw [m]
          exact .inr e0
      · exact .inr m
/-- several names at once -/
def mPar (is : List Nat) (ms : List PM) : SM := fun c ρ M => match mPs ms c ρ M with
  | some (ps, M1) => match putP is ps ρ with
    | some ρ1 => some (.nx, ρ1, M1)
    | none => none
  | none => none
theorem par_end {ρ' : List Slot} {is : List Nat} (R : Rel K os f ρ M σ H) (F : FinP K os f ρ σ H f1 M1 H1 Ls ps us) (e : putP is ps ρ = some ρ') : FinS K os f ρ σ H f1 ρ' M1 (putV is us σ) H1 := by
  have hL : ∀ L, L ∈ Ls → ¬ os L := fun L m z => by
    obtain ⟨o, e⟩ := R.o4 L z
    rw [F.vs.fresh L m] at e
    cases e
  obtain ⟨h1, h2⟩ := putP_ok hL F.vs F.rel (fun b m => m) e
  exact ⟨⟨fun a o h n => F.st.keep a o h n, fun b m => (h2 b m).elim (fun m => F.st.new b m) .inr⟩, h1, F.pre⟩
theorem PVs.length (h : PVs K P f σ H0 H ps us Ls) : ps.length = us.length := by
  induction h with
  | nil => rfl
  | x _ _ ih => rw [List.length_cons, List.length_cons, ih]
  | o _ _ _ _ ih => rw [List.length_cons, List.length_cons, ih]
theorem putP_len : ∀ {is : List Nat} {ps : List PV} {ρ ρ' : List Slot}, putP is ps ρ = some ρ' → is.length = ps.length
  | [], [], _, _, _ => rfl
  | [], _ :: _, _, _, h => by cases h
  | i :: is, [], _, _, h => by cases h
  | i :: is, .x (.d y) :: ps, _, _, h => congrArg (· + 1) (putP_len (is := is) (ps := ps) h)
  | i :: is, .x (.r y) :: ps, _, _, h => congrArg (· + 1) (putP_len (is := is) (ps := ps) h)
  | i :: is, .x (.v y) :: ps, _, _, h => by cases h
  | i :: is, .o y :: ps, _, _, h => congrArg (· + 1) (putP_len (is := is) (ps := ps) h)
theorem par2_imp {i j : Nat} {ms : List PM} : ∀ E σ H, tS K c (mPar [i, j] ms) E σ H → tPar i j (tP K c ms) E σ H := fun E σ H h => by
  obtain ⟨os, f, ρ, M, R, o, ρ', M', e, q⟩ := h
  unfold mPar at e
  split at e
  · rename_i ps M1 e1
    split at e
    · rename_i ρ1 e2
      cases e
      refine ⟨os, f, ρ, M, R, ps, _, e1, fun us f1 H1 Ls F => ?_⟩
      have hl := (putP_len e2).trans F.vs.length
      match us, hl with
      | [u, v], _ => exact ⟨u, v, rfl, q f1 _ H1 (par_end R F e2)⟩
    · cases e
  · cases e
theorem par3_imp {i j l : Nat} {ms : List PM} : ∀ E σ H, tS K c (mPar [i, j, l] ms) E σ H → tPar3 i j l (tP K c ms) E σ H := fun E σ H h => by
  obtain ⟨os, f, ρ, M, R, o, ρ', M', e, q⟩ := h
  unfold mPar at e
  split at e
  · rename_i ps M1 e1
    split at e
    · rename_i ρ1 e2
      cases e
      refine ⟨os, f, ρ, M, R, ps, _, e1, fun us f1 H1 Ls F => ?_⟩
      have hl := (putP_len e2).trans F.vs.length
      match us, hl with
      | [u, v, w], _ => exact ⟨u, v, w, rfl, q f1 _ H1 (par_end R F e2)⟩
    · cases e
  · cases e
/-- names, by way of a tuple -/
def gNames : List Nat → TGs
  | [] => gNil
  | i :: is => gCons (gName i) (gNames is)
theorem gNames_ok {Q : L2.St → Hp → Prop} : ∀ {is : List Nat} {us : List V} {σ : L2.St}, is.length = us.length → Q (putV is us σ) H → gNames is us σ H Q
  | [], [], _, _, q => ⟨rfl, q⟩
  | [], _ :: _, _, h, _ => by cases h
  | _ :: _, [], _, h, _ => by cases h
  | i :: is, u :: us, σ, h, q => ⟨u, us, rfl, gNames_ok (is := is) (us := us) (σ := σ.set i (some u)) (Nat.succ.inj h) q⟩
theorem parT_imp {is : List Nat} {n : Nat} {ms : List PM} (hn : is.length = n) (hl : n ≤ lim) : ∀ E σ H, tS K c (mPar is ms) E σ H → tAsg (tTup (tP K c ms)) (gTup K n (gNames is)) E σ H := fun E σ H h => by
  obtain ⟨os, f, ρ, M, R, o, ρ', M', e, q⟩ := h
  unfold mPar at e
  split at e
  · rename_i ps M1 e1
    split at e
    · rename_i ρ1 e2
      cases e
      refine ⟨os, f, ρ, M, R, ps, _, e1, fun us f1 H1 Ls F => ?_⟩
      have hle := (putP_len e2).trans F.vs.length
      refine ⟨by rw [← hle, hn]; exact lim_le hl, fun p hp => ?_⟩
      have st : Step (Wr f1 ρ σ) H1 (Wr f1 ρ σ) (upd H1 p (.tup us)) := Step.laid hp
      have F2 : FinP K os f ρ σ H f1 M' (upd H1 p (.tup us)) Ls ps us := by
        refine ⟨F.st.trans st, F.rel.laid hp, F.pre, ?_⟩
        have mv : ∀ {ps us Ls}, PVs K (Pu (addL os Ls) (Wr f1 ρ σ)) f1 σ H H1 ps us Ls → True := fun _ => True.intro
        have key : ∀ {P : Pr} {ps : List PV} {us' : List V} {Ls : List Addr}, PVs K P f1 σ H H1 ps us' Ls → PVs K P f1 σ H (upd H1 p (.tup us)) ps us' Ls := fun {P ps us' Ls} h => by
          induction h with
          | nil => exact .nil
          | x r _ ih => exact .x (r.mv (Step.laid hp) fun _ _ h => h) ih
          | o e n q _ ih =>
            obtain ⟨u, hu⟩ := q.there
            exact .o e n (q.mv (Step.laid hp) (upd_ne (ne_of_none hu hp))) ih
        exact key F.vs
      exact ⟨p, us, rfl, .inl (.inl upd_same), by rw [← hle, hn], gNames_ok hle (q f1 _ _ (par_end R F2 e2))⟩
    · cases e
  · cases e
end

/-! ### the forms of stores, as the scope tells them -/
def swB (sc scope : Scope) (t : Str) (tp pos : Pos) : Bool := (match sc.kind with | .function => true | _ => false) && (sc.names.lookup t == some .local) && (tp.line == pos.line) && !(scope.names.any fun (n, k) => n == t && (k == .local || k == .cell))
section
variable {X : Cx} {sc fs : Scope} {N : List Str} {c : Call} {i : Nat} {y : Str} {py pos spos : Pos} {elt tg iter : Expr} {ifs : List Expr} {scope : Scope} {own : List (Str × Nat)} {gs : List Comprehension}
theorem sw_lc (h : CtxOk X sc fs N) {l : Nat} {b : Bool} (e : swB sc scope y py pos = b) : swapsWith (.ListComp elt gs scope pos) (some (.Name y py)) l X.env = pure b := by
  rw [← e]
  have hb : X.env.blockKind = .function := by unfold Env.blockKind; rw [h.scope, h.kind]; rfl
  have hk : X.env.kindOf y = sc.names.lookup y := by
    show X.env.scope.names.lookup y = _
    rw [h.scope]
  unfold swapsWith swB
  simp only [hb, hk, h.kind, Expr.pos]
  rfl
theorem sw_lcS (h : CtxOk X sc fs N) {l : Nat} (e : swB sc scope y py pos = false) : swapsWithSole [.Name y py] (.ListComp elt gs scope pos) l X.env = pure false := sw_lc (l := l) h e
def swL (sc scope : Scope) (t : Str) (tp pos : Pos) : Bool := (sc.names.lookup t == some .local) && (tp.line == pos.line) && !(scope.names.any fun (n, k) => n == t && (k == .local || k == .cell))
theorem swL_ok (h : CtxOk X sc fs N) {l : Nat} (e : swL sc scope y py pos = true) : swapsWith (.ListComp elt gs scope pos) (some (.Name y py)) l X.env = pure true ∧ X.env.scope.names.lookup y = some .local := by
  simp only [swL, Bool.and_eq_true, beq_iff_eq, Bool.not_eq_true'] at e
  have hl : X.env.scope.names.lookup y = some .local := by
    rw [h.scope]
    exact e.1.1
  exact ⟨sw_true (by rw [h.scope]; exact h.kind) hl (by rw [beq_iff_eq]; exact e.1.2) e.2, hl⟩
end
section
variable {X : Cx} {sc fs : Scope} {N : List Str} {c : Call} {i : Nat} {y : Str} {py pos spos : Pos} {elt tg iter : Expr} {ifs : List Expr} {scope : Scope} {own : List (Str × Nat)} {mi mi1 : IM} {g g1 : TG} {tgm tgm1 : Tg} {mt mt1 : TM} {me : EM}
/-- name = [..] on one line, as the name's own -/
theorem ps_setLcM (h : CtxOk X sc fs N) (hy : N[i]? = some y) (hw : swL sc scope y py pos = true) (hb : blkC N sc scope own = true) (hx : ixC tgm (own.map (·.2)) = true) (hi : PI X tg iter (tI X.K c mi)) (hg : TgOk X.K g tgm)
    (hp : ∀ s H C cl fp, CtxOk (X.blk s H scope (compEnvC scope cl C X.env) fp) (relS scope sc) scope N → PG (X.blk s H scope (compEnvC scope cl C X.env) fp) tg g) (ht : ∀ s H C cl fp, CtxOk (X.blk s H scope (compEnvC scope cl C X.env) fp) (relS scope sc) scope N → PTs (X.blk s H scope (compEnvC scope cl C X.env) fp) ifs (tT X.K c mt)) (he : ∀ s H C cl fp, CtxOk (X.blk s H scope (compEnvC scope cl C X.env) fp) (relS scope sc) scope N → PE (X.blk s H scope (compEnvC scope cl C X.env) fp) elt (tE X.K c me))
    (hs : ∀ x, foldedSetIterable iter X.env x = pure x := by intro _; rfl) : PS X (.Assign [.Name y py] (.ListComp elt [⟨tg, iter, ifs, 0⟩] scope pos) spos) (tS X.K c (mSetL i (mLc mi tgm (own.map (·.2)) mt me))) :=
  ps_imp (ps_setLc h.calm (by rw [h.names]; exact h.nd) (by rw [h.names]; exact hy) (swL_ok (l := spos.line) (elt := elt) (gs := [⟨tg, iter, ifs, 0⟩]) h hw).2 (swL_ok h hw).1 hi (by rw [h.names, h.scope]; exact blkOk_by hb) (fun s H C cl fp => hp s H C cl fp (h.blk (blkOk_by hb).kind s H C cl fp)) (fun s H C cl fp => ht s H C cl fp (h.blk (blkOk_by hb).kind s H C cl fp)) (fun s H C cl fp => he s H C cl fp (h.blk (blkOk_by hb).kind s H C cl fp)) hs)
    fun E σ H q => lc_imp hg (ixC_ok hx) σ H _ (setL_imp E σ H q)
theorem ps_setLc2M {tg1 iter1 : Expr} {ifs1 : List Expr} {vs1 : List Nat} (h : CtxOk X sc fs N) (hy : N[i]? = some y) (hw : swL sc scope y py pos = true) (hb : blkC N sc scope own = true) (hx : ixC tgm (own.map (·.2)) = true) (hx1 : ixC tgm1 vs1 = true) (hv : subC vs1 (own.map (·.2)) = true) (hi : PI X tg iter (tI X.K c mi)) (hg : TgOk X.K g tgm) (hg1 : TgOk X.K g1 tgm1)
    (hp : ∀ s H C cl fp, CtxOk (X.blk s H scope (compEnvC scope cl C X.env) fp) (relS scope sc) scope N → PG (X.blk s H scope (compEnvC scope cl C X.env) fp) tg g) (ht : ∀ s H C cl fp, CtxOk (X.blk s H scope (compEnvC scope cl C X.env) fp) (relS scope sc) scope N → PTs (X.blk s H scope (compEnvC scope cl C X.env) fp) ifs (tT X.K c mt))
    (hi1 : ∀ s H C cl fp, CtxOk (X.blk s H scope (compEnvC scope cl C X.env) fp) (relS scope sc) scope N → PI (X.blk s H scope (compEnvC scope cl C X.env) fp) tg1 iter1 (tI X.K c mi1))
    (hp1 : ∀ s H C cl fp, CtxOk (X.blk s H scope (compEnvC scope cl C X.env) fp) (relS scope sc) scope N → PG (X.blk s H scope (compEnvC scope cl C X.env) fp) tg1 g1) (ht1 : ∀ s H C cl fp, CtxOk (X.blk s H scope (compEnvC scope cl C X.env) fp) (relS scope sc) scope N → PTs (X.blk s H scope (compEnvC scope cl C X.env) fp) ifs1 (tT X.K c mt1)) (he : ∀ s H C cl fp, CtxOk (X.blk s H scope (compEnvC scope cl C X.env) fp) (relS scope sc) scope N → PE (X.blk s H scope (compEnvC scope cl C X.env) fp) elt (tE X.K c me))
    (hs : ∀ x, foldedSetIterable iter X.env x = pure x := by intro _; rfl) (hs1 : ∀ env x, foldedSetIterable iter1 env x = pure x := by intro _ _; rfl) :
    PS X (.Assign [.Name y py] (.ListComp elt [⟨tg, iter, ifs, 0⟩, ⟨tg1, iter1, ifs1, 0⟩] scope pos) spos) (tS X.K c (mSetL i (mLc2 mi tgm (own.map (·.2)) mt mi1 tgm1 vs1 mt1 me))) :=
  ps_imp (ps_setLc2 h.calm (by rw [h.names]; exact h.nd) (by rw [h.names]; exact hy) (swL_ok (l := spos.line) (elt := elt) (gs := [⟨tg, iter, ifs, 0⟩, ⟨tg1, iter1, ifs1, 0⟩]) h hw).2 (swL_ok h hw).1 hi (by rw [h.names, h.scope]; exact blkOk_by hb) (subC_ok hv) (fun s H C cl fp => hp s H C cl fp (h.blk (blkOk_by hb).kind s H C cl fp)) (fun s H C cl fp => ht s H C cl fp (h.blk (blkOk_by hb).kind s H C cl fp)) (fun s H C cl fp => hi1 s H C cl fp (h.blk (blkOk_by hb).kind s H C cl fp)) (fun s H C cl fp => hp1 s H C cl fp (h.blk (blkOk_by hb).kind s H C cl fp)) (fun s H C cl fp => ht1 s H C cl fp (h.blk (blkOk_by hb).kind s H C cl fp)) (fun s H C cl fp => he s H C cl fp (h.blk (blkOk_by hb).kind s H C cl fp)) hs hs1)
    fun E σ H q => lc2_imp hg (ixC_ok hx) hg1 (ixC_ok hx1) (subC_ok hv) σ H _ (setL_imp E σ H q)
end
end DL
set_option Elab.async false
set_option linter.all false
set_option maxRecDepth 100000
set_option maxHeartbeats 4000000
/-! stores by scope; defs -/
namespace DL
open PySem L2

/-- an environment of which the scope alone is asked -/
def envS (sc : Scope) : Env := { scope := sc, locals := 0, globals := 0, cells := [], qual := "", func := none, code := .none, frame := none, builtins := 0 }
section
variable {X : Cx} {sc fs : Scope} {N : List Str} {c : Call} {pos : Pos}
theorem sw_env (h : CtxOk X sc fs N) (ts : List Expr) (v : Expr) : swappedStores ts v X.env = swappedStores ts v (envS sc) := by
  have hb : X.env.blockKind = (envS sc).blockKind := by
    unfold Env.blockKind
    rw [h.scope]
    rfl
  have hk : X.env.kindOf = (envS sc).kindOf := by
    funext y
    show X.env.scope.names.lookup y = sc.names.lookup y
    rw [h.scope]
  unfold swappedStores
  rw [hb, hk]
theorem ps_par2M {i j : Nat} {x y : Str} {a b : Expr} {ms : List PM} {px py pt : Pos} {kt k2 pt2} (h : CtxOk X sc fs N) (hi : N[i]? = some x) (hj : N[j]? = some y) (hij : i ≠ j) (hx : sc.names.lookup x = some .local) (hy : sc.names.lookup y = some .local) (ha : PA X [a, b] (tP X.K c ms))
    (hw : swappedStores [.Tuple [.Name x px, .Name y py] kt pt] (.Tuple [a, b] k2 pt2) (envS sc) = pure (some [x, y]))
    (hs : swapsWithSole [.Tuple [.Name x px, .Name y py] kt pt] (.Tuple [a, b] k2 pt2) pos.line X.env = pure false := by rfl) :
    PS X (.Assign [.Tuple [.Name x px, .Name y py] kt pt] (.Tuple [a, b] k2 pt2) pos) (tS X.K c (mPar [i, j] ms)) :=
  ps_imp (ps_par h.calm (by rw [h.names]; exact h.nd) (by rw [h.names]; exact hi) (by rw [h.names]; exact hj) hij (by rw [h.scope]; exact hx) (by rw [h.scope]; exact hy) ha ((sw_env h _ _).trans hw) hs) par2_imp
theorem ps_par3M {i j l : Nat} {x y z : Str} {a b d : Expr} {ms : List PM} {px py pz pt : Pos} {kt k2 pt2} (h : CtxOk X sc fs N) (hi : N[i]? = some x) (hj : N[j]? = some y) (hl : N[l]? = some z) (hij : i ≠ j) (hil : i ≠ l) (hjl : j ≠ l)
    (hx : sc.names.lookup x = some .local) (hy : sc.names.lookup y = some .local) (hz : sc.names.lookup z = some .local) (ha : PA X [a, b, d] (tP X.K c ms))
    (hw : swappedStores [.Tuple [.Name x px, .Name y py, .Name z pz] kt pt] (.Tuple [a, b, d] k2 pt2) (envS sc) = pure (some [x, y, z]))
    (hs : swapsWithSole [.Tuple [.Name x px, .Name y py, .Name z pz] kt pt] (.Tuple [a, b, d] k2 pt2) pos.line X.env = pure false := by rfl) :
    PS X (.Assign [.Tuple [.Name x px, .Name y py, .Name z pz] kt pt] (.Tuple [a, b, d] k2 pt2) pos) (tS X.K c (mPar [i, j, l] ms)) :=
  ps_imp (ps_par3 h.calm (by rw [h.names]; exact h.nd) (by rw [h.names]; exact hi) (by rw [h.names]; exact hj) (by rw [h.names]; exact hl) hij hil hjl (by rw [h.scope]; exact hx) (by rw [h.scope]; exact hy) (by rw [h.scope]; exact hz) ha ((sw_env h _ _).trans hw) hs) par3_imp
theorem ps_parTM {is : List Nat} {n : Nat} {es ts : List Expr} {ms : List PM} {pt : Pos} {kt k2 pt2} (h : CtxOk X sc fs N) (hn : is.length = n) (hl : n ≤ lim) (ha : PA X es (tP X.K c ms)) (hg : PGs X ts (gNames is)) (hc : (assignEach ts X.env).length = n) (hst : (assignEach ts X.env).findIdx? (·.1) = none)
    (hw : swappedStores [.Tuple ts kt pt] (.Tuple es k2 pt2) (envS sc) = pure none) (hs : swapsWithSole [.Tuple ts kt pt] (.Tuple es k2 pt2) pos.line X.env = pure false := by rfl) (h1 : (assignEach [.Tuple ts kt pt] X.env).map (·.2) = [assign (.Tuple ts kt pt) X.env] := by rfl) :
    PS X (.Assign [.Tuple ts kt pt] (.Tuple es k2 pt2) pos) (tS X.K c (mPar is ms)) :=
  ps_imp (ps_asg (pe_tup ha) (pg_tup h.calm hg hc hst) hs ((sw_env h _ _).trans hw) h1) (parT_imp hn hl)
end

/-! ### defs -/
def slotA : Vl → Slot
  | .d x => .d x
  | .r n => .r n
  | .v _ => .un
def outV (ρ : List Slot) : Out → Option Vl
  | .rt (.d x) => some (.d x)
  | .rt (.r n) => some (.r n)
  | .rt (.v i) => match ρ[i]? with
    | some (.ol xs) => some (.d (.list xs))
    | some (.od _ es) => some (.d (.dict es))
    | _ => none
  | .nx => some (.d .none)
  | _ => none
def mFn (nl : Nat) (b : SM) : Call → List Vl → List MO → Res Vl := fun c as M => match b c (as.map slotA ++ List.replicate (nl - as.length) .un) M with
  | some (o, ρ', M') => (outV ρ' o).map fun x => (x, M')
  | none => none
/-- calls, as deep as n -/
def callN (tab : List (Nat × SM)) : Nat → Call
  | 0 => fun _ _ _ => none
  | n + 1 => fun i as M => match tab[i]? with
    | some (nl, b) => mFn nl b (callN tab n) as M
    | none => none
section
variable {K : PySem.W.Frag} {os os1 P P1 W : Pr} {f f1 f2 : List Addr} {ρ ρ1 ρ2 : List Slot} {σ σ1 σ2 : L2.St} {H H0 H1 H2 : Hp} {M M1 M2 : List MO} {a L : Addr} {c : Call}
theorem own_args {as : List Vl} {n i : Nat} : ¬ OwnI (as.map slotA ++ List.replicate n .un) σ i a := by
  rintro ⟨⟨s, e, n'⟩, _⟩
  have : s.own = false := by
    by_cases hi : i < (as.map slotA).length
    · rw [List.getElem?_append_left hi, List.getElem?_map] at e
      cases h : as[i]? with
      | none => rw [h] at e; cases e
      | some x =>
        rw [h] at e
        cases e
        cases x <;> rfl
    · rw [List.getElem?_append_right (by omega)] at e
      have hm := List.mem_of_getElem? e
      rw [List.eq_of_mem_replicate hm]
      rfl
  rw [this] at n'
  cases n'
theorem AOks.getS : ∀ {as : List Vl} {vs : List V} {i : Nat} {x : Vl}, AOks K P f σ H as vs → as[i]? = some x → ∃ v, vs[i]? = some v ∧ AOk K P f σ H x v
  | _, _, i, _, .nil, e => by simp at e
  | _, _, 0, _, .cons r _, e => by
    simp at e
    subst e
    exact ⟨_, rfl, r⟩
  | _, _, i + 1, x, .cons _ t, e => by
    obtain ⟨v, h1, h2⟩ := AOks.getS (i := i) (x := x) t (by simpa using e)
    exact ⟨v, by simpa using h1, h2⟩
theorem Rel.args {N : List Str} {as : List Vl} {vs : List V} (R : Rel K os f [] M [] H) (r : AOks K (Pu os (Wr f [] [])) f [] H as vs) : Rel K os f (as.map slotA ++ List.replicate (N.length - as.length) .un) M (L2.start N vs) H ∧ Wr f (as.map slotA ++ List.replicate (N.length - as.length) .un) (L2.start N vs) = Wr f [] [] := by
  have hl := r.length
  have wr : Wr f (as.map slotA ++ List.replicate (N.length - as.length) .un) (L2.start N vs) = Wr f [] [] := by
    funext b
    refine propext ⟨fun m => m.elim .inl fun ⟨i, m⟩ => (own_args m).elim, fun m => m.elim .inl fun ⟨i, m⟩ => (no_own m).elim⟩
  refine ⟨⟨?_, fun i s e n => ?_, R.fl, R.nd, fun i mo e => ?_, fun i j a h => (own_args h).elim, fun i a h => (own_args h).elim, R.o3, R.o4⟩, wr⟩
  · unfold L2.start
    rw [List.length_append, List.length_append, List.length_map, List.length_map, List.length_replicate, List.length_replicate, hl]
  · rw [wr]
    by_cases hi : i < (as.map slotA).length
    · rw [List.getElem?_append_left hi, List.getElem?_map] at e
      cases h : as[i]? with
      | none => rw [h] at e; cases e
      | some x =>
        rw [h] at e
        cases e
        obtain ⟨v, h1, h2⟩ := r.getS h
        refine ⟨v, ?_, ?_⟩
        · unfold L2.start
          rw [List.getElem?_append_left (by rw [List.length_map, ← hl]; rwa [List.length_map] at hi), List.getElem?_map, h1]
          rfl
        · cases x with
          | d x => exact h2
          | r k => exact h2
          | v k => exact absurd rfl n
    · rw [List.getElem?_append_right (by omega)] at e
      have hm := List.mem_of_getElem? e
      exact absurd (List.eq_of_mem_replicate hm) n
  · rw [wr]
    exact R.ob i mo e
theorem FinS.drop {ρ' : List Slot} {σ' : L2.St} (hw : Wr f ρ σ = Wr f [] []) (F : FinS K os f ρ σ H f1 ρ' M1 σ' H1) : Fin K os f [] [] H f1 M1 H1 := by
  have l : ∀ b, Wr f1 [] [] b → Wr f1 ρ' σ' b := fun b m => .inl (wr_nil.mp m)
  have st := F.st
  rw [hw] at st
  have R := F.rel
  have pl : Less (Pu os (Wr f1 [] [])) (Pu os (Wr f1 ρ' σ')) := fun b m => m.elim .inl fun m => .inr (l b m)
  refine ⟨⟨st.keep, fun b m => st.new b (l b m)⟩, ⟨rfl, fun i s e => by simp at e, R.fl, R.nd, fun i mo e => ?_, fun i j a h => (no_own h).elim, fun i a h => (no_own h).elim, R.o3, R.o4⟩, F.pre⟩
  obtain ⟨a, e1, q⟩ := R.ob i mo e
  exact ⟨a, e1, q.less pl⟩
theorem fn_post {N : List Str} {b : SM} {vs : List V} {as : List Vl} {x : Vl} {M' : List MO} {Q : VK} (R : Rel K os f [] M [] H) (r : AOks K (Pu os (Wr f [] [])) f [] H as vs) (e : mFn N.length b c as M = some (x, M'))
    (q : ∀ v f' H', Fin K os f [] [] H f' M' H' → AOk K (Pu os (Wr f' [] [])) f' [] H' x v → Q v H') : tS K c b { nx := fun _ H' => Q .non H', rt := Q } (L2.start N vs) H := by
  obtain ⟨R1, hw⟩ := R.args (N := N) r
  unfold mFn at e
  split at e
  · rename_i o ρ' M1 e1
    rw [Option.map_eq_some_iff] at e
    obtain ⟨y, e2, e3⟩ := e
    cases e3
    refine ⟨os, f, _, M, R1, o, ρ', _, e1, ?_⟩
    have ls : ∀ f' σ', Less (Pu os (Wr f' [] [])) (Pu os (Wr f' ρ' σ')) := fun f' σ' b m => m.elim .inl fun m => .inr (.inl (wr_nil.mp m))
    cases o with
    | nx =>
      cases e2
      exact fun f' σ' H' F => q .non f' H' (F.drop hw) .non
    | bk => cases e2
    | ct => cases e2
    | rt z =>
      cases z with
      | d z =>
        cases e2
        exact fun v f' σ' H' F rv => q v f' H' (F.drop hw) (RV.less (ls f' σ') rv)
      | r n =>
        cases e2
        exact fun v f' σ' H' F rv => q v f' H' (F.drop hw) rv
      | v i =>
        have key : ∀ mo : MO, ρ'[i]? = some mo.slot → x = .d mo.dat → Post K os f (as.map slotA ++ List.replicate (N.length - as.length) .un) (L2.start N vs) H { nx := fun _ H' => Q .non H', rt := Q } ρ' M' (.rt (.v i)) := fun mo h1 h2 => by
          intro v f' σ' H' F rv
          subst h2
          obtain ⟨_, _, a, g1, g2⟩ := F.rel.freeze h1
          have rv : σ'[i]? = some (some v) := rv
          rw [g1] at rv
          cases rv
          refine q _ f' H' (F.drop hw) (RV.less ?_ g2)
          exact fun b m => m.elim .inl fun m => .inr (.inl (wr_nil.mp m))
        simp only [outV] at e2
        split at e2
        · rename_i xs h
          cases e2
          exact key (.lst xs) h rfl
        · rename_i t xs h
          cases e2
          exact key (.dct t xs) h rfl
        · cases e2
  · cases e
end
section
variable {P : Program} {w : World} {K : PySem.W.Frag} {mg : Str → Option Value} {base : Heap} {tab : List (Nat × SM)}
theorem sp_zero {np i : Nat} {vs : List V} {H : Hp} {Q : VK} {E : XK} (h : spF K np (callN tab 0) i vs H Q E) : False := by
  obtain ⟨_, os, f, M, as, x, M', _, _, e, _⟩ := h
  cases e
/-- a def, a call deeper -/
theorem def_ok {x qual : Str} {params : Arguments} {body : List Stmt} {scope : Scope} {ddv : List V} {kws : List (Str × V)} {fa : Addr} {fd : FuncData} {N ps : List Str} {n i np : Nat} {b : SM} (F : FunD K x qual params body scope ddv kws fa fd) (S : FnScope N ps scope) (ht : tab[i]? = some (N.length, b)) (hp : ps.length = np)
    (hb : ∀ X : Cx, X.prog = P → X.w = w → X.K = K → X.mg = mg → X.base = base → CtxOk X scope scope N → Room n X.A → PSs X body (tS X.K (callN tab n) b)) : FnOk P w K mg base CX0 (n + 1) fa fd ps (spF K np (callN tab (n + 1)) i) := by
  refine F.ok S (fun vs H Q E h => h.1.trans hp.symm) (fun cdv A outer s H vs Q E hr h => ?_)
  refine ⟨_, (hb (cxOf CX0 P w K mg base N qual scope fa cdv A outer s H E).nox rfl rfl rfl rfl rfl ⟨rfl, rfl, rfl, S.nd, S.kind, fun _ _ => rfl, PassesOwn.never⟩ hr).nox, ?_⟩
  obtain ⟨hl, os, f, M, as, y, M', R, r, e, q⟩ := h
  simp only [callN, ht] at e
  exact fn_post R r e q
/-- keywords, no defaults -/
theorem kb_mk {x qual : Str} {params : Arguments} {body : List Stmt} {scope : Scope} {kws : List (Str × V)} {fa : Addr} {fd : FuncData} {ps ks : List Str} {n0 nk : Nat} {ix : List Nat} (F : FunD K x qual params body scope [] kws fa fd) (hp : ps ≠ [])
    (h : ∀ (kV doc pm : Value) (an : Option Addr) (cdv ct : Value) (us ws : List Value), us.length = n0 → ws.length = nk → bindArgs (PySem.W.fnOf x qual params body scope .none kV doc pm an cdv ct) ⟨us, ks.zip ws⟩ = pure (ps.zip (permL ix (us ++ ws) ++ []))) : ∃ ds, KBinds K fd ps ks (gK n0 nk ix ds) (gK n0 nk ix []) := by
  obtain ⟨oc, od, dV, kV, doc, pm, an, cdv, ct, osl, rfl, lk, hcd, hD, hK⟩ := F.ex
  rcases hD with ⟨_, rfl⟩ | ⟨e, _⟩
  · exact ⟨[], kb_of hp .nil fun s us ws _ h1 h2 _ => .of_eq (h kV doc pm an cdv ct us ws h1 h2)⟩
  · exact absurd rfl e
theorem b_all {x qual : Str} {params : Arguments} {body : List Stmt} {scope : Scope} {kws : List (Str × V)} {fa : Addr} {fd : FuncData} {ps : List Str} (F : FunD K x qual params body scope [] kws fa fd)
    (h : ∀ (kV doc pm : Value) (an : Option Addr) (cdv ct : Value) (us : List Value), us.length = ps.length → bindArgs (PySem.W.fnOf x qual params body scope .none kV doc pm an cdv ct) ⟨us, []⟩ = pure (ps.zip us)) : ∃ ds, Vals [] ds ∧ Binds K fd ps ds := ⟨[], .nil, F.bindsN h⟩
/-- nothing is promised at depth 0 -/
theorem zero_ok {fa : Addr} {fd : FuncData} {ps : List Str} {i np : Nat} : FnOk P w K mg base CX0 0 fa fd ps (spF K np (callN tab 0) i) := ⟨fun vs H Q E h => (sp_zero h).elim, fun A outer s H args us vs Q E _ _ _ _ h => (sp_zero h).elim⟩
end

/-! ### the script -/
theorem rvs_ints {K : PySem.W.Frag} {P : Pr} {H : Hp} : ∀ ns : List Int, RVs K P H (ns.map PyData.int) (ns.map V.int)
  | [] => .nil
  | n :: ns => .cons (.int n) (rvs_ints ns)
theorem script_sp {K : PySem.W.Frag} {c : Call} {j : Nat} (hr : ∀ ns : List Int, ns.length ≤ 63 → ∃ M, c j [.d (.list (ns.map .int))] [] = some (.d (.bool true), M)) (H : Hp) (a : Addr) (ns : List Int) (hl : ns.length ≤ 63) (hO : Only H) (hS : SqL K H a (ns.map V.int)) :
    spF K 1 c j [.ref a] H (fun v _ => v = .bl true) fun _ _ _ => False := by
  obtain ⟨M, e⟩ := hr ns hl
  have R : Rel K (fun _ => False) [] [] [] [] H := ⟨rfl, fun i s e => by simp at e, rfl, fun i j a e => by simp at e, fun i m e => by simp at e, fun i j a h => (no_own h).elim, fun i a h => (no_own h).elim, fun a m z => z, fun a m => False.elim m⟩
  have np : ¬ Pu (fun _ => False) (Wr [] [] []) a := fun m => m.elim (fun z => z) fun m => m.elim (fun m => nomatch m) fun ⟨i, m⟩ => no_own m
  have rv : RV K (Pu (fun _ => False) (Wr [] [] [])) H (.list (ns.map .int)) (.ref a) := by
    rcases hS with h | h
    · exact .lst np h (rvs_ints ns)
    · exact .lstK (fun H' => .inr h) (rvs_ints ns)
  refine ⟨rfl, _, [], [], [.d (.list (ns.map .int))], _, M, R, .cons (x := .d (.list (ns.map .int))) rv .nil, e, fun v f' H' F r => ?_⟩
  have r : RV K _ H' (.bool true) v := r
  cases r
  rfl
end DL
set_option Elab.async false
set_option linter.all false
set_option maxRecDepth 100000
set_option maxHeartbeats 4000000
/-! the rules in short -/
namespace DL
open PySem L2

section
variable {X : Cx} {sc fs : Scope} {N : List Str} {c : Call} {n : Nat} {a b e e2 : Expr} {es : List Expr} {p p1 p2 p3 pos : Pos} {m ma mb me : EM} {am : AM}
theorem Room.u65 {k : Nat} {A : Around} (r : Room k A) : A.units + 65 < cLine := by have := r.un; omega
theorem Room.u1 {k : Nat} {A : Around} (r : Room k A) : A.units + 1 < cLine := by have := r.un; omega
theorem x_int {i : Int} {j : Nat} : PE X (.Constant (.int i) j pos) (tE X.K c (mC (.int i))) := pe_cM pe_int fun _ _ => .int _
theorem x_bl {i : Bool} {j : Nat} : PE X (.Constant (.bool i) j pos) (tE X.K c (mC (.bool i))) := pe_cM pe_bl fun _ _ => .bl _
theorem x_non {j : Nat} : PE X (.Constant .none j pos) (tE X.K c (mC .none)) := pe_cM pe_non fun _ _ => .non
theorem x_str {i : Str} {j : Nat} : PE X (.Constant (.str i) j pos) (tE X.K c (mC (.str i))) := pe_cM pe_str fun _ _ => .str _
theorem x_add (ha : PE X a (tE X.K c ma)) (hb : PE X b (tE X.K c mb)) : PE X (.BinOp a .Add b pos) (tE X.K c (mOp gAdd ma mb)) := pe_opM op_addM od_add ha hb
theorem x_sub (ha : PE X a (tE X.K c ma)) (hb : PE X b (tE X.K c mb)) : PE X (.BinOp a .Sub b pos) (tE X.K c (mOp gSub ma mb)) := pe_opM op_sub od_sub ha hb
theorem x_mul (ha : PE X a (tE X.K c ma)) (hb : PE X b (tE X.K c mb)) : PE X (.BinOp a .Mult b pos) (tE X.K c (mOp gMul ma mb)) := pe_opM (op_mul.or op_repT) od_mul ha hb
theorem x_div (ha : PE X a (tE X.K c ma)) (hb : PE X b (tE X.K c mb)) : PE X (.BinOp a .FloorDiv b pos) (tE X.K c (mOp gDiv ma mb)) := pe_opM op_fdiv od_div ha hb
theorem x_mod (ha : PE X a (tE X.K c ma)) (hb : PE X b (tE X.K c mb)) : PE X (.BinOp a .Mod b pos) (tE X.K c (mOp gMod ma mb)) := pe_opM op_mod od_mod ha hb
theorem x_pow (ha : PE X a (tE X.K c ma)) (hb : PE X b (tE X.K c mb)) : PE X (.BinOp a .Pow b pos) (tE X.K c (mOp gPow ma mb)) := pe_opM op_pow od_pow ha hb
theorem x_neg (ha : PE X a (tE X.K c ma)) : PE X (.UnaryOp .USub a pos) (tE X.K c (mUn gNeg ma)) := pe_unM un_neg ud_neg ha
/-- a comparison that c tells -/
structure CmpM (X : Cx) (op : CmpOp) (g : D → D → Option D) : Prop where
  ex : ∃ r, OpR X (compareOp op) r ∧ OpD X.K r g
theorem k_lt : CmpM X .Lt gLt := ⟨_, op_lt, od_lt⟩
theorem k_le : CmpM X .LtE gLe := ⟨_, op_le, od_le⟩
theorem k_gt : CmpM X .Gt gGt := ⟨_, op_gt, od_gt⟩
theorem k_ge : CmpM X .GtE gGe := ⟨_, op_ge, od_ge⟩
theorem k_eq (r : Room n X.A) : CmpM X .Eq gEq := ⟨_, op_eqD r.units, od_eq⟩
theorem k_ne (r : Room n X.A) : CmpM X .NotEq gNe := ⟨_, op_neD r.units, od_ne⟩
theorem k_is : CmpM X .Is gIs := ⟨_, op_isBl.or op_isN, od_is⟩
theorem k_isnot : CmpM X .IsNot gIsNot := ⟨_, op_notBl.or op_notN, od_isnot⟩
theorem k_in (r : Room n X.A) : CmpM X .In (gIn false) := ⟨_, op_inA (Room.u65 r), od_in⟩
theorem k_notin (r : Room n X.A) : CmpM X .NotIn (gIn true) := ⟨_, op_notInA (Room.u65 r), od_in⟩
theorem x_cmp {op : CmpOp} {g : D → D → Option D} (k : CmpM X op g) (ha : PE X a (tE X.K c ma)) (hb : PE X b (tE X.K c mb)) (hm : behindInMarks op b = false := by rfl) : PE X (.Compare a [op] [b] pos) (tE X.K c (mOp g ma mb)) := by
  obtain ⟨r, h1, h2⟩ := k.ex
  exact pe_cmpM h1 h2 ha hb hm
theorem y_cmp {op : CmpOp} {g : D → D → Option D} (k : CmpM X op g) (ha : PE X a (tE X.K c ma)) (hb : PE X b (tE X.K c mb)) (hm : behindInMarks op b = false := by rfl) : PT X (.Compare a [op] [b] pos) (tT X.K c (mB (mOp g ma mb))) := by
  obtain ⟨r, h1, h2⟩ := k.ex
  exact pt_cmpM h1 h2 ha hb hm
theorem x_chain {op op' : CmpOp} {g g' : D → D → Option D} (k : CmpM X op g) (k' : CmpM X op' g') (ha : PE X a (tE X.K c ma)) (hb : PE X b (tE X.K c mb)) (he : PE X e (tE X.K c me)) (hm : lastMarks [op, op'] [b, e] = false := by rfl) : PE X (.Compare a [op, op'] [b, e] pos) (tE X.K c (mChain g g' ma mb me)) := by
  obtain ⟨r, h1, h2⟩ := k.ex
  obtain ⟨r', h1', h2'⟩ := k'.ex
  exact pe_chainM h1 h1' h2 h2' ha hb he hm
theorem y_chain {op op' : CmpOp} {g g' : D → D → Option D} (k : CmpM X op g) (k' : CmpM X op' g') (ha : PE X a (tE X.K c ma)) (hb : PE X b (tE X.K c mb)) (he : PE X e (tE X.K c me)) (hm : lastMarks [op, op'] [b, e] = false := by rfl) : PT X (.Compare a [op, op'] [b, e] pos) (tT X.K c (mB (mChain g g' ma mb me))) := by
  obtain ⟨r, h1, h2⟩ := k.ex
  obtain ⟨r', h1', h2'⟩ := k'.ex
  exact pt_chainM h1 h1' h2 h2' ha hb he hm
theorem x_ix (ha : PE X a (tE X.K c ma)) (hb : PE X b (tE X.K c mb)) (hs : PlainIx b := by intro _ _; rfl) : PE X (.Subscript a b pos) (tE X.K c (mOp gIx ma mb)) := pe_ixM ha hb hs
theorem x_dget (r : Room n X.A) (ha : PE X a (tE X.K c ma)) (hb : PE X b (tE X.K c mb)) (hs : NoSl b := by intro _ _; rfl) : PE X (.Subscript a b pos) (tE X.K c (mDGet ma mb)) := pe_dgetM (Room.u1 r) ha hb hs
theorem y_val (h : PE X e (tE X.K c m)) (he : ∀ whole, isTrue e X.env whole = (do let v ← whole; standAt e.pos; holding [v] (truthy v)) := by intro _; rfl) : PT X e (tT X.K c (mTru m)) := pt_truM h he
theorem x_call1 {es : List Expr} (ha : PE X e (tE X.K c m)) (hs : starEach [e] X.env = [(false, eval e X.env)] := by rfl) : PA X [e] (tA X.K c (mCons m mNil)) := pa_consM ha pa_nilM hs
theorem z_cons (ha : PE X e (tE X.K c m)) (hr : PA X es (tA X.K c am)) (hs : starEach (e :: es) X.env = (false, eval e X.env) :: starEach es X.env := by rfl) : PA X (e :: es) (tA X.K c (mCons m am)) := pa_consM ha hr hs
theorem q_cons {pm : PM} {ms : List PM} (ha : PE X e (tQ X.K c pm)) (hr : PA X es (tP X.K c ms)) (hs : starEach (e :: es) X.env = (false, eval e X.env) :: starEach es X.env := by rfl) : PA X (e :: es) (tP X.K c (pm :: ms)) := pa_consP ha hr hs
/-- a built-in's name -/
structure BN (X : Cx) (x : Str) : Prop where
  gl : Gl X x
  mg : X.mg x = none
theorem bn (h : CtxOk X sc fs N) {x : Str} (g : glC sc x = true) (hm : X.mg x = none) : BN X x := ⟨(h.gl g).gl, hm⟩
theorem x_len (k : BN X "len") (ha : PE X e (tE X.K c m)) (hs : starEach [e] X.env = [(false, eval e X.env)] := by rfl) : PE X (.Call (.Name "len" p) [e] [] pos) (tE X.K c (mBlt gLen (mCons m mNil))) := pe_bltM cr_len cd_len k.gl k.mg (by decide +kernel) (pa_consM ha pa_nilM hs) (by decide) (by decide) hs (by rfl)
theorem x_abs (k : BN X "abs") (ha : PE X e (tE X.K c m)) (hs : starEach [e] X.env = [(false, eval e X.env)] := by rfl) : PE X (.Call (.Name "abs" p) [e] [] pos) (tE X.K c (mBlt gAbs (mCons m mNil))) := pe_bltM call_abs cd_abs k.gl k.mg (by decide +kernel) (pa_consM ha pa_nilM hs) (by decide) (by decide) hs (by rfl)
theorem x_int1 (k : BN X "int") (ha : PE X e (tE X.K c m)) (hs : starEach [e] X.env = [(false, eval e X.env)] := by rfl) : PE X (.Call (.Name "int" p) [e] [] pos) (tE X.K c (mBlt gInt (mCons m mNil))) := pe_bltTM call_int1 cd_int k.gl k.mg (by decide +kernel) (pa_consM ha pa_nilM hs) (by decide) (by decide) hs (by rfl)
theorem x_max2 (h : CtxOk X sc fs N) (k : BN X "max") (ha : PE X e (tE X.K c m)) (hb : PE X e2 (tE X.K c mb)) (hs : starEach [e, e2] X.env = [(false, eval e X.env), (false, eval e2 X.env)] := by rfl) (hs2 : starEach [e2] X.env = [(false, eval e2 X.env)] := by rfl) (hpl : (backTo pos (starEach [e2] X.env)).any (·.1) = false := by rfl) :
    PE X (.Call (.Name "max" p) [e, e2] [] pos) (tE X.K c (mBlt gMax2 (mCons m (mCons mb mNil)))) := pe_bltM (call_max2 h.calm) cd_max2 k.gl k.mg (by decide +kernel) (pa_consM ha (pa_consM hb pa_nilM hs2) (by rw [hs, hs2])) (by decide) (by decide) (by rw [hs, hs2]) hpl
theorem x_min2 (h : CtxOk X sc fs N) (k : BN X "min") (ha : PE X e (tE X.K c m)) (hb : PE X e2 (tE X.K c mb)) (hs : starEach [e, e2] X.env = [(false, eval e X.env), (false, eval e2 X.env)] := by rfl) (hs2 : starEach [e2] X.env = [(false, eval e2 X.env)] := by rfl) (hpl : (backTo pos (starEach [e2] X.env)).any (·.1) = false := by rfl) :
    PE X (.Call (.Name "min" p) [e, e2] [] pos) (tE X.K c (mBlt gMin2 (mCons m (mCons mb mNil)))) := pe_bltM (call_min2 h.calm) cd_min2 k.gl k.mg (by decide +kernel) (pa_consM ha (pa_consM hb pa_nilM hs2) (by rw [hs, hs2])) (by decide) (by decide) (by rw [hs, hs2]) hpl
theorem x_list (k : BN X "list") (ha : PE X e (tE X.K c m)) (hs : starEach [e] X.env = [(false, eval e X.env)] := by rfl) : PE X (.Call (.Name "list" p) [e] [] pos) (tL X.K c (mBltL gList (mCons m mNil))) := pe_bltTLM call_list_of cd_list k.gl k.mg (by decide +kernel) (pa_consM ha pa_nilM hs) (by decide) (by decide) hs (by rfl)
theorem x_tuple (k : BN X "tuple") (ha : PE X e (tE X.K c m)) (hs : starEach [e] X.env = [(false, eval e X.env)] := by rfl) : PE X (.Call (.Name "tuple" p) [e] [] pos) (tE X.K c (mBlt gTuple (mCons m mNil))) := pe_bltTM call_tuple_of cd_tuple k.gl k.mg (by decide +kernel) (pa_consM ha pa_nilM hs) (by decide) (by decide) hs (by rfl)
theorem x_sum (h : CtxOk X sc fs N) (k : BN X "sum") (ha : PE X e (tE X.K c m)) (hs : starEach [e] X.env = [(false, eval e X.env)] := by rfl) : PE X (.Call (.Name "sum" p) [e] [] pos) (tE X.K c (mBlt gSum (mCons m mNil))) := pe_bltM (cr_sum h.calm) cd_sum k.gl k.mg (by decide +kernel) (pa_consM ha pa_nilM hs) (by decide) (by decide) hs (by rfl)
theorem x_any (h : CtxOk X sc fs N) (k : BN X "any") (ha : PE X e (tE X.K c m)) (hs : starEach [e] X.env = [(false, eval e X.env)] := by rfl) : PE X (.Call (.Name "any" p) [e] [] pos) (tE X.K c (mBlt gAny (mCons m mNil))) := pe_bltM (cr_any h.calm) cd_any k.gl k.mg (by decide +kernel) (pa_consM ha pa_nilM hs) (by decide) (by decide) hs (by rfl)
theorem x_all (h : CtxOk X sc fs N) (k : BN X "all") (ha : PE X e (tE X.K c m)) (hs : starEach [e] X.env = [(false, eval e X.env)] := by rfl) : PE X (.Call (.Name "all" p) [e] [] pos) (tE X.K c (mBlt gAll (mCons m mNil))) := pe_bltM (cr_all h.calm) cd_all k.gl k.mg (by decide +kernel) (pa_consM ha pa_nilM hs) (by decide) (by decide) hs (by rfl)
theorem x_sortedI (k : BN X "sorted") (ha : PE X e (tE X.K c m)) (hs : starEach [e] X.env = [(false, eval e X.env)] := by rfl) : PE X (.Call (.Name "sorted" p) [e] [] pos) (tL X.K c (mBltL gSortedI (mCons m mNil))) := pe_bltLM cr_sortedI cd_sortedI k.gl k.mg (by decide +kernel) (pa_consM ha pa_nilM hs) (by decide) (by decide) hs (by rfl)
theorem x_lrg1 (h : CtxOk X sc fs N) (k : BN X "list") (k2 : BN X "range") (ha : PE X e (tE X.K c m)) (hs : starEach [e] X.env = [(false, eval e X.env)] := by rfl) : PE X (.Call (.Name "list" p) [.Call (.Name "range" p2) [e] [] p3] [] pos) (tL X.K c (mLstRg (mRg1 m))) := pe_lrgM h.calm k.gl k.mg (prg1M k2.gl k2.mg ha hs) (by rfl)
theorem x_isi {tn : Str} {U : String} (k : BN X "isinstance") (he : PE X e (tE X.K c m)) (kt : BN X tn) (hv : bootBuiltins tn = some (.type U)) (ht : okTy U = true) (hn : tn ≠ "__name__") (hd : (tn == ("__debug__" : Str)) = false) (h1 : starEach [e, .Name tn p1] X.env = (false, eval e X.env) :: starEach [.Name tn p1] X.env := by rfl) :
    PE X (.Call (.Name "isinstance" p) [e, .Name tn p1] [] pos) (tE X.K c (mIsi [U] m)) := pe_isiM k.gl k.mg he ⟨kt.gl, kt.mg, hv, ht, hn, hd⟩ h1
/-- a built-in type's name -/
structure TyN (X : Cx) (tn : Str) (U : String) : Prop where
  ok : TyArg X tn U
theorem tyn_int (k : BN X "int") : TyN X "int" "int" := ⟨⟨k.gl, k.mg, by decide +kernel, by decide, by decide, by decide⟩⟩
theorem tyn_bool (k : BN X "bool") : TyN X "bool" "bool" := ⟨⟨k.gl, k.mg, by decide +kernel, by decide, by decide, by decide⟩⟩
theorem tyn_str (k : BN X "str") : TyN X "str" "str" := ⟨⟨k.gl, k.mg, by decide +kernel, by decide, by decide, by decide⟩⟩
theorem tyn_list (k : BN X "list") : TyN X "list" "list" := ⟨⟨k.gl, k.mg, by decide +kernel, by decide, by decide, by decide⟩⟩
theorem tyn_tuple (k : BN X "tuple") : TyN X "tuple" "tuple" := ⟨⟨k.gl, k.mg, by decide +kernel, by decide, by decide, by decide⟩⟩
theorem tyn_dict (k : BN X "dict") : TyN X "dict" "dict" := ⟨⟨k.gl, k.mg, by decide +kernel, by decide, by decide, by decide⟩⟩
theorem x_isi1 {tn : Str} {U : String} (k : BN X "isinstance") (he : PE X e (tE X.K c m)) (kt : TyN X tn U) (h1 : starEach [e, .Name tn p1] X.env = (false, eval e X.env) :: starEach [.Name tn p1] X.env := by rfl) :
    PE X (.Call (.Name "isinstance" p) [e, .Name tn p1] [] pos) (tE X.K c (mIsi [U] m)) := pe_isiM k.gl k.mg he kt.ok h1
theorem x_isi2 {tn tn2 : Str} {U U2 : String} {j : Nat} (k : BN X "isinstance") (he : PE X e (tE X.K c m)) (kt : TyN X tn U) (kt2 : TyN X tn2 U2) (h1 : starEach [e, .Tuple [.Name tn p1, .Name tn2 p2] j p3] X.env = (false, eval e X.env) :: starEach [.Tuple [.Name tn p1, .Name tn2 p2] j p3] X.env := by rfl) :
    PE X (.Call (.Name "isinstance" p) [e, .Tuple [.Name tn p1, .Name tn2 p2] j p3] [] pos) (tE X.K c (mIsi [U, U2] m)) := pe_isi2M k.gl k.mg he kt.ok kt2.ok h1
/-- range(..) as what is walked -/
theorem i_rng1 {tg : Expr} (k : BN X "range") (g : GlOk X "range") (ha : PE X e (tE X.K c m)) (hs : starEach [e] X.env = [(false, eval e X.env)] := by rfl) : PI X tg (.Call (.Name "range" p) [e] [] pos) (tI X.K c (mItR (mRg1 m))) := pi_rng1M g k.mg ha hs
theorem i_rng2 {tg : Expr} (k : BN X "range") (g : GlOk X "range") (ha : PE X e (tE X.K c m)) (hb : PE X e2 (tE X.K c mb)) (hs : starEach [e, e2] X.env = [(false, eval e X.env), (false, eval e2 X.env)] := by rfl) (hs2 : starEach [e2] X.env = [(false, eval e2 X.env)] := by rfl) : PI X tg (.Call (.Name "range" p) [e, e2] [] pos) (tI X.K c (mItR (mRg2 m mb))) := pi_rng2M g k.mg ha hb hs hs2
/-- a def's call -/
theorem x_fn {i k np : Nat} {x : Str} {fa : Addr} {fd : FuncData} {ps : List Str} {dvs : List V} {dd : List D} (C : CalleeC X.prog X.w X.K X.mg X.base c i k np x fa fd ps) (hr : Room k X.A) (hg : GlOk X x) (hb : ∃ ds, Vals dvs ds ∧ Binds X.K fd ps ds) (hdd : dd.map flatD = dvs.map some) (ha : PA X (e :: es) (tA X.K c am))
    (he : starEach (e :: es) X.env = (false, eval e X.env) :: starEach es X.env := by rfl) (hpl : (backTo pos (starEach es X.env)).any (·.1) = false := by rfl) : PE X (.Call (.Name x p) (e :: es) [] pos) (tE X.K c (mCall i np dd am)) := by
  obtain ⟨ds, h1, h2⟩ := hb
  exact pe_callM C hr hg h2 h1 hdd ha he hpl
theorem x_fnK0 {i k np nk : Nat} {x : Str} {fa : Addr} {fd : FuncData} {ps ks : List Str} {dvs : List V} {dd : List D} {ix : List Nat} {kws : List Keyword} (C : CalleeC X.prog X.w X.K X.mg X.base c i k np x fa fd ps) (hr : Room k X.A) (hg : GlOk X x) (hb : ∃ ds, KBinds X.K fd ps ks (gK 0 nk ix ds) (gK 0 nk ix dvs)) (hdd : dd.map flatD = dvs.map some)
    (hkw : PK X kws (tA X.K c am)) (hall : (backToKw pos (keywordEach kws X.env)).all (·.1.isSome) = true := by rfl) (hks : (backToKw pos (keywordEach kws X.env)).filterMap (·.1) = ks := by rfl)
    (hpl : ((backTo pos (starEach [] X.env)).any (·.1) || (backToKw pos (keywordEach kws X.env)).any (·.1.isNone)) = false := by rfl) : PE X (.Call (.Name x p) [] kws pos) (tE X.K c (mCallK i np 0 nk ix dd mNil am)) := by
  obtain ⟨ds, h2⟩ := hb
  exact pe_callK0M C hr hg h2 hdd hkw hall hks hpl
/-- statements -/
theorem s_set {i : Nat} {x : Str} {w : WM} (h : CtxOk X sc fs N) (hl : locC sc fs N i x = true) (he : PE X e (tW X.K c w)) (hs : swapsWithSole [.Name x p] e pos.line X.env = pure false := by rfl) (hw : swappedStores [.Name x p] e X.env = pure none := by rfl) (h1 : (assignEach [.Name x p] X.env).map (·.2) = [assign (.Name x p) X.env] := by rfl) :
    PS X (.Assign [.Name x p] e pos) (tS X.K c (mSet i w)) := ps_asgI he (pg_nm h hl) set_imp hs hw h1
theorem s_setL {i : Nat} {x : Str} {ml : LM} (h : CtxOk X sc fs N) (hl : locC sc fs N i x = true) (he : PE X e (tL X.K c ml)) (hs : swapsWithSole [.Name x p] e pos.line X.env = pure false := by rfl) (hw : swappedStores [.Name x p] e X.env = pure none := by rfl) (h1 : (assignEach [.Name x p] X.env).map (·.2) = [assign (.Name x p) X.env] := by rfl) :
    PS X (.Assign [.Name x p] e pos) (tS X.K c (mSetL i ml)) := ps_asgI he (pg_nm h hl) setL_imp hs hw h1
theorem s_setD {i : Nat} {x : Str} {t : Bool} {md : Mm (List (D × D))} (h : CtxOk X sc fs N) (hl : locC sc fs N i x = true) (he : PE X e (tD X.K t c md)) (hs : swapsWithSole [.Name x p] e pos.line X.env = pure false := by rfl) (hw : swappedStores [.Name x p] e X.env = pure none := by rfl) (h1 : (assignEach [.Name x p] X.env).map (·.2) = [assign (.Name x p) X.env] := by rfl) :
    PS X (.Assign [.Name x p] e pos) (tS X.K c (mSetD i t md)) := ps_asgI he (pg_nm h hl) setD_imp hs hw h1
theorem s_setT {tg : Expr} {g : TG} {tm : Tg} {w : WM} (he : PE X e (tW X.K c w)) (hp : PG X tg g) (hg : TgOk X.K g tm) (hs : swapsWithSole [tg] e pos.line X.env = pure false := by rfl) (hw : swappedStores [tg] e X.env = pure none := by rfl) (h1 : (assignEach [tg] X.env).map (·.2) = [assign tg X.env] := by rfl) :
    PS X (.Assign [tg] e pos) (tS X.K c (mSetT tm w)) := ps_asgI he hp (setT_imp hg) hs hw h1
theorem s_app {i : Nat} {x : Str} {apos cpos : Pos} {w : WM} (h : CtxOk X sc fs N) (hn : nmC sc N i x = true) (he : PE X e (tW X.K c w)) (hs : starEach [e] X.env = [(false, eval e X.env)] := by rfl)
    (hbase : attributeBase (.Name x p) "append" X.env (eval (.Name x p) X.env) = eval (.Name x p) X.env := by rfl)
    (hfew : ((backTo cpos (starEach [e] X.env)).all (fun x => !x.1) && (backToKw cpos (keywordEach [] X.env)).all (fun x => x.1.isSome) && decide (([e] : List Expr).length + ([] : List Keyword).length + (if ([] : List Keyword).isEmpty then 0 else 1) < 30)) = true := by rfl)
    (hline : (apos.endLine == cpos.line) = true := by rfl) : PS X (.Expr (.Call (.Attribute (.Name x p) "append" apos) [e] [] cpos) pos) (tS X.K c (mApp1 i w)) := ps_appM h hn he hs hbase hfew hline
theorem s_ext {i : Nat} {x : Str} {apos cpos : Pos} {ml : LM} (h : CtxOk X sc fs N) (hn : nmC sc N i x = true) (he : PE X e (tL X.K c ml)) (hs : starEach [e] X.env = [(false, eval e X.env)] := by rfl)
    (hbase : attributeBase (.Name x p) "extend" X.env (eval (.Name x p) X.env) = eval (.Name x p) X.env := by rfl)
    (hfew : ((backTo cpos (starEach [e] X.env)).all (fun x => !x.1) && (backToKw cpos (keywordEach [] X.env)).all (fun x => x.1.isSome) && decide (([e] : List Expr).length + ([] : List Keyword).length + (if ([] : List Keyword).isEmpty then 0 else 1) < 30)) = true := by rfl)
    (hline : (apos.endLine == cpos.line) = true := by rfl) : PS X (.Expr (.Call (.Attribute (.Name x p) "extend" apos) [e] [] cpos) pos) (tS X.K c (mExt i ml)) := ps_extM h hn he hs hbase hfew hline
theorem x_pop {i : Nat} {x : Str} {apos cpos : Pos} (h : CtxOk X sc fs N) (hn : nmC sc N i x = true) (hbase : attributeBase (.Name x p) "pop" X.env (eval (.Name x p) X.env) = eval (.Name x p) X.env := by rfl) (hline : (apos.endLine == cpos.line) = true := by rfl) :
    PE X (.Call (.Attribute (.Name x p) "pop" apos) [] [] cpos) (tW X.K c (mPopW i)) := pe_popM h hn hbase hline
theorem x_popAt {i : Nat} {x : Str} {apos cpos : Pos} (h : CtxOk X sc fs N) (hn : nmC sc N i x = true) (he : PE X e (tE X.K c me)) (hs : starEach [e] X.env = [(false, eval e X.env)] := by rfl)
    (hbase : attributeBase (.Name x p) "pop" X.env (eval (.Name x p) X.env) = eval (.Name x p) X.env := by rfl)
    (hfew : ((backTo cpos (starEach [e] X.env)).all (fun x => !x.1) && (backToKw cpos (keywordEach [] X.env)).all (fun x => x.1.isSome) && decide (([e] : List Expr).length + ([] : List Keyword).length + (if ([] : List Keyword).isEmpty then 0 else 1) < 30)) = true := by rfl)
    (hline : (apos.endLine == cpos.line) = true := by rfl) : PE X (.Call (.Attribute (.Name x p) "pop" apos) [e] [] cpos) (tW X.K c (mPopAtW i me)) := pe_popAtM h hn he hs hbase hfew hline
theorem s_setIx {i : Nat} {x : Str} {apos : Pos} {ie : Expr} {w : WM} (h : CtxOk X sc fs N) (hn : nmC sc N i x = true) (hi : PE X ie (tE X.K c me)) (he : PE X e (tW X.K c w))
    (ha : ∀ v, assign (.Subscript (.Name x p) ie apos) X.env v = (do
      let ov ← holding [v] (eval (.Name x p) X.env)
      let iv ← holding [v, ov] (eval ie X.env)
      standAt apos
      holding [v, ov, iv] (setItem ov iv v)
      release [v, ov, iv] []) := by intro _; rfl) (hs : swapsWithSole [.Subscript (.Name x p) ie apos] e pos.line X.env = pure false := by rfl) (hw : swappedStores [.Subscript (.Name x p) ie apos] e X.env = pure none := by rfl)
    (h1 : (assignEach [.Subscript (.Name x p) ie apos] X.env).map (·.2) = [assign (.Subscript (.Name x p) ie apos) X.env] := by rfl) : PS X (.Assign [.Subscript (.Name x p) ie apos] e pos) (tS X.K c (mSetIx i me w)) := ps_setIxM h hn hi he ha hs hw h1
theorem s_dput {i : Nat} {x : Str} {apos : Pos} {ie : Expr} {w : WM} (h : CtxOk X sc fs N) (r : Room n X.A) (hn : nmC sc N i x = true) (hi : PE X ie (tE X.K c me)) (he : PE X e (tW X.K c w)) (hs : swapsWith e (some (.Subscript (.Name x p) ie apos)) pos.line X.env = pure false := by rfl) :
    PS X (.Assign [.Subscript (.Name x p) ie apos] e pos) (tS X.K c (mDPut i me w)) := ps_dputM h (Room.u1 r) hn hi he hs
end
end DL
set_option Elab.async false
set_option linter.all false
set_option maxRecDepth 100000
set_option maxHeartbeats 4000000
/-! enumerate over tuples and lists -/
namespace DL
open PySem L2 PySem.Spec PyProof.Rows

set_option maxHeartbeats 1000000 in
theorem meets_enumerate_newTu (l : Addr) (items : Array Value) :
    Meets (Builtin.«enumerate.__new__» ⟨[.type "enumerate", .ref l], []⟩) (fun _ R s => s.heap.IsTuple l items ∧
      R (.ok (.ret (.ref (s.heap.push { cls := .type "tuple_iterator", data := .fields #[.ref l, .int 0 0] }).objs.size)))
        { s with heap := (s.heap.push { cls := .type "tuple_iterator", data := .fields #[.ref l, .int 0 0] }).push { cls := .type "enumerate", data := .fields #[.none, .bool false, .ref s.heap.objs.size, rawInt 0, .none, .none] } }) :=
  .of_wp fun prog w A R s h => by
    obtain ⟨hp, g, d, tk, os⟩ := s; obtain ⟨hl, h⟩ := h
    have hsub := sub_enumerate
    have q1 : ∀ {A' : Around} {E : Value → Shared → Prop} {Q : Value → Shared → Prop}, Q (.ref hp.objs.size) ⟨hp.push { cls := .type "tuple_iterator", data := .fields #[.ref l, .int 0 0] }, g, d, tk, os⟩ → wpAny (model prog w) A' (pyIter (.ref l)) Q E ⟨hp, g, d, tk, os⟩ :=
      fun q => wpAny_pyIter_tuple (s := ⟨hp, g, d, tk, os⟩) hl q
    wp_walk using q1
    refine wpAny_stack_any fun st => wpAny_pure ?_
    split
    · rename_i c _ _ _ _ _
      cases (c == Value.type "enumerate")
      · wp_walk using q1
        exact ⟨_, rfl, h⟩
      · wp_walk using q1
        exact ⟨_, rfl, h⟩
    · wp_walk using q1
      exact ⟨_, rfl, h⟩
section
variable {prog : Program} {w : World} {A : Around} {E : Value → Shared → Prop} {s : Shared}
theorem call_enumerate_tuple {l : Addr} {items : Array Value} {Q : Value → Shared → Prop} (hL : s.heap.IsTuple l items)
    (h : ∀ h', IsEnum h' (s.heap.objs.size + 1) s.heap.objs.size 0 .none → h'.IsTupleIter s.heap.objs.size l 0 → h'.objs.size = s.heap.objs.size + 2 →
      (∀ b o, s.heap.get? b = some o → h'.get? b = some o) → Q (.ref (s.heap.objs.size + 1)) { s with heap := h' }) :
    wpAny (model prog w) A (call (.type "enumerate") [.ref l]) Q E s := by
  refine callType_new F.called_enumerate (by decide) (F.typeCall_enumerate_1 _) (F.newCall_enumerate_1 _) (fun obj => F.args_object_init_2 obj _) F.entry_enumerate_new
    (meets_enumerate_newTu l items) ⟨hL, ?_⟩
  have hz : (s.heap.push { cls := .type "tuple_iterator", data := .fields #[.ref l, .int 0 0] }).objs.size = s.heap.objs.size + 1 := Heap.size_push ..
  show _ ∧ _
  rw [hz]
  have he : IsEnum ((s.heap.push { cls := .type "tuple_iterator", data := .fields #[.ref l, .int 0 0] }).push
      { cls := .type "enumerate", data := .fields #[.none, .bool false, .ref s.heap.objs.size, rawInt 0, .none, .none] }) (s.heap.objs.size + 1) s.heap.objs.size 0 .none := by
    have := Heap.get?_push_size (s.heap.push { cls := .type "tuple_iterator", data := .fields #[.ref l, .int 0 0] })
      (o := { cls := .type "enumerate", data := .fields #[.none, .bool false, .ref s.heap.objs.size, rawInt 0, .none, .none] }) rfl
    rw [hz] at this; exact this
  refine ⟨⟨_, he, rfl⟩, h _ he ⟨_, Heap.get?_push_of_some _ (Heap.get?_push_size _ rfl), rfl, rfl⟩ (by rw [Heap.size_push, hz]) fun b o x => Heap.get?_push_of_some _ (Heap.get?_push_of_some _ x)⟩
end
def IteT (K : PySem.W.Frag) (a : Addr) : It :=
  ⟨fun i H => ∃ (xs : List V) (x : V), SqT K H a xs ∧ xs[i]? = some x, fun i H v H' => ∃ T x, v = .ref T ∧ H T = none ∧ H' = upd H T (.tup [.int (i : Nat), x]) ∧ ∀ xs, SqT K H a xs → xs[i]? = some x, fun i H => ∃ xs : List V, SqT K H a xs ∧ xs.length ≤ i⟩
theorem turn_enumT {P : Program} {w : World} {K : PySem.W.Frag} {elts : List Expr} {kk : Nat} {tpos : Pos} (a e it : Addr) :
    Turn P w K (.Tuple elts kk tpos) (IteT K a) [e, it] e (fun i h => (∃ old, IsEnum h e it ((i : Nat) : Int) old) ∧ h.IsTupleIter it a i ∧ e ≠ it) where
  mem := by simp
  obj := fun i h st b hb => by
    obtain ⟨⟨old, he⟩, ⟨o, ho, hc, hd⟩, _⟩ := st
    have e' : b = e ∨ b = it := by simpa using hb
    rcases e' with z | z
    · rw [z]; exact ⟨_, he, fun v q => nomatch q⟩
    · rw [z]; exact ⟨o, ho, fun v q => by rw [hd] at q; cases q⟩
  keep := fun i h h' st k => let ⟨⟨old, he⟩, hi, hne⟩ := st; ⟨⟨old, k e (by simp) _ he⟩, hi.at fun o q => k it (by simp) o q, hne⟩
  item := by
    intro X hP hw hK hc i pins s σ H E I hf st hg
    subst hP hw hK
    obtain ⟨⟨old, he⟩, hit, hne⟩ := st
    obtain ⟨xs, x, hq, hx⟩ := hg
    obtain ⟨its, rv, p, hz⟩ := I.tuple hq
    have p : s.heap.IsTuple a its.toArray := p
    obtain ⟨u, hu, ru⟩ := rv.get hx
    have hel : e < s.heap.objs.size := Heap.lt_size he
    have hil : it < s.heap.objs.size := by obtain ⟨_, q, _⟩ := hit; exact Heap.lt_size q
    have hai : a ≠ it := by
      intro z
      obtain ⟨o1, q1, c1, d1⟩ := p
      obtain ⟨o2, q2, c2, _⟩ := hit
      rw [z] at q1
      have e := Option.some.inj (q1.symm.trans q2)
      rw [e] at c1
      have c3 := c2.symm.trans c1
      injection c3 with c3
      exact absurd c3 (by decide)
    have hae : e ≠ a := by
      intro z
      obtain ⟨o1, q1, c1, d1⟩ := p
      rw [← z] at q1
      have e := Option.some.inj (q1.symm.trans he)
      rw [e] at c1
      injection c1 with c3
      exact absurd c3 (by decide)
    have hu' : its.toArray[i]? = some u := by simpa using hu
    have hlt : i < its.toArray.size := by
      have := (Array.getElem?_eq_some_iff.mp hu').1
      exact this
    refine wpAny_pyNext_enum_itemD (Draws.tuple (A := X.A.in1) (I.ok.hd hc) it a hai its.toArray) he ⟨hit, p⟩ hlt hne (by simp [hne, hae]) fun x' h' tk hx' ho hst' hT hsz hk => ?_
    rw [hu'] at hx'
    cases hx'
    refine ⟨_, rfl, wpAny_letOwnedTupleGo_enum (s := { s with heap := h', toks := tk + 1 }) ho fun h'' he' sb => ?_⟩
    have hT2 : h''.get? s.heap.objs.size = some { cls := .type "tuple", data := .seq #[.int i tk, u] } := (sb.2 _ (Nat.ne_of_gt hel)).trans hT
    have new : ObjOk X.prog X.w (upd H s.heap.objs.size (.tup [.int (i : Nat), x])) h'' s.heap.objs.size (.tup [.int (i : Nat), x]) :=
      ⟨by show 2 ≤ sizeLine; decide, [.int i tk, u], .cons ⟨_, rfl⟩ (.cons ru .nil), ⟨_, hT2, rfl, _, rfl⟩⟩
    have I1 : Inv X pins σ (upd H s.heap.objs.size (.tup [.int (i : Nat), x])) { s with heap := h'', toks := tk + 1 } :=
      I.turnedNew (ch := [e, it]) (fun b ob hb q => (sb.2 b (fun z => hb (by simp [z]))).trans (hk b ob (fun z => hb (by simp [z])) (fun z => hb (by simp [z])) q)) hf (Nat.le_refl _) new
    refine ⟨.ref s.heap.objs.size, _, I1, rfl, ⟨_, x, rfl, I.hok.fresh (Nat.le_refl _), rfl, fun ys hy => by rw [I.tuple_inj hy hq]; exact hx⟩, ⟨⟨u, ?_⟩, hst'.1.at fun o q => (sb.2 it (Ne.symm hne)).trans q, hne⟩, fun b hb => ?_⟩
    · have e1 : ((i + 1 : Nat) : Int) = (i : Int) + 1 := by omega
      rw [e1]; exact he'
    · have hb' : b < s.heap.objs.size := by
        have e' : b = e ∨ b = it := by simpa using hb
        rcases e' with z | z
        · rw [z]; exact hel
        · rw [z]; exact hil
      rw [upd_ne (Nat.ne_of_lt hb')]
      exact (hf b hb).1
  done := by
    intro X hP hw hK hc i pins s σ H E I hf st hg
    subst hP hw hK
    obtain ⟨⟨old, he⟩, hit, hne⟩ := st
    obtain ⟨xs, hq, hx⟩ := hg
    obtain ⟨its, rv, p, hz⟩ := I.tuple hq
    have p : s.heap.IsTuple a its.toArray := p
    obtain ⟨f0, f1, f2, f3, f4, f5⟩ := hf it (by simp)
    have hl := rv.length
    have hx2 : its.toArray[i]? = none := by simp; omega
    have hT : s.TypeIs (.ref e) "enumerate" := ⟨_, he, rfl⟩
    unfold pyNext
    refine wpAny_bind (wpAny_attempt (wpAny_callSpecial?_slot (name := Str.ofString "__next__") hT F.slot_enumerate_next
      (wpAny_call_entry F.slot_enumerate_next hT F.entry_enumerate_next ?_ (F.args_enumerate_next_1 _))))
    show wpAny _ _ (field (.ref e) 2 >>= _) _ _ _
    refine wpAny_bind (wpAny_field he rfl (x := .ref it) rfl ?_)
    refine wpAny_bind (wpAny_nextOf_tuple_end (I.ok.hd hc) hit p hx2 fun h' x he' hx' => ?_)
    obtain ⟨o, ho, hc⟩ := hx'
    refine wpAny_bind (wpAny_isInstance (T := "StopIteration") (b := true) ⟨o, ho, hc⟩ isSubtype_stop ?_)
    exact wpAny_pure ⟨rfl, I.turned (t' := s.toks) (fun b o hb q => he' b o hb q) f0 f1 f3 f4 f5⟩
  self := fun A i s Q E st h => let ⟨⟨_, he⟩, _⟩ := st; wpAny_pyIter_enum he h

def iEnumT (K : PySem.W.Frag) (ta : TA) : TI := fun σ H R => ta σ H fun vs H1 => ∃ a xs, vs = [.ref a] ∧ ((SqL K H1 a xs ∧ R (Ite K a) H1) ∨ (SqT K H1 a xs ∧ R (IteT K a) H1))
theorem pi_enumT {X : Cx} {e : Expr} {ta : TA} {p pos tpos : Pos} {elts : List Expr} {kk : Nat} (hg : Gl X "enumerate") (hm : X.mg "enumerate" = none) (ha : PA X [e] ta) (hs : starEach [e] X.env = [(false, eval e X.env)] := by rfl) :
    PI X (.Tuple elts kk tpos) (.Call (.Name "enumerate" p) [e] [] pos) (iEnumT X.K ta) := by
  refine ⟨fun pins s σ H R I h => ?_⟩
  refine Call_ (ld_blt I hg hm boot_enumerate (PyProof.Rows.callWith_type1 (thn (ha.run pos pins s σ H _ I h) fun us s1 ⟨vs, H1, I1, r1, q1⟩ => ?_) hs rfl))
  obtain ⟨a, xs, ex, q1⟩ := q1
  subst ex
  cases r1 with
  | cons r rr =>
    cases rr
    cases r
    have fp : ∀ b ∈ [s1.heap.objs.size + 1, s1.heap.objs.size], FpOk X pins H1 b := fun b hb => by
      have e' : b = s1.heap.objs.size + 1 ∨ b = s1.heap.objs.size := by simpa using hb
      have hle : s1.heap.objs.size ≤ b := by
        rcases e' with z | z
        · rw [z]; exact Nat.le_add_right _ _
        · rw [z]; exact Nat.le_refl _
      exact I1.fpOk hle (I1.hok.fresh hle)
    rcases q1 with ⟨hq, q⟩ | ⟨hq, q⟩
    · obtain ⟨its, rv, p', hz⟩ := I1.list hq
      refine call_enumerate_list p'.isList fun h' he hit hsz hk => wpAny_pyIter_enum he ?_
      have I2 : Inv X pins σ H1 { s1 with heap := h' } := I1.kept (t' := s1.toks) hk
      exact ⟨s1.heap.objs.size + 1, [s1.heap.objs.size + 1, s1.heap.objs.size], _, _, H1, rfl, I2, turn_enum a (s1.heap.objs.size + 1) s1.heap.objs.size, ⟨⟨.none, he⟩, hit, Nat.succ_ne_self _⟩, fp, q⟩
    · obtain ⟨its, rv, p', hz⟩ := I1.tuple hq
      refine call_enumerate_tuple (show s1.heap.IsTuple a its.toArray from p') fun h' he hit hsz hk => wpAny_pyIter_enum he ?_
      have I2 : Inv X pins σ H1 { s1 with heap := h' } := I1.kept (t' := s1.toks) hk
      exact ⟨s1.heap.objs.size + 1, [s1.heap.objs.size + 1, s1.heap.objs.size], _, _, H1, rfl, I2, turn_enumT a (s1.heap.objs.size + 1) s1.heap.objs.size, ⟨⟨.none, he⟩, hit, Nat.succ_ne_self _⟩, fp, q⟩
/-! ### in the machine -/
def enumD (xs : List D) : List D := xs.mapIdx fun i d => .tuple [.int (i : Nat), d]
def mItE (a : EM) : IM := bnd a fun x _ _ M => match x with
  | .d d => (gSeq d).map fun xs => (enumD xs, M)
  | _ => none
section
variable {K : PySem.W.Frag}
theorem enumD_get {ds : List D} {i : Nat} {d : D} (e : (enumD ds)[i]? = some d) : ∃ y, ds[i]? = some y ∧ d = .tuple [.int (i : Nat), y] := by
  unfold enumD at e
  rw [List.getElem?_mapIdx, Option.map_eq_some_iff] at e
  obtain ⟨y, h1, h2⟩ := e
  exact ⟨y, h1, h2.symm⟩
theorem fin_pair {os : Pr} {f : List Addr} {ρ : List Slot} {M : List MO} {σ : L2.St} {H H' : Hp} {T : Addr} {i : Nat} {y : D} {v x : V} (R : Rel K os f ρ M σ H) (ev : v = .ref T) (hT : H T = none) (eH : H' = upd H T (.tup [.int (i : Nat), x])) (r : RV K (Pu os (Wr f ρ σ)) H y x) :
    Fin K os f ρ σ H f M H' ∧ RV K (Pu os (Wr f ρ σ)) H' (.tuple [.int (i : Nat), y]) v := by
  subst ev
  subst eH
  have F : Fin K os f ρ σ H f M (upd H T (.tup [.int (i : Nat), x])) := Fin.laid R hT
  exact ⟨F, .tup ⟨upd_same, R.free hT⟩ (.cons (.int _) (.cons (RV.step F.st r) .nil))⟩
theorem it_enumL {ds : List D} (a : Addr) : ItOk K (enumD ds) (Ite K a) (fun P H => RV K P H (.list ds) (.ref a)) := by
  refine ⟨fun os f ρ M σ H i d R g e => ?_, fun P H i g hl => ?_⟩
  · obtain ⟨y, h1, rfl⟩ := enumD_get e
    obtain ⟨vs, h, r⟩ := g.sql
    obtain ⟨v, e1, r1⟩ := r.get h1
    refine ⟨⟨_, v, h, e1⟩, fun x H' z => ?_⟩
    obtain ⟨T, u, ev, hT, eH, hu⟩ := z
    have e2 := hu _ h
    rw [e1] at e2
    cases e2
    exact fin_pair R ev hT eH r1
  · obtain ⟨vs, h, r⟩ := g.sql
    exact ⟨_, h, by rw [← r.length]; simpa [enumD] using hl⟩
theorem it_enumT {ds : List D} (a : Addr) : ItOk K (enumD ds) (IteT K a) (fun P H => RV K P H (.tuple ds) (.ref a)) := by
  refine ⟨fun os f ρ M σ H i d R g e => ?_, fun P H i g hl => ?_⟩
  · obtain ⟨y, h1, rfl⟩ := enumD_get e
    cases g with
    | tup h r =>
      obtain ⟨v, e1, r1⟩ := r.get h1
      refine ⟨⟨_, v, h.sq, e1⟩, fun x H' z => ?_⟩
      obtain ⟨T, u, ev, hT, eH, hu⟩ := z
      have e2 := hu _ h.sq
      rw [e1] at e2
      cases e2
      exact fin_pair R ev hT eH r1
  · cases g with
    | tup h r => exact ⟨_, h.sq, by rw [← r.length]; simpa [enumD] using hl⟩
theorem i_enum {X : Cx} {sc fs : Scope} {N : List Str} {c : Call} {e : Expr} {m : EM} {p pos tpos : Pos} {elts : List Expr} {kk : Nat} (h : CtxOk X sc fs N) (k : BN X "enumerate") (he : PE X e (tE X.K c m)) (hs : starEach [e] X.env = [(false, eval e X.env)] := by rfl) :
    PI X (.Tuple elts kk tpos) (.Call (.Name "enumerate" p) [e] [] pos) (tI X.K c (mItE m)) := pi_imp (pi_enumT k.gl k.mg (pa_one he hs) hs) fun σ H R h => by
  obtain ⟨os, f, ρ, M, Rl, items, M', e0, q⟩ := h
  replace e0 := bnd_ok e0
  obtain ⟨x, M1, e1, e0⟩ := e0
  split at e0
  · rename_i d
    rw [Option.map_eq_some_iff] at e0
    obtain ⟨xs, e2, e3⟩ := e0
    cases e3
    refine ⟨os, f, ρ, M, Rl, _, _, e1, fun v f1 H1 F1 r => ?_⟩
    cases d with
    | list ds =>
      cases e2
      have r : RV X.K (Pu os (Wr f1 ρ σ)) H1 (.list xs) v := r
      cases v with
      | ref a =>
        obtain ⟨vs, h, _⟩ := r.sql
        exact ⟨a, _, rfl, .inl ⟨h, q _ _ f1 H1 F1 (it_enumL a) stays_rv r⟩⟩
      | _ => cases r
    | tuple ds =>
      cases e2
      have r : RV X.K (Pu os (Wr f1 ρ σ)) H1 (.tuple xs) v := r
      cases v with
      | ref a =>
        cases id r with
        | tup h r1 => exact ⟨a, _, rfl, .inr ⟨h.sq, q _ _ f1 H1 F1 (it_enumT a) stays_rv r⟩⟩
      | _ => cases r
    | _ => cases e2
  · cases e0
end

/-! ### new lists put together -/
def mCat (a b : LM) : LM := bnd a fun xs => bnd b fun ys => if xs.length + ys.length ≤ lim then fun _ _ M => some (xs ++ ys, M) else fun _ _ _ => none
section
variable {X : Cx} {c : Call} {a b : Expr} {pos : Pos} {ma mb : LM} {K : PySem.W.Frag}
theorem cat_imp : ∀ σ H Q, tL K c (mCat ma mb) σ H Q → tOp rCat (tL K c ma) (tL K c mb) σ H Q := fun σ H Q h => by
  obtain ⟨os, f, ρ, M, R, z, M', e, q⟩ := h
  replace e := bnd_ok e
  obtain ⟨xs, M1, e1, e⟩ := e
  replace e := bnd_ok e
  obtain ⟨ys, M2, e2, e⟩ := e
  split at e
  · rename_i hl
    cases e
    refine ⟨os, f, ρ, M, R, xs, M1, e1, fun L1 f1 H1 F1 => ?_⟩
    refine ⟨addP os L1, f1, ρ, M1, F1.rel, ys, M', e2, fun L2 f2 H2 F2 => ?_⟩
    obtain ⟨us1, o1, r1⟩ := F1.obj
    obtain ⟨us2, o2, r2⟩ := F2.obj
    have nW : ¬ Wr f1 ρ σ L1 := fun m => by
      rcases m with m | ⟨i, m⟩
      · exact F1.rel.o3 L1 m (.inr rfl)
      · exact (F1.rel.o2 i L1 m).2 (.inr rfl)
    have o1' : H2 L1 = some (.lst us1) := F2.st.keep L1 _ o1 nW
    refine ⟨L1, L2, us1, us2, rfl, rfl, o1', o2, by rw [← r1.length, ← r2.length]; exact lim_le hl, fun p hp => ?_⟩
    have W2 : Less (Pu os (Wr f2 ρ σ)) (Pu (addP (addP os L1) L2) (Wr f2 ρ σ)) := fun b m => m.elim (fun m => .inl (.inl (.inl m))) .inr
    have W3 : Less (Pu os (Wr f1 ρ σ)) (Pu (addP os L1) (Wr f1 ρ σ)) := fun b m => m.elim (fun m => .inl (.inl m)) .inr
    have R2 : Rel K os f2 ρ M' σ H2 := F2.rel.weak fun b m => .inl (.inl m)
    have st := F1.st.trans F2.st
    have rs : RVs K (Pu os (Wr f2 ρ σ)) H2 (xs ++ ys) (us1 ++ us2) := (RVs.step F2.st (r1.less W3)).append (r2.less W2)
    have pre : ∀ (n : Nat) (a : Addr), f[n]? = some a → f2[n]? = some a := fun n a h => F2.pre n a (F1.pre n a h)
    refine q p f2 _ ⟨st.trans (Step.laid hp), R2.lay hp, pre, fresh_back R2 st pre hp, us1 ++ us2, upd_same, rs.addP hp⟩
  · cases e
theorem x_cat (ha : PE X a (tL X.K c ma)) (hb : PE X b (tL X.K c mb)) : PE X (.BinOp a .Add b pos) (tL X.K c (mCat ma mb)) := pe_imp (pe_op op_cat ha hb) cat_imp
end
end DL
set_option Elab.async false
set_option linter.all false
set_option maxRecDepth 100000
set_option maxHeartbeats 4000000
namespace K03
open PySem L2 DL
def top (i : Nat) : Stmt := PySem.Challenge.pw_intervalbench_k03_trees_by_their_ways.main.body.getD i (.Pass ⟨0, 0, 0, 0⟩)
abbrev st0 : Stmt := top 5
abbrev sc0 : Scope := defScope st0
def N0 : List Str := ["value"]
abbrev st1 : Stmt := top 6
abbrev sc1 : Scope := defScope st1
def N1 : List Str := ["value", "least", "most"]
abbrev st2 : Stmt := top 10
abbrev sc2 : Scope := defScope st2
def N2 : List Str := ["value", "least", "most"]
abbrev st3 : Stmt := top 11
abbrev sc3 : Scope := defScope st3
def N3 : List Str := ["value", "most", "one"]
abbrev st4 : Stmt := top 12
abbrev sc4 : Scope := defScope st4
def N4 : List Str := ["intervals"]
abbrev st5 : Stmt := top 13
abbrev sc5 : Scope := defScope st5
def N5 : List Str := ["number"]
abbrev st6 : Stmt := top 15
abbrev sc6 : Scope := defScope st6
def N6 : List Str := ["intervals", "indices", "ends", "middle", "left", "right", "here", "index", "end"]
abbrev st7 : Stmt := top 16
abbrev sc7 : Scope := defScope st7
def N7 : List Str := ["intervals"]
abbrev st8 : Stmt := top 17
abbrev sc8 : Scope := defScope st8
def N8 : List Str := ["intervals", "number", "found", "here"]
abbrev st9 : Stmt := top 18
abbrev sc9 : Scope := defScope st9
def N9 : List Str := ["intervals", "number", "near", "part", "index"]
abbrev st10 : Stmt := top 19
abbrev sc10 : Scope := defScope st10
def N10 : List Str := ["intervals", "number", "part"]
abbrev st11 : Stmt := top 21
abbrev sc11 : Scope := defScope st11
def N11 : List Str := ["script", "k"]
abbrev st12 : Stmt := top 22
abbrev sc12 : Scope := defScope st12
def N12 : List Str := ["great"]
abbrev st13 : Stmt := top 23
abbrev sc13 : Scope := defScope st13
def N13 : List Str := ["box", "many", "digit", "mixed"]
abbrev st14 : Stmt := top 24
abbrev sc14 : Scope := defScope st14
def N14 : List Str := ["told", "due", "k"]
abbrev st15 : Stmt := top 25
abbrev sc15 : Scope := defScope st15
def N15 : List Str := ["box", "many", "left", "found"]
abbrev st16 : Stmt := top 26
abbrev sc16 : Scope := defScope st16
def N16 : List Str := ["box", "low", "high", "first"]
abbrev st17 : Stmt := top 27
abbrev sc17 : Scope := defScope st17
def N17 : List Str := ["box", "many", "high", "way", "found", "k", "first", "order"]
abbrev st18 : Stmt := top 28
abbrev sc18 : Scope := defScope st18
def N18 : List Str := ["box", "items"]
abbrev st19 : Stmt := top 29
abbrev sc19 : Scope := defScope st19
def N19 : List Str := ["box", "most", "great", "many", "rows", "one", "far", "low", "high"]
abbrev st20 : Stmt := top 30
abbrev sc20 : Scope := defScope st20
def N20 : List Str := ["one", "other"]
abbrev st21 : Stmt := top 31
abbrev sc21 : Scope := defScope st21
def N21 : List Str := ["rows", "tree", "waits", "found", "seen", "turn", "path", "part", "some", "ends", "middle", "here", "k"]
abbrev st22 : Stmt := top 32
abbrev sc22 : Scope := defScope st22
def N22 : List Str := ["parts", "number", "path", "middles", "here", "turn", "middle"]
abbrev st23 : Stmt := top 33
abbrev sc23 : Scope := defScope st23
def N23 : List Str := ["box", "rows", "named", "tree", "parts", "ends", "low", "high", "number", "middles", "here", "told", "have", "met", "k"]
abbrev st24 : Stmt := top 34
abbrev sc24 : Scope := defScope st24
def N24 : List Str := ["box", "rows", "pairs", "i", "j", "k", "row"]
abbrev st25 : Stmt := top 35
abbrev sc25 : Scope := defScope st25
def N25 : List Str := ["script", "k", "box", "named", "one", "rows"]
def blts : List Str := ["abs", "all", "bool", "dict", "enumerate", "int", "isinstance", "len", "list", "max", "min", "range", "sorted", "str", "sum", "tuple"]
/-- what each def may lean on -/
structure Al (P : Program) (w : World) (K : PySem.W.Frag) (mg : Str → Option Value) (base : Heap) (c : Call) (n : Nat) : Prop where
  a0 : ∃ fa fd, CalleeC P w K mg base c 0 n 1 "is_integer" fa fd ["value"] ∧ (∃ ds, Vals [] ds ∧ Binds K fd ["value"] ds)
  a1 : ∃ fa fd, CalleeC P w K mg base c 1 n 3 "is_between" fa fd ["value", "least", "most"] ∧ (∃ ds, Vals [] ds ∧ Binds K fd ["value", "least", "most"] ds)
  a2 : ∃ fa fd, CalleeC P w K mg base c 2 n 3 "is_known" fa fd ["value", "least", "most"] ∧ (∃ ds, Vals [.int (-1000), .int 1000] ds ∧ Binds K fd ["value", "least", "most"] ds)
  a3 : ∃ fa fd, CalleeC P w K mg base c 3 n 2 "are_intervals" fa fd ["value", "most"] ∧ (∃ ds, Vals [.int 24] ds ∧ Binds K fd ["value", "most"] ds)
  a4 : ∃ fa fd, CalleeC P w K mg base c 4 n 1 "check_intervals" fa fd ["intervals"] ∧ (∃ ds, Vals [] ds ∧ Binds K fd ["intervals"] ds)
  a5 : ∃ fa fd, CalleeC P w K mg base c 5 n 1 "check_number" fa fd ["number"] ∧ (∃ ds, Vals [] ds ∧ Binds K fd ["number"] ds)
  a6 : ∃ fa fd, CalleeC P w K mg base c 6 n 2 "grown" fa fd ["intervals", "indices"] ∧ (∃ ds, Vals [] ds ∧ Binds K fd ["intervals", "indices"] ds)
  a7 : ∃ fa fd, CalleeC P w K mg base c 7 n 1 "tree_of" fa fd ["intervals"] ∧ (∃ ds, KBinds K fd ["intervals"] ["intervals"] (gK 0 1 [0] ds) (gK 0 1 [0] [])) ∧ (∃ ds, Vals [] ds ∧ Binds K fd ["intervals"] ds)
  a8 : ∃ fa fd, CalleeC P w K mg base c 8 n 2 "way_down" fa fd ["intervals", "number"] ∧ (∃ ds, Vals [] ds ∧ Binds K fd ["intervals", "number"] ds)
  a9 : ∃ fa fd, CalleeC P w K mg base c 9 n 2 "stabbed" fa fd ["intervals", "number"] ∧ (∃ ds, Vals [] ds ∧ Binds K fd ["intervals", "number"] ds) ∧ (∃ ds, KBinds K fd ["intervals", "number"] ["number", "intervals"] (gK 0 2 [1, 0] ds) (gK 0 2 [1, 0] []))
  a10 : ∃ fa fd, CalleeC P w K mg base c 10 n 2 "visited" fa fd ["intervals", "number"] ∧ (∃ ds, KBinds K fd ["intervals", "number"] ["number", "intervals"] (gK 0 2 [1, 0] ds) (gK 0 2 [1, 0] [])) ∧ (∃ ds, Vals [] ds ∧ Binds K fd ["intervals", "number"] ds)
  a11 : ∃ fa fd, CalleeC P w K mg base c 11 n 2 "_law_cell" fa fd ["script", "k"] ∧ (∃ ds, Vals [] ds ∧ Binds K fd ["script", "k"] ds)
  a12 : ∃ fa fd, CalleeC P w K mg base c 12 n 1 "_law_box" fa fd ["great"] ∧ (∃ ds, Vals [] ds ∧ Binds K fd ["great"] ds)
  a13 : ∃ fa fd, CalleeC P w K mg base c 13 n 2 "_law_take" fa fd ["box", "many"] ∧ (∃ ds, Vals [] ds ∧ Binds K fd ["box", "many"] ds)
  a14 : ∃ fa fd, CalleeC P w K mg base c 14 n 2 "_law_same" fa fd ["told", "due"] ∧ (∃ ds, Vals [] ds ∧ Binds K fd ["told", "due"] ds)
  a15 : ∃ fa fd, CalleeC P w K mg base c 15 n 2 "_law_mixed" fa fd ["box", "many"] ∧ (∃ ds, Vals [] ds ∧ Binds K fd ["box", "many"] ds)
  a16 : ∃ fa fd, CalleeC P w K mg base c 16 n 3 "_law_interval" fa fd ["box", "low", "high"] ∧ (∃ ds, Vals [] ds ∧ Binds K fd ["box", "low", "high"] ds)
  a17 : ∃ fa fd, CalleeC P w K mg base c 17 n 3 "_law_list" fa fd ["box", "many", "high"] ∧ (∃ ds, Vals [] ds ∧ Binds K fd ["box", "many", "high"] ds)
  a18 : ∃ fa fd, CalleeC P w K mg base c 18 n 2 "_law_pick" fa fd ["box", "items"] ∧ (∃ ds, Vals [] ds ∧ Binds K fd ["box", "items"] ds)
  a19 : ∃ fa fd, CalleeC P w K mg base c 19 n 2 "_law_rows" fa fd ["box", "most"] ∧ (∃ ds, Vals [] ds ∧ Binds K fd ["box", "most"] ds)
  a20 : ∃ fa fd, CalleeC P w K mg base c 20 n 2 "_law_meet" fa fd ["one", "other"] ∧ (∃ ds, Vals [] ds ∧ Binds K fd ["one", "other"] ds)
  a21 : ∃ fa fd, CalleeC P w K mg base c 21 n 2 "_law_tree_right" fa fd ["rows", "tree"] ∧ (∃ ds, Vals [] ds ∧ Binds K fd ["rows", "tree"] ds)
  a22 : ∃ fa fd, CalleeC P w K mg base c 22 n 2 "_law_way" fa fd ["parts", "number"] ∧ (∃ ds, Vals [] ds ∧ Binds K fd ["parts", "number"] ds)
  a23 : ∃ fa fd, CalleeC P w K mg base c 23 n 3 "_law_list_right" fa fd ["box", "rows", "named"] ∧ (∃ ds, Vals [] ds ∧ Binds K fd ["box", "rows", "named"] ds)
  a24 : ∃ fa fd, CalleeC P w K mg base c 24 n 2 "_law_other" fa fd ["box", "rows"] ∧ (∃ ds, Vals [] ds ∧ Binds K fd ["box", "rows"] ds)
  a25 : ∃ fa fd, CalleeC P w K mg base c 25 n 1 "law" fa fd ["script"]
def B0 : SM :=
  (mRet (mAndV (mIsi ["int"] (mVar 0)) (mNotV (mIsi ["bool"] (mVar 0)))))
def B1 : SM :=
  (mRet (mAndV (mCall 0 1 [] (mCons (mVar 0) mNil)) (mChain gLe gLe (mVar 1) (mVar 0) (mVar 2))))
def B2 : SM :=
  (mSeq (mIfS (mOr (mNot (mTru (mIsi ["tuple"] (mVar 0)))) (mOr (mB (mOp gNe (mBlt gLen (mCons (mVar 0) mNil)) (mC (.int 2)))) (mNot (mTru (mCall 1 3 [] (mCons (mOp gIx (mVar 0) (mC (.int 0))) (mCons (mVar 1) (mCons (mVar 2) mNil))))))))
  (mRet (mC (.bool false)))
  mNext)
  (mRet (mCall 1 3 [] (mCons (mOp gIx (mVar 0) (mC (.int 1))) (mCons (mOp gAdd (mOp gIx (mVar 0) (mC (.int 0))) (mC (.int 1))) (mCons (mVar 2) mNil))))))
def B3 : SM :=
  (mRet (mAndV (mIsi ["tuple"] (mVar 0)) (mAndV (mOp gLe (mBlt gLen (mCons (mVar 0) mNil)) (mVar 1)) (mBlt gAll (mCons (mFz (mLc (mItS (mVar 0)) (.name 2) [2] mYes (mCall 2 3 [.int (-1000), .int 1000] (mCons (mVar 2) mNil)))) mNil)))))
def B4 : SM :=
  (mIfS (mNot (mTru (mCall 3 2 [.int 24] (mCons (mVar 0) mNil))))
  mNever
  mNext)
def B5 : SM :=
  (mIfS (mNot (mTru (mCall 0 1 [] (mCons (mVar 0) mNil))))
  mNever
  mNext)
def B6 : SM :=
  (mSeq (mIfS (mB (mOp gEq (mVar 1) (mFz (mLst mNil))))
  (mRet (mC .none))
  mNext)
  (mSeq (mSetL 2 (mBltL gSortedI (mCons (mFz (mLc2 (mItS (mVar 1)) (.name 7) [7, 8] mYes (mItS (mOp gIx (mVar 0) (mVar 7))) (.name 8) [8] mYes (mVar 8))) mNil)))
  (mSeq (mSet 3 (wE (mOp gIx (mVar 2) (mOp gDiv (mOp gSub (mBlt gLen (mCons (mVar 2) mNil)) (mC (.int 1))) (mC (.int 2))))))
  (mSeq (mSetL 4 (mLc (mItS (mVar 1)) (.name 7) [7] (mB (mOp gLt (mOp gIx (mOp gIx (mVar 0) (mVar 7)) (mC (.int 1))) (mVar 3))) (mVar 7)))
  (mSeq (mSetL 5 (mLc (mItS (mVar 1)) (.name 7) [7] (mB (mOp gGt (mOp gIx (mOp gIx (mVar 0) (mVar 7)) (mC (.int 0))) (mVar 3))) (mVar 7)))
  (mSeq (mSet 6 (wE (mBlt gTuple (mCons (mFz (mLc (mItS (mVar 1)) (.name 7) [7] (mAnd (mB (mOp (gIn true) (mVar 7) (mVar 4))) (mB (mOp (gIn true) (mVar 7) (mVar 5)))) (mVar 7))) mNil))))
  (mSeq (mFrz 4) (mSeq (mFrz 5) (mRet (mTup (mCons (mVar 3) (mCons (mVar 6) (mCons (mCall 6 2 [] (mCons (mVar 0) (mCons (mVar 4) mNil))) (mCons (mCall 6 2 [] (mCons (mVar 0) (mCons (mVar 5) mNil))) mNil))))))))))))))
def B7 : SM :=
  (mSeq (mDrop (mCall 4 1 [] (mCons (mVar 0) mNil)))
  (mRet (mCall 6 2 [] (mCons (mVar 0) (mCons (mFz (mLstRg (mRg1 (mBlt gLen (mCons (mVar 0) mNil))))) mNil)))))
def T8_0 : TM :=
  (mB (mOp gIsNot (mVar 3) (mC .none)))
def L8_0 : SM :=
  (mSeq (mApp1 2 (wE (mVar 3)))
  (mSeq (mIfS (mB (mOp gEq (mVar 1) (mOp gIx (mVar 3) (mC (.int 0)))))
  (mRet (mVar 2))
  mNext)
  (mSet 3 (wE (mIf (mB (mOp gLt (mVar 1) (mOp gIx (mVar 3) (mC (.int 0))))) (mOp gIx (mVar 3) (mC (.int 2))) (mOp gIx (mVar 3) (mC (.int 3))))))))
def B8 : SM :=
  (mSeq (mPar [2, 3] [(pL (mLst mNil)), (pE (mCall 6 2 [] (mCons (mVar 0) (mCons (mFz (mLstRg (mRg1 (mBlt gLen (mCons (mVar 0) mNil))))) mNil))))])
  (mSeq (mWhile T8_0
  L8_0)
  (mRet (mVar 2))))
def B9 : SM :=
  (mSeq (mDrop (mCall 4 1 [] (mCons (mVar 0) mNil)))
  (mSeq (mDrop (mCall 5 1 [] (mCons (mVar 1) mNil)))
  (mSeq (mSetL 2 (mLc2 (mItS (mCall 8 2 [] (mCons (mVar 0) (mCons (mVar 1) mNil)))) (.name 3) [3, 4] mYes (mItS (mOp gIx (mVar 3) (mC (.int 1)))) (.name 4) [4] mYes (mVar 4)))
  (mSeq (mFrz 2) (mRet (mBlt gTuple (mCons (mFz (mBltL gSortedI (mCons (mFz (mLc (mItS (mVar 2)) (.name 4) [4] (mB (mChain gLe gLt (mOp gIx (mOp gIx (mVar 0) (mVar 4)) (mC (.int 0))) (mVar 1) (mOp gIx (mOp gIx (mVar 0) (mVar 4)) (mC (.int 1))))) (mVar 4))) mNil))) mNil)))))))
def B10 : SM :=
  (mSeq (mDrop (mCall 4 1 [] (mCons (mVar 0) mNil)))
  (mSeq (mDrop (mCall 5 1 [] (mCons (mVar 1) mNil)))
  (mRet (mBlt gTuple (mCons (mFz (mLc (mItS (mCall 8 2 [] (mCons (mVar 0) (mCons (mVar 1) mNil)))) (.name 2) [2] mYes (mOp gIx (mVar 2) (mC (.int 0))))) mNil)))))
def B11 : SM :=
  (mRet (mIf (mB (mOp gLt (mVar 1) (mBlt gLen (mCons (mVar 0) mNil)))) (mOp gIx (mVar 0) (mVar 1)) (mOp gAdd (mOp gMul (mC (.int 6107)) (mVar 1)) (mOp gMod (mBlt gInt (mCons (mBlt gSum (mCons (mSl (mVar 0) mNoO (mSomeO (mC (.int 1)))) mNil)) mNil)) (mC (.int 1000003))))))
def B12 : SM :=
  (mRet (mRf (mLst (mCons (mBlt gAbs (mCons (mVar 0) mNil)) (mCons (mOp gGe (mBlt gAbs (mCons (mVar 0) mNil)) (mOp gPow (mC (.int 10)) (mC (.int 18)))) (mCons (mOp gMod (mBlt gInt (mCons (mBlt gAbs (mCons (mVar 0) mNil)) mNil)) (mC (.int 2147483629))) (mCons (mC (.int 0)) mNil)))))))
def B13 : SM :=
  (mSeq (mIfS (mAnd (mTru (mOp gIx (mVar 0) (mC (.int 1)))) (mB (mOp gGt (mOp gIx (mVar 0) (mC (.int 0))) (mC (.int 0)))))
  (mSeq (mSet 2 (wE (mOp gMod (mBlt gInt (mCons (mOp gIx (mVar 0) (mC (.int 0))) mNil)) (mVar 1))))
  (mSeq (mSetIx 0 (mC (.int 0)) (wE (mOp gDiv (mOp gIx (mVar 0) (mC (.int 0))) (mVar 1))))
  (mRet (mVar 2))))
  mNext)
  (mSeq (mSetIx 0 (mC (.int 3)) (wE (mOp gAdd (mOp gIx (mVar 0) (mC (.int 3))) (mC (.int 1)))))
  (mSeq (mSet 3 (wE (mOp gMod (mBlt gInt (mCons (mOp gPow (mOp gAdd (mOp gAdd (mOp gIx (mVar 0) (mC (.int 2))) (mOp gMul (mC (.int 15485903)) (mOp gIx (mVar 0) (mC (.int 3))))) (mC (.int 179424727))) (mC (.int 5))) mNil)) (mC (.int 2147483647)))))
  (mRet (mOp gMod (mBlt gInt (mCons (mOp gDiv (mOp gMod (mBlt gInt (mCons (mOp gPow (mOp gAdd (mOp gMul (mVar 3) (mC (.int 48271))) (mOp gMul (mC (.int 104743)) (mOp gIx (mVar 0) (mC (.int 3))))) (mC (.int 3))) mNil)) (mC (.int 2147483587))) (mC (.int 64))) mNil)) (mVar 1))))))
def B14 : SM :=
  (mSeq (mIfS (mOr (mB (mOp gIs (mVar 1) (mC .none))) (mTru (mIsi ["bool"] (mVar 1))))
  (mRet (mIf (mB (mOp gIs (mVar 1) (mC .none))) (mOp gIs (mVar 0) (mC .none)) (mAndV (mIsi ["bool"] (mVar 0)) (mOp gEq (mOp gIs (mVar 0) (mC (.bool true))) (mOp gIs (mVar 1) (mC (.bool true)))))))
  mNext)
  (mSeq (mIfS (mTru (mIsi ["int"] (mVar 1)))
  (mRet (mAndV (mIsi ["int"] (mVar 0)) (mAndV (mNotV (mIsi ["bool"] (mVar 0))) (mOp gEq (mOp gSub (mBlt gInt (mCons (mVar 0) mNil)) (mVar 1)) (mC (.int 0))))))
  mNext)
  (mSeq (mIfS (mTru (mIsi ["str"] (mVar 1)))
  (mRet (mAndV (mIsi ["str"] (mVar 0)) (mAndV (mOp gEq (mBlt gLen (mCons (mVar 0) mNil)) (mBlt gLen (mCons (mVar 1) mNil))) (mOp gEq (mFz (mLc (mItR (mRg1 (mBlt gLen (mCons (mVar 1) mNil)))) (.name 2) [2] (mB (mOp gNe (mSl (mVar 0) (mSomeO (mVar 2)) (mSomeO (mOp gAdd (mVar 2) (mC (.int 1))))) (mOp gIx (mVar 1) (mVar 2)))) (mVar 2))) (mFz (mLst mNil))))))
  mNext)
  (mSeq (mIfS (mTru (mIsi ["dict"] (mVar 1)))
  mNever
  mNext)
  (mSeq (mIfS (mOr (mB (mOp gNe (mIsi ["list"] (mVar 0)) (mIsi ["list"] (mVar 1)))) (mB (mOp gNe (mIsi ["tuple"] (mVar 0)) (mIsi ["tuple"] (mVar 1)))))
  (mRet (mC (.bool false)))
  mNext)
  (mSeq (mIfS (mOr (mNot (mTru (mIsi ["list", "tuple"] (mVar 0)))) (mB (mOp gNe (mBlt gLen (mCons (mVar 0) mNil)) (mBlt gLen (mCons (mVar 1) mNil)))))
  (mRet (mC (.bool false)))
  mNext)
  (mRet (mOp gEq (mFz (mLc (mItR (mRg1 (mBlt gLen (mCons (mVar 1) mNil)))) (.name 2) [2] (mNot (mTru (mCall 14 2 [] (mCons (mOp gIx (mVar 0) (mVar 2)) (mCons (mOp gIx (mVar 1) (mVar 2)) mNil))))) (mVar 2))) (mFz (mLst mNil))))))))))
def T15_0 : TM :=
  (mB (mOp gNe (mVar 2) (mFz (mLst mNil))))
def L15_0 : SM :=
  (mApp1 3 (mPopAtW 2 (mCall 13 2 [] (mCons (mVar 0) (mCons (mBlt gLen (mCons (mVar 2) mNil)) mNil)))))
def B15 : SM :=
  (mSeq (mPar [2, 3] [(pL (mLstRg (mRg1 (mVar 1)))), (pL (mLst mNil))])
  (mSeq (mWhile T15_0
  L15_0)
  (mRet (mVar 3))))
def B16 : SM :=
  (mSeq (mSet 3 (wE (mOp gAdd (mVar 1) (mCall 13 2 [] (mCons (mVar 0) (mCons (mOp gSub (mVar 2) (mVar 1)) mNil))))))
  (mRet (mTup (mCons (mVar 3) (mCons (mOp gAdd (mOp gAdd (mVar 3) (mC (.int 1))) (mCall 13 2 [] (mCons (mVar 0) (mCons (mOp gSub (mVar 2) (mVar 3)) mNil)))) mNil)))))
def F17_0 : SM :=
  (mIfS (mB (mOp gLt (mVar 3) (mC (.int 2))))
  (mApp1 4 (wE (mCall 16 3 [] (mCons (mVar 0) (mCons (mC (.int 0)) (mCons (mVar 2) mNil))))))
  (mIfS (mB (mOp gEq (mVar 3) (mC (.int 2))))
  (mSeq (mSet 6 (wE (mCall 13 2 [] (mCons (mVar 0) (mCons (mOp gSub (mVar 2) (mC (.int 3))) mNil)))))
  (mApp1 4 (wE (mTup (mCons (mVar 6) (mCons (mOp gAdd (mOp gAdd (mVar 6) (mC (.int 1))) (mCall 13 2 [] (mCons (mVar 0) (mCons (mC (.int 3)) mNil)))) mNil))))))
  (mIfS (mB (mOp gEq (mVar 3) (mC (.int 3))))
  (mApp1 4 (wE (mTup (mCons (mOp gMul (mC (.int 2)) (mVar 5)) (mCons (mOp gAdd (mOp gAdd (mOp gMul (mC (.int 2)) (mVar 5)) (mC (.int 1))) (mCall 13 2 [] (mCons (mVar 0) (mCons (mC (.int 5)) mNil)))) mNil)))))
  (mIfS (mB (mOp gEq (mVar 3) (mC (.int 4))))
  (mApp1 4 (wE (mTup (mCons (mVar 5) (mCons (mOp gAdd (mOp gSub (mOp gAdd (mOp gMul (mC (.int 2)) (mVar 1)) (mC (.int 4))) (mVar 5)) (mCall 13 2 [] (mCons (mVar 0) (mCons (mC (.int 2)) mNil)))) mNil)))))
  (mIfS (mB (mOp gEq (mVar 3) (mC (.int 5))))
  (mApp1 4 (wE (mTup (mCons (mOp gMul (mC (.int 3)) (mVar 5)) (mCons (mOp gAdd (mOp gAdd (mOp gMul (mC (.int 3)) (mVar 5)) (mC (.int 1))) (mCall 13 2 [] (mCons (mVar 0) (mCons (mC (.int 3)) mNil)))) mNil)))))
  (mIfS (mB (mOp gEq (mVar 3) (mC (.int 6))))
  (mApp1 4 (wE (mIf (mAnd (mB (mOp gNe (mVar 4) (mFz (mLst mNil)))) (mB (mOp gEq (mCall 13 2 [] (mCons (mVar 0) (mCons (mC (.int 2)) mNil))) (mC (.int 0))))) (mOp gIx (mVar 4) (mCall 13 2 [] (mCons (mVar 0) (mCons (mBlt gLen (mCons (mVar 4) mNil)) mNil)))) (mCall 16 3 [] (mCons (mVar 0) (mCons (mC (.int 0)) (mCons (mVar 2) mNil)))))))
  (mSeq (mSet 6 (wE (mCall 13 2 [] (mCons (mVar 0) (mCons (mOp gDiv (mVar 2) (mC (.int 2))) mNil)))))
  (mApp1 4 (wE (mTup (mCons (mVar 6) (mCons (mOp gAdd (mOp gAdd (mOp gDiv (mVar 2) (mC (.int 2))) (mC (.int 1))) (mCall 13 2 [] (mCons (mVar 0) (mCons (mOp gSub (mVar 2) (mOp gDiv (mVar 2) (mC (.int 2)))) mNil)))) mNil))))))))))))
def B17 : SM :=
  (mSeq (mPar [3, 4] [(pE (mCall 13 2 [] (mCons (mVar 0) (mCons (mC (.int 8)) mNil)))), (pL (mLst mNil))])
  (mSeq (mFor (mItR (mRg1 (mVar 1))) (.name 5)
  F17_0)
  (mSeq (mSet 7 (wE (mCall 15 2 [] (mCons (mVar 0) (mCons (mVar 1) mNil)))))
  (mRet (mBlt gTuple (mCons (mFz (mLc (mItS (mVar 7)) (.name 5) [5] mYes (mOp gIx (mVar 4) (mVar 5)))) mNil))))))
def B18 : SM :=
  (mRet (mOp gIx (mVar 1) (mCall 13 2 [] (mCons (mVar 0) (mCons (mBlt gLen (mCons (mVar 1) mNil)) mNil)))))
def B19 : SM :=
  (mSeq (mSet 2 (wE (mOp gEq (mCall 13 2 [] (mCons (mVar 0) (mCons (mC (.int 8)) mNil))) (mC (.int 0)))))
  (mSeq (mSet 3 (wE (mIf (mTru (mVar 2)) (mVar 1) (mCall 18 2 [] (mCons (mVar 0) (mCons (mFz (mLst (mCons (mC (.int 0)) (mCons (mC (.int 1)) (mCons (mC (.int 2)) (mCons (mC (.int 3)) (mCons (mC (.int 4)) (mCons (mC (.int 5)) (mCons (mC (.int 6)) (mCons (mBlt gMin2 (mCons (mC (.int 8)) (mCons (mVar 1) mNil))) mNil)))))))))) mNil))))))
  (mSeq (mSet 4 (wE (mCall 17 3 [] (mCons (mVar 0) (mCons (mVar 3) (mCons (mIf (mNot (mTru (mVar 2))) (mOp gIx (mFz (mLst (mCons (mC (.int 9)) (mCons (mC (.int 16)) (mCons (mC (.int 40)) mNil))))) (mCall 13 2 [] (mCons (mVar 0) (mCons (mC (.int 3)) mNil)))) (mC (.int 70))) mNil))))))
  (mSeq (mIfS (mAnd (mB (mOp gNe (mVar 4) (mTup mNil))) (mAnd (mB (mOp gEq (mCall 13 2 [] (mCons (mVar 0) (mCons (mC (.int 3)) mNil))) (mC (.int 0)))) (mB (mOp gLt (mBlt gLen (mCons (mVar 4) mNil)) (mVar 1)))))
  (mSeq (mSet 5 (wE (mCall 18 2 [] (mCons (mVar 0) (mCons (mVar 4) mNil)))))
  (mSet 4 (wE (mOp gAdd (mVar 4) (mTup (mCons (mCall 18 2 [] (mCons (mVar 0) (mCons (mFz (mLst (mCons (mVar 5) (mCons (mTup (mCons (mOp gIx (mVar 5) (mC (.int 1))) (mCons (mOp gAdd (mOp gAdd (mOp gIx (mVar 5) (mC (.int 1))) (mC (.int 1))) (mCall 13 2 [] (mCons (mVar 0) (mCons (mC (.int 4)) mNil)))) mNil))) (mCons (mTup (mCons (mOp gIx (mVar 5) (mC (.int 0))) (mCons (mOp gAdd (mOp gIx (mVar 5) (mC (.int 1))) (mC (.int 1))) mNil))) mNil))))) mNil))) mNil))))))
  mNext)
  (mSeq (mSet 6 (wE (mOp gIx (mFz (mLst (mCons (mC (.int 0)) (mCons (mC (.int 0)) (mCons (mUn gNeg (mC (.int 7))) (mCons (mC (.int 900)) (mCons (mUn gNeg (mC (.int 1000))) mNil))))))) (mCall 13 2 [] (mCons (mVar 0) (mCons (mC (.int 5)) mNil))))))
  (mRet (mBlt gTuple (mCons (mFz (mLc (mItS (mVar 4)) (.tup [(.name 7), (.name 8)]) [7, 8] mYes (mTup (mCons (mOp gAdd (mVar 7) (mVar 6)) (mCons (mOp gAdd (mVar 8) (mVar 6)) mNil))))) mNil))))))))
def B20 : SM :=
  (mRet (mOp gLt (mBlt gMax2 (mCons (mOp gIx (mVar 0) (mC (.int 0))) (mCons (mOp gIx (mVar 1) (mC (.int 0))) mNil))) (mBlt gMin2 (mCons (mOp gIx (mVar 0) (mC (.int 1))) (mCons (mOp gIx (mVar 1) (mC (.int 1))) mNil)))))
def F21_0 : SM :=
  (mSeq (mIfS (mB (mOp gEq (mVar 2) (mFz (mLst mNil))))
  mBk
  mNext)
  (mSeq (mSetT (.tup [(.name 6), (.name 7), (.name 8)]) (mPopW 2))
  (mSeq (mIfS (mB (mOp gEq (mVar 8) (mFz (mLst mNil))))
  (mSeq (mIfS (mB (mOp gIsNot (mVar 7) (mC .none)))
  (mRet (mC .none))
  mNext)
  (mSeq (mDPut 3 (mVar 6) (wE (mC .none)))
  mCt))
  mNext)
  (mSeq (mSetL 9 (mBltL gSortedI (mCons (mFz (mCat (mLc (mItS (mVar 8)) (.name 12) [12] mYes (mOp gIx (mOp gIx (mVar 0) (mVar 12)) (mC (.int 0)))) (mLc (mItS (mVar 8)) (.name 12) [12] mYes (mOp gIx (mOp gIx (mVar 0) (mVar 12)) (mC (.int 1)))))) mNil)))
  (mSeq (mSet 10 (wE (mOp gIx (mVar 9) (mOp gDiv (mOp gSub (mBlt gLen (mCons (mVar 9) mNil)) (mC (.int 1))) (mC (.int 2))))))
  (mSeq (mSet 11 (wE (mBlt gTuple (mCons (mFz (mLc (mItS (mVar 8)) (.name 12) [12] (mB (mChain gLe gLe (mOp gIx (mOp gIx (mVar 0) (mVar 12)) (mC (.int 0))) (mVar 10) (mOp gIx (mOp gIx (mVar 0) (mVar 12)) (mC (.int 1))))) (mVar 12))) mNil))))
  (mSeq (mIfS (mOr (mNot (mTru (mIsi ["tuple"] (mVar 7)))) (mOr (mB (mOp gNe (mBlt gLen (mCons (mVar 7) mNil)) (mC (.int 4)))) (mNot (mTru (mCall 14 2 [] (mCons (mFz (mLst (mCons (mOp gIx (mVar 7) (mC (.int 0))) (mCons (mOp gIx (mVar 7) (mC (.int 1))) mNil)))) (mCons (mFz (mLst (mCons (mVar 10) (mCons (mVar 11) mNil)))) mNil)))))))
  (mRet (mC .none))
  mNext)
  (mSeq (mDPut 3 (mVar 6) (wE (mTup (mCons (mVar 10) (mCons (mVar 11) mNil)))))
  (mSeq (mExt 4 (mBltL gList (mCons (mVar 11) mNil)))
  (mSeq (mApp1 2 (wE (mTup (mCons (mOp gAdd (mVar 6) (mTup (mCons (mC (.int 0)) mNil))) (mCons (mOp gIx (mVar 7) (mC (.int 2))) (mCons (mFz (mLc (mItS (mVar 8)) (.name 12) [12] (mB (mOp gLt (mOp gIx (mOp gIx (mVar 0) (mVar 12)) (mC (.int 1))) (mVar 10))) (mVar 12))) mNil))))))
  (mApp1 2 (wE (mTup (mCons (mOp gAdd (mVar 6) (mTup (mCons (mC (.int 1)) mNil))) (mCons (mOp gIx (mVar 7) (mC (.int 3))) (mCons (mFz (mLc (mItS (mVar 8)) (.name 12) [12] (mB (mOp gGt (mOp gIx (mOp gIx (mVar 0) (mVar 12)) (mC (.int 0))) (mVar 10))) (mVar 12))) mNil))))))))))))))))
def B21 : SM :=
  (mSeq (mPar [2, 3, 4] [(pL (mLst (mCons (mTup (mCons (mTup mNil) (mCons (mVar 1) (mCons (mFz (mLstRg (mRg1 (mBlt gLen (mCons (mVar 0) mNil))))) mNil)))) mNil))), (pD true mDNew), (pL (mLst mNil))])
  (mSeq (mFor (mItR (mRg1 (mOp gAdd (mOp gMul (mC (.int 2)) (mBlt gLen (mCons (mVar 0) mNil))) (mC (.int 2))))) (.name 5)
  F21_0)
  (mSeq (mFrz 3) (mRet (mIf (mB (mOp gEq (mFz (mBltL gSortedI (mCons (mVar 4) mNil))) (mFz (mLstRg (mRg1 (mBlt gLen (mCons (mVar 0) mNil))))))) (mVar 3) (mC .none))))))
def F22_0 : SM :=
  (mSeq (mIfS (mB (mOp gIs (mDGet (mVar 0) (mVar 2)) (mC .none)))
  mBk
  mNext)
  (mSeq (mSet 6 (wE (mOp gIx (mDGet (mVar 0) (mVar 2)) (mC (.int 0)))))
  (mSeq (mApp1 3 (wE (mVar 6)))
  (mSeq (mExt 4 (mBltL gList (mCons (mOp gIx (mDGet (mVar 0) (mVar 2)) (mC (.int 1))) mNil)))
  (mSeq (mIfS (mB (mOp gEq (mVar 6) (mVar 1)))
  mBk
  mNext)
  (mSet 2 (wE (mOp gAdd (mVar 2) (mTup (mCons (mIf (mB (mOp gLt (mVar 1) (mVar 6))) (mC (.int 0)) (mC (.int 1))) mNil))))))))))
def B22 : SM :=
  (mSeq (mPar [2, 3, 4] [(pE (mTup mNil)), (pL (mLst mNil)), (pL (mLst mNil))])
  (mSeq (mFor (mItR (mRg1 (mOp gAdd (mBlt gLen (mCons (mVar 0) mNil)) (mC (.int 1))))) (.name 5)
  F22_0)
  (mSeq (mFrz 4) (mRet (mTup (mCons (mBlt gTuple (mCons (mVar 3) mNil)) (mCons (mVar 4) mNil)))))))
def F23_0 : SM :=
  (mExt 5 (mLst (mCons (mVar 6) (mCons (mVar 7) (mCons (mOp gSub (mVar 6) (mC (.int 1))) (mCons (mOp gSub (mVar 7) (mC (.int 1))) (mCons (mOp gDiv (mOp gAdd (mVar 6) (mVar 7)) (mC (.int 2))) mNil)))))))
def F23_1 : SM :=
  (mSeq (mSetT (.tup [(.name 9), (.name 10)]) (wE (mCall 22 2 [] (mCons (mVar 4) (mCons (mVar 8) mNil)))))
  (mSeq (mSet 11 (wE (mIf (mTru (mVar 2)) (mFz (mLst (mCons (mCallK 10 2 0 2 [1, 0] [] mNil (mCons (mVar 8) (mCons (mVar 1) mNil))) (mCons (mCall 9 2 [] (mCons (mVar 1) (mCons (mVar 8) mNil))) mNil)))) (mFz (mLst (mCons (mCall 10 2 [] (mCons (mVar 1) (mCons (mVar 8) mNil))) (mCons (mCallK 9 2 0 2 [1, 0] [] mNil (mCons (mVar 8) (mCons (mVar 1) mNil))) mNil)))))))
  (mSeq (mSet 12 (wE (mBlt gTuple (mCons (mFz (mLc (mItR (mRg1 (mBlt gLen (mCons (mVar 1) mNil)))) (.name 14) [14] (mB (mChain gLe gLt (mOp gIx (mOp gIx (mVar 1) (mVar 14)) (mC (.int 0))) (mVar 8) (mOp gIx (mOp gIx (mVar 1) (mVar 14)) (mC (.int 1))))) (mVar 14))) mNil))))
  (mSeq (mSet 13 (wE (mBlt gTuple (mCons (mFz (mBltL gSortedI (mCons (mFz (mLc (mItS (mVar 10)) (.name 14) [14] (mB (mChain gLe gLt (mOp gIx (mOp gIx (mVar 1) (mVar 14)) (mC (.int 0))) (mVar 8) (mOp gIx (mOp gIx (mVar 1) (mVar 14)) (mC (.int 1))))) (mVar 14))) mNil))) mNil))))
  (mSeq (mIfS (mOr (mNot (mTru (mCall 14 2 [] (mCons (mVar 11) (mCons (mFz (mLst (mCons (mVar 9) (mCons (mVar 12) mNil)))) mNil))))) (mB (mOp gNe (mVar 13) (mVar 12))))
  (mRet (mC (.bool false)))
  mNext)
  (mSet 2 (wE (mNotV (mVar 2)))))))))
def B23 : SM :=
  (mSeq (mSet 3 (wE (mIf (mTru (mVar 2)) (mCallK 7 1 0 1 [0] [] mNil (mCons (mVar 1) mNil)) (mCall 7 1 [] (mCons (mVar 1) mNil)))))
  (mSeq (mSet 4 (wE (mCall 21 2 [] (mCons (mVar 1) (mCons (mVar 3) mNil)))))
  (mSeq (mIfS (mOr (mB (mOp gIs (mVar 4) (mC .none))) (mNot (mTru (mCall 14 2 [] (mCons (mCall 7 1 [] (mCons (mVar 1) mNil)) (mCons (mVar 3) mNil))))))
  (mRet (mC (.bool false)))
  mNext)
  (mSeq (mSetL 5 (mLst (mCons (mC (.int 0)) (mCons (mOp gPow (mC (.int 10)) (mC (.int 20))) (mCons (mUn gNeg (mC (.int 1000))) mNil)))))
  (mSeq (mFor (mItS (mVar 1)) (.tup [(.name 6), (.name 7)])
  F23_0)
  (mSeq (mFor (mItS (mFz (mLc (mItS (mSl (mCall 15 2 [] (mCons (mVar 0) (mCons (mBlt gLen (mCons (mVar 5) mNil)) mNil))) mNoO (mSomeO (mC (.int 14))))) (.name 14) [14] mYes (mOp gIx (mVar 5) (mVar 14))))) (.name 8)
  F23_1)
  (mRet (mC (.bool true)))))))))
def F24_0 : SM :=
  (mExt 2 (mLc (mItR (mRg2 (mOp gAdd (mVar 3) (mC (.int 1))) (mBlt gLen (mCons (mVar 1) mNil)))) (.name 4) [4] (mTru (mCall 20 2 [] (mCons (mOp gIx (mVar 1) (mVar 3)) (mCons (mOp gIx (mVar 1) (mVar 4)) mNil)))) (mTup (mCons (mVar 3) (mCons (mVar 4) mNil)))))
def B24 : SM :=
  (mSeq (mSetL 2 (mLst mNil))
  (mSeq (mFor (mItR (mRg1 (mBlt gLen (mCons (mVar 1) mNil)))) (.name 3)
  F24_0)
  (mSeq (mIfS (mOr (mB (mOp gEq (mVar 2) (mFz (mLst mNil)))) (mB (mOp gEq (mCall 13 2 [] (mCons (mVar 0) (mCons (mC (.int 3)) mNil))) (mC (.int 0)))))
  (mRet (mBlt gTuple (mCons (mFz (mLc (mItS (mCall 15 2 [] (mCons (mVar 0) (mCons (mBlt gLen (mCons (mVar 1) mNil)) mNil)))) (.name 5) [5] mYes (mOp gIx (mVar 1) (mVar 5)))) mNil)))
  mNext)
  (mSeq (mSeq (mFrz 2) (mSetT (.tup [(.name 3), (.name 4)]) (wE (mCall 18 2 [] (mCons (mVar 0) (mCons (mVar 2) mNil))))))
  (mRet (mBlt gTuple (mCons (mFz (mLc (mItE (mVar 1)) (.tup [(.name 5), (.name 6)]) [5, 6] mYes (mIf (mB (mOp gEq (mVar 5) (mVar 3))) (mTup (mCons (mOp gIx (mOp gIx (mVar 1) (mVar 3)) (mC (.int 0))) (mCons (mOp gIx (mOp gIx (mVar 1) (mVar 4)) (mC (.int 1))) mNil))) (mIf (mB (mOp gEq (mVar 5) (mVar 4))) (mTup (mCons (mOp gIx (mOp gIx (mVar 1) (mVar 4)) (mC (.int 0))) (mCons (mOp gIx (mOp gIx (mVar 1) (mVar 3)) (mC (.int 1))) mNil))) (mVar 6))))) mNil)))))))
def F25_0 : SM :=
  (mSeq (mIfS (mNot (mTru (mCall 23 3 [] (mCons (mVar 2) (mCons (mVar 5) (mCons (mVar 3) mNil))))))
  (mRet (mC (.bool false)))
  mNext)
  (mSet 3 (wE (mNotV (mVar 3)))))
def F25_1 : SM :=
  (mSeq (mSet 2 (wE (mCall 12 1 [] (mCons (mCall 11 2 [] (mCons (mVar 0) (mCons (mVar 1) mNil))) mNil))))
  (mSeq (mPar [3, 4] [(pE (mOp gEq (mCall 13 2 [] (mCons (mVar 2) (mCons (mC (.int 2)) mNil))) (mC (.int 0)))), (pE (mCall 19 2 [] (mCons (mVar 2) (mCons (mC (.int 24)) mNil))))])
  (mFor (mItS (mTup (mCons (mVar 4) (mCons (mCall 24 2 [] (mCons (mVar 2) (mCons (mVar 4) mNil))) (mCons (mCall 19 2 [] (mCons (mVar 2) (mCons (mC (.int 24)) mNil))) (mCons (mVar 4) mNil)))))) (.name 5)
  F25_0)))
def B25 : SM :=
  (mSeq (mFor (mItR (mRg1 (mBlt gMax2 (mCons (mC (.int 2)) (mCons (mBlt gMin2 (mCons (mC (.int 4)) (mCons (mBlt gLen (mCons (mVar 0) mNil)) mNil))) mNil))))) (.name 1)
  F25_1)
  (mRet (mC (.bool true))))
def tab : List (Nat × SM) := [(1, B0), (3, B1), (3, B2), (3, B3), (1, B4), (1, B5), (9, B6), (1, B7), (4, B8), (5, B9), (3, B10), (2, B11), (1, B12), (4, B13), (3, B14), (4, B15), (4, B16), (8, B17), (2, B18), (9, B19), (2, B20), (13, B21), (7, B22), (15, B23), (7, B24), (6, B25)]
section
variable {X : Cx} {c : Call} {n : Nat}
/-- is_integer -/
theorem d0 (h : CtxOk X sc0 sc0 N0) (r : Room n X.A) (B : ∀ x, x ∈ blts → X.mg x = none) (A : Al X.prog X.w X.K X.mg X.base c n) : PSs X (defBody st0) (tS X.K c B0) := by
  exact (pss_oneM (ps_retM (pe_andM (x_isi1 (bn h (by decide +kernel) (B _ (by decide +kernel))) (pe_nm h (by decide +kernel)) (tyn_int (bn h (by decide +kernel) (B _ (by decide +kernel))))) (pe_one (pe_notM (x_isi1 (bn h (by decide +kernel) (B _ (by decide +kernel))) (pe_nm h (by decide +kernel)) (tyn_bool (bn h (by decide +kernel) (B _ (by decide +kernel))))))))))
/-- is_between -/
theorem d1 (h : CtxOk X sc1 sc1 N1) (r : Room n X.A) (B : ∀ x, x ∈ blts → X.mg x = none) (A : Al X.prog X.w X.K X.mg X.base c n) : PSs X (defBody st1) (tS X.K c B1) := by
  obtain ⟨fa0, fd0, C0, b0_1⟩ := A.a0
  exact (pss_oneM (ps_retM (pe_andM (x_fn C0 r (h.gl (by decide +kernel)) b0_1 (by rfl) (z_cons (pe_nm h (by decide +kernel)) pa_nilM)) (pe_one (x_chain k_le k_le (pe_nm h (by decide +kernel)) (pe_nm h (by decide +kernel)) (pe_nm h (by decide +kernel)))))))
/-- is_known -/
theorem d2 (h : CtxOk X sc2 sc2 N2) (r : Room n X.A) (B : ∀ x, x ∈ blts → X.mg x = none) (A : Al X.prog X.w X.K X.mg X.base c n) : PSs X (defBody st2) (tS X.K c B2) := by
  obtain ⟨fa1, fd1, C1, b1_3⟩ := A.a1
  exact (pss_consM (ps_ifM (PW.pt (pw_orM (pt_notM (y_val (x_isi1 (bn h (by decide +kernel) (B _ (by decide +kernel))) (pe_nm h (by decide +kernel)) (tyn_tuple (bn h (by decide +kernel) (B _ (by decide +kernel))))))) (pw_orM (y_cmp (k_ne r) (x_len (bn h (by decide +kernel) (B _ (by decide +kernel))) (pe_nm h (by decide +kernel))) x_int) (pw_or1 (pt_notM (y_val (x_fn C1 r (h.gl (by decide +kernel)) b1_3 (by rfl) (z_cons (x_ix (pe_nm h (by decide +kernel)) x_int) (z_cons (pe_nm h (by decide +kernel)) (z_cons (pe_nm h (by decide +kernel)) pa_nilM))))))))))
  (pss_oneM (ps_retM x_bl))
  pss_nilM)
  (pss_oneM (ps_retM (x_fn C1 r (h.gl (by decide +kernel)) b1_3 (by rfl) (z_cons (x_ix (pe_nm h (by decide +kernel)) x_int) (z_cons (x_add (x_ix (pe_nm h (by decide +kernel)) x_int) x_int) (z_cons (pe_nm h (by decide +kernel)) pa_nilM)))))))
/-- are_intervals -/
theorem d3 (h : CtxOk X sc3 sc3 N3) (r : Room n X.A) (B : ∀ x, x ∈ blts → X.mg x = none) (A : Al X.prog X.w X.K X.mg X.base c n) : PSs X (defBody st3) (tS X.K c B3) := by
  obtain ⟨fa2, fd2, C2, b2_1⟩ := A.a2
  exact (pss_oneM (ps_retM (pe_andM (x_isi1 (bn h (by decide +kernel) (B _ (by decide +kernel))) (pe_nm h (by decide +kernel)) (tyn_tuple (bn h (by decide +kernel) (B _ (by decide +kernel))))) (pe_andM (x_cmp k_le (x_len (bn h (by decide +kernel) (B _ (by decide +kernel))) (pe_nm h (by decide +kernel))) (pe_nm h (by decide +kernel))) (pe_one (x_all h (bn h (by decide +kernel) (B _ (by decide +kernel))) (pe_fzM (pe_lcM (own := [("one", 2)]) h (by decide +kernel) (by decide +kernel) (pi_seqM (pe_nm h (by decide +kernel))) tg_name (fun s H C cl fp h1 => (pg_nm h1 (by decide +kernel))) (fun s H C cl fp h1 => pts_nilM) (fun s H C cl fp h1 => (x_fn C2 r (h1.gl (by decide +kernel)) b2_1 (by rfl) (z_cons (pe_nm h1 (by decide +kernel)) pa_nilM)))))))))))
/-- check_intervals -/
theorem d4 (h : CtxOk X sc4 sc4 N4) (r : Room n X.A) (B : ∀ x, x ∈ blts → X.mg x = none) (A : Al X.prog X.w X.K X.mg X.base c n) : PSs X (defBody st4) (tS X.K c B4) := by
  obtain ⟨fa3, fd3, C3, b3_1⟩ := A.a3
  exact (pss_oneM (ps_ifM (pt_notM (y_val (x_fn C3 r (h.gl (by decide +kernel)) b3_1 (by rfl) (z_cons (pe_nm h (by decide +kernel)) pa_nilM))))
  (pss_oneM ps_neverM)
  pss_nilM))
/-- check_number -/
theorem d5 (h : CtxOk X sc5 sc5 N5) (r : Room n X.A) (B : ∀ x, x ∈ blts → X.mg x = none) (A : Al X.prog X.w X.K X.mg X.base c n) : PSs X (defBody st5) (tS X.K c B5) := by
  obtain ⟨fa0, fd0, C0, b0_1⟩ := A.a0
  exact (pss_oneM (ps_ifM (pt_notM (y_val (x_fn C0 r (h.gl (by decide +kernel)) b0_1 (by rfl) (z_cons (pe_nm h (by decide +kernel)) pa_nilM))))
  (pss_oneM ps_neverM)
  pss_nilM))
/-- grown -/
theorem d6 (h : CtxOk X sc6 sc6 N6) (r : Room n X.A) (B : ∀ x, x ∈ blts → X.mg x = none) (A : Al X.prog X.w X.K X.mg X.base c n) : PSs X (defBody st6) (tS X.K c B6) := by
  obtain ⟨fa6, fd6, C6, b6_2⟩ := A.a6
  exact (pss_consM (ps_ifM (y_cmp (k_eq r) (pe_nm h (by decide +kernel)) (pe_fzM (pe_lstM pa_nilM)))
  (pss_oneM (ps_retM x_non))
  pss_nilM)
  (pss_consM (s_setL h (by decide +kernel) (x_sortedI (bn h (by decide +kernel) (B _ (by decide +kernel))) (pe_fzM (pe_lc2M (own := [("index", 7), ("end", 8)]) (vs1 := [8]) h (by decide +kernel) (by decide +kernel) (by decide +kernel) (by decide +kernel) (pi_seqM (pe_nm h (by decide +kernel))) tg_name tg_name (fun s H C cl fp h1 => (pg_nm h1 (by decide +kernel))) (fun s H C cl fp h1 => pts_nilM) (fun s H C cl fp h1 => (pi_seqM (x_ix (pe_nm h1 (by decide +kernel)) (pe_nm h1 (by decide +kernel))))) (fun s H C cl fp h1 => (pg_nm h1 (by decide +kernel))) (fun s H C cl fp h1 => pts_nilM) (fun s H C cl fp h1 => (pe_nm h1 (by decide +kernel)))))))
  (pss_consM (s_set h (by decide +kernel) (pe_w (x_ix (pe_nm h (by decide +kernel)) (x_div (x_sub (x_len (bn h (by decide +kernel) (B _ (by decide +kernel))) (pe_nm h (by decide +kernel))) x_int) x_int))))
  (pss_consM (s_setL (hs := sw_lcS h (by decide +kernel)) h (by decide +kernel) (pe_lcM (own := [("index", 7)]) h (by decide +kernel) (by decide +kernel) (pi_seqM (pe_nm h (by decide +kernel))) tg_name (fun s H C cl fp h1 => (pg_nm h1 (by decide +kernel))) (fun s H C cl fp h1 => (pts_oneM (y_cmp k_lt (x_ix (x_ix (pe_nm h1 (by decide +kernel)) (pe_nm h1 (by decide +kernel))) x_int) (pe_nm h1 (by decide +kernel))))) (fun s H C cl fp h1 => (pe_nm h1 (by decide +kernel)))))
  (pss_consM (s_setL (hs := sw_lcS h (by decide +kernel)) h (by decide +kernel) (pe_lcM (own := [("index", 7)]) h (by decide +kernel) (by decide +kernel) (pi_seqM (pe_nm h (by decide +kernel))) tg_name (fun s H C cl fp h1 => (pg_nm h1 (by decide +kernel))) (fun s H C cl fp h1 => (pts_oneM (y_cmp k_gt (x_ix (x_ix (pe_nm h1 (by decide +kernel)) (pe_nm h1 (by decide +kernel))) x_int) (pe_nm h1 (by decide +kernel))))) (fun s H C cl fp h1 => (pe_nm h1 (by decide +kernel)))))
  (pss_consM (s_set h (by decide +kernel) (pe_w (x_tuple (bn h (by decide +kernel) (B _ (by decide +kernel))) (pe_fzM (pe_lcM (own := [("index", 7)]) h (by decide +kernel) (by decide +kernel) (pi_seqM (pe_nm h (by decide +kernel))) tg_name (fun s H C cl fp h1 => (pg_nm h1 (by decide +kernel))) (fun s H C cl fp h1 => (pts_oneM (PW.pt (pw_andM (y_cmp (k_notin r) (pe_nm h1 (by decide +kernel)) (pe_nm h1 (by decide +kernel))) (pw_and1 (y_cmp (k_notin r) (pe_nm h1 (by decide +kernel)) (pe_nm h1 (by decide +kernel)))))))) (fun s H C cl fp h1 => (pe_nm h1 (by decide +kernel))))))))
  (pss_oneM (ps_frzM (ps_frzM (ps_retM (pe_tupM (z_cons (pe_nm h (by decide +kernel)) (z_cons (pe_nm h (by decide +kernel)) (z_cons (x_fn C6 r (h.gl (by decide +kernel)) b6_2 (by rfl) (z_cons (pe_nm h (by decide +kernel)) (z_cons (pe_nm h (by decide +kernel)) pa_nilM))) (z_cons (x_fn C6 r (h.gl (by decide +kernel)) b6_2 (by rfl) (z_cons (pe_nm h (by decide +kernel)) (z_cons (pe_nm h (by decide +kernel)) pa_nilM))) pa_nilM)))))))))))))))
/-- tree_of -/
theorem d7 (h : CtxOk X sc7 sc7 N7) (r : Room n X.A) (B : ∀ x, x ∈ blts → X.mg x = none) (A : Al X.prog X.w X.K X.mg X.base c n) : PSs X (defBody st7) (tS X.K c B7) := by
  obtain ⟨fa4, fd4, C4, b4_1⟩ := A.a4
  obtain ⟨fa6, fd6, C6, b6_2⟩ := A.a6
  exact (pss_consM (ps_dropM (x_fn C4 r (h.gl (by decide +kernel)) b4_1 (by rfl) (z_cons (pe_nm h (by decide +kernel)) pa_nilM)))
  (pss_oneM (ps_retM (x_fn C6 r (h.gl (by decide +kernel)) b6_2 (by rfl) (z_cons (pe_nm h (by decide +kernel)) (z_cons (pe_fzM (x_lrg1 h (bn h (by decide +kernel) (B _ (by decide +kernel))) (bn h (by decide +kernel) (B _ (by decide +kernel))) (x_len (bn h (by decide +kernel) (B _ (by decide +kernel))) (pe_nm h (by decide +kernel))))) pa_nilM))))))
/-- way_down -/
theorem d8 (h : CtxOk X sc8 sc8 N8) (r : Room n X.A) (B : ∀ x, x ∈ blts → X.mg x = none) (A : Al X.prog X.w X.K X.mg X.base c n) : PSs X (defBody st8) (tS X.K c B8) := by
  obtain ⟨fa6, fd6, C6, b6_2⟩ := A.a6
  exact (pss_consM (ps_par2M h rfl rfl (by decide) (by decide +kernel) (by decide +kernel) (q_cons (pe_qL (pe_lstM pa_nilM)) (q_cons (pe_qE (x_fn C6 r (h.gl (by decide +kernel)) b6_2 (by rfl) (z_cons (pe_nm h (by decide +kernel)) (z_cons (pe_fzM (x_lrg1 h (bn h (by decide +kernel) (B _ (by decide +kernel))) (bn h (by decide +kernel) (B _ (by decide +kernel))) (x_len (bn h (by decide +kernel) (B _ (by decide +kernel))) (pe_nm h (by decide +kernel))))) pa_nilM)))) pa_nilP)) (by rfl))
  (pss_consM (ps_whileM h (y_cmp k_isnot (pe_nm h (by decide +kernel)) x_non)
  (pss_consM (s_app h (by decide +kernel) (pe_w (pe_nm h (by decide +kernel))))
  (pss_consM (ps_ifM (y_cmp (k_eq r) (pe_nm h (by decide +kernel)) (x_ix (pe_nm h (by decide +kernel)) x_int))
  (pss_oneM (ps_retM (pe_nm h (by decide +kernel))))
  pss_nilM)
  (pss_oneM (s_set h (by decide +kernel) (pe_w (pe_ifM (y_cmp k_lt (pe_nm h (by decide +kernel)) (x_ix (pe_nm h (by decide +kernel)) x_int)) (x_ix (pe_nm h (by decide +kernel)) x_int) (x_ix (pe_nm h (by decide +kernel)) x_int))))))))
  (pss_oneM (ps_retM (pe_nm h (by decide +kernel))))))
/-- stabbed -/
theorem d9 (h : CtxOk X sc9 sc9 N9) (r : Room n X.A) (B : ∀ x, x ∈ blts → X.mg x = none) (A : Al X.prog X.w X.K X.mg X.base c n) : PSs X (defBody st9) (tS X.K c B9) := by
  obtain ⟨fa4, fd4, C4, b4_1⟩ := A.a4
  obtain ⟨fa5, fd5, C5, b5_1⟩ := A.a5
  obtain ⟨fa8, fd8, C8, b8_2⟩ := A.a8
  exact (pss_consM (ps_dropM (x_fn C4 r (h.gl (by decide +kernel)) b4_1 (by rfl) (z_cons (pe_nm h (by decide +kernel)) pa_nilM)))
  (pss_consM (ps_dropM (x_fn C5 r (h.gl (by decide +kernel)) b5_1 (by rfl) (z_cons (pe_nm h (by decide +kernel)) pa_nilM)))
  (pss_consM (ps_setLc2M (own := [("part", 3), ("index", 4)]) (vs1 := [4]) h rfl (by decide +kernel) (by decide +kernel) (by decide +kernel) (by decide +kernel) (by decide +kernel) (pi_seqM (x_fn C8 r (h.gl (by decide +kernel)) b8_2 (by rfl) (z_cons (pe_nm h (by decide +kernel)) (z_cons (pe_nm h (by decide +kernel)) pa_nilM)))) tg_name tg_name (fun s H C cl fp h1 => (pg_nm h1 (by decide +kernel))) (fun s H C cl fp h1 => pts_nilM) (fun s H C cl fp h1 => (pi_seqM (x_ix (pe_nm h1 (by decide +kernel)) x_int))) (fun s H C cl fp h1 => (pg_nm h1 (by decide +kernel))) (fun s H C cl fp h1 => pts_nilM) (fun s H C cl fp h1 => (pe_nm h1 (by decide +kernel))))
  (pss_oneM (ps_frzM (ps_retM (x_tuple (bn h (by decide +kernel) (B _ (by decide +kernel))) (pe_fzM (x_sortedI (bn h (by decide +kernel) (B _ (by decide +kernel))) (pe_fzM (pe_lcM (own := [("index", 4)]) h (by decide +kernel) (by decide +kernel) (pi_seqM (pe_nm h (by decide +kernel))) tg_name (fun s H C cl fp h1 => (pg_nm h1 (by decide +kernel))) (fun s H C cl fp h1 => (pts_oneM (y_chain k_le k_lt (x_ix (x_ix (pe_nm h1 (by decide +kernel)) (pe_nm h1 (by decide +kernel))) x_int) (pe_nm h1 (by decide +kernel)) (x_ix (x_ix (pe_nm h1 (by decide +kernel)) (pe_nm h1 (by decide +kernel))) x_int)))) (fun s H C cl fp h1 => (pe_nm h1 (by decide +kernel))))))))))))))
/-- visited -/
theorem d10 (h : CtxOk X sc10 sc10 N10) (r : Room n X.A) (B : ∀ x, x ∈ blts → X.mg x = none) (A : Al X.prog X.w X.K X.mg X.base c n) : PSs X (defBody st10) (tS X.K c B10) := by
  obtain ⟨fa4, fd4, C4, b4_1⟩ := A.a4
  obtain ⟨fa5, fd5, C5, b5_1⟩ := A.a5
  obtain ⟨fa8, fd8, C8, b8_2⟩ := A.a8
  exact (pss_consM (ps_dropM (x_fn C4 r (h.gl (by decide +kernel)) b4_1 (by rfl) (z_cons (pe_nm h (by decide +kernel)) pa_nilM)))
  (pss_consM (ps_dropM (x_fn C5 r (h.gl (by decide +kernel)) b5_1 (by rfl) (z_cons (pe_nm h (by decide +kernel)) pa_nilM)))
  (pss_oneM (ps_retM (x_tuple (bn h (by decide +kernel) (B _ (by decide +kernel))) (pe_fzM (pe_lcM (own := [("part", 2)]) h (by decide +kernel) (by decide +kernel) (pi_seqM (x_fn C8 r (h.gl (by decide +kernel)) b8_2 (by rfl) (z_cons (pe_nm h (by decide +kernel)) (z_cons (pe_nm h (by decide +kernel)) pa_nilM)))) tg_name (fun s H C cl fp h1 => (pg_nm h1 (by decide +kernel))) (fun s H C cl fp h1 => pts_nilM) (fun s H C cl fp h1 => (x_ix (pe_nm h1 (by decide +kernel)) x_int)))))))))
/-- _law_cell -/
theorem d11 (h : CtxOk X sc11 sc11 N11) (r : Room n X.A) (B : ∀ x, x ∈ blts → X.mg x = none) (A : Al X.prog X.w X.K X.mg X.base c n) : PSs X (defBody st11) (tS X.K c B11) := by
  exact (pss_oneM (ps_retM (pe_ifM (y_cmp k_lt (pe_nm h (by decide +kernel)) (x_len (bn h (by decide +kernel) (B _ (by decide +kernel))) (pe_nm h (by decide +kernel)))) (x_ix (pe_nm h (by decide +kernel)) (pe_nm h (by decide +kernel))) (x_add (x_mul x_int (pe_nm h (by decide +kernel))) (x_mod (x_int1 (bn h (by decide +kernel) (B _ (by decide +kernel))) (x_sum h (bn h (by decide +kernel) (B _ (by decide +kernel))) (pe_slM (pe_nm h (by decide +kernel)) po_noneM (po_someM x_int)))) x_int)))))
/-- _law_box -/
theorem d12 (h : CtxOk X sc12 sc12 N12) (r : Room n X.A) (B : ∀ x, x ∈ blts → X.mg x = none) (A : Al X.prog X.w X.K X.mg X.base c n) : PSs X (defBody st12) (tS X.K c B12) := by
  exact (pss_oneM (ps_retM (pe_rfM (pe_lstM (z_cons (x_abs (bn h (by decide +kernel) (B _ (by decide +kernel))) (pe_nm h (by decide +kernel))) (z_cons (x_cmp k_ge (x_abs (bn h (by decide +kernel) (B _ (by decide +kernel))) (pe_nm h (by decide +kernel))) (x_pow x_int x_int)) (z_cons (x_mod (x_int1 (bn h (by decide +kernel) (B _ (by decide +kernel))) (x_abs (bn h (by decide +kernel) (B _ (by decide +kernel))) (pe_nm h (by decide +kernel)))) x_int) (z_cons x_int pa_nilM))))))))
/-- _law_take -/
theorem d13 (h : CtxOk X sc13 sc13 N13) (r : Room n X.A) (B : ∀ x, x ∈ blts → X.mg x = none) (A : Al X.prog X.w X.K X.mg X.base c n) : PSs X (defBody st13) (tS X.K c B13) := by
  exact (pss_consM (ps_ifM (PW.pt (pw_andM (y_val (x_ix (pe_nm h (by decide +kernel)) x_int)) (pw_and1 (y_cmp k_gt (x_ix (pe_nm h (by decide +kernel)) x_int) x_int))))
  (pss_consM (s_set h (by decide +kernel) (pe_w (x_mod (x_int1 (bn h (by decide +kernel) (B _ (by decide +kernel))) (x_ix (pe_nm h (by decide +kernel)) x_int)) (pe_nm h (by decide +kernel)))))
  (pss_consM (s_setIx h (by decide +kernel) x_int (pe_w (x_div (x_ix (pe_nm h (by decide +kernel)) x_int) (pe_nm h (by decide +kernel)))))
  (pss_oneM (ps_retM (pe_nm h (by decide +kernel))))))
  pss_nilM)
  (pss_consM (s_setIx h (by decide +kernel) x_int (pe_w (x_add (x_ix (pe_nm h (by decide +kernel)) x_int) x_int)))
  (pss_consM (s_set h (by decide +kernel) (pe_w (x_mod (x_int1 (bn h (by decide +kernel) (B _ (by decide +kernel))) (x_pow (x_add (x_add (x_ix (pe_nm h (by decide +kernel)) x_int) (x_mul x_int (x_ix (pe_nm h (by decide +kernel)) x_int))) x_int) x_int)) x_int)))
  (pss_oneM (ps_retM (x_mod (x_int1 (bn h (by decide +kernel) (B _ (by decide +kernel))) (x_div (x_mod (x_int1 (bn h (by decide +kernel) (B _ (by decide +kernel))) (x_pow (x_add (x_mul (pe_nm h (by decide +kernel)) x_int) (x_mul x_int (x_ix (pe_nm h (by decide +kernel)) x_int))) x_int)) x_int) x_int)) (pe_nm h (by decide +kernel))))))))
/-- _law_same -/
theorem d14 (h : CtxOk X sc14 sc14 N14) (r : Room n X.A) (B : ∀ x, x ∈ blts → X.mg x = none) (A : Al X.prog X.w X.K X.mg X.base c n) : PSs X (defBody st14) (tS X.K c B14) := by
  obtain ⟨fa14, fd14, C14, b14_2⟩ := A.a14
  exact (pss_consM (ps_ifM (PW.pt (pw_orM (y_cmp k_is (pe_nm h (by decide +kernel)) x_non) (pw_or1 (y_val (x_isi1 (bn h (by decide +kernel) (B _ (by decide +kernel))) (pe_nm h (by decide +kernel)) (tyn_bool (bn h (by decide +kernel) (B _ (by decide +kernel)))))))))
  (pss_oneM (ps_retM (pe_ifM (y_cmp k_is (pe_nm h (by decide +kernel)) x_non) (x_cmp k_is (pe_nm h (by decide +kernel)) x_non) (pe_andM (x_isi1 (bn h (by decide +kernel) (B _ (by decide +kernel))) (pe_nm h (by decide +kernel)) (tyn_bool (bn h (by decide +kernel) (B _ (by decide +kernel))))) (pe_one (x_cmp (k_eq r) (x_cmp k_is (pe_nm h (by decide +kernel)) x_bl) (x_cmp k_is (pe_nm h (by decide +kernel)) x_bl)))))))
  pss_nilM)
  (pss_consM (ps_ifM (y_val (x_isi1 (bn h (by decide +kernel) (B _ (by decide +kernel))) (pe_nm h (by decide +kernel)) (tyn_int (bn h (by decide +kernel) (B _ (by decide +kernel))))))
  (pss_oneM (ps_retM (pe_andM (x_isi1 (bn h (by decide +kernel) (B _ (by decide +kernel))) (pe_nm h (by decide +kernel)) (tyn_int (bn h (by decide +kernel) (B _ (by decide +kernel))))) (pe_andM (pe_notM (x_isi1 (bn h (by decide +kernel) (B _ (by decide +kernel))) (pe_nm h (by decide +kernel)) (tyn_bool (bn h (by decide +kernel) (B _ (by decide +kernel)))))) (pe_one (x_cmp (k_eq r) (x_sub (x_int1 (bn h (by decide +kernel) (B _ (by decide +kernel))) (pe_nm h (by decide +kernel))) (pe_nm h (by decide +kernel))) x_int))))))
  pss_nilM)
  (pss_consM (ps_ifM (y_val (x_isi1 (bn h (by decide +kernel) (B _ (by decide +kernel))) (pe_nm h (by decide +kernel)) (tyn_str (bn h (by decide +kernel) (B _ (by decide +kernel))))))
  (pss_oneM (ps_retM (pe_andM (x_isi1 (bn h (by decide +kernel) (B _ (by decide +kernel))) (pe_nm h (by decide +kernel)) (tyn_str (bn h (by decide +kernel) (B _ (by decide +kernel))))) (pe_andM (x_cmp (k_eq r) (x_len (bn h (by decide +kernel) (B _ (by decide +kernel))) (pe_nm h (by decide +kernel))) (x_len (bn h (by decide +kernel) (B _ (by decide +kernel))) (pe_nm h (by decide +kernel)))) (pe_one (x_cmp (k_eq r) (pe_fzM (pe_lcM (own := [("k", 2)]) h (by decide +kernel) (by decide +kernel) (i_rng1 (bn h (by decide +kernel) (B _ (by decide +kernel))) (h.gl (by decide +kernel)) (x_len (bn h (by decide +kernel) (B _ (by decide +kernel))) (pe_nm h (by decide +kernel)))) tg_name (fun s H C cl fp h1 => (pg_nm h1 (by decide +kernel))) (fun s H C cl fp h1 => (pts_oneM (y_cmp (k_ne r) (pe_slM (pe_nm h1 (by decide +kernel)) (po_someM (pe_nm h1 (by decide +kernel))) (po_someM (x_add (pe_nm h1 (by decide +kernel)) x_int))) (x_ix (pe_nm h1 (by decide +kernel)) (pe_nm h1 (by decide +kernel)))))) (fun s H C cl fp h1 => (pe_nm h1 (by decide +kernel))))) (pe_fzM (pe_lstM pa_nilM))))))))
  pss_nilM)
  (pss_consM (ps_ifM (y_val (x_isi1 (bn h (by decide +kernel) (B _ (by decide +kernel))) (pe_nm h (by decide +kernel)) (tyn_dict (bn h (by decide +kernel) (B _ (by decide +kernel))))))
  pss_neverM
  pss_nilM)
  (pss_consM (ps_ifM (PW.pt (pw_orM (y_cmp (k_ne r) (x_isi1 (bn h (by decide +kernel) (B _ (by decide +kernel))) (pe_nm h (by decide +kernel)) (tyn_list (bn h (by decide +kernel) (B _ (by decide +kernel))))) (x_isi1 (bn h (by decide +kernel) (B _ (by decide +kernel))) (pe_nm h (by decide +kernel)) (tyn_list (bn h (by decide +kernel) (B _ (by decide +kernel)))))) (pw_or1 (y_cmp (k_ne r) (x_isi1 (bn h (by decide +kernel) (B _ (by decide +kernel))) (pe_nm h (by decide +kernel)) (tyn_tuple (bn h (by decide +kernel) (B _ (by decide +kernel))))) (x_isi1 (bn h (by decide +kernel) (B _ (by decide +kernel))) (pe_nm h (by decide +kernel)) (tyn_tuple (bn h (by decide +kernel) (B _ (by decide +kernel)))))))))
  (pss_oneM (ps_retM x_bl))
  pss_nilM)
  (pss_consM (ps_ifM (PW.pt (pw_orM (pt_notM (y_val (x_isi2 (bn h (by decide +kernel) (B _ (by decide +kernel))) (pe_nm h (by decide +kernel)) (tyn_list (bn h (by decide +kernel) (B _ (by decide +kernel)))) (tyn_tuple (bn h (by decide +kernel) (B _ (by decide +kernel))))))) (pw_or1 (y_cmp (k_ne r) (x_len (bn h (by decide +kernel) (B _ (by decide +kernel))) (pe_nm h (by decide +kernel))) (x_len (bn h (by decide +kernel) (B _ (by decide +kernel))) (pe_nm h (by decide +kernel)))))))
  (pss_oneM (ps_retM x_bl))
  pss_nilM)
  (pss_oneM (ps_retM (x_cmp (k_eq r) (pe_fzM (pe_lcM (own := [("k", 2)]) h (by decide +kernel) (by decide +kernel) (i_rng1 (bn h (by decide +kernel) (B _ (by decide +kernel))) (h.gl (by decide +kernel)) (x_len (bn h (by decide +kernel) (B _ (by decide +kernel))) (pe_nm h (by decide +kernel)))) tg_name (fun s H C cl fp h1 => (pg_nm h1 (by decide +kernel))) (fun s H C cl fp h1 => (pts_oneM (pt_notM (y_val (x_fn C14 r (h1.gl (by decide +kernel)) b14_2 (by rfl) (z_cons (x_ix (pe_nm h1 (by decide +kernel)) (pe_nm h1 (by decide +kernel))) (z_cons (x_ix (pe_nm h1 (by decide +kernel)) (pe_nm h1 (by decide +kernel))) pa_nilM))))))) (fun s H C cl fp h1 => (pe_nm h1 (by decide +kernel))))) (pe_fzM (pe_lstM pa_nilM)))))))))))
/-- _law_mixed -/
theorem d15 (h : CtxOk X sc15 sc15 N15) (r : Room n X.A) (B : ∀ x, x ∈ blts → X.mg x = none) (A : Al X.prog X.w X.K X.mg X.base c n) : PSs X (defBody st15) (tS X.K c B15) := by
  obtain ⟨fa13, fd13, C13, b13_2⟩ := A.a13
  exact (pss_consM (ps_par2M h rfl rfl (by decide) (by decide +kernel) (by decide +kernel) (q_cons (pe_qL (x_lrg1 h (bn h (by decide +kernel) (B _ (by decide +kernel))) (bn h (by decide +kernel) (B _ (by decide +kernel))) (pe_nm h (by decide +kernel)))) (q_cons (pe_qL (pe_lstM pa_nilM)) pa_nilP)) (by rfl))
  (pss_consM (ps_whileM h (y_cmp (k_ne r) (pe_nm h (by decide +kernel)) (pe_fzM (pe_lstM pa_nilM)))
  (pss_oneM (s_app h (by decide +kernel) (x_popAt h (by decide +kernel) (x_fn C13 r (h.gl (by decide +kernel)) b13_2 (by rfl) (z_cons (pe_nm h (by decide +kernel)) (z_cons (x_len (bn h (by decide +kernel) (B _ (by decide +kernel))) (pe_nm h (by decide +kernel))) pa_nilM)))))))
  (pss_oneM (ps_retM (pe_nm h (by decide +kernel))))))
/-- _law_interval -/
theorem d16 (h : CtxOk X sc16 sc16 N16) (r : Room n X.A) (B : ∀ x, x ∈ blts → X.mg x = none) (A : Al X.prog X.w X.K X.mg X.base c n) : PSs X (defBody st16) (tS X.K c B16) := by
  obtain ⟨fa13, fd13, C13, b13_2⟩ := A.a13
  exact (pss_consM (s_set h (by decide +kernel) (pe_w (x_add (pe_nm h (by decide +kernel)) (x_fn C13 r (h.gl (by decide +kernel)) b13_2 (by rfl) (z_cons (pe_nm h (by decide +kernel)) (z_cons (x_sub (pe_nm h (by decide +kernel)) (pe_nm h (by decide +kernel))) pa_nilM))))))
  (pss_oneM (ps_retM (pe_tupM (z_cons (pe_nm h (by decide +kernel)) (z_cons (x_add (x_add (pe_nm h (by decide +kernel)) x_int) (x_fn C13 r (h.gl (by decide +kernel)) b13_2 (by rfl) (z_cons (pe_nm h (by decide +kernel)) (z_cons (x_sub (pe_nm h (by decide +kernel)) (pe_nm h (by decide +kernel))) pa_nilM)))) pa_nilM))))))
/-- _law_list -/
theorem d17 (h : CtxOk X sc17 sc17 N17) (r : Room n X.A) (B : ∀ x, x ∈ blts → X.mg x = none) (A : Al X.prog X.w X.K X.mg X.base c n) : PSs X (defBody st17) (tS X.K c B17) := by
  obtain ⟨fa13, fd13, C13, b13_2⟩ := A.a13
  obtain ⟨fa15, fd15, C15, b15_2⟩ := A.a15
  obtain ⟨fa16, fd16, C16, b16_3⟩ := A.a16
  exact (pss_consM (ps_parTM (n := 2) h rfl (by decide) (q_cons (pe_qE (x_fn C13 r (h.gl (by decide +kernel)) b13_2 (by rfl) (z_cons (pe_nm h (by decide +kernel)) (z_cons x_int pa_nilM)))) (q_cons (pe_qL (pe_lstM pa_nilM)) pa_nilP)) (pgs_cons (pg_nm h (by decide +kernel)) (pgs_cons (pg_nm h (by decide +kernel)) pgs_nil)) (by rfl) (by rfl) (by rfl))
  (pss_consM (ps_forM h (i_rng1 (bn h (by decide +kernel) (B _ (by decide +kernel))) (h.gl (by decide +kernel)) (pe_nm h (by decide +kernel))) (pg_nm h (by decide +kernel)) tg_name
  (pss_oneM (ps_ifM (y_cmp k_lt (pe_nm h (by decide +kernel)) x_int)
  (pss_oneM (s_app h (by decide +kernel) (pe_w (x_fn C16 r (h.gl (by decide +kernel)) b16_3 (by rfl) (z_cons (pe_nm h (by decide +kernel)) (z_cons x_int (z_cons (pe_nm h (by decide +kernel)) pa_nilM)))))))
  (pss_oneM (ps_ifM (y_cmp (k_eq r) (pe_nm h (by decide +kernel)) x_int)
  (pss_consM (s_set h (by decide +kernel) (pe_w (x_fn C13 r (h.gl (by decide +kernel)) b13_2 (by rfl) (z_cons (pe_nm h (by decide +kernel)) (z_cons (x_sub (pe_nm h (by decide +kernel)) x_int) pa_nilM)))))
  (pss_oneM (s_app h (by decide +kernel) (pe_w (pe_tupM (z_cons (pe_nm h (by decide +kernel)) (z_cons (x_add (x_add (pe_nm h (by decide +kernel)) x_int) (x_fn C13 r (h.gl (by decide +kernel)) b13_2 (by rfl) (z_cons (pe_nm h (by decide +kernel)) (z_cons x_int pa_nilM)))) pa_nilM)))))))
  (pss_oneM (ps_ifM (y_cmp (k_eq r) (pe_nm h (by decide +kernel)) x_int)
  (pss_oneM (s_app h (by decide +kernel) (pe_w (pe_tupM (z_cons (x_mul x_int (pe_nm h (by decide +kernel))) (z_cons (x_add (x_add (x_mul x_int (pe_nm h (by decide +kernel))) x_int) (x_fn C13 r (h.gl (by decide +kernel)) b13_2 (by rfl) (z_cons (pe_nm h (by decide +kernel)) (z_cons x_int pa_nilM)))) pa_nilM))))))
  (pss_oneM (ps_ifM (y_cmp (k_eq r) (pe_nm h (by decide +kernel)) x_int)
  (pss_oneM (s_app h (by decide +kernel) (pe_w (pe_tupM (z_cons (pe_nm h (by decide +kernel)) (z_cons (x_add (x_sub (x_add (x_mul x_int (pe_nm h (by decide +kernel))) x_int) (pe_nm h (by decide +kernel))) (x_fn C13 r (h.gl (by decide +kernel)) b13_2 (by rfl) (z_cons (pe_nm h (by decide +kernel)) (z_cons x_int pa_nilM)))) pa_nilM))))))
  (pss_oneM (ps_ifM (y_cmp (k_eq r) (pe_nm h (by decide +kernel)) x_int)
  (pss_oneM (s_app h (by decide +kernel) (pe_w (pe_tupM (z_cons (x_mul x_int (pe_nm h (by decide +kernel))) (z_cons (x_add (x_add (x_mul x_int (pe_nm h (by decide +kernel))) x_int) (x_fn C13 r (h.gl (by decide +kernel)) b13_2 (by rfl) (z_cons (pe_nm h (by decide +kernel)) (z_cons x_int pa_nilM)))) pa_nilM))))))
  (pss_oneM (ps_ifM (y_cmp (k_eq r) (pe_nm h (by decide +kernel)) x_int)
  (pss_oneM (s_app h (by decide +kernel) (pe_w (pe_ifM (PW.pt (pw_andM (y_cmp (k_ne r) (pe_nm h (by decide +kernel)) (pe_fzM (pe_lstM pa_nilM))) (pw_and1 (y_cmp (k_eq r) (x_fn C13 r (h.gl (by decide +kernel)) b13_2 (by rfl) (z_cons (pe_nm h (by decide +kernel)) (z_cons x_int pa_nilM))) x_int)))) (x_ix (pe_nm h (by decide +kernel)) (x_fn C13 r (h.gl (by decide +kernel)) b13_2 (by rfl) (z_cons (pe_nm h (by decide +kernel)) (z_cons (x_len (bn h (by decide +kernel) (B _ (by decide +kernel))) (pe_nm h (by decide +kernel))) pa_nilM)))) (x_fn C16 r (h.gl (by decide +kernel)) b16_3 (by rfl) (z_cons (pe_nm h (by decide +kernel)) (z_cons x_int (z_cons (pe_nm h (by decide +kernel)) pa_nilM))))))))
  (pss_consM (s_set h (by decide +kernel) (pe_w (x_fn C13 r (h.gl (by decide +kernel)) b13_2 (by rfl) (z_cons (pe_nm h (by decide +kernel)) (z_cons (x_div (pe_nm h (by decide +kernel)) x_int) pa_nilM)))))
  (pss_oneM (s_app h (by decide +kernel) (pe_w (pe_tupM (z_cons (pe_nm h (by decide +kernel)) (z_cons (x_add (x_add (x_div (pe_nm h (by decide +kernel)) x_int) x_int) (x_fn C13 r (h.gl (by decide +kernel)) b13_2 (by rfl) (z_cons (pe_nm h (by decide +kernel)) (z_cons (x_sub (pe_nm h (by decide +kernel)) (x_div (pe_nm h (by decide +kernel)) x_int)) pa_nilM)))) pa_nilM))))))))))))))))))))
  (pss_consM (s_set h (by decide +kernel) (pe_w (x_fn C15 r (h.gl (by decide +kernel)) b15_2 (by rfl) (z_cons (pe_nm h (by decide +kernel)) (z_cons (pe_nm h (by decide +kernel)) pa_nilM)))))
  (pss_oneM (ps_retM (x_tuple (bn h (by decide +kernel) (B _ (by decide +kernel))) (pe_fzM (pe_lcM (own := [("k", 5)]) h (by decide +kernel) (by decide +kernel) (pi_seqM (pe_nm h (by decide +kernel))) tg_name (fun s H C cl fp h1 => (pg_nm h1 (by decide +kernel))) (fun s H C cl fp h1 => pts_nilM) (fun s H C cl fp h1 => (x_ix (pe_nm h1 (by decide +kernel)) (pe_nm h1 (by decide +kernel))))))))))))
/-- _law_pick -/
theorem d18 (h : CtxOk X sc18 sc18 N18) (r : Room n X.A) (B : ∀ x, x ∈ blts → X.mg x = none) (A : Al X.prog X.w X.K X.mg X.base c n) : PSs X (defBody st18) (tS X.K c B18) := by
  obtain ⟨fa13, fd13, C13, b13_2⟩ := A.a13
  exact (pss_oneM (ps_retM (x_ix (pe_nm h (by decide +kernel)) (x_fn C13 r (h.gl (by decide +kernel)) b13_2 (by rfl) (z_cons (pe_nm h (by decide +kernel)) (z_cons (x_len (bn h (by decide +kernel) (B _ (by decide +kernel))) (pe_nm h (by decide +kernel))) pa_nilM))))))
/-- _law_rows -/
theorem d19 (h : CtxOk X sc19 sc19 N19) (r : Room n X.A) (B : ∀ x, x ∈ blts → X.mg x = none) (A : Al X.prog X.w X.K X.mg X.base c n) : PSs X (defBody st19) (tS X.K c B19) := by
  obtain ⟨fa13, fd13, C13, b13_2⟩ := A.a13
  obtain ⟨fa17, fd17, C17, b17_3⟩ := A.a17
  obtain ⟨fa18, fd18, C18, b18_2⟩ := A.a18
  exact (pss_consM (s_set h (by decide +kernel) (pe_w (x_cmp (k_eq r) (x_fn C13 r (h.gl (by decide +kernel)) b13_2 (by rfl) (z_cons (pe_nm h (by decide +kernel)) (z_cons x_int pa_nilM))) x_int)))
  (pss_consM (s_set h (by decide +kernel) (pe_w (pe_ifM (y_val (pe_nm h (by decide +kernel))) (pe_nm h (by decide +kernel)) (x_fn C18 r (h.gl (by decide +kernel)) b18_2 (by rfl) (z_cons (pe_nm h (by decide +kernel)) (z_cons (pe_fzM (pe_lstM (z_cons x_int (z_cons x_int (z_cons x_int (z_cons x_int (z_cons x_int (z_cons x_int (z_cons x_int (z_cons (x_min2 h (bn h (by decide +kernel) (B _ (by decide +kernel))) x_int (pe_nm h (by decide +kernel))) pa_nilM)))))))))) pa_nilM))))))
  (pss_consM (s_set h (by decide +kernel) (pe_w (x_fn C17 r (h.gl (by decide +kernel)) b17_3 (by rfl) (z_cons (pe_nm h (by decide +kernel)) (z_cons (pe_nm h (by decide +kernel)) (z_cons (pe_ifM (pt_notM (y_val (pe_nm h (by decide +kernel)))) (x_ix (pe_fzM (pe_lstM (z_cons x_int (z_cons x_int (z_cons x_int pa_nilM))))) (x_fn C13 r (h.gl (by decide +kernel)) b13_2 (by rfl) (z_cons (pe_nm h (by decide +kernel)) (z_cons x_int pa_nilM)))) x_int) pa_nilM))))))
  (pss_consM (ps_ifM (PW.pt (pw_andM (y_cmp (k_ne r) (pe_nm h (by decide +kernel)) (pe_tupM pa_nilM)) (pw_andM (y_cmp (k_eq r) (x_fn C13 r (h.gl (by decide +kernel)) b13_2 (by rfl) (z_cons (pe_nm h (by decide +kernel)) (z_cons x_int pa_nilM))) x_int) (pw_and1 (y_cmp k_lt (x_len (bn h (by decide +kernel) (B _ (by decide +kernel))) (pe_nm h (by decide +kernel))) (pe_nm h (by decide +kernel)))))))
  (pss_consM (s_set h (by decide +kernel) (pe_w (x_fn C18 r (h.gl (by decide +kernel)) b18_2 (by rfl) (z_cons (pe_nm h (by decide +kernel)) (z_cons (pe_nm h (by decide +kernel)) pa_nilM)))))
  (pss_oneM (s_set h (by decide +kernel) (pe_w (x_add (pe_nm h (by decide +kernel)) (pe_tupM (z_cons (x_fn C18 r (h.gl (by decide +kernel)) b18_2 (by rfl) (z_cons (pe_nm h (by decide +kernel)) (z_cons (pe_fzM (pe_lstM (z_cons (pe_nm h (by decide +kernel)) (z_cons (pe_tupM (z_cons (x_ix (pe_nm h (by decide +kernel)) x_int) (z_cons (x_add (x_add (x_ix (pe_nm h (by decide +kernel)) x_int) x_int) (x_fn C13 r (h.gl (by decide +kernel)) b13_2 (by rfl) (z_cons (pe_nm h (by decide +kernel)) (z_cons x_int pa_nilM)))) pa_nilM))) (z_cons (pe_tupM (z_cons (x_ix (pe_nm h (by decide +kernel)) x_int) (z_cons (x_add (x_ix (pe_nm h (by decide +kernel)) x_int) x_int) pa_nilM))) pa_nilM))))) pa_nilM))) pa_nilM)))))))
  pss_nilM)
  (pss_consM (s_set h (by decide +kernel) (pe_w (x_ix (pe_fzM (pe_lstM (z_cons x_int (z_cons x_int (z_cons (x_neg x_int) (z_cons x_int (z_cons (x_neg x_int) pa_nilM))))))) (x_fn C13 r (h.gl (by decide +kernel)) b13_2 (by rfl) (z_cons (pe_nm h (by decide +kernel)) (z_cons x_int pa_nilM))))))
  (pss_oneM (ps_retM (x_tuple (bn h (by decide +kernel) (B _ (by decide +kernel))) (pe_fzM (pe_lcM (own := [("low", 7), ("high", 8)]) h (by decide +kernel) (by decide +kernel) (pi_seqM (pe_nm h (by decide +kernel))) (tg_tup (n := 2) rfl (tgs_cons tg_name (tgs_cons tg_name tgs_nil))) (fun s H C cl fp h1 => (pg_tup h1.calm (pgs_cons (pg_nm h1 (by decide +kernel)) (pgs_cons (pg_nm h1 (by decide +kernel)) pgs_nil)))) (fun s H C cl fp h1 => pts_nilM) (fun s H C cl fp h1 => (pe_tupM (z_cons (x_add (pe_nm h1 (by decide +kernel)) (pe_nm h1 (by decide +kernel))) (z_cons (x_add (pe_nm h1 (by decide +kernel)) (pe_nm h1 (by decide +kernel))) pa_nilM))))))))))))))
/-- _law_meet -/
theorem d20 (h : CtxOk X sc20 sc20 N20) (r : Room n X.A) (B : ∀ x, x ∈ blts → X.mg x = none) (A : Al X.prog X.w X.K X.mg X.base c n) : PSs X (defBody st20) (tS X.K c B20) := by
  exact (pss_oneM (ps_retM (x_cmp k_lt (x_max2 h (bn h (by decide +kernel) (B _ (by decide +kernel))) (x_ix (pe_nm h (by decide +kernel)) x_int) (x_ix (pe_nm h (by decide +kernel)) x_int)) (x_min2 h (bn h (by decide +kernel) (B _ (by decide +kernel))) (x_ix (pe_nm h (by decide +kernel)) x_int) (x_ix (pe_nm h (by decide +kernel)) x_int)))))
/-- _law_tree_right -/
theorem d21 (h : CtxOk X sc21 sc21 N21) (r : Room n X.A) (B : ∀ x, x ∈ blts → X.mg x = none) (A : Al X.prog X.w X.K X.mg X.base c n) : PSs X (defBody st21) (tS X.K c B21) := by
  obtain ⟨fa14, fd14, C14, b14_2⟩ := A.a14
  exact (pss_consM (ps_par3M h rfl rfl rfl (by decide) (by decide) (by decide) (by decide +kernel) (by decide +kernel) (by decide +kernel) (q_cons (pe_qL (pe_lstM (z_cons (pe_tupM (z_cons (pe_tupM pa_nilM) (z_cons (pe_nm h (by decide +kernel)) (z_cons (pe_fzM (x_lrg1 h (bn h (by decide +kernel) (B _ (by decide +kernel))) (bn h (by decide +kernel) (B _ (by decide +kernel))) (x_len (bn h (by decide +kernel) (B _ (by decide +kernel))) (pe_nm h (by decide +kernel))))) pa_nilM)))) pa_nilM))) (q_cons (pe_qD pe_dnewTM) (q_cons (pe_qL (pe_lstM pa_nilM)) pa_nilP))) (by rfl))
  (pss_consM (ps_forM h (i_rng1 (bn h (by decide +kernel) (B _ (by decide +kernel))) (h.gl (by decide +kernel)) (x_add (x_mul x_int (x_len (bn h (by decide +kernel) (B _ (by decide +kernel))) (pe_nm h (by decide +kernel)))) x_int)) (pg_nm h (by decide +kernel)) tg_name
  (pss_consM (ps_ifM (y_cmp (k_eq r) (pe_nm h (by decide +kernel)) (pe_fzM (pe_lstM pa_nilM)))
  (pss_oneM ps_breakM)
  pss_nilM)
  (pss_consM (s_setT (x_pop h (by decide +kernel)) (pg_tup h.calm (pgs_cons (pg_nm h (by decide +kernel)) (pgs_cons (pg_nm h (by decide +kernel)) (pgs_cons (pg_nm h (by decide +kernel)) pgs_nil)))) (tg_tup (n := 3) rfl (tgs_cons tg_name (tgs_cons tg_name (tgs_cons tg_name tgs_nil)))))
  (pss_consM (ps_ifM (y_cmp (k_eq r) (pe_nm h (by decide +kernel)) (pe_fzM (pe_lstM pa_nilM)))
  (pss_consM (ps_ifM (y_cmp k_isnot (pe_nm h (by decide +kernel)) x_non)
  (pss_oneM (ps_retM x_non))
  pss_nilM)
  (pss_consM (s_dput h r (by decide +kernel) (pe_nm h (by decide +kernel)) (pe_w x_non))
  (pss_oneM ps_continueM)))
  pss_nilM)
  (pss_consM (s_setL h (by decide +kernel) (x_sortedI (bn h (by decide +kernel) (B _ (by decide +kernel))) (pe_fzM (x_cat (pe_lcM (own := [("k", 12)]) h (by decide +kernel) (by decide +kernel) (pi_seqM (pe_nm h (by decide +kernel))) tg_name (fun s H C cl fp h1 => (pg_nm h1 (by decide +kernel))) (fun s H C cl fp h1 => pts_nilM) (fun s H C cl fp h1 => (x_ix (x_ix (pe_nm h1 (by decide +kernel)) (pe_nm h1 (by decide +kernel))) x_int))) (pe_lcM (own := [("k", 12)]) h (by decide +kernel) (by decide +kernel) (pi_seqM (pe_nm h (by decide +kernel))) tg_name (fun s H C cl fp h1 => (pg_nm h1 (by decide +kernel))) (fun s H C cl fp h1 => pts_nilM) (fun s H C cl fp h1 => (x_ix (x_ix (pe_nm h1 (by decide +kernel)) (pe_nm h1 (by decide +kernel))) x_int)))))))
  (pss_consM (s_set h (by decide +kernel) (pe_w (x_ix (pe_nm h (by decide +kernel)) (x_div (x_sub (x_len (bn h (by decide +kernel) (B _ (by decide +kernel))) (pe_nm h (by decide +kernel))) x_int) x_int))))
  (pss_consM (s_set h (by decide +kernel) (pe_w (x_tuple (bn h (by decide +kernel) (B _ (by decide +kernel))) (pe_fzM (pe_lcM (own := [("k", 12)]) h (by decide +kernel) (by decide +kernel) (pi_seqM (pe_nm h (by decide +kernel))) tg_name (fun s H C cl fp h1 => (pg_nm h1 (by decide +kernel))) (fun s H C cl fp h1 => (pts_oneM (y_chain k_le k_le (x_ix (x_ix (pe_nm h1 (by decide +kernel)) (pe_nm h1 (by decide +kernel))) x_int) (pe_nm h1 (by decide +kernel)) (x_ix (x_ix (pe_nm h1 (by decide +kernel)) (pe_nm h1 (by decide +kernel))) x_int)))) (fun s H C cl fp h1 => (pe_nm h1 (by decide +kernel))))))))
  (pss_consM (ps_ifM (PW.pt (pw_orM (pt_notM (y_val (x_isi1 (bn h (by decide +kernel) (B _ (by decide +kernel))) (pe_nm h (by decide +kernel)) (tyn_tuple (bn h (by decide +kernel) (B _ (by decide +kernel))))))) (pw_orM (y_cmp (k_ne r) (x_len (bn h (by decide +kernel) (B _ (by decide +kernel))) (pe_nm h (by decide +kernel))) x_int) (pw_or1 (pt_notM (y_val (x_fn C14 r (h.gl (by decide +kernel)) b14_2 (by rfl) (z_cons (pe_fzM (pe_lstM (z_cons (x_ix (pe_nm h (by decide +kernel)) x_int) (z_cons (x_ix (pe_nm h (by decide +kernel)) x_int) pa_nilM)))) (z_cons (pe_fzM (pe_lstM (z_cons (pe_nm h (by decide +kernel)) (z_cons (pe_nm h (by decide +kernel)) pa_nilM)))) pa_nilM)))))))))
  (pss_oneM (ps_retM x_non))
  pss_nilM)
  (pss_consM (s_dput h r (by decide +kernel) (pe_nm h (by decide +kernel)) (pe_w (pe_tupM (z_cons (pe_nm h (by decide +kernel)) (z_cons (pe_nm h (by decide +kernel)) pa_nilM)))))
  (pss_consM (s_ext h (by decide +kernel) (x_list (bn h (by decide +kernel) (B _ (by decide +kernel))) (pe_nm h (by decide +kernel))))
  (pss_consM (s_app h (by decide +kernel) (pe_w (pe_tupM (z_cons (x_add (pe_nm h (by decide +kernel)) (pe_tupM (z_cons x_int pa_nilM))) (z_cons (x_ix (pe_nm h (by decide +kernel)) x_int) (z_cons (pe_fzM (pe_lcM (own := [("k", 12)]) h (by decide +kernel) (by decide +kernel) (pi_seqM (pe_nm h (by decide +kernel))) tg_name (fun s H C cl fp h1 => (pg_nm h1 (by decide +kernel))) (fun s H C cl fp h1 => (pts_oneM (y_cmp k_lt (x_ix (x_ix (pe_nm h1 (by decide +kernel)) (pe_nm h1 (by decide +kernel))) x_int) (pe_nm h1 (by decide +kernel))))) (fun s H C cl fp h1 => (pe_nm h1 (by decide +kernel))))) pa_nilM))))))
  (pss_oneM (s_app h (by decide +kernel) (pe_w (pe_tupM (z_cons (x_add (pe_nm h (by decide +kernel)) (pe_tupM (z_cons x_int pa_nilM))) (z_cons (x_ix (pe_nm h (by decide +kernel)) x_int) (z_cons (pe_fzM (pe_lcM (own := [("k", 12)]) h (by decide +kernel) (by decide +kernel) (pi_seqM (pe_nm h (by decide +kernel))) tg_name (fun s H C cl fp h1 => (pg_nm h1 (by decide +kernel))) (fun s H C cl fp h1 => (pts_oneM (y_cmp k_gt (x_ix (x_ix (pe_nm h1 (by decide +kernel)) (pe_nm h1 (by decide +kernel))) x_int) (pe_nm h1 (by decide +kernel))))) (fun s H C cl fp h1 => (pe_nm h1 (by decide +kernel))))) pa_nilM))))))))))))))))))
  (pss_oneM (ps_frzM (ps_retM (pe_ifM (y_cmp (k_eq r) (pe_fzM (x_sortedI (bn h (by decide +kernel) (B _ (by decide +kernel))) (pe_nm h (by decide +kernel)))) (pe_fzM (x_lrg1 h (bn h (by decide +kernel) (B _ (by decide +kernel))) (bn h (by decide +kernel) (B _ (by decide +kernel))) (x_len (bn h (by decide +kernel) (B _ (by decide +kernel))) (pe_nm h (by decide +kernel)))))) (pe_nm h (by decide +kernel)) x_non))))))
/-- _law_way -/
theorem d22 (h : CtxOk X sc22 sc22 N22) (r : Room n X.A) (B : ∀ x, x ∈ blts → X.mg x = none) (A : Al X.prog X.w X.K X.mg X.base c n) : PSs X (defBody st22) (tS X.K c B22) := by
  exact (pss_consM (ps_par3M h rfl rfl rfl (by decide) (by decide) (by decide) (by decide +kernel) (by decide +kernel) (by decide +kernel) (q_cons (pe_qE (pe_tupM pa_nilM)) (q_cons (pe_qL (pe_lstM pa_nilM)) (q_cons (pe_qL (pe_lstM pa_nilM)) pa_nilP))) (by rfl))
  (pss_consM (ps_forM h (i_rng1 (bn h (by decide +kernel) (B _ (by decide +kernel))) (h.gl (by decide +kernel)) (x_add (x_len (bn h (by decide +kernel) (B _ (by decide +kernel))) (pe_nm h (by decide +kernel))) x_int)) (pg_nm h (by decide +kernel)) tg_name
  (pss_consM (ps_ifM (y_cmp k_is (x_dget r (pe_nm h (by decide +kernel)) (pe_nm h (by decide +kernel))) x_non)
  (pss_oneM ps_breakM)
  pss_nilM)
  (pss_consM (s_set h (by decide +kernel) (pe_w (x_ix (x_dget r (pe_nm h (by decide +kernel)) (pe_nm h (by decide +kernel))) x_int)))
  (pss_consM (s_app h (by decide +kernel) (pe_w (pe_nm h (by decide +kernel))))
  (pss_consM (s_ext h (by decide +kernel) (x_list (bn h (by decide +kernel) (B _ (by decide +kernel))) (x_ix (x_dget r (pe_nm h (by decide +kernel)) (pe_nm h (by decide +kernel))) x_int)))
  (pss_consM (ps_ifM (y_cmp (k_eq r) (pe_nm h (by decide +kernel)) (pe_nm h (by decide +kernel)))
  (pss_oneM ps_breakM)
  pss_nilM)
  (pss_oneM (s_set h (by decide +kernel) (pe_w (x_add (pe_nm h (by decide +kernel)) (pe_tupM (z_cons (pe_ifM (y_cmp k_lt (pe_nm h (by decide +kernel)) (pe_nm h (by decide +kernel))) x_int x_int) pa_nilM))))))))))))
  (pss_oneM (ps_frzM (ps_retM (pe_tupM (z_cons (x_tuple (bn h (by decide +kernel) (B _ (by decide +kernel))) (pe_nm h (by decide +kernel))) (z_cons (pe_nm h (by decide +kernel)) pa_nilM))))))))
/-- _law_list_right -/
theorem d23 (h : CtxOk X sc23 sc23 N23) (r : Room n X.A) (B : ∀ x, x ∈ blts → X.mg x = none) (A : Al X.prog X.w X.K X.mg X.base c n) : PSs X (defBody st23) (tS X.K c B23) := by
  obtain ⟨fa7, fd7, C7, k7_0, b7_1⟩ := A.a7
  obtain ⟨fa9, fd9, C9, b9_2, k9_1⟩ := A.a9
  obtain ⟨fa10, fd10, C10, k10_0, b10_2⟩ := A.a10
  obtain ⟨fa14, fd14, C14, b14_2⟩ := A.a14
  obtain ⟨fa15, fd15, C15, b15_2⟩ := A.a15
  obtain ⟨fa21, fd21, C21, b21_2⟩ := A.a21
  obtain ⟨fa22, fd22, C22, b22_2⟩ := A.a22
  exact (pss_consM (s_set h (by decide +kernel) (pe_w (pe_ifM (y_val (pe_nm h (by decide +kernel))) (x_fnK0 C7 r (h.gl (by decide +kernel)) k7_0 (by rfl) (pk_consM (pe_nm h (by decide +kernel)) pk_nilM)) (x_fn C7 r (h.gl (by decide +kernel)) b7_1 (by rfl) (z_cons (pe_nm h (by decide +kernel)) pa_nilM)))))
  (pss_consM (s_set h (by decide +kernel) (pe_w (x_fn C21 r (h.gl (by decide +kernel)) b21_2 (by rfl) (z_cons (pe_nm h (by decide +kernel)) (z_cons (pe_nm h (by decide +kernel)) pa_nilM)))))
  (pss_consM (ps_ifM (PW.pt (pw_orM (y_cmp k_is (pe_nm h (by decide +kernel)) x_non) (pw_or1 (pt_notM (y_val (x_fn C14 r (h.gl (by decide +kernel)) b14_2 (by rfl) (z_cons (x_fn C7 r (h.gl (by decide +kernel)) b7_1 (by rfl) (z_cons (pe_nm h (by decide +kernel)) pa_nilM)) (z_cons (pe_nm h (by decide +kernel)) pa_nilM))))))))
  (pss_oneM (ps_retM x_bl))
  pss_nilM)
  (pss_consM (s_setL h (by decide +kernel) (pe_lstM (z_cons x_int (z_cons (x_pow x_int x_int) (z_cons (x_neg x_int) pa_nilM)))))
  (pss_consM (ps_forM h (pi_seqM (pe_nm h (by decide +kernel))) (pg_tup h.calm (pgs_cons (pg_nm h (by decide +kernel)) (pgs_cons (pg_nm h (by decide +kernel)) pgs_nil))) (tg_tup (n := 2) rfl (tgs_cons tg_name (tgs_cons tg_name tgs_nil)))
  (pss_oneM (s_ext h (by decide +kernel) (pe_lstM (z_cons (pe_nm h (by decide +kernel)) (z_cons (pe_nm h (by decide +kernel)) (z_cons (x_sub (pe_nm h (by decide +kernel)) x_int) (z_cons (x_sub (pe_nm h (by decide +kernel)) x_int) (z_cons (x_div (x_add (pe_nm h (by decide +kernel)) (pe_nm h (by decide +kernel))) x_int) pa_nilM)))))))))
  (pss_consM (ps_forM h (pi_seqM (pe_fzM (pe_lcM (own := [("k", 14)]) h (by decide +kernel) (by decide +kernel) (pi_seqM (pe_slM (x_fn C15 r (h.gl (by decide +kernel)) b15_2 (by rfl) (z_cons (pe_nm h (by decide +kernel)) (z_cons (x_len (bn h (by decide +kernel) (B _ (by decide +kernel))) (pe_nm h (by decide +kernel))) pa_nilM))) po_noneM (po_someM x_int))) tg_name (fun s H C cl fp h1 => (pg_nm h1 (by decide +kernel))) (fun s H C cl fp h1 => pts_nilM) (fun s H C cl fp h1 => (x_ix (pe_nm h1 (by decide +kernel)) (pe_nm h1 (by decide +kernel))))))) (pg_nm h (by decide +kernel)) tg_name
  (pss_consM (s_setT (pe_w (x_fn C22 r (h.gl (by decide +kernel)) b22_2 (by rfl) (z_cons (pe_nm h (by decide +kernel)) (z_cons (pe_nm h (by decide +kernel)) pa_nilM)))) (pg_tup h.calm (pgs_cons (pg_nm h (by decide +kernel)) (pgs_cons (pg_nm h (by decide +kernel)) pgs_nil))) (tg_tup (n := 2) rfl (tgs_cons tg_name (tgs_cons tg_name tgs_nil))))
  (pss_consM (s_set h (by decide +kernel) (pe_w (pe_ifM (y_val (pe_nm h (by decide +kernel))) (pe_fzM (pe_lstM (z_cons (x_fnK0 C10 r (h.gl (by decide +kernel)) k10_0 (by rfl) (pk_consM (pe_nm h (by decide +kernel)) (pk_consM (pe_nm h (by decide +kernel)) pk_nilM))) (z_cons (x_fn C9 r (h.gl (by decide +kernel)) b9_2 (by rfl) (z_cons (pe_nm h (by decide +kernel)) (z_cons (pe_nm h (by decide +kernel)) pa_nilM))) pa_nilM)))) (pe_fzM (pe_lstM (z_cons (x_fn C10 r (h.gl (by decide +kernel)) b10_2 (by rfl) (z_cons (pe_nm h (by decide +kernel)) (z_cons (pe_nm h (by decide +kernel)) pa_nilM))) (z_cons (x_fnK0 C9 r (h.gl (by decide +kernel)) k9_1 (by rfl) (pk_consM (pe_nm h (by decide +kernel)) (pk_consM (pe_nm h (by decide +kernel)) pk_nilM))) pa_nilM)))))))
  (pss_consM (s_set h (by decide +kernel) (pe_w (x_tuple (bn h (by decide +kernel) (B _ (by decide +kernel))) (pe_fzM (pe_lcM (own := [("k", 14)]) h (by decide +kernel) (by decide +kernel) (i_rng1 (bn h (by decide +kernel) (B _ (by decide +kernel))) (h.gl (by decide +kernel)) (x_len (bn h (by decide +kernel) (B _ (by decide +kernel))) (pe_nm h (by decide +kernel)))) tg_name (fun s H C cl fp h1 => (pg_nm h1 (by decide +kernel))) (fun s H C cl fp h1 => (pts_oneM (y_chain k_le k_lt (x_ix (x_ix (pe_nm h1 (by decide +kernel)) (pe_nm h1 (by decide +kernel))) x_int) (pe_nm h1 (by decide +kernel)) (x_ix (x_ix (pe_nm h1 (by decide +kernel)) (pe_nm h1 (by decide +kernel))) x_int)))) (fun s H C cl fp h1 => (pe_nm h1 (by decide +kernel))))))))
  (pss_consM (s_set h (by decide +kernel) (pe_w (x_tuple (bn h (by decide +kernel) (B _ (by decide +kernel))) (pe_fzM (x_sortedI (bn h (by decide +kernel) (B _ (by decide +kernel))) (pe_fzM (pe_lcM (own := [("k", 14)]) h (by decide +kernel) (by decide +kernel) (pi_seqM (pe_nm h (by decide +kernel))) tg_name (fun s H C cl fp h1 => (pg_nm h1 (by decide +kernel))) (fun s H C cl fp h1 => (pts_oneM (y_chain k_le k_lt (x_ix (x_ix (pe_nm h1 (by decide +kernel)) (pe_nm h1 (by decide +kernel))) x_int) (pe_nm h1 (by decide +kernel)) (x_ix (x_ix (pe_nm h1 (by decide +kernel)) (pe_nm h1 (by decide +kernel))) x_int)))) (fun s H C cl fp h1 => (pe_nm h1 (by decide +kernel))))))))))
  (pss_consM (ps_ifM (PW.pt (pw_orM (pt_notM (y_val (x_fn C14 r (h.gl (by decide +kernel)) b14_2 (by rfl) (z_cons (pe_nm h (by decide +kernel)) (z_cons (pe_fzM (pe_lstM (z_cons (pe_nm h (by decide +kernel)) (z_cons (pe_nm h (by decide +kernel)) pa_nilM)))) pa_nilM))))) (pw_or1 (y_cmp (k_ne r) (pe_nm h (by decide +kernel)) (pe_nm h (by decide +kernel))))))
  (pss_oneM (ps_retM x_bl))
  pss_nilM)
  (pss_oneM (s_set h (by decide +kernel) (pe_w (pe_notM (pe_nm h (by decide +kernel))))))))))))
  (pss_oneM (ps_retM x_bl))))))))
/-- _law_other -/
theorem d24 (h : CtxOk X sc24 sc24 N24) (r : Room n X.A) (B : ∀ x, x ∈ blts → X.mg x = none) (A : Al X.prog X.w X.K X.mg X.base c n) : PSs X (defBody st24) (tS X.K c B24) := by
  obtain ⟨fa13, fd13, C13, b13_2⟩ := A.a13
  obtain ⟨fa15, fd15, C15, b15_2⟩ := A.a15
  obtain ⟨fa18, fd18, C18, b18_2⟩ := A.a18
  obtain ⟨fa20, fd20, C20, b20_2⟩ := A.a20
  exact (pss_consM (s_setL h (by decide +kernel) (pe_lstM pa_nilM))
  (pss_consM (ps_forM h (i_rng1 (bn h (by decide +kernel) (B _ (by decide +kernel))) (h.gl (by decide +kernel)) (x_len (bn h (by decide +kernel) (B _ (by decide +kernel))) (pe_nm h (by decide +kernel)))) (pg_nm h (by decide +kernel)) tg_name
  (pss_oneM (s_ext h (by decide +kernel) (pe_lcM (own := [("j", 4)]) h (by decide +kernel) (by decide +kernel) (i_rng2 (bn h (by decide +kernel) (B _ (by decide +kernel))) (h.gl (by decide +kernel)) (x_add (pe_nm h (by decide +kernel)) x_int) (x_len (bn h (by decide +kernel) (B _ (by decide +kernel))) (pe_nm h (by decide +kernel)))) tg_name (fun s H C cl fp h1 => (pg_nm h1 (by decide +kernel))) (fun s H C cl fp h1 => (pts_oneM (y_val (x_fn C20 r (h1.gl (by decide +kernel)) b20_2 (by rfl) (z_cons (x_ix (pe_nm h1 (by decide +kernel)) (pe_nm h1 (by decide +kernel))) (z_cons (x_ix (pe_nm h1 (by decide +kernel)) (pe_nm h1 (by decide +kernel))) pa_nilM)))))) (fun s H C cl fp h1 => (pe_tupM (z_cons (pe_nm h1 (by decide +kernel)) (z_cons (pe_nm h1 (by decide +kernel)) pa_nilM))))))))
  (pss_consM (ps_ifM (PW.pt (pw_orM (y_cmp (k_eq r) (pe_nm h (by decide +kernel)) (pe_fzM (pe_lstM pa_nilM))) (pw_or1 (y_cmp (k_eq r) (x_fn C13 r (h.gl (by decide +kernel)) b13_2 (by rfl) (z_cons (pe_nm h (by decide +kernel)) (z_cons x_int pa_nilM))) x_int))))
  (pss_oneM (ps_retM (x_tuple (bn h (by decide +kernel) (B _ (by decide +kernel))) (pe_fzM (pe_lcM (own := [("k", 5)]) h (by decide +kernel) (by decide +kernel) (pi_seqM (x_fn C15 r (h.gl (by decide +kernel)) b15_2 (by rfl) (z_cons (pe_nm h (by decide +kernel)) (z_cons (x_len (bn h (by decide +kernel) (B _ (by decide +kernel))) (pe_nm h (by decide +kernel))) pa_nilM)))) tg_name (fun s H C cl fp h1 => (pg_nm h1 (by decide +kernel))) (fun s H C cl fp h1 => pts_nilM) (fun s H C cl fp h1 => (x_ix (pe_nm h1 (by decide +kernel)) (pe_nm h1 (by decide +kernel)))))))))
  pss_nilM)
  (pss_consM (ps_frzM (s_setT (pe_w (x_fn C18 r (h.gl (by decide +kernel)) b18_2 (by rfl) (z_cons (pe_nm h (by decide +kernel)) (z_cons (pe_nm h (by decide +kernel)) pa_nilM)))) (pg_tup h.calm (pgs_cons (pg_nm h (by decide +kernel)) (pgs_cons (pg_nm h (by decide +kernel)) pgs_nil))) (tg_tup (n := 2) rfl (tgs_cons tg_name (tgs_cons tg_name tgs_nil)))))
  (pss_oneM (ps_retM (x_tuple (bn h (by decide +kernel) (B _ (by decide +kernel))) (pe_fzM (pe_lcM (own := [("k", 5), ("row", 6)]) h (by decide +kernel) (by decide +kernel) (i_enum h (bn h (by decide +kernel) (B _ (by decide +kernel))) (pe_nm h (by decide +kernel))) (tg_tup (n := 2) rfl (tgs_cons tg_name (tgs_cons tg_name tgs_nil))) (fun s H C cl fp h1 => (pg_tup h1.calm (pgs_cons (pg_nm h1 (by decide +kernel)) (pgs_cons (pg_nm h1 (by decide +kernel)) pgs_nil)))) (fun s H C cl fp h1 => pts_nilM) (fun s H C cl fp h1 => (pe_ifM (y_cmp (k_eq r) (pe_nm h1 (by decide +kernel)) (pe_nm h1 (by decide +kernel))) (pe_tupM (z_cons (x_ix (x_ix (pe_nm h1 (by decide +kernel)) (pe_nm h1 (by decide +kernel))) x_int) (z_cons (x_ix (x_ix (pe_nm h1 (by decide +kernel)) (pe_nm h1 (by decide +kernel))) x_int) pa_nilM))) (pe_ifM (y_cmp (k_eq r) (pe_nm h1 (by decide +kernel)) (pe_nm h1 (by decide +kernel))) (pe_tupM (z_cons (x_ix (x_ix (pe_nm h1 (by decide +kernel)) (pe_nm h1 (by decide +kernel))) x_int) (z_cons (x_ix (x_ix (pe_nm h1 (by decide +kernel)) (pe_nm h1 (by decide +kernel))) x_int) pa_nilM))) (pe_nm h1 (by decide +kernel))))))))))))))
/-- law -/
theorem d25 (h : CtxOk X sc25 sc25 N25) (r : Room n X.A) (B : ∀ x, x ∈ blts → X.mg x = none) (A : Al X.prog X.w X.K X.mg X.base c n) : PSs X (defBody st25) (tS X.K c B25) := by
  obtain ⟨fa11, fd11, C11, b11_2⟩ := A.a11
  obtain ⟨fa12, fd12, C12, b12_1⟩ := A.a12
  obtain ⟨fa13, fd13, C13, b13_2⟩ := A.a13
  obtain ⟨fa19, fd19, C19, b19_2⟩ := A.a19
  obtain ⟨fa23, fd23, C23, b23_3⟩ := A.a23
  obtain ⟨fa24, fd24, C24, b24_2⟩ := A.a24
  exact (pss_consM (ps_forM h (i_rng1 (bn h (by decide +kernel) (B _ (by decide +kernel))) (h.gl (by decide +kernel)) (x_max2 h (bn h (by decide +kernel) (B _ (by decide +kernel))) x_int (x_min2 h (bn h (by decide +kernel) (B _ (by decide +kernel))) x_int (x_len (bn h (by decide +kernel) (B _ (by decide +kernel))) (pe_nm h (by decide +kernel)))))) (pg_nm h (by decide +kernel)) tg_name
  (pss_consM (s_set h (by decide +kernel) (pe_w (x_fn C12 r (h.gl (by decide +kernel)) b12_1 (by rfl) (z_cons (x_fn C11 r (h.gl (by decide +kernel)) b11_2 (by rfl) (z_cons (pe_nm h (by decide +kernel)) (z_cons (pe_nm h (by decide +kernel)) pa_nilM))) pa_nilM))))
  (pss_consM (ps_par2M h rfl rfl (by decide) (by decide +kernel) (by decide +kernel) (q_cons (pe_qE (x_cmp (k_eq r) (x_fn C13 r (h.gl (by decide +kernel)) b13_2 (by rfl) (z_cons (pe_nm h (by decide +kernel)) (z_cons x_int pa_nilM))) x_int)) (q_cons (pe_qE (x_fn C19 r (h.gl (by decide +kernel)) b19_2 (by rfl) (z_cons (pe_nm h (by decide +kernel)) (z_cons x_int pa_nilM)))) pa_nilP)) (by rfl))
  (pss_oneM (ps_forM h (pi_seqM (pe_tupM (z_cons (pe_nm h (by decide +kernel)) (z_cons (x_fn C24 r (h.gl (by decide +kernel)) b24_2 (by rfl) (z_cons (pe_nm h (by decide +kernel)) (z_cons (pe_nm h (by decide +kernel)) pa_nilM))) (z_cons (x_fn C19 r (h.gl (by decide +kernel)) b19_2 (by rfl) (z_cons (pe_nm h (by decide +kernel)) (z_cons x_int pa_nilM))) (z_cons (pe_nm h (by decide +kernel)) pa_nilM)))))) (pg_nm h (by decide +kernel)) tg_name
  (pss_consM (ps_ifM (pt_notM (y_val (x_fn C23 r (h.gl (by decide +kernel)) b23_3 (by rfl) (z_cons (pe_nm h (by decide +kernel)) (z_cons (pe_nm h (by decide +kernel)) (z_cons (pe_nm h (by decide +kernel)) pa_nilM))))))
  (pss_oneM (ps_retM x_bl))
  pss_nilM)
  (pss_oneM (s_set h (by decide +kernel) (pe_w (pe_notM (pe_nm h (by decide +kernel))))))))))))
  (pss_oneM (ps_retM x_bl)))
end
end K03
set_option Elab.async false
set_option linter.all false
set_option maxRecDepth 100000
set_option maxHeartbeats 4000000
/-! k03: plain facts about the machine's parts -/
namespace K03
open PySem L2 DL

/-! ### statement by statement -/
theorem seq_nx {a b : SM} {c : Call} {ρ ρ1 : List Slot} {M M1 : List MO} (h : a c ρ M = some (.nx, ρ1, M1)) : mSeq a b c ρ M = b c ρ1 M1 := by
  unfold mSeq
  rw [h]
theorem seq_rt {a b : SM} {c : Call} {ρ ρ1 : List Slot} {M M1 : List MO} {x : Vl} (h : a c ρ M = some (.rt x, ρ1, M1)) : mSeq a b c ρ M = some (.rt x, ρ1, M1) := by
  unfold mSeq
  rw [h]
theorem seq_bk {a b : SM} {c : Call} {ρ ρ1 : List Slot} {M M1 : List MO} (h : a c ρ M = some (.bk, ρ1, M1)) : mSeq a b c ρ M = some (.bk, ρ1, M1) := by
  unfold mSeq
  rw [h]
theorem seq_ct {a b : SM} {c : Call} {ρ ρ1 : List Slot} {M M1 : List MO} (h : a c ρ M = some (.ct, ρ1, M1)) : mSeq a b c ρ M = some (.ct, ρ1, M1) := by
  unfold mSeq
  rw [h]
theorem fn_rt {nl : Nat} {b : SM} {c : Call} {as : List Vl} {M M' : List MO} {x : Vl} {ρ' : List Slot} (h : b c (as.map slotA ++ List.replicate (nl - as.length) .un) M = some (.rt x, ρ', M')) : mFn nl b c as M = (outV ρ' (.rt x)).map fun x => (x, M') := by
  unfold mFn
  rw [h]
theorem for_nil {t : Tg} {b : SM} {c : Call} {ρ : List Slot} {M : List MO} : forGo t b c [] ρ M = some (.nx, ρ, M) := rfl
theorem for_nx {t : Tg} {b : SM} {c : Call} {d : D} {ds : List D} {ρ ρ1 ρ2 : List Slot} {M M2 : List MO} (h1 : setTg t d ρ = some ρ1) (h : b c ρ1 M = some (.nx, ρ2, M2)) : forGo t b c (d :: ds) ρ M = forGo t b c ds ρ2 M2 := by
  rw [forGo, h1]
  simp only
  rw [h]
theorem for_ct {t : Tg} {b : SM} {c : Call} {d : D} {ds : List D} {ρ ρ1 ρ2 : List Slot} {M M2 : List MO} (h1 : setTg t d ρ = some ρ1) (h : b c ρ1 M = some (.ct, ρ2, M2)) : forGo t b c (d :: ds) ρ M = forGo t b c ds ρ2 M2 := by
  rw [forGo, h1]
  simp only
  rw [h]
theorem for_bk {t : Tg} {b : SM} {c : Call} {d : D} {ds : List D} {ρ ρ1 ρ2 : List Slot} {M M2 : List MO} (h1 : setTg t d ρ = some ρ1) (h : b c ρ1 M = some (.bk, ρ2, M2)) : forGo t b c (d :: ds) ρ M = some (.nx, ρ2, M2) := by
  rw [forGo, h1]
  simp only
  rw [h]
theorem for_rt {t : Tg} {b : SM} {c : Call} {d : D} {ds : List D} {ρ ρ1 ρ2 : List Slot} {M M2 : List MO} {x : Vl} (h1 : setTg t d ρ = some ρ1) (h : b c ρ1 M = some (.rt x, ρ2, M2)) : forGo t b c (d :: ds) ρ M = some (.rt x, ρ2, M2) := by
  rw [forGo, h1]
  simp only
  rw [h]
theorem wh_end {t : TM} {b : SM} {c : Call} {n : Nat} {ρ : List Slot} {M M1 : List MO} (h : t c ρ M = some (false, M1)) : whGo t b c (n + 1) ρ M = some (.nx, ρ, M1) := by
  rw [whGo, h]
  rfl
theorem wh_nx {t : TM} {b : SM} {c : Call} {n : Nat} {ρ ρ2 : List Slot} {M M1 M2 : List MO} (h : t c ρ M = some (true, M1)) (h2 : b c ρ M1 = some (.nx, ρ2, M2)) : whGo t b c (n + 1) ρ M = whGo t b c n ρ2 M2 := by
  rw [whGo, h]
  simp only [if_true]
  rw [h2]
theorem wh_rt {t : TM} {b : SM} {c : Call} {n : Nat} {ρ ρ2 : List Slot} {M M1 M2 : List MO} {x : Vl} (h : t c ρ M = some (true, M1)) (h2 : b c ρ M1 = some (.rt x, ρ2, M2)) : whGo t b c (n + 1) ρ M = some (.rt x, ρ2, M2) := by
  rw [whGo, h]
  simp only [if_true]
  rw [h2]
/-! ### comprehensions over data -/
theorem lcF_flat {bod : D → List MO → Res (List D)} {M : List MO} {g : D → List D} : ∀ {ds : List D}, (∀ d ∈ ds, bod d M = some (g d, M)) → lcF bod ds M = some (ds.flatMap g, M)
  | [], _ => rfl
  | d :: ds, h => by
    unfold lcF
    rw [h d List.mem_cons_self]
    simp only
    rw [lcF_flat fun e m => h e (List.mem_cons_of_mem _ m)]
    simp only [List.flatMap_cons]
theorem lcF_map {bod : D → List MO → Res (List D)} {M : List MO} {α : Type} {e g : α → D} {xs : List α} (h : ∀ x ∈ xs, bod (e x) M = some ([g x], M)) : lcF bod (xs.map e) M = some (xs.map g, M) := by
  induction xs with
  | nil => rfl
  | cons x xs ih =>
    rw [List.map_cons]
    unfold lcF
    rw [h x List.mem_cons_self]
    simp only
    rw [ih fun y m => h y (List.mem_cons_of_mem _ m)]
    rfl
theorem lcF_filt {bod : D → List MO → Res (List D)} {M : List MO} {α : Type} {e g : α → D} {p : α → Bool} {xs : List α} (h : ∀ x ∈ xs, bod (e x) M = some (if p x = true then [g x] else [], M)) : lcF bod (xs.map e) M = some ((xs.filter p).map g, M) := by
  induction xs with
  | nil => rfl
  | cons x xs ih =>
    rw [List.map_cons]
    unfold lcF
    rw [h x List.mem_cons_self]
    simp only
    rw [ih fun y m => h y (List.mem_cons_of_mem _ m)]
    by_cases hp : p x = true
    · simp [hp]
    · simp [hp]
theorem lcF_flatM {bod : D → List MO → Res (List D)} {M : List MO} {α : Type} {e : α → D} {g : α → List D} {xs : List α} (h : ∀ x ∈ xs, bod (e x) M = some (g x, M)) : lcF bod (xs.map e) M = some (xs.flatMap g, M) := by
  induction xs with
  | nil => rfl
  | cons x xs ih =>
    rw [List.map_cons]
    unfold lcF
    rw [h x List.mem_cons_self]
    simp only
    rw [ih fun y m => h y (List.mem_cons_of_mem _ m)]
    simp only [List.flatMap_cons]
/-! ### places -/
theorem ixN_nat {n k : Nat} (h : k < n) : ixN n (k : Int) = some k := by
  unfold ixN
  rw [if_pos (by omega), if_pos (by omega)]
  simp
theorem atI_nat {xs : List D} {k : Nat} (h : k < xs.length) : atI xs (k : Int) = some xs[k] := by
  unfold atI
  rw [ixN_nat h]
  simp [h]
theorem ixN_int {n : Nat} {i : Int} (h0 : 0 ≤ i) (h : i < n) : ixN n i = some i.toNat := by
  unfold ixN
  rw [if_pos h0, if_pos h]
theorem atI_int {xs : List D} {i : Int} (h0 : 0 ≤ i) (h : i < xs.length) : atI xs i = some (xs[i.toNat]'(by omega)) := by
  unfold atI
  rw [ixN_int h0 h]
  simp
/-! ### data that compare -/
theorem eqv_list (xs : List D) : PyData.eqv (.list xs) (.list []) = xs.isEmpty := by
  cases xs <;> simp [PyData.eqv, PyData.eqvAll]
theorem eqv_tup (xs : List D) : PyData.eqv (.tuple xs) (.tuple []) = xs.isEmpty := by
  cases xs <;> simp [PyData.eqv, PyData.eqvAll]
mutual
/-- built of None, bools, ints, lists, tuples -/
def flat : D → Bool
  | .none => true
  | .bool _ => true
  | .int _ => true
  | .str _ => false
  | .list xs => flats xs
  | .tuple xs => flats xs
  | .dict _ => false
def flats : List D → Bool
  | [] => true
  | x :: xs => flat x && flats xs
end
mutual
theorem flat_noD : ∀ d : D, flat d = true → noD d = true ∧ d.canLay0 = true
  | .none, _ => ⟨rfl, by simp [PyData.canLay0]⟩
  | .bool _, _ => ⟨rfl, by simp [PyData.canLay0]⟩
  | .int _, _ => ⟨rfl, by simp [PyData.canLay0]⟩
  | .str _, h => by simp [flat] at h
  | .list xs, h => by
    have := flats_noD xs (by simpa [flat] using h)
    exact ⟨by simpa [noD] using this.1, by simpa [PyData.canLay0] using this.2⟩
  | .tuple xs, h => by
    have := flats_noD xs (by simpa [flat] using h)
    exact ⟨by simpa [noD] using this.1, by simpa [PyData.canLay0] using this.2⟩
  | .dict _, h => by simp [flat] at h
theorem flats_noD : ∀ ds : List D, flats ds = true → noDs ds = true ∧ PyData.canLayAll0 ds = true
  | [], _ => ⟨rfl, by simp [PyData.canLayAll0]⟩
  | d :: ds, h => by
    simp only [flats, Bool.and_eq_true] at h
    have h1 := flat_noD d h.1
    have h2 := flats_noD ds h.2
    exact ⟨by simp [noDs, h1.1, h2.1], by simp [PyData.canLayAll0, h1.2, h2.2]⟩
end
theorem flats_map {α : Type} {f : α → D} (h : ∀ x, flat (f x) = true) : ∀ xs : List α, flats (xs.map f) = true
  | [] => rfl
  | x :: xs => by simp [flats, h x, flats_map h xs]
/-- small enough to be compared -/
def okD (d : D) : Bool := flat d && decide (d.depth ≤ 64)
theorem okD_sh {d : D} (h : okD d = true) : SeqAt.shaped d = true ∧ noD d = true := by
  simp only [okD, Bool.and_eq_true, decide_eq_true_eq] at h
  have := flat_noD d h.1
  exact ⟨by simp [SeqAt.shaped, this.2, h.2], this.1⟩
theorem gEq_ok {d e : D} (h : okD d = true) (h2 : okD e = true) : gEq d e = some (.bool (PyData.eqv d e)) := by
  unfold gEq
  rw [if_pos (by simp [okD_sh h, okD_sh h2])]
theorem gNe_ok {d e : D} (h : okD d = true) (h2 : okD e = true) : gNe d e = some (.bool (!PyData.eqv d e)) := by
  unfold gNe
  rw [if_pos (by simp [okD_sh h, okD_sh h2])]
theorem okD_int (i : Int) : okD (.int i) = true := by simp [okD, flat, PyData.depth]
theorem okD_bool (i : Bool) : okD (.bool i) = true := by simp [okD, flat, PyData.depth]
theorem depth_all {k : Nat} : ∀ ds : List D, (∀ d ∈ ds, d.depth ≤ k) → PyData.depthAll ds ≤ k
  | [], _ => by simp [PyData.depthAll]
  | d :: ds, h => by
    have h1 := h d List.mem_cons_self
    have h2 := depth_all ds fun e m => h e (List.mem_cons_of_mem _ m)
    simp only [PyData.depthAll]
    omega
theorem flats_of : ∀ ds : List D, (∀ d ∈ ds, flat d = true) → flats ds = true
  | [], _ => rfl
  | d :: ds, h => by simp [flats, h d List.mem_cons_self, flats_of ds fun e m => h e (List.mem_cons_of_mem _ m)]
/-- a list | tuple of data of depth k at most -/
theorem okD_list {k : Nat} {ds : List D} (h : ∀ d ∈ ds, flat d = true ∧ d.depth ≤ k) (hk : k ≤ 60) : okD (.list ds) = true := by
  have h1 := flats_of ds fun d m => (h d m).1
  have h2 := depth_all ds fun d m => (h d m).2
  have h3 : (PyData.list ds).depth = PyData.depthAll ds + 1 := by rw [PyData.depth]
  have h4 : flat (.list ds) = true := h1
  unfold okD
  rw [h4, h3, Bool.true_and]
  exact decide_eq_true (by omega)
theorem okD_tuple {k : Nat} {ds : List D} (h : ∀ d ∈ ds, flat d = true ∧ d.depth ≤ k) (hk : k ≤ 60) : okD (.tuple ds) = true := by
  have h1 := flats_of ds fun d m => (h d m).1
  have h2 := depth_all ds fun d m => (h d m).2
  have h3 : (PyData.tuple ds).depth = PyData.depthAll ds + 1 := by rw [PyData.depth]
  have h4 : flat (.tuple ds) = true := h1
  unfold okD
  rw [h4, h3, Bool.true_and]
  exact decide_eq_true (by omega)
theorem int_dep (i : Int) : flat (.int i) = true ∧ (PyData.int i).depth ≤ 1 := ⟨rfl, by simp [PyData.depth]⟩
end K03
set_option Elab.async false
set_option linter.all false
set_option maxRecDepth 100000
set_option maxHeartbeats 4000000
/-! k03: the program's defs -/
namespace K03
open PySem L2 DL

abbrev Row := Int × Int
def pr (p : Row) : D := .tuple [.int p.1, .int p.2]
def rD (rs : List Row) : D := .tuple (rs.map pr)
def nD (k : Nat) : D := .int (k : Int)
def iL (is : List Nat) : List D := is.map nD
theorem lcF_flatN {bod : D → List MO → Res (List D)} {M : List MO} {g : Nat → List D} {is : List Nat} (h : ∀ k ∈ is, bod (.int (k : Int)) M = some (g k, M)) : lcF bod (iL is) M = some (is.flatMap g, M) := lcF_flatM (e := nD) h
theorem lcF_mapN {bod : D → List MO → Res (List D)} {M : List MO} {g : Nat → D} {is : List Nat} (h : ∀ k ∈ is, bod (.int (k : Int)) M = some ([g k], M)) : lcF bod (iL is) M = some (is.map g, M) := lcF_map (e := nD) h
theorem lcF_filtN {bod : D → List MO → Res (List D)} {M : List MO} {p : Nat → Bool} {is : List Nat} (h : ∀ k ∈ is, bod (.int (k : Int)) M = some (if p k = true then [.int (k : Int)] else [], M)) : lcF bod (iL is) M = some (iL (is.filter p), M) := lcF_filt (e := nD) (g := nD) h
structure OkR (rs : List Row) : Prop where
  len : rs.length ≤ 24
  ok : ∀ p ∈ rs, -1000 ≤ p.1 ∧ p.1 < p.2 ∧ p.2 ≤ 1000
def at_ (rs : List Row) (k : Nat) : Row := rs.getD k (0, 0)
theorem at_get {rs : List Row} {k : Nat} (h : k < rs.length) : at_ rs k = rs[k] := by
  unfold at_
  rw [List.getD_eq_getElem?_getD, List.getElem?_eq_getElem h]
  rfl
theorem at_mem {rs : List Row} {k : Nat} (h : k < rs.length) : at_ rs k ∈ rs := by
  rw [at_get h]
  exact List.getElem_mem h
theorem row_at {rs : List Row} {k : Nat} (h : k < rs.length) : atI (rs.map pr) (k : Int) = some (pr (at_ rs k)) := by
  rw [atI_nat (by simpa using h), List.getElem_map, at_get h]
theorem pr0 (p : Row) : atI [PyData.int p.1, .int p.2] 0 = some (.int p.1) := by rfl
theorem pr1 (p : Row) : atI [PyData.int p.1, .int p.2] 1 = some (.int p.2) := by rfl

theorem r0 {n : Nat} {i : Int} {M : List MO} : callN tab (n + 1) 0 [.d (.int i)] M = some (.d (.bool true), M) := by rfl
theorem at1 {n : Nat} {as : List Vl} {M : List MO} : callN tab (n + 1) 1 as M = mFn N1.length B1 (callN tab n) as M := rfl
theorem r1 {n : Nat} {i a b : Int} {M : List MO} (h1 : a ≤ i) (h2 : i ≤ b) : callN tab (n + 2) 1 [.d (.int i), .d (.int a), .d (.int b)] M = some (.d (.bool true), M) := by
  rw [at1]
  simp only [N1, B1, r0, h1, h2, mSeq, mIfS, mRet, mDrop, mSet, mSetT, mSetL, mSetD, mFrz, mNext, mBk, mCt, mNever, mFor, mWhile, mVar, mC, mOp, mUn, mTru, mB, mOfT, mAnd, mOr, mNot, mIf, mAndV, mOrV, mNotV, mChain, mNil, mCons, mTup, mLst, mFz, mFzD, mDNew, mDGet, mDIn, mBlt, mBltL, mIsi, mNoO, mSomeO, mSl, mRg1, mRg2, mLstRg, mCall, mCallK, mItS, mItR, mItE, mLc, mLc2, mYes, mApp1, mExt, mPopW, mPopAtW, mSetIx, mDPut, mRf, mRfD, pE, pL, pD, mPs, mPar, putP, wE, bnd, pk, liftO, peek, dats, pks, getL, putLρ, putLM, getD, putDρ, putDM, argC, permL, slotA, outV, mFn, setTg, setTgs, gSeq, MO.look, MO.slot, truD, bolD, intD, Slot.own, noOwn, wipeS, capL, gAdd, DL.gSub, gMul, gDiv, gMod, gPow, gLt, gLe, gGt, gGe, gIs, gIsNot, gIx, gLen, gAbs, gMax2, gMin2, gInt, gList, gTuple, gNeg, gI0, gII, gSl, bodE, bodT, bodI, lcF, forGo, lim, Nat.zero_le, Nat.reduceLeDiff, List.map_cons, List.map_nil, List.cons_append, List.nil_append, List.append_nil, List.length_cons, List.length_nil, List.getElem?_cons_zero, List.getElem?_cons_succ, List.getElem?_nil, List.replicate_zero, List.replicate_succ, List.all_cons, List.all_nil, List.any_cons, List.any_nil, List.filterMap_cons, List.filterMap_nil, List.set_cons_zero, List.set_cons_succ, Bool.and_true, Bool.true_and, Bool.and_false, Bool.false_and, Bool.and_self, Bool.or_true, Bool.true_or, Bool.or_false, Bool.false_or, Bool.not_true, Bool.not_false, Nat.zero_add, Nat.add_zero, Nat.reduceAdd, Nat.reduceSub, Nat.reduceMul, Nat.reduceBEq, Nat.reduceEqDiff, Nat.reduceLT, Nat.sub_self, beq_self_eq_true, Option.map_some, Option.map_none, reduceIte, if_true, if_false, Bool.false_eq_true, decide_true, decide_false, reduceCtorEq, Int.reduceLE, Int.reduceLT, Int.reduceNeg, Int.reduceToNat, Int.reduceEq, Int.reducePow, Int.reduceDiv, Int.reduceAdd, Int.reduceSub, Int.reduceMul, true_and, and_true, List.isEmpty_nil, List.isEmpty_cons]
theorem at2 {n : Nat} {as : List Vl} {M : List MO} : callN tab (n + 1) 2 as M = mFn N2.length B2 (callN tab n) as M := rfl
theorem r2 {n : Nat} {p : Row} {a b : Int} {M : List MO} (h1 : a ≤ p.1) (h2 : p.1 < p.2) (h3 : p.2 ≤ b) : callN tab (n + 3) 2 [.d (pr p), .d (.int a), .d (.int b)] M = some (.d (.bool true), M) := by
  have e1 : isTy "tuple" (pr p) = true := by rfl
  have q1 := r1 (n := n) (i := p.1) (M := M) h1 (show p.1 ≤ b by omega)
  have q2 := r1 (n := n) (i := p.2) (a := p.1 + 1) (M := M) (by omega) h3
  have e2 : gNe (.int ((2 : Nat) : Int)) (.int 2) = some (.bool false) := by rfl
  rw [at2]
  simp only [N2, B2, e1, mSeq, mIfS, mRet, mDrop, mSet, mSetT, mSetL, mSetD, mFrz, mNext, mBk, mCt, mNever, mFor, mWhile, mVar, mC, mOp, mUn, mTru, mB, mOfT, mAnd, mOr, mNot, mIf, mAndV, mOrV, mNotV, mChain, mNil, mCons, mTup, mLst, mFz, mFzD, mDNew, mDGet, mDIn, mBlt, mBltL, mIsi, mNoO, mSomeO, mSl, mRg1, mRg2, mLstRg, mCall, mCallK, mItS, mItR, mItE, mLc, mLc2, mYes, mApp1, mExt, mPopW, mPopAtW, mSetIx, mDPut, mRf, mRfD, pE, pL, pD, mPs, mPar, putP, wE, bnd, pk, liftO, peek, dats, pks, getL, putLρ, putLM, getD, putDρ, putDM, argC, permL, slotA, outV, mFn, setTg, setTgs, gSeq, MO.look, MO.slot, truD, bolD, intD, Slot.own, noOwn, wipeS, capL, gAdd, DL.gSub, gMul, gDiv, gMod, gPow, gLt, gLe, gGt, gGe, gIs, gIsNot, gIx, gLen, gAbs, gMax2, gMin2, gInt, gList, gTuple, gNeg, gI0, gII, gSl, bodE, bodT, bodI, lcF, forGo, lim, Nat.zero_le, Nat.reduceLeDiff, List.map_cons, List.map_nil, List.cons_append, List.nil_append, List.append_nil, List.length_cons, List.length_nil, List.getElem?_cons_zero, List.getElem?_cons_succ, List.getElem?_nil, List.replicate_zero, List.replicate_succ, List.all_cons, List.all_nil, List.any_cons, List.any_nil, List.filterMap_cons, List.filterMap_nil, List.set_cons_zero, List.set_cons_succ, Bool.and_true, Bool.true_and, Bool.and_false, Bool.false_and, Bool.and_self, Bool.or_true, Bool.true_or, Bool.or_false, Bool.false_or, Bool.not_true, Bool.not_false, Nat.zero_add, Nat.add_zero, Nat.reduceAdd, Nat.reduceSub, Nat.reduceMul, Nat.reduceBEq, Nat.reduceEqDiff, Nat.reduceLT, Nat.sub_self, beq_self_eq_true, Option.map_some, Option.map_none, reduceIte, if_true, if_false, Bool.false_eq_true, decide_true, decide_false, reduceCtorEq, Int.reduceLE, Int.reduceLT, Int.reduceNeg, Int.reduceToNat, Int.reduceEq, Int.reducePow, Int.reduceDiv, Int.reduceAdd, Int.reduceSub, Int.reduceMul, true_and, and_true, List.isEmpty_nil, List.isEmpty_cons]
  simp only [pr, e2, pr0, pr1, q1, q2, mSeq, mIfS, mRet, mDrop, mSet, mSetT, mSetL, mSetD, mFrz, mNext, mBk, mCt, mNever, mFor, mWhile, mVar, mC, mOp, mUn, mTru, mB, mOfT, mAnd, mOr, mNot, mIf, mAndV, mOrV, mNotV, mChain, mNil, mCons, mTup, mLst, mFz, mFzD, mDNew, mDGet, mDIn, mBlt, mBltL, mIsi, mNoO, mSomeO, mSl, mRg1, mRg2, mLstRg, mCall, mCallK, mItS, mItR, mItE, mLc, mLc2, mYes, mApp1, mExt, mPopW, mPopAtW, mSetIx, mDPut, mRf, mRfD, pE, pL, pD, mPs, mPar, putP, wE, bnd, pk, liftO, peek, dats, pks, getL, putLρ, putLM, getD, putDρ, putDM, argC, permL, slotA, outV, mFn, setTg, setTgs, gSeq, MO.look, MO.slot, truD, bolD, intD, Slot.own, noOwn, wipeS, capL, gAdd, DL.gSub, gMul, gDiv, gMod, gPow, gLt, gLe, gGt, gGe, gIs, gIsNot, gIx, gLen, gAbs, gMax2, gMin2, gInt, gList, gTuple, gNeg, gI0, gII, gSl, bodE, bodT, bodI, lcF, forGo, lim, Nat.zero_le, Nat.reduceLeDiff, List.map_cons, List.map_nil, List.cons_append, List.nil_append, List.append_nil, List.length_cons, List.length_nil, List.getElem?_cons_zero, List.getElem?_cons_succ, List.getElem?_nil, List.replicate_zero, List.replicate_succ, List.all_cons, List.all_nil, List.any_cons, List.any_nil, List.filterMap_cons, List.filterMap_nil, List.set_cons_zero, List.set_cons_succ, Bool.and_true, Bool.true_and, Bool.and_false, Bool.false_and, Bool.and_self, Bool.or_true, Bool.true_or, Bool.or_false, Bool.false_or, Bool.not_true, Bool.not_false, Nat.zero_add, Nat.add_zero, Nat.reduceAdd, Nat.reduceSub, Nat.reduceMul, Nat.reduceBEq, Nat.reduceEqDiff, Nat.reduceLT, Nat.sub_self, beq_self_eq_true, Option.map_some, Option.map_none, reduceIte, if_true, if_false, Bool.false_eq_true, decide_true, decide_false, reduceCtorEq, Int.reduceLE, Int.reduceLT, Int.reduceNeg, Int.reduceToNat, Int.reduceEq, Int.reducePow, Int.reduceDiv, Int.reduceAdd, Int.reduceSub, Int.reduceMul, true_and, and_true, List.isEmpty_nil, List.isEmpty_cons]
theorem at3 {n : Nat} {as : List Vl} {M : List MO} : callN tab (n + 1) 3 as M = mFn N3.length B3 (callN tab n) as M := rfl
theorem asBools_map : ∀ ns : List Bool, asBools (ns.map .bool) = some ns
  | [] => rfl
  | n :: ns => by simp [asBools, asBools_map ns]
theorem asInts_map : ∀ ns : List Int, asInts (ns.map .int) = some ns
  | [] => rfl
  | n :: ns => by simp [asInts, asInts_map ns]
theorem allT {α : Type} (xs : List α) : gAll [.list (xs.map fun _ => .bool true)] = some (.bool true) := by
  have e : (xs.map fun _ => PyData.bool true) = (xs.map fun _ => true).map .bool := by rw [List.map_map]; rfl
  unfold gAll
  simp only [e, asBools_map]
  simp
theorem r3 {n : Nat} {rs : List Row} {M : List MO} (h : OkR rs) : callN tab (n + 4) 3 [.d (rD rs), .d (.int 24)] M = some (.d (.bool true), M) := by
  have e1 : isTy "tuple" (rD rs) = true := by rfl
  have hl : ((rs.length : Nat) : Int) ≤ 24 := by have := h.len; omega
  have hl2 : rs.length ≤ 1000000 := by have := h.len; omega
  rw [at3]
  simp only [N3, B3, e1, mSeq, mIfS, mRet, mDrop, mSet, mSetT, mSetL, mSetD, mFrz, mNext, mBk, mCt, mNever, mFor, mWhile, mVar, mC, mOp, mUn, mTru, mB, mOfT, mAnd, mOr, mNot, mIf, mAndV, mOrV, mNotV, mChain, mNil, mCons, mTup, mLst, mFz, mFzD, mDNew, mDGet, mDIn, mBlt, mBltL, mIsi, mNoO, mSomeO, mSl, mRg1, mRg2, mLstRg, mCall, mCallK, mItS, mItR, mItE, mLc, mLc2, mYes, mApp1, mExt, mPopW, mPopAtW, mSetIx, mDPut, mRf, mRfD, pE, pL, pD, mPs, mPar, putP, wE, bnd, pk, liftO, peek, dats, pks, getL, putLρ, putLM, getD, putDρ, putDM, argC, permL, slotA, outV, mFn, setTg, setTgs, gSeq, MO.look, MO.slot, truD, bolD, intD, Slot.own, noOwn, wipeS, capL, gAdd, DL.gSub, gMul, gDiv, gMod, gPow, gLt, gLe, gGt, gGe, gIs, gIsNot, gIx, gLen, gAbs, gMax2, gMin2, gInt, gList, gTuple, gNeg, gI0, gII, gSl, bodE, bodT, bodI, lcF, forGo, lim, Nat.zero_le, Nat.reduceLeDiff, List.map_cons, List.map_nil, List.cons_append, List.nil_append, List.append_nil, List.length_cons, List.length_nil, List.getElem?_cons_zero, List.getElem?_cons_succ, List.getElem?_nil, List.replicate_zero, List.replicate_succ, List.all_cons, List.all_nil, List.any_cons, List.any_nil, List.filterMap_cons, List.filterMap_nil, List.set_cons_zero, List.set_cons_succ, Bool.and_true, Bool.true_and, Bool.and_false, Bool.false_and, Bool.and_self, Bool.or_true, Bool.true_or, Bool.or_false, Bool.false_or, Bool.not_true, Bool.not_false, Nat.zero_add, Nat.add_zero, Nat.reduceAdd, Nat.reduceSub, Nat.reduceMul, Nat.reduceBEq, Nat.reduceEqDiff, Nat.reduceLT, Nat.sub_self, beq_self_eq_true, Option.map_some, Option.map_none, reduceIte, if_true, if_false, Bool.false_eq_true, decide_true, decide_false, reduceCtorEq, Int.reduceLE, Int.reduceLT, Int.reduceNeg, Int.reduceToNat, Int.reduceEq, Int.reducePow, Int.reduceDiv, Int.reduceAdd, Int.reduceSub, Int.reduceMul, true_and, and_true, List.isEmpty_nil, List.isEmpty_cons]
  simp only [rD, List.length_map, hl, mSeq, mIfS, mRet, mDrop, mSet, mSetT, mSetL, mSetD, mFrz, mNext, mBk, mCt, mNever, mFor, mWhile, mVar, mC, mOp, mUn, mTru, mB, mOfT, mAnd, mOr, mNot, mIf, mAndV, mOrV, mNotV, mChain, mNil, mCons, mTup, mLst, mFz, mFzD, mDNew, mDGet, mDIn, mBlt, mBltL, mIsi, mNoO, mSomeO, mSl, mRg1, mRg2, mLstRg, mCall, mCallK, mItS, mItR, mItE, mLc, mLc2, mYes, mApp1, mExt, mPopW, mPopAtW, mSetIx, mDPut, mRf, mRfD, pE, pL, pD, mPs, mPar, putP, wE, bnd, pk, liftO, peek, dats, pks, getL, putLρ, putLM, getD, putDρ, putDM, argC, permL, slotA, outV, mFn, setTg, setTgs, gSeq, MO.look, MO.slot, truD, bolD, intD, Slot.own, noOwn, wipeS, capL, gAdd, DL.gSub, gMul, gDiv, gMod, gPow, gLt, gLe, gGt, gGe, gIs, gIsNot, gIx, gLen, gAbs, gMax2, gMin2, gInt, gList, gTuple, gNeg, gI0, gII, gSl, bodE, bodT, bodI, lcF, forGo, lim, Nat.zero_le, Nat.reduceLeDiff, List.map_cons, List.map_nil, List.cons_append, List.nil_append, List.append_nil, List.length_cons, List.length_nil, List.getElem?_cons_zero, List.getElem?_cons_succ, List.getElem?_nil, List.replicate_zero, List.replicate_succ, List.all_cons, List.all_nil, List.any_cons, List.any_nil, List.filterMap_cons, List.filterMap_nil, List.set_cons_zero, List.set_cons_succ, Bool.and_true, Bool.true_and, Bool.and_false, Bool.false_and, Bool.and_self, Bool.or_true, Bool.true_or, Bool.or_false, Bool.false_or, Bool.not_true, Bool.not_false, Nat.zero_add, Nat.add_zero, Nat.reduceAdd, Nat.reduceSub, Nat.reduceMul, Nat.reduceBEq, Nat.reduceEqDiff, Nat.reduceLT, Nat.sub_self, beq_self_eq_true, Option.map_some, Option.map_none, reduceIte, if_true, if_false, Bool.false_eq_true, decide_true, decide_false, reduceCtorEq, Int.reduceLE, Int.reduceLT, Int.reduceNeg, Int.reduceToNat, Int.reduceEq, Int.reducePow, Int.reduceDiv, Int.reduceAdd, Int.reduceSub, Int.reduceMul, true_and, and_true, List.isEmpty_nil, List.isEmpty_cons]
  rw [lcF_map (g := fun _ => .bool true)]
  · simp only [List.length_map, hl2, allT, mSeq, mIfS, mRet, mDrop, mSet, mSetT, mSetL, mSetD, mFrz, mNext, mBk, mCt, mNever, mFor, mWhile, mVar, mC, mOp, mUn, mTru, mB, mOfT, mAnd, mOr, mNot, mIf, mAndV, mOrV, mNotV, mChain, mNil, mCons, mTup, mLst, mFz, mFzD, mDNew, mDGet, mDIn, mBlt, mBltL, mIsi, mNoO, mSomeO, mSl, mRg1, mRg2, mLstRg, mCall, mCallK, mItS, mItR, mItE, mLc, mLc2, mYes, mApp1, mExt, mPopW, mPopAtW, mSetIx, mDPut, mRf, mRfD, pE, pL, pD, mPs, mPar, putP, wE, bnd, pk, liftO, peek, dats, pks, getL, putLρ, putLM, getD, putDρ, putDM, argC, permL, slotA, outV, mFn, setTg, setTgs, gSeq, MO.look, MO.slot, truD, bolD, intD, Slot.own, noOwn, wipeS, capL, gAdd, DL.gSub, gMul, gDiv, gMod, gPow, gLt, gLe, gGt, gGe, gIs, gIsNot, gIx, gLen, gAbs, gMax2, gMin2, gInt, gList, gTuple, gNeg, gI0, gII, gSl, bodE, bodT, bodI, lcF, forGo, lim, Nat.zero_le, Nat.reduceLeDiff, List.map_cons, List.map_nil, List.cons_append, List.nil_append, List.append_nil, List.length_cons, List.length_nil, List.getElem?_cons_zero, List.getElem?_cons_succ, List.getElem?_nil, List.replicate_zero, List.replicate_succ, List.all_cons, List.all_nil, List.any_cons, List.any_nil, List.filterMap_cons, List.filterMap_nil, List.set_cons_zero, List.set_cons_succ, Bool.and_true, Bool.true_and, Bool.and_false, Bool.false_and, Bool.and_self, Bool.or_true, Bool.true_or, Bool.or_false, Bool.false_or, Bool.not_true, Bool.not_false, Nat.zero_add, Nat.add_zero, Nat.reduceAdd, Nat.reduceSub, Nat.reduceMul, Nat.reduceBEq, Nat.reduceEqDiff, Nat.reduceLT, Nat.sub_self, beq_self_eq_true, Option.map_some, Option.map_none, reduceIte, if_true, if_false, Bool.false_eq_true, decide_true, decide_false, reduceCtorEq, Int.reduceLE, Int.reduceLT, Int.reduceNeg, Int.reduceToNat, Int.reduceEq, Int.reducePow, Int.reduceDiv, Int.reduceAdd, Int.reduceSub, Int.reduceMul, true_and, and_true, List.isEmpty_nil, List.isEmpty_cons]
  · intro p hp
    have o := h.ok p hp
    have q := r2 (n := n) (p := p) (M := M) o.1 o.2.1 o.2.2
    simp only [q, mSeq, mIfS, mRet, mDrop, mSet, mSetT, mSetL, mSetD, mFrz, mNext, mBk, mCt, mNever, mFor, mWhile, mVar, mC, mOp, mUn, mTru, mB, mOfT, mAnd, mOr, mNot, mIf, mAndV, mOrV, mNotV, mChain, mNil, mCons, mTup, mLst, mFz, mFzD, mDNew, mDGet, mDIn, mBlt, mBltL, mIsi, mNoO, mSomeO, mSl, mRg1, mRg2, mLstRg, mCall, mCallK, mItS, mItR, mItE, mLc, mLc2, mYes, mApp1, mExt, mPopW, mPopAtW, mSetIx, mDPut, mRf, mRfD, pE, pL, pD, mPs, mPar, putP, wE, bnd, pk, liftO, peek, dats, pks, getL, putLρ, putLM, getD, putDρ, putDM, argC, permL, slotA, outV, mFn, setTg, setTgs, gSeq, MO.look, MO.slot, truD, bolD, intD, Slot.own, noOwn, wipeS, capL, gAdd, DL.gSub, gMul, gDiv, gMod, gPow, gLt, gLe, gGt, gGe, gIs, gIsNot, gIx, gLen, gAbs, gMax2, gMin2, gInt, gList, gTuple, gNeg, gI0, gII, gSl, bodE, bodT, bodI, lcF, forGo, lim, Nat.zero_le, Nat.reduceLeDiff, List.map_cons, List.map_nil, List.cons_append, List.nil_append, List.append_nil, List.length_cons, List.length_nil, List.getElem?_cons_zero, List.getElem?_cons_succ, List.getElem?_nil, List.replicate_zero, List.replicate_succ, List.all_cons, List.all_nil, List.any_cons, List.any_nil, List.filterMap_cons, List.filterMap_nil, List.set_cons_zero, List.set_cons_succ, Bool.and_true, Bool.true_and, Bool.and_false, Bool.false_and, Bool.and_self, Bool.or_true, Bool.true_or, Bool.or_false, Bool.false_or, Bool.not_true, Bool.not_false, Nat.zero_add, Nat.add_zero, Nat.reduceAdd, Nat.reduceSub, Nat.reduceMul, Nat.reduceBEq, Nat.reduceEqDiff, Nat.reduceLT, Nat.sub_self, beq_self_eq_true, Option.map_some, Option.map_none, reduceIte, if_true, if_false, Bool.false_eq_true, decide_true, decide_false, reduceCtorEq, Int.reduceLE, Int.reduceLT, Int.reduceNeg, Int.reduceToNat, Int.reduceEq, Int.reducePow, Int.reduceDiv, Int.reduceAdd, Int.reduceSub, Int.reduceMul, true_and, and_true, List.isEmpty_nil, List.isEmpty_cons]
theorem at4 {n : Nat} {as : List Vl} {M : List MO} : callN tab (n + 1) 4 as M = mFn N4.length B4 (callN tab n) as M := rfl
theorem r4 {n : Nat} {rs : List Row} {M : List MO} (h : OkR rs) : callN tab (n + 5) 4 [.d (rD rs)] M = some (.d .none, M) := by
  have q := r3 (n := n) (M := M) h
  rw [at4]
  simp only [N4, B4, q, mSeq, mIfS, mRet, mDrop, mSet, mSetT, mSetL, mSetD, mFrz, mNext, mBk, mCt, mNever, mFor, mWhile, mVar, mC, mOp, mUn, mTru, mB, mOfT, mAnd, mOr, mNot, mIf, mAndV, mOrV, mNotV, mChain, mNil, mCons, mTup, mLst, mFz, mFzD, mDNew, mDGet, mDIn, mBlt, mBltL, mIsi, mNoO, mSomeO, mSl, mRg1, mRg2, mLstRg, mCall, mCallK, mItS, mItR, mItE, mLc, mLc2, mYes, mApp1, mExt, mPopW, mPopAtW, mSetIx, mDPut, mRf, mRfD, pE, pL, pD, mPs, mPar, putP, wE, bnd, pk, liftO, peek, dats, pks, getL, putLρ, putLM, getD, putDρ, putDM, argC, permL, slotA, outV, mFn, setTg, setTgs, gSeq, MO.look, MO.slot, truD, bolD, intD, Slot.own, noOwn, wipeS, capL, gAdd, DL.gSub, gMul, gDiv, gMod, gPow, gLt, gLe, gGt, gGe, gIs, gIsNot, gIx, gLen, gAbs, gMax2, gMin2, gInt, gList, gTuple, gNeg, gI0, gII, gSl, bodE, bodT, bodI, lcF, forGo, lim, Nat.zero_le, Nat.reduceLeDiff, List.map_cons, List.map_nil, List.cons_append, List.nil_append, List.append_nil, List.length_cons, List.length_nil, List.getElem?_cons_zero, List.getElem?_cons_succ, List.getElem?_nil, List.replicate_zero, List.replicate_succ, List.all_cons, List.all_nil, List.any_cons, List.any_nil, List.filterMap_cons, List.filterMap_nil, List.set_cons_zero, List.set_cons_succ, Bool.and_true, Bool.true_and, Bool.and_false, Bool.false_and, Bool.and_self, Bool.or_true, Bool.true_or, Bool.or_false, Bool.false_or, Bool.not_true, Bool.not_false, Nat.zero_add, Nat.add_zero, Nat.reduceAdd, Nat.reduceSub, Nat.reduceMul, Nat.reduceBEq, Nat.reduceEqDiff, Nat.reduceLT, Nat.sub_self, beq_self_eq_true, Option.map_some, Option.map_none, reduceIte, if_true, if_false, Bool.false_eq_true, decide_true, decide_false, reduceCtorEq, Int.reduceLE, Int.reduceLT, Int.reduceNeg, Int.reduceToNat, Int.reduceEq, Int.reducePow, Int.reduceDiv, Int.reduceAdd, Int.reduceSub, Int.reduceMul, true_and, and_true, List.isEmpty_nil, List.isEmpty_cons]
theorem at5 {n : Nat} {as : List Vl} {M : List MO} : callN tab (n + 1) 5 as M = mFn N5.length B5 (callN tab n) as M := rfl
theorem r5 {n : Nat} {i : Int} {M : List MO} : callN tab (n + 2) 5 [.d (.int i)] M = some (.d .none, M) := by
  rw [at5]
  simp only [N5, B5, r0, mSeq, mIfS, mRet, mDrop, mSet, mSetT, mSetL, mSetD, mFrz, mNext, mBk, mCt, mNever, mFor, mWhile, mVar, mC, mOp, mUn, mTru, mB, mOfT, mAnd, mOr, mNot, mIf, mAndV, mOrV, mNotV, mChain, mNil, mCons, mTup, mLst, mFz, mFzD, mDNew, mDGet, mDIn, mBlt, mBltL, mIsi, mNoO, mSomeO, mSl, mRg1, mRg2, mLstRg, mCall, mCallK, mItS, mItR, mItE, mLc, mLc2, mYes, mApp1, mExt, mPopW, mPopAtW, mSetIx, mDPut, mRf, mRfD, pE, pL, pD, mPs, mPar, putP, wE, bnd, pk, liftO, peek, dats, pks, getL, putLρ, putLM, getD, putDρ, putDM, argC, permL, slotA, outV, mFn, setTg, setTgs, gSeq, MO.look, MO.slot, truD, bolD, intD, Slot.own, noOwn, wipeS, capL, gAdd, DL.gSub, gMul, gDiv, gMod, gPow, gLt, gLe, gGt, gGe, gIs, gIsNot, gIx, gLen, gAbs, gMax2, gMin2, gInt, gList, gTuple, gNeg, gI0, gII, gSl, bodE, bodT, bodI, lcF, forGo, lim, Nat.zero_le, Nat.reduceLeDiff, List.map_cons, List.map_nil, List.cons_append, List.nil_append, List.append_nil, List.length_cons, List.length_nil, List.getElem?_cons_zero, List.getElem?_cons_succ, List.getElem?_nil, List.replicate_zero, List.replicate_succ, List.all_cons, List.all_nil, List.any_cons, List.any_nil, List.filterMap_cons, List.filterMap_nil, List.set_cons_zero, List.set_cons_succ, Bool.and_true, Bool.true_and, Bool.and_false, Bool.false_and, Bool.and_self, Bool.or_true, Bool.true_or, Bool.or_false, Bool.false_or, Bool.not_true, Bool.not_false, Nat.zero_add, Nat.add_zero, Nat.reduceAdd, Nat.reduceSub, Nat.reduceMul, Nat.reduceBEq, Nat.reduceEqDiff, Nat.reduceLT, Nat.sub_self, beq_self_eq_true, Option.map_some, Option.map_none, reduceIte, if_true, if_false, Bool.false_eq_true, decide_true, decide_false, reduceCtorEq, Int.reduceLE, Int.reduceLT, Int.reduceNeg, Int.reduceToNat, Int.reduceEq, Int.reducePow, Int.reduceDiv, Int.reduceAdd, Int.reduceSub, Int.reduceMul, true_and, and_true, List.isEmpty_nil, List.isEmpty_cons]

/-! ### the tree -/
def ends (rs : List Row) (is : List Nat) : List Int := is.flatMap fun k => [(at_ rs k).1, (at_ rs k).2]
def mid (rs : List Row) (is : List Nat) : Int := (PySem.W.sortI (ends rs is)).getD ((2 * is.length - 1) / 2) 0
def lo (rs : List Row) (m : Int) (k : Nat) : Bool := decide ((at_ rs k).2 < m)
def hi (rs : List Row) (m : Int) (k : Nat) : Bool := decide (m < (at_ rs k).1)
def md (rs : List Row) (m : Int) (k : Nat) : Bool := !lo rs m k && !hi rs m k
inductive T where
  | nil
  | nd (m : Int) (h : List Nat) (l r : T)
def tD : T → D
  | .nil => .none
  | .nd m h l r => .tuple [.int m, .tuple (iL h), tD l, tD r]
def tr (rs : List Row) : Nat → List Nat → T
  | 0, _ => .nil
  | N + 1, is => if is = [] then .nil else .nd (mid rs is) (is.filter (md rs (mid rs is))) (tr rs N (is.filter (lo rs (mid rs is)))) (tr rs N (is.filter (hi rs (mid rs is))))
theorem tr_nil (rs : List Row) (N : Nat) : tr rs N [] = .nil := by cases N <;> rfl
theorem tr_nd {rs : List Row} {N : Nat} {is : List Nat} (e : is ≠ []) : tr rs (N + 1) is = .nd (mid rs is) (is.filter (md rs (mid rs is))) (tr rs N (is.filter (lo rs (mid rs is)))) (tr rs N (is.filter (hi rs (mid rs is)))) := if_neg e
theorem insI_perm (x : Int) : ∀ l : List Int, (PySem.W.insI x l).Perm (x :: l)
  | [] => List.Perm.refl _
  | y :: r => by
    unfold PySem.W.insI
    by_cases h : y < x
    · rw [if_pos h]
      exact ((insI_perm x r).cons y).trans (List.Perm.swap x y r)
    · rw [if_neg h]
theorem sortI_perm : ∀ l : List Int, (PySem.W.sortI l).Perm l
  | [] => List.Perm.refl _
  | x :: r => (insI_perm x _).trans ((sortI_perm r).cons x)
theorem ends_len (rs : List Row) : ∀ is : List Nat, (ends rs is).length = 2 * is.length
  | [] => rfl
  | k :: is => by
    have := ends_len rs is
    unfold ends at this ⊢
    rw [List.flatMap_cons, List.length_append, this, List.length_cons, List.length_cons, List.length_cons]
    simp only [List.length_nil]
    omega
theorem mid_ix {rs : List Row} {is : List Nat} (h : is ≠ []) : (2 * is.length - 1) / 2 < (PySem.W.sortI (ends rs is)).length := by
  rw [(sortI_perm _).length_eq, ends_len]
  have := List.length_pos_iff.mpr h
  omega
theorem mid_mem {rs : List Row} {is : List Nat} (h : is ≠ []) : mid rs is ∈ ends rs is := by
  unfold mid
  rw [List.getD_eq_getElem?_getD, List.getElem?_eq_getElem (mid_ix h)]
  exact (sortI_perm _).mem_iff.mp (List.getElem_mem _)
theorem gSortedI_map (ns : List Int) : gSortedI [.list (ns.map .int)] = some ((PySem.W.sortI ns).map .int) := by
  show (asInts (ns.map .int)).map _ = _
  rw [asInts_map]
  rfl
theorem iL_ok (is : List Nat) : okD (.list (iL is)) = true := okD_list (k := 1) (fun d m => by
  obtain ⟨k, _, rfl⟩ := List.mem_map.mp m
  exact int_dep _) (by decide)
theorem nil_ok : okD (.list []) = true := by decide +kernel
theorem gEq_nil {xs : List D} (h : okD (.list xs) = true) : gEq (.list xs) (.list []) = some (.bool xs.isEmpty) := by rw [gEq_ok h nil_ok, eqv_list]
theorem gNe_nil {xs : List D} (h : okD (.list xs) = true) : gNe (.list xs) (.list []) = some (.bool (!xs.isEmpty)) := by rw [gNe_ok h nil_ok, eqv_list]
theorem any_iL (k : Nat) : ∀ is : List Nat, ((iL is).any fun z => PyData.eqv z (.int (k : Int))) = is.contains k
  | [] => rfl
  | j :: is => by
    have := any_iL k is
    unfold iL at this ⊢
    rw [List.map_cons, List.any_cons, this, List.contains_cons]
    congr 1
    show PyData.eqv (.int (j : Int)) (.int (k : Int)) = (k == j)
    have e : PyData.eqv (.int (j : Int)) (.int (k : Int)) = ((j : Int) == (k : Int)) := by simp [PyData.eqv]
    rw [e]
    by_cases h : j = k
    · rw [h, beq_self_eq_true, beq_self_eq_true]
    · rw [beq_eq_false_iff_ne.mpr fun z => h (by omega), beq_eq_false_iff_ne.mpr fun z => h z.symm]
theorem gNotIn (k : Nat) (is : List Nat) : gIn true (.int (k : Int)) (.list (iL is)) = some (.bool (!is.contains k)) := by
  have h1 := okD_sh (okD_int (k : Int))
  have h2 := okD_sh (iL_ok is)
  have h3 : noDs (iL is) = true := h2.2
  show (if (SeqAt.shaped (.int (k : Int)) && SeqAt.shaped (.list (iL is)) && noD (.int (k : Int)) && noDs (iL is)) = true then some (PyData.bool (((iL is).any fun z => PyData.eqv z (.int (k : Int))) != true)) else none) = _
  rw [if_pos (by simp [h1, h2.1, h3]), any_iL]
  cases is.contains k <;> rfl
theorem flat_ends (rs : List Row) (is : List Nat) : (is.flatMap fun k => [PyData.int (at_ rs k).1, .int (at_ rs k).2]) = (ends rs is).map .int := by
  unfold ends
  rw [List.map_flatMap]
  rfl
theorem at6 {n : Nat} {as : List Vl} {M : List MO} : callN tab (n + 1) 6 as M = mFn N6.length B6 (callN tab n) as M := rfl
theorem iL_filter (is : List Nat) (p : Nat → Bool) : (is.filter p).map nD = iL (is.filter p) := rfl
theorem mid_in {rs : List Row} (hr : OkR rs) {is : List Nat} (h : is ≠ []) (hk : ∀ k ∈ is, k < rs.length) : ∃ k ∈ is, lo rs (mid rs is) k = false ∧ hi rs (mid rs is) k = false := by
  have m := mid_mem (rs := rs) h
  unfold ends at m
  obtain ⟨k, hk1, hk2⟩ := List.mem_flatMap.mp m
  have o := hr.ok _ (at_mem (hk k hk1))
  refine ⟨k, hk1, ?_⟩
  unfold lo hi
  simp only [List.mem_cons, List.not_mem_nil, or_false] at hk2
  rcases hk2 with z | z
  · rw [z]
    exact ⟨decide_eq_false (by omega), decide_eq_false (by omega)⟩
  · rw [z]
    exact ⟨decide_eq_false (by omega), decide_eq_false (by omega)⟩
theorem filt_lt {is : List Nat} {p : Nat → Bool} {k : Nat} (h : k ∈ is) (hp : p k = false) : (is.filter p).length < is.length := by
  refine List.length_filter_lt_length_iff_exists.mpr ⟨k, h, ?_⟩
  rw [hp]
  exact Bool.false_ne_true
theorem r6 {rs : List Row} (hr : OkR rs) : ∀ (N n : Nat) (is : List Nat) (M : List MO), is.length ≤ N → N ≤ 24 → (∀ k ∈ is, k < rs.length) → callN tab (n + N + 1) 6 [.d (rD rs), .d (.list (iL is))] M = some (.d (tD (tr rs N is)), M) := by
  intro N
  induction N with
  | zero =>
    intro n is M hl _ hk
    have e : is = [] := List.length_eq_zero_iff.mp (by omega)
    subst e
    rw [at6]
    simp only [N6, B6, gEq_nil (iL_ok []), mSeq, mIfS, mRet, mDrop, mSet, mSetT, mSetL, mSetD, mFrz, mNext, mBk, mCt, mNever, mFor, mWhile, mVar, mC, mOp, mUn, mTru, mB, mOfT, mAnd, mOr, mNot, mIf, mAndV, mOrV, mNotV, mChain, mNil, mCons, mTup, mLst, mFz, mFzD, mDNew, mDGet, mDIn, mBlt, mBltL, mIsi, mNoO, mSomeO, mSl, mRg1, mRg2, mLstRg, mCall, mCallK, mItS, mItR, mItE, mLc, mLc2, mYes, mApp1, mExt, mPopW, mPopAtW, mSetIx, mDPut, mRf, mRfD, pE, pL, pD, mPs, mPar, putP, wE, bnd, pk, liftO, peek, dats, pks, getL, putLρ, putLM, getD, putDρ, putDM, argC, permL, slotA, outV, mFn, setTg, setTgs, gSeq, MO.look, MO.slot, truD, bolD, intD, Slot.own, noOwn, wipeS, capL, gAdd, DL.gSub, gMul, gDiv, gMod, gPow, gLt, gLe, gGt, gGe, gIs, gIsNot, gIx, gLen, gAbs, gMax2, gMin2, gInt, gList, gTuple, gNeg, gI0, gII, gSl, bodE, bodT, bodI, lcF, forGo, lim, Nat.zero_le, Nat.reduceLeDiff, List.map_cons, List.map_nil, List.cons_append, List.nil_append, List.append_nil, List.length_cons, List.length_nil, List.getElem?_cons_zero, List.getElem?_cons_succ, List.getElem?_nil, List.replicate_zero, List.replicate_succ, List.all_cons, List.all_nil, List.any_cons, List.any_nil, List.filterMap_cons, List.filterMap_nil, List.set_cons_zero, List.set_cons_succ, Bool.and_true, Bool.true_and, Bool.and_false, Bool.false_and, Bool.and_self, Bool.or_true, Bool.true_or, Bool.or_false, Bool.false_or, Bool.not_true, Bool.not_false, Nat.zero_add, Nat.add_zero, Nat.reduceAdd, Nat.reduceSub, Nat.reduceMul, Nat.reduceBEq, Nat.reduceEqDiff, Nat.reduceLT, Nat.sub_self, beq_self_eq_true, Option.map_some, Option.map_none, reduceIte, if_true, if_false, Bool.false_eq_true, decide_true, decide_false, reduceCtorEq, Int.reduceLE, Int.reduceLT, Int.reduceNeg, Int.reduceToNat, Int.reduceEq, Int.reducePow, Int.reduceDiv, Int.reduceAdd, Int.reduceSub, Int.reduceMul, true_and, and_true, List.isEmpty_nil, List.isEmpty_cons]
    rfl
  | succ N ih =>
    intro n is M hl hN hk
    rw [at6]
    by_cases e : is = []
    · subst e
      simp only [N6, B6, gEq_nil (iL_ok []), tr_nil, mSeq, mIfS, mRet, mDrop, mSet, mSetT, mSetL, mSetD, mFrz, mNext, mBk, mCt, mNever, mFor, mWhile, mVar, mC, mOp, mUn, mTru, mB, mOfT, mAnd, mOr, mNot, mIf, mAndV, mOrV, mNotV, mChain, mNil, mCons, mTup, mLst, mFz, mFzD, mDNew, mDGet, mDIn, mBlt, mBltL, mIsi, mNoO, mSomeO, mSl, mRg1, mRg2, mLstRg, mCall, mCallK, mItS, mItR, mItE, mLc, mLc2, mYes, mApp1, mExt, mPopW, mPopAtW, mSetIx, mDPut, mRf, mRfD, pE, pL, pD, mPs, mPar, putP, wE, bnd, pk, liftO, peek, dats, pks, getL, putLρ, putLM, getD, putDρ, putDM, argC, permL, slotA, outV, mFn, setTg, setTgs, gSeq, MO.look, MO.slot, truD, bolD, intD, Slot.own, noOwn, wipeS, capL, gAdd, DL.gSub, gMul, gDiv, gMod, gPow, gLt, gLe, gGt, gGe, gIs, gIsNot, gIx, gLen, gAbs, gMax2, gMin2, gInt, gList, gTuple, gNeg, gI0, gII, gSl, bodE, bodT, bodI, lcF, forGo, lim, Nat.zero_le, Nat.reduceLeDiff, List.map_cons, List.map_nil, List.cons_append, List.nil_append, List.append_nil, List.length_cons, List.length_nil, List.getElem?_cons_zero, List.getElem?_cons_succ, List.getElem?_nil, List.replicate_zero, List.replicate_succ, List.all_cons, List.all_nil, List.any_cons, List.any_nil, List.filterMap_cons, List.filterMap_nil, List.set_cons_zero, List.set_cons_succ, Bool.and_true, Bool.true_and, Bool.and_false, Bool.false_and, Bool.and_self, Bool.or_true, Bool.true_or, Bool.or_false, Bool.false_or, Bool.not_true, Bool.not_false, Nat.zero_add, Nat.add_zero, Nat.reduceAdd, Nat.reduceSub, Nat.reduceMul, Nat.reduceBEq, Nat.reduceEqDiff, Nat.reduceLT, Nat.sub_self, beq_self_eq_true, Option.map_some, Option.map_none, reduceIte, if_true, if_false, Bool.false_eq_true, decide_true, decide_false, reduceCtorEq, Int.reduceLE, Int.reduceLT, Int.reduceNeg, Int.reduceToNat, Int.reduceEq, Int.reducePow, Int.reduceDiv, Int.reduceAdd, Int.reduceSub, Int.reduceMul, true_and, and_true, List.isEmpty_nil, List.isEmpty_cons]
      rfl
    · have e2 : (iL is).isEmpty = false := by
        cases is with
        | nil => exact absurd rfl e
        | cons => rfl
      have hw : ∀ k ∈ is, atI (rs.map pr) (k : Int) = some (pr (at_ rs k)) := fun k m => row_at (hk k m)
      have le : is.length ≤ 24 := by omega
      have l1 : ((ends rs is).map PyData.int).length ≤ 1000000 := by rw [List.length_map, ends_len]; omega
      have l2 : ∀ p : Nat → Bool, (iL (is.filter p)).length ≤ 1000000 := fun p => by
        unfold iL
        rw [List.length_map]
        have := List.length_filter_le p is
        omega
      simp only [N6, B6, gEq_nil (iL_ok is), e2, rD, mSeq, mIfS, mRet, mDrop, mSet, mSetT, mSetL, mSetD, mFrz, mNext, mBk, mCt, mNever, mFor, mWhile, mVar, mC, mOp, mUn, mTru, mB, mOfT, mAnd, mOr, mNot, mIf, mAndV, mOrV, mNotV, mChain, mNil, mCons, mTup, mLst, mFz, mFzD, mDNew, mDGet, mDIn, mBlt, mBltL, mIsi, mNoO, mSomeO, mSl, mRg1, mRg2, mLstRg, mCall, mCallK, mItS, mItR, mItE, mLc, mLc2, mYes, mApp1, mExt, mPopW, mPopAtW, mSetIx, mDPut, mRf, mRfD, pE, pL, pD, mPs, mPar, putP, wE, bnd, pk, liftO, peek, dats, pks, getL, putLρ, putLM, getD, putDρ, putDM, argC, permL, slotA, outV, mFn, setTg, setTgs, gSeq, MO.look, MO.slot, truD, bolD, intD, Slot.own, noOwn, wipeS, capL, gAdd, DL.gSub, gMul, gDiv, gMod, gPow, gLt, gLe, gGt, gGe, gIs, gIsNot, gIx, gLen, gAbs, gMax2, gMin2, gInt, gList, gTuple, gNeg, gI0, gII, gSl, bodE, bodT, bodI, lcF, forGo, lim, Nat.zero_le, Nat.reduceLeDiff, List.map_cons, List.map_nil, List.cons_append, List.nil_append, List.append_nil, List.length_cons, List.length_nil, List.getElem?_cons_zero, List.getElem?_cons_succ, List.getElem?_nil, List.replicate_zero, List.replicate_succ, List.all_cons, List.all_nil, List.any_cons, List.any_nil, List.filterMap_cons, List.filterMap_nil, List.set_cons_zero, List.set_cons_succ, Bool.and_true, Bool.true_and, Bool.and_false, Bool.false_and, Bool.and_self, Bool.or_true, Bool.true_or, Bool.or_false, Bool.false_or, Bool.not_true, Bool.not_false, Nat.zero_add, Nat.add_zero, Nat.reduceAdd, Nat.reduceSub, Nat.reduceMul, Nat.reduceBEq, Nat.reduceEqDiff, Nat.reduceLT, Nat.sub_self, beq_self_eq_true, Option.map_some, Option.map_none, reduceIte, if_true, if_false, Bool.false_eq_true, decide_true, decide_false, reduceCtorEq, Int.reduceLE, Int.reduceLT, Int.reduceNeg, Int.reduceToNat, Int.reduceEq, Int.reducePow, Int.reduceDiv, Int.reduceAdd, Int.reduceSub, Int.reduceMul, true_and, and_true, List.isEmpty_nil, List.isEmpty_cons]
      rw [lcF_flatN (g := fun k => [PyData.int (at_ rs k).1, .int (at_ rs k).2])]
      rotate_left
      · intro k m
        simp only [hw k m, pr, mSeq, mIfS, mRet, mDrop, mSet, mSetT, mSetL, mSetD, mFrz, mNext, mBk, mCt, mNever, mFor, mWhile, mVar, mC, mOp, mUn, mTru, mB, mOfT, mAnd, mOr, mNot, mIf, mAndV, mOrV, mNotV, mChain, mNil, mCons, mTup, mLst, mFz, mFzD, mDNew, mDGet, mDIn, mBlt, mBltL, mIsi, mNoO, mSomeO, mSl, mRg1, mRg2, mLstRg, mCall, mCallK, mItS, mItR, mItE, mLc, mLc2, mYes, mApp1, mExt, mPopW, mPopAtW, mSetIx, mDPut, mRf, mRfD, pE, pL, pD, mPs, mPar, putP, wE, bnd, pk, liftO, peek, dats, pks, getL, putLρ, putLM, getD, putDρ, putDM, argC, permL, slotA, outV, mFn, setTg, setTgs, gSeq, MO.look, MO.slot, truD, bolD, intD, Slot.own, noOwn, wipeS, capL, gAdd, DL.gSub, gMul, gDiv, gMod, gPow, gLt, gLe, gGt, gGe, gIs, gIsNot, gIx, gLen, gAbs, gMax2, gMin2, gInt, gList, gTuple, gNeg, gI0, gII, gSl, bodE, bodT, bodI, lcF, forGo, lim, Nat.zero_le, Nat.reduceLeDiff, List.map_cons, List.map_nil, List.cons_append, List.nil_append, List.append_nil, List.length_cons, List.length_nil, List.getElem?_cons_zero, List.getElem?_cons_succ, List.getElem?_nil, List.replicate_zero, List.replicate_succ, List.all_cons, List.all_nil, List.any_cons, List.any_nil, List.filterMap_cons, List.filterMap_nil, List.set_cons_zero, List.set_cons_succ, Bool.and_true, Bool.true_and, Bool.and_false, Bool.false_and, Bool.and_self, Bool.or_true, Bool.true_or, Bool.or_false, Bool.false_or, Bool.not_true, Bool.not_false, Nat.zero_add, Nat.add_zero, Nat.reduceAdd, Nat.reduceSub, Nat.reduceMul, Nat.reduceBEq, Nat.reduceEqDiff, Nat.reduceLT, Nat.sub_self, beq_self_eq_true, Option.map_some, Option.map_none, reduceIte, if_true, if_false, Bool.false_eq_true, decide_true, decide_false, reduceCtorEq, Int.reduceLE, Int.reduceLT, Int.reduceNeg, Int.reduceToNat, Int.reduceEq, Int.reducePow, Int.reduceDiv, Int.reduceAdd, Int.reduceSub, Int.reduceMul, true_and, and_true, List.isEmpty_nil, List.isEmpty_cons]
      rw [flat_ends]
      simp only [l1, gSortedI_map, mSeq, mIfS, mRet, mDrop, mSet, mSetT, mSetL, mSetD, mFrz, mNext, mBk, mCt, mNever, mFor, mWhile, mVar, mC, mOp, mUn, mTru, mB, mOfT, mAnd, mOr, mNot, mIf, mAndV, mOrV, mNotV, mChain, mNil, mCons, mTup, mLst, mFz, mFzD, mDNew, mDGet, mDIn, mBlt, mBltL, mIsi, mNoO, mSomeO, mSl, mRg1, mRg2, mLstRg, mCall, mCallK, mItS, mItR, mItE, mLc, mLc2, mYes, mApp1, mExt, mPopW, mPopAtW, mSetIx, mDPut, mRf, mRfD, pE, pL, pD, mPs, mPar, putP, wE, bnd, pk, liftO, peek, dats, pks, getL, putLρ, putLM, getD, putDρ, putDM, argC, permL, slotA, outV, mFn, setTg, setTgs, gSeq, MO.look, MO.slot, truD, bolD, intD, Slot.own, noOwn, wipeS, capL, gAdd, DL.gSub, gMul, gDiv, gMod, gPow, gLt, gLe, gGt, gGe, gIs, gIsNot, gIx, gLen, gAbs, gMax2, gMin2, gInt, gList, gTuple, gNeg, gI0, gII, gSl, bodE, bodT, bodI, lcF, forGo, lim, Nat.zero_le, Nat.reduceLeDiff, List.map_cons, List.map_nil, List.cons_append, List.nil_append, List.append_nil, List.length_cons, List.length_nil, List.getElem?_cons_zero, List.getElem?_cons_succ, List.getElem?_nil, List.replicate_zero, List.replicate_succ, List.all_cons, List.all_nil, List.any_cons, List.any_nil, List.filterMap_cons, List.filterMap_nil, List.set_cons_zero, List.set_cons_succ, Bool.and_true, Bool.true_and, Bool.and_false, Bool.false_and, Bool.and_self, Bool.or_true, Bool.true_or, Bool.or_false, Bool.false_or, Bool.not_true, Bool.not_false, Nat.zero_add, Nat.add_zero, Nat.reduceAdd, Nat.reduceSub, Nat.reduceMul, Nat.reduceBEq, Nat.reduceEqDiff, Nat.reduceLT, Nat.sub_self, beq_self_eq_true, Option.map_some, Option.map_none, reduceIte, if_true, if_false, Bool.false_eq_true, decide_true, decide_false, reduceCtorEq, Int.reduceLE, Int.reduceLT, Int.reduceNeg, Int.reduceToNat, Int.reduceEq, Int.reducePow, Int.reduceDiv, Int.reduceAdd, Int.reduceSub, Int.reduceMul, true_and, and_true, List.isEmpty_nil, List.isEmpty_cons]
      have hm : atI ((PySem.W.sortI (ends rs is)).map PyData.int) ((((((PySem.W.sortI (ends rs is)).map PyData.int).length : Nat) : Int) - 1) / 2) = some (.int (mid rs is)) := by
        have el : (((PySem.W.sortI (ends rs is)).map PyData.int).length) = 2 * is.length := by rw [List.length_map, (sortI_perm _).length_eq, ends_len]
        have ix := mid_ix (rs := rs) e
        have hp := List.length_pos_iff.mpr e
        have e3 : (((((PySem.W.sortI (ends rs is)).map PyData.int).length : Nat) : Int) - 1) / 2 = (((2 * is.length - 1) / 2 : Nat) : Int) := by rw [el]; omega
        rw [e3, atI_nat (by rw [List.length_map]; exact ix), List.getElem_map]
        unfold mid
        rw [List.getD_eq_getElem?_getD, List.getElem?_eq_getElem ix]
        rfl
      simp only [hm, mSeq, mIfS, mRet, mDrop, mSet, mSetT, mSetL, mSetD, mFrz, mNext, mBk, mCt, mNever, mFor, mWhile, mVar, mC, mOp, mUn, mTru, mB, mOfT, mAnd, mOr, mNot, mIf, mAndV, mOrV, mNotV, mChain, mNil, mCons, mTup, mLst, mFz, mFzD, mDNew, mDGet, mDIn, mBlt, mBltL, mIsi, mNoO, mSomeO, mSl, mRg1, mRg2, mLstRg, mCall, mCallK, mItS, mItR, mItE, mLc, mLc2, mYes, mApp1, mExt, mPopW, mPopAtW, mSetIx, mDPut, mRf, mRfD, pE, pL, pD, mPs, mPar, putP, wE, bnd, pk, liftO, peek, dats, pks, getL, putLρ, putLM, getD, putDρ, putDM, argC, permL, slotA, outV, mFn, setTg, setTgs, gSeq, MO.look, MO.slot, truD, bolD, intD, Slot.own, noOwn, wipeS, capL, gAdd, DL.gSub, gMul, gDiv, gMod, gPow, gLt, gLe, gGt, gGe, gIs, gIsNot, gIx, gLen, gAbs, gMax2, gMin2, gInt, gList, gTuple, gNeg, gI0, gII, gSl, bodE, bodT, bodI, lcF, forGo, lim, Nat.zero_le, Nat.reduceLeDiff, List.map_cons, List.map_nil, List.cons_append, List.nil_append, List.append_nil, List.length_cons, List.length_nil, List.getElem?_cons_zero, List.getElem?_cons_succ, List.getElem?_nil, List.replicate_zero, List.replicate_succ, List.all_cons, List.all_nil, List.any_cons, List.any_nil, List.filterMap_cons, List.filterMap_nil, List.set_cons_zero, List.set_cons_succ, Bool.and_true, Bool.true_and, Bool.and_false, Bool.false_and, Bool.and_self, Bool.or_true, Bool.true_or, Bool.or_false, Bool.false_or, Bool.not_true, Bool.not_false, Nat.zero_add, Nat.add_zero, Nat.reduceAdd, Nat.reduceSub, Nat.reduceMul, Nat.reduceBEq, Nat.reduceEqDiff, Nat.reduceLT, Nat.sub_self, beq_self_eq_true, Option.map_some, Option.map_none, reduceIte, if_true, if_false, Bool.false_eq_true, decide_true, decide_false, reduceCtorEq, Int.reduceLE, Int.reduceLT, Int.reduceNeg, Int.reduceToNat, Int.reduceEq, Int.reducePow, Int.reduceDiv, Int.reduceAdd, Int.reduceSub, Int.reduceMul, true_and, and_true, List.isEmpty_nil, List.isEmpty_cons]
      rw [lcF_filtN (p := lo rs (mid rs is))]
      rotate_left
      · intro k m
        simp only [hw k m, pr, pr1, mSeq, mIfS, mRet, mDrop, mSet, mSetT, mSetL, mSetD, mFrz, mNext, mBk, mCt, mNever, mFor, mWhile, mVar, mC, mOp, mUn, mTru, mB, mOfT, mAnd, mOr, mNot, mIf, mAndV, mOrV, mNotV, mChain, mNil, mCons, mTup, mLst, mFz, mFzD, mDNew, mDGet, mDIn, mBlt, mBltL, mIsi, mNoO, mSomeO, mSl, mRg1, mRg2, mLstRg, mCall, mCallK, mItS, mItR, mItE, mLc, mLc2, mYes, mApp1, mExt, mPopW, mPopAtW, mSetIx, mDPut, mRf, mRfD, pE, pL, pD, mPs, mPar, putP, wE, bnd, pk, liftO, peek, dats, pks, getL, putLρ, putLM, getD, putDρ, putDM, argC, permL, slotA, outV, mFn, setTg, setTgs, gSeq, MO.look, MO.slot, truD, bolD, intD, Slot.own, noOwn, wipeS, capL, gAdd, DL.gSub, gMul, gDiv, gMod, gPow, gLt, gLe, gGt, gGe, gIs, gIsNot, gIx, gLen, gAbs, gMax2, gMin2, gInt, gList, gTuple, gNeg, gI0, gII, gSl, bodE, bodT, bodI, lcF, forGo, lim, Nat.zero_le, Nat.reduceLeDiff, List.map_cons, List.map_nil, List.cons_append, List.nil_append, List.append_nil, List.length_cons, List.length_nil, List.getElem?_cons_zero, List.getElem?_cons_succ, List.getElem?_nil, List.replicate_zero, List.replicate_succ, List.all_cons, List.all_nil, List.any_cons, List.any_nil, List.filterMap_cons, List.filterMap_nil, List.set_cons_zero, List.set_cons_succ, Bool.and_true, Bool.true_and, Bool.and_false, Bool.false_and, Bool.and_self, Bool.or_true, Bool.true_or, Bool.or_false, Bool.false_or, Bool.not_true, Bool.not_false, Nat.zero_add, Nat.add_zero, Nat.reduceAdd, Nat.reduceSub, Nat.reduceMul, Nat.reduceBEq, Nat.reduceEqDiff, Nat.reduceLT, Nat.sub_self, beq_self_eq_true, Option.map_some, Option.map_none, reduceIte, if_true, if_false, Bool.false_eq_true, decide_true, decide_false, reduceCtorEq, Int.reduceLE, Int.reduceLT, Int.reduceNeg, Int.reduceToNat, Int.reduceEq, Int.reducePow, Int.reduceDiv, Int.reduceAdd, Int.reduceSub, Int.reduceMul, true_and, and_true, List.isEmpty_nil, List.isEmpty_cons]
        unfold lo
        by_cases h : (at_ rs k).2 < mid rs is
        · simp only [h, mSeq, mIfS, mRet, mDrop, mSet, mSetT, mSetL, mSetD, mFrz, mNext, mBk, mCt, mNever, mFor, mWhile, mVar, mC, mOp, mUn, mTru, mB, mOfT, mAnd, mOr, mNot, mIf, mAndV, mOrV, mNotV, mChain, mNil, mCons, mTup, mLst, mFz, mFzD, mDNew, mDGet, mDIn, mBlt, mBltL, mIsi, mNoO, mSomeO, mSl, mRg1, mRg2, mLstRg, mCall, mCallK, mItS, mItR, mItE, mLc, mLc2, mYes, mApp1, mExt, mPopW, mPopAtW, mSetIx, mDPut, mRf, mRfD, pE, pL, pD, mPs, mPar, putP, wE, bnd, pk, liftO, peek, dats, pks, getL, putLρ, putLM, getD, putDρ, putDM, argC, permL, slotA, outV, mFn, setTg, setTgs, gSeq, MO.look, MO.slot, truD, bolD, intD, Slot.own, noOwn, wipeS, capL, gAdd, DL.gSub, gMul, gDiv, gMod, gPow, gLt, gLe, gGt, gGe, gIs, gIsNot, gIx, gLen, gAbs, gMax2, gMin2, gInt, gList, gTuple, gNeg, gI0, gII, gSl, bodE, bodT, bodI, lcF, forGo, lim, Nat.zero_le, Nat.reduceLeDiff, List.map_cons, List.map_nil, List.cons_append, List.nil_append, List.append_nil, List.length_cons, List.length_nil, List.getElem?_cons_zero, List.getElem?_cons_succ, List.getElem?_nil, List.replicate_zero, List.replicate_succ, List.all_cons, List.all_nil, List.any_cons, List.any_nil, List.filterMap_cons, List.filterMap_nil, List.set_cons_zero, List.set_cons_succ, Bool.and_true, Bool.true_and, Bool.and_false, Bool.false_and, Bool.and_self, Bool.or_true, Bool.true_or, Bool.or_false, Bool.false_or, Bool.not_true, Bool.not_false, Nat.zero_add, Nat.add_zero, Nat.reduceAdd, Nat.reduceSub, Nat.reduceMul, Nat.reduceBEq, Nat.reduceEqDiff, Nat.reduceLT, Nat.sub_self, beq_self_eq_true, Option.map_some, Option.map_none, reduceIte, if_true, if_false, Bool.false_eq_true, decide_true, decide_false, reduceCtorEq, Int.reduceLE, Int.reduceLT, Int.reduceNeg, Int.reduceToNat, Int.reduceEq, Int.reducePow, Int.reduceDiv, Int.reduceAdd, Int.reduceSub, Int.reduceMul, true_and, and_true, List.isEmpty_nil, List.isEmpty_cons]
        · simp only [h, mSeq, mIfS, mRet, mDrop, mSet, mSetT, mSetL, mSetD, mFrz, mNext, mBk, mCt, mNever, mFor, mWhile, mVar, mC, mOp, mUn, mTru, mB, mOfT, mAnd, mOr, mNot, mIf, mAndV, mOrV, mNotV, mChain, mNil, mCons, mTup, mLst, mFz, mFzD, mDNew, mDGet, mDIn, mBlt, mBltL, mIsi, mNoO, mSomeO, mSl, mRg1, mRg2, mLstRg, mCall, mCallK, mItS, mItR, mItE, mLc, mLc2, mYes, mApp1, mExt, mPopW, mPopAtW, mSetIx, mDPut, mRf, mRfD, pE, pL, pD, mPs, mPar, putP, wE, bnd, pk, liftO, peek, dats, pks, getL, putLρ, putLM, getD, putDρ, putDM, argC, permL, slotA, outV, mFn, setTg, setTgs, gSeq, MO.look, MO.slot, truD, bolD, intD, Slot.own, noOwn, wipeS, capL, gAdd, DL.gSub, gMul, gDiv, gMod, gPow, gLt, gLe, gGt, gGe, gIs, gIsNot, gIx, gLen, gAbs, gMax2, gMin2, gInt, gList, gTuple, gNeg, gI0, gII, gSl, bodE, bodT, bodI, lcF, forGo, lim, Nat.zero_le, Nat.reduceLeDiff, List.map_cons, List.map_nil, List.cons_append, List.nil_append, List.append_nil, List.length_cons, List.length_nil, List.getElem?_cons_zero, List.getElem?_cons_succ, List.getElem?_nil, List.replicate_zero, List.replicate_succ, List.all_cons, List.all_nil, List.any_cons, List.any_nil, List.filterMap_cons, List.filterMap_nil, List.set_cons_zero, List.set_cons_succ, Bool.and_true, Bool.true_and, Bool.and_false, Bool.false_and, Bool.and_self, Bool.or_true, Bool.true_or, Bool.or_false, Bool.false_or, Bool.not_true, Bool.not_false, Nat.zero_add, Nat.add_zero, Nat.reduceAdd, Nat.reduceSub, Nat.reduceMul, Nat.reduceBEq, Nat.reduceEqDiff, Nat.reduceLT, Nat.sub_self, beq_self_eq_true, Option.map_some, Option.map_none, reduceIte, if_true, if_false, Bool.false_eq_true, decide_true, decide_false, reduceCtorEq, Int.reduceLE, Int.reduceLT, Int.reduceNeg, Int.reduceToNat, Int.reduceEq, Int.reducePow, Int.reduceDiv, Int.reduceAdd, Int.reduceSub, Int.reduceMul, true_and, and_true, List.isEmpty_nil, List.isEmpty_cons]
      simp only [l2, mSeq, mIfS, mRet, mDrop, mSet, mSetT, mSetL, mSetD, mFrz, mNext, mBk, mCt, mNever, mFor, mWhile, mVar, mC, mOp, mUn, mTru, mB, mOfT, mAnd, mOr, mNot, mIf, mAndV, mOrV, mNotV, mChain, mNil, mCons, mTup, mLst, mFz, mFzD, mDNew, mDGet, mDIn, mBlt, mBltL, mIsi, mNoO, mSomeO, mSl, mRg1, mRg2, mLstRg, mCall, mCallK, mItS, mItR, mItE, mLc, mLc2, mYes, mApp1, mExt, mPopW, mPopAtW, mSetIx, mDPut, mRf, mRfD, pE, pL, pD, mPs, mPar, putP, wE, bnd, pk, liftO, peek, dats, pks, getL, putLρ, putLM, getD, putDρ, putDM, argC, permL, slotA, outV, mFn, setTg, setTgs, gSeq, MO.look, MO.slot, truD, bolD, intD, Slot.own, noOwn, wipeS, capL, gAdd, DL.gSub, gMul, gDiv, gMod, gPow, gLt, gLe, gGt, gGe, gIs, gIsNot, gIx, gLen, gAbs, gMax2, gMin2, gInt, gList, gTuple, gNeg, gI0, gII, gSl, bodE, bodT, bodI, lcF, forGo, lim, Nat.zero_le, Nat.reduceLeDiff, List.map_cons, List.map_nil, List.cons_append, List.nil_append, List.append_nil, List.length_cons, List.length_nil, List.getElem?_cons_zero, List.getElem?_cons_succ, List.getElem?_nil, List.replicate_zero, List.replicate_succ, List.all_cons, List.all_nil, List.any_cons, List.any_nil, List.filterMap_cons, List.filterMap_nil, List.set_cons_zero, List.set_cons_succ, Bool.and_true, Bool.true_and, Bool.and_false, Bool.false_and, Bool.and_self, Bool.or_true, Bool.true_or, Bool.or_false, Bool.false_or, Bool.not_true, Bool.not_false, Nat.zero_add, Nat.add_zero, Nat.reduceAdd, Nat.reduceSub, Nat.reduceMul, Nat.reduceBEq, Nat.reduceEqDiff, Nat.reduceLT, Nat.sub_self, beq_self_eq_true, Option.map_some, Option.map_none, reduceIte, if_true, if_false, Bool.false_eq_true, decide_true, decide_false, reduceCtorEq, Int.reduceLE, Int.reduceLT, Int.reduceNeg, Int.reduceToNat, Int.reduceEq, Int.reducePow, Int.reduceDiv, Int.reduceAdd, Int.reduceSub, Int.reduceMul, true_and, and_true, List.isEmpty_nil, List.isEmpty_cons]
      rw [lcF_filtN (p := hi rs (mid rs is))]
      rotate_left
      · intro k m
        simp only [hw k m, pr, pr0, mSeq, mIfS, mRet, mDrop, mSet, mSetT, mSetL, mSetD, mFrz, mNext, mBk, mCt, mNever, mFor, mWhile, mVar, mC, mOp, mUn, mTru, mB, mOfT, mAnd, mOr, mNot, mIf, mAndV, mOrV, mNotV, mChain, mNil, mCons, mTup, mLst, mFz, mFzD, mDNew, mDGet, mDIn, mBlt, mBltL, mIsi, mNoO, mSomeO, mSl, mRg1, mRg2, mLstRg, mCall, mCallK, mItS, mItR, mItE, mLc, mLc2, mYes, mApp1, mExt, mPopW, mPopAtW, mSetIx, mDPut, mRf, mRfD, pE, pL, pD, mPs, mPar, putP, wE, bnd, pk, liftO, peek, dats, pks, getL, putLρ, putLM, getD, putDρ, putDM, argC, permL, slotA, outV, mFn, setTg, setTgs, gSeq, MO.look, MO.slot, truD, bolD, intD, Slot.own, noOwn, wipeS, capL, gAdd, DL.gSub, gMul, gDiv, gMod, gPow, gLt, gLe, gGt, gGe, gIs, gIsNot, gIx, gLen, gAbs, gMax2, gMin2, gInt, gList, gTuple, gNeg, gI0, gII, gSl, bodE, bodT, bodI, lcF, forGo, lim, Nat.zero_le, Nat.reduceLeDiff, List.map_cons, List.map_nil, List.cons_append, List.nil_append, List.append_nil, List.length_cons, List.length_nil, List.getElem?_cons_zero, List.getElem?_cons_succ, List.getElem?_nil, List.replicate_zero, List.replicate_succ, List.all_cons, List.all_nil, List.any_cons, List.any_nil, List.filterMap_cons, List.filterMap_nil, List.set_cons_zero, List.set_cons_succ, Bool.and_true, Bool.true_and, Bool.and_false, Bool.false_and, Bool.and_self, Bool.or_true, Bool.true_or, Bool.or_false, Bool.false_or, Bool.not_true, Bool.not_false, Nat.zero_add, Nat.add_zero, Nat.reduceAdd, Nat.reduceSub, Nat.reduceMul, Nat.reduceBEq, Nat.reduceEqDiff, Nat.reduceLT, Nat.sub_self, beq_self_eq_true, Option.map_some, Option.map_none, reduceIte, if_true, if_false, Bool.false_eq_true, decide_true, decide_false, reduceCtorEq, Int.reduceLE, Int.reduceLT, Int.reduceNeg, Int.reduceToNat, Int.reduceEq, Int.reducePow, Int.reduceDiv, Int.reduceAdd, Int.reduceSub, Int.reduceMul, true_and, and_true, List.isEmpty_nil, List.isEmpty_cons]
        unfold hi
        by_cases h : mid rs is < (at_ rs k).1
        · simp only [h, mSeq, mIfS, mRet, mDrop, mSet, mSetT, mSetL, mSetD, mFrz, mNext, mBk, mCt, mNever, mFor, mWhile, mVar, mC, mOp, mUn, mTru, mB, mOfT, mAnd, mOr, mNot, mIf, mAndV, mOrV, mNotV, mChain, mNil, mCons, mTup, mLst, mFz, mFzD, mDNew, mDGet, mDIn, mBlt, mBltL, mIsi, mNoO, mSomeO, mSl, mRg1, mRg2, mLstRg, mCall, mCallK, mItS, mItR, mItE, mLc, mLc2, mYes, mApp1, mExt, mPopW, mPopAtW, mSetIx, mDPut, mRf, mRfD, pE, pL, pD, mPs, mPar, putP, wE, bnd, pk, liftO, peek, dats, pks, getL, putLρ, putLM, getD, putDρ, putDM, argC, permL, slotA, outV, mFn, setTg, setTgs, gSeq, MO.look, MO.slot, truD, bolD, intD, Slot.own, noOwn, wipeS, capL, gAdd, DL.gSub, gMul, gDiv, gMod, gPow, gLt, gLe, gGt, gGe, gIs, gIsNot, gIx, gLen, gAbs, gMax2, gMin2, gInt, gList, gTuple, gNeg, gI0, gII, gSl, bodE, bodT, bodI, lcF, forGo, lim, Nat.zero_le, Nat.reduceLeDiff, List.map_cons, List.map_nil, List.cons_append, List.nil_append, List.append_nil, List.length_cons, List.length_nil, List.getElem?_cons_zero, List.getElem?_cons_succ, List.getElem?_nil, List.replicate_zero, List.replicate_succ, List.all_cons, List.all_nil, List.any_cons, List.any_nil, List.filterMap_cons, List.filterMap_nil, List.set_cons_zero, List.set_cons_succ, Bool.and_true, Bool.true_and, Bool.and_false, Bool.false_and, Bool.and_self, Bool.or_true, Bool.true_or, Bool.or_false, Bool.false_or, Bool.not_true, Bool.not_false, Nat.zero_add, Nat.add_zero, Nat.reduceAdd, Nat.reduceSub, Nat.reduceMul, Nat.reduceBEq, Nat.reduceEqDiff, Nat.reduceLT, Nat.sub_self, beq_self_eq_true, Option.map_some, Option.map_none, reduceIte, if_true, if_false, Bool.false_eq_true, decide_true, decide_false, reduceCtorEq, Int.reduceLE, Int.reduceLT, Int.reduceNeg, Int.reduceToNat, Int.reduceEq, Int.reducePow, Int.reduceDiv, Int.reduceAdd, Int.reduceSub, Int.reduceMul, true_and, and_true, List.isEmpty_nil, List.isEmpty_cons]
        · simp only [h, mSeq, mIfS, mRet, mDrop, mSet, mSetT, mSetL, mSetD, mFrz, mNext, mBk, mCt, mNever, mFor, mWhile, mVar, mC, mOp, mUn, mTru, mB, mOfT, mAnd, mOr, mNot, mIf, mAndV, mOrV, mNotV, mChain, mNil, mCons, mTup, mLst, mFz, mFzD, mDNew, mDGet, mDIn, mBlt, mBltL, mIsi, mNoO, mSomeO, mSl, mRg1, mRg2, mLstRg, mCall, mCallK, mItS, mItR, mItE, mLc, mLc2, mYes, mApp1, mExt, mPopW, mPopAtW, mSetIx, mDPut, mRf, mRfD, pE, pL, pD, mPs, mPar, putP, wE, bnd, pk, liftO, peek, dats, pks, getL, putLρ, putLM, getD, putDρ, putDM, argC, permL, slotA, outV, mFn, setTg, setTgs, gSeq, MO.look, MO.slot, truD, bolD, intD, Slot.own, noOwn, wipeS, capL, gAdd, DL.gSub, gMul, gDiv, gMod, gPow, gLt, gLe, gGt, gGe, gIs, gIsNot, gIx, gLen, gAbs, gMax2, gMin2, gInt, gList, gTuple, gNeg, gI0, gII, gSl, bodE, bodT, bodI, lcF, forGo, lim, Nat.zero_le, Nat.reduceLeDiff, List.map_cons, List.map_nil, List.cons_append, List.nil_append, List.append_nil, List.length_cons, List.length_nil, List.getElem?_cons_zero, List.getElem?_cons_succ, List.getElem?_nil, List.replicate_zero, List.replicate_succ, List.all_cons, List.all_nil, List.any_cons, List.any_nil, List.filterMap_cons, List.filterMap_nil, List.set_cons_zero, List.set_cons_succ, Bool.and_true, Bool.true_and, Bool.and_false, Bool.false_and, Bool.and_self, Bool.or_true, Bool.true_or, Bool.or_false, Bool.false_or, Bool.not_true, Bool.not_false, Nat.zero_add, Nat.add_zero, Nat.reduceAdd, Nat.reduceSub, Nat.reduceMul, Nat.reduceBEq, Nat.reduceEqDiff, Nat.reduceLT, Nat.sub_self, beq_self_eq_true, Option.map_some, Option.map_none, reduceIte, if_true, if_false, Bool.false_eq_true, decide_true, decide_false, reduceCtorEq, Int.reduceLE, Int.reduceLT, Int.reduceNeg, Int.reduceToNat, Int.reduceEq, Int.reducePow, Int.reduceDiv, Int.reduceAdd, Int.reduceSub, Int.reduceMul, true_and, and_true, List.isEmpty_nil, List.isEmpty_cons]
      simp only [l2, mSeq, mIfS, mRet, mDrop, mSet, mSetT, mSetL, mSetD, mFrz, mNext, mBk, mCt, mNever, mFor, mWhile, mVar, mC, mOp, mUn, mTru, mB, mOfT, mAnd, mOr, mNot, mIf, mAndV, mOrV, mNotV, mChain, mNil, mCons, mTup, mLst, mFz, mFzD, mDNew, mDGet, mDIn, mBlt, mBltL, mIsi, mNoO, mSomeO, mSl, mRg1, mRg2, mLstRg, mCall, mCallK, mItS, mItR, mItE, mLc, mLc2, mYes, mApp1, mExt, mPopW, mPopAtW, mSetIx, mDPut, mRf, mRfD, pE, pL, pD, mPs, mPar, putP, wE, bnd, pk, liftO, peek, dats, pks, getL, putLρ, putLM, getD, putDρ, putDM, argC, permL, slotA, outV, mFn, setTg, setTgs, gSeq, MO.look, MO.slot, truD, bolD, intD, Slot.own, noOwn, wipeS, capL, gAdd, DL.gSub, gMul, gDiv, gMod, gPow, gLt, gLe, gGt, gGe, gIs, gIsNot, gIx, gLen, gAbs, gMax2, gMin2, gInt, gList, gTuple, gNeg, gI0, gII, gSl, bodE, bodT, bodI, lcF, forGo, lim, Nat.zero_le, Nat.reduceLeDiff, List.map_cons, List.map_nil, List.cons_append, List.nil_append, List.append_nil, List.length_cons, List.length_nil, List.getElem?_cons_zero, List.getElem?_cons_succ, List.getElem?_nil, List.replicate_zero, List.replicate_succ, List.all_cons, List.all_nil, List.any_cons, List.any_nil, List.filterMap_cons, List.filterMap_nil, List.set_cons_zero, List.set_cons_succ, Bool.and_true, Bool.true_and, Bool.and_false, Bool.false_and, Bool.and_self, Bool.or_true, Bool.true_or, Bool.or_false, Bool.false_or, Bool.not_true, Bool.not_false, Nat.zero_add, Nat.add_zero, Nat.reduceAdd, Nat.reduceSub, Nat.reduceMul, Nat.reduceBEq, Nat.reduceEqDiff, Nat.reduceLT, Nat.sub_self, beq_self_eq_true, Option.map_some, Option.map_none, reduceIte, if_true, if_false, Bool.false_eq_true, decide_true, decide_false, reduceCtorEq, Int.reduceLE, Int.reduceLT, Int.reduceNeg, Int.reduceToNat, Int.reduceEq, Int.reducePow, Int.reduceDiv, Int.reduceAdd, Int.reduceSub, Int.reduceMul, true_and, and_true, List.isEmpty_nil, List.isEmpty_cons]
      rw [lcF_filtN (p := md rs (mid rs is))]
      rotate_left
      · intro k m
        simp only [gNotIn, mSeq, mIfS, mRet, mDrop, mSet, mSetT, mSetL, mSetD, mFrz, mNext, mBk, mCt, mNever, mFor, mWhile, mVar, mC, mOp, mUn, mTru, mB, mOfT, mAnd, mOr, mNot, mIf, mAndV, mOrV, mNotV, mChain, mNil, mCons, mTup, mLst, mFz, mFzD, mDNew, mDGet, mDIn, mBlt, mBltL, mIsi, mNoO, mSomeO, mSl, mRg1, mRg2, mLstRg, mCall, mCallK, mItS, mItR, mItE, mLc, mLc2, mYes, mApp1, mExt, mPopW, mPopAtW, mSetIx, mDPut, mRf, mRfD, pE, pL, pD, mPs, mPar, putP, wE, bnd, pk, liftO, peek, dats, pks, getL, putLρ, putLM, getD, putDρ, putDM, argC, permL, slotA, outV, mFn, setTg, setTgs, gSeq, MO.look, MO.slot, truD, bolD, intD, Slot.own, noOwn, wipeS, capL, gAdd, DL.gSub, gMul, gDiv, gMod, gPow, gLt, gLe, gGt, gGe, gIs, gIsNot, gIx, gLen, gAbs, gMax2, gMin2, gInt, gList, gTuple, gNeg, gI0, gII, gSl, bodE, bodT, bodI, lcF, forGo, lim, Nat.zero_le, Nat.reduceLeDiff, List.map_cons, List.map_nil, List.cons_append, List.nil_append, List.append_nil, List.length_cons, List.length_nil, List.getElem?_cons_zero, List.getElem?_cons_succ, List.getElem?_nil, List.replicate_zero, List.replicate_succ, List.all_cons, List.all_nil, List.any_cons, List.any_nil, List.filterMap_cons, List.filterMap_nil, List.set_cons_zero, List.set_cons_succ, Bool.and_true, Bool.true_and, Bool.and_false, Bool.false_and, Bool.and_self, Bool.or_true, Bool.true_or, Bool.or_false, Bool.false_or, Bool.not_true, Bool.not_false, Nat.zero_add, Nat.add_zero, Nat.reduceAdd, Nat.reduceSub, Nat.reduceMul, Nat.reduceBEq, Nat.reduceEqDiff, Nat.reduceLT, Nat.sub_self, beq_self_eq_true, Option.map_some, Option.map_none, reduceIte, if_true, if_false, Bool.false_eq_true, decide_true, decide_false, reduceCtorEq, Int.reduceLE, Int.reduceLT, Int.reduceNeg, Int.reduceToNat, Int.reduceEq, Int.reducePow, Int.reduceDiv, Int.reduceAdd, Int.reduceSub, Int.reduceMul, true_and, and_true, List.isEmpty_nil, List.isEmpty_cons]
        have c1 : (is.filter (lo rs (mid rs is))).contains k = lo rs (mid rs is) k := by
          rw [Bool.eq_iff_iff, List.contains_iff_mem, List.mem_filter]
          exact ⟨fun z => z.2, fun z => ⟨m, z⟩⟩
        have c2 : (is.filter (hi rs (mid rs is))).contains k = hi rs (mid rs is) k := by
          rw [Bool.eq_iff_iff, List.contains_iff_mem, List.mem_filter]
          exact ⟨fun z => z.2, fun z => ⟨m, z⟩⟩
        rw [c1]
        unfold md
        cases lo rs (mid rs is) k
        · simp only [gNotIn, c2, mSeq, mIfS, mRet, mDrop, mSet, mSetT, mSetL, mSetD, mFrz, mNext, mBk, mCt, mNever, mFor, mWhile, mVar, mC, mOp, mUn, mTru, mB, mOfT, mAnd, mOr, mNot, mIf, mAndV, mOrV, mNotV, mChain, mNil, mCons, mTup, mLst, mFz, mFzD, mDNew, mDGet, mDIn, mBlt, mBltL, mIsi, mNoO, mSomeO, mSl, mRg1, mRg2, mLstRg, mCall, mCallK, mItS, mItR, mItE, mLc, mLc2, mYes, mApp1, mExt, mPopW, mPopAtW, mSetIx, mDPut, mRf, mRfD, pE, pL, pD, mPs, mPar, putP, wE, bnd, pk, liftO, peek, dats, pks, getL, putLρ, putLM, getD, putDρ, putDM, argC, permL, slotA, outV, mFn, setTg, setTgs, gSeq, MO.look, MO.slot, truD, bolD, intD, Slot.own, noOwn, wipeS, capL, gAdd, DL.gSub, gMul, gDiv, gMod, gPow, gLt, gLe, gGt, gGe, gIs, gIsNot, gIx, gLen, gAbs, gMax2, gMin2, gInt, gList, gTuple, gNeg, gI0, gII, gSl, bodE, bodT, bodI, lcF, forGo, lim, Nat.zero_le, Nat.reduceLeDiff, List.map_cons, List.map_nil, List.cons_append, List.nil_append, List.append_nil, List.length_cons, List.length_nil, List.getElem?_cons_zero, List.getElem?_cons_succ, List.getElem?_nil, List.replicate_zero, List.replicate_succ, List.all_cons, List.all_nil, List.any_cons, List.any_nil, List.filterMap_cons, List.filterMap_nil, List.set_cons_zero, List.set_cons_succ, Bool.and_true, Bool.true_and, Bool.and_false, Bool.false_and, Bool.and_self, Bool.or_true, Bool.true_or, Bool.or_false, Bool.false_or, Bool.not_true, Bool.not_false, Nat.zero_add, Nat.add_zero, Nat.reduceAdd, Nat.reduceSub, Nat.reduceMul, Nat.reduceBEq, Nat.reduceEqDiff, Nat.reduceLT, Nat.sub_self, beq_self_eq_true, Option.map_some, Option.map_none, reduceIte, if_true, if_false, Bool.false_eq_true, decide_true, decide_false, reduceCtorEq, Int.reduceLE, Int.reduceLT, Int.reduceNeg, Int.reduceToNat, Int.reduceEq, Int.reducePow, Int.reduceDiv, Int.reduceAdd, Int.reduceSub, Int.reduceMul, true_and, and_true, List.isEmpty_nil, List.isEmpty_cons]
          cases hi rs (mid rs is) k <;> rfl
        · simp only [mSeq, mIfS, mRet, mDrop, mSet, mSetT, mSetL, mSetD, mFrz, mNext, mBk, mCt, mNever, mFor, mWhile, mVar, mC, mOp, mUn, mTru, mB, mOfT, mAnd, mOr, mNot, mIf, mAndV, mOrV, mNotV, mChain, mNil, mCons, mTup, mLst, mFz, mFzD, mDNew, mDGet, mDIn, mBlt, mBltL, mIsi, mNoO, mSomeO, mSl, mRg1, mRg2, mLstRg, mCall, mCallK, mItS, mItR, mItE, mLc, mLc2, mYes, mApp1, mExt, mPopW, mPopAtW, mSetIx, mDPut, mRf, mRfD, pE, pL, pD, mPs, mPar, putP, wE, bnd, pk, liftO, peek, dats, pks, getL, putLρ, putLM, getD, putDρ, putDM, argC, permL, slotA, outV, mFn, setTg, setTgs, gSeq, MO.look, MO.slot, truD, bolD, intD, Slot.own, noOwn, wipeS, capL, gAdd, DL.gSub, gMul, gDiv, gMod, gPow, gLt, gLe, gGt, gGe, gIs, gIsNot, gIx, gLen, gAbs, gMax2, gMin2, gInt, gList, gTuple, gNeg, gI0, gII, gSl, bodE, bodT, bodI, lcF, forGo, lim, Nat.zero_le, Nat.reduceLeDiff, List.map_cons, List.map_nil, List.cons_append, List.nil_append, List.append_nil, List.length_cons, List.length_nil, List.getElem?_cons_zero, List.getElem?_cons_succ, List.getElem?_nil, List.replicate_zero, List.replicate_succ, List.all_cons, List.all_nil, List.any_cons, List.any_nil, List.filterMap_cons, List.filterMap_nil, List.set_cons_zero, List.set_cons_succ, Bool.and_true, Bool.true_and, Bool.and_false, Bool.false_and, Bool.and_self, Bool.or_true, Bool.true_or, Bool.or_false, Bool.false_or, Bool.not_true, Bool.not_false, Nat.zero_add, Nat.add_zero, Nat.reduceAdd, Nat.reduceSub, Nat.reduceMul, Nat.reduceBEq, Nat.reduceEqDiff, Nat.reduceLT, Nat.sub_self, beq_self_eq_true, Option.map_some, Option.map_none, reduceIte, if_true, if_false, Bool.false_eq_true, decide_true, decide_false, reduceCtorEq, Int.reduceLE, Int.reduceLT, Int.reduceNeg, Int.reduceToNat, Int.reduceEq, Int.reducePow, Int.reduceDiv, Int.reduceAdd, Int.reduceSub, Int.reduceMul, true_and, and_true, List.isEmpty_nil, List.isEmpty_cons]
      simp only [l2, mSeq, mIfS, mRet, mDrop, mSet, mSetT, mSetL, mSetD, mFrz, mNext, mBk, mCt, mNever, mFor, mWhile, mVar, mC, mOp, mUn, mTru, mB, mOfT, mAnd, mOr, mNot, mIf, mAndV, mOrV, mNotV, mChain, mNil, mCons, mTup, mLst, mFz, mFzD, mDNew, mDGet, mDIn, mBlt, mBltL, mIsi, mNoO, mSomeO, mSl, mRg1, mRg2, mLstRg, mCall, mCallK, mItS, mItR, mItE, mLc, mLc2, mYes, mApp1, mExt, mPopW, mPopAtW, mSetIx, mDPut, mRf, mRfD, pE, pL, pD, mPs, mPar, putP, wE, bnd, pk, liftO, peek, dats, pks, getL, putLρ, putLM, getD, putDρ, putDM, argC, permL, slotA, outV, mFn, setTg, setTgs, gSeq, MO.look, MO.slot, truD, bolD, intD, Slot.own, noOwn, wipeS, capL, gAdd, DL.gSub, gMul, gDiv, gMod, gPow, gLt, gLe, gGt, gGe, gIs, gIsNot, gIx, gLen, gAbs, gMax2, gMin2, gInt, gList, gTuple, gNeg, gI0, gII, gSl, bodE, bodT, bodI, lcF, forGo, lim, Nat.zero_le, Nat.reduceLeDiff, List.map_cons, List.map_nil, List.cons_append, List.nil_append, List.append_nil, List.length_cons, List.length_nil, List.getElem?_cons_zero, List.getElem?_cons_succ, List.getElem?_nil, List.replicate_zero, List.replicate_succ, List.all_cons, List.all_nil, List.any_cons, List.any_nil, List.filterMap_cons, List.filterMap_nil, List.set_cons_zero, List.set_cons_succ, Bool.and_true, Bool.true_and, Bool.and_false, Bool.false_and, Bool.and_self, Bool.or_true, Bool.true_or, Bool.or_false, Bool.false_or, Bool.not_true, Bool.not_false, Nat.zero_add, Nat.add_zero, Nat.reduceAdd, Nat.reduceSub, Nat.reduceMul, Nat.reduceBEq, Nat.reduceEqDiff, Nat.reduceLT, Nat.sub_self, beq_self_eq_true, Option.map_some, Option.map_none, reduceIte, if_true, if_false, Bool.false_eq_true, decide_true, decide_false, reduceCtorEq, Int.reduceLE, Int.reduceLT, Int.reduceNeg, Int.reduceToNat, Int.reduceEq, Int.reducePow, Int.reduceDiv, Int.reduceAdd, Int.reduceSub, Int.reduceMul, true_and, and_true, List.isEmpty_nil, List.isEmpty_cons]
      obtain ⟨k0, m0, z1, z2⟩ := mid_in hr e hk
      have q1 := ih n (is.filter (lo rs (mid rs is))) M (by have := filt_lt m0 z1; omega) (by omega) fun k m => hk k (List.mem_filter.mp m).1
      have q2 := ih n (is.filter (hi rs (mid rs is))) M (by have := filt_lt m0 z2; omega) (by omega) fun k m => hk k (List.mem_filter.mp m).1
      rw [show n + (N + 1) = n + N + 1 by omega]
      simp only [rD] at q1 q2
      simp only [q1, q2, mSeq, mIfS, mRet, mDrop, mSet, mSetT, mSetL, mSetD, mFrz, mNext, mBk, mCt, mNever, mFor, mWhile, mVar, mC, mOp, mUn, mTru, mB, mOfT, mAnd, mOr, mNot, mIf, mAndV, mOrV, mNotV, mChain, mNil, mCons, mTup, mLst, mFz, mFzD, mDNew, mDGet, mDIn, mBlt, mBltL, mIsi, mNoO, mSomeO, mSl, mRg1, mRg2, mLstRg, mCall, mCallK, mItS, mItR, mItE, mLc, mLc2, mYes, mApp1, mExt, mPopW, mPopAtW, mSetIx, mDPut, mRf, mRfD, pE, pL, pD, mPs, mPar, putP, wE, bnd, pk, liftO, peek, dats, pks, getL, putLρ, putLM, getD, putDρ, putDM, argC, permL, slotA, outV, mFn, setTg, setTgs, gSeq, MO.look, MO.slot, truD, bolD, intD, Slot.own, noOwn, wipeS, capL, gAdd, DL.gSub, gMul, gDiv, gMod, gPow, gLt, gLe, gGt, gGe, gIs, gIsNot, gIx, gLen, gAbs, gMax2, gMin2, gInt, gList, gTuple, gNeg, gI0, gII, gSl, bodE, bodT, bodI, lcF, forGo, lim, Nat.zero_le, Nat.reduceLeDiff, List.map_cons, List.map_nil, List.cons_append, List.nil_append, List.append_nil, List.length_cons, List.length_nil, List.getElem?_cons_zero, List.getElem?_cons_succ, List.getElem?_nil, List.replicate_zero, List.replicate_succ, List.all_cons, List.all_nil, List.any_cons, List.any_nil, List.filterMap_cons, List.filterMap_nil, List.set_cons_zero, List.set_cons_succ, Bool.and_true, Bool.true_and, Bool.and_false, Bool.false_and, Bool.and_self, Bool.or_true, Bool.true_or, Bool.or_false, Bool.false_or, Bool.not_true, Bool.not_false, Nat.zero_add, Nat.add_zero, Nat.reduceAdd, Nat.reduceSub, Nat.reduceMul, Nat.reduceBEq, Nat.reduceEqDiff, Nat.reduceLT, Nat.sub_self, beq_self_eq_true, Option.map_some, Option.map_none, reduceIte, if_true, if_false, Bool.false_eq_true, decide_true, decide_false, reduceCtorEq, Int.reduceLE, Int.reduceLT, Int.reduceNeg, Int.reduceToNat, Int.reduceEq, Int.reducePow, Int.reduceDiv, Int.reduceAdd, Int.reduceSub, Int.reduceMul, true_and, and_true, List.isEmpty_nil, List.isEmpty_cons]
      rw [tr_nd e]
      rfl
/-- all places -/
def all_ (n : Nat) : List Nat := List.range n
theorem rg_all (n : Nat) : rgD 0 (n : Int) = iL (all_ n) := by
  unfold rgD iL all_
  rw [show ((n : Int) - 0).toNat = n by omega]
  refine List.map_congr_left fun k _ => ?_
  show PyData.int (0 + (k : Int)) = _
  rw [Int.zero_add]
  rfl
theorem okRg0 {n : Nat} (h : n ≤ 100000) : okRg 0 (n : Int) = true := by
  unfold okRg
  exact decide_eq_true (by omega)
theorem all_lt {n k : Nat} (h : k ∈ all_ n) : k < n := List.mem_range.mp h
theorem all_len (n : Nat) : (all_ n).length = n := List.length_range
theorem iL_len (is : List Nat) : (iL is).length = is.length := List.length_map _
/-- the tree of rows -/
def tree (rs : List Row) : T := tr rs rs.length (all_ rs.length)
theorem at7 {n : Nat} {as : List Vl} {M : List MO} : callN tab (n + 1) 7 as M = mFn N7.length B7 (callN tab n) as M := rfl
theorem grown_all {rs : List Row} (hr : OkR rs) (n : Nat) (M : List MO) : callN tab (n + 25) 6 [.d (rD rs), .d (.list (iL (all_ rs.length)))] M = some (.d (tD (tree rs)), M) := by
  have := r6 hr rs.length (n + 24 - rs.length) (all_ rs.length) M (by rw [all_len]; exact Nat.le_refl _) hr.len fun k m => all_lt m
  rw [show n + 24 - rs.length + rs.length + 1 = n + 25 by have := hr.len; omega] at this
  exact this
theorem r7 {rs : List Row} (hr : OkR rs) (n : Nat) (M : List MO) : callN tab (n + 26) 7 [.d (rD rs)] M = some (.d (tD (tree rs)), M) := by
  have q := r4 (n := n + 20) (M := M) hr
  have q2 := grown_all hr n M
  have hl := hr.len
  have hl2 : ((rs.length : Int) - 0).toNat ≤ 1000000 := by omega
  have hl3 : okRg 0 (rs.length : Int) = true := okRg0 (by omega)
  rw [at7]
  simp only [rD] at q q2
  simp only [N7, B7, q, rD, List.length_map, mSeq, mIfS, mRet, mDrop, mSet, mSetT, mSetL, mSetD, mFrz, mNext, mBk, mCt, mNever, mFor, mWhile, mVar, mC, mOp, mUn, mTru, mB, mOfT, mAnd, mOr, mNot, mIf, mAndV, mOrV, mNotV, mChain, mNil, mCons, mTup, mLst, mFz, mFzD, mDNew, mDGet, mDIn, mBlt, mBltL, mIsi, mNoO, mSomeO, mSl, mRg1, mRg2, mLstRg, mCall, mCallK, mItS, mItR, mItE, mLc, mLc2, mYes, mApp1, mExt, mPopW, mPopAtW, mSetIx, mDPut, mRf, mRfD, pE, pL, pD, mPs, mPar, putP, wE, bnd, pk, liftO, peek, dats, pks, getL, putLρ, putLM, getD, putDρ, putDM, argC, permL, slotA, outV, mFn, setTg, setTgs, gSeq, MO.look, MO.slot, truD, bolD, intD, Slot.own, noOwn, wipeS, capL, gAdd, DL.gSub, gMul, gDiv, gMod, gPow, gLt, gLe, gGt, gGe, gIs, gIsNot, gIx, gLen, gAbs, gMax2, gMin2, gInt, gList, gTuple, gNeg, gI0, gII, gSl, bodE, bodT, bodI, lcF, forGo, lim, Nat.zero_le, Nat.reduceLeDiff, List.map_cons, List.map_nil, List.cons_append, List.nil_append, List.append_nil, List.length_cons, List.length_nil, List.getElem?_cons_zero, List.getElem?_cons_succ, List.getElem?_nil, List.replicate_zero, List.replicate_succ, List.all_cons, List.all_nil, List.any_cons, List.any_nil, List.filterMap_cons, List.filterMap_nil, List.set_cons_zero, List.set_cons_succ, Bool.and_true, Bool.true_and, Bool.and_false, Bool.false_and, Bool.and_self, Bool.or_true, Bool.true_or, Bool.or_false, Bool.false_or, Bool.not_true, Bool.not_false, Nat.zero_add, Nat.add_zero, Nat.reduceAdd, Nat.reduceSub, Nat.reduceMul, Nat.reduceBEq, Nat.reduceEqDiff, Nat.reduceLT, Nat.sub_self, beq_self_eq_true, Option.map_some, Option.map_none, reduceIte, if_true, if_false, Bool.false_eq_true, decide_true, decide_false, reduceCtorEq, Int.reduceLE, Int.reduceLT, Int.reduceNeg, Int.reduceToNat, Int.reduceEq, Int.reducePow, Int.reduceDiv, Int.reduceAdd, Int.reduceSub, Int.reduceMul, true_and, and_true, List.isEmpty_nil, List.isEmpty_cons]
  simp only [hl2, hl3, rg_all, q2, mSeq, mIfS, mRet, mDrop, mSet, mSetT, mSetL, mSetD, mFrz, mNext, mBk, mCt, mNever, mFor, mWhile, mVar, mC, mOp, mUn, mTru, mB, mOfT, mAnd, mOr, mNot, mIf, mAndV, mOrV, mNotV, mChain, mNil, mCons, mTup, mLst, mFz, mFzD, mDNew, mDGet, mDIn, mBlt, mBltL, mIsi, mNoO, mSomeO, mSl, mRg1, mRg2, mLstRg, mCall, mCallK, mItS, mItR, mItE, mLc, mLc2, mYes, mApp1, mExt, mPopW, mPopAtW, mSetIx, mDPut, mRf, mRfD, pE, pL, pD, mPs, mPar, putP, wE, bnd, pk, liftO, peek, dats, pks, getL, putLρ, putLM, getD, putDρ, putDM, argC, permL, slotA, outV, mFn, setTg, setTgs, gSeq, MO.look, MO.slot, truD, bolD, intD, Slot.own, noOwn, wipeS, capL, gAdd, DL.gSub, gMul, gDiv, gMod, gPow, gLt, gLe, gGt, gGe, gIs, gIsNot, gIx, gLen, gAbs, gMax2, gMin2, gInt, gList, gTuple, gNeg, gI0, gII, gSl, bodE, bodT, bodI, lcF, forGo, lim, Nat.zero_le, Nat.reduceLeDiff, List.map_cons, List.map_nil, List.cons_append, List.nil_append, List.append_nil, List.length_cons, List.length_nil, List.getElem?_cons_zero, List.getElem?_cons_succ, List.getElem?_nil, List.replicate_zero, List.replicate_succ, List.all_cons, List.all_nil, List.any_cons, List.any_nil, List.filterMap_cons, List.filterMap_nil, List.set_cons_zero, List.set_cons_succ, Bool.and_true, Bool.true_and, Bool.and_false, Bool.false_and, Bool.and_self, Bool.or_true, Bool.true_or, Bool.or_false, Bool.false_or, Bool.not_true, Bool.not_false, Nat.zero_add, Nat.add_zero, Nat.reduceAdd, Nat.reduceSub, Nat.reduceMul, Nat.reduceBEq, Nat.reduceEqDiff, Nat.reduceLT, Nat.sub_self, beq_self_eq_true, Option.map_some, Option.map_none, reduceIte, if_true, if_false, Bool.false_eq_true, decide_true, decide_false, reduceCtorEq, Int.reduceLE, Int.reduceLT, Int.reduceNeg, Int.reduceToNat, Int.reduceEq, Int.reducePow, Int.reduceDiv, Int.reduceAdd, Int.reduceSub, Int.reduceMul, true_and, and_true, List.isEmpty_nil, List.isEmpty_cons]
/-! ### the way down -/
def wayT : T → Int → List T
  | .nil, _ => []
  | .nd m h l r, x => .nd m h l r :: (if x = m then [] else if x < m then wayT l x else wayT r x)
theorem at8 {n : Nat} {as : List Vl} {M : List MO} : callN tab (n + 1) 8 as M = mFn N8.length B8 (callN tab n) as M := rfl
theorem seq0 {α : Type} {x : α} {l : List α} : (x :: l)[0]? = some x := rfl
theorem tD_ix0 (m : Int) (h : List Nat) (l r : T) : atI [PyData.int m, .tuple (iL h), tD l, tD r] 0 = some (.int m) := by rfl
theorem tD_ix1 (m : Int) (h : List Nat) (l r : T) : atI [PyData.int m, .tuple (iL h), tD l, tD r] 1 = some (.tuple (iL h)) := by rfl
theorem tD_ix2 (m : Int) (h : List Nat) (l r : T) : atI [PyData.int m, .tuple (iL h), tD l, tD r] 2 = some (tD l) := by rfl
theorem tD_ix3 (m : Int) (h : List Nat) (l r : T) : atI [PyData.int m, .tuple (iL h), tD l, tD r] 3 = some (tD r) := by rfl
theorem gEq_int (i j : Int) : gEq (.int i) (.int j) = some (.bool (decide (i = j))) := by
  rw [gEq_ok (okD_int i) (okD_int j)]
  have : PyData.eqv (.int i) (.int j) = decide (i = j) := by
    simp only [PyData.eqv]
    by_cases h : i = j
    · subst h
      simp
    · simp [h]
  rw [this]
theorem gNe_int (i j : Int) : gNe (.int i) (.int j) = some (.bool (!decide (i = j))) := by
  have h := gEq_int i j
  rw [gEq_ok (okD_int i) (okD_int j)] at h
  rw [gNe_ok (okD_int i) (okD_int j)]
  injection h with h
  injection h with h
  rw [h]
theorem loop8 {rs : List Row} {x : Int} {c : Call} {M : List MO} : ∀ (t : T) (found : List D) (k : Nat), (wayT t x).length < k → found.length + (wayT t x).length < 1000 →
    ∃ ρ', (whGo T8_0 L8_0 c k [.d (rD rs), .d (.int x), .ol found, .d (tD t)] M = some (.nx, ρ', M) ∨ whGo T8_0 L8_0 c k [.d (rD rs), .d (.int x), .ol found, .d (tD t)] M = some (.rt (.v 2), ρ', M)) ∧ ρ'[2]? = some (.ol (found ++ (wayT t x).map tD)) := by
  intro t
  induction t with
  | nil =>
    intro found k hk hf
    cases k with
    | zero => exact absurd hk (Nat.not_lt_zero _)
    | succ k =>
      refine ⟨_, .inl (wh_end ?_), ?_⟩
      · simp only [T8_0, tD, isNone, mSeq, mIfS, mRet, mDrop, mSet, mSetT, mSetL, mSetD, mFrz, mNext, mBk, mCt, mNever, mFor, mWhile, mVar, mC, mOp, mUn, mTru, mB, mOfT, mAnd, mOr, mNot, mIf, mAndV, mOrV, mNotV, mChain, mNil, mCons, mTup, mLst, mFz, mFzD, mDNew, mDGet, mDIn, mBlt, mBltL, mIsi, mNoO, mSomeO, mSl, mRg1, mRg2, mLstRg, mCall, mCallK, mItS, mItR, mItE, mLc, mLc2, mYes, mApp1, mExt, mPopW, mPopAtW, mSetIx, mDPut, mRf, mRfD, pE, pL, pD, mPs, mPar, putP, wE, bnd, pk, liftO, peek, dats, pks, getL, putLρ, putLM, getD, putDρ, putDM, argC, permL, slotA, outV, mFn, setTg, setTgs, gSeq, MO.look, MO.slot, truD, bolD, intD, Slot.own, noOwn, wipeS, capL, gAdd, DL.gSub, gMul, gDiv, gMod, gPow, gLt, gLe, gGt, gGe, gIs, gIsNot, gIx, gLen, gAbs, gMax2, gMin2, gInt, gList, gTuple, gNeg, gI0, gII, gSl, bodE, bodT, bodI, lcF, forGo, lim, Nat.zero_le, Nat.reduceLeDiff, List.map_cons, List.map_nil, List.cons_append, List.nil_append, List.append_nil, List.length_cons, List.length_nil, List.getElem?_cons_zero, List.getElem?_cons_succ, List.getElem?_nil, List.replicate_zero, List.replicate_succ, List.all_cons, List.all_nil, List.any_cons, List.any_nil, List.filterMap_cons, List.filterMap_nil, List.set_cons_zero, List.set_cons_succ, Bool.and_true, Bool.true_and, Bool.and_false, Bool.false_and, Bool.and_self, Bool.or_true, Bool.true_or, Bool.or_false, Bool.false_or, Bool.not_true, Bool.not_false, Nat.zero_add, Nat.add_zero, Nat.reduceAdd, Nat.reduceSub, Nat.reduceMul, Nat.reduceBEq, Nat.reduceEqDiff, Nat.reduceLT, Nat.sub_self, beq_self_eq_true, Option.map_some, Option.map_none, reduceIte, if_true, if_false, Bool.false_eq_true, decide_true, decide_false, reduceCtorEq, Int.reduceLE, Int.reduceLT, Int.reduceNeg, Int.reduceToNat, Int.reduceEq, Int.reducePow, Int.reduceDiv, Int.reduceAdd, Int.reduceSub, Int.reduceMul, true_and, and_true, List.isEmpty_nil, List.isEmpty_cons]
      · simp [wayT]
  | nd m h l r ihl ihr =>
    intro found k hk hf
    cases k with
    | zero => exact absurd hk (Nat.not_lt_zero _)
    | succ k =>
      have ht : T8_0 c [.d (rD rs), .d (.int x), .ol found, .d (tD (.nd m h l r))] M = some (true, M) := by simp only [T8_0, tD, isNone, mSeq, mIfS, mRet, mDrop, mSet, mSetT, mSetL, mSetD, mFrz, mNext, mBk, mCt, mNever, mFor, mWhile, mVar, mC, mOp, mUn, mTru, mB, mOfT, mAnd, mOr, mNot, mIf, mAndV, mOrV, mNotV, mChain, mNil, mCons, mTup, mLst, mFz, mFzD, mDNew, mDGet, mDIn, mBlt, mBltL, mIsi, mNoO, mSomeO, mSl, mRg1, mRg2, mLstRg, mCall, mCallK, mItS, mItR, mItE, mLc, mLc2, mYes, mApp1, mExt, mPopW, mPopAtW, mSetIx, mDPut, mRf, mRfD, pE, pL, pD, mPs, mPar, putP, wE, bnd, pk, liftO, peek, dats, pks, getL, putLρ, putLM, getD, putDρ, putDM, argC, permL, slotA, outV, mFn, setTg, setTgs, gSeq, MO.look, MO.slot, truD, bolD, intD, Slot.own, noOwn, wipeS, capL, gAdd, DL.gSub, gMul, gDiv, gMod, gPow, gLt, gLe, gGt, gGe, gIs, gIsNot, gIx, gLen, gAbs, gMax2, gMin2, gInt, gList, gTuple, gNeg, gI0, gII, gSl, bodE, bodT, bodI, lcF, forGo, lim, Nat.zero_le, Nat.reduceLeDiff, List.map_cons, List.map_nil, List.cons_append, List.nil_append, List.append_nil, List.length_cons, List.length_nil, List.getElem?_cons_zero, List.getElem?_cons_succ, List.getElem?_nil, List.replicate_zero, List.replicate_succ, List.all_cons, List.all_nil, List.any_cons, List.any_nil, List.filterMap_cons, List.filterMap_nil, List.set_cons_zero, List.set_cons_succ, Bool.and_true, Bool.true_and, Bool.and_false, Bool.false_and, Bool.and_self, Bool.or_true, Bool.true_or, Bool.or_false, Bool.false_or, Bool.not_true, Bool.not_false, Nat.zero_add, Nat.add_zero, Nat.reduceAdd, Nat.reduceSub, Nat.reduceMul, Nat.reduceBEq, Nat.reduceEqDiff, Nat.reduceLT, Nat.sub_self, beq_self_eq_true, Option.map_some, Option.map_none, reduceIte, if_true, if_false, Bool.false_eq_true, decide_true, decide_false, reduceCtorEq, Int.reduceLE, Int.reduceLT, Int.reduceNeg, Int.reduceToNat, Int.reduceEq, Int.reducePow, Int.reduceDiv, Int.reduceAdd, Int.reduceSub, Int.reduceMul, true_and, and_true, List.isEmpty_nil, List.isEmpty_cons]
      have hfl : found.length < 1000000 := by omega
      by_cases e : x = m
      · refine ⟨[.d (rD rs), .d (.int x), .ol (found ++ [tD (.nd m h l r)]), .d (tD (.nd m h l r))], .inr (wh_rt ht ?_), ?_⟩
        · simp only [L8_0, tD, tD_ix0, gEq_int, e, hfl, mSeq, mIfS, mRet, mDrop, mSet, mSetT, mSetL, mSetD, mFrz, mNext, mBk, mCt, mNever, mFor, mWhile, mVar, mC, mOp, mUn, mTru, mB, mOfT, mAnd, mOr, mNot, mIf, mAndV, mOrV, mNotV, mChain, mNil, mCons, mTup, mLst, mFz, mFzD, mDNew, mDGet, mDIn, mBlt, mBltL, mIsi, mNoO, mSomeO, mSl, mRg1, mRg2, mLstRg, mCall, mCallK, mItS, mItR, mItE, mLc, mLc2, mYes, mApp1, mExt, mPopW, mPopAtW, mSetIx, mDPut, mRf, mRfD, pE, pL, pD, mPs, mPar, putP, wE, bnd, pk, liftO, peek, dats, pks, getL, putLρ, putLM, getD, putDρ, putDM, argC, permL, slotA, outV, mFn, setTg, setTgs, gSeq, MO.look, MO.slot, truD, bolD, intD, Slot.own, noOwn, wipeS, capL, gAdd, DL.gSub, gMul, gDiv, gMod, gPow, gLt, gLe, gGt, gGe, gIs, gIsNot, gIx, gLen, gAbs, gMax2, gMin2, gInt, gList, gTuple, gNeg, gI0, gII, gSl, bodE, bodT, bodI, lcF, forGo, lim, Nat.zero_le, Nat.reduceLeDiff, List.map_cons, List.map_nil, List.cons_append, List.nil_append, List.append_nil, List.length_cons, List.length_nil, List.getElem?_cons_zero, List.getElem?_cons_succ, List.getElem?_nil, List.replicate_zero, List.replicate_succ, List.all_cons, List.all_nil, List.any_cons, List.any_nil, List.filterMap_cons, List.filterMap_nil, List.set_cons_zero, List.set_cons_succ, Bool.and_true, Bool.true_and, Bool.and_false, Bool.false_and, Bool.and_self, Bool.or_true, Bool.true_or, Bool.or_false, Bool.false_or, Bool.not_true, Bool.not_false, Nat.zero_add, Nat.add_zero, Nat.reduceAdd, Nat.reduceSub, Nat.reduceMul, Nat.reduceBEq, Nat.reduceEqDiff, Nat.reduceLT, Nat.sub_self, beq_self_eq_true, Option.map_some, Option.map_none, reduceIte, if_true, if_false, Bool.false_eq_true, decide_true, decide_false, reduceCtorEq, Int.reduceLE, Int.reduceLT, Int.reduceNeg, Int.reduceToNat, Int.reduceEq, Int.reducePow, Int.reduceDiv, Int.reduceAdd, Int.reduceSub, Int.reduceMul, true_and, and_true, List.isEmpty_nil, List.isEmpty_cons]
        · simp [wayT, e]
      · have hb : ∀ y : D, (if x < m then tD l else tD r) = y → L8_0 c [.d (rD rs), .d (.int x), .ol found, .d (tD (.nd m h l r))] M = some (.nx, [.d (rD rs), .d (.int x), .ol (found ++ [tD (.nd m h l r)]), .d y], M) := by
          intro y hy
          subst hy
          simp only [L8_0, tD, tD_ix0, tD_ix2, tD_ix3, gEq_int, e, hfl, mSeq, mIfS, mRet, mDrop, mSet, mSetT, mSetL, mSetD, mFrz, mNext, mBk, mCt, mNever, mFor, mWhile, mVar, mC, mOp, mUn, mTru, mB, mOfT, mAnd, mOr, mNot, mIf, mAndV, mOrV, mNotV, mChain, mNil, mCons, mTup, mLst, mFz, mFzD, mDNew, mDGet, mDIn, mBlt, mBltL, mIsi, mNoO, mSomeO, mSl, mRg1, mRg2, mLstRg, mCall, mCallK, mItS, mItR, mItE, mLc, mLc2, mYes, mApp1, mExt, mPopW, mPopAtW, mSetIx, mDPut, mRf, mRfD, pE, pL, pD, mPs, mPar, putP, wE, bnd, pk, liftO, peek, dats, pks, getL, putLρ, putLM, getD, putDρ, putDM, argC, permL, slotA, outV, mFn, setTg, setTgs, gSeq, MO.look, MO.slot, truD, bolD, intD, Slot.own, noOwn, wipeS, capL, gAdd, DL.gSub, gMul, gDiv, gMod, gPow, gLt, gLe, gGt, gGe, gIs, gIsNot, gIx, gLen, gAbs, gMax2, gMin2, gInt, gList, gTuple, gNeg, gI0, gII, gSl, bodE, bodT, bodI, lcF, forGo, lim, Nat.zero_le, Nat.reduceLeDiff, List.map_cons, List.map_nil, List.cons_append, List.nil_append, List.append_nil, List.length_cons, List.length_nil, List.getElem?_cons_zero, List.getElem?_cons_succ, List.getElem?_nil, List.replicate_zero, List.replicate_succ, List.all_cons, List.all_nil, List.any_cons, List.any_nil, List.filterMap_cons, List.filterMap_nil, List.set_cons_zero, List.set_cons_succ, Bool.and_true, Bool.true_and, Bool.and_false, Bool.false_and, Bool.and_self, Bool.or_true, Bool.true_or, Bool.or_false, Bool.false_or, Bool.not_true, Bool.not_false, Nat.zero_add, Nat.add_zero, Nat.reduceAdd, Nat.reduceSub, Nat.reduceMul, Nat.reduceBEq, Nat.reduceEqDiff, Nat.reduceLT, Nat.sub_self, beq_self_eq_true, Option.map_some, Option.map_none, reduceIte, if_true, if_false, Bool.false_eq_true, decide_true, decide_false, reduceCtorEq, Int.reduceLE, Int.reduceLT, Int.reduceNeg, Int.reduceToNat, Int.reduceEq, Int.reducePow, Int.reduceDiv, Int.reduceAdd, Int.reduceSub, Int.reduceMul, true_and, and_true, List.isEmpty_nil, List.isEmpty_cons]
          by_cases e2 : x < m
          · simp only [e2, tD_ix2, mSeq, mIfS, mRet, mDrop, mSet, mSetT, mSetL, mSetD, mFrz, mNext, mBk, mCt, mNever, mFor, mWhile, mVar, mC, mOp, mUn, mTru, mB, mOfT, mAnd, mOr, mNot, mIf, mAndV, mOrV, mNotV, mChain, mNil, mCons, mTup, mLst, mFz, mFzD, mDNew, mDGet, mDIn, mBlt, mBltL, mIsi, mNoO, mSomeO, mSl, mRg1, mRg2, mLstRg, mCall, mCallK, mItS, mItR, mItE, mLc, mLc2, mYes, mApp1, mExt, mPopW, mPopAtW, mSetIx, mDPut, mRf, mRfD, pE, pL, pD, mPs, mPar, putP, wE, bnd, pk, liftO, peek, dats, pks, getL, putLρ, putLM, getD, putDρ, putDM, argC, permL, slotA, outV, mFn, setTg, setTgs, gSeq, MO.look, MO.slot, truD, bolD, intD, Slot.own, noOwn, wipeS, capL, gAdd, DL.gSub, gMul, gDiv, gMod, gPow, gLt, gLe, gGt, gGe, gIs, gIsNot, gIx, gLen, gAbs, gMax2, gMin2, gInt, gList, gTuple, gNeg, gI0, gII, gSl, bodE, bodT, bodI, lcF, forGo, lim, Nat.zero_le, Nat.reduceLeDiff, List.map_cons, List.map_nil, List.cons_append, List.nil_append, List.append_nil, List.length_cons, List.length_nil, List.getElem?_cons_zero, List.getElem?_cons_succ, List.getElem?_nil, List.replicate_zero, List.replicate_succ, List.all_cons, List.all_nil, List.any_cons, List.any_nil, List.filterMap_cons, List.filterMap_nil, List.set_cons_zero, List.set_cons_succ, Bool.and_true, Bool.true_and, Bool.and_false, Bool.false_and, Bool.and_self, Bool.or_true, Bool.true_or, Bool.or_false, Bool.false_or, Bool.not_true, Bool.not_false, Nat.zero_add, Nat.add_zero, Nat.reduceAdd, Nat.reduceSub, Nat.reduceMul, Nat.reduceBEq, Nat.reduceEqDiff, Nat.reduceLT, Nat.sub_self, beq_self_eq_true, Option.map_some, Option.map_none, reduceIte, if_true, if_false, Bool.false_eq_true, decide_true, decide_false, reduceCtorEq, Int.reduceLE, Int.reduceLT, Int.reduceNeg, Int.reduceToNat, Int.reduceEq, Int.reducePow, Int.reduceDiv, Int.reduceAdd, Int.reduceSub, Int.reduceMul, true_and, and_true, List.isEmpty_nil, List.isEmpty_cons]
          · simp only [e2, tD_ix3, mSeq, mIfS, mRet, mDrop, mSet, mSetT, mSetL, mSetD, mFrz, mNext, mBk, mCt, mNever, mFor, mWhile, mVar, mC, mOp, mUn, mTru, mB, mOfT, mAnd, mOr, mNot, mIf, mAndV, mOrV, mNotV, mChain, mNil, mCons, mTup, mLst, mFz, mFzD, mDNew, mDGet, mDIn, mBlt, mBltL, mIsi, mNoO, mSomeO, mSl, mRg1, mRg2, mLstRg, mCall, mCallK, mItS, mItR, mItE, mLc, mLc2, mYes, mApp1, mExt, mPopW, mPopAtW, mSetIx, mDPut, mRf, mRfD, pE, pL, pD, mPs, mPar, putP, wE, bnd, pk, liftO, peek, dats, pks, getL, putLρ, putLM, getD, putDρ, putDM, argC, permL, slotA, outV, mFn, setTg, setTgs, gSeq, MO.look, MO.slot, truD, bolD, intD, Slot.own, noOwn, wipeS, capL, gAdd, DL.gSub, gMul, gDiv, gMod, gPow, gLt, gLe, gGt, gGe, gIs, gIsNot, gIx, gLen, gAbs, gMax2, gMin2, gInt, gList, gTuple, gNeg, gI0, gII, gSl, bodE, bodT, bodI, lcF, forGo, lim, Nat.zero_le, Nat.reduceLeDiff, List.map_cons, List.map_nil, List.cons_append, List.nil_append, List.append_nil, List.length_cons, List.length_nil, List.getElem?_cons_zero, List.getElem?_cons_succ, List.getElem?_nil, List.replicate_zero, List.replicate_succ, List.all_cons, List.all_nil, List.any_cons, List.any_nil, List.filterMap_cons, List.filterMap_nil, List.set_cons_zero, List.set_cons_succ, Bool.and_true, Bool.true_and, Bool.and_false, Bool.false_and, Bool.and_self, Bool.or_true, Bool.true_or, Bool.or_false, Bool.false_or, Bool.not_true, Bool.not_false, Nat.zero_add, Nat.add_zero, Nat.reduceAdd, Nat.reduceSub, Nat.reduceMul, Nat.reduceBEq, Nat.reduceEqDiff, Nat.reduceLT, Nat.sub_self, beq_self_eq_true, Option.map_some, Option.map_none, reduceIte, if_true, if_false, Bool.false_eq_true, decide_true, decide_false, reduceCtorEq, Int.reduceLE, Int.reduceLT, Int.reduceNeg, Int.reduceToNat, Int.reduceEq, Int.reducePow, Int.reduceDiv, Int.reduceAdd, Int.reduceSub, Int.reduceMul, true_and, and_true, List.isEmpty_nil, List.isEmpty_cons]
        have hw : wayT (.nd m h l r) x = .nd m h l r :: (if x < m then wayT l x else wayT r x) := by rw [wayT, if_neg e]
        rw [hw] at hk hf
        by_cases e2 : x < m
        · rw [if_pos e2] at hk hf
          rw [List.length_cons] at hk hf
          obtain ⟨ρ', h1, h2⟩ := ihl (found ++ [tD (.nd m h l r)]) k (by omega) (by rw [List.length_append, List.length_singleton]; omega)
          refine ⟨ρ', ?_, ?_⟩
          · rw [wh_nx ht (hb _ (if_pos e2))]
            exact h1
          · rw [h2, hw, if_pos e2]
            simp
        · rw [if_neg e2] at hk hf
          rw [List.length_cons] at hk hf
          obtain ⟨ρ', h1, h2⟩ := ihr (found ++ [tD (.nd m h l r)]) k (by omega) (by rw [List.length_append, List.length_singleton]; omega)
          refine ⟨ρ', ?_, ?_⟩
          · rw [wh_nx ht (hb _ (if_neg e2))]
            exact h1
          · rw [h2, hw, if_neg e2]
            simp
theorem way_len (rs : List Row) (x : Int) : ∀ (N : Nat) (is : List Nat), (wayT (tr rs N is) x).length ≤ N
  | 0, _ => Nat.le_refl _
  | N + 1, is => by
    by_cases e : is = []
    · rw [e, tr_nil]
      exact Nat.zero_le _
    · rw [tr_nd e, wayT, List.length_cons]
      split
      · exact Nat.le_add_left _ _
      · split
        · exact Nat.succ_le_succ (way_len rs x N _)
        · exact Nat.succ_le_succ (way_len rs x N _)
theorem r8 {rs : List Row} (hr : OkR rs) (n : Nat) (x : Int) (M : List MO) : callN tab (n + 26) 8 [.d (rD rs), .d (.int x)] M = some (.d (.list ((wayT (tree rs) x).map tD)), M) := by
  have q2 := grown_all hr n M
  have hl := hr.len
  have hl2 : ((rs.length : Int) - 0).toNat ≤ 1000000 := by omega
  have hl3 : okRg 0 (rs.length : Int) = true := okRg0 (by omega)
  have hw := way_len rs x rs.length (all_ rs.length)
  have hw : (wayT (tree rs) x).length ≤ rs.length := hw
  obtain ⟨ρ', h1, h2⟩ := loop8 (rs := rs) (x := x) (c := callN tab (n + 25)) (M := M) (tree rs) [] lim (by unfold lim; omega) (by simp only [List.length_nil]; omega)
  rw [at8]
  simp only [rD] at q2
  have e8 : B8 (callN tab (n + 25)) [.d (rD rs), .d (.int x), .un, .un] M = some (.rt (.v 2), ρ', M) := by
    unfold B8
    rw [seq_nx (ρ1 := [.d (rD rs), .d (.int x), .ol [], .d (tD (tree rs))]) (M1 := M) (by simp only [rD, List.length_map, hl2, hl3, rg_all, q2, mSeq, mIfS, mRet, mDrop, mSet, mSetT, mSetL, mSetD, mFrz, mNext, mBk, mCt, mNever, mFor, mWhile, mVar, mC, mOp, mUn, mTru, mB, mOfT, mAnd, mOr, mNot, mIf, mAndV, mOrV, mNotV, mChain, mNil, mCons, mTup, mLst, mFz, mFzD, mDNew, mDGet, mDIn, mBlt, mBltL, mIsi, mNoO, mSomeO, mSl, mRg1, mRg2, mLstRg, mCall, mCallK, mItS, mItR, mItE, mLc, mLc2, mYes, mApp1, mExt, mPopW, mPopAtW, mSetIx, mDPut, mRf, mRfD, pE, pL, pD, mPs, mPar, putP, wE, bnd, pk, liftO, peek, dats, pks, getL, putLρ, putLM, getD, putDρ, putDM, argC, permL, slotA, outV, mFn, setTg, setTgs, gSeq, MO.look, MO.slot, truD, bolD, intD, Slot.own, noOwn, wipeS, capL, gAdd, DL.gSub, gMul, gDiv, gMod, gPow, gLt, gLe, gGt, gGe, gIs, gIsNot, gIx, gLen, gAbs, gMax2, gMin2, gInt, gList, gTuple, gNeg, gI0, gII, gSl, bodE, bodT, bodI, lcF, forGo, lim, Nat.zero_le, Nat.reduceLeDiff, List.map_cons, List.map_nil, List.cons_append, List.nil_append, List.append_nil, List.length_cons, List.length_nil, List.getElem?_cons_zero, List.getElem?_cons_succ, List.getElem?_nil, List.replicate_zero, List.replicate_succ, List.all_cons, List.all_nil, List.any_cons, List.any_nil, List.filterMap_cons, List.filterMap_nil, List.set_cons_zero, List.set_cons_succ, Bool.and_true, Bool.true_and, Bool.and_false, Bool.false_and, Bool.and_self, Bool.or_true, Bool.true_or, Bool.or_false, Bool.false_or, Bool.not_true, Bool.not_false, Nat.zero_add, Nat.add_zero, Nat.reduceAdd, Nat.reduceSub, Nat.reduceMul, Nat.reduceBEq, Nat.reduceEqDiff, Nat.reduceLT, Nat.sub_self, beq_self_eq_true, Option.map_some, Option.map_none, reduceIte, if_true, if_false, Bool.false_eq_true, decide_true, decide_false, reduceCtorEq, Int.reduceLE, Int.reduceLT, Int.reduceNeg, Int.reduceToNat, Int.reduceEq, Int.reducePow, Int.reduceDiv, Int.reduceAdd, Int.reduceSub, Int.reduceMul, true_and, and_true, List.isEmpty_nil, List.isEmpty_cons])]
    rcases h1 with h1 | h1
    · rw [seq_nx (ρ1 := ρ') (M1 := M) (by unfold mWhile; exact h1)]
      unfold mRet mVar
      rw [h2]
    · exact seq_rt (by unfold mWhile; exact h1)
  rw [fn_rt (x := .v 2) (ρ' := ρ') (M' := M) e8]
  simp only [outV, h2]
  rfl
end K03
set_option Elab.async false
set_option linter.all false
set_option maxRecDepth 100000
set_option maxHeartbeats 4000000
/-! k03: stabbed, visited -/
namespace K03
open PySem L2 DL
def T.root : T → Int
  | .nil => 0
  | .nd m _ _ _ => m
def T.here : T → List Nat
  | .nil => []
  | .nd _ h _ _ => h
def wayM (t : T) (x : Int) : List Int := (wayT t x).map T.root
def wayH (t : T) (x : Int) : List Nat := (wayT t x).flatMap T.here
theorem way_nd (x : Int) : ∀ (t u : T), u ∈ wayT t x → ∃ m h l r, u = .nd m h l r
  | .nil, u, e => by cases e
  | .nd m h l r, u, e => by
    rw [wayT] at e
    rcases List.mem_cons.mp e with e | e
    · exact ⟨m, h, l, r, e⟩
    · split at e
      · cases e
      · split at e
        · exact way_nd x l u e
        · exact way_nd x r u e
theorem way_in (rs : List Row) (x : Int) : ∀ (N : Nat) (is : List Nat) (u : T), u ∈ wayT (tr rs N is) x → ∀ k ∈ u.here, k ∈ is
  | 0, is, u, e => by cases e
  | N + 1, is, u, e => by
    by_cases z : is = []
    · rw [z, tr_nil] at e
      cases e
    · rw [tr_nd z, wayT] at e
      rcases List.mem_cons.mp e with e | e
      · subst e
        intro k m
        exact (List.mem_filter.mp m).1
      · split at e
        · cases e
        · split at e
          · exact fun k m => (List.mem_filter.mp (way_in rs x N _ u e k m)).1
          · exact fun k m => (List.mem_filter.mp (way_in rs x N _ u e k m)).1
def stab (rs : List Row) (x : Int) (k : Nat) : Bool := decide ((at_ rs k).1 ≤ x) && decide (x < (at_ rs k).2)
def sN (is : List Nat) : List D := (PySem.W.sortI (is.map fun (k : Nat) => (k : Int))).map .int
theorem gSorted_iL (is : List Nat) : gSortedI [.list (iL is)] = some (sN is) := by
  have e : iL is = (is.map fun (k : Nat) => (k : Int)).map .int := by
    unfold iL
    rw [List.map_map]
    rfl
  rw [e, gSortedI_map]
  rfl
theorem sN_len (is : List Nat) : (sN is).length = is.length := by
  unfold sN
  rw [List.length_map, (sortI_perm _).length_eq, List.length_map]
theorem at10 {n : Nat} {as : List Vl} {M : List MO} : callN tab (n + 1) 10 as M = mFn N10.length B10 (callN tab n) as M := rfl
theorem r10 {rs : List Row} (hr : OkR rs) (n : Nat) (x : Int) (M : List MO) : callN tab (n + 27) 10 [.d (rD rs), .d (.int x)] M = some (.d (.tuple ((wayM (tree rs) x).map .int)), M) := by
  have q4 := r4 (n := n + 21) (M := M) hr
  have q5 := r5 (n := n + 24) (i := x) (M := M)
  have q8 := r8 hr n x M
  have hl := hr.len
  have hw : (wayT (tree rs) x).length ≤ rs.length := way_len rs x rs.length (all_ rs.length)
  have hw2 : ((wayT (tree rs) x).map fun t => PyData.int t.root).length ≤ 1000000 := by rw [List.length_map]; omega
  rw [at10]
  simp only [N10, B10, q4, q5, q8, mSeq, mIfS, mRet, mDrop, mSet, mSetT, mSetL, mSetD, mFrz, mNext, mBk, mCt, mNever, mFor, mWhile, mVar, mC, mOp, mUn, mTru, mB, mOfT, mAnd, mOr, mNot, mIf, mAndV, mOrV, mNotV, mChain, mNil, mCons, mTup, mLst, mFz, mFzD, mDNew, mDGet, mDIn, mBlt, mBltL, mIsi, mNoO, mSomeO, mSl, mRg1, mRg2, mLstRg, mCall, mCallK, mItS, mItR, mItE, mLc, mLc2, mYes, mApp1, mExt, mPopW, mPopAtW, mSetIx, mDPut, mRf, mRfD, pE, pL, pD, mPs, mPar, putP, wE, bnd, pk, liftO, peek, dats, pks, getL, putLρ, putLM, getD, putDρ, putDM, argC, permL, slotA, outV, mFn, setTg, setTgs, gSeq, MO.look, MO.slot, truD, bolD, intD, Slot.own, noOwn, wipeS, capL, gAdd, DL.gSub, gMul, gDiv, gMod, gPow, gLt, gLe, gGt, gGe, gIs, gIsNot, gIx, gLen, gAbs, gMax2, gMin2, gInt, gList, gTuple, gNeg, gI0, gII, gSl, bodE, bodT, bodI, lcF, forGo, lim, Nat.zero_le, Nat.reduceLeDiff, List.map_cons, List.map_nil, List.cons_append, List.nil_append, List.append_nil, List.length_cons, List.length_nil, List.getElem?_cons_zero, List.getElem?_cons_succ, List.getElem?_nil, List.replicate_zero, List.replicate_succ, List.all_cons, List.all_nil, List.any_cons, List.any_nil, List.filterMap_cons, List.filterMap_nil, List.set_cons_zero, List.set_cons_succ, Bool.and_true, Bool.true_and, Bool.and_false, Bool.false_and, Bool.and_self, Bool.or_true, Bool.true_or, Bool.or_false, Bool.false_or, Bool.not_true, Bool.not_false, Nat.zero_add, Nat.add_zero, Nat.reduceAdd, Nat.reduceSub, Nat.reduceMul, Nat.reduceBEq, Nat.reduceEqDiff, Nat.reduceLT, Nat.sub_self, beq_self_eq_true, Option.map_some, Option.map_none, reduceIte, if_true, if_false, Bool.false_eq_true, decide_true, decide_false, reduceCtorEq, Int.reduceLE, Int.reduceLT, Int.reduceNeg, Int.reduceToNat, Int.reduceEq, Int.reducePow, Int.reduceDiv, Int.reduceAdd, Int.reduceSub, Int.reduceMul, true_and, and_true, List.isEmpty_nil, List.isEmpty_cons]
  rw [lcF_map (g := fun t => .int t.root)]
  rotate_left
  · intro t ht
    obtain ⟨m, h, l, r, rfl⟩ := way_nd x _ _ ht
    simp only [tD, tD_ix0, T.root, mSeq, mIfS, mRet, mDrop, mSet, mSetT, mSetL, mSetD, mFrz, mNext, mBk, mCt, mNever, mFor, mWhile, mVar, mC, mOp, mUn, mTru, mB, mOfT, mAnd, mOr, mNot, mIf, mAndV, mOrV, mNotV, mChain, mNil, mCons, mTup, mLst, mFz, mFzD, mDNew, mDGet, mDIn, mBlt, mBltL, mIsi, mNoO, mSomeO, mSl, mRg1, mRg2, mLstRg, mCall, mCallK, mItS, mItR, mItE, mLc, mLc2, mYes, mApp1, mExt, mPopW, mPopAtW, mSetIx, mDPut, mRf, mRfD, pE, pL, pD, mPs, mPar, putP, wE, bnd, pk, liftO, peek, dats, pks, getL, putLρ, putLM, getD, putDρ, putDM, argC, permL, slotA, outV, mFn, setTg, setTgs, gSeq, MO.look, MO.slot, truD, bolD, intD, Slot.own, noOwn, wipeS, capL, gAdd, DL.gSub, gMul, gDiv, gMod, gPow, gLt, gLe, gGt, gGe, gIs, gIsNot, gIx, gLen, gAbs, gMax2, gMin2, gInt, gList, gTuple, gNeg, gI0, gII, gSl, bodE, bodT, bodI, lcF, forGo, lim, Nat.zero_le, Nat.reduceLeDiff, List.map_cons, List.map_nil, List.cons_append, List.nil_append, List.append_nil, List.length_cons, List.length_nil, List.getElem?_cons_zero, List.getElem?_cons_succ, List.getElem?_nil, List.replicate_zero, List.replicate_succ, List.all_cons, List.all_nil, List.any_cons, List.any_nil, List.filterMap_cons, List.filterMap_nil, List.set_cons_zero, List.set_cons_succ, Bool.and_true, Bool.true_and, Bool.and_false, Bool.false_and, Bool.and_self, Bool.or_true, Bool.true_or, Bool.or_false, Bool.false_or, Bool.not_true, Bool.not_false, Nat.zero_add, Nat.add_zero, Nat.reduceAdd, Nat.reduceSub, Nat.reduceMul, Nat.reduceBEq, Nat.reduceEqDiff, Nat.reduceLT, Nat.sub_self, beq_self_eq_true, Option.map_some, Option.map_none, reduceIte, if_true, if_false, Bool.false_eq_true, decide_true, decide_false, reduceCtorEq, Int.reduceLE, Int.reduceLT, Int.reduceNeg, Int.reduceToNat, Int.reduceEq, Int.reducePow, Int.reduceDiv, Int.reduceAdd, Int.reduceSub, Int.reduceMul, true_and, and_true, List.isEmpty_nil, List.isEmpty_cons]
  simp only [hw2, mSeq, mIfS, mRet, mDrop, mSet, mSetT, mSetL, mSetD, mFrz, mNext, mBk, mCt, mNever, mFor, mWhile, mVar, mC, mOp, mUn, mTru, mB, mOfT, mAnd, mOr, mNot, mIf, mAndV, mOrV, mNotV, mChain, mNil, mCons, mTup, mLst, mFz, mFzD, mDNew, mDGet, mDIn, mBlt, mBltL, mIsi, mNoO, mSomeO, mSl, mRg1, mRg2, mLstRg, mCall, mCallK, mItS, mItR, mItE, mLc, mLc2, mYes, mApp1, mExt, mPopW, mPopAtW, mSetIx, mDPut, mRf, mRfD, pE, pL, pD, mPs, mPar, putP, wE, bnd, pk, liftO, peek, dats, pks, getL, putLρ, putLM, getD, putDρ, putDM, argC, permL, slotA, outV, mFn, setTg, setTgs, gSeq, MO.look, MO.slot, truD, bolD, intD, Slot.own, noOwn, wipeS, capL, gAdd, DL.gSub, gMul, gDiv, gMod, gPow, gLt, gLe, gGt, gGe, gIs, gIsNot, gIx, gLen, gAbs, gMax2, gMin2, gInt, gList, gTuple, gNeg, gI0, gII, gSl, bodE, bodT, bodI, lcF, forGo, lim, Nat.zero_le, Nat.reduceLeDiff, List.map_cons, List.map_nil, List.cons_append, List.nil_append, List.append_nil, List.length_cons, List.length_nil, List.getElem?_cons_zero, List.getElem?_cons_succ, List.getElem?_nil, List.replicate_zero, List.replicate_succ, List.all_cons, List.all_nil, List.any_cons, List.any_nil, List.filterMap_cons, List.filterMap_nil, List.set_cons_zero, List.set_cons_succ, Bool.and_true, Bool.true_and, Bool.and_false, Bool.false_and, Bool.and_self, Bool.or_true, Bool.true_or, Bool.or_false, Bool.false_or, Bool.not_true, Bool.not_false, Nat.zero_add, Nat.add_zero, Nat.reduceAdd, Nat.reduceSub, Nat.reduceMul, Nat.reduceBEq, Nat.reduceEqDiff, Nat.reduceLT, Nat.sub_self, beq_self_eq_true, Option.map_some, Option.map_none, reduceIte, if_true, if_false, Bool.false_eq_true, decide_true, decide_false, reduceCtorEq, Int.reduceLE, Int.reduceLT, Int.reduceNeg, Int.reduceToNat, Int.reduceEq, Int.reducePow, Int.reduceDiv, Int.reduceAdd, Int.reduceSub, Int.reduceMul, true_and, and_true, List.isEmpty_nil, List.isEmpty_cons]
  unfold wayM
  rw [List.map_map]
  rfl
theorem at9 {n : Nat} {as : List Vl} {M : List MO} : callN tab (n + 1) 9 as M = mFn N9.length B9 (callN tab n) as M := rfl
theorem here_len (rs : List Row) (x : Int) : ∀ (N : Nat) (is : List Nat), (wayH (tr rs N is) x).length ≤ is.length * N
  | 0, is => Nat.zero_le _
  | N + 1, is => by
    unfold wayH
    by_cases z : is = []
    · rw [z, tr_nil]
      exact Nat.zero_le _
    · rw [tr_nd z, wayT, List.flatMap_cons, List.length_append]
      have h1 : (is.filter (md rs (mid rs is))).length ≤ is.length := List.length_filter_le _ _
      have h2 : T.here (.nd (mid rs is) (is.filter (md rs (mid rs is))) (tr rs N (is.filter (lo rs (mid rs is)))) (tr rs N (is.filter (hi rs (mid rs is))))) = is.filter (md rs (mid rs is)) := rfl
      rw [h2, Nat.mul_succ]
      have key : ∀ p : Nat → Bool, (List.flatMap T.here (wayT (tr rs N (is.filter p)) x)).length ≤ is.length * N := fun p => Nat.le_trans (here_len rs x N (is.filter p)) (Nat.mul_le_mul_right _ (List.length_filter_le _ _))
      split
      · simp only [List.flatMap_nil, List.length_nil]
        omega
      · split
        · have := key (lo rs (mid rs is))
          omega
        · have := key (hi rs (mid rs is))
          omega
theorem r9 {rs : List Row} (hr : OkR rs) (n : Nat) (x : Int) (M : List MO) : callN tab (n + 27) 9 [.d (rD rs), .d (.int x)] M = some (.d (.tuple (sN ((wayH (tree rs) x).filter (stab rs x)))), M) := by
  have q4 := r4 (n := n + 21) (M := M) hr
  have q5 := r5 (n := n + 24) (i := x) (M := M)
  have q8 := r8 hr n x M
  have hl := hr.len
  have hh : (wayH (tree rs) x).length ≤ (all_ rs.length).length * rs.length := here_len rs x rs.length (all_ rs.length)
  rw [all_len] at hh
  have hh1 : rs.length * rs.length ≤ 24 * 24 := Nat.mul_le_mul hl hl
  have hh2 : (iL (wayH (tree rs) x)).length ≤ 1000000 := by rw [iL_len]; omega
  have hh3 : (iL ((wayH (tree rs) x).filter (stab rs x))).length ≤ 1000000 := by rw [iL_len]; have := List.length_filter_le (stab rs x) (wayH (tree rs) x); omega
  have hin : ∀ k ∈ wayH (tree rs) x, k < rs.length := fun k m => by
    unfold wayH at m
    obtain ⟨u, hu, hk⟩ := List.mem_flatMap.mp m
    exact all_lt (way_in rs x rs.length (all_ rs.length) u hu k hk)
  have hw : ∀ k ∈ wayH (tree rs) x, atI (rs.map pr) (k : Int) = some (pr (at_ rs k)) := fun k m => row_at (hin k m)
  rw [at9]
  simp only [N9, B9, q4, q5, q8, mSeq, mIfS, mRet, mDrop, mSet, mSetT, mSetL, mSetD, mFrz, mNext, mBk, mCt, mNever, mFor, mWhile, mVar, mC, mOp, mUn, mTru, mB, mOfT, mAnd, mOr, mNot, mIf, mAndV, mOrV, mNotV, mChain, mNil, mCons, mTup, mLst, mFz, mFzD, mDNew, mDGet, mDIn, mBlt, mBltL, mIsi, mNoO, mSomeO, mSl, mRg1, mRg2, mLstRg, mCall, mCallK, mItS, mItR, mItE, mLc, mLc2, mYes, mApp1, mExt, mPopW, mPopAtW, mSetIx, mDPut, mRf, mRfD, pE, pL, pD, mPs, mPar, putP, wE, bnd, pk, liftO, peek, dats, pks, getL, putLρ, putLM, getD, putDρ, putDM, argC, permL, slotA, outV, mFn, setTg, setTgs, gSeq, MO.look, MO.slot, truD, bolD, intD, Slot.own, noOwn, wipeS, capL, gAdd, DL.gSub, gMul, gDiv, gMod, gPow, gLt, gLe, gGt, gGe, gIs, gIsNot, gIx, gLen, gAbs, gMax2, gMin2, gInt, gList, gTuple, gNeg, gI0, gII, gSl, bodE, bodT, bodI, lcF, forGo, lim, Nat.zero_le, Nat.reduceLeDiff, List.map_cons, List.map_nil, List.cons_append, List.nil_append, List.append_nil, List.length_cons, List.length_nil, List.getElem?_cons_zero, List.getElem?_cons_succ, List.getElem?_nil, List.replicate_zero, List.replicate_succ, List.all_cons, List.all_nil, List.any_cons, List.any_nil, List.filterMap_cons, List.filterMap_nil, List.set_cons_zero, List.set_cons_succ, Bool.and_true, Bool.true_and, Bool.and_false, Bool.false_and, Bool.and_self, Bool.or_true, Bool.true_or, Bool.or_false, Bool.false_or, Bool.not_true, Bool.not_false, Nat.zero_add, Nat.add_zero, Nat.reduceAdd, Nat.reduceSub, Nat.reduceMul, Nat.reduceBEq, Nat.reduceEqDiff, Nat.reduceLT, Nat.sub_self, beq_self_eq_true, Option.map_some, Option.map_none, reduceIte, if_true, if_false, Bool.false_eq_true, decide_true, decide_false, reduceCtorEq, Int.reduceLE, Int.reduceLT, Int.reduceNeg, Int.reduceToNat, Int.reduceEq, Int.reducePow, Int.reduceDiv, Int.reduceAdd, Int.reduceSub, Int.reduceMul, true_and, and_true, List.isEmpty_nil, List.isEmpty_cons]
  rw [lcF_flatM (g := fun t => iL t.here)]
  rotate_left
  · intro t ht
    obtain ⟨m, h, l, r, rfl⟩ := way_nd x _ _ ht
    simp only [tD, tD_ix1, T.here, mSeq, mIfS, mRet, mDrop, mSet, mSetT, mSetL, mSetD, mFrz, mNext, mBk, mCt, mNever, mFor, mWhile, mVar, mC, mOp, mUn, mTru, mB, mOfT, mAnd, mOr, mNot, mIf, mAndV, mOrV, mNotV, mChain, mNil, mCons, mTup, mLst, mFz, mFzD, mDNew, mDGet, mDIn, mBlt, mBltL, mIsi, mNoO, mSomeO, mSl, mRg1, mRg2, mLstRg, mCall, mCallK, mItS, mItR, mItE, mLc, mLc2, mYes, mApp1, mExt, mPopW, mPopAtW, mSetIx, mDPut, mRf, mRfD, pE, pL, pD, mPs, mPar, putP, wE, bnd, pk, liftO, peek, dats, pks, getL, putLρ, putLM, getD, putDρ, putDM, argC, permL, slotA, outV, mFn, setTg, setTgs, gSeq, MO.look, MO.slot, truD, bolD, intD, Slot.own, noOwn, wipeS, capL, gAdd, DL.gSub, gMul, gDiv, gMod, gPow, gLt, gLe, gGt, gGe, gIs, gIsNot, gIx, gLen, gAbs, gMax2, gMin2, gInt, gList, gTuple, gNeg, gI0, gII, gSl, bodE, bodT, bodI, lcF, forGo, lim, Nat.zero_le, Nat.reduceLeDiff, List.map_cons, List.map_nil, List.cons_append, List.nil_append, List.append_nil, List.length_cons, List.length_nil, List.getElem?_cons_zero, List.getElem?_cons_succ, List.getElem?_nil, List.replicate_zero, List.replicate_succ, List.all_cons, List.all_nil, List.any_cons, List.any_nil, List.filterMap_cons, List.filterMap_nil, List.set_cons_zero, List.set_cons_succ, Bool.and_true, Bool.true_and, Bool.and_false, Bool.false_and, Bool.and_self, Bool.or_true, Bool.true_or, Bool.or_false, Bool.false_or, Bool.not_true, Bool.not_false, Nat.zero_add, Nat.add_zero, Nat.reduceAdd, Nat.reduceSub, Nat.reduceMul, Nat.reduceBEq, Nat.reduceEqDiff, Nat.reduceLT, Nat.sub_self, beq_self_eq_true, Option.map_some, Option.map_none, reduceIte, if_true, if_false, Bool.false_eq_true, decide_true, decide_false, reduceCtorEq, Int.reduceLE, Int.reduceLT, Int.reduceNeg, Int.reduceToNat, Int.reduceEq, Int.reducePow, Int.reduceDiv, Int.reduceAdd, Int.reduceSub, Int.reduceMul, true_and, and_true, List.isEmpty_nil, List.isEmpty_cons]
    rw [lcF_mapN (g := nD)]
    · rfl
    · intro k m
      simp only [mSeq, mIfS, mRet, mDrop, mSet, mSetT, mSetL, mSetD, mFrz, mNext, mBk, mCt, mNever, mFor, mWhile, mVar, mC, mOp, mUn, mTru, mB, mOfT, mAnd, mOr, mNot, mIf, mAndV, mOrV, mNotV, mChain, mNil, mCons, mTup, mLst, mFz, mFzD, mDNew, mDGet, mDIn, mBlt, mBltL, mIsi, mNoO, mSomeO, mSl, mRg1, mRg2, mLstRg, mCall, mCallK, mItS, mItR, mItE, mLc, mLc2, mYes, mApp1, mExt, mPopW, mPopAtW, mSetIx, mDPut, mRf, mRfD, pE, pL, pD, mPs, mPar, putP, wE, bnd, pk, liftO, peek, dats, pks, getL, putLρ, putLM, getD, putDρ, putDM, argC, permL, slotA, outV, mFn, setTg, setTgs, gSeq, MO.look, MO.slot, truD, bolD, intD, Slot.own, noOwn, wipeS, capL, gAdd, DL.gSub, gMul, gDiv, gMod, gPow, gLt, gLe, gGt, gGe, gIs, gIsNot, gIx, gLen, gAbs, gMax2, gMin2, gInt, gList, gTuple, gNeg, gI0, gII, gSl, bodE, bodT, bodI, lcF, forGo, lim, Nat.zero_le, Nat.reduceLeDiff, List.map_cons, List.map_nil, List.cons_append, List.nil_append, List.append_nil, List.length_cons, List.length_nil, List.getElem?_cons_zero, List.getElem?_cons_succ, List.getElem?_nil, List.replicate_zero, List.replicate_succ, List.all_cons, List.all_nil, List.any_cons, List.any_nil, List.filterMap_cons, List.filterMap_nil, List.set_cons_zero, List.set_cons_succ, Bool.and_true, Bool.true_and, Bool.and_false, Bool.false_and, Bool.and_self, Bool.or_true, Bool.true_or, Bool.or_false, Bool.false_or, Bool.not_true, Bool.not_false, Nat.zero_add, Nat.add_zero, Nat.reduceAdd, Nat.reduceSub, Nat.reduceMul, Nat.reduceBEq, Nat.reduceEqDiff, Nat.reduceLT, Nat.sub_self, beq_self_eq_true, Option.map_some, Option.map_none, reduceIte, if_true, if_false, Bool.false_eq_true, decide_true, decide_false, reduceCtorEq, Int.reduceLE, Int.reduceLT, Int.reduceNeg, Int.reduceToNat, Int.reduceEq, Int.reducePow, Int.reduceDiv, Int.reduceAdd, Int.reduceSub, Int.reduceMul, true_and, and_true, List.isEmpty_nil, List.isEmpty_cons]
      rfl
  have ef : (wayT (tree rs) x).flatMap (fun t => iL t.here) = iL (wayH (tree rs) x) := by
    unfold wayH iL
    rw [List.map_flatMap]
  rw [ef]
  simp only [hh2, mSeq, mIfS, mRet, mDrop, mSet, mSetT, mSetL, mSetD, mFrz, mNext, mBk, mCt, mNever, mFor, mWhile, mVar, mC, mOp, mUn, mTru, mB, mOfT, mAnd, mOr, mNot, mIf, mAndV, mOrV, mNotV, mChain, mNil, mCons, mTup, mLst, mFz, mFzD, mDNew, mDGet, mDIn, mBlt, mBltL, mIsi, mNoO, mSomeO, mSl, mRg1, mRg2, mLstRg, mCall, mCallK, mItS, mItR, mItE, mLc, mLc2, mYes, mApp1, mExt, mPopW, mPopAtW, mSetIx, mDPut, mRf, mRfD, pE, pL, pD, mPs, mPar, putP, wE, bnd, pk, liftO, peek, dats, pks, getL, putLρ, putLM, getD, putDρ, putDM, argC, permL, slotA, outV, mFn, setTg, setTgs, gSeq, MO.look, MO.slot, truD, bolD, intD, Slot.own, noOwn, wipeS, capL, gAdd, DL.gSub, gMul, gDiv, gMod, gPow, gLt, gLe, gGt, gGe, gIs, gIsNot, gIx, gLen, gAbs, gMax2, gMin2, gInt, gList, gTuple, gNeg, gI0, gII, gSl, bodE, bodT, bodI, lcF, forGo, lim, Nat.zero_le, Nat.reduceLeDiff, List.map_cons, List.map_nil, List.cons_append, List.nil_append, List.append_nil, List.length_cons, List.length_nil, List.getElem?_cons_zero, List.getElem?_cons_succ, List.getElem?_nil, List.replicate_zero, List.replicate_succ, List.all_cons, List.all_nil, List.any_cons, List.any_nil, List.filterMap_cons, List.filterMap_nil, List.set_cons_zero, List.set_cons_succ, Bool.and_true, Bool.true_and, Bool.and_false, Bool.false_and, Bool.and_self, Bool.or_true, Bool.true_or, Bool.or_false, Bool.false_or, Bool.not_true, Bool.not_false, Nat.zero_add, Nat.add_zero, Nat.reduceAdd, Nat.reduceSub, Nat.reduceMul, Nat.reduceBEq, Nat.reduceEqDiff, Nat.reduceLT, Nat.sub_self, beq_self_eq_true, Option.map_some, Option.map_none, reduceIte, if_true, if_false, Bool.false_eq_true, decide_true, decide_false, reduceCtorEq, Int.reduceLE, Int.reduceLT, Int.reduceNeg, Int.reduceToNat, Int.reduceEq, Int.reducePow, Int.reduceDiv, Int.reduceAdd, Int.reduceSub, Int.reduceMul, true_and, and_true, List.isEmpty_nil, List.isEmpty_cons]
  rw [lcF_filtN (p := stab rs x)]
  rotate_left
  · intro k m
    simp only [rD, hw k m, pr, pr0, pr1, mSeq, mIfS, mRet, mDrop, mSet, mSetT, mSetL, mSetD, mFrz, mNext, mBk, mCt, mNever, mFor, mWhile, mVar, mC, mOp, mUn, mTru, mB, mOfT, mAnd, mOr, mNot, mIf, mAndV, mOrV, mNotV, mChain, mNil, mCons, mTup, mLst, mFz, mFzD, mDNew, mDGet, mDIn, mBlt, mBltL, mIsi, mNoO, mSomeO, mSl, mRg1, mRg2, mLstRg, mCall, mCallK, mItS, mItR, mItE, mLc, mLc2, mYes, mApp1, mExt, mPopW, mPopAtW, mSetIx, mDPut, mRf, mRfD, pE, pL, pD, mPs, mPar, putP, wE, bnd, pk, liftO, peek, dats, pks, getL, putLρ, putLM, getD, putDρ, putDM, argC, permL, slotA, outV, mFn, setTg, setTgs, gSeq, MO.look, MO.slot, truD, bolD, intD, Slot.own, noOwn, wipeS, capL, gAdd, DL.gSub, gMul, gDiv, gMod, gPow, gLt, gLe, gGt, gGe, gIs, gIsNot, gIx, gLen, gAbs, gMax2, gMin2, gInt, gList, gTuple, gNeg, gI0, gII, gSl, bodE, bodT, bodI, lcF, forGo, lim, Nat.zero_le, Nat.reduceLeDiff, List.map_cons, List.map_nil, List.cons_append, List.nil_append, List.append_nil, List.length_cons, List.length_nil, List.getElem?_cons_zero, List.getElem?_cons_succ, List.getElem?_nil, List.replicate_zero, List.replicate_succ, List.all_cons, List.all_nil, List.any_cons, List.any_nil, List.filterMap_cons, List.filterMap_nil, List.set_cons_zero, List.set_cons_succ, Bool.and_true, Bool.true_and, Bool.and_false, Bool.false_and, Bool.and_self, Bool.or_true, Bool.true_or, Bool.or_false, Bool.false_or, Bool.not_true, Bool.not_false, Nat.zero_add, Nat.add_zero, Nat.reduceAdd, Nat.reduceSub, Nat.reduceMul, Nat.reduceBEq, Nat.reduceEqDiff, Nat.reduceLT, Nat.sub_self, beq_self_eq_true, Option.map_some, Option.map_none, reduceIte, if_true, if_false, Bool.false_eq_true, decide_true, decide_false, reduceCtorEq, Int.reduceLE, Int.reduceLT, Int.reduceNeg, Int.reduceToNat, Int.reduceEq, Int.reducePow, Int.reduceDiv, Int.reduceAdd, Int.reduceSub, Int.reduceMul, true_and, and_true, List.isEmpty_nil, List.isEmpty_cons]
    unfold stab
    by_cases h : (at_ rs k).1 ≤ x
    · simp only [h, hw k m, pr, pr1, mSeq, mIfS, mRet, mDrop, mSet, mSetT, mSetL, mSetD, mFrz, mNext, mBk, mCt, mNever, mFor, mWhile, mVar, mC, mOp, mUn, mTru, mB, mOfT, mAnd, mOr, mNot, mIf, mAndV, mOrV, mNotV, mChain, mNil, mCons, mTup, mLst, mFz, mFzD, mDNew, mDGet, mDIn, mBlt, mBltL, mIsi, mNoO, mSomeO, mSl, mRg1, mRg2, mLstRg, mCall, mCallK, mItS, mItR, mItE, mLc, mLc2, mYes, mApp1, mExt, mPopW, mPopAtW, mSetIx, mDPut, mRf, mRfD, pE, pL, pD, mPs, mPar, putP, wE, bnd, pk, liftO, peek, dats, pks, getL, putLρ, putLM, getD, putDρ, putDM, argC, permL, slotA, outV, mFn, setTg, setTgs, gSeq, MO.look, MO.slot, truD, bolD, intD, Slot.own, noOwn, wipeS, capL, gAdd, DL.gSub, gMul, gDiv, gMod, gPow, gLt, gLe, gGt, gGe, gIs, gIsNot, gIx, gLen, gAbs, gMax2, gMin2, gInt, gList, gTuple, gNeg, gI0, gII, gSl, bodE, bodT, bodI, lcF, forGo, lim, Nat.zero_le, Nat.reduceLeDiff, List.map_cons, List.map_nil, List.cons_append, List.nil_append, List.append_nil, List.length_cons, List.length_nil, List.getElem?_cons_zero, List.getElem?_cons_succ, List.getElem?_nil, List.replicate_zero, List.replicate_succ, List.all_cons, List.all_nil, List.any_cons, List.any_nil, List.filterMap_cons, List.filterMap_nil, List.set_cons_zero, List.set_cons_succ, Bool.and_true, Bool.true_and, Bool.and_false, Bool.false_and, Bool.and_self, Bool.or_true, Bool.true_or, Bool.or_false, Bool.false_or, Bool.not_true, Bool.not_false, Nat.zero_add, Nat.add_zero, Nat.reduceAdd, Nat.reduceSub, Nat.reduceMul, Nat.reduceBEq, Nat.reduceEqDiff, Nat.reduceLT, Nat.sub_self, beq_self_eq_true, Option.map_some, Option.map_none, reduceIte, if_true, if_false, Bool.false_eq_true, decide_true, decide_false, reduceCtorEq, Int.reduceLE, Int.reduceLT, Int.reduceNeg, Int.reduceToNat, Int.reduceEq, Int.reducePow, Int.reduceDiv, Int.reduceAdd, Int.reduceSub, Int.reduceMul, true_and, and_true, List.isEmpty_nil, List.isEmpty_cons]
      by_cases h2 : x < (at_ rs k).2
      · simp only [h2, mSeq, mIfS, mRet, mDrop, mSet, mSetT, mSetL, mSetD, mFrz, mNext, mBk, mCt, mNever, mFor, mWhile, mVar, mC, mOp, mUn, mTru, mB, mOfT, mAnd, mOr, mNot, mIf, mAndV, mOrV, mNotV, mChain, mNil, mCons, mTup, mLst, mFz, mFzD, mDNew, mDGet, mDIn, mBlt, mBltL, mIsi, mNoO, mSomeO, mSl, mRg1, mRg2, mLstRg, mCall, mCallK, mItS, mItR, mItE, mLc, mLc2, mYes, mApp1, mExt, mPopW, mPopAtW, mSetIx, mDPut, mRf, mRfD, pE, pL, pD, mPs, mPar, putP, wE, bnd, pk, liftO, peek, dats, pks, getL, putLρ, putLM, getD, putDρ, putDM, argC, permL, slotA, outV, mFn, setTg, setTgs, gSeq, MO.look, MO.slot, truD, bolD, intD, Slot.own, noOwn, wipeS, capL, gAdd, DL.gSub, gMul, gDiv, gMod, gPow, gLt, gLe, gGt, gGe, gIs, gIsNot, gIx, gLen, gAbs, gMax2, gMin2, gInt, gList, gTuple, gNeg, gI0, gII, gSl, bodE, bodT, bodI, lcF, forGo, lim, Nat.zero_le, Nat.reduceLeDiff, List.map_cons, List.map_nil, List.cons_append, List.nil_append, List.append_nil, List.length_cons, List.length_nil, List.getElem?_cons_zero, List.getElem?_cons_succ, List.getElem?_nil, List.replicate_zero, List.replicate_succ, List.all_cons, List.all_nil, List.any_cons, List.any_nil, List.filterMap_cons, List.filterMap_nil, List.set_cons_zero, List.set_cons_succ, Bool.and_true, Bool.true_and, Bool.and_false, Bool.false_and, Bool.and_self, Bool.or_true, Bool.true_or, Bool.or_false, Bool.false_or, Bool.not_true, Bool.not_false, Nat.zero_add, Nat.add_zero, Nat.reduceAdd, Nat.reduceSub, Nat.reduceMul, Nat.reduceBEq, Nat.reduceEqDiff, Nat.reduceLT, Nat.sub_self, beq_self_eq_true, Option.map_some, Option.map_none, reduceIte, if_true, if_false, Bool.false_eq_true, decide_true, decide_false, reduceCtorEq, Int.reduceLE, Int.reduceLT, Int.reduceNeg, Int.reduceToNat, Int.reduceEq, Int.reducePow, Int.reduceDiv, Int.reduceAdd, Int.reduceSub, Int.reduceMul, true_and, and_true, List.isEmpty_nil, List.isEmpty_cons]
      · simp only [h2, mSeq, mIfS, mRet, mDrop, mSet, mSetT, mSetL, mSetD, mFrz, mNext, mBk, mCt, mNever, mFor, mWhile, mVar, mC, mOp, mUn, mTru, mB, mOfT, mAnd, mOr, mNot, mIf, mAndV, mOrV, mNotV, mChain, mNil, mCons, mTup, mLst, mFz, mFzD, mDNew, mDGet, mDIn, mBlt, mBltL, mIsi, mNoO, mSomeO, mSl, mRg1, mRg2, mLstRg, mCall, mCallK, mItS, mItR, mItE, mLc, mLc2, mYes, mApp1, mExt, mPopW, mPopAtW, mSetIx, mDPut, mRf, mRfD, pE, pL, pD, mPs, mPar, putP, wE, bnd, pk, liftO, peek, dats, pks, getL, putLρ, putLM, getD, putDρ, putDM, argC, permL, slotA, outV, mFn, setTg, setTgs, gSeq, MO.look, MO.slot, truD, bolD, intD, Slot.own, noOwn, wipeS, capL, gAdd, DL.gSub, gMul, gDiv, gMod, gPow, gLt, gLe, gGt, gGe, gIs, gIsNot, gIx, gLen, gAbs, gMax2, gMin2, gInt, gList, gTuple, gNeg, gI0, gII, gSl, bodE, bodT, bodI, lcF, forGo, lim, Nat.zero_le, Nat.reduceLeDiff, List.map_cons, List.map_nil, List.cons_append, List.nil_append, List.append_nil, List.length_cons, List.length_nil, List.getElem?_cons_zero, List.getElem?_cons_succ, List.getElem?_nil, List.replicate_zero, List.replicate_succ, List.all_cons, List.all_nil, List.any_cons, List.any_nil, List.filterMap_cons, List.filterMap_nil, List.set_cons_zero, List.set_cons_succ, Bool.and_true, Bool.true_and, Bool.and_false, Bool.false_and, Bool.and_self, Bool.or_true, Bool.true_or, Bool.or_false, Bool.false_or, Bool.not_true, Bool.not_false, Nat.zero_add, Nat.add_zero, Nat.reduceAdd, Nat.reduceSub, Nat.reduceMul, Nat.reduceBEq, Nat.reduceEqDiff, Nat.reduceLT, Nat.sub_self, beq_self_eq_true, Option.map_some, Option.map_none, reduceIte, if_true, if_false, Bool.false_eq_true, decide_true, decide_false, reduceCtorEq, Int.reduceLE, Int.reduceLT, Int.reduceNeg, Int.reduceToNat, Int.reduceEq, Int.reducePow, Int.reduceDiv, Int.reduceAdd, Int.reduceSub, Int.reduceMul, true_and, and_true, List.isEmpty_nil, List.isEmpty_cons]
    · simp only [h, mSeq, mIfS, mRet, mDrop, mSet, mSetT, mSetL, mSetD, mFrz, mNext, mBk, mCt, mNever, mFor, mWhile, mVar, mC, mOp, mUn, mTru, mB, mOfT, mAnd, mOr, mNot, mIf, mAndV, mOrV, mNotV, mChain, mNil, mCons, mTup, mLst, mFz, mFzD, mDNew, mDGet, mDIn, mBlt, mBltL, mIsi, mNoO, mSomeO, mSl, mRg1, mRg2, mLstRg, mCall, mCallK, mItS, mItR, mItE, mLc, mLc2, mYes, mApp1, mExt, mPopW, mPopAtW, mSetIx, mDPut, mRf, mRfD, pE, pL, pD, mPs, mPar, putP, wE, bnd, pk, liftO, peek, dats, pks, getL, putLρ, putLM, getD, putDρ, putDM, argC, permL, slotA, outV, mFn, setTg, setTgs, gSeq, MO.look, MO.slot, truD, bolD, intD, Slot.own, noOwn, wipeS, capL, gAdd, DL.gSub, gMul, gDiv, gMod, gPow, gLt, gLe, gGt, gGe, gIs, gIsNot, gIx, gLen, gAbs, gMax2, gMin2, gInt, gList, gTuple, gNeg, gI0, gII, gSl, bodE, bodT, bodI, lcF, forGo, lim, Nat.zero_le, Nat.reduceLeDiff, List.map_cons, List.map_nil, List.cons_append, List.nil_append, List.append_nil, List.length_cons, List.length_nil, List.getElem?_cons_zero, List.getElem?_cons_succ, List.getElem?_nil, List.replicate_zero, List.replicate_succ, List.all_cons, List.all_nil, List.any_cons, List.any_nil, List.filterMap_cons, List.filterMap_nil, List.set_cons_zero, List.set_cons_succ, Bool.and_true, Bool.true_and, Bool.and_false, Bool.false_and, Bool.and_self, Bool.or_true, Bool.true_or, Bool.or_false, Bool.false_or, Bool.not_true, Bool.not_false, Nat.zero_add, Nat.add_zero, Nat.reduceAdd, Nat.reduceSub, Nat.reduceMul, Nat.reduceBEq, Nat.reduceEqDiff, Nat.reduceLT, Nat.sub_self, beq_self_eq_true, Option.map_some, Option.map_none, reduceIte, if_true, if_false, Bool.false_eq_true, decide_true, decide_false, reduceCtorEq, Int.reduceLE, Int.reduceLT, Int.reduceNeg, Int.reduceToNat, Int.reduceEq, Int.reducePow, Int.reduceDiv, Int.reduceAdd, Int.reduceSub, Int.reduceMul, true_and, and_true, List.isEmpty_nil, List.isEmpty_cons]
  simp only [hh3, gSorted_iL, mSeq, mIfS, mRet, mDrop, mSet, mSetT, mSetL, mSetD, mFrz, mNext, mBk, mCt, mNever, mFor, mWhile, mVar, mC, mOp, mUn, mTru, mB, mOfT, mAnd, mOr, mNot, mIf, mAndV, mOrV, mNotV, mChain, mNil, mCons, mTup, mLst, mFz, mFzD, mDNew, mDGet, mDIn, mBlt, mBltL, mIsi, mNoO, mSomeO, mSl, mRg1, mRg2, mLstRg, mCall, mCallK, mItS, mItR, mItE, mLc, mLc2, mYes, mApp1, mExt, mPopW, mPopAtW, mSetIx, mDPut, mRf, mRfD, pE, pL, pD, mPs, mPar, putP, wE, bnd, pk, liftO, peek, dats, pks, getL, putLρ, putLM, getD, putDρ, putDM, argC, permL, slotA, outV, mFn, setTg, setTgs, gSeq, MO.look, MO.slot, truD, bolD, intD, Slot.own, noOwn, wipeS, capL, gAdd, DL.gSub, gMul, gDiv, gMod, gPow, gLt, gLe, gGt, gGe, gIs, gIsNot, gIx, gLen, gAbs, gMax2, gMin2, gInt, gList, gTuple, gNeg, gI0, gII, gSl, bodE, bodT, bodI, lcF, forGo, lim, Nat.zero_le, Nat.reduceLeDiff, List.map_cons, List.map_nil, List.cons_append, List.nil_append, List.append_nil, List.length_cons, List.length_nil, List.getElem?_cons_zero, List.getElem?_cons_succ, List.getElem?_nil, List.replicate_zero, List.replicate_succ, List.all_cons, List.all_nil, List.any_cons, List.any_nil, List.filterMap_cons, List.filterMap_nil, List.set_cons_zero, List.set_cons_succ, Bool.and_true, Bool.true_and, Bool.and_false, Bool.false_and, Bool.and_self, Bool.or_true, Bool.true_or, Bool.or_false, Bool.false_or, Bool.not_true, Bool.not_false, Nat.zero_add, Nat.add_zero, Nat.reduceAdd, Nat.reduceSub, Nat.reduceMul, Nat.reduceBEq, Nat.reduceEqDiff, Nat.reduceLT, Nat.sub_self, beq_self_eq_true, Option.map_some, Option.map_none, reduceIte, if_true, if_false, Bool.false_eq_true, decide_true, decide_false, reduceCtorEq, Int.reduceLE, Int.reduceLT, Int.reduceNeg, Int.reduceToNat, Int.reduceEq, Int.reducePow, Int.reduceDiv, Int.reduceAdd, Int.reduceSub, Int.reduceMul, true_and, and_true, List.isEmpty_nil, List.isEmpty_cons]
end K03
set_option Elab.async false
set_option linter.all false
set_option maxRecDepth 100000
set_option maxHeartbeats 4000000
/-! k03: what the law draws -/
namespace K03
open PySem L2 DL
/-- the box at b, its counter u at most -/
structure Bx (M : List MO) (b u : Nat) : Prop where
  ex : ∃ (g : Int) (e : Bool) (c k : Int), M[b]? = some (.lst [.int g, .bool e, .int c, .int k]) ∧ 0 ≤ g ∧ 0 ≤ c ∧ c < 2147483629 ∧ 0 ≤ k ∧ k ≤ (u : Int)
theorem Bx.mono {M : List MO} {b u v : Nat} (h : Bx M b u) (l : u ≤ v) : Bx M b v := by
  obtain ⟨g, e, c, k, h1, h2, h3, h4, h5, h6⟩ := h.ex
  exact ⟨g, e, c, k, h1, h2, h3, h4, h5, by omega⟩
theorem at13 {n : Nat} {as : List Vl} {M : List MO} : callN tab (n + 1) 13 as M = mFn N13.length B13 (callN tab n) as M := rfl
theorem sm1 : smallI 15485903 = true := by decide
theorem sm2 : smallI 48271 = true := by decide
theorem sm3 : smallI 104743 = true := by decide
theorem small_of {i : Int} (h0 : 0 ≤ i) (h : i < 18446744073709551616) : smallI i = true := decide_eq_true (by omega)
theorem r13 {M : List MO} {b u : Nat} (hB : Bx M b u) (hu : u ≤ 1000000) {many : Int} (h0 : 0 < many) (h1 : many < 1000000) (n : Nat) :
    ∃ (d : Int) (M' : List MO), callN tab (n + 1) 13 [.r b, .d (.int many)] M = some (.d (.int d), M') ∧ 0 ≤ d ∧ d < many ∧ Bx M' b (u + 1) := by
  obtain ⟨g, e, c, k, hM, hg, hc0, hc1, hk0, hk1⟩ := hB.ex
  have hb : b < M.length := (List.getElem?_eq_some_iff.mp hM).1
  have hset : ∀ x, (M.set b x)[b]? = some x := fun x => List.getElem?_set_self hb
  have hdiv : (0 < many ∧ many < 1073741824) := ⟨h0, by omega⟩
  rw [at13]
  by_cases he : e = true ∧ 0 < g
  · obtain ⟨he, hg2⟩ := he
    subst he
    refine ⟨g % many, M.set b (.lst [.int (g / many), .bool true, .int c, .int k]), ?_, Int.emod_nonneg _ (by omega), Int.emod_lt_of_pos _ h0, ⟨g / many, true, c, k, hset _, Int.ediv_nonneg hg (by omega), hc0, hc1, hk0, by omega⟩⟩
    have a1 : atI [PyData.int g, .bool true, .int c, .int k] 1 = some (.bool true) := by rfl
    have a0 : atI [PyData.int g, .bool true, .int c, .int k] 0 = some (.int g) := by rfl
    have x0 : ixN 4 0 = some 0 := by rfl
    simp only [N13, B13, hM, a0, a1, x0, hg2, h0, hdiv, hset, mSeq, mIfS, mRet, mDrop, mSet, mSetT, mSetL, mSetD, mFrz, mNext, mBk, mCt, mNever, mFor, mWhile, mVar, mC, mOp, mUn, mTru, mB, mOfT, mAnd, mOr, mNot, mIf, mAndV, mOrV, mNotV, mChain, mNil, mCons, mTup, mLst, mFz, mFzD, mDNew, mDGet, mDIn, mBlt, mBltL, mIsi, mNoO, mSomeO, mSl, mRg1, mRg2, mLstRg, mCall, mCallK, mItS, mItR, mItE, mLc, mLc2, mYes, mApp1, mExt, mPopW, mPopAtW, mSetIx, mDPut, mRf, mRfD, pE, pL, pD, mPs, mPar, putP, wE, bnd, pk, liftO, peek, dats, pks, getL, putLρ, putLM, getD, putDρ, putDM, argC, permL, slotA, outV, mFn, setTg, setTgs, gSeq, MO.look, MO.slot, truD, bolD, intD, Slot.own, noOwn, wipeS, capL, gAdd, DL.gSub, gMul, gDiv, gMod, gPow, gLt, gLe, gGt, gGe, gIs, gIsNot, gIx, gLen, gAbs, gMax2, gMin2, gInt, gList, gTuple, gNeg, gI0, gII, gSl, bodE, bodT, bodI, lcF, forGo, lim, Nat.zero_le, Nat.reduceLeDiff, List.map_cons, List.map_nil, List.cons_append, List.nil_append, List.append_nil, List.length_cons, List.length_nil, List.getElem?_cons_zero, List.getElem?_cons_succ, List.getElem?_nil, List.replicate_zero, List.replicate_succ, List.all_cons, List.all_nil, List.any_cons, List.any_nil, List.filterMap_cons, List.filterMap_nil, List.set_cons_zero, List.set_cons_succ, Bool.and_true, Bool.true_and, Bool.and_false, Bool.false_and, Bool.and_self, Bool.or_true, Bool.true_or, Bool.or_false, Bool.false_or, Bool.not_true, Bool.not_false, Nat.zero_add, Nat.add_zero, Nat.reduceAdd, Nat.reduceSub, Nat.reduceMul, Nat.reduceBEq, Nat.reduceEqDiff, Nat.reduceLT, Nat.sub_self, beq_self_eq_true, Option.map_some, Option.map_none, reduceIte, if_true, if_false, Bool.false_eq_true, decide_true, decide_false, reduceCtorEq, Int.reduceLE, Int.reduceLT, Int.reduceNeg, Int.reduceToNat, Int.reduceEq, Int.reducePow, Int.reduceDiv, Int.reduceAdd, Int.reduceSub, Int.reduceMul, true_and, and_true, List.isEmpty_nil, List.isEmpty_cons]
  · have hcond : (e && decide (0 < g)) = false := by
      cases e
      · rfl
      · simp only [Bool.true_and, decide_eq_false_iff_not]
        exact fun z => he ⟨rfl, z⟩
    have a0 : ∀ k', atI [PyData.int g, .bool e, .int c, .int k'] 0 = some (.int g) := fun _ => by rfl
    have a1 : ∀ k', atI [PyData.int g, .bool e, .int c, .int k'] 1 = some (.bool e) := fun _ => by rfl
    have a2 : ∀ k', atI [PyData.int g, .bool e, .int c, .int k'] 2 = some (.int c) := fun _ => by rfl
    have a3 : ∀ k', atI [PyData.int g, .bool e, .int c, .int k'] 3 = some (.int k') := fun _ => by rfl
    have x3 : ixN 4 3 = some 3 := by rfl
    have s1 : smallI (c + 15485903 * (k + 1) + 179424727) = true := small_of (by omega) (by omega)
    generalize hm1 : (c + 15485903 * (k + 1) + 179424727) ^ 5 % 2147483647 = mx
    have m0 : 0 ≤ mx := by rw [← hm1]; exact Int.emod_nonneg _ (by decide)
    have m1 : mx < 2147483647 := by rw [← hm1]; exact Int.emod_lt_of_pos _ (by decide)
    have s2 : smallI (mx * 48271 + 104743 * (k + 1)) = true := small_of (by omega) (by omega)
    refine ⟨(mx * 48271 + 104743 * (k + 1)) ^ 3 % 2147483587 / 64 % many, M.set b (.lst [.int g, .bool e, .int c, .int (k + 1)]), ?_, Int.emod_nonneg _ (by omega), Int.emod_lt_of_pos _ h0, ⟨g, e, c, k + 1, hset _, hg, hc0, hc1, by omega, by omega⟩⟩
    cases e with
    | false =>
      simp only [N13, B13, hM, a0, a1, a2, a3, x3, h0, s1, s2, sm1, sm2, sm3, hm1, hset, mSeq, mIfS, mRet, mDrop, mSet, mSetT, mSetL, mSetD, mFrz, mNext, mBk, mCt, mNever, mFor, mWhile, mVar, mC, mOp, mUn, mTru, mB, mOfT, mAnd, mOr, mNot, mIf, mAndV, mOrV, mNotV, mChain, mNil, mCons, mTup, mLst, mFz, mFzD, mDNew, mDGet, mDIn, mBlt, mBltL, mIsi, mNoO, mSomeO, mSl, mRg1, mRg2, mLstRg, mCall, mCallK, mItS, mItR, mItE, mLc, mLc2, mYes, mApp1, mExt, mPopW, mPopAtW, mSetIx, mDPut, mRf, mRfD, pE, pL, pD, mPs, mPar, putP, wE, bnd, pk, liftO, peek, dats, pks, getL, putLρ, putLM, getD, putDρ, putDM, argC, permL, slotA, outV, mFn, setTg, setTgs, gSeq, MO.look, MO.slot, truD, bolD, intD, Slot.own, noOwn, wipeS, capL, gAdd, DL.gSub, gMul, gDiv, gMod, gPow, gLt, gLe, gGt, gGe, gIs, gIsNot, gIx, gLen, gAbs, gMax2, gMin2, gInt, gList, gTuple, gNeg, gI0, gII, gSl, bodE, bodT, bodI, lcF, forGo, lim, Nat.zero_le, Nat.reduceLeDiff, List.map_cons, List.map_nil, List.cons_append, List.nil_append, List.append_nil, List.length_cons, List.length_nil, List.getElem?_cons_zero, List.getElem?_cons_succ, List.getElem?_nil, List.replicate_zero, List.replicate_succ, List.all_cons, List.all_nil, List.any_cons, List.any_nil, List.filterMap_cons, List.filterMap_nil, List.set_cons_zero, List.set_cons_succ, Bool.and_true, Bool.true_and, Bool.and_false, Bool.false_and, Bool.and_self, Bool.or_true, Bool.true_or, Bool.or_false, Bool.false_or, Bool.not_true, Bool.not_false, Nat.zero_add, Nat.add_zero, Nat.reduceAdd, Nat.reduceSub, Nat.reduceMul, Nat.reduceBEq, Nat.reduceEqDiff, Nat.reduceLT, Nat.sub_self, beq_self_eq_true, Option.map_some, Option.map_none, reduceIte, if_true, if_false, Bool.false_eq_true, decide_true, decide_false, reduceCtorEq, Int.reduceLE, Int.reduceLT, Int.reduceNeg, Int.reduceToNat, Int.reduceEq, Int.reducePow, Int.reduceDiv, Int.reduceAdd, Int.reduceSub, Int.reduceMul, true_and, and_true, List.isEmpty_nil, List.isEmpty_cons]
    | true =>
      have hg2 : ¬ (0 < g) := fun z => he ⟨rfl, z⟩
      simp only [N13, B13, hM, a0, a1, a2, a3, x3, h0, hg2, s1, s2, sm1, sm2, sm3, hm1, hset, mSeq, mIfS, mRet, mDrop, mSet, mSetT, mSetL, mSetD, mFrz, mNext, mBk, mCt, mNever, mFor, mWhile, mVar, mC, mOp, mUn, mTru, mB, mOfT, mAnd, mOr, mNot, mIf, mAndV, mOrV, mNotV, mChain, mNil, mCons, mTup, mLst, mFz, mFzD, mDNew, mDGet, mDIn, mBlt, mBltL, mIsi, mNoO, mSomeO, mSl, mRg1, mRg2, mLstRg, mCall, mCallK, mItS, mItR, mItE, mLc, mLc2, mYes, mApp1, mExt, mPopW, mPopAtW, mSetIx, mDPut, mRf, mRfD, pE, pL, pD, mPs, mPar, putP, wE, bnd, pk, liftO, peek, dats, pks, getL, putLρ, putLM, getD, putDρ, putDM, argC, permL, slotA, outV, mFn, setTg, setTgs, gSeq, MO.look, MO.slot, truD, bolD, intD, Slot.own, noOwn, wipeS, capL, gAdd, DL.gSub, gMul, gDiv, gMod, gPow, gLt, gLe, gGt, gGe, gIs, gIsNot, gIx, gLen, gAbs, gMax2, gMin2, gInt, gList, gTuple, gNeg, gI0, gII, gSl, bodE, bodT, bodI, lcF, forGo, lim, Nat.zero_le, Nat.reduceLeDiff, List.map_cons, List.map_nil, List.cons_append, List.nil_append, List.append_nil, List.length_cons, List.length_nil, List.getElem?_cons_zero, List.getElem?_cons_succ, List.getElem?_nil, List.replicate_zero, List.replicate_succ, List.all_cons, List.all_nil, List.any_cons, List.any_nil, List.filterMap_cons, List.filterMap_nil, List.set_cons_zero, List.set_cons_succ, Bool.and_true, Bool.true_and, Bool.and_false, Bool.false_and, Bool.and_self, Bool.or_true, Bool.true_or, Bool.or_false, Bool.false_or, Bool.not_true, Bool.not_false, Nat.zero_add, Nat.add_zero, Nat.reduceAdd, Nat.reduceSub, Nat.reduceMul, Nat.reduceBEq, Nat.reduceEqDiff, Nat.reduceLT, Nat.sub_self, beq_self_eq_true, Option.map_some, Option.map_none, reduceIte, if_true, if_false, Bool.false_eq_true, decide_true, decide_false, reduceCtorEq, Int.reduceLE, Int.reduceLT, Int.reduceNeg, Int.reduceToNat, Int.reduceEq, Int.reducePow, Int.reduceDiv, Int.reduceAdd, Int.reduceSub, Int.reduceMul, true_and, and_true, List.isEmpty_nil, List.isEmpty_cons]
theorem at12 {n : Nat} {as : List Vl} {M : List MO} : callN tab (n + 1) 12 as M = mFn N12.length B12 (callN tab n) as M := rfl
theorem sm10 : smallI 10 = true := by decide
theorem r12 (g : Int) (n : Nat) (M : List MO) : ∃ M', callN tab (n + 1) 12 [.d (.int g)] M = some (.r M.length, M') ∧ Bx M' M.length 0 := by
  have a0 : 0 ≤ (if g < 0 then -g else g) := by split <;> omega
  generalize ha : (if g < 0 then -g else g) = a at a0
  refine ⟨M ++ [.lst [.int a, .bool (decide (1000000000000000000 ≤ a)), .int (a % 2147483629), .int 0]], ?_, ⟨a, _, a % 2147483629, 0, List.getElem?_concat_length, a0, Int.emod_nonneg _ (by decide), Int.emod_lt_of_pos _ (by decide), Int.le_refl _, Int.le_refl _⟩⟩
  rw [at12]
  simp only [N12, B12, gGe, ha, sm10, mSeq, mIfS, mRet, mDrop, mSet, mSetT, mSetL, mSetD, mFrz, mNext, mBk, mCt, mNever, mFor, mWhile, mVar, mC, mOp, mUn, mTru, mB, mOfT, mAnd, mOr, mNot, mIf, mAndV, mOrV, mNotV, mChain, mNil, mCons, mTup, mLst, mFz, mFzD, mDNew, mDGet, mDIn, mBlt, mBltL, mIsi, mNoO, mSomeO, mSl, mRg1, mRg2, mLstRg, mCall, mCallK, mItS, mItR, mItE, mLc, mLc2, mYes, mApp1, mExt, mPopW, mPopAtW, mSetIx, mDPut, mRf, mRfD, pE, pL, pD, mPs, mPar, putP, wE, bnd, pk, liftO, peek, dats, pks, getL, putLρ, putLM, getD, putDρ, putDM, argC, permL, slotA, outV, mFn, setTg, setTgs, gSeq, MO.look, MO.slot, truD, bolD, intD, Slot.own, noOwn, wipeS, capL, gAdd, DL.gSub, gMul, gDiv, gMod, gPow, gLt, gLe, gGt, gGe, gIs, gIsNot, gIx, gLen, gAbs, gMax2, gMin2, gInt, gList, gTuple, gNeg, gI0, gII, gSl, bodE, bodT, bodI, lcF, forGo, lim, Nat.zero_le, Nat.reduceLeDiff, List.map_cons, List.map_nil, List.cons_append, List.nil_append, List.append_nil, List.length_cons, List.length_nil, List.getElem?_cons_zero, List.getElem?_cons_succ, List.getElem?_nil, List.replicate_zero, List.replicate_succ, List.all_cons, List.all_nil, List.any_cons, List.any_nil, List.filterMap_cons, List.filterMap_nil, List.set_cons_zero, List.set_cons_succ, Bool.and_true, Bool.true_and, Bool.and_false, Bool.false_and, Bool.and_self, Bool.or_true, Bool.true_or, Bool.or_false, Bool.false_or, Bool.not_true, Bool.not_false, Nat.zero_add, Nat.add_zero, Nat.reduceAdd, Nat.reduceSub, Nat.reduceMul, Nat.reduceBEq, Nat.reduceEqDiff, Nat.reduceLT, Nat.sub_self, beq_self_eq_true, Option.map_some, Option.map_none, reduceIte, if_true, if_false, Bool.false_eq_true, decide_true, decide_false, reduceCtorEq, Int.reduceLE, Int.reduceLT, Int.reduceNeg, Int.reduceToNat, Int.reduceEq, Int.reducePow, Int.reduceDiv, Int.reduceAdd, Int.reduceSub, Int.reduceMul, true_and, and_true, List.isEmpty_nil, List.isEmpty_cons]
theorem at11 {n : Nat} {as : List Vl} {M : List MO} : callN tab (n + 1) 11 as M = mFn N11.length B11 (callN tab n) as M := rfl
theorem cut_ints (ns : List Int) : cutD (ns.map .int) none (some 1) = (ns.take (min 1 ns.length)).map .int := by
  unfold cutD
  rw [List.length_map, List.map_take]
  rfl
theorem sm6 : smallI 6107 = true := by decide
theorem r11 (ns : List Int) (k n : Nat) (M : List MO) : ∃ z : Int, callN tab (n + 1) 11 [.d (.list (ns.map .int)), .d (.int (k : Int))] M = some (.d (.int z), M) := by
  rw [at11]
  by_cases h : k < ns.length
  · refine ⟨ns[k], ?_⟩
    have h2 : ((k : Nat) : Int) < ((ns.length : Nat) : Int) := by omega
    have e : atI (ns.map PyData.int) (k : Int) = some (.int ns[k]) := by
      rw [atI_nat (by simpa using h), List.getElem_map]
    simp only [N11, B11, List.length_map, h2, e, mSeq, mIfS, mRet, mDrop, mSet, mSetT, mSetL, mSetD, mFrz, mNext, mBk, mCt, mNever, mFor, mWhile, mVar, mC, mOp, mUn, mTru, mB, mOfT, mAnd, mOr, mNot, mIf, mAndV, mOrV, mNotV, mChain, mNil, mCons, mTup, mLst, mFz, mFzD, mDNew, mDGet, mDIn, mBlt, mBltL, mIsi, mNoO, mSomeO, mSl, mRg1, mRg2, mLstRg, mCall, mCallK, mItS, mItR, mItE, mLc, mLc2, mYes, mApp1, mExt, mPopW, mPopAtW, mSetIx, mDPut, mRf, mRfD, pE, pL, pD, mPs, mPar, putP, wE, bnd, pk, liftO, peek, dats, pks, getL, putLρ, putLM, getD, putDρ, putDM, argC, permL, slotA, outV, mFn, setTg, setTgs, gSeq, MO.look, MO.slot, truD, bolD, intD, Slot.own, noOwn, wipeS, capL, gAdd, DL.gSub, gMul, gDiv, gMod, gPow, gLt, gLe, gGt, gGe, gIs, gIsNot, gIx, gLen, gAbs, gMax2, gMin2, gInt, gList, gTuple, gNeg, gI0, gII, gSl, bodE, bodT, bodI, lcF, forGo, lim, Nat.zero_le, Nat.reduceLeDiff, List.map_cons, List.map_nil, List.cons_append, List.nil_append, List.append_nil, List.length_cons, List.length_nil, List.getElem?_cons_zero, List.getElem?_cons_succ, List.getElem?_nil, List.replicate_zero, List.replicate_succ, List.all_cons, List.all_nil, List.any_cons, List.any_nil, List.filterMap_cons, List.filterMap_nil, List.set_cons_zero, List.set_cons_succ, Bool.and_true, Bool.true_and, Bool.and_false, Bool.false_and, Bool.and_self, Bool.or_true, Bool.true_or, Bool.or_false, Bool.false_or, Bool.not_true, Bool.not_false, Nat.zero_add, Nat.add_zero, Nat.reduceAdd, Nat.reduceSub, Nat.reduceMul, Nat.reduceBEq, Nat.reduceEqDiff, Nat.reduceLT, Nat.sub_self, beq_self_eq_true, Option.map_some, Option.map_none, reduceIte, if_true, if_false, Bool.false_eq_true, decide_true, decide_false, reduceCtorEq, Int.reduceLE, Int.reduceLT, Int.reduceNeg, Int.reduceToNat, Int.reduceEq, Int.reducePow, Int.reduceDiv, Int.reduceAdd, Int.reduceSub, Int.reduceMul, true_and, and_true, List.isEmpty_nil, List.isEmpty_cons]
  · have h2 : ¬ ((k : Nat) : Int) < ((ns.length : Nat) : Int) := by omega
    have e : gSum [.list ((ns.take (min 1 ns.length)).map .int)] = some (.int (ns.take (min 1 ns.length)).sum) := by
      show (DL.asInts _).map _ = _
      rw [DL.asInts_map]
      rfl
    refine ⟨6107 * (k : Int) + (ns.take (min 1 ns.length)).sum % 1000003, ?_⟩
    simp only [N11, B11, List.length_map, h2, cut_ints, e, sm6, mSeq, mIfS, mRet, mDrop, mSet, mSetT, mSetL, mSetD, mFrz, mNext, mBk, mCt, mNever, mFor, mWhile, mVar, mC, mOp, mUn, mTru, mB, mOfT, mAnd, mOr, mNot, mIf, mAndV, mOrV, mNotV, mChain, mNil, mCons, mTup, mLst, mFz, mFzD, mDNew, mDGet, mDIn, mBlt, mBltL, mIsi, mNoO, mSomeO, mSl, mRg1, mRg2, mLstRg, mCall, mCallK, mItS, mItR, mItE, mLc, mLc2, mYes, mApp1, mExt, mPopW, mPopAtW, mSetIx, mDPut, mRf, mRfD, pE, pL, pD, mPs, mPar, putP, wE, bnd, pk, liftO, peek, dats, pks, getL, putLρ, putLM, getD, putDρ, putDM, argC, permL, slotA, outV, mFn, setTg, setTgs, gSeq, MO.look, MO.slot, truD, bolD, intD, Slot.own, noOwn, wipeS, capL, gAdd, DL.gSub, gMul, gDiv, gMod, gPow, gLt, gLe, gGt, gGe, gIs, gIsNot, gIx, gLen, gAbs, gMax2, gMin2, gInt, gList, gTuple, gNeg, gI0, gII, gSl, bodE, bodT, bodI, lcF, forGo, lim, Nat.zero_le, Nat.reduceLeDiff, List.map_cons, List.map_nil, List.cons_append, List.nil_append, List.append_nil, List.length_cons, List.length_nil, List.getElem?_cons_zero, List.getElem?_cons_succ, List.getElem?_nil, List.replicate_zero, List.replicate_succ, List.all_cons, List.all_nil, List.any_cons, List.any_nil, List.filterMap_cons, List.filterMap_nil, List.set_cons_zero, List.set_cons_succ, Bool.and_true, Bool.true_and, Bool.and_false, Bool.false_and, Bool.and_self, Bool.or_true, Bool.true_or, Bool.or_false, Bool.false_or, Bool.not_true, Bool.not_false, Nat.zero_add, Nat.add_zero, Nat.reduceAdd, Nat.reduceSub, Nat.reduceMul, Nat.reduceBEq, Nat.reduceEqDiff, Nat.reduceLT, Nat.sub_self, beq_self_eq_true, Option.map_some, Option.map_none, reduceIte, if_true, if_false, Bool.false_eq_true, decide_true, decide_false, reduceCtorEq, Int.reduceLE, Int.reduceLT, Int.reduceNeg, Int.reduceToNat, Int.reduceEq, Int.reducePow, Int.reduceDiv, Int.reduceAdd, Int.reduceSub, Int.reduceMul, true_and, and_true, List.isEmpty_nil, List.isEmpty_cons]
theorem at18 {n : Nat} {as : List Vl} {M : List MO} : callN tab (n + 1) 18 as M = mFn N18.length B18 (callN tab n) as M := rfl
theorem r18 {M : List MO} {b u : Nat} (hB : Bx M b u) (hu : u ≤ 1000000) {xs : List D} (h0 : xs ≠ []) (h1 : xs.length < 10000) (n : Nat) (d : D) (hd : d = .list xs ∨ d = .tuple xs) :
    ∃ (x : D) (M' : List MO), callN tab (n + 2) 18 [.r b, .d d] M = some (.d x, M') ∧ x ∈ xs ∧ Bx M' b (u + 1) := by
  have hp := List.length_pos_iff.mpr h0
  obtain ⟨i, M', q, a, c, B'⟩ := r13 hB hu (many := (xs.length : Int)) (by omega) (by omega) n
  have e := atI_int (xs := xs) a (by omega)
  rw [at18]
  rcases hd with rfl | rfl
  · exact ⟨xs[i.toNat]'(by omega), M', by simp only [N18, B18, q, e, mSeq, mIfS, mRet, mDrop, mSet, mSetT, mSetL, mSetD, mFrz, mNext, mBk, mCt, mNever, mFor, mWhile, mVar, mC, mOp, mUn, mTru, mB, mOfT, mAnd, mOr, mNot, mIf, mAndV, mOrV, mNotV, mChain, mNil, mCons, mTup, mLst, mFz, mFzD, mDNew, mDGet, mDIn, mBlt, mBltL, mIsi, mNoO, mSomeO, mSl, mRg1, mRg2, mLstRg, mCall, mCallK, mItS, mItR, mItE, mLc, mLc2, mYes, mApp1, mExt, mPopW, mPopAtW, mSetIx, mDPut, mRf, mRfD, pE, pL, pD, mPs, mPar, putP, wE, bnd, pk, liftO, peek, dats, pks, getL, putLρ, putLM, getD, putDρ, putDM, argC, permL, slotA, outV, mFn, setTg, setTgs, gSeq, MO.look, MO.slot, truD, bolD, intD, Slot.own, noOwn, wipeS, capL, gAdd, DL.gSub, gMul, gDiv, gMod, gPow, gLt, gLe, gGt, gGe, gIs, gIsNot, gIx, gLen, gAbs, gMax2, gMin2, gInt, gList, gTuple, gNeg, gI0, gII, gSl, bodE, bodT, bodI, lcF, forGo, lim, Nat.zero_le, Nat.reduceLeDiff, List.map_cons, List.map_nil, List.cons_append, List.nil_append, List.append_nil, List.length_cons, List.length_nil, List.getElem?_cons_zero, List.getElem?_cons_succ, List.getElem?_nil, List.replicate_zero, List.replicate_succ, List.all_cons, List.all_nil, List.any_cons, List.any_nil, List.filterMap_cons, List.filterMap_nil, List.set_cons_zero, List.set_cons_succ, Bool.and_true, Bool.true_and, Bool.and_false, Bool.false_and, Bool.and_self, Bool.or_true, Bool.true_or, Bool.or_false, Bool.false_or, Bool.not_true, Bool.not_false, Nat.zero_add, Nat.add_zero, Nat.reduceAdd, Nat.reduceSub, Nat.reduceMul, Nat.reduceBEq, Nat.reduceEqDiff, Nat.reduceLT, Nat.sub_self, beq_self_eq_true, Option.map_some, Option.map_none, reduceIte, if_true, if_false, Bool.false_eq_true, decide_true, decide_false, reduceCtorEq, Int.reduceLE, Int.reduceLT, Int.reduceNeg, Int.reduceToNat, Int.reduceEq, Int.reducePow, Int.reduceDiv, Int.reduceAdd, Int.reduceSub, Int.reduceMul, true_and, and_true, List.isEmpty_nil, List.isEmpty_cons], List.getElem_mem _, B'⟩
  · exact ⟨xs[i.toNat]'(by omega), M', by simp only [N18, B18, q, e, mSeq, mIfS, mRet, mDrop, mSet, mSetT, mSetL, mSetD, mFrz, mNext, mBk, mCt, mNever, mFor, mWhile, mVar, mC, mOp, mUn, mTru, mB, mOfT, mAnd, mOr, mNot, mIf, mAndV, mOrV, mNotV, mChain, mNil, mCons, mTup, mLst, mFz, mFzD, mDNew, mDGet, mDIn, mBlt, mBltL, mIsi, mNoO, mSomeO, mSl, mRg1, mRg2, mLstRg, mCall, mCallK, mItS, mItR, mItE, mLc, mLc2, mYes, mApp1, mExt, mPopW, mPopAtW, mSetIx, mDPut, mRf, mRfD, pE, pL, pD, mPs, mPar, putP, wE, bnd, pk, liftO, peek, dats, pks, getL, putLρ, putLM, getD, putDρ, putDM, argC, permL, slotA, outV, mFn, setTg, setTgs, gSeq, MO.look, MO.slot, truD, bolD, intD, Slot.own, noOwn, wipeS, capL, gAdd, DL.gSub, gMul, gDiv, gMod, gPow, gLt, gLe, gGt, gGe, gIs, gIsNot, gIx, gLen, gAbs, gMax2, gMin2, gInt, gList, gTuple, gNeg, gI0, gII, gSl, bodE, bodT, bodI, lcF, forGo, lim, Nat.zero_le, Nat.reduceLeDiff, List.map_cons, List.map_nil, List.cons_append, List.nil_append, List.append_nil, List.length_cons, List.length_nil, List.getElem?_cons_zero, List.getElem?_cons_succ, List.getElem?_nil, List.replicate_zero, List.replicate_succ, List.all_cons, List.all_nil, List.any_cons, List.any_nil, List.filterMap_cons, List.filterMap_nil, List.set_cons_zero, List.set_cons_succ, Bool.and_true, Bool.true_and, Bool.and_false, Bool.false_and, Bool.and_self, Bool.or_true, Bool.true_or, Bool.or_false, Bool.false_or, Bool.not_true, Bool.not_false, Nat.zero_add, Nat.add_zero, Nat.reduceAdd, Nat.reduceSub, Nat.reduceMul, Nat.reduceBEq, Nat.reduceEqDiff, Nat.reduceLT, Nat.sub_self, beq_self_eq_true, Option.map_some, Option.map_none, reduceIte, if_true, if_false, Bool.false_eq_true, decide_true, decide_false, reduceCtorEq, Int.reduceLE, Int.reduceLT, Int.reduceNeg, Int.reduceToNat, Int.reduceEq, Int.reducePow, Int.reduceDiv, Int.reduceAdd, Int.reduceSub, Int.reduceMul, true_and, and_true, List.isEmpty_nil, List.isEmpty_cons], List.getElem_mem _, B'⟩
theorem at16 {n : Nat} {as : List Vl} {M : List MO} : callN tab (n + 1) 16 as M = mFn N16.length B16 (callN tab n) as M := rfl
theorem r16 {M : List MO} {b u : Nat} (hB : Bx M b u) (hu : u ≤ 999999) {l h : Int} (h0 : l < h) (h1 : h - l < 10000) (n : Nat) :
    ∃ (p : Row) (M' : List MO), callN tab (n + 2) 16 [.r b, .d (.int l), .d (.int h)] M = some (.d (pr p), M') ∧ l ≤ p.1 ∧ p.1 < p.2 ∧ p.2 ≤ h ∧ Bx M' b (u + 2) := by
  obtain ⟨d1, M1, q1, a1, c1, B1'⟩ := r13 hB (by omega) (many := h - l) (by omega) (by omega) n
  obtain ⟨d2, M2, q2, a2, c2, B2'⟩ := r13 B1' (by omega) (many := h - (l + d1)) (by omega) (by omega) n
  rw [at16]
  exact ⟨(l + d1, l + d1 + 1 + d2), M2, by simp only [N16, B16, pr, q1, q2, mSeq, mIfS, mRet, mDrop, mSet, mSetT, mSetL, mSetD, mFrz, mNext, mBk, mCt, mNever, mFor, mWhile, mVar, mC, mOp, mUn, mTru, mB, mOfT, mAnd, mOr, mNot, mIf, mAndV, mOrV, mNotV, mChain, mNil, mCons, mTup, mLst, mFz, mFzD, mDNew, mDGet, mDIn, mBlt, mBltL, mIsi, mNoO, mSomeO, mSl, mRg1, mRg2, mLstRg, mCall, mCallK, mItS, mItR, mItE, mLc, mLc2, mYes, mApp1, mExt, mPopW, mPopAtW, mSetIx, mDPut, mRf, mRfD, pE, pL, pD, mPs, mPar, putP, wE, bnd, pk, liftO, peek, dats, pks, getL, putLρ, putLM, getD, putDρ, putDM, argC, permL, slotA, outV, mFn, setTg, setTgs, gSeq, MO.look, MO.slot, truD, bolD, intD, Slot.own, noOwn, wipeS, capL, gAdd, DL.gSub, gMul, gDiv, gMod, gPow, gLt, gLe, gGt, gGe, gIs, gIsNot, gIx, gLen, gAbs, gMax2, gMin2, gInt, gList, gTuple, gNeg, gI0, gII, gSl, bodE, bodT, bodI, lcF, forGo, lim, Nat.zero_le, Nat.reduceLeDiff, List.map_cons, List.map_nil, List.cons_append, List.nil_append, List.append_nil, List.length_cons, List.length_nil, List.getElem?_cons_zero, List.getElem?_cons_succ, List.getElem?_nil, List.replicate_zero, List.replicate_succ, List.all_cons, List.all_nil, List.any_cons, List.any_nil, List.filterMap_cons, List.filterMap_nil, List.set_cons_zero, List.set_cons_succ, Bool.and_true, Bool.true_and, Bool.and_false, Bool.false_and, Bool.and_self, Bool.or_true, Bool.true_or, Bool.or_false, Bool.false_or, Bool.not_true, Bool.not_false, Nat.zero_add, Nat.add_zero, Nat.reduceAdd, Nat.reduceSub, Nat.reduceMul, Nat.reduceBEq, Nat.reduceEqDiff, Nat.reduceLT, Nat.sub_self, beq_self_eq_true, Option.map_some, Option.map_none, reduceIte, if_true, if_false, Bool.false_eq_true, decide_true, decide_false, reduceCtorEq, Int.reduceLE, Int.reduceLT, Int.reduceNeg, Int.reduceToNat, Int.reduceEq, Int.reducePow, Int.reduceDiv, Int.reduceAdd, Int.reduceSub, Int.reduceMul, true_and, and_true, List.isEmpty_nil, List.isEmpty_cons], by show l ≤ l + d1; omega, by show l + d1 < l + d1 + 1 + d2; omega, by show l + d1 + 1 + d2 ≤ h; omega, B2'⟩
theorem at20 {n : Nat} {as : List Vl} {M : List MO} : callN tab (n + 1) 20 as M = mFn N20.length B20 (callN tab n) as M := rfl
def meet (p q : Row) : Bool := decide ((if q.1 > p.1 then q.1 else p.1) < (if q.2 < p.2 then q.2 else p.2))
theorem r20 (p q : Row) (n : Nat) (M : List MO) : callN tab (n + 1) 20 [.d (pr p), .d (pr q)] M = some (.d (.bool (meet p q)), M) := by
  rw [at20]
  simp only [N20, B20, pr, pr0, pr1, mSeq, mIfS, mRet, mDrop, mSet, mSetT, mSetL, mSetD, mFrz, mNext, mBk, mCt, mNever, mFor, mWhile, mVar, mC, mOp, mUn, mTru, mB, mOfT, mAnd, mOr, mNot, mIf, mAndV, mOrV, mNotV, mChain, mNil, mCons, mTup, mLst, mFz, mFzD, mDNew, mDGet, mDIn, mBlt, mBltL, mIsi, mNoO, mSomeO, mSl, mRg1, mRg2, mLstRg, mCall, mCallK, mItS, mItR, mItE, mLc, mLc2, mYes, mApp1, mExt, mPopW, mPopAtW, mSetIx, mDPut, mRf, mRfD, pE, pL, pD, mPs, mPar, putP, wE, bnd, pk, liftO, peek, dats, pks, getL, putLρ, putLM, getD, putDρ, putDM, argC, permL, slotA, outV, mFn, setTg, setTgs, gSeq, MO.look, MO.slot, truD, bolD, intD, Slot.own, noOwn, wipeS, capL, gAdd, DL.gSub, gMul, gDiv, gMod, gPow, gLt, gLe, gGt, gGe, gIs, gIsNot, gIx, gLen, gAbs, gMax2, gMin2, gInt, gList, gTuple, gNeg, gI0, gII, gSl, bodE, bodT, bodI, lcF, forGo, lim, Nat.zero_le, Nat.reduceLeDiff, List.map_cons, List.map_nil, List.cons_append, List.nil_append, List.append_nil, List.length_cons, List.length_nil, List.getElem?_cons_zero, List.getElem?_cons_succ, List.getElem?_nil, List.replicate_zero, List.replicate_succ, List.all_cons, List.all_nil, List.any_cons, List.any_nil, List.filterMap_cons, List.filterMap_nil, List.set_cons_zero, List.set_cons_succ, Bool.and_true, Bool.true_and, Bool.and_false, Bool.false_and, Bool.and_self, Bool.or_true, Bool.true_or, Bool.or_false, Bool.false_or, Bool.not_true, Bool.not_false, Nat.zero_add, Nat.add_zero, Nat.reduceAdd, Nat.reduceSub, Nat.reduceMul, Nat.reduceBEq, Nat.reduceEqDiff, Nat.reduceLT, Nat.sub_self, beq_self_eq_true, Option.map_some, Option.map_none, reduceIte, if_true, if_false, Bool.false_eq_true, decide_true, decide_false, reduceCtorEq, Int.reduceLE, Int.reduceLT, Int.reduceNeg, Int.reduceToNat, Int.reduceEq, Int.reducePow, Int.reduceDiv, Int.reduceAdd, Int.reduceSub, Int.reduceMul, true_and, and_true, List.isEmpty_nil, List.isEmpty_cons]
  rfl
theorem at15 {n : Nat} {as : List Vl} {M : List MO} : callN tab (n + 1) 15 as M = mFn N15.length B15 (callN tab n) as M := rfl
theorem iL_erase : ∀ (is : List Nat) (j : Nat), (iL is).eraseIdx j = iL (is.eraseIdx j)
  | [], _ => rfl
  | _ :: _, 0 => rfl
  | i :: is, j + 1 => by
    show nD i :: (iL is).eraseIdx j = nD i :: iL (is.eraseIdx j)
    rw [iL_erase is j]
theorem erase_perm : ∀ (l : List Nat) (j : Nat) (h : j < l.length), (l[j] :: l.eraseIdx j).Perm l
  | [], _, h => absurd h (Nat.not_lt_zero _)
  | x :: l, 0, _ => List.Perm.refl _
  | x :: l, j + 1, h => by
    have hj : j < l.length := Nat.lt_of_succ_lt_succ h
    have := erase_perm l j hj
    show (l[j] :: x :: l.eraseIdx j).Perm (x :: l)
    exact (List.Perm.swap x _ _).trans (this.cons x)
theorem loop15 {b : Nat} {s1 : Slot} {n : Nat} : ∀ (k : Nat) (left found : List Nat) (M : List MO) (u f : Nat), left.length = k → Bx M b u → u + k ≤ 100000 → found.length + k < 1000 → k < f →
    ∃ (l : List Nat) (M' : List MO), whGo T15_0 L15_0 (callN tab (n + 1)) f [.r b, s1, .ol (iL left), .ol (iL found)] M = some (.nx, [.r b, s1, .ol [], .ol (iL (found ++ l))], M') ∧ l.Perm left ∧ Bx M' b (u + k) := by
  intro k
  induction k with
  | zero =>
    intro left found M u f hl hB hu hf hk
    have e : left = [] := List.length_eq_zero_iff.mp hl
    subst e
    cases f with
    | zero => exact absurd hk (Nat.not_lt_zero _)
    | succ f =>
      refine ⟨[], M, ?_, List.Perm.refl _, hB⟩
      rw [wh_end (M1 := M)]
      · rw [List.append_nil]
        rfl
      · have e1 : gNe (.list (iL [])) (.list []) = some (.bool false) := by rw [gNe_nil (iL_ok [])]; rfl
        simp only [T15_0, e1, mSeq, mIfS, mRet, mDrop, mSet, mSetT, mSetL, mSetD, mFrz, mNext, mBk, mCt, mNever, mFor, mWhile, mVar, mC, mOp, mUn, mTru, mB, mOfT, mAnd, mOr, mNot, mIf, mAndV, mOrV, mNotV, mChain, mNil, mCons, mTup, mLst, mFz, mFzD, mDNew, mDGet, mDIn, mBlt, mBltL, mIsi, mNoO, mSomeO, mSl, mRg1, mRg2, mLstRg, mCall, mCallK, mItS, mItR, mItE, mLc, mLc2, mYes, mApp1, mExt, mPopW, mPopAtW, mSetIx, mDPut, mRf, mRfD, pE, pL, pD, mPs, mPar, putP, wE, bnd, pk, liftO, peek, dats, pks, getL, putLρ, putLM, getD, putDρ, putDM, argC, permL, slotA, outV, mFn, setTg, setTgs, gSeq, MO.look, MO.slot, truD, bolD, intD, Slot.own, noOwn, wipeS, capL, gAdd, DL.gSub, gMul, gDiv, gMod, gPow, gLt, gLe, gGt, gGe, gIs, gIsNot, gIx, gLen, gAbs, gMax2, gMin2, gInt, gList, gTuple, gNeg, gI0, gII, gSl, bodE, bodT, bodI, lcF, forGo, lim, Nat.zero_le, Nat.reduceLeDiff, List.map_cons, List.map_nil, List.cons_append, List.nil_append, List.append_nil, List.length_cons, List.length_nil, List.getElem?_cons_zero, List.getElem?_cons_succ, List.getElem?_nil, List.replicate_zero, List.replicate_succ, List.all_cons, List.all_nil, List.any_cons, List.any_nil, List.filterMap_cons, List.filterMap_nil, List.set_cons_zero, List.set_cons_succ, Bool.and_true, Bool.true_and, Bool.and_false, Bool.false_and, Bool.and_self, Bool.or_true, Bool.true_or, Bool.or_false, Bool.false_or, Bool.not_true, Bool.not_false, Nat.zero_add, Nat.add_zero, Nat.reduceAdd, Nat.reduceSub, Nat.reduceMul, Nat.reduceBEq, Nat.reduceEqDiff, Nat.reduceLT, Nat.sub_self, beq_self_eq_true, Option.map_some, Option.map_none, reduceIte, if_true, if_false, Bool.false_eq_true, decide_true, decide_false, reduceCtorEq, Int.reduceLE, Int.reduceLT, Int.reduceNeg, Int.reduceToNat, Int.reduceEq, Int.reducePow, Int.reduceDiv, Int.reduceAdd, Int.reduceSub, Int.reduceMul, true_and, and_true, List.isEmpty_nil, List.isEmpty_cons]
  | succ k ih =>
    intro left found M u f hl hB hu hf hk
    cases f with
    | zero => exact absurd hk (Nat.not_lt_zero _)
    | succ f =>
      have hne : left ≠ [] := fun z => by rw [z] at hl; cases hl
      have e1 : gNe (.list (iL left)) (.list []) = some (.bool true) := by
        rw [gNe_nil (iL_ok left)]
        cases left with
        | nil => exact absurd rfl hne
        | cons => rfl
      obtain ⟨d, M1, q, a, c, B1'⟩ := r13 hB (by omega) (many := (left.length : Int)) (by omega) (by omega) n
      obtain ⟨j, rfl⟩ : ∃ j : Nat, d = (j : Int) := ⟨d.toNat, by omega⟩
      have hj : j < left.length := by omega
      have hj2 : j < (iL left).length := by rw [iL_len]; exact hj
      have x1 : ixN (iL left).length (j : Int) = some j := ixN_nat hj2
      have x2 : (iL left)[j]? = some (nD left[j]) := by
        show (left.map nD)[j]? = _
        rw [List.getElem?_map, List.getElem?_eq_getElem hj]
        rfl
      have x3 : (iL left).eraseIdx j = iL (left.eraseIdx j) := iL_erase left j
      have l1 : (iL left).length ≤ 1000000 := by rw [iL_len]; omega
      have l2 : (iL found).length < 1000000 := by rw [iL_len]; omega
      have x4 : iL found ++ [nD left[j]] = iL (found ++ [left[j]]) := by
        unfold iL
        rw [List.map_append]
        rfl
      obtain ⟨l, M2, g1, g2, g3⟩ := ih (left.eraseIdx j) (found ++ [left[j]]) M1 (u + 1) f (by rw [List.length_eraseIdx, if_pos hj]; omega) B1' (by omega) (by rw [List.length_append, List.length_singleton]; omega) (by omega)
      refine ⟨left[j] :: l, M2, ?_, ?_, by rw [show u + (k + 1) = u + 1 + k by omega]; exact g3⟩
      · rw [wh_nx (M1 := M) (ρ2 := [.r b, s1, .ol (iL (left.eraseIdx j)), .ol (iL (found ++ [left[j]]))]) (M2 := M1)]
        · rw [g1, List.append_assoc]
          rfl
        · simp only [T15_0, e1, mSeq, mIfS, mRet, mDrop, mSet, mSetT, mSetL, mSetD, mFrz, mNext, mBk, mCt, mNever, mFor, mWhile, mVar, mC, mOp, mUn, mTru, mB, mOfT, mAnd, mOr, mNot, mIf, mAndV, mOrV, mNotV, mChain, mNil, mCons, mTup, mLst, mFz, mFzD, mDNew, mDGet, mDIn, mBlt, mBltL, mIsi, mNoO, mSomeO, mSl, mRg1, mRg2, mLstRg, mCall, mCallK, mItS, mItR, mItE, mLc, mLc2, mYes, mApp1, mExt, mPopW, mPopAtW, mSetIx, mDPut, mRf, mRfD, pE, pL, pD, mPs, mPar, putP, wE, bnd, pk, liftO, peek, dats, pks, getL, putLρ, putLM, getD, putDρ, putDM, argC, permL, slotA, outV, mFn, setTg, setTgs, gSeq, MO.look, MO.slot, truD, bolD, intD, Slot.own, noOwn, wipeS, capL, gAdd, DL.gSub, gMul, gDiv, gMod, gPow, gLt, gLe, gGt, gGe, gIs, gIsNot, gIx, gLen, gAbs, gMax2, gMin2, gInt, gList, gTuple, gNeg, gI0, gII, gSl, bodE, bodT, bodI, lcF, forGo, lim, Nat.zero_le, Nat.reduceLeDiff, List.map_cons, List.map_nil, List.cons_append, List.nil_append, List.append_nil, List.length_cons, List.length_nil, List.getElem?_cons_zero, List.getElem?_cons_succ, List.getElem?_nil, List.replicate_zero, List.replicate_succ, List.all_cons, List.all_nil, List.any_cons, List.any_nil, List.filterMap_cons, List.filterMap_nil, List.set_cons_zero, List.set_cons_succ, Bool.and_true, Bool.true_and, Bool.and_false, Bool.false_and, Bool.and_self, Bool.or_true, Bool.true_or, Bool.or_false, Bool.false_or, Bool.not_true, Bool.not_false, Nat.zero_add, Nat.add_zero, Nat.reduceAdd, Nat.reduceSub, Nat.reduceMul, Nat.reduceBEq, Nat.reduceEqDiff, Nat.reduceLT, Nat.sub_self, beq_self_eq_true, Option.map_some, Option.map_none, reduceIte, if_true, if_false, Bool.false_eq_true, decide_true, decide_false, reduceCtorEq, Int.reduceLE, Int.reduceLT, Int.reduceNeg, Int.reduceToNat, Int.reduceEq, Int.reducePow, Int.reduceDiv, Int.reduceAdd, Int.reduceSub, Int.reduceMul, true_and, and_true, List.isEmpty_nil, List.isEmpty_cons]
        · have q' : callN tab (n + 1) 13 [.r b, .d (.int ((iL left).length : Int))] M = some (.d (.int (j : Int)), M1) := by rw [iL_len]; exact q
          simp only [L15_0, q', x1, x2, x3, x4, l1, l2, mSeq, mIfS, mRet, mDrop, mSet, mSetT, mSetL, mSetD, mFrz, mNext, mBk, mCt, mNever, mFor, mWhile, mVar, mC, mOp, mUn, mTru, mB, mOfT, mAnd, mOr, mNot, mIf, mAndV, mOrV, mNotV, mChain, mNil, mCons, mTup, mLst, mFz, mFzD, mDNew, mDGet, mDIn, mBlt, mBltL, mIsi, mNoO, mSomeO, mSl, mRg1, mRg2, mLstRg, mCall, mCallK, mItS, mItR, mItE, mLc, mLc2, mYes, mApp1, mExt, mPopW, mPopAtW, mSetIx, mDPut, mRf, mRfD, pE, pL, pD, mPs, mPar, putP, wE, bnd, pk, liftO, peek, dats, pks, getL, putLρ, putLM, getD, putDρ, putDM, argC, permL, slotA, outV, mFn, setTg, setTgs, gSeq, MO.look, MO.slot, truD, bolD, intD, Slot.own, noOwn, wipeS, capL, gAdd, DL.gSub, gMul, gDiv, gMod, gPow, gLt, gLe, gGt, gGe, gIs, gIsNot, gIx, gLen, gAbs, gMax2, gMin2, gInt, gList, gTuple, gNeg, gI0, gII, gSl, bodE, bodT, bodI, lcF, forGo, lim, Nat.zero_le, Nat.reduceLeDiff, List.map_cons, List.map_nil, List.cons_append, List.nil_append, List.append_nil, List.length_cons, List.length_nil, List.getElem?_cons_zero, List.getElem?_cons_succ, List.getElem?_nil, List.replicate_zero, List.replicate_succ, List.all_cons, List.all_nil, List.any_cons, List.any_nil, List.filterMap_cons, List.filterMap_nil, List.set_cons_zero, List.set_cons_succ, Bool.and_true, Bool.true_and, Bool.and_false, Bool.false_and, Bool.and_self, Bool.or_true, Bool.true_or, Bool.or_false, Bool.false_or, Bool.not_true, Bool.not_false, Nat.zero_add, Nat.add_zero, Nat.reduceAdd, Nat.reduceSub, Nat.reduceMul, Nat.reduceBEq, Nat.reduceEqDiff, Nat.reduceLT, Nat.sub_self, beq_self_eq_true, Option.map_some, Option.map_none, reduceIte, if_true, if_false, Bool.false_eq_true, decide_true, decide_false, reduceCtorEq, Int.reduceLE, Int.reduceLT, Int.reduceNeg, Int.reduceToNat, Int.reduceEq, Int.reducePow, Int.reduceDiv, Int.reduceAdd, Int.reduceSub, Int.reduceMul, true_and, and_true, List.isEmpty_nil, List.isEmpty_cons]
      · exact (g2.cons _).trans (erase_perm left j hj)
theorem r15 {M : List MO} {b u : Nat} (hB : Bx M b u) {m : Nat} (hm : m ≤ 200) (hu : u ≤ 90000) (n : Nat) :
    ∃ (l : List Nat) (M' : List MO), callN tab (n + 2) 15 [.r b, .d (.int (m : Int))] M = some (.d (.list (iL l)), M') ∧ l.Perm (all_ m) ∧ Bx M' b (u + m) := by
  obtain ⟨l, M', h1, h2, h3⟩ := loop15 (b := b) (s1 := .d (.int (m : Int))) (n := n) m (all_ m) [] M u lim (all_len m) hB (by omega) (by simp only [List.length_nil]; omega) (by unfold lim; omega)
  refine ⟨l, M', ?_, h2, h3⟩
  have hl2 : ((m : Int) - 0).toNat ≤ 1000000 := by omega
  have hl3 : okRg 0 (m : Int) = true := okRg0 (by omega)
  rw [at15]
  have e : B15 (callN tab (n + 1)) [.r b, .d (.int (m : Int)), .un, .un] M = some (.rt (.v 3), [.r b, .d (.int (m : Int)), .ol [], .ol (iL l)], M') := by
    unfold B15
    rw [seq_nx (ρ1 := [.r b, .d (.int (m : Int)), .ol (iL (all_ m)), .ol []]) (M1 := M) (by simp only [hl2, hl3, rg_all, mSeq, mIfS, mRet, mDrop, mSet, mSetT, mSetL, mSetD, mFrz, mNext, mBk, mCt, mNever, mFor, mWhile, mVar, mC, mOp, mUn, mTru, mB, mOfT, mAnd, mOr, mNot, mIf, mAndV, mOrV, mNotV, mChain, mNil, mCons, mTup, mLst, mFz, mFzD, mDNew, mDGet, mDIn, mBlt, mBltL, mIsi, mNoO, mSomeO, mSl, mRg1, mRg2, mLstRg, mCall, mCallK, mItS, mItR, mItE, mLc, mLc2, mYes, mApp1, mExt, mPopW, mPopAtW, mSetIx, mDPut, mRf, mRfD, pE, pL, pD, mPs, mPar, putP, wE, bnd, pk, liftO, peek, dats, pks, getL, putLρ, putLM, getD, putDρ, putDM, argC, permL, slotA, outV, mFn, setTg, setTgs, gSeq, MO.look, MO.slot, truD, bolD, intD, Slot.own, noOwn, wipeS, capL, gAdd, DL.gSub, gMul, gDiv, gMod, gPow, gLt, gLe, gGt, gGe, gIs, gIsNot, gIx, gLen, gAbs, gMax2, gMin2, gInt, gList, gTuple, gNeg, gI0, gII, gSl, bodE, bodT, bodI, lcF, forGo, lim, Nat.zero_le, Nat.reduceLeDiff, List.map_cons, List.map_nil, List.cons_append, List.nil_append, List.append_nil, List.length_cons, List.length_nil, List.getElem?_cons_zero, List.getElem?_cons_succ, List.getElem?_nil, List.replicate_zero, List.replicate_succ, List.all_cons, List.all_nil, List.any_cons, List.any_nil, List.filterMap_cons, List.filterMap_nil, List.set_cons_zero, List.set_cons_succ, Bool.and_true, Bool.true_and, Bool.and_false, Bool.false_and, Bool.and_self, Bool.or_true, Bool.true_or, Bool.or_false, Bool.false_or, Bool.not_true, Bool.not_false, Nat.zero_add, Nat.add_zero, Nat.reduceAdd, Nat.reduceSub, Nat.reduceMul, Nat.reduceBEq, Nat.reduceEqDiff, Nat.reduceLT, Nat.sub_self, beq_self_eq_true, Option.map_some, Option.map_none, reduceIte, if_true, if_false, Bool.false_eq_true, decide_true, decide_false, reduceCtorEq, Int.reduceLE, Int.reduceLT, Int.reduceNeg, Int.reduceToNat, Int.reduceEq, Int.reducePow, Int.reduceDiv, Int.reduceAdd, Int.reduceSub, Int.reduceMul, true_and, and_true, List.isEmpty_nil, List.isEmpty_cons])]
    rw [seq_nx (ρ1 := [.r b, .d (.int (m : Int)), .ol [], .ol (iL l)]) (M1 := M') (by unfold mWhile; exact h1)]
    rfl
  rw [fn_rt (x := .v 3) (ρ' := [.r b, .d (.int (m : Int)), .ol [], .ol (iL l)]) (M' := M') e]
  rfl
end K03
set_option Elab.async false
set_option linter.all false
set_option maxRecDepth 100000
set_option maxHeartbeats 4000000
/-! k03: the rows that the law draws -/
namespace K03
open PySem L2 DL
def okp (p : Row) : Prop := 0 ≤ p.1 ∧ p.1 < p.2 ∧ p.2 ≤ 80
theorem app_pr (fs : List Row) (p : Row) : fs.map pr ++ [pr p] = (fs ++ [p]).map pr := by rw [List.map_append]; rfl
theorem sml2 : smallI 2 = true := by decide
theorem sml3 : smallI 3 = true := by decide
theorem rows_ok (fs : List Row) : okD (.list (fs.map pr)) = true := okD_list (k := 2) (fun d m => by
  obtain ⟨p, _, rfl⟩ := List.mem_map.mp m
  refine ⟨rfl, ?_⟩
  simp [pr, PyData.depth, PyData.depthAll]) (by decide)
theorem turn17 {b u : Nat} {M : List MO} (hB : Bx M b u) (hu : u ≤ 90000) {many k : Nat} (hk : k < many) (hm : many ≤ 24) {high w : Int} (hh : 9 ≤ high) (hh2 : high ≤ 70) (hw : 0 ≤ w) (hw2 : w < 8) {fs : List Row} (hf : ∀ p ∈ fs, okp p) (hfl : fs.length ≤ 24) (s6 : DL.Slot) (n : Nat) :
    ∃ (p : Row) (M' : List MO) (s6' : DL.Slot), F17_0 (callN tab (n + 2)) [.r b, .d (.int (many : Int)), .d (.int high), .d (.int w), .ol (fs.map pr), .d (.int (k : Int)), s6, .un] M = some (.nx, [.r b, .d (.int (many : Int)), .d (.int high), .d (.int w), .ol ((fs ++ [p]).map pr), .d (.int (k : Int)), s6', .un], M') ∧ okp p ∧ Bx M' b (u + 4) := by
  have hl : (fs.map pr).length < 1000000 := by rw [List.length_map]; omega
  have hw3 : w = 0 ∨ w = 1 ∨ w = 2 ∨ w = 3 ∨ w = 4 ∨ w = 5 ∨ w = 6 ∨ w = 7 := by omega
  rcases hw3 with rfl | rfl | rfl | rfl | rfl | rfl | rfl | rfl
  · obtain ⟨p, M1, q, a1, a2, a3, B1⟩ := r16 hB (by omega) (l := 0) (h := high) (by omega) (by omega) n
    exact ⟨p, M1, s6, by simp only [F17_0, q, hl, app_pr, mSeq, mIfS, mRet, mDrop, mSet, mSetT, mSetL, mSetD, mFrz, mNext, mBk, mCt, mNever, mFor, mWhile, mVar, mC, mOp, mUn, mTru, mB, mOfT, mAnd, mOr, mNot, mIf, mAndV, mOrV, mNotV, mChain, mNil, mCons, mTup, mLst, mFz, mFzD, mDNew, mDGet, mDIn, mBlt, mBltL, mIsi, mNoO, mSomeO, mSl, mRg1, mRg2, mLstRg, mCall, mCallK, mItS, mItR, mItE, mLc, mLc2, mYes, mApp1, mExt, mPopW, mPopAtW, mSetIx, mDPut, mRf, mRfD, pE, pL, pD, mPs, mPar, putP, wE, bnd, pk, liftO, peek, dats, pks, getL, putLρ, putLM, getD, putDρ, putDM, argC, permL, slotA, outV, mFn, setTg, setTgs, gSeq, MO.look, MO.slot, truD, bolD, intD, Slot.own, noOwn, wipeS, capL, gAdd, DL.gSub, gMul, gDiv, gMod, gPow, gLt, gLe, gGt, gGe, gIs, gIsNot, gIx, gLen, gAbs, gMax2, gMin2, gInt, gList, gTuple, gNeg, gI0, gII, gSl, bodE, bodT, bodI, lcF, forGo, lim, Nat.zero_le, Nat.reduceLeDiff, List.map_cons, List.map_nil, List.cons_append, List.nil_append, List.append_nil, List.length_cons, List.length_nil, List.getElem?_cons_zero, List.getElem?_cons_succ, List.getElem?_nil, List.replicate_zero, List.replicate_succ, List.all_cons, List.all_nil, List.any_cons, List.any_nil, List.filterMap_cons, List.filterMap_nil, List.set_cons_zero, List.set_cons_succ, Bool.and_true, Bool.true_and, Bool.and_false, Bool.false_and, Bool.and_self, Bool.or_true, Bool.true_or, Bool.or_false, Bool.false_or, Bool.not_true, Bool.not_false, Nat.zero_add, Nat.add_zero, Nat.reduceAdd, Nat.reduceSub, Nat.reduceMul, Nat.reduceBEq, Nat.reduceEqDiff, Nat.reduceLT, Nat.sub_self, beq_self_eq_true, Option.map_some, Option.map_none, reduceIte, if_true, if_false, Bool.false_eq_true, decide_true, decide_false, reduceCtorEq, Int.reduceLE, Int.reduceLT, Int.reduceNeg, Int.reduceToNat, Int.reduceEq, Int.reducePow, Int.reduceDiv, Int.reduceAdd, Int.reduceSub, Int.reduceMul, true_and, and_true, List.isEmpty_nil, List.isEmpty_cons], ⟨a1, a2, by omega⟩, B1.mono (by omega)⟩
  · obtain ⟨p, M1, q, a1, a2, a3, B1⟩ := r16 hB (by omega) (l := 0) (h := high) (by omega) (by omega) n
    exact ⟨p, M1, s6, by simp only [F17_0, q, hl, app_pr, mSeq, mIfS, mRet, mDrop, mSet, mSetT, mSetL, mSetD, mFrz, mNext, mBk, mCt, mNever, mFor, mWhile, mVar, mC, mOp, mUn, mTru, mB, mOfT, mAnd, mOr, mNot, mIf, mAndV, mOrV, mNotV, mChain, mNil, mCons, mTup, mLst, mFz, mFzD, mDNew, mDGet, mDIn, mBlt, mBltL, mIsi, mNoO, mSomeO, mSl, mRg1, mRg2, mLstRg, mCall, mCallK, mItS, mItR, mItE, mLc, mLc2, mYes, mApp1, mExt, mPopW, mPopAtW, mSetIx, mDPut, mRf, mRfD, pE, pL, pD, mPs, mPar, putP, wE, bnd, pk, liftO, peek, dats, pks, getL, putLρ, putLM, getD, putDρ, putDM, argC, permL, slotA, outV, mFn, setTg, setTgs, gSeq, MO.look, MO.slot, truD, bolD, intD, Slot.own, noOwn, wipeS, capL, gAdd, DL.gSub, gMul, gDiv, gMod, gPow, gLt, gLe, gGt, gGe, gIs, gIsNot, gIx, gLen, gAbs, gMax2, gMin2, gInt, gList, gTuple, gNeg, gI0, gII, gSl, bodE, bodT, bodI, lcF, forGo, lim, Nat.zero_le, Nat.reduceLeDiff, List.map_cons, List.map_nil, List.cons_append, List.nil_append, List.append_nil, List.length_cons, List.length_nil, List.getElem?_cons_zero, List.getElem?_cons_succ, List.getElem?_nil, List.replicate_zero, List.replicate_succ, List.all_cons, List.all_nil, List.any_cons, List.any_nil, List.filterMap_cons, List.filterMap_nil, List.set_cons_zero, List.set_cons_succ, Bool.and_true, Bool.true_and, Bool.and_false, Bool.false_and, Bool.and_self, Bool.or_true, Bool.true_or, Bool.or_false, Bool.false_or, Bool.not_true, Bool.not_false, Nat.zero_add, Nat.add_zero, Nat.reduceAdd, Nat.reduceSub, Nat.reduceMul, Nat.reduceBEq, Nat.reduceEqDiff, Nat.reduceLT, Nat.sub_self, beq_self_eq_true, Option.map_some, Option.map_none, reduceIte, if_true, if_false, Bool.false_eq_true, decide_true, decide_false, reduceCtorEq, Int.reduceLE, Int.reduceLT, Int.reduceNeg, Int.reduceToNat, Int.reduceEq, Int.reducePow, Int.reduceDiv, Int.reduceAdd, Int.reduceSub, Int.reduceMul, true_and, and_true, List.isEmpty_nil, List.isEmpty_cons], ⟨a1, a2, by omega⟩, B1.mono (by omega)⟩
  · obtain ⟨d1, M1, q1, a1, c1, B1⟩ := r13 hB (by omega) (many := high - 3) (by omega) (by omega) (n + 1)
    obtain ⟨d2, M2, q2, a2, c2, B2⟩ := r13 B1 (by omega) (many := 3) (by omega) (by omega) (n + 1)
    refine ⟨(d1, d1 + 1 + d2), M2, .d (.int d1), ?_, ⟨a1, by show d1 < d1 + 1 + d2; omega, by show d1 + 1 + d2 ≤ 80; omega⟩, B2.mono (by omega)⟩
    rw [← app_pr]
    simp only [F17_0, q1, q2, hl, gEq_int, pr, mSeq, mIfS, mRet, mDrop, mSet, mSetT, mSetL, mSetD, mFrz, mNext, mBk, mCt, mNever, mFor, mWhile, mVar, mC, mOp, mUn, mTru, mB, mOfT, mAnd, mOr, mNot, mIf, mAndV, mOrV, mNotV, mChain, mNil, mCons, mTup, mLst, mFz, mFzD, mDNew, mDGet, mDIn, mBlt, mBltL, mIsi, mNoO, mSomeO, mSl, mRg1, mRg2, mLstRg, mCall, mCallK, mItS, mItR, mItE, mLc, mLc2, mYes, mApp1, mExt, mPopW, mPopAtW, mSetIx, mDPut, mRf, mRfD, pE, pL, pD, mPs, mPar, putP, wE, bnd, pk, liftO, peek, dats, pks, getL, putLρ, putLM, getD, putDρ, putDM, argC, permL, slotA, outV, mFn, setTg, setTgs, gSeq, MO.look, MO.slot, truD, bolD, intD, Slot.own, noOwn, wipeS, capL, gAdd, DL.gSub, gMul, gDiv, gMod, gPow, gLt, gLe, gGt, gGe, gIs, gIsNot, gIx, gLen, gAbs, gMax2, gMin2, gInt, gList, gTuple, gNeg, gI0, gII, gSl, bodE, bodT, bodI, lcF, forGo, lim, Nat.zero_le, Nat.reduceLeDiff, List.map_cons, List.map_nil, List.cons_append, List.nil_append, List.append_nil, List.length_cons, List.length_nil, List.getElem?_cons_zero, List.getElem?_cons_succ, List.getElem?_nil, List.replicate_zero, List.replicate_succ, List.all_cons, List.all_nil, List.any_cons, List.any_nil, List.filterMap_cons, List.filterMap_nil, List.set_cons_zero, List.set_cons_succ, Bool.and_true, Bool.true_and, Bool.and_false, Bool.false_and, Bool.and_self, Bool.or_true, Bool.true_or, Bool.or_false, Bool.false_or, Bool.not_true, Bool.not_false, Nat.zero_add, Nat.add_zero, Nat.reduceAdd, Nat.reduceSub, Nat.reduceMul, Nat.reduceBEq, Nat.reduceEqDiff, Nat.reduceLT, Nat.sub_self, beq_self_eq_true, Option.map_some, Option.map_none, reduceIte, if_true, if_false, Bool.false_eq_true, decide_true, decide_false, reduceCtorEq, Int.reduceLE, Int.reduceLT, Int.reduceNeg, Int.reduceToNat, Int.reduceEq, Int.reducePow, Int.reduceDiv, Int.reduceAdd, Int.reduceSub, Int.reduceMul, true_and, and_true, List.isEmpty_nil, List.isEmpty_cons]
  · obtain ⟨d2, M2, q2, a2, c2, B2⟩ := r13 hB (by omega) (many := 5) (by omega) (by omega) (n + 1)
    refine ⟨(2 * (k : Int), 2 * (k : Int) + 1 + d2), M2, s6, ?_, ⟨by show 0 ≤ 2 * (k : Int); omega, by show 2 * (k : Int) < 2 * (k : Int) + 1 + d2; omega, by show 2 * (k : Int) + 1 + d2 ≤ 80; omega⟩, B2.mono (by omega)⟩
    rw [← app_pr]
    simp only [F17_0, q2, hl, gEq_int, pr, sml2, mSeq, mIfS, mRet, mDrop, mSet, mSetT, mSetL, mSetD, mFrz, mNext, mBk, mCt, mNever, mFor, mWhile, mVar, mC, mOp, mUn, mTru, mB, mOfT, mAnd, mOr, mNot, mIf, mAndV, mOrV, mNotV, mChain, mNil, mCons, mTup, mLst, mFz, mFzD, mDNew, mDGet, mDIn, mBlt, mBltL, mIsi, mNoO, mSomeO, mSl, mRg1, mRg2, mLstRg, mCall, mCallK, mItS, mItR, mItE, mLc, mLc2, mYes, mApp1, mExt, mPopW, mPopAtW, mSetIx, mDPut, mRf, mRfD, pE, pL, pD, mPs, mPar, putP, wE, bnd, pk, liftO, peek, dats, pks, getL, putLρ, putLM, getD, putDρ, putDM, argC, permL, slotA, outV, mFn, setTg, setTgs, gSeq, MO.look, MO.slot, truD, bolD, intD, Slot.own, noOwn, wipeS, capL, gAdd, DL.gSub, gMul, gDiv, gMod, gPow, gLt, gLe, gGt, gGe, gIs, gIsNot, gIx, gLen, gAbs, gMax2, gMin2, gInt, gList, gTuple, gNeg, gI0, gII, gSl, bodE, bodT, bodI, lcF, forGo, lim, Nat.zero_le, Nat.reduceLeDiff, List.map_cons, List.map_nil, List.cons_append, List.nil_append, List.append_nil, List.length_cons, List.length_nil, List.getElem?_cons_zero, List.getElem?_cons_succ, List.getElem?_nil, List.replicate_zero, List.replicate_succ, List.all_cons, List.all_nil, List.any_cons, List.any_nil, List.filterMap_cons, List.filterMap_nil, List.set_cons_zero, List.set_cons_succ, Bool.and_true, Bool.true_and, Bool.and_false, Bool.false_and, Bool.and_self, Bool.or_true, Bool.true_or, Bool.or_false, Bool.false_or, Bool.not_true, Bool.not_false, Nat.zero_add, Nat.add_zero, Nat.reduceAdd, Nat.reduceSub, Nat.reduceMul, Nat.reduceBEq, Nat.reduceEqDiff, Nat.reduceLT, Nat.sub_self, beq_self_eq_true, Option.map_some, Option.map_none, reduceIte, if_true, if_false, Bool.false_eq_true, decide_true, decide_false, reduceCtorEq, Int.reduceLE, Int.reduceLT, Int.reduceNeg, Int.reduceToNat, Int.reduceEq, Int.reducePow, Int.reduceDiv, Int.reduceAdd, Int.reduceSub, Int.reduceMul, true_and, and_true, List.isEmpty_nil, List.isEmpty_cons]
  · obtain ⟨d2, M2, q2, a2, c2, B2⟩ := r13 hB (by omega) (many := 2) (by omega) (by omega) (n + 1)
    refine ⟨((k : Int), 2 * (many : Int) + 4 - (k : Int) + d2), M2, s6, ?_, ⟨by show 0 ≤ (k : Int); omega, by show (k : Int) < 2 * (many : Int) + 4 - (k : Int) + d2; omega, by show 2 * (many : Int) + 4 - (k : Int) + d2 ≤ 80; omega⟩, B2.mono (by omega)⟩
    rw [← app_pr]
    simp only [F17_0, q2, hl, gEq_int, pr, sml2, mSeq, mIfS, mRet, mDrop, mSet, mSetT, mSetL, mSetD, mFrz, mNext, mBk, mCt, mNever, mFor, mWhile, mVar, mC, mOp, mUn, mTru, mB, mOfT, mAnd, mOr, mNot, mIf, mAndV, mOrV, mNotV, mChain, mNil, mCons, mTup, mLst, mFz, mFzD, mDNew, mDGet, mDIn, mBlt, mBltL, mIsi, mNoO, mSomeO, mSl, mRg1, mRg2, mLstRg, mCall, mCallK, mItS, mItR, mItE, mLc, mLc2, mYes, mApp1, mExt, mPopW, mPopAtW, mSetIx, mDPut, mRf, mRfD, pE, pL, pD, mPs, mPar, putP, wE, bnd, pk, liftO, peek, dats, pks, getL, putLρ, putLM, getD, putDρ, putDM, argC, permL, slotA, outV, mFn, setTg, setTgs, gSeq, MO.look, MO.slot, truD, bolD, intD, Slot.own, noOwn, wipeS, capL, gAdd, DL.gSub, gMul, gDiv, gMod, gPow, gLt, gLe, gGt, gGe, gIs, gIsNot, gIx, gLen, gAbs, gMax2, gMin2, gInt, gList, gTuple, gNeg, gI0, gII, gSl, bodE, bodT, bodI, lcF, forGo, lim, Nat.zero_le, Nat.reduceLeDiff, List.map_cons, List.map_nil, List.cons_append, List.nil_append, List.append_nil, List.length_cons, List.length_nil, List.getElem?_cons_zero, List.getElem?_cons_succ, List.getElem?_nil, List.replicate_zero, List.replicate_succ, List.all_cons, List.all_nil, List.any_cons, List.any_nil, List.filterMap_cons, List.filterMap_nil, List.set_cons_zero, List.set_cons_succ, Bool.and_true, Bool.true_and, Bool.and_false, Bool.false_and, Bool.and_self, Bool.or_true, Bool.true_or, Bool.or_false, Bool.false_or, Bool.not_true, Bool.not_false, Nat.zero_add, Nat.add_zero, Nat.reduceAdd, Nat.reduceSub, Nat.reduceMul, Nat.reduceBEq, Nat.reduceEqDiff, Nat.reduceLT, Nat.sub_self, beq_self_eq_true, Option.map_some, Option.map_none, reduceIte, if_true, if_false, Bool.false_eq_true, decide_true, decide_false, reduceCtorEq, Int.reduceLE, Int.reduceLT, Int.reduceNeg, Int.reduceToNat, Int.reduceEq, Int.reducePow, Int.reduceDiv, Int.reduceAdd, Int.reduceSub, Int.reduceMul, true_and, and_true, List.isEmpty_nil, List.isEmpty_cons]
  · obtain ⟨d2, M2, q2, a2, c2, B2⟩ := r13 hB (by omega) (many := 3) (by omega) (by omega) (n + 1)
    refine ⟨(3 * (k : Int), 3 * (k : Int) + 1 + d2), M2, s6, ?_, ⟨by show 0 ≤ 3 * (k : Int); omega, by show 3 * (k : Int) < 3 * (k : Int) + 1 + d2; omega, by show 3 * (k : Int) + 1 + d2 ≤ 80; omega⟩, B2.mono (by omega)⟩
    rw [← app_pr]
    simp only [F17_0, q2, hl, gEq_int, pr, sml3, mSeq, mIfS, mRet, mDrop, mSet, mSetT, mSetL, mSetD, mFrz, mNext, mBk, mCt, mNever, mFor, mWhile, mVar, mC, mOp, mUn, mTru, mB, mOfT, mAnd, mOr, mNot, mIf, mAndV, mOrV, mNotV, mChain, mNil, mCons, mTup, mLst, mFz, mFzD, mDNew, mDGet, mDIn, mBlt, mBltL, mIsi, mNoO, mSomeO, mSl, mRg1, mRg2, mLstRg, mCall, mCallK, mItS, mItR, mItE, mLc, mLc2, mYes, mApp1, mExt, mPopW, mPopAtW, mSetIx, mDPut, mRf, mRfD, pE, pL, pD, mPs, mPar, putP, wE, bnd, pk, liftO, peek, dats, pks, getL, putLρ, putLM, getD, putDρ, putDM, argC, permL, slotA, outV, mFn, setTg, setTgs, gSeq, MO.look, MO.slot, truD, bolD, intD, Slot.own, noOwn, wipeS, capL, gAdd, DL.gSub, gMul, gDiv, gMod, gPow, gLt, gLe, gGt, gGe, gIs, gIsNot, gIx, gLen, gAbs, gMax2, gMin2, gInt, gList, gTuple, gNeg, gI0, gII, gSl, bodE, bodT, bodI, lcF, forGo, lim, Nat.zero_le, Nat.reduceLeDiff, List.map_cons, List.map_nil, List.cons_append, List.nil_append, List.append_nil, List.length_cons, List.length_nil, List.getElem?_cons_zero, List.getElem?_cons_succ, List.getElem?_nil, List.replicate_zero, List.replicate_succ, List.all_cons, List.all_nil, List.any_cons, List.any_nil, List.filterMap_cons, List.filterMap_nil, List.set_cons_zero, List.set_cons_succ, Bool.and_true, Bool.true_and, Bool.and_false, Bool.false_and, Bool.and_self, Bool.or_true, Bool.true_or, Bool.or_false, Bool.false_or, Bool.not_true, Bool.not_false, Nat.zero_add, Nat.add_zero, Nat.reduceAdd, Nat.reduceSub, Nat.reduceMul, Nat.reduceBEq, Nat.reduceEqDiff, Nat.reduceLT, Nat.sub_self, beq_self_eq_true, Option.map_some, Option.map_none, reduceIte, if_true, if_false, Bool.false_eq_true, decide_true, decide_false, reduceCtorEq, Int.reduceLE, Int.reduceLT, Int.reduceNeg, Int.reduceToNat, Int.reduceEq, Int.reducePow, Int.reduceDiv, Int.reduceAdd, Int.reduceSub, Int.reduceMul, true_and, and_true, List.isEmpty_nil, List.isEmpty_cons]
  · have g1 := gNe_nil (rows_ok fs)
    cases fs with
    | nil =>
      obtain ⟨p, M1, q, a1, a2, a3, B1⟩ := r16 hB (by omega) (l := 0) (h := high) (by omega) (by omega) n
      rw [List.map_nil] at g1
      refine ⟨p, M1, s6, ?_, ⟨a1, a2, by omega⟩, B1.mono (by omega)⟩
      simp only [F17_0, q, gEq_int, g1, mSeq, mIfS, mRet, mDrop, mSet, mSetT, mSetL, mSetD, mFrz, mNext, mBk, mCt, mNever, mFor, mWhile, mVar, mC, mOp, mUn, mTru, mB, mOfT, mAnd, mOr, mNot, mIf, mAndV, mOrV, mNotV, mChain, mNil, mCons, mTup, mLst, mFz, mFzD, mDNew, mDGet, mDIn, mBlt, mBltL, mIsi, mNoO, mSomeO, mSl, mRg1, mRg2, mLstRg, mCall, mCallK, mItS, mItR, mItE, mLc, mLc2, mYes, mApp1, mExt, mPopW, mPopAtW, mSetIx, mDPut, mRf, mRfD, pE, pL, pD, mPs, mPar, putP, wE, bnd, pk, liftO, peek, dats, pks, getL, putLρ, putLM, getD, putDρ, putDM, argC, permL, slotA, outV, mFn, setTg, setTgs, gSeq, MO.look, MO.slot, truD, bolD, intD, Slot.own, noOwn, wipeS, capL, gAdd, DL.gSub, gMul, gDiv, gMod, gPow, gLt, gLe, gGt, gGe, gIs, gIsNot, gIx, gLen, gAbs, gMax2, gMin2, gInt, gList, gTuple, gNeg, gI0, gII, gSl, bodE, bodT, bodI, lcF, forGo, lim, Nat.zero_le, Nat.reduceLeDiff, List.map_cons, List.map_nil, List.cons_append, List.nil_append, List.append_nil, List.length_cons, List.length_nil, List.getElem?_cons_zero, List.getElem?_cons_succ, List.getElem?_nil, List.replicate_zero, List.replicate_succ, List.all_cons, List.all_nil, List.any_cons, List.any_nil, List.filterMap_cons, List.filterMap_nil, List.set_cons_zero, List.set_cons_succ, Bool.and_true, Bool.true_and, Bool.and_false, Bool.false_and, Bool.and_self, Bool.or_true, Bool.true_or, Bool.or_false, Bool.false_or, Bool.not_true, Bool.not_false, Nat.zero_add, Nat.add_zero, Nat.reduceAdd, Nat.reduceSub, Nat.reduceMul, Nat.reduceBEq, Nat.reduceEqDiff, Nat.reduceLT, Nat.sub_self, beq_self_eq_true, Option.map_some, Option.map_none, reduceIte, if_true, if_false, Bool.false_eq_true, decide_true, decide_false, reduceCtorEq, Int.reduceLE, Int.reduceLT, Int.reduceNeg, Int.reduceToNat, Int.reduceEq, Int.reducePow, Int.reduceDiv, Int.reduceAdd, Int.reduceSub, Int.reduceMul, true_and, and_true, List.isEmpty_nil, List.isEmpty_cons]
    | cons f0 fr =>
      obtain ⟨d1, M1, q1, a1, c1, B1⟩ := r13 hB (by omega) (many := 2) (by omega) (by omega) (n + 1)
      have g2 : gNe (.list ((f0 :: fr).map pr)) (.list []) = some (.bool true) := by rw [g1]; rfl
      by_cases h1 : d1 = 0
      · obtain ⟨d2, M2, q2, a2, c2, B2⟩ := r13 B1 (by omega) (many := (((f0 :: fr).map pr).length : Int)) (by rw [List.length_map, List.length_cons]; omega) (by omega) (n + 1)
        have hd : d2 < (((f0 :: fr).map pr).length : Int) := c2
        obtain ⟨j, rfl⟩ : ∃ j : Nat, d2 = (j : Int) := ⟨d2.toNat, by omega⟩
        have hj : j < (f0 :: fr).length := by rw [List.length_map] at hd; omega
        have e := row_at (rs := f0 :: fr) hj
        refine ⟨at_ (f0 :: fr) j, M2, s6, ?_, hf _ (at_mem hj), B2.mono (by omega)⟩
        rw [← app_pr]
        generalize (f0 :: fr).map pr = L at *
        simp only [F17_0, q1, q2, gEq_int, g2, h1, e, hl, mSeq, mIfS, mRet, mDrop, mSet, mSetT, mSetL, mSetD, mFrz, mNext, mBk, mCt, mNever, mFor, mWhile, mVar, mC, mOp, mUn, mTru, mB, mOfT, mAnd, mOr, mNot, mIf, mAndV, mOrV, mNotV, mChain, mNil, mCons, mTup, mLst, mFz, mFzD, mDNew, mDGet, mDIn, mBlt, mBltL, mIsi, mNoO, mSomeO, mSl, mRg1, mRg2, mLstRg, mCall, mCallK, mItS, mItR, mItE, mLc, mLc2, mYes, mApp1, mExt, mPopW, mPopAtW, mSetIx, mDPut, mRf, mRfD, pE, pL, pD, mPs, mPar, putP, wE, bnd, pk, liftO, peek, dats, pks, getL, putLρ, putLM, getD, putDρ, putDM, argC, permL, slotA, outV, mFn, setTg, setTgs, gSeq, MO.look, MO.slot, truD, bolD, intD, Slot.own, noOwn, wipeS, capL, gAdd, DL.gSub, gMul, gDiv, gMod, gPow, gLt, gLe, gGt, gGe, gIs, gIsNot, gIx, gLen, gAbs, gMax2, gMin2, gInt, gList, gTuple, gNeg, gI0, gII, gSl, bodE, bodT, bodI, lcF, forGo, lim, Nat.zero_le, Nat.reduceLeDiff, List.map_cons, List.map_nil, List.cons_append, List.nil_append, List.append_nil, List.length_cons, List.length_nil, List.getElem?_cons_zero, List.getElem?_cons_succ, List.getElem?_nil, List.replicate_zero, List.replicate_succ, List.all_cons, List.all_nil, List.any_cons, List.any_nil, List.filterMap_cons, List.filterMap_nil, List.set_cons_zero, List.set_cons_succ, Bool.and_true, Bool.true_and, Bool.and_false, Bool.false_and, Bool.and_self, Bool.or_true, Bool.true_or, Bool.or_false, Bool.false_or, Bool.not_true, Bool.not_false, Nat.zero_add, Nat.add_zero, Nat.reduceAdd, Nat.reduceSub, Nat.reduceMul, Nat.reduceBEq, Nat.reduceEqDiff, Nat.reduceLT, Nat.sub_self, beq_self_eq_true, Option.map_some, Option.map_none, reduceIte, if_true, if_false, Bool.false_eq_true, decide_true, decide_false, reduceCtorEq, Int.reduceLE, Int.reduceLT, Int.reduceNeg, Int.reduceToNat, Int.reduceEq, Int.reducePow, Int.reduceDiv, Int.reduceAdd, Int.reduceSub, Int.reduceMul, true_and, and_true, List.isEmpty_nil, List.isEmpty_cons]
      · obtain ⟨p, M2, q, a1', a2, a3, B2⟩ := r16 B1 (by omega) (l := 0) (h := high) (by omega) (by omega) n
        refine ⟨p, M2, s6, ?_, ⟨a1', a2, by omega⟩, B2.mono (by omega)⟩
        rw [← app_pr]
        generalize (f0 :: fr).map pr = L at *
        simp only [F17_0, q1, q, gEq_int, g2, h1, hl, mSeq, mIfS, mRet, mDrop, mSet, mSetT, mSetL, mSetD, mFrz, mNext, mBk, mCt, mNever, mFor, mWhile, mVar, mC, mOp, mUn, mTru, mB, mOfT, mAnd, mOr, mNot, mIf, mAndV, mOrV, mNotV, mChain, mNil, mCons, mTup, mLst, mFz, mFzD, mDNew, mDGet, mDIn, mBlt, mBltL, mIsi, mNoO, mSomeO, mSl, mRg1, mRg2, mLstRg, mCall, mCallK, mItS, mItR, mItE, mLc, mLc2, mYes, mApp1, mExt, mPopW, mPopAtW, mSetIx, mDPut, mRf, mRfD, pE, pL, pD, mPs, mPar, putP, wE, bnd, pk, liftO, peek, dats, pks, getL, putLρ, putLM, getD, putDρ, putDM, argC, permL, slotA, outV, mFn, setTg, setTgs, gSeq, MO.look, MO.slot, truD, bolD, intD, Slot.own, noOwn, wipeS, capL, gAdd, DL.gSub, gMul, gDiv, gMod, gPow, gLt, gLe, gGt, gGe, gIs, gIsNot, gIx, gLen, gAbs, gMax2, gMin2, gInt, gList, gTuple, gNeg, gI0, gII, gSl, bodE, bodT, bodI, lcF, forGo, lim, Nat.zero_le, Nat.reduceLeDiff, List.map_cons, List.map_nil, List.cons_append, List.nil_append, List.append_nil, List.length_cons, List.length_nil, List.getElem?_cons_zero, List.getElem?_cons_succ, List.getElem?_nil, List.replicate_zero, List.replicate_succ, List.all_cons, List.all_nil, List.any_cons, List.any_nil, List.filterMap_cons, List.filterMap_nil, List.set_cons_zero, List.set_cons_succ, Bool.and_true, Bool.true_and, Bool.and_false, Bool.false_and, Bool.and_self, Bool.or_true, Bool.true_or, Bool.or_false, Bool.false_or, Bool.not_true, Bool.not_false, Nat.zero_add, Nat.add_zero, Nat.reduceAdd, Nat.reduceSub, Nat.reduceMul, Nat.reduceBEq, Nat.reduceEqDiff, Nat.reduceLT, Nat.sub_self, beq_self_eq_true, Option.map_some, Option.map_none, reduceIte, if_true, if_false, Bool.false_eq_true, decide_true, decide_false, reduceCtorEq, Int.reduceLE, Int.reduceLT, Int.reduceNeg, Int.reduceToNat, Int.reduceEq, Int.reducePow, Int.reduceDiv, Int.reduceAdd, Int.reduceSub, Int.reduceMul, true_and, and_true, List.isEmpty_nil, List.isEmpty_cons]
  · obtain ⟨d1, M1, q1, a1, c1, B1⟩ := r13 hB (by omega) (many := high / 2) (by omega) (by omega) (n + 1)
    obtain ⟨d2, M2, q2, a2, c2, B2⟩ := r13 B1 (by omega) (many := high - high / 2) (by omega) (by omega) (n + 1)
    refine ⟨(d1, high / 2 + 1 + d2), M2, .d (.int d1), ?_, ⟨a1, by show d1 < high / 2 + 1 + d2; omega, by show high / 2 + 1 + d2 ≤ 80; omega⟩, B2.mono (by omega)⟩
    rw [← app_pr]
    simp only [F17_0, q1, q2, hl, gEq_int, pr, mSeq, mIfS, mRet, mDrop, mSet, mSetT, mSetL, mSetD, mFrz, mNext, mBk, mCt, mNever, mFor, mWhile, mVar, mC, mOp, mUn, mTru, mB, mOfT, mAnd, mOr, mNot, mIf, mAndV, mOrV, mNotV, mChain, mNil, mCons, mTup, mLst, mFz, mFzD, mDNew, mDGet, mDIn, mBlt, mBltL, mIsi, mNoO, mSomeO, mSl, mRg1, mRg2, mLstRg, mCall, mCallK, mItS, mItR, mItE, mLc, mLc2, mYes, mApp1, mExt, mPopW, mPopAtW, mSetIx, mDPut, mRf, mRfD, pE, pL, pD, mPs, mPar, putP, wE, bnd, pk, liftO, peek, dats, pks, getL, putLρ, putLM, getD, putDρ, putDM, argC, permL, slotA, outV, mFn, setTg, setTgs, gSeq, MO.look, MO.slot, truD, bolD, intD, Slot.own, noOwn, wipeS, capL, gAdd, DL.gSub, gMul, gDiv, gMod, gPow, gLt, gLe, gGt, gGe, gIs, gIsNot, gIx, gLen, gAbs, gMax2, gMin2, gInt, gList, gTuple, gNeg, gI0, gII, gSl, bodE, bodT, bodI, lcF, forGo, lim, Nat.zero_le, Nat.reduceLeDiff, List.map_cons, List.map_nil, List.cons_append, List.nil_append, List.append_nil, List.length_cons, List.length_nil, List.getElem?_cons_zero, List.getElem?_cons_succ, List.getElem?_nil, List.replicate_zero, List.replicate_succ, List.all_cons, List.all_nil, List.any_cons, List.any_nil, List.filterMap_cons, List.filterMap_nil, List.set_cons_zero, List.set_cons_succ, Bool.and_true, Bool.true_and, Bool.and_false, Bool.false_and, Bool.and_self, Bool.or_true, Bool.true_or, Bool.or_false, Bool.false_or, Bool.not_true, Bool.not_false, Nat.zero_add, Nat.add_zero, Nat.reduceAdd, Nat.reduceSub, Nat.reduceMul, Nat.reduceBEq, Nat.reduceEqDiff, Nat.reduceLT, Nat.sub_self, beq_self_eq_true, Option.map_some, Option.map_none, reduceIte, if_true, if_false, Bool.false_eq_true, decide_true, decide_false, reduceCtorEq, Int.reduceLE, Int.reduceLT, Int.reduceNeg, Int.reduceToNat, Int.reduceEq, Int.reducePow, Int.reduceDiv, Int.reduceAdd, Int.reduceSub, Int.reduceMul, true_and, and_true, List.isEmpty_nil, List.isEmpty_cons]
theorem loop17 {b : Nat} {many : Nat} (hm : many ≤ 24) {high w : Int} (hh : 9 ≤ high) (hh2 : high ≤ 70) (hw : 0 ≤ w) (hw2 : w < 8) (n : Nat) : ∀ (ks : List Nat) (fs : List Row) (M : List MO) (u : Nat) (s5 s6 : DL.Slot), s5.own = false → (∀ k ∈ ks, k < many) → Bx M b u → u + 4 * ks.length ≤ 90000 → (∀ p ∈ fs, okp p) → fs.length + ks.length ≤ 24 →
    ∃ (fs' : List Row) (M' : List MO) (s5' s6' : DL.Slot), forGo (.name 5) F17_0 (callN tab (n + 2)) (iL ks) [.r b, .d (.int (many : Int)), .d (.int high), .d (.int w), .ol (fs.map pr), s5, s6, .un] M = some (.nx, [.r b, .d (.int (many : Int)), .d (.int high), .d (.int w), .ol (fs'.map pr), s5', s6', .un], M') ∧
      (∀ p ∈ fs', okp p) ∧ fs'.length = fs.length + ks.length ∧ Bx M' b (u + 4 * ks.length) ∧ s5'.own = false := by
  intro ks
  induction ks with
  | nil =>
    intro fs M u s5 s6 h5 hk hB hu hf hl
    exact ⟨fs, M, s5, s6, rfl, hf, rfl, hB, h5⟩
  | cons k ks ih =>
    intro fs M u s5 s6 h5 hk hB hu hf hl
    rw [List.length_cons] at hu hl
    obtain ⟨p, M1, s6', q, hp, B1⟩ := turn17 hB (by omega) (hk k List.mem_cons_self) hm hh hh2 hw hw2 hf (by omega) s6 n
    obtain ⟨fs', M2, s5'', s6'', g1, g2, g3, g4, g5⟩ := ih (fs ++ [p]) M1 (u + 4) (.d (.int (k : Int))) s6' rfl (fun j m => hk j (List.mem_cons_of_mem _ m)) B1 (by omega) (fun r m => by
      rcases List.mem_append.mp m with m | m
      · exact hf r m
      · rw [List.mem_singleton.mp m]
        exact hp) (by rw [List.length_append, List.length_singleton]; omega)
    refine ⟨fs', M2, s5'', s6'', ?_, g2, by rw [g3, List.length_append, List.length_singleton, List.length_cons]; omega, by rw [List.length_cons, show u + 4 * (ks.length + 1) = u + 4 + 4 * ks.length by omega]; exact g4, g5⟩
    show forGo (.name 5) F17_0 (callN tab (n + 2)) (nD k :: iL ks) _ M = _
    rw [for_nx (ρ1 := [.r b, .d (.int (many : Int)), .d (.int high), .d (.int w), .ol (fs.map pr), .d (.int (k : Int)), s6, .un]) rfl q]
    exact g1
theorem at17 {n : Nat} {as : List Vl} {M : List MO} : callN tab (n + 1) 17 as M = mFn N17.length B17 (callN tab n) as M := rfl
theorem r17 {M : List MO} {b u : Nat} (hB : Bx M b u) (hu : u ≤ 80000) {many : Nat} (hm : many ≤ 24) {high : Int} (hh : 9 ≤ high) (hh2 : high ≤ 70) (n : Nat) :
    ∃ (rs : List Row) (M' : List MO), callN tab (n + 3) 17 [.r b, .d (.int (many : Int)), .d (.int high)] M = some (.d (rD rs), M') ∧ (∀ p ∈ rs, okp p) ∧ rs.length = many ∧ Bx M' b (u + 200) := by
  obtain ⟨w, M1, q1, a1, c1, B1⟩ := r13 hB (by omega) (many := 8) (by omega) (by omega) (n + 1)
  obtain ⟨fs, M2, s5, s6, g1, g2, g3, g4, g5⟩ := loop17 (b := b) hm hh hh2 a1 c1 n (all_ many) [] M1 (u + 1) .un .un rfl (fun k m => all_lt m) B1 (by rw [all_len]; omega) (fun p m => nomatch m) (by rw [all_len]; exact (Nat.zero_add many).symm ▸ hm)
  rw [all_len, List.length_nil, Nat.zero_add] at g3
  rw [all_len] at g4
  obtain ⟨l, M3, q3, hp, B3⟩ := r15 (m := many) g4 (by omega) (by omega) n
  have hl2 : ((many : Int) - 0).toNat ≤ 1000000 := by omega
  have hl3 : okRg 0 (many : Int) = true := okRg0 (by omega)
  have hlm : ∀ k ∈ l, k < fs.length := fun k m => by rw [g3]; exact all_lt (hp.mem_iff.mp m)
  have hll : l.length = many := by rw [hp.length_eq, all_len]
  have hw : ∀ k ∈ l, atI (fs.map pr) (k : Int) = some (pr (at_ fs k)) := fun k m => row_at (hlm k m)
  refine ⟨l.map (at_ fs), M3, ?_, fun p m => by
    obtain ⟨k, mk, rfl⟩ := List.mem_map.mp m
    exact g2 _ (at_mem (hlm k mk)), by rw [List.length_map, hll], B3.mono (by omega)⟩
  rw [at17]
  have e : B17 (callN tab (n + 2)) [.r b, .d (.int (many : Int)), .d (.int high), .un, .un, .un, .un, .un] M = some (.rt (.d (rD (l.map (at_ fs)))), [.r b, .d (.int (many : Int)), .d (.int high), .d (.int w), .ol (fs.map pr), s5, s6, .d (.list (iL l))], M3) := by
    unfold B17
    rw [seq_nx (ρ1 := [.r b, .d (.int (many : Int)), .d (.int high), .d (.int w), .ol [], .un, .un, .un]) (M1 := M1) (by simp only [q1, mSeq, mIfS, mRet, mDrop, mSet, mSetT, mSetL, mSetD, mFrz, mNext, mBk, mCt, mNever, mFor, mWhile, mVar, mC, mOp, mUn, mTru, mB, mOfT, mAnd, mOr, mNot, mIf, mAndV, mOrV, mNotV, mChain, mNil, mCons, mTup, mLst, mFz, mFzD, mDNew, mDGet, mDIn, mBlt, mBltL, mIsi, mNoO, mSomeO, mSl, mRg1, mRg2, mLstRg, mCall, mCallK, mItS, mItR, mItE, mLc, mLc2, mYes, mApp1, mExt, mPopW, mPopAtW, mSetIx, mDPut, mRf, mRfD, pE, pL, pD, mPs, mPar, putP, wE, bnd, pk, liftO, peek, dats, pks, getL, putLρ, putLM, getD, putDρ, putDM, argC, permL, slotA, outV, mFn, setTg, setTgs, gSeq, MO.look, MO.slot, truD, bolD, intD, Slot.own, noOwn, wipeS, capL, gAdd, DL.gSub, gMul, gDiv, gMod, gPow, gLt, gLe, gGt, gGe, gIs, gIsNot, gIx, gLen, gAbs, gMax2, gMin2, gInt, gList, gTuple, gNeg, gI0, gII, gSl, bodE, bodT, bodI, lcF, forGo, lim, Nat.zero_le, Nat.reduceLeDiff, List.map_cons, List.map_nil, List.cons_append, List.nil_append, List.append_nil, List.length_cons, List.length_nil, List.getElem?_cons_zero, List.getElem?_cons_succ, List.getElem?_nil, List.replicate_zero, List.replicate_succ, List.all_cons, List.all_nil, List.any_cons, List.any_nil, List.filterMap_cons, List.filterMap_nil, List.set_cons_zero, List.set_cons_succ, Bool.and_true, Bool.true_and, Bool.and_false, Bool.false_and, Bool.and_self, Bool.or_true, Bool.true_or, Bool.or_false, Bool.false_or, Bool.not_true, Bool.not_false, Nat.zero_add, Nat.add_zero, Nat.reduceAdd, Nat.reduceSub, Nat.reduceMul, Nat.reduceBEq, Nat.reduceEqDiff, Nat.reduceLT, Nat.sub_self, beq_self_eq_true, Option.map_some, Option.map_none, reduceIte, if_true, if_false, Bool.false_eq_true, decide_true, decide_false, reduceCtorEq, Int.reduceLE, Int.reduceLT, Int.reduceNeg, Int.reduceToNat, Int.reduceEq, Int.reducePow, Int.reduceDiv, Int.reduceAdd, Int.reduceSub, Int.reduceMul, true_and, and_true, List.isEmpty_nil, List.isEmpty_cons])]
    rw [seq_nx (ρ1 := [.r b, .d (.int (many : Int)), .d (.int high), .d (.int w), .ol (fs.map pr), s5, s6, .un]) (M1 := M2) (by
      unfold mFor
      rw [show mItR (mRg1 (mVar 1)) (callN tab (n + 2)) [.r b, .d (.int (many : Int)), .d (.int high), .d (.int w), .ol [], .un, .un, .un] M1 = some (iL (all_ many), M1) by simp only [hl3, rg_all, mSeq, mIfS, mRet, mDrop, mSet, mSetT, mSetL, mSetD, mFrz, mNext, mBk, mCt, mNever, mFor, mWhile, mVar, mC, mOp, mUn, mTru, mB, mOfT, mAnd, mOr, mNot, mIf, mAndV, mOrV, mNotV, mChain, mNil, mCons, mTup, mLst, mFz, mFzD, mDNew, mDGet, mDIn, mBlt, mBltL, mIsi, mNoO, mSomeO, mSl, mRg1, mRg2, mLstRg, mCall, mCallK, mItS, mItR, mItE, mLc, mLc2, mYes, mApp1, mExt, mPopW, mPopAtW, mSetIx, mDPut, mRf, mRfD, pE, pL, pD, mPs, mPar, putP, wE, bnd, pk, liftO, peek, dats, pks, getL, putLρ, putLM, getD, putDρ, putDM, argC, permL, slotA, outV, mFn, setTg, setTgs, gSeq, MO.look, MO.slot, truD, bolD, intD, Slot.own, noOwn, wipeS, capL, gAdd, DL.gSub, gMul, gDiv, gMod, gPow, gLt, gLe, gGt, gGe, gIs, gIsNot, gIx, gLen, gAbs, gMax2, gMin2, gInt, gList, gTuple, gNeg, gI0, gII, gSl, bodE, bodT, bodI, lcF, forGo, lim, Nat.zero_le, Nat.reduceLeDiff, List.map_cons, List.map_nil, List.cons_append, List.nil_append, List.append_nil, List.length_cons, List.length_nil, List.getElem?_cons_zero, List.getElem?_cons_succ, List.getElem?_nil, List.replicate_zero, List.replicate_succ, List.all_cons, List.all_nil, List.any_cons, List.any_nil, List.filterMap_cons, List.filterMap_nil, List.set_cons_zero, List.set_cons_succ, Bool.and_true, Bool.true_and, Bool.and_false, Bool.false_and, Bool.and_self, Bool.or_true, Bool.true_or, Bool.or_false, Bool.false_or, Bool.not_true, Bool.not_false, Nat.zero_add, Nat.add_zero, Nat.reduceAdd, Nat.reduceSub, Nat.reduceMul, Nat.reduceBEq, Nat.reduceEqDiff, Nat.reduceLT, Nat.sub_self, beq_self_eq_true, Option.map_some, Option.map_none, reduceIte, if_true, if_false, Bool.false_eq_true, decide_true, decide_false, reduceCtorEq, Int.reduceLE, Int.reduceLT, Int.reduceNeg, Int.reduceToNat, Int.reduceEq, Int.reducePow, Int.reduceDiv, Int.reduceAdd, Int.reduceSub, Int.reduceMul, true_and, and_true, List.isEmpty_nil, List.isEmpty_cons]]
      exact g1)]
    rw [seq_nx (ρ1 := [.r b, .d (.int (many : Int)), .d (.int high), .d (.int w), .ol (fs.map pr), s5, s6, .d (.list (iL l))]) (M1 := M3) (by simp only [q3, mSeq, mIfS, mRet, mDrop, mSet, mSetT, mSetL, mSetD, mFrz, mNext, mBk, mCt, mNever, mFor, mWhile, mVar, mC, mOp, mUn, mTru, mB, mOfT, mAnd, mOr, mNot, mIf, mAndV, mOrV, mNotV, mChain, mNil, mCons, mTup, mLst, mFz, mFzD, mDNew, mDGet, mDIn, mBlt, mBltL, mIsi, mNoO, mSomeO, mSl, mRg1, mRg2, mLstRg, mCall, mCallK, mItS, mItR, mItE, mLc, mLc2, mYes, mApp1, mExt, mPopW, mPopAtW, mSetIx, mDPut, mRf, mRfD, pE, pL, pD, mPs, mPar, putP, wE, bnd, pk, liftO, peek, dats, pks, getL, putLρ, putLM, getD, putDρ, putDM, argC, permL, slotA, outV, mFn, setTg, setTgs, gSeq, MO.look, MO.slot, truD, bolD, intD, Slot.own, noOwn, wipeS, capL, gAdd, DL.gSub, gMul, gDiv, gMod, gPow, gLt, gLe, gGt, gGe, gIs, gIsNot, gIx, gLen, gAbs, gMax2, gMin2, gInt, gList, gTuple, gNeg, gI0, gII, gSl, bodE, bodT, bodI, lcF, forGo, lim, Nat.zero_le, Nat.reduceLeDiff, List.map_cons, List.map_nil, List.cons_append, List.nil_append, List.append_nil, List.length_cons, List.length_nil, List.getElem?_cons_zero, List.getElem?_cons_succ, List.getElem?_nil, List.replicate_zero, List.replicate_succ, List.all_cons, List.all_nil, List.any_cons, List.any_nil, List.filterMap_cons, List.filterMap_nil, List.set_cons_zero, List.set_cons_succ, Bool.and_true, Bool.true_and, Bool.and_false, Bool.false_and, Bool.and_self, Bool.or_true, Bool.true_or, Bool.or_false, Bool.false_or, Bool.not_true, Bool.not_false, Nat.zero_add, Nat.add_zero, Nat.reduceAdd, Nat.reduceSub, Nat.reduceMul, Nat.reduceBEq, Nat.reduceEqDiff, Nat.reduceLT, Nat.sub_self, beq_self_eq_true, Option.map_some, Option.map_none, reduceIte, if_true, if_false, Bool.false_eq_true, decide_true, decide_false, reduceCtorEq, Int.reduceLE, Int.reduceLT, Int.reduceNeg, Int.reduceToNat, Int.reduceEq, Int.reducePow, Int.reduceDiv, Int.reduceAdd, Int.reduceSub, Int.reduceMul, true_and, and_true, List.isEmpty_nil, List.isEmpty_cons])]
    have hlx : (l.map fun k => pr (at_ fs k)).length ≤ 1000000 := by rw [List.length_map]; omega
    cases s5 with
    | ol xs => cases g5
    | od t xs => cases g5
    | _ =>
      simp only [mSeq, mIfS, mRet, mDrop, mSet, mSetT, mSetL, mSetD, mFrz, mNext, mBk, mCt, mNever, mFor, mWhile, mVar, mC, mOp, mUn, mTru, mB, mOfT, mAnd, mOr, mNot, mIf, mAndV, mOrV, mNotV, mChain, mNil, mCons, mTup, mLst, mFz, mFzD, mDNew, mDGet, mDIn, mBlt, mBltL, mIsi, mNoO, mSomeO, mSl, mRg1, mRg2, mLstRg, mCall, mCallK, mItS, mItR, mItE, mLc, mLc2, mYes, mApp1, mExt, mPopW, mPopAtW, mSetIx, mDPut, mRf, mRfD, pE, pL, pD, mPs, mPar, putP, wE, bnd, pk, liftO, peek, dats, pks, getL, putLρ, putLM, getD, putDρ, putDM, argC, permL, slotA, outV, mFn, setTg, setTgs, gSeq, MO.look, MO.slot, truD, bolD, intD, Slot.own, noOwn, wipeS, capL, gAdd, DL.gSub, gMul, gDiv, gMod, gPow, gLt, gLe, gGt, gGe, gIs, gIsNot, gIx, gLen, gAbs, gMax2, gMin2, gInt, gList, gTuple, gNeg, gI0, gII, gSl, bodE, bodT, bodI, lcF, forGo, lim, Nat.zero_le, Nat.reduceLeDiff, List.map_cons, List.map_nil, List.cons_append, List.nil_append, List.append_nil, List.length_cons, List.length_nil, List.getElem?_cons_zero, List.getElem?_cons_succ, List.getElem?_nil, List.replicate_zero, List.replicate_succ, List.all_cons, List.all_nil, List.any_cons, List.any_nil, List.filterMap_cons, List.filterMap_nil, List.set_cons_zero, List.set_cons_succ, Bool.and_true, Bool.true_and, Bool.and_false, Bool.false_and, Bool.and_self, Bool.or_true, Bool.true_or, Bool.or_false, Bool.false_or, Bool.not_true, Bool.not_false, Nat.zero_add, Nat.add_zero, Nat.reduceAdd, Nat.reduceSub, Nat.reduceMul, Nat.reduceBEq, Nat.reduceEqDiff, Nat.reduceLT, Nat.sub_self, beq_self_eq_true, Option.map_some, Option.map_none, reduceIte, if_true, if_false, Bool.false_eq_true, decide_true, decide_false, reduceCtorEq, Int.reduceLE, Int.reduceLT, Int.reduceNeg, Int.reduceToNat, Int.reduceEq, Int.reducePow, Int.reduceDiv, Int.reduceAdd, Int.reduceSub, Int.reduceMul, true_and, and_true, List.isEmpty_nil, List.isEmpty_cons]
      rw [lcF_mapN (g := fun k => pr (at_ fs k))]
      · simp only [hlx, mSeq, mIfS, mRet, mDrop, mSet, mSetT, mSetL, mSetD, mFrz, mNext, mBk, mCt, mNever, mFor, mWhile, mVar, mC, mOp, mUn, mTru, mB, mOfT, mAnd, mOr, mNot, mIf, mAndV, mOrV, mNotV, mChain, mNil, mCons, mTup, mLst, mFz, mFzD, mDNew, mDGet, mDIn, mBlt, mBltL, mIsi, mNoO, mSomeO, mSl, mRg1, mRg2, mLstRg, mCall, mCallK, mItS, mItR, mItE, mLc, mLc2, mYes, mApp1, mExt, mPopW, mPopAtW, mSetIx, mDPut, mRf, mRfD, pE, pL, pD, mPs, mPar, putP, wE, bnd, pk, liftO, peek, dats, pks, getL, putLρ, putLM, getD, putDρ, putDM, argC, permL, slotA, outV, mFn, setTg, setTgs, gSeq, MO.look, MO.slot, truD, bolD, intD, Slot.own, noOwn, wipeS, capL, gAdd, DL.gSub, gMul, gDiv, gMod, gPow, gLt, gLe, gGt, gGe, gIs, gIsNot, gIx, gLen, gAbs, gMax2, gMin2, gInt, gList, gTuple, gNeg, gI0, gII, gSl, bodE, bodT, bodI, lcF, forGo, lim, Nat.zero_le, Nat.reduceLeDiff, List.map_cons, List.map_nil, List.cons_append, List.nil_append, List.append_nil, List.length_cons, List.length_nil, List.getElem?_cons_zero, List.getElem?_cons_succ, List.getElem?_nil, List.replicate_zero, List.replicate_succ, List.all_cons, List.all_nil, List.any_cons, List.any_nil, List.filterMap_cons, List.filterMap_nil, List.set_cons_zero, List.set_cons_succ, Bool.and_true, Bool.true_and, Bool.and_false, Bool.false_and, Bool.and_self, Bool.or_true, Bool.true_or, Bool.or_false, Bool.false_or, Bool.not_true, Bool.not_false, Nat.zero_add, Nat.add_zero, Nat.reduceAdd, Nat.reduceSub, Nat.reduceMul, Nat.reduceBEq, Nat.reduceEqDiff, Nat.reduceLT, Nat.sub_self, beq_self_eq_true, Option.map_some, Option.map_none, reduceIte, if_true, if_false, Bool.false_eq_true, decide_true, decide_false, reduceCtorEq, Int.reduceLE, Int.reduceLT, Int.reduceNeg, Int.reduceToNat, Int.reduceEq, Int.reducePow, Int.reduceDiv, Int.reduceAdd, Int.reduceSub, Int.reduceMul, true_and, and_true, List.isEmpty_nil, List.isEmpty_cons]
        unfold rD
        rw [List.map_map]
        rfl
      · intro k mk
        simp only [hw k mk, mSeq, mIfS, mRet, mDrop, mSet, mSetT, mSetL, mSetD, mFrz, mNext, mBk, mCt, mNever, mFor, mWhile, mVar, mC, mOp, mUn, mTru, mB, mOfT, mAnd, mOr, mNot, mIf, mAndV, mOrV, mNotV, mChain, mNil, mCons, mTup, mLst, mFz, mFzD, mDNew, mDGet, mDIn, mBlt, mBltL, mIsi, mNoO, mSomeO, mSl, mRg1, mRg2, mLstRg, mCall, mCallK, mItS, mItR, mItE, mLc, mLc2, mYes, mApp1, mExt, mPopW, mPopAtW, mSetIx, mDPut, mRf, mRfD, pE, pL, pD, mPs, mPar, putP, wE, bnd, pk, liftO, peek, dats, pks, getL, putLρ, putLM, getD, putDρ, putDM, argC, permL, slotA, outV, mFn, setTg, setTgs, gSeq, MO.look, MO.slot, truD, bolD, intD, Slot.own, noOwn, wipeS, capL, gAdd, DL.gSub, gMul, gDiv, gMod, gPow, gLt, gLe, gGt, gGe, gIs, gIsNot, gIx, gLen, gAbs, gMax2, gMin2, gInt, gList, gTuple, gNeg, gI0, gII, gSl, bodE, bodT, bodI, lcF, forGo, lim, Nat.zero_le, Nat.reduceLeDiff, List.map_cons, List.map_nil, List.cons_append, List.nil_append, List.append_nil, List.length_cons, List.length_nil, List.getElem?_cons_zero, List.getElem?_cons_succ, List.getElem?_nil, List.replicate_zero, List.replicate_succ, List.all_cons, List.all_nil, List.any_cons, List.any_nil, List.filterMap_cons, List.filterMap_nil, List.set_cons_zero, List.set_cons_succ, Bool.and_true, Bool.true_and, Bool.and_false, Bool.false_and, Bool.and_self, Bool.or_true, Bool.true_or, Bool.or_false, Bool.false_or, Bool.not_true, Bool.not_false, Nat.zero_add, Nat.add_zero, Nat.reduceAdd, Nat.reduceSub, Nat.reduceMul, Nat.reduceBEq, Nat.reduceEqDiff, Nat.reduceLT, Nat.sub_self, beq_self_eq_true, Option.map_some, Option.map_none, reduceIte, if_true, if_false, Bool.false_eq_true, decide_true, decide_false, reduceCtorEq, Int.reduceLE, Int.reduceLT, Int.reduceNeg, Int.reduceToNat, Int.reduceEq, Int.reducePow, Int.reduceDiv, Int.reduceAdd, Int.reduceSub, Int.reduceMul, true_and, and_true, List.isEmpty_nil, List.isEmpty_cons]
  rw [fn_rt e]
  rfl
end K03
set_option Elab.async false
set_option linter.all false
set_option maxRecDepth 100000
set_option maxHeartbeats 4000000
/-! k03: rows, other rows -/
namespace K03
open PySem L2 DL
theorem rowsT_ok (fs : List Row) : okD (rD fs) = true := okD_tuple (k := 2) (fun d m => by
  obtain ⟨p, _, rfl⟩ := List.mem_map.mp m
  refine ⟨rfl, ?_⟩
  simp [pr, PyData.depth, PyData.depthAll]) (by decide)
theorem nilT_ok : okD (.tuple []) = true := by decide +kernel
theorem gNe_nilT {fs : List Row} : gNe (rD fs) (.tuple []) = some (.bool (!fs.isEmpty)) := by
  rw [gNe_ok (rowsT_ok fs) nilT_ok]
  unfold rD
  rw [eqv_tup]
  cases fs <;> rfl
theorem at19 {n : Nat} {as : List Vl} {M : List MO} : callN tab (n + 1) 19 as M = mFn N19.length B19 (callN tab n) as M := rfl
def okq (p : Row) : Prop := 0 ≤ p.1 ∧ p.1 < p.2 ∧ p.2 ≤ 90
/-- the first half -/
theorem half19 {M : List MO} {b u : Nat} (hB : Bx M b u) (hu : u ≤ 50000) (n : Nat) (s5 : DL.Slot) : ∃ (g : Bool) (m : Nat) (M1 : List MO), m ≤ 24 ∧ Bx M1 b (u + 2) ∧
    mSeq (mSet 2 (wE (mOp gEq (mCall 13 2 [] (mCons (mVar 0) (mCons (mC (.int 8)) mNil))) (mC (.int 0)))))
      (mSet 3 (wE (mIf (mTru (mVar 2)) (mVar 1) (mCall 18 2 [] (mCons (mVar 0) (mCons (mFz (mLst (mCons (mC (.int 0)) (mCons (mC (.int 1)) (mCons (mC (.int 2)) (mCons (mC (.int 3)) (mCons (mC (.int 4)) (mCons (mC (.int 5)) (mCons (mC (.int 6)) (mCons (mBlt gMin2 (mCons (mC (.int 8)) (mCons (mVar 1) mNil))) mNil)))))))))) mNil))))))
      (callN tab (n + 3)) [.r b, .d (.int 24), .un, .un, .un, .un, .un, .un, .un] M = some (.nx, [.r b, .d (.int 24), .d (.bool g), .d (.int (m : Int)), .un, .un, .un, .un, .un], M1) := by
  obtain ⟨w, M1, q1, a1, c1, B1⟩ := r13 hB (by omega) (many := 8) (by omega) (by omega) (n + 2)
  by_cases hw : w = 0
  · exact ⟨true, 24, M1, Nat.le_refl _, B1.mono (by omega), by simp only [q1, gEq_int, hw, mSeq, mIfS, mRet, mDrop, mSet, mSetT, mSetL, mSetD, mFrz, mNext, mBk, mCt, mNever, mFor, mWhile, mVar, mC, mOp, mUn, mTru, mB, mOfT, mAnd, mOr, mNot, mIf, mAndV, mOrV, mNotV, mChain, mNil, mCons, mTup, mLst, mFz, mFzD, mDNew, mDGet, mDIn, mBlt, mBltL, mIsi, mNoO, mSomeO, mSl, mRg1, mRg2, mLstRg, mCall, mCallK, mItS, mItR, mItE, mLc, mLc2, mYes, mApp1, mExt, mPopW, mPopAtW, mSetIx, mDPut, mRf, mRfD, pE, pL, pD, mPs, mPar, putP, wE, bnd, pk, liftO, peek, dats, pks, getL, putLρ, putLM, getD, putDρ, putDM, argC, permL, slotA, outV, mFn, setTg, setTgs, gSeq, MO.look, MO.slot, truD, bolD, intD, Slot.own, noOwn, wipeS, capL, gAdd, DL.gSub, gMul, gDiv, gMod, gPow, gLt, gLe, gGt, gGe, gIs, gIsNot, gIx, gLen, gAbs, gMax2, gMin2, gInt, gList, gTuple, gNeg, gI0, gII, gSl, bodE, bodT, bodI, lcF, forGo, lim, Nat.zero_le, Nat.reduceLeDiff, List.map_cons, List.map_nil, List.cons_append, List.nil_append, List.append_nil, List.length_cons, List.length_nil, List.getElem?_cons_zero, List.getElem?_cons_succ, List.getElem?_nil, List.replicate_zero, List.replicate_succ, List.all_cons, List.all_nil, List.any_cons, List.any_nil, List.filterMap_cons, List.filterMap_nil, List.set_cons_zero, List.set_cons_succ, Bool.and_true, Bool.true_and, Bool.and_false, Bool.false_and, Bool.and_self, Bool.or_true, Bool.true_or, Bool.or_false, Bool.false_or, Bool.not_true, Bool.not_false, Nat.zero_add, Nat.add_zero, Nat.reduceAdd, Nat.reduceSub, Nat.reduceMul, Nat.reduceBEq, Nat.reduceEqDiff, Nat.reduceLT, Nat.sub_self, beq_self_eq_true, Option.map_some, Option.map_none, reduceIte, if_true, if_false, Bool.false_eq_true, decide_true, decide_false, reduceCtorEq, Int.reduceLE, Int.reduceLT, Int.reduceNeg, Int.reduceToNat, Int.reduceEq, Int.reducePow, Int.reduceDiv, Int.reduceAdd, Int.reduceSub, Int.reduceMul, true_and, and_true, List.isEmpty_nil, List.isEmpty_cons]; rfl⟩
  · obtain ⟨x, M2, q2, mx, B2⟩ := r18 B1 (by omega) (xs := [.int 0, .int 1, .int 2, .int 3, .int 4, .int 5, .int 6, .int 8]) (by simp) (by decide) (n + 1) _ (.inl rfl)
    have hx : ∃ m : Nat, x = .int (m : Int) ∧ m ≤ 24 := by
      simp only [List.mem_cons, List.not_mem_nil, or_false] at mx
      rcases mx with h | h | h | h | h | h | h | h
      · exact ⟨0, h, by decide⟩
      · exact ⟨1, h, by decide⟩
      · exact ⟨2, h, by decide⟩
      · exact ⟨3, h, by decide⟩
      · exact ⟨4, h, by decide⟩
      · exact ⟨5, h, by decide⟩
      · exact ⟨6, h, by decide⟩
      · exact ⟨8, h, by decide⟩
    obtain ⟨m, rfl, hm⟩ := hx
    exact ⟨false, m, M2, hm, B2, by simp only [q1, gEq_int, hw, q2, mSeq, mIfS, mRet, mDrop, mSet, mSetT, mSetL, mSetD, mFrz, mNext, mBk, mCt, mNever, mFor, mWhile, mVar, mC, mOp, mUn, mTru, mB, mOfT, mAnd, mOr, mNot, mIf, mAndV, mOrV, mNotV, mChain, mNil, mCons, mTup, mLst, mFz, mFzD, mDNew, mDGet, mDIn, mBlt, mBltL, mIsi, mNoO, mSomeO, mSl, mRg1, mRg2, mLstRg, mCall, mCallK, mItS, mItR, mItE, mLc, mLc2, mYes, mApp1, mExt, mPopW, mPopAtW, mSetIx, mDPut, mRf, mRfD, pE, pL, pD, mPs, mPar, putP, wE, bnd, pk, liftO, peek, dats, pks, getL, putLρ, putLM, getD, putDρ, putDM, argC, permL, slotA, outV, mFn, setTg, setTgs, gSeq, MO.look, MO.slot, truD, bolD, intD, Slot.own, noOwn, wipeS, capL, gAdd, DL.gSub, gMul, gDiv, gMod, gPow, gLt, gLe, gGt, gGe, gIs, gIsNot, gIx, gLen, gAbs, gMax2, gMin2, gInt, gList, gTuple, gNeg, gI0, gII, gSl, bodE, bodT, bodI, lcF, forGo, lim, Nat.zero_le, Nat.reduceLeDiff, List.map_cons, List.map_nil, List.cons_append, List.nil_append, List.append_nil, List.length_cons, List.length_nil, List.getElem?_cons_zero, List.getElem?_cons_succ, List.getElem?_nil, List.replicate_zero, List.replicate_succ, List.all_cons, List.all_nil, List.any_cons, List.any_nil, List.filterMap_cons, List.filterMap_nil, List.set_cons_zero, List.set_cons_succ, Bool.and_true, Bool.true_and, Bool.and_false, Bool.false_and, Bool.and_self, Bool.or_true, Bool.true_or, Bool.or_false, Bool.false_or, Bool.not_true, Bool.not_false, Nat.zero_add, Nat.add_zero, Nat.reduceAdd, Nat.reduceSub, Nat.reduceMul, Nat.reduceBEq, Nat.reduceEqDiff, Nat.reduceLT, Nat.sub_self, beq_self_eq_true, Option.map_some, Option.map_none, reduceIte, if_true, if_false, Bool.false_eq_true, decide_true, decide_false, reduceCtorEq, Int.reduceLE, Int.reduceLT, Int.reduceNeg, Int.reduceToNat, Int.reduceEq, Int.reducePow, Int.reduceDiv, Int.reduceAdd, Int.reduceSub, Int.reduceMul, true_and, and_true, List.isEmpty_nil, List.isEmpty_cons]⟩
theorem r19 {M : List MO} {b u : Nat} (hB : Bx M b u) (hu : u ≤ 50000) (n : Nat) : ∃ (rs : List Row) (M' : List MO), callN tab (n + 4) 19 [.r b, .d (.int 24)] M = some (.d (rD rs), M') ∧ OkR rs ∧ Bx M' b (u + 300) := by
  obtain ⟨g, m, M1, hm, B1, e1⟩ := half19 hB hu n .un
  -- the list
  have e2 : ∃ (rs : List Row) (M2 : List MO), (∀ p ∈ rs, okp p) ∧ rs.length = m ∧ Bx M2 b (u + 250) ∧ mSet 4 (wE (mCall 17 3 [] (mCons (mVar 0) (mCons (mVar 3) (mCons (mIf (mNot (mTru (mVar 2))) (mOp gIx (mFz (mLst (mCons (mC (.int 9)) (mCons (mC (.int 16)) (mCons (mC (.int 40)) mNil))))) (mCall 13 2 [] (mCons (mVar 0) (mCons (mC (.int 3)) mNil)))) (mC (.int 70))) mNil))))) (callN tab (n + 3)) [.r b, .d (.int 24), .d (.bool g), .d (.int (m : Int)), .un, .un, .un, .un, .un] M1 = some (.nx, [.r b, .d (.int 24), .d (.bool g), .d (.int (m : Int)), .d (rD rs), .un, .un, .un, .un], M2) := by
    cases g with
    | true =>
      obtain ⟨rs, M2, q, h1, h2, B2⟩ := r17 B1 (by omega) hm (high := 70) (by decide) (by decide) n
      exact ⟨rs, M2, h1, h2, B2.mono (by omega), by simp only [q, mSeq, mIfS, mRet, mDrop, mSet, mSetT, mSetL, mSetD, mFrz, mNext, mBk, mCt, mNever, mFor, mWhile, mVar, mC, mOp, mUn, mTru, mB, mOfT, mAnd, mOr, mNot, mIf, mAndV, mOrV, mNotV, mChain, mNil, mCons, mTup, mLst, mFz, mFzD, mDNew, mDGet, mDIn, mBlt, mBltL, mIsi, mNoO, mSomeO, mSl, mRg1, mRg2, mLstRg, mCall, mCallK, mItS, mItR, mItE, mLc, mLc2, mYes, mApp1, mExt, mPopW, mPopAtW, mSetIx, mDPut, mRf, mRfD, pE, pL, pD, mPs, mPar, putP, wE, bnd, pk, liftO, peek, dats, pks, getL, putLρ, putLM, getD, putDρ, putDM, argC, permL, slotA, outV, mFn, setTg, setTgs, gSeq, MO.look, MO.slot, truD, bolD, intD, Slot.own, noOwn, wipeS, capL, gAdd, DL.gSub, gMul, gDiv, gMod, gPow, gLt, gLe, gGt, gGe, gIs, gIsNot, gIx, gLen, gAbs, gMax2, gMin2, gInt, gList, gTuple, gNeg, gI0, gII, gSl, bodE, bodT, bodI, lcF, forGo, lim, Nat.zero_le, Nat.reduceLeDiff, List.map_cons, List.map_nil, List.cons_append, List.nil_append, List.append_nil, List.length_cons, List.length_nil, List.getElem?_cons_zero, List.getElem?_cons_succ, List.getElem?_nil, List.replicate_zero, List.replicate_succ, List.all_cons, List.all_nil, List.any_cons, List.any_nil, List.filterMap_cons, List.filterMap_nil, List.set_cons_zero, List.set_cons_succ, Bool.and_true, Bool.true_and, Bool.and_false, Bool.false_and, Bool.and_self, Bool.or_true, Bool.true_or, Bool.or_false, Bool.false_or, Bool.not_true, Bool.not_false, Nat.zero_add, Nat.add_zero, Nat.reduceAdd, Nat.reduceSub, Nat.reduceMul, Nat.reduceBEq, Nat.reduceEqDiff, Nat.reduceLT, Nat.sub_self, beq_self_eq_true, Option.map_some, Option.map_none, reduceIte, if_true, if_false, Bool.false_eq_true, decide_true, decide_false, reduceCtorEq, Int.reduceLE, Int.reduceLT, Int.reduceNeg, Int.reduceToNat, Int.reduceEq, Int.reducePow, Int.reduceDiv, Int.reduceAdd, Int.reduceSub, Int.reduceMul, true_and, and_true, List.isEmpty_nil, List.isEmpty_cons]⟩
    | false =>
      obtain ⟨w, M2, q1, a1, c1, B2⟩ := r13 B1 (by omega) (many := 3) (by omega) (by omega) (n + 2)
      have hh : ∃ h : Int, atI [PyData.int 9, .int 16, .int 40] w = some (.int h) ∧ 9 ≤ h ∧ h ≤ 70 := by
        have : w = 0 ∨ w = 1 ∨ w = 2 := by omega
        rcases this with rfl | rfl | rfl
        · exact ⟨9, rfl, by decide, by decide⟩
        · exact ⟨16, rfl, by decide, by decide⟩
        · exact ⟨40, rfl, by decide, by decide⟩
      obtain ⟨h, eh, h9, h70⟩ := hh
      obtain ⟨rs, M3, q, h1, h2, B3⟩ := r17 B2 (by omega) hm h9 h70 n
      exact ⟨rs, M3, h1, h2, B3.mono (by omega), by simp only [q1, eh, q, mSeq, mIfS, mRet, mDrop, mSet, mSetT, mSetL, mSetD, mFrz, mNext, mBk, mCt, mNever, mFor, mWhile, mVar, mC, mOp, mUn, mTru, mB, mOfT, mAnd, mOr, mNot, mIf, mAndV, mOrV, mNotV, mChain, mNil, mCons, mTup, mLst, mFz, mFzD, mDNew, mDGet, mDIn, mBlt, mBltL, mIsi, mNoO, mSomeO, mSl, mRg1, mRg2, mLstRg, mCall, mCallK, mItS, mItR, mItE, mLc, mLc2, mYes, mApp1, mExt, mPopW, mPopAtW, mSetIx, mDPut, mRf, mRfD, pE, pL, pD, mPs, mPar, putP, wE, bnd, pk, liftO, peek, dats, pks, getL, putLρ, putLM, getD, putDρ, putDM, argC, permL, slotA, outV, mFn, setTg, setTgs, gSeq, MO.look, MO.slot, truD, bolD, intD, Slot.own, noOwn, wipeS, capL, gAdd, DL.gSub, gMul, gDiv, gMod, gPow, gLt, gLe, gGt, gGe, gIs, gIsNot, gIx, gLen, gAbs, gMax2, gMin2, gInt, gList, gTuple, gNeg, gI0, gII, gSl, bodE, bodT, bodI, lcF, forGo, lim, Nat.zero_le, Nat.reduceLeDiff, List.map_cons, List.map_nil, List.cons_append, List.nil_append, List.append_nil, List.length_cons, List.length_nil, List.getElem?_cons_zero, List.getElem?_cons_succ, List.getElem?_nil, List.replicate_zero, List.replicate_succ, List.all_cons, List.all_nil, List.any_cons, List.any_nil, List.filterMap_cons, List.filterMap_nil, List.set_cons_zero, List.set_cons_succ, Bool.and_true, Bool.true_and, Bool.and_false, Bool.false_and, Bool.and_self, Bool.or_true, Bool.true_or, Bool.or_false, Bool.false_or, Bool.not_true, Bool.not_false, Nat.zero_add, Nat.add_zero, Nat.reduceAdd, Nat.reduceSub, Nat.reduceMul, Nat.reduceBEq, Nat.reduceEqDiff, Nat.reduceLT, Nat.sub_self, beq_self_eq_true, Option.map_some, Option.map_none, reduceIte, if_true, if_false, Bool.false_eq_true, decide_true, decide_false, reduceCtorEq, Int.reduceLE, Int.reduceLT, Int.reduceNeg, Int.reduceToNat, Int.reduceEq, Int.reducePow, Int.reduceDiv, Int.reduceAdd, Int.reduceSub, Int.reduceMul, true_and, and_true, List.isEmpty_nil, List.isEmpty_cons]⟩
  obtain ⟨rs, M2, hrs, hlen, B2, e2⟩ := e2
  -- one more
  have e3 : ∃ (rs' : List Row) (s5 : DL.Slot) (M3 : List MO), (∀ p ∈ rs', okq p) ∧ rs'.length ≤ 24 ∧ Bx M3 b (u + 260) ∧ mIfS (mAnd (mB (mOp gNe (mVar 4) (mTup mNil))) (mAnd (mB (mOp gEq (mCall 13 2 [] (mCons (mVar 0) (mCons (mC (.int 3)) mNil))) (mC (.int 0)))) (mB (mOp gLt (mBlt gLen (mCons (mVar 4) mNil)) (mVar 1)))))
      (mSeq (mSet 5 (wE (mCall 18 2 [] (mCons (mVar 0) (mCons (mVar 4) mNil)))))
      (mSet 4 (wE (mOp gAdd (mVar 4) (mTup (mCons (mCall 18 2 [] (mCons (mVar 0) (mCons (mFz (mLst (mCons (mVar 5) (mCons (mTup (mCons (mOp gIx (mVar 5) (mC (.int 1))) (mCons (mOp gAdd (mOp gAdd (mOp gIx (mVar 5) (mC (.int 1))) (mC (.int 1))) (mCall 13 2 [] (mCons (mVar 0) (mCons (mC (.int 4)) mNil)))) mNil))) (mCons (mTup (mCons (mOp gIx (mVar 5) (mC (.int 0))) (mCons (mOp gAdd (mOp gIx (mVar 5) (mC (.int 1))) (mC (.int 1))) mNil))) mNil))))) mNil))) mNil))))))
      mNext (callN tab (n + 3)) [.r b, .d (.int 24), .d (.bool g), .d (.int (m : Int)), .d (rD rs), .un, .un, .un, .un] M2 = some (.nx, [.r b, .d (.int 24), .d (.bool g), .d (.int (m : Int)), .d (rD rs'), s5, .un, .un, .un], M3) := by
    have hq : ∀ p ∈ rs, okq p := fun p mp => by
      obtain ⟨h1, h2, h3⟩ := hrs p mp
      exact ⟨h1, h2, by omega⟩
    cases rs with
    | nil =>
      exact ⟨[], .un, M2, hq, Nat.zero_le _, B2.mono (by omega), by simp only [gNe_nilT, mSeq, mIfS, mRet, mDrop, mSet, mSetT, mSetL, mSetD, mFrz, mNext, mBk, mCt, mNever, mFor, mWhile, mVar, mC, mOp, mUn, mTru, mB, mOfT, mAnd, mOr, mNot, mIf, mAndV, mOrV, mNotV, mChain, mNil, mCons, mTup, mLst, mFz, mFzD, mDNew, mDGet, mDIn, mBlt, mBltL, mIsi, mNoO, mSomeO, mSl, mRg1, mRg2, mLstRg, mCall, mCallK, mItS, mItR, mItE, mLc, mLc2, mYes, mApp1, mExt, mPopW, mPopAtW, mSetIx, mDPut, mRf, mRfD, pE, pL, pD, mPs, mPar, putP, wE, bnd, pk, liftO, peek, dats, pks, getL, putLρ, putLM, getD, putDρ, putDM, argC, permL, slotA, outV, mFn, setTg, setTgs, gSeq, MO.look, MO.slot, truD, bolD, intD, Slot.own, noOwn, wipeS, capL, gAdd, DL.gSub, gMul, gDiv, gMod, gPow, gLt, gLe, gGt, gGe, gIs, gIsNot, gIx, gLen, gAbs, gMax2, gMin2, gInt, gList, gTuple, gNeg, gI0, gII, gSl, bodE, bodT, bodI, lcF, forGo, lim, Nat.zero_le, Nat.reduceLeDiff, List.map_cons, List.map_nil, List.cons_append, List.nil_append, List.append_nil, List.length_cons, List.length_nil, List.getElem?_cons_zero, List.getElem?_cons_succ, List.getElem?_nil, List.replicate_zero, List.replicate_succ, List.all_cons, List.all_nil, List.any_cons, List.any_nil, List.filterMap_cons, List.filterMap_nil, List.set_cons_zero, List.set_cons_succ, Bool.and_true, Bool.true_and, Bool.and_false, Bool.false_and, Bool.and_self, Bool.or_true, Bool.true_or, Bool.or_false, Bool.false_or, Bool.not_true, Bool.not_false, Nat.zero_add, Nat.add_zero, Nat.reduceAdd, Nat.reduceSub, Nat.reduceMul, Nat.reduceBEq, Nat.reduceEqDiff, Nat.reduceLT, Nat.sub_self, beq_self_eq_true, Option.map_some, Option.map_none, reduceIte, if_true, if_false, Bool.false_eq_true, decide_true, decide_false, reduceCtorEq, Int.reduceLE, Int.reduceLT, Int.reduceNeg, Int.reduceToNat, Int.reduceEq, Int.reducePow, Int.reduceDiv, Int.reduceAdd, Int.reduceSub, Int.reduceMul, true_and, and_true, List.isEmpty_nil, List.isEmpty_cons]⟩
    | cons p0 pr0' =>
      have hne : gNe (rD (p0 :: pr0')) (.tuple []) = some (.bool true) := by rw [gNe_nilT]; rfl
      generalize hR : p0 :: pr0' = R at *
      have hRn : R ≠ [] := by rw [← hR]; exact List.cons_ne_nil _ _
      obtain ⟨w, M3, q1, a1, c1, B3⟩ := r13 B2 (by omega) (many := 3) (by omega) (by omega) (n + 2)
      by_cases hw : w = 0
      · by_cases hl : (R.length : Int) < 24
        · obtain ⟨x, M4, q2, mx, B4⟩ := r18 B3 (by omega) (xs := R.map pr) (by simpa using hRn) (by rw [List.length_map]; omega) (n + 1) _ (.inr rfl)
          obtain ⟨p, mp, rfl⟩ := List.mem_map.mp mx
          have op := hrs p mp
          obtain ⟨d, M5, q3, a3, c3, B5⟩ := r13 B4 (by omega) (many := 4) (by omega) (by omega) (n + 2)
          obtain ⟨y, M6, q4, my, B6⟩ := r18 B5 (by omega) (xs := [pr p, pr (p.2, p.2 + 1 + d), pr (p.1, p.2 + 1)]) (by simp) (by simp) (n + 1) _ (.inl rfl)
          have hy : ∃ r : Row, y = pr r ∧ okq r := by
            obtain ⟨o1, o2, o3⟩ := op
            simp only [List.mem_cons, List.not_mem_nil, or_false] at my
            rcases my with h | h | h
            · exact ⟨p, h, o1, o2, by omega⟩
            · exact ⟨_, h, by show 0 ≤ p.2; omega, by show p.2 < p.2 + 1 + d; omega, by show p.2 + 1 + d ≤ 90; omega⟩
            · exact ⟨_, h, o1, by show p.1 < p.2 + 1; omega, by show p.2 + 1 ≤ 90; omega⟩
          obtain ⟨r, rfl, hr⟩ := hy
          refine ⟨R ++ [r], .d (pr p), M6, fun z mz => ?_, by rw [List.length_append, List.length_singleton]; omega, B6.mono (by omega), ?_⟩
          · rcases List.mem_append.mp mz with mz | mz
            · exact hq z mz
            · rw [List.mem_singleton.mp mz]
              exact hr
          · have hl3 : (R.map pr).length + 1 ≤ 1000000 := by rw [List.length_map]; omega
            simp only [rD] at hne ⊢
            simp only [hne, q1, gEq_int, hw, List.length_map, hl, q2, mSeq, mIfS, mRet, mDrop, mSet, mSetT, mSetL, mSetD, mFrz, mNext, mBk, mCt, mNever, mFor, mWhile, mVar, mC, mOp, mUn, mTru, mB, mOfT, mAnd, mOr, mNot, mIf, mAndV, mOrV, mNotV, mChain, mNil, mCons, mTup, mLst, mFz, mFzD, mDNew, mDGet, mDIn, mBlt, mBltL, mIsi, mNoO, mSomeO, mSl, mRg1, mRg2, mLstRg, mCall, mCallK, mItS, mItR, mItE, mLc, mLc2, mYes, mApp1, mExt, mPopW, mPopAtW, mSetIx, mDPut, mRf, mRfD, pE, pL, pD, mPs, mPar, putP, wE, bnd, pk, liftO, peek, dats, pks, getL, putLρ, putLM, getD, putDρ, putDM, argC, permL, slotA, outV, mFn, setTg, setTgs, gSeq, MO.look, MO.slot, truD, bolD, intD, Slot.own, noOwn, wipeS, capL, gAdd, DL.gSub, gMul, gDiv, gMod, gPow, gLt, gLe, gGt, gGe, gIs, gIsNot, gIx, gLen, gAbs, gMax2, gMin2, gInt, gList, gTuple, gNeg, gI0, gII, gSl, bodE, bodT, bodI, lcF, forGo, lim, Nat.zero_le, Nat.reduceLeDiff, List.map_cons, List.map_nil, List.cons_append, List.nil_append, List.append_nil, List.length_cons, List.length_nil, List.getElem?_cons_zero, List.getElem?_cons_succ, List.getElem?_nil, List.replicate_zero, List.replicate_succ, List.all_cons, List.all_nil, List.any_cons, List.any_nil, List.filterMap_cons, List.filterMap_nil, List.set_cons_zero, List.set_cons_succ, Bool.and_true, Bool.true_and, Bool.and_false, Bool.false_and, Bool.and_self, Bool.or_true, Bool.true_or, Bool.or_false, Bool.false_or, Bool.not_true, Bool.not_false, Nat.zero_add, Nat.add_zero, Nat.reduceAdd, Nat.reduceSub, Nat.reduceMul, Nat.reduceBEq, Nat.reduceEqDiff, Nat.reduceLT, Nat.sub_self, beq_self_eq_true, Option.map_some, Option.map_none, reduceIte, if_true, if_false, Bool.false_eq_true, decide_true, decide_false, reduceCtorEq, Int.reduceLE, Int.reduceLT, Int.reduceNeg, Int.reduceToNat, Int.reduceEq, Int.reducePow, Int.reduceDiv, Int.reduceAdd, Int.reduceSub, Int.reduceMul, true_and, and_true, List.isEmpty_nil, List.isEmpty_cons]
            simp only [pr, pr0, pr1, q3, mSeq, mIfS, mRet, mDrop, mSet, mSetT, mSetL, mSetD, mFrz, mNext, mBk, mCt, mNever, mFor, mWhile, mVar, mC, mOp, mUn, mTru, mB, mOfT, mAnd, mOr, mNot, mIf, mAndV, mOrV, mNotV, mChain, mNil, mCons, mTup, mLst, mFz, mFzD, mDNew, mDGet, mDIn, mBlt, mBltL, mIsi, mNoO, mSomeO, mSl, mRg1, mRg2, mLstRg, mCall, mCallK, mItS, mItR, mItE, mLc, mLc2, mYes, mApp1, mExt, mPopW, mPopAtW, mSetIx, mDPut, mRf, mRfD, pE, pL, pD, mPs, mPar, putP, wE, bnd, pk, liftO, peek, dats, pks, getL, putLρ, putLM, getD, putDρ, putDM, argC, permL, slotA, outV, mFn, setTg, setTgs, gSeq, MO.look, MO.slot, truD, bolD, intD, Slot.own, noOwn, wipeS, capL, gAdd, DL.gSub, gMul, gDiv, gMod, gPow, gLt, gLe, gGt, gGe, gIs, gIsNot, gIx, gLen, gAbs, gMax2, gMin2, gInt, gList, gTuple, gNeg, gI0, gII, gSl, bodE, bodT, bodI, lcF, forGo, lim, Nat.zero_le, Nat.reduceLeDiff, List.map_cons, List.map_nil, List.cons_append, List.nil_append, List.append_nil, List.length_cons, List.length_nil, List.getElem?_cons_zero, List.getElem?_cons_succ, List.getElem?_nil, List.replicate_zero, List.replicate_succ, List.all_cons, List.all_nil, List.any_cons, List.any_nil, List.filterMap_cons, List.filterMap_nil, List.set_cons_zero, List.set_cons_succ, Bool.and_true, Bool.true_and, Bool.and_false, Bool.false_and, Bool.and_self, Bool.or_true, Bool.true_or, Bool.or_false, Bool.false_or, Bool.not_true, Bool.not_false, Nat.zero_add, Nat.add_zero, Nat.reduceAdd, Nat.reduceSub, Nat.reduceMul, Nat.reduceBEq, Nat.reduceEqDiff, Nat.reduceLT, Nat.sub_self, beq_self_eq_true, Option.map_some, Option.map_none, reduceIte, if_true, if_false, Bool.false_eq_true, decide_true, decide_false, reduceCtorEq, Int.reduceLE, Int.reduceLT, Int.reduceNeg, Int.reduceToNat, Int.reduceEq, Int.reducePow, Int.reduceDiv, Int.reduceAdd, Int.reduceSub, Int.reduceMul, true_and, and_true, List.isEmpty_nil, List.isEmpty_cons]
            simp only [pr] at q4
            simp only [q4, List.length_map, mSeq, mIfS, mRet, mDrop, mSet, mSetT, mSetL, mSetD, mFrz, mNext, mBk, mCt, mNever, mFor, mWhile, mVar, mC, mOp, mUn, mTru, mB, mOfT, mAnd, mOr, mNot, mIf, mAndV, mOrV, mNotV, mChain, mNil, mCons, mTup, mLst, mFz, mFzD, mDNew, mDGet, mDIn, mBlt, mBltL, mIsi, mNoO, mSomeO, mSl, mRg1, mRg2, mLstRg, mCall, mCallK, mItS, mItR, mItE, mLc, mLc2, mYes, mApp1, mExt, mPopW, mPopAtW, mSetIx, mDPut, mRf, mRfD, pE, pL, pD, mPs, mPar, putP, wE, bnd, pk, liftO, peek, dats, pks, getL, putLρ, putLM, getD, putDρ, putDM, argC, permL, slotA, outV, mFn, setTg, setTgs, gSeq, MO.look, MO.slot, truD, bolD, intD, Slot.own, noOwn, wipeS, capL, gAdd, DL.gSub, gMul, gDiv, gMod, gPow, gLt, gLe, gGt, gGe, gIs, gIsNot, gIx, gLen, gAbs, gMax2, gMin2, gInt, gList, gTuple, gNeg, gI0, gII, gSl, bodE, bodT, bodI, lcF, forGo, lim, Nat.zero_le, Nat.reduceLeDiff, List.map_cons, List.map_nil, List.cons_append, List.nil_append, List.append_nil, List.length_cons, List.length_nil, List.getElem?_cons_zero, List.getElem?_cons_succ, List.getElem?_nil, List.replicate_zero, List.replicate_succ, List.all_cons, List.all_nil, List.any_cons, List.any_nil, List.filterMap_cons, List.filterMap_nil, List.set_cons_zero, List.set_cons_succ, Bool.and_true, Bool.true_and, Bool.and_false, Bool.false_and, Bool.and_self, Bool.or_true, Bool.true_or, Bool.or_false, Bool.false_or, Bool.not_true, Bool.not_false, Nat.zero_add, Nat.add_zero, Nat.reduceAdd, Nat.reduceSub, Nat.reduceMul, Nat.reduceBEq, Nat.reduceEqDiff, Nat.reduceLT, Nat.sub_self, beq_self_eq_true, Option.map_some, Option.map_none, reduceIte, if_true, if_false, Bool.false_eq_true, decide_true, decide_false, reduceCtorEq, Int.reduceLE, Int.reduceLT, Int.reduceNeg, Int.reduceToNat, Int.reduceEq, Int.reducePow, Int.reduceDiv, Int.reduceAdd, Int.reduceSub, Int.reduceMul, true_and, and_true, List.isEmpty_nil, List.isEmpty_cons]
            have hl4 : R.length ≤ 999999 := by omega
            simp only [hl4, mSeq, mIfS, mRet, mDrop, mSet, mSetT, mSetL, mSetD, mFrz, mNext, mBk, mCt, mNever, mFor, mWhile, mVar, mC, mOp, mUn, mTru, mB, mOfT, mAnd, mOr, mNot, mIf, mAndV, mOrV, mNotV, mChain, mNil, mCons, mTup, mLst, mFz, mFzD, mDNew, mDGet, mDIn, mBlt, mBltL, mIsi, mNoO, mSomeO, mSl, mRg1, mRg2, mLstRg, mCall, mCallK, mItS, mItR, mItE, mLc, mLc2, mYes, mApp1, mExt, mPopW, mPopAtW, mSetIx, mDPut, mRf, mRfD, pE, pL, pD, mPs, mPar, putP, wE, bnd, pk, liftO, peek, dats, pks, getL, putLρ, putLM, getD, putDρ, putDM, argC, permL, slotA, outV, mFn, setTg, setTgs, gSeq, MO.look, MO.slot, truD, bolD, intD, Slot.own, noOwn, wipeS, capL, gAdd, DL.gSub, gMul, gDiv, gMod, gPow, gLt, gLe, gGt, gGe, gIs, gIsNot, gIx, gLen, gAbs, gMax2, gMin2, gInt, gList, gTuple, gNeg, gI0, gII, gSl, bodE, bodT, bodI, lcF, forGo, lim, Nat.zero_le, Nat.reduceLeDiff, List.map_cons, List.map_nil, List.cons_append, List.nil_append, List.append_nil, List.length_cons, List.length_nil, List.getElem?_cons_zero, List.getElem?_cons_succ, List.getElem?_nil, List.replicate_zero, List.replicate_succ, List.all_cons, List.all_nil, List.any_cons, List.any_nil, List.filterMap_cons, List.filterMap_nil, List.set_cons_zero, List.set_cons_succ, Bool.and_true, Bool.true_and, Bool.and_false, Bool.false_and, Bool.and_self, Bool.or_true, Bool.true_or, Bool.or_false, Bool.false_or, Bool.not_true, Bool.not_false, Nat.zero_add, Nat.add_zero, Nat.reduceAdd, Nat.reduceSub, Nat.reduceMul, Nat.reduceBEq, Nat.reduceEqDiff, Nat.reduceLT, Nat.sub_self, beq_self_eq_true, Option.map_some, Option.map_none, reduceIte, if_true, if_false, Bool.false_eq_true, decide_true, decide_false, reduceCtorEq, Int.reduceLE, Int.reduceLT, Int.reduceNeg, Int.reduceToNat, Int.reduceEq, Int.reducePow, Int.reduceDiv, Int.reduceAdd, Int.reduceSub, Int.reduceMul, true_and, and_true, List.isEmpty_nil, List.isEmpty_cons]
            rw [List.map_append]
            rfl
        · refine ⟨R, .un, M3, hq, by omega, B3.mono (by omega), ?_⟩
          simp only [rD] at hne ⊢
          simp only [hne, q1, gEq_int, hw, List.length_map, hl, mSeq, mIfS, mRet, mDrop, mSet, mSetT, mSetL, mSetD, mFrz, mNext, mBk, mCt, mNever, mFor, mWhile, mVar, mC, mOp, mUn, mTru, mB, mOfT, mAnd, mOr, mNot, mIf, mAndV, mOrV, mNotV, mChain, mNil, mCons, mTup, mLst, mFz, mFzD, mDNew, mDGet, mDIn, mBlt, mBltL, mIsi, mNoO, mSomeO, mSl, mRg1, mRg2, mLstRg, mCall, mCallK, mItS, mItR, mItE, mLc, mLc2, mYes, mApp1, mExt, mPopW, mPopAtW, mSetIx, mDPut, mRf, mRfD, pE, pL, pD, mPs, mPar, putP, wE, bnd, pk, liftO, peek, dats, pks, getL, putLρ, putLM, getD, putDρ, putDM, argC, permL, slotA, outV, mFn, setTg, setTgs, gSeq, MO.look, MO.slot, truD, bolD, intD, Slot.own, noOwn, wipeS, capL, gAdd, DL.gSub, gMul, gDiv, gMod, gPow, gLt, gLe, gGt, gGe, gIs, gIsNot, gIx, gLen, gAbs, gMax2, gMin2, gInt, gList, gTuple, gNeg, gI0, gII, gSl, bodE, bodT, bodI, lcF, forGo, lim, Nat.zero_le, Nat.reduceLeDiff, List.map_cons, List.map_nil, List.cons_append, List.nil_append, List.append_nil, List.length_cons, List.length_nil, List.getElem?_cons_zero, List.getElem?_cons_succ, List.getElem?_nil, List.replicate_zero, List.replicate_succ, List.all_cons, List.all_nil, List.any_cons, List.any_nil, List.filterMap_cons, List.filterMap_nil, List.set_cons_zero, List.set_cons_succ, Bool.and_true, Bool.true_and, Bool.and_false, Bool.false_and, Bool.and_self, Bool.or_true, Bool.true_or, Bool.or_false, Bool.false_or, Bool.not_true, Bool.not_false, Nat.zero_add, Nat.add_zero, Nat.reduceAdd, Nat.reduceSub, Nat.reduceMul, Nat.reduceBEq, Nat.reduceEqDiff, Nat.reduceLT, Nat.sub_self, beq_self_eq_true, Option.map_some, Option.map_none, reduceIte, if_true, if_false, Bool.false_eq_true, decide_true, decide_false, reduceCtorEq, Int.reduceLE, Int.reduceLT, Int.reduceNeg, Int.reduceToNat, Int.reduceEq, Int.reducePow, Int.reduceDiv, Int.reduceAdd, Int.reduceSub, Int.reduceMul, true_and, and_true, List.isEmpty_nil, List.isEmpty_cons]
      · refine ⟨R, .un, M3, hq, by omega, B3.mono (by omega), ?_⟩
        simp only [hne, q1, gEq_int, hw, mSeq, mIfS, mRet, mDrop, mSet, mSetT, mSetL, mSetD, mFrz, mNext, mBk, mCt, mNever, mFor, mWhile, mVar, mC, mOp, mUn, mTru, mB, mOfT, mAnd, mOr, mNot, mIf, mAndV, mOrV, mNotV, mChain, mNil, mCons, mTup, mLst, mFz, mFzD, mDNew, mDGet, mDIn, mBlt, mBltL, mIsi, mNoO, mSomeO, mSl, mRg1, mRg2, mLstRg, mCall, mCallK, mItS, mItR, mItE, mLc, mLc2, mYes, mApp1, mExt, mPopW, mPopAtW, mSetIx, mDPut, mRf, mRfD, pE, pL, pD, mPs, mPar, putP, wE, bnd, pk, liftO, peek, dats, pks, getL, putLρ, putLM, getD, putDρ, putDM, argC, permL, slotA, outV, mFn, setTg, setTgs, gSeq, MO.look, MO.slot, truD, bolD, intD, Slot.own, noOwn, wipeS, capL, gAdd, DL.gSub, gMul, gDiv, gMod, gPow, gLt, gLe, gGt, gGe, gIs, gIsNot, gIx, gLen, gAbs, gMax2, gMin2, gInt, gList, gTuple, gNeg, gI0, gII, gSl, bodE, bodT, bodI, lcF, forGo, lim, Nat.zero_le, Nat.reduceLeDiff, List.map_cons, List.map_nil, List.cons_append, List.nil_append, List.append_nil, List.length_cons, List.length_nil, List.getElem?_cons_zero, List.getElem?_cons_succ, List.getElem?_nil, List.replicate_zero, List.replicate_succ, List.all_cons, List.all_nil, List.any_cons, List.any_nil, List.filterMap_cons, List.filterMap_nil, List.set_cons_zero, List.set_cons_succ, Bool.and_true, Bool.true_and, Bool.and_false, Bool.false_and, Bool.and_self, Bool.or_true, Bool.true_or, Bool.or_false, Bool.false_or, Bool.not_true, Bool.not_false, Nat.zero_add, Nat.add_zero, Nat.reduceAdd, Nat.reduceSub, Nat.reduceMul, Nat.reduceBEq, Nat.reduceEqDiff, Nat.reduceLT, Nat.sub_self, beq_self_eq_true, Option.map_some, Option.map_none, reduceIte, if_true, if_false, Bool.false_eq_true, decide_true, decide_false, reduceCtorEq, Int.reduceLE, Int.reduceLT, Int.reduceNeg, Int.reduceToNat, Int.reduceEq, Int.reducePow, Int.reduceDiv, Int.reduceAdd, Int.reduceSub, Int.reduceMul, true_and, and_true, List.isEmpty_nil, List.isEmpty_cons]
  obtain ⟨rs', s5, M3, hrs', hlen', B3, e3⟩ := e3
  obtain ⟨w, M4, q5, a5, c5, B4⟩ := r13 B3 (by omega) (many := 5) (by omega) (by omega) (n + 2)
  have hf : ∃ f : Int, atI [PyData.int 0, .int 0, .int (-7), .int 900, .int (-1000)] w = some (.int f) ∧ -1000 ≤ f ∧ f ≤ 900 := by
    have : w = 0 ∨ w = 1 ∨ w = 2 ∨ w = 3 ∨ w = 4 := by omega
    rcases this with rfl | rfl | rfl | rfl | rfl
    · exact ⟨0, rfl, by decide, by decide⟩
    · exact ⟨0, rfl, by decide, by decide⟩
    · exact ⟨-7, rfl, by decide, by decide⟩
    · exact ⟨900, rfl, by decide, by decide⟩
    · exact ⟨-1000, rfl, by decide, by decide⟩
  obtain ⟨f, ef, hf1, hf2⟩ := hf
  refine ⟨rs'.map fun p => (p.1 + f, p.2 + f), M4, ?_, ⟨by rw [List.length_map]; exact hlen', fun p mp => ?_⟩, B4.mono (by omega)⟩
  · rw [at19]
    have e : B19 (callN tab (n + 3)) [.r b, .d (.int 24), .un, .un, .un, .un, .un, .un, .un] M = some (.rt (.d (rD (rs'.map fun p => (p.1 + f, p.2 + f)))), [.r b, .d (.int 24), .d (.bool g), .d (.int (m : Int)), .d (rD rs'), s5, .d (.int f), .un, .un], M4) := by
      unfold B19
      have e1a := e1
      unfold mSeq at e1a
      split at e1a
      · rename_i ρ1 N1 h1
        rw [seq_nx h1, seq_nx e1a, seq_nx e2, seq_nx e3]
        rw [seq_nx (ρ1 := [.r b, .d (.int 24), .d (.bool g), .d (.int (m : Int)), .d (rD rs'), s5, .d (.int f), .un, .un]) (M1 := M4) (by simp only [q5, ef, mSeq, mIfS, mRet, mDrop, mSet, mSetT, mSetL, mSetD, mFrz, mNext, mBk, mCt, mNever, mFor, mWhile, mVar, mC, mOp, mUn, mTru, mB, mOfT, mAnd, mOr, mNot, mIf, mAndV, mOrV, mNotV, mChain, mNil, mCons, mTup, mLst, mFz, mFzD, mDNew, mDGet, mDIn, mBlt, mBltL, mIsi, mNoO, mSomeO, mSl, mRg1, mRg2, mLstRg, mCall, mCallK, mItS, mItR, mItE, mLc, mLc2, mYes, mApp1, mExt, mPopW, mPopAtW, mSetIx, mDPut, mRf, mRfD, pE, pL, pD, mPs, mPar, putP, wE, bnd, pk, liftO, peek, dats, pks, getL, putLρ, putLM, getD, putDρ, putDM, argC, permL, slotA, outV, mFn, setTg, setTgs, gSeq, MO.look, MO.slot, truD, bolD, intD, Slot.own, noOwn, wipeS, capL, gAdd, DL.gSub, gMul, gDiv, gMod, gPow, gLt, gLe, gGt, gGe, gIs, gIsNot, gIx, gLen, gAbs, gMax2, gMin2, gInt, gList, gTuple, gNeg, gI0, gII, gSl, bodE, bodT, bodI, lcF, forGo, lim, Nat.zero_le, Nat.reduceLeDiff, List.map_cons, List.map_nil, List.cons_append, List.nil_append, List.append_nil, List.length_cons, List.length_nil, List.getElem?_cons_zero, List.getElem?_cons_succ, List.getElem?_nil, List.replicate_zero, List.replicate_succ, List.all_cons, List.all_nil, List.any_cons, List.any_nil, List.filterMap_cons, List.filterMap_nil, List.set_cons_zero, List.set_cons_succ, Bool.and_true, Bool.true_and, Bool.and_false, Bool.false_and, Bool.and_self, Bool.or_true, Bool.true_or, Bool.or_false, Bool.false_or, Bool.not_true, Bool.not_false, Nat.zero_add, Nat.add_zero, Nat.reduceAdd, Nat.reduceSub, Nat.reduceMul, Nat.reduceBEq, Nat.reduceEqDiff, Nat.reduceLT, Nat.sub_self, beq_self_eq_true, Option.map_some, Option.map_none, reduceIte, if_true, if_false, Bool.false_eq_true, decide_true, decide_false, reduceCtorEq, Int.reduceLE, Int.reduceLT, Int.reduceNeg, Int.reduceToNat, Int.reduceEq, Int.reducePow, Int.reduceDiv, Int.reduceAdd, Int.reduceSub, Int.reduceMul, true_and, and_true, List.isEmpty_nil, List.isEmpty_cons])]
        have hlm : (rs'.map fun p => pr (p.1 + f, p.2 + f)).length ≤ 1000000 := by rw [List.length_map]; omega
        simp only [rD, mSeq, mIfS, mRet, mDrop, mSet, mSetT, mSetL, mSetD, mFrz, mNext, mBk, mCt, mNever, mFor, mWhile, mVar, mC, mOp, mUn, mTru, mB, mOfT, mAnd, mOr, mNot, mIf, mAndV, mOrV, mNotV, mChain, mNil, mCons, mTup, mLst, mFz, mFzD, mDNew, mDGet, mDIn, mBlt, mBltL, mIsi, mNoO, mSomeO, mSl, mRg1, mRg2, mLstRg, mCall, mCallK, mItS, mItR, mItE, mLc, mLc2, mYes, mApp1, mExt, mPopW, mPopAtW, mSetIx, mDPut, mRf, mRfD, pE, pL, pD, mPs, mPar, putP, wE, bnd, pk, liftO, peek, dats, pks, getL, putLρ, putLM, getD, putDρ, putDM, argC, permL, slotA, outV, mFn, setTg, setTgs, gSeq, MO.look, MO.slot, truD, bolD, intD, Slot.own, noOwn, wipeS, capL, gAdd, DL.gSub, gMul, gDiv, gMod, gPow, gLt, gLe, gGt, gGe, gIs, gIsNot, gIx, gLen, gAbs, gMax2, gMin2, gInt, gList, gTuple, gNeg, gI0, gII, gSl, bodE, bodT, bodI, lcF, forGo, lim, Nat.zero_le, Nat.reduceLeDiff, List.map_cons, List.map_nil, List.cons_append, List.nil_append, List.append_nil, List.length_cons, List.length_nil, List.getElem?_cons_zero, List.getElem?_cons_succ, List.getElem?_nil, List.replicate_zero, List.replicate_succ, List.all_cons, List.all_nil, List.any_cons, List.any_nil, List.filterMap_cons, List.filterMap_nil, List.set_cons_zero, List.set_cons_succ, Bool.and_true, Bool.true_and, Bool.and_false, Bool.false_and, Bool.and_self, Bool.or_true, Bool.true_or, Bool.or_false, Bool.false_or, Bool.not_true, Bool.not_false, Nat.zero_add, Nat.add_zero, Nat.reduceAdd, Nat.reduceSub, Nat.reduceMul, Nat.reduceBEq, Nat.reduceEqDiff, Nat.reduceLT, Nat.sub_self, beq_self_eq_true, Option.map_some, Option.map_none, reduceIte, if_true, if_false, Bool.false_eq_true, decide_true, decide_false, reduceCtorEq, Int.reduceLE, Int.reduceLT, Int.reduceNeg, Int.reduceToNat, Int.reduceEq, Int.reducePow, Int.reduceDiv, Int.reduceAdd, Int.reduceSub, Int.reduceMul, true_and, and_true, List.isEmpty_nil, List.isEmpty_cons]
        rw [lcF_map (g := fun p => pr (p.1 + f, p.2 + f))]
        · simp only [hlm, mSeq, mIfS, mRet, mDrop, mSet, mSetT, mSetL, mSetD, mFrz, mNext, mBk, mCt, mNever, mFor, mWhile, mVar, mC, mOp, mUn, mTru, mB, mOfT, mAnd, mOr, mNot, mIf, mAndV, mOrV, mNotV, mChain, mNil, mCons, mTup, mLst, mFz, mFzD, mDNew, mDGet, mDIn, mBlt, mBltL, mIsi, mNoO, mSomeO, mSl, mRg1, mRg2, mLstRg, mCall, mCallK, mItS, mItR, mItE, mLc, mLc2, mYes, mApp1, mExt, mPopW, mPopAtW, mSetIx, mDPut, mRf, mRfD, pE, pL, pD, mPs, mPar, putP, wE, bnd, pk, liftO, peek, dats, pks, getL, putLρ, putLM, getD, putDρ, putDM, argC, permL, slotA, outV, mFn, setTg, setTgs, gSeq, MO.look, MO.slot, truD, bolD, intD, Slot.own, noOwn, wipeS, capL, gAdd, DL.gSub, gMul, gDiv, gMod, gPow, gLt, gLe, gGt, gGe, gIs, gIsNot, gIx, gLen, gAbs, gMax2, gMin2, gInt, gList, gTuple, gNeg, gI0, gII, gSl, bodE, bodT, bodI, lcF, forGo, lim, Nat.zero_le, Nat.reduceLeDiff, List.map_cons, List.map_nil, List.cons_append, List.nil_append, List.append_nil, List.length_cons, List.length_nil, List.getElem?_cons_zero, List.getElem?_cons_succ, List.getElem?_nil, List.replicate_zero, List.replicate_succ, List.all_cons, List.all_nil, List.any_cons, List.any_nil, List.filterMap_cons, List.filterMap_nil, List.set_cons_zero, List.set_cons_succ, Bool.and_true, Bool.true_and, Bool.and_false, Bool.false_and, Bool.and_self, Bool.or_true, Bool.true_or, Bool.or_false, Bool.false_or, Bool.not_true, Bool.not_false, Nat.zero_add, Nat.add_zero, Nat.reduceAdd, Nat.reduceSub, Nat.reduceMul, Nat.reduceBEq, Nat.reduceEqDiff, Nat.reduceLT, Nat.sub_self, beq_self_eq_true, Option.map_some, Option.map_none, reduceIte, if_true, if_false, Bool.false_eq_true, decide_true, decide_false, reduceCtorEq, Int.reduceLE, Int.reduceLT, Int.reduceNeg, Int.reduceToNat, Int.reduceEq, Int.reducePow, Int.reduceDiv, Int.reduceAdd, Int.reduceSub, Int.reduceMul, true_and, and_true, List.isEmpty_nil, List.isEmpty_cons]
          rw [List.map_map]
          rfl
        · intro p mp
          simp only [pr, mSeq, mIfS, mRet, mDrop, mSet, mSetT, mSetL, mSetD, mFrz, mNext, mBk, mCt, mNever, mFor, mWhile, mVar, mC, mOp, mUn, mTru, mB, mOfT, mAnd, mOr, mNot, mIf, mAndV, mOrV, mNotV, mChain, mNil, mCons, mTup, mLst, mFz, mFzD, mDNew, mDGet, mDIn, mBlt, mBltL, mIsi, mNoO, mSomeO, mSl, mRg1, mRg2, mLstRg, mCall, mCallK, mItS, mItR, mItE, mLc, mLc2, mYes, mApp1, mExt, mPopW, mPopAtW, mSetIx, mDPut, mRf, mRfD, pE, pL, pD, mPs, mPar, putP, wE, bnd, pk, liftO, peek, dats, pks, getL, putLρ, putLM, getD, putDρ, putDM, argC, permL, slotA, outV, mFn, setTg, setTgs, gSeq, MO.look, MO.slot, truD, bolD, intD, Slot.own, noOwn, wipeS, capL, gAdd, DL.gSub, gMul, gDiv, gMod, gPow, gLt, gLe, gGt, gGe, gIs, gIsNot, gIx, gLen, gAbs, gMax2, gMin2, gInt, gList, gTuple, gNeg, gI0, gII, gSl, bodE, bodT, bodI, lcF, forGo, lim, Nat.zero_le, Nat.reduceLeDiff, List.map_cons, List.map_nil, List.cons_append, List.nil_append, List.append_nil, List.length_cons, List.length_nil, List.getElem?_cons_zero, List.getElem?_cons_succ, List.getElem?_nil, List.replicate_zero, List.replicate_succ, List.all_cons, List.all_nil, List.any_cons, List.any_nil, List.filterMap_cons, List.filterMap_nil, List.set_cons_zero, List.set_cons_succ, Bool.and_true, Bool.true_and, Bool.and_false, Bool.false_and, Bool.and_self, Bool.or_true, Bool.true_or, Bool.or_false, Bool.false_or, Bool.not_true, Bool.not_false, Nat.zero_add, Nat.add_zero, Nat.reduceAdd, Nat.reduceSub, Nat.reduceMul, Nat.reduceBEq, Nat.reduceEqDiff, Nat.reduceLT, Nat.sub_self, beq_self_eq_true, Option.map_some, Option.map_none, reduceIte, if_true, if_false, Bool.false_eq_true, decide_true, decide_false, reduceCtorEq, Int.reduceLE, Int.reduceLT, Int.reduceNeg, Int.reduceToNat, Int.reduceEq, Int.reducePow, Int.reduceDiv, Int.reduceAdd, Int.reduceSub, Int.reduceMul, true_and, and_true, List.isEmpty_nil, List.isEmpty_cons]
      · rename_i h1
        exact absurd e1a (h1 _ _)
    rw [fn_rt e]
    rfl
  · obtain ⟨p', mp', rfl⟩ := List.mem_map.mp mp
    obtain ⟨o1, o2, o3⟩ := hrs' p' mp'
    exact ⟨by show -1000 ≤ p'.1 + f; omega, by show p'.1 + f < p'.2 + f; omega, by show p'.2 + f ≤ 1000; omega⟩
end K03
set_option Elab.async false
set_option linter.all false
set_option maxRecDepth 100000
set_option maxHeartbeats 4000000
/-! k03: same, other rows -/
namespace K03
open PySem L2 DL
mutual
def good : D → Bool
  | .none => true
  | .bool _ => true
  | .int _ => true
  | .str _ => false
  | .list xs => decide (xs.length ≤ 10000) && goods xs
  | .tuple xs => decide (xs.length ≤ 10000) && goods xs
  | .dict _ => false
def goods : List D → Bool
  | [] => true
  | x :: xs => good x && goods xs
end
theorem goods_get : ∀ {xs : List D} {k : Nat} (h : k < xs.length), goods xs = true → good xs[k] = true
  | x :: xs, 0, _, g => by
    simp only [goods, Bool.and_eq_true] at g
    exact g.1
  | x :: xs, k + 1, h, g => by
    simp only [goods, Bool.and_eq_true] at g
    exact goods_get (Nat.lt_of_succ_lt_succ h) g.2
theorem goods_of : ∀ {xs : List D}, (∀ x ∈ xs, good x = true) → goods xs = true
  | [], _ => rfl
  | x :: xs, h => by simp [goods, h x List.mem_cons_self, goods_of fun y m => h y (List.mem_cons_of_mem _ m)]
theorem dep_get : ∀ {xs : List D} {k : Nat} (h : k < xs.length), xs[k].depth ≤ PyData.depthAll xs
  | x :: xs, 0, _ => by
    show x.depth ≤ _
    rw [PyData.depthAll]
    omega
  | x :: xs, k + 1, h => by
    have hk : k < xs.length := Nat.lt_of_succ_lt_succ h
    have := dep_get (xs := xs) (k := k) hk
    show xs[k].depth ≤ _
    rw [PyData.depthAll]
    omega
theorem gEq_bool (b : Bool) : gEq (.bool b) (.bool b) = some (.bool true) := by cases b <;> rfl
theorem gNe_bool (b : Bool) : gNe (.bool b) (.bool b) = some (.bool false) := by cases b <;> rfl
theorem at14 {n : Nat} {as : List Vl} {M : List MO} : callN tab (n + 1) 14 as M = mFn N14.length B14 (callN tab n) as M := rfl
theorem filt_none {is : List Nat} : is.filter (fun _ => false) = [] := by simp
theorem same {M : List MO} : ∀ (N n : Nat) (d : D), good d = true → d.depth ≤ N → callN tab (n + N + 1) 14 [.d d, .d d] M = some (.d (.bool true), M) := by
  intro N
  induction N with
  | zero =>
    intro n d hg hd
    rw [at14]
    cases d with
    | none => simp only [N14, B14, isNone, mSeq, mIfS, mRet, mDrop, mSet, mSetT, mSetL, mSetD, mFrz, mNext, mBk, mCt, mNever, mFor, mWhile, mVar, mC, mOp, mUn, mTru, mB, mOfT, mAnd, mOr, mNot, mIf, mAndV, mOrV, mNotV, mChain, mNil, mCons, mTup, mLst, mFz, mFzD, mDNew, mDGet, mDIn, mBlt, mBltL, mIsi, mNoO, mSomeO, mSl, mRg1, mRg2, mLstRg, mCall, mCallK, mItS, mItR, mItE, mLc, mLc2, mYes, mApp1, mExt, mPopW, mPopAtW, mSetIx, mDPut, mRf, mRfD, pE, pL, pD, mPs, mPar, putP, wE, bnd, pk, liftO, peek, dats, pks, getL, putLρ, putLM, getD, putDρ, putDM, argC, permL, slotA, outV, mFn, setTg, setTgs, gSeq, MO.look, MO.slot, truD, bolD, intD, Slot.own, noOwn, wipeS, capL, gAdd, DL.gSub, gMul, gDiv, gMod, gPow, gLt, gLe, gGt, gGe, gIs, gIsNot, gIx, gLen, gAbs, gMax2, gMin2, gInt, gList, gTuple, gNeg, gI0, gII, gSl, bodE, bodT, bodI, lcF, forGo, lim, Nat.zero_le, Nat.reduceLeDiff, List.map_cons, List.map_nil, List.cons_append, List.nil_append, List.append_nil, List.length_cons, List.length_nil, List.getElem?_cons_zero, List.getElem?_cons_succ, List.getElem?_nil, List.replicate_zero, List.replicate_succ, List.all_cons, List.all_nil, List.any_cons, List.any_nil, List.filterMap_cons, List.filterMap_nil, List.set_cons_zero, List.set_cons_succ, Bool.and_true, Bool.true_and, Bool.and_false, Bool.false_and, Bool.and_self, Bool.or_true, Bool.true_or, Bool.or_false, Bool.false_or, Bool.not_true, Bool.not_false, Nat.zero_add, Nat.add_zero, Nat.reduceAdd, Nat.reduceSub, Nat.reduceMul, Nat.reduceBEq, Nat.reduceEqDiff, Nat.reduceLT, Nat.sub_self, beq_self_eq_true, Option.map_some, Option.map_none, reduceIte, if_true, if_false, Bool.false_eq_true, decide_true, decide_false, reduceCtorEq, Int.reduceLE, Int.reduceLT, Int.reduceNeg, Int.reduceToNat, Int.reduceEq, Int.reducePow, Int.reduceDiv, Int.reduceAdd, Int.reduceSub, Int.reduceMul, true_and, and_true, List.isEmpty_nil, List.isEmpty_cons]
    | bool b =>
      have t1 : isTy "bool" (.bool b) = true := by rfl
      simp only [N14, B14, isNone, t1, gEq_bool, mSeq, mIfS, mRet, mDrop, mSet, mSetT, mSetL, mSetD, mFrz, mNext, mBk, mCt, mNever, mFor, mWhile, mVar, mC, mOp, mUn, mTru, mB, mOfT, mAnd, mOr, mNot, mIf, mAndV, mOrV, mNotV, mChain, mNil, mCons, mTup, mLst, mFz, mFzD, mDNew, mDGet, mDIn, mBlt, mBltL, mIsi, mNoO, mSomeO, mSl, mRg1, mRg2, mLstRg, mCall, mCallK, mItS, mItR, mItE, mLc, mLc2, mYes, mApp1, mExt, mPopW, mPopAtW, mSetIx, mDPut, mRf, mRfD, pE, pL, pD, mPs, mPar, putP, wE, bnd, pk, liftO, peek, dats, pks, getL, putLρ, putLM, getD, putDρ, putDM, argC, permL, slotA, outV, mFn, setTg, setTgs, gSeq, MO.look, MO.slot, truD, bolD, intD, Slot.own, noOwn, wipeS, capL, gAdd, DL.gSub, gMul, gDiv, gMod, gPow, gLt, gLe, gGt, gGe, gIs, gIsNot, gIx, gLen, gAbs, gMax2, gMin2, gInt, gList, gTuple, gNeg, gI0, gII, gSl, bodE, bodT, bodI, lcF, forGo, lim, Nat.zero_le, Nat.reduceLeDiff, List.map_cons, List.map_nil, List.cons_append, List.nil_append, List.append_nil, List.length_cons, List.length_nil, List.getElem?_cons_zero, List.getElem?_cons_succ, List.getElem?_nil, List.replicate_zero, List.replicate_succ, List.all_cons, List.all_nil, List.any_cons, List.any_nil, List.filterMap_cons, List.filterMap_nil, List.set_cons_zero, List.set_cons_succ, Bool.and_true, Bool.true_and, Bool.and_false, Bool.false_and, Bool.and_self, Bool.or_true, Bool.true_or, Bool.or_false, Bool.false_or, Bool.not_true, Bool.not_false, Nat.zero_add, Nat.add_zero, Nat.reduceAdd, Nat.reduceSub, Nat.reduceMul, Nat.reduceBEq, Nat.reduceEqDiff, Nat.reduceLT, Nat.sub_self, beq_self_eq_true, Option.map_some, Option.map_none, reduceIte, if_true, if_false, Bool.false_eq_true, decide_true, decide_false, reduceCtorEq, Int.reduceLE, Int.reduceLT, Int.reduceNeg, Int.reduceToNat, Int.reduceEq, Int.reducePow, Int.reduceDiv, Int.reduceAdd, Int.reduceSub, Int.reduceMul, true_and, and_true, List.isEmpty_nil, List.isEmpty_cons]
    | int i =>
      have t1 : isTy "bool" (.int i) = false := by rfl
      have t2 : isTy "int" (.int i) = true := by rfl
      have e : decide (i - i = 0) = true := decide_eq_true (Int.sub_self i)
      simp only [N14, B14, isNone, t1, t2, gEq_int, e, Int.sub_self, mSeq, mIfS, mRet, mDrop, mSet, mSetT, mSetL, mSetD, mFrz, mNext, mBk, mCt, mNever, mFor, mWhile, mVar, mC, mOp, mUn, mTru, mB, mOfT, mAnd, mOr, mNot, mIf, mAndV, mOrV, mNotV, mChain, mNil, mCons, mTup, mLst, mFz, mFzD, mDNew, mDGet, mDIn, mBlt, mBltL, mIsi, mNoO, mSomeO, mSl, mRg1, mRg2, mLstRg, mCall, mCallK, mItS, mItR, mItE, mLc, mLc2, mYes, mApp1, mExt, mPopW, mPopAtW, mSetIx, mDPut, mRf, mRfD, pE, pL, pD, mPs, mPar, putP, wE, bnd, pk, liftO, peek, dats, pks, getL, putLρ, putLM, getD, putDρ, putDM, argC, permL, slotA, outV, mFn, setTg, setTgs, gSeq, MO.look, MO.slot, truD, bolD, intD, Slot.own, noOwn, wipeS, capL, gAdd, DL.gSub, gMul, gDiv, gMod, gPow, gLt, gLe, gGt, gGe, gIs, gIsNot, gIx, gLen, gAbs, gMax2, gMin2, gInt, gList, gTuple, gNeg, gI0, gII, gSl, bodE, bodT, bodI, lcF, forGo, lim, Nat.zero_le, Nat.reduceLeDiff, List.map_cons, List.map_nil, List.cons_append, List.nil_append, List.append_nil, List.length_cons, List.length_nil, List.getElem?_cons_zero, List.getElem?_cons_succ, List.getElem?_nil, List.replicate_zero, List.replicate_succ, List.all_cons, List.all_nil, List.any_cons, List.any_nil, List.filterMap_cons, List.filterMap_nil, List.set_cons_zero, List.set_cons_succ, Bool.and_true, Bool.true_and, Bool.and_false, Bool.false_and, Bool.and_self, Bool.or_true, Bool.true_or, Bool.or_false, Bool.false_or, Bool.not_true, Bool.not_false, Nat.zero_add, Nat.add_zero, Nat.reduceAdd, Nat.reduceSub, Nat.reduceMul, Nat.reduceBEq, Nat.reduceEqDiff, Nat.reduceLT, Nat.sub_self, beq_self_eq_true, Option.map_some, Option.map_none, reduceIte, if_true, if_false, Bool.false_eq_true, decide_true, decide_false, reduceCtorEq, Int.reduceLE, Int.reduceLT, Int.reduceNeg, Int.reduceToNat, Int.reduceEq, Int.reducePow, Int.reduceDiv, Int.reduceAdd, Int.reduceSub, Int.reduceMul, true_and, and_true, List.isEmpty_nil, List.isEmpty_cons]
    | str x => cases hg
    | list xs => rw [PyData.depth] at hd; omega
    | tuple xs => rw [PyData.depth] at hd; omega
    | dict es => cases hg
  | succ N ih =>
    intro n d hg hd
    have low : d.depth ≤ N → callN tab (n + (N + 1) + 1) 14 [.d d, .d d] M = some (.d (.bool true), M) := fun h => by
      have := ih (n + 1) d hg h
      rw [show n + 1 + N + 1 = n + (N + 1) + 1 by omega] at this
      exact this
    have key : ∀ xs : List D, xs.length ≤ 10000 → goods xs = true → PyData.depthAll xs ≤ N → ∀ k ∈ all_ xs.length, ∃ y, atI xs (k : Int) = some y ∧ callN tab (n + (N + 1)) 14 [.d y, .d y] M = some (.d (.bool true), M) := fun xs _ h2 h3 k m => by
      have hk := all_lt m
      have := ih n xs[k] (goods_get hk h2) (Nat.le_trans (dep_get hk) h3)
      rw [show n + N + 1 = n + (N + 1) by omega] at this
      exact ⟨xs[k], atI_nat hk, this⟩
    cases d with
    | none => exact low (by rw [PyData.depth]; omega)
    | bool b => exact low (by rw [PyData.depth]; omega)
    | int i => exact low (by rw [PyData.depth]; omega)
    | str x => cases hg
    | dict es => cases hg
    | list xs =>
      simp only [good, Bool.and_eq_true, decide_eq_true_eq] at hg
      rw [PyData.depth] at hd
      have kk := key xs hg.1 hg.2 (by omega)
      have t1 : isTy "bool" (.list xs) = false := by rfl
      have t2 : isTy "int" (.list xs) = false := by rfl
      have t3 : isTy "str" (.list xs) = false := by rfl
      have t4 : isTy "dict" (.list xs) = false := by rfl
      have t5 : isTy "list" (.list xs) = true := by rfl
      have t6 : isTy "tuple" (.list xs) = false := by rfl
      have t7 : okRg 0 (xs.length : Int) = true := okRg0 (by omega)
      have t8 : decide (((xs.length : Nat) : Int) = ((xs.length : Nat) : Int)) = true := decide_eq_true rfl
      rw [at14]
      simp only [N14, B14, isNone, t1, t2, t3, t4, t5, t6, t7, t8, gNe_bool, gNe_int, rg_all, mSeq, mIfS, mRet, mDrop, mSet, mSetT, mSetL, mSetD, mFrz, mNext, mBk, mCt, mNever, mFor, mWhile, mVar, mC, mOp, mUn, mTru, mB, mOfT, mAnd, mOr, mNot, mIf, mAndV, mOrV, mNotV, mChain, mNil, mCons, mTup, mLst, mFz, mFzD, mDNew, mDGet, mDIn, mBlt, mBltL, mIsi, mNoO, mSomeO, mSl, mRg1, mRg2, mLstRg, mCall, mCallK, mItS, mItR, mItE, mLc, mLc2, mYes, mApp1, mExt, mPopW, mPopAtW, mSetIx, mDPut, mRf, mRfD, pE, pL, pD, mPs, mPar, putP, wE, bnd, pk, liftO, peek, dats, pks, getL, putLρ, putLM, getD, putDρ, putDM, argC, permL, slotA, outV, mFn, setTg, setTgs, gSeq, MO.look, MO.slot, truD, bolD, intD, Slot.own, noOwn, wipeS, capL, gAdd, DL.gSub, gMul, gDiv, gMod, gPow, gLt, gLe, gGt, gGe, gIs, gIsNot, gIx, gLen, gAbs, gMax2, gMin2, gInt, gList, gTuple, gNeg, gI0, gII, gSl, bodE, bodT, bodI, lcF, forGo, lim, Nat.zero_le, Nat.reduceLeDiff, List.map_cons, List.map_nil, List.cons_append, List.nil_append, List.append_nil, List.length_cons, List.length_nil, List.getElem?_cons_zero, List.getElem?_cons_succ, List.getElem?_nil, List.replicate_zero, List.replicate_succ, List.all_cons, List.all_nil, List.any_cons, List.any_nil, List.filterMap_cons, List.filterMap_nil, List.set_cons_zero, List.set_cons_succ, Bool.and_true, Bool.true_and, Bool.and_false, Bool.false_and, Bool.and_self, Bool.or_true, Bool.true_or, Bool.or_false, Bool.false_or, Bool.not_true, Bool.not_false, Nat.zero_add, Nat.add_zero, Nat.reduceAdd, Nat.reduceSub, Nat.reduceMul, Nat.reduceBEq, Nat.reduceEqDiff, Nat.reduceLT, Nat.sub_self, beq_self_eq_true, Option.map_some, Option.map_none, reduceIte, if_true, if_false, Bool.false_eq_true, decide_true, decide_false, reduceCtorEq, Int.reduceLE, Int.reduceLT, Int.reduceNeg, Int.reduceToNat, Int.reduceEq, Int.reducePow, Int.reduceDiv, Int.reduceAdd, Int.reduceSub, Int.reduceMul, true_and, and_true, List.isEmpty_nil, List.isEmpty_cons]
      rw [lcF_filtN (p := fun _ => false)]
      · have e : gEq (.list (iL [])) (.list []) = some (.bool true) := by rfl
        simp only [filt_none, e, mSeq, mIfS, mRet, mDrop, mSet, mSetT, mSetL, mSetD, mFrz, mNext, mBk, mCt, mNever, mFor, mWhile, mVar, mC, mOp, mUn, mTru, mB, mOfT, mAnd, mOr, mNot, mIf, mAndV, mOrV, mNotV, mChain, mNil, mCons, mTup, mLst, mFz, mFzD, mDNew, mDGet, mDIn, mBlt, mBltL, mIsi, mNoO, mSomeO, mSl, mRg1, mRg2, mLstRg, mCall, mCallK, mItS, mItR, mItE, mLc, mLc2, mYes, mApp1, mExt, mPopW, mPopAtW, mSetIx, mDPut, mRf, mRfD, pE, pL, pD, mPs, mPar, putP, wE, bnd, pk, liftO, peek, dats, pks, getL, putLρ, putLM, getD, putDρ, putDM, argC, permL, slotA, outV, mFn, setTg, setTgs, gSeq, MO.look, MO.slot, truD, bolD, intD, Slot.own, noOwn, wipeS, capL, gAdd, DL.gSub, gMul, gDiv, gMod, gPow, gLt, gLe, gGt, gGe, gIs, gIsNot, gIx, gLen, gAbs, gMax2, gMin2, gInt, gList, gTuple, gNeg, gI0, gII, gSl, bodE, bodT, bodI, lcF, forGo, lim, Nat.zero_le, Nat.reduceLeDiff, List.map_cons, List.map_nil, List.cons_append, List.nil_append, List.append_nil, List.length_cons, List.length_nil, List.getElem?_cons_zero, List.getElem?_cons_succ, List.getElem?_nil, List.replicate_zero, List.replicate_succ, List.all_cons, List.all_nil, List.any_cons, List.any_nil, List.filterMap_cons, List.filterMap_nil, List.set_cons_zero, List.set_cons_succ, Bool.and_true, Bool.true_and, Bool.and_false, Bool.false_and, Bool.and_self, Bool.or_true, Bool.true_or, Bool.or_false, Bool.false_or, Bool.not_true, Bool.not_false, Nat.zero_add, Nat.add_zero, Nat.reduceAdd, Nat.reduceSub, Nat.reduceMul, Nat.reduceBEq, Nat.reduceEqDiff, Nat.reduceLT, Nat.sub_self, beq_self_eq_true, Option.map_some, Option.map_none, reduceIte, if_true, if_false, Bool.false_eq_true, decide_true, decide_false, reduceCtorEq, Int.reduceLE, Int.reduceLT, Int.reduceNeg, Int.reduceToNat, Int.reduceEq, Int.reducePow, Int.reduceDiv, Int.reduceAdd, Int.reduceSub, Int.reduceMul, true_and, and_true, List.isEmpty_nil, List.isEmpty_cons]
        rfl
      · intro k m
        obtain ⟨y, h1, h2⟩ := kk k m
        simp only [h1, h2, mSeq, mIfS, mRet, mDrop, mSet, mSetT, mSetL, mSetD, mFrz, mNext, mBk, mCt, mNever, mFor, mWhile, mVar, mC, mOp, mUn, mTru, mB, mOfT, mAnd, mOr, mNot, mIf, mAndV, mOrV, mNotV, mChain, mNil, mCons, mTup, mLst, mFz, mFzD, mDNew, mDGet, mDIn, mBlt, mBltL, mIsi, mNoO, mSomeO, mSl, mRg1, mRg2, mLstRg, mCall, mCallK, mItS, mItR, mItE, mLc, mLc2, mYes, mApp1, mExt, mPopW, mPopAtW, mSetIx, mDPut, mRf, mRfD, pE, pL, pD, mPs, mPar, putP, wE, bnd, pk, liftO, peek, dats, pks, getL, putLρ, putLM, getD, putDρ, putDM, argC, permL, slotA, outV, mFn, setTg, setTgs, gSeq, MO.look, MO.slot, truD, bolD, intD, Slot.own, noOwn, wipeS, capL, gAdd, DL.gSub, gMul, gDiv, gMod, gPow, gLt, gLe, gGt, gGe, gIs, gIsNot, gIx, gLen, gAbs, gMax2, gMin2, gInt, gList, gTuple, gNeg, gI0, gII, gSl, bodE, bodT, bodI, lcF, forGo, lim, Nat.zero_le, Nat.reduceLeDiff, List.map_cons, List.map_nil, List.cons_append, List.nil_append, List.append_nil, List.length_cons, List.length_nil, List.getElem?_cons_zero, List.getElem?_cons_succ, List.getElem?_nil, List.replicate_zero, List.replicate_succ, List.all_cons, List.all_nil, List.any_cons, List.any_nil, List.filterMap_cons, List.filterMap_nil, List.set_cons_zero, List.set_cons_succ, Bool.and_true, Bool.true_and, Bool.and_false, Bool.false_and, Bool.and_self, Bool.or_true, Bool.true_or, Bool.or_false, Bool.false_or, Bool.not_true, Bool.not_false, Nat.zero_add, Nat.add_zero, Nat.reduceAdd, Nat.reduceSub, Nat.reduceMul, Nat.reduceBEq, Nat.reduceEqDiff, Nat.reduceLT, Nat.sub_self, beq_self_eq_true, Option.map_some, Option.map_none, reduceIte, if_true, if_false, Bool.false_eq_true, decide_true, decide_false, reduceCtorEq, Int.reduceLE, Int.reduceLT, Int.reduceNeg, Int.reduceToNat, Int.reduceEq, Int.reducePow, Int.reduceDiv, Int.reduceAdd, Int.reduceSub, Int.reduceMul, true_and, and_true, List.isEmpty_nil, List.isEmpty_cons]
    | tuple xs =>
      simp only [good, Bool.and_eq_true, decide_eq_true_eq] at hg
      rw [PyData.depth] at hd
      have kk := key xs hg.1 hg.2 (by omega)
      have t1 : isTy "bool" (.tuple xs) = false := by rfl
      have t2 : isTy "int" (.tuple xs) = false := by rfl
      have t3 : isTy "str" (.tuple xs) = false := by rfl
      have t4 : isTy "dict" (.tuple xs) = false := by rfl
      have t5 : isTy "list" (.tuple xs) = false := by rfl
      have t6 : isTy "tuple" (.tuple xs) = true := by rfl
      have t7 : okRg 0 (xs.length : Int) = true := okRg0 (by omega)
      have t8 : decide (((xs.length : Nat) : Int) = ((xs.length : Nat) : Int)) = true := decide_eq_true rfl
      rw [at14]
      simp only [N14, B14, isNone, t1, t2, t3, t4, t5, t6, t7, t8, gNe_bool, gNe_int, rg_all, mSeq, mIfS, mRet, mDrop, mSet, mSetT, mSetL, mSetD, mFrz, mNext, mBk, mCt, mNever, mFor, mWhile, mVar, mC, mOp, mUn, mTru, mB, mOfT, mAnd, mOr, mNot, mIf, mAndV, mOrV, mNotV, mChain, mNil, mCons, mTup, mLst, mFz, mFzD, mDNew, mDGet, mDIn, mBlt, mBltL, mIsi, mNoO, mSomeO, mSl, mRg1, mRg2, mLstRg, mCall, mCallK, mItS, mItR, mItE, mLc, mLc2, mYes, mApp1, mExt, mPopW, mPopAtW, mSetIx, mDPut, mRf, mRfD, pE, pL, pD, mPs, mPar, putP, wE, bnd, pk, liftO, peek, dats, pks, getL, putLρ, putLM, getD, putDρ, putDM, argC, permL, slotA, outV, mFn, setTg, setTgs, gSeq, MO.look, MO.slot, truD, bolD, intD, Slot.own, noOwn, wipeS, capL, gAdd, DL.gSub, gMul, gDiv, gMod, gPow, gLt, gLe, gGt, gGe, gIs, gIsNot, gIx, gLen, gAbs, gMax2, gMin2, gInt, gList, gTuple, gNeg, gI0, gII, gSl, bodE, bodT, bodI, lcF, forGo, lim, Nat.zero_le, Nat.reduceLeDiff, List.map_cons, List.map_nil, List.cons_append, List.nil_append, List.append_nil, List.length_cons, List.length_nil, List.getElem?_cons_zero, List.getElem?_cons_succ, List.getElem?_nil, List.replicate_zero, List.replicate_succ, List.all_cons, List.all_nil, List.any_cons, List.any_nil, List.filterMap_cons, List.filterMap_nil, List.set_cons_zero, List.set_cons_succ, Bool.and_true, Bool.true_and, Bool.and_false, Bool.false_and, Bool.and_self, Bool.or_true, Bool.true_or, Bool.or_false, Bool.false_or, Bool.not_true, Bool.not_false, Nat.zero_add, Nat.add_zero, Nat.reduceAdd, Nat.reduceSub, Nat.reduceMul, Nat.reduceBEq, Nat.reduceEqDiff, Nat.reduceLT, Nat.sub_self, beq_self_eq_true, Option.map_some, Option.map_none, reduceIte, if_true, if_false, Bool.false_eq_true, decide_true, decide_false, reduceCtorEq, Int.reduceLE, Int.reduceLT, Int.reduceNeg, Int.reduceToNat, Int.reduceEq, Int.reducePow, Int.reduceDiv, Int.reduceAdd, Int.reduceSub, Int.reduceMul, true_and, and_true, List.isEmpty_nil, List.isEmpty_cons]
      rw [lcF_filtN (p := fun _ => false)]
      · have e : gEq (.list (iL [])) (.list []) = some (.bool true) := by rfl
        simp only [filt_none, e, mSeq, mIfS, mRet, mDrop, mSet, mSetT, mSetL, mSetD, mFrz, mNext, mBk, mCt, mNever, mFor, mWhile, mVar, mC, mOp, mUn, mTru, mB, mOfT, mAnd, mOr, mNot, mIf, mAndV, mOrV, mNotV, mChain, mNil, mCons, mTup, mLst, mFz, mFzD, mDNew, mDGet, mDIn, mBlt, mBltL, mIsi, mNoO, mSomeO, mSl, mRg1, mRg2, mLstRg, mCall, mCallK, mItS, mItR, mItE, mLc, mLc2, mYes, mApp1, mExt, mPopW, mPopAtW, mSetIx, mDPut, mRf, mRfD, pE, pL, pD, mPs, mPar, putP, wE, bnd, pk, liftO, peek, dats, pks, getL, putLρ, putLM, getD, putDρ, putDM, argC, permL, slotA, outV, mFn, setTg, setTgs, gSeq, MO.look, MO.slot, truD, bolD, intD, Slot.own, noOwn, wipeS, capL, gAdd, DL.gSub, gMul, gDiv, gMod, gPow, gLt, gLe, gGt, gGe, gIs, gIsNot, gIx, gLen, gAbs, gMax2, gMin2, gInt, gList, gTuple, gNeg, gI0, gII, gSl, bodE, bodT, bodI, lcF, forGo, lim, Nat.zero_le, Nat.reduceLeDiff, List.map_cons, List.map_nil, List.cons_append, List.nil_append, List.append_nil, List.length_cons, List.length_nil, List.getElem?_cons_zero, List.getElem?_cons_succ, List.getElem?_nil, List.replicate_zero, List.replicate_succ, List.all_cons, List.all_nil, List.any_cons, List.any_nil, List.filterMap_cons, List.filterMap_nil, List.set_cons_zero, List.set_cons_succ, Bool.and_true, Bool.true_and, Bool.and_false, Bool.false_and, Bool.and_self, Bool.or_true, Bool.true_or, Bool.or_false, Bool.false_or, Bool.not_true, Bool.not_false, Nat.zero_add, Nat.add_zero, Nat.reduceAdd, Nat.reduceSub, Nat.reduceMul, Nat.reduceBEq, Nat.reduceEqDiff, Nat.reduceLT, Nat.sub_self, beq_self_eq_true, Option.map_some, Option.map_none, reduceIte, if_true, if_false, Bool.false_eq_true, decide_true, decide_false, reduceCtorEq, Int.reduceLE, Int.reduceLT, Int.reduceNeg, Int.reduceToNat, Int.reduceEq, Int.reducePow, Int.reduceDiv, Int.reduceAdd, Int.reduceSub, Int.reduceMul, true_and, and_true, List.isEmpty_nil, List.isEmpty_cons]
        rfl
      · intro k m
        obtain ⟨y, h1, h2⟩ := kk k m
        simp only [h1, h2, mSeq, mIfS, mRet, mDrop, mSet, mSetT, mSetL, mSetD, mFrz, mNext, mBk, mCt, mNever, mFor, mWhile, mVar, mC, mOp, mUn, mTru, mB, mOfT, mAnd, mOr, mNot, mIf, mAndV, mOrV, mNotV, mChain, mNil, mCons, mTup, mLst, mFz, mFzD, mDNew, mDGet, mDIn, mBlt, mBltL, mIsi, mNoO, mSomeO, mSl, mRg1, mRg2, mLstRg, mCall, mCallK, mItS, mItR, mItE, mLc, mLc2, mYes, mApp1, mExt, mPopW, mPopAtW, mSetIx, mDPut, mRf, mRfD, pE, pL, pD, mPs, mPar, putP, wE, bnd, pk, liftO, peek, dats, pks, getL, putLρ, putLM, getD, putDρ, putDM, argC, permL, slotA, outV, mFn, setTg, setTgs, gSeq, MO.look, MO.slot, truD, bolD, intD, Slot.own, noOwn, wipeS, capL, gAdd, DL.gSub, gMul, gDiv, gMod, gPow, gLt, gLe, gGt, gGe, gIs, gIsNot, gIx, gLen, gAbs, gMax2, gMin2, gInt, gList, gTuple, gNeg, gI0, gII, gSl, bodE, bodT, bodI, lcF, forGo, lim, Nat.zero_le, Nat.reduceLeDiff, List.map_cons, List.map_nil, List.cons_append, List.nil_append, List.append_nil, List.length_cons, List.length_nil, List.getElem?_cons_zero, List.getElem?_cons_succ, List.getElem?_nil, List.replicate_zero, List.replicate_succ, List.all_cons, List.all_nil, List.any_cons, List.any_nil, List.filterMap_cons, List.filterMap_nil, List.set_cons_zero, List.set_cons_succ, Bool.and_true, Bool.true_and, Bool.and_false, Bool.false_and, Bool.and_self, Bool.or_true, Bool.true_or, Bool.or_false, Bool.false_or, Bool.not_true, Bool.not_false, Nat.zero_add, Nat.add_zero, Nat.reduceAdd, Nat.reduceSub, Nat.reduceMul, Nat.reduceBEq, Nat.reduceEqDiff, Nat.reduceLT, Nat.sub_self, beq_self_eq_true, Option.map_some, Option.map_none, reduceIte, if_true, if_false, Bool.false_eq_true, decide_true, decide_false, reduceCtorEq, Int.reduceLE, Int.reduceLT, Int.reduceNeg, Int.reduceToNat, Int.reduceEq, Int.reducePow, Int.reduceDiv, Int.reduceAdd, Int.reduceSub, Int.reduceMul, true_and, and_true, List.isEmpty_nil, List.isEmpty_cons]
end K03
set_option Elab.async false
set_option linter.all false
set_option maxRecDepth 100000
set_option maxHeartbeats 4000000
namespace K03
open PySem L2 DL
/-! ### other rows -/
def nn (p : Nat × Nat) : D := .tuple [.int (p.1 : Int), .int (p.2 : Int)]
def rg (i n : Nat) : List Nat := (List.range (n - (i + 1))).map fun t => i + 1 + t
theorem rg_iL (i n : Nat) : rgD ((i : Int) + 1) (n : Int) = iL (rg i n) := by
  unfold rgD iL rg
  rw [show ((n : Int) - ((i : Int) + 1)).toNat = n - (i + 1) by omega, List.map_map]
  refine List.map_congr_left fun t _ => ?_
  show PyData.int ((i : Int) + 1 + (t : Int)) = .int (((i + 1 + t : Nat)) : Int)
  congr 1
theorem rg_mem {i n j : Nat} (h : j ∈ rg i n) : i < j ∧ j < n := by
  unfold rg at h
  obtain ⟨t, ht, rfl⟩ := List.mem_map.mp h
  have := List.mem_range.mp ht
  omega
theorem rg_len (i n : Nat) : (rg i n).length ≤ n := by
  unfold rg
  rw [List.length_map, List.length_range]
  omega
theorem lcF_filtG {bod : D → List MO → Res (List D)} {M : List MO} {p : Nat → Bool} {g : Nat → D} {is : List Nat} (h : ∀ k ∈ is, bod (.int (k : Int)) M = some (if p k = true then [g k] else [], M)) : lcF bod (iL is) M = some ((is.filter p).map g, M) := lcF_filt (e := nD) (g := g) h
def pairsOf (rs : List Row) (i : Nat) : List (Nat × Nat) := ((rg i rs.length).filter fun j => meet (at_ rs i) (at_ rs j)).map fun j => (i, j)
theorem okRg_of {a b : Int} (h : -1000000000000 ≤ a ∧ a ≤ 1000000000000 ∧ -1000000000000 ≤ b ∧ b ≤ 1000000000000) : okRg a b = true := decide_eq_true h
theorem itR {m : RM} {c : Call} {ρ : List DL.Slot} {M M1 : List MO} {a b : Int} (h : m c ρ M = some ((a, b), M1)) (o : okRg a b = true) : mItR m c ρ M = some (rgD a b, M1) := by
  unfold mItR bnd
  rw [h]
  show (if okRg a b = true then (fun _ _ M => some (rgD a b, M) : IM) else fun _ _ _ => none) c ρ M1 = _
  rw [if_pos o]
theorem lc_eq {mi : IM} {tg : Tg} {vs : List Nat} {mt : TM} {me : EM} {c : Call} {ρ : List DL.Slot} {M M1 : List MO} {items : List D} (h : mi c ρ M = some (items, M1)) (ho : noOwn ρ vs = true) : mLc mi tg vs mt me c ρ M = capL (lcF (bodT c tg mt (bodE c me) (wipeS ρ vs)) items M1) := by
  unfold mLc bnd
  rw [h]
  show (if noOwn ρ vs = true then _ else _) = _
  rw [if_pos ho]
theorem ext_eq {i : Nat} {m : LM} {c : Call} {ρ : List DL.Slot} {M M1 : List MO} {xs0 xs ys : List D} (h : getL ρ M i = some xs0) (h2 : m c ρ M = some (ys, M1)) (h3 : getL ρ M1 i = some xs) (hl : xs.length + ys.length ≤ lim) : mExt i m c ρ M = some (.nx, putLρ ρ i (xs ++ ys), putLM ρ M1 i (xs ++ ys)) := by
  unfold mExt
  rw [h, h2]
  show (match getL ρ M1 i with | some xs => if xs.length + ys.length ≤ lim then some (Out.nx, putLρ ρ i (xs ++ ys), putLM ρ M1 i (xs ++ ys)) else none | none => none) = _
  rw [h3]
  show (if xs.length + ys.length ≤ lim then _ else _) = _
  rw [if_pos hl]
theorem for_eq {mi : IM} {t : Tg} {b : SM} {c : Call} {ρ : List DL.Slot} {M M1 : List MO} {items : List D} (h : mi c ρ M = some (items, M1)) : mFor mi t b c ρ M = forGo t b c items ρ M1 := by
  unfold mFor
  rw [h]
theorem it24 {b : Nat} {M : List MO} {rs : List Row} (hl : rs.length ≤ 24) {i : Nat} (hi : i < rs.length) (c : Call) (s2 s4 s5 s6 : DL.Slot) :
    mItR (mRg2 (mOp gAdd (mVar 3) (mC (.int 1))) (mBlt gLen (mCons (mVar 1) mNil))) c [.r b, .d (rD rs), s2, .d (.int (i : Int)), s4, s5, s6] M = some (iL (rg i rs.length), M) := by
  have e1 : mRg2 (mOp gAdd (mVar 3) (mC (.int 1))) (mBlt gLen (mCons (mVar 1) mNil)) c [.r b, .d (rD rs), s2, .d (.int (i : Int)), s4, s5, s6] M = some (((i : Int) + 1, (rs.length : Int)), M) := by
    simp only [rD, List.length_map, mSeq, mIfS, mRet, mDrop, mSet, mSetT, mSetL, mSetD, mFrz, mNext, mBk, mCt, mNever, mFor, mWhile, mVar, mC, mOp, mUn, mTru, mB, mOfT, mAnd, mOr, mNot, mIf, mAndV, mOrV, mNotV, mChain, mNil, mCons, mTup, mLst, mFz, mFzD, mDNew, mDGet, mDIn, mBlt, mBltL, mIsi, mNoO, mSomeO, mSl, mRg1, mRg2, mLstRg, mCall, mCallK, mItS, mItR, mItE, mLc, mLc2, mYes, mApp1, mExt, mPopW, mPopAtW, mSetIx, mDPut, mRf, mRfD, pE, pL, pD, mPs, mPar, putP, wE, bnd, pk, liftO, peek, dats, pks, getL, putLρ, putLM, getD, putDρ, putDM, argC, permL, slotA, outV, mFn, setTg, setTgs, gSeq, MO.look, MO.slot, truD, bolD, intD, Slot.own, noOwn, wipeS, capL, gAdd, DL.gSub, gMul, gDiv, gMod, gPow, gLt, gLe, gGt, gGe, gIs, gIsNot, gIx, gLen, gAbs, gMax2, gMin2, gInt, gList, gTuple, gNeg, gI0, gII, gSl, bodE, bodT, bodI, lcF, forGo, lim, Nat.zero_le, Nat.reduceLeDiff, List.map_cons, List.map_nil, List.cons_append, List.nil_append, List.append_nil, List.length_cons, List.length_nil, List.getElem?_cons_zero, List.getElem?_cons_succ, List.getElem?_nil, List.replicate_zero, List.replicate_succ, List.all_cons, List.all_nil, List.any_cons, List.any_nil, List.filterMap_cons, List.filterMap_nil, List.set_cons_zero, List.set_cons_succ, Bool.and_true, Bool.true_and, Bool.and_false, Bool.false_and, Bool.and_self, Bool.or_true, Bool.true_or, Bool.or_false, Bool.false_or, Bool.not_true, Bool.not_false, Nat.zero_add, Nat.add_zero, Nat.reduceAdd, Nat.reduceSub, Nat.reduceMul, Nat.reduceBEq, Nat.reduceEqDiff, Nat.reduceLT, Nat.sub_self, beq_self_eq_true, Option.map_some, Option.map_none, reduceIte, if_true, if_false, Bool.false_eq_true, decide_true, decide_false, reduceCtorEq, Int.reduceLE, Int.reduceLT, Int.reduceNeg, Int.reduceToNat, Int.reduceEq, Int.reducePow, Int.reduceDiv, Int.reduceAdd, Int.reduceSub, Int.reduceMul, true_and, and_true, List.isEmpty_nil, List.isEmpty_cons]
  rw [itR e1 (okRg_of (by omega)), rg_iL]
theorem body24 {b : Nat} {M : List MO} {rs : List Row} (hl : rs.length ≤ 24) {ps : List (Nat × Nat)} {i : Nat} (hi : i < rs.length) (n : Nat) (s4 s5 s6 : DL.Slot) (h4 : s4.own = false) :
    mLc (mItR (mRg2 (mOp gAdd (mVar 3) (mC (.int 1))) (mBlt gLen (mCons (mVar 1) mNil)))) (.name 4) [4] (mTru (mCall 20 2 [] (mCons (mOp gIx (mVar 1) (mVar 3)) (mCons (mOp gIx (mVar 1) (mVar 4)) mNil)))) (mTup (mCons (mVar 3) (mCons (mVar 4) mNil))) (callN tab (n + 1)) [.r b, .d (rD rs), .ol (ps.map nn), .d (.int (i : Int)), s4, s5, s6] M = some (((rg i rs.length).filter fun j => meet (at_ rs i) (at_ rs j)).map fun j => nn (i, j), M) := by
  have e1 := row_at hi
  have hlen2 : (((rg i rs.length).filter fun j => meet (at_ rs i) (at_ rs j))).length ≤ 1000000 := by
    have h1 := List.length_filter_le (fun j => meet (at_ rs i) (at_ rs j)) (rg i rs.length)
    have h2 := rg_len i rs.length
    omega
  have hI := fun s2 => it24 (b := b) (M := M) hl hi (callN tab (n + 1)) s2 s4 s5 s6
  have ho : noOwn [.r b, .d (rD rs), .ol (ps.map nn), .d (.int (i : Int)), s4, s5, s6] [4] = true := by
    cases s4 with
    | ol xs => cases h4
    | od t xs => cases h4
    | _ => rfl
  rw [lc_eq (hI _) ho]
  · rw [lcF_filtG (p := fun j => meet (at_ rs i) (at_ rs j)) (g := fun j => nn (i, j))]
    · simp only [List.length_map, hlen2, mSeq, mIfS, mRet, mDrop, mSet, mSetT, mSetL, mSetD, mFrz, mNext, mBk, mCt, mNever, mFor, mWhile, mVar, mC, mOp, mUn, mTru, mB, mOfT, mAnd, mOr, mNot, mIf, mAndV, mOrV, mNotV, mChain, mNil, mCons, mTup, mLst, mFz, mFzD, mDNew, mDGet, mDIn, mBlt, mBltL, mIsi, mNoO, mSomeO, mSl, mRg1, mRg2, mLstRg, mCall, mCallK, mItS, mItR, mItE, mLc, mLc2, mYes, mApp1, mExt, mPopW, mPopAtW, mSetIx, mDPut, mRf, mRfD, pE, pL, pD, mPs, mPar, putP, wE, bnd, pk, liftO, peek, dats, pks, getL, putLρ, putLM, getD, putDρ, putDM, argC, permL, slotA, outV, mFn, setTg, setTgs, gSeq, MO.look, MO.slot, truD, bolD, intD, Slot.own, noOwn, wipeS, capL, gAdd, DL.gSub, gMul, gDiv, gMod, gPow, gLt, gLe, gGt, gGe, gIs, gIsNot, gIx, gLen, gAbs, gMax2, gMin2, gInt, gList, gTuple, gNeg, gI0, gII, gSl, bodE, bodT, bodI, lcF, forGo, lim, Nat.zero_le, Nat.reduceLeDiff, List.map_cons, List.map_nil, List.cons_append, List.nil_append, List.append_nil, List.length_cons, List.length_nil, List.getElem?_cons_zero, List.getElem?_cons_succ, List.getElem?_nil, List.replicate_zero, List.replicate_succ, List.all_cons, List.all_nil, List.any_cons, List.any_nil, List.filterMap_cons, List.filterMap_nil, List.set_cons_zero, List.set_cons_succ, Bool.and_true, Bool.true_and, Bool.and_false, Bool.false_and, Bool.and_self, Bool.or_true, Bool.true_or, Bool.or_false, Bool.false_or, Bool.not_true, Bool.not_false, Nat.zero_add, Nat.add_zero, Nat.reduceAdd, Nat.reduceSub, Nat.reduceMul, Nat.reduceBEq, Nat.reduceEqDiff, Nat.reduceLT, Nat.sub_self, beq_self_eq_true, Option.map_some, Option.map_none, reduceIte, if_true, if_false, Bool.false_eq_true, decide_true, decide_false, reduceCtorEq, Int.reduceLE, Int.reduceLT, Int.reduceNeg, Int.reduceToNat, Int.reduceEq, Int.reducePow, Int.reduceDiv, Int.reduceAdd, Int.reduceSub, Int.reduceMul, true_and, and_true, List.isEmpty_nil, List.isEmpty_cons]
    · intro j mj
      have e2 := row_at (rg_mem mj).2
      simp only [rD, e1, e2, r20, mSeq, mIfS, mRet, mDrop, mSet, mSetT, mSetL, mSetD, mFrz, mNext, mBk, mCt, mNever, mFor, mWhile, mVar, mC, mOp, mUn, mTru, mB, mOfT, mAnd, mOr, mNot, mIf, mAndV, mOrV, mNotV, mChain, mNil, mCons, mTup, mLst, mFz, mFzD, mDNew, mDGet, mDIn, mBlt, mBltL, mIsi, mNoO, mSomeO, mSl, mRg1, mRg2, mLstRg, mCall, mCallK, mItS, mItR, mItE, mLc, mLc2, mYes, mApp1, mExt, mPopW, mPopAtW, mSetIx, mDPut, mRf, mRfD, pE, pL, pD, mPs, mPar, putP, wE, bnd, pk, liftO, peek, dats, pks, getL, putLρ, putLM, getD, putDρ, putDM, argC, permL, slotA, outV, mFn, setTg, setTgs, gSeq, MO.look, MO.slot, truD, bolD, intD, Slot.own, noOwn, wipeS, capL, gAdd, DL.gSub, gMul, gDiv, gMod, gPow, gLt, gLe, gGt, gGe, gIs, gIsNot, gIx, gLen, gAbs, gMax2, gMin2, gInt, gList, gTuple, gNeg, gI0, gII, gSl, bodE, bodT, bodI, lcF, forGo, lim, Nat.zero_le, Nat.reduceLeDiff, List.map_cons, List.map_nil, List.cons_append, List.nil_append, List.append_nil, List.length_cons, List.length_nil, List.getElem?_cons_zero, List.getElem?_cons_succ, List.getElem?_nil, List.replicate_zero, List.replicate_succ, List.all_cons, List.all_nil, List.any_cons, List.any_nil, List.filterMap_cons, List.filterMap_nil, List.set_cons_zero, List.set_cons_succ, Bool.and_true, Bool.true_and, Bool.and_false, Bool.false_and, Bool.and_self, Bool.or_true, Bool.true_or, Bool.or_false, Bool.false_or, Bool.not_true, Bool.not_false, Nat.zero_add, Nat.add_zero, Nat.reduceAdd, Nat.reduceSub, Nat.reduceMul, Nat.reduceBEq, Nat.reduceEqDiff, Nat.reduceLT, Nat.sub_self, beq_self_eq_true, Option.map_some, Option.map_none, reduceIte, if_true, if_false, Bool.false_eq_true, decide_true, decide_false, reduceCtorEq, Int.reduceLE, Int.reduceLT, Int.reduceNeg, Int.reduceToNat, Int.reduceEq, Int.reducePow, Int.reduceDiv, Int.reduceAdd, Int.reduceSub, Int.reduceMul, true_and, and_true, List.isEmpty_nil, List.isEmpty_cons]
      by_cases h : meet (at_ rs i) (at_ rs j) = true
      · simp only [h, mSeq, mIfS, mRet, mDrop, mSet, mSetT, mSetL, mSetD, mFrz, mNext, mBk, mCt, mNever, mFor, mWhile, mVar, mC, mOp, mUn, mTru, mB, mOfT, mAnd, mOr, mNot, mIf, mAndV, mOrV, mNotV, mChain, mNil, mCons, mTup, mLst, mFz, mFzD, mDNew, mDGet, mDIn, mBlt, mBltL, mIsi, mNoO, mSomeO, mSl, mRg1, mRg2, mLstRg, mCall, mCallK, mItS, mItR, mItE, mLc, mLc2, mYes, mApp1, mExt, mPopW, mPopAtW, mSetIx, mDPut, mRf, mRfD, pE, pL, pD, mPs, mPar, putP, wE, bnd, pk, liftO, peek, dats, pks, getL, putLρ, putLM, getD, putDρ, putDM, argC, permL, slotA, outV, mFn, setTg, setTgs, gSeq, MO.look, MO.slot, truD, bolD, intD, Slot.own, noOwn, wipeS, capL, gAdd, DL.gSub, gMul, gDiv, gMod, gPow, gLt, gLe, gGt, gGe, gIs, gIsNot, gIx, gLen, gAbs, gMax2, gMin2, gInt, gList, gTuple, gNeg, gI0, gII, gSl, bodE, bodT, bodI, lcF, forGo, lim, Nat.zero_le, Nat.reduceLeDiff, List.map_cons, List.map_nil, List.cons_append, List.nil_append, List.append_nil, List.length_cons, List.length_nil, List.getElem?_cons_zero, List.getElem?_cons_succ, List.getElem?_nil, List.replicate_zero, List.replicate_succ, List.all_cons, List.all_nil, List.any_cons, List.any_nil, List.filterMap_cons, List.filterMap_nil, List.set_cons_zero, List.set_cons_succ, Bool.and_true, Bool.true_and, Bool.and_false, Bool.false_and, Bool.and_self, Bool.or_true, Bool.true_or, Bool.or_false, Bool.false_or, Bool.not_true, Bool.not_false, Nat.zero_add, Nat.add_zero, Nat.reduceAdd, Nat.reduceSub, Nat.reduceMul, Nat.reduceBEq, Nat.reduceEqDiff, Nat.reduceLT, Nat.sub_self, beq_self_eq_true, Option.map_some, Option.map_none, reduceIte, if_true, if_false, Bool.false_eq_true, decide_true, decide_false, reduceCtorEq, Int.reduceLE, Int.reduceLT, Int.reduceNeg, Int.reduceToNat, Int.reduceEq, Int.reducePow, Int.reduceDiv, Int.reduceAdd, Int.reduceSub, Int.reduceMul, true_and, and_true, List.isEmpty_nil, List.isEmpty_cons]
        rfl
      · rw [Bool.not_eq_true] at h
        simp only [h, mSeq, mIfS, mRet, mDrop, mSet, mSetT, mSetL, mSetD, mFrz, mNext, mBk, mCt, mNever, mFor, mWhile, mVar, mC, mOp, mUn, mTru, mB, mOfT, mAnd, mOr, mNot, mIf, mAndV, mOrV, mNotV, mChain, mNil, mCons, mTup, mLst, mFz, mFzD, mDNew, mDGet, mDIn, mBlt, mBltL, mIsi, mNoO, mSomeO, mSl, mRg1, mRg2, mLstRg, mCall, mCallK, mItS, mItR, mItE, mLc, mLc2, mYes, mApp1, mExt, mPopW, mPopAtW, mSetIx, mDPut, mRf, mRfD, pE, pL, pD, mPs, mPar, putP, wE, bnd, pk, liftO, peek, dats, pks, getL, putLρ, putLM, getD, putDρ, putDM, argC, permL, slotA, outV, mFn, setTg, setTgs, gSeq, MO.look, MO.slot, truD, bolD, intD, Slot.own, noOwn, wipeS, capL, gAdd, DL.gSub, gMul, gDiv, gMod, gPow, gLt, gLe, gGt, gGe, gIs, gIsNot, gIx, gLen, gAbs, gMax2, gMin2, gInt, gList, gTuple, gNeg, gI0, gII, gSl, bodE, bodT, bodI, lcF, forGo, lim, Nat.zero_le, Nat.reduceLeDiff, List.map_cons, List.map_nil, List.cons_append, List.nil_append, List.append_nil, List.length_cons, List.length_nil, List.getElem?_cons_zero, List.getElem?_cons_succ, List.getElem?_nil, List.replicate_zero, List.replicate_succ, List.all_cons, List.all_nil, List.any_cons, List.any_nil, List.filterMap_cons, List.filterMap_nil, List.set_cons_zero, List.set_cons_succ, Bool.and_true, Bool.true_and, Bool.and_false, Bool.false_and, Bool.and_self, Bool.or_true, Bool.true_or, Bool.or_false, Bool.false_or, Bool.not_true, Bool.not_false, Nat.zero_add, Nat.add_zero, Nat.reduceAdd, Nat.reduceSub, Nat.reduceMul, Nat.reduceBEq, Nat.reduceEqDiff, Nat.reduceLT, Nat.sub_self, beq_self_eq_true, Option.map_some, Option.map_none, reduceIte, if_true, if_false, Bool.false_eq_true, decide_true, decide_false, reduceCtorEq, Int.reduceLE, Int.reduceLT, Int.reduceNeg, Int.reduceToNat, Int.reduceEq, Int.reducePow, Int.reduceDiv, Int.reduceAdd, Int.reduceSub, Int.reduceMul, true_and, and_true, List.isEmpty_nil, List.isEmpty_cons]
theorem turn24 {b : Nat} {M : List MO} {rs : List Row} (hl : rs.length ≤ 24) {ps : List (Nat × Nat)} (hp : ps.length ≤ 24 * 24) {i : Nat} (hi : i < rs.length) (n : Nat) (s4 s5 s6 : DL.Slot) (h4 : s4.own = false) :
    F24_0 (callN tab (n + 1)) [.r b, .d (rD rs), .ol (ps.map nn), .d (.int (i : Int)), s4, s5, s6] M = some (.nx, [.r b, .d (rD rs), .ol ((ps ++ pairsOf rs i).map nn), .d (.int (i : Int)), s4, s5, s6], M) := by
  have hlen : (((rg i rs.length).filter fun j => meet (at_ rs i) (at_ rs j)).map fun j => nn (i, j)).length ≤ 24 := by
    rw [List.length_map]
    have h1 := List.length_filter_le (fun j => meet (at_ rs i) (at_ rs j)) (rg i rs.length)
    have h2 := rg_len i rs.length
    omega
  have hlen2 : (((rg i rs.length).filter fun j => meet (at_ rs i) (at_ rs j)).map fun j => nn (i, j)).length ≤ 1000000 := by omega
  have hlen3 : ps.length + (((rg i rs.length).filter fun j => meet (at_ rs i) (at_ rs j)).map fun j => nn (i, j)).length ≤ 1000000 := by omega
  have efin : (ps.map nn ++ ((rg i rs.length).filter fun j => meet (at_ rs i) (at_ rs j)).map fun j => nn (i, j)) = (ps ++ pairsOf rs i).map nn := by
    rw [List.map_append]
    unfold pairsOf
    rw [List.map_map]
    rfl
  rw [← efin]
  unfold F24_0
  rw [ext_eq (i := 2) rfl (body24 hl hi n s4 s5 s6 h4) rfl (by rw [List.length_map]; exact Nat.le_trans hlen3 (Nat.le_refl _))]
  rfl
end K03
set_option Elab.async false
set_option linter.all false
set_option maxRecDepth 100000
set_option maxHeartbeats 4000000
/-! k03: other rows -/
namespace K03
open PySem L2 DL
theorem pairs_len (rs : List Row) (i : Nat) : (pairsOf rs i).length ≤ rs.length := by
  unfold pairsOf
  rw [List.length_map]
  exact Nat.le_trans (List.length_filter_le _ _) (rg_len i rs.length)
theorem pairs_mem {rs : List Row} {i : Nat} {p : Nat × Nat} (hi : i < rs.length) (h : p ∈ pairsOf rs i) : p.1 < rs.length ∧ p.2 < rs.length ∧ p.1 < p.2 ∧ meet (at_ rs p.1) (at_ rs p.2) = true := by
  unfold pairsOf at h
  obtain ⟨j, hj, rfl⟩ := List.mem_map.mp h
  obtain ⟨h1, h2⟩ := List.mem_filter.mp hj
  have := rg_mem h1
  exact ⟨hi, this.2, this.1, h2⟩
theorem loop24 {b : Nat} {M : List MO} {rs : List Row} (hl : rs.length ≤ 24) (n : Nat) (s4 s5 s6 : DL.Slot) (h4 : s4.own = false) : ∀ (is : List Nat) (ps : List (Nat × Nat)) (s3 : DL.Slot), (∀ k ∈ is, k < rs.length) → ps.length + 24 * is.length ≤ 24 * 24 →
    ∃ s3', forGo (.name 3) F24_0 (callN tab (n + 1)) (iL is) [.r b, .d (rD rs), .ol (ps.map nn), s3, s4, s5, s6] M = some (.nx, [.r b, .d (rD rs), .ol ((ps ++ is.flatMap (pairsOf rs)).map nn), s3', s4, s5, s6], M) := by
  intro is
  induction is with
  | nil =>
    intro ps s3 hk hp
    exact ⟨s3, by rw [List.flatMap_nil, List.append_nil]; rfl⟩
  | cons i is ih =>
    intro ps s3 hk hp
    rw [List.length_cons] at hp
    have hi := hk i List.mem_cons_self
    have pl := pairs_len rs i
    obtain ⟨s3', e⟩ := ih (ps ++ pairsOf rs i) (.d (.int (i : Int))) (fun k m => hk k (List.mem_cons_of_mem _ m)) (by rw [List.length_append]; omega)
    refine ⟨s3', ?_⟩
    show forGo (.name 3) F24_0 (callN tab (n + 1)) (nD i :: iL is) _ M = _
    rw [for_nx (ρ1 := [.r b, .d (rD rs), .ol (ps.map nn), .d (.int (i : Int)), s4, s5, s6]) rfl (turn24 hl (by omega) hi n s4 s5 s6 h4), e, List.flatMap_cons, List.append_assoc]
theorem nn_ok (ps : List (Nat × Nat)) : okD (.list (ps.map nn)) = true := okD_list (k := 2) (fun d m => by
  obtain ⟨p, _, rfl⟩ := List.mem_map.mp m
  refine ⟨rfl, ?_⟩
  simp [nn, PyData.depth, PyData.depthAll]) (by decide)
/-- the rows with two ends exchanged -/
def exch (rs : List Row) (i j : Nat) : List Row := rs.mapIdx fun k r => if k = i then ((at_ rs i).1, (at_ rs j).2) else if k = j then ((at_ rs j).1, (at_ rs i).2) else r
theorem exch_ok {rs : List Row} (hr : OkR rs) {i j : Nat} (hi : i < rs.length) (hj : j < rs.length) (hm : meet (at_ rs i) (at_ rs j) = true) : OkR (exch rs i j) := by
  refine ⟨by unfold exch; rw [List.length_mapIdx]; exact hr.len, fun p mp => ?_⟩
  unfold exch at mp
  obtain ⟨k, hk, e⟩ := List.mem_iff_getElem.mp mp
  rw [List.getElem_mapIdx] at e
  have o1 := hr.ok _ (at_mem hi)
  have o2 := hr.ok _ (at_mem hj)
  unfold meet at hm
  simp only [decide_eq_true_eq] at hm
  have hm1 : (at_ rs i).1 < (at_ rs j).2 ∧ (at_ rs j).1 < (at_ rs i).2 := by
    split at hm <;> split at hm <;> omega
  split at e
  · subst e
    exact ⟨o1.1, hm1.1, o2.2.2⟩
  · split at e
    · subst e
      exact ⟨o2.1, hm1.2, o1.2.2⟩
    · subst e
      exact hr.ok _ (List.getElem_mem _)
end K03
set_option Elab.async false
set_option linter.all false
set_option maxRecDepth 100000
set_option maxHeartbeats 4000000
/-! k03: other rows, the def -/
namespace K03
open PySem L2 DL
theorem enum_eq (rs : List Row) : enumD (rs.map pr) = (all_ rs.length).map fun k => .tuple [.int ((k : Nat) : Int), pr (at_ rs k)] := by
  refine List.ext_getElem (by simp [enumD, all_]) fun k h1 h2 => ?_
  have hk : k < rs.length := by simpa [all_] using h2
  simp only [enumD, List.getElem_mapIdx, List.getElem_map, all_, List.getElem_range]
  rw [at_get hk]
theorem exch_eq (rs : List Row) (i j : Nat) : exch rs i j = (all_ rs.length).map fun k => if k = i then ((at_ rs i).1, (at_ rs j).2) else if k = j then ((at_ rs j).1, (at_ rs i).2) else at_ rs k := by
  refine List.ext_getElem (by simp [exch, all_]) fun k h1 h2 => ?_
  have hk : k < rs.length := by simpa [all_] using h2
  simp only [exch, List.getElem_mapIdx, List.getElem_map, all_, List.getElem_range]
  rw [at_get hk]
theorem at24 {n : Nat} {as : List Vl} {M : List MO} : callN tab (n + 1) 24 as M = mFn N24.length B24 (callN tab n) as M := rfl
/-- mixed -/
theorem mix24 {b u : Nat} {M : List MO} (hB : Bx M b u) (hu : u ≤ 80000) {rs : List Row} (hr : OkR rs) (n : Nat) (s2 s3 : DL.Slot) : ∃ (l : List Nat) (M' : List MO), OkR (l.map (at_ rs)) ∧ Bx M' b (u + 24) ∧
    mRet (mBlt gTuple (mCons (mFz (mLc (mItS (mCall 15 2 [] (mCons (mVar 0) (mCons (mBlt gLen (mCons (mVar 1) mNil)) mNil)))) (.name 5) [5] mYes (mOp gIx (mVar 1) (mVar 5)))) mNil)) (callN tab (n + 2)) [.r b, .d (rD rs), s2, s3, .un, .un, .un] M = some (.rt (.d (rD (l.map (at_ rs)))), [.r b, .d (rD rs), s2, s3, .un, .un, .un], M') := by
  have hl := hr.len
  obtain ⟨l, M', q, hp, B'⟩ := r15 (m := rs.length) hB (by omega) (by omega) n
  have hlm : ∀ k ∈ l, k < rs.length := fun k m => all_lt (hp.mem_iff.mp m)
  have hll : l.length = rs.length := by rw [hp.length_eq, all_len]
  refine ⟨l, M', ⟨by rw [List.length_map, hll]; exact hl, fun p mp => ?_⟩, B'.mono (by omega), ?_⟩
  · obtain ⟨k, mk, rfl⟩ := List.mem_map.mp mp
    exact hr.ok _ (at_mem (hlm k mk))
  · have hw : ∀ k ∈ l, atI (rs.map pr) (k : Int) = some (pr (at_ rs k)) := fun k m => row_at (hlm k m)
    have hlx : (l.map fun k => pr (at_ rs k)).length ≤ 1000000 := by rw [List.length_map]; omega
    simp only [rD, List.length_map, q, mSeq, mIfS, mRet, mDrop, mSet, mSetT, mSetL, mSetD, mFrz, mNext, mBk, mCt, mNever, mFor, mWhile, mVar, mC, mOp, mUn, mTru, mB, mOfT, mAnd, mOr, mNot, mIf, mAndV, mOrV, mNotV, mChain, mNil, mCons, mTup, mLst, mFz, mFzD, mDNew, mDGet, mDIn, mBlt, mBltL, mIsi, mNoO, mSomeO, mSl, mRg1, mRg2, mLstRg, mCall, mCallK, mItS, mItR, mItE, mLc, mLc2, mYes, mApp1, mExt, mPopW, mPopAtW, mSetIx, mDPut, mRf, mRfD, pE, pL, pD, mPs, mPar, putP, wE, bnd, pk, liftO, peek, dats, pks, getL, putLρ, putLM, getD, putDρ, putDM, argC, permL, slotA, outV, mFn, setTg, setTgs, gSeq, MO.look, MO.slot, truD, bolD, intD, Slot.own, noOwn, wipeS, capL, gAdd, DL.gSub, gMul, gDiv, gMod, gPow, gLt, gLe, gGt, gGe, gIs, gIsNot, gIx, gLen, gAbs, gMax2, gMin2, gInt, gList, gTuple, gNeg, gI0, gII, gSl, bodE, bodT, bodI, lcF, forGo, lim, Nat.zero_le, Nat.reduceLeDiff, List.map_cons, List.map_nil, List.cons_append, List.nil_append, List.append_nil, List.length_cons, List.length_nil, List.getElem?_cons_zero, List.getElem?_cons_succ, List.getElem?_nil, List.replicate_zero, List.replicate_succ, List.all_cons, List.all_nil, List.any_cons, List.any_nil, List.filterMap_cons, List.filterMap_nil, List.set_cons_zero, List.set_cons_succ, Bool.and_true, Bool.true_and, Bool.and_false, Bool.false_and, Bool.and_self, Bool.or_true, Bool.true_or, Bool.or_false, Bool.false_or, Bool.not_true, Bool.not_false, Nat.zero_add, Nat.add_zero, Nat.reduceAdd, Nat.reduceSub, Nat.reduceMul, Nat.reduceBEq, Nat.reduceEqDiff, Nat.reduceLT, Nat.sub_self, beq_self_eq_true, Option.map_some, Option.map_none, reduceIte, if_true, if_false, Bool.false_eq_true, decide_true, decide_false, reduceCtorEq, Int.reduceLE, Int.reduceLT, Int.reduceNeg, Int.reduceToNat, Int.reduceEq, Int.reducePow, Int.reduceDiv, Int.reduceAdd, Int.reduceSub, Int.reduceMul, true_and, and_true, List.isEmpty_nil, List.isEmpty_cons]
    rw [lcF_mapN (g := fun k => pr (at_ rs k))]
    · simp only [hlx, mSeq, mIfS, mRet, mDrop, mSet, mSetT, mSetL, mSetD, mFrz, mNext, mBk, mCt, mNever, mFor, mWhile, mVar, mC, mOp, mUn, mTru, mB, mOfT, mAnd, mOr, mNot, mIf, mAndV, mOrV, mNotV, mChain, mNil, mCons, mTup, mLst, mFz, mFzD, mDNew, mDGet, mDIn, mBlt, mBltL, mIsi, mNoO, mSomeO, mSl, mRg1, mRg2, mLstRg, mCall, mCallK, mItS, mItR, mItE, mLc, mLc2, mYes, mApp1, mExt, mPopW, mPopAtW, mSetIx, mDPut, mRf, mRfD, pE, pL, pD, mPs, mPar, putP, wE, bnd, pk, liftO, peek, dats, pks, getL, putLρ, putLM, getD, putDρ, putDM, argC, permL, slotA, outV, mFn, setTg, setTgs, gSeq, MO.look, MO.slot, truD, bolD, intD, Slot.own, noOwn, wipeS, capL, gAdd, DL.gSub, gMul, gDiv, gMod, gPow, gLt, gLe, gGt, gGe, gIs, gIsNot, gIx, gLen, gAbs, gMax2, gMin2, gInt, gList, gTuple, gNeg, gI0, gII, gSl, bodE, bodT, bodI, lcF, forGo, lim, Nat.zero_le, Nat.reduceLeDiff, List.map_cons, List.map_nil, List.cons_append, List.nil_append, List.append_nil, List.length_cons, List.length_nil, List.getElem?_cons_zero, List.getElem?_cons_succ, List.getElem?_nil, List.replicate_zero, List.replicate_succ, List.all_cons, List.all_nil, List.any_cons, List.any_nil, List.filterMap_cons, List.filterMap_nil, List.set_cons_zero, List.set_cons_succ, Bool.and_true, Bool.true_and, Bool.and_false, Bool.false_and, Bool.and_self, Bool.or_true, Bool.true_or, Bool.or_false, Bool.false_or, Bool.not_true, Bool.not_false, Nat.zero_add, Nat.add_zero, Nat.reduceAdd, Nat.reduceSub, Nat.reduceMul, Nat.reduceBEq, Nat.reduceEqDiff, Nat.reduceLT, Nat.sub_self, beq_self_eq_true, Option.map_some, Option.map_none, reduceIte, if_true, if_false, Bool.false_eq_true, decide_true, decide_false, reduceCtorEq, Int.reduceLE, Int.reduceLT, Int.reduceNeg, Int.reduceToNat, Int.reduceEq, Int.reducePow, Int.reduceDiv, Int.reduceAdd, Int.reduceSub, Int.reduceMul, true_and, and_true, List.isEmpty_nil, List.isEmpty_cons]
      rw [List.map_map]
      rfl
    · intro k mk
      simp only [hw k mk, mSeq, mIfS, mRet, mDrop, mSet, mSetT, mSetL, mSetD, mFrz, mNext, mBk, mCt, mNever, mFor, mWhile, mVar, mC, mOp, mUn, mTru, mB, mOfT, mAnd, mOr, mNot, mIf, mAndV, mOrV, mNotV, mChain, mNil, mCons, mTup, mLst, mFz, mFzD, mDNew, mDGet, mDIn, mBlt, mBltL, mIsi, mNoO, mSomeO, mSl, mRg1, mRg2, mLstRg, mCall, mCallK, mItS, mItR, mItE, mLc, mLc2, mYes, mApp1, mExt, mPopW, mPopAtW, mSetIx, mDPut, mRf, mRfD, pE, pL, pD, mPs, mPar, putP, wE, bnd, pk, liftO, peek, dats, pks, getL, putLρ, putLM, getD, putDρ, putDM, argC, permL, slotA, outV, mFn, setTg, setTgs, gSeq, MO.look, MO.slot, truD, bolD, intD, Slot.own, noOwn, wipeS, capL, gAdd, DL.gSub, gMul, gDiv, gMod, gPow, gLt, gLe, gGt, gGe, gIs, gIsNot, gIx, gLen, gAbs, gMax2, gMin2, gInt, gList, gTuple, gNeg, gI0, gII, gSl, bodE, bodT, bodI, lcF, forGo, lim, Nat.zero_le, Nat.reduceLeDiff, List.map_cons, List.map_nil, List.cons_append, List.nil_append, List.append_nil, List.length_cons, List.length_nil, List.getElem?_cons_zero, List.getElem?_cons_succ, List.getElem?_nil, List.replicate_zero, List.replicate_succ, List.all_cons, List.all_nil, List.any_cons, List.any_nil, List.filterMap_cons, List.filterMap_nil, List.set_cons_zero, List.set_cons_succ, Bool.and_true, Bool.true_and, Bool.and_false, Bool.false_and, Bool.and_self, Bool.or_true, Bool.true_or, Bool.or_false, Bool.false_or, Bool.not_true, Bool.not_false, Nat.zero_add, Nat.add_zero, Nat.reduceAdd, Nat.reduceSub, Nat.reduceMul, Nat.reduceBEq, Nat.reduceEqDiff, Nat.reduceLT, Nat.sub_self, beq_self_eq_true, Option.map_some, Option.map_none, reduceIte, if_true, if_false, Bool.false_eq_true, decide_true, decide_false, reduceCtorEq, Int.reduceLE, Int.reduceLT, Int.reduceNeg, Int.reduceToNat, Int.reduceEq, Int.reducePow, Int.reduceDiv, Int.reduceAdd, Int.reduceSub, Int.reduceMul, true_and, and_true, List.isEmpty_nil, List.isEmpty_cons]
theorem r24 {b u : Nat} {M : List MO} (hB : Bx M b u) (hu : u ≤ 70000) {rs : List Row} (hr : OkR rs) (n : Nat) : ∃ (rs' : List Row) (M' : List MO), callN tab (n + 3) 24 [.r b, .d (rD rs)] M = some (.d (rD rs'), M') ∧ OkR rs' ∧ Bx M' b (u + 30) := by
  have hl := hr.len
  generalize hps : (all_ rs.length).flatMap (pairsOf rs) = ps
  obtain ⟨s3, e3⟩ := loop24 (b := b) (M := M) hl (n + 1) .un .un .un rfl (all_ rs.length) [] .un (fun k m => all_lt m) (by rw [all_len]; simp only [List.length_nil]; omega)
  rw [List.nil_append, hps, List.map_nil] at e3
  have hl3 : okRg 0 (rs.length : Int) = true := okRg0 (by omega)
  have s1 : mSetL 2 (mLst mNil) (callN tab (n + 2)) [.r b, .d (rD rs), .un, .un, .un, .un, .un] M = some (.nx, [.r b, .d (rD rs), .ol [], .un, .un, .un, .un], M) := by simp only [mSeq, mIfS, mRet, mDrop, mSet, mSetT, mSetL, mSetD, mFrz, mNext, mBk, mCt, mNever, mFor, mWhile, mVar, mC, mOp, mUn, mTru, mB, mOfT, mAnd, mOr, mNot, mIf, mAndV, mOrV, mNotV, mChain, mNil, mCons, mTup, mLst, mFz, mFzD, mDNew, mDGet, mDIn, mBlt, mBltL, mIsi, mNoO, mSomeO, mSl, mRg1, mRg2, mLstRg, mCall, mCallK, mItS, mItR, mItE, mLc, mLc2, mYes, mApp1, mExt, mPopW, mPopAtW, mSetIx, mDPut, mRf, mRfD, pE, pL, pD, mPs, mPar, putP, wE, bnd, pk, liftO, peek, dats, pks, getL, putLρ, putLM, getD, putDρ, putDM, argC, permL, slotA, outV, mFn, setTg, setTgs, gSeq, MO.look, MO.slot, truD, bolD, intD, Slot.own, noOwn, wipeS, capL, gAdd, DL.gSub, gMul, gDiv, gMod, gPow, gLt, gLe, gGt, gGe, gIs, gIsNot, gIx, gLen, gAbs, gMax2, gMin2, gInt, gList, gTuple, gNeg, gI0, gII, gSl, bodE, bodT, bodI, lcF, forGo, lim, Nat.zero_le, Nat.reduceLeDiff, List.map_cons, List.map_nil, List.cons_append, List.nil_append, List.append_nil, List.length_cons, List.length_nil, List.getElem?_cons_zero, List.getElem?_cons_succ, List.getElem?_nil, List.replicate_zero, List.replicate_succ, List.all_cons, List.all_nil, List.any_cons, List.any_nil, List.filterMap_cons, List.filterMap_nil, List.set_cons_zero, List.set_cons_succ, Bool.and_true, Bool.true_and, Bool.and_false, Bool.false_and, Bool.and_self, Bool.or_true, Bool.true_or, Bool.or_false, Bool.false_or, Bool.not_true, Bool.not_false, Nat.zero_add, Nat.add_zero, Nat.reduceAdd, Nat.reduceSub, Nat.reduceMul, Nat.reduceBEq, Nat.reduceEqDiff, Nat.reduceLT, Nat.sub_self, beq_self_eq_true, Option.map_some, Option.map_none, reduceIte, if_true, if_false, Bool.false_eq_true, decide_true, decide_false, reduceCtorEq, Int.reduceLE, Int.reduceLT, Int.reduceNeg, Int.reduceToNat, Int.reduceEq, Int.reducePow, Int.reduceDiv, Int.reduceAdd, Int.reduceSub, Int.reduceMul, true_and, and_true, List.isEmpty_nil, List.isEmpty_cons]
  have it : mItR (mRg1 (mBlt gLen (mCons (mVar 1) mNil))) (callN tab (n + 2)) [.r b, .d (rD rs), .ol [], .un, .un, .un, .un] M = some (iL (all_ rs.length), M) := by
    rw [itR (a := 0) (b := (rs.length : Int)) (M1 := M) (by simp only [rD, List.length_map, mSeq, mIfS, mRet, mDrop, mSet, mSetT, mSetL, mSetD, mFrz, mNext, mBk, mCt, mNever, mFor, mWhile, mVar, mC, mOp, mUn, mTru, mB, mOfT, mAnd, mOr, mNot, mIf, mAndV, mOrV, mNotV, mChain, mNil, mCons, mTup, mLst, mFz, mFzD, mDNew, mDGet, mDIn, mBlt, mBltL, mIsi, mNoO, mSomeO, mSl, mRg1, mRg2, mLstRg, mCall, mCallK, mItS, mItR, mItE, mLc, mLc2, mYes, mApp1, mExt, mPopW, mPopAtW, mSetIx, mDPut, mRf, mRfD, pE, pL, pD, mPs, mPar, putP, wE, bnd, pk, liftO, peek, dats, pks, getL, putLρ, putLM, getD, putDρ, putDM, argC, permL, slotA, outV, mFn, setTg, setTgs, gSeq, MO.look, MO.slot, truD, bolD, intD, Slot.own, noOwn, wipeS, capL, gAdd, DL.gSub, gMul, gDiv, gMod, gPow, gLt, gLe, gGt, gGe, gIs, gIsNot, gIx, gLen, gAbs, gMax2, gMin2, gInt, gList, gTuple, gNeg, gI0, gII, gSl, bodE, bodT, bodI, lcF, forGo, lim, Nat.zero_le, Nat.reduceLeDiff, List.map_cons, List.map_nil, List.cons_append, List.nil_append, List.append_nil, List.length_cons, List.length_nil, List.getElem?_cons_zero, List.getElem?_cons_succ, List.getElem?_nil, List.replicate_zero, List.replicate_succ, List.all_cons, List.all_nil, List.any_cons, List.any_nil, List.filterMap_cons, List.filterMap_nil, List.set_cons_zero, List.set_cons_succ, Bool.and_true, Bool.true_and, Bool.and_false, Bool.false_and, Bool.and_self, Bool.or_true, Bool.true_or, Bool.or_false, Bool.false_or, Bool.not_true, Bool.not_false, Nat.zero_add, Nat.add_zero, Nat.reduceAdd, Nat.reduceSub, Nat.reduceMul, Nat.reduceBEq, Nat.reduceEqDiff, Nat.reduceLT, Nat.sub_self, beq_self_eq_true, Option.map_some, Option.map_none, reduceIte, if_true, if_false, Bool.false_eq_true, decide_true, decide_false, reduceCtorEq, Int.reduceLE, Int.reduceLT, Int.reduceNeg, Int.reduceToNat, Int.reduceEq, Int.reducePow, Int.reduceDiv, Int.reduceAdd, Int.reduceSub, Int.reduceMul, true_and, and_true, List.isEmpty_nil, List.isEmpty_cons]) hl3, rg_all]
  have s2 : mFor (mItR (mRg1 (mBlt gLen (mCons (mVar 1) mNil)))) (.name 3) F24_0 (callN tab (n + 2)) [.r b, .d (rD rs), .ol [], .un, .un, .un, .un] M = some (.nx, [.r b, .d (rD rs), .ol (ps.map nn), s3, .un, .un, .un], M) := by
    rw [for_eq it]
    exact e3
  have hmem : ∀ p ∈ ps, p.1 < rs.length ∧ p.2 < rs.length ∧ p.1 < p.2 ∧ meet (at_ rs p.1) (at_ rs p.2) = true := fun p mp => by
    rw [← hps] at mp
    obtain ⟨i, hi, hp⟩ := List.mem_flatMap.mp mp
    exact pairs_mem (all_lt hi) hp
  have hpl : ps.length ≤ 24 * 24 := by
    rw [← hps]
    have : ∀ is : List Nat, (is.flatMap (pairsOf rs)).length ≤ rs.length * is.length := fun is => by
      induction is with
      | nil => exact Nat.zero_le _
      | cons i is ih =>
        rw [List.flatMap_cons, List.length_append, List.length_cons, Nat.mul_succ]
        have := pairs_len rs i
        omega
    have h := this (all_ rs.length)
    rw [all_len] at h
    exact Nat.le_trans h (Nat.mul_le_mul hl hl)
  have fin : ∀ {x : D} {ρ' : List DL.Slot} {M' : List MO}, B24 (callN tab (n + 2)) [.r b, .d (rD rs), .un, .un, .un, .un, .un] M = some (.rt (.d x), ρ', M') → callN tab (n + 3) 24 [.r b, .d (rD rs)] M = some (.d x, M') := fun {x ρ' M'} e => by
    rw [at24, fn_rt e]
    rfl
  by_cases hps0 : ps = []
  · subst hps0
    obtain ⟨l, M', h1, h2, h3⟩ := mix24 (b := b) hB (by omega) hr n (.ol []) s3
    refine ⟨_, M', fin (ρ' := [.r b, .d (rD rs), .ol [], s3, .un, .un, .un]) ?_, h1, h2.mono (by omega)⟩
    unfold B24
    rw [seq_nx s1, seq_nx s2]
    have g0 : gEq (.list []) (.list []) = some (.bool true) := by rfl
    refine seq_rt ?_
    unfold mIfS
    rw [show mOr (mB (mOp gEq (mVar 2) (mFz (mLst mNil)))) (mB (mOp gEq (mCall 13 2 [] (mCons (mVar 0) (mCons (mC (.int 3)) mNil))) (mC (.int 0)))) (callN tab (n + 2)) [.r b, .d (rD rs), .ol (List.map nn []), s3, .un, .un, .un] M = some (true, M) by simp only [g0, mSeq, mIfS, mRet, mDrop, mSet, mSetT, mSetL, mSetD, mFrz, mNext, mBk, mCt, mNever, mFor, mWhile, mVar, mC, mOp, mUn, mTru, mB, mOfT, mAnd, mOr, mNot, mIf, mAndV, mOrV, mNotV, mChain, mNil, mCons, mTup, mLst, mFz, mFzD, mDNew, mDGet, mDIn, mBlt, mBltL, mIsi, mNoO, mSomeO, mSl, mRg1, mRg2, mLstRg, mCall, mCallK, mItS, mItR, mItE, mLc, mLc2, mYes, mApp1, mExt, mPopW, mPopAtW, mSetIx, mDPut, mRf, mRfD, pE, pL, pD, mPs, mPar, putP, wE, bnd, pk, liftO, peek, dats, pks, getL, putLρ, putLM, getD, putDρ, putDM, argC, permL, slotA, outV, mFn, setTg, setTgs, gSeq, MO.look, MO.slot, truD, bolD, intD, Slot.own, noOwn, wipeS, capL, gAdd, DL.gSub, gMul, gDiv, gMod, gPow, gLt, gLe, gGt, gGe, gIs, gIsNot, gIx, gLen, gAbs, gMax2, gMin2, gInt, gList, gTuple, gNeg, gI0, gII, gSl, bodE, bodT, bodI, lcF, forGo, lim, Nat.zero_le, Nat.reduceLeDiff, List.map_cons, List.map_nil, List.cons_append, List.nil_append, List.append_nil, List.length_cons, List.length_nil, List.getElem?_cons_zero, List.getElem?_cons_succ, List.getElem?_nil, List.replicate_zero, List.replicate_succ, List.all_cons, List.all_nil, List.any_cons, List.any_nil, List.filterMap_cons, List.filterMap_nil, List.set_cons_zero, List.set_cons_succ, Bool.and_true, Bool.true_and, Bool.and_false, Bool.false_and, Bool.and_self, Bool.or_true, Bool.true_or, Bool.or_false, Bool.false_or, Bool.not_true, Bool.not_false, Nat.zero_add, Nat.add_zero, Nat.reduceAdd, Nat.reduceSub, Nat.reduceMul, Nat.reduceBEq, Nat.reduceEqDiff, Nat.reduceLT, Nat.sub_self, beq_self_eq_true, Option.map_some, Option.map_none, reduceIte, if_true, if_false, Bool.false_eq_true, decide_true, decide_false, reduceCtorEq, Int.reduceLE, Int.reduceLT, Int.reduceNeg, Int.reduceToNat, Int.reduceEq, Int.reducePow, Int.reduceDiv, Int.reduceAdd, Int.reduceSub, Int.reduceMul, true_and, and_true, List.isEmpty_nil, List.isEmpty_cons]]
    exact h3
  · obtain ⟨d, M1, q1, a1, c1, B1⟩ := r13 hB (by omega) (many := 3) (by omega) (by omega) (n + 1)
    have g0 : gEq (.list (ps.map nn)) (.list []) = some (.bool false) := by
      rw [gEq_nil (nn_ok ps)]
      cases ps with
      | nil => exact absurd rfl hps0
      | cons => rfl
    by_cases hd : d = 0
    · obtain ⟨l, M', h1, h2, h3⟩ := mix24 (b := b) B1 (by omega) hr n (.ol (ps.map nn)) s3
      refine ⟨_, M', fin (ρ' := [.r b, .d (rD rs), .ol (ps.map nn), s3, .un, .un, .un]) ?_, h1, h2.mono (by omega)⟩
      unfold B24
      rw [seq_nx s1, seq_nx s2]
      refine seq_rt ?_
      unfold mIfS
      rw [show mOr (mB (mOp gEq (mVar 2) (mFz (mLst mNil)))) (mB (mOp gEq (mCall 13 2 [] (mCons (mVar 0) (mCons (mC (.int 3)) mNil))) (mC (.int 0)))) (callN tab (n + 2)) [.r b, .d (rD rs), .ol (ps.map nn), s3, .un, .un, .un] M = some (true, M1) by simp only [g0, q1, gEq_int, hd, mSeq, mIfS, mRet, mDrop, mSet, mSetT, mSetL, mSetD, mFrz, mNext, mBk, mCt, mNever, mFor, mWhile, mVar, mC, mOp, mUn, mTru, mB, mOfT, mAnd, mOr, mNot, mIf, mAndV, mOrV, mNotV, mChain, mNil, mCons, mTup, mLst, mFz, mFzD, mDNew, mDGet, mDIn, mBlt, mBltL, mIsi, mNoO, mSomeO, mSl, mRg1, mRg2, mLstRg, mCall, mCallK, mItS, mItR, mItE, mLc, mLc2, mYes, mApp1, mExt, mPopW, mPopAtW, mSetIx, mDPut, mRf, mRfD, pE, pL, pD, mPs, mPar, putP, wE, bnd, pk, liftO, peek, dats, pks, getL, putLρ, putLM, getD, putDρ, putDM, argC, permL, slotA, outV, mFn, setTg, setTgs, gSeq, MO.look, MO.slot, truD, bolD, intD, Slot.own, noOwn, wipeS, capL, gAdd, DL.gSub, gMul, gDiv, gMod, gPow, gLt, gLe, gGt, gGe, gIs, gIsNot, gIx, gLen, gAbs, gMax2, gMin2, gInt, gList, gTuple, gNeg, gI0, gII, gSl, bodE, bodT, bodI, lcF, forGo, lim, Nat.zero_le, Nat.reduceLeDiff, List.map_cons, List.map_nil, List.cons_append, List.nil_append, List.append_nil, List.length_cons, List.length_nil, List.getElem?_cons_zero, List.getElem?_cons_succ, List.getElem?_nil, List.replicate_zero, List.replicate_succ, List.all_cons, List.all_nil, List.any_cons, List.any_nil, List.filterMap_cons, List.filterMap_nil, List.set_cons_zero, List.set_cons_succ, Bool.and_true, Bool.true_and, Bool.and_false, Bool.false_and, Bool.and_self, Bool.or_true, Bool.true_or, Bool.or_false, Bool.false_or, Bool.not_true, Bool.not_false, Nat.zero_add, Nat.add_zero, Nat.reduceAdd, Nat.reduceSub, Nat.reduceMul, Nat.reduceBEq, Nat.reduceEqDiff, Nat.reduceLT, Nat.sub_self, beq_self_eq_true, Option.map_some, Option.map_none, reduceIte, if_true, if_false, Bool.false_eq_true, decide_true, decide_false, reduceCtorEq, Int.reduceLE, Int.reduceLT, Int.reduceNeg, Int.reduceToNat, Int.reduceEq, Int.reducePow, Int.reduceDiv, Int.reduceAdd, Int.reduceSub, Int.reduceMul, true_and, and_true, List.isEmpty_nil, List.isEmpty_cons]]
      exact h3
    · obtain ⟨x, M2, q2, mx, B2⟩ := r18 B1 (by omega) (xs := ps.map nn) (by simpa using hps0) (by rw [List.length_map]; omega) n _ (.inl rfl)
      obtain ⟨p, mp, rfl⟩ := List.mem_map.mp mx
      obtain ⟨hi, hj, hlt, hm⟩ := hmem p mp
      refine ⟨exch rs p.1 p.2, M2, fin (ρ' := [.r b, .d (rD rs), .d (.list (ps.map nn)), .d (.int (p.1 : Int)), .d (.int (p.2 : Int)), .un, .un]) ?_, exch_ok hr hi hj hm, B2.mono (by omega)⟩
      unfold B24
      rw [seq_nx s1, seq_nx s2]
      rw [seq_nx (ρ1 := [.r b, .d (rD rs), .ol (ps.map nn), s3, .un, .un, .un]) (M1 := M1) (by simp only [g0, q1, gEq_int, hd, mSeq, mIfS, mRet, mDrop, mSet, mSetT, mSetL, mSetD, mFrz, mNext, mBk, mCt, mNever, mFor, mWhile, mVar, mC, mOp, mUn, mTru, mB, mOfT, mAnd, mOr, mNot, mIf, mAndV, mOrV, mNotV, mChain, mNil, mCons, mTup, mLst, mFz, mFzD, mDNew, mDGet, mDIn, mBlt, mBltL, mIsi, mNoO, mSomeO, mSl, mRg1, mRg2, mLstRg, mCall, mCallK, mItS, mItR, mItE, mLc, mLc2, mYes, mApp1, mExt, mPopW, mPopAtW, mSetIx, mDPut, mRf, mRfD, pE, pL, pD, mPs, mPar, putP, wE, bnd, pk, liftO, peek, dats, pks, getL, putLρ, putLM, getD, putDρ, putDM, argC, permL, slotA, outV, mFn, setTg, setTgs, gSeq, MO.look, MO.slot, truD, bolD, intD, Slot.own, noOwn, wipeS, capL, gAdd, DL.gSub, gMul, gDiv, gMod, gPow, gLt, gLe, gGt, gGe, gIs, gIsNot, gIx, gLen, gAbs, gMax2, gMin2, gInt, gList, gTuple, gNeg, gI0, gII, gSl, bodE, bodT, bodI, lcF, forGo, lim, Nat.zero_le, Nat.reduceLeDiff, List.map_cons, List.map_nil, List.cons_append, List.nil_append, List.append_nil, List.length_cons, List.length_nil, List.getElem?_cons_zero, List.getElem?_cons_succ, List.getElem?_nil, List.replicate_zero, List.replicate_succ, List.all_cons, List.all_nil, List.any_cons, List.any_nil, List.filterMap_cons, List.filterMap_nil, List.set_cons_zero, List.set_cons_succ, Bool.and_true, Bool.true_and, Bool.and_false, Bool.false_and, Bool.and_self, Bool.or_true, Bool.true_or, Bool.or_false, Bool.false_or, Bool.not_true, Bool.not_false, Nat.zero_add, Nat.add_zero, Nat.reduceAdd, Nat.reduceSub, Nat.reduceMul, Nat.reduceBEq, Nat.reduceEqDiff, Nat.reduceLT, Nat.sub_self, beq_self_eq_true, Option.map_some, Option.map_none, reduceIte, if_true, if_false, Bool.false_eq_true, decide_true, decide_false, reduceCtorEq, Int.reduceLE, Int.reduceLT, Int.reduceNeg, Int.reduceToNat, Int.reduceEq, Int.reducePow, Int.reduceDiv, Int.reduceAdd, Int.reduceSub, Int.reduceMul, true_and, and_true, List.isEmpty_nil, List.isEmpty_cons])]
      rw [seq_nx (ρ1 := [.r b, .d (rD rs), .d (.list (ps.map nn)), .d (.int (p.1 : Int)), .d (.int (p.2 : Int)), .un, .un]) (M1 := M2) (by simp only [q2, nn, mSeq, mIfS, mRet, mDrop, mSet, mSetT, mSetL, mSetD, mFrz, mNext, mBk, mCt, mNever, mFor, mWhile, mVar, mC, mOp, mUn, mTru, mB, mOfT, mAnd, mOr, mNot, mIf, mAndV, mOrV, mNotV, mChain, mNil, mCons, mTup, mLst, mFz, mFzD, mDNew, mDGet, mDIn, mBlt, mBltL, mIsi, mNoO, mSomeO, mSl, mRg1, mRg2, mLstRg, mCall, mCallK, mItS, mItR, mItE, mLc, mLc2, mYes, mApp1, mExt, mPopW, mPopAtW, mSetIx, mDPut, mRf, mRfD, pE, pL, pD, mPs, mPar, putP, wE, bnd, pk, liftO, peek, dats, pks, getL, putLρ, putLM, getD, putDρ, putDM, argC, permL, slotA, outV, mFn, setTg, setTgs, gSeq, MO.look, MO.slot, truD, bolD, intD, Slot.own, noOwn, wipeS, capL, gAdd, DL.gSub, gMul, gDiv, gMod, gPow, gLt, gLe, gGt, gGe, gIs, gIsNot, gIx, gLen, gAbs, gMax2, gMin2, gInt, gList, gTuple, gNeg, gI0, gII, gSl, bodE, bodT, bodI, lcF, forGo, lim, Nat.zero_le, Nat.reduceLeDiff, List.map_cons, List.map_nil, List.cons_append, List.nil_append, List.append_nil, List.length_cons, List.length_nil, List.getElem?_cons_zero, List.getElem?_cons_succ, List.getElem?_nil, List.replicate_zero, List.replicate_succ, List.all_cons, List.all_nil, List.any_cons, List.any_nil, List.filterMap_cons, List.filterMap_nil, List.set_cons_zero, List.set_cons_succ, Bool.and_true, Bool.true_and, Bool.and_false, Bool.false_and, Bool.and_self, Bool.or_true, Bool.true_or, Bool.or_false, Bool.false_or, Bool.not_true, Bool.not_false, Nat.zero_add, Nat.add_zero, Nat.reduceAdd, Nat.reduceSub, Nat.reduceMul, Nat.reduceBEq, Nat.reduceEqDiff, Nat.reduceLT, Nat.sub_self, beq_self_eq_true, Option.map_some, Option.map_none, reduceIte, if_true, if_false, Bool.false_eq_true, decide_true, decide_false, reduceCtorEq, Int.reduceLE, Int.reduceLT, Int.reduceNeg, Int.reduceToNat, Int.reduceEq, Int.reducePow, Int.reduceDiv, Int.reduceAdd, Int.reduceSub, Int.reduceMul, true_and, and_true, List.isEmpty_nil, List.isEmpty_cons])]
      have r1 := row_at hi
      have r2 := row_at hj
      have hlx : ((all_ rs.length).map fun k => pr (if k = p.1 then ((at_ rs p.1).1, (at_ rs p.2).2) else if k = p.2 then ((at_ rs p.2).1, (at_ rs p.1).2) else at_ rs k)).length ≤ 1000000 := by rw [List.length_map, all_len]; omega
      simp only [rD, enum_eq, mSeq, mIfS, mRet, mDrop, mSet, mSetT, mSetL, mSetD, mFrz, mNext, mBk, mCt, mNever, mFor, mWhile, mVar, mC, mOp, mUn, mTru, mB, mOfT, mAnd, mOr, mNot, mIf, mAndV, mOrV, mNotV, mChain, mNil, mCons, mTup, mLst, mFz, mFzD, mDNew, mDGet, mDIn, mBlt, mBltL, mIsi, mNoO, mSomeO, mSl, mRg1, mRg2, mLstRg, mCall, mCallK, mItS, mItR, mItE, mLc, mLc2, mYes, mApp1, mExt, mPopW, mPopAtW, mSetIx, mDPut, mRf, mRfD, pE, pL, pD, mPs, mPar, putP, wE, bnd, pk, liftO, peek, dats, pks, getL, putLρ, putLM, getD, putDρ, putDM, argC, permL, slotA, outV, mFn, setTg, setTgs, gSeq, MO.look, MO.slot, truD, bolD, intD, Slot.own, noOwn, wipeS, capL, gAdd, DL.gSub, gMul, gDiv, gMod, gPow, gLt, gLe, gGt, gGe, gIs, gIsNot, gIx, gLen, gAbs, gMax2, gMin2, gInt, gList, gTuple, gNeg, gI0, gII, gSl, bodE, bodT, bodI, lcF, forGo, lim, Nat.zero_le, Nat.reduceLeDiff, List.map_cons, List.map_nil, List.cons_append, List.nil_append, List.append_nil, List.length_cons, List.length_nil, List.getElem?_cons_zero, List.getElem?_cons_succ, List.getElem?_nil, List.replicate_zero, List.replicate_succ, List.all_cons, List.all_nil, List.any_cons, List.any_nil, List.filterMap_cons, List.filterMap_nil, List.set_cons_zero, List.set_cons_succ, Bool.and_true, Bool.true_and, Bool.and_false, Bool.false_and, Bool.and_self, Bool.or_true, Bool.true_or, Bool.or_false, Bool.false_or, Bool.not_true, Bool.not_false, Nat.zero_add, Nat.add_zero, Nat.reduceAdd, Nat.reduceSub, Nat.reduceMul, Nat.reduceBEq, Nat.reduceEqDiff, Nat.reduceLT, Nat.sub_self, beq_self_eq_true, Option.map_some, Option.map_none, reduceIte, if_true, if_false, Bool.false_eq_true, decide_true, decide_false, reduceCtorEq, Int.reduceLE, Int.reduceLT, Int.reduceNeg, Int.reduceToNat, Int.reduceEq, Int.reducePow, Int.reduceDiv, Int.reduceAdd, Int.reduceSub, Int.reduceMul, true_and, and_true, List.isEmpty_nil, List.isEmpty_cons]
      rw [lcF_map (g := fun k => pr (if k = p.1 then ((at_ rs p.1).1, (at_ rs p.2).2) else if k = p.2 then ((at_ rs p.2).1, (at_ rs p.1).2) else at_ rs k))]
      · simp only [hlx, mSeq, mIfS, mRet, mDrop, mSet, mSetT, mSetL, mSetD, mFrz, mNext, mBk, mCt, mNever, mFor, mWhile, mVar, mC, mOp, mUn, mTru, mB, mOfT, mAnd, mOr, mNot, mIf, mAndV, mOrV, mNotV, mChain, mNil, mCons, mTup, mLst, mFz, mFzD, mDNew, mDGet, mDIn, mBlt, mBltL, mIsi, mNoO, mSomeO, mSl, mRg1, mRg2, mLstRg, mCall, mCallK, mItS, mItR, mItE, mLc, mLc2, mYes, mApp1, mExt, mPopW, mPopAtW, mSetIx, mDPut, mRf, mRfD, pE, pL, pD, mPs, mPar, putP, wE, bnd, pk, liftO, peek, dats, pks, getL, putLρ, putLM, getD, putDρ, putDM, argC, permL, slotA, outV, mFn, setTg, setTgs, gSeq, MO.look, MO.slot, truD, bolD, intD, Slot.own, noOwn, wipeS, capL, gAdd, DL.gSub, gMul, gDiv, gMod, gPow, gLt, gLe, gGt, gGe, gIs, gIsNot, gIx, gLen, gAbs, gMax2, gMin2, gInt, gList, gTuple, gNeg, gI0, gII, gSl, bodE, bodT, bodI, lcF, forGo, lim, Nat.zero_le, Nat.reduceLeDiff, List.map_cons, List.map_nil, List.cons_append, List.nil_append, List.append_nil, List.length_cons, List.length_nil, List.getElem?_cons_zero, List.getElem?_cons_succ, List.getElem?_nil, List.replicate_zero, List.replicate_succ, List.all_cons, List.all_nil, List.any_cons, List.any_nil, List.filterMap_cons, List.filterMap_nil, List.set_cons_zero, List.set_cons_succ, Bool.and_true, Bool.true_and, Bool.and_false, Bool.false_and, Bool.and_self, Bool.or_true, Bool.true_or, Bool.or_false, Bool.false_or, Bool.not_true, Bool.not_false, Nat.zero_add, Nat.add_zero, Nat.reduceAdd, Nat.reduceSub, Nat.reduceMul, Nat.reduceBEq, Nat.reduceEqDiff, Nat.reduceLT, Nat.sub_self, beq_self_eq_true, Option.map_some, Option.map_none, reduceIte, if_true, if_false, Bool.false_eq_true, decide_true, decide_false, reduceCtorEq, Int.reduceLE, Int.reduceLT, Int.reduceNeg, Int.reduceToNat, Int.reduceEq, Int.reducePow, Int.reduceDiv, Int.reduceAdd, Int.reduceSub, Int.reduceMul, true_and, and_true, List.isEmpty_nil, List.isEmpty_cons]
        rw [exch_eq, List.map_map]
        rfl
      · intro k mk
        simp only [gEq_int, mSeq, mIfS, mRet, mDrop, mSet, mSetT, mSetL, mSetD, mFrz, mNext, mBk, mCt, mNever, mFor, mWhile, mVar, mC, mOp, mUn, mTru, mB, mOfT, mAnd, mOr, mNot, mIf, mAndV, mOrV, mNotV, mChain, mNil, mCons, mTup, mLst, mFz, mFzD, mDNew, mDGet, mDIn, mBlt, mBltL, mIsi, mNoO, mSomeO, mSl, mRg1, mRg2, mLstRg, mCall, mCallK, mItS, mItR, mItE, mLc, mLc2, mYes, mApp1, mExt, mPopW, mPopAtW, mSetIx, mDPut, mRf, mRfD, pE, pL, pD, mPs, mPar, putP, wE, bnd, pk, liftO, peek, dats, pks, getL, putLρ, putLM, getD, putDρ, putDM, argC, permL, slotA, outV, mFn, setTg, setTgs, gSeq, MO.look, MO.slot, truD, bolD, intD, Slot.own, noOwn, wipeS, capL, gAdd, DL.gSub, gMul, gDiv, gMod, gPow, gLt, gLe, gGt, gGe, gIs, gIsNot, gIx, gLen, gAbs, gMax2, gMin2, gInt, gList, gTuple, gNeg, gI0, gII, gSl, bodE, bodT, bodI, lcF, forGo, lim, Nat.zero_le, Nat.reduceLeDiff, List.map_cons, List.map_nil, List.cons_append, List.nil_append, List.append_nil, List.length_cons, List.length_nil, List.getElem?_cons_zero, List.getElem?_cons_succ, List.getElem?_nil, List.replicate_zero, List.replicate_succ, List.all_cons, List.all_nil, List.any_cons, List.any_nil, List.filterMap_cons, List.filterMap_nil, List.set_cons_zero, List.set_cons_succ, Bool.and_true, Bool.true_and, Bool.and_false, Bool.false_and, Bool.and_self, Bool.or_true, Bool.true_or, Bool.or_false, Bool.false_or, Bool.not_true, Bool.not_false, Nat.zero_add, Nat.add_zero, Nat.reduceAdd, Nat.reduceSub, Nat.reduceMul, Nat.reduceBEq, Nat.reduceEqDiff, Nat.reduceLT, Nat.sub_self, beq_self_eq_true, Option.map_some, Option.map_none, reduceIte, if_true, if_false, Bool.false_eq_true, decide_true, decide_false, reduceCtorEq, Int.reduceLE, Int.reduceLT, Int.reduceNeg, Int.reduceToNat, Int.reduceEq, Int.reducePow, Int.reduceDiv, Int.reduceAdd, Int.reduceSub, Int.reduceMul, true_and, and_true, List.isEmpty_nil, List.isEmpty_cons]
        by_cases k1 : k = p.1
        · have k2 : ((k : Nat) : Int) = (p.1 : Int) := by omega
          simp only [k1, r1, r2, pr, pr0, pr1, mSeq, mIfS, mRet, mDrop, mSet, mSetT, mSetL, mSetD, mFrz, mNext, mBk, mCt, mNever, mFor, mWhile, mVar, mC, mOp, mUn, mTru, mB, mOfT, mAnd, mOr, mNot, mIf, mAndV, mOrV, mNotV, mChain, mNil, mCons, mTup, mLst, mFz, mFzD, mDNew, mDGet, mDIn, mBlt, mBltL, mIsi, mNoO, mSomeO, mSl, mRg1, mRg2, mLstRg, mCall, mCallK, mItS, mItR, mItE, mLc, mLc2, mYes, mApp1, mExt, mPopW, mPopAtW, mSetIx, mDPut, mRf, mRfD, pE, pL, pD, mPs, mPar, putP, wE, bnd, pk, liftO, peek, dats, pks, getL, putLρ, putLM, getD, putDρ, putDM, argC, permL, slotA, outV, mFn, setTg, setTgs, gSeq, MO.look, MO.slot, truD, bolD, intD, Slot.own, noOwn, wipeS, capL, gAdd, DL.gSub, gMul, gDiv, gMod, gPow, gLt, gLe, gGt, gGe, gIs, gIsNot, gIx, gLen, gAbs, gMax2, gMin2, gInt, gList, gTuple, gNeg, gI0, gII, gSl, bodE, bodT, bodI, lcF, forGo, lim, Nat.zero_le, Nat.reduceLeDiff, List.map_cons, List.map_nil, List.cons_append, List.nil_append, List.append_nil, List.length_cons, List.length_nil, List.getElem?_cons_zero, List.getElem?_cons_succ, List.getElem?_nil, List.replicate_zero, List.replicate_succ, List.all_cons, List.all_nil, List.any_cons, List.any_nil, List.filterMap_cons, List.filterMap_nil, List.set_cons_zero, List.set_cons_succ, Bool.and_true, Bool.true_and, Bool.and_false, Bool.false_and, Bool.and_self, Bool.or_true, Bool.true_or, Bool.or_false, Bool.false_or, Bool.not_true, Bool.not_false, Nat.zero_add, Nat.add_zero, Nat.reduceAdd, Nat.reduceSub, Nat.reduceMul, Nat.reduceBEq, Nat.reduceEqDiff, Nat.reduceLT, Nat.sub_self, beq_self_eq_true, Option.map_some, Option.map_none, reduceIte, if_true, if_false, Bool.false_eq_true, decide_true, decide_false, reduceCtorEq, Int.reduceLE, Int.reduceLT, Int.reduceNeg, Int.reduceToNat, Int.reduceEq, Int.reducePow, Int.reduceDiv, Int.reduceAdd, Int.reduceSub, Int.reduceMul, true_and, and_true, List.isEmpty_nil, List.isEmpty_cons]
        · have k2 : ¬ ((k : Nat) : Int) = (p.1 : Int) := by omega
          by_cases k3 : k = p.2
          · have k5 : ¬ p.2 = p.1 := by omega
            have k6 : ¬ ((p.2 : Nat) : Int) = (p.1 : Int) := by omega
            simp only [k3, k5, k6, gEq_int, r1, r2, pr, pr0, pr1, mSeq, mIfS, mRet, mDrop, mSet, mSetT, mSetL, mSetD, mFrz, mNext, mBk, mCt, mNever, mFor, mWhile, mVar, mC, mOp, mUn, mTru, mB, mOfT, mAnd, mOr, mNot, mIf, mAndV, mOrV, mNotV, mChain, mNil, mCons, mTup, mLst, mFz, mFzD, mDNew, mDGet, mDIn, mBlt, mBltL, mIsi, mNoO, mSomeO, mSl, mRg1, mRg2, mLstRg, mCall, mCallK, mItS, mItR, mItE, mLc, mLc2, mYes, mApp1, mExt, mPopW, mPopAtW, mSetIx, mDPut, mRf, mRfD, pE, pL, pD, mPs, mPar, putP, wE, bnd, pk, liftO, peek, dats, pks, getL, putLρ, putLM, getD, putDρ, putDM, argC, permL, slotA, outV, mFn, setTg, setTgs, gSeq, MO.look, MO.slot, truD, bolD, intD, Slot.own, noOwn, wipeS, capL, gAdd, DL.gSub, gMul, gDiv, gMod, gPow, gLt, gLe, gGt, gGe, gIs, gIsNot, gIx, gLen, gAbs, gMax2, gMin2, gInt, gList, gTuple, gNeg, gI0, gII, gSl, bodE, bodT, bodI, lcF, forGo, lim, Nat.zero_le, Nat.reduceLeDiff, List.map_cons, List.map_nil, List.cons_append, List.nil_append, List.append_nil, List.length_cons, List.length_nil, List.getElem?_cons_zero, List.getElem?_cons_succ, List.getElem?_nil, List.replicate_zero, List.replicate_succ, List.all_cons, List.all_nil, List.any_cons, List.any_nil, List.filterMap_cons, List.filterMap_nil, List.set_cons_zero, List.set_cons_succ, Bool.and_true, Bool.true_and, Bool.and_false, Bool.false_and, Bool.and_self, Bool.or_true, Bool.true_or, Bool.or_false, Bool.false_or, Bool.not_true, Bool.not_false, Nat.zero_add, Nat.add_zero, Nat.reduceAdd, Nat.reduceSub, Nat.reduceMul, Nat.reduceBEq, Nat.reduceEqDiff, Nat.reduceLT, Nat.sub_self, beq_self_eq_true, Option.map_some, Option.map_none, reduceIte, if_true, if_false, Bool.false_eq_true, decide_true, decide_false, reduceCtorEq, Int.reduceLE, Int.reduceLT, Int.reduceNeg, Int.reduceToNat, Int.reduceEq, Int.reducePow, Int.reduceDiv, Int.reduceAdd, Int.reduceSub, Int.reduceMul, true_and, and_true, List.isEmpty_nil, List.isEmpty_cons]
          · have k4 : ¬ ((k : Nat) : Int) = (p.2 : Int) := by omega
            simp only [k1, k2, k3, k4, gEq_int, pr, mSeq, mIfS, mRet, mDrop, mSet, mSetT, mSetL, mSetD, mFrz, mNext, mBk, mCt, mNever, mFor, mWhile, mVar, mC, mOp, mUn, mTru, mB, mOfT, mAnd, mOr, mNot, mIf, mAndV, mOrV, mNotV, mChain, mNil, mCons, mTup, mLst, mFz, mFzD, mDNew, mDGet, mDIn, mBlt, mBltL, mIsi, mNoO, mSomeO, mSl, mRg1, mRg2, mLstRg, mCall, mCallK, mItS, mItR, mItE, mLc, mLc2, mYes, mApp1, mExt, mPopW, mPopAtW, mSetIx, mDPut, mRf, mRfD, pE, pL, pD, mPs, mPar, putP, wE, bnd, pk, liftO, peek, dats, pks, getL, putLρ, putLM, getD, putDρ, putDM, argC, permL, slotA, outV, mFn, setTg, setTgs, gSeq, MO.look, MO.slot, truD, bolD, intD, Slot.own, noOwn, wipeS, capL, gAdd, DL.gSub, gMul, gDiv, gMod, gPow, gLt, gLe, gGt, gGe, gIs, gIsNot, gIx, gLen, gAbs, gMax2, gMin2, gInt, gList, gTuple, gNeg, gI0, gII, gSl, bodE, bodT, bodI, lcF, forGo, lim, Nat.zero_le, Nat.reduceLeDiff, List.map_cons, List.map_nil, List.cons_append, List.nil_append, List.append_nil, List.length_cons, List.length_nil, List.getElem?_cons_zero, List.getElem?_cons_succ, List.getElem?_nil, List.replicate_zero, List.replicate_succ, List.all_cons, List.all_nil, List.any_cons, List.any_nil, List.filterMap_cons, List.filterMap_nil, List.set_cons_zero, List.set_cons_succ, Bool.and_true, Bool.true_and, Bool.and_false, Bool.false_and, Bool.and_self, Bool.or_true, Bool.true_or, Bool.or_false, Bool.false_or, Bool.not_true, Bool.not_false, Nat.zero_add, Nat.add_zero, Nat.reduceAdd, Nat.reduceSub, Nat.reduceMul, Nat.reduceBEq, Nat.reduceEqDiff, Nat.reduceLT, Nat.sub_self, beq_self_eq_true, Option.map_some, Option.map_none, reduceIte, if_true, if_false, Bool.false_eq_true, decide_true, decide_false, reduceCtorEq, Int.reduceLE, Int.reduceLT, Int.reduceNeg, Int.reduceToNat, Int.reduceEq, Int.reducePow, Int.reduceDiv, Int.reduceAdd, Int.reduceSub, Int.reduceMul, true_and, and_true, List.isEmpty_nil, List.isEmpty_cons]
end K03
set_option Elab.async false
set_option linter.all false
set_option maxRecDepth 100000
set_option maxHeartbeats 4000000
/-! k03: sorting, dicts by paths -/
namespace K03
open PySem L2 DL
theorem insI_comm (x y : Int) : ∀ l : List Int, PySem.W.insI x (PySem.W.insI y l) = PySem.W.insI y (PySem.W.insI x l)
  | [] => by
    simp only [PySem.W.insI]
    by_cases h1 : y < x <;> by_cases h2 : x < y <;> simp [h1, h2]
    · omega
    · omega
  | z :: l => by
    have ih := insI_comm x y l
    simp only [PySem.W.insI]
    by_cases h1 : z < y <;> by_cases h2 : z < x
    · rw [if_pos h1, if_pos h2, PySem.W.insI, if_pos h2, PySem.W.insI, if_pos h1, ih]
    · rw [if_pos h1, if_neg h2, PySem.W.insI, if_neg h2, PySem.W.insI, if_pos (by omega), PySem.W.insI, if_pos h1]
    · rw [if_neg h1, if_pos h2, PySem.W.insI, if_pos (by omega), PySem.W.insI, if_pos h2, PySem.W.insI, if_neg h1]
    · rw [if_neg h1, if_neg h2]
      simp only [PySem.W.insI]
      by_cases h3 : y < x <;> by_cases h4 : x < y
      · omega
      · rw [if_pos h3, if_neg h4, if_neg h2]
      · rw [if_neg h3, if_pos h4, if_neg h1]
      · have : x = y := by omega
        subst this
        rfl
theorem sortI_eq {xs ys : List Int} (h : xs.Perm ys) : PySem.W.sortI xs = PySem.W.sortI ys := by
  unfold PySem.W.sortI
  induction h with
  | nil => rfl
  | cons x _ ih => rw [List.foldr_cons, List.foldr_cons, ih]
  | swap x y l => rw [List.foldr_cons, List.foldr_cons, List.foldr_cons, List.foldr_cons, insI_comm]
  | trans _ _ ih1 ih2 => rw [ih1, ih2]
/-- what is sorted stays -/
theorem insI_le {x : Int} {l : List Int} (h : ∀ y ∈ l, x ≤ y) : PySem.W.insI x l = x :: l := by
  cases l with
  | nil => rfl
  | cons y l =>
    unfold PySem.W.insI
    rw [if_neg (by have := h y List.mem_cons_self; omega)]
theorem sortI_sorted : ∀ {l : List Int}, l.Pairwise (· ≤ ·) → PySem.W.sortI l = l
  | [], _ => rfl
  | x :: l, h => by
    rw [List.pairwise_cons] at h
    unfold PySem.W.sortI
    rw [List.foldr_cons]
    have := sortI_sorted h.2
    unfold PySem.W.sortI at this
    rw [this, insI_le h.1]
theorem all_sorted (n : Nat) : ((all_ n).map fun (k : Nat) => (k : Int)).Pairwise (· ≤ ·) := by
  unfold all_
  rw [List.pairwise_map]
  exact List.Pairwise.imp (fun {a b} h => by omega) List.pairwise_lt_range
theorem sN_all {n : Nat} {l : List Nat} (h : l.Perm (all_ n)) : sN l = iL (all_ n) := by
  unfold sN
  rw [sortI_eq (h.map _), sortI_sorted (all_sorted n), List.map_map]
  rfl
theorem sN_filter {n : Nat} {l : List Nat} {p : Nat → Bool} (h : l.Perm ((all_ n).filter p)) : sN l = iL ((all_ n).filter p) := by
  unfold sN
  rw [sortI_eq (h.map _), sortI_sorted ?_, List.map_map]
  · rfl
  · have := all_sorted n
    rw [List.pairwise_map] at this ⊢
    exact this.filter p

/-! ### dicts by paths -/
def pthD (p : List Nat) : D := .tuple (iL p)
def kP (p : List Nat) : List Key := p.map fun (k : Nat) => (Sum.inl (k : Int) : Key)
theorem skeys_iL : ∀ p : List Nat, skeys (iL p) = some (kP p)
  | [] => rfl
  | k :: p => by
    have := skeys_iL p
    show (match skey (nD k), skeys (iL p) with | some a, some b => some (a :: b) | _, _ => none) = _
    rw [this]
    rfl
theorem tkey_pth (p : List Nat) : tkey (pthD p) = some (kP p) := skeys_iL p
theorem kP_inj : ∀ {p q : List Nat}, kP p = kP q → p = q
  | [], [], _ => rfl
  | [], _ :: _, h => by cases h
  | _ :: _, [], h => by cases h
  | a :: p, b :: q, h => by
    unfold kP at h
    rw [List.map_cons, List.map_cons, List.cons.injEq] at h
    have h1 : (a : Int) = (b : Int) := by
      have := h.1
      injection this
    rw [kP_inj (p := p) (q := q) h.2, show a = b by omega]
abbrev Ms := List (List Nat × D)
def mE (ms : Ms) : List (D × D) := ms.map fun e => (pthD e.1, e.2)
def lookM (ms : Ms) (q : List Nat) : Option D := (ms.find? fun e => decide (e.1 = q)).map (·.2)
theorem dLook_mE (q : List Nat) : ∀ ms : Ms, dLook true (mE ms) (pthD q) = some (lookM ms q) := by
  intro ms
  unfold dLook
  rw [if_pos rfl, tkey_pth]
  show some (Option.map (fun x => x.snd) (List.find? (fun e => match tkey e.1 with | some k' => decide (k' = kP q) | none => false) (mE ms))) = _
  congr 1
  unfold lookM mE
  induction ms with
  | nil => rfl
  | cons e ms ih =>
    rw [List.map_cons, List.find?_cons, List.find?_cons]
    have e1 : (match tkey (pthD e.1) with | some k' => decide (k' = kP q) | none => false) = decide (e.1 = q) := by
      rw [tkey_pth]
      by_cases h : e.1 = q
      · rw [h]
        simp
      · have h2 : ¬ kP e.1 = kP q := fun z => h (kP_inj z)
        simp [h, h2]
    simp only [e1]
    by_cases h : e.1 = q
    · simp [h]
    · simp only [h, decide_false]
      exact ih
theorem dPut_mE {q : List Nat} {v : D} {ms : Ms} (h : ∀ e ∈ ms, e.1 ≠ q) : dPut true (mE ms) (pthD q) v = some (mE (ms ++ [(q, v)])) := by
  unfold dPut
  rw [if_pos rfl, tkey_pth]
  show some (putE (fun d => match tkey d with | some k' => decide (k' = kP q) | none => false) (pthD q) v (mE ms)) = _
  congr 1
  unfold putE
  have e1 : ((mE ms).any fun e => match tkey e.1 with | some k' => decide (k' = kP q) | none => false) = false := by
    rw [List.any_eq_false]
    intro e he
    unfold mE at he
    obtain ⟨e', he', rfl⟩ := List.mem_map.mp he
    rw [tkey_pth]
    have h2 : ¬ kP e'.1 = kP q := fun z => h e' he' (kP_inj z)
    simp [h2]
  rw [e1, if_neg Bool.false_ne_true]
  unfold mE
  rw [List.map_append]
  rfl
end K03
set_option Elab.async false
set_option linter.all false
set_option maxRecDepth 100000
set_option maxHeartbeats 4000000
/-! k03: the way through the dict -/
namespace K03
open PySem L2 DL
def nodeV : T → D
  | .nil => .none
  | .nd m h _ _ => .tuple [.int m, .tuple (iL h)]
/-- the tree t stands at path p -/
def Has (ms : Ms) : List Nat → T → Prop
  | p, .nil => lookM ms p = some .none
  | p, .nd m h l r => lookM ms p = some (.tuple [.int m, .tuple (iL h)]) ∧ Has ms (p ++ [0]) l ∧ Has ms (p ++ [1]) r
theorem isT_mE {ms : Ms} (h : ms ≠ []) : isT (mE ms) = some true := by
  cases ms with
  | nil => exact absurd rfl h
  | cons e ms =>
    unfold isT mE
    rw [List.map_cons]
    show some (tkey (pthD e.1)).isSome = _
    rw [tkey_pth]
    rfl
theorem pth_app (p : List Nat) (i : Nat) : iL p ++ [PyData.int (i : Int)] = iL (p ++ [i]) := by
  unfold iL
  rw [List.map_append]
  rfl
theorem iL_app (p q : List Nat) : iL p ++ iL q = iL (p ++ q) := by
  unfold iL
  rw [List.map_append]
theorem ints_app (p : List Int) (i : Int) : p.map PyData.int ++ [.int i] = (p ++ [i]).map .int := by
  rw [List.map_append]
  rfl
theorem loop22 {ms : Ms} (hm : ms ≠ []) {x : Int} {c : Call} {M : List MO} : ∀ (t : T) (p : List Nat) (ds : List D) (mids : List Int) (hs : List Nat) (s5 s6 : DL.Slot), Has ms p t → (wayT t x).length < ds.length → mids.length + (wayT t x).length < 1000 → hs.length + (wayH t x).length < 100000 → p.length + (wayT t x).length < 1000 →
    ∃ p' s5' s6', forGo (.name 5) F22_0 c ds [.d (.dict (mE ms)), .d (.int x), .d (pthD p), .ol (mids.map .int), .ol (iL hs), s5, s6] M = some (.nx, [.d (.dict (mE ms)), .d (.int x), .d (pthD p'), .ol ((mids ++ wayM t x).map .int), .ol (iL (hs ++ wayH t x)), s5', s6'], M) := by
  intro t
  have hT := isT_mE hm
  induction t with
  | nil =>
    intro p ds mids hs s5 s6 H hl _ _ _
    cases ds with
    | nil => exact absurd hl (Nat.not_lt_zero _)
    | cons d ds =>
      have H : lookM ms p = some .none := H
      have hq := dLook_mE p ms
      rw [H] at hq
      refine ⟨p, .d d, s6, ?_⟩
      rw [for_bk (ρ1 := [.d (.dict (mE ms)), .d (.int x), .d (pthD p), .ol (mids.map .int), .ol (iL hs), .d d, s6]) (ρ2 := [.d (.dict (mE ms)), .d (.int x), .d (pthD p), .ol (mids.map .int), .ol (iL hs), .d d, s6]) (M2 := M) rfl ?_]
      · simp [wayM, wayH, wayT]
      · simp only [F22_0, dGet, kindOf, hT, hq, isNone, mSeq, mIfS, mRet, mDrop, mSet, mSetT, mSetL, mSetD, mFrz, mNext, mBk, mCt, mNever, mFor, mWhile, mVar, mC, mOp, mUn, mTru, mB, mOfT, mAnd, mOr, mNot, mIf, mAndV, mOrV, mNotV, mChain, mNil, mCons, mTup, mLst, mFz, mFzD, mDNew, mDGet, mDIn, mBlt, mBltL, mIsi, mNoO, mSomeO, mSl, mRg1, mRg2, mLstRg, mCall, mCallK, mItS, mItR, mItE, mLc, mLc2, mYes, mApp1, mExt, mPopW, mPopAtW, mSetIx, mDPut, mRf, mRfD, pE, pL, pD, mPs, mPar, putP, wE, bnd, pk, liftO, peek, dats, pks, getL, putLρ, putLM, getD, putDρ, putDM, argC, permL, slotA, outV, mFn, setTg, setTgs, gSeq, MO.look, MO.slot, truD, bolD, intD, Slot.own, noOwn, wipeS, capL, gAdd, DL.gSub, gMul, gDiv, gMod, gPow, gLt, gLe, gGt, gGe, gIs, gIsNot, gIx, gLen, gAbs, gMax2, gMin2, gInt, gList, gTuple, gNeg, gI0, gII, gSl, bodE, bodT, bodI, lcF, forGo, lim, Nat.zero_le, Nat.reduceLeDiff, List.map_cons, List.map_nil, List.cons_append, List.nil_append, List.append_nil, List.length_cons, List.length_nil, List.getElem?_cons_zero, List.getElem?_cons_succ, List.getElem?_nil, List.replicate_zero, List.replicate_succ, List.all_cons, List.all_nil, List.any_cons, List.any_nil, List.filterMap_cons, List.filterMap_nil, List.set_cons_zero, List.set_cons_succ, Bool.and_true, Bool.true_and, Bool.and_false, Bool.false_and, Bool.and_self, Bool.or_true, Bool.true_or, Bool.or_false, Bool.false_or, Bool.not_true, Bool.not_false, Nat.zero_add, Nat.add_zero, Nat.reduceAdd, Nat.reduceSub, Nat.reduceMul, Nat.reduceBEq, Nat.reduceEqDiff, Nat.reduceLT, Nat.sub_self, beq_self_eq_true, Option.map_some, Option.map_none, reduceIte, if_true, if_false, Bool.false_eq_true, decide_true, decide_false, reduceCtorEq, Int.reduceLE, Int.reduceLT, Int.reduceNeg, Int.reduceToNat, Int.reduceEq, Int.reducePow, Int.reduceDiv, Int.reduceAdd, Int.reduceSub, Int.reduceMul, true_and, and_true, List.isEmpty_nil, List.isEmpty_cons]
  | nd m h l r ihl ihr =>
    intro p ds mids hs s5 s6 H hl h1 h2 h3
    obtain ⟨H, Hl, Hr⟩ := H
    have hq := dLook_mE p ms
    rw [H] at hq
    have a0 : atI [PyData.int m, .tuple (iL h)] 0 = some (.int m) := by rfl
    have a1 : atI [PyData.int m, .tuple (iL h)] 1 = some (.tuple (iL h)) := by rfl
    cases ds with
    | nil => exact absurd hl (Nat.not_lt_zero _)
    | cons d ds =>
      have hml : (mids.map PyData.int).length < 1000000 := by rw [List.length_map]; omega
      have hw : wayH (.nd m h l r) x = h ++ (if x = m then [] else if x < m then wayH l x else wayH r x) := by
        unfold wayH
        rw [wayT, List.flatMap_cons]
        split
        · rfl
        · split <;> rfl
      have hwm : wayM (.nd m h l r) x = m :: (if x = m then [] else if x < m then wayM l x else wayM r x) := by
        unfold wayM
        rw [wayT, List.map_cons]
        split
        · rfl
        · split <;> rfl
      have hhl : (iL hs).length + (iL h).length ≤ 1000000 := by
        rw [iL_len, iL_len]
        rw [hw, List.length_append] at h2
        omega
      by_cases e : m = x
      · have ee : decide (m = x) = true := decide_eq_true e
        refine ⟨p, .d d, .d (.int m), ?_⟩
        rw [for_bk (ρ1 := [.d (.dict (mE ms)), .d (.int x), .d (pthD p), .ol (mids.map .int), .ol (iL hs), .d d, s6]) (ρ2 := [.d (.dict (mE ms)), .d (.int x), .d (pthD p), .ol ((mids ++ [m]).map .int), .ol (iL (hs ++ h)), .d d, .d (.int m)]) (M2 := M) rfl ?_]
        · rw [hw, hwm, if_pos e.symm, if_pos e.symm, List.append_nil]
        · simp only [F22_0, dGet, kindOf, hT, hq, isNone, a0, a1, hml, hhl, ints_app, iL_app, gEq_int, ee, mSeq, mIfS, mRet, mDrop, mSet, mSetT, mSetL, mSetD, mFrz, mNext, mBk, mCt, mNever, mFor, mWhile, mVar, mC, mOp, mUn, mTru, mB, mOfT, mAnd, mOr, mNot, mIf, mAndV, mOrV, mNotV, mChain, mNil, mCons, mTup, mLst, mFz, mFzD, mDNew, mDGet, mDIn, mBlt, mBltL, mIsi, mNoO, mSomeO, mSl, mRg1, mRg2, mLstRg, mCall, mCallK, mItS, mItR, mItE, mLc, mLc2, mYes, mApp1, mExt, mPopW, mPopAtW, mSetIx, mDPut, mRf, mRfD, pE, pL, pD, mPs, mPar, putP, wE, bnd, pk, liftO, peek, dats, pks, getL, putLρ, putLM, getD, putDρ, putDM, argC, permL, slotA, outV, mFn, setTg, setTgs, gSeq, MO.look, MO.slot, truD, bolD, intD, Slot.own, noOwn, wipeS, capL, gAdd, DL.gSub, gMul, gDiv, gMod, gPow, gLt, gLe, gGt, gGe, gIs, gIsNot, gIx, gLen, gAbs, gMax2, gMin2, gInt, gList, gTuple, gNeg, gI0, gII, gSl, bodE, bodT, bodI, lcF, forGo, lim, Nat.zero_le, Nat.reduceLeDiff, List.map_cons, List.map_nil, List.cons_append, List.nil_append, List.append_nil, List.length_cons, List.length_nil, List.getElem?_cons_zero, List.getElem?_cons_succ, List.getElem?_nil, List.replicate_zero, List.replicate_succ, List.all_cons, List.all_nil, List.any_cons, List.any_nil, List.filterMap_cons, List.filterMap_nil, List.set_cons_zero, List.set_cons_succ, Bool.and_true, Bool.true_and, Bool.and_false, Bool.false_and, Bool.and_self, Bool.or_true, Bool.true_or, Bool.or_false, Bool.false_or, Bool.not_true, Bool.not_false, Nat.zero_add, Nat.add_zero, Nat.reduceAdd, Nat.reduceSub, Nat.reduceMul, Nat.reduceBEq, Nat.reduceEqDiff, Nat.reduceLT, Nat.sub_self, beq_self_eq_true, Option.map_some, Option.map_none, reduceIte, if_true, if_false, Bool.false_eq_true, decide_true, decide_false, reduceCtorEq, Int.reduceLE, Int.reduceLT, Int.reduceNeg, Int.reduceToNat, Int.reduceEq, Int.reducePow, Int.reduceDiv, Int.reduceAdd, Int.reduceSub, Int.reduceMul, true_and, and_true, List.isEmpty_nil, List.isEmpty_cons]
      · have e' : ¬ x = m := fun z => e z.symm
        have hpl : (iL p).length + 1 ≤ 1000000 := by rw [iL_len]; omega
        have hpl2 : (iL p).length ≤ 999999 := by omega
        have wt : wayT (.nd m h l r) x = .nd m h l r :: (if x < m then wayT l x else wayT r x) := by rw [wayT, if_neg e']
        rw [wt, List.length_cons] at hl h1 h3
        rw [List.length_cons] at hl
        rw [hw, if_neg e', List.length_append] at h2
        by_cases e2 : x < m
        · rw [if_pos e2] at hl h1 h3 h2
          obtain ⟨p', s5', s6', g⟩ := ihl (p ++ [0]) ds (mids ++ [m]) (hs ++ h) (.d d) (.d (.int m)) Hl (by omega) (by rw [List.length_append, List.length_singleton]; omega) (by rw [List.length_append]; omega) (by rw [List.length_append, List.length_singleton]; omega)
          refine ⟨p', s5', s6', ?_⟩
          rw [for_nx (ρ1 := [.d (.dict (mE ms)), .d (.int x), .d (pthD p), .ol (mids.map .int), .ol (iL hs), .d d, s6]) (ρ2 := [.d (.dict (mE ms)), .d (.int x), .d (pthD (p ++ [0])), .ol ((mids ++ [m]).map .int), .ol (iL (hs ++ h)), .d d, .d (.int m)]) (M2 := M) rfl ?_, g]
          · rw [hw, hwm, if_neg e', if_neg e', if_pos e2, if_pos e2, List.append_assoc, List.append_assoc]
            rfl
          · have pa := pth_app p 0
            simp only [F22_0, dGet, kindOf, hT, hq, isNone, a0, a1, hml, hhl, ints_app, iL_app, gEq_int, e, e2, mSeq, mIfS, mRet, mDrop, mSet, mSetT, mSetL, mSetD, mFrz, mNext, mBk, mCt, mNever, mFor, mWhile, mVar, mC, mOp, mUn, mTru, mB, mOfT, mAnd, mOr, mNot, mIf, mAndV, mOrV, mNotV, mChain, mNil, mCons, mTup, mLst, mFz, mFzD, mDNew, mDGet, mDIn, mBlt, mBltL, mIsi, mNoO, mSomeO, mSl, mRg1, mRg2, mLstRg, mCall, mCallK, mItS, mItR, mItE, mLc, mLc2, mYes, mApp1, mExt, mPopW, mPopAtW, mSetIx, mDPut, mRf, mRfD, pE, pL, pD, mPs, mPar, putP, wE, bnd, pk, liftO, peek, dats, pks, getL, putLρ, putLM, getD, putDρ, putDM, argC, permL, slotA, outV, mFn, setTg, setTgs, gSeq, MO.look, MO.slot, truD, bolD, intD, Slot.own, noOwn, wipeS, capL, gAdd, DL.gSub, gMul, gDiv, gMod, gPow, gLt, gLe, gGt, gGe, gIs, gIsNot, gIx, gLen, gAbs, gMax2, gMin2, gInt, gList, gTuple, gNeg, gI0, gII, gSl, bodE, bodT, bodI, lcF, forGo, lim, Nat.zero_le, Nat.reduceLeDiff, List.map_cons, List.map_nil, List.cons_append, List.nil_append, List.append_nil, List.length_cons, List.length_nil, List.getElem?_cons_zero, List.getElem?_cons_succ, List.getElem?_nil, List.replicate_zero, List.replicate_succ, List.all_cons, List.all_nil, List.any_cons, List.any_nil, List.filterMap_cons, List.filterMap_nil, List.set_cons_zero, List.set_cons_succ, Bool.and_true, Bool.true_and, Bool.and_false, Bool.false_and, Bool.and_self, Bool.or_true, Bool.true_or, Bool.or_false, Bool.false_or, Bool.not_true, Bool.not_false, Nat.zero_add, Nat.add_zero, Nat.reduceAdd, Nat.reduceSub, Nat.reduceMul, Nat.reduceBEq, Nat.reduceEqDiff, Nat.reduceLT, Nat.sub_self, beq_self_eq_true, Option.map_some, Option.map_none, reduceIte, if_true, if_false, Bool.false_eq_true, decide_true, decide_false, reduceCtorEq, Int.reduceLE, Int.reduceLT, Int.reduceNeg, Int.reduceToNat, Int.reduceEq, Int.reducePow, Int.reduceDiv, Int.reduceAdd, Int.reduceSub, Int.reduceMul, true_and, and_true, List.isEmpty_nil, List.isEmpty_cons]
            simp only [pthD, hpl2, mSeq, mIfS, mRet, mDrop, mSet, mSetT, mSetL, mSetD, mFrz, mNext, mBk, mCt, mNever, mFor, mWhile, mVar, mC, mOp, mUn, mTru, mB, mOfT, mAnd, mOr, mNot, mIf, mAndV, mOrV, mNotV, mChain, mNil, mCons, mTup, mLst, mFz, mFzD, mDNew, mDGet, mDIn, mBlt, mBltL, mIsi, mNoO, mSomeO, mSl, mRg1, mRg2, mLstRg, mCall, mCallK, mItS, mItR, mItE, mLc, mLc2, mYes, mApp1, mExt, mPopW, mPopAtW, mSetIx, mDPut, mRf, mRfD, pE, pL, pD, mPs, mPar, putP, wE, bnd, pk, liftO, peek, dats, pks, getL, putLρ, putLM, getD, putDρ, putDM, argC, permL, slotA, outV, mFn, setTg, setTgs, gSeq, MO.look, MO.slot, truD, bolD, intD, Slot.own, noOwn, wipeS, capL, gAdd, DL.gSub, gMul, gDiv, gMod, gPow, gLt, gLe, gGt, gGe, gIs, gIsNot, gIx, gLen, gAbs, gMax2, gMin2, gInt, gList, gTuple, gNeg, gI0, gII, gSl, bodE, bodT, bodI, lcF, forGo, lim, Nat.zero_le, Nat.reduceLeDiff, List.map_cons, List.map_nil, List.cons_append, List.nil_append, List.append_nil, List.length_cons, List.length_nil, List.getElem?_cons_zero, List.getElem?_cons_succ, List.getElem?_nil, List.replicate_zero, List.replicate_succ, List.all_cons, List.all_nil, List.any_cons, List.any_nil, List.filterMap_cons, List.filterMap_nil, List.set_cons_zero, List.set_cons_succ, Bool.and_true, Bool.true_and, Bool.and_false, Bool.false_and, Bool.and_self, Bool.or_true, Bool.true_or, Bool.or_false, Bool.false_or, Bool.not_true, Bool.not_false, Nat.zero_add, Nat.add_zero, Nat.reduceAdd, Nat.reduceSub, Nat.reduceMul, Nat.reduceBEq, Nat.reduceEqDiff, Nat.reduceLT, Nat.sub_self, beq_self_eq_true, Option.map_some, Option.map_none, reduceIte, if_true, if_false, Bool.false_eq_true, decide_true, decide_false, reduceCtorEq, Int.reduceLE, Int.reduceLT, Int.reduceNeg, Int.reduceToNat, Int.reduceEq, Int.reducePow, Int.reduceDiv, Int.reduceAdd, Int.reduceSub, Int.reduceMul, true_and, and_true, List.isEmpty_nil, List.isEmpty_cons]
            rw [← pa]
            rfl
        · rw [if_neg e2] at hl h1 h3 h2
          obtain ⟨p', s5', s6', g⟩ := ihr (p ++ [1]) ds (mids ++ [m]) (hs ++ h) (.d d) (.d (.int m)) Hr (by omega) (by rw [List.length_append, List.length_singleton]; omega) (by rw [List.length_append]; omega) (by rw [List.length_append, List.length_singleton]; omega)
          refine ⟨p', s5', s6', ?_⟩
          rw [for_nx (ρ1 := [.d (.dict (mE ms)), .d (.int x), .d (pthD p), .ol (mids.map .int), .ol (iL hs), .d d, s6]) (ρ2 := [.d (.dict (mE ms)), .d (.int x), .d (pthD (p ++ [1])), .ol ((mids ++ [m]).map .int), .ol (iL (hs ++ h)), .d d, .d (.int m)]) (M2 := M) rfl ?_, g]
          · rw [hw, hwm, if_neg e', if_neg e', if_neg e2, if_neg e2, List.append_assoc, List.append_assoc]
            rfl
          · have pa := pth_app p 1
            simp only [F22_0, dGet, kindOf, hT, hq, isNone, a0, a1, hml, hhl, ints_app, iL_app, gEq_int, e, e2, mSeq, mIfS, mRet, mDrop, mSet, mSetT, mSetL, mSetD, mFrz, mNext, mBk, mCt, mNever, mFor, mWhile, mVar, mC, mOp, mUn, mTru, mB, mOfT, mAnd, mOr, mNot, mIf, mAndV, mOrV, mNotV, mChain, mNil, mCons, mTup, mLst, mFz, mFzD, mDNew, mDGet, mDIn, mBlt, mBltL, mIsi, mNoO, mSomeO, mSl, mRg1, mRg2, mLstRg, mCall, mCallK, mItS, mItR, mItE, mLc, mLc2, mYes, mApp1, mExt, mPopW, mPopAtW, mSetIx, mDPut, mRf, mRfD, pE, pL, pD, mPs, mPar, putP, wE, bnd, pk, liftO, peek, dats, pks, getL, putLρ, putLM, getD, putDρ, putDM, argC, permL, slotA, outV, mFn, setTg, setTgs, gSeq, MO.look, MO.slot, truD, bolD, intD, Slot.own, noOwn, wipeS, capL, gAdd, DL.gSub, gMul, gDiv, gMod, gPow, gLt, gLe, gGt, gGe, gIs, gIsNot, gIx, gLen, gAbs, gMax2, gMin2, gInt, gList, gTuple, gNeg, gI0, gII, gSl, bodE, bodT, bodI, lcF, forGo, lim, Nat.zero_le, Nat.reduceLeDiff, List.map_cons, List.map_nil, List.cons_append, List.nil_append, List.append_nil, List.length_cons, List.length_nil, List.getElem?_cons_zero, List.getElem?_cons_succ, List.getElem?_nil, List.replicate_zero, List.replicate_succ, List.all_cons, List.all_nil, List.any_cons, List.any_nil, List.filterMap_cons, List.filterMap_nil, List.set_cons_zero, List.set_cons_succ, Bool.and_true, Bool.true_and, Bool.and_false, Bool.false_and, Bool.and_self, Bool.or_true, Bool.true_or, Bool.or_false, Bool.false_or, Bool.not_true, Bool.not_false, Nat.zero_add, Nat.add_zero, Nat.reduceAdd, Nat.reduceSub, Nat.reduceMul, Nat.reduceBEq, Nat.reduceEqDiff, Nat.reduceLT, Nat.sub_self, beq_self_eq_true, Option.map_some, Option.map_none, reduceIte, if_true, if_false, Bool.false_eq_true, decide_true, decide_false, reduceCtorEq, Int.reduceLE, Int.reduceLT, Int.reduceNeg, Int.reduceToNat, Int.reduceEq, Int.reducePow, Int.reduceDiv, Int.reduceAdd, Int.reduceSub, Int.reduceMul, true_and, and_true, List.isEmpty_nil, List.isEmpty_cons]
            simp only [pthD, hpl2, mSeq, mIfS, mRet, mDrop, mSet, mSetT, mSetL, mSetD, mFrz, mNext, mBk, mCt, mNever, mFor, mWhile, mVar, mC, mOp, mUn, mTru, mB, mOfT, mAnd, mOr, mNot, mIf, mAndV, mOrV, mNotV, mChain, mNil, mCons, mTup, mLst, mFz, mFzD, mDNew, mDGet, mDIn, mBlt, mBltL, mIsi, mNoO, mSomeO, mSl, mRg1, mRg2, mLstRg, mCall, mCallK, mItS, mItR, mItE, mLc, mLc2, mYes, mApp1, mExt, mPopW, mPopAtW, mSetIx, mDPut, mRf, mRfD, pE, pL, pD, mPs, mPar, putP, wE, bnd, pk, liftO, peek, dats, pks, getL, putLρ, putLM, getD, putDρ, putDM, argC, permL, slotA, outV, mFn, setTg, setTgs, gSeq, MO.look, MO.slot, truD, bolD, intD, Slot.own, noOwn, wipeS, capL, gAdd, DL.gSub, gMul, gDiv, gMod, gPow, gLt, gLe, gGt, gGe, gIs, gIsNot, gIx, gLen, gAbs, gMax2, gMin2, gInt, gList, gTuple, gNeg, gI0, gII, gSl, bodE, bodT, bodI, lcF, forGo, lim, Nat.zero_le, Nat.reduceLeDiff, List.map_cons, List.map_nil, List.cons_append, List.nil_append, List.append_nil, List.length_cons, List.length_nil, List.getElem?_cons_zero, List.getElem?_cons_succ, List.getElem?_nil, List.replicate_zero, List.replicate_succ, List.all_cons, List.all_nil, List.any_cons, List.any_nil, List.filterMap_cons, List.filterMap_nil, List.set_cons_zero, List.set_cons_succ, Bool.and_true, Bool.true_and, Bool.and_false, Bool.false_and, Bool.and_self, Bool.or_true, Bool.true_or, Bool.or_false, Bool.false_or, Bool.not_true, Bool.not_false, Nat.zero_add, Nat.add_zero, Nat.reduceAdd, Nat.reduceSub, Nat.reduceMul, Nat.reduceBEq, Nat.reduceEqDiff, Nat.reduceLT, Nat.sub_self, beq_self_eq_true, Option.map_some, Option.map_none, reduceIte, if_true, if_false, Bool.false_eq_true, decide_true, decide_false, reduceCtorEq, Int.reduceLE, Int.reduceLT, Int.reduceNeg, Int.reduceToNat, Int.reduceEq, Int.reducePow, Int.reduceDiv, Int.reduceAdd, Int.reduceSub, Int.reduceMul, true_and, and_true, List.isEmpty_nil, List.isEmpty_cons]
            rw [← pa]
            rfl
end K03
set_option Elab.async false
set_option linter.all false
set_option maxRecDepth 100000
set_option maxHeartbeats 4000000
/-! k03: the law's way -/
namespace K03
open PySem L2 DL
theorem at22 {n : Nat} {as : List Vl} {M : List MO} : callN tab (n + 1) 22 as M = mFn N22.length B22 (callN tab n) as M := rfl
theorem r22 {ms : Ms} (hm : ms ≠ []) (hl : ms.length ≤ 100) {t : T} {x : Int} (H : Has ms [] t) (hw : (wayT t x).length ≤ ms.length) (hh : (wayH t x).length < 10000) (n : Nat) (M : List MO) :
    callN tab (n + 1) 22 [.d (.dict (mE ms)), .d (.int x)] M = some (.d (.tuple [.tuple ((wayM t x).map .int), .list (iL (wayH t x))]), M) := by
  obtain ⟨p', s5', s6', g⟩ := loop22 hm (x := x) (c := callN tab n) (M := M) t [] (iL (all_ (ms.length + 1))) [] [] .un .un H (by rw [iL_len, all_len]; omega) (by simp only [List.length_nil]; omega) (by simp only [List.length_nil]; omega) (by simp only [List.length_nil]; omega)
  have hlen : (mE ms).length = ms.length := List.length_map _
  have it : mItR (mRg1 (mOp gAdd (mBlt gLen (mCons (mVar 0) mNil)) (mC (.int 1)))) (callN tab n) [.d (.dict (mE ms)), .d (.int x), .d (pthD []), .ol [], .ol [], .un, .un] M = some (iL (all_ (ms.length + 1)), M) := by
    rw [itR (a := 0) (b := ((ms.length + 1 : Nat) : Int)) (M1 := M) (by simp only [hlen, Int.natCast_add, mSeq, mIfS, mRet, mDrop, mSet, mSetT, mSetL, mSetD, mFrz, mNext, mBk, mCt, mNever, mFor, mWhile, mVar, mC, mOp, mUn, mTru, mB, mOfT, mAnd, mOr, mNot, mIf, mAndV, mOrV, mNotV, mChain, mNil, mCons, mTup, mLst, mFz, mFzD, mDNew, mDGet, mDIn, mBlt, mBltL, mIsi, mNoO, mSomeO, mSl, mRg1, mRg2, mLstRg, mCall, mCallK, mItS, mItR, mItE, mLc, mLc2, mYes, mApp1, mExt, mPopW, mPopAtW, mSetIx, mDPut, mRf, mRfD, pE, pL, pD, mPs, mPar, putP, wE, bnd, pk, liftO, peek, dats, pks, getL, putLρ, putLM, getD, putDρ, putDM, argC, permL, slotA, outV, mFn, setTg, setTgs, gSeq, MO.look, MO.slot, truD, bolD, intD, Slot.own, noOwn, wipeS, capL, gAdd, DL.gSub, gMul, gDiv, gMod, gPow, gLt, gLe, gGt, gGe, gIs, gIsNot, gIx, gLen, gAbs, gMax2, gMin2, gInt, gList, gTuple, gNeg, gI0, gII, gSl, bodE, bodT, bodI, lcF, forGo, lim, Nat.zero_le, Nat.reduceLeDiff, List.map_cons, List.map_nil, List.cons_append, List.nil_append, List.append_nil, List.length_cons, List.length_nil, List.getElem?_cons_zero, List.getElem?_cons_succ, List.getElem?_nil, List.replicate_zero, List.replicate_succ, List.all_cons, List.all_nil, List.any_cons, List.any_nil, List.filterMap_cons, List.filterMap_nil, List.set_cons_zero, List.set_cons_succ, Bool.and_true, Bool.true_and, Bool.and_false, Bool.false_and, Bool.and_self, Bool.or_true, Bool.true_or, Bool.or_false, Bool.false_or, Bool.not_true, Bool.not_false, Nat.zero_add, Nat.add_zero, Nat.reduceAdd, Nat.reduceSub, Nat.reduceMul, Nat.reduceBEq, Nat.reduceEqDiff, Nat.reduceLT, Nat.sub_self, beq_self_eq_true, Option.map_some, Option.map_none, reduceIte, if_true, if_false, Bool.false_eq_true, decide_true, decide_false, reduceCtorEq, Int.reduceLE, Int.reduceLT, Int.reduceNeg, Int.reduceToNat, Int.reduceEq, Int.reducePow, Int.reduceDiv, Int.reduceAdd, Int.reduceSub, Int.reduceMul, true_and, and_true, List.isEmpty_nil, List.isEmpty_cons]; rfl) (okRg0 (by omega)), rg_all]
  have e : B22 (callN tab n) [.d (.dict (mE ms)), .d (.int x), .un, .un, .un, .un, .un] M = some (.rt (.d (.tuple [.tuple ((wayM t x).map .int), .list (iL (wayH t x))])), [.d (.dict (mE ms)), .d (.int x), .d (pthD p'), .ol ((wayM t x).map .int), .d (.list (iL (wayH t x))), s5', s6'], M) := by
    unfold B22
    rw [seq_nx (ρ1 := [.d (.dict (mE ms)), .d (.int x), .d (pthD []), .ol [], .ol [], .un, .un]) (M1 := M) (by simp only [mSeq, mIfS, mRet, mDrop, mSet, mSetT, mSetL, mSetD, mFrz, mNext, mBk, mCt, mNever, mFor, mWhile, mVar, mC, mOp, mUn, mTru, mB, mOfT, mAnd, mOr, mNot, mIf, mAndV, mOrV, mNotV, mChain, mNil, mCons, mTup, mLst, mFz, mFzD, mDNew, mDGet, mDIn, mBlt, mBltL, mIsi, mNoO, mSomeO, mSl, mRg1, mRg2, mLstRg, mCall, mCallK, mItS, mItR, mItE, mLc, mLc2, mYes, mApp1, mExt, mPopW, mPopAtW, mSetIx, mDPut, mRf, mRfD, pE, pL, pD, mPs, mPar, putP, wE, bnd, pk, liftO, peek, dats, pks, getL, putLρ, putLM, getD, putDρ, putDM, argC, permL, slotA, outV, mFn, setTg, setTgs, gSeq, MO.look, MO.slot, truD, bolD, intD, Slot.own, noOwn, wipeS, capL, gAdd, DL.gSub, gMul, gDiv, gMod, gPow, gLt, gLe, gGt, gGe, gIs, gIsNot, gIx, gLen, gAbs, gMax2, gMin2, gInt, gList, gTuple, gNeg, gI0, gII, gSl, bodE, bodT, bodI, lcF, forGo, lim, Nat.zero_le, Nat.reduceLeDiff, List.map_cons, List.map_nil, List.cons_append, List.nil_append, List.append_nil, List.length_cons, List.length_nil, List.getElem?_cons_zero, List.getElem?_cons_succ, List.getElem?_nil, List.replicate_zero, List.replicate_succ, List.all_cons, List.all_nil, List.any_cons, List.any_nil, List.filterMap_cons, List.filterMap_nil, List.set_cons_zero, List.set_cons_succ, Bool.and_true, Bool.true_and, Bool.and_false, Bool.false_and, Bool.and_self, Bool.or_true, Bool.true_or, Bool.or_false, Bool.false_or, Bool.not_true, Bool.not_false, Nat.zero_add, Nat.add_zero, Nat.reduceAdd, Nat.reduceSub, Nat.reduceMul, Nat.reduceBEq, Nat.reduceEqDiff, Nat.reduceLT, Nat.sub_self, beq_self_eq_true, Option.map_some, Option.map_none, reduceIte, if_true, if_false, Bool.false_eq_true, decide_true, decide_false, reduceCtorEq, Int.reduceLE, Int.reduceLT, Int.reduceNeg, Int.reduceToNat, Int.reduceEq, Int.reducePow, Int.reduceDiv, Int.reduceAdd, Int.reduceSub, Int.reduceMul, true_and, and_true, List.isEmpty_nil, List.isEmpty_cons]; rfl)]
    rw [seq_nx (ρ1 := [.d (.dict (mE ms)), .d (.int x), .d (pthD p'), .ol ((wayM t x).map .int), .ol (iL (wayH t x)), s5', s6']) (M1 := M) (by rw [for_eq it]; exact g)]
    simp only [mSeq, mIfS, mRet, mDrop, mSet, mSetT, mSetL, mSetD, mFrz, mNext, mBk, mCt, mNever, mFor, mWhile, mVar, mC, mOp, mUn, mTru, mB, mOfT, mAnd, mOr, mNot, mIf, mAndV, mOrV, mNotV, mChain, mNil, mCons, mTup, mLst, mFz, mFzD, mDNew, mDGet, mDIn, mBlt, mBltL, mIsi, mNoO, mSomeO, mSl, mRg1, mRg2, mLstRg, mCall, mCallK, mItS, mItR, mItE, mLc, mLc2, mYes, mApp1, mExt, mPopW, mPopAtW, mSetIx, mDPut, mRf, mRfD, pE, pL, pD, mPs, mPar, putP, wE, bnd, pk, liftO, peek, dats, pks, getL, putLρ, putLM, getD, putDρ, putDM, argC, permL, slotA, outV, mFn, setTg, setTgs, gSeq, MO.look, MO.slot, truD, bolD, intD, Slot.own, noOwn, wipeS, capL, gAdd, DL.gSub, gMul, gDiv, gMod, gPow, gLt, gLe, gGt, gGe, gIs, gIsNot, gIx, gLen, gAbs, gMax2, gMin2, gInt, gList, gTuple, gNeg, gI0, gII, gSl, bodE, bodT, bodI, lcF, forGo, lim, Nat.zero_le, Nat.reduceLeDiff, List.map_cons, List.map_nil, List.cons_append, List.nil_append, List.append_nil, List.length_cons, List.length_nil, List.getElem?_cons_zero, List.getElem?_cons_succ, List.getElem?_nil, List.replicate_zero, List.replicate_succ, List.all_cons, List.all_nil, List.any_cons, List.any_nil, List.filterMap_cons, List.filterMap_nil, List.set_cons_zero, List.set_cons_succ, Bool.and_true, Bool.true_and, Bool.and_false, Bool.false_and, Bool.and_self, Bool.or_true, Bool.true_or, Bool.or_false, Bool.false_or, Bool.not_true, Bool.not_false, Nat.zero_add, Nat.add_zero, Nat.reduceAdd, Nat.reduceSub, Nat.reduceMul, Nat.reduceBEq, Nat.reduceEqDiff, Nat.reduceLT, Nat.sub_self, beq_self_eq_true, Option.map_some, Option.map_none, reduceIte, if_true, if_false, Bool.false_eq_true, decide_true, decide_false, reduceCtorEq, Int.reduceLE, Int.reduceLT, Int.reduceNeg, Int.reduceToNat, Int.reduceEq, Int.reducePow, Int.reduceDiv, Int.reduceAdd, Int.reduceSub, Int.reduceMul, true_and, and_true, List.isEmpty_nil, List.isEmpty_cons]
  rw [at22, fn_rt (nl := N22.length) (b := B22) (c := callN tab n) (as := [.d (.dict (mE ms)), .d (.int x)]) e]
  rfl
end K03
set_option Elab.async false
set_option linter.all false
set_option maxRecDepth 100000
set_option maxHeartbeats 4000000
/-! k03: the tree, in plain -/
namespace K03
open PySem L2 DL
def entries : T → List Nat → Ms
  | .nil, p => [(p, .none)]
  | .nd m h l r, p => (p, .tuple [.int m, .tuple (iL h)]) :: (entries r (p ++ [1]) ++ entries l (p ++ [0]))
def seenT : T → List Nat
  | .nil => []
  | .nd _ h l r => h ++ (seenT r ++ seenT l)
theorem look_app {a b : Ms} {q : List Nat} {v : D} (h : lookM a q = some v) : lookM (a ++ b) q = some v := by
  unfold lookM at h ⊢
  rw [Option.map_eq_some_iff] at h ⊢
  obtain ⟨e, h1, h2⟩ := h
  exact ⟨e, by rw [List.find?_append, h1]; rfl, h2⟩
theorem look_skip {a b : Ms} {q : List Nat} (h : ∀ e ∈ a, e.1 ≠ q) : lookM (a ++ b) q = lookM b q := by
  unfold lookM
  rw [List.find?_append]
  have : a.find? (fun e => decide (e.1 = q)) = none := by
    rw [List.find?_eq_none]
    intro e he
    simpa using h e he
  rw [this]
  rfl
theorem has_app {a b : Ms} : ∀ {t : T} {p : List Nat}, Has a p t → Has (a ++ b) p t
  | .nil, _, h => look_app h
  | .nd _ _ _ _, _, ⟨h1, h2, h3⟩ => ⟨look_app h1, has_app h2, has_app h3⟩
theorem keys_ext : ∀ (t : T) (p : List Nat), ∀ e ∈ entries t p, p <+: e.1
  | .nil, p, e, h => by
    rw [entries, List.mem_singleton] at h
    rw [h]
    exact List.prefix_refl _
  | .nd m hh l r, p, e, h => by
    rw [entries] at h
    rcases List.mem_cons.mp h with h | h
    · rw [h]
      exact List.prefix_refl _
    · rcases List.mem_append.mp h with h | h
      · exact (List.prefix_append p [1]).trans (keys_ext r _ e h)
      · exact (List.prefix_append p [0]).trans (keys_ext l _ e h)
theorem not_both {p q : List Nat} (h1 : p ++ [1] <+: q) (h0 : p ++ [0] <+: q) : False := by
  obtain ⟨a, ha⟩ := h1
  obtain ⟨b, hb⟩ := h0
  rw [← hb, List.append_assoc, List.append_assoc] at ha
  have := List.append_cancel_left ha
  simp at this
theorem not_self {p : List Nat} {i : Nat} : ¬ p ++ [i] <+: p := fun h => by
  have := h.length_le
  rw [List.length_append, List.length_singleton] at this
  omega
theorem has_entries : ∀ (t : T) (p : List Nat) (ms : Ms), (∀ e ∈ ms, ¬ p <+: e.1) → Has (ms ++ entries t p) p t
  | .nil, p, ms, h => by
    show lookM _ p = _
    rw [look_skip fun e he z => h e he (by rw [z]; exact List.prefix_refl _)]
    simp [entries, lookM]
  | .nd m hh l r, p, ms, h => by
    have e1 : ms ++ entries (.nd m hh l r) p = ((ms ++ [(p, PyData.tuple [.int m, .tuple (iL hh)])]) ++ entries r (p ++ [1])) ++ entries l (p ++ [0]) := by
      rw [entries]
      simp
    refine ⟨?_, ?_, ?_⟩
    · rw [look_skip fun e he z => h e he (by rw [z]; exact List.prefix_refl _)]
      simp [entries, lookM]
    · rw [e1]
      refine has_entries l (p ++ [0]) _ fun e he z => ?_
      rcases List.mem_append.mp he with he | he
      · rcases List.mem_append.mp he with he | he
        · exact h e he ((List.prefix_append p [0]).trans z)
        · rw [List.mem_singleton.mp he] at z
          exact not_self z
      · exact not_both (keys_ext r _ e he) z
    · rw [e1]
      refine has_app (has_entries r (p ++ [1]) _ fun e he z => ?_)
      rcases List.mem_append.mp he with he | he
      · exact h e he ((List.prefix_append p [1]).trans z)
      · rw [List.mem_singleton.mp he] at z
        exact not_self z
theorem part3 {rs : List Row} (hr : OkR rs) (m : Int) : ∀ is : List Nat, (∀ k ∈ is, k < rs.length) → (is.filter (md rs m) ++ (is.filter (hi rs m) ++ is.filter (lo rs m))).Perm is
  | [], _ => List.Perm.refl _
  | k :: is, hk => by
    have ih := part3 hr m is fun j h => hk j (List.mem_cons_of_mem _ h)
    have o := hr.ok _ (at_mem (hk k List.mem_cons_self))
    by_cases h1 : (at_ rs k).2 < m
    · have e1 : lo rs m k = true := decide_eq_true h1
      have e2 : hi rs m k = false := decide_eq_false (by omega)
      have e3 : md rs m k = false := by unfold md; rw [e1]; rfl
      rw [List.filter_cons_of_neg (by rw [e3]; exact Bool.false_ne_true), List.filter_cons_of_neg (by rw [e2]; exact Bool.false_ne_true), List.filter_cons_of_pos e1, ← List.append_assoc]
      refine List.perm_middle.trans (List.Perm.cons k ?_)
      rw [List.append_assoc]
      exact ih
    · have e1 : lo rs m k = false := decide_eq_false h1
      by_cases h2 : m < (at_ rs k).1
      · have e2 : hi rs m k = true := decide_eq_true h2
        have e3 : md rs m k = false := by unfold md; rw [e1, e2]; rfl
        rw [List.filter_cons_of_neg (by rw [e3]; exact Bool.false_ne_true), List.filter_cons_of_pos e2, List.filter_cons_of_neg (by rw [e1]; exact Bool.false_ne_true), List.cons_append]
        exact List.perm_middle.trans (List.Perm.cons k ih)
      · have e2 : hi rs m k = false := decide_eq_false h2
        have e3 : md rs m k = true := by unfold md; rw [e1, e2]; rfl
        rw [List.filter_cons_of_pos e3, List.filter_cons_of_neg (by rw [e2]; exact Bool.false_ne_true), List.filter_cons_of_neg (by rw [e1]; exact Bool.false_ne_true), List.cons_append]
        exact List.Perm.cons k ih
theorem seen_perm {rs : List Row} (hr : OkR rs) : ∀ (N : Nat) (is : List Nat), is.length ≤ N → (∀ k ∈ is, k < rs.length) → (seenT (tr rs N is)).Perm is
  | 0, is, hl, _ => by
    rw [List.length_eq_zero_iff.mp (Nat.le_zero.mp hl)]
    exact List.Perm.refl _
  | N + 1, is, hl, hk => by
    by_cases z : is = []
    · rw [z, tr_nil]
      exact List.Perm.refl _
    · rw [tr_nd z, seenT]
      obtain ⟨k0, m0, z1, z2⟩ := mid_in hr z hk
      have q1 := seen_perm hr N (is.filter (lo rs (mid rs is))) (by have := filt_lt m0 z1; omega) fun k m => hk k (List.mem_filter.mp m).1
      have q2 := seen_perm hr N (is.filter (hi rs (mid rs is))) (by have := filt_lt m0 z2; omega) fun k m => hk k (List.mem_filter.mp m).1
      exact ((q2.append q1).append_left _).trans (part3 hr _ is hk)
end K03
set_option Elab.async false
set_option linter.all false
set_option maxRecDepth 100000
set_option maxHeartbeats 4000000
/-! k03: those stabbed stand on the way -/
namespace K03
open PySem L2 DL
theorem none_hi {rs : List Row} {m x : Int} (h : x ≤ m) (is : List Nat) : (is.filter (hi rs m)).filter (stab rs x) = [] := by
  rw [List.filter_filter, List.filter_eq_nil_iff]
  intro k _
  unfold hi stab
  simp only [Bool.and_eq_true, decide_eq_true_eq]
  omega
theorem none_lo {rs : List Row} {m x : Int} (h : m ≤ x) (is : List Nat) : (is.filter (lo rs m)).filter (stab rs x) = [] := by
  rw [List.filter_filter, List.filter_eq_nil_iff]
  intro k _
  unfold lo stab
  simp only [Bool.and_eq_true, decide_eq_true_eq]
  omega
theorem wayH_nd (m x : Int) (h : List Nat) (l r : T) : wayH (.nd m h l r) x = h ++ (if x = m then [] else if x < m then wayH l x else wayH r x) := by
  unfold wayH
  rw [wayT, List.flatMap_cons]
  split
  · rfl
  · split <;> rfl
theorem way_stab {rs : List Row} (hr : OkR rs) (x : Int) : ∀ (N : Nat) (is : List Nat), is.length ≤ N → (∀ k ∈ is, k < rs.length) → ((wayH (tr rs N is) x).filter (stab rs x)).Perm (is.filter (stab rs x))
  | 0, is, hl, _ => by
    rw [List.length_eq_zero_iff.mp (Nat.le_zero.mp hl)]
    exact List.Perm.refl _
  | N + 1, is, hl, hk => by
    by_cases z : is = []
    · rw [z, tr_nil]
      exact List.Perm.refl _
    · rw [tr_nd z, wayH_nd]
      obtain ⟨k0, m0, z1, z2⟩ := mid_in hr z hk
      have q1 := way_stab hr x N (is.filter (lo rs (mid rs is))) (by have := filt_lt m0 z1; omega) fun k m => hk k (List.mem_filter.mp m).1
      have q2 := way_stab hr x N (is.filter (hi rs (mid rs is))) (by have := filt_lt m0 z2; omega) fun k m => hk k (List.mem_filter.mp m).1
      have p3 := (part3 hr (mid rs is) is hk).filter (stab rs x)
      rw [List.filter_append, List.filter_append] at p3
      rw [List.filter_append]
      by_cases h1 : x = mid rs is
      · rw [if_pos h1]
        rw [none_hi (by omega), none_lo (by omega)] at p3
        exact p3
      · rw [if_neg h1]
        by_cases h2 : x < mid rs is
        · rw [if_pos h2]
          rw [none_hi (by omega), List.nil_append] at p3
          exact (q1.append_left _).trans p3
        · rw [if_neg h2]
          rw [none_lo (by omega), List.append_nil] at p3
          exact (q2.append_left _).trans p3
/-- the sorted ones are all that are stabbed -/
theorem met_all {rs : List Row} (hr : OkR rs) (x : Int) : sN ((wayH (tree rs) x).filter (stab rs x)) = iL ((all_ rs.length).filter (stab rs x)) :=
  sN_filter (way_stab hr x rs.length (all_ rs.length) (by rw [all_len]; exact Nat.le_refl _) fun k m => all_lt m)
theorem seen_all {rs : List Row} (hr : OkR rs) : sN (seenT (tree rs)) = iL (all_ rs.length) :=
  sN_all (seen_perm hr rs.length (all_ rs.length) (by rw [all_len]; exact Nat.le_refl _) fun k m => all_lt m)
end K03
set_option Elab.async false
set_option linter.all false
set_option maxRecDepth 100000
set_option maxHeartbeats 4000000
/-! k03: a turn of _law_tree_right -/
namespace K03
open PySem L2 DL
def iD (p : List Nat) (t : T) (is : List Nat) : D := .tuple [pthD p, tD t, .list (iL is)]
theorem last_ix (W : List D) (x : D) : (W ++ [x])[(W ++ [x]).length - 1]? = some x := by simp
theorem gEq_snoc {W : List D} {x : D} (h : okD (.list (W ++ [x])) = true) : gEq (.list (W ++ [x])) (.list []) = some (.bool false) := by
  rw [gEq_nil h]
  cases W <;> rfl
theorem turn_nil {rs : List Row} {tv : D} {W : List D} {p : List Nat} {ms : Ms} {seen : List Nat} {s5 s6 s7 s8 s9 s10 s11 : DL.Slot} (c : Call) (M : List MO) (hok : okD (.list (W ++ [iD p .nil []])) = true) (hms : ∀ e ∈ ms, e.1 ≠ p) (hl : ms.length < 1000) :
    F21_0 c [.d (rD rs), .d tv, .ol (W ++ [iD p .nil []]), .od true (mE ms), .ol (iL seen), s5, s6, s7, s8, s9, s10, s11, .un] M = some (.ct, [.d (rD rs), .d tv, .ol W, .od true (mE (ms ++ [(p, .none)])), .ol (iL seen), s5, .d (pthD p), .d .none, .d (.list []), s9, s10, s11, .un], M) := by
  have g1 := gEq_snoc hok
  have g2 := last_ix W (iD p .nil [])
  have g3 : (W ++ [iD p .nil []]).dropLast = W := List.dropLast_concat
  have g4 : gEq (.list []) (.list []) = some (.bool true) := by rfl
  have g5 := dPut_mE (v := .none) hms
  have g6 : (mE ms).length < 1000000 := by unfold mE; rw [List.length_map]; omega
  simp only [F21_0, g1, g2, g3, mSeq, mIfS, mRet, mDrop, mSet, mSetT, mSetL, mSetD, mFrz, mNext, mBk, mCt, mNever, mFor, mWhile, mVar, mC, mOp, mUn, mTru, mB, mOfT, mAnd, mOr, mNot, mIf, mAndV, mOrV, mNotV, mChain, mNil, mCons, mTup, mLst, mFz, mFzD, mDNew, mDGet, mDIn, mBlt, mBltL, mIsi, mNoO, mSomeO, mSl, mRg1, mRg2, mLstRg, mCall, mCallK, mItS, mItR, mItE, mLc, mLc2, mYes, mApp1, mExt, mPopW, mPopAtW, mSetIx, mDPut, mRf, mRfD, pE, pL, pD, mPs, mPar, putP, wE, bnd, pk, liftO, peek, dats, pks, getL, putLρ, putLM, getD, putDρ, putDM, argC, permL, slotA, outV, mFn, setTg, setTgs, gSeq, MO.look, MO.slot, truD, bolD, intD, Slot.own, noOwn, wipeS, capL, gAdd, DL.gSub, gMul, gDiv, gMod, gPow, gLt, gLe, gGt, gGe, gIs, gIsNot, gIx, gLen, gAbs, gMax2, gMin2, gInt, gList, gTuple, gNeg, gI0, gII, gSl, bodE, bodT, bodI, lcF, forGo, lim, Nat.zero_le, Nat.reduceLeDiff, List.map_cons, List.map_nil, List.cons_append, List.nil_append, List.append_nil, List.length_cons, List.length_nil, List.getElem?_cons_zero, List.getElem?_cons_succ, List.getElem?_nil, List.replicate_zero, List.replicate_succ, List.all_cons, List.all_nil, List.any_cons, List.any_nil, List.filterMap_cons, List.filterMap_nil, List.set_cons_zero, List.set_cons_succ, Bool.and_true, Bool.true_and, Bool.and_false, Bool.false_and, Bool.and_self, Bool.or_true, Bool.true_or, Bool.or_false, Bool.false_or, Bool.not_true, Bool.not_false, Nat.zero_add, Nat.add_zero, Nat.reduceAdd, Nat.reduceSub, Nat.reduceMul, Nat.reduceBEq, Nat.reduceEqDiff, Nat.reduceLT, Nat.sub_self, beq_self_eq_true, Option.map_some, Option.map_none, reduceIte, if_true, if_false, Bool.false_eq_true, decide_true, decide_false, reduceCtorEq, Int.reduceLE, Int.reduceLT, Int.reduceNeg, Int.reduceToNat, Int.reduceEq, Int.reducePow, Int.reduceDiv, Int.reduceAdd, Int.reduceSub, Int.reduceMul, true_and, and_true, List.isEmpty_nil, List.isEmpty_cons]
  simp only [iD, tD, iL, g4, g5, g6, isNone, mSeq, mIfS, mRet, mDrop, mSet, mSetT, mSetL, mSetD, mFrz, mNext, mBk, mCt, mNever, mFor, mWhile, mVar, mC, mOp, mUn, mTru, mB, mOfT, mAnd, mOr, mNot, mIf, mAndV, mOrV, mNotV, mChain, mNil, mCons, mTup, mLst, mFz, mFzD, mDNew, mDGet, mDIn, mBlt, mBltL, mIsi, mNoO, mSomeO, mSl, mRg1, mRg2, mLstRg, mCall, mCallK, mItS, mItR, mItE, mLc, mLc2, mYes, mApp1, mExt, mPopW, mPopAtW, mSetIx, mDPut, mRf, mRfD, pE, pL, pD, mPs, mPar, putP, wE, bnd, pk, liftO, peek, dats, pks, getL, putLρ, putLM, getD, putDρ, putDM, argC, permL, slotA, outV, mFn, setTg, setTgs, gSeq, MO.look, MO.slot, truD, bolD, intD, Slot.own, noOwn, wipeS, capL, gAdd, DL.gSub, gMul, gDiv, gMod, gPow, gLt, gLe, gGt, gGe, gIs, gIsNot, gIx, gLen, gAbs, gMax2, gMin2, gInt, gList, gTuple, gNeg, gI0, gII, gSl, bodE, bodT, bodI, lcF, forGo, lim, Nat.zero_le, Nat.reduceLeDiff, List.map_cons, List.map_nil, List.cons_append, List.nil_append, List.append_nil, List.length_cons, List.length_nil, List.getElem?_cons_zero, List.getElem?_cons_succ, List.getElem?_nil, List.replicate_zero, List.replicate_succ, List.all_cons, List.all_nil, List.any_cons, List.any_nil, List.filterMap_cons, List.filterMap_nil, List.set_cons_zero, List.set_cons_succ, Bool.and_true, Bool.true_and, Bool.and_false, Bool.false_and, Bool.and_self, Bool.or_true, Bool.true_or, Bool.or_false, Bool.false_or, Bool.not_true, Bool.not_false, Nat.zero_add, Nat.add_zero, Nat.reduceAdd, Nat.reduceSub, Nat.reduceMul, Nat.reduceBEq, Nat.reduceEqDiff, Nat.reduceLT, Nat.sub_self, beq_self_eq_true, Option.map_some, Option.map_none, reduceIte, if_true, if_false, Bool.false_eq_true, decide_true, decide_false, reduceCtorEq, Int.reduceLE, Int.reduceLT, Int.reduceNeg, Int.reduceToNat, Int.reduceEq, Int.reducePow, Int.reduceDiv, Int.reduceAdd, Int.reduceSub, Int.reduceMul, true_and, and_true, List.isEmpty_nil, List.isEmpty_cons]
end K03
set_option Elab.async false
set_option linter.all false
set_option maxRecDepth 100000
set_option maxHeartbeats 4000000
/-! k03: a turn of _law_tree_right at a node -/
namespace K03
open PySem L2 DL
theorem cat_eq {a b : LM} {c : Call} {ρ : List DL.Slot} {M M1 M2 : List MO} {xs ys : List D} (h : a c ρ M = some (xs, M1)) (h2 : b c ρ M1 = some (ys, M2)) (hl : xs.length + ys.length ≤ lim) : mCat a b c ρ M = some (xs ++ ys, M2) := by
  unfold mCat bnd
  simp only [h, h2]
  rw [if_pos hl]
def ends2 (rs : List Row) (is : List Nat) : List Int := is.map (fun k => (at_ rs k).1) ++ is.map fun k => (at_ rs k).2
theorem ends2_perm (rs : List Row) : ∀ is : List Nat, (ends2 rs is).Perm (ends rs is)
  | [] => List.Perm.refl _
  | k :: is => by
    have ih := ends2_perm rs is
    unfold ends2 ends at ih ⊢
    rw [List.map_cons, List.map_cons, List.flatMap_cons]
    show ((at_ rs k).1 :: (is.map (fun k => (at_ rs k).1) ++ (at_ rs k).2 :: is.map fun k => (at_ rs k).2)).Perm ((at_ rs k).1 :: (at_ rs k).2 :: _)
    exact (List.perm_middle.trans (ih.cons _)).cons _
theorem mid_at {rs : List Row} {is : List Nat} (e : is ≠ []) : atI ((PySem.W.sortI (ends2 rs is)).map PyData.int) ((((((PySem.W.sortI (ends2 rs is)).map PyData.int).length : Nat) : Int) - 1) / 2) = some (.int (mid rs is)) := by
  rw [sortI_eq (ends2_perm rs is)]
  have el : (((PySem.W.sortI (ends rs is)).map PyData.int).length) = 2 * is.length := by rw [List.length_map, (sortI_perm _).length_eq, ends_len]
  have ix := mid_ix (rs := rs) e
  have hp := List.length_pos_iff.mpr e
  have e3 : (((((PySem.W.sortI (ends rs is)).map PyData.int).length : Nat) : Int) - 1) / 2 = (((2 * is.length - 1) / 2 : Nat) : Int) := by rw [el]; omega
  rw [e3, atI_nat (by rw [List.length_map]; exact ix), List.getElem_map]
  unfold mid
  rw [List.getD_eq_getElem?_getD, List.getElem?_eq_getElem ix]
  rfl
theorem here_eq (rs : List Row) (m : Int) (is : List Nat) : is.filter (fun k => decide ((at_ rs k).1 ≤ m) && decide (m ≤ (at_ rs k).2)) = is.filter (md rs m) := by
  refine List.filter_congr fun k _ => ?_
  unfold md lo hi
  by_cases h1 : (at_ rs k).1 ≤ m <;> by_cases h2 : m ≤ (at_ rs k).2
  · rw [decide_eq_true h1, decide_eq_true h2, decide_eq_false (by omega), decide_eq_false (by omega)]
    rfl
  · rw [decide_eq_true h1, decide_eq_false h2, decide_eq_true (by omega)]
    rfl
  · rw [decide_eq_false h1, decide_eq_true h2, decide_eq_false (by omega), decide_eq_true (by omega)]
    rfl
  · rw [decide_eq_false h1, decide_eq_false h2, decide_eq_true (by omega)]
    rfl
theorem turn_nd {rs : List Row} (hr : OkR rs) {tv : D} {W : List D} {p : List Nat} {ms : Ms} {seen is : List Nat} {l r : T} {s5 s6 s7 s8 s9 s10 s11 : DL.Slot} (n : Nat) (M : List MO) (e : is ≠ []) (hk : ∀ k ∈ is, k < rs.length) (hil : is.length ≤ 24)
    (hok : okD (.list (W ++ [iD p (.nd (mid rs is) (is.filter (md rs (mid rs is))) l r) is])) = true) (hms : ∀ e ∈ ms, e.1 ≠ p) (hl : ms.length < 1000) (hs : seen.length < 1000) (hW : W.length < 1000) (hp : p.length < 1000) :
    F21_0 (callN tab (n + 3)) [.d (rD rs), .d tv, .ol (W ++ [iD p (.nd (mid rs is) (is.filter (md rs (mid rs is))) l r) is]), .od true (mE ms), .ol (iL seen), s5, s6, s7, s8, s9, s10, s11, .un] M =
      some (.nx, [.d (rD rs), .d tv, .ol (W ++ [iD (p ++ [0]) l (is.filter (lo rs (mid rs is))), iD (p ++ [1]) r (is.filter (hi rs (mid rs is)))]), .od true (mE (ms ++ [(p, .tuple [.int (mid rs is), .tuple (iL (is.filter (md rs (mid rs is))))])])), .ol (iL (seen ++ is.filter (md rs (mid rs is)))), s5, .d (pthD p), .d (tD (.nd (mid rs is) (is.filter (md rs (mid rs is))) l r)), .d (.list (iL is)), .ol ((PySem.W.sortI (ends2 rs is)).map .int), .d (.int (mid rs is)), .d (.tuple (iL (is.filter (md rs (mid rs is))))), .un], M) := by
  have g1 := gEq_snoc hok
  have g2 := last_ix W (iD p (.nd (mid rs is) (is.filter (md rs (mid rs is))) l r) is)
  have g3 : (W ++ [iD p (.nd (mid rs is) (is.filter (md rs (mid rs is))) l r) is]).dropLast = W := List.dropLast_concat
  have g4 : gEq (.list (iL is)) (.list []) = some (.bool false) := by
    rw [gEq_nil (iL_ok is)]
    cases is with
    | nil => exact absurd rfl e
    | cons => rfl
  have hw : ∀ k ∈ is, atI (rs.map pr) (k : Int) = some (pr (at_ rs k)) := fun k m => row_at (hk k m)
  have l0 : ∀ f : Nat → D, (is.map f).length ≤ 1000000 := fun f => by rw [List.length_map]; omega
  generalize hS : ([.d (rD rs), .d tv, .ol W, .od true (mE ms), .ol (iL seen), s5, .d (pthD p), .d (tD (.nd (mid rs is) (is.filter (md rs (mid rs is))) l r)), .d (.list (iL is)), s9, s10, s11, .un] : List DL.Slot) = ρ0
  have cA : mLc (mItS (mVar 8)) (.name 12) [12] mYes (mOp gIx (mOp gIx (mVar 0) (mVar 12)) (mC (.int 0))) (callN tab (n + 3)) ρ0 M = some (is.map fun k => .int (at_ rs k).1, M) := by
    subst hS
    have hi : mItS (mVar 8) (callN tab (n + 3)) [.d (rD rs), .d tv, .ol W, .od true (mE ms), .ol (iL seen), s5, .d (pthD p), .d (tD (.nd (mid rs is) (is.filter (md rs (mid rs is))) l r)), .d (.list (iL is)), s9, s10, s11, .un] M = some (iL is, M) := by simp only [mSeq, mIfS, mRet, mDrop, mSet, mSetT, mSetL, mSetD, mFrz, mNext, mBk, mCt, mNever, mFor, mWhile, mVar, mC, mOp, mUn, mTru, mB, mOfT, mAnd, mOr, mNot, mIf, mAndV, mOrV, mNotV, mChain, mNil, mCons, mTup, mLst, mFz, mFzD, mDNew, mDGet, mDIn, mBlt, mBltL, mIsi, mNoO, mSomeO, mSl, mRg1, mRg2, mLstRg, mCall, mCallK, mItS, mItR, mItE, mLc, mLc2, mYes, mApp1, mExt, mPopW, mPopAtW, mSetIx, mDPut, mRf, mRfD, pE, pL, pD, mPs, mPar, putP, wE, bnd, pk, liftO, peek, dats, pks, getL, putLρ, putLM, getD, putDρ, putDM, argC, permL, slotA, outV, mFn, setTg, setTgs, gSeq, MO.look, MO.slot, truD, bolD, intD, Slot.own, noOwn, wipeS, capL, gAdd, DL.gSub, gMul, gDiv, gMod, gPow, gLt, gLe, gGt, gGe, gIs, gIsNot, gIx, gLen, gAbs, gMax2, gMin2, gInt, gList, gTuple, gNeg, gI0, gII, gSl, bodE, bodT, bodI, lcF, forGo, lim, Nat.zero_le, Nat.reduceLeDiff, List.map_cons, List.map_nil, List.cons_append, List.nil_append, List.append_nil, List.length_cons, List.length_nil, List.getElem?_cons_zero, List.getElem?_cons_succ, List.getElem?_nil, List.replicate_zero, List.replicate_succ, List.all_cons, List.all_nil, List.any_cons, List.any_nil, List.filterMap_cons, List.filterMap_nil, List.set_cons_zero, List.set_cons_succ, Bool.and_true, Bool.true_and, Bool.and_false, Bool.false_and, Bool.and_self, Bool.or_true, Bool.true_or, Bool.or_false, Bool.false_or, Bool.not_true, Bool.not_false, Nat.zero_add, Nat.add_zero, Nat.reduceAdd, Nat.reduceSub, Nat.reduceMul, Nat.reduceBEq, Nat.reduceEqDiff, Nat.reduceLT, Nat.sub_self, beq_self_eq_true, Option.map_some, Option.map_none, reduceIte, if_true, if_false, Bool.false_eq_true, decide_true, decide_false, reduceCtorEq, Int.reduceLE, Int.reduceLT, Int.reduceNeg, Int.reduceToNat, Int.reduceEq, Int.reducePow, Int.reduceDiv, Int.reduceAdd, Int.reduceSub, Int.reduceMul, true_and, and_true, List.isEmpty_nil, List.isEmpty_cons]
    rw [lc_eq hi rfl, lcF_mapN (g := fun k => .int (at_ rs k).1)]
    · simp only [l0, mSeq, mIfS, mRet, mDrop, mSet, mSetT, mSetL, mSetD, mFrz, mNext, mBk, mCt, mNever, mFor, mWhile, mVar, mC, mOp, mUn, mTru, mB, mOfT, mAnd, mOr, mNot, mIf, mAndV, mOrV, mNotV, mChain, mNil, mCons, mTup, mLst, mFz, mFzD, mDNew, mDGet, mDIn, mBlt, mBltL, mIsi, mNoO, mSomeO, mSl, mRg1, mRg2, mLstRg, mCall, mCallK, mItS, mItR, mItE, mLc, mLc2, mYes, mApp1, mExt, mPopW, mPopAtW, mSetIx, mDPut, mRf, mRfD, pE, pL, pD, mPs, mPar, putP, wE, bnd, pk, liftO, peek, dats, pks, getL, putLρ, putLM, getD, putDρ, putDM, argC, permL, slotA, outV, mFn, setTg, setTgs, gSeq, MO.look, MO.slot, truD, bolD, intD, Slot.own, noOwn, wipeS, capL, gAdd, DL.gSub, gMul, gDiv, gMod, gPow, gLt, gLe, gGt, gGe, gIs, gIsNot, gIx, gLen, gAbs, gMax2, gMin2, gInt, gList, gTuple, gNeg, gI0, gII, gSl, bodE, bodT, bodI, lcF, forGo, lim, Nat.zero_le, Nat.reduceLeDiff, List.map_cons, List.map_nil, List.cons_append, List.nil_append, List.append_nil, List.length_cons, List.length_nil, List.getElem?_cons_zero, List.getElem?_cons_succ, List.getElem?_nil, List.replicate_zero, List.replicate_succ, List.all_cons, List.all_nil, List.any_cons, List.any_nil, List.filterMap_cons, List.filterMap_nil, List.set_cons_zero, List.set_cons_succ, Bool.and_true, Bool.true_and, Bool.and_false, Bool.false_and, Bool.and_self, Bool.or_true, Bool.true_or, Bool.or_false, Bool.false_or, Bool.not_true, Bool.not_false, Nat.zero_add, Nat.add_zero, Nat.reduceAdd, Nat.reduceSub, Nat.reduceMul, Nat.reduceBEq, Nat.reduceEqDiff, Nat.reduceLT, Nat.sub_self, beq_self_eq_true, Option.map_some, Option.map_none, reduceIte, if_true, if_false, Bool.false_eq_true, decide_true, decide_false, reduceCtorEq, Int.reduceLE, Int.reduceLT, Int.reduceNeg, Int.reduceToNat, Int.reduceEq, Int.reducePow, Int.reduceDiv, Int.reduceAdd, Int.reduceSub, Int.reduceMul, true_and, and_true, List.isEmpty_nil, List.isEmpty_cons]
    · intro k m
      simp only [rD, hw k m, pr, pr0, mSeq, mIfS, mRet, mDrop, mSet, mSetT, mSetL, mSetD, mFrz, mNext, mBk, mCt, mNever, mFor, mWhile, mVar, mC, mOp, mUn, mTru, mB, mOfT, mAnd, mOr, mNot, mIf, mAndV, mOrV, mNotV, mChain, mNil, mCons, mTup, mLst, mFz, mFzD, mDNew, mDGet, mDIn, mBlt, mBltL, mIsi, mNoO, mSomeO, mSl, mRg1, mRg2, mLstRg, mCall, mCallK, mItS, mItR, mItE, mLc, mLc2, mYes, mApp1, mExt, mPopW, mPopAtW, mSetIx, mDPut, mRf, mRfD, pE, pL, pD, mPs, mPar, putP, wE, bnd, pk, liftO, peek, dats, pks, getL, putLρ, putLM, getD, putDρ, putDM, argC, permL, slotA, outV, mFn, setTg, setTgs, gSeq, MO.look, MO.slot, truD, bolD, intD, Slot.own, noOwn, wipeS, capL, gAdd, DL.gSub, gMul, gDiv, gMod, gPow, gLt, gLe, gGt, gGe, gIs, gIsNot, gIx, gLen, gAbs, gMax2, gMin2, gInt, gList, gTuple, gNeg, gI0, gII, gSl, bodE, bodT, bodI, lcF, forGo, lim, Nat.zero_le, Nat.reduceLeDiff, List.map_cons, List.map_nil, List.cons_append, List.nil_append, List.append_nil, List.length_cons, List.length_nil, List.getElem?_cons_zero, List.getElem?_cons_succ, List.getElem?_nil, List.replicate_zero, List.replicate_succ, List.all_cons, List.all_nil, List.any_cons, List.any_nil, List.filterMap_cons, List.filterMap_nil, List.set_cons_zero, List.set_cons_succ, Bool.and_true, Bool.true_and, Bool.and_false, Bool.false_and, Bool.and_self, Bool.or_true, Bool.true_or, Bool.or_false, Bool.false_or, Bool.not_true, Bool.not_false, Nat.zero_add, Nat.add_zero, Nat.reduceAdd, Nat.reduceSub, Nat.reduceMul, Nat.reduceBEq, Nat.reduceEqDiff, Nat.reduceLT, Nat.sub_self, beq_self_eq_true, Option.map_some, Option.map_none, reduceIte, if_true, if_false, Bool.false_eq_true, decide_true, decide_false, reduceCtorEq, Int.reduceLE, Int.reduceLT, Int.reduceNeg, Int.reduceToNat, Int.reduceEq, Int.reducePow, Int.reduceDiv, Int.reduceAdd, Int.reduceSub, Int.reduceMul, true_and, and_true, List.isEmpty_nil, List.isEmpty_cons]
  have cB : mLc (mItS (mVar 8)) (.name 12) [12] mYes (mOp gIx (mOp gIx (mVar 0) (mVar 12)) (mC (.int 1))) (callN tab (n + 3)) ρ0 M = some (is.map fun k => .int (at_ rs k).2, M) := by
    subst hS
    have hi : mItS (mVar 8) (callN tab (n + 3)) [.d (rD rs), .d tv, .ol W, .od true (mE ms), .ol (iL seen), s5, .d (pthD p), .d (tD (.nd (mid rs is) (is.filter (md rs (mid rs is))) l r)), .d (.list (iL is)), s9, s10, s11, .un] M = some (iL is, M) := by simp only [mSeq, mIfS, mRet, mDrop, mSet, mSetT, mSetL, mSetD, mFrz, mNext, mBk, mCt, mNever, mFor, mWhile, mVar, mC, mOp, mUn, mTru, mB, mOfT, mAnd, mOr, mNot, mIf, mAndV, mOrV, mNotV, mChain, mNil, mCons, mTup, mLst, mFz, mFzD, mDNew, mDGet, mDIn, mBlt, mBltL, mIsi, mNoO, mSomeO, mSl, mRg1, mRg2, mLstRg, mCall, mCallK, mItS, mItR, mItE, mLc, mLc2, mYes, mApp1, mExt, mPopW, mPopAtW, mSetIx, mDPut, mRf, mRfD, pE, pL, pD, mPs, mPar, putP, wE, bnd, pk, liftO, peek, dats, pks, getL, putLρ, putLM, getD, putDρ, putDM, argC, permL, slotA, outV, mFn, setTg, setTgs, gSeq, MO.look, MO.slot, truD, bolD, intD, Slot.own, noOwn, wipeS, capL, gAdd, DL.gSub, gMul, gDiv, gMod, gPow, gLt, gLe, gGt, gGe, gIs, gIsNot, gIx, gLen, gAbs, gMax2, gMin2, gInt, gList, gTuple, gNeg, gI0, gII, gSl, bodE, bodT, bodI, lcF, forGo, lim, Nat.zero_le, Nat.reduceLeDiff, List.map_cons, List.map_nil, List.cons_append, List.nil_append, List.append_nil, List.length_cons, List.length_nil, List.getElem?_cons_zero, List.getElem?_cons_succ, List.getElem?_nil, List.replicate_zero, List.replicate_succ, List.all_cons, List.all_nil, List.any_cons, List.any_nil, List.filterMap_cons, List.filterMap_nil, List.set_cons_zero, List.set_cons_succ, Bool.and_true, Bool.true_and, Bool.and_false, Bool.false_and, Bool.and_self, Bool.or_true, Bool.true_or, Bool.or_false, Bool.false_or, Bool.not_true, Bool.not_false, Nat.zero_add, Nat.add_zero, Nat.reduceAdd, Nat.reduceSub, Nat.reduceMul, Nat.reduceBEq, Nat.reduceEqDiff, Nat.reduceLT, Nat.sub_self, beq_self_eq_true, Option.map_some, Option.map_none, reduceIte, if_true, if_false, Bool.false_eq_true, decide_true, decide_false, reduceCtorEq, Int.reduceLE, Int.reduceLT, Int.reduceNeg, Int.reduceToNat, Int.reduceEq, Int.reducePow, Int.reduceDiv, Int.reduceAdd, Int.reduceSub, Int.reduceMul, true_and, and_true, List.isEmpty_nil, List.isEmpty_cons]
    rw [lc_eq hi rfl, lcF_mapN (g := fun k => .int (at_ rs k).2)]
    · simp only [l0, mSeq, mIfS, mRet, mDrop, mSet, mSetT, mSetL, mSetD, mFrz, mNext, mBk, mCt, mNever, mFor, mWhile, mVar, mC, mOp, mUn, mTru, mB, mOfT, mAnd, mOr, mNot, mIf, mAndV, mOrV, mNotV, mChain, mNil, mCons, mTup, mLst, mFz, mFzD, mDNew, mDGet, mDIn, mBlt, mBltL, mIsi, mNoO, mSomeO, mSl, mRg1, mRg2, mLstRg, mCall, mCallK, mItS, mItR, mItE, mLc, mLc2, mYes, mApp1, mExt, mPopW, mPopAtW, mSetIx, mDPut, mRf, mRfD, pE, pL, pD, mPs, mPar, putP, wE, bnd, pk, liftO, peek, dats, pks, getL, putLρ, putLM, getD, putDρ, putDM, argC, permL, slotA, outV, mFn, setTg, setTgs, gSeq, MO.look, MO.slot, truD, bolD, intD, Slot.own, noOwn, wipeS, capL, gAdd, DL.gSub, gMul, gDiv, gMod, gPow, gLt, gLe, gGt, gGe, gIs, gIsNot, gIx, gLen, gAbs, gMax2, gMin2, gInt, gList, gTuple, gNeg, gI0, gII, gSl, bodE, bodT, bodI, lcF, forGo, lim, Nat.zero_le, Nat.reduceLeDiff, List.map_cons, List.map_nil, List.cons_append, List.nil_append, List.append_nil, List.length_cons, List.length_nil, List.getElem?_cons_zero, List.getElem?_cons_succ, List.getElem?_nil, List.replicate_zero, List.replicate_succ, List.all_cons, List.all_nil, List.any_cons, List.any_nil, List.filterMap_cons, List.filterMap_nil, List.set_cons_zero, List.set_cons_succ, Bool.and_true, Bool.true_and, Bool.and_false, Bool.false_and, Bool.and_self, Bool.or_true, Bool.true_or, Bool.or_false, Bool.false_or, Bool.not_true, Bool.not_false, Nat.zero_add, Nat.add_zero, Nat.reduceAdd, Nat.reduceSub, Nat.reduceMul, Nat.reduceBEq, Nat.reduceEqDiff, Nat.reduceLT, Nat.sub_self, beq_self_eq_true, Option.map_some, Option.map_none, reduceIte, if_true, if_false, Bool.false_eq_true, decide_true, decide_false, reduceCtorEq, Int.reduceLE, Int.reduceLT, Int.reduceNeg, Int.reduceToNat, Int.reduceEq, Int.reducePow, Int.reduceDiv, Int.reduceAdd, Int.reduceSub, Int.reduceMul, true_and, and_true, List.isEmpty_nil, List.isEmpty_cons]
    · intro k m
      simp only [rD, hw k m, pr, pr1, mSeq, mIfS, mRet, mDrop, mSet, mSetT, mSetL, mSetD, mFrz, mNext, mBk, mCt, mNever, mFor, mWhile, mVar, mC, mOp, mUn, mTru, mB, mOfT, mAnd, mOr, mNot, mIf, mAndV, mOrV, mNotV, mChain, mNil, mCons, mTup, mLst, mFz, mFzD, mDNew, mDGet, mDIn, mBlt, mBltL, mIsi, mNoO, mSomeO, mSl, mRg1, mRg2, mLstRg, mCall, mCallK, mItS, mItR, mItE, mLc, mLc2, mYes, mApp1, mExt, mPopW, mPopAtW, mSetIx, mDPut, mRf, mRfD, pE, pL, pD, mPs, mPar, putP, wE, bnd, pk, liftO, peek, dats, pks, getL, putLρ, putLM, getD, putDρ, putDM, argC, permL, slotA, outV, mFn, setTg, setTgs, gSeq, MO.look, MO.slot, truD, bolD, intD, Slot.own, noOwn, wipeS, capL, gAdd, DL.gSub, gMul, gDiv, gMod, gPow, gLt, gLe, gGt, gGe, gIs, gIsNot, gIx, gLen, gAbs, gMax2, gMin2, gInt, gList, gTuple, gNeg, gI0, gII, gSl, bodE, bodT, bodI, lcF, forGo, lim, Nat.zero_le, Nat.reduceLeDiff, List.map_cons, List.map_nil, List.cons_append, List.nil_append, List.append_nil, List.length_cons, List.length_nil, List.getElem?_cons_zero, List.getElem?_cons_succ, List.getElem?_nil, List.replicate_zero, List.replicate_succ, List.all_cons, List.all_nil, List.any_cons, List.any_nil, List.filterMap_cons, List.filterMap_nil, List.set_cons_zero, List.set_cons_succ, Bool.and_true, Bool.true_and, Bool.and_false, Bool.false_and, Bool.and_self, Bool.or_true, Bool.true_or, Bool.or_false, Bool.false_or, Bool.not_true, Bool.not_false, Nat.zero_add, Nat.add_zero, Nat.reduceAdd, Nat.reduceSub, Nat.reduceMul, Nat.reduceBEq, Nat.reduceEqDiff, Nat.reduceLT, Nat.sub_self, beq_self_eq_true, Option.map_some, Option.map_none, reduceIte, if_true, if_false, Bool.false_eq_true, decide_true, decide_false, reduceCtorEq, Int.reduceLE, Int.reduceLT, Int.reduceNeg, Int.reduceToNat, Int.reduceEq, Int.reducePow, Int.reduceDiv, Int.reduceAdd, Int.reduceSub, Int.reduceMul, true_and, and_true, List.isEmpty_nil, List.isEmpty_cons]
  have ee : (is.map (fun k => PyData.int (at_ rs k).1) ++ is.map fun k => PyData.int (at_ rs k).2) = (ends2 rs is).map .int := by
    unfold ends2
    rw [List.map_append, List.map_map, List.map_map]
    rfl
  have cC := cat_eq cA cB (by rw [List.length_map, List.length_map]; unfold lim; omega)
  rw [ee] at cC
  have hm := mid_at (rs := rs) e
  unfold F21_0
  rw [seq_nx (ρ1 := [.d (rD rs), .d tv, .ol (W ++ [iD p (.nd (mid rs is) (is.filter (md rs (mid rs is))) l r) is]), .od true (mE ms), .ol (iL seen), s5, s6, s7, s8, s9, s10, s11, .un]) (M1 := M) (by simp only [g1, mSeq, mIfS, mRet, mDrop, mSet, mSetT, mSetL, mSetD, mFrz, mNext, mBk, mCt, mNever, mFor, mWhile, mVar, mC, mOp, mUn, mTru, mB, mOfT, mAnd, mOr, mNot, mIf, mAndV, mOrV, mNotV, mChain, mNil, mCons, mTup, mLst, mFz, mFzD, mDNew, mDGet, mDIn, mBlt, mBltL, mIsi, mNoO, mSomeO, mSl, mRg1, mRg2, mLstRg, mCall, mCallK, mItS, mItR, mItE, mLc, mLc2, mYes, mApp1, mExt, mPopW, mPopAtW, mSetIx, mDPut, mRf, mRfD, pE, pL, pD, mPs, mPar, putP, wE, bnd, pk, liftO, peek, dats, pks, getL, putLρ, putLM, getD, putDρ, putDM, argC, permL, slotA, outV, mFn, setTg, setTgs, gSeq, MO.look, MO.slot, truD, bolD, intD, Slot.own, noOwn, wipeS, capL, gAdd, DL.gSub, gMul, gDiv, gMod, gPow, gLt, gLe, gGt, gGe, gIs, gIsNot, gIx, gLen, gAbs, gMax2, gMin2, gInt, gList, gTuple, gNeg, gI0, gII, gSl, bodE, bodT, bodI, lcF, forGo, lim, Nat.zero_le, Nat.reduceLeDiff, List.map_cons, List.map_nil, List.cons_append, List.nil_append, List.append_nil, List.length_cons, List.length_nil, List.getElem?_cons_zero, List.getElem?_cons_succ, List.getElem?_nil, List.replicate_zero, List.replicate_succ, List.all_cons, List.all_nil, List.any_cons, List.any_nil, List.filterMap_cons, List.filterMap_nil, List.set_cons_zero, List.set_cons_succ, Bool.and_true, Bool.true_and, Bool.and_false, Bool.false_and, Bool.and_self, Bool.or_true, Bool.true_or, Bool.or_false, Bool.false_or, Bool.not_true, Bool.not_false, Nat.zero_add, Nat.add_zero, Nat.reduceAdd, Nat.reduceSub, Nat.reduceMul, Nat.reduceBEq, Nat.reduceEqDiff, Nat.reduceLT, Nat.sub_self, beq_self_eq_true, Option.map_some, Option.map_none, reduceIte, if_true, if_false, Bool.false_eq_true, decide_true, decide_false, reduceCtorEq, Int.reduceLE, Int.reduceLT, Int.reduceNeg, Int.reduceToNat, Int.reduceEq, Int.reducePow, Int.reduceDiv, Int.reduceAdd, Int.reduceSub, Int.reduceMul, true_and, and_true, List.isEmpty_nil, List.isEmpty_cons])]
  rw [seq_nx (ρ1 := ρ0) (M1 := M) (by rw [← hS]; simp only [g2, g3, mSeq, mIfS, mRet, mDrop, mSet, mSetT, mSetL, mSetD, mFrz, mNext, mBk, mCt, mNever, mFor, mWhile, mVar, mC, mOp, mUn, mTru, mB, mOfT, mAnd, mOr, mNot, mIf, mAndV, mOrV, mNotV, mChain, mNil, mCons, mTup, mLst, mFz, mFzD, mDNew, mDGet, mDIn, mBlt, mBltL, mIsi, mNoO, mSomeO, mSl, mRg1, mRg2, mLstRg, mCall, mCallK, mItS, mItR, mItE, mLc, mLc2, mYes, mApp1, mExt, mPopW, mPopAtW, mSetIx, mDPut, mRf, mRfD, pE, pL, pD, mPs, mPar, putP, wE, bnd, pk, liftO, peek, dats, pks, getL, putLρ, putLM, getD, putDρ, putDM, argC, permL, slotA, outV, mFn, setTg, setTgs, gSeq, MO.look, MO.slot, truD, bolD, intD, Slot.own, noOwn, wipeS, capL, gAdd, DL.gSub, gMul, gDiv, gMod, gPow, gLt, gLe, gGt, gGe, gIs, gIsNot, gIx, gLen, gAbs, gMax2, gMin2, gInt, gList, gTuple, gNeg, gI0, gII, gSl, bodE, bodT, bodI, lcF, forGo, lim, Nat.zero_le, Nat.reduceLeDiff, List.map_cons, List.map_nil, List.cons_append, List.nil_append, List.append_nil, List.length_cons, List.length_nil, List.getElem?_cons_zero, List.getElem?_cons_succ, List.getElem?_nil, List.replicate_zero, List.replicate_succ, List.all_cons, List.all_nil, List.any_cons, List.any_nil, List.filterMap_cons, List.filterMap_nil, List.set_cons_zero, List.set_cons_succ, Bool.and_true, Bool.true_and, Bool.and_false, Bool.false_and, Bool.and_self, Bool.or_true, Bool.true_or, Bool.or_false, Bool.false_or, Bool.not_true, Bool.not_false, Nat.zero_add, Nat.add_zero, Nat.reduceAdd, Nat.reduceSub, Nat.reduceMul, Nat.reduceBEq, Nat.reduceEqDiff, Nat.reduceLT, Nat.sub_self, beq_self_eq_true, Option.map_some, Option.map_none, reduceIte, if_true, if_false, Bool.false_eq_true, decide_true, decide_false, reduceCtorEq, Int.reduceLE, Int.reduceLT, Int.reduceNeg, Int.reduceToNat, Int.reduceEq, Int.reducePow, Int.reduceDiv, Int.reduceAdd, Int.reduceSub, Int.reduceMul, true_and, and_true, List.isEmpty_nil, List.isEmpty_cons]; rfl)]
  rw [seq_nx (ρ1 := ρ0) (M1 := M) (by rw [← hS]; simp only [g4, mSeq, mIfS, mRet, mDrop, mSet, mSetT, mSetL, mSetD, mFrz, mNext, mBk, mCt, mNever, mFor, mWhile, mVar, mC, mOp, mUn, mTru, mB, mOfT, mAnd, mOr, mNot, mIf, mAndV, mOrV, mNotV, mChain, mNil, mCons, mTup, mLst, mFz, mFzD, mDNew, mDGet, mDIn, mBlt, mBltL, mIsi, mNoO, mSomeO, mSl, mRg1, mRg2, mLstRg, mCall, mCallK, mItS, mItR, mItE, mLc, mLc2, mYes, mApp1, mExt, mPopW, mPopAtW, mSetIx, mDPut, mRf, mRfD, pE, pL, pD, mPs, mPar, putP, wE, bnd, pk, liftO, peek, dats, pks, getL, putLρ, putLM, getD, putDρ, putDM, argC, permL, slotA, outV, mFn, setTg, setTgs, gSeq, MO.look, MO.slot, truD, bolD, intD, Slot.own, noOwn, wipeS, capL, gAdd, DL.gSub, gMul, gDiv, gMod, gPow, gLt, gLe, gGt, gGe, gIs, gIsNot, gIx, gLen, gAbs, gMax2, gMin2, gInt, gList, gTuple, gNeg, gI0, gII, gSl, bodE, bodT, bodI, lcF, forGo, lim, Nat.zero_le, Nat.reduceLeDiff, List.map_cons, List.map_nil, List.cons_append, List.nil_append, List.append_nil, List.length_cons, List.length_nil, List.getElem?_cons_zero, List.getElem?_cons_succ, List.getElem?_nil, List.replicate_zero, List.replicate_succ, List.all_cons, List.all_nil, List.any_cons, List.any_nil, List.filterMap_cons, List.filterMap_nil, List.set_cons_zero, List.set_cons_succ, Bool.and_true, Bool.true_and, Bool.and_false, Bool.false_and, Bool.and_self, Bool.or_true, Bool.true_or, Bool.or_false, Bool.false_or, Bool.not_true, Bool.not_false, Nat.zero_add, Nat.add_zero, Nat.reduceAdd, Nat.reduceSub, Nat.reduceMul, Nat.reduceBEq, Nat.reduceEqDiff, Nat.reduceLT, Nat.sub_self, beq_self_eq_true, Option.map_some, Option.map_none, reduceIte, if_true, if_false, Bool.false_eq_true, decide_true, decide_false, reduceCtorEq, Int.reduceLE, Int.reduceLT, Int.reduceNeg, Int.reduceToNat, Int.reduceEq, Int.reducePow, Int.reduceDiv, Int.reduceAdd, Int.reduceSub, Int.reduceMul, true_and, and_true, List.isEmpty_nil, List.isEmpty_cons])]
  -- ends, middle
  have hS9 : mSetL 9 (mBltL gSortedI (mCons (mFz (mCat (mLc (mItS (mVar 8)) (.name 12) [12] mYes (mOp gIx (mOp gIx (mVar 0) (mVar 12)) (mC (.int 0)))) (mLc (mItS (mVar 8)) (.name 12) [12] mYes (mOp gIx (mOp gIx (mVar 0) (mVar 12)) (mC (.int 1)))))) mNil)) (callN tab (n + 3)) ρ0 M = some (.nx, ρ0.set 9 (.ol ((PySem.W.sortI (ends2 rs is)).map .int)), M) := by
    unfold mSetL mBltL mCons mFz bnd
    simp only [cC, mNil, bnd, pks, peek, Option.map_some, liftO, gSortedI_map]
  rw [seq_nx hS9, ← hS]
  simp only [List.set_cons_succ, List.set_cons_zero]
  rw [seq_nx (ρ1 := [.d (rD rs), .d tv, .ol W, .od true (mE ms), .ol (iL seen), s5, .d (pthD p), .d (tD (.nd (mid rs is) (is.filter (md rs (mid rs is))) l r)), .d (.list (iL is)), .ol ((PySem.W.sortI (ends2 rs is)).map .int), .d (.int (mid rs is)), s11, .un]) (M1 := M) (by simp only [hm, mSeq, mIfS, mRet, mDrop, mSet, mSetT, mSetL, mSetD, mFrz, mNext, mBk, mCt, mNever, mFor, mWhile, mVar, mC, mOp, mUn, mTru, mB, mOfT, mAnd, mOr, mNot, mIf, mAndV, mOrV, mNotV, mChain, mNil, mCons, mTup, mLst, mFz, mFzD, mDNew, mDGet, mDIn, mBlt, mBltL, mIsi, mNoO, mSomeO, mSl, mRg1, mRg2, mLstRg, mCall, mCallK, mItS, mItR, mItE, mLc, mLc2, mYes, mApp1, mExt, mPopW, mPopAtW, mSetIx, mDPut, mRf, mRfD, pE, pL, pD, mPs, mPar, putP, wE, bnd, pk, liftO, peek, dats, pks, getL, putLρ, putLM, getD, putDρ, putDM, argC, permL, slotA, outV, mFn, setTg, setTgs, gSeq, MO.look, MO.slot, truD, bolD, intD, Slot.own, noOwn, wipeS, capL, gAdd, DL.gSub, gMul, gDiv, gMod, gPow, gLt, gLe, gGt, gGe, gIs, gIsNot, gIx, gLen, gAbs, gMax2, gMin2, gInt, gList, gTuple, gNeg, gI0, gII, gSl, bodE, bodT, bodI, lcF, forGo, lim, Nat.zero_le, Nat.reduceLeDiff, List.map_cons, List.map_nil, List.cons_append, List.nil_append, List.append_nil, List.length_cons, List.length_nil, List.getElem?_cons_zero, List.getElem?_cons_succ, List.getElem?_nil, List.replicate_zero, List.replicate_succ, List.all_cons, List.all_nil, List.any_cons, List.any_nil, List.filterMap_cons, List.filterMap_nil, List.set_cons_zero, List.set_cons_succ, Bool.and_true, Bool.true_and, Bool.and_false, Bool.false_and, Bool.and_self, Bool.or_true, Bool.true_or, Bool.or_false, Bool.false_or, Bool.not_true, Bool.not_false, Nat.zero_add, Nat.add_zero, Nat.reduceAdd, Nat.reduceSub, Nat.reduceMul, Nat.reduceBEq, Nat.reduceEqDiff, Nat.reduceLT, Nat.sub_self, beq_self_eq_true, Option.map_some, Option.map_none, reduceIte, if_true, if_false, Bool.false_eq_true, decide_true, decide_false, reduceCtorEq, Int.reduceLE, Int.reduceLT, Int.reduceNeg, Int.reduceToNat, Int.reduceEq, Int.reducePow, Int.reduceDiv, Int.reduceAdd, Int.reduceSub, Int.reduceMul, true_and, and_true, List.isEmpty_nil, List.isEmpty_cons])]
  have l3 : ∀ p : Nat → Bool, (iL (is.filter p)).length ≤ 1000000 := fun p => by
    rw [iL_len]
    have := List.length_filter_le p is
    omega
  rw [seq_nx (ρ1 := [.d (rD rs), .d tv, .ol W, .od true (mE ms), .ol (iL seen), s5, .d (pthD p), .d (tD (.nd (mid rs is) (is.filter (md rs (mid rs is))) l r)), .d (.list (iL is)), .ol ((PySem.W.sortI (ends2 rs is)).map .int), .d (.int (mid rs is)), .d (.tuple (iL (is.filter (md rs (mid rs is))))), .un]) (M1 := M) (by
    simp only [mSeq, mIfS, mRet, mDrop, mSet, mSetT, mSetL, mSetD, mFrz, mNext, mBk, mCt, mNever, mFor, mWhile, mVar, mC, mOp, mUn, mTru, mB, mOfT, mAnd, mOr, mNot, mIf, mAndV, mOrV, mNotV, mChain, mNil, mCons, mTup, mLst, mFz, mFzD, mDNew, mDGet, mDIn, mBlt, mBltL, mIsi, mNoO, mSomeO, mSl, mRg1, mRg2, mLstRg, mCall, mCallK, mItS, mItR, mItE, mLc, mLc2, mYes, mApp1, mExt, mPopW, mPopAtW, mSetIx, mDPut, mRf, mRfD, pE, pL, pD, mPs, mPar, putP, wE, bnd, pk, liftO, peek, dats, pks, getL, putLρ, putLM, getD, putDρ, putDM, argC, permL, slotA, outV, mFn, setTg, setTgs, gSeq, MO.look, MO.slot, truD, bolD, intD, Slot.own, noOwn, wipeS, capL, gAdd, DL.gSub, gMul, gDiv, gMod, gPow, gLt, gLe, gGt, gGe, gIs, gIsNot, gIx, gLen, gAbs, gMax2, gMin2, gInt, gList, gTuple, gNeg, gI0, gII, gSl, bodE, bodT, bodI, lcF, forGo, lim, Nat.zero_le, Nat.reduceLeDiff, List.map_cons, List.map_nil, List.cons_append, List.nil_append, List.append_nil, List.length_cons, List.length_nil, List.getElem?_cons_zero, List.getElem?_cons_succ, List.getElem?_nil, List.replicate_zero, List.replicate_succ, List.all_cons, List.all_nil, List.any_cons, List.any_nil, List.filterMap_cons, List.filterMap_nil, List.set_cons_zero, List.set_cons_succ, Bool.and_true, Bool.true_and, Bool.and_false, Bool.false_and, Bool.and_self, Bool.or_true, Bool.true_or, Bool.or_false, Bool.false_or, Bool.not_true, Bool.not_false, Nat.zero_add, Nat.add_zero, Nat.reduceAdd, Nat.reduceSub, Nat.reduceMul, Nat.reduceBEq, Nat.reduceEqDiff, Nat.reduceLT, Nat.sub_self, beq_self_eq_true, Option.map_some, Option.map_none, reduceIte, if_true, if_false, Bool.false_eq_true, decide_true, decide_false, reduceCtorEq, Int.reduceLE, Int.reduceLT, Int.reduceNeg, Int.reduceToNat, Int.reduceEq, Int.reducePow, Int.reduceDiv, Int.reduceAdd, Int.reduceSub, Int.reduceMul, true_and, and_true, List.isEmpty_nil, List.isEmpty_cons]
    rw [lcF_filtN (p := fun k => decide ((at_ rs k).1 ≤ mid rs is) && decide (mid rs is ≤ (at_ rs k).2))]
    · rw [here_eq]
      simp only [l3, mSeq, mIfS, mRet, mDrop, mSet, mSetT, mSetL, mSetD, mFrz, mNext, mBk, mCt, mNever, mFor, mWhile, mVar, mC, mOp, mUn, mTru, mB, mOfT, mAnd, mOr, mNot, mIf, mAndV, mOrV, mNotV, mChain, mNil, mCons, mTup, mLst, mFz, mFzD, mDNew, mDGet, mDIn, mBlt, mBltL, mIsi, mNoO, mSomeO, mSl, mRg1, mRg2, mLstRg, mCall, mCallK, mItS, mItR, mItE, mLc, mLc2, mYes, mApp1, mExt, mPopW, mPopAtW, mSetIx, mDPut, mRf, mRfD, pE, pL, pD, mPs, mPar, putP, wE, bnd, pk, liftO, peek, dats, pks, getL, putLρ, putLM, getD, putDρ, putDM, argC, permL, slotA, outV, mFn, setTg, setTgs, gSeq, MO.look, MO.slot, truD, bolD, intD, Slot.own, noOwn, wipeS, capL, gAdd, DL.gSub, gMul, gDiv, gMod, gPow, gLt, gLe, gGt, gGe, gIs, gIsNot, gIx, gLen, gAbs, gMax2, gMin2, gInt, gList, gTuple, gNeg, gI0, gII, gSl, bodE, bodT, bodI, lcF, forGo, lim, Nat.zero_le, Nat.reduceLeDiff, List.map_cons, List.map_nil, List.cons_append, List.nil_append, List.append_nil, List.length_cons, List.length_nil, List.getElem?_cons_zero, List.getElem?_cons_succ, List.getElem?_nil, List.replicate_zero, List.replicate_succ, List.all_cons, List.all_nil, List.any_cons, List.any_nil, List.filterMap_cons, List.filterMap_nil, List.set_cons_zero, List.set_cons_succ, Bool.and_true, Bool.true_and, Bool.and_false, Bool.false_and, Bool.and_self, Bool.or_true, Bool.true_or, Bool.or_false, Bool.false_or, Bool.not_true, Bool.not_false, Nat.zero_add, Nat.add_zero, Nat.reduceAdd, Nat.reduceSub, Nat.reduceMul, Nat.reduceBEq, Nat.reduceEqDiff, Nat.reduceLT, Nat.sub_self, beq_self_eq_true, Option.map_some, Option.map_none, reduceIte, if_true, if_false, Bool.false_eq_true, decide_true, decide_false, reduceCtorEq, Int.reduceLE, Int.reduceLT, Int.reduceNeg, Int.reduceToNat, Int.reduceEq, Int.reducePow, Int.reduceDiv, Int.reduceAdd, Int.reduceSub, Int.reduceMul, true_and, and_true, List.isEmpty_nil, List.isEmpty_cons]
    · intro k m
      simp only [rD, hw k m, pr, pr0, pr1, mSeq, mIfS, mRet, mDrop, mSet, mSetT, mSetL, mSetD, mFrz, mNext, mBk, mCt, mNever, mFor, mWhile, mVar, mC, mOp, mUn, mTru, mB, mOfT, mAnd, mOr, mNot, mIf, mAndV, mOrV, mNotV, mChain, mNil, mCons, mTup, mLst, mFz, mFzD, mDNew, mDGet, mDIn, mBlt, mBltL, mIsi, mNoO, mSomeO, mSl, mRg1, mRg2, mLstRg, mCall, mCallK, mItS, mItR, mItE, mLc, mLc2, mYes, mApp1, mExt, mPopW, mPopAtW, mSetIx, mDPut, mRf, mRfD, pE, pL, pD, mPs, mPar, putP, wE, bnd, pk, liftO, peek, dats, pks, getL, putLρ, putLM, getD, putDρ, putDM, argC, permL, slotA, outV, mFn, setTg, setTgs, gSeq, MO.look, MO.slot, truD, bolD, intD, Slot.own, noOwn, wipeS, capL, gAdd, DL.gSub, gMul, gDiv, gMod, gPow, gLt, gLe, gGt, gGe, gIs, gIsNot, gIx, gLen, gAbs, gMax2, gMin2, gInt, gList, gTuple, gNeg, gI0, gII, gSl, bodE, bodT, bodI, lcF, forGo, lim, Nat.zero_le, Nat.reduceLeDiff, List.map_cons, List.map_nil, List.cons_append, List.nil_append, List.append_nil, List.length_cons, List.length_nil, List.getElem?_cons_zero, List.getElem?_cons_succ, List.getElem?_nil, List.replicate_zero, List.replicate_succ, List.all_cons, List.all_nil, List.any_cons, List.any_nil, List.filterMap_cons, List.filterMap_nil, List.set_cons_zero, List.set_cons_succ, Bool.and_true, Bool.true_and, Bool.and_false, Bool.false_and, Bool.and_self, Bool.or_true, Bool.true_or, Bool.or_false, Bool.false_or, Bool.not_true, Bool.not_false, Nat.zero_add, Nat.add_zero, Nat.reduceAdd, Nat.reduceSub, Nat.reduceMul, Nat.reduceBEq, Nat.reduceEqDiff, Nat.reduceLT, Nat.sub_self, beq_self_eq_true, Option.map_some, Option.map_none, reduceIte, if_true, if_false, Bool.false_eq_true, decide_true, decide_false, reduceCtorEq, Int.reduceLE, Int.reduceLT, Int.reduceNeg, Int.reduceToNat, Int.reduceEq, Int.reducePow, Int.reduceDiv, Int.reduceAdd, Int.reduceSub, Int.reduceMul, true_and, and_true, List.isEmpty_nil, List.isEmpty_cons]
      by_cases h : (at_ rs k).1 ≤ mid rs is
      · simp only [h, hw k m, pr, pr1, mSeq, mIfS, mRet, mDrop, mSet, mSetT, mSetL, mSetD, mFrz, mNext, mBk, mCt, mNever, mFor, mWhile, mVar, mC, mOp, mUn, mTru, mB, mOfT, mAnd, mOr, mNot, mIf, mAndV, mOrV, mNotV, mChain, mNil, mCons, mTup, mLst, mFz, mFzD, mDNew, mDGet, mDIn, mBlt, mBltL, mIsi, mNoO, mSomeO, mSl, mRg1, mRg2, mLstRg, mCall, mCallK, mItS, mItR, mItE, mLc, mLc2, mYes, mApp1, mExt, mPopW, mPopAtW, mSetIx, mDPut, mRf, mRfD, pE, pL, pD, mPs, mPar, putP, wE, bnd, pk, liftO, peek, dats, pks, getL, putLρ, putLM, getD, putDρ, putDM, argC, permL, slotA, outV, mFn, setTg, setTgs, gSeq, MO.look, MO.slot, truD, bolD, intD, Slot.own, noOwn, wipeS, capL, gAdd, DL.gSub, gMul, gDiv, gMod, gPow, gLt, gLe, gGt, gGe, gIs, gIsNot, gIx, gLen, gAbs, gMax2, gMin2, gInt, gList, gTuple, gNeg, gI0, gII, gSl, bodE, bodT, bodI, lcF, forGo, lim, Nat.zero_le, Nat.reduceLeDiff, List.map_cons, List.map_nil, List.cons_append, List.nil_append, List.append_nil, List.length_cons, List.length_nil, List.getElem?_cons_zero, List.getElem?_cons_succ, List.getElem?_nil, List.replicate_zero, List.replicate_succ, List.all_cons, List.all_nil, List.any_cons, List.any_nil, List.filterMap_cons, List.filterMap_nil, List.set_cons_zero, List.set_cons_succ, Bool.and_true, Bool.true_and, Bool.and_false, Bool.false_and, Bool.and_self, Bool.or_true, Bool.true_or, Bool.or_false, Bool.false_or, Bool.not_true, Bool.not_false, Nat.zero_add, Nat.add_zero, Nat.reduceAdd, Nat.reduceSub, Nat.reduceMul, Nat.reduceBEq, Nat.reduceEqDiff, Nat.reduceLT, Nat.sub_self, beq_self_eq_true, Option.map_some, Option.map_none, reduceIte, if_true, if_false, Bool.false_eq_true, decide_true, decide_false, reduceCtorEq, Int.reduceLE, Int.reduceLT, Int.reduceNeg, Int.reduceToNat, Int.reduceEq, Int.reducePow, Int.reduceDiv, Int.reduceAdd, Int.reduceSub, Int.reduceMul, true_and, and_true, List.isEmpty_nil, List.isEmpty_cons]
        by_cases h2 : mid rs is ≤ (at_ rs k).2
        · simp only [h2, mSeq, mIfS, mRet, mDrop, mSet, mSetT, mSetL, mSetD, mFrz, mNext, mBk, mCt, mNever, mFor, mWhile, mVar, mC, mOp, mUn, mTru, mB, mOfT, mAnd, mOr, mNot, mIf, mAndV, mOrV, mNotV, mChain, mNil, mCons, mTup, mLst, mFz, mFzD, mDNew, mDGet, mDIn, mBlt, mBltL, mIsi, mNoO, mSomeO, mSl, mRg1, mRg2, mLstRg, mCall, mCallK, mItS, mItR, mItE, mLc, mLc2, mYes, mApp1, mExt, mPopW, mPopAtW, mSetIx, mDPut, mRf, mRfD, pE, pL, pD, mPs, mPar, putP, wE, bnd, pk, liftO, peek, dats, pks, getL, putLρ, putLM, getD, putDρ, putDM, argC, permL, slotA, outV, mFn, setTg, setTgs, gSeq, MO.look, MO.slot, truD, bolD, intD, Slot.own, noOwn, wipeS, capL, gAdd, DL.gSub, gMul, gDiv, gMod, gPow, gLt, gLe, gGt, gGe, gIs, gIsNot, gIx, gLen, gAbs, gMax2, gMin2, gInt, gList, gTuple, gNeg, gI0, gII, gSl, bodE, bodT, bodI, lcF, forGo, lim, Nat.zero_le, Nat.reduceLeDiff, List.map_cons, List.map_nil, List.cons_append, List.nil_append, List.append_nil, List.length_cons, List.length_nil, List.getElem?_cons_zero, List.getElem?_cons_succ, List.getElem?_nil, List.replicate_zero, List.replicate_succ, List.all_cons, List.all_nil, List.any_cons, List.any_nil, List.filterMap_cons, List.filterMap_nil, List.set_cons_zero, List.set_cons_succ, Bool.and_true, Bool.true_and, Bool.and_false, Bool.false_and, Bool.and_self, Bool.or_true, Bool.true_or, Bool.or_false, Bool.false_or, Bool.not_true, Bool.not_false, Nat.zero_add, Nat.add_zero, Nat.reduceAdd, Nat.reduceSub, Nat.reduceMul, Nat.reduceBEq, Nat.reduceEqDiff, Nat.reduceLT, Nat.sub_self, beq_self_eq_true, Option.map_some, Option.map_none, reduceIte, if_true, if_false, Bool.false_eq_true, decide_true, decide_false, reduceCtorEq, Int.reduceLE, Int.reduceLT, Int.reduceNeg, Int.reduceToNat, Int.reduceEq, Int.reducePow, Int.reduceDiv, Int.reduceAdd, Int.reduceSub, Int.reduceMul, true_and, and_true, List.isEmpty_nil, List.isEmpty_cons]
        · simp only [h2, mSeq, mIfS, mRet, mDrop, mSet, mSetT, mSetL, mSetD, mFrz, mNext, mBk, mCt, mNever, mFor, mWhile, mVar, mC, mOp, mUn, mTru, mB, mOfT, mAnd, mOr, mNot, mIf, mAndV, mOrV, mNotV, mChain, mNil, mCons, mTup, mLst, mFz, mFzD, mDNew, mDGet, mDIn, mBlt, mBltL, mIsi, mNoO, mSomeO, mSl, mRg1, mRg2, mLstRg, mCall, mCallK, mItS, mItR, mItE, mLc, mLc2, mYes, mApp1, mExt, mPopW, mPopAtW, mSetIx, mDPut, mRf, mRfD, pE, pL, pD, mPs, mPar, putP, wE, bnd, pk, liftO, peek, dats, pks, getL, putLρ, putLM, getD, putDρ, putDM, argC, permL, slotA, outV, mFn, setTg, setTgs, gSeq, MO.look, MO.slot, truD, bolD, intD, Slot.own, noOwn, wipeS, capL, gAdd, DL.gSub, gMul, gDiv, gMod, gPow, gLt, gLe, gGt, gGe, gIs, gIsNot, gIx, gLen, gAbs, gMax2, gMin2, gInt, gList, gTuple, gNeg, gI0, gII, gSl, bodE, bodT, bodI, lcF, forGo, lim, Nat.zero_le, Nat.reduceLeDiff, List.map_cons, List.map_nil, List.cons_append, List.nil_append, List.append_nil, List.length_cons, List.length_nil, List.getElem?_cons_zero, List.getElem?_cons_succ, List.getElem?_nil, List.replicate_zero, List.replicate_succ, List.all_cons, List.all_nil, List.any_cons, List.any_nil, List.filterMap_cons, List.filterMap_nil, List.set_cons_zero, List.set_cons_succ, Bool.and_true, Bool.true_and, Bool.and_false, Bool.false_and, Bool.and_self, Bool.or_true, Bool.true_or, Bool.or_false, Bool.false_or, Bool.not_true, Bool.not_false, Nat.zero_add, Nat.add_zero, Nat.reduceAdd, Nat.reduceSub, Nat.reduceMul, Nat.reduceBEq, Nat.reduceEqDiff, Nat.reduceLT, Nat.sub_self, beq_self_eq_true, Option.map_some, Option.map_none, reduceIte, if_true, if_false, Bool.false_eq_true, decide_true, decide_false, reduceCtorEq, Int.reduceLE, Int.reduceLT, Int.reduceNeg, Int.reduceToNat, Int.reduceEq, Int.reducePow, Int.reduceDiv, Int.reduceAdd, Int.reduceSub, Int.reduceMul, true_and, and_true, List.isEmpty_nil, List.isEmpty_cons]
      · simp only [h, mSeq, mIfS, mRet, mDrop, mSet, mSetT, mSetL, mSetD, mFrz, mNext, mBk, mCt, mNever, mFor, mWhile, mVar, mC, mOp, mUn, mTru, mB, mOfT, mAnd, mOr, mNot, mIf, mAndV, mOrV, mNotV, mChain, mNil, mCons, mTup, mLst, mFz, mFzD, mDNew, mDGet, mDIn, mBlt, mBltL, mIsi, mNoO, mSomeO, mSl, mRg1, mRg2, mLstRg, mCall, mCallK, mItS, mItR, mItE, mLc, mLc2, mYes, mApp1, mExt, mPopW, mPopAtW, mSetIx, mDPut, mRf, mRfD, pE, pL, pD, mPs, mPar, putP, wE, bnd, pk, liftO, peek, dats, pks, getL, putLρ, putLM, getD, putDρ, putDM, argC, permL, slotA, outV, mFn, setTg, setTgs, gSeq, MO.look, MO.slot, truD, bolD, intD, Slot.own, noOwn, wipeS, capL, gAdd, DL.gSub, gMul, gDiv, gMod, gPow, gLt, gLe, gGt, gGe, gIs, gIsNot, gIx, gLen, gAbs, gMax2, gMin2, gInt, gList, gTuple, gNeg, gI0, gII, gSl, bodE, bodT, bodI, lcF, forGo, lim, Nat.zero_le, Nat.reduceLeDiff, List.map_cons, List.map_nil, List.cons_append, List.nil_append, List.append_nil, List.length_cons, List.length_nil, List.getElem?_cons_zero, List.getElem?_cons_succ, List.getElem?_nil, List.replicate_zero, List.replicate_succ, List.all_cons, List.all_nil, List.any_cons, List.any_nil, List.filterMap_cons, List.filterMap_nil, List.set_cons_zero, List.set_cons_succ, Bool.and_true, Bool.true_and, Bool.and_false, Bool.false_and, Bool.and_self, Bool.or_true, Bool.true_or, Bool.or_false, Bool.false_or, Bool.not_true, Bool.not_false, Nat.zero_add, Nat.add_zero, Nat.reduceAdd, Nat.reduceSub, Nat.reduceMul, Nat.reduceBEq, Nat.reduceEqDiff, Nat.reduceLT, Nat.sub_self, beq_self_eq_true, Option.map_some, Option.map_none, reduceIte, if_true, if_false, Bool.false_eq_true, decide_true, decide_false, reduceCtorEq, Int.reduceLE, Int.reduceLT, Int.reduceNeg, Int.reduceToNat, Int.reduceEq, Int.reducePow, Int.reduceDiv, Int.reduceAdd, Int.reduceSub, Int.reduceMul, true_and, and_true, List.isEmpty_nil, List.isEmpty_cons])]
  -- the part is right
  have hgood : good (.list [.int (mid rs is), .tuple (iL (is.filter (md rs (mid rs is))))]) = true := by
    have h1 : (is.filter (md rs (mid rs is))).length ≤ is.length := List.length_filter_le _ _
    have h2 : goods (iL (is.filter (md rs (mid rs is)))) = true := goods_of fun x mx => by
      obtain ⟨k, _, rfl⟩ := List.mem_map.mp mx
      rfl
    have h3 : (iL (is.filter (md rs (mid rs is)))).length ≤ 10000 := by rw [iL_len]; omega
    simp [good, goods, h2, h3]
  have hdep : (PyData.list [.int (mid rs is), .tuple (iL (is.filter (md rs (mid rs is))))]).depth ≤ 2 := by
    have : PyData.depthAll (iL (is.filter (md rs (mid rs is)))) ≤ 0 := depth_all _ fun d m => by
      obtain ⟨k, _, rfl⟩ := List.mem_map.mp m
      simp [nD, PyData.depth]
    simp only [PyData.depth, PyData.depthAll]
    omega
  have hsame := same (M := M) 2 n _ hgood hdep
  have t5 : isTy "tuple" (.tuple [.int (mid rs is), .tuple (iL (is.filter (md rs (mid rs is)))), tD l, tD r]) = true := by rfl
  have t6 : gNe (.int ((4 : Nat) : Int)) (.int 4) = some (.bool false) := by rfl
  rw [seq_nx (ρ1 := [.d (rD rs), .d tv, .ol W, .od true (mE ms), .ol (iL seen), s5, .d (pthD p), .d (tD (.nd (mid rs is) (is.filter (md rs (mid rs is))) l r)), .d (.list (iL is)), .ol ((PySem.W.sortI (ends2 rs is)).map .int), .d (.int (mid rs is)), .d (.tuple (iL (is.filter (md rs (mid rs is))))), .un]) (M1 := M) (by
    simp only [tD, t5, t6, tD_ix0, tD_ix1, hsame, mSeq, mIfS, mRet, mDrop, mSet, mSetT, mSetL, mSetD, mFrz, mNext, mBk, mCt, mNever, mFor, mWhile, mVar, mC, mOp, mUn, mTru, mB, mOfT, mAnd, mOr, mNot, mIf, mAndV, mOrV, mNotV, mChain, mNil, mCons, mTup, mLst, mFz, mFzD, mDNew, mDGet, mDIn, mBlt, mBltL, mIsi, mNoO, mSomeO, mSl, mRg1, mRg2, mLstRg, mCall, mCallK, mItS, mItR, mItE, mLc, mLc2, mYes, mApp1, mExt, mPopW, mPopAtW, mSetIx, mDPut, mRf, mRfD, pE, pL, pD, mPs, mPar, putP, wE, bnd, pk, liftO, peek, dats, pks, getL, putLρ, putLM, getD, putDρ, putDM, argC, permL, slotA, outV, mFn, setTg, setTgs, gSeq, MO.look, MO.slot, truD, bolD, intD, Slot.own, noOwn, wipeS, capL, gAdd, DL.gSub, gMul, gDiv, gMod, gPow, gLt, gLe, gGt, gGe, gIs, gIsNot, gIx, gLen, gAbs, gMax2, gMin2, gInt, gList, gTuple, gNeg, gI0, gII, gSl, bodE, bodT, bodI, lcF, forGo, lim, Nat.zero_le, Nat.reduceLeDiff, List.map_cons, List.map_nil, List.cons_append, List.nil_append, List.append_nil, List.length_cons, List.length_nil, List.getElem?_cons_zero, List.getElem?_cons_succ, List.getElem?_nil, List.replicate_zero, List.replicate_succ, List.all_cons, List.all_nil, List.any_cons, List.any_nil, List.filterMap_cons, List.filterMap_nil, List.set_cons_zero, List.set_cons_succ, Bool.and_true, Bool.true_and, Bool.and_false, Bool.false_and, Bool.and_self, Bool.or_true, Bool.true_or, Bool.or_false, Bool.false_or, Bool.not_true, Bool.not_false, Nat.zero_add, Nat.add_zero, Nat.reduceAdd, Nat.reduceSub, Nat.reduceMul, Nat.reduceBEq, Nat.reduceEqDiff, Nat.reduceLT, Nat.sub_self, beq_self_eq_true, Option.map_some, Option.map_none, reduceIte, if_true, if_false, Bool.false_eq_true, decide_true, decide_false, reduceCtorEq, Int.reduceLE, Int.reduceLT, Int.reduceNeg, Int.reduceToNat, Int.reduceEq, Int.reducePow, Int.reduceDiv, Int.reduceAdd, Int.reduceSub, Int.reduceMul, true_and, and_true, List.isEmpty_nil, List.isEmpty_cons])]
  have g5 := dPut_mE (v := .tuple [.int (mid rs is), .tuple (iL (is.filter (md rs (mid rs is))))]) hms
  have g6 : (mE ms).length < 1000000 := by unfold mE; rw [List.length_map]; omega
  rw [seq_nx (ρ1 := [.d (rD rs), .d tv, .ol W, .od true (mE (ms ++ [(p, .tuple [.int (mid rs is), .tuple (iL (is.filter (md rs (mid rs is))))])])), .ol (iL seen), s5, .d (pthD p), .d (tD (.nd (mid rs is) (is.filter (md rs (mid rs is))) l r)), .d (.list (iL is)), .ol ((PySem.W.sortI (ends2 rs is)).map .int), .d (.int (mid rs is)), .d (.tuple (iL (is.filter (md rs (mid rs is))))), .un]) (M1 := M) (by
    simp only [g5, g6, mSeq, mIfS, mRet, mDrop, mSet, mSetT, mSetL, mSetD, mFrz, mNext, mBk, mCt, mNever, mFor, mWhile, mVar, mC, mOp, mUn, mTru, mB, mOfT, mAnd, mOr, mNot, mIf, mAndV, mOrV, mNotV, mChain, mNil, mCons, mTup, mLst, mFz, mFzD, mDNew, mDGet, mDIn, mBlt, mBltL, mIsi, mNoO, mSomeO, mSl, mRg1, mRg2, mLstRg, mCall, mCallK, mItS, mItR, mItE, mLc, mLc2, mYes, mApp1, mExt, mPopW, mPopAtW, mSetIx, mDPut, mRf, mRfD, pE, pL, pD, mPs, mPar, putP, wE, bnd, pk, liftO, peek, dats, pks, getL, putLρ, putLM, getD, putDρ, putDM, argC, permL, slotA, outV, mFn, setTg, setTgs, gSeq, MO.look, MO.slot, truD, bolD, intD, Slot.own, noOwn, wipeS, capL, gAdd, DL.gSub, gMul, gDiv, gMod, gPow, gLt, gLe, gGt, gGe, gIs, gIsNot, gIx, gLen, gAbs, gMax2, gMin2, gInt, gList, gTuple, gNeg, gI0, gII, gSl, bodE, bodT, bodI, lcF, forGo, lim, Nat.zero_le, Nat.reduceLeDiff, List.map_cons, List.map_nil, List.cons_append, List.nil_append, List.append_nil, List.length_cons, List.length_nil, List.getElem?_cons_zero, List.getElem?_cons_succ, List.getElem?_nil, List.replicate_zero, List.replicate_succ, List.all_cons, List.all_nil, List.any_cons, List.any_nil, List.filterMap_cons, List.filterMap_nil, List.set_cons_zero, List.set_cons_succ, Bool.and_true, Bool.true_and, Bool.and_false, Bool.false_and, Bool.and_self, Bool.or_true, Bool.true_or, Bool.or_false, Bool.false_or, Bool.not_true, Bool.not_false, Nat.zero_add, Nat.add_zero, Nat.reduceAdd, Nat.reduceSub, Nat.reduceMul, Nat.reduceBEq, Nat.reduceEqDiff, Nat.reduceLT, Nat.sub_self, beq_self_eq_true, Option.map_some, Option.map_none, reduceIte, if_true, if_false, Bool.false_eq_true, decide_true, decide_false, reduceCtorEq, Int.reduceLE, Int.reduceLT, Int.reduceNeg, Int.reduceToNat, Int.reduceEq, Int.reducePow, Int.reduceDiv, Int.reduceAdd, Int.reduceSub, Int.reduceMul, true_and, and_true, List.isEmpty_nil, List.isEmpty_cons])]
  have l4 : (iL seen).length + (iL (is.filter (md rs (mid rs is)))).length ≤ 1000000 := by
    rw [iL_len, iL_len]
    have := List.length_filter_le (md rs (mid rs is)) is
    omega
  rw [seq_nx (ρ1 := [.d (rD rs), .d tv, .ol W, .od true (mE (ms ++ [(p, .tuple [.int (mid rs is), .tuple (iL (is.filter (md rs (mid rs is))))])])), .ol (iL (seen ++ is.filter (md rs (mid rs is)))), s5, .d (pthD p), .d (tD (.nd (mid rs is) (is.filter (md rs (mid rs is))) l r)), .d (.list (iL is)), .ol ((PySem.W.sortI (ends2 rs is)).map .int), .d (.int (mid rs is)), .d (.tuple (iL (is.filter (md rs (mid rs is))))), .un]) (M1 := M) (by
    simp only [l4, iL_app, mSeq, mIfS, mRet, mDrop, mSet, mSetT, mSetL, mSetD, mFrz, mNext, mBk, mCt, mNever, mFor, mWhile, mVar, mC, mOp, mUn, mTru, mB, mOfT, mAnd, mOr, mNot, mIf, mAndV, mOrV, mNotV, mChain, mNil, mCons, mTup, mLst, mFz, mFzD, mDNew, mDGet, mDIn, mBlt, mBltL, mIsi, mNoO, mSomeO, mSl, mRg1, mRg2, mLstRg, mCall, mCallK, mItS, mItR, mItE, mLc, mLc2, mYes, mApp1, mExt, mPopW, mPopAtW, mSetIx, mDPut, mRf, mRfD, pE, pL, pD, mPs, mPar, putP, wE, bnd, pk, liftO, peek, dats, pks, getL, putLρ, putLM, getD, putDρ, putDM, argC, permL, slotA, outV, mFn, setTg, setTgs, gSeq, MO.look, MO.slot, truD, bolD, intD, Slot.own, noOwn, wipeS, capL, gAdd, DL.gSub, gMul, gDiv, gMod, gPow, gLt, gLe, gGt, gGe, gIs, gIsNot, gIx, gLen, gAbs, gMax2, gMin2, gInt, gList, gTuple, gNeg, gI0, gII, gSl, bodE, bodT, bodI, lcF, forGo, lim, Nat.zero_le, Nat.reduceLeDiff, List.map_cons, List.map_nil, List.cons_append, List.nil_append, List.append_nil, List.length_cons, List.length_nil, List.getElem?_cons_zero, List.getElem?_cons_succ, List.getElem?_nil, List.replicate_zero, List.replicate_succ, List.all_cons, List.all_nil, List.any_cons, List.any_nil, List.filterMap_cons, List.filterMap_nil, List.set_cons_zero, List.set_cons_succ, Bool.and_true, Bool.true_and, Bool.and_false, Bool.false_and, Bool.and_self, Bool.or_true, Bool.true_or, Bool.or_false, Bool.false_or, Bool.not_true, Bool.not_false, Nat.zero_add, Nat.add_zero, Nat.reduceAdd, Nat.reduceSub, Nat.reduceMul, Nat.reduceBEq, Nat.reduceEqDiff, Nat.reduceLT, Nat.sub_self, beq_self_eq_true, Option.map_some, Option.map_none, reduceIte, if_true, if_false, Bool.false_eq_true, decide_true, decide_false, reduceCtorEq, Int.reduceLE, Int.reduceLT, Int.reduceNeg, Int.reduceToNat, Int.reduceEq, Int.reducePow, Int.reduceDiv, Int.reduceAdd, Int.reduceSub, Int.reduceMul, true_and, and_true, List.isEmpty_nil, List.isEmpty_cons])]
  have w1 : W.length < 1000000 := by omega
  have w2 : (W ++ [iD (p ++ [0]) l (is.filter (lo rs (mid rs is)))]).length < 1000000 := by rw [List.length_append, List.length_singleton]; omega
  have hpl2 : (iL p).length ≤ 999999 := by rw [iL_len]; omega
  have pa0 := pth_app p 0
  have pa1 := pth_app p 1
  rw [seq_nx (ρ1 := [.d (rD rs), .d tv, .ol (W ++ [iD (p ++ [0]) l (is.filter (lo rs (mid rs is)))]), .od true (mE (ms ++ [(p, .tuple [.int (mid rs is), .tuple (iL (is.filter (md rs (mid rs is))))])])), .ol (iL (seen ++ is.filter (md rs (mid rs is)))), s5, .d (pthD p), .d (tD (.nd (mid rs is) (is.filter (md rs (mid rs is))) l r)), .d (.list (iL is)), .ol ((PySem.W.sortI (ends2 rs is)).map .int), .d (.int (mid rs is)), .d (.tuple (iL (is.filter (md rs (mid rs is))))), .un]) (M1 := M) (by
    simp only [tD, tD_ix2, pthD, hpl2, mSeq, mIfS, mRet, mDrop, mSet, mSetT, mSetL, mSetD, mFrz, mNext, mBk, mCt, mNever, mFor, mWhile, mVar, mC, mOp, mUn, mTru, mB, mOfT, mAnd, mOr, mNot, mIf, mAndV, mOrV, mNotV, mChain, mNil, mCons, mTup, mLst, mFz, mFzD, mDNew, mDGet, mDIn, mBlt, mBltL, mIsi, mNoO, mSomeO, mSl, mRg1, mRg2, mLstRg, mCall, mCallK, mItS, mItR, mItE, mLc, mLc2, mYes, mApp1, mExt, mPopW, mPopAtW, mSetIx, mDPut, mRf, mRfD, pE, pL, pD, mPs, mPar, putP, wE, bnd, pk, liftO, peek, dats, pks, getL, putLρ, putLM, getD, putDρ, putDM, argC, permL, slotA, outV, mFn, setTg, setTgs, gSeq, MO.look, MO.slot, truD, bolD, intD, Slot.own, noOwn, wipeS, capL, gAdd, DL.gSub, gMul, gDiv, gMod, gPow, gLt, gLe, gGt, gGe, gIs, gIsNot, gIx, gLen, gAbs, gMax2, gMin2, gInt, gList, gTuple, gNeg, gI0, gII, gSl, bodE, bodT, bodI, lcF, forGo, lim, Nat.zero_le, Nat.reduceLeDiff, List.map_cons, List.map_nil, List.cons_append, List.nil_append, List.append_nil, List.length_cons, List.length_nil, List.getElem?_cons_zero, List.getElem?_cons_succ, List.getElem?_nil, List.replicate_zero, List.replicate_succ, List.all_cons, List.all_nil, List.any_cons, List.any_nil, List.filterMap_cons, List.filterMap_nil, List.set_cons_zero, List.set_cons_succ, Bool.and_true, Bool.true_and, Bool.and_false, Bool.false_and, Bool.and_self, Bool.or_true, Bool.true_or, Bool.or_false, Bool.false_or, Bool.not_true, Bool.not_false, Nat.zero_add, Nat.add_zero, Nat.reduceAdd, Nat.reduceSub, Nat.reduceMul, Nat.reduceBEq, Nat.reduceEqDiff, Nat.reduceLT, Nat.sub_self, beq_self_eq_true, Option.map_some, Option.map_none, reduceIte, if_true, if_false, Bool.false_eq_true, decide_true, decide_false, reduceCtorEq, Int.reduceLE, Int.reduceLT, Int.reduceNeg, Int.reduceToNat, Int.reduceEq, Int.reducePow, Int.reduceDiv, Int.reduceAdd, Int.reduceSub, Int.reduceMul, true_and, and_true, List.isEmpty_nil, List.isEmpty_cons]
    rw [lcF_filtN (p := lo rs (mid rs is))]
    · simp only [l3, w1, mSeq, mIfS, mRet, mDrop, mSet, mSetT, mSetL, mSetD, mFrz, mNext, mBk, mCt, mNever, mFor, mWhile, mVar, mC, mOp, mUn, mTru, mB, mOfT, mAnd, mOr, mNot, mIf, mAndV, mOrV, mNotV, mChain, mNil, mCons, mTup, mLst, mFz, mFzD, mDNew, mDGet, mDIn, mBlt, mBltL, mIsi, mNoO, mSomeO, mSl, mRg1, mRg2, mLstRg, mCall, mCallK, mItS, mItR, mItE, mLc, mLc2, mYes, mApp1, mExt, mPopW, mPopAtW, mSetIx, mDPut, mRf, mRfD, pE, pL, pD, mPs, mPar, putP, wE, bnd, pk, liftO, peek, dats, pks, getL, putLρ, putLM, getD, putDρ, putDM, argC, permL, slotA, outV, mFn, setTg, setTgs, gSeq, MO.look, MO.slot, truD, bolD, intD, Slot.own, noOwn, wipeS, capL, gAdd, DL.gSub, gMul, gDiv, gMod, gPow, gLt, gLe, gGt, gGe, gIs, gIsNot, gIx, gLen, gAbs, gMax2, gMin2, gInt, gList, gTuple, gNeg, gI0, gII, gSl, bodE, bodT, bodI, lcF, forGo, lim, Nat.zero_le, Nat.reduceLeDiff, List.map_cons, List.map_nil, List.cons_append, List.nil_append, List.append_nil, List.length_cons, List.length_nil, List.getElem?_cons_zero, List.getElem?_cons_succ, List.getElem?_nil, List.replicate_zero, List.replicate_succ, List.all_cons, List.all_nil, List.any_cons, List.any_nil, List.filterMap_cons, List.filterMap_nil, List.set_cons_zero, List.set_cons_succ, Bool.and_true, Bool.true_and, Bool.and_false, Bool.false_and, Bool.and_self, Bool.or_true, Bool.true_or, Bool.or_false, Bool.false_or, Bool.not_true, Bool.not_false, Nat.zero_add, Nat.add_zero, Nat.reduceAdd, Nat.reduceSub, Nat.reduceMul, Nat.reduceBEq, Nat.reduceEqDiff, Nat.reduceLT, Nat.sub_self, beq_self_eq_true, Option.map_some, Option.map_none, reduceIte, if_true, if_false, Bool.false_eq_true, decide_true, decide_false, reduceCtorEq, Int.reduceLE, Int.reduceLT, Int.reduceNeg, Int.reduceToNat, Int.reduceEq, Int.reducePow, Int.reduceDiv, Int.reduceAdd, Int.reduceSub, Int.reduceMul, true_and, and_true, List.isEmpty_nil, List.isEmpty_cons]
      unfold iD pthD
      rw [← pa0]
      rfl
    · intro k m
      simp only [rD, hw k m, pr, pr1, mSeq, mIfS, mRet, mDrop, mSet, mSetT, mSetL, mSetD, mFrz, mNext, mBk, mCt, mNever, mFor, mWhile, mVar, mC, mOp, mUn, mTru, mB, mOfT, mAnd, mOr, mNot, mIf, mAndV, mOrV, mNotV, mChain, mNil, mCons, mTup, mLst, mFz, mFzD, mDNew, mDGet, mDIn, mBlt, mBltL, mIsi, mNoO, mSomeO, mSl, mRg1, mRg2, mLstRg, mCall, mCallK, mItS, mItR, mItE, mLc, mLc2, mYes, mApp1, mExt, mPopW, mPopAtW, mSetIx, mDPut, mRf, mRfD, pE, pL, pD, mPs, mPar, putP, wE, bnd, pk, liftO, peek, dats, pks, getL, putLρ, putLM, getD, putDρ, putDM, argC, permL, slotA, outV, mFn, setTg, setTgs, gSeq, MO.look, MO.slot, truD, bolD, intD, Slot.own, noOwn, wipeS, capL, gAdd, DL.gSub, gMul, gDiv, gMod, gPow, gLt, gLe, gGt, gGe, gIs, gIsNot, gIx, gLen, gAbs, gMax2, gMin2, gInt, gList, gTuple, gNeg, gI0, gII, gSl, bodE, bodT, bodI, lcF, forGo, lim, Nat.zero_le, Nat.reduceLeDiff, List.map_cons, List.map_nil, List.cons_append, List.nil_append, List.append_nil, List.length_cons, List.length_nil, List.getElem?_cons_zero, List.getElem?_cons_succ, List.getElem?_nil, List.replicate_zero, List.replicate_succ, List.all_cons, List.all_nil, List.any_cons, List.any_nil, List.filterMap_cons, List.filterMap_nil, List.set_cons_zero, List.set_cons_succ, Bool.and_true, Bool.true_and, Bool.and_false, Bool.false_and, Bool.and_self, Bool.or_true, Bool.true_or, Bool.or_false, Bool.false_or, Bool.not_true, Bool.not_false, Nat.zero_add, Nat.add_zero, Nat.reduceAdd, Nat.reduceSub, Nat.reduceMul, Nat.reduceBEq, Nat.reduceEqDiff, Nat.reduceLT, Nat.sub_self, beq_self_eq_true, Option.map_some, Option.map_none, reduceIte, if_true, if_false, Bool.false_eq_true, decide_true, decide_false, reduceCtorEq, Int.reduceLE, Int.reduceLT, Int.reduceNeg, Int.reduceToNat, Int.reduceEq, Int.reducePow, Int.reduceDiv, Int.reduceAdd, Int.reduceSub, Int.reduceMul, true_and, and_true, List.isEmpty_nil, List.isEmpty_cons]
      unfold lo
      by_cases h : (at_ rs k).2 < mid rs is
      · simp only [h, mSeq, mIfS, mRet, mDrop, mSet, mSetT, mSetL, mSetD, mFrz, mNext, mBk, mCt, mNever, mFor, mWhile, mVar, mC, mOp, mUn, mTru, mB, mOfT, mAnd, mOr, mNot, mIf, mAndV, mOrV, mNotV, mChain, mNil, mCons, mTup, mLst, mFz, mFzD, mDNew, mDGet, mDIn, mBlt, mBltL, mIsi, mNoO, mSomeO, mSl, mRg1, mRg2, mLstRg, mCall, mCallK, mItS, mItR, mItE, mLc, mLc2, mYes, mApp1, mExt, mPopW, mPopAtW, mSetIx, mDPut, mRf, mRfD, pE, pL, pD, mPs, mPar, putP, wE, bnd, pk, liftO, peek, dats, pks, getL, putLρ, putLM, getD, putDρ, putDM, argC, permL, slotA, outV, mFn, setTg, setTgs, gSeq, MO.look, MO.slot, truD, bolD, intD, Slot.own, noOwn, wipeS, capL, gAdd, DL.gSub, gMul, gDiv, gMod, gPow, gLt, gLe, gGt, gGe, gIs, gIsNot, gIx, gLen, gAbs, gMax2, gMin2, gInt, gList, gTuple, gNeg, gI0, gII, gSl, bodE, bodT, bodI, lcF, forGo, lim, Nat.zero_le, Nat.reduceLeDiff, List.map_cons, List.map_nil, List.cons_append, List.nil_append, List.append_nil, List.length_cons, List.length_nil, List.getElem?_cons_zero, List.getElem?_cons_succ, List.getElem?_nil, List.replicate_zero, List.replicate_succ, List.all_cons, List.all_nil, List.any_cons, List.any_nil, List.filterMap_cons, List.filterMap_nil, List.set_cons_zero, List.set_cons_succ, Bool.and_true, Bool.true_and, Bool.and_false, Bool.false_and, Bool.and_self, Bool.or_true, Bool.true_or, Bool.or_false, Bool.false_or, Bool.not_true, Bool.not_false, Nat.zero_add, Nat.add_zero, Nat.reduceAdd, Nat.reduceSub, Nat.reduceMul, Nat.reduceBEq, Nat.reduceEqDiff, Nat.reduceLT, Nat.sub_self, beq_self_eq_true, Option.map_some, Option.map_none, reduceIte, if_true, if_false, Bool.false_eq_true, decide_true, decide_false, reduceCtorEq, Int.reduceLE, Int.reduceLT, Int.reduceNeg, Int.reduceToNat, Int.reduceEq, Int.reducePow, Int.reduceDiv, Int.reduceAdd, Int.reduceSub, Int.reduceMul, true_and, and_true, List.isEmpty_nil, List.isEmpty_cons]
      · simp only [h, mSeq, mIfS, mRet, mDrop, mSet, mSetT, mSetL, mSetD, mFrz, mNext, mBk, mCt, mNever, mFor, mWhile, mVar, mC, mOp, mUn, mTru, mB, mOfT, mAnd, mOr, mNot, mIf, mAndV, mOrV, mNotV, mChain, mNil, mCons, mTup, mLst, mFz, mFzD, mDNew, mDGet, mDIn, mBlt, mBltL, mIsi, mNoO, mSomeO, mSl, mRg1, mRg2, mLstRg, mCall, mCallK, mItS, mItR, mItE, mLc, mLc2, mYes, mApp1, mExt, mPopW, mPopAtW, mSetIx, mDPut, mRf, mRfD, pE, pL, pD, mPs, mPar, putP, wE, bnd, pk, liftO, peek, dats, pks, getL, putLρ, putLM, getD, putDρ, putDM, argC, permL, slotA, outV, mFn, setTg, setTgs, gSeq, MO.look, MO.slot, truD, bolD, intD, Slot.own, noOwn, wipeS, capL, gAdd, DL.gSub, gMul, gDiv, gMod, gPow, gLt, gLe, gGt, gGe, gIs, gIsNot, gIx, gLen, gAbs, gMax2, gMin2, gInt, gList, gTuple, gNeg, gI0, gII, gSl, bodE, bodT, bodI, lcF, forGo, lim, Nat.zero_le, Nat.reduceLeDiff, List.map_cons, List.map_nil, List.cons_append, List.nil_append, List.append_nil, List.length_cons, List.length_nil, List.getElem?_cons_zero, List.getElem?_cons_succ, List.getElem?_nil, List.replicate_zero, List.replicate_succ, List.all_cons, List.all_nil, List.any_cons, List.any_nil, List.filterMap_cons, List.filterMap_nil, List.set_cons_zero, List.set_cons_succ, Bool.and_true, Bool.true_and, Bool.and_false, Bool.false_and, Bool.and_self, Bool.or_true, Bool.true_or, Bool.or_false, Bool.false_or, Bool.not_true, Bool.not_false, Nat.zero_add, Nat.add_zero, Nat.reduceAdd, Nat.reduceSub, Nat.reduceMul, Nat.reduceBEq, Nat.reduceEqDiff, Nat.reduceLT, Nat.sub_self, beq_self_eq_true, Option.map_some, Option.map_none, reduceIte, if_true, if_false, Bool.false_eq_true, decide_true, decide_false, reduceCtorEq, Int.reduceLE, Int.reduceLT, Int.reduceNeg, Int.reduceToNat, Int.reduceEq, Int.reducePow, Int.reduceDiv, Int.reduceAdd, Int.reduceSub, Int.reduceMul, true_and, and_true, List.isEmpty_nil, List.isEmpty_cons])]
  have w3 : W ++ [iD (p ++ [0]) l (is.filter (lo rs (mid rs is))), iD (p ++ [1]) r (is.filter (hi rs (mid rs is)))] = (W ++ [iD (p ++ [0]) l (is.filter (lo rs (mid rs is)))]) ++ [iD (p ++ [1]) r (is.filter (hi rs (mid rs is)))] := by rw [List.append_assoc]; rfl
  rw [w3]
  generalize hW2 : W ++ [iD (p ++ [0]) l (is.filter (lo rs (mid rs is)))] = W2 at w2 ⊢
  simp only [tD, tD_ix3, pthD, hpl2, mSeq, mIfS, mRet, mDrop, mSet, mSetT, mSetL, mSetD, mFrz, mNext, mBk, mCt, mNever, mFor, mWhile, mVar, mC, mOp, mUn, mTru, mB, mOfT, mAnd, mOr, mNot, mIf, mAndV, mOrV, mNotV, mChain, mNil, mCons, mTup, mLst, mFz, mFzD, mDNew, mDGet, mDIn, mBlt, mBltL, mIsi, mNoO, mSomeO, mSl, mRg1, mRg2, mLstRg, mCall, mCallK, mItS, mItR, mItE, mLc, mLc2, mYes, mApp1, mExt, mPopW, mPopAtW, mSetIx, mDPut, mRf, mRfD, pE, pL, pD, mPs, mPar, putP, wE, bnd, pk, liftO, peek, dats, pks, getL, putLρ, putLM, getD, putDρ, putDM, argC, permL, slotA, outV, mFn, setTg, setTgs, gSeq, MO.look, MO.slot, truD, bolD, intD, Slot.own, noOwn, wipeS, capL, gAdd, DL.gSub, gMul, gDiv, gMod, gPow, gLt, gLe, gGt, gGe, gIs, gIsNot, gIx, gLen, gAbs, gMax2, gMin2, gInt, gList, gTuple, gNeg, gI0, gII, gSl, bodE, bodT, bodI, lcF, forGo, lim, Nat.zero_le, Nat.reduceLeDiff, List.map_cons, List.map_nil, List.cons_append, List.nil_append, List.append_nil, List.length_cons, List.length_nil, List.getElem?_cons_zero, List.getElem?_cons_succ, List.getElem?_nil, List.replicate_zero, List.replicate_succ, List.all_cons, List.all_nil, List.any_cons, List.any_nil, List.filterMap_cons, List.filterMap_nil, List.set_cons_zero, List.set_cons_succ, Bool.and_true, Bool.true_and, Bool.and_false, Bool.false_and, Bool.and_self, Bool.or_true, Bool.true_or, Bool.or_false, Bool.false_or, Bool.not_true, Bool.not_false, Nat.zero_add, Nat.add_zero, Nat.reduceAdd, Nat.reduceSub, Nat.reduceMul, Nat.reduceBEq, Nat.reduceEqDiff, Nat.reduceLT, Nat.sub_self, beq_self_eq_true, Option.map_some, Option.map_none, reduceIte, if_true, if_false, Bool.false_eq_true, decide_true, decide_false, reduceCtorEq, Int.reduceLE, Int.reduceLT, Int.reduceNeg, Int.reduceToNat, Int.reduceEq, Int.reducePow, Int.reduceDiv, Int.reduceAdd, Int.reduceSub, Int.reduceMul, true_and, and_true, List.isEmpty_nil, List.isEmpty_cons]
  rw [lcF_filtN (p := hi rs (mid rs is))]
  · simp only [l3, w2, mSeq, mIfS, mRet, mDrop, mSet, mSetT, mSetL, mSetD, mFrz, mNext, mBk, mCt, mNever, mFor, mWhile, mVar, mC, mOp, mUn, mTru, mB, mOfT, mAnd, mOr, mNot, mIf, mAndV, mOrV, mNotV, mChain, mNil, mCons, mTup, mLst, mFz, mFzD, mDNew, mDGet, mDIn, mBlt, mBltL, mIsi, mNoO, mSomeO, mSl, mRg1, mRg2, mLstRg, mCall, mCallK, mItS, mItR, mItE, mLc, mLc2, mYes, mApp1, mExt, mPopW, mPopAtW, mSetIx, mDPut, mRf, mRfD, pE, pL, pD, mPs, mPar, putP, wE, bnd, pk, liftO, peek, dats, pks, getL, putLρ, putLM, getD, putDρ, putDM, argC, permL, slotA, outV, mFn, setTg, setTgs, gSeq, MO.look, MO.slot, truD, bolD, intD, Slot.own, noOwn, wipeS, capL, gAdd, DL.gSub, gMul, gDiv, gMod, gPow, gLt, gLe, gGt, gGe, gIs, gIsNot, gIx, gLen, gAbs, gMax2, gMin2, gInt, gList, gTuple, gNeg, gI0, gII, gSl, bodE, bodT, bodI, lcF, forGo, lim, Nat.zero_le, Nat.reduceLeDiff, List.map_cons, List.map_nil, List.cons_append, List.nil_append, List.append_nil, List.length_cons, List.length_nil, List.getElem?_cons_zero, List.getElem?_cons_succ, List.getElem?_nil, List.replicate_zero, List.replicate_succ, List.all_cons, List.all_nil, List.any_cons, List.any_nil, List.filterMap_cons, List.filterMap_nil, List.set_cons_zero, List.set_cons_succ, Bool.and_true, Bool.true_and, Bool.and_false, Bool.false_and, Bool.and_self, Bool.or_true, Bool.true_or, Bool.or_false, Bool.false_or, Bool.not_true, Bool.not_false, Nat.zero_add, Nat.add_zero, Nat.reduceAdd, Nat.reduceSub, Nat.reduceMul, Nat.reduceBEq, Nat.reduceEqDiff, Nat.reduceLT, Nat.sub_self, beq_self_eq_true, Option.map_some, Option.map_none, reduceIte, if_true, if_false, Bool.false_eq_true, decide_true, decide_false, reduceCtorEq, Int.reduceLE, Int.reduceLT, Int.reduceNeg, Int.reduceToNat, Int.reduceEq, Int.reducePow, Int.reduceDiv, Int.reduceAdd, Int.reduceSub, Int.reduceMul, true_and, and_true, List.isEmpty_nil, List.isEmpty_cons]
    unfold iD pthD
    rw [← pa1]
    rfl
  · intro k m
    simp only [rD, hw k m, pr, pr0, mSeq, mIfS, mRet, mDrop, mSet, mSetT, mSetL, mSetD, mFrz, mNext, mBk, mCt, mNever, mFor, mWhile, mVar, mC, mOp, mUn, mTru, mB, mOfT, mAnd, mOr, mNot, mIf, mAndV, mOrV, mNotV, mChain, mNil, mCons, mTup, mLst, mFz, mFzD, mDNew, mDGet, mDIn, mBlt, mBltL, mIsi, mNoO, mSomeO, mSl, mRg1, mRg2, mLstRg, mCall, mCallK, mItS, mItR, mItE, mLc, mLc2, mYes, mApp1, mExt, mPopW, mPopAtW, mSetIx, mDPut, mRf, mRfD, pE, pL, pD, mPs, mPar, putP, wE, bnd, pk, liftO, peek, dats, pks, getL, putLρ, putLM, getD, putDρ, putDM, argC, permL, slotA, outV, mFn, setTg, setTgs, gSeq, MO.look, MO.slot, truD, bolD, intD, Slot.own, noOwn, wipeS, capL, gAdd, DL.gSub, gMul, gDiv, gMod, gPow, gLt, gLe, gGt, gGe, gIs, gIsNot, gIx, gLen, gAbs, gMax2, gMin2, gInt, gList, gTuple, gNeg, gI0, gII, gSl, bodE, bodT, bodI, lcF, forGo, lim, Nat.zero_le, Nat.reduceLeDiff, List.map_cons, List.map_nil, List.cons_append, List.nil_append, List.append_nil, List.length_cons, List.length_nil, List.getElem?_cons_zero, List.getElem?_cons_succ, List.getElem?_nil, List.replicate_zero, List.replicate_succ, List.all_cons, List.all_nil, List.any_cons, List.any_nil, List.filterMap_cons, List.filterMap_nil, List.set_cons_zero, List.set_cons_succ, Bool.and_true, Bool.true_and, Bool.and_false, Bool.false_and, Bool.and_self, Bool.or_true, Bool.true_or, Bool.or_false, Bool.false_or, Bool.not_true, Bool.not_false, Nat.zero_add, Nat.add_zero, Nat.reduceAdd, Nat.reduceSub, Nat.reduceMul, Nat.reduceBEq, Nat.reduceEqDiff, Nat.reduceLT, Nat.sub_self, beq_self_eq_true, Option.map_some, Option.map_none, reduceIte, if_true, if_false, Bool.false_eq_true, decide_true, decide_false, reduceCtorEq, Int.reduceLE, Int.reduceLT, Int.reduceNeg, Int.reduceToNat, Int.reduceEq, Int.reducePow, Int.reduceDiv, Int.reduceAdd, Int.reduceSub, Int.reduceMul, true_and, and_true, List.isEmpty_nil, List.isEmpty_cons]
    unfold hi
    by_cases h : mid rs is < (at_ rs k).1
    · simp only [h, mSeq, mIfS, mRet, mDrop, mSet, mSetT, mSetL, mSetD, mFrz, mNext, mBk, mCt, mNever, mFor, mWhile, mVar, mC, mOp, mUn, mTru, mB, mOfT, mAnd, mOr, mNot, mIf, mAndV, mOrV, mNotV, mChain, mNil, mCons, mTup, mLst, mFz, mFzD, mDNew, mDGet, mDIn, mBlt, mBltL, mIsi, mNoO, mSomeO, mSl, mRg1, mRg2, mLstRg, mCall, mCallK, mItS, mItR, mItE, mLc, mLc2, mYes, mApp1, mExt, mPopW, mPopAtW, mSetIx, mDPut, mRf, mRfD, pE, pL, pD, mPs, mPar, putP, wE, bnd, pk, liftO, peek, dats, pks, getL, putLρ, putLM, getD, putDρ, putDM, argC, permL, slotA, outV, mFn, setTg, setTgs, gSeq, MO.look, MO.slot, truD, bolD, intD, Slot.own, noOwn, wipeS, capL, gAdd, DL.gSub, gMul, gDiv, gMod, gPow, gLt, gLe, gGt, gGe, gIs, gIsNot, gIx, gLen, gAbs, gMax2, gMin2, gInt, gList, gTuple, gNeg, gI0, gII, gSl, bodE, bodT, bodI, lcF, forGo, lim, Nat.zero_le, Nat.reduceLeDiff, List.map_cons, List.map_nil, List.cons_append, List.nil_append, List.append_nil, List.length_cons, List.length_nil, List.getElem?_cons_zero, List.getElem?_cons_succ, List.getElem?_nil, List.replicate_zero, List.replicate_succ, List.all_cons, List.all_nil, List.any_cons, List.any_nil, List.filterMap_cons, List.filterMap_nil, List.set_cons_zero, List.set_cons_succ, Bool.and_true, Bool.true_and, Bool.and_false, Bool.false_and, Bool.and_self, Bool.or_true, Bool.true_or, Bool.or_false, Bool.false_or, Bool.not_true, Bool.not_false, Nat.zero_add, Nat.add_zero, Nat.reduceAdd, Nat.reduceSub, Nat.reduceMul, Nat.reduceBEq, Nat.reduceEqDiff, Nat.reduceLT, Nat.sub_self, beq_self_eq_true, Option.map_some, Option.map_none, reduceIte, if_true, if_false, Bool.false_eq_true, decide_true, decide_false, reduceCtorEq, Int.reduceLE, Int.reduceLT, Int.reduceNeg, Int.reduceToNat, Int.reduceEq, Int.reducePow, Int.reduceDiv, Int.reduceAdd, Int.reduceSub, Int.reduceMul, true_and, and_true, List.isEmpty_nil, List.isEmpty_cons]
    · simp only [h, mSeq, mIfS, mRet, mDrop, mSet, mSetT, mSetL, mSetD, mFrz, mNext, mBk, mCt, mNever, mFor, mWhile, mVar, mC, mOp, mUn, mTru, mB, mOfT, mAnd, mOr, mNot, mIf, mAndV, mOrV, mNotV, mChain, mNil, mCons, mTup, mLst, mFz, mFzD, mDNew, mDGet, mDIn, mBlt, mBltL, mIsi, mNoO, mSomeO, mSl, mRg1, mRg2, mLstRg, mCall, mCallK, mItS, mItR, mItE, mLc, mLc2, mYes, mApp1, mExt, mPopW, mPopAtW, mSetIx, mDPut, mRf, mRfD, pE, pL, pD, mPs, mPar, putP, wE, bnd, pk, liftO, peek, dats, pks, getL, putLρ, putLM, getD, putDρ, putDM, argC, permL, slotA, outV, mFn, setTg, setTgs, gSeq, MO.look, MO.slot, truD, bolD, intD, Slot.own, noOwn, wipeS, capL, gAdd, DL.gSub, gMul, gDiv, gMod, gPow, gLt, gLe, gGt, gGe, gIs, gIsNot, gIx, gLen, gAbs, gMax2, gMin2, gInt, gList, gTuple, gNeg, gI0, gII, gSl, bodE, bodT, bodI, lcF, forGo, lim, Nat.zero_le, Nat.reduceLeDiff, List.map_cons, List.map_nil, List.cons_append, List.nil_append, List.append_nil, List.length_cons, List.length_nil, List.getElem?_cons_zero, List.getElem?_cons_succ, List.getElem?_nil, List.replicate_zero, List.replicate_succ, List.all_cons, List.all_nil, List.any_cons, List.any_nil, List.filterMap_cons, List.filterMap_nil, List.set_cons_zero, List.set_cons_succ, Bool.and_true, Bool.true_and, Bool.and_false, Bool.false_and, Bool.and_self, Bool.or_true, Bool.true_or, Bool.or_false, Bool.false_or, Bool.not_true, Bool.not_false, Nat.zero_add, Nat.add_zero, Nat.reduceAdd, Nat.reduceSub, Nat.reduceMul, Nat.reduceBEq, Nat.reduceEqDiff, Nat.reduceLT, Nat.sub_self, beq_self_eq_true, Option.map_some, Option.map_none, reduceIte, if_true, if_false, Bool.false_eq_true, decide_true, decide_false, reduceCtorEq, Int.reduceLE, Int.reduceLT, Int.reduceNeg, Int.reduceToNat, Int.reduceEq, Int.reducePow, Int.reduceDiv, Int.reduceAdd, Int.reduceSub, Int.reduceMul, true_and, and_true, List.isEmpty_nil, List.isEmpty_cons]
end K03
set_option Elab.async false
set_option linter.all false
set_option maxRecDepth 100000
set_option maxHeartbeats 4000000
/-! k03: the loop of _law_tree_right -/
namespace K03
open PySem L2 DL
theorem entries_pos (t : T) (p : List Nat) : 0 < (entries t p).length := by cases t <;> simp [entries]
theorem tD_good {k : Nat} : ∀ (rs : List Row) (N : Nat) (is : List Nat), flat (tD (tr rs N is)) = true ∧ (tD (tr rs N is)).depth ≤ N + 1
  | rs, 0, is => ⟨rfl, by simp [tr, tD, PyData.depth]⟩
  | rs, N + 1, is => by
    by_cases z : is = []
    · rw [z, tr_nil]
      exact ⟨rfl, by simp [tD, PyData.depth]⟩
    · rw [tr_nd z]
      have h1 := tD_good (k := k) rs N (is.filter (lo rs (mid rs is)))
      have h2 := tD_good (k := k) rs N (is.filter (hi rs (mid rs is)))
      have h3 : PyData.depthAll (iL (is.filter (md rs (mid rs is)))) ≤ 0 := depth_all _ fun d m => by
        obtain ⟨k, _, rfl⟩ := List.mem_map.mp m
        simp [nD, PyData.depth]
      have h4 : flats (iL (is.filter (md rs (mid rs is)))) = true := flats_of _ fun d m => by
        obtain ⟨k, _, rfl⟩ := List.mem_map.mp m
        rfl
      refine ⟨?_, ?_⟩
      · simp [tD, flat, flats, h1.1, h2.1, h4]
      · simp only [tD, PyData.depth, PyData.depthAll]
        omega
theorem iL_flat (is : List Nat) : flats (iL is) = true ∧ PyData.depthAll (iL is) ≤ 0 := ⟨flats_of _ fun d m => by
  obtain ⟨k, _, rfl⟩ := List.mem_map.mp m
  rfl, depth_all _ fun d m => by
  obtain ⟨k, _, rfl⟩ := List.mem_map.mp m
  simp [nD, PyData.depth]⟩
theorem iD_good (rs : List Row) {N : Nat} (hN : N ≤ 24) (p is js : List Nat) : flat (iD p (tr rs N is) js) = true ∧ (iD p (tr rs N is) js).depth ≤ 40 := by
  have h1 := tD_good (k := 0) rs N is
  have h2 := iL_flat p
  have h3 := iL_flat js
  refine ⟨?_, ?_⟩
  · simp [iD, pthD, flat, flats, h1.1, h2.1, h3.1]
  · simp only [iD, pthD, PyData.depth, PyData.depthAll]
    omega
end K03
set_option Elab.async false
set_option linter.all false
set_option maxRecDepth 100000
set_option maxHeartbeats 4000000
/-! k03: the loop of _law_tree_right -/
namespace K03
open PySem L2 DL
theorem loop21 {rs : List Row} (hr : OkR rs) {tv : D} (n : Nat) (M : List MO) : ∀ (N : Nat) (is p : List Nat) (W : List D) (ms : Ms) (seen : List Nat) (s5 s6 s7 s8 s9 s10 s11 : DL.Slot) (ts rest : List D),
    is.length ≤ N → N ≤ 24 → (∀ k ∈ is, k < rs.length) → (∀ d ∈ W, flat d = true ∧ d.depth ≤ 40) → (∀ e ∈ ms, ¬ p <+: e.1) → ts.length = (entries (tr rs N is) p).length → ms.length + (entries (tr rs N is) p).length < 1000 → seen.length + (seenT (tr rs N is)).length < 1000 → W.length + N < 900 → p.length + N < 900 →
    ∃ s5' s6' s7' s8' s9' s10' s11', forGo (.name 5) F21_0 (callN tab (n + 3)) (ts ++ rest) [.d (rD rs), .d tv, .ol (W ++ [iD p (tr rs N is) is]), .od true (mE ms), .ol (iL seen), s5, s6, s7, s8, s9, s10, s11, .un] M =
      forGo (.name 5) F21_0 (callN tab (n + 3)) rest [.d (rD rs), .d tv, .ol W, .od true (mE (ms ++ entries (tr rs N is) p)), .ol (iL (seen ++ seenT (tr rs N is))), s5', s6', s7', s8', s9', s10', s11', .un] M := by
  have nilcase : ∀ (p : List Nat) (W : List D) (ms : Ms) (seen : List Nat) (s5 s6 s7 s8 s9 s10 s11 : DL.Slot) (ts rest : List D), (∀ d ∈ W, flat d = true ∧ d.depth ≤ 40) → (∀ e ∈ ms, ¬ p <+: e.1) → ts.length = 1 → ms.length < 1000 →
      ∃ s5' s6' s7' s8' s9' s10' s11', forGo (.name 5) F21_0 (callN tab (n + 3)) (ts ++ rest) [.d (rD rs), .d tv, .ol (W ++ [iD p .nil []]), .od true (mE ms), .ol (iL seen), s5, s6, s7, s8, s9, s10, s11, .un] M =
        forGo (.name 5) F21_0 (callN tab (n + 3)) rest [.d (rD rs), .d tv, .ol W, .od true (mE (ms ++ [(p, .none)])), .ol (iL (seen ++ [])), s5', s6', s7', s8', s9', s10', s11', .un] M := by
    intro p W ms seen s5 s6 s7 s8 s9 s10 s11 ts rest hW hm ht hml
    match ts, ht with
    | [d], _ =>
      have hok : okD (.list (W ++ [iD p .nil []])) = true := okD_list (k := 40) (fun x mx => by
        rcases List.mem_append.mp mx with mx | mx
        · exact hW x mx
        · rw [List.mem_singleton.mp mx]
          exact iD_good rs (N := 0) (by decide) p [] []) (by decide)
      refine ⟨.d d, .d (pthD p), .d .none, .d (.list []), s9, s10, s11, ?_⟩
      rw [List.append_nil]
      show forGo (.name 5) F21_0 (callN tab (n + 3)) (d :: rest) _ M = _
      exact for_ct (ρ1 := [.d (rD rs), .d tv, .ol (W ++ [iD p .nil []]), .od true (mE ms), .ol (iL seen), .d d, s6, s7, s8, s9, s10, s11, .un]) rfl (turn_nil _ M hok (fun e he z => hm e he (by rw [z]; exact List.prefix_refl _)) hml)
  intro N
  induction N with
  | zero =>
    intro is p W ms seen s5 s6 s7 s8 s9 s10 s11 ts rest hl hN hk hW hm ht hml hsl hWl hpl
    have e : is = [] := List.length_eq_zero_iff.mp (Nat.le_zero.mp hl)
    subst e
    exact nilcase p W ms seen s5 s6 s7 s8 s9 s10 s11 ts rest hW hm ht (by omega)
  | succ N ih =>
    intro is p W ms seen s5 s6 s7 s8 s9 s10 s11 ts rest hl hN hk hW hm ht hml hsl hWl hpl
    by_cases z : is = []
    · subst z
      rw [tr_nil] at ht hml ⊢
      exact nilcase p W ms seen s5 s6 s7 s8 s9 s10 s11 ts rest hW hm ht (by omega)
    · have hgood := iD_good rs hN p is is
      rw [tr_nd z] at ht hml hsl hgood ⊢
      obtain ⟨k0, m0, z1, z2⟩ := mid_in hr z hk
      have f1 := filt_lt m0 z1
      have f2 := filt_lt m0 z2
      generalize hL : tr rs N (is.filter (lo rs (mid rs is))) = l at *
      generalize hR : tr rs N (is.filter (hi rs (mid rs is))) = r at *
      rw [entries, List.length_cons, List.length_append] at ht hml
      rw [seenT, List.length_append, List.length_append] at hsl
      cases ts with
      | nil => cases ht
      | cons d ts =>
        rw [List.length_cons] at ht
        have hok : okD (.list (W ++ [iD p (.nd (mid rs is) (is.filter (md rs (mid rs is))) l r) is])) = true := okD_list (k := 40) (fun x mx => by
          rcases List.mem_append.mp mx with mx | mx
          · exact hW x mx
          · rw [List.mem_singleton.mp mx]
            exact hgood) (by decide)
        have t1 := turn_nd hr (tv := tv) (W := W) (p := p) (ms := ms) (seen := seen) (is := is) (l := l) (r := r) (s5 := .d d) (s6 := s6) (s7 := s7) (s8 := s8) (s9 := s9) (s10 := s10) (s11 := s11) n M z hk (by omega) hok (fun e he z => hm e he (by rw [z]; exact List.prefix_refl _)) (by omega) (by omega) (by omega) (by omega)
        have g0 := iD_good rs (N := N) (by omega) (p ++ [0]) (is.filter (lo rs (mid rs is))) (is.filter (lo rs (mid rs is)))
        rw [hL] at g0
        have sp : ts = ts.take (entries r (p ++ [1])).length ++ ts.drop (entries r (p ++ [1])).length := (List.take_append_drop _ _).symm
        obtain ⟨u5, u6, u7, u8, u9, u10, u11, eR⟩ := ih (is.filter (hi rs (mid rs is))) (p ++ [1]) (W ++ [iD (p ++ [0]) l (is.filter (lo rs (mid rs is)))]) (ms ++ [(p, .tuple [.int (mid rs is), .tuple (iL (is.filter (md rs (mid rs is))))])]) (seen ++ is.filter (md rs (mid rs is))) (.d d) (.d (pthD p)) (.d (tD (.nd (mid rs is) (is.filter (md rs (mid rs is))) l r))) (.d (.list (iL is))) (.ol ((PySem.W.sortI (ends2 rs is)).map .int)) (.d (.int (mid rs is))) (.d (.tuple (iL (is.filter (md rs (mid rs is)))))) (ts.take (entries r (p ++ [1])).length) (ts.drop (entries r (p ++ [1])).length ++ rest)
          (by omega) (by omega) (fun k m => hk k (List.mem_filter.mp m).1) (fun x mx => by
            rcases List.mem_append.mp mx with mx | mx
            · exact hW x mx
            · rw [List.mem_singleton.mp mx]
              exact g0) (fun e he y => by
            rcases List.mem_append.mp he with he | he
            · exact hm e he ((List.prefix_append p [1]).trans y)
            · rw [List.mem_singleton.mp he] at y
              exact not_self y) (by rw [hR, List.length_take]; omega) (by rw [hR, List.length_append, List.length_singleton]; omega) (by rw [hR, List.length_append]; omega) (by rw [List.length_append, List.length_singleton]; omega) (by rw [List.length_append, List.length_singleton]; omega)
        rw [hR] at eR
        obtain ⟨v5, v6, v7, v8, v9, v10, v11, eL⟩ := ih (is.filter (lo rs (mid rs is))) (p ++ [0]) W ((ms ++ [(p, .tuple [.int (mid rs is), .tuple (iL (is.filter (md rs (mid rs is))))])]) ++ entries r (p ++ [1])) (seen ++ is.filter (md rs (mid rs is)) ++ seenT r) u5 u6 u7 u8 u9 u10 u11 (ts.drop (entries r (p ++ [1])).length) rest
          (by omega) (by omega) (fun k m => hk k (List.mem_filter.mp m).1) hW (fun e he y => by
            rcases List.mem_append.mp he with he | he
            · rcases List.mem_append.mp he with he | he
              · exact hm e he ((List.prefix_append p [0]).trans y)
              · rw [List.mem_singleton.mp he] at y
                exact not_self y
            · exact not_both (keys_ext r _ e he) y) (by rw [hL, List.length_drop]; omega) (by rw [hL, List.length_append, List.length_append, List.length_singleton]; omega) (by rw [hL, List.length_append, List.length_append]; omega) (by omega) (by rw [List.length_append, List.length_singleton]; omega)
        rw [hL] at eL
        refine ⟨v5, v6, v7, v8, v9, v10, v11, ?_⟩
        show forGo (.name 5) F21_0 (callN tab (n + 3)) (d :: (ts ++ rest)) _ M = _
        have w3 : W ++ [iD (p ++ [0]) l (is.filter (lo rs (mid rs is))), iD (p ++ [1]) r (is.filter (hi rs (mid rs is)))] = (W ++ [iD (p ++ [0]) l (is.filter (lo rs (mid rs is)))]) ++ [iD (p ++ [1]) r (is.filter (hi rs (mid rs is)))] := by rw [List.append_assoc]; rfl
        rw [w3] at t1
        rw [for_nx (ρ1 := [.d (rD rs), .d tv, .ol (W ++ [iD p (.nd (mid rs is) (is.filter (md rs (mid rs is))) l r) is]), .od true (mE ms), .ol (iL seen), .d d, s6, s7, s8, s9, s10, s11, .un]) rfl t1]
        have sp2 : ts ++ rest = ts.take (entries r (p ++ [1])).length ++ (ts.drop (entries r (p ++ [1])).length ++ rest) := by rw [← List.append_assoc, ← sp]
        rw [sp2, eR, eL, entries, seenT]
        simp only [List.append_assoc, List.cons_append, List.nil_append]
end K03
set_option Elab.async false
set_option linter.all false
set_option maxRecDepth 100000
set_option maxHeartbeats 4000000
/-! k03: how many entries -/
namespace K03
open PySem L2 DL
theorem entries_len {rs : List Row} (hr : OkR rs) : ∀ (N : Nat) (is p : List Nat), is.length ≤ N → (∀ k ∈ is, k < rs.length) → (entries (tr rs N is) p).length ≤ 2 * is.length + 1
  | 0, is, p, hl, _ => by
    rw [List.length_eq_zero_iff.mp (Nat.le_zero.mp hl)]
    exact Nat.le_refl _
  | N + 1, is, p, hl, hk => by
    by_cases z : is = []
    · rw [z, tr_nil]
      exact Nat.le_refl _
    · rw [tr_nd z, entries, List.length_cons, List.length_append]
      obtain ⟨k0, m0, z1, z2⟩ := mid_in hr z hk
      have q1 := entries_len hr N (is.filter (lo rs (mid rs is))) (p ++ [0]) (by have := filt_lt m0 z1; omega) fun k m => hk k (List.mem_filter.mp m).1
      have q2 := entries_len hr N (is.filter (hi rs (mid rs is))) (p ++ [1]) (by have := filt_lt m0 z2; omega) fun k m => hk k (List.mem_filter.mp m).1
      have h3 := (part3 hr (mid rs is) is hk).length_eq
      rw [List.length_append, List.length_append] at h3
      have h4 : 0 < (is.filter (md rs (mid rs is))).length := List.length_pos_iff.mpr fun y => by
        have : k0 ∈ is.filter (md rs (mid rs is)) := List.mem_filter.mpr ⟨m0, by unfold md; rw [z1, z2]; rfl⟩
        rw [y] at this
        cases this
      omega
theorem eqv_iL : ∀ is : List Nat, PyData.eqvAll (iL is) (iL is) = true
  | [] => by simp [iL, PyData.eqvAll]
  | k :: is => by
    have := eqv_iL is
    unfold iL at this ⊢
    rw [List.map_cons]
    simp [PyData.eqvAll, nD, PyData.eqv, this]
theorem gEq_iL (is : List Nat) : gEq (.list (iL is)) (.list (iL is)) = some (.bool true) := by
  rw [gEq_ok (iL_ok is) (iL_ok is)]
  have : PyData.eqv (.list (iL is)) (.list (iL is)) = true := by
    rw [PyData.eqv]
    exact eqv_iL is
  rw [this]
end K03
set_option Elab.async false
set_option linter.all false
set_option maxRecDepth 100000
set_option maxHeartbeats 4000000
/-! k03: _law_tree_right -/
namespace K03
open PySem L2 DL
theorem at21 {n : Nat} {as : List Vl} {M : List MO} : callN tab (n + 1) 21 as M = mFn N21.length B21 (callN tab n) as M := rfl
theorem seenT_len {rs : List Row} (hr : OkR rs) : (seenT (tree rs)).length = rs.length := by
  unfold tree
  rw [(seen_perm hr rs.length (all_ rs.length) (by rw [all_len]; exact Nat.le_refl _) fun k m => all_lt m).length_eq, all_len]
theorem r21 {rs : List Row} (hr : OkR rs) (n : Nat) (M : List MO) : callN tab (n + 4) 21 [.d (rD rs), .d (tD (tree rs))] M = some (.d (.dict (mE (entries (tree rs) []))), M) := by
  have hl := hr.len
  have he : (entries (tree rs) []).length ≤ 2 * rs.length + 1 := by
    have := entries_len hr rs.length (all_ rs.length) [] (by rw [all_len]; exact Nat.le_refl _) fun k m => all_lt m
    rw [all_len] at this
    exact this
  have hsl := seenT_len hr
  have hall : iL (all_ (2 * rs.length + 2)) = (iL (all_ (2 * rs.length + 2))).take (entries (tree rs) []).length ++ (iL (all_ (2 * rs.length + 2))).drop (entries (tree rs) []).length := (List.take_append_drop _ _).symm
  have hdrop : ((iL (all_ (2 * rs.length + 2))).drop (entries (tree rs) []).length).length = 2 * rs.length + 2 - (entries (tree rs) []).length := by rw [List.length_drop, iL_len, all_len]
  obtain ⟨u5, u6, u7, u8, u9, u10, u11, e⟩ := loop21 hr (tv := tD (tree rs)) n M rs.length (all_ rs.length) [] [] [] [] .un .un .un .un .un .un .un ((iL (all_ (2 * rs.length + 2))).take (entries (tree rs) []).length) ((iL (all_ (2 * rs.length + 2))).drop (entries (tree rs) []).length)
    (by rw [all_len]; exact Nat.le_refl _) hl (fun k m => all_lt m) (fun d m => nomatch m) (fun e m => nomatch m) (by rw [List.length_take, iL_len, all_len]; show min _ _ = (entries (tree rs) []).length; omega) (by show 0 + (entries (tree rs) []).length < 1000; omega) (by show 0 + (seenT (tree rs)).length < 1000; omega) (by show 0 + rs.length < 900; omega) (by show 0 + rs.length < 900; omega)
  rw [← hall] at e
  have e : forGo (.name 5) F21_0 (callN tab (n + 3)) (iL (all_ (2 * rs.length + 2))) [.d (rD rs), .d (tD (tree rs)), .ol [iD [] (tree rs) (all_ rs.length)], .od true [], .ol [], .un, .un, .un, .un, .un, .un, .un, .un] M = forGo (.name 5) F21_0 (callN tab (n + 3)) ((iL (all_ (2 * rs.length + 2))).drop (entries (tree rs) []).length) [.d (rD rs), .d (tD (tree rs)), .ol [], .od true (mE (entries (tree rs) [])), .ol (iL (seenT (tree rs))), u5, u6, u7, u8, u9, u10, u11, .un] M := e
  have g4 : gEq (.list []) (.list []) = some (.bool true) := by rfl
  obtain ⟨x, xs, hx⟩ : ∃ x xs, (iL (all_ (2 * rs.length + 2))).drop (entries (tree rs) []).length = x :: xs := by
    cases h : (iL (all_ (2 * rs.length + 2))).drop (entries (tree rs) []).length with
    | nil => rw [h] at hdrop; simp only [List.length_nil] at hdrop; omega
    | cons x xs => exact ⟨x, xs, rfl⟩
  have e2 : forGo (.name 5) F21_0 (callN tab (n + 3)) (iL (all_ (2 * rs.length + 2))) [.d (rD rs), .d (tD (tree rs)), .ol [iD [] (tree rs) (all_ rs.length)], .od true [], .ol [], .un, .un, .un, .un, .un, .un, .un, .un] M = some (.nx, [.d (rD rs), .d (tD (tree rs)), .ol [], .od true (mE (entries (tree rs) [])), .ol (iL (seenT (tree rs))), .d x, u6, u7, u8, u9, u10, u11, .un], M) := by
    rw [e, hx]
    refine for_bk (ρ1 := [.d (rD rs), .d (tD (tree rs)), .ol [], .od true (mE (entries (tree rs) [])), .ol (iL (seenT (tree rs))), .d x, u6, u7, u8, u9, u10, u11, .un]) rfl ?_
    unfold F21_0
    exact seq_bk (by simp only [g4, mSeq, mIfS, mRet, mDrop, mSet, mSetT, mSetL, mSetD, mFrz, mNext, mBk, mCt, mNever, mFor, mWhile, mVar, mC, mOp, mUn, mTru, mB, mOfT, mAnd, mOr, mNot, mIf, mAndV, mOrV, mNotV, mChain, mNil, mCons, mTup, mLst, mFz, mFzD, mDNew, mDGet, mDIn, mBlt, mBltL, mIsi, mNoO, mSomeO, mSl, mRg1, mRg2, mLstRg, mCall, mCallK, mItS, mItR, mItE, mLc, mLc2, mYes, mApp1, mExt, mPopW, mPopAtW, mSetIx, mDPut, mRf, mRfD, pE, pL, pD, mPs, mPar, putP, wE, bnd, pk, liftO, peek, dats, pks, getL, putLρ, putLM, getD, putDρ, putDM, argC, permL, slotA, outV, mFn, setTg, setTgs, gSeq, MO.look, MO.slot, truD, bolD, intD, Slot.own, noOwn, wipeS, capL, gAdd, DL.gSub, gMul, gDiv, gMod, gPow, gLt, gLe, gGt, gGe, gIs, gIsNot, gIx, gLen, gAbs, gMax2, gMin2, gInt, gList, gTuple, gNeg, gI0, gII, gSl, bodE, bodT, bodI, lcF, forGo, lim, Nat.zero_le, Nat.reduceLeDiff, List.map_cons, List.map_nil, List.cons_append, List.nil_append, List.append_nil, List.length_cons, List.length_nil, List.getElem?_cons_zero, List.getElem?_cons_succ, List.getElem?_nil, List.replicate_zero, List.replicate_succ, List.all_cons, List.all_nil, List.any_cons, List.any_nil, List.filterMap_cons, List.filterMap_nil, List.set_cons_zero, List.set_cons_succ, Bool.and_true, Bool.true_and, Bool.and_false, Bool.false_and, Bool.and_self, Bool.or_true, Bool.true_or, Bool.or_false, Bool.false_or, Bool.not_true, Bool.not_false, Nat.zero_add, Nat.add_zero, Nat.reduceAdd, Nat.reduceSub, Nat.reduceMul, Nat.reduceBEq, Nat.reduceEqDiff, Nat.reduceLT, Nat.sub_self, beq_self_eq_true, Option.map_some, Option.map_none, reduceIte, if_true, if_false, Bool.false_eq_true, decide_true, decide_false, reduceCtorEq, Int.reduceLE, Int.reduceLT, Int.reduceNeg, Int.reduceToNat, Int.reduceEq, Int.reducePow, Int.reduceDiv, Int.reduceAdd, Int.reduceSub, Int.reduceMul, true_and, and_true, List.isEmpty_nil, List.isEmpty_cons])
  have it : mItR (mRg1 (mOp gAdd (mOp gMul (mC (.int 2)) (mBlt gLen (mCons (mVar 0) mNil))) (mC (.int 2)))) (callN tab (n + 3)) [.d (rD rs), .d (tD (tree rs)), .ol [iD [] (tree rs) (all_ rs.length)], .od true [], .ol [], .un, .un, .un, .un, .un, .un, .un, .un] M = some (iL (all_ (2 * rs.length + 2)), M) := by
    rw [itR (a := 0) (b := ((2 * rs.length + 2 : Nat) : Int)) (M1 := M) (by simp only [rD, List.length_map, sml2, Int.natCast_add, Int.natCast_mul, mSeq, mIfS, mRet, mDrop, mSet, mSetT, mSetL, mSetD, mFrz, mNext, mBk, mCt, mNever, mFor, mWhile, mVar, mC, mOp, mUn, mTru, mB, mOfT, mAnd, mOr, mNot, mIf, mAndV, mOrV, mNotV, mChain, mNil, mCons, mTup, mLst, mFz, mFzD, mDNew, mDGet, mDIn, mBlt, mBltL, mIsi, mNoO, mSomeO, mSl, mRg1, mRg2, mLstRg, mCall, mCallK, mItS, mItR, mItE, mLc, mLc2, mYes, mApp1, mExt, mPopW, mPopAtW, mSetIx, mDPut, mRf, mRfD, pE, pL, pD, mPs, mPar, putP, wE, bnd, pk, liftO, peek, dats, pks, getL, putLρ, putLM, getD, putDρ, putDM, argC, permL, slotA, outV, mFn, setTg, setTgs, gSeq, MO.look, MO.slot, truD, bolD, intD, Slot.own, noOwn, wipeS, capL, gAdd, DL.gSub, gMul, gDiv, gMod, gPow, gLt, gLe, gGt, gGe, gIs, gIsNot, gIx, gLen, gAbs, gMax2, gMin2, gInt, gList, gTuple, gNeg, gI0, gII, gSl, bodE, bodT, bodI, lcF, forGo, lim, Nat.zero_le, Nat.reduceLeDiff, List.map_cons, List.map_nil, List.cons_append, List.nil_append, List.append_nil, List.length_cons, List.length_nil, List.getElem?_cons_zero, List.getElem?_cons_succ, List.getElem?_nil, List.replicate_zero, List.replicate_succ, List.all_cons, List.all_nil, List.any_cons, List.any_nil, List.filterMap_cons, List.filterMap_nil, List.set_cons_zero, List.set_cons_succ, Bool.and_true, Bool.true_and, Bool.and_false, Bool.false_and, Bool.and_self, Bool.or_true, Bool.true_or, Bool.or_false, Bool.false_or, Bool.not_true, Bool.not_false, Nat.zero_add, Nat.add_zero, Nat.reduceAdd, Nat.reduceSub, Nat.reduceMul, Nat.reduceBEq, Nat.reduceEqDiff, Nat.reduceLT, Nat.sub_self, beq_self_eq_true, Option.map_some, Option.map_none, reduceIte, if_true, if_false, Bool.false_eq_true, decide_true, decide_false, reduceCtorEq, Int.reduceLE, Int.reduceLT, Int.reduceNeg, Int.reduceToNat, Int.reduceEq, Int.reducePow, Int.reduceDiv, Int.reduceAdd, Int.reduceSub, Int.reduceMul, true_and, and_true, List.isEmpty_nil, List.isEmpty_cons]; rfl) (okRg0 (by omega)), rg_all]
  have hl2 : ((rs.length : Int) - 0).toNat ≤ 1000000 := by omega
  have hl3 : okRg 0 (rs.length : Int) = true := okRg0 (by omega)
  have hB : B21 (callN tab (n + 3)) [.d (rD rs), .d (tD (tree rs)), .un, .un, .un, .un, .un, .un, .un, .un, .un, .un, .un] M = some (.rt (.d (.dict (mE (entries (tree rs) [])))), [.d (rD rs), .d (tD (tree rs)), .ol [], .d (.dict (mE (entries (tree rs) []))), .ol (iL (seenT (tree rs))), .d x, u6, u7, u8, u9, u10, u11, .un], M) := by
    unfold B21
    rw [seq_nx (ρ1 := [.d (rD rs), .d (tD (tree rs)), .ol [iD [] (tree rs) (all_ rs.length)], .od true [], .ol [], .un, .un, .un, .un, .un, .un, .un, .un]) (M1 := M) (by simp only [rD, List.length_map, hl2, hl3, rg_all, mSeq, mIfS, mRet, mDrop, mSet, mSetT, mSetL, mSetD, mFrz, mNext, mBk, mCt, mNever, mFor, mWhile, mVar, mC, mOp, mUn, mTru, mB, mOfT, mAnd, mOr, mNot, mIf, mAndV, mOrV, mNotV, mChain, mNil, mCons, mTup, mLst, mFz, mFzD, mDNew, mDGet, mDIn, mBlt, mBltL, mIsi, mNoO, mSomeO, mSl, mRg1, mRg2, mLstRg, mCall, mCallK, mItS, mItR, mItE, mLc, mLc2, mYes, mApp1, mExt, mPopW, mPopAtW, mSetIx, mDPut, mRf, mRfD, pE, pL, pD, mPs, mPar, putP, wE, bnd, pk, liftO, peek, dats, pks, getL, putLρ, putLM, getD, putDρ, putDM, argC, permL, slotA, outV, mFn, setTg, setTgs, gSeq, MO.look, MO.slot, truD, bolD, intD, Slot.own, noOwn, wipeS, capL, gAdd, DL.gSub, gMul, gDiv, gMod, gPow, gLt, gLe, gGt, gGe, gIs, gIsNot, gIx, gLen, gAbs, gMax2, gMin2, gInt, gList, gTuple, gNeg, gI0, gII, gSl, bodE, bodT, bodI, lcF, forGo, lim, Nat.zero_le, Nat.reduceLeDiff, List.map_cons, List.map_nil, List.cons_append, List.nil_append, List.append_nil, List.length_cons, List.length_nil, List.getElem?_cons_zero, List.getElem?_cons_succ, List.getElem?_nil, List.replicate_zero, List.replicate_succ, List.all_cons, List.all_nil, List.any_cons, List.any_nil, List.filterMap_cons, List.filterMap_nil, List.set_cons_zero, List.set_cons_succ, Bool.and_true, Bool.true_and, Bool.and_false, Bool.false_and, Bool.and_self, Bool.or_true, Bool.true_or, Bool.or_false, Bool.false_or, Bool.not_true, Bool.not_false, Nat.zero_add, Nat.add_zero, Nat.reduceAdd, Nat.reduceSub, Nat.reduceMul, Nat.reduceBEq, Nat.reduceEqDiff, Nat.reduceLT, Nat.sub_self, beq_self_eq_true, Option.map_some, Option.map_none, reduceIte, if_true, if_false, Bool.false_eq_true, decide_true, decide_false, reduceCtorEq, Int.reduceLE, Int.reduceLT, Int.reduceNeg, Int.reduceToNat, Int.reduceEq, Int.reducePow, Int.reduceDiv, Int.reduceAdd, Int.reduceSub, Int.reduceMul, true_and, and_true, List.isEmpty_nil, List.isEmpty_cons]; rfl)]
    rw [seq_nx (ρ1 := [.d (rD rs), .d (tD (tree rs)), .ol [], .od true (mE (entries (tree rs) [])), .ol (iL (seenT (tree rs))), .d x, u6, u7, u8, u9, u10, u11, .un]) (M1 := M) (by rw [for_eq it]; exact e2)]
    simp only [rD, List.length_map, hl2, hl3, rg_all, gSorted_iL, seen_all hr, gEq_iL, mSeq, mIfS, mRet, mDrop, mSet, mSetT, mSetL, mSetD, mFrz, mNext, mBk, mCt, mNever, mFor, mWhile, mVar, mC, mOp, mUn, mTru, mB, mOfT, mAnd, mOr, mNot, mIf, mAndV, mOrV, mNotV, mChain, mNil, mCons, mTup, mLst, mFz, mFzD, mDNew, mDGet, mDIn, mBlt, mBltL, mIsi, mNoO, mSomeO, mSl, mRg1, mRg2, mLstRg, mCall, mCallK, mItS, mItR, mItE, mLc, mLc2, mYes, mApp1, mExt, mPopW, mPopAtW, mSetIx, mDPut, mRf, mRfD, pE, pL, pD, mPs, mPar, putP, wE, bnd, pk, liftO, peek, dats, pks, getL, putLρ, putLM, getD, putDρ, putDM, argC, permL, slotA, outV, mFn, setTg, setTgs, gSeq, MO.look, MO.slot, truD, bolD, intD, Slot.own, noOwn, wipeS, capL, gAdd, DL.gSub, gMul, gDiv, gMod, gPow, gLt, gLe, gGt, gGe, gIs, gIsNot, gIx, gLen, gAbs, gMax2, gMin2, gInt, gList, gTuple, gNeg, gI0, gII, gSl, bodE, bodT, bodI, lcF, forGo, lim, Nat.zero_le, Nat.reduceLeDiff, List.map_cons, List.map_nil, List.cons_append, List.nil_append, List.append_nil, List.length_cons, List.length_nil, List.getElem?_cons_zero, List.getElem?_cons_succ, List.getElem?_nil, List.replicate_zero, List.replicate_succ, List.all_cons, List.all_nil, List.any_cons, List.any_nil, List.filterMap_cons, List.filterMap_nil, List.set_cons_zero, List.set_cons_succ, Bool.and_true, Bool.true_and, Bool.and_false, Bool.false_and, Bool.and_self, Bool.or_true, Bool.true_or, Bool.or_false, Bool.false_or, Bool.not_true, Bool.not_false, Nat.zero_add, Nat.add_zero, Nat.reduceAdd, Nat.reduceSub, Nat.reduceMul, Nat.reduceBEq, Nat.reduceEqDiff, Nat.reduceLT, Nat.sub_self, beq_self_eq_true, Option.map_some, Option.map_none, reduceIte, if_true, if_false, Bool.false_eq_true, decide_true, decide_false, reduceCtorEq, Int.reduceLE, Int.reduceLT, Int.reduceNeg, Int.reduceToNat, Int.reduceEq, Int.reducePow, Int.reduceDiv, Int.reduceAdd, Int.reduceSub, Int.reduceMul, true_and, and_true, List.isEmpty_nil, List.isEmpty_cons]
  rw [at21, fn_rt (nl := N21.length) (b := B21) (c := callN tab (n + 3)) (as := [.d (rD rs), .d (tD (tree rs))]) hB]
  rfl
end K03
set_option Elab.async false
set_option linter.all false
set_option maxRecDepth 100000
set_option maxHeartbeats 4000000
/-! k03: a turn of _law_list_right -/
namespace K03
open PySem L2 DL
theorem gNe_tup (is : List Nat) : gNe (.tuple (iL is)) (.tuple (iL is)) = some (.bool false) := by
  have h : okD (.tuple (iL is)) = true := okD_tuple (k := 1) (fun d m => by
    obtain ⟨k, _, rfl⟩ := List.mem_map.mp m
    exact int_dep _) (by decide)
  rw [gNe_ok h h]
  have : PyData.eqv (.tuple (iL is)) (.tuple (iL is)) = true := by
    rw [PyData.eqv]
    exact eqv_iL is
  rw [this]
  rfl
theorem hereT_len {rs : List Row} (hr : OkR rs) (x : Int) : (wayH (tree rs) x).length ≤ 24 * 24 := by
  have hh : (wayH (tree rs) x).length ≤ (all_ rs.length).length * rs.length := here_len rs x rs.length (all_ rs.length)
  rw [all_len] at hh
  exact Nat.le_trans hh (Nat.mul_le_mul hr.len hr.len)
theorem told_good {rs : List Row} (hr : OkR rs) (x : Int) : good (.list [.tuple ((wayM (tree rs) x).map .int), .tuple (iL ((all_ rs.length).filter (stab rs x)))]) = true ∧ (PyData.list [.tuple ((wayM (tree rs) x).map .int), .tuple (iL ((all_ rs.length).filter (stab rs x)))]).depth ≤ 2 := by
  have hw : (wayT (tree rs) x).length ≤ rs.length := way_len rs x rs.length (all_ rs.length)
  have hl := hr.len
  have h1 : ((wayM (tree rs) x).map PyData.int).length ≤ 10000 := by unfold wayM; rw [List.length_map, List.length_map]; omega
  have h2 : (iL ((all_ rs.length).filter (stab rs x))).length ≤ 10000 := by
    rw [iL_len]
    have := List.length_filter_le (stab rs x) (all_ rs.length)
    rw [all_len] at this
    omega
  have h3 : goods ((wayM (tree rs) x).map .int) = true := goods_of fun d m => by
    obtain ⟨k, _, rfl⟩ := List.mem_map.mp m
    rfl
  have h4 : goods (iL ((all_ rs.length).filter (stab rs x))) = true := goods_of fun d m => by
    obtain ⟨k, _, rfl⟩ := List.mem_map.mp m
    rfl
  have d1 : PyData.depthAll ((wayM (tree rs) x).map .int) ≤ 0 := depth_all _ fun d m => by
    obtain ⟨k, _, rfl⟩ := List.mem_map.mp m
    simp [PyData.depth]
  have d2 := (iL_flat ((all_ rs.length).filter (stab rs x))).2
  refine ⟨?_, ?_⟩
  · unfold good goods
    simp only [good, goods, h3, h4, Bool.and_true, Bool.and_eq_true, decide_eq_true_eq, List.length_cons, List.length_nil]
    exact ⟨by decide, h1, h2⟩
  · simp only [PyData.depth, PyData.depthAll]
    omega
end K03
set_option Elab.async false
set_option linter.all false
set_option maxRecDepth 100000
set_option maxHeartbeats 4000000
/-! k03: a turn of _law_list_right -/
namespace K03
open PySem L2 DL
theorem ent_ne (t : T) (p : List Nat) : entries t p ≠ [] := fun h => by
  have := entries_pos t p
  rw [h] at this
  exact Nat.lt_irrefl _ this
theorem way_ent (x : Int) : ∀ (t : T) (p : List Nat), (wayT t x).length ≤ (entries t p).length
  | .nil, p => Nat.zero_le _
  | .nd m h l r, p => by
    rw [wayT, entries, List.length_cons, List.length_cons, List.length_append]
    have h1 := way_ent x l (p ++ [0])
    have h2 := way_ent x r (p ++ [1])
    split
    · simp only [List.length_nil]
      omega
    · split <;> omega
abbrev TS23 : TM := mB (mChain gLe gLt (mOp gIx (mOp gIx (mVar 1) (mVar 14)) (mC (.int 0))) (mVar 8) (mOp gIx (mOp gIx (mVar 1) (mVar 14)) (mC (.int 1))))
theorem ts23 {rs : List Row} {x : Int} {M : List MO} {ρ : List DL.Slot} {k : Nat} (h1 : ρ[1]? = some (.d (rD rs))) (h2 : ρ[8]? = some (.d (.int x))) (h3 : ρ[14]? = some (.d (.int (k : Int)))) (hk : k < rs.length) (c : Call) : TS23 c ρ M = some (stab rs x k, M) := by
  have h4 := row_at hk
  simp only [h1, h2, h3, h4, rD, pr, pr0, pr1, mSeq, mIfS, mRet, mDrop, mSet, mSetT, mSetL, mSetD, mFrz, mNext, mBk, mCt, mNever, mFor, mWhile, mVar, mC, mOp, mUn, mTru, mB, mOfT, mAnd, mOr, mNot, mIf, mAndV, mOrV, mNotV, mChain, mNil, mCons, mTup, mLst, mFz, mFzD, mDNew, mDGet, mDIn, mBlt, mBltL, mIsi, mNoO, mSomeO, mSl, mRg1, mRg2, mLstRg, mCall, mCallK, mItS, mItR, mItE, mLc, mLc2, mYes, mApp1, mExt, mPopW, mPopAtW, mSetIx, mDPut, mRf, mRfD, pE, pL, pD, mPs, mPar, putP, wE, bnd, pk, liftO, peek, dats, pks, getL, putLρ, putLM, getD, putDρ, putDM, argC, permL, slotA, outV, mFn, setTg, setTgs, gSeq, MO.look, MO.slot, truD, bolD, intD, Slot.own, noOwn, wipeS, capL, gAdd, DL.gSub, gMul, gDiv, gMod, gPow, gLt, gLe, gGt, gGe, gIs, gIsNot, gIx, gLen, gAbs, gMax2, gMin2, gInt, gList, gTuple, gNeg, gI0, gII, gSl, bodE, bodT, bodI, lcF, forGo, lim, Nat.zero_le, Nat.reduceLeDiff, List.map_cons, List.map_nil, List.cons_append, List.nil_append, List.append_nil, List.length_cons, List.length_nil, List.getElem?_cons_zero, List.getElem?_cons_succ, List.getElem?_nil, List.replicate_zero, List.replicate_succ, List.all_cons, List.all_nil, List.any_cons, List.any_nil, List.filterMap_cons, List.filterMap_nil, List.set_cons_zero, List.set_cons_succ, Bool.and_true, Bool.true_and, Bool.and_false, Bool.false_and, Bool.and_self, Bool.or_true, Bool.true_or, Bool.or_false, Bool.false_or, Bool.not_true, Bool.not_false, Nat.zero_add, Nat.add_zero, Nat.reduceAdd, Nat.reduceSub, Nat.reduceMul, Nat.reduceBEq, Nat.reduceEqDiff, Nat.reduceLT, Nat.sub_self, beq_self_eq_true, Option.map_some, Option.map_none, reduceIte, if_true, if_false, Bool.false_eq_true, decide_true, decide_false, reduceCtorEq, Int.reduceLE, Int.reduceLT, Int.reduceNeg, Int.reduceToNat, Int.reduceEq, Int.reducePow, Int.reduceDiv, Int.reduceAdd, Int.reduceSub, Int.reduceMul, true_and, and_true, List.isEmpty_nil, List.isEmpty_cons]
  unfold stab
  by_cases h : (at_ rs k).1 ≤ x
  · simp only [h, h1, h2, h3, h4, rD, pr, pr1, mSeq, mIfS, mRet, mDrop, mSet, mSetT, mSetL, mSetD, mFrz, mNext, mBk, mCt, mNever, mFor, mWhile, mVar, mC, mOp, mUn, mTru, mB, mOfT, mAnd, mOr, mNot, mIf, mAndV, mOrV, mNotV, mChain, mNil, mCons, mTup, mLst, mFz, mFzD, mDNew, mDGet, mDIn, mBlt, mBltL, mIsi, mNoO, mSomeO, mSl, mRg1, mRg2, mLstRg, mCall, mCallK, mItS, mItR, mItE, mLc, mLc2, mYes, mApp1, mExt, mPopW, mPopAtW, mSetIx, mDPut, mRf, mRfD, pE, pL, pD, mPs, mPar, putP, wE, bnd, pk, liftO, peek, dats, pks, getL, putLρ, putLM, getD, putDρ, putDM, argC, permL, slotA, outV, mFn, setTg, setTgs, gSeq, MO.look, MO.slot, truD, bolD, intD, Slot.own, noOwn, wipeS, capL, gAdd, DL.gSub, gMul, gDiv, gMod, gPow, gLt, gLe, gGt, gGe, gIs, gIsNot, gIx, gLen, gAbs, gMax2, gMin2, gInt, gList, gTuple, gNeg, gI0, gII, gSl, bodE, bodT, bodI, lcF, forGo, lim, Nat.zero_le, Nat.reduceLeDiff, List.map_cons, List.map_nil, List.cons_append, List.nil_append, List.append_nil, List.length_cons, List.length_nil, List.getElem?_cons_zero, List.getElem?_cons_succ, List.getElem?_nil, List.replicate_zero, List.replicate_succ, List.all_cons, List.all_nil, List.any_cons, List.any_nil, List.filterMap_cons, List.filterMap_nil, List.set_cons_zero, List.set_cons_succ, Bool.and_true, Bool.true_and, Bool.and_false, Bool.false_and, Bool.and_self, Bool.or_true, Bool.true_or, Bool.or_false, Bool.false_or, Bool.not_true, Bool.not_false, Nat.zero_add, Nat.add_zero, Nat.reduceAdd, Nat.reduceSub, Nat.reduceMul, Nat.reduceBEq, Nat.reduceEqDiff, Nat.reduceLT, Nat.sub_self, beq_self_eq_true, Option.map_some, Option.map_none, reduceIte, if_true, if_false, Bool.false_eq_true, decide_true, decide_false, reduceCtorEq, Int.reduceLE, Int.reduceLT, Int.reduceNeg, Int.reduceToNat, Int.reduceEq, Int.reducePow, Int.reduceDiv, Int.reduceAdd, Int.reduceSub, Int.reduceMul, true_and, and_true, List.isEmpty_nil, List.isEmpty_cons]
  · simp only [h, mSeq, mIfS, mRet, mDrop, mSet, mSetT, mSetL, mSetD, mFrz, mNext, mBk, mCt, mNever, mFor, mWhile, mVar, mC, mOp, mUn, mTru, mB, mOfT, mAnd, mOr, mNot, mIf, mAndV, mOrV, mNotV, mChain, mNil, mCons, mTup, mLst, mFz, mFzD, mDNew, mDGet, mDIn, mBlt, mBltL, mIsi, mNoO, mSomeO, mSl, mRg1, mRg2, mLstRg, mCall, mCallK, mItS, mItR, mItE, mLc, mLc2, mYes, mApp1, mExt, mPopW, mPopAtW, mSetIx, mDPut, mRf, mRfD, pE, pL, pD, mPs, mPar, putP, wE, bnd, pk, liftO, peek, dats, pks, getL, putLρ, putLM, getD, putDρ, putDM, argC, permL, slotA, outV, mFn, setTg, setTgs, gSeq, MO.look, MO.slot, truD, bolD, intD, Slot.own, noOwn, wipeS, capL, gAdd, DL.gSub, gMul, gDiv, gMod, gPow, gLt, gLe, gGt, gGe, gIs, gIsNot, gIx, gLen, gAbs, gMax2, gMin2, gInt, gList, gTuple, gNeg, gI0, gII, gSl, bodE, bodT, bodI, lcF, forGo, lim, Nat.zero_le, Nat.reduceLeDiff, List.map_cons, List.map_nil, List.cons_append, List.nil_append, List.append_nil, List.length_cons, List.length_nil, List.getElem?_cons_zero, List.getElem?_cons_succ, List.getElem?_nil, List.replicate_zero, List.replicate_succ, List.all_cons, List.all_nil, List.any_cons, List.any_nil, List.filterMap_cons, List.filterMap_nil, List.set_cons_zero, List.set_cons_succ, Bool.and_true, Bool.true_and, Bool.and_false, Bool.false_and, Bool.and_self, Bool.or_true, Bool.true_or, Bool.or_false, Bool.false_or, Bool.not_true, Bool.not_false, Nat.zero_add, Nat.add_zero, Nat.reduceAdd, Nat.reduceSub, Nat.reduceMul, Nat.reduceBEq, Nat.reduceEqDiff, Nat.reduceLT, Nat.sub_self, beq_self_eq_true, Option.map_some, Option.map_none, reduceIte, if_true, if_false, Bool.false_eq_true, decide_true, decide_false, reduceCtorEq, Int.reduceLE, Int.reduceLT, Int.reduceNeg, Int.reduceToNat, Int.reduceEq, Int.reducePow, Int.reduceDiv, Int.reduceAdd, Int.reduceSub, Int.reduceMul, true_and, and_true, List.isEmpty_nil, List.isEmpty_cons]
theorem lc23 {rs : List Row} {x : Int} {M : List MO} {ρ : List DL.Slot} {mi : IM} {c : Call} {is : List Nat} (hi : mi c ρ M = some (iL is, M)) (ho : noOwn ρ [14] = true) (hn : ρ.length = 15) (h1 : ρ[1]? = some (.d (rD rs))) (h2 : ρ[8]? = some (.d (.int x))) (hk : ∀ k ∈ is, k < rs.length) (hl : is.length ≤ 1000000) :
    mLc mi (.name 14) [14] TS23 (mVar 14) c ρ M = some (iL (is.filter (stab rs x)), M) := by
  rw [lc_eq hi ho]
  rw [lcF_filtN (p := stab rs x)]
  · have := List.length_filter_le (stab rs x) is
    show (if (iL (is.filter (stab rs x))).length ≤ lim then _ else none) = _
    rw [if_pos (by rw [iL_len]; unfold lim; omega)]
  · intro k m
    have e : setTg (.name 14) (.int (k : Int)) (wipeS ρ [14]) = some ((wipeS ρ [14]).set 14 (.d (.int (k : Int)))) := by
      simp only [setTg]
    have g1 : ((wipeS ρ [14]).set 14 (.d (.int (k : Int))))[1]? = some (.d (rD rs)) := by
      simp [wipeS, h1]
    have g8 : ((wipeS ρ [14]).set 14 (.d (.int (k : Int))))[8]? = some (.d (.int x)) := by
      simp [wipeS, h2]
    have g14 : ((wipeS ρ [14]).set 14 (.d (.int (k : Int))))[14]? = some (.d (.int (k : Int))) := by
      simp [wipeS, hn]
    unfold bodT
    rw [e]
    simp only
    rw [ts23 g1 g8 g14 (hk k m)]
    by_cases z : stab rs x k = true
    · simp only [z, if_true, bodE, mVar, g14]
    · simp only [z, if_false, Bool.false_eq_true]
/-- the names of _law_list_right -/
abbrev S23 (b : Nat) (rs : List Row) (nm : Bool) (s5 s6 s7 : DL.Slot) (x : Int) (s9 s10 s11 s12 s13 : DL.Slot) : List DL.Slot := [.r b, .d (rD rs), .d (.bool nm), .d (tD (tree rs)), .d (.dict (mE (entries (tree rs) []))), s5, s6, s7, .d (.int x), s9, s10, s11, s12, s13, .un]
abbrev isS (rs : List Row) (x : Int) : List Nat := (all_ rs.length).filter (stab rs x)
theorem isS_len (rs : List Row) (x : Int) : (isS rs x).length ≤ rs.length := by
  have := List.length_filter_le (stab rs x) (all_ rs.length)
  rw [all_len] at this
  exact this
theorem have23 {rs : List Row} (hr : OkR rs) {b : Nat} {nm : Bool} {x : Int} {s5 s6 s7 : DL.Slot} {y9 y10 y11 : D} {s12 s13 : DL.Slot} (h12 : s12.own = false) (h13 : s13.own = false) (h5 : ∃ xs, s5 = .ol xs) {c : Call} {M : List MO} :
    mBlt gTuple (mCons (mFz (mLc (mItR (mRg1 (mBlt gLen (mCons (mVar 1) mNil)))) (.name 14) [14] TS23 (mVar 14))) mNil) c (S23 b rs nm s5 s6 s7 x (.d y9) (.d y10) (.d y11) s12 s13) M = some (.d (.tuple (iL (isS rs x))), M) := by
  have hl := hr.len
  have hl3 : okRg 0 (rs.length : Int) = true := okRg0 (by omega)
  have it : mItR (mRg1 (mBlt gLen (mCons (mVar 1) mNil))) c (S23 b rs nm s5 s6 s7 x (.d y9) (.d y10) (.d y11) s12 s13) M = some (iL (all_ rs.length), M) := by
    rw [itR (a := 0) (b := (rs.length : Int)) (M1 := M) (by simp only [rD, List.length_map, mSeq, mIfS, mRet, mDrop, mSet, mSetT, mSetL, mSetD, mFrz, mNext, mBk, mCt, mNever, mFor, mWhile, mVar, mC, mOp, mUn, mTru, mB, mOfT, mAnd, mOr, mNot, mIf, mAndV, mOrV, mNotV, mChain, mNil, mCons, mTup, mLst, mFz, mFzD, mDNew, mDGet, mDIn, mBlt, mBltL, mIsi, mNoO, mSomeO, mSl, mRg1, mRg2, mLstRg, mCall, mCallK, mItS, mItR, mItE, mLc, mLc2, mYes, mApp1, mExt, mPopW, mPopAtW, mSetIx, mDPut, mRf, mRfD, pE, pL, pD, mPs, mPar, putP, wE, bnd, pk, liftO, peek, dats, pks, getL, putLρ, putLM, getD, putDρ, putDM, argC, permL, slotA, outV, mFn, setTg, setTgs, gSeq, MO.look, MO.slot, truD, bolD, intD, Slot.own, noOwn, wipeS, capL, gAdd, DL.gSub, gMul, gDiv, gMod, gPow, gLt, gLe, gGt, gGe, gIs, gIsNot, gIx, gLen, gAbs, gMax2, gMin2, gInt, gList, gTuple, gNeg, gI0, gII, gSl, bodE, bodT, bodI, lcF, forGo, lim, Nat.zero_le, Nat.reduceLeDiff, List.map_cons, List.map_nil, List.cons_append, List.nil_append, List.append_nil, List.length_cons, List.length_nil, List.getElem?_cons_zero, List.getElem?_cons_succ, List.getElem?_nil, List.replicate_zero, List.replicate_succ, List.all_cons, List.all_nil, List.any_cons, List.any_nil, List.filterMap_cons, List.filterMap_nil, List.set_cons_zero, List.set_cons_succ, Bool.and_true, Bool.true_and, Bool.and_false, Bool.false_and, Bool.and_self, Bool.or_true, Bool.true_or, Bool.or_false, Bool.false_or, Bool.not_true, Bool.not_false, Nat.zero_add, Nat.add_zero, Nat.reduceAdd, Nat.reduceSub, Nat.reduceMul, Nat.reduceBEq, Nat.reduceEqDiff, Nat.reduceLT, Nat.sub_self, beq_self_eq_true, Option.map_some, Option.map_none, reduceIte, if_true, if_false, Bool.false_eq_true, decide_true, decide_false, reduceCtorEq, Int.reduceLE, Int.reduceLT, Int.reduceNeg, Int.reduceToNat, Int.reduceEq, Int.reducePow, Int.reduceDiv, Int.reduceAdd, Int.reduceSub, Int.reduceMul, true_and, and_true, List.isEmpty_nil, List.isEmpty_cons]) hl3, rg_all]
  have e := lc23 (rs := rs) (x := x) (M := M) (ρ := S23 b rs nm s5 s6 s7 x (.d y9) (.d y10) (.d y11) s12 s13) it (by rfl) rfl rfl rfl (fun k m => all_lt m) (by rw [all_len]; omega)
  have l : (iL (isS rs x)).length ≤ 1000000 := by rw [iL_len]; have := isS_len rs x; omega
  generalize mLc (mItR (mRg1 (mBlt gLen (mCons (mVar 1) mNil)))) (.name 14) [14] TS23 (mVar 14) = m at e
  simp only [e, l, mSeq, mIfS, mRet, mDrop, mSet, mSetT, mSetL, mSetD, mFrz, mNext, mBk, mCt, mNever, mFor, mWhile, mVar, mC, mOp, mUn, mTru, mB, mOfT, mAnd, mOr, mNot, mIf, mAndV, mOrV, mNotV, mChain, mNil, mCons, mTup, mLst, mFz, mFzD, mDNew, mDGet, mDIn, mBlt, mBltL, mIsi, mNoO, mSomeO, mSl, mRg1, mRg2, mLstRg, mCall, mCallK, mItS, mItR, mItE, mLc, mLc2, mYes, mApp1, mExt, mPopW, mPopAtW, mSetIx, mDPut, mRf, mRfD, pE, pL, pD, mPs, mPar, putP, wE, bnd, pk, liftO, peek, dats, pks, getL, putLρ, putLM, getD, putDρ, putDM, argC, permL, slotA, outV, mFn, setTg, setTgs, gSeq, MO.look, MO.slot, truD, bolD, intD, Slot.own, noOwn, wipeS, capL, gAdd, DL.gSub, gMul, gDiv, gMod, gPow, gLt, gLe, gGt, gGe, gIs, gIsNot, gIx, gLen, gAbs, gMax2, gMin2, gInt, gList, gTuple, gNeg, gI0, gII, gSl, bodE, bodT, bodI, lcF, forGo, lim, Nat.zero_le, Nat.reduceLeDiff, List.map_cons, List.map_nil, List.cons_append, List.nil_append, List.append_nil, List.length_cons, List.length_nil, List.getElem?_cons_zero, List.getElem?_cons_succ, List.getElem?_nil, List.replicate_zero, List.replicate_succ, List.all_cons, List.all_nil, List.any_cons, List.any_nil, List.filterMap_cons, List.filterMap_nil, List.set_cons_zero, List.set_cons_succ, Bool.and_true, Bool.true_and, Bool.and_false, Bool.false_and, Bool.and_self, Bool.or_true, Bool.true_or, Bool.or_false, Bool.false_or, Bool.not_true, Bool.not_false, Nat.zero_add, Nat.add_zero, Nat.reduceAdd, Nat.reduceSub, Nat.reduceMul, Nat.reduceBEq, Nat.reduceEqDiff, Nat.reduceLT, Nat.sub_self, beq_self_eq_true, Option.map_some, Option.map_none, reduceIte, if_true, if_false, Bool.false_eq_true, decide_true, decide_false, reduceCtorEq, Int.reduceLE, Int.reduceLT, Int.reduceNeg, Int.reduceToNat, Int.reduceEq, Int.reducePow, Int.reduceDiv, Int.reduceAdd, Int.reduceSub, Int.reduceMul, true_and, and_true, List.isEmpty_nil, List.isEmpty_cons]
theorem met23 {rs : List Row} (hr : OkR rs) {b : Nat} {nm : Bool} {x : Int} {s5 s6 s7 : DL.Slot} {y9 y11 y12 : D} {s13 : DL.Slot} {c : Call} {M : List MO} :
    mBlt gTuple (mCons (mFz (mBltL gSortedI (mCons (mFz (mLc (mItS (mVar 10)) (.name 14) [14] TS23 (mVar 14))) mNil))) mNil) c (S23 b rs nm s5 s6 s7 x (.d y9) (.d (.list (iL (wayH (tree rs) x)))) (.d y11) (.d y12) s13) M = some (.d (.tuple (iL (isS rs x))), M) := by
  have hh := hereT_len hr x
  have hl := hr.len
  have it : mItS (mVar 10) c (S23 b rs nm s5 s6 s7 x (.d y9) (.d (.list (iL (wayH (tree rs) x)))) (.d y11) (.d y12) s13) M = some (iL (wayH (tree rs) x), M) := by
    simp only [mSeq, mIfS, mRet, mDrop, mSet, mSetT, mSetL, mSetD, mFrz, mNext, mBk, mCt, mNever, mFor, mWhile, mVar, mC, mOp, mUn, mTru, mB, mOfT, mAnd, mOr, mNot, mIf, mAndV, mOrV, mNotV, mChain, mNil, mCons, mTup, mLst, mFz, mFzD, mDNew, mDGet, mDIn, mBlt, mBltL, mIsi, mNoO, mSomeO, mSl, mRg1, mRg2, mLstRg, mCall, mCallK, mItS, mItR, mItE, mLc, mLc2, mYes, mApp1, mExt, mPopW, mPopAtW, mSetIx, mDPut, mRf, mRfD, pE, pL, pD, mPs, mPar, putP, wE, bnd, pk, liftO, peek, dats, pks, getL, putLρ, putLM, getD, putDρ, putDM, argC, permL, slotA, outV, mFn, setTg, setTgs, gSeq, MO.look, MO.slot, truD, bolD, intD, Slot.own, noOwn, wipeS, capL, gAdd, DL.gSub, gMul, gDiv, gMod, gPow, gLt, gLe, gGt, gGe, gIs, gIsNot, gIx, gLen, gAbs, gMax2, gMin2, gInt, gList, gTuple, gNeg, gI0, gII, gSl, bodE, bodT, bodI, lcF, forGo, lim, Nat.zero_le, Nat.reduceLeDiff, List.map_cons, List.map_nil, List.cons_append, List.nil_append, List.append_nil, List.length_cons, List.length_nil, List.getElem?_cons_zero, List.getElem?_cons_succ, List.getElem?_nil, List.replicate_zero, List.replicate_succ, List.all_cons, List.all_nil, List.any_cons, List.any_nil, List.filterMap_cons, List.filterMap_nil, List.set_cons_zero, List.set_cons_succ, Bool.and_true, Bool.true_and, Bool.and_false, Bool.false_and, Bool.and_self, Bool.or_true, Bool.true_or, Bool.or_false, Bool.false_or, Bool.not_true, Bool.not_false, Nat.zero_add, Nat.add_zero, Nat.reduceAdd, Nat.reduceSub, Nat.reduceMul, Nat.reduceBEq, Nat.reduceEqDiff, Nat.reduceLT, Nat.sub_self, beq_self_eq_true, Option.map_some, Option.map_none, reduceIte, if_true, if_false, Bool.false_eq_true, decide_true, decide_false, reduceCtorEq, Int.reduceLE, Int.reduceLT, Int.reduceNeg, Int.reduceToNat, Int.reduceEq, Int.reducePow, Int.reduceDiv, Int.reduceAdd, Int.reduceSub, Int.reduceMul, true_and, and_true, List.isEmpty_nil, List.isEmpty_cons]
  have hin : ∀ k ∈ wayH (tree rs) x, k < rs.length := fun k m => by
    unfold wayH at m
    obtain ⟨u, hu, hk⟩ := List.mem_flatMap.mp m
    exact all_lt (way_in rs x rs.length (all_ rs.length) u hu k hk)
  have e := lc23 (rs := rs) (x := x) (M := M) (ρ := S23 b rs nm s5 s6 s7 x (.d y9) (.d (.list (iL (wayH (tree rs) x)))) (.d y11) (.d y12) s13) it (by rfl) rfl rfl rfl hin (by omega)
  have ma := met_all hr x
  have l : (iL (isS rs x)).length ≤ 1000000 := by rw [iL_len]; have := isS_len rs x; omega
  generalize mLc (mItS (mVar 10)) (.name 14) [14] TS23 (mVar 14) = m at e
  simp only [e, l, gSorted_iL, ma, mSeq, mIfS, mRet, mDrop, mSet, mSetT, mSetL, mSetD, mFrz, mNext, mBk, mCt, mNever, mFor, mWhile, mVar, mC, mOp, mUn, mTru, mB, mOfT, mAnd, mOr, mNot, mIf, mAndV, mOrV, mNotV, mChain, mNil, mCons, mTup, mLst, mFz, mFzD, mDNew, mDGet, mDIn, mBlt, mBltL, mIsi, mNoO, mSomeO, mSl, mRg1, mRg2, mLstRg, mCall, mCallK, mItS, mItR, mItE, mLc, mLc2, mYes, mApp1, mExt, mPopW, mPopAtW, mSetIx, mDPut, mRf, mRfD, pE, pL, pD, mPs, mPar, putP, wE, bnd, pk, liftO, peek, dats, pks, getL, putLρ, putLM, getD, putDρ, putDM, argC, permL, slotA, outV, mFn, setTg, setTgs, gSeq, MO.look, MO.slot, truD, bolD, intD, Slot.own, noOwn, wipeS, capL, gAdd, DL.gSub, gMul, gDiv, gMod, gPow, gLt, gLe, gGt, gGe, gIs, gIsNot, gIx, gLen, gAbs, gMax2, gMin2, gInt, gList, gTuple, gNeg, gI0, gII, gSl, bodE, bodT, bodI, lcF, forGo, lim, Nat.zero_le, Nat.reduceLeDiff, List.map_cons, List.map_nil, List.cons_append, List.nil_append, List.append_nil, List.length_cons, List.length_nil, List.getElem?_cons_zero, List.getElem?_cons_succ, List.getElem?_nil, List.replicate_zero, List.replicate_succ, List.all_cons, List.all_nil, List.any_cons, List.any_nil, List.filterMap_cons, List.filterMap_nil, List.set_cons_zero, List.set_cons_succ, Bool.and_true, Bool.true_and, Bool.and_false, Bool.false_and, Bool.and_self, Bool.or_true, Bool.true_or, Bool.or_false, Bool.false_or, Bool.not_true, Bool.not_false, Nat.zero_add, Nat.add_zero, Nat.reduceAdd, Nat.reduceSub, Nat.reduceMul, Nat.reduceBEq, Nat.reduceEqDiff, Nat.reduceLT, Nat.sub_self, beq_self_eq_true, Option.map_some, Option.map_none, reduceIte, if_true, if_false, Bool.false_eq_true, decide_true, decide_false, reduceCtorEq, Int.reduceLE, Int.reduceLT, Int.reduceNeg, Int.reduceToNat, Int.reduceEq, Int.reducePow, Int.reduceDiv, Int.reduceAdd, Int.reduceSub, Int.reduceMul, true_and, and_true, List.isEmpty_nil, List.isEmpty_cons]
end K03
set_option Elab.async false
set_option linter.all false
set_option maxRecDepth 100000
set_option maxHeartbeats 4000000
/-! k03: a turn of _law_list_right -/
namespace K03
open PySem L2 DL
theorem w_eq {m : EM} {c : Call} {ρ : List DL.Slot} {M M1 : List MO} {x : D} (h : m c ρ M = some (.d x, M1)) : wE m c ρ M = some (.d x, ρ, M1) := by
  unfold wE
  rw [h]
  rfl
theorem set_eq {i : Nat} {w : WM} {c : Call} {ρ ρ1 : List DL.Slot} {M M1 : List MO} {x : D} (h : w c ρ M = some (.d x, ρ1, M1)) : mSet i w c ρ M = some (.nx, ρ1.set i (.d x), M1) := by
  unfold mSet
  rw [h]
theorem told23 {rs : List Row} (hr : OkR rs) {b : Nat} {nm : Bool} {x : Int} {s5 s6 s7 : DL.Slot} {y9 y10 : D} {s11 s12 s13 : DL.Slot} (n : Nat) {M : List MO} :
    mIf (mTru (mVar 2)) (mFz (mLst (mCons (mCallK 10 2 0 2 [1, 0] [] mNil (mCons (mVar 8) (mCons (mVar 1) mNil))) (mCons (mCall 9 2 [] (mCons (mVar 1) (mCons (mVar 8) mNil))) mNil)))) (mFz (mLst (mCons (mCall 10 2 [] (mCons (mVar 1) (mCons (mVar 8) mNil))) (mCons (mCallK 9 2 0 2 [1, 0] [] mNil (mCons (mVar 8) (mCons (mVar 1) mNil))) mNil))))
      (callN tab (n + 27)) (S23 b rs nm s5 s6 s7 x (.d y9) (.d y10) s11 s12 s13) M = some (.d (.list [.tuple ((wayM (tree rs) x).map .int), .tuple (iL (isS rs x))]), M) := by
  have q9 := r9 hr n x M
  have q10 := r10 hr n x M
  rw [met_all hr] at q9
  cases nm <;> simp only [q9, q10, mSeq, mIfS, mRet, mDrop, mSet, mSetT, mSetL, mSetD, mFrz, mNext, mBk, mCt, mNever, mFor, mWhile, mVar, mC, mOp, mUn, mTru, mB, mOfT, mAnd, mOr, mNot, mIf, mAndV, mOrV, mNotV, mChain, mNil, mCons, mTup, mLst, mFz, mFzD, mDNew, mDGet, mDIn, mBlt, mBltL, mIsi, mNoO, mSomeO, mSl, mRg1, mRg2, mLstRg, mCall, mCallK, mItS, mItR, mItE, mLc, mLc2, mYes, mApp1, mExt, mPopW, mPopAtW, mSetIx, mDPut, mRf, mRfD, pE, pL, pD, mPs, mPar, putP, wE, bnd, pk, liftO, peek, dats, pks, getL, putLρ, putLM, getD, putDρ, putDM, argC, permL, slotA, outV, mFn, setTg, setTgs, gSeq, MO.look, MO.slot, truD, bolD, intD, Slot.own, noOwn, wipeS, capL, gAdd, DL.gSub, gMul, gDiv, gMod, gPow, gLt, gLe, gGt, gGe, gIs, gIsNot, gIx, gLen, gAbs, gMax2, gMin2, gInt, gList, gTuple, gNeg, gI0, gII, gSl, bodE, bodT, bodI, lcF, forGo, lim, Nat.zero_le, Nat.reduceLeDiff, List.map_cons, List.map_nil, List.cons_append, List.nil_append, List.append_nil, List.length_cons, List.length_nil, List.getElem?_cons_zero, List.getElem?_cons_succ, List.getElem?_nil, List.replicate_zero, List.replicate_succ, List.all_cons, List.all_nil, List.any_cons, List.any_nil, List.filterMap_cons, List.filterMap_nil, List.set_cons_zero, List.set_cons_succ, Bool.and_true, Bool.true_and, Bool.and_false, Bool.false_and, Bool.and_self, Bool.or_true, Bool.true_or, Bool.or_false, Bool.false_or, Bool.not_true, Bool.not_false, Nat.zero_add, Nat.add_zero, Nat.reduceAdd, Nat.reduceSub, Nat.reduceMul, Nat.reduceBEq, Nat.reduceEqDiff, Nat.reduceLT, Nat.sub_self, beq_self_eq_true, Option.map_some, Option.map_none, reduceIte, if_true, if_false, Bool.false_eq_true, decide_true, decide_false, reduceCtorEq, Int.reduceLE, Int.reduceLT, Int.reduceNeg, Int.reduceToNat, Int.reduceEq, Int.reducePow, Int.reduceDiv, Int.reduceAdd, Int.reduceSub, Int.reduceMul, true_and, and_true, List.isEmpty_nil, List.isEmpty_cons]
theorem way22 {rs : List Row} (hr : OkR rs) (x : Int) (n : Nat) (M : List MO) : callN tab (n + 27) 22 [.d (.dict (mE (entries (tree rs) []))), .d (.int x)] M = some (.d (.tuple [.tuple ((wayM (tree rs) x).map .int), .list (iL (wayH (tree rs) x))]), M) := by
  have hl := hr.len
  have hel : (entries (tree rs) []).length ≤ 2 * rs.length + 1 := by
    have := entries_len hr rs.length (all_ rs.length) [] (by rw [all_len]; exact Nat.le_refl _) fun k m => all_lt m
    rw [all_len] at this
    exact this
  have hH : Has (entries (tree rs) []) [] (tree rs) := has_entries (tree rs) [] [] fun e m => nomatch m
  have hh := hereT_len hr x
  exact r22 (ent_ne (tree rs) []) (by omega) (x := x) hH (way_ent x _ _) (by omega) (n + 26) M
section
variable {rs : List Row} {b : Nat} {nm : Bool} {x : Int} {xs : List D} {s5 s6 s7 s9 s10 s11 s12 s13 : DL.Slot} {M : List MO} {c : Call}
theorem u1 {m1 h1 : D} (q : c 22 [.d (.dict (mE (entries (tree rs) []))), .d (.int x)] M = some (.d (.tuple [m1, h1]), M)) : mSetT (.tup [(.name 9), (.name 10)]) (wE (mCall 22 2 [] (mCons (mVar 4) (mCons (mVar 8) mNil)))) c (S23 b rs nm s5 s6 s7 x s9 s10 s11 s12 s13) M = some (.nx, S23 b rs nm s5 s6 s7 x (.d m1) (.d h1) s11 s12 s13, M) := by
  simp only [q, mSeq, mIfS, mRet, mDrop, mSet, mSetT, mSetL, mSetD, mFrz, mNext, mBk, mCt, mNever, mFor, mWhile, mVar, mC, mOp, mUn, mTru, mB, mOfT, mAnd, mOr, mNot, mIf, mAndV, mOrV, mNotV, mChain, mNil, mCons, mTup, mLst, mFz, mFzD, mDNew, mDGet, mDIn, mBlt, mBltL, mIsi, mNoO, mSomeO, mSl, mRg1, mRg2, mLstRg, mCall, mCallK, mItS, mItR, mItE, mLc, mLc2, mYes, mApp1, mExt, mPopW, mPopAtW, mSetIx, mDPut, mRf, mRfD, pE, pL, pD, mPs, mPar, putP, wE, bnd, pk, liftO, peek, dats, pks, getL, putLρ, putLM, getD, putDρ, putDM, argC, permL, slotA, outV, mFn, setTg, setTgs, gSeq, MO.look, MO.slot, truD, bolD, intD, Slot.own, noOwn, wipeS, capL, gAdd, DL.gSub, gMul, gDiv, gMod, gPow, gLt, gLe, gGt, gGe, gIs, gIsNot, gIx, gLen, gAbs, gMax2, gMin2, gInt, gList, gTuple, gNeg, gI0, gII, gSl, bodE, bodT, bodI, lcF, forGo, lim, Nat.zero_le, Nat.reduceLeDiff, List.map_cons, List.map_nil, List.cons_append, List.nil_append, List.append_nil, List.length_cons, List.length_nil, List.getElem?_cons_zero, List.getElem?_cons_succ, List.getElem?_nil, List.replicate_zero, List.replicate_succ, List.all_cons, List.all_nil, List.any_cons, List.any_nil, List.filterMap_cons, List.filterMap_nil, List.set_cons_zero, List.set_cons_succ, Bool.and_true, Bool.true_and, Bool.and_false, Bool.false_and, Bool.and_self, Bool.or_true, Bool.true_or, Bool.or_false, Bool.false_or, Bool.not_true, Bool.not_false, Nat.zero_add, Nat.add_zero, Nat.reduceAdd, Nat.reduceSub, Nat.reduceMul, Nat.reduceBEq, Nat.reduceEqDiff, Nat.reduceLT, Nat.sub_self, beq_self_eq_true, Option.map_some, Option.map_none, reduceIte, if_true, if_false, Bool.false_eq_true, decide_true, decide_false, reduceCtorEq, Int.reduceLE, Int.reduceLT, Int.reduceNeg, Int.reduceToNat, Int.reduceEq, Int.reducePow, Int.reduceDiv, Int.reduceAdd, Int.reduceSub, Int.reduceMul, true_and, and_true, List.isEmpty_nil, List.isEmpty_cons]
theorem u5 {y9 y10 y11 y12 y13 : D} (q : c 14 [.d y11, .d (.list [y9, y12])] M = some (.d (.bool true), M)) (g : gNe y13 y12 = some (.bool false)) : mIfS (mOr (mNot (mTru (mCall 14 2 [] (mCons (mVar 11) (mCons (mFz (mLst (mCons (mVar 9) (mCons (mVar 12) mNil)))) mNil))))) (mB (mOp gNe (mVar 13) (mVar 12))))
  (mRet (mC (.bool false))) mNext c (S23 b rs nm s5 s6 s7 x (.d y9) (.d y10) (.d y11) (.d y12) (.d y13)) M = some (.nx, S23 b rs nm s5 s6 s7 x (.d y9) (.d y10) (.d y11) (.d y12) (.d y13), M) := by
  simp only [q, g, mSeq, mIfS, mRet, mDrop, mSet, mSetT, mSetL, mSetD, mFrz, mNext, mBk, mCt, mNever, mFor, mWhile, mVar, mC, mOp, mUn, mTru, mB, mOfT, mAnd, mOr, mNot, mIf, mAndV, mOrV, mNotV, mChain, mNil, mCons, mTup, mLst, mFz, mFzD, mDNew, mDGet, mDIn, mBlt, mBltL, mIsi, mNoO, mSomeO, mSl, mRg1, mRg2, mLstRg, mCall, mCallK, mItS, mItR, mItE, mLc, mLc2, mYes, mApp1, mExt, mPopW, mPopAtW, mSetIx, mDPut, mRf, mRfD, pE, pL, pD, mPs, mPar, putP, wE, bnd, pk, liftO, peek, dats, pks, getL, putLρ, putLM, getD, putDρ, putDM, argC, permL, slotA, outV, mFn, setTg, setTgs, gSeq, MO.look, MO.slot, truD, bolD, intD, Slot.own, noOwn, wipeS, capL, gAdd, DL.gSub, gMul, gDiv, gMod, gPow, gLt, gLe, gGt, gGe, gIs, gIsNot, gIx, gLen, gAbs, gMax2, gMin2, gInt, gList, gTuple, gNeg, gI0, gII, gSl, bodE, bodT, bodI, lcF, forGo, lim, Nat.zero_le, Nat.reduceLeDiff, List.map_cons, List.map_nil, List.cons_append, List.nil_append, List.append_nil, List.length_cons, List.length_nil, List.getElem?_cons_zero, List.getElem?_cons_succ, List.getElem?_nil, List.replicate_zero, List.replicate_succ, List.all_cons, List.all_nil, List.any_cons, List.any_nil, List.filterMap_cons, List.filterMap_nil, List.set_cons_zero, List.set_cons_succ, Bool.and_true, Bool.true_and, Bool.and_false, Bool.false_and, Bool.and_self, Bool.or_true, Bool.true_or, Bool.or_false, Bool.false_or, Bool.not_true, Bool.not_false, Nat.zero_add, Nat.add_zero, Nat.reduceAdd, Nat.reduceSub, Nat.reduceMul, Nat.reduceBEq, Nat.reduceEqDiff, Nat.reduceLT, Nat.sub_self, beq_self_eq_true, Option.map_some, Option.map_none, reduceIte, if_true, if_false, Bool.false_eq_true, decide_true, decide_false, reduceCtorEq, Int.reduceLE, Int.reduceLT, Int.reduceNeg, Int.reduceToNat, Int.reduceEq, Int.reducePow, Int.reduceDiv, Int.reduceAdd, Int.reduceSub, Int.reduceMul, true_and, and_true, List.isEmpty_nil, List.isEmpty_cons]
theorem u6 : mSet 2 (wE (mNotV (mVar 2))) c (S23 b rs nm s5 s6 s7 x s9 s10 s11 s12 s13) M = some (.nx, S23 b rs (!nm) s5 s6 s7 x s9 s10 s11 s12 s13, M) := by
  simp only [mSeq, mIfS, mRet, mDrop, mSet, mSetT, mSetL, mSetD, mFrz, mNext, mBk, mCt, mNever, mFor, mWhile, mVar, mC, mOp, mUn, mTru, mB, mOfT, mAnd, mOr, mNot, mIf, mAndV, mOrV, mNotV, mChain, mNil, mCons, mTup, mLst, mFz, mFzD, mDNew, mDGet, mDIn, mBlt, mBltL, mIsi, mNoO, mSomeO, mSl, mRg1, mRg2, mLstRg, mCall, mCallK, mItS, mItR, mItE, mLc, mLc2, mYes, mApp1, mExt, mPopW, mPopAtW, mSetIx, mDPut, mRf, mRfD, pE, pL, pD, mPs, mPar, putP, wE, bnd, pk, liftO, peek, dats, pks, getL, putLρ, putLM, getD, putDρ, putDM, argC, permL, slotA, outV, mFn, setTg, setTgs, gSeq, MO.look, MO.slot, truD, bolD, intD, Slot.own, noOwn, wipeS, capL, gAdd, DL.gSub, gMul, gDiv, gMod, gPow, gLt, gLe, gGt, gGe, gIs, gIsNot, gIx, gLen, gAbs, gMax2, gMin2, gInt, gList, gTuple, gNeg, gI0, gII, gSl, bodE, bodT, bodI, lcF, forGo, lim, Nat.zero_le, Nat.reduceLeDiff, List.map_cons, List.map_nil, List.cons_append, List.nil_append, List.append_nil, List.length_cons, List.length_nil, List.getElem?_cons_zero, List.getElem?_cons_succ, List.getElem?_nil, List.replicate_zero, List.replicate_succ, List.all_cons, List.all_nil, List.any_cons, List.any_nil, List.filterMap_cons, List.filterMap_nil, List.set_cons_zero, List.set_cons_succ, Bool.and_true, Bool.true_and, Bool.and_false, Bool.false_and, Bool.and_self, Bool.or_true, Bool.true_or, Bool.or_false, Bool.false_or, Bool.not_true, Bool.not_false, Nat.zero_add, Nat.add_zero, Nat.reduceAdd, Nat.reduceSub, Nat.reduceMul, Nat.reduceBEq, Nat.reduceEqDiff, Nat.reduceLT, Nat.sub_self, beq_self_eq_true, Option.map_some, Option.map_none, reduceIte, if_true, if_false, Bool.false_eq_true, decide_true, decide_false, reduceCtorEq, Int.reduceLE, Int.reduceLT, Int.reduceNeg, Int.reduceToNat, Int.reduceEq, Int.reducePow, Int.reduceDiv, Int.reduceAdd, Int.reduceSub, Int.reduceMul, true_and, and_true, List.isEmpty_nil, List.isEmpty_cons]
end
theorem chain6 {a b d e f g : SM} {c : Call} {ρ ρ1 ρ2 ρ3 ρ4 ρ5 : List DL.Slot} {M : List MO} {r} (h1 : a c ρ M = some (.nx, ρ1, M)) (h2 : b c ρ1 M = some (.nx, ρ2, M)) (h3 : d c ρ2 M = some (.nx, ρ3, M)) (h4 : e c ρ3 M = some (.nx, ρ4, M)) (h5 : f c ρ4 M = some (.nx, ρ5, M)) (h6 : g c ρ5 M = r) :
    mSeq a (mSeq b (mSeq d (mSeq e (mSeq f g)))) c ρ M = r := by
  rw [seq_nx h1, seq_nx h2, seq_nx h3, seq_nx h4, seq_nx h5, h6]
theorem turn23 {rs : List Row} (hr : OkR rs) {b : Nat} {nm : Bool} {x : Int} {xs : List D} {s6 s7 s9 s10 s11 s12 s13 : DL.Slot} (h12 : s12.own = false) (h13 : s13.own = false) (n : Nat) (M : List MO) :
    F23_1 (callN tab (n + 27)) (S23 b rs nm (.ol xs) s6 s7 x s9 s10 s11 s12 s13) M =
      some (.nx, S23 b rs (!nm) (.ol xs) s6 s7 x (.d (.tuple ((wayM (tree rs) x).map .int))) (.d (.list (iL (wayH (tree rs) x)))) (.d (.list [.tuple ((wayM (tree rs) x).map .int), .tuple (iL (isS rs x))])) (.d (.tuple (iL (isS rs x)))) (.d (.tuple (iL (isS rs x)))), M) := by
  have q22 := way22 hr x n M
  obtain ⟨g1, g2⟩ := told_good hr x
  have qs := same (M := M) 2 (n + 24) _ g1 g2
  have e2 := set_eq (i := 11) (w_eq (told23 hr (b := b) (nm := nm) (x := x) (s5 := .ol xs) (s6 := s6) (s7 := s7) (y9 := .tuple ((wayM (tree rs) x).map .int)) (y10 := .list (iL (wayH (tree rs) x))) (s11 := s11) (s12 := s12) (s13 := s13) n (M := M)))
  have e3 := set_eq (i := 12) (w_eq (have23 hr (b := b) (nm := nm) (x := x) (s5 := .ol xs) (s6 := s6) (s7 := s7) (y9 := .tuple ((wayM (tree rs) x).map .int)) (y10 := .list (iL (wayH (tree rs) x))) (y11 := .list [.tuple ((wayM (tree rs) x).map .int), .tuple (iL (isS rs x))]) h12 h13 ⟨xs, rfl⟩ (c := callN tab (n + 27)) (M := M)))
  have e4 := set_eq (i := 13) (w_eq (met23 hr (b := b) (nm := nm) (x := x) (s5 := .ol xs) (s6 := s6) (s7 := s7) (y9 := .tuple ((wayM (tree rs) x).map .int)) (y11 := .list [.tuple ((wayM (tree rs) x).map .int), .tuple (iL (isS rs x))]) (y12 := .tuple (iL (isS rs x))) (s13 := s13) (c := callN tab (n + 27)) (M := M)))
  exact chain6 (u1 q22) e2 e3 e4 (u5 qs (gNe_tup _)) u6
end K03
set_option Elab.async false
set_option linter.all false
set_option maxRecDepth 100000
set_option maxHeartbeats 4000000
/-! k03: _law_list_right -/
namespace K03
open PySem L2 DL
theorem turnE {rs : List Row} {b : Nat} {nm : Bool} {es : List Int} {s4 s8 s9 s10 s11 s12 s13 s14 : DL.Slot} {t : D} {p q : Int} (hl : es.length ≤ 1000) (c : Call) (M : List MO) :
    F23_0 c [.r b, .d (rD rs), .d (.bool nm), .d t, s4, .ol (es.map .int), .d (.int p), .d (.int q), s8, s9, s10, s11, s12, s13, s14] M = some (.nx, [.r b, .d (rD rs), .d (.bool nm), .d t, s4, .ol ((es ++ [p, q, p - 1, q - 1, (p + q) / 2]).map .int), .d (.int p), .d (.int q), s8, s9, s10, s11, s12, s13, s14], M) := by
  have hl2 : es.length + 5 ≤ 1000000 := by omega
  simp only [F23_0, List.length_map, hl2, mSeq, mIfS, mRet, mDrop, mSet, mSetT, mSetL, mSetD, mFrz, mNext, mBk, mCt, mNever, mFor, mWhile, mVar, mC, mOp, mUn, mTru, mB, mOfT, mAnd, mOr, mNot, mIf, mAndV, mOrV, mNotV, mChain, mNil, mCons, mTup, mLst, mFz, mFzD, mDNew, mDGet, mDIn, mBlt, mBltL, mIsi, mNoO, mSomeO, mSl, mRg1, mRg2, mLstRg, mCall, mCallK, mItS, mItR, mItE, mLc, mLc2, mYes, mApp1, mExt, mPopW, mPopAtW, mSetIx, mDPut, mRf, mRfD, pE, pL, pD, mPs, mPar, putP, wE, bnd, pk, liftO, peek, dats, pks, getL, putLρ, putLM, getD, putDρ, putDM, argC, permL, slotA, outV, mFn, setTg, setTgs, gSeq, MO.look, MO.slot, truD, bolD, intD, Slot.own, noOwn, wipeS, capL, gAdd, DL.gSub, gMul, gDiv, gMod, gPow, gLt, gLe, gGt, gGe, gIs, gIsNot, gIx, gLen, gAbs, gMax2, gMin2, gInt, gList, gTuple, gNeg, gI0, gII, gSl, bodE, bodT, bodI, lcF, forGo, lim, Nat.zero_le, Nat.reduceLeDiff, List.map_cons, List.map_nil, List.cons_append, List.nil_append, List.append_nil, List.length_cons, List.length_nil, List.getElem?_cons_zero, List.getElem?_cons_succ, List.getElem?_nil, List.replicate_zero, List.replicate_succ, List.all_cons, List.all_nil, List.any_cons, List.any_nil, List.filterMap_cons, List.filterMap_nil, List.set_cons_zero, List.set_cons_succ, Bool.and_true, Bool.true_and, Bool.and_false, Bool.false_and, Bool.and_self, Bool.or_true, Bool.true_or, Bool.or_false, Bool.false_or, Bool.not_true, Bool.not_false, Nat.zero_add, Nat.add_zero, Nat.reduceAdd, Nat.reduceSub, Nat.reduceMul, Nat.reduceBEq, Nat.reduceEqDiff, Nat.reduceLT, Nat.sub_self, beq_self_eq_true, Option.map_some, Option.map_none, reduceIte, if_true, if_false, Bool.false_eq_true, decide_true, decide_false, reduceCtorEq, Int.reduceLE, Int.reduceLT, Int.reduceNeg, Int.reduceToNat, Int.reduceEq, Int.reducePow, Int.reduceDiv, Int.reduceAdd, Int.reduceSub, Int.reduceMul, true_and, and_true, List.isEmpty_nil, List.isEmpty_cons]
  simp
theorem loopE {rs : List Row} {b : Nat} {nm : Bool} {s4 s8 s9 s10 s11 s12 s13 s14 : DL.Slot} {t : D} (c : Call) (M : List MO) : ∀ (qs : List Row) (es : List Int) (s6 s7 : DL.Slot), es.length + 5 * qs.length ≤ 1000 →
    ∃ (es' : List Int) (s6' s7' : DL.Slot), es'.length = es.length + 5 * qs.length ∧ forGo (.tup [.name 6, .name 7]) F23_0 c (qs.map pr) [.r b, .d (rD rs), .d (.bool nm), .d t, s4, .ol (es.map .int), s6, s7, s8, s9, s10, s11, s12, s13, s14] M =
      some (.nx, [.r b, .d (rD rs), .d (.bool nm), .d t, s4, .ol (es'.map .int), s6', s7', s8, s9, s10, s11, s12, s13, s14], M)
  | [], es, s6, s7, _ => ⟨es, s6, s7, by simp, rfl⟩
  | q :: qs, es, s6, s7, h => by
    rw [List.length_cons] at h
    obtain ⟨es', s6', s7', h1, h2⟩ := loopE c M qs (es ++ [q.1, q.2, q.1 - 1, q.2 - 1, (q.1 + q.2) / 2]) (.d (.int q.1)) (.d (.int q.2)) (by rw [List.length_append]; simp only [List.length_cons, List.length_nil]; omega)
    refine ⟨es', s6', s7', by rw [h1, List.length_append]; simp only [List.length_cons, List.length_nil]; omega, ?_⟩
    rw [List.map_cons, for_nx (ρ1 := [.r b, .d (rD rs), .d (.bool nm), .d t, s4, .ol (es.map .int), .d (.int q.1), .d (.int q.2), s8, s9, s10, s11, s12, s13, s14]) (by rfl) (turnE (by omega) c M)]
    exact h2
theorem loop23 {rs : List Row} (hr : OkR rs) {b : Nat} {xs : List D} {s6 s7 : DL.Slot} (n : Nat) (M : List MO) : ∀ (ys : List Int) (nm : Bool) (s8 s9 s10 s11 s12 s13 : DL.Slot), s12.own = false → s13.own = false →
    ∃ ρ', forGo (.name 8) F23_1 (callN tab (n + 27)) (ys.map .int) [.r b, .d (rD rs), .d (.bool nm), .d (tD (tree rs)), .d (.dict (mE (entries (tree rs) []))), .ol xs, s6, s7, s8, s9, s10, s11, s12, s13, .un] M = some (.nx, ρ', M)
  | [], nm, s8, s9, s10, s11, s12, s13, h12, h13 => ⟨_, rfl⟩
  | y :: ys, nm, s8, s9, s10, s11, s12, s13, h12, h13 => by
    rw [List.map_cons, for_nx (ρ1 := S23 b rs nm (.ol xs) s6 s7 y s9 s10 s11 s12 s13) (by rfl) (turn23 hr h12 h13 n M)]
    exact loop23 hr n M ys (!nm) _ _ _ _ _ _ rfl rfl
theorem good_tD {rs : List Row} (hr : OkR rs) : ∀ (N : Nat) (is : List Nat), N ≤ 24 → is.length ≤ 24 → good (tD (tr rs N is)) = true ∧ (tD (tr rs N is)).depth ≤ N + 1
  | 0, is, hN, hl => ⟨by simp [tr, tD, good], by simp [tr, tD, PyData.depth]⟩
  | N + 1, is, hN, hl => by
    by_cases z : is = []
    · rw [z, tr_nil]
      exact ⟨by simp [tD, good], by simp [tD, PyData.depth]⟩
    · rw [tr_nd z]
      have f1 := List.length_filter_le (lo rs (mid rs is)) is
      have f2 := List.length_filter_le (hi rs (mid rs is)) is
      have f3 := List.length_filter_le (md rs (mid rs is)) is
      obtain ⟨a1, a2⟩ := good_tD hr N (is.filter (lo rs (mid rs is))) (by omega) (by omega)
      obtain ⟨b1, b2⟩ := good_tD hr N (is.filter (hi rs (mid rs is))) (by omega) (by omega)
      have g := iL_flat (is.filter (md rs (mid rs is)))
      have h4 : goods (iL (is.filter (md rs (mid rs is)))) = true := goods_of fun d m => by
        obtain ⟨k, _, rfl⟩ := List.mem_map.mp m
        rfl
      have h5 : (iL (is.filter (md rs (mid rs is)))).length ≤ 10000 := by rw [iL_len]; omega
      refine ⟨?_, ?_⟩
      · simp [tD, good, goods, h4, h5, a1, b1]
      · have := g.2
        simp only [tD, PyData.depth, PyData.depthAll]
        omega
theorem lcN23 {es : List Int} {l : List Nat} {c : Call} {ρ : List DL.Slot} {M M1 : List MO} {mi : IM} (hi : mi c ρ M = some (iL l, M1)) (ho : noOwn ρ [14] = true) (hn : ρ.length = 15) (h5 : ρ[5]? = some (.ol (es.map .int))) (hk : ∀ k ∈ l, k < es.length) (hl : l.length ≤ 1000000) :
    mLc mi (.name 14) [14] mYes (mOp gIx (mVar 5) (mVar 14)) c ρ M = some ((l.map fun k => es.getD k 0).map .int, M1) := by
  rw [lc_eq hi ho, lcF_mapN (g := fun k => .int (es.getD k 0))]
  · show (if (l.map fun k => PyData.int (es.getD k 0)).length ≤ lim then _ else none) = _
    rw [if_pos (by rw [List.length_map]; exact hl), List.map_map]
    rfl
  · intro k m
    have g5 : ((wipeS ρ [14]).set 14 (.d (.int (k : Int))))[5]? = some (.ol (es.map .int)) := by
      simp [wipeS, h5]
    have g14 : ((wipeS ρ [14]).set 14 (.d (.int (k : Int))))[14]? = some (.d (.int (k : Int))) := by
      simp [wipeS, hn]
    have e : atI (es.map PyData.int) (k : Int) = some (.int (es.getD k 0)) := by
      have := hk k m
      rw [atI_nat (by simpa using this), List.getElem_map, List.getD_eq_getElem?_getD, List.getElem?_eq_getElem this]
      rfl
    simp only [bodT, setTg, mYes, bodE, mOp, bnd, mVar, g5, g14, pk, peek, gIx, e, liftO, Option.map_some, if_true, MO.look]
end K03
set_option Elab.async false
set_option linter.all false
set_option maxRecDepth 100000
set_option maxHeartbeats 4000000
/-! k03: _law_list_right -/
namespace K03
open PySem L2 DL
theorem at23 {n : Nat} {as : List Vl} {M : List MO} : callN tab (n + 1) 23 as M = mFn N23.length B23 (callN tab n) as M := rfl
theorem is_dict (es : List (D × D)) : gIs (.dict es) .none = some (.bool false) := by rfl
section
variable {rs : List Row} {b : Nat} {nm : Bool} {M : List MO} {c : Call}
abbrev E23 (b : Nat) (rs : List Row) (nm : Bool) (s3 s4 s5 s6 s7 : DL.Slot) : List DL.Slot := [.r b, .d (rD rs), .d (.bool nm), s3, s4, s5, s6, s7, .un, .un, .un, .un, .un, .un, .un]
theorem v1 {t : D} (q : c 7 [.d (rD rs)] M = some (.d t, M)) : mSet 3 (wE (mIf (mTru (mVar 2)) (mCallK 7 1 0 1 [0] [] mNil (mCons (mVar 1) mNil)) (mCall 7 1 [] (mCons (mVar 1) mNil)))) c (E23 b rs nm .un .un .un .un .un) M = some (.nx, E23 b rs nm (.d t) .un .un .un .un, M) := by
  cases nm <;> simp only [q, mSeq, mIfS, mRet, mDrop, mSet, mSetT, mSetL, mSetD, mFrz, mNext, mBk, mCt, mNever, mFor, mWhile, mVar, mC, mOp, mUn, mTru, mB, mOfT, mAnd, mOr, mNot, mIf, mAndV, mOrV, mNotV, mChain, mNil, mCons, mTup, mLst, mFz, mFzD, mDNew, mDGet, mDIn, mBlt, mBltL, mIsi, mNoO, mSomeO, mSl, mRg1, mRg2, mLstRg, mCall, mCallK, mItS, mItR, mItE, mLc, mLc2, mYes, mApp1, mExt, mPopW, mPopAtW, mSetIx, mDPut, mRf, mRfD, pE, pL, pD, mPs, mPar, putP, wE, bnd, pk, liftO, peek, dats, pks, getL, putLρ, putLM, getD, putDρ, putDM, argC, permL, slotA, outV, mFn, setTg, setTgs, gSeq, MO.look, MO.slot, truD, bolD, intD, Slot.own, noOwn, wipeS, capL, gAdd, DL.gSub, gMul, gDiv, gMod, gPow, gLt, gLe, gGt, gGe, gIs, gIsNot, gIx, gLen, gAbs, gMax2, gMin2, gInt, gList, gTuple, gNeg, gI0, gII, gSl, bodE, bodT, bodI, lcF, forGo, lim, Nat.zero_le, Nat.reduceLeDiff, List.map_cons, List.map_nil, List.cons_append, List.nil_append, List.append_nil, List.length_cons, List.length_nil, List.getElem?_cons_zero, List.getElem?_cons_succ, List.getElem?_nil, List.replicate_zero, List.replicate_succ, List.all_cons, List.all_nil, List.any_cons, List.any_nil, List.filterMap_cons, List.filterMap_nil, List.set_cons_zero, List.set_cons_succ, Bool.and_true, Bool.true_and, Bool.and_false, Bool.false_and, Bool.and_self, Bool.or_true, Bool.true_or, Bool.or_false, Bool.false_or, Bool.not_true, Bool.not_false, Nat.zero_add, Nat.add_zero, Nat.reduceAdd, Nat.reduceSub, Nat.reduceMul, Nat.reduceBEq, Nat.reduceEqDiff, Nat.reduceLT, Nat.sub_self, beq_self_eq_true, Option.map_some, Option.map_none, reduceIte, if_true, if_false, Bool.false_eq_true, decide_true, decide_false, reduceCtorEq, Int.reduceLE, Int.reduceLT, Int.reduceNeg, Int.reduceToNat, Int.reduceEq, Int.reducePow, Int.reduceDiv, Int.reduceAdd, Int.reduceSub, Int.reduceMul, true_and, and_true, List.isEmpty_nil, List.isEmpty_cons]
theorem v2 {t e : D} (q : c 21 [.d (rD rs), .d t] M = some (.d e, M)) : mSet 4 (wE (mCall 21 2 [] (mCons (mVar 1) (mCons (mVar 3) mNil)))) c (E23 b rs nm (.d t) .un .un .un .un) M = some (.nx, E23 b rs nm (.d t) (.d e) .un .un .un, M) := by
  simp only [q, mSeq, mIfS, mRet, mDrop, mSet, mSetT, mSetL, mSetD, mFrz, mNext, mBk, mCt, mNever, mFor, mWhile, mVar, mC, mOp, mUn, mTru, mB, mOfT, mAnd, mOr, mNot, mIf, mAndV, mOrV, mNotV, mChain, mNil, mCons, mTup, mLst, mFz, mFzD, mDNew, mDGet, mDIn, mBlt, mBltL, mIsi, mNoO, mSomeO, mSl, mRg1, mRg2, mLstRg, mCall, mCallK, mItS, mItR, mItE, mLc, mLc2, mYes, mApp1, mExt, mPopW, mPopAtW, mSetIx, mDPut, mRf, mRfD, pE, pL, pD, mPs, mPar, putP, wE, bnd, pk, liftO, peek, dats, pks, getL, putLρ, putLM, getD, putDρ, putDM, argC, permL, slotA, outV, mFn, setTg, setTgs, gSeq, MO.look, MO.slot, truD, bolD, intD, Slot.own, noOwn, wipeS, capL, gAdd, DL.gSub, gMul, gDiv, gMod, gPow, gLt, gLe, gGt, gGe, gIs, gIsNot, gIx, gLen, gAbs, gMax2, gMin2, gInt, gList, gTuple, gNeg, gI0, gII, gSl, bodE, bodT, bodI, lcF, forGo, lim, Nat.zero_le, Nat.reduceLeDiff, List.map_cons, List.map_nil, List.cons_append, List.nil_append, List.append_nil, List.length_cons, List.length_nil, List.getElem?_cons_zero, List.getElem?_cons_succ, List.getElem?_nil, List.replicate_zero, List.replicate_succ, List.all_cons, List.all_nil, List.any_cons, List.any_nil, List.filterMap_cons, List.filterMap_nil, List.set_cons_zero, List.set_cons_succ, Bool.and_true, Bool.true_and, Bool.and_false, Bool.false_and, Bool.and_self, Bool.or_true, Bool.true_or, Bool.or_false, Bool.false_or, Bool.not_true, Bool.not_false, Nat.zero_add, Nat.add_zero, Nat.reduceAdd, Nat.reduceSub, Nat.reduceMul, Nat.reduceBEq, Nat.reduceEqDiff, Nat.reduceLT, Nat.sub_self, beq_self_eq_true, Option.map_some, Option.map_none, reduceIte, if_true, if_false, Bool.false_eq_true, decide_true, decide_false, reduceCtorEq, Int.reduceLE, Int.reduceLT, Int.reduceNeg, Int.reduceToNat, Int.reduceEq, Int.reducePow, Int.reduceDiv, Int.reduceAdd, Int.reduceSub, Int.reduceMul, true_and, and_true, List.isEmpty_nil, List.isEmpty_cons]
theorem v3 {t : D} {es : List (D × D)} (q : c 7 [.d (rD rs)] M = some (.d t, M)) (q2 : c 14 [.d t, .d t] M = some (.d (.bool true), M)) : mIfS (mOr (mB (mOp gIs (mVar 4) (mC .none))) (mNot (mTru (mCall 14 2 [] (mCons (mCall 7 1 [] (mCons (mVar 1) mNil)) (mCons (mVar 3) mNil))))))
  (mRet (mC (.bool false))) mNext c (E23 b rs nm (.d t) (.d (.dict es)) .un .un .un) M = some (.nx, E23 b rs nm (.d t) (.d (.dict es)) .un .un .un, M) := by
  have h : isNone (.dict es) = false := by rfl
  simp only [q, q2, h, is_dict, mSeq, mIfS, mRet, mDrop, mSet, mSetT, mSetL, mSetD, mFrz, mNext, mBk, mCt, mNever, mFor, mWhile, mVar, mC, mOp, mUn, mTru, mB, mOfT, mAnd, mOr, mNot, mIf, mAndV, mOrV, mNotV, mChain, mNil, mCons, mTup, mLst, mFz, mFzD, mDNew, mDGet, mDIn, mBlt, mBltL, mIsi, mNoO, mSomeO, mSl, mRg1, mRg2, mLstRg, mCall, mCallK, mItS, mItR, mItE, mLc, mLc2, mYes, mApp1, mExt, mPopW, mPopAtW, mSetIx, mDPut, mRf, mRfD, pE, pL, pD, mPs, mPar, putP, wE, bnd, pk, liftO, peek, dats, pks, getL, putLρ, putLM, getD, putDρ, putDM, argC, permL, slotA, outV, mFn, setTg, setTgs, gSeq, MO.look, MO.slot, truD, bolD, intD, Slot.own, noOwn, wipeS, capL, gAdd, DL.gSub, gMul, gDiv, gMod, gPow, gLt, gLe, gGt, gGe, gIs, gIsNot, gIx, gLen, gAbs, gMax2, gMin2, gInt, gList, gTuple, gNeg, gI0, gII, gSl, bodE, bodT, bodI, lcF, forGo, lim, Nat.zero_le, Nat.reduceLeDiff, List.map_cons, List.map_nil, List.cons_append, List.nil_append, List.append_nil, List.length_cons, List.length_nil, List.getElem?_cons_zero, List.getElem?_cons_succ, List.getElem?_nil, List.replicate_zero, List.replicate_succ, List.all_cons, List.all_nil, List.any_cons, List.any_nil, List.filterMap_cons, List.filterMap_nil, List.set_cons_zero, List.set_cons_succ, Bool.and_true, Bool.true_and, Bool.and_false, Bool.false_and, Bool.and_self, Bool.or_true, Bool.true_or, Bool.or_false, Bool.false_or, Bool.not_true, Bool.not_false, Nat.zero_add, Nat.add_zero, Nat.reduceAdd, Nat.reduceSub, Nat.reduceMul, Nat.reduceBEq, Nat.reduceEqDiff, Nat.reduceLT, Nat.sub_self, beq_self_eq_true, Option.map_some, Option.map_none, reduceIte, if_true, if_false, Bool.false_eq_true, decide_true, decide_false, reduceCtorEq, Int.reduceLE, Int.reduceLT, Int.reduceNeg, Int.reduceToNat, Int.reduceEq, Int.reducePow, Int.reduceDiv, Int.reduceAdd, Int.reduceSub, Int.reduceMul, true_and, and_true, List.isEmpty_nil, List.isEmpty_cons]
theorem v4 {s3 s4 : DL.Slot} : mSetL 5 (mLst (mCons (mC (.int 0)) (mCons (mOp gPow (mC (.int 10)) (mC (.int 20))) (mCons (mUn gNeg (mC (.int 1000))) mNil)))) c (E23 b rs nm s3 s4 .un .un .un) M = some (.nx, E23 b rs nm s3 s4 (.ol ([0, 10 ^ 20, -1000].map .int)) .un .un, M) := by
  have e : gPow (.int 10) (.int 20) = some (.int (10 ^ 20)) := by rfl
  simp only [mSetL, mLst, mCons, mC, mOp, mUn, mNil, bnd, pk, peek, e, liftO, Option.map_some, dats, gNeg]
  rfl
end
theorem chain7 {a b d e f g h : SM} {c : Call} {ρ ρ1 ρ2 ρ3 ρ4 ρ5 ρ6 : List DL.Slot} {M M6 : List MO} {r} (h1 : a c ρ M = some (.nx, ρ1, M)) (h2 : b c ρ1 M = some (.nx, ρ2, M)) (h3 : d c ρ2 M = some (.nx, ρ3, M)) (h4 : e c ρ3 M = some (.nx, ρ4, M)) (h5 : f c ρ4 M = some (.nx, ρ5, M)) (h6 : g c ρ5 M = some (.nx, ρ6, M6)) (h7 : h c ρ6 M6 = r) :
    mSeq a (mSeq b (mSeq d (mSeq e (mSeq f (mSeq g h))))) c ρ M = r := by
  rw [seq_nx h1, seq_nx h2, seq_nx h3, seq_nx h4, seq_nx h5, seq_nx h6, h7]
theorem cut14 (l : List Nat) : cutD (iL l) none (some 14) = iL (l.take (min 14 l.length)) := by
  unfold cutD iL
  rw [List.length_map, List.map_take]
  rfl
theorem fz_eq {m : LM} {c : Call} {ρ : List DL.Slot} {M M1 : List MO} {xs : List D} (h : m c ρ M = some (xs, M1)) : mFz m c ρ M = some (.d (.list xs), M1) := by
  unfold mFz bnd
  rw [h]
theorem itS_eq {m : EM} {c : Call} {ρ : List DL.Slot} {M M1 : List MO} {xs : List D} (h : m c ρ M = some (.d (.list xs), M1)) : mItS m c ρ M = some (xs, M1) := by
  unfold mItS bnd
  rw [h]
  rfl
theorem itT_eq {m : EM} {c : Call} {ρ : List DL.Slot} {M M1 : List MO} {xs : List D} (h : m c ρ M = some (.d (.tuple xs), M1)) : mItS m c ρ M = some (xs, M1) := by
  unfold mItS bnd
  rw [h]
  rfl
theorem r23 {rs : List Row} (hr : OkR rs) {b u : Nat} {M : List MO} (hB : Bx M b u) (hu : u ≤ 50000) (nm : Bool) (n : Nat) : ∃ M', callN tab (n + 33) 23 [.r b, .d (rD rs), .d (.bool nm)] M = some (.d (.bool true), M') ∧ Bx M' b (u + 200) := by
  have hl := hr.len
  have q7 := r7 hr (n + 6) M
  have q21 := r21 hr (n + 28) M
  obtain ⟨g1, g2⟩ := good_tD hr rs.length (all_ rs.length) hl (by rw [all_len]; exact hl)
  have q14 := same (M := M) 26 (n + 5) (tD (tree rs)) g1 (Nat.le_trans g2 (by omega))
  obtain ⟨es, s6, s7, le, h5⟩ := loopE (rs := rs) (b := b) (nm := nm) (s4 := .d (.dict (mE (entries (tree rs) [])))) (s8 := .un) (s9 := .un) (s10 := .un) (s11 := .un) (s12 := .un) (s13 := .un) (s14 := .un) (t := tD (tree rs)) (callN tab (n + 32)) M rs [0, 10 ^ 20, -1000] .un .un (by simp only [List.length_cons, List.length_nil]; omega)
  simp only [List.length_cons, List.length_nil] at le
  obtain ⟨l, M', q15, hp, hB'⟩ := r15 hB (m := es.length) (by omega) (by omega) (n + 30)
  have hmem : ∀ k ∈ l.take (min 14 l.length), k < es.length := fun k m => all_lt (hp.mem_iff.mp (List.mem_of_mem_take m))
  have ll : l.length ≤ 1000 := by rw [hp.length_eq, all_len]; omega
  have lt : (l.take (min 14 l.length)).length ≤ 1000000 := by rw [List.length_take]; omega
  have it : mItS (mSl (mCall 15 2 [] (mCons (mVar 0) (mCons (mBlt gLen (mCons (mVar 5) mNil)) mNil))) mNoO (mSomeO (mC (.int 14)))) (callN tab (n + 32)) (E23 b rs nm (.d (tD (tree rs))) (.d (.dict (mE (entries (tree rs) [])))) (.ol (es.map .int)) s6 s7) M = some (iL (l.take (min 14 l.length)), M') := by
    simp only [q15, List.length_map, cut14, mSeq, mIfS, mRet, mDrop, mSet, mSetT, mSetL, mSetD, mFrz, mNext, mBk, mCt, mNever, mFor, mWhile, mVar, mC, mOp, mUn, mTru, mB, mOfT, mAnd, mOr, mNot, mIf, mAndV, mOrV, mNotV, mChain, mNil, mCons, mTup, mLst, mFz, mFzD, mDNew, mDGet, mDIn, mBlt, mBltL, mIsi, mNoO, mSomeO, mSl, mRg1, mRg2, mLstRg, mCall, mCallK, mItS, mItR, mItE, mLc, mLc2, mYes, mApp1, mExt, mPopW, mPopAtW, mSetIx, mDPut, mRf, mRfD, pE, pL, pD, mPs, mPar, putP, wE, bnd, pk, liftO, peek, dats, pks, getL, putLρ, putLM, getD, putDρ, putDM, argC, permL, slotA, outV, mFn, setTg, setTgs, gSeq, MO.look, MO.slot, truD, bolD, intD, Slot.own, noOwn, wipeS, capL, gAdd, DL.gSub, gMul, gDiv, gMod, gPow, gLt, gLe, gGt, gGe, gIs, gIsNot, gIx, gLen, gAbs, gMax2, gMin2, gInt, gList, gTuple, gNeg, gI0, gII, gSl, bodE, bodT, bodI, lcF, forGo, lim, Nat.zero_le, Nat.reduceLeDiff, List.map_cons, List.map_nil, List.cons_append, List.nil_append, List.append_nil, List.length_cons, List.length_nil, List.getElem?_cons_zero, List.getElem?_cons_succ, List.getElem?_nil, List.replicate_zero, List.replicate_succ, List.all_cons, List.all_nil, List.any_cons, List.any_nil, List.filterMap_cons, List.filterMap_nil, List.set_cons_zero, List.set_cons_succ, Bool.and_true, Bool.true_and, Bool.and_false, Bool.false_and, Bool.and_self, Bool.or_true, Bool.true_or, Bool.or_false, Bool.false_or, Bool.not_true, Bool.not_false, Nat.zero_add, Nat.add_zero, Nat.reduceAdd, Nat.reduceSub, Nat.reduceMul, Nat.reduceBEq, Nat.reduceEqDiff, Nat.reduceLT, Nat.sub_self, beq_self_eq_true, Option.map_some, Option.map_none, reduceIte, if_true, if_false, Bool.false_eq_true, decide_true, decide_false, reduceCtorEq, Int.reduceLE, Int.reduceLT, Int.reduceNeg, Int.reduceToNat, Int.reduceEq, Int.reducePow, Int.reduceDiv, Int.reduceAdd, Int.reduceSub, Int.reduceMul, true_and, and_true, List.isEmpty_nil, List.isEmpty_cons]
  have lc := lcN23 (es := es) (ρ := E23 b rs nm (.d (tD (tree rs))) (.d (.dict (mE (entries (tree rs) [])))) (.ol (es.map .int)) s6 s7) it (by rfl) rfl rfl hmem lt
  obtain ⟨ρ', h6⟩ := loop23 hr (b := b) (xs := es.map .int) (s6 := s6) (s7 := s7) (n + 5) M' ((l.take (min 14 l.length)).map fun k => es.getD k 0) nm .un .un .un .un .un .un rfl rfl
  refine ⟨M', ?_, hB'.mono (by omega)⟩
  have hB : B23 (callN tab (n + 32)) (E23 b rs nm .un .un .un .un .un) M = some (.rt (.d (.bool true)), ρ', M') := by
    unfold B23
    exact chain7 (v1 q7) (v2 q21) (v3 q7 q14) v4 ((for_eq (itT_eq (m := mVar 1) (by rfl))).trans h5) ((for_eq (itS_eq (fz_eq lc))).trans h6) (by rfl)
  rw [at23, fn_rt (nl := N23.length) (b := B23) (c := callN tab (n + 32)) (as := [.r b, .d (rD rs), .d (.bool nm)]) hB]
  rfl
end K03
set_option Elab.async false
set_option linter.all false
set_option maxRecDepth 100000
set_option maxHeartbeats 4000000
/-! k03: law -/
namespace K03
open PySem L2 DL
abbrev S25 (ns : List Int) (k : Int) (b : Nat) (nm : Bool) (one : D) (s5 : DL.Slot) : List DL.Slot := [.d (.list (ns.map .int)), .d (.int k), .r b, .d (.bool nm), .d one, s5]
theorem turn25 {ns : List Int} {k : Int} {b u : Nat} {nm : Bool} {one : D} {rs : List Row} (hr : OkR rs) {M : List MO} (hB : Bx M b u) (hu : u ≤ 50000) :
    ∃ M', F25_0 (callN tab 59) (S25 ns k b nm one (.d (rD rs))) M = some (.nx, S25 ns k b (!nm) one (.d (rD rs)), M') ∧ Bx M' b (u + 200) := by
  obtain ⟨M', q, B⟩ := r23 hr hB hu nm 26
  refine ⟨M', ?_, B⟩
  simp only [F25_0, q, mSeq, mIfS, mRet, mDrop, mSet, mSetT, mSetL, mSetD, mFrz, mNext, mBk, mCt, mNever, mFor, mWhile, mVar, mC, mOp, mUn, mTru, mB, mOfT, mAnd, mOr, mNot, mIf, mAndV, mOrV, mNotV, mChain, mNil, mCons, mTup, mLst, mFz, mFzD, mDNew, mDGet, mDIn, mBlt, mBltL, mIsi, mNoO, mSomeO, mSl, mRg1, mRg2, mLstRg, mCall, mCallK, mItS, mItR, mItE, mLc, mLc2, mYes, mApp1, mExt, mPopW, mPopAtW, mSetIx, mDPut, mRf, mRfD, pE, pL, pD, mPs, mPar, putP, wE, bnd, pk, liftO, peek, dats, pks, getL, putLρ, putLM, getD, putDρ, putDM, argC, permL, slotA, outV, mFn, setTg, setTgs, gSeq, MO.look, MO.slot, truD, bolD, intD, Slot.own, noOwn, wipeS, capL, gAdd, DL.gSub, gMul, gDiv, gMod, gPow, gLt, gLe, gGt, gGe, gIs, gIsNot, gIx, gLen, gAbs, gMax2, gMin2, gInt, gList, gTuple, gNeg, gI0, gII, gSl, bodE, bodT, bodI, lcF, forGo, lim, Nat.zero_le, Nat.reduceLeDiff, List.map_cons, List.map_nil, List.cons_append, List.nil_append, List.append_nil, List.length_cons, List.length_nil, List.getElem?_cons_zero, List.getElem?_cons_succ, List.getElem?_nil, List.replicate_zero, List.replicate_succ, List.all_cons, List.all_nil, List.any_cons, List.any_nil, List.filterMap_cons, List.filterMap_nil, List.set_cons_zero, List.set_cons_succ, Bool.and_true, Bool.true_and, Bool.and_false, Bool.false_and, Bool.and_self, Bool.or_true, Bool.true_or, Bool.or_false, Bool.false_or, Bool.not_true, Bool.not_false, Nat.zero_add, Nat.add_zero, Nat.reduceAdd, Nat.reduceSub, Nat.reduceMul, Nat.reduceBEq, Nat.reduceEqDiff, Nat.reduceLT, Nat.sub_self, beq_self_eq_true, Option.map_some, Option.map_none, reduceIte, if_true, if_false, Bool.false_eq_true, decide_true, decide_false, reduceCtorEq, Int.reduceLE, Int.reduceLT, Int.reduceNeg, Int.reduceToNat, Int.reduceEq, Int.reducePow, Int.reduceDiv, Int.reduceAdd, Int.reduceSub, Int.reduceMul, true_and, and_true, List.isEmpty_nil, List.isEmpty_cons]
theorem loop25 {ns : List Int} {k : Int} {b : Nat} {one : D} : ∀ (ls : List (List Row)) (u : Nat) (nm : Bool) (s5 : DL.Slot) (M : List MO), (∀ rs ∈ ls, OkR rs) → Bx M b u → u + 200 * ls.length ≤ 40000 →
    ∃ M' nm' s5', forGo (.name 5) F25_0 (callN tab 59) (ls.map rD) (S25 ns k b nm one s5) M = some (.nx, S25 ns k b nm' one s5', M')
  | [], u, nm, s5, M, _, _, _ => ⟨M, nm, s5, rfl⟩
  | rs :: ls, u, nm, s5, M, h, hB, hu => by
    rw [List.length_cons] at hu
    obtain ⟨M1, e, B⟩ := turn25 (ns := ns) (k := k) (nm := nm) (one := one) (h rs List.mem_cons_self) hB (by omega)
    obtain ⟨M', nm', s5', e2⟩ := loop25 ls (u + 200) (!nm) (.d (rD rs)) M1 (fun rs m => h rs (List.mem_cons_of_mem _ m)) B (by omega)
    refine ⟨M', nm', s5', ?_⟩
    rw [List.map_cons, for_nx (ρ1 := S25 ns k b nm one (.d (rD rs))) (by rfl) e]
    exact e2
section
variable {ns : List Int} {k : Int} {s2 s3 s4 s5 : DL.Slot} {M M1 M2 M3 : List MO} {c : Call} {b : Nat}
theorem w1 {z : Int} (q1 : c 11 [.d (.list (ns.map .int)), .d (.int k)] M = some (.d (.int z), M)) (q2 : c 12 [.d (.int z)] M = some (.r b, M1)) :
    mSet 2 (wE (mCall 12 1 [] (mCons (mCall 11 2 [] (mCons (mVar 0) (mCons (mVar 1) mNil))) mNil))) c [.d (.list (ns.map .int)), .d (.int k), s2, s3, s4, s5] M = some (.nx, [.d (.list (ns.map .int)), .d (.int k), .r b, s3, s4, s5], M1) := by
  simp only [q1, q2, mSeq, mIfS, mRet, mDrop, mSet, mSetT, mSetL, mSetD, mFrz, mNext, mBk, mCt, mNever, mFor, mWhile, mVar, mC, mOp, mUn, mTru, mB, mOfT, mAnd, mOr, mNot, mIf, mAndV, mOrV, mNotV, mChain, mNil, mCons, mTup, mLst, mFz, mFzD, mDNew, mDGet, mDIn, mBlt, mBltL, mIsi, mNoO, mSomeO, mSl, mRg1, mRg2, mLstRg, mCall, mCallK, mItS, mItR, mItE, mLc, mLc2, mYes, mApp1, mExt, mPopW, mPopAtW, mSetIx, mDPut, mRf, mRfD, pE, pL, pD, mPs, mPar, putP, wE, bnd, pk, liftO, peek, dats, pks, getL, putLρ, putLM, getD, putDρ, putDM, argC, permL, slotA, outV, mFn, setTg, setTgs, gSeq, MO.look, MO.slot, truD, bolD, intD, Slot.own, noOwn, wipeS, capL, gAdd, DL.gSub, gMul, gDiv, gMod, gPow, gLt, gLe, gGt, gGe, gIs, gIsNot, gIx, gLen, gAbs, gMax2, gMin2, gInt, gList, gTuple, gNeg, gI0, gII, gSl, bodE, bodT, bodI, lcF, forGo, lim, Nat.zero_le, Nat.reduceLeDiff, List.map_cons, List.map_nil, List.cons_append, List.nil_append, List.append_nil, List.length_cons, List.length_nil, List.getElem?_cons_zero, List.getElem?_cons_succ, List.getElem?_nil, List.replicate_zero, List.replicate_succ, List.all_cons, List.all_nil, List.any_cons, List.any_nil, List.filterMap_cons, List.filterMap_nil, List.set_cons_zero, List.set_cons_succ, Bool.and_true, Bool.true_and, Bool.and_false, Bool.false_and, Bool.and_self, Bool.or_true, Bool.true_or, Bool.or_false, Bool.false_or, Bool.not_true, Bool.not_false, Nat.zero_add, Nat.add_zero, Nat.reduceAdd, Nat.reduceSub, Nat.reduceMul, Nat.reduceBEq, Nat.reduceEqDiff, Nat.reduceLT, Nat.sub_self, beq_self_eq_true, Option.map_some, Option.map_none, reduceIte, if_true, if_false, Bool.false_eq_true, decide_true, decide_false, reduceCtorEq, Int.reduceLE, Int.reduceLT, Int.reduceNeg, Int.reduceToNat, Int.reduceEq, Int.reducePow, Int.reduceDiv, Int.reduceAdd, Int.reduceSub, Int.reduceMul, true_and, and_true, List.isEmpty_nil, List.isEmpty_cons]
theorem w2 {d : Int} {o : D} (q1 : c 13 [.r b, .d (.int 2)] M = some (.d (.int d), M1)) (q2 : c 19 [.r b, .d (.int 24)] M1 = some (.d o, M2)) :
    mPar [3, 4] [(pE (mOp gEq (mCall 13 2 [] (mCons (mVar 2) (mCons (mC (.int 2)) mNil))) (mC (.int 0)))), (pE (mCall 19 2 [] (mCons (mVar 2) (mCons (mC (.int 24)) mNil))))] c [.d (.list (ns.map .int)), .d (.int k), .r b, s3, s4, s5] M = some (.nx, S25 ns k b (decide (d = 0)) o s5, M2) := by
  simp only [q1, q2, gEq_int, mSeq, mIfS, mRet, mDrop, mSet, mSetT, mSetL, mSetD, mFrz, mNext, mBk, mCt, mNever, mFor, mWhile, mVar, mC, mOp, mUn, mTru, mB, mOfT, mAnd, mOr, mNot, mIf, mAndV, mOrV, mNotV, mChain, mNil, mCons, mTup, mLst, mFz, mFzD, mDNew, mDGet, mDIn, mBlt, mBltL, mIsi, mNoO, mSomeO, mSl, mRg1, mRg2, mLstRg, mCall, mCallK, mItS, mItR, mItE, mLc, mLc2, mYes, mApp1, mExt, mPopW, mPopAtW, mSetIx, mDPut, mRf, mRfD, pE, pL, pD, mPs, mPar, putP, wE, bnd, pk, liftO, peek, dats, pks, getL, putLρ, putLM, getD, putDρ, putDM, argC, permL, slotA, outV, mFn, setTg, setTgs, gSeq, MO.look, MO.slot, truD, bolD, intD, Slot.own, noOwn, wipeS, capL, gAdd, DL.gSub, gMul, gDiv, gMod, gPow, gLt, gLe, gGt, gGe, gIs, gIsNot, gIx, gLen, gAbs, gMax2, gMin2, gInt, gList, gTuple, gNeg, gI0, gII, gSl, bodE, bodT, bodI, lcF, forGo, lim, Nat.zero_le, Nat.reduceLeDiff, List.map_cons, List.map_nil, List.cons_append, List.nil_append, List.append_nil, List.length_cons, List.length_nil, List.getElem?_cons_zero, List.getElem?_cons_succ, List.getElem?_nil, List.replicate_zero, List.replicate_succ, List.all_cons, List.all_nil, List.any_cons, List.any_nil, List.filterMap_cons, List.filterMap_nil, List.set_cons_zero, List.set_cons_succ, Bool.and_true, Bool.true_and, Bool.and_false, Bool.false_and, Bool.and_self, Bool.or_true, Bool.true_or, Bool.or_false, Bool.false_or, Bool.not_true, Bool.not_false, Nat.zero_add, Nat.add_zero, Nat.reduceAdd, Nat.reduceSub, Nat.reduceMul, Nat.reduceBEq, Nat.reduceEqDiff, Nat.reduceLT, Nat.sub_self, beq_self_eq_true, Option.map_some, Option.map_none, reduceIte, if_true, if_false, Bool.false_eq_true, decide_true, decide_false, reduceCtorEq, Int.reduceLE, Int.reduceLT, Int.reduceNeg, Int.reduceToNat, Int.reduceEq, Int.reducePow, Int.reduceDiv, Int.reduceAdd, Int.reduceSub, Int.reduceMul, true_and, and_true, List.isEmpty_nil, List.isEmpty_cons]
theorem w3 {nm : Bool} {rs rs2 rs3 : List Row} (q1 : c 24 [.r b, .d (rD rs)] M = some (.d (rD rs2), M1)) (q2 : c 19 [.r b, .d (.int 24)] M1 = some (.d (rD rs3), M2)) :
    mItS (mTup (mCons (mVar 4) (mCons (mCall 24 2 [] (mCons (mVar 2) (mCons (mVar 4) mNil))) (mCons (mCall 19 2 [] (mCons (mVar 2) (mCons (mC (.int 24)) mNil))) (mCons (mVar 4) mNil))))) c (S25 ns k b nm (rD rs) s5) M = some ([rs, rs2, rs3, rs].map rD, M2) := by
  simp only [q1, q2, mSeq, mIfS, mRet, mDrop, mSet, mSetT, mSetL, mSetD, mFrz, mNext, mBk, mCt, mNever, mFor, mWhile, mVar, mC, mOp, mUn, mTru, mB, mOfT, mAnd, mOr, mNot, mIf, mAndV, mOrV, mNotV, mChain, mNil, mCons, mTup, mLst, mFz, mFzD, mDNew, mDGet, mDIn, mBlt, mBltL, mIsi, mNoO, mSomeO, mSl, mRg1, mRg2, mLstRg, mCall, mCallK, mItS, mItR, mItE, mLc, mLc2, mYes, mApp1, mExt, mPopW, mPopAtW, mSetIx, mDPut, mRf, mRfD, pE, pL, pD, mPs, mPar, putP, wE, bnd, pk, liftO, peek, dats, pks, getL, putLρ, putLM, getD, putDρ, putDM, argC, permL, slotA, outV, mFn, setTg, setTgs, gSeq, MO.look, MO.slot, truD, bolD, intD, Slot.own, noOwn, wipeS, capL, gAdd, DL.gSub, gMul, gDiv, gMod, gPow, gLt, gLe, gGt, gGe, gIs, gIsNot, gIx, gLen, gAbs, gMax2, gMin2, gInt, gList, gTuple, gNeg, gI0, gII, gSl, bodE, bodT, bodI, lcF, forGo, lim, Nat.zero_le, Nat.reduceLeDiff, List.map_cons, List.map_nil, List.cons_append, List.nil_append, List.append_nil, List.length_cons, List.length_nil, List.getElem?_cons_zero, List.getElem?_cons_succ, List.getElem?_nil, List.replicate_zero, List.replicate_succ, List.all_cons, List.all_nil, List.any_cons, List.any_nil, List.filterMap_cons, List.filterMap_nil, List.set_cons_zero, List.set_cons_succ, Bool.and_true, Bool.true_and, Bool.and_false, Bool.false_and, Bool.and_self, Bool.or_true, Bool.true_or, Bool.or_false, Bool.false_or, Bool.not_true, Bool.not_false, Nat.zero_add, Nat.add_zero, Nat.reduceAdd, Nat.reduceSub, Nat.reduceMul, Nat.reduceBEq, Nat.reduceEqDiff, Nat.reduceLT, Nat.sub_self, beq_self_eq_true, Option.map_some, Option.map_none, reduceIte, if_true, if_false, Bool.false_eq_true, decide_true, decide_false, reduceCtorEq, Int.reduceLE, Int.reduceLT, Int.reduceNeg, Int.reduceToNat, Int.reduceEq, Int.reducePow, Int.reduceDiv, Int.reduceAdd, Int.reduceSub, Int.reduceMul, true_and, and_true, List.isEmpty_nil, List.isEmpty_cons]
end
theorem chain3 {a b d : SM} {c : Call} {ρ ρ1 ρ2 : List DL.Slot} {M M1 M2 : List MO} {r} (h1 : a c ρ M = some (.nx, ρ1, M1)) (h2 : b c ρ1 M1 = some (.nx, ρ2, M2)) (h3 : d c ρ2 M2 = r) : mSeq a (mSeq b d) c ρ M = r := by
  rw [seq_nx h1, seq_nx h2, h3]
theorem turnL {ns : List Int} {k : Nat} {s2 s3 s4 s5 : DL.Slot} {M : List MO} :
    ∃ M' s2' s3' s4' s5', F25_1 (callN tab 59) [.d (.list (ns.map .int)), .d (.int (k : Int)), s2, s3, s4, s5] M = some (.nx, [.d (.list (ns.map .int)), .d (.int (k : Int)), s2', s3', s4', s5'], M') := by
  obtain ⟨z, q11⟩ := r11 ns k 58 M
  obtain ⟨M1, q12, B1⟩ := r12 z 58 M
  obtain ⟨d, M2, q13, _, _, B2⟩ := r13 B1 (by omega) (many := 2) (by omega) (by omega) 58
  obtain ⟨rs, M3, q19, hr, B3⟩ := r19 B2 (by omega) 55
  obtain ⟨rs2, M4, q24, hr2, B4⟩ := r24 B3 (by omega) hr 56
  obtain ⟨rs3, M5, q19b, hr3, B5⟩ := r19 B4 (by omega) 55
  obtain ⟨M6, nm', s5', e⟩ := loop25 (ns := ns) (k := (k : Int)) (one := rD rs) [rs, rs2, rs3, rs] _ (decide (d = 0)) s5 M5 (by
    intro x m
    simp only [List.mem_cons, List.not_mem_nil, or_false] at m
    rcases m with rfl | rfl | rfl | rfl <;> assumption) B5 (by simp only [List.length_cons, List.length_nil]; omega)
  refine ⟨M6, .r M.length, .d (.bool nm'), .d (rD rs), s5', ?_⟩
  unfold F25_1
  exact chain3 (w1 q11 q12) (w2 q13 q19) ((for_eq (w3 q24 q19b)).trans e)
theorem loopL {ns : List Int} : ∀ (is : List Nat) (s1 s2 s3 s4 s5 : DL.Slot) (M : List MO), ∃ ρ' M', forGo (.name 1) F25_1 (callN tab 59) (iL is) [.d (.list (ns.map .int)), s1, s2, s3, s4, s5] M = some (.nx, ρ', M')
  | [], s1, s2, s3, s4, s5, M => ⟨_, _, rfl⟩
  | k :: is, s1, s2, s3, s4, s5, M => by
    obtain ⟨M1, s2', s3', s4', s5', e⟩ := turnL (ns := ns) (k := k) (s2 := s2) (s3 := s3) (s4 := s4) (s5 := s5) (M := M)
    obtain ⟨ρ', M', e2⟩ := loopL is (.d (.int (k : Int))) s2' s3' s4' s5' M1
    refine ⟨ρ', M', ?_⟩
    unfold iL
    rw [List.map_cons, for_nx (ρ1 := [.d (.list (ns.map .int)), .d (.int (k : Int)), s2, s3, s4, s5]) (by rfl) e]
    exact e2
theorem law_runs : ∀ ns : List Int, ns.length ≤ 63 → ∃ M, callN tab 60 25 [.d (.list (ns.map .int))] [] = some (.d (.bool true), M) := by
  intro ns hn
  have it : ∃ m : Nat, mItR (mRg1 (mBlt gMax2 (mCons (mC (.int 2)) (mCons (mBlt gMin2 (mCons (mC (.int 4)) (mCons (mBlt gLen (mCons (mVar 0) mNil)) mNil))) mNil)))) (callN tab 59) [.d (.list (ns.map .int)), .un, .un, .un, .un, .un] [] = some (iL (all_ m), []) := by
    obtain ⟨z, hz, h0, h1⟩ : ∃ z : Int, z = (if (if ((ns.length : Nat) : Int) < 4 then ((ns.length : Nat) : Int) else 4) > 2 then (if ((ns.length : Nat) : Int) < 4 then ((ns.length : Nat) : Int) else 4) else 2) ∧ 0 ≤ z ∧ z ≤ 4 := ⟨_, rfl, by split <;> omega, by split <;> split <;> omega⟩
    refine ⟨z.toNat, ?_⟩
    rw [itR (a := 0) (b := z) (M1 := []) (by simp only [List.length_map, mSeq, mIfS, mRet, mDrop, mSet, mSetT, mSetL, mSetD, mFrz, mNext, mBk, mCt, mNever, mFor, mWhile, mVar, mC, mOp, mUn, mTru, mB, mOfT, mAnd, mOr, mNot, mIf, mAndV, mOrV, mNotV, mChain, mNil, mCons, mTup, mLst, mFz, mFzD, mDNew, mDGet, mDIn, mBlt, mBltL, mIsi, mNoO, mSomeO, mSl, mRg1, mRg2, mLstRg, mCall, mCallK, mItS, mItR, mItE, mLc, mLc2, mYes, mApp1, mExt, mPopW, mPopAtW, mSetIx, mDPut, mRf, mRfD, pE, pL, pD, mPs, mPar, putP, wE, bnd, pk, liftO, peek, dats, pks, getL, putLρ, putLM, getD, putDρ, putDM, argC, permL, slotA, outV, mFn, setTg, setTgs, gSeq, MO.look, MO.slot, truD, bolD, intD, Slot.own, noOwn, wipeS, capL, gAdd, DL.gSub, gMul, gDiv, gMod, gPow, gLt, gLe, gGt, gGe, gIs, gIsNot, gIx, gLen, gAbs, gMax2, gMin2, gInt, gList, gTuple, gNeg, gI0, gII, gSl, bodE, bodT, bodI, lcF, forGo, lim, Nat.zero_le, Nat.reduceLeDiff, List.map_cons, List.map_nil, List.cons_append, List.nil_append, List.append_nil, List.length_cons, List.length_nil, List.getElem?_cons_zero, List.getElem?_cons_succ, List.getElem?_nil, List.replicate_zero, List.replicate_succ, List.all_cons, List.all_nil, List.any_cons, List.any_nil, List.filterMap_cons, List.filterMap_nil, List.set_cons_zero, List.set_cons_succ, Bool.and_true, Bool.true_and, Bool.and_false, Bool.false_and, Bool.and_self, Bool.or_true, Bool.true_or, Bool.or_false, Bool.false_or, Bool.not_true, Bool.not_false, Nat.zero_add, Nat.add_zero, Nat.reduceAdd, Nat.reduceSub, Nat.reduceMul, Nat.reduceBEq, Nat.reduceEqDiff, Nat.reduceLT, Nat.sub_self, beq_self_eq_true, Option.map_some, Option.map_none, reduceIte, if_true, if_false, Bool.false_eq_true, decide_true, decide_false, reduceCtorEq, Int.reduceLE, Int.reduceLT, Int.reduceNeg, Int.reduceToNat, Int.reduceEq, Int.reducePow, Int.reduceDiv, Int.reduceAdd, Int.reduceSub, Int.reduceMul, true_and, and_true, List.isEmpty_nil, List.isEmpty_cons]; exact hz ▸ rfl) (okRg_of (by omega))]
    have hz2 : z = ((z.toNat : Nat) : Int) := by omega
    generalize z.toNat = t at hz2
    subst hz2
    rw [rg_all]
  obtain ⟨m, it⟩ := it
  obtain ⟨ρ', M', e⟩ := loopL (ns := ns) (all_ m) .un .un .un .un .un []
  refine ⟨M', ?_⟩
  have hB : B25 (callN tab 59) [.d (.list (ns.map .int)), .un, .un, .un, .un, .un] [] = some (.rt (.d (.bool true)), ρ', M') := by
    unfold B25
    rw [seq_nx ((for_eq it).trans e)]
    rfl
  show mFn N25.length B25 (callN tab 59) _ _ = _
  rw [fn_rt (nl := N25.length) (b := B25) (c := callN tab 59) (as := [.d (.list (ns.map .int))]) hB]
  rfl
end K03
set_option Elab.async false
set_option linter.all false
set_option maxRecDepth 100000
set_option maxHeartbeats 0
namespace K03
open PySem PySem.Spec PyProof.Rows L2 DL
def D0 : He.DefD := ⟨("is_integer", none), "is_integer", "is_integer", defArgs st0, defBody st0, defScope st0, [], []⟩
def D1 : He.DefD := ⟨("is_between", none), "is_between", "is_between", defArgs st1, defBody st1, defScope st1, [], []⟩
def D2 : He.DefD := ⟨("is_known", none), "is_known", "is_known", defArgs st2, defBody st2, defScope st2, [.int (-1000), .int 1000], []⟩
def D3 : He.DefD := ⟨("are_intervals", none), "are_intervals", "are_intervals", defArgs st3, defBody st3, defScope st3, [.int 24], []⟩
def D4 : He.DefD := ⟨("check_intervals", none), "check_intervals", "check_intervals", defArgs st4, defBody st4, defScope st4, [], []⟩
def D5 : He.DefD := ⟨("check_number", none), "check_number", "check_number", defArgs st5, defBody st5, defScope st5, [], []⟩
def D6 : He.DefD := ⟨("grown", none), "grown", "grown", defArgs st6, defBody st6, defScope st6, [], []⟩
def D7 : He.DefD := ⟨("tree_of", none), "tree_of", "tree_of", defArgs st7, defBody st7, defScope st7, [], []⟩
def D8 : He.DefD := ⟨("way_down", none), "way_down", "way_down", defArgs st8, defBody st8, defScope st8, [], []⟩
def D9 : He.DefD := ⟨("stabbed", none), "stabbed", "stabbed", defArgs st9, defBody st9, defScope st9, [], []⟩
def D10 : He.DefD := ⟨("visited", none), "visited", "visited", defArgs st10, defBody st10, defScope st10, [], []⟩
def D11 : He.DefD := ⟨("_law_cell", none), "_law_cell", "_law_cell", defArgs st11, defBody st11, defScope st11, [], []⟩
def D12 : He.DefD := ⟨("_law_box", none), "_law_box", "_law_box", defArgs st12, defBody st12, defScope st12, [], []⟩
def D13 : He.DefD := ⟨("_law_take", none), "_law_take", "_law_take", defArgs st13, defBody st13, defScope st13, [], []⟩
def D14 : He.DefD := ⟨("_law_same", none), "_law_same", "_law_same", defArgs st14, defBody st14, defScope st14, [], []⟩
def D15 : He.DefD := ⟨("_law_mixed", none), "_law_mixed", "_law_mixed", defArgs st15, defBody st15, defScope st15, [], []⟩
def D16 : He.DefD := ⟨("_law_interval", none), "_law_interval", "_law_interval", defArgs st16, defBody st16, defScope st16, [], []⟩
def D17 : He.DefD := ⟨("_law_list", none), "_law_list", "_law_list", defArgs st17, defBody st17, defScope st17, [], []⟩
def D18 : He.DefD := ⟨("_law_pick", none), "_law_pick", "_law_pick", defArgs st18, defBody st18, defScope st18, [], []⟩
def D19 : He.DefD := ⟨("_law_rows", none), "_law_rows", "_law_rows", defArgs st19, defBody st19, defScope st19, [], []⟩
def D20 : He.DefD := ⟨("_law_meet", none), "_law_meet", "_law_meet", defArgs st20, defBody st20, defScope st20, [], []⟩
def D21 : He.DefD := ⟨("_law_tree_right", none), "_law_tree_right", "_law_tree_right", defArgs st21, defBody st21, defScope st21, [], []⟩
def D22 : He.DefD := ⟨("_law_way", none), "_law_way", "_law_way", defArgs st22, defBody st22, defScope st22, [], []⟩
def D23 : He.DefD := ⟨("_law_list_right", none), "_law_list_right", "_law_list_right", defArgs st23, defBody st23, defScope st23, [], []⟩
def D24 : He.DefD := ⟨("_law_other", none), "_law_other", "_law_other", defArgs st24, defBody st24, defScope st24, [], []⟩
def D25 : He.DefD := ⟨("law", none), "law", "law", defArgs st25, defBody st25, defScope st25, [], []⟩
def fnD : List He.DefD := [D0, D1, D2, D3, D4, D5, D6, D7, D8, D9, D10, D11, D12, D13, D14, D15, D16, D17, D18, D19, D20, D21, D22, D23, D24, D25]
def faD : List He.Fa := [.glo "is_integer", .glo "is_between", .glo "is_known", .glo "are_intervals", .glo "check_intervals", .glo "check_number", .glo "grown", .glo "tree_of", .glo "way_down", .glo "stabbed", .glo "visited", .glo "_law_cell", .glo "_law_box", .glo "_law_take", .glo "_law_same", .glo "_law_mixed", .glo "_law_interval", .glo "_law_list", .glo "_law_pick", .glo "_law_rows", .glo "_law_meet", .glo "_law_tree_right", .glo "_law_way", .glo "_law_list_right", .glo "_law_other", .glo "law", .free "abs", .free "all", .free "bool", .free "dict", .free "enumerate", .free "int", .free "isinstance", .free "len", .free "list", .free "max", .free "min", .free "range", .free "sorted", .free "str", .free "sum", .free "tuple"]
theorem fsc0 : FnScope N0 ["value"] (defScope st0) := ⟨rfl, rfl, rfl, by decide +kernel, rfl, by decide +kernel, by decide +kernel⟩
theorem fsc1 : FnScope N1 ["value", "least", "most"] (defScope st1) := ⟨rfl, rfl, rfl, by decide +kernel, rfl, by decide +kernel, by decide +kernel⟩
theorem fsc2 : FnScope N2 ["value", "least", "most"] (defScope st2) := ⟨rfl, rfl, rfl, by decide +kernel, rfl, by decide +kernel, by decide +kernel⟩
theorem fsc3 : FnScope N3 ["value", "most"] (defScope st3) := ⟨rfl, rfl, rfl, by decide +kernel, rfl, by decide +kernel, by decide +kernel⟩
theorem fsc4 : FnScope N4 ["intervals"] (defScope st4) := ⟨rfl, rfl, rfl, by decide +kernel, rfl, by decide +kernel, by decide +kernel⟩
theorem fsc5 : FnScope N5 ["number"] (defScope st5) := ⟨rfl, rfl, rfl, by decide +kernel, rfl, by decide +kernel, by decide +kernel⟩
theorem fsc6 : FnScope N6 ["intervals", "indices"] (defScope st6) := ⟨rfl, rfl, rfl, by decide +kernel, rfl, by decide +kernel, by decide +kernel⟩
theorem fsc7 : FnScope N7 ["intervals"] (defScope st7) := ⟨rfl, rfl, rfl, by decide +kernel, rfl, by decide +kernel, by decide +kernel⟩
theorem fsc8 : FnScope N8 ["intervals", "number"] (defScope st8) := ⟨rfl, rfl, rfl, by decide +kernel, rfl, by decide +kernel, by decide +kernel⟩
theorem fsc9 : FnScope N9 ["intervals", "number"] (defScope st9) := ⟨rfl, rfl, rfl, by decide +kernel, rfl, by decide +kernel, by decide +kernel⟩
theorem fsc10 : FnScope N10 ["intervals", "number"] (defScope st10) := ⟨rfl, rfl, rfl, by decide +kernel, rfl, by decide +kernel, by decide +kernel⟩
theorem fsc11 : FnScope N11 ["script", "k"] (defScope st11) := ⟨rfl, rfl, rfl, by decide +kernel, rfl, by decide +kernel, by decide +kernel⟩
theorem fsc12 : FnScope N12 ["great"] (defScope st12) := ⟨rfl, rfl, rfl, by decide +kernel, rfl, by decide +kernel, by decide +kernel⟩
theorem fsc13 : FnScope N13 ["box", "many"] (defScope st13) := ⟨rfl, rfl, rfl, by decide +kernel, rfl, by decide +kernel, by decide +kernel⟩
theorem fsc14 : FnScope N14 ["told", "due"] (defScope st14) := ⟨rfl, rfl, rfl, by decide +kernel, rfl, by decide +kernel, by decide +kernel⟩
theorem fsc15 : FnScope N15 ["box", "many"] (defScope st15) := ⟨rfl, rfl, rfl, by decide +kernel, rfl, by decide +kernel, by decide +kernel⟩
theorem fsc16 : FnScope N16 ["box", "low", "high"] (defScope st16) := ⟨rfl, rfl, rfl, by decide +kernel, rfl, by decide +kernel, by decide +kernel⟩
theorem fsc17 : FnScope N17 ["box", "many", "high"] (defScope st17) := ⟨rfl, rfl, rfl, by decide +kernel, rfl, by decide +kernel, by decide +kernel⟩
theorem fsc18 : FnScope N18 ["box", "items"] (defScope st18) := ⟨rfl, rfl, rfl, by decide +kernel, rfl, by decide +kernel, by decide +kernel⟩
theorem fsc19 : FnScope N19 ["box", "most"] (defScope st19) := ⟨rfl, rfl, rfl, by decide +kernel, rfl, by decide +kernel, by decide +kernel⟩
theorem fsc20 : FnScope N20 ["one", "other"] (defScope st20) := ⟨rfl, rfl, rfl, by decide +kernel, rfl, by decide +kernel, by decide +kernel⟩
theorem fsc21 : FnScope N21 ["rows", "tree"] (defScope st21) := ⟨rfl, rfl, rfl, by decide +kernel, rfl, by decide +kernel, by decide +kernel⟩
theorem fsc22 : FnScope N22 ["parts", "number"] (defScope st22) := ⟨rfl, rfl, rfl, by decide +kernel, rfl, by decide +kernel, by decide +kernel⟩
theorem fsc23 : FnScope N23 ["box", "rows", "named"] (defScope st23) := ⟨rfl, rfl, rfl, by decide +kernel, rfl, by decide +kernel, by decide +kernel⟩
theorem fsc24 : FnScope N24 ["box", "rows"] (defScope st24) := ⟨rfl, rfl, rfl, by decide +kernel, rfl, by decide +kernel, by decide +kernel⟩
theorem fsc25 : FnScope N25 ["script"] (defScope st25) := ⟨rfl, rfl, rfl, by decide +kernel, rfl, by decide +kernel, by decide +kernel⟩
section
variable {P : Program} {w : World} {K : PySem.W.Frag} {h : Heap} {mg : Str → Option Value}
/-- what the head tells -/
structure Sx (K : PySem.W.Frag) (mg : Str → Option Value) : Prop where
  s0 : ∃ fa fd, FunD K "is_integer" "is_integer" (defArgs st0) (defBody st0) (defScope st0) [] [] fa fd ∧ mg "is_integer" = some (.ref fa) ∧ (∃ ds, Vals [] ds ∧ Binds K fd ["value"] ds)
  s1 : ∃ fa fd, FunD K "is_between" "is_between" (defArgs st1) (defBody st1) (defScope st1) [] [] fa fd ∧ mg "is_between" = some (.ref fa) ∧ (∃ ds, Vals [] ds ∧ Binds K fd ["value", "least", "most"] ds)
  s2 : ∃ fa fd, FunD K "is_known" "is_known" (defArgs st2) (defBody st2) (defScope st2) [.int (-1000), .int 1000] [] fa fd ∧ mg "is_known" = some (.ref fa) ∧ (∃ ds, Vals [.int (-1000), .int 1000] ds ∧ Binds K fd ["value", "least", "most"] ds)
  s3 : ∃ fa fd, FunD K "are_intervals" "are_intervals" (defArgs st3) (defBody st3) (defScope st3) [.int 24] [] fa fd ∧ mg "are_intervals" = some (.ref fa) ∧ (∃ ds, Vals [.int 24] ds ∧ Binds K fd ["value", "most"] ds)
  s4 : ∃ fa fd, FunD K "check_intervals" "check_intervals" (defArgs st4) (defBody st4) (defScope st4) [] [] fa fd ∧ mg "check_intervals" = some (.ref fa) ∧ (∃ ds, Vals [] ds ∧ Binds K fd ["intervals"] ds)
  s5 : ∃ fa fd, FunD K "check_number" "check_number" (defArgs st5) (defBody st5) (defScope st5) [] [] fa fd ∧ mg "check_number" = some (.ref fa) ∧ (∃ ds, Vals [] ds ∧ Binds K fd ["number"] ds)
  s6 : ∃ fa fd, FunD K "grown" "grown" (defArgs st6) (defBody st6) (defScope st6) [] [] fa fd ∧ mg "grown" = some (.ref fa) ∧ (∃ ds, Vals [] ds ∧ Binds K fd ["intervals", "indices"] ds)
  s7 : ∃ fa fd, FunD K "tree_of" "tree_of" (defArgs st7) (defBody st7) (defScope st7) [] [] fa fd ∧ mg "tree_of" = some (.ref fa) ∧ (∃ ds, KBinds K fd ["intervals"] ["intervals"] (gK 0 1 [0] ds) (gK 0 1 [0] [])) ∧ (∃ ds, Vals [] ds ∧ Binds K fd ["intervals"] ds)
  s8 : ∃ fa fd, FunD K "way_down" "way_down" (defArgs st8) (defBody st8) (defScope st8) [] [] fa fd ∧ mg "way_down" = some (.ref fa) ∧ (∃ ds, Vals [] ds ∧ Binds K fd ["intervals", "number"] ds)
  s9 : ∃ fa fd, FunD K "stabbed" "stabbed" (defArgs st9) (defBody st9) (defScope st9) [] [] fa fd ∧ mg "stabbed" = some (.ref fa) ∧ (∃ ds, Vals [] ds ∧ Binds K fd ["intervals", "number"] ds) ∧ (∃ ds, KBinds K fd ["intervals", "number"] ["number", "intervals"] (gK 0 2 [1, 0] ds) (gK 0 2 [1, 0] []))
  s10 : ∃ fa fd, FunD K "visited" "visited" (defArgs st10) (defBody st10) (defScope st10) [] [] fa fd ∧ mg "visited" = some (.ref fa) ∧ (∃ ds, KBinds K fd ["intervals", "number"] ["number", "intervals"] (gK 0 2 [1, 0] ds) (gK 0 2 [1, 0] [])) ∧ (∃ ds, Vals [] ds ∧ Binds K fd ["intervals", "number"] ds)
  s11 : ∃ fa fd, FunD K "_law_cell" "_law_cell" (defArgs st11) (defBody st11) (defScope st11) [] [] fa fd ∧ mg "_law_cell" = some (.ref fa) ∧ (∃ ds, Vals [] ds ∧ Binds K fd ["script", "k"] ds)
  s12 : ∃ fa fd, FunD K "_law_box" "_law_box" (defArgs st12) (defBody st12) (defScope st12) [] [] fa fd ∧ mg "_law_box" = some (.ref fa) ∧ (∃ ds, Vals [] ds ∧ Binds K fd ["great"] ds)
  s13 : ∃ fa fd, FunD K "_law_take" "_law_take" (defArgs st13) (defBody st13) (defScope st13) [] [] fa fd ∧ mg "_law_take" = some (.ref fa) ∧ (∃ ds, Vals [] ds ∧ Binds K fd ["box", "many"] ds)
  s14 : ∃ fa fd, FunD K "_law_same" "_law_same" (defArgs st14) (defBody st14) (defScope st14) [] [] fa fd ∧ mg "_law_same" = some (.ref fa) ∧ (∃ ds, Vals [] ds ∧ Binds K fd ["told", "due"] ds)
  s15 : ∃ fa fd, FunD K "_law_mixed" "_law_mixed" (defArgs st15) (defBody st15) (defScope st15) [] [] fa fd ∧ mg "_law_mixed" = some (.ref fa) ∧ (∃ ds, Vals [] ds ∧ Binds K fd ["box", "many"] ds)
  s16 : ∃ fa fd, FunD K "_law_interval" "_law_interval" (defArgs st16) (defBody st16) (defScope st16) [] [] fa fd ∧ mg "_law_interval" = some (.ref fa) ∧ (∃ ds, Vals [] ds ∧ Binds K fd ["box", "low", "high"] ds)
  s17 : ∃ fa fd, FunD K "_law_list" "_law_list" (defArgs st17) (defBody st17) (defScope st17) [] [] fa fd ∧ mg "_law_list" = some (.ref fa) ∧ (∃ ds, Vals [] ds ∧ Binds K fd ["box", "many", "high"] ds)
  s18 : ∃ fa fd, FunD K "_law_pick" "_law_pick" (defArgs st18) (defBody st18) (defScope st18) [] [] fa fd ∧ mg "_law_pick" = some (.ref fa) ∧ (∃ ds, Vals [] ds ∧ Binds K fd ["box", "items"] ds)
  s19 : ∃ fa fd, FunD K "_law_rows" "_law_rows" (defArgs st19) (defBody st19) (defScope st19) [] [] fa fd ∧ mg "_law_rows" = some (.ref fa) ∧ (∃ ds, Vals [] ds ∧ Binds K fd ["box", "most"] ds)
  s20 : ∃ fa fd, FunD K "_law_meet" "_law_meet" (defArgs st20) (defBody st20) (defScope st20) [] [] fa fd ∧ mg "_law_meet" = some (.ref fa) ∧ (∃ ds, Vals [] ds ∧ Binds K fd ["one", "other"] ds)
  s21 : ∃ fa fd, FunD K "_law_tree_right" "_law_tree_right" (defArgs st21) (defBody st21) (defScope st21) [] [] fa fd ∧ mg "_law_tree_right" = some (.ref fa) ∧ (∃ ds, Vals [] ds ∧ Binds K fd ["rows", "tree"] ds)
  s22 : ∃ fa fd, FunD K "_law_way" "_law_way" (defArgs st22) (defBody st22) (defScope st22) [] [] fa fd ∧ mg "_law_way" = some (.ref fa) ∧ (∃ ds, Vals [] ds ∧ Binds K fd ["parts", "number"] ds)
  s23 : ∃ fa fd, FunD K "_law_list_right" "_law_list_right" (defArgs st23) (defBody st23) (defScope st23) [] [] fa fd ∧ mg "_law_list_right" = some (.ref fa) ∧ (∃ ds, Vals [] ds ∧ Binds K fd ["box", "rows", "named"] ds)
  s24 : ∃ fa fd, FunD K "_law_other" "_law_other" (defArgs st24) (defBody st24) (defScope st24) [] [] fa fd ∧ mg "_law_other" = some (.ref fa) ∧ (∃ ds, Vals [] ds ∧ Binds K fd ["box", "rows"] ds)
  s25 : ∃ fa fd, FunD K "law" "law" (defArgs st25) (defBody st25) (defScope st25) [] [] fa fd ∧ mg "law" = some (.ref fa)
  blt : ∀ x, x ∈ blts → mg x = none
theorem sx_of (X : K.In h) (G : h.Ns mainGlobals mg) (c : He.SaysD faD fnD K) : Sx K mg where
  s0 := by
    obtain ⟨fd, F⟩ := c.def_ 0 (d := D0) rfl
    exact ⟨_, fd, F, He.glo_ok X G (c.fact 0 (f := .glo "is_integer") rfl), b_all F (fun _ _ _ _ _ _ us hl => match us, hl with | [_], _ => rfl)⟩
  s1 := by
    obtain ⟨fd, F⟩ := c.def_ 1 (d := D1) rfl
    exact ⟨_, fd, F, He.glo_ok X G (c.fact 1 (f := .glo "is_between") rfl), b_all F (fun _ _ _ _ _ _ us hl => match us, hl with | [_, _, _], _ => rfl)⟩
  s2 := by
    obtain ⟨fd, F⟩ := c.def_ 2 (d := D2) rfl
    exact ⟨_, fd, F, He.glo_ok X G (c.fact 2 (f := .glo "is_known") rfl), F.binds1 1 0 (by simp [He.DefD.dvs, D2]) rfl (fun T kV doc pm an cdv ct us its h1 h2 => match us, its, h1, h2 with | [_], [_, _], _, _ => ⟨_, rfl, rfl⟩)⟩
  s3 := by
    obtain ⟨fd, F⟩ := c.def_ 3 (d := D3) rfl
    exact ⟨_, fd, F, He.glo_ok X G (c.fact 3 (f := .glo "are_intervals") rfl), F.binds1 1 0 (by simp [He.DefD.dvs, D3]) rfl (fun T kV doc pm an cdv ct us its h1 h2 => match us, its, h1, h2 with | [_], [_], _, _ => ⟨_, rfl, rfl⟩)⟩
  s4 := by
    obtain ⟨fd, F⟩ := c.def_ 4 (d := D4) rfl
    exact ⟨_, fd, F, He.glo_ok X G (c.fact 4 (f := .glo "check_intervals") rfl), b_all F (fun _ _ _ _ _ _ us hl => match us, hl with | [_], _ => rfl)⟩
  s5 := by
    obtain ⟨fd, F⟩ := c.def_ 5 (d := D5) rfl
    exact ⟨_, fd, F, He.glo_ok X G (c.fact 5 (f := .glo "check_number") rfl), b_all F (fun _ _ _ _ _ _ us hl => match us, hl with | [_], _ => rfl)⟩
  s6 := by
    obtain ⟨fd, F⟩ := c.def_ 6 (d := D6) rfl
    exact ⟨_, fd, F, He.glo_ok X G (c.fact 6 (f := .glo "grown") rfl), b_all F (fun _ _ _ _ _ _ us hl => match us, hl with | [_, _], _ => rfl)⟩
  s7 := by
    obtain ⟨fd, F⟩ := c.def_ 7 (d := D7) rfl
    exact ⟨_, fd, F, He.glo_ok X G (c.fact 7 (f := .glo "tree_of") rfl), kb_mk F (by simp) (fun _ _ _ _ _ _ us ws h1 h2 => match us, ws, h1, h2 with | [], [_], _, _ => rfl), b_all F (fun _ _ _ _ _ _ us hl => match us, hl with | [_], _ => rfl)⟩
  s8 := by
    obtain ⟨fd, F⟩ := c.def_ 8 (d := D8) rfl
    exact ⟨_, fd, F, He.glo_ok X G (c.fact 8 (f := .glo "way_down") rfl), b_all F (fun _ _ _ _ _ _ us hl => match us, hl with | [_, _], _ => rfl)⟩
  s9 := by
    obtain ⟨fd, F⟩ := c.def_ 9 (d := D9) rfl
    exact ⟨_, fd, F, He.glo_ok X G (c.fact 9 (f := .glo "stabbed") rfl), b_all F (fun _ _ _ _ _ _ us hl => match us, hl with | [_, _], _ => rfl), kb_mk F (by simp) (fun _ _ _ _ _ _ us ws h1 h2 => match us, ws, h1, h2 with | [], [_, _], _, _ => rfl)⟩
  s10 := by
    obtain ⟨fd, F⟩ := c.def_ 10 (d := D10) rfl
    exact ⟨_, fd, F, He.glo_ok X G (c.fact 10 (f := .glo "visited") rfl), kb_mk F (by simp) (fun _ _ _ _ _ _ us ws h1 h2 => match us, ws, h1, h2 with | [], [_, _], _, _ => rfl), b_all F (fun _ _ _ _ _ _ us hl => match us, hl with | [_, _], _ => rfl)⟩
  s11 := by
    obtain ⟨fd, F⟩ := c.def_ 11 (d := D11) rfl
    exact ⟨_, fd, F, He.glo_ok X G (c.fact 11 (f := .glo "_law_cell") rfl), b_all F (fun _ _ _ _ _ _ us hl => match us, hl with | [_, _], _ => rfl)⟩
  s12 := by
    obtain ⟨fd, F⟩ := c.def_ 12 (d := D12) rfl
    exact ⟨_, fd, F, He.glo_ok X G (c.fact 12 (f := .glo "_law_box") rfl), b_all F (fun _ _ _ _ _ _ us hl => match us, hl with | [_], _ => rfl)⟩
  s13 := by
    obtain ⟨fd, F⟩ := c.def_ 13 (d := D13) rfl
    exact ⟨_, fd, F, He.glo_ok X G (c.fact 13 (f := .glo "_law_take") rfl), b_all F (fun _ _ _ _ _ _ us hl => match us, hl with | [_, _], _ => rfl)⟩
  s14 := by
    obtain ⟨fd, F⟩ := c.def_ 14 (d := D14) rfl
    exact ⟨_, fd, F, He.glo_ok X G (c.fact 14 (f := .glo "_law_same") rfl), b_all F (fun _ _ _ _ _ _ us hl => match us, hl with | [_, _], _ => rfl)⟩
  s15 := by
    obtain ⟨fd, F⟩ := c.def_ 15 (d := D15) rfl
    exact ⟨_, fd, F, He.glo_ok X G (c.fact 15 (f := .glo "_law_mixed") rfl), b_all F (fun _ _ _ _ _ _ us hl => match us, hl with | [_, _], _ => rfl)⟩
  s16 := by
    obtain ⟨fd, F⟩ := c.def_ 16 (d := D16) rfl
    exact ⟨_, fd, F, He.glo_ok X G (c.fact 16 (f := .glo "_law_interval") rfl), b_all F (fun _ _ _ _ _ _ us hl => match us, hl with | [_, _, _], _ => rfl)⟩
  s17 := by
    obtain ⟨fd, F⟩ := c.def_ 17 (d := D17) rfl
    exact ⟨_, fd, F, He.glo_ok X G (c.fact 17 (f := .glo "_law_list") rfl), b_all F (fun _ _ _ _ _ _ us hl => match us, hl with | [_, _, _], _ => rfl)⟩
  s18 := by
    obtain ⟨fd, F⟩ := c.def_ 18 (d := D18) rfl
    exact ⟨_, fd, F, He.glo_ok X G (c.fact 18 (f := .glo "_law_pick") rfl), b_all F (fun _ _ _ _ _ _ us hl => match us, hl with | [_, _], _ => rfl)⟩
  s19 := by
    obtain ⟨fd, F⟩ := c.def_ 19 (d := D19) rfl
    exact ⟨_, fd, F, He.glo_ok X G (c.fact 19 (f := .glo "_law_rows") rfl), b_all F (fun _ _ _ _ _ _ us hl => match us, hl with | [_, _], _ => rfl)⟩
  s20 := by
    obtain ⟨fd, F⟩ := c.def_ 20 (d := D20) rfl
    exact ⟨_, fd, F, He.glo_ok X G (c.fact 20 (f := .glo "_law_meet") rfl), b_all F (fun _ _ _ _ _ _ us hl => match us, hl with | [_, _], _ => rfl)⟩
  s21 := by
    obtain ⟨fd, F⟩ := c.def_ 21 (d := D21) rfl
    exact ⟨_, fd, F, He.glo_ok X G (c.fact 21 (f := .glo "_law_tree_right") rfl), b_all F (fun _ _ _ _ _ _ us hl => match us, hl with | [_, _], _ => rfl)⟩
  s22 := by
    obtain ⟨fd, F⟩ := c.def_ 22 (d := D22) rfl
    exact ⟨_, fd, F, He.glo_ok X G (c.fact 22 (f := .glo "_law_way") rfl), b_all F (fun _ _ _ _ _ _ us hl => match us, hl with | [_, _], _ => rfl)⟩
  s23 := by
    obtain ⟨fd, F⟩ := c.def_ 23 (d := D23) rfl
    exact ⟨_, fd, F, He.glo_ok X G (c.fact 23 (f := .glo "_law_list_right") rfl), b_all F (fun _ _ _ _ _ _ us hl => match us, hl with | [_, _, _], _ => rfl)⟩
  s24 := by
    obtain ⟨fd, F⟩ := c.def_ 24 (d := D24) rfl
    exact ⟨_, fd, F, He.glo_ok X G (c.fact 24 (f := .glo "_law_other") rfl), b_all F (fun _ _ _ _ _ _ us hl => match us, hl with | [_, _], _ => rfl)⟩
  s25 := by
    obtain ⟨fd, F⟩ := c.def_ 25 (d := D25) rfl
    exact ⟨_, fd, F, He.glo_ok X G (c.fact 25 (f := .glo "law") rfl)⟩
  blt := fun x hx => by
    simp only [blts, List.mem_cons, List.not_mem_nil, or_false] at hx
    rcases hx with rfl | rfl | rfl | rfl | rfl | rfl | rfl | rfl | rfl | rfl | rfl | rfl | rfl | rfl | rfl | rfl
    · exact He.free_ok X G (c.fact 26 (f := .free "abs") rfl)
    · exact He.free_ok X G (c.fact 27 (f := .free "all") rfl)
    · exact He.free_ok X G (c.fact 28 (f := .free "bool") rfl)
    · exact He.free_ok X G (c.fact 29 (f := .free "dict") rfl)
    · exact He.free_ok X G (c.fact 30 (f := .free "enumerate") rfl)
    · exact He.free_ok X G (c.fact 31 (f := .free "int") rfl)
    · exact He.free_ok X G (c.fact 32 (f := .free "isinstance") rfl)
    · exact He.free_ok X G (c.fact 33 (f := .free "len") rfl)
    · exact He.free_ok X G (c.fact 34 (f := .free "list") rfl)
    · exact He.free_ok X G (c.fact 35 (f := .free "max") rfl)
    · exact He.free_ok X G (c.fact 36 (f := .free "min") rfl)
    · exact He.free_ok X G (c.fact 37 (f := .free "range") rfl)
    · exact He.free_ok X G (c.fact 38 (f := .free "sorted") rfl)
    · exact He.free_ok X G (c.fact 39 (f := .free "str") rfl)
    · exact He.free_ok X G (c.fact 40 (f := .free "sum") rfl)
    · exact He.free_ok X G (c.fact 41 (f := .free "tuple") rfl)
theorem al_all {base : Heap} (S : Sx K mg) : ∀ n, Al P w K mg base (callN tab n) n
  | 0 => {
    a0 := by
      obtain ⟨fa, fd, F, g, b0⟩ := S.s0
      exact ⟨fa, fd, ⟨zero_ok, g, F.kp⟩, b0⟩
    a1 := by
      obtain ⟨fa, fd, F, g, b0⟩ := S.s1
      exact ⟨fa, fd, ⟨zero_ok, g, F.kp⟩, b0⟩
    a2 := by
      obtain ⟨fa, fd, F, g, b0⟩ := S.s2
      exact ⟨fa, fd, ⟨zero_ok, g, F.kp⟩, b0⟩
    a3 := by
      obtain ⟨fa, fd, F, g, b0⟩ := S.s3
      exact ⟨fa, fd, ⟨zero_ok, g, F.kp⟩, b0⟩
    a4 := by
      obtain ⟨fa, fd, F, g, b0⟩ := S.s4
      exact ⟨fa, fd, ⟨zero_ok, g, F.kp⟩, b0⟩
    a5 := by
      obtain ⟨fa, fd, F, g, b0⟩ := S.s5
      exact ⟨fa, fd, ⟨zero_ok, g, F.kp⟩, b0⟩
    a6 := by
      obtain ⟨fa, fd, F, g, b0⟩ := S.s6
      exact ⟨fa, fd, ⟨zero_ok, g, F.kp⟩, b0⟩
    a7 := by
      obtain ⟨fa, fd, F, g, b0, b1⟩ := S.s7
      exact ⟨fa, fd, ⟨zero_ok, g, F.kp⟩, b0, b1⟩
    a8 := by
      obtain ⟨fa, fd, F, g, b0⟩ := S.s8
      exact ⟨fa, fd, ⟨zero_ok, g, F.kp⟩, b0⟩
    a9 := by
      obtain ⟨fa, fd, F, g, b0, b1⟩ := S.s9
      exact ⟨fa, fd, ⟨zero_ok, g, F.kp⟩, b0, b1⟩
    a10 := by
      obtain ⟨fa, fd, F, g, b0, b1⟩ := S.s10
      exact ⟨fa, fd, ⟨zero_ok, g, F.kp⟩, b0, b1⟩
    a11 := by
      obtain ⟨fa, fd, F, g, b0⟩ := S.s11
      exact ⟨fa, fd, ⟨zero_ok, g, F.kp⟩, b0⟩
    a12 := by
      obtain ⟨fa, fd, F, g, b0⟩ := S.s12
      exact ⟨fa, fd, ⟨zero_ok, g, F.kp⟩, b0⟩
    a13 := by
      obtain ⟨fa, fd, F, g, b0⟩ := S.s13
      exact ⟨fa, fd, ⟨zero_ok, g, F.kp⟩, b0⟩
    a14 := by
      obtain ⟨fa, fd, F, g, b0⟩ := S.s14
      exact ⟨fa, fd, ⟨zero_ok, g, F.kp⟩, b0⟩
    a15 := by
      obtain ⟨fa, fd, F, g, b0⟩ := S.s15
      exact ⟨fa, fd, ⟨zero_ok, g, F.kp⟩, b0⟩
    a16 := by
      obtain ⟨fa, fd, F, g, b0⟩ := S.s16
      exact ⟨fa, fd, ⟨zero_ok, g, F.kp⟩, b0⟩
    a17 := by
      obtain ⟨fa, fd, F, g, b0⟩ := S.s17
      exact ⟨fa, fd, ⟨zero_ok, g, F.kp⟩, b0⟩
    a18 := by
      obtain ⟨fa, fd, F, g, b0⟩ := S.s18
      exact ⟨fa, fd, ⟨zero_ok, g, F.kp⟩, b0⟩
    a19 := by
      obtain ⟨fa, fd, F, g, b0⟩ := S.s19
      exact ⟨fa, fd, ⟨zero_ok, g, F.kp⟩, b0⟩
    a20 := by
      obtain ⟨fa, fd, F, g, b0⟩ := S.s20
      exact ⟨fa, fd, ⟨zero_ok, g, F.kp⟩, b0⟩
    a21 := by
      obtain ⟨fa, fd, F, g, b0⟩ := S.s21
      exact ⟨fa, fd, ⟨zero_ok, g, F.kp⟩, b0⟩
    a22 := by
      obtain ⟨fa, fd, F, g, b0⟩ := S.s22
      exact ⟨fa, fd, ⟨zero_ok, g, F.kp⟩, b0⟩
    a23 := by
      obtain ⟨fa, fd, F, g, b0⟩ := S.s23
      exact ⟨fa, fd, ⟨zero_ok, g, F.kp⟩, b0⟩
    a24 := by
      obtain ⟨fa, fd, F, g, b0⟩ := S.s24
      exact ⟨fa, fd, ⟨zero_ok, g, F.kp⟩, b0⟩
    a25 := by
      obtain ⟨fa, fd, F, g⟩ := S.s25
      exact ⟨fa, fd, ⟨zero_ok, g, F.kp⟩⟩
    }
  | n + 1 => by
    have A := al_all (base := base) S n
    exact {
    a0 := by
      obtain ⟨fa, fd, F, g, b0⟩ := S.s0
      exact ⟨fa, fd, ⟨def_ok F fsc0 rfl rfl (fun X hP hw hK hM hB hc hr => by subst hP hw hK hM hB; exact d0 hc hr S.blt A), g, F.kp⟩, b0⟩
    a1 := by
      obtain ⟨fa, fd, F, g, b0⟩ := S.s1
      exact ⟨fa, fd, ⟨def_ok F fsc1 rfl rfl (fun X hP hw hK hM hB hc hr => by subst hP hw hK hM hB; exact d1 hc hr S.blt A), g, F.kp⟩, b0⟩
    a2 := by
      obtain ⟨fa, fd, F, g, b0⟩ := S.s2
      exact ⟨fa, fd, ⟨def_ok F fsc2 rfl rfl (fun X hP hw hK hM hB hc hr => by subst hP hw hK hM hB; exact d2 hc hr S.blt A), g, F.kp⟩, b0⟩
    a3 := by
      obtain ⟨fa, fd, F, g, b0⟩ := S.s3
      exact ⟨fa, fd, ⟨def_ok F fsc3 rfl rfl (fun X hP hw hK hM hB hc hr => by subst hP hw hK hM hB; exact d3 hc hr S.blt A), g, F.kp⟩, b0⟩
    a4 := by
      obtain ⟨fa, fd, F, g, b0⟩ := S.s4
      exact ⟨fa, fd, ⟨def_ok F fsc4 rfl rfl (fun X hP hw hK hM hB hc hr => by subst hP hw hK hM hB; exact d4 hc hr S.blt A), g, F.kp⟩, b0⟩
    a5 := by
      obtain ⟨fa, fd, F, g, b0⟩ := S.s5
      exact ⟨fa, fd, ⟨def_ok F fsc5 rfl rfl (fun X hP hw hK hM hB hc hr => by subst hP hw hK hM hB; exact d5 hc hr S.blt A), g, F.kp⟩, b0⟩
    a6 := by
      obtain ⟨fa, fd, F, g, b0⟩ := S.s6
      exact ⟨fa, fd, ⟨def_ok F fsc6 rfl rfl (fun X hP hw hK hM hB hc hr => by subst hP hw hK hM hB; exact d6 hc hr S.blt A), g, F.kp⟩, b0⟩
    a7 := by
      obtain ⟨fa, fd, F, g, b0, b1⟩ := S.s7
      exact ⟨fa, fd, ⟨def_ok F fsc7 rfl rfl (fun X hP hw hK hM hB hc hr => by subst hP hw hK hM hB; exact d7 hc hr S.blt A), g, F.kp⟩, b0, b1⟩
    a8 := by
      obtain ⟨fa, fd, F, g, b0⟩ := S.s8
      exact ⟨fa, fd, ⟨def_ok F fsc8 rfl rfl (fun X hP hw hK hM hB hc hr => by subst hP hw hK hM hB; exact d8 hc hr S.blt A), g, F.kp⟩, b0⟩
    a9 := by
      obtain ⟨fa, fd, F, g, b0, b1⟩ := S.s9
      exact ⟨fa, fd, ⟨def_ok F fsc9 rfl rfl (fun X hP hw hK hM hB hc hr => by subst hP hw hK hM hB; exact d9 hc hr S.blt A), g, F.kp⟩, b0, b1⟩
    a10 := by
      obtain ⟨fa, fd, F, g, b0, b1⟩ := S.s10
      exact ⟨fa, fd, ⟨def_ok F fsc10 rfl rfl (fun X hP hw hK hM hB hc hr => by subst hP hw hK hM hB; exact d10 hc hr S.blt A), g, F.kp⟩, b0, b1⟩
    a11 := by
      obtain ⟨fa, fd, F, g, b0⟩ := S.s11
      exact ⟨fa, fd, ⟨def_ok F fsc11 rfl rfl (fun X hP hw hK hM hB hc hr => by subst hP hw hK hM hB; exact d11 hc hr S.blt A), g, F.kp⟩, b0⟩
    a12 := by
      obtain ⟨fa, fd, F, g, b0⟩ := S.s12
      exact ⟨fa, fd, ⟨def_ok F fsc12 rfl rfl (fun X hP hw hK hM hB hc hr => by subst hP hw hK hM hB; exact d12 hc hr S.blt A), g, F.kp⟩, b0⟩
    a13 := by
      obtain ⟨fa, fd, F, g, b0⟩ := S.s13
      exact ⟨fa, fd, ⟨def_ok F fsc13 rfl rfl (fun X hP hw hK hM hB hc hr => by subst hP hw hK hM hB; exact d13 hc hr S.blt A), g, F.kp⟩, b0⟩
    a14 := by
      obtain ⟨fa, fd, F, g, b0⟩ := S.s14
      exact ⟨fa, fd, ⟨def_ok F fsc14 rfl rfl (fun X hP hw hK hM hB hc hr => by subst hP hw hK hM hB; exact d14 hc hr S.blt A), g, F.kp⟩, b0⟩
    a15 := by
      obtain ⟨fa, fd, F, g, b0⟩ := S.s15
      exact ⟨fa, fd, ⟨def_ok F fsc15 rfl rfl (fun X hP hw hK hM hB hc hr => by subst hP hw hK hM hB; exact d15 hc hr S.blt A), g, F.kp⟩, b0⟩
    a16 := by
      obtain ⟨fa, fd, F, g, b0⟩ := S.s16
      exact ⟨fa, fd, ⟨def_ok F fsc16 rfl rfl (fun X hP hw hK hM hB hc hr => by subst hP hw hK hM hB; exact d16 hc hr S.blt A), g, F.kp⟩, b0⟩
    a17 := by
      obtain ⟨fa, fd, F, g, b0⟩ := S.s17
      exact ⟨fa, fd, ⟨def_ok F fsc17 rfl rfl (fun X hP hw hK hM hB hc hr => by subst hP hw hK hM hB; exact d17 hc hr S.blt A), g, F.kp⟩, b0⟩
    a18 := by
      obtain ⟨fa, fd, F, g, b0⟩ := S.s18
      exact ⟨fa, fd, ⟨def_ok F fsc18 rfl rfl (fun X hP hw hK hM hB hc hr => by subst hP hw hK hM hB; exact d18 hc hr S.blt A), g, F.kp⟩, b0⟩
    a19 := by
      obtain ⟨fa, fd, F, g, b0⟩ := S.s19
      exact ⟨fa, fd, ⟨def_ok F fsc19 rfl rfl (fun X hP hw hK hM hB hc hr => by subst hP hw hK hM hB; exact d19 hc hr S.blt A), g, F.kp⟩, b0⟩
    a20 := by
      obtain ⟨fa, fd, F, g, b0⟩ := S.s20
      exact ⟨fa, fd, ⟨def_ok F fsc20 rfl rfl (fun X hP hw hK hM hB hc hr => by subst hP hw hK hM hB; exact d20 hc hr S.blt A), g, F.kp⟩, b0⟩
    a21 := by
      obtain ⟨fa, fd, F, g, b0⟩ := S.s21
      exact ⟨fa, fd, ⟨def_ok F fsc21 rfl rfl (fun X hP hw hK hM hB hc hr => by subst hP hw hK hM hB; exact d21 hc hr S.blt A), g, F.kp⟩, b0⟩
    a22 := by
      obtain ⟨fa, fd, F, g, b0⟩ := S.s22
      exact ⟨fa, fd, ⟨def_ok F fsc22 rfl rfl (fun X hP hw hK hM hB hc hr => by subst hP hw hK hM hB; exact d22 hc hr S.blt A), g, F.kp⟩, b0⟩
    a23 := by
      obtain ⟨fa, fd, F, g, b0⟩ := S.s23
      exact ⟨fa, fd, ⟨def_ok F fsc23 rfl rfl (fun X hP hw hK hM hB hc hr => by subst hP hw hK hM hB; exact d23 hc hr S.blt A), g, F.kp⟩, b0⟩
    a24 := by
      obtain ⟨fa, fd, F, g, b0⟩ := S.s24
      exact ⟨fa, fd, ⟨def_ok F fsc24 rfl rfl (fun X hP hw hK hM hB hc hr => by subst hP hw hK hM hB; exact d24 hc hr S.blt A), g, F.kp⟩, b0⟩
    a25 := by
      obtain ⟨fa, fd, F, g⟩ := S.s25
      exact ⟨fa, fd, ⟨def_ok F fsc25 rfl rfl (fun X hP hw hK hM hB hc hr => by subst hP hw hK hM hB; exact d25 hc hr S.blt A), g, F.kp⟩⟩
    }
theorem law_fn {base : Heap} (S : Sx K mg) {fa : Addr} (hfa : mg "law" = some (.ref fa)) : ∃ fd : FuncData, (∀ (s : Shared) (v : Value), BindsTo s fd ⟨[v], []⟩ [("script", v)]) ∧ ∀ base : Heap, FnOk P w K mg base CX0 60 fa fd ["script"] (spF K 1 (callN tab 60) 25) := by
  obtain ⟨fa2, fd, F, g⟩ := S.s25
  have e := hfa.symm.trans g
  cases e
  have b := FunD.bindsA (ps := ["script"]) F fun _ _ _ _ _ _ us hl => match us, hl with | [_], _ => rfl
  exact ⟨fd, fun s v => b s [v] rfl, fun base => def_ok F fsc25 rfl rfl (fun X hP hw hK hM hB hc hr => by subst hP hw hK hM hB; exact d25 hc hr S.blt (al_all S 59))⟩
end
def loose0 : List Str := ["IntervalError", "InvalidIntervals", "InvalidNumber", "is_integer", "is_between", "FAR", "MOST_LIST", "is_known", "are_intervals", "check_intervals", "check_number", "grown", "tree_of", "way_down", "stabbed", "visited", "_law_cell", "_law_box", "_law_take", "_law_same", "_law_mixed", "_law_interval", "_law_list", "_law_pick", "_law_rows", "_law_meet", "_law_tree_right", "_law_way", "_law_list_right", "_law_other"]
abbrev loose : List Str := loose0
abbrev R : PySem.W.OpenRow := PySem.W.OpenLaw.row PySem.Challenge.rw_intervalbench_k03_trees_by_their_ways
abbrev hk : PySem.W.Hook := He.hookD 4 faD fnD
def ob (s : PySem.W.SharedT) : He.AlD := He.obsDG 4 faD fnD (HandSHeadRun.getT s)
theorem ob_eq (s : PySem.W.SharedT) : ob s = hk.obs s.abs := He.obsDG_eq (HandSHeadRun.getT_eq s)
theorem run (w : World) : HandSHeadRun.RunEq R (PySem.W.view R.prog [35]) hk ob 4000 loose w := by
  intro os
  kernel_rfl
theorem law_sp {K : PySem.W.Frag} {n : Nat} (hr : ∀ ns : List Int, ns.length ≤ 63 → ∃ M, callN tab n 25 [.d (.list (ns.map .int))] [] = some (.d (.bool true), M)) (H : Hp) (a : Addr) (ns : List Int) (hl : ns.length ≤ 63) (hO : Only H) (hS : SqL K H a (ns.map V.int)) : spF K 1 (callN tab n) 25 [.ref a] H (fun v _ => v = .bl true) fun _ _ _ => False := script_sp hr H a ns hl hO hS
end K03
open PySem PySem.W PySem.Calls PyProof.Rows
theorem PySem.Challenge.cw_intervalbench_k03_trees_by_their_ways_holds : PySem.Challenge.rw_intervalbench_k03_trees_by_their_ways.Holds := by
  w_on; o_law
  refine HandSHeadRun.head_any (r := OpenLaw.row PySem.Challenge.rw_intervalbench_k03_trees_by_their_ways) (q := view (OpenLaw.row PySem.Challenge.rw_intervalbench_k03_trees_by_their_ways).prog [35]) (H := K03.hk) (ob := K03.ob) (M := 4000) (loose := K03.loose) (d := HandSHeadRun.topDef (OpenLaw.row PySem.Challenge.rw_intervalbench_k03_trees_by_their_ways).prog 35) (kwd := []) K03.ob_eq
    (by kernel_rfl) (fun s => by kernel_rfl) K03.run (by kernel_rfl) (by kernel_rfl) (by kernel_rfl) (by rfl) (by first | assumption | decide +kernel) (by decide +kernel) ⟨rfl, rfl, rfl, rfl, rfl, by decide +kernel⟩ ?hw ?hc
  case hw => w_witness2
  case hc =>
    refine L2.walk_ofE (l := PySem.Challenge.rw_intervalbench_k03_trees_by_their_ways) (n := 63) (k := 60) (x := "script") (CX := L2.CX0) rfl (by decide) (by kernel_rfl) ⟨rfl, by decide, by decide⟩ ?F (fun _ _ _ _ z => z)
    intro w mg fa h Y G hmg0
    obtain ⟨K, KX, c⟩ := Y
    have hmg : mg ("law" : PySem.Str) = some (.ref fa) := by
      have e : (HandSHeadRun.topDef (OpenLaw.row PySem.Challenge.rw_intervalbench_k03_trees_by_their_ways).prog 35).name = ("law" : PySem.Str) := by kernel_rfl
      rw [← e]
      exact hmg0
    obtain ⟨fd, hb, hF⟩ := K03.law_fn (P := (PySem.Challenge.rw_intervalbench_k03_trees_by_their_ways).prog) (w := w) (base := h) (K03.sx_of KX G c) hmg
    exact ⟨K, fd, _, KX, hb, fun H a ns hl hO hS => K03.law_sp K03.law_runs H a ns hl hO hS, fun base _ _ => hF base⟩
