import PyProof.Rows.All
import Wide.All
import OpenK.AllK
import Wide.FinOn
import HandS.ForMost
import KE.SortData
import KE.DataMinMax
import HandS.ForExc
import HandS.TupAny
import HandS.Wide
import HandS.Deep
import HandS.IsInst
import HandS.TupLen
import HandS.WordsDict
import HandS.Walk
import HandS.WordsExc
import HandS.ExcInit
import KE.KExcIs
import HandS.HotCalls
import HandS.SetFor
import HandS.ExcIs
import HandS.Flow
import HandS.DictComp
import HandS.SortKw
import HandS.Conv
import KE.KStateDown
import HandS.Defaults
import HandS.Head0
import HandS.Head1
import HandS.Head2
import HandS.HeadEnd
import HandS.HeadHook1
import HandS.HeadHook2
import PySem.Challenge.RW_togetherapart_k65_the_kept_row
set_option Elab.async false
set_option linter.all false
set_option maxRecDepth 100000
set_option maxHeartbeats 2000000
/-! RL, data: deep values with marks (own: a tree that one slot alone holds; else frozen), and how they lie in the abstract heap. -/
namespace RL
open PySem L2

inductive Kd where
  | tup | lst | fr | ktup
  | dK (ks : List Key)
  | dT (ks : List (List Key))
  | ins (c : Nat) (ns : List Str)
  deriving DecidableEq
inductive D where
  | non
  | bl (b : Bool)
  | int (i : Int)
  | str (x : Str)
  | fn (g : Nat)
  | nd (o : Bool) (k : Kd) (xs : List D)

abbrev D.tup (xs : List D) : D := .nd false .tup xs
abbrev D.lst (xs : List D) : D := .nd false .lst xs
abbrev D.olst (xs : List D) : D := .nd true .lst xs

mutual
def fz : D → D
  | .nd _ k xs => .nd false k (fzL xs)
  | .non => .non
  | .bl b => .bl b
  | .int i => .int i
  | .str x => .str x
  | .fn g => .fn g
def fzL : List D → List D
  | [] => []
  | d :: ds => fz d :: fzL ds
end
def D.own : D → Bool
  | .nd o _ _ => o
  | _ => false

/-- one heap holds what the other holds -/
def Ex (H H' : Hp) : Prop := ∀ a o, H a = some o → H' a = some o
theorem Ex.refl (H : Hp) : Ex H H := fun _ _ h => h
theorem Ex.trans {H H1 H2 : Hp} (a : Ex H H1) (b : Ex H1 H2) : Ex H H2 := fun x o h => b x o (a x o h)
theorem Ex.new {H : Hp} {p : Addr} {o : HO} (h : H p = none) : Ex H (upd H p o) := fun a u e => by
  rw [upd_ne (ne_of_none e h)]
  exact e
theorem ex_rd {H H' : Hp} {a : Addr} {u : HO} (e : Ex H H') (h : Rd H a u) : Rd H' a u := by
  rcases h with h | ⟨o, h⟩
  · exact .inl (e a _ h)
  · exact .inr ⟨o, e a _ h⟩
theorem ex_l {K : PySem.W.Frag} {H H' : Hp} {a : Addr} {xs : List V} (e : Ex H H') (h : SqL K H a xs) : SqL K H' a xs := by
  rcases h with h | h
  · exact .inl (ex_rd e h)
  · exact .inr h
theorem ex_t {K : PySem.W.Frag} {H H' : Hp} {a : Addr} {xs : List V} (e : Ex H H') (h : SqT K H a xs) : SqT K H' a xs := by
  rcases h with h | h
  · exact .inl (ex_rd e h)
  · exact .inr h

/-- the text's tables: where its classes and defs stand -/
structure Tb where
  K : PySem.W.Frag
  cA : Nat → Addr
  fA : Nat → Addr

section
variable (T : Tb)
/-- an own object -/
def AtO (H : Hp) (a : Addr) : Kd → List V → Prop
  | .tup, _ => False
  | .fr, _ => False
  | .ktup, _ => False
  | .lst, vs => H a = some (.lst vs)
  | .dK ks, vs => (ks.length = vs.length ∧ ks.Nodup) ∧ H a = some (.dK (ks.zip vs))
  | .dT ks, vs => (ks.length = vs.length ∧ ks.Nodup) ∧ H a = some (.dT (ks.zip vs))
  | .ins c ns, vs => ns.length = vs.length ∧ ∃ dx, H a = some (.ins (T.cA c) dx (ns.zip vs))
/-- a frozen one -/
def AtF (F : Hp) (a : Addr) : Kd → List V → Prop
  | .tup, vs => F a = some (.tup vs)
  | .ktup, vs => SqT T.K F a vs
  | .fr, vs => SqL T.K F a vs
  | .lst, vs => F a = some (.lst vs)
  | .dK ks, vs => (ks.length = vs.length ∧ ks.Nodup) ∧ F a = some (.dK (ks.zip vs))
  | .dT ks, vs => (ks.length = vs.length ∧ ks.Nodup) ∧ F a = some (.dT (ks.zip vs))
  | .ins c ns, vs => ns.length = vs.length ∧ ∃ dx, F a = some (.ins (T.cA c) dx (ns.zip vs))
mutual
/-- v is d; f: the addresses that d alone holds -/
def Own (F H : Hp) : D → V → List Addr → Prop
  | .non, v, f => v = .non ∧ f = []
  | .bl b, v, f => v = .bl b ∧ f = []
  | .int i, v, f => v = .int i ∧ f = []
  | .str x, v, f => v = .str x ∧ f = []
  | .fn g, v, f => v = .ref (T.fA g) ∧ f = []
  | .nd o k ds, v, f => (o = false ∧ f = [] ∧ ∃ a vs, v = .ref a ∧ AtF T F a k vs ∧ OwnL F H ds vs []) ∨
      (o = true ∧ ∃ a vs g, v = .ref a ∧ f = a :: g ∧ AtO T H a k vs ∧ OwnL F H ds vs g)
def OwnL (F H : Hp) : List D → List V → List Addr → Prop
  | [], vs, f => vs = [] ∧ f = []
  | d :: ds, vs, f => ∃ v ws g h, vs = v :: ws ∧ f = g ++ h ∧ Own F H d v g ∧ OwnL F H ds ws h
end
end

section
variable {T : Tb} {F F' H H' : Hp}
theorem AtO.mono {a : Addr} {k : Kd} {vs : List V} (e : H' a = H a) (h : AtO T H a k vs) : AtO T H' a k vs := by
  cases k with
  | tup => exact h
  | fr => exact h
  | ktup => exact h
  | lst => exact e.trans h
  | dK ks => exact ⟨h.1, e.trans h.2⟩
  | dT ks => exact ⟨h.1, e.trans h.2⟩
  | ins c ns => exact ⟨h.1, h.2.elim fun dx q => ⟨dx, e.trans q⟩⟩
theorem AtF.mono {a : Addr} {k : Kd} {vs : List V} (e : Ex F F') (h : AtF T F a k vs) : AtF T F' a k vs := by
  cases k with
  | tup => exact e _ _ h
  | ktup => exact ex_t e h
  | fr => exact ex_l e h
  | lst => exact e _ _ h
  | dK ks => exact ⟨h.1, e _ _ h.2⟩
  | dT ks => exact ⟨h.1, e _ _ h.2⟩
  | ins c ns => exact ⟨h.1, h.2.elim fun dx q => ⟨dx, e _ _ q⟩⟩
theorem AtO.ex_ {a : Addr} {k : Kd} {vs : List V} (h : AtO T H a k vs) : ∃ o, H a = some o := by
  cases k with
  | tup => exact h.elim
  | fr => exact h.elim
  | ktup => exact h.elim
  | lst => exact ⟨_, h⟩
  | dK ks => exact ⟨_, h.2⟩
  | dT ks => exact ⟨_, h.2⟩
  | ins c ns => exact h.2.elim fun dx q => ⟨_, q⟩
theorem AtO.frz {a : Addr} {k : Kd} {vs : List V} (e : F' a = H a) (h : AtO T H a k vs) : AtF T F' a k vs := by
  cases k with
  | tup => exact h.elim
  | fr => exact h.elim
  | ktup => exact h.elim
  | lst => exact e.trans h
  | dK ks => exact ⟨h.1, e.trans h.2⟩
  | dT ks => exact ⟨h.1, e.trans h.2⟩
  | ins c ns => exact ⟨h.1, h.2.elim fun dx q => ⟨dx, e.trans q⟩⟩

mutual
theorem Own.mono (e : Ex F F') : ∀ (d : D) (v : V) (f : List Addr), (∀ a ∈ f, H' a = H a) → Own T F H d v f → Own T F' H' d v f
  | .non, v, f, k, h => h
  | .bl b, v, f, k, h => h
  | .int i, v, f, k, h => h
  | .str x, v, f, k, h => h
  | .fn g, v, f, k, h => h
  | .nd o kd ds, v, f, k, h => by
    unfold Own at h ⊢
    rcases h with ⟨h0, h1, a, vs, h2, h3, h4⟩ | ⟨h0, a, vs, g, h2, h1, h3, h4⟩
    · exact .inl ⟨h0, h1, a, vs, h2, h3.mono e, OwnL.mono e ds vs [] (fun _ z => absurd z (by simp)) h4⟩
    · subst h1
      exact .inr ⟨h0, a, vs, g, h2, rfl, h3.mono (k a (by simp)), OwnL.mono e ds vs g (fun b z => k b (List.mem_cons_of_mem _ z)) h4⟩
theorem OwnL.mono (e : Ex F F') : ∀ (ds : List D) (vs : List V) (f : List Addr), (∀ a ∈ f, H' a = H a) → OwnL T F H ds vs f → OwnL T F' H' ds vs f
  | [], vs, f, k, h => h
  | d :: ds, vs, f, k, h => by
    unfold OwnL at h ⊢
    obtain ⟨v, ws, g, f2, h1, h2, h3, h4⟩ := h
    subst h2
    exact ⟨v, ws, g, f2, h1, rfl, Own.mono e d v g (fun a z => k a (List.mem_append_left _ z)) h3, OwnL.mono e ds ws f2 (fun a z => k a (List.mem_append_right _ z)) h4⟩
end
mutual
theorem Own.freeze (e : Ex F F') : ∀ (d : D) (v : V) (f : List Addr), (∀ a ∈ f, F' a = H a) → Own T F H d v f → Own T F' H' (fz d) v []
  | .non, v, f, k, h => ⟨h.1, rfl⟩
  | .bl b, v, f, k, h => ⟨h.1, rfl⟩
  | .int i, v, f, k, h => ⟨h.1, rfl⟩
  | .str x, v, f, k, h => ⟨h.1, rfl⟩
  | .fn g, v, f, k, h => ⟨h.1, rfl⟩
  | .nd o kd ds, v, f, k, h => by
    unfold Own at h
    unfold fz Own
    rcases h with ⟨h0, h1, a, vs, h2, h3, h4⟩ | ⟨h0, a, vs, g, h2, h1, h3, h4⟩
    · exact .inl ⟨rfl, rfl, a, vs, h2, h3.mono e, OwnL.freeze e ds vs [] (fun _ z => absurd z (by simp)) h4⟩
    · subst h1
      exact .inl ⟨rfl, rfl, a, vs, h2, h3.frz (k a (by simp)), OwnL.freeze e ds vs g (fun b z => k b (List.mem_cons_of_mem _ z)) h4⟩
theorem OwnL.freeze (e : Ex F F') : ∀ (ds : List D) (vs : List V) (f : List Addr), (∀ a ∈ f, F' a = H a) → OwnL T F H ds vs f → OwnL T F' H' (fzL ds) vs []
  | [], vs, f, k, h => ⟨h.1, rfl⟩
  | d :: ds, vs, f, k, h => by
    unfold OwnL at h
    unfold fzL OwnL
    obtain ⟨v, ws, g, f2, h1, h2, h3, h4⟩ := h
    subst h2
    exact ⟨v, ws, [], [], h1, rfl, Own.freeze e d v g (fun a z => k a (List.mem_append_left _ z)) h3, OwnL.freeze e ds ws f2 (fun a z => k a (List.mem_append_right _ z)) h4⟩
end
mutual
theorem Own.dom : ∀ (d : D) (v : V) (f : List Addr), Own T F H d v f → ∀ a ∈ f, ∃ o, H a = some o
  | .non, v, f, h, a, m => by rw [h.2] at m; cases m
  | .bl b, v, f, h, a, m => by rw [h.2] at m; cases m
  | .int i, v, f, h, a, m => by rw [h.2] at m; cases m
  | .str x, v, f, h, a, m => by rw [h.2] at m; cases m
  | .fn g, v, f, h, a, m => by rw [h.2] at m; cases m
  | .nd o kd ds, v, f, h, a, m => by
    unfold Own at h
    rcases h with ⟨h0, h1, _⟩ | ⟨h0, b, vs, g, h2, h1, h3, h4⟩
    · rw [h1] at m; cases m
    · subst h1
      rcases List.mem_cons.mp m with rfl | m
      · exact h3.ex_
      · exact OwnL.dom ds vs g h4 a m
theorem OwnL.dom : ∀ (ds : List D) (vs : List V) (f : List Addr), OwnL T F H ds vs f → ∀ a ∈ f, ∃ o, H a = some o
  | [], vs, f, h, a, m => by rw [h.2] at m; cases m
  | d :: ds, vs, f, h, a, m => by
    unfold OwnL at h
    obtain ⟨v, ws, g, f2, h1, h2, h3, h4⟩ := h
    subst h2
    rcases List.mem_append.mp m with m | m
    · exact Own.dom d v g h3 a m
    · exact OwnL.dom ds ws f2 h4 a m
end
mutual
/-- what holds nothing is frozen all through -/
theorem Own.frozen : ∀ (d : D) (v : V), Own T F H d v [] → fz d = d
  | .non, v, h => rfl
  | .bl b, v, h => rfl
  | .int i, v, h => rfl
  | .str x, v, h => rfl
  | .fn g, v, h => rfl
  | .nd o kd ds, v, h => by
    unfold Own at h
    rcases h with ⟨h0, h1, a, vs, h2, h3, h4⟩ | ⟨h0, b, vs, g, h2, h1, h3, h4⟩
    · unfold fz
      rw [h0, OwnL.frozen ds vs h4]
    · cases h1
theorem OwnL.frozen : ∀ (ds : List D) (vs : List V), OwnL T F H ds vs [] → fzL ds = ds
  | [], vs, h => rfl
  | d :: ds, vs, h => by
    unfold OwnL at h
    obtain ⟨v, ws, g, f2, h1, h2, h3, h4⟩ := h
    have h2' := h2.symm
    rw [List.append_eq_nil_iff] at h2'
    obtain ⟨rfl, rfl⟩ := h2'
    unfold fzL
    rw [Own.frozen d v h3, OwnL.frozen ds ws h4]
end
theorem Own.top {d : D} {v : V} {f : List Addr} (h : Own T F H d v f) (o : d.own = false) : f = [] := by
  cases d with
  | nd o' k ds =>
    unfold Own at h
    rcases h with ⟨h0, h1, _⟩ | ⟨h0, _⟩
    · exact h1
    · subst h0; cases o
  | _ => exact h.2
theorem OwnL.length : ∀ {ds : List D} {vs : List V} {f : List Addr}, OwnL T F H ds vs f → ds.length = vs.length
  | [], vs, f, h => by rw [h.1] <;> rfl
  | d :: ds, vs, f, h => by
    unfold OwnL at h
    obtain ⟨v, ws, g, f2, h1, h2, h3, h4⟩ := h
    subst h1
    rw [List.length_cons, List.length_cons, OwnL.length h4]
theorem OwnL.nil_ : OwnL T F H [] [] [] := ⟨rfl, rfl⟩
theorem OwnL.cons_ {d : D} {ds : List D} {v : V} {vs : List V} {f g : List Addr} (h : Own T F H d v f) (k : OwnL T F H ds vs g) : OwnL T F H (d :: ds) (v :: vs) (f ++ g) := ⟨v, vs, f, g, rfl, rfl, h, k⟩
theorem OwnL.append : ∀ {xs ys : List D} {vs us : List V} {f g : List Addr}, OwnL T F H xs vs f → OwnL T F H ys us g → OwnL T F H (xs ++ ys) (vs ++ us) (f ++ g)
  | [], ys, vs, us, f, g, h, k => by
    rw [h.1, h.2]
    exact k
  | d :: ds, ys, vs, us, f, g, h, k => by
    unfold OwnL at h
    obtain ⟨v, ws, p, q, rfl, rfl, h3, h4⟩ := h
    rw [List.append_assoc]
    exact OwnL.cons_ h3 (OwnL.append h4 k)
/-- the k-th child apart: it, and the rest with a hole for another -/
theorem OwnL.focus : ∀ {xs : List D} {vs : List V} {f : List Addr} {k : Nat} {d : D}, OwnL T F H xs vs f → xs[k]? = some d →
    ∃ v p q r, vs[k]? = some v ∧ f = p ++ q ++ r ∧ Own T F H d v q ∧ ∀ F' H' d' v' q', Ex F F' → (∀ a ∈ p ++ r, H' a = H a) → Own T F' H' d' v' q' → OwnL T F' H' (xs.set k d') (vs.set k v') (p ++ q' ++ r)
  | [], vs, f, k, d, h, e => by simp at e
  | d0 :: ds, vs, f, 0, d, h, e => by
    unfold OwnL at h
    obtain ⟨v, ws, p, q, rfl, rfl, h3, h4⟩ := h
    have e2 : d0 = d := by simpa using e
    subst e2
    refine ⟨v, [], p, q, rfl, by simp, h3, fun F' H' d' v' q' e k o => ?_⟩
    have := OwnL.cons_ o (OwnL.mono (H' := H') e ds ws q (fun a z => k a (by simpa using z)) h4)
    simpa using this
  | d0 :: ds, vs, f, k + 1, d, h, e => by
    unfold OwnL at h
    obtain ⟨v, ws, g, g2, rfl, rfl, h3, h4⟩ := h
    obtain ⟨u, p, q, r, e1, e2, e3, e4⟩ := OwnL.focus h4 (k := k) (d := d) (by simpa using e)
    subst e2
    refine ⟨u, g ++ p, q, r, by simpa using e1, by simp [List.append_assoc], e3, fun F' H' d' v' q' e kk o => ?_⟩
    have := OwnL.cons_ (Own.mono (H' := H') e d0 v g (fun a z => kk a (by simp [z])) h3) (e4 F' H' d' v' q' e (fun a z => kk a (by simp at z ⊢; rcases z with z | z <;> simp [z])) o)
    simpa [List.append_assoc] using this
theorem OwnL.get {xs : List D} {vs : List V} {k : Nat} {d : D} (h : OwnL T F H xs vs []) (e : xs[k]? = some d) : ∃ v, vs[k]? = some v ∧ Own T F H d v [] := by
  obtain ⟨v, p, q, r, h1, h2, h3, _⟩ := OwnL.focus h e
  have : p ++ q ++ r = [] := h2.symm
  simp at this
  obtain ⟨rfl, rfl, rfl⟩ := this
  exact ⟨v, h1, h3⟩

/-! ### paths: through own nodes, by the children's places -/
def getP : List Nat → D → Option D
  | [], d => some d
  | n :: p, .nd true _ xs => (xs[n]?).bind (getP p)
  | _ :: _, _ => none
def setP (d' : D) : List Nat → D → D
  | [], _ => d'
  | n :: p, .nd o k xs => .nd o k (match xs[n]? with
    | some x => xs.set n (setP d' p x)
    | none => xs)
  | _ :: _, d => d
def kidsO : HO → List V
  | .lst xs => xs
  | .tup xs => xs
  | .dK kvs => kvs.map (·.2)
  | .dT kvs => kvs.map (·.2)
  | .ins _ _ fs => fs.map (·.2)
  | _ => []
def follow (H : Hp) : List Nat → V → Option V
  | [], v => some v
  | n :: p, .ref a => (H a).bind fun o => ((kidsO o)[n]?).bind (follow H p)
  | _ :: _, _ => none
theorem map_zip_snd {α β : Type} : ∀ {xs : List α} {ys : List β}, xs.length = ys.length → (xs.zip ys).map (·.2) = ys
  | [], [], _ => rfl
  | x :: xs, y :: ys, h => by
    rw [List.zip_cons_cons, List.map_cons, map_zip_snd (by simpa using h)]
  | [], _ :: _, h => by simp at h
  | _ :: _, [], h => by simp at h
theorem AtO.kids {a : Addr} {k : Kd} {vs : List V} (h : AtO T H a k vs) : ∃ o, H a = some o ∧ kidsO o = vs := by
  cases k with
  | tup => exact h.elim
  | fr => exact h.elim
  | ktup => exact h.elim
  | lst => exact ⟨_, h, rfl⟩
  | dK ks => exact ⟨_, h.2, map_zip_snd h.1.1⟩
  | dT ks => exact ⟨_, h.2, map_zip_snd h.1.1⟩
  | ins c ns => obtain ⟨dx, q⟩ := h.2; exact ⟨_, q, map_zip_snd h.1⟩
/-- the tree at a path apart, and the rest with a hole -/
theorem Own.focus : ∀ {p : List Nat} {dr : D} {vr : V} {f : List Addr} {d : D}, Own T F H dr vr f → getP p dr = some d →
    ∃ v a b c, f = a ++ b ++ c ∧ follow H p vr = some v ∧ Own T F H d v b ∧ ∀ F' H' d' b', Ex F F' → (∀ x ∈ a ++ c, H' x = H x) → Own T F' H' d' v b' → Own T F' H' (setP d' p dr) vr (a ++ b' ++ c) ∧ follow H' p vr = some v
  | [], dr, vr, f, d, h, e => by
    have e2 : dr = d := by simpa [getP] using e
    subst e2
    exact ⟨vr, [], f, [], by simp, rfl, h, fun F' H' d' b' _ _ o => ⟨by simpa [setP] using o, rfl⟩⟩
  | n :: p, .nd true k xs, vr, f, d, h, e => by
    unfold Own at h
    rcases h with ⟨h0, _⟩ | ⟨_, a, vs, g, rfl, rfl, h3, h4⟩
    · cases h0
    · unfold getP at e
      cases e1 : xs[n]? with
      | none => rw [e1] at e; cases e
      | some x =>
        rw [e1] at e
        have e2 : getP p x = some d := e
        obtain ⟨u, q1, q2, q3, hu, rfl, ho, hs⟩ := OwnL.focus h4 e1
        obtain ⟨v, b1, b2, b3, rfl, hf, hd, hh⟩ := Own.focus ho e2
        obtain ⟨o, hao, hk⟩ := h3.kids
        refine ⟨v, a :: (q1 ++ b1), b2, b3 ++ q3, by simp [List.append_assoc], ?_, hd, fun F' H' d' b' e' k' o' => ?_⟩
        · show (H a).bind _ = _
          rw [hao]
          show ((kidsO o)[n]?).bind _ = _
          rw [hk, hu]
          exact hf
        · obtain ⟨w1, w2⟩ := hh F' H' d' b' e' (fun z m => k' z (by simp at m ⊢; rcases m with m | m <;> simp [m])) o'
          have ka : H' a = H a := k' a (by simp)
          refine ⟨?_, ?_⟩
          · have w3 := hs F' H' (setP d' p x) u (b1 ++ b' ++ b3) e' (fun z m => k' z (by simp at m ⊢; rcases m with m | m <;> simp [m])) w1
            have hset : vs.set n u = vs := List.ext_getElem? fun i => by
              by_cases hi : n = i
              · subst hi
                rw [List.getElem?_set, if_pos rfl]
                split
                · exact hu.symm
                · rw [List.getElem?_eq_none (by omega)]
              · rw [List.getElem?_set_ne hi]
            rw [hset] at w3
            show Own T F' H' (.nd true k (match xs[n]? with
              | some x => xs.set n (setP d' p x)
              | none => xs)) _ _
            rw [e1]
            unfold Own
            refine .inr ⟨rfl, a, vs, _, rfl, ?_, h3.mono ka, w3⟩
            simp [List.append_assoc]
          · show (H' a).bind _ = _
            rw [ka, hao]
            show ((kidsO o)[n]?).bind _ = _
            rw [hk, hu]
            exact w2
  | _ :: _, .nd false _ _, _, _, _, _, e => by simp [getP] at e
  | _ :: _, .non, _, _, _, _, e => by simp [getP] at e
  | _ :: _, .bl _, _, _, _, _, e => by simp [getP] at e
  | _ :: _, .int _, _, _, _, _, e => by simp [getP] at e
  | _ :: _, .str _, _, _, _, _, e => by simp [getP] at e
  | _ :: _, .fn _, _, _, _, _, e => by simp [getP] at e
end
end RL
set_option Elab.async false
set_option linter.all false
set_option maxRecDepth 100000
set_option maxHeartbeats 2000000
/-! RL, terms and their evaluator. -/
namespace RL
open PySem L2

inductive ItK where
  | seq | range | enum | zip | keys | values | items
  deriving DecidableEq
inductive Tg where
  | nm (i : Nat)
  | tp (is : List Nat)
def tgL : Tg → List Nat
  | .nm i => [i]
  | .tp is => is
inductive Blt where
  | len | list | tuple | abs | int | max | min | maxD | sum | all | any | sorted | ord | str | lrange | isint | isbool | isstr | islist | istuple | isdict
  deriving DecidableEq
inductive Bm where
  | append | pop | popAt | extend | insert | clear | index | count | get1 | get2 | join | split
  deriving DecidableEq
/-- expressions -/
inductive Ex' where
  | c (d : D)
  | v (i : Nat)
  | g (x : Str) (d : D)
  | bin (o : Operator) (a b : Ex')
  | neg (a : Ex')
  | cmp (o : CmpOp) (a b : Ex')
  | chain (o o' : CmpOp) (a b c : Ex')
  | and (a b : Ex')
  | or (a b : Ex')
  | not (a : Ex')
  | ife (c a b : Ex')
  | ix (a b : Ex')
  | sl (lo hi : Bool) (a l h : Ex')
  | fld (a : Ex') (f : Str)
  | tup (es : List Ex')
  | lst (es : List Ex')
  | dic0 (t : Bool)
  | call (f : Nat) (es : List Ex')
  | meth (m : Str) (o : Ex') (es : List Ex')
  | make (k : Nat) (es : List Ex')
  | blt (b : Blt) (es : List Ex')
  | bm (m : Bm) (o : Ex') (es : List Ex')
  | comp (own : List Nat) (tg : Tg) (k : ItK) (es : List Ex') (cd : List Ex') (elt : Ex')
  | frz (a : Ex')
  | view (f : Nat) (es : List Ex')
  | dcomp (own : List Nat) (tg : Tg) (k : ItK) (es : List Ex') (cd : List Ex') (ke ve : Ex')
/-- statements; kill, frzS: marks of our own, nothing in the text -/
inductive St' where
  | pass
  | exp (e : Ex')
  | asg (i : Nat) (e : Ex')
  | asgT (is : List Nat) (e : Ex')
  | par (i j : Nat) (a b : Ex')
  | sub (dic : Bool) (o k e : Ex')
  | fld (o : Ex') (f : Str) (e : Ex')
  | aug (i : Nat) (o : Operator) (e : Ex')
  | augS (ob k : Ex') (o : Operator) (e : Ex')
  | augF (ob : Ex') (f : Str) (o : Operator) (e : Ex')
  | ret (e : Ex')
  | retN
  | ife (c : Ex') (a b : List St')
  | whl (c : Ex') (b : List St')
  | for_ (tg : Tg) (k : ItK) (es : List Ex') (b : List St')
  | brk
  | cnt
  | raise (k : Nat) (es : List Ex')
  | tryE (b : List St') (i : Nat)
  | kill (is : List Nat)
  | frzS (i : Nat)
  | never

inductive Out (α : Type) where
  | ok (a : α)
  | ex (c : Nat) (ns : List Str) (xs : List D)
inductive Fl where
  | nx | bk | ct
  | rt (d : D)
  | ex (c : Nat) (ns : List Str) (xs : List D)
abbrev Env' := List (Option D)
abbrev M (α : Type) := Env' → Option (Out α × Env')
def M.ret {α : Type} (a : α) : M α := fun e => some (.ok a, e)
def M.fail {α : Type} : M α := fun _ => none
def M.bind {α β : Type} (x : M α) (f : α → M β) : M β := fun e => match x e with
  | some (.ok a, e') => f a e'
  | some (.ex c ns xs, e') => some (.ex c ns xs, e')
  | none => none
def M.lift {α : Type} (o : Option α) : M α := fun e => match o with
  | some a => some (.ok a, e)
  | none => none
def M.guard (b : Bool) : M Unit := fun e => match b with
  | true => some (.ok (), e)
  | false => none

/-- the greatest length of what is made -/
def lim : Nat := 1000000
inductive Rf where
  | tmp (d : D)
  | at_ (r : Nat) (p : List Nat)
def slotAt (e : Env') (i : Nat) : Option D := match e[i]? with
  | some (some d) => some d
  | _ => none
def pk (rf : Rf) (e : Env') : Option D := match rf with
  | .tmp d => some d
  | .at_ r p => (slotAt e r).bind (getP p)
def pkM (rf : Rf) : M D := fun e => match pk rf e with
  | some d => some (.ok d, e)
  | none => none
def pkL : List Rf → Env' → Option (List D)
  | [], _ => some []
  | r :: rs, e => (pk r e).bind fun d => (pkL rs e).map (d :: ·)
def pkLM (rs : List Rf) : M (List D) := fun e => match pkL rs e with
  | some d => some (.ok d, e)
  | none => none
def takeR (rf : Rf) : M D := fun e => match rf with
  | .tmp d => some (.ok d, e)
  | .at_ r [] => (match slotAt e r with
    | some d => some (.ok d, e.set r none)
    | none => none)
  | .at_ _ (_ :: _) => none
def takeL : List Rf → M (List D)
  | [] => .ret []
  | r :: rs => (takeR r).bind fun d => (takeL rs).bind fun ds => .ret (d :: ds)
/-- the child of a thing -/
def childR (ra : Rf) (n : Nat) (c : D) : Rf := match c.own with
  | true => (match ra with
    | .at_ r p => .at_ r (p ++ [n])
    | .tmp _ => .tmp c)
  | false => .tmp c
def okPend (r : Rf) (t : List Nat) : Bool := match r with
  | .at_ r (_ :: _) => !t.contains r
  | _ => true

/-- the first place -/
def pos {κ : Type} [DecidableEq κ] (q : κ) : List κ → Option Nat
  | [] => none
  | k :: ks => if k = q then some 0 else (pos q ks).map (· + 1)

/-! ### data -/
mutual
def toPy : D → Option PyData
  | .non => some .none
  | .bl b => some (.bool b)
  | .int i => some (.int i)
  | .str x => some (.str x)
  | .nd _ .lst xs => (toPyL xs).map .list
  | .nd _ .fr xs => (toPyL xs).map .list
  | .nd _ .tup xs => (toPyL xs).map .tuple
  | .nd _ .ktup xs => (toPyL xs).map .tuple
  | _ => none
def toPyL : List D → Option (List PyData)
  | [] => some []
  | d :: ds => (toPy d).bind fun p => (toPyL ds).map (p :: ·)
end
def eqD (x y : D) : Option Bool := (toPy x).bind fun p => (toPy y).bind fun q => match SeqAt.shaped p && SeqAt.shaped q with
  | true => some (PyData.eqv p q)
  | false => none
def keyD : Key → D
  | .inl i => .int i
  | .inr x => .str x
def tkeyD (k : List Key) : D := .tup (k.map keyD)
def asKey : D → Option Key
  | .int i => some (.inl i)
  | .str x => some (.inr x)
  | _ => none
def asKeys : List D → Option (List Key)
  | [] => some []
  | d :: ds => (asKey d).bind fun k => (asKeys ds).map (k :: ·)
def asTKey : D → Option (List Key)
  | .nd _ .tup xs => asKeys xs
  | _ => none
/-- the children's places in a dict -/
def dicAt (k : Kd) (d : D) : Option (Option Nat) := match k with
  | .dK ks => (asKey d).map fun q => pos q ks
  | .dT ks => (asTKey d).map fun q => pos q ks
  | _ => none
def isSeq : Kd → Bool
  | .tup => true
  | .ktup => true
  | .lst => true
  | .fr => true
  | _ => false
/-- an item: a child at its place, or a sign -/
def ixD (a b : D) : Option (Sum Nat D) := match a, b with
  | .nd _ .tup xs, .int i => (L2.ixN xs.length i).map .inl
  | .nd _ .ktup xs, .int i => (L2.ixN xs.length i).map .inl
  | .nd _ .lst xs, .int i => (L2.ixN xs.length i).map .inl
  | .nd _ (.dK ks) _, d => (asKey d).bind fun q => (pos q ks).map .inl
  | .nd _ (.dT ks) _, d => (asTKey d).bind fun q => (pos q ks).map .inl
  | .str z, .int i => (match decide (z.length ≤ lim) with
    | true => (L2.atI z.cps.toList i).map fun c => .inr (.str ⟨#[c]⟩)
    | false => none)
  | _, _ => none
def cutL (xs : List D) (lo hi : Option Int) : List D := (xs.drop (HT.sIx xs.length 0 lo)).take (HT.sIx xs.length xs.length hi - HT.sIx xs.length 0 lo)
def plain (xs : List D) : Bool := xs.all fun d => !d.own
def asI : D → Option (Option Int)
  | .int i => some (some i)
  | _ => none
def sliceD (a : D) (lo hi : Option Int) : Option D := match a with
  | .nd _ .lst xs => (match plain xs with
    | true => some (.olst (cutL xs lo hi))
    | false => none)
  | .nd _ .tup xs => some (.tup (cutL xs lo hi))
  | .str z => (match decide (z.length ≤ lim) with
    | true => some (.str (L2.cutS z lo hi))
    | false => none)
  | _ => none
/-- a product with one small factor, or of two that are not too long -/
def mulOk (i j : Int) : Bool := (decide (-(2 ^ 64) < i) && decide (i < 2 ^ 64)) || (decide (-(2 ^ 64) < j) && decide (j < 2 ^ 64)) || (decide (i.natAbs < 2 ^ 900) && decide (j.natAbs < 2 ^ 900))
def binD (o : Operator) (a b : D) : Option D := match o, a, b with
  | .Add, .int i, .int j => some (.int (i + j))
  | .Sub, .int i, .int j => some (.int (i - j))
  | .Mult, .int i, .int j => (match mulOk i j with
    | true => some (.int (i * j))
    | false => none)
  | .FloorDiv, .int i, .int j => (match decide (0 < j) && decide (j < 1073741824) with
    | true => some (.int (i / j))
    | false => none)
  | .Mod, .int i, .int j => (match decide (0 < j) with
    | true => some (.int (i % j))
    | false => none)
  | .Pow, .int i, .int j => (match decide (0 ≤ j) && decide (j ≤ 1000) && decide (i.natAbs < 2 ^ 64) with
    | true => some (.int (i ^ j.toNat))
    | false => none)
  | .Add, .str x, .str y => (match decide (x.length + y.length ≤ lim) with
    | true => some (.str (x ++ y))
    | false => none)
  | .Add, .nd _ .lst xs, .nd _ .lst ys => (match plain xs && plain ys && decide (xs.length + ys.length ≤ lim) with
    | true => some (.olst (xs ++ ys))
    | false => none)
  | .Add, .nd _ .tup xs, .nd _ .tup ys => (match decide (xs.length + ys.length ≤ lim) with
    | true => some (.tup (xs ++ ys))
    | false => none)
  | .Mult, .nd _ .lst xs, .int k => (match plain xs && decide (xs.length * k.toNat ≤ lim) && decide (-1000000 ≤ k) && decide (k ≤ 1000000) with
    | true => some (.olst (List.replicate k.toNat xs).flatten)
    | false => none)
  | _, _, _ => none
def flatPy : PyData → Bool
  | .none => true
  | .bool _ => true
  | .int _ => true
  | .str _ => true
  | _ => false
/-- x in a list of data of any depth; in a tuple of flat ones -/
def inList (x : D) (ys : List D) : Option Bool := (toPy x).bind fun p => (toPyL ys).bind fun qs => match SeqAt.shaped p && SeqAt.shaped (.list qs) with
  | true => some (qs.any fun z => PyData.eqv z p)
  | false => none
def inTup (x : D) (ys : List D) : Option Bool := (toPy x).bind fun p => (toPyL ys).bind fun qs => match flatPy p && qs.all flatPy with
  | true => some (qs.any fun z => PyData.eqv z p)
  | false => none
def tupB : PyData → Bool
  | .tuple (_ :: _) => true
  | _ => false
def otherB : PyData → Bool
  | .none => false
  | .tuple _ => false
  | _ => true
/-- what may be sorted -/
def sortOk (ps : List PyData) : Bool := (ps.all fun p => ps.all fun q => PySem.W.alike p q) && (ps.all tupB || ps.all otherB) && ps.all fun p => decide (PyData.depth p ≤ 8)
def asInt : D → Option Int
  | .int i => some i
  | _ => none
def asInts : List D → Option (List Int)
  | [] => some []
  | d :: ds => (asInt d).bind fun k => (asInts ds).map (k :: ·)
def asBools : List D → Option (List Bool)
  | [] => some []
  | .bl b :: ds => (asBools ds).map (b :: ·)
  | _ :: _ => none
def isNone : D → Bool
  | .non => true
  | _ => false
def containsD (x y : D) : Option Bool := match y with
  | .nd _ (.dK ks) _ => (asKey x).map fun q => (pos q ks).isSome
  | .nd _ (.dT ks) _ => (asTKey x).map fun q => (pos q ks).isSome
  | .nd _ .lst ys => inList x ys
  | .nd _ .tup ys => inTup x ys
  | .nd _ .ktup ys => inTup x ys
  | _ => none
def ltD : D → D → Option Bool
  | .int i, .int j => some (decide (i < j))
  | .nd _ .tup xs, .nd _ .tup ys => (asInts xs).bind fun is => (asInts ys).map fun js => HT.lexLt is js
  | _, _ => none
def leD : D → D → Option Bool
  | .int i, .int j => some (decide (i ≤ j))
  | _, _ => none
def gtD : D → D → Option Bool
  | .int i, .int j => some (decide (j < i))
  | _, _ => none
def isD : D → D → Option Bool
  | a, .non => some (isNone a)
  | _, _ => none
def cmpD (o : CmpOp) (a b : D) : Option Bool := match o with
  | .Eq => eqD a b
  | .NotEq => (eqD a b).map (!·)
  | .Lt => ltD a b
  | .LtE => leD a b
  | .Gt => gtD a b
  | .GtE => leD b a
  | .Is => isD a b
  | .IsNot => (isD a b).map (!·)
  | .In => containsD a b
  | .NotIn => (containsD a b).map (!·)
def truthD : D → Option Bool
  | .non => some false
  | .bl b => some b
  | .int i => some (i != 0)
  | .str x => (match decide (x.length ≤ lim) with
    | true => some (x.length != 0)
    | false => none)
  | .nd _ .lst xs => some (!xs.isEmpty)
  | .nd _ .tup xs => some (!xs.isEmpty)
  | _ => none
def maxI : Int → List Int → Int
  | m, [] => m
  | m, x :: xs => maxI (if x > m then x else m) xs
def minI : Int → List Int → Int
  | m, [] => m
  | m, x :: xs => minI (if x < m then x else m) xs
def lenD : List D → Option D
  | [.nd _ k xs] => (match k with
    | .ins _ _ => none
    | .fr => none
    | _ => some (.int xs.length))
  | [.str z] => (match decide (z.length ≤ lim) with
    | true => some (.int z.length)
    | false => none)
  | _ => none
def listD : List D → Option D
  | [.nd _ k xs] => (match isSeq k && plain xs with
    | true => some (.olst xs)
    | false => none)
  | _ => none
def tupleD : List D → Option D
  | [.nd _ .lst xs] => (match plain xs with
    | true => some (.tup xs)
    | false => none)
  | [.nd false .tup xs] => some (.tup xs)
  | _ => none
def absD : List D → Option D
  | [.int i] => some (.int (if i < 0 then -i else i))
  | _ => none
def intD : List D → Option D
  | [.int i] => some (.int i)
  | _ => none
def oneI (f : Int → List Int → Int) : List Int → Option D
  | [] => none
  | m :: r => some (.int (f m r))
def maxD' : List D → Option D
  | [.int i, .int j] => some (.int (if j > i then j else i))
  | [.nd _ .lst xs] => (asInts xs).bind (oneI maxI)
  | _ => none
def minD' : List D → Option D
  | [.int i, .int j] => some (.int (if j < i then j else i))
  | [.nd _ .lst xs] => (asInts xs).bind (oneI minI)
  | _ => none
def maxDflt (z : Int) : List Int → Int
  | [] => z
  | m :: r => maxI m r
def maxDD : List D → Option D
  | [.nd _ .lst xs, .int z] => (asInts xs).map fun is => .int (maxDflt z is)
  | _ => none
def allD : List D → Option D
  | [.nd _ .lst xs] => (asBools xs).map fun bs => .bl (bs.all id)
  | _ => none
def anyD : List D → Option D
  | [.nd _ .lst xs] => (asBools xs).map fun bs => .bl (bs.any id)
  | _ => none
inductive Ty0 where
  | non | bool | int | str | tuple | list | dict
  deriving DecidableEq
def tyD : D → Option Ty0
  | .non => some .non
  | .bl _ => some .bool
  | .int _ => some .int
  | .str _ => some .str
  | .nd _ .tup _ => some .tuple
  | .nd _ .ktup _ => some .tuple
  | .nd _ .lst _ => some .list
  | .nd _ (.dK _) _ => some .dict
  | .nd _ (.dT _) _ => some .dict
  | _ => none
def isTab : Blt → Ty0 → Bool
  | .isint, .int => true
  | .isint, .bool => true
  | .isbool, .bool => true
  | .isstr, .str => true
  | .islist, .list => true
  | .istuple, .tuple => true
  | .isdict, .dict => true
  | _, _ => false
def isD' (b : Blt) : List D → Option D
  | [d] => (tyD d).map fun t => .bl (isTab b t)
  | _ => none
/-- what is walked -/
def rangeL (lo : Int) : Nat → List D
  | 0 => []
  | n + 1 => .int lo :: rangeL (lo + 1) n
def rangeDown (hi : Int) : Nat → List D
  | 0 => []
  | n + 1 => .int hi :: rangeDown (hi - 1) n
def smallI (i : Int) : Bool := decide (-1000000 ≤ i) && decide (i ≤ 1000000)
def enumL (i : Int) : List D → List D
  | [] => []
  | d :: ds => .tup [.int i, d] :: enumL (i + 1) ds
def itD (k : ItK) (ds : List D) : Option (List D) := match k, ds with
  | .seq, [.nd _ .lst xs] => (match plain xs with
    | true => some xs
    | false => none)
  | .seq, [.nd _ .tup xs] => some xs
  | .seq, [.nd _ .ktup xs] => some xs
  | .range, [.int n] => (match smallI n with
    | true => some (rangeL 0 n.toNat)
    | false => none)
  | .range, [.int a, .int n] => (match smallI a && smallI n with
    | true => some (rangeL a (n - a).toNat)
    | false => none)
  | .range, [.int a, .int n, .int s] => (match smallI a && smallI n && decide (s = -1) with
    | true => some (rangeDown a (a - n).toNat)
    | false => none)
  | .enum, [.nd _ .lst xs] => (match plain xs with
    | true => some (enumL 0 xs)
    | false => none)
  | _, _ => none
/-- list(range(..)) -/
def lrangeD : List D → Option D
  | [.int n] => (itD .range [.int n]).map .olst
  | [.int a, .int n] => (itD .range [.int a, .int n]).map .olst
  | _ => none
/-- sorted: ints; lists of ints -/
def sortedD : List D → Option D
  | [.nd _ .lst xs] => (match plain xs && decide (xs.length ≤ lim), toPyL xs with
    | true, some ps => (match sortOk ps with
      | true => some (.olst (((xs.zip ps).mergeSort (PySem.W.dataLe false fun b => b.2)).map (·.1)))
      | false => none)
    | _, _ => none)
  | _ => none
def bltD : Blt → List D → Option D
  | .len => lenD
  | .list => listD
  | .tuple => tupleD
  | .abs => absD
  | .int => intD
  | .max => maxD'
  | .min => minD'
  | .maxD => maxDD
  | .all => allD
  | .any => anyD
  | .isint => isD' .isint
  | .isbool => isD' .isbool
  | .isstr => isD' .isstr
  | .islist => isD' .islist
  | .istuple => isD' .istuple
  | .isdict => isD' .isdict
  | .lrange => lrangeD
  | .sorted => sortedD
  | _ => fun _ => none
def isTupK : Kd → Bool
  | .tup => true
  | .ktup => true
  | _ => false
def setL : List Nat → List D → Env' → Env'
  | i :: is, x :: xs, e => setL is xs (e.set i (some x))
  | _, _, e => e
def setTg (t : Tg) (d : D) (e : Env') : Option Env' := match t, d with
  | .nm i, d => (match decide (i < e.length) && !d.own with
    | true => some (e.set i (some d))
    | false => none)
  | .tp is, .nd _ k xs => (match isTupK k && decide (is.length = xs.length) && is.all fun i => decide (i < e.length) with
    | true => some (setL is xs e)
    | false => none)
  | _, _ => none
def killL (is : List Nat) (e : Env') : Env' := is.foldl (fun e i => e.set i none) e
/-- the slots of a comprehension's own names as they were -/
def backD : Option (Option D) → Option D
  | some (some d) => (match d.own with
    | true => none
    | false => some d)
  | _ => none
def backL (is : List Nat) (e0 e : Env') : Env' := is.foldl (fun e i => e.set i (backD e0[i]?)) e

/-! ### which slots a term may turn -/
mutual
def touchR : Ex' → List Nat
  | .c _ | .g _ _ | .v _ | .dic0 _ => []
  | .bin _ a b | .cmp _ a b | .and a b | .or a b | .ix a b => touchR a ++ touchR b
  | .neg a | .not a | .fld a _ => touchR a
  | .chain _ _ a b c => touchR a ++ (touchR b ++ touchR c)
  | .ife c a b => touchR c ++ ((touchR a ++ varsV a) ++ (touchR b ++ varsV b))
  | .sl _ _ a l h => touchR a ++ (touchR l ++ touchR h)
  | .tup es | .lst es => touchL es ++ varsL es
  | .call _ es | .make _ es => touchL es ++ varsL es
  | .meth _ o es => touchR o ++ (varsV o ++ (touchL es ++ varsL es))
  | .blt _ es => touchL es
  | .bm _ o es => touchR o ++ (rootV o ++ (touchL es ++ varsL es))
  | .comp own tg _ es cd elt => touchL es ++ (tgL tg ++ (own ++ (touchL cd ++ (touchR elt ++ varsV elt))))
  | .frz a => touchR a ++ varsV a
  | .view _ es => touchL es
  | .dcomp own tg _ es cd ke ve => touchL es ++ (tgL tg ++ (own ++ (touchL cd ++ ((touchR ke ++ varsV ke) ++ (touchR ve ++ varsV ve)))))
def touchL : List Ex' → List Nat
  | [] => []
  | e :: es => touchR e ++ touchL es
/-- a bare name -/
def varsV : Ex' → List Nat
  | .v i => [i]
  | _ => []
def varsL : List Ex' → List Nat
  | [] => []
  | e :: es => varsV e ++ varsL es
/-- the root of a place -/
def rootV : Ex' → List Nat
  | .v i => [i]
  | .ix a b => rootV a ++ rootV b
  | .fld a _ => rootV a
  | _ => []
def rootL : List Ex' → List Nat
  | [] => []
  | e :: es => rootV e ++ rootL es
end
def touch (e : Ex') : List Nat := touchR e ++ varsV e

/-! ### the evaluator -/
structure Pr where
  flds : Nat → List Str
  meth : Nat → Str → Option Nat
  init : Nat → Option Nat
  exf : Nat → Option (List Str)
  err : Nat → List Str → List D → Option D
abbrev Hd' := Nat → List D → Option (Out D × List (Option D))
/-- what is own and stands at a slot comes back behind a call -/
def comeBack : List Rf → List (Option D) → Env' → Env'
  | .at_ r [] :: rs, d :: ds, e => comeBack rs ds (e.set r d)
  | _ :: rs, _ :: ds, e => comeBack rs ds e
  | _, _, e => e
def callM (Φ : Hd') (f : Nat) (rs : List Rf) : M D := fun e => match takeL rs e with
  | some (.ok ds, e1) => (match Φ f ds with
    | some (.ok d, ds') => some (.ok d, comeBack rs ds' e1)
    | some (.ex c ns xs, ds') => some (.ex c ns xs, comeBack rs ds' e1)
    | none => none)
  | _ => none
/-- a new instance -/
def makeM (Φ : Hd') (c f : Nat) (rs : List Rf) : M D := fun e => match takeL rs e with
  | some (.ok ds, e1) => (match Φ f (.nd true (.ins c []) [] :: ds) with
    | some (.ok .non, some d :: ds') => some (.ok d, comeBack rs ds' e1)
    | _ => none)
  | _ => none
/-- a change at a place -/
def putAt (r : Nat) (p : List Nat) (d : D) : Env' → Option Env' := fun e => (slotAt e r).map fun dr => e.set r (some (setP d p dr))
def bmD (m : Bm) (d : D) (ds : List D) : Option (D × D) := match m, d, ds with
  | .append, .nd true .lst xs, [x] => (match decide (xs.length < lim) with
    | true => some (.non, .olst (xs ++ [x]))
    | false => none)
  | .popAt, .nd true .lst xs, [.int i] => (match smallI i with
    | true => (L2.ixN xs.length i).bind fun k => (xs[k]?).bind fun x => (match x.own with
      | false => some (x, .olst (xs.eraseIdx k))
      | true => none)
    | false => none)
  | .pop, .nd true .lst xs, [] => (xs[xs.length - 1]?).bind fun x => (match x.own with
    | false => some (x, .olst xs.dropLast)
    | true => none)
  | _, _, _ => none
def isLst : D → Bool
  | .nd true .lst _ => true
  | _ => false
def bmM (m : Bm) (ro : Rf) (rs : List Rf) : M D := match ro with
  | .at_ r p => M.bind (takeL rs) fun ds => M.bind (pkM ro) fun d => M.bind (M.lift (bmD m d ds)) fun q => fun e => (putAt r p q.2 e).map fun e' => (.ok q.1, e')
  | .tmp _ => M.fail
def compL (own : List Nat) (set : D → Env' → Option Env') (cd : M Bool) (elt : M D) : List D → Env' → Option (List D × Env')
  | [], e => some ([], e)
  | x :: xs, e => match set x e with
    | some e1 => (match cd e1 with
      | some (.ok true, e2) => (match elt e2 with
        | some (.ok y, e3) => (compL own set cd elt xs (killL own e3)).map fun q => (y :: q.1, q.2)
        | _ => none)
      | some (.ok false, e2) => compL own set cd elt xs (killL own e2)
      | _ => none)
    | none => none
def compM (own : List Nat) (tg : Tg) (cd : M Bool) (elt : M D) (xs : List D) : M Rf := fun e0 => match decide (xs.length ≤ lim), compL own (setTg tg) cd elt xs (killL own e0) with
  | true, some (ys, e1) => some (.ok (.tmp (.olst ys)), backL own e0 e1)
  | _, _ => none
/-- a dict's entries with one put -/
def putE (ks : List Key) (vs : List D) (q : Key) (x : D) : List Key × List D := match pos q ks with
  | some j => (ks, vs.set j x)
  | none => (ks ++ [q], vs ++ [x])
def dcompL (own : List Nat) (set : D → Env' → Option Env') (cd : M Bool) (ke ve : M D) : List D → List Key → List D → Env' → Option ((List Key × List D) × Env')
  | [], ks, vs, e => some ((ks, vs), e)
  | x :: xs, ks, vs, e => match set x e with
    | some e1 => (match cd e1 with
      | some (.ok true, e2) => (match ke e2 with
        | some (.ok k, e3) => (match asKey k, ve e3 with
          | some q, some (.ok y, e4) => (match y.own with
            | false => dcompL own set cd ke ve xs (putE ks vs q y).1 (putE ks vs q y).2 (killL own e4)
            | true => none)
          | _, _ => none)
        | _ => none)
      | some (.ok false, e2) => dcompL own set cd ke ve xs ks vs (killL own e2)
      | _ => none)
    | none => none
def dcompM (own : List Nat) (tg : Tg) (cd : M Bool) (ke ve : M D) (xs : List D) : M Rf := fun e0 => match decide (xs.length ≤ lim), dcompL own (setTg tg) cd ke ve xs [] [] (killL own e0) with
  | true, some ((ks, vs), e1) => some (.ok (.tmp (.nd true (.dK ks) vs)), backL own e0 e1)
  | _, _ => none
/-- what is no object -/
def flatD : D → Bool
  | .non => true
  | .bl _ => true
  | .int _ => true
  | .str _ => true
  | _ => false
/-- a call that is lent its arguments -/
def viewD (Φ : Hd') (f : Nat) (ds : List D) : Option D := match Φ f (fzL ds) with
  | some (.ok d, _) => (match flatD d with
    | true => some d
    | false => none)
  | _ => none
def rfRoots : List Rf → List Nat
  | [] => []
  | .at_ r _ :: rs => r :: rfRoots rs
  | .tmp _ :: rs => rfRoots rs
def apart (rs : List Rf) (t : List Nat) : Bool := (rfRoots rs).all fun r => !t.contains r
/-- what is walked, and the places that it is read from -/
def itM (k : ItK) (A : M (List Rf)) (t : List Nat) : M (List Rf × List D) := M.bind A fun rs => M.bind (M.guard (apart rs t)) fun _ => M.bind (pkLM rs) fun ds => M.bind (M.lift (itD k ds)) fun xs => .ret (rs, xs)
def tmpM (x : M D) : M Rf := M.bind x fun d => .ret (.tmp d)
/-- operands in a row -/
def one (A : M Rf) : M (List Rf) := M.bind A fun x => .ret [x]
def two (A B : M Rf) (tb : List Nat) : M (List Rf) := M.bind A fun x => M.bind (M.guard (okPend x tb)) fun _ => M.bind B fun y => .ret [x, y]
/-- a reckoning from the operands as they stand -/
def pureOp (A : M (List Rf)) (f : List D → Option D) : M Rf := M.bind A fun rs => M.bind (pkLM rs) fun ds => M.lift ((f ds).map .tmp)
def bin2 (o : Operator) : List D → Option D
  | [p, q] => binD o p q
  | _ => none
def cmp2 (o : CmpOp) : List D → Option D
  | [p, q] => (cmpD o p q).map .bl
  | _ => none
def neg1 : List D → Option D
  | [.int i] => some (.int (-i))
  | _ => none
def not1 : List D → Option D
  | [.bl b] => some (.bl (!b))
  | _ => none
def truthM (x : M Rf) : M Bool := M.bind x fun r => M.bind (pkM r) fun d => M.lift (truthD d)
def asBl : D → Option Bool
  | .bl b => some b
  | _ => none
def childM (x : Rf) (xs : List D) (n : Nat) : M Rf := M.bind (M.lift (xs[n]?)) fun c => .ret (childR x n c)
def ixEnd (x : Rf) (p q : D) : M Rf := M.bind (M.lift (ixD p q)) fun n => match n, p with
  | .inr s, _ => .ret (.tmp s)
  | .inl n, .nd _ _ xs => childM x xs n
  | _, _ => M.fail
def ixM (A : M (List Rf)) : M Rf := M.bind A fun rs => M.bind (pkLM rs) fun ds => match rs, ds with
  | [x, _], [p, q] => ixEnd x p q
  | _, _ => M.fail
def fldM (P : Pr) (A : M Rf) (f : Str) : M Rf := M.bind A fun x => M.bind (pkM x) fun p => match p with
  | .nd _ (.ins k ns) xs => M.bind (M.guard ((P.flds k).contains f)) fun _ => M.bind (M.lift (pos f ns)) fun n => childM x xs n
  | _ => M.fail
def ifM {α : Type} (C : M Bool) (A B : M α) : M α := M.bind C fun z => match z with
  | true => A
  | false => B
/-- the rest: a key in a dict -/
def isDic : D → Bool
  | .nd _ (.dK _) _ => true
  | .nd _ (.dT _) _ => true
  | _ => false
def cmp2s (o : CmpOp) : List D → Option D
  | [p, q] => (match isDic q with
    | true => none
    | false => cmp2 o [p, q])
  | _ => none
def cmp2d (o : CmpOp) : List D → Option D
  | [p, q] => (match isDic q with
    | true => cmp2 o [p, q]
    | false => none)
  | _ => none
def chainM (o o' : CmpOp) (A : M (List Rf)) (C : M Rf) : M Rf := M.bind A fun rs => M.bind (pkLM rs) fun ds => match rs, ds with
  | [_, .tmp q'], [p, q] => M.bind (M.lift ((cmp2s o [p, q]).bind asBl)) fun z => (match z with
    | false => .ret (.tmp (.bl false))
    | true => M.bind C fun u => M.bind (pkM u) fun w => M.lift ((cmp2s o' [q', w]).map .tmp))
  | _, _ => M.fail
def partM (L : M Rf) : M (Option Int) := M.bind L fun x => M.bind (pkM x) fun d => M.lift (match d with
  | .int i => some (some i)
  | _ => none)
def optM (b : Bool) (L : M Rf) : M (Option Int) := match b with
  | true => partM L
  | false => .ret none
def sliceM (A : M Rf) (t : List Nat) (L U : M (Option Int)) : M Rf := M.bind A fun x => M.bind (M.guard (okPend x t)) fun _ => M.bind L fun i => M.bind U fun j => M.bind (pkM x) fun p => M.lift ((sliceD p i j).map .tmp)
def dispM (A : M (List Rf)) (f : List D → D) : M Rf := M.bind (M.bind A takeL) fun ds => M.bind (M.guard (decide (ds.length ≤ lim))) fun _ => .ret (.tmp (f ds))
def varM (i : Nat) : M Rf := fun e => match slotAt e i with
  | some d => some (.ok (match d.own with | true => .at_ i [] | false => .tmp d), e)
  | none => none
def andM (A B : M Bool) : M Bool := M.bind A fun z => match z with
  | false => .ret false
  | true => B
def orM (A B : M Bool) : M Bool := M.bind A fun z => match z with
  | true => .ret true
  | false => B
/-- a bool's value -/
def boolM (A : M Rf) : M Bool := M.bind A fun x => M.bind (pkM x) fun d => M.lift (asBl d)
def andV (A B : M Rf) : M Rf := M.bind (boolM A) fun z => match z with
  | false => .ret (.tmp (.bl false))
  | true => M.bind (boolM B) fun z' => .ret (.tmp (.bl z'))
def orV (A B : M Rf) : M Rf := M.bind (boolM A) fun z => match z with
  | true => .ret (.tmp (.bl true))
  | false => M.bind (boolM B) fun z' => .ret (.tmp (.bl z'))
mutual
/-- which slots a statement may turn -/
def touchS : St' → List Nat
  | .pass | .retN | .brk | .cnt | .never => []
  | .exp e | .ret e => touch e
  | .asg i e => i :: touch e
  | .asgT is e => is ++ touch e
  | .par i j a b => i :: j :: (touch a ++ touch b)
  | .sub _ o k e => touch e ++ (touchR o ++ (touchR k ++ rootV o))
  | .fld o _ e => touch o ++ (rootV o ++ touch e)
  | .aug i _ e => i :: touch e
  | .augS o k _ e => touch o ++ (rootV o ++ (touch k ++ touch e))
  | .augF o _ _ e => touch o ++ (rootV o ++ touch e)
  | .ife c a b => touch c ++ (touchSs a ++ touchSs b)
  | .whl c b => touch c ++ touchSs b
  | .for_ tg _ es b => tgL tg ++ (touchL es ++ touchSs b)
  | .raise _ es => touchL es ++ varsL es
  | .tryE b i => i :: touchSs b
  | .kill is => is
  | .frzS i => [i]
def touchSs : List St' → List Nat
  | [] => []
  | s :: ss => touchS s ++ touchSs ss
end
section
variable (P : Pr) (Φ : Hd')
mutual
/-- an expression's value; its truth as a test -/
def evX : Ex' → M Rf × M Bool
  | .c d => let r : M Rf := .ret (.tmp d); (r, truthM r)
  | .g _ d => let r : M Rf := .ret (.tmp d); (r, truthM r)
  | .v i => let r : M Rf := varM i; (r, truthM r)
  | .bin o a b => let r : M Rf := pureOp (two (evX a).1 (evX b).1 (touchR b)) (bin2 o); (r, truthM r)
  | .neg a => let r : M Rf := pureOp (one (evX a).1) neg1; (r, truthM r)
  | .cmp o a b => let r : M Rf := pureOp (two (evX a).1 (evX b).1 (touchR b)) (cmp2 o); (r, truthM r)
  | .chain o o' a b c => let r : M Rf := chainM o o' (two (evX a).1 (evX b).1 (touchR b)) (evX c).1; (r, truthM r)
  | .and a b => (andV (evX a).1 (evX b).1, andM (evX a).2 (evX b).2)
  | .or a b => (orV (evX a).1 (evX b).1, orM (evX a).2 (evX b).2)
  | .not a => (pureOp (one (evX a).1) not1, M.bind (evX a).2 fun z => .ret (!z))
  | .ife c a b => let r : M Rf := tmpM (ifM (evX c).2 (M.bind (evX a).1 takeR) (M.bind (evX b).1 takeR)); (r, M.fail)
  | .ix a b => let r : M Rf := ixM (two (evX a).1 (evX b).1 (touchR b)); (r, truthM r)
  | .sl lo hi a l h => let r : M Rf := sliceM (evX a).1 (touchR l ++ touchR h) (optM lo (evX l).1) (optM hi (evX h).1); (r, truthM r)
  | .fld a f => let r : M Rf := fldM P (evX a).1 f; (r, truthM r)
  | .tup es => let r : M Rf := dispM (evXs es) fun ds => .tup (fzL ds); (r, truthM r)
  | .lst es => let r : M Rf := dispM (evXs es) .olst; (r, truthM r)
  | .dic0 t => let r : M Rf := .ret (.tmp (.nd true (match t with | true => .dT [] | false => .dK []) [])); (r, truthM r)
  | .call f es => let r : M Rf := tmpM (M.bind (evXs es) fun rs => callM Φ f rs); (r, truthM r)
  | .meth m o es => let r : M Rf := M.bind (evX o).1 fun x => M.bind (M.guard (okPend x (touchL es))) fun _ => M.bind (evXs es) fun rs => M.bind (pkM x) fun d => match d with
      | .nd _ (.ins c _) _ => M.bind (M.lift (P.meth c m)) fun f => tmpM (callM Φ f (x :: rs))
      | _ => M.fail; (r, truthM r)
  | .make c es => let r : M Rf := M.bind (evXs es) fun rs => M.bind (M.lift (P.init c)) fun f => tmpM (makeM Φ c f rs); (r, truthM r)
  | .blt b es => let r : M Rf := pureOp (evXs es) (bltD b); (r, truthM r)
  | .bm m o es => let r : M Rf := tmpM (M.bind (evX o).1 fun x => M.bind (pkM x) fun d0 => M.bind (M.guard (isLst d0 && okPend x (touchL es ++ varsL es))) fun _ => M.bind (evXs es) fun rs => bmM m x rs); (r, truthM r)
  | .comp own tg k es cd elt => let r : M Rf := M.bind (itM k (evXs es) (tgL tg ++ (own ++ (touchL cd ++ (touchR elt ++ varsV elt))))) fun q => compM own tg (evXc cd) (M.bind (evX elt).1 takeR) q.2; (r, truthM r)
  | .frz a => let r : M Rf := tmpM (M.bind (M.bind (evX a).1 takeR) fun d => .ret (fz d)); (r, M.fail)
  | .view f es => let r : M Rf := pureOp (evXs es) (viewD Φ f); (r, truthM r)
  | .dcomp own tg k es cd ke ve => let r : M Rf := M.bind (itM k (evXs es) (tgL tg ++ (own ++ (touchL cd ++ ((touchR ke ++ varsV ke) ++ (touchR ve ++ varsV ve)))))) fun q => dcompM own tg (evXc cd) (M.bind (evX ke).1 takeR) (M.bind (evX ve).1 takeR) q.2; (r, truthM r)
def evXs : List Ex' → M (List Rf)
  | [] => .ret []
  | e :: es => M.bind (evX e).1 fun r => M.bind (M.guard (okPend r (touchL es))) fun _ => M.bind (evXs es) fun rs => .ret (r :: rs)
/-- the tests of a comprehension -/
def evXc : List Ex' → M Bool
  | [] => .ret true
  | [c] => (evX c).2
  | _ => M.fail
end
def evR (e : Ex') : M Rf := (evX P Φ e).1
def evT (e : Ex') : M Bool := (evX P Φ e).2
def ev (e : Ex') : M D := M.bind (evX P Φ e).1 takeR

def forL (set : D → Env' → Option Env') (body : Env' → Option (Fl × Env')) : List D → Env' → Option (Fl × Env')
  | [], e => some (.nx, e)
  | x :: xs, e => match set x e with
    | some e1 => (match body e1 with
      | some (.nx, e2) => forL set body xs e2
      | some (.ct, e2) => forL set body xs e2
      | some (.bk, e2) => some (.nx, e2)
      | some (.rt d, e2) => some (.rt d, e2)
      | some (.ex c ns ys, e2) => some (.ex c ns ys, e2)
      | none => none)
    | none => none
def whileL (cd : M Bool) (body : Env' → Option (Fl × Env')) : Nat → Env' → Option (Fl × Env')
  | 0, _ => none
  | n + 1, e => match cd e with
    | some (.ok false, e1) => some (.nx, e1)
    | some (.ok true, e1) => (match body e1 with
      | some (.nx, e2) => whileL cd body n e2
      | some (.ct, e2) => whileL cd body n e2
      | some (.bk, e2) => some (.nx, e2)
      | some (.rt d, e2) => some (.rt d, e2)
      | some (.ex c ns ys, e2) => some (.ex c ns ys, e2)
      | none => none)
    | some (.ex c ns ys, e1) => some (.ex c ns ys, e1)
    | none => none
def wlim : Nat := 1000000
abbrev SM := Env' → Option (Fl × Env')
def SM.of {α : Type} (x : M α) (k : α → SM) : SM := fun e => match x e with
  | some (.ok a, e') => k a e'
  | some (.ex c ns xs, e') => some (.ex c ns xs, e')
  | none => none
def SM.nx : SM := fun e => some (.nx, e)
def SM.fail : SM := fun _ => none
/-- o[k] = x, by values -/
def setL1 (d k x : D) : Option D := match d with
  | .nd true .lst xs => (match k with
    | .int i => (L2.ixN xs.length i).map fun j => .olst (xs.set j x)
    | _ => none)
  | _ => none
def setDk (d k x : D) : Option D := match d with
  | .nd true (.dK ks) xs => (asKey k).bind fun q => (match pos q ks, decide (ks.length < lim) with
    | some j, true => some (.nd true (.dK ks) (xs.set j x))
    | none, true => some (.nd true (.dK (ks ++ [q])) (xs ++ [x]))
    | _, _ => none)
  | .nd true (.dT ks) xs => (asTKey k).bind fun q => (match pos q ks, decide (ks.length < lim) with
    | some j, true => some (.nd true (.dT ks) (xs.set j x))
    | none, true => some (.nd true (.dT (ks ++ [q])) (xs ++ [x]))
    | _, _ => none)
  | _ => none
def setD (dic : Bool) (d k x : D) : Option D := match dic with
  | true => setDk d k x
  | false => setL1 d k x
def tmpOf : Rf → M D
  | .tmp d => .ret d
  | .at_ _ _ => .fail
/-- o.f = x -/
def setF (P : Pr) (d : D) (f : Str) (x : D) : Option D := match d with
  | .nd true (.ins c ns) xs => (match pos f ns, decide (ns.length < 900) && (P.flds c).contains f with
    | some j, true => some (.nd true (.ins c ns) (xs.set j x))
    | none, true => some (.nd true (.ins c (ns ++ [f])) (xs ++ [x]))
    | _, _ => none)
  | _ => none
/-- what name op= e reckons -/
def augD : Operator → Int → Int → Option D
  | .Add, i, j => some (.int (i + j))
  | .Sub, i, j => some (.int (i - j))
  | _, _, _ => none
def asTI : Rf → Option Int
  | .tmp (.int p) => some p
  | _ => none
def augM (i : Nat) (o : Operator) (x : Rf) (dy : D) : SM := fun e => match (asTI x).bind fun p => (asInt dy).bind fun q => augD o p q with
  | some z => some (.nx, e.set i (some z))
  | none => none
def putM (r : Rf) (f : D → Option D) : SM := fun e => match r with
  | .at_ i p => (match (pk r e).bind f with
    | some d => (putAt i p d e).map fun e' => (.nx, e')
    | none => none)
  | .tmp _ => none
mutual
def exS : St' → SM
  | .pass => .nx
  | .exp e => .of (ev P Φ e) fun _ => .nx
  | .asg i e => .of (ev P Φ e) fun d e' => match decide (i < e'.length) with
    | true => some (.nx, e'.set i (some d))
    | false => none
  | .asgT is e => .of (ev P Φ e) fun d e' => (setTg (.tp is) d e').map fun e2 => (.nx, e2)
  | .par i j a b => .of (M.bind (evXs P Φ [a, b]) takeL) fun ds e' => match ds, decide (i < e'.length) && decide (j < e'.length) with
    | [x, y], true => some (.nx, (e'.set i (some x)).set j (some y))
    | _, _ => none
  | .sub dic o k e => .of (evR P Φ e) fun rx => .of (M.guard (okPend rx (touchR o ++ touchR k))) fun _ => .of (evR P Φ o) fun ro => .of (M.guard (okPend ro (touchR k ++ varsV e))) fun _ => .of (evR P Φ k) fun rk => .of (takeR rx) fun x => .of (tmpOf rk) fun kd => putM ro fun d => setD dic d kd x
  | .fld o f e => .of (evR P Φ e) fun rx => .of (M.guard (okPend rx (touchR o))) fun _ => .of (evR P Φ o) fun ro => .of (M.guard (okPend ro (varsV e))) fun _ => .of (takeR rx) fun x => putM ro fun d => setF P d f x
  | .aug i o e => .of (varM i) fun x => .of (evR P Φ e) fun y => .of (pkM y) fun dy => augM i o x dy
  | .augS _ _ _ _ => .fail
  | .augF _ _ _ _ => .fail
  | .ret e => fun e0 => match ev P Φ e e0 with
    | some (.ok d, e') => some (.rt d, e')
    | some (.ex c ns xs, e') => some (.ex c ns xs, e')
    | none => none
  | .retN => fun e => some (.rt .non, e)
  | .ife c a b => .of (evT P Φ c) fun z => match z with
    | true => exSs a
    | false => exSs b
  | .whl c b => fun e => whileL (evT P Φ c) (exSs b) wlim e
  | .for_ tg k es b => .of (itM k (evXs P Φ es) (tgL tg ++ touchSs b)) fun q => forL (setTg tg) (exSs b) q.2
  | .brk => fun e => some (.bk, e)
  | .cnt => fun e => some (.ct, e)
  | .raise c es => .of (M.bind (evXs P Φ es) takeL) fun ds e => match P.exf c with
    | some ns => (match decide (ns.length = ds.length) with
      | true => some (.ex c ns.reverse (fzL ds).reverse, e)
      | false => none)
    | none => none
  | .tryE b i => fun e => match exSs b e with
    | some (.ex c ns xs, e') => (match decide (i < e'.length) with
      | true => (P.err c ns xs).map fun d => (.rt d, e'.set i none)
      | false => none)
    | r => r
  | .kill is => fun e => some (.nx, killL is e)
  | .frzS i => fun e => (slotAt e i).map fun d => (.nx, e.set i (some (fz d)))
  | .never => .fail
def exSs : List St' → SM
  | [] => .nx
  | s :: ss => fun e => match exS s e with
    | some (.nx, e') => exSs ss e'
    | r => r
end
end
end RL
set_option Elab.async false
set_option linter.all false
set_option maxRecDepth 100000
set_option maxHeartbeats 2000000
/-! RL, states: slots as they lie, what an evaluation leaves as it was. -/
namespace RL
open PySem L2

structure Rel (T : Tb) (F H : Hp) (σ : List (Option V)) (env : Env') (fp : Nat → List Addr) : Prop where
  sub : Ex F H
  len : env.length = σ.length
  at_ : ∀ i d, env[i]? = some (some d) → ∃ v, σ[i]? = some (some v) ∧ Own T F H d v (fp i)
  nd : ∀ i, (fp i).Nodup
  dj : ∀ i j a, a ∈ fp i → a ∈ fp j → i = j
  out : ∀ i a, a ∈ fp i → F a = none
  dom : ∀ i a, a ∈ fp i → ∃ o, H a = some o
  off : ∀ i, env.length ≤ i → fp i = []
structure Tr (F H : Hp) (fp : Nat → List Addr) (F' H' : Hp) (fp' : Nat → List Addr) : Prop where
  fro : Ex F F'
  keep : ∀ a o, H a = some o → (∀ i, a ∉ fp i) → H' a = some o
  newF : ∀ a u, F' a = some u → (∃ o, F a = some o) ∨ (∃ i, a ∈ fp i) ∨ H a = none
  newf : ∀ i a, a ∈ fp' i → (∃ j, a ∈ fp j) ∨ H a = none
theorem Tr.refl (F H : Hp) (fp : Nat → List Addr) : Tr F H fp F H fp := ⟨Ex.refl F, fun _ _ h _ => h, fun _ u h => .inl ⟨u, h⟩, fun i _ h => .inl ⟨i, h⟩⟩
theorem Tr.trans {F H F1 H1 F2 H2 : Hp} {fp fp1 fp2 : Nat → List Addr} (a : Tr F H fp F1 H1 fp1) (b : Tr F1 H1 fp1 F2 H2 fp2) : Tr F H fp F2 H2 fp2 := by
  refine ⟨a.fro.trans b.fro, fun x o h hn => b.keep x o (a.keep x o h hn) fun i hi => ?_, fun x u h => ?_, fun i x h => ?_⟩
  · rcases a.newf i x hi with ⟨j, hj⟩ | hj
    · exact hn j hj
    · rw [h] at hj; cases hj
  · rcases b.newF x u h with ⟨o, ho⟩ | ⟨i, hi⟩ | hn
    · exact a.newF x o ho
    · exact .inr (a.newf i x hi)
    · cases hx : H x with
      | none => exact .inr (.inr rfl)
      | some o =>
        refine .inr (.inl (Classical.byContradiction fun hc => ?_))
        rw [a.keep x o hx fun i hi => hc ⟨i, hi⟩] at hn
        cases hn
  · rcases b.newf i x h with ⟨j, hj⟩ | hn
    · exact a.newf j x hj
    · cases hx : H x with
      | none => exact .inr rfl
      | some o =>
        refine .inl (Classical.byContradiction fun hc => ?_)
        rw [a.keep x o hx fun i hi => hc ⟨i, hi⟩] at hn
        cases hn
theorem Tr.less {F H F' H' : Hp} {fp fp' fp2 : Nat → List Addr} (a : Tr F H fp F' H' fp') (h : ∀ i a, a ∈ fp2 i → ∃ j, a ∈ fp' j) : Tr F H fp F' H' fp2 :=
  ⟨a.fro, a.keep, a.newF, fun i x hx => let ⟨j, hj⟩ := h i x hx; a.newf j x hj⟩

def setFp (n : Nat) (g : List Addr) (fp : Nat → List Addr) : Nat → List Addr := fun i => if i = n then g else fp i
theorem setFp_same {n : Nat} {g : List Addr} {fp : Nat → List Addr} : setFp n g fp n = g := if_pos rfl
theorem setFp_ne {n i : Nat} {g : List Addr} {fp : Nat → List Addr} (h : i ≠ n) : setFp n g fp i = fp i := if_neg h
def cutF (n : Nat) (fp : Nat → List Addr) : Nat → List Addr := fun i => if i < n then fp i else []
theorem cutF_lt {n i : Nat} {fp : Nat → List Addr} (h : i < n) : cutF n fp i = fp i := if_pos h
theorem mem_cutF {n i : Nat} {fp : Nat → List Addr} {a : Addr} (h : a ∈ cutF n fp i) : i < n ∧ a ∈ fp i := by
  unfold cutF at h
  split at h
  · exact ⟨by assumption, h⟩
  · cases h
theorem get_set_none {e : Env'} {i j : Nat} {d : D} (h : (e.set i none)[j]? = some (some d)) : i ≠ j ∧ e[j]? = some (some d) := by
  by_cases hij : i = j
  · subst hij
    rw [List.getElem?_set] at h
    split at h
    · split at h <;> simp at h
    · rename_i q; exact absurd rfl q
  · rw [List.getElem?_set_ne hij] at h
    exact ⟨hij, h⟩
theorem slotAt_some {e : Env'} {i : Nat} {d : D} (h : slotAt e i = some d) : e[i]? = some (some d) := by
  unfold slotAt at h
  split at h
  · rename_i q; rw [q, ← Option.some.inj h]
  · cases h
theorem slotAt_of {e : Env'} {i : Nat} {d : D} (h : e[i]? = some (some d)) : slotAt e i = some d := by
  unfold slotAt; rw [h]
theorem slotAt_lt {e : Env'} {i : Nat} {d : D} (h : slotAt e i = some d) : i < e.length := (List.getElem?_eq_some_iff.mp (slotAt_some h)).1

section
variable {T : Tb} {F F' H H' : Hp} {σ pv : List (Option V)} {env pd : Env'} {fp : Nat → List Addr}
theorem Rel.slot (R : Rel T F H σ env fp) {i : Nat} {d : D} (h : slotAt env i = some d) : ∃ v, σ[i]? = some (some v) ∧ Own T F H d v (fp i) := R.at_ i d (slotAt_some h)
theorem Rel.cut (R : Rel T F H (σ ++ pv) (env ++ pd) fp) (hl : env.length = σ.length) : Rel T F H σ env (cutF env.length fp) := by
  refine ⟨R.sub, hl, fun i d h => ?_, fun i => ?_, fun i j a hi hj => R.dj i j a (mem_cutF hi).2 (mem_cutF hj).2, fun i a h => R.out i a (mem_cutF h).2, fun i a h => R.dom i a (mem_cutF h).2, fun i h => ?_⟩
  · have hi : i < env.length := (List.getElem?_eq_some_iff.mp h).1
    obtain ⟨v, h1, h2⟩ := R.at_ i d (by rw [List.getElem?_append_left hi]; exact h)
    rw [List.getElem?_append_left (by omega)] at h1
    exact ⟨v, h1, by rw [cutF_lt hi]; exact h2⟩
  · unfold cutF; split
    · exact R.nd i
    · exact List.nodup_nil
  · unfold cutF; rw [if_neg (by omega)]
theorem Rel.push (R : Rel T F H σ env fp) {d : D} {v : V} {g : List Addr} (h : Own T F H d v g) (hn : g.Nodup) (hg : ∀ a ∈ g, (∀ i, a ∉ fp i) ∧ F a = none) : Rel T F H (σ ++ [some v]) (env ++ [some d]) (setFp env.length g fp) := by
  refine ⟨R.sub, by simp [R.len], fun i d' h' => ?_, fun i => ?_, fun i j a hi hj => ?_, fun i a hi => ?_, fun i a hi => ?_, fun i hi => ?_⟩
  · by_cases e : i < env.length
    · rw [List.getElem?_append_left e] at h'
      obtain ⟨w, h1, h2⟩ := R.at_ i d' h'
      exact ⟨w, by rw [List.getElem?_append_left (by rw [← R.len]; exact e)]; exact h1, by rw [setFp_ne (by omega)]; exact h2⟩
    · have hi : i = env.length := by
        have := (List.getElem?_eq_some_iff.mp h').1
        simp at this; omega
      subst hi
      rw [List.getElem?_append_right (Nat.le_refl _)] at h'
      have e2 : d = d' := by simpa using h'
      subst e2
      refine ⟨v, by rw [R.len, List.getElem?_append_right (Nat.le_refl _)]; simp, by rw [setFp_same]; exact h⟩
  · unfold setFp; split
    · exact hn
    · exact R.nd i
  · unfold setFp at hi hj
    split at hi <;> split at hj
    · omega
    · exact absurd hj ((hg a hi).1 j)
    · exact absurd hi ((hg a hj).1 i)
    · exact R.dj i j a hi hj
  · unfold setFp at hi; split at hi
    · exact (hg a hi).2
    · exact R.out i a hi
  · unfold setFp at hi; split at hi
    · exact h.dom _ _ _ a hi
    · exact R.dom i a hi
  · have : env.length + 1 ≤ i := by simpa using hi
    rw [setFp_ne (by omega)]
    exact R.off i (by omega)
theorem Rel.push0 (R : Rel T F H σ env fp) {d : D} {v : V} (h : Own T F H d v []) : Rel T F H (σ ++ [some v]) (env ++ [some d]) (setFp env.length [] fp) := R.push h List.nodup_nil (by simp)
theorem Rel.pushN (R : Rel T F H σ env fp) (v : V) : Rel T F H (σ ++ [some v]) (env ++ [none]) fp := by
  refine ⟨R.sub, by simp [R.len], fun i d' h' => ?_, R.nd, R.dj, R.out, R.dom, fun i hi => R.off i (by simp at hi; omega)⟩
  by_cases e : i < env.length
  · rw [List.getElem?_append_left e] at h'
    obtain ⟨w, h1, h2⟩ := R.at_ i d' h'
    exact ⟨w, by rw [List.getElem?_append_left (by rw [← R.len]; exact e)]; exact h1, h2⟩
  · have hi : i = env.length := by
      have := (List.getElem?_eq_some_iff.mp h').1
      simp at this; omega
    subst hi
    rw [List.getElem?_append_right (Nat.le_refl _)] at h'
    simp at h'
/-- another heap, what is own as it was -/
theorem Rel.heap (R : Rel T F H σ env fp) (e : Ex F F') (s : Ex F' H') (k : ∀ i, ∀ a ∈ fp i, H' a = H a ∧ F' a = none) : Rel T F' H' σ env fp := by
  refine ⟨s, R.len, fun i d h => ?_, R.nd, R.dj, fun i a h => (k i a h).2, fun i a h => ?_, R.off⟩
  · obtain ⟨v, h1, h2⟩ := R.at_ i d h
    exact ⟨v, h1, Own.mono e d v _ (fun a m => (k i a m).1) h2⟩
  · rw [(k i a h).1]; exact R.dom i a h
theorem Rel.set (R : Rel T F H σ env fp) {i : Nat} {d : D} {v : V} {g : List Addr} (hi : i < env.length) (h : Own T F H d v g) (hn : g.Nodup) (hg : ∀ a ∈ g, (∀ j, j ≠ i → a ∉ fp j) ∧ F a = none) : Rel T F H (σ.set i (some v)) (env.set i (some d)) (setFp i g fp) := by
  refine ⟨R.sub, by simp [R.len], fun j d' h' => ?_, fun j => ?_, fun j k a hj hk => ?_, fun j a hj => ?_, fun j a hj => ?_, fun j hj => ?_⟩
  · by_cases e : i = j
    · subst e
      rw [List.getElem?_set_self hi] at h'
      have e2 : d = d' := by simpa using h'
      subst e2
      exact ⟨v, by rw [List.getElem?_set_self (by rw [← R.len]; exact hi)], by rw [setFp_same]; exact h⟩
    · rw [List.getElem?_set_ne e] at h'
      obtain ⟨w, h1, h2⟩ := R.at_ j d' h'
      exact ⟨w, by rw [List.getElem?_set_ne e]; exact h1, by rw [setFp_ne (Ne.symm e)]; exact h2⟩
  · unfold setFp; split
    · exact hn
    · exact R.nd j
  · unfold setFp at hj hk
    split at hj <;> split at hk
    · omega
    · rename_i a1 a2; exact absurd hk ((hg a hj).1 k a2)
    · rename_i a1 a2; exact absurd hj ((hg a hk).1 j a1)
    · exact R.dj j k a hj hk
  · unfold setFp at hj; split at hj
    · exact (hg a hj).2
    · exact R.out j a hj
  · unfold setFp at hj; split at hj
    · exact h.dom _ _ _ a hj
    · exact R.dom j a hj
  · have hj2 : env.length ≤ j := by simpa using hj
    rw [setFp_ne (by omega)]
    exact R.off j hj2
theorem Rel.kill (R : Rel T F H σ env fp) (i : Nat) : Rel T F H σ (env.set i none) fp :=
  ⟨R.sub, by simp [R.len], fun j d h => R.at_ j d (get_set_none h).2, R.nd, R.dj, R.out, R.dom, fun j hj => R.off j (by simpa using hj)⟩
/-- a slot's word is forgotten, its place in the frame is what it may -/
theorem Rel.lose (R : Rel T F H σ env fp) (i : Nat) (x : Option V) : Rel T F H (σ.set i x) (env.set i none) fp :=
  ⟨R.sub, by simp [R.len], fun j d h => by
    obtain ⟨h1, h2⟩ := get_set_none h
    obtain ⟨v, h3, h4⟩ := R.at_ j d h2
    exact ⟨v, by rw [List.getElem?_set_ne h1]; exact h3, h4⟩, R.nd, R.dj, R.out, R.dom, fun j hj => R.off j (by simpa using hj)⟩
end

/-! ### what an evaluation leaves -/
structure Post (T : Tb) (F H : Hp) (σ τ : List (Option V)) (env ts : Env') (fp : Nat → List Addr) (tch : List Nat) (F' H' : Hp) (env' : Env') (fp' : Nat → List Addr) (pv : List (Option V)) (pd : Env') : Prop where
  len : env'.length = env.length
  rel : Rel T F' H' (σ ++ τ ++ pv) (env' ++ ts ++ pd) fp'
  tr : Tr F H fp F' H' fp'
  same : ∀ i, (i ∉ tch ∨ env.length ≤ i) → i < env.length + ts.length → (env' ++ ts)[i]? = (env ++ ts)[i]? ∧ fp' i = fp i ∧ ∀ a ∈ fp i, H' a = H a
section
variable {T : Tb} {F H F1 H1 F2 H2 : Hp} {σ τ pv pv1 pv2 : List (Option V)} {env env1 env2 ts pd pd1 pd2 : Env'} {fp fp1 fp2 : Nat → List Addr} {t1 t2 : List Nat}
theorem Post.refl (R : Rel T F H (σ ++ τ) (env ++ ts) fp) : Post T F H σ τ env ts fp [] F H env fp [] [] :=
  ⟨rfl, by simpa using R, Tr.refl F H fp, fun _ _ _ => ⟨rfl, rfl, fun _ _ => rfl⟩⟩
theorem Post.trans (p : Post T F H σ τ env ts fp t1 F1 H1 env1 fp1 pv1 pd1) (q : Post T F1 H1 σ (τ ++ pv1) env1 (ts ++ pd1) fp1 t2 F2 H2 env2 fp2 pv2 pd2) :
    Post T F H σ τ env ts fp (t1 ++ t2) F2 H2 env2 fp2 (pv1 ++ pv2) (pd1 ++ pd2) := by
  refine ⟨q.len.trans p.len, by have := q.rel; simpa [List.append_assoc] using this, p.tr.trans q.tr, fun i hi hl => ?_⟩
  have h1 := p.same i (by rcases hi with hi | hi; exact .inl fun z => hi (List.mem_append_left _ z); exact .inr hi) hl
  have h2 := q.same i (by rcases hi with hi | hi; exact .inl fun z => hi (List.mem_append_right _ z); exact .inr (by rw [p.len]; exact hi)) (by rw [p.len, List.length_append]; omega)
  refine ⟨?_, h2.2.1.trans h1.2.1, fun a m => ?_⟩
  · rw [← h1.1]
    have := h2.1
    rw [show env2 ++ (ts ++ pd1) = (env2 ++ ts) ++ pd1 from (List.append_assoc _ _ _).symm, show env1 ++ (ts ++ pd1) = (env1 ++ ts) ++ pd1 from (List.append_assoc _ _ _).symm] at this
    have a1 : ((env2 ++ ts) ++ pd1)[i]? = (env2 ++ ts)[i]? := List.getElem?_append_left (by simp [q.len, p.len]; omega)
    have a2 : ((env1 ++ ts) ++ pd1)[i]? = (env1 ++ ts)[i]? := List.getElem?_append_left (by simp [p.len]; omega)
    exact a1.symm.trans (this.trans a2)
  · rw [h2.2.2 a (by rw [h1.2.1]; exact m)]
    exact h1.2.2 a m
theorem Post.weak (p : Post T F H σ τ env ts fp t1 F1 H1 env1 fp1 pv pd) (h : ∀ i ∈ t1, i ∈ t2) : Post T F H σ τ env ts fp t2 F1 H1 env1 fp1 pv pd :=
  ⟨p.len, p.rel, p.tr, fun i hi hl => p.same i (hi.imp (fun z y => z (h i y)) id) hl⟩
/-- the temporaries dropped -/
theorem Post.drop (p : Post T F H σ τ env ts fp t1 F1 H1 env1 fp1 pv pd) (hs : σ.length = env.length) (ht : τ.length = ts.length) : Post T F H σ τ env ts fp t1 F1 H1 env1 (cutF (env.length + ts.length) fp1) [] [] := by
  have hl : (env1 ++ ts).length = (σ ++ τ).length := by simp [p.len, hs, ht]
  have e : (env1 ++ ts).length = env.length + ts.length := by simp [p.len]
  refine ⟨p.len, ?_, p.tr.less fun i a h => ⟨i, (mem_cutF h).2⟩, fun i hi hl' => ?_⟩
  · have := Rel.cut p.rel hl
    rw [e] at this
    simpa using this
  · rw [cutF_lt hl']
    exact p.same i hi hl'
/-- a result that holds nothing of its own -/
theorem Post.push0 (p : Post T F H σ τ env ts fp t1 F1 H1 env1 fp1 [] []) {d : D} {v : V} (h : Own T F1 H1 d v []) : Post T F H σ τ env ts fp t1 F1 H1 env1 (setFp (env.length + ts.length) [] fp1) [some v] [some d] := by
  have e : (env1 ++ ts).length = env.length + ts.length := by simp [p.len]
  refine ⟨p.len, ?_, p.tr.less fun i a h => ?_, fun i hi hl' => ?_⟩
  · have := Rel.push0 p.rel h
    rw [← e]
    simpa using this
  · unfold setFp at h; split at h
    · cases h
    · exact ⟨i, h⟩
  · rw [setFp_ne (by omega)]
    exact p.same i hi hl'
/-- a new own thing on top of the heap -/
theorem Post.new (p : Post T F H σ τ env ts fp t1 F1 H1 env1 fp1 [] []) {k : Kd} {ds : List D} {vs : List V} {a : Addr} {o : HO} (ha : H1 a = none) (ho : AtO T (upd H1 a o) a k vs) (hk : OwnL T F1 H1 ds vs []) :
    Post T F H σ τ env ts fp t1 F1 (upd H1 a o) env1 (setFp (env.length + ts.length) [a] fp1) [some (.ref a)] [some (.nd true k ds)] := by
  have e : (env1 ++ ts).length = env.length + ts.length := by simp [p.len]
  have fa : F1 a = none := by
    cases h : F1 a with
    | none => rfl
    | some u => rw [p.rel.sub a u h] at ha; cases ha
  have na : ∀ i, a ∉ fp1 i := fun i m => by
    obtain ⟨u, hu⟩ := p.rel.dom i a m
    rw [hu] at ha; cases ha
  have R2 := p.rel.heap (F' := F1) (H' := upd H1 a o) (Ex.refl _) (p.rel.sub.trans (Ex.new ha)) fun i b m => ⟨upd_ne (fun z => na i (z ▸ m)), p.rel.out i b m⟩
  have hO : Own T F1 (upd H1 a o) (.nd true k ds) (.ref a) [a] := by
    unfold Own
    exact .inr ⟨rfl, a, vs, [], rfl, rfl, ho, OwnL.mono (Ex.refl _) ds vs [] (by simp) hk⟩
  have tr2 : Tr F1 H1 fp1 F1 (upd H1 a o) (setFp (env.length + ts.length) [a] fp1) := by
    refine ⟨Ex.refl _, fun b u hb _ => ?_, fun b u h => .inl ⟨u, h⟩, fun i b h => ?_⟩
    · rw [upd_ne (ne_of_none hb ha)]; exact hb
    · unfold setFp at h; split at h
      · have : b = a := by simpa using h
        rw [this]; exact .inr ha
      · exact .inl ⟨i, h⟩
  refine ⟨p.len, ?_, p.tr.trans tr2, fun i hi hl' => ?_⟩
  · have := Rel.push R2 hO (by simp) fun b hb => by
      have : b = a := by simpa using hb
      rw [this]
      exact ⟨na, fa⟩
    simp only [List.append_nil] at this ⊢
    rw [e] at this
    exact this
  · rw [setFp_ne (by omega)]
    obtain ⟨s1, s2, s3⟩ := p.same i hi hl'
    refine ⟨s1, s2, fun b m => ?_⟩
    rw [upd_ne (fun z => na i (by rw [s2]; exact z ▸ m))]
    exact s3 b m
/-- the last temporary's own word -/
theorem Post.last (p : Post T F H σ τ env ts fp t1 F1 H1 env1 fp1 (pv ++ [some (v : V)]) (pd ++ [some (d : D)])) (hs : σ.length = env.length) (ht : τ.length = ts.length) (hp : pv.length = pd.length) : Own T F1 H1 d v (fp1 (env.length + ts.length + pd.length)) := by
  have e : (env1 ++ ts ++ pd).length = env.length + ts.length + pd.length := by simp [p.len]; omega
  have e2 : (σ ++ τ ++ pv).length = env.length + ts.length + pd.length := by simp [hs, ht, hp]; omega
  obtain ⟨w, h1, h2⟩ := p.rel.at_ (env.length + ts.length + pd.length) d (by rw [← List.append_assoc, ← e, List.getElem?_append_right (Nat.le_refl _)]; simp)
  rw [← List.append_assoc, ← e2, List.getElem?_append_right (Nat.le_refl _)] at h1
  have : v = w := by simpa using h1
  rw [this]
  exact h2
end
end RL
set_option Elab.async false
set_option linter.all false
set_option maxRecDepth 100000
set_option maxHeartbeats 4000000
/-! RL, what it is that an evaluation is borne out by a reading. -/
namespace RL
open PySem L2
section
variable {T : Tb} {F H F1 H1 F2 H2 : Hp} {σ τ pv : List (Option V)} {env env1 ts pd : Env'} {fp fp1 : Nat → List Addr} {t1 t2 : List Nat}
/-- the temporaries give way to one result -/
theorem Post.fin (p : Post T F H σ τ env ts fp t1 F1 H1 env1 fp1 pv pd) (hs : σ.length = env.length) (ht : τ.length = ts.length) {d : D} {v : V} {g : List Addr}
    (e1 : Ex F1 F2) (e2 : Ex F2 H2) (k : ∀ i, i < env.length + ts.length → ∀ a ∈ fp1 i, H2 a = H1 a ∧ F2 a = none)
    (nf : ∀ a u, F2 a = some u → (∃ o, F1 a = some o) ∨ (∃ i, env.length + ts.length ≤ i ∧ a ∈ fp1 i) ∨ H1 a = none)
    (kp : ∀ a o, H1 a = some o → (∀ i, a ∉ fp1 i) → H2 a = some o) (ho : Own T F2 H2 d v g) (hn : g.Nodup)
    (hg : ∀ a ∈ g, F2 a = none ∧ (∀ i, i < env.length + ts.length → a ∉ fp1 i) ∧ ((∃ i, env.length + ts.length ≤ i ∧ a ∈ fp1 i) ∨ H1 a = none)) :
    Post T F H σ τ env ts fp t1 F2 H2 env1 (setFp (env.length + ts.length) g (cutF (env.length + ts.length) fp1)) [some v] [some d] := by
  have e : (env1 ++ ts).length = env.length + ts.length := by simp [p.len]
  have pd1 := p.drop hs ht
  have R1 := pd1.rel
  simp only [List.append_nil] at R1
  have R2 := R1.heap e1 e2 fun i a m => k i (mem_cutF m).1 a (mem_cutF m).2
  have tr2 : Tr F1 H1 fp1 F2 H2 (setFp (env.length + ts.length) g (cutF (env.length + ts.length) fp1)) := by
    refine ⟨e1, kp, fun a u h => ?_, fun i a h => ?_⟩
    · rcases nf a u h with h | ⟨i, _, hi⟩ | h
      · exact .inl h
      · exact .inr (.inl ⟨i, hi⟩)
      · exact .inr (.inr h)
    · unfold setFp at h; split at h
      · rcases (hg a h).2.2 with ⟨i, _, hi⟩ | h
        · exact .inl ⟨i, hi⟩
        · exact .inr h
      · exact .inl ⟨i, (mem_cutF h).2⟩
  refine ⟨p.len, ?_, p.tr.trans tr2, fun i hi hl => ?_⟩
  · have := Rel.push R2 ho hn fun a m => ⟨fun i z => (hg a m).2.1 i (mem_cutF z).1 (mem_cutF z).2, (hg a m).1⟩
    rw [e] at this
    exact this
  · rw [setFp_ne (by omega), cutF_lt hl]
    obtain ⟨s1, s2, s3⟩ := p.same i hi hl
    exact ⟨s1, s2, fun a m => (k i hl a (by rw [s2]; exact m)).1.trans (s3 a m)⟩
end

/-- the dict of an exception that flies -/
def XdAt (H : Hp) (d : Option Addr) (ns : List Str) (ws : List V) : Prop := (d = none ∧ ns = [] ∧ ws = []) ∨ ∃ dd, d = some dd ∧ H dd = some (.xd (ns.zip ws)) ∧ ns.length = ws.length

def RfOk (H : Hp) (σ : L2.St) (env : Env') (rf : Rf) (v : V) : Prop := match rf with
  | .tmp _ => True
  | .at_ r p => ∃ vr, σ[r]? = some (some vr) ∧ (p ≠ [] → ∃ dr d, slotAt env r = some dr ∧ getP p dr = some d ∧ d.own = true) ∧ follow H p vr = some v
def slotD : Rf → Option D
  | .tmp d => some d
  | .at_ _ _ => none
/-- where a thing that stands at a slot may stand -/
def RfIn (tv tr : List Nat) : Rf → Prop
  | .tmp _ => True
  | .at_ r p => (p = [] → r ∈ tv) ∧ r ∈ tr

def GoodG {α β : Type} (T : Tb) (W : WX) (m : M α) (tch : List Nat) (t : L2.St → Hp → (β → Hp → Prop) → Prop) (J : α → β → List (Option V) → Env' → L2.St → Env' → Hp → Prop) : Prop :=
  ∀ (F H : Hp) (σ τ : L2.St) (env ts : Env') (fp : Nat → List Addr) (o : Out α) (env2 : Env'), σ.length = env.length → τ.length = ts.length → Rel T F H (σ ++ τ) (env ++ ts) fp → m env = some (o, env2) →
    ∀ Q : β → Hp → Prop, (∀ a, o = .ok a → ∀ F' H' fp' b pv pd, J a b pv pd σ env2 H' → Post T F H σ τ env ts fp tch F' H' env2 fp' pv pd → Q b H') →
      (∀ c ns xs, o = .ex c ns xs → ∀ F' H' fp' d ws, Post T F H σ τ env ts fp tch F' H' env2 fp' [] [] → XdAt H' d ns ws → OwnL T F' H' xs ws [] → W (.ref (T.cA c)) d σ H') → t σ H Q
def JR (tv tr : List Nat) : Rf → V → List (Option V) → Env' → L2.St → Env' → Hp → Prop := fun rf v pv pd σ env H => pv = [some v] ∧ pd = [slotD rf] ∧ RfOk H σ env rf v ∧ RfIn tv tr rf
def JD : D → V → List (Option V) → Env' → L2.St → Env' → Hp → Prop := fun d v pv pd _ _ _ => pv = [some v] ∧ pd = [some d]
def JB : Bool → Bool → List (Option V) → Env' → L2.St → Env' → Hp → Prop := fun a b pv pd _ _ _ => pv = [] ∧ pd = [] ∧ a = b
def AllR (tv tr : List Nat) (H : Hp) (σ : L2.St) (env : Env') : List Rf → List V → Prop
  | [], vs => vs = []
  | r :: rs, vs => ∃ v ws, vs = v :: ws ∧ RfOk H σ env r v ∧ RfIn tv tr r ∧ AllR tv tr H σ env rs ws
def JA (tv tr : List Nat) : List Rf → List V → List (Option V) → Env' → L2.St → Env' → Hp → Prop := fun rs vs pv pd σ env H => pv = vs.map some ∧ pd = rs.map slotD ∧ AllR tv tr H σ env rs vs
abbrev GoodR (T : Tb) (W : WX) (m : M Rf) (tch tv tr : List Nat) (t : TE) : Prop := GoodG T W m tch t (JR tv tr)
abbrev GoodD (T : Tb) (W : WX) (m : M D) (tch : List Nat) (t : TE) : Prop := GoodG T W m tch t JD
abbrev GoodB (T : Tb) (W : WX) (m : M Bool) (tch : List Nat) (t : TT) : Prop := GoodG T W m tch t JB
abbrev GoodA (T : Tb) (W : WX) (m : M (List Rf)) (tch tv tr : List Nat) (t : TA) : Prop := GoodG T W m tch t (JA tv tr)

theorem GoodG.weak {α β : Type} {T : Tb} {W : WX} {m : M α} {t1 t2 : List Nat} {t : L2.St → Hp → (β → Hp → Prop) → Prop} {J} (g : GoodG T W m t1 t J) (h : ∀ i ∈ t1, i ∈ t2) : GoodG T W m t2 t J :=
  fun F H σ τ env ts fp o env2 hs ht R e Q k1 k2 => g F H σ τ env ts fp o env2 hs ht R e Q (fun a ea F' H' fp' b pv pd j p => k1 a ea F' H' fp' b pv pd j (p.weak h)) fun c ns xs eo F' H' fp' d ws p => k2 c ns xs eo F' H' fp' d ws (p.weak h)

/-! ### runs taken apart -/
theorem bind_cases {α β : Type} {x : M α} {f : α → M β} {e e2 : Env'} {o : Out β} (h : M.bind x f e = some (o, e2)) : (∃ a e1, x e = some (.ok a, e1) ∧ f a e1 = some (o, e2)) ∨ ∃ c ns xs, x e = some (.ex c ns xs, e2) ∧ o = .ex c ns xs := by
  unfold M.bind at h
  split at h
  · rename_i a e1 q; exact .inl ⟨a, e1, q, h⟩
  · rename_i c ns xs e1 q
    obtain ⟨rfl, rfl⟩ := Prod.mk.inj (Option.some.inj h)
    exact .inr ⟨c, ns, xs, q, rfl⟩
  · cases h
theorem guard_some {b : Bool} {e e2 : Env'} {o : Out Unit} (h : M.guard b e = some (o, e2)) : b = true ∧ o = .ok () ∧ e2 = e := by
  cases b with
  | true => obtain ⟨rfl, rfl⟩ := Prod.mk.inj (Option.some.inj (show some (Out.ok (), e) = _ from h)); exact ⟨rfl, rfl, rfl⟩
  | false => cases h
theorem ret_some {α : Type} {a : α} {e e2 : Env'} {o : Out α} (h : M.ret a e = some (o, e2)) : o = .ok a ∧ e2 = e := by
  obtain ⟨rfl, rfl⟩ := Prod.mk.inj (Option.some.inj (show some (Out.ok a, e) = _ from h)); exact ⟨rfl, rfl⟩
theorem lift_some {α : Type} {x : Option α} {e e2 : Env'} {o : Out α} (h : M.lift x e = some (o, e2)) : ∃ a, x = some a ∧ o = .ok a ∧ e2 = e := by
  cases x with
  | some a => obtain ⟨rfl, rfl⟩ := Prod.mk.inj (Option.some.inj (show some (Out.ok a, e) = _ from h)); exact ⟨a, rfl, rfl, rfl⟩
  | none => cases h
theorem pkM_some {r : Rf} {e e2 : Env'} {o : Out D} (h : pkM r e = some (o, e2)) : ∃ d, pk r e = some d ∧ o = .ok d ∧ e2 = e := by
  unfold pkM at h
  split at h
  · rename_i d q; obtain ⟨rfl, rfl⟩ := Prod.mk.inj (Option.some.inj h); exact ⟨d, q, rfl, rfl⟩
  · cases h
theorem pkLM_some {r : List Rf} {e e2 : Env'} {o : Out (List D)} (h : pkLM r e = some (o, e2)) : ∃ d, pkL r e = some d ∧ o = .ok d ∧ e2 = e := by
  unfold pkLM at h
  split at h
  · rename_i d q; obtain ⟨rfl, rfl⟩ := Prod.mk.inj (Option.some.inj h); exact ⟨d, q, rfl, rfl⟩
  · cases h

/-! ### what stands where -/
section
variable {T : Tb} {F H F1 H1 : Hp} {σ τ pv pv1 : List (Option V)} {env env1 ts pd pd1 : Env'} {fp fp1 : Nat → List Addr} {t1 t2 : List Nat}
theorem slot_app {e ts : Env'} {r : Nat} {d : D} (h : slotAt e r = some d) : (e ++ ts)[r]? = some (some d) := by
  rw [List.getElem?_append_left (slotAt_lt h)]
  exact slotAt_some h
/-- a thing that stood at a place stands there behind an evaluation that turns other slots -/
theorem RfOk.keep {rf : Rf} {v : V} (h : RfOk H σ env rf v) (R : Rel T F H (σ ++ τ) (env ++ ts) fp) (hs : σ.length = env.length) (p : Post T F H σ τ env ts fp t1 F1 H1 env1 fp1 pv pd) (ok : okPend rf t1 = true) : RfOk H1 σ env1 rf v := by
  cases rf with
  | tmp d => trivial
  | at_ r q =>
    obtain ⟨vr, h1, h2, h3⟩ := h
    cases q with
    | nil => exact ⟨vr, h1, fun z => absurd rfl z, h3⟩
    | cons n q =>
      obtain ⟨dr, d, h4, h5, h6⟩ := h2 (by simp)
      have hr : r ∉ t1 := by
        intro z
        have : (!t1.contains r) = true := ok
        rw [List.contains_iff_mem.mpr z] at this
        cases this
      have hlt := slotAt_lt h4
      obtain ⟨s1, s2, s3⟩ := p.same r (.inl hr) (by omega)
      have e1 : env1[r]? = some (some dr) := by
        have := s1
        rw [slot_app h4, List.getElem?_append_left (by rw [p.len]; exact hlt)] at this
        exact this
      obtain ⟨w, hw, ho⟩ := R.at_ r dr (slot_app h4)
      rw [List.getElem?_append_left (by omega), h1] at hw
      have : vr = w := by simpa using hw
      subst this
      obtain ⟨v', a, b, c, hf, hfo, hd, hh⟩ := Own.focus ho h5
      have ev : v' = v := Option.some.inj (hfo.symm.trans h3)
      subst ev
      refine ⟨vr, h1, fun _ => ⟨dr, d, slotAt_of e1, h5, h6⟩, (hh F1 H1 d b p.tr.fro (fun x m => s3 x ?_) (Own.mono p.tr.fro d _ b (fun x m => s3 x ?_) hd)).2⟩
      · rw [hf]; simp at m ⊢; rcases m with m | m <;> simp [m]
      · rw [hf]; simp [m]
/-- the value at a place -/
theorem at_own {r : Nat} {p : List Nat} {v : V} {d : D} (h : RfOk H σ env (.at_ r p) v) (R : Rel T F H (σ ++ τ) (env ++ ts) fp) (hs : σ.length = env.length) (e : pk (.at_ r p) env = some d) : ∃ g, Own T F H d v g ∧ ∀ a ∈ g, a ∈ fp r := by
  obtain ⟨vr, h1, _, h3⟩ := h
  have e2 : (slotAt env r).bind (getP p) = some d := e
  cases h4 : slotAt env r with
  | none => rw [h4] at e2; cases e2
  | some dr =>
    rw [h4] at e2
    have h5 : getP p dr = some d := e2
    obtain ⟨w, hw, ho⟩ := R.at_ r dr (slot_app h4)
    have hlt := slotAt_lt h4
    rw [List.getElem?_append_left (by omega), h1] at hw
    have : vr = w := by simpa using hw
    subst this
    obtain ⟨v', a, b, c, hf, hfo, hd, hh⟩ := Own.focus ho h5
    have ev : v' = v := Option.some.inj (hfo.symm.trans h3)
    subst ev
    exact ⟨b, hd, fun x m => by rw [hf]; simp [m]⟩
/-- things by twos: each value is its datum -/
def Args (T : Tb) (F H : Hp) : List D → List V → Prop
  | [], vs => vs = []
  | d :: ds, vs => ∃ v ws, vs = v :: ws ∧ (∃ g, Own T F H d v g) ∧ Args T F H ds ws
theorem args_of : ∀ {rs : List Rf} {vs : List V} {tv tr : List Nat} {S : List (Option V)} {E : Env'} {ds : List D}, Rel T F H (σ ++ τ) (env ++ ts) (cutF (env.length + ts.length) fp) → σ.length = env.length → Rel T F H (S ++ vs.map some) (E ++ rs.map slotD) fp → S.length = E.length → AllR tv tr H σ env rs vs → pkL rs env = some ds → Args T F H ds vs
  | [], vs, tv, tr, S, E, ds, R0, hs, R, hl, h, e => by
    have : ds = [] := (Option.some.inj (show some [] = some ds from e)).symm
    rw [this]; exact h
  | r :: rs, vs, tv, tr, S, E, ds, R0, hs, R, hl, h, e => by
    obtain ⟨v, ws, rfl, h1, _, h3⟩ := h
    unfold pkL at e
    cases e1 : pk r env with
    | none => rw [e1] at e; cases e
    | some d =>
      rw [e1] at e
      cases e2 : pkL rs env with
      | none => rw [e2] at e; cases e
      | some ds' =>
        rw [e2] at e
        have : ds = d :: ds' := (Option.some.inj e).symm
        subst this
        have R' : Rel T F H ((S ++ [some v]) ++ ws.map some) ((E ++ [slotD r]) ++ rs.map slotD) fp := by simpa [List.append_assoc] using R
        refine ⟨v, ws, rfl, ?_, args_of R0 hs R' (by simp [hl]) h3 e2⟩
        cases r with
        | tmp d0 =>
          have : d0 = d := Option.some.inj e1
          subst this
          obtain ⟨w, q1, q2⟩ := R.at_ E.length d0 (by rw [List.getElem?_append_right (Nat.le_refl _)]; simp [slotD])
          rw [← hl, List.getElem?_append_right (Nat.le_refl _)] at q1
          have : v = w := by simpa using q1
          subst this
          exact ⟨_, q2⟩
        | at_ r p =>
          obtain ⟨g, hg, _⟩ := at_own h1 R0 hs e1
          exact ⟨g, hg⟩
theorem Post.args {rs : List Rf} {vs : List V} {tv tr : List Nat} {ds : List D} (p : Post T F H σ τ env ts fp t1 F1 H1 env1 fp1 (vs.map some) (rs.map slotD)) (hs : σ.length = env.length) (ht : τ.length = ts.length) (h : AllR tv tr H1 σ env1 rs vs) (e : pkL rs env1 = some ds) : Args T F1 H1 ds vs := by
  have R0 := (p.drop hs ht).rel
  simp only [List.append_nil] at R0
  rw [← p.len] at R0
  exact args_of R0 (by rw [p.len]; exact hs) p.rel (by simp [hs, ht, p.len]) h e
end

/-! ### operands in a row -/
section
variable {T : Tb} {W : WX} {m1 : M Rf} {m2 : M (List Rf)} {t1 t2 v1 r1 v2 r2 : List Nat} {te : TE} {tr : TA}
theorem RfIn.weak {tv tv' tr tr' : List Nat} (h : ∀ i ∈ tv, i ∈ tv') (h' : ∀ i ∈ tr, i ∈ tr') {r : Rf} (k : RfIn tv tr r) : RfIn tv' tr' r := by
  cases r with
  | tmp d => trivial
  | at_ r p => exact ⟨fun z => h r (k.1 z), h' r k.2⟩
theorem AllR.weak {H : Hp} {σ : L2.St} {env : Env'} {tv tv' tr tr' : List Nat} (h : ∀ i ∈ tv, i ∈ tv') (h' : ∀ i ∈ tr, i ∈ tr') : ∀ {rs : List Rf} {vs : List V}, AllR tv tr H σ env rs vs → AllR tv' tr' H σ env rs vs
  | [], _, k => k
  | r :: rs, vs, k => by
    obtain ⟨v, ws, e, h1, h2, h3⟩ := k
    exact ⟨v, ws, e, h1, h2.weak h h', AllR.weak h h' h3⟩
theorem good_nil : GoodA T W (M.ret []) [] [] [] tNil := fun F H σ τ env ts fp o env2 hs ht R e Q k1 _ => by
  obtain ⟨rfl, rfl⟩ := ret_some e
  exact k1 [] rfl F H fp [] [] [] ⟨rfl, rfl, rfl⟩ (Post.refl R)
theorem good_cons (g1 : GoodR T W m1 t1 v1 r1 te) (g2 : GoodA T W m2 t2 v2 r2 tr) :
    GoodA T W (M.bind m1 fun r => M.bind (M.guard (okPend r t2)) fun _ => M.bind m2 fun rs => .ret (r :: rs)) (t1 ++ t2) (v1 ++ v2) (r1 ++ r2) (tCons te tr) := fun F H σ τ env ts fp o env2 hs ht R e Q k1 k2 => by
  rcases bind_cases e with ⟨r, e1, q1, ea1⟩ | ⟨c, ns, xs, q1, rfl⟩
  · rcases bind_cases ea1 with ⟨_, e1', q2, ea2⟩ | ⟨c, ns, xs, q2, rfl⟩
    · obtain ⟨hg, _, rfl⟩ := guard_some q2
      refine g1 F H σ τ env ts fp _ _ hs ht R q1 _ (fun a ea F1 H1 fp1 v pv pd j p => ?_) (fun c ns xs eo => by cases eo)
      have : a = r := by cases ea; rfl
      subst this
      obtain ⟨rfl, rfl, j1, j2⟩ := j
      have R1 : Rel T F1 H1 (σ ++ (τ ++ [some v])) (e1' ++ (ts ++ [slotD a])) fp1 := by simpa [List.append_assoc] using p.rel
      rcases bind_cases ea2 with ⟨rs, e3, q3, ea3⟩ | ⟨c, ns, xs, q3, rfl⟩
      · obtain ⟨rfl, rfl⟩ := ret_some ea3
        refine g2 F1 H1 σ (τ ++ [some v]) e1' (ts ++ [slotD a]) fp1 _ _ (by rw [p.len]; exact hs) (by simp [ht]) R1 q3 _ (fun b eb F2 H2 fp2 vs pv2 pd2 j3 p2 => ?_) (fun c ns xs eo => by cases eo)
        have : b = rs := by cases eb; rfl
        subst this
        obtain ⟨rfl, rfl, j4⟩ := j3
        refine k1 _ rfl F2 H2 fp2 (v :: vs) _ _ ⟨rfl, rfl, ?_⟩ (p.trans p2)
        exact ⟨v, vs, rfl, j1.keep R1 (by rw [p.len]; exact hs) p2 hg, j2.weak (fun i z => List.mem_append_left _ z) (fun i z => List.mem_append_left _ z), j4.weak (fun i z => List.mem_append_right _ z) (fun i z => List.mem_append_right _ z)⟩
      · refine g2 F1 H1 σ (τ ++ [some v]) e1' (ts ++ [slotD a]) fp1 _ _ (by rw [p.len]; exact hs) (by simp [ht]) R1 q3 _ (fun b eb => by cases eb) (fun c' ns' xs' eo F2 H2 fp2 d ws p2 x1 x2 => ?_)
        cases eo
        have pp := (p.trans p2).drop hs ht
        exact k2 _ _ _ rfl F2 H2 _ d ws pp x1 x2
    · obtain ⟨_, z, _⟩ := guard_some q2; cases z
  · refine g1 F H σ τ env ts fp _ _ hs ht R q1 _ (fun a ea => by cases ea) (fun c' ns' xs' eo F1 H1 fp1 d ws p x1 x2 => ?_)
    cases eo
    exact k2 _ _ _ rfl F1 H1 fp1 d ws (p.weak fun i z => List.mem_append_left _ z) x1 x2
theorem good_one (g1 : GoodR T W m1 t1 v1 r1 te) : GoodA T W (one m1) t1 v1 r1 (tCons te tNil) := by
  have g := good_cons g1 (good_nil (T := T) (W := W))
  have e : one m1 = (M.bind m1 fun r => M.bind (M.guard (okPend r [])) fun _ => M.bind (M.ret []) fun rs => .ret (r :: rs)) := by
    unfold one
    congr 1
    funext r
    have : okPend r [] = true := by cases r with
      | tmp d => rfl
      | at_ r p => cases p <;> rfl
    rw [this]; rfl
  rw [e]
  simpa using g
theorem good_two {m2 : M Rf} {tb : TE} (g1 : GoodR T W m1 t1 v1 r1 te) (g2 : GoodR T W m2 t2 v2 r2 tb) : GoodA T W (two m1 m2 t2) (t1 ++ t2) (v1 ++ v2) (r1 ++ r2) (tCons te (tCons tb tNil)) := by
  have g := good_cons g1 (good_one g2)
  have e : two m1 m2 t2 = (M.bind m1 fun r => M.bind (M.guard (okPend r t2)) fun _ => M.bind (one m2) fun rs => .ret (r :: rs)) := by
    unfold two one
    congr 1
    funext r
    congr 1
    funext _
    funext e
    unfold M.bind
    split <;> rename_i q <;> (try split at q) <;> simp_all [M.ret]
  rw [e]
  exact g
end
end RL
set_option Elab.async false
set_option linter.all false
set_option maxRecDepth 100000
set_option maxHeartbeats 4000000
/-! RL, operations by values. -/
namespace RL
open PySem L2

/-- a result: it stands; a new own thing; a new tuple -/
def ResOk (T : Tb) (F H : Hp) (d : D) (v : V) (F' H' : Hp) : Prop :=
  (F = F' ∧ H = H' ∧ Own T F H d v []) ∨
  (∃ a o k ds vs, H a = none ∧ F = F' ∧ upd H a o = H' ∧ v = .ref a ∧ d = .nd true k ds ∧ AtO T (upd H a o) a k vs ∧ OwnL T F H ds vs []) ∨
  ∃ a ds vs, H a = none ∧ upd F a (.tup vs) = F' ∧ upd H a (.tup vs) = H' ∧ v = .ref a ∧ d = .tup ds ∧ OwnL T F H ds vs []
section
variable {T : Tb} {W : WX} {F H F1 H1 F2 H2 : Hp} {σ τ pv : List (Option V)} {env env1 ts pd : Env'} {fp fp1 : Nat → List Addr} {t1 t2 : List Nat}
theorem Post.res (p : Post T F H σ τ env ts fp t1 F1 H1 env1 fp1 pv pd) (hs : σ.length = env.length) (ht : τ.length = ts.length) {d : D} {v : V} (h : ResOk T F1 H1 d v F2 H2) : ∃ fp2, Post T F H σ τ env ts fp t1 F2 H2 env1 fp2 [some v] [some d] := by
  have fnone : ∀ {a : Addr}, H1 a = none → F1 a = none := fun {a} ha => by
    cases h : F1 a with
    | none => rfl
    | some u => rw [p.rel.sub a u h] at ha; cases ha
  have nfp : ∀ {a : Addr}, H1 a = none → ∀ i, a ∉ fp1 i := fun {a} ha i m => by
    obtain ⟨u, hu⟩ := p.rel.dom i a m
    rw [hu] at ha; cases ha
  rcases h with ⟨rfl, rfl, ho⟩ | ⟨a, o, k, ds, vs, ha, rfl, rfl, rfl, rfl, hat, hk⟩ | ⟨a, ds, vs, ha, rfl, rfl, rfl, rfl, hk⟩
  · exact ⟨_, p.fin hs ht (g := []) (Ex.refl _) p.rel.sub (fun i _ a m => ⟨rfl, p.rel.out i a m⟩) (fun a u h => .inl ⟨u, h⟩) (fun a o h _ => h) ho List.nodup_nil (by simp)⟩
  · refine ⟨_, p.fin hs ht (F2 := F1) (H2 := upd H1 a o) (g := [a]) (Ex.refl _) (p.rel.sub.trans (Ex.new ha)) (fun i _ b m => ⟨upd_ne fun z => nfp ha i (z ▸ m), p.rel.out i b m⟩) (fun b u h => .inl ⟨u, h⟩)
      (fun b u h _ => by rw [upd_ne (ne_of_none h ha)]; exact h) ?_ (by simp) fun b m => ?_⟩
    · unfold Own
      exact .inr ⟨rfl, a, vs, [], rfl, rfl, hat, OwnL.mono (Ex.refl _) ds vs [] (by simp) hk⟩
    · have : b = a := by simpa using m
      subst this
      exact ⟨fnone ha, fun i _ => nfp ha i, .inr ha⟩
  · have ex2 : Ex (upd F1 a (.tup vs)) (upd H1 a (.tup vs)) := fun b u h => by
      by_cases e : b = a
      · subst e; rw [upd_same] at h ⊢; exact h
      · rw [upd_ne e] at h ⊢; exact p.rel.sub b u h
    refine ⟨_, p.fin hs ht (F2 := upd F1 a (.tup vs)) (H2 := upd H1 a (.tup vs)) (g := []) (Ex.new (fnone ha)) ex2 (fun i _ b m => ?_) (fun b u h => ?_)
      (fun b u h _ => by rw [upd_ne (ne_of_none h ha)]; exact h) ?_ List.nodup_nil (by simp)⟩
    · have nb : b ≠ a := fun z => nfp ha i (z ▸ m)
      rw [upd_ne nb, upd_ne nb]
      exact ⟨rfl, p.rel.out i b m⟩
    · by_cases e : b = a
      · subst e; exact .inr (.inr ha)
      · rw [upd_ne e] at h; exact .inl ⟨u, h⟩
    · unfold Own
      exact .inl ⟨rfl, rfl, a, vs, rfl, upd_same, OwnL.mono (Ex.new (fnone ha)) ds vs [] (by simp) hk⟩

def OpSpec (T : Tb) (f : List D → Option D) (r : List V → Hp → VK → Prop) : Prop :=
  ∀ (F H : Hp) (ds : List D) (vs : List V) (d : D) (Q : VK), Ex F H → Args T F H ds vs → f ds = some d → (∀ v F' H', ResOk T F H d v F' H' → Q v H') → r vs H Q
theorem good_pure {m : M (List Rf)} {tch tv tr : List Nat} {ta : TA} {f : List D → Option D} {r : List V → Hp → VK → Prop} (tv' tr' : List Nat) (g : GoodA T W m tch tv tr ta) (sp : OpSpec T f r) : GoodR T W (pureOp m f) tch tv' tr' (fun σ H Q => ta σ H fun vs H1 => r vs H1 Q) := fun F H σ τ env ts fp o env2 hs ht R e Q k1 k2 => by
  rcases bind_cases e with ⟨rs, e1, q1, ea1⟩ | ⟨c, ns, xs, q1, rfl⟩
  · rcases bind_cases ea1 with ⟨ds, e2, q2, ea2⟩ | ⟨c, ns, xs, q2, rfl⟩
    · obtain ⟨ds', q3, h1, rfl⟩ := pkLM_some q2
      cases h1
      obtain ⟨rf, q4, rfl, rfl⟩ := lift_some ea2
      cases q5 : f ds with
      | none => rw [q5] at q4; cases q4
      | some d =>
        rw [q5] at q4
        have : rf = .tmp d := (Option.some.inj q4).symm
        subst this
        refine g F H σ τ env ts fp _ _ hs ht R q1 _ (fun a ea F1 H1 fp1 vs pv pd j p => ?_) (fun c ns xs eo => by cases eo)
        cases ea
        obtain ⟨rfl, rfl, j1⟩ := j
        refine sp F1 H1 ds vs d _ p.rel.sub (p.args hs ht j1 q3) q5 fun v F2 H2 hr => ?_
        obtain ⟨fp2, p2⟩ := p.res hs ht hr
        exact k1 _ rfl F2 H2 fp2 v _ _ ⟨rfl, rfl, trivial, trivial⟩ p2
    · obtain ⟨_, _, z, _⟩ := pkLM_some q2; cases z
  · refine g F H σ τ env ts fp _ _ hs ht R q1 _ (fun a ea => by cases ea) (fun c' ns' xs' eo F1 H1 fp1 d ws p x1 x2 => ?_)
    cases eo
    exact k2 _ _ _ rfl F1 H1 fp1 d ws p x1 x2

/-! ### what a datum's value is -/
theorem args1 {d : D} {vs : List V} (h : Args T F H [d] vs) : ∃ v g, vs = [v] ∧ Own T F H d v g := by
  obtain ⟨v, ws, rfl, ⟨g, hg⟩, rfl⟩ := h
  exact ⟨v, g, rfl, hg⟩
theorem args2 {d e : D} {vs : List V} (h : Args T F H [d, e] vs) : ∃ v w g g', vs = [v, w] ∧ Own T F H d v g ∧ Own T F H e w g' := by
  obtain ⟨v, ws, rfl, ⟨g, hg⟩, h2⟩ := h
  obtain ⟨w, g', rfl, h3⟩ := args1 h2
  exact ⟨v, w, g, g', rfl, hg, h3⟩
theorem args3 {d e f : D} {vs : List V} (h : Args T F H [d, e, f] vs) : ∃ v w u g g' g2, vs = [v, w, u] ∧ Own T F H d v g ∧ Own T F H e w g' ∧ Own T F H f u g2 := by
  obtain ⟨v, ws, rfl, ⟨g, hg⟩, h2⟩ := h
  obtain ⟨w, u, g', g2, rfl, h3, h4⟩ := args2 h2
  exact ⟨v, w, u, g, g', g2, rfl, hg, h3, h4⟩
theorem res_int {i : Int} : ResOk T F H (.int i) (.int i) F H := .inl ⟨rfl, rfl, rfl, rfl⟩
theorem res_bl {b : Bool} : ResOk T F H (.bl b) (.bl b) F H := .inl ⟨rfl, rfl, rfl, rfl⟩
theorem res_str {x : Str} : ResOk T F H (.str x) (.str x) F H := .inl ⟨rfl, rfl, rfl, rfl⟩
/-- a thing at an address, own or frozen -/
theorem own_nd {o : Bool} {k : Kd} {ds : List D} {v : V} {g : List Addr} (h : Own T F H (.nd o k ds) v g) (s : Ex F H) : ∃ a vs, v = .ref a ∧ ((o = true ∧ AtO T H a k vs) ∨ (o = false ∧ AtF T F a k vs)) ∧ ∃ g', OwnL T F H ds vs g' ∧ ∀ x ∈ g', x ∈ g := by
  unfold Own at h
  rcases h with ⟨h0, h1, a, vs, h2, h3, h4⟩ | ⟨h0, a, vs, g', h2, h1, h3, h4⟩
  · exact ⟨a, vs, h2, .inr ⟨h0, h3⟩, [], h4, by simp⟩
  · exact ⟨a, vs, h2, .inl ⟨h0, h3⟩, g', h4, fun x m => by rw [h1]; exact List.mem_cons_of_mem _ m⟩
theorem own_lst {o : Bool} {ds : List D} {v : V} {g : List Addr} (h : Own T F H (.nd o .lst ds) v g) (s : Ex F H) : ∃ a vs, v = .ref a ∧ H a = some (.lst vs) ∧ ∃ g', OwnL T F H ds vs g' ∧ ∀ x ∈ g', x ∈ g := by
  obtain ⟨a, vs, e, h, k⟩ := own_nd h s
  refine ⟨a, vs, e, ?_, k⟩
  rcases h with ⟨_, h⟩ | ⟨_, h⟩
  · exact h
  · exact s _ _ h
theorem own_tup {o : Bool} {ds : List D} {v : V} {g : List Addr} (h : Own T F H (.nd o .tup ds) v g) (s : Ex F H) : o = false ∧ g = [] ∧ ∃ a vs, v = .ref a ∧ F a = some (.tup vs) ∧ H a = some (.tup vs) ∧ OwnL T F H ds vs [] := by
  unfold Own at h
  rcases h with ⟨h0, h1, a, vs, h2, h3, h4⟩ | ⟨h0, a, vs, g', h2, h1, h3, h4⟩
  · exact ⟨h0, h1, a, vs, h2, h3, s _ _ h3, h4⟩
  · exact h3.elim
theorem own_ktup {o : Bool} {ds : List D} {v : V} {g : List Addr} (h : Own T F H (.nd o .ktup ds) v g) (s : Ex F H) : o = false ∧ g = [] ∧ ∃ a vs, v = .ref a ∧ SqT T.K H a vs ∧ OwnL T F H ds vs [] := by
  unfold Own at h
  rcases h with ⟨h0, h1, a, vs, h2, h3, h4⟩ | ⟨h0, a, vs, g', h2, h1, h3, h4⟩
  · exact ⟨h0, h1, a, vs, h2, ex_t s h3, h4⟩
  · exact h3.elim
theorem plain_own : ∀ {ds : List D} {vs : List V} {g : List Addr}, OwnL T F H ds vs g → plain ds = true → OwnL T F H ds vs []
  | [], vs, g, h, _ => ⟨h.1, rfl⟩
  | d :: ds, vs, g, h, e => by
    unfold OwnL at h
    obtain ⟨v, ws, p, q, rfl, rfl, h3, h4⟩ := h
    have e' : (!d.own && plain ds) = true := e
    obtain ⟨e1, e2⟩ := Bool.and_eq_true_iff.mp e'
    have hp := h3.top (by cases hd : d.own; rfl; rw [hd] at e1; cases e1)
    subst hp
    exact ⟨v, ws, [], [], rfl, rfl, h3, plain_own h4 e2⟩
theorem ownL_ints : ∀ {ds : List D} {vs : List V} {g : List Addr} {is : List Int}, OwnL T F H ds vs g → asInts ds = some is → vs = is.map V.int
  | [], vs, g, is, h, e => by
    have : is = [] := (Option.some.inj (show some [] = some is from e)).symm
    rw [this, h.1]; rfl
  | d :: ds, vs, g, is, h, e => by
    unfold OwnL at h
    obtain ⟨v, ws, p, q, rfl, rfl, h3, h4⟩ := h
    unfold asInts at e
    cases e1 : asInt d with
    | none => rw [e1] at e; cases e
    | some i =>
      rw [e1] at e
      cases e2 : asInts ds with
      | none => rw [e2] at e; cases e
      | some js =>
        rw [e2] at e
        have : is = i :: js := (Option.some.inj e).symm
        subst this
        rw [ownL_ints h4 e2]
        cases d with
        | int j =>
          have : j = i := Option.some.inj e1
          subst this
          rw [h3.1]; rfl
        | _ => cases e1
theorem ownL_bools : ∀ {ds : List D} {vs : List V} {g : List Addr} {is : List Bool}, OwnL T F H ds vs g → asBools ds = some is → vs = is.map V.bl
  | [], vs, g, is, h, e => by
    have : is = [] := (Option.some.inj (show some [] = some is from e)).symm
    rw [this, h.1]; rfl
  | d :: ds, vs, g, is, h, e => by
    unfold OwnL at h
    obtain ⟨v, ws, p, q, rfl, rfl, h3, h4⟩ := h
    cases d with
    | bl b =>
      unfold asBools at e
      cases e2 : asBools ds with
      | none => rw [e2] at e; cases e
      | some js =>
        rw [e2] at e
        have : is = b :: js := (Option.some.inj e).symm
        subst this
        rw [ownL_bools h4 e2, h3.1]; rfl
    | _ => unfold asBools at e; cases e
mutual
theorem own_py (s : Ex F H) : ∀ (d : D) (v : V) (g : List Addr) (p : PyData), Own T F H d v g → toPy d = some p → Dp T.K H v p
  | .non, v, g, p, h, e => by
    have : PyData.none = p := Option.some.inj (show some _ = some p from by simpa [toPy] using e)
    subst this; rw [h.1]; exact .non
  | .bl b, v, g, p, h, e => by
    have : PyData.bool b = p := Option.some.inj (by simpa [toPy] using e)
    subst this; rw [h.1]; exact .bl b
  | .int i, v, g, p, h, e => by
    have : PyData.int i = p := Option.some.inj (by simpa [toPy] using e)
    subst this; rw [h.1]; exact .int i
  | .str x, v, g, p, h, e => by
    have : PyData.str x = p := Option.some.inj (by simpa [toPy] using e)
    subst this; rw [h.1]; exact .str x
  | .fn f, v, g, p, h, e => by simp [toPy] at e
  | .nd o k ds, v, g, p, h, e => by
    obtain ⟨a, vs, rfl, hat, g', hl, _⟩ := own_nd h s
    cases k with
    | lst =>
      unfold toPy at e
      cases e1 : toPyL ds with
      | none => rw [e1] at e; cases e
      | some ps =>
        rw [e1] at e
        have : PyData.list ps = p := Option.some.inj e
        subst this
        refine .lst ?_ (ownL_py s ds vs g' ps hl e1)
        rcases hat with ⟨_, hat⟩ | ⟨_, hat⟩
        · exact SqL.of hat
        · exact SqL.of (s _ _ hat)
    | fr =>
      unfold toPy at e
      cases e1 : toPyL ds with
      | none => rw [e1] at e; cases e
      | some ps =>
        rw [e1] at e
        have : PyData.list ps = p := Option.some.inj e
        subst this
        refine .lst ?_ (ownL_py s ds vs g' ps hl e1)
        rcases hat with ⟨_, hat⟩ | ⟨_, hat⟩
        · exact hat.elim
        · exact ex_l s hat
    | tup =>
      unfold toPy at e
      cases e1 : toPyL ds with
      | none => rw [e1] at e; cases e
      | some ps =>
        rw [e1] at e
        have : PyData.tuple ps = p := Option.some.inj e
        subst this
        refine .tup ?_ (ownL_py s ds vs g' ps hl e1)
        rcases hat with ⟨_, hat⟩ | ⟨_, hat⟩
        · exact hat.elim
        · exact SqT.of (s _ _ hat)
    | ktup =>
      unfold toPy at e
      cases e1 : toPyL ds with
      | none => rw [e1] at e; cases e
      | some ps =>
        rw [e1] at e
        have : PyData.tuple ps = p := Option.some.inj e
        subst this
        refine .tup ?_ (ownL_py s ds vs g' ps hl e1)
        rcases hat with ⟨_, hat⟩ | ⟨_, hat⟩
        · exact hat.elim
        · exact ex_t s hat
    | dK _ => simp [toPy] at e
    | dT _ => simp [toPy] at e
    | ins _ _ => simp [toPy] at e
theorem ownL_py (s : Ex F H) : ∀ (ds : List D) (vs : List V) (g : List Addr) (ps : List PyData), OwnL T F H ds vs g → toPyL ds = some ps → DpAll T.K H vs ps
  | [], vs, g, ps, h, e => by
    have : ps = [] := (Option.some.inj (show some [] = some ps from by simpa [toPyL] using e)).symm
    subst this; rw [h.1]; exact .nil
  | d :: ds, vs, g, ps, h, e => by
    unfold OwnL at h
    obtain ⟨v, ws, p, q, rfl, rfl, h3, h4⟩ := h
    unfold toPyL at e
    cases e1 : toPy d with
    | none => rw [e1] at e; cases e
    | some p1 =>
      rw [e1] at e
      cases e2 : toPyL ds with
      | none => rw [e2] at e; cases e
      | some ps' =>
        rw [e2] at e
        have : ps = p1 :: ps' := (Option.some.inj e).symm
        subst this
        exact .cons (own_py s d v p p1 h3 e1) (ownL_py s ds ws q ps' h4 e2)
end
end
end RL
set_option Elab.async false
set_option linter.all false
set_option maxRecDepth 100000
set_option maxHeartbeats 4000000
/-! RL, operators and comparisons. -/
namespace RL
open PySem L2

def r2 (r : R2) : List V → Hp → VK → Prop := fun vs H Q => match vs with
  | [x, y] => r x y H Q
  | _ => False
def orR (r r' : R2) : R2 := fun x y H Q => r x y H Q ∨ r' x y H Q
theorem OpR.or {X : Cx} {f : Value → Value → Sem Value} {r r' : R2} (h : OpR X f r) (h' : OpR X f r') : OpR X f (orR r r') := fun pins s σ H x y v u Q I rx ry k => by
  rcases k with k | k
  · exact h pins s σ H x y v u Q I rx ry k
  · exact h' pins s σ H x y v u Q I rx ry k
theorem OpR.no {X : Cx} {f : Value → Value → Sem Value} : OpR X f (fun _ _ _ _ => False) := fun _ _ _ _ _ _ _ _ _ _ _ _ k => k.elim
def rStr2 : R2 := fun x y H Q => ∃ i j, x = .str i ∧ y = .str j ∧ i.length + j.length ≤ sizeLine ∧ Q (.str (i ++ j)) H
def rBin (K : PySem.W.Frag) : Operator → R2
  | .Add => orR (rI0 fun i j => .int (i + j)) (orR rStr2 (orR rCat (rCatA K)))
  | .Sub => rI0 fun i j => .int (i - j)
  | .Mult => orR (rI CMul fun i j => .int (i * j)) (orR (rI CMulW fun i j => .int (i * j)) rRep)
  | .FloorDiv => rI CDiv fun i j => .int (i / j)
  | .Mod => rI (fun _ j => 0 < j) fun i j => .int (i % j)
  | .Pow => rI CPow fun i j => .int (i ^ j.toNat)
  | _ => fun _ _ _ _ => False
theorem op_bin {X : Cx} (o : Operator) : OpR X (binaryOp o) (rBin X.K o) := by
  cases o with
  | Add => exact OpR.or op_add (OpR.or op_add_str (OpR.or op_cat op_catA))
  | Sub => exact op_sub
  | Mult => exact OpR.or op_mul (OpR.or op_mulW op_rep)
  | FloorDiv => exact op_fdiv
  | Mod => exact op_mod
  | Pow => exact op_pow
  | _ => exact OpR.no
theorem lim_le {n : Nat} (h : n ≤ lim) : n ≤ sizeLine := Nat.le_trans h (by rw [sizeLine_eq]; decide)
theorem lim_lt {n : Nat} (h : n < lim) : n < sizeLine := Nat.lt_of_lt_of_le h (by rw [sizeLine_eq]; decide)
section
variable {T : Tb} {F H : Hp}
theorem bin2_some {o : Operator} {ds : List D} {d : D} (h : bin2 o ds = some d) : ∃ p q, ds = [p, q] ∧ binD o p q = some d := by
  unfold bin2 at h
  split at h
  · exact ⟨_, _, rfl, h⟩
  · cases h
theorem spec_bin (o : Operator) : OpSpec T (bin2 o) (r2 (rBin T.K o)) := by
  intro F H ds vs d Q s ha e k
  obtain ⟨p, q, rfl, e'⟩ := bin2_some e
  · obtain ⟨v, w, g, g', rfl, h1, h2⟩ := args2 ha
    show rBin T.K o v w H Q
    unfold binD at e'
    split at e'
    · obtain rfl := Option.some.inj e'
      exact .inl ⟨_, _, h1.1, h2.1, k _ F H res_int⟩
    · obtain rfl := Option.some.inj e'
      exact ⟨_, _, h1.1, h2.1, k _ F H res_int⟩
    · rename_i i j
      split at e'
      · rename_i hm
        obtain rfl := Option.some.inj e'
        unfold mulOk at hm
        simp only [Bool.or_eq_true, Bool.and_eq_true, decide_eq_true_eq] at hm
        rcases hm with (hm | hm) | hm
        · exact .inl ⟨i, j, h1.1, h2.1, .inl hm, k _ F H res_int⟩
        · exact .inl ⟨i, j, h1.1, h2.1, .inr hm, k _ F H res_int⟩
        · exact .inr (.inl ⟨i, j, h1.1, h2.1, wide_mul hm.1 hm.2 (by decide) (by decide) (by decide), k _ F H res_int⟩)
      · cases e'
    · rename_i i j
      split at e'
      · rename_i hm
        obtain rfl := Option.some.inj e'
        simp only [Bool.and_eq_true, decide_eq_true_eq] at hm
        exact ⟨i, j, h1.1, h2.1, hm, k _ F H res_int⟩
      · cases e'
    · rename_i i j
      split at e'
      · rename_i hm
        obtain rfl := Option.some.inj e'
        exact ⟨i, j, h1.1, h2.1, by simpa using hm, k _ F H res_int⟩
      · cases e'
    · rename_i i j
      split at e'
      · rename_i hm
        obtain rfl := Option.some.inj e'
        simp only [Bool.and_eq_true, decide_eq_true_eq] at hm
        exact ⟨i, j, h1.1, h2.1, ⟨hm.1.1, by omega, hm.2⟩, k _ F H res_int⟩
      · cases e'
    · rename_i x y
      split at e'
      · rename_i hm
        obtain rfl := Option.some.inj e'
        exact .inr (.inl ⟨x, y, h1.1, h2.1, lim_le (by simpa using hm), k _ F H res_str⟩)
      · cases e'
    · rename_i o1 xs o2 ys
      split at e'
      · rename_i hm
        obtain rfl := Option.some.inj e'
        simp only [Bool.and_eq_true, decide_eq_true_eq] at hm
        obtain ⟨a, us, rfl, hra, _, hl, _⟩ := own_lst h1 s
        obtain ⟨b, ws, rfl, hb, _, hr, _⟩ := own_lst h2 s
        refine .inr (.inr (.inl ⟨a, b, us, ws, rfl, rfl, hra, hb, ?_, fun p hp => k _ F (upd H p (.lst (us ++ ws))) (.inr (.inl ⟨p, _, .lst, xs ++ ys, us ++ ws, hp, rfl, rfl, rfl, rfl, upd_same, OwnL.append (f := []) (g := []) (plain_own hl hm.1.1) (plain_own hr hm.1.2)⟩))⟩))
        rw [← hl.length, ← hr.length]
        exact lim_le hm.2
      · cases e'
    · rename_i o1 xs o2 ys
      split at e'
      · rename_i hm
        obtain rfl := Option.some.inj e'
        obtain ⟨rfl, rfl, a, us, rfl, _, hra, hl⟩ := own_tup h1 s
        obtain ⟨rfl, rfl, b, ws, rfl, _, hb, hr⟩ := own_tup h2 s
        refine .inr (.inr (.inr ⟨a, b, us, ws, rfl, rfl, SqT.of hra, SqT.of hb, ?_, fun hx => ?_, fun hx hy => ?_, fun hx hy p hp => k _ (upd F p (.tup (us ++ ws))) (upd H p (.tup (us ++ ws))) (.inr (.inr ⟨p, xs ++ ys, us ++ ws, hp, rfl, rfl, rfl, rfl, OwnL.append (f := []) (g := []) hl hr⟩))⟩))
        · rw [← hl.length, ← hr.length]
          exact lim_le (by simpa using hm)
        · refine k _ F H (.inl ⟨rfl, rfl, ?_⟩)
          have hx2 : xs = [] := List.eq_nil_of_length_eq_zero (by rw [hl.length, hx]; rfl)
          rw [hx2, List.nil_append]
          exact h2
        · refine k _ F H (.inl ⟨rfl, rfl, ?_⟩)
          have hx2 : ys = [] := List.eq_nil_of_length_eq_zero (by rw [hr.length, hy]; rfl)
          rw [hx2, List.append_nil]
          exact h1
      · cases e'
    · rename_i o1 xs n
      split at e'
      · rename_i hm
        obtain rfl := Option.some.inj e'
        simp only [Bool.and_eq_true, decide_eq_true_eq] at hm
        obtain ⟨a, us, rfl, ha, _, hl, _⟩ := own_lst h1 s
        have hl0 := plain_own hl hm.1.1.1
        refine .inr (.inr ⟨a, n, us, rfl, h2.1, ha, by omega, by omega, ?_, fun p hp => k _ F (upd H p (.lst (List.replicate n.toNat us).flatten)) (.inr (.inl ⟨p, _, .lst, _, _, hp, rfl, rfl, rfl, rfl, upd_same, ?_⟩))⟩)
        · rw [← hl.length]
          exact lim_le hm.1.1.2
        · have rep : ∀ m : Nat, OwnL T F H (List.replicate m xs).flatten (List.replicate m us).flatten [] := fun m => by
            induction m with
            | zero => exact OwnL.nil_
            | succ m ih =>
              rw [List.replicate_succ, List.replicate_succ, List.flatten_cons, List.flatten_cons]
              exact OwnL.append (f := []) (g := []) hl0 ih
          exact rep n.toNat
      · cases e'
    · cases e'

def r1 (r : V → Hp → VK → Prop) : List V → Hp → VK → Prop := fun vs H Q => match vs with
  | [x] => r x H Q
  | _ => False
theorem spec_neg : OpSpec T neg1 (r1 (rU fun i => .int (-i))) := by
  intro F H ds vs d Q s ha e k
  unfold neg1 at e
  split at e
  · obtain ⟨v, g, rfl, h1⟩ := args1 ha
    obtain rfl := Option.some.inj e
    exact ⟨_, h1.1, k _ F H res_int⟩
  · cases e

/-! ### comparisons -/
theorem PC.or {X : Cx} {op : CmpOp} {a b : Expr} {t t' : TE} (h : PC X op a b t) (h' : PC X op a b t') : PC X op a b (fun σ H Q => t σ H Q ∨ t' σ H Q) := ⟨fun pins s σ H Q I k => by
  rcases k with k | k
  · exact h.run pins s σ H Q I k
  · exact h'.run pins s σ H Q I k⟩
theorem pc_op {X : Cx} {op : CmpOp} {a b : Expr} {ta tb : TE} {r : R2} (ho : OpR X (compareOp op) r) (ha : PE X a ta) (hb : PE X b tb) : PC X op a b (tOp r ta tb) := ⟨fun pins s σ H Q I h =>
  bin ha hb I h fun v u s2 x y H2 I2 rx ry q => ho pins s2 σ H2 x y v u Q I2 rx ry q⟩
def rIsN : R2 := fun x y H Q => y = .non ∧ Q (.bl (decide (x = .non))) H
def rNotN : R2 := fun x y H Q => y = .non ∧ Q (.bl (!decide (x = .non))) H
def rCmp (K : PySem.W.Frag) : CmpOp → R2
  | .Eq => rEqD K
  | .NotEq => rNeD K
  | .Lt => orR (rI0 fun i j => .bl (decide (i < j))) (rLtT K)
  | .LtE => rI0 fun i j => .bl (decide (i ≤ j))
  | .Gt => rI0 fun i j => .bl (decide (j < i))
  | .GtE => rI0 fun i j => .bl (decide (j ≤ i))
  | .Is => rIsN
  | .IsNot => rNotN
  | .In => orR (rInD K) (rIn K false)
  | .NotIn => orR (rNotInD K) (rIn K true)
theorem op_cmp {X : Cx} (hu : X.A.units + 65 < cLine) (o : CmpOp) : OpR X (compareOp o) (rCmp X.K o) := by
  cases o with
  | Eq => exact op_eqD (by omega)
  | NotEq => exact op_neD (by omega)
  | Lt => exact OpR.or op_lt (op_ltT (by omega))
  | LtE => exact op_le
  | Gt => exact op_gt
  | GtE => exact op_ge
  | Is => exact op_isN
  | IsNot => exact op_notN
  | In => exact OpR.or (op_inD hu) op_in_seq
  | NotIn => exact OpR.or (op_notInD hu) op_notIn_seq
/-- the rest: a key in a dict -/
def rDic : CmpOp → R2
  | .In => fun y x H Q => ∃ a o, x = .ref a ∧ DGet H a y o ∧ Q (.bl o.isSome) H
  | .NotIn => fun y x H Q => ∃ a o, x = .ref a ∧ DGet H a y o ∧ Q (.bl (!o.isSome)) H
  | _ => fun _ _ _ _ => False
theorem pc_dic {X : Cx} (hu : X.A.units + 1 < cLine) (o : CmpOp) {a b : Expr} {ta tb : TE} (ha : PE X a ta) (hb : PE X b tb) : PC X o a b (tOp (rDic o) ta tb) := by
  cases o with
  | In => exact pc_din hu ha hb
  | NotIn => exact pc_dnotin hu ha hb
  | _ => exact pc_op OpR.no ha hb
theorem own_none {d : D} {v : V} {g : List Addr} (h : Own T F H d v g) : decide (v = .non) = isNone d := by
  cases d with
  | non => rw [h.1] <;> rfl
  | bl b => rw [h.1] <;> rfl
  | int i => rw [h.1] <;> rfl
  | str x => rw [h.1] <;> rfl
  | fn f => rw [h.1] <;> rfl
  | nd o k ds =>
    unfold Own at h
    rcases h with ⟨_, _, a, vs, rfl, _⟩ | ⟨_, a, vs, g', rfl, _⟩ <;> rfl
theorem eqD_some {x y : D} {b : Bool} (h : eqD x y = some b) : ∃ p q, toPy x = some p ∧ toPy y = some q ∧ SeqAt.shaped p = true ∧ SeqAt.shaped q = true ∧ PyData.eqv p q = b := by
  unfold eqD at h
  cases hx : toPy x with
  | none => rw [hx] at h; cases h
  | some p =>
    cases hy : toPy y with
    | none => rw [hx, hy] at h; cases h
    | some q =>
      rw [hx, hy] at h
      have h' : (match SeqAt.shaped p && SeqAt.shaped q with
        | true => some (PyData.eqv p q)
        | false => none) = some b := h
      split at h'
      · rename_i hs
        obtain ⟨s1, s2⟩ := Bool.and_eq_true_iff.mp hs
        exact ⟨p, q, rfl, rfl, s1, s2, Option.some.inj h'⟩
      · cases h'
theorem flat_V {v : V} {p : PyData} (h : Dp T.K H v p) (hf : flatPy p = true) : flatV v = true := by
  cases h <;> first | rfl | cases hf
theorem eqV_py {v w : V} {p q : PyData} (h : Dp T.K H v p) (h' : Dp T.K H w q) (hf : flatPy p = true) (hf' : flatPy q = true) : eqV v w = PyData.eqv p q := by
  cases h <;> first | cases hf | skip
  all_goals (cases h' <;> first | cases hf' | skip)
  all_goals simp [eqV, PyData.eqv]
theorem dpAll_flat : ∀ {vs : List V} {ps : List PyData}, DpAll T.K H vs ps → ps.all flatPy = true → vs.all flatV = true
  | _, _, .nil, _ => rfl
  | _, _, .cons h hs, hf => by
    simp only [List.all_cons, Bool.and_eq_true] at hf ⊢
    exact ⟨flat_V h hf.1, dpAll_flat hs hf.2⟩
theorem dpAll_any {v : V} {p : PyData} (hp : Dp T.K H v p) (fp : flatPy p = true) : ∀ {vs : List V} {ps : List PyData}, DpAll T.K H vs ps → ps.all flatPy = true → inV v vs = ps.any fun z => PyData.eqv z p
  | _, _, .nil, _ => rfl
  | _, _, .cons h hs, hf => by
    simp only [List.all_cons, Bool.and_eq_true] at hf
    have ih := dpAll_any hp fp hs hf.2
    unfold inV at ih ⊢
    rw [List.any_cons, List.any_cons, ih, eqV_py h hp hf.1 fp]
theorem asKey_own {d : D} {v : V} {g : List Addr} {q : Key} (h : Own T F H d v g) (e : asKey d = some q) : v = kV q := by
  cases d with
  | int i => have := Option.some.inj (show some (Sum.inl i) = some q from e); subst this; exact h.1
  | str x => have := Option.some.inj (show some (Sum.inr x) = some q from e); subst this; exact h.1
  | _ => cases e
theorem asKeys_own : ∀ {ds : List D} {vs : List V} {g : List Addr} {ks : List Key}, OwnL T F H ds vs g → asKeys ds = some ks → vs = ks.map kV
  | [], vs, g, ks, h, e => by
    have : ks = [] := (Option.some.inj (show some [] = some ks from e)).symm
    rw [this, h.1]; rfl
  | d :: ds, vs, g, ks, h, e => by
    unfold OwnL at h
    obtain ⟨v, ws, p, q, rfl, rfl, h3, h4⟩ := h
    unfold asKeys at e
    cases e1 : asKey d with
    | none => rw [e1] at e; cases e
    | some i =>
      rw [e1] at e
      cases e2 : asKeys ds with
      | none => rw [e2] at e; cases e
      | some js =>
        rw [e2] at e
        have : ks = i :: js := (Option.some.inj e).symm
        subst this
        rw [asKeys_own h4 e2, asKey_own h3 e1]; rfl
theorem pos_some {κ : Type} [DecidableEq κ] {q : κ} : ∀ {ks : List κ} {i : Nat}, pos q ks = some i → ks[i]? = some q
  | [], i, h => by cases h
  | k :: ks, i, h => by
    unfold pos at h
    split at h
    · rename_i e
      obtain rfl := Option.some.inj h
      rw [e]; rfl
    · cases e : pos q ks with
      | none => rw [e] at h; cases h
      | some j =>
        rw [e] at h
        obtain rfl := Option.some.inj h
        simpa using pos_some e
theorem pos_none {κ : Type} [DecidableEq κ] {q : κ} : ∀ {ks : List κ}, pos q ks = none → q ∉ ks
  | [], _ => by simp
  | k :: ks, h => by
    unfold pos at h
    split at h
    · cases h
    · rename_i ne
      have : pos q ks = none := by
        cases e : pos q ks with
        | none => rfl
        | some j => rw [e] at h; cases h
      simp only [List.mem_cons, not_or]
      exact ⟨fun z => ne z.symm, pos_none this⟩
theorem valV_zip {κ : Type} [DecidableEq κ] (q : κ) : ∀ {ks : List κ} {vs : List V}, ks.length = vs.length → valV (ks.zip vs) q = (pos q ks).bind fun i => vs[i]?
  | [], [], _ => rfl
  | k :: ks, v :: vs, h => by
    have ih := valV_zip q (ks := ks) (vs := vs) (by simpa using h)
    unfold valV at ih ⊢
    rw [List.zip_cons_cons, List.find?_cons]
    unfold pos
    by_cases e : k = q
    · rw [if_pos e]
      simp [e]
    · rw [if_neg e]
      simp only [e, decide_false]
      rw [ih]
      cases pos q ks <;> simp
  | [], _ :: _, h => by simp at h
  | _ :: _, [], h => by simp at h
/-- a key's place, told by the heap -/
theorem dget_at {o : Bool} {k : Kd} {d : D} {w : V} {g' : List Addr} {n : Option Nat} {a : Addr} {vs : List V} (s : Ex F H) (hat : (o = true ∧ AtO T H a k vs) ∨ (o = false ∧ AtF T F a k vs)) (hk : Own T F H d w g') (e : dicAt k d = some n) : DGet H a w (n.bind fun i => vs[i]?) := by
  cases k with
  | dK ks =>
    cases e1 : asKey d with
    | none => rw [show dicAt (.dK ks) d = (asKey d).map fun q => pos q ks from rfl, e1] at e; cases e
    | some q =>
      rw [show dicAt (.dK ks) d = (asKey d).map fun q => pos q ks from rfl, e1] at e
      obtain rfl := Option.some.inj e
      have hH : (ks.length = vs.length ∧ ks.Nodup) ∧ H a = some (.dK (ks.zip vs)) := by
        rcases hat with ⟨_, q⟩ | ⟨_, q⟩
        · exact q
        · exact ⟨q.1, s _ _ q.2⟩
      exact .inl ⟨_, q, .inl hH.2, asKey_own hk e1, (valV_zip q hH.1.1).symm⟩
  | dT ks =>
    cases e1 : asTKey d with
    | none => rw [show dicAt (.dT ks) d = (asTKey d).map fun q => pos q ks from rfl, e1] at e; cases e
    | some q =>
      rw [show dicAt (.dT ks) d = (asTKey d).map fun q => pos q ks from rfl, e1] at e
      obtain rfl := Option.some.inj e
      have hH : (ks.length = vs.length ∧ ks.Nodup) ∧ H a = some (.dT (ks.zip vs)) := by
        rcases hat with ⟨_, q⟩ | ⟨_, q⟩
        · exact q
        · exact ⟨q.1, s _ _ q.2⟩
      unfold asTKey at e1
      split at e1
      · rename_i o2 xs
        obtain ⟨rfl, rfl, b, us, rfl, _, hb, hl2⟩ := own_tup hk s
        rw [asKeys_own hl2 e1] at hb
        exact .inr ⟨_, q, b, .inl hH.2, rfl, hb, (valV_zip q hH.1.1).symm⟩
      · cases e1
  | _ => cases e
theorem dget_of {o : Bool} {k : Kd} {ds : List D} {d : D} {v w : V} {g g' : List Addr} {n : Option Nat} (s : Ex F H) (h : Own T F H (.nd o k ds) v g) (hk : Own T F H d w g') (e : dicAt k d = some n) :
    ∃ a vs, v = .ref a ∧ DGet H a w (n.bind fun i => vs[i]?) ∧ ∃ g2, OwnL T F H ds vs g2 ∧ ∀ x ∈ g2, x ∈ g := by
  obtain ⟨a, vs, rfl, hat, g2, hl, hm⟩ := own_nd h s
  exact ⟨a, vs, rfl, dget_at s hat hk e, g2, hl, hm⟩
end
end RL
set_option Elab.async false
set_option linter.all false
set_option maxRecDepth 100000
set_option maxHeartbeats 4000000
/-! RL, comparisons by values. -/
namespace RL
open PySem L2
section
variable {T : Tb} {W : WX} {F H : Hp}
theorem inList_some {x : D} {ys : List D} {b : Bool} (h : inList x ys = some b) : ∃ p qs, toPy x = some p ∧ toPyL ys = some qs ∧ SeqAt.shaped p = true ∧ SeqAt.shaped (.list qs) = true ∧ (qs.any fun z => PyData.eqv z p) = b := by
  unfold inList at h
  cases hx : toPy x with
  | none => rw [hx] at h; cases h
  | some p =>
    cases hy : toPyL ys with
    | none => rw [hx, hy] at h; cases h
    | some q =>
      rw [hx, hy] at h
      have h' : (match SeqAt.shaped p && SeqAt.shaped (.list q) with
        | true => some (q.any fun z => PyData.eqv z p)
        | false => none) = some b := h
      split at h'
      · rename_i hs
        obtain ⟨s1, s2⟩ := Bool.and_eq_true_iff.mp hs
        exact ⟨p, q, rfl, rfl, s1, s2, Option.some.inj h'⟩
      · cases h'
theorem inTup_some {x : D} {ys : List D} {b : Bool} (h : inTup x ys = some b) : ∃ p qs, toPy x = some p ∧ toPyL ys = some qs ∧ flatPy p = true ∧ qs.all flatPy = true ∧ (qs.any fun z => PyData.eqv z p) = b := by
  unfold inTup at h
  cases hx : toPy x with
  | none => rw [hx] at h; cases h
  | some p =>
    cases hy : toPyL ys with
    | none => rw [hx, hy] at h; cases h
    | some q =>
      rw [hx, hy] at h
      have h' : (match flatPy p && q.all flatPy with
        | true => some (q.any fun z => PyData.eqv z p)
        | false => none) = some b := h
      split at h'
      · rename_i hs
        obtain ⟨s1, s2⟩ := Bool.and_eq_true_iff.mp hs
        exact ⟨p, q, rfl, rfl, s1, s2, Option.some.inj h'⟩
      · cases h'
/-- x in y, y a list or a tuple: the readings of in and not in -/
theorem in_some (s : Ex F H) {x y : D} {v w : V} {g g' : List Addr} {b : Bool} (hx : Own T F H x v g) (hy : Own T F H y w g') (hd : isDic y = false) (h : containsD x y = some b) (neg : Bool) :
    (∃ d ds, Dp T.K H v d ∧ Dp T.K H w (.list ds) ∧ SeqAt.shaped d = true ∧ SeqAt.shaped (.list ds) = true ∧ (ds.any fun z => PyData.eqv z d) = b) ∨
    ∃ p xs, w = .ref p ∧ (SqL T.K H p xs ∨ SqT T.K H p xs) ∧ flatV v = true ∧ xs.all flatV = true ∧ inV v xs = b := by
  unfold containsD at h
  split at h
  · cases hd
  · cases hd
  · obtain ⟨p, qs, h1, h2, h3, h4, h5⟩ := inList_some h
    refine .inl ⟨p, qs, own_py s _ _ _ _ hx h1, own_py s _ _ g' _ hy ?_, h3, h4, h5⟩
    unfold toPy
    rw [h2]; rfl
  · obtain ⟨p, qs, h1, h2, h3, h4, h5⟩ := inTup_some h
    obtain ⟨rfl, rfl, a, us, rfl, _, hb, hl⟩ := own_tup hy s
    have dp := own_py s _ _ _ _ hx h1
    have da := ownL_py s _ _ _ _ hl h2
    exact .inr ⟨a, us, rfl, .inr (SqT.of hb), flat_V dp h3, dpAll_flat da h4, (dpAll_any dp h3 da h4).trans h5⟩
  · obtain ⟨p, qs, h1, h2, h3, h4, h5⟩ := inTup_some h
    obtain ⟨rfl, rfl, a, us, rfl, hb, hl⟩ := own_ktup hy s
    have dp := own_py s _ _ _ _ hx h1
    have da := ownL_py s _ _ _ _ hl h2
    exact .inr ⟨a, us, rfl, .inr hb, flat_V dp h3, dpAll_flat da h4, (dpAll_any dp h3 da h4).trans h5⟩
  · cases h
theorem cmp2s_some {o : CmpOp} {ds : List D} {d : D} (h : cmp2s o ds = some d) : ∃ p q b, ds = [p, q] ∧ isDic q = false ∧ cmpD o p q = some b ∧ d = .bl b := by
  unfold cmp2s at h
  split at h
  · split at h
    · cases h
    · rename_i p q _ hq
      have h' : (cmpD o p q).map D.bl = some d := h
      cases e : cmpD o p q with
      | none => rw [e] at h'; cases h'
      | some b => rw [e] at h'; exact ⟨p, q, b, rfl, hq, e, (Option.some.inj h').symm⟩
  · cases h
theorem cmp2d_some {o : CmpOp} {ds : List D} {d : D} (h : cmp2d o ds = some d) : ∃ p q b, ds = [p, q] ∧ isDic q = true ∧ cmpD o p q = some b ∧ d = .bl b := by
  unfold cmp2d at h
  split at h
  · split at h
    · rename_i p q _ hq
      have h' : (cmpD o p q).map D.bl = some d := h
      cases e : cmpD o p q with
      | none => rw [e] at h'; cases h'
      | some b => rw [e] at h'; exact ⟨p, q, b, rfl, hq, e, (Option.some.inj h').symm⟩
    · cases h
  · cases h
theorem map_not {x : Option Bool} {b : Bool} (h : x.map (!·) = some b) : x = some (!b) := by
  cases x with
  | none => cases h
  | some c => have := Option.some.inj h; subst this; simp
theorem spec_cmps (o : CmpOp) : OpSpec T (cmp2s o) (r2 (rCmp T.K o)) := by
  intro F H ds vs d Q s ha e k
  obtain ⟨p, q, b, rfl, hq, e', rfl⟩ := cmp2s_some e
  obtain ⟨v, w, g, g', rfl, h1, h2⟩ := args2 ha
  show rCmp T.K o v w H Q
  cases o with
  | Eq =>
    obtain ⟨x, y, q1, q2, q3, q4, rfl⟩ := eqD_some (show eqD p q = some b from e')
    exact ⟨x, y, own_py s _ _ _ _ h1 q1, own_py s _ _ _ _ h2 q2, q3, q4, k _ F H res_bl⟩
  | NotEq =>
    obtain ⟨x, y, q1, q2, q3, q4, q5⟩ := eqD_some (map_not (show (eqD p q).map (!·) = some b from e'))
    refine ⟨x, y, own_py s _ _ _ _ h1 q1, own_py s _ _ _ _ h2 q2, q3, q4, ?_⟩
    rw [q5, Bool.not_not]
    exact k _ F H res_bl
  | Lt =>
    have e2 : ltD p q = some b := e'
    clear e e' ha hq
    unfold ltD at e2
    split at e2
    · obtain rfl := Option.some.inj e2
      exact .inl ⟨_, _, h1.1, h2.1, k _ F H res_bl⟩
    · rename_i o1 xs o2 ys
      obtain ⟨rfl, rfl, a, us, rfl, _, hra, hl⟩ := own_tup h1 s
      obtain ⟨rfl, rfl, c, ws, rfl, _, hrc, hl2⟩ := own_tup h2 s
      cases e3 : asInts xs with
      | none => rw [e3] at e2; cases e2
      | some is =>
        cases e4 : asInts ys with
        | none => rw [e3, e4] at e2; cases e2
        | some js =>
          rw [e3, e4] at e2
          obtain rfl := Option.some.inj (show some (HT.lexLt is js) = some b from e2)
          rw [ownL_ints hl e3] at hra
          rw [ownL_ints hl2 e4] at hrc
          exact .inr ⟨a, c, is, js, rfl, rfl, SqT.of hra, SqT.of hrc, k _ F H res_bl⟩
    · cases e2
  | LtE =>
    have e2 : leD p q = some b := e'
    clear e e' ha hq
    unfold leD at e2
    split at e2
    · obtain rfl := Option.some.inj e2
      exact ⟨_, _, h1.1, h2.1, k _ F H res_bl⟩
    · cases e2
  | Gt =>
    have e2 : gtD p q = some b := e'
    clear e e' ha hq
    unfold gtD at e2
    split at e2
    · obtain rfl := Option.some.inj e2
      exact ⟨_, _, h1.1, h2.1, k _ F H res_bl⟩
    · cases e2
  | GtE =>
    have e2 : leD q p = some b := e'
    clear e e' ha hq
    unfold leD at e2
    split at e2
    · obtain rfl := Option.some.inj e2
      exact ⟨_, _, h1.1, h2.1, k _ F H res_bl⟩
    · cases e2
  | Is =>
    have e2 : isD p q = some b := e'
    clear e e' ha hq
    unfold isD at e2
    split at e2
    · obtain rfl := Option.some.inj e2
      refine ⟨h2.1, ?_⟩
      rw [own_none h1]
      exact k _ F H res_bl
    · cases e2
  | IsNot =>
    have e2 : isD p q = some (!b) := map_not e'
    clear e e' ha hq
    unfold isD at e2
    split at e2
    · have e3 := Option.some.inj e2
      refine ⟨h2.1, ?_⟩
      rw [own_none h1, e3, Bool.not_not]
      exact k _ F H res_bl
    · cases e2
  | In =>
    rcases in_some s h1 h2 hq (show containsD p q = some b from e') false with ⟨d, ds, q1, q2, q3, q4, rfl⟩ | ⟨a, xs, q1, q2, q3, q4, rfl⟩
    · exact .inl ⟨d, ds, q1, q2, q3, q4, k _ F H res_bl⟩
    · exact .inr ⟨a, xs, q1, q2, q3, q4, k _ F H res_bl⟩
  | NotIn =>
    have e2 := map_not (show (containsD p q).map (!·) = some b from e')
    rcases in_some s h1 h2 hq e2 true with ⟨d, ds, q1, q2, q3, q4, q5⟩ | ⟨a, xs, q1, q2, q3, q4, q5⟩
    · refine .inl ⟨d, ds, q1, q2, q3, q4, ?_⟩
      rw [q5, Bool.not_not]
      exact k _ F H res_bl
    · refine .inr ⟨a, xs, q1, q2, q3, q4, ?_⟩
      show Q (.bl (!inV v xs)) H
      rw [q5, Bool.not_not]
      exact k _ F H res_bl
theorem dic_some {x : D} {o : Bool} {k : Kd} {ds : List D} {b : Bool} (hd : isDic (.nd o k ds) = true) (h : containsD x (.nd o k ds) = some b) : ∃ n, dicAt k x = some n ∧ n.isSome = b := by
  cases k with
  | dK ks =>
    have h' : (asKey x).map (fun q => (pos q ks).isSome) = some b := h
    cases e : asKey x with
    | none => rw [e] at h'; cases h'
    | some q => rw [e] at h'; exact ⟨pos q ks, by unfold dicAt; rw [e]; rfl, Option.some.inj h'⟩
  | dT ks =>
    have h' : (asTKey x).map (fun q => (pos q ks).isSome) = some b := h
    cases e : asTKey x with
    | none => rw [e] at h'; cases h'
    | some q => rw [e] at h'; exact ⟨pos q ks, by unfold dicAt; rw [e]; rfl, Option.some.inj h'⟩
  | _ => cases hd
theorem pos_lt {κ : Type} [DecidableEq κ] {q : κ} {ks : List κ} {i : Nat} (h : pos q ks = some i) : i < ks.length := (List.getElem?_eq_some_iff.mp (pos_some h)).1
theorem dic_len {o : Bool} {k : Kd} {ds : List D} {v : V} {g : List Addr} (h : Own T F H (.nd o k ds) v g) {x : D} {i : Nat} (e : dicAt k x = some (some i)) : i < ds.length := by
  unfold Own at h
  have key : ∀ vs g', ((∃ a, AtF T F a k vs) ∨ ∃ a, AtO T H a k vs) → OwnL T F H ds vs g' → i < ds.length := fun vs g' hat hl => by
    rw [hl.length]
    cases k with
    | dK ks =>
      cases e1 : asKey x with
      | none => rw [show dicAt (.dK ks) x = (asKey x).map fun q => pos q ks from rfl, e1] at e; cases e
      | some q =>
        rw [show dicAt (.dK ks) x = (asKey x).map fun q => pos q ks from rfl, e1] at e
        have := pos_lt (Option.some.inj e)
        rcases hat with ⟨a, hat⟩ | ⟨a, hat⟩ <;> (rw [← hat.1.1]; exact this)
    | dT ks =>
      cases e1 : asTKey x with
      | none => rw [show dicAt (.dT ks) x = (asTKey x).map fun q => pos q ks from rfl, e1] at e; cases e
      | some q =>
        rw [show dicAt (.dT ks) x = (asTKey x).map fun q => pos q ks from rfl, e1] at e
        have := pos_lt (Option.some.inj e)
        rcases hat with ⟨a, hat⟩ | ⟨a, hat⟩ <;> (rw [← hat.1.1]; exact this)
    | _ => cases e
  rcases h with ⟨_, _, a, vs, _, h3, h4⟩ | ⟨_, a, vs, g', _, _, h3, h4⟩
  · exact key vs _ (.inl ⟨a, h3⟩) h4
  · exact key vs _ (.inr ⟨a, h3⟩) h4
theorem spec_cmpd (o : CmpOp) : OpSpec T (cmp2d o) (r2 (rDic o)) := by
  intro F H ds vs d Q s ha e k
  obtain ⟨p, q, b, rfl, hq, e', rfl⟩ := cmp2d_some e
  obtain ⟨v, w, g, g', rfl, h1, h2⟩ := args2 ha
  show rDic o v w H Q
  have nd : ∃ o' k' ds', q = .nd o' k' ds' := by
    cases q with
    | nd o' k' ds' => exact ⟨_, _, _, rfl⟩
    | _ => cases hq
  obtain ⟨o', k', ds', rfl⟩ := nd
  have isS : ∀ {n : Option Nat} {us : List V} {gl : List Addr}, OwnL T F H ds' us gl → dicAt k' p = some n → (n.bind fun i => us[i]?).isSome = n.isSome := fun {n us gl} hl hn => by
    cases n with
    | none => rfl
    | some i =>
      have := dic_len h2 hn
      rw [hl.length] at this
      show (us[i]?).isSome = true
      rw [List.getElem?_eq_getElem this]; rfl
  cases o with
  | In =>
    obtain ⟨n, q1, q2⟩ := dic_some hq (show containsD p _ = some b from e')
    obtain ⟨a, us, rfl, hg, g2, hl, _⟩ := dget_of s h2 h1 q1
    refine ⟨a, _, rfl, hg, ?_⟩
    rw [isS hl q1, q2]
    exact k _ F H res_bl
  | NotIn =>
    obtain ⟨n, q1, q2⟩ := dic_some hq (map_not (show (containsD p _).map (!·) = some b from e'))
    obtain ⟨a, us, rfl, hg, g2, hl, _⟩ := dget_of s h2 h1 q1
    refine ⟨a, _, rfl, hg, ?_⟩
    rw [isS hl q1, q2, Bool.not_not]
    exact k _ F H res_bl
  | Eq =>
    obtain ⟨x, y, _, q2, _⟩ := eqD_some (show eqD p _ = some b from e')
    cases k' with
    | dK ks => cases q2
    | dT ks => cases q2
    | _ => cases hq
  | NotEq =>
    obtain ⟨x, y, _, q2, _⟩ := eqD_some (map_not (show (eqD p _).map (!·) = some b from e'))
    cases k' with
    | dK ks => cases q2
    | dT ks => cases q2
    | _ => cases hq
  | Lt =>
    have e2 : ltD p (.nd o' k' ds') = some b := e'
    exfalso
    cases k' with
    | dK ks => cases p with
      | nd a1 a2 a3 => cases a2 <;> cases e2
      | _ => cases e2
    | dT ks => cases p with
      | nd a1 a2 a3 => cases a2 <;> cases e2
      | _ => cases e2
    | _ => cases hq
  | LtE =>
    have e2 : leD p (.nd o' k' ds') = some b := e'
    cases p <;> cases e2
  | Gt =>
    have e2 : gtD p (.nd o' k' ds') = some b := e'
    cases p <;> cases e2
  | GtE =>
    have e2 : leD (.nd o' k' ds') p = some b := e'
    cases p <;> cases e2
  | Is => cases (show isD p (.nd o' k' ds') = some b from e')
  | IsNot => cases (map_not (show (isD p (.nd o' k' ds')).map (!·) = some b from e'))

/-- a reckoning by one of two readings -/
theorem good_pure_or {m : M (List Rf)} {tch tv tr : List Nat} {ta : TA} {f f1 f2 : List D → Option D} {r r' : List V → Hp → VK → Prop} (tv' tr' : List Nat) (g : GoodA T W m tch tv tr ta) (sp : OpSpec T f1 r) (sp' : OpSpec T f2 r')
    (hf : ∀ ds d, f ds = some d → f1 ds = some d ∨ f2 ds = some d) : GoodR T W (pureOp m f) tch tv' tr' (fun σ H Q => (ta σ H fun vs H1 => r vs H1 Q) ∨ ta σ H fun vs H1 => r' vs H1 Q) := fun F H σ τ env ts fp o env2 hs ht R e Q k1 k2 => by
  have e0 := e
  rcases bind_cases e with ⟨rs, e1, q1, ea1⟩ | ⟨c, ns, xs, q1, rfl⟩
  · rcases bind_cases ea1 with ⟨ds, e2, q2, ea2⟩ | ⟨c, ns, xs, q2, rfl⟩
    · obtain ⟨rf, q4, ho, he⟩ := lift_some ea2
      cases q5 : f ds with
      | none => rw [q5] at q4; cases q4
      | some d =>
        have back : ∀ f' : List D → Option D, f' ds = some d → pureOp m f' env = some (o, env2) := fun f' hf' => by
          unfold pureOp M.bind
          simp only [q1, q2, hf']
          rw [q5] at ea2
          exact ea2
        rcases hf ds d q5 with h | h
        · exact .inl (good_pure tv' tr' g sp F H σ τ env ts fp o env2 hs ht R (back f1 h) Q k1 k2)
        · exact .inr (good_pure tv' tr' g sp' F H σ τ env ts fp o env2 hs ht R (back f2 h) Q k1 k2)
    · obtain ⟨_, _, z, _⟩ := pkLM_some q2; cases z
  · refine .inl (good_pure tv' tr' g sp F H σ τ env ts fp _ env2 hs ht R ?_ Q k1 k2)
    unfold pureOp M.bind
    rw [q1]
theorem cmp_or (o : CmpOp) (ds : List D) (d : D) (h : cmp2 o ds = some d) : cmp2s o ds = some d ∨ cmp2d o ds = some d := by
  unfold cmp2 at h
  split at h
  · rename_i p q
    cases e : isDic q with
    | true => right; simp only [cmp2d, e]; exact h
    | false => left; simp only [cmp2s, e]; exact h
  · cases h
end
end RL
set_option Elab.async false
set_option linter.all false
set_option maxRecDepth 100000
set_option maxHeartbeats 4000000
/-! RL, what is taken out of its slot; truth. -/
namespace RL
open PySem L2
section
variable {T : Tb} {W : WX} {F H F1 H1 : Hp} {σ τ pv : List (Option V)} {env env1 ts pd : Env'} {fp fp1 : Nat → List Addr} {t1 t2 : List Nat}
theorem Rel.move {S : List (Option V)} {E : Env'} (R : Rel T F H S E fp) {r j : Nat} {d : D} {v : V} (h : E[r]? = some (some d)) (hv : S[r]? = some (some v)) (hj : E[j]? = some none) (hw : S[j]? = some (some v)) :
    Rel T F H S ((E.set r none).set j (some d)) (setFp j (fp r) (setFp r [] fp)) := by
  have hlt : j < E.length := (List.getElem?_eq_some_iff.mp hj).1
  have hrj : r ≠ j := fun z => by rw [z, hj] at h; cases h
  have mem : ∀ {i a}, a ∈ setFp j (fp r) (setFp r [] fp) i → (i = j ∧ a ∈ fp r) ∨ (i ≠ j ∧ i ≠ r ∧ a ∈ fp i) := fun {i a} m => by
    unfold setFp at m
    split at m
    · rename_i e; exact .inl ⟨e, m⟩
    · rename_i e
      split at m
      · cases m
      · rename_i e2; exact .inr ⟨e, e2, m⟩
  refine ⟨R.sub, by simp [R.len], fun i d' h' => ?_, fun i => ?_, fun i k a hi hk => ?_, fun i a hi => ?_, fun i a hi => ?_, fun i hi => ?_⟩
  · by_cases e : j = i
    · subst e
      rw [List.getElem?_set_self (by simpa using hlt)] at h'
      obtain rfl : d = d' := by simpa using h'
      obtain ⟨w, q1, q2⟩ := R.at_ r d h
      rw [hv] at q1
      obtain rfl : v = w := by simpa using q1
      exact ⟨v, hw, by rw [setFp_same]; exact q2⟩
    · rw [List.getElem?_set_ne e] at h'
      obtain ⟨q1, q2⟩ := get_set_none h'
      obtain ⟨w, q3, q4⟩ := R.at_ i d' q2
      exact ⟨w, q3, by rw [setFp_ne (Ne.symm e), setFp_ne (Ne.symm q1)]; exact q4⟩
  · unfold setFp; split
    · exact R.nd r
    · split
      · exact List.nodup_nil
      · exact R.nd i
  · rcases mem hi with ⟨rfl, m1⟩ | ⟨n1, n2, m1⟩ <;> rcases mem hk with ⟨rfl, m2⟩ | ⟨n3, n4, m2⟩
    · rfl
    · exact absurd (R.dj r k a m1 m2).symm n4
    · exact absurd (R.dj i r a m1 m2) n2
    · exact R.dj i k a m1 m2
  · rcases mem hi with ⟨rfl, m1⟩ | ⟨n1, n2, m1⟩
    · exact R.out r a m1
    · exact R.out i a m1
  · rcases mem hi with ⟨rfl, m1⟩ | ⟨n1, n2, m1⟩
    · exact R.dom r a m1
    · exact R.dom i a m1
  · have hi2 : E.length ≤ i := by simpa using hi
    rw [setFp_ne (by omega)]
    unfold setFp; split
    · rfl
    · exact R.off i hi2
theorem takeR_some {rf : Rf} {e e2 : Env'} {o : Out D} (h : takeR rf e = some (o, e2)) : (∃ d, rf = .tmp d ∧ o = .ok d ∧ e2 = e) ∨ ∃ r d, rf = .at_ r [] ∧ slotAt e r = some d ∧ o = .ok d ∧ e2 = e.set r none := by
  cases rf with
  | tmp d =>
    obtain ⟨rfl, rfl⟩ := Prod.mk.inj (Option.some.inj (show some (Out.ok d, e) = _ from h))
    exact .inl ⟨d, rfl, rfl, rfl⟩
  | at_ r p =>
    cases p with
    | nil =>
      have h' : (match slotAt e r with
        | some d => some (Out.ok d, e.set r none)
        | none => none) = some (o, e2) := h
      split at h'
      · rename_i d q
        obtain ⟨rfl, rfl⟩ := Prod.mk.inj (Option.some.inj h')
        exact .inr ⟨r, d, rfl, q, rfl, rfl⟩
      · cases h'
    | cons n p => cases h
/-- a thing that stands at a slot becomes a temporary, among temporaries -/
theorem Post.move {pv' : List (Option V)} {pd' : Env'} {r : Nat} {d : D} {v : V} (p : Post T F H σ τ env ts fp t1 F1 H1 env1 fp1 (pv ++ some v :: pv') (pd ++ none :: pd')) (hs : σ.length = env.length) (ht : τ.length = ts.length) (hp : pv.length = pd.length) (hv : σ[r]? = some (some v)) (h : slotAt env1 r = some d) :
    ∃ fp2, Post T F H σ τ env ts fp (t1 ++ [r]) F1 H1 (env1.set r none) fp2 (pv ++ some v :: pv') (pd ++ some d :: pd') := by
  have hr := slotAt_lt h
  have hl1 := p.len
  have a1 : (env1 ++ ts ++ (pd ++ none :: pd'))[r]? = some (some d) := by
    rw [List.append_assoc, List.getElem?_append_left hr]; exact slotAt_some h
  have a2 : (σ ++ τ ++ (pv ++ some v :: pv'))[r]? = some (some v) := by
    rw [List.append_assoc, List.getElem?_append_left (by omega)]; exact hv
  have e1 : (env1 ++ ts ++ pd).length = env.length + ts.length + pd.length := by simp [hl1]; omega
  have e2 : (σ ++ τ ++ pv).length = env.length + ts.length + pd.length := by simp [hs, ht, hp]; omega
  have a3 : (env1 ++ ts ++ (pd ++ none :: pd'))[env.length + ts.length + pd.length]? = some none := by
    rw [← List.append_assoc, List.getElem?_append_right (by rw [e1]; exact Nat.le_refl _), e1]; simp
  have a4 : (σ ++ τ ++ (pv ++ some v :: pv'))[env.length + ts.length + pd.length]? = some (some v) := by
    rw [← List.append_assoc, List.getElem?_append_right (by rw [e2]; exact Nat.le_refl _), e2]; simp
  have R := Rel.move p.rel a1 a2 a3 a4
  have e3 : ((env1 ++ ts ++ (pd ++ none :: pd')).set r none).set (env.length + ts.length + pd.length) (some d) = env1.set r none ++ ts ++ (pd ++ some d :: pd') := by
    rw [List.append_assoc, List.set_append_left _ _ hr]
    rw [← List.append_assoc, ← List.append_assoc, List.set_append_right _ _ (by simp [hl1]; omega)]
    simp [hl1, List.append_assoc]
    have : env.length + ts.length + pd.length - (env.length + (ts.length + pd.length)) = 0 := by omega
    rw [this]; rfl
  rw [e3] at R
  refine ⟨_, by simpa using hl1, R, ?_, fun i hi hl => ?_⟩
  · refine p.tr.less fun i a m => ?_
    unfold setFp at m
    split at m
    · exact ⟨r, m⟩
    · split at m
      · cases m
      · exact ⟨i, m⟩
  · have hir : i ≠ r := by
      rcases hi with hi | hi
      · intro z; subst z; exact hi (List.mem_append_right _ (by simp))
      · omega
    obtain ⟨s1, s2, s3⟩ := p.same i (hi.imp (fun z y => z (List.mem_append_left _ y)) id) hl
    refine ⟨?_, ?_, s3⟩
    · rw [← s1]
      by_cases hil : i < env1.length
      · rw [List.getElem?_append_left (by simpa using hil), List.getElem?_append_left hil, List.getElem?_set_ne (Ne.symm hir)]
      · rw [List.getElem?_append_right (by simp; omega), List.getElem?_append_right (by omega)]
        simp
    · rw [setFp_ne (by omega), setFp_ne hir, s2]
theorem good_take {m : M Rf} {tch tv tr : List Nat} {t : TE} (g : GoodR T W m tch tv tr t) : GoodD T W (M.bind m takeR) (tch ++ tv) t := fun F H σ τ env ts fp o env2 hs ht R e Q k1 k2 => by
  rcases bind_cases e with ⟨rf, e1, q1, ea1⟩ | ⟨c, ns, xs, q1, rfl⟩
  · refine g F H σ τ env ts fp _ _ hs ht R q1 _ (fun a ea F1 H1 fp1 v pv pd j p => ?_) (fun c ns xs eo => by cases eo)
    cases ea
    obtain ⟨rfl, rfl, j1, j2⟩ := j
    rcases takeR_some ea1 with ⟨d, rfl, rfl, rfl⟩ | ⟨r, d, rfl, q3, rfl, rfl⟩
    · exact k1 d rfl F1 H1 fp1 v _ _ ⟨rfl, rfl⟩ (p.weak fun i z => List.mem_append_left _ z)
    · obtain ⟨vr, h1, _, h3⟩ := j1
      obtain rfl : vr = v := Option.some.inj h3
      obtain ⟨fp2, p2⟩ := Post.move (pv := []) (pd := []) (pv' := []) (pd' := []) p hs ht rfl h1 q3
      refine k1 d rfl F1 H1 fp2 vr _ _ ⟨rfl, rfl⟩ (p2.weak fun i z => ?_)
      rcases List.mem_append.mp z with z | z
      · exact List.mem_append_left _ z
      · have : i = r := by simpa using z
        subst this
        exact List.mem_append_right _ (j2.1 rfl)
  · refine g F H σ τ env ts fp _ _ hs ht R q1 _ (fun a ea => by cases ea) (fun c' ns' xs' eo F1 H1 fp1 d ws p x1 x2 => ?_)
    cases eo
    exact k2 _ _ _ rfl F1 H1 fp1 d ws (p.weak fun i z => List.mem_append_left _ z) x1 x2
theorem good_tmp {m : M D} {tch : List Nat} {t : TE} (tv tr : List Nat) (g : GoodD T W m tch t) : GoodR T W (tmpM m) tch tv tr t := fun F H σ τ env ts fp o env2 hs ht R e Q k1 k2 => by
  rcases bind_cases e with ⟨d, e1, q1, ea1⟩ | ⟨c, ns, xs, q1, rfl⟩
  · obtain ⟨rfl, rfl⟩ := ret_some ea1
    refine g F H σ τ env ts fp _ _ hs ht R q1 _ (fun a ea F1 H1 fp1 v pv pd j p => ?_) (fun c ns xs eo => by cases eo)
    cases ea
    obtain ⟨rfl, rfl⟩ := j
    exact k1 _ rfl F1 H1 fp1 v _ _ ⟨rfl, rfl, trivial, trivial⟩ p
  · exact g F H σ τ env ts fp _ _ hs ht R q1 _ (fun a ea => by cases ea) (fun c' ns' xs' eo F1 H1 fp1 d ws p x1 x2 => by cases eo; exact k2 _ _ _ rfl F1 H1 fp1 d ws p x1 x2)

/-! ### truth -/
theorem truth_own (s : Ex F H) {d : D} {v : V} {g : List Addr} {b : Bool} (h : Own T F H d v g) (e : truthD d = some b) : TruV T.K v H b := by
  cases d with
  | non => obtain rfl := Option.some.inj e; rw [h.1]; exact rfl
  | bl c => obtain rfl := Option.some.inj e; rw [h.1]; exact rfl
  | int i => obtain rfl := Option.some.inj e; rw [h.1]; exact rfl
  | str x =>
    have e' : (match decide (x.length ≤ lim) with
      | true => some (x.length != 0)
      | false => none) = some b := e
    split at e'
    case h_2 => cases e'
    rename_i hz
    obtain rfl := Option.some.inj e'
    rw [h.1]
    refine ⟨lim_le (of_decide_eq_true hz), ?_⟩
    cases x.length with
    | zero => rfl
    | succ n =>
      have e1 : (n + 1 != 0) = true := by simp
      have e2 : (((n + 1 : Nat) : Int) != 0) = true := by simp; omega
      rw [e1, e2]
  | fn f => cases e
  | nd o k ds =>
    cases k with
    | lst =>
      obtain rfl := Option.some.inj (show some (!ds.isEmpty) = some b from e)
      obtain ⟨a, vs, rfl, ha, g', hl, _⟩ := own_lst h s
      refine .inl ⟨vs, SqL.of ha, ?_⟩
      have := hl.length
      cases ds <;> cases vs <;> simp at this ⊢
    | tup =>
      obtain rfl := Option.some.inj (show some (!ds.isEmpty) = some b from e)
      obtain ⟨_, _, a, vs, rfl, _, ha, hl⟩ := own_tup h s
      refine .inr (.inl ⟨vs, SqT.of ha, ?_⟩)
      have := hl.length
      cases ds <;> cases vs <;> simp at this ⊢
    | _ => cases e
theorem rf_own {rf : Rf} {v : V} {d : D} (p : Post T F H σ τ env ts fp t1 F1 H1 env1 fp1 [some v] [slotD rf]) (hs : σ.length = env.length) (ht : τ.length = ts.length) (j : RfOk H1 σ env1 rf v) (e : pk rf env1 = some d) : ∃ g, Own T F1 H1 d v g := by
  have e2 : pkL [rf] env1 = some [d] := by
    show (pk rf env1).bind _ = _
    rw [e]; rfl
  cases rf with
  | tmp d0 =>
    obtain rfl : d0 = d := Option.some.inj e
    exact ⟨_, Post.last (pv := []) (pd := []) p hs ht rfl⟩
  | at_ r q =>
    have R0 := (p.drop hs ht).rel
    simp only [List.append_nil] at R0
    obtain ⟨g, hg, _⟩ := at_own j R0 (by rw [p.len]; exact hs) e
    exact ⟨g, hg⟩
def tTru (K : PySem.W.Frag) (ta : TE) : TT := fun σ H Q => ta σ H fun x H' => ∃ k, TruV K x H' k ∧ Q k H'
theorem good_truth {m : M Rf} {tch tv tr : List Nat} {t : TE} (g : GoodR T W m tch tv tr t) : GoodB T W (truthM m) tch (tTru T.K t) := fun F H σ τ env ts fp o env2 hs ht R e Q k1 k2 => by
  rcases bind_cases e with ⟨rf, e1, q1, ea1⟩ | ⟨c, ns, xs, q1, rfl⟩
  · rcases bind_cases ea1 with ⟨d, e2, q2, ea2⟩ | ⟨c, ns, xs, q2, rfl⟩
    · obtain ⟨d', q3, h1, rfl⟩ := pkM_some q2
      cases h1
      obtain ⟨b, q4, rfl, rfl⟩ := lift_some ea2
      refine g F H σ τ env ts fp _ _ hs ht R q1 _ (fun a ea F1 H1 fp1 v pv pd j p => ?_) (fun c ns xs eo => by cases eo)
      cases ea
      obtain ⟨rfl, rfl, j1, _⟩ := j
      obtain ⟨gg, hg⟩ := rf_own p hs ht j1 q3
      exact ⟨b, truth_own p.rel.sub hg q4, k1 b rfl F1 H1 _ b [] [] ⟨rfl, rfl, rfl⟩ (p.drop hs ht)⟩
    · obtain ⟨_, _, z, _⟩ := pkM_some q2; cases z
  · exact g F H σ τ env ts fp _ _ hs ht R q1 _ (fun a ea => by cases ea) (fun c' ns' xs' eo F1 H1 fp1 d ws p x1 x2 => by cases eo; exact k2 _ _ _ rfl F1 H1 fp1 d ws p x1 x2)
theorem good_tB {m : M Rf} {tch tv tr : List Nat} {t : TE} (hb : ∀ e rf e', m e = some (.ok rf, e') → ∃ b, rf = .tmp (.bl b)) (g : GoodR T W m tch tv tr t) : GoodB T W (truthM m) tch (tB t) := fun F H σ τ env ts fp o env2 hs ht R e Q k1 k2 => by
  rcases bind_cases e with ⟨rf, e1, q1, ea1⟩ | ⟨c, ns, xs, q1, rfl⟩
  · obtain ⟨b, rfl⟩ := hb _ _ _ q1
    rcases bind_cases ea1 with ⟨d, e2, q2, ea2⟩ | ⟨c, ns, xs, q2, rfl⟩
    · obtain ⟨d', q3, h1, rfl⟩ := pkM_some q2
      cases h1
      obtain rfl := Option.some.inj q3
      obtain ⟨b', q4, rfl, rfl⟩ := lift_some ea2
      obtain rfl := Option.some.inj q4
      refine g F H σ τ env ts fp _ _ hs ht R q1 _ (fun a ea F1 H1 fp1 v pv pd j p => ?_) (fun c ns xs eo => by cases eo)
      cases ea
      obtain ⟨rfl, rfl, j1, _⟩ := j
      obtain ⟨gg, hg⟩ := rf_own p hs ht j1 rfl
      exact ⟨b, hg.1, k1 b rfl F1 H1 _ b [] [] ⟨rfl, rfl, rfl⟩ (p.drop hs ht)⟩
    · obtain ⟨_, _, z, _⟩ := pkM_some q2; cases z
  · exact g F H σ τ env ts fp _ _ hs ht R q1 _ (fun a ea => by cases ea) (fun c' ns' xs' eo F1 H1 fp1 d ws p x1 x2 => by cases eo; exact k2 _ _ _ rfl F1 H1 fp1 d ws p x1 x2)
end
end RL
set_option Elab.async false
set_option linter.all false
set_option maxRecDepth 100000
set_option maxHeartbeats 4000000
/-! RL, expressions. -/
namespace RL
open PySem L2

structure GX (T : Tb) (X : Cx) (W : WX) (P : Pr) (Φ : Hd') (il : Ex') (e : Expr) : Prop where
  val : ∃ t, PE X e t ∧ GoodR T W (evX P Φ il).1 (touchR il) (varsV il) (rootV il) t
  tst : ∃ t, PT X e t ∧ GoodB T W (evX P Φ il).2 (touchR il) t
structure GA (T : Tb) (X : Cx) (W : WX) (P : Pr) (Φ : Hd') (ils : List Ex') (es : List Expr) : Prop where
  val : ∃ t, PA X es t ∧ GoodA T W (evXs P Φ ils) (touchL ils) (varsL ils) (rootL ils) t
/-- the body's surroundings -/
structure XOk (T : Tb) (X : Cx) (W : WX) (P : Pr) : Prop where
  hK : X.K = T.K
  hu : X.A.units + 65 < cLine
  nd : X.N.Nodup
  calm : X.calm = true
  cl : ∀ c f, (P.flds c).contains f = true → Cls T.K (T.cA c) ∧ NoAttr T.K (T.cA c) f
def plainTest (a : Expr) : Bool := match a with
  | .BoolOp .. => false
  | .UnaryOp .Not .. => false
  | .Compare .. => false
  | .NamedExpr .. => false
  | _ => true

section
variable {T : Tb} {X : Cx} {W : WX} {P : Pr} {Φ : Hd'} {F H : Hp}
theorem GoodG.tstep {α β : Type} {m : M α} {tch : List Nat} {t t' : L2.St → Hp → (β → Hp → Prop) → Prop} {J} (g : GoodG T W m tch t J) (h : ∀ σ H Q, t σ H Q → t' σ H Q) : GoodG T W m tch t' J :=
  fun F H σ τ env ts fp o env2 hs ht R e Q k1 k2 => h _ _ _ (g F H σ τ env ts fp o env2 hs ht R e Q k1 k2)
/-- an expression whose test is its value's truth -/
theorem gx_of (O : XOk T X W P) {il : Ex'} {e : Expr} {t : TE} (h : PE X e t) (g : GoodR T W (evX P Φ il).1 (touchR il) (varsV il) (rootV il) t) (he : ∀ whole, isTrue e X.env whole = (do let v ← whole; standAt e.pos; holding [v] (truthy v))) (h2 : (evX P Φ il).2 = truthM (evX P Φ il).1) : GX T X W P Φ il e :=
  ⟨⟨t, h, g⟩, ⟨_, pt_truth h he, by rw [h2, O.hK]; exact good_truth g⟩⟩
theorem good_ret {d : D} {v : V} (tch tv tr : List Nat) (h : ∀ F H, Own T F H d v []) : GoodR T W (M.ret (.tmp d)) tch tv tr (tC v) := fun F H σ τ env ts fp o env2 hs ht R e Q k1 _ => by
  obtain ⟨rfl, rfl⟩ := ret_some e
  exact k1 _ rfl F H _ v _ _ ⟨rfl, rfl, trivial, trivial⟩ (((Post.refl R).weak (by simp)).push0 (h F H))
/-! constants -/
theorem gx_int (O : XOk T X W P) {i : Int} {j : Nat} {pos : Pos} : GX T X W P Φ (.c (.int i)) (.Constant (.int i) j pos) := gx_of O pe_int (good_ret _ _ _ fun _ _ => ⟨rfl, rfl⟩) (fun _ => rfl) rfl
theorem gx_bl (O : XOk T X W P) {b : Bool} {j : Nat} {pos : Pos} : GX T X W P Φ (.c (.bl b)) (.Constant (.bool b) j pos) := gx_of O pe_bl (good_ret _ _ _ fun _ _ => ⟨rfl, rfl⟩) (fun _ => rfl) rfl
theorem gx_non (O : XOk T X W P) {j : Nat} {pos : Pos} : GX T X W P Φ (.c .non) (.Constant .none j pos) := gx_of O pe_non (good_ret _ _ _ fun _ _ => ⟨rfl, rfl⟩) (fun _ => rfl) rfl
theorem gx_str (O : XOk T X W P) {x : Str} {j : Nat} {pos : Pos} : GX T X W P Φ (.c (.str x)) (.Constant (.str x) j pos) := gx_of O pe_str (good_ret _ _ _ fun _ _ => ⟨rfl, rfl⟩) (fun _ => rfl) rfl
/-- a module's name -/
theorem gx_glob (O : XOk T X W P) {x : Str} {d : D} {v : V} {u : Value} {pos : Pos} (hg : Gl X x) (hm : X.mg x = some u) (r : RelV v u) (h : ∀ F H, Own T F H d v []) (hd : (x == ("__debug__" : Str)) = false) : GX T X W P Φ (.g x d) (.Name x pos) :=
  gx_of O (pe_glob hg hm r hd) (good_ret _ _ _ h) (fun _ => rfl) rfl
/-! a name -/
theorem good_var (i : Nat) : GoodR T W (varM i) [] [i] [i] (tVar i) := fun F H σ τ env ts fp o env2 hs ht R e Q k1 _ => by
  unfold varM at e
  cases h : slotAt env i with
  | none => rw [h] at e; cases e
  | some d =>
    rw [h] at e
    obtain ⟨rfl, rfl⟩ := Prod.mk.inj (Option.some.inj e)
    obtain ⟨v, h1, h2⟩ := R.at_ i d (slot_app h)
    have hlt := slotAt_lt h
    rw [List.getElem?_append_left (by omega)] at h1
    refine ⟨v, h1, ?_⟩
    cases ho : d.own with
    | false =>
      rw [h2.top ho] at h2
      refine k1 (.tmp d) (by rw [ho]) F H _ v _ _ ⟨rfl, rfl, trivial, trivial⟩ ((Post.refl R).push0 h2)
    | true =>
      refine k1 (.at_ i []) (by rw [ho]) F H fp v _ _ ⟨rfl, rfl, ⟨v, h1, fun z => absurd rfl z, rfl⟩, fun _ => by simp, by simp⟩ ?_
      refine ⟨rfl, ?_, Tr.refl F H fp, fun _ _ _ => ⟨rfl, rfl, fun _ _ => rfl⟩⟩
      have := Rel.pushN R v
      simpa [slotD] using this
theorem gx_var (O : XOk T X W P) {i : Nat} {x : Str} {pos : Pos} (hN : X.N[i]? = some x) (hv : Vis X.env.scope x) (hd : (x == ("__debug__" : Str)) = false) (hcd : (x == ("__classdict__" : Str)) = false) : GX T X W P Φ (.v i) (.Name x pos) :=
  gx_of O (pe_var hN hv hd hcd) (good_var i) (fun _ => rfl) rfl
/-! operators -/
theorem ga_nil : GA T X W P Φ [] [] := ⟨⟨_, pa_nil, good_nil⟩⟩
theorem ga_cons {il : Ex'} {ils : List Ex'} {e : Expr} {es : List Expr} (h : GX T X W P Φ il e) (k : GA T X W P Φ ils es) (hs : starEach (e :: es) X.env = (false, eval e X.env) :: starEach es X.env) : GA T X W P Φ (il :: ils) (e :: es) := by
  obtain ⟨t, h1, h2⟩ := h.val
  obtain ⟨u, k1, k2⟩ := k.val
  exact ⟨⟨_, pa_cons h1 k1 hs, good_cons h2 k2⟩⟩
theorem gx_bin (O : XOk T X W P) {o : Operator} {a b : Ex'} {ea eb : Expr} {pos : Pos} (h : GX T X W P Φ a ea) (k : GX T X W P Φ b eb) : GX T X W P Φ (.bin o a b) (.BinOp ea o eb pos) := by
  obtain ⟨t, h1, h2⟩ := h.val
  obtain ⟨u, k1, k2⟩ := k.val
  refine gx_of O (t := tOp (rBin X.K o) t u) (pe_op (op_bin o) h1 k1) ?_ (fun _ => rfl) rfl
  rw [O.hK]
  exact good_pure _ _ (good_two h2 k2) (spec_bin o)
theorem gx_neg (O : XOk T X W P) {a : Ex'} {ea : Expr} {pos : Pos} (h : GX T X W P Φ a ea) : GX T X W P Φ (.neg a) (.UnaryOp .USub ea pos) := by
  obtain ⟨t, h1, h2⟩ := h.val
  exact gx_of O (t := tUn _ t) (pe_un un_neg h1) (good_pure _ _ (good_one h2) spec_neg) (fun _ => rfl) rfl
theorem spec_not : OpSpec T not1 (r1 fun x H Q => ∃ c, x = .bl c ∧ Q (.bl (!c)) H) := by
  intro F H ds vs d Q s ha e k
  unfold not1 at e
  split at e
  · obtain ⟨v, g, rfl, h1⟩ := args1 ha
    obtain rfl := Option.some.inj e
    exact ⟨_, h1.1, k _ F H res_bl⟩
  · cases e
theorem good_notT {m : M Bool} {tch : List Nat} {t : TT} (g : GoodB T W m tch t) : GoodB T W (M.bind m fun z => .ret (!z)) tch (tNot t) := fun F H σ τ env ts fp o env2 hs ht R e Q k1 k2 => by
  rcases bind_cases e with ⟨z, e1, q1, ea1⟩ | ⟨c, ns, xs, q1, rfl⟩
  · obtain ⟨rfl, rfl⟩ := ret_some ea1
    refine g F H σ τ env ts fp _ _ hs ht R q1 _ (fun a ea F1 H1 fp1 v pv pd j p => ?_) (fun c ns xs eo => by cases eo)
    cases ea
    obtain ⟨rfl, rfl, rfl⟩ := j
    exact k1 _ rfl F1 H1 fp1 _ [] [] ⟨rfl, rfl, rfl⟩ p
  · exact g F H σ τ env ts fp _ _ hs ht R q1 _ (fun a ea => by cases ea) (fun c' ns' xs' eo F1 H1 fp1 d ws p x1 x2 => by cases eo; exact k2 _ _ _ rfl F1 H1 fp1 d ws p x1 x2)
theorem gx_not {a : Ex'} {ea : Expr} {pos : Pos} (h : GX T X W P Φ a ea) : GX T X W P Φ (.not a) (.UnaryOp .Not ea pos) := by
  obtain ⟨t, h1, h2⟩ := h.val
  obtain ⟨u, k1, k2⟩ := h.tst
  exact ⟨⟨_, pe_not h1, good_pure _ _ (good_one h2) spec_not⟩, ⟨_, pt_not k1, good_notT k2⟩⟩
theorem cmp2_bl {o : CmpOp} {ds : List D} {d : D} (h : cmp2 o ds = some d) : ∃ b, d = .bl b := by
  unfold cmp2 at h
  split at h
  · rename_i p q
    cases e : cmpD o p q with
    | none => rw [e] at h; cases h
    | some b => rw [e] at h; exact ⟨b, (Option.some.inj h).symm⟩
  · cases h
theorem pure_bl {m : M (List Rf)} {f : List D → Option D} (hf : ∀ ds d, f ds = some d → ∃ b, d = .bl b) (e : Env') (rf : Rf) (e' : Env') (h : pureOp m f e = some (.ok rf, e')) : ∃ b, rf = .tmp (.bl b) := by
  rcases bind_cases h with ⟨rs, e1, q1, ea1⟩ | ⟨c, ns, xs, q1, z⟩
  · rcases bind_cases ea1 with ⟨ds, e2, q2, ea2⟩ | ⟨c, ns, xs, q2, z⟩
    · obtain ⟨r, q4, h4, rfl⟩ := lift_some ea2
      cases q5 : f ds with
      | none => rw [q5] at q4; cases q4
      | some d =>
        rw [q5] at q4
        obtain ⟨b, rfl⟩ := hf ds d q5
        cases h4
        exact ⟨b, (Option.some.inj q4).symm⟩
    · cases z
  · cases z
theorem gx_cmp (O : XOk T X W P) {o : CmpOp} {a b : Ex'} {ea eb : Expr} {pos : Pos} (h : GX T X W P Φ a ea) (k : GX T X W P Φ b eb) (hm : behindInMarks o eb = false) : GX T X W P Φ (.cmp o a b) (.Compare ea [o] [eb] pos) := by
  obtain ⟨t, h1, h2⟩ := h.val
  obtain ⟨u, k1, k2⟩ := k.val
  have pc := PC.or (pc_op (op_cmp O.hu o) h1 k1) (pc_dic (by have := O.hu; omega) o h1 k1)
  have g : GoodR T W (evX P Φ (.cmp o a b)).1 (touchR (.cmp o a b)) (varsV (.cmp o a b)) (rootV (.cmp o a b)) (fun σ H Q => tOp (rCmp X.K o) t u σ H Q ∨ tOp (rDic o) t u σ H Q) := by
    rw [O.hK]
    exact good_pure_or _ _ (good_two h2 k2) (spec_cmps o) (spec_cmpd o) (cmp_or o)
  exact ⟨⟨_, pe_cmp pc hm, g⟩, ⟨_, pt_cmp pc hm, good_tB (fun e rf e' q => pure_bl (fun _ _ q => cmp2_bl q) e rf e' q) g⟩⟩

/-! and, or -/
theorem good_andT {A B : M Bool} {ta tb : List Nat} {t u : TT} (g : GoodB T W A ta t) (g' : GoodB T W B tb u) : GoodB T W (andM A B) (ta ++ tb) (tAnd t u) := fun F H σ τ env ts fp o env2 hs ht R e Q k1 k2 => by
  rcases bind_cases e with ⟨z, e1, q1, ea1⟩ | ⟨c, ns, xs, q1, rfl⟩
  · refine g F H σ τ env ts fp _ _ hs ht R q1 _ (fun a ea F1 H1 fp1 v pv pd j p => ?_) (fun c ns xs eo => by cases eo)
    cases ea
    obtain ⟨rfl, rfl, rfl⟩ := j
    cases z with
    | false =>
      obtain ⟨rfl, rfl⟩ := ret_some (show M.ret false e1 = _ from ea1)
      show Q false H1
      exact k1 _ rfl F1 H1 fp1 _ [] [] ⟨rfl, rfl, rfl⟩ (p.weak fun i z => List.mem_append_left _ z)
    | true =>
      show u σ H1 Q
      have R1 := p.rel
      simp only [List.append_nil] at R1
      refine g' F1 H1 σ τ e1 ts fp1 _ _ (by rw [p.len]; exact hs) ht R1 ea1 _ (fun a ea F2 H2 fp2 v pv pd j p2 => ?_) (fun c ns xs eo F2 H2 fp2 d ws p2 x1 x2 => ?_)
      · refine k1 a ea F2 H2 fp2 v pv pd j ?_
        have := Post.trans (pv1 := []) (pd1 := []) p (by simpa using p2)
        simpa using this
      · refine k2 c ns xs eo F2 H2 fp2 d ws ?_ x1 x2
        have := Post.trans (pv1 := []) (pd1 := []) p (by simpa using p2)
        simpa using this
  · exact g F H σ τ env ts fp _ _ hs ht R q1 _ (fun a ea => by cases ea) (fun c' ns' xs' eo F1 H1 fp1 d ws p x1 x2 => by cases eo; exact k2 _ _ _ rfl F1 H1 fp1 d ws (p.weak fun i z => List.mem_append_left _ z) x1 x2)
theorem good_orT {A B : M Bool} {ta tb : List Nat} {t u : TT} (g : GoodB T W A ta t) (g' : GoodB T W B tb u) : GoodB T W (orM A B) (ta ++ tb) (tOr t u) := fun F H σ τ env ts fp o env2 hs ht R e Q k1 k2 => by
  rcases bind_cases e with ⟨z, e1, q1, ea1⟩ | ⟨c, ns, xs, q1, rfl⟩
  · refine g F H σ τ env ts fp _ _ hs ht R q1 _ (fun a ea F1 H1 fp1 v pv pd j p => ?_) (fun c ns xs eo => by cases eo)
    cases ea
    obtain ⟨rfl, rfl, rfl⟩ := j
    cases z with
    | true =>
      obtain ⟨rfl, rfl⟩ := ret_some (show M.ret true e1 = _ from ea1)
      show Q true H1
      exact k1 _ rfl F1 H1 fp1 _ [] [] ⟨rfl, rfl, rfl⟩ (p.weak fun i z => List.mem_append_left _ z)
    | false =>
      show u σ H1 Q
      have R1 := p.rel
      simp only [List.append_nil] at R1
      refine g' F1 H1 σ τ e1 ts fp1 _ _ (by rw [p.len]; exact hs) ht R1 ea1 _ (fun a ea F2 H2 fp2 v pv pd j p2 => ?_) (fun c ns xs eo F2 H2 fp2 d ws p2 x1 x2 => ?_)
      · refine k1 a ea F2 H2 fp2 v pv pd j ?_
        have := Post.trans (pv1 := []) (pd1 := []) p (by simpa using p2)
        simpa using this
      · refine k2 c ns xs eo F2 H2 fp2 d ws ?_ x1 x2
        have := Post.trans (pv1 := []) (pd1 := []) p (by simpa using p2)
        simpa using this
  · exact g F H σ τ env ts fp _ _ hs ht R q1 _ (fun a ea => by cases ea) (fun c' ns' xs' eo F1 H1 fp1 d ws p x1 x2 => by cases eo; exact k2 _ _ _ rfl F1 H1 fp1 d ws (p.weak fun i z => List.mem_append_left _ z) x1 x2)
theorem boolM_cases {A : M Rf} {e e2 : Env'} {o : Out Bool} (h : boolM A e = some (o, e2)) : (∃ rf b, A e = some (.ok rf, e2) ∧ pk rf e2 = some (.bl b) ∧ o = .ok b) ∨ ∃ c ns xs, A e = some (.ex c ns xs, e2) ∧ o = .ex c ns xs := by
  rcases bind_cases h with ⟨rf, e1, q1, ea1⟩ | ⟨c, ns, xs, q1, rfl⟩
  · rcases bind_cases ea1 with ⟨d, e3, q2, ea2⟩ | ⟨c, ns, xs, q2, rfl⟩
    · obtain ⟨d', q3, h3, rfl⟩ := pkM_some q2
      cases h3
      obtain ⟨b, q4, rfl, rfl⟩ := lift_some ea2
      cases d with
      | bl c =>
        obtain rfl := Option.some.inj q4
        exact .inl ⟨rf, c, q1, q3, rfl⟩
      | _ => cases q4
    · obtain ⟨_, _, z, _⟩ := pkM_some q2; cases z
  · exact .inr ⟨c, ns, xs, q1, rfl⟩
theorem good_boolV {B : M Rf} {tb v2 r2 : List Nat} {u : TE} (tv tr : List Nat) (g' : GoodR T W B tb v2 r2 u) : GoodR T W (M.bind (boolM B) fun z' => .ret (.tmp (.bl z'))) tb tv tr u := fun F H σ τ env ts fp o env2 hs ht R e Q k1 k2 => by
  rcases bind_cases e with ⟨z, e1, q1, ea1⟩ | ⟨c, ns, xs, q1, rfl⟩
  · obtain ⟨rfl, rfl⟩ := ret_some ea1
    rcases boolM_cases q1 with ⟨rf, b, h1, h2, h3⟩ | ⟨c, ns, xs, h1, h3⟩
    · cases h3
      refine g' F H σ τ env ts fp _ _ hs ht R h1 _ (fun a ea F1 H1 fp1 v pv pd j p => ?_) (fun c ns xs eo => by cases eo)
      cases ea
      obtain ⟨rfl, rfl, j1, _⟩ := j
      obtain ⟨gg, hg⟩ := rf_own p hs ht j1 h2
      exact k1 _ rfl F1 H1 _ v _ _ ⟨rfl, rfl, trivial, trivial⟩ ((p.drop hs ht).push0 ⟨hg.1, rfl⟩)
    · cases h3
  · rcases boolM_cases q1 with ⟨rf, b, h1, h2, h3⟩ | ⟨c', ns', xs', h1, h3⟩
    · cases h3
    · cases h3
      exact g' F H σ τ env ts fp _ _ hs ht R h1 _ (fun a ea => by cases ea) (fun c' ns' xs' eo F1 H1 fp1 d ws p x1 x2 => by cases eo; exact k2 _ _ _ rfl F1 H1 fp1 d ws p x1 x2)
theorem good_andV {A B : M Rf} {ta tb v1 r1' v2 r2 : List Nat} {t u : TE} (tv tr : List Nat) (g : GoodR T W A ta v1 r1' t) (g' : GoodR T W B tb v2 r2 u) : GoodR T W (andV A B) (ta ++ tb) tv tr (tAndV t u) := fun F H σ τ env ts fp o env2 hs ht R e Q k1 k2 => by
  rcases bind_cases e with ⟨z, e1, q1, ea1⟩ | ⟨c, ns, xs, q1, rfl⟩
  · rcases boolM_cases q1 with ⟨rf, b, h1, h2, h3⟩ | ⟨c, ns, xs, h1, h3⟩
    · cases h3
      refine g F H σ τ env ts fp _ _ hs ht R h1 _ (fun a ea F1 H1 fp1 v pv pd j p => ?_) (fun c ns xs eo => by cases eo)
      cases ea
      obtain ⟨rfl, rfl, j1, _⟩ := j
      obtain ⟨gg, hg⟩ := rf_own p hs ht j1 h2
      have p0 := p.drop hs ht
      refine ⟨z, hg.1, ?_⟩
      cases z with
      | false =>
        obtain ⟨rfl, rfl⟩ := ret_some (show M.ret (Rf.tmp (.bl false)) e1 = _ from ea1)
        show Q (.bl false) H1
        exact k1 _ rfl F1 H1 _ _ _ _ ⟨rfl, rfl, trivial, trivial⟩ ((p0.push0 (d := .bl false) (v := .bl false) ⟨rfl, rfl⟩).weak fun i z => List.mem_append_left _ z)
      | true =>
        show u σ H1 Q
        have R1 := p0.rel
        simp only [List.append_nil] at R1
        refine good_boolV tv tr g' F1 H1 σ τ e1 ts _ _ _ (by rw [p.len]; exact hs) ht R1 ea1 _ (fun a ea F2 H2 fp2 v pv pd j p2 => ?_) (fun c ns xs eo F2 H2 fp2 d ws p2 x1 x2 => ?_)
        · refine k1 a ea F2 H2 fp2 v pv pd j ?_
          have := Post.trans (pv1 := []) (pd1 := []) p0 (by simpa using p2)
          simpa using this
        · refine k2 c ns xs eo F2 H2 fp2 d ws ?_ x1 x2
          have := Post.trans (pv1 := []) (pd1 := []) p0 (by simpa using p2)
          simpa using this
    · cases h3
  · rcases boolM_cases q1 with ⟨rf, b, h1, h2, h3⟩ | ⟨c', ns', xs', h1, h3⟩
    · cases h3
    · cases h3
      exact g F H σ τ env ts fp _ _ hs ht R h1 _ (fun a ea => by cases ea) (fun c' ns' xs' eo F1 H1 fp1 d ws p x1 x2 => by cases eo; exact k2 _ _ _ rfl F1 H1 fp1 d ws (p.weak fun i z => List.mem_append_left _ z) x1 x2)
theorem good_orV {A B : M Rf} {ta tb v1 r1' v2 r2 : List Nat} {t u : TE} (tv tr : List Nat) (g : GoodR T W A ta v1 r1' t) (g' : GoodR T W B tb v2 r2 u) : GoodR T W (orV A B) (ta ++ tb) tv tr (tOrV t u) := fun F H σ τ env ts fp o env2 hs ht R e Q k1 k2 => by
  rcases bind_cases e with ⟨z, e1, q1, ea1⟩ | ⟨c, ns, xs, q1, rfl⟩
  · rcases boolM_cases q1 with ⟨rf, b, h1, h2, h3⟩ | ⟨c, ns, xs, h1, h3⟩
    · cases h3
      refine g F H σ τ env ts fp _ _ hs ht R h1 _ (fun a ea F1 H1 fp1 v pv pd j p => ?_) (fun c ns xs eo => by cases eo)
      cases ea
      obtain ⟨rfl, rfl, j1, _⟩ := j
      obtain ⟨gg, hg⟩ := rf_own p hs ht j1 h2
      have p0 := p.drop hs ht
      refine ⟨z, hg.1, ?_⟩
      cases z with
      | true =>
        obtain ⟨rfl, rfl⟩ := ret_some (show M.ret (Rf.tmp (.bl true)) e1 = _ from ea1)
        show Q (.bl true) H1
        exact k1 _ rfl F1 H1 _ _ _ _ ⟨rfl, rfl, trivial, trivial⟩ ((p0.push0 (d := .bl true) (v := .bl true) ⟨rfl, rfl⟩).weak fun i z => List.mem_append_left _ z)
      | false =>
        show u σ H1 Q
        have R1 := p0.rel
        simp only [List.append_nil] at R1
        refine good_boolV tv tr g' F1 H1 σ τ e1 ts _ _ _ (by rw [p.len]; exact hs) ht R1 ea1 _ (fun a ea F2 H2 fp2 v pv pd j p2 => ?_) (fun c ns xs eo F2 H2 fp2 d ws p2 x1 x2 => ?_)
        · refine k1 a ea F2 H2 fp2 v pv pd j ?_
          have := Post.trans (pv1 := []) (pd1 := []) p0 (by simpa using p2)
          simpa using this
        · refine k2 c ns xs eo F2 H2 fp2 d ws ?_ x1 x2
          have := Post.trans (pv1 := []) (pd1 := []) p0 (by simpa using p2)
          simpa using this
    · cases h3
  · rcases boolM_cases q1 with ⟨rf, b, h1, h2, h3⟩ | ⟨c', ns', xs', h1, h3⟩
    · cases h3
    · cases h3
      exact g F H σ τ env ts fp _ _ hs ht R h1 _ (fun a ea => by cases ea) (fun c' ns' xs' eo F1 H1 fp1 d ws p x1 x2 => by cases eo; exact k2 _ _ _ rfl F1 H1 fp1 d ws (p.weak fun i z => List.mem_append_left _ z) x1 x2)
/-- the end of a chain of and, of or -/
structure GB (T : Tb) (X : Cx) (W : WX) (P : Pr) (Φ : Hd') (op : BoolOp) (il : Ex') (es : List Expr) : Prop where
  val : ∀ pos : Pos, ∃ t, PE X (.BoolOp op es pos) t ∧ GoodR T W (evX P Φ il).1 (touchR il) (varsV il) (rootV il) t
  tst : ∀ pos : Pos, ∃ t, PW X (.BoolOp op es pos) t ∧ GoodB T W (evX P Φ il).2 (touchR il) t
theorem gb_and1 {il : Ex'} {e : Expr} (h : GX T X W P Φ il e) : GB T X W P Φ .And il [e] := by
  obtain ⟨t, h1, h2⟩ := h.val
  obtain ⟨u, k1, k2⟩ := h.tst
  exact ⟨fun pos => ⟨t, pe_one h1, h2⟩, fun pos => ⟨u, pw_and1 k1, k2⟩⟩
theorem gb_or1 {il : Ex'} {e : Expr} (h : GX T X W P Φ il e) : GB T X W P Φ .Or il [e] := by
  obtain ⟨t, h1, h2⟩ := h.val
  obtain ⟨u, k1, k2⟩ := h.tst
  exact ⟨fun pos => ⟨t, pe_one h1, h2⟩, fun pos => ⟨u, pw_or1 k1, k2⟩⟩
theorem gb_and {a b : Ex'} {e e' : Expr} {es : List Expr} (h : GX T X W P Φ a e) (k : GB T X W P Φ .And b (e' :: es)) : GB T X W P Φ .And (.and a b) (e :: e' :: es) := by
  obtain ⟨t, h1, h2⟩ := h.val
  obtain ⟨u, k1, k2⟩ := h.tst
  refine ⟨fun pos => ?_, fun pos => ?_⟩
  · obtain ⟨t', h3, h4⟩ := k.val pos
    exact ⟨_, pe_and h1 h3, good_andV _ _ h2 h4⟩
  · obtain ⟨t', h3, h4⟩ := k.tst pos
    exact ⟨_, pw_and k1 h3, good_andT k2 h4⟩
theorem gb_or {a b : Ex'} {e e' : Expr} {es : List Expr} (h : GX T X W P Φ a e) (k : GB T X W P Φ .Or b (e' :: es)) : GB T X W P Φ .Or (.or a b) (e :: e' :: es) := by
  obtain ⟨t, h1, h2⟩ := h.val
  obtain ⟨u, k1, k2⟩ := h.tst
  refine ⟨fun pos => ?_, fun pos => ?_⟩
  · obtain ⟨t', h3, h4⟩ := k.val pos
    exact ⟨_, pe_or h1 h3, good_orV _ _ h2 h4⟩
  · obtain ⟨t', h3, h4⟩ := k.tst pos
    exact ⟨_, pw_or k1 h3, good_orT k2 h4⟩
theorem GB.gx {op : BoolOp} {il : Ex'} {es : List Expr} {pos : Pos} (h : GB T X W P Φ op il es) : GX T X W P Φ il (.BoolOp op es pos) := by
  obtain ⟨t, h1, h2⟩ := h.val pos
  obtain ⟨u, k1, k2⟩ := h.tst pos
  exact ⟨⟨t, h1, h2⟩, ⟨u, k1.pt, k2⟩⟩
end
end RL
set_option Elab.async false
set_option linter.all false
set_option maxRecDepth 100000
set_option maxHeartbeats 4000000
/-! RL, places: items, fields; displays; ways. -/
namespace RL
open PySem L2
theorem getP_app : ∀ (p q : List Nat) (d : D), getP (p ++ q) d = (getP p d).bind (getP q)
  | [], q, d => rfl
  | n :: p, q, .nd true k xs => by
    show (xs[n]?).bind (getP (p ++ q)) = ((xs[n]?).bind (getP p)).bind (getP q)
    cases xs[n]? with
    | none => rfl
    | some x => exact getP_app p q x
  | n :: p, q, .nd false k xs => rfl
  | n :: p, q, .non => rfl
  | n :: p, q, .bl _ => rfl
  | n :: p, q, .int _ => rfl
  | n :: p, q, .str _ => rfl
  | n :: p, q, .fn _ => rfl
theorem follow_app {H : Hp} : ∀ (p q : List Nat) (v : V), follow H (p ++ q) v = (follow H p v).bind (follow H q)
  | [], q, v => rfl
  | n :: p, q, .ref a => by
    show (H a).bind (fun o => ((kidsO o)[n]?).bind (follow H (p ++ q))) = ((H a).bind fun o => ((kidsO o)[n]?).bind (follow H p)).bind (follow H q)
    cases H a with
    | none => rfl
    | some o =>
      show ((kidsO o)[n]?).bind (follow H (p ++ q)) = (((kidsO o)[n]?).bind (follow H p)).bind (follow H q)
      cases (kidsO o)[n]? with
      | none => rfl
      | some x => exact follow_app p q x
  | n :: p, q, .non => rfl
  | n :: p, q, .bl _ => rfl
  | n :: p, q, .int _ => rfl
  | n :: p, q, .str _ => rfl
  | n :: p, q, .byt _ => rfl
  | n :: p, q, .flt _ => rfl
  | n :: p, q, .ty _ => rfl

section
variable {T : Tb} {X : Cx} {W : WX} {P : Pr} {Φ : Hd'} {F H F1 H1 : Hp} {σ τ pv : List (Option V)} {env env1 ts pd : Env'} {fp fp1 : Nat → List Addr} {t1 t2 : List Nat}
theorem own_frozen_kid {d : D} {v : V} (h : Own T F H d v []) : d.own = false := by
  cases ho : d.own with
  | false => rfl
  | true =>
    cases d with
    | nd o k ds =>
      have : o = true := ho
      subst this
      unfold Own at h
      rcases h with ⟨z, _⟩ | ⟨_, a, vs, g, _, z, _⟩
      · cases z
      · cases z
    | _ => cases ho
/-- the child of a thing: where it stands, or a value of its own -/
theorem child_ok {x : Rf} {v : V} {o : Bool} {k : Kd} {xs : List D} {n : Nat} {c : D} {e e' : Env'} {out : Out Rf} {tv tr : List Nat}
    (p : Post T F H σ τ env ts fp t1 F1 H1 env1 fp1 (some v :: pv) (slotD x :: pd)) (hs : σ.length = env.length) (ht : τ.length = ts.length) (j : RfOk H1 σ env1 x v) (ji : RfIn tv tr x) (hp : pk x env1 = some (.nd o k xs)) (hc : xs[n]? = some c)
    {Q : VK} (kk : ∀ F2 H2 fp2 u, Post T F H σ τ env ts fp t1 F2 H2 env1 fp2 [some u] [slotD (childR x n c)] → RfOk H2 σ env1 (childR x n c) u → RfIn [] tr (childR x n c) → (∃ a vs, v = .ref a ∧ ((o = true ∧ AtO T H1 a k vs) ∨ (o = false ∧ AtF T F1 a k vs)) ∧ vs[n]? = some u ∧ vs.length = xs.length) → F2 = F1 → H2 = H1 → Q u H2) :
    ∃ a vs u, v = .ref a ∧ ((o = true ∧ AtO T H1 a k vs) ∨ (o = false ∧ AtF T F1 a k vs)) ∧ vs[n]? = some u ∧ vs.length = xs.length ∧ Q u H1 := by
  have p0 := p.drop hs ht
  have R0 := p0.rel
  simp only [List.append_nil] at R0
  have hs1 : σ.length = env1.length := by rw [p.len]; exact hs
  cases x with
  | tmp d0 =>
    obtain rfl : d0 = .nd o k xs := Option.some.inj hp
    have ho : Own T F1 H1 (.nd o k xs) v (fp1 (env.length + ts.length)) := by
      obtain ⟨w, q1, q2⟩ := p.rel.at_ (env.length + ts.length) (.nd o k xs) (by rw [List.getElem?_append_right (by simp [p.len])]; simp [p.len, slotD])
      rw [List.getElem?_append_right (by simp [hs, ht])] at q1
      have : v = w := by simpa [hs, ht] using q1
      rw [this]; exact q2
    have ho' := ho
    unfold Own at ho
    have main : ∀ a vs g, v = .ref a → ((o = true ∧ AtO T H1 a k vs) ∨ (o = false ∧ AtF T F1 a k vs)) → OwnL T F1 H1 xs vs g → (∀ z ∈ g, z ∈ fp1 (env.length + ts.length)) → g.Nodup → ∃ a vs u, v = .ref a ∧ ((o = true ∧ AtO T H1 a k vs) ∨ (o = false ∧ AtF T F1 a k vs)) ∧ vs[n]? = some u ∧ vs.length = xs.length ∧ Q u H1 := fun a vs g ev hat hl hsub hnd => by
      obtain ⟨u, q1, q2, q3, e1, e2, e3, _⟩ := OwnL.focus hl hc
      have lenE : vs.length = xs.length := hl.length.symm
      refine ⟨a, vs, u, ev, hat, e1, lenE, ?_⟩
      cases hown : c.own with
      | false =>
        have : q2 = [] := e3.top hown
        subst this
        have ec : childR (.tmp (.nd o k xs)) n c = .tmp c := by unfold childR; rw [hown]
        exact kk F1 H1 _ u (by rw [ec]; exact p0.push0 e3) (by rw [ec]; trivial) (by rw [ec]; trivial) ⟨a, vs, ev, hat, e1, lenE⟩ rfl rfl
      | true =>
        have ec : childR (.tmp (.nd o k xs)) n c = .tmp c := by unfold childR; rw [hown]
        have hsub2 : ∀ z ∈ q2, z ∈ fp1 (env.length + ts.length) := fun z m => hsub z (by rw [e2]; simp [m])
        have nd2 : q2.Nodup := by
          rw [e2] at hnd
          exact ((List.nodup_append.mp (List.nodup_append.mp hnd).1).2.1)
        refine kk F1 H1 _ u (by rw [ec]; exact p.fin hs ht (g := q2) (Ex.refl _) p.rel.sub (fun i _ a m => ⟨rfl, p.rel.out i a m⟩) (fun a u h => .inl ⟨u, h⟩) (fun a o h _ => h) e3 nd2 (fun z m => ⟨p.rel.out _ z (hsub2 z m), fun i hi m2 => by have := p.rel.dj _ _ z m2 (hsub2 z m); omega, .inl ⟨_, Nat.le_refl _, hsub2 z m⟩⟩)) (by rw [ec]; trivial) (by rw [ec]; trivial) ⟨a, vs, ev, hat, e1, lenE⟩ rfl rfl
    rcases ho with ⟨h0, h1, a, vs, h2, h3, h4⟩ | ⟨h0, a, vs, g, h2, h1, h3, h4⟩
    · exact main a vs [] h2 (.inr ⟨h0, h3⟩) h4 (by simp) List.nodup_nil
    · have := p.rel.nd (env.length + ts.length)
      rw [h1] at this
      exact main a vs g h2 (.inl ⟨h0, h3⟩) h4 (fun z m => by rw [h1]; exact List.mem_cons_of_mem _ m) (List.nodup_cons.mp this).2
  | at_ r q =>
    obtain ⟨vr, h1, h2, h3⟩ := j
    have hp' : (slotAt env1 r).bind (getP q) = some (.nd o k xs) := hp
    cases h4 : slotAt env1 r with
    | none => rw [h4] at hp'; cases hp'
    | some dr =>
      rw [h4] at hp'
      have h5 : getP q dr = some (.nd o k xs) := hp'
      obtain ⟨w, hw, ho⟩ := R0.at_ r dr (slot_app h4)
      have hlt := slotAt_lt h4
      rw [List.getElem?_append_left (by omega), h1] at hw
      obtain rfl : vr = w := by simpa using hw
      obtain ⟨v', ga, gb, gc, hf, hfo, hd, hh⟩ := Own.focus ho h5
      obtain rfl : v' = v := Option.some.inj (hfo.symm.trans h3)
      unfold Own at hd
      have main : ∀ a vs g, v' = .ref a → ((o = true ∧ AtO T H1 a k vs) ∨ (o = false ∧ AtF T F1 a k vs)) → OwnL T F1 H1 xs vs g → ∃ a vs u, v' = .ref a ∧ ((o = true ∧ AtO T H1 a k vs) ∨ (o = false ∧ AtF T F1 a k vs)) ∧ vs[n]? = some u ∧ vs.length = xs.length ∧ Q u H1 := fun a vs g ev hat hl => by
        obtain ⟨u, q1, q2, q3, e1, e2, e3, _⟩ := OwnL.focus hl hc
        have lenE : vs.length = xs.length := hl.length.symm
        refine ⟨a, vs, u, ev, hat, e1, lenE, ?_⟩
        cases hown : c.own with
        | false =>
          have : q2 = [] := e3.top hown
          subst this
          have ec : childR (.at_ r q) n c = .tmp c := by unfold childR; rw [hown]
          exact kk F1 H1 _ u (by rw [ec]; exact p0.push0 e3) (by rw [ec]; trivial) (by rw [ec]; trivial) ⟨a, vs, ev, hat, e1, lenE⟩ rfl rfl
        | true =>
          have ec : childR (.at_ r q) n c = .at_ r (q ++ [n]) := by unfold childR; rw [hown]
          have ot : o = true := by
            rcases hat with ⟨z, _⟩ | ⟨z, _⟩
            · exact z
            · subst z
              rcases hd with ⟨_, _, a', vs', _, _, h4'⟩ | ⟨z, _⟩
              · obtain ⟨_, _, _, _, _, e2', e3', _⟩ := OwnL.focus h4' hc
                have e4 := e2'.symm
                simp at e4
                obtain ⟨rfl, rfl, rfl⟩ := e4
                rw [own_frozen_kid e3'] at hown; cases hown
              · cases z
          subst ot
          have hato : AtO T H1 a k vs := by
            rcases hat with ⟨_, z⟩ | ⟨z, _⟩
            · exact z
            · cases z
          obtain ⟨ob, hob, hkd⟩ := hato.kids
          have fo : follow H1 (q ++ [n]) vr = some u := by
            rw [follow_app, hfo, ev]
            show (H1 a).bind _ = some u
            rw [hob]
            show ((kidsO ob)[n]?).bind _ = some u
            rw [hkd, e1]; rfl
          have gp : getP (q ++ [n]) dr = some c := by
            rw [getP_app, h5]
            show (xs[n]?).bind _ = some c
            rw [hc]; rfl
          refine kk F1 H1 (cutF (env.length + ts.length) fp1) u ?_ (by rw [ec]; exact ⟨vr, h1, fun _ => ⟨dr, c, h4, gp, hown⟩, fo⟩) (by rw [ec]; exact ⟨fun z => by simp at z, ji.2⟩) ⟨a, vs, ev, hat, e1, lenE⟩ rfl rfl
          rw [ec]
          refine ⟨p0.len, ?_, p0.tr, p0.same⟩
          have := Rel.pushN R0 u
          simpa [slotD] using this
      rcases hd with ⟨h0, h1', a, vs, h2', h3', h4'⟩ | ⟨h0, a, vs, g, h2', h1', h3', h4'⟩
      · exact main a vs [] h2' (.inr ⟨h0, h3'⟩) h4'
      · exact main a vs g h2' (.inl ⟨h0, h3'⟩) h4'
theorem childM_some {x : Rf} {xs : List D} {n : Nat} {e e2 : Env'} {o : Out Rf} (h : childM x xs n e = some (o, e2)) : ∃ c, xs[n]? = some c ∧ o = .ok (childR x n c) ∧ e2 = e := by
  rcases bind_cases h with ⟨c, e1, q1, ea1⟩ | ⟨c, ns, xs', q1, z⟩
  · obtain ⟨c', h1, h2, rfl⟩ := lift_some q1
    cases h2
    obtain ⟨rfl, rfl⟩ := ret_some ea1
    exact ⟨c, h1, rfl, rfl⟩
  · obtain ⟨_, _, h2, _⟩ := lift_some q1; cases h2
theorem ixEnd_some {x : Rf} {p q : D} {e e2 : Env'} {o : Out Rf} (h : ixEnd x p q e = some (o, e2)) : e2 = e ∧ ((∃ s, ixD p q = some (.inr s) ∧ o = .ok (.tmp s)) ∨ ∃ n ow k xs c, ixD p q = some (.inl n) ∧ p = .nd ow k xs ∧ xs[n]? = some c ∧ o = .ok (childR x n c)) := by
  rcases bind_cases h with ⟨n, e1, q1, ea1⟩ | ⟨c, ns, xs', q1, z⟩
  · obtain ⟨n', h1, h2, rfl⟩ := lift_some q1
    cases h2
    cases n with
    | inr s =>
      obtain ⟨rfl, rfl⟩ := ret_some (show M.ret (Rf.tmp s) e1 = _ from ea1)
      exact ⟨rfl, .inl ⟨s, h1, rfl⟩⟩
    | inl n =>
      cases p with
      | nd ow k xs =>
        obtain ⟨c, h3, rfl, rfl⟩ := childM_some (show childM x xs n e1 = _ from ea1)
        exact ⟨rfl, .inr ⟨n, ow, k, xs, c, h1, rfl, h3, rfl⟩⟩
      | _ => cases ea1
  · obtain ⟨_, _, h2, _⟩ := lift_some q1; cases h2
def rDG : R2 := fun x y H Q => ∃ a v, x = .ref a ∧ DGet H a y (some v) ∧ Q v H
theorem ixN_lt {n : Nat} {i : Int} {j : Nat} (h : ixN n i = some j) : j < n := (ixN_seq h).2.1
/-- an item by values -/
theorem ix_seq_of {o : Bool} {k : Kd} {xs : List D} {q : D} {n : Nat} {w : V} {g : List Addr} (s : Ex F H) (hd : isDic (.nd o k xs) = false) (hi : ixD (.nd o k xs) q = some (.inl n)) (hq : Own T F H q w g) {a : Addr} {vs : List V} {u : V}
    (hat : (o = true ∧ AtO T H a k vs) ∨ (o = false ∧ AtF T F a k vs)) (hu : vs[n]? = some u) (hl : vs.length = xs.length) {Q : VK} (hQ : Q u H) : rIx T.K (.ref a) w H Q := by
  have go : ∀ {i : Int}, q = .int i → (ixN xs.length i).map Sum.inl = some (Sum.inl n : Sum Nat D) → (SqL T.K H a vs ∨ SqT T.K H a vs) → rIx T.K (.ref a) w H Q := fun {i} eq h hs => by
    subst eq
    have hw := hq.1
    cases h2 : ixN xs.length i with
    | none => rw [h2] at h; cases h
    | some m =>
      rw [h2] at h
      have : m = n := by
        have := Option.some.inj h
        exact Sum.inl.inj this
      subst this
      have hA : atI vs i = some u := by
        unfold atI
        rw [hl, h2]
        exact hu
      rcases hs with hs | hs
      · exact .inl ⟨a, vs, i, u, rfl, hw, hs, hA, hQ⟩
      · exact .inr (.inl ⟨a, vs, i, u, rfl, hw, hs, hA, hQ⟩)
  cases k with
  | tup =>
    cases q with
    | int i =>
      refine go rfl hi (.inr ?_)
      rcases hat with ⟨_, z⟩ | ⟨_, z⟩
      · exact z.elim
      · exact SqT.of (s _ _ z)
    | _ => cases hi
  | ktup =>
    cases q with
    | int i =>
      refine go rfl hi (.inr ?_)
      rcases hat with ⟨_, z⟩ | ⟨_, z⟩
      · exact z.elim
      · exact ex_t s z
    | _ => cases hi
  | lst =>
    cases q with
    | int i =>
      refine go rfl hi (.inl ?_)
      rcases hat with ⟨_, z⟩ | ⟨_, z⟩
      · exact SqL.of z
      · exact SqL.of (s _ _ z)
    | _ => cases hi
  | fr => cases q <;> cases hi
  | ins _ _ => cases q <;> cases hi
  | dK _ => cases hd
  | dT _ => cases hd
theorem ix_dic_of {o : Bool} {k : Kd} {xs : List D} {q : D} {n : Nat} (hd : isDic (.nd o k xs) = true) (hi : ixD (.nd o k xs) q = some (.inl n)) : dicAt k q = some (some n) := by
  cases k with
  | dK ks =>
    have h : (asKey q).bind (fun z => (pos z ks).map Sum.inl) = some (Sum.inl n : Sum Nat D) := by
      have h' : ixD (.nd o (.dK ks) xs) q = (asKey q).bind fun z => (pos z ks).map .inl := by cases q <;> rfl
      rw [h'] at hi
      exact hi
    cases h1 : asKey q with
    | none => rw [h1] at h; cases h
    | some z =>
      rw [h1] at h
      cases h2 : pos z ks with
      | none => rw [show (some z).bind (fun z => (pos z ks).map Sum.inl) = (pos z ks).map (Sum.inl : Nat → Sum Nat D) from rfl, h2] at h; cases h
      | some m =>
        rw [show (some z).bind (fun z => (pos z ks).map Sum.inl) = (pos z ks).map (Sum.inl : Nat → Sum Nat D) from rfl, h2] at h
        have : m = n := Sum.inl.inj (Option.some.inj h)
        subst this
        unfold dicAt
        rw [h1]
        show some (pos z ks) = some (some m)
        rw [h2]
  | dT ks =>
    have h : (asTKey q).bind (fun z => (pos z ks).map Sum.inl) = some (Sum.inl n : Sum Nat D) := by
      have h' : ixD (.nd o (.dT ks) xs) q = (asTKey q).bind fun z => (pos z ks).map .inl := by cases q <;> rfl
      rw [h'] at hi
      exact hi
    cases h1 : asTKey q with
    | none => rw [h1] at h; cases h
    | some z =>
      rw [h1] at h
      cases h2 : pos z ks with
      | none => rw [show (some z).bind (fun z => (pos z ks).map Sum.inl) = (pos z ks).map (Sum.inl : Nat → Sum Nat D) from rfl, h2] at h; cases h
      | some m =>
        rw [show (some z).bind (fun z => (pos z ks).map Sum.inl) = (pos z ks).map (Sum.inl : Nat → Sum Nat D) from rfl, h2] at h
        have : m = n := Sum.inl.inj (Option.some.inj h)
        subst this
        unfold dicAt
        rw [h1]
        show some (pos z ks) = some (some m)
        rw [h2]
  | _ => cases hd
theorem ixD_str {p q s : D} (h : ixD p q = some (.inr s)) : ∃ z i c, p = .str z ∧ q = .int i ∧ z.length ≤ lim ∧ atI z.cps.toList i = some c ∧ s = .str ⟨#[c]⟩ := by
  have no : ∀ {x : Option Nat}, (x.map Sum.inl : Option (Sum Nat D)) ≠ some (.inr s) := fun {x} z => by cases x <;> cases z
  unfold ixD at h
  split at h
  · exact absurd h no
  · exact absurd h no
  · exact absurd h no
  · cases hm : asKey q with
    | none => rw [hm] at h; cases h
    | some z => rw [hm] at h; exact absurd h no
  · cases hm : asTKey q with
    | none => rw [hm] at h; cases h
    | some z => rw [hm] at h; exact absurd h no
  · rename_i z i
    split at h
    · rename_i hz
      cases hA : atI z.cps.toList i with
      | none => rw [hA] at h; cases h
      | some c =>
        rw [hA] at h
        exact ⟨z, i, c, rfl, rfl, of_decide_eq_true hz, hA, (Sum.inr.inj (Option.some.inj h)).symm⟩
    · cases h
  · cases h
theorem good_ix {A : M (List Rf)} {tch tv tr : List Nat} {t u : TE} (g : GoodA T W A tch tv tr (tCons t (tCons u tNil))) : GoodR T W (ixM A) tch [] tr (fun σ H Q => tOp (rIx T.K) t u σ H Q ∨ tOp rDG t u σ H Q) := fun F H σ τ env ts fp o env2 hs ht R e Q k1 k2 => by
  rcases bind_cases e with ⟨rs, e1, q1, ea1⟩ | ⟨c, ns, xs, q1, rfl⟩
  · rcases bind_cases ea1 with ⟨ds, e2, q2, ea2⟩ | ⟨c, ns, xs, q2, rfl⟩
    · obtain ⟨ds', q3, h1, rfl⟩ := pkLM_some q2
      cases h1
      match rs, ds, ea2, q3 with
      | [x, y], [p, q], ea2, q3 =>
        obtain ⟨hee, hcase⟩ := ixEnd_some (show ixEnd x p q _ = _ from ea2)
        subst hee
        have hpx : pk x env2 = some p ∧ pk y env2 = some q := by
          have h : (pk x env2).bind (fun d => ((pk y env2).bind fun d' => some [d']).map (d :: ·)) = some [p, q] := q3
          cases hx : pk x env2 with
          | none => rw [hx] at h; cases h
          | some d =>
            cases hy : pk y env2 with
            | none => rw [hx, hy] at h; cases h
            | some d' => rw [hx, hy] at h; have := Option.some.inj h; simp at this; exact ⟨by rw [this.1], by rw [this.2]⟩
        have fin : ∀ (r : R2), (∀ F1 H1 fp1 v w, Ex F1 H1 → Post T F H σ τ env ts fp tch F1 H1 env2 fp1 [some v, some w] [slotD x, slotD y] → RfOk H1 σ env2 x v → RfIn tv tr x → (∃ gq, Own T F1 H1 q w gq) → (∃ gp, Own T F1 H1 p v gp) → r v w H1 Q) → tOp r t u σ H Q := fun r hr =>
          g F H σ τ env ts fp _ _ hs ht R q1 (fun vs H1 => r2 r vs H1 Q) (fun a ea F1 H1 fp1 vs pv pd j p1 => by
            cases ea
            obtain ⟨rfl, rfl, j1⟩ := j
            have ar := p1.args hs ht j1 q3
            obtain ⟨v, w, g1, g2, rfl, o1, o2⟩ := args2 ar
            obtain ⟨_, _, hv, jx, jin, _⟩ := j1
            cases hv
            exact hr F1 H1 fp1 v w p1.rel.sub p1 jx jin ⟨g2, o2⟩ ⟨g1, o1⟩) (fun c ns xs eo => by cases eo)
        rcases hcase with ⟨s, hi, rfl⟩ | ⟨n, ow, kd, xs, c, hi, rfl, hc, rfl⟩
        · left
          refine fin _ fun F1 H1 fp1 v w sx p1 jx ji ⟨gq, hq⟩ ⟨gp, hp⟩ => ?_
          obtain ⟨z, i, c, rfl, rfl, hz, hA, rfl⟩ := ixD_str hi
          refine .inr (.inr ⟨z, i, c, hp.1, hq.1, lim_le hz, hA, ?_⟩)
          obtain ⟨fp2, p2⟩ := p1.res hs ht (d := .str ⟨#[c]⟩) (v := .str ⟨#[c]⟩) res_str
          exact k1 _ rfl F1 H1 fp2 _ _ _ ⟨rfl, rfl, trivial, trivial⟩ p2
        · have p2 : ∀ {F1 H1 fp1 v w} (sx : Ex F1 H1) (p1 : Post T F H σ τ env ts fp tch F1 H1 env2 fp1 [some v, some w] [slotD x, slotD y]) (jx : RfOk H1 σ env2 x v) (ji : RfIn tv tr x), ∃ a vs u, v = .ref a ∧ ((ow = true ∧ AtO T H1 a kd vs) ∨ (ow = false ∧ AtF T F1 a kd vs)) ∧ vs[n]? = some u ∧ vs.length = xs.length ∧ Q u H1 := fun {F1 H1 fp1 v w} sx p1 jx ji =>
            child_ok (e := env2) (e' := env2) (out := .ok x) (pv := [some w]) (pd := [slotD y]) p1 hs ht jx ji hpx.1 hc fun F2 H2 fp2 u pp rj ri _ _ _ => k1 _ rfl F2 H2 fp2 u _ _ ⟨rfl, rfl, rj, ri⟩ pp
          cases hd : isDic (.nd ow kd xs) with
          | false =>
            left
            refine fin _ fun F1 H1 fp1 v w sx p1 jx ji ⟨gq, hq⟩ _ => ?_
            obtain ⟨a, vs, uu, rfl, hat, hu, hl, hQ⟩ := p2 sx p1 jx ji
            exact ix_seq_of sx hd hi hq hat hu hl hQ
          | true =>
            right
            refine fin _ fun F1 H1 fp1 v w sx p1 jx ji ⟨gq, hq⟩ ⟨gp, hp⟩ => ?_
            obtain ⟨a, vs, uu, rfl, hat, hu, hl, hQ⟩ := p2 sx p1 jx ji
            have hda := ix_dic_of hd hi
            have hg := dget_at sx hat hq hda
            refine ⟨a, uu, rfl, ?_, hQ⟩
            have : (some n : Option Nat).bind (fun i => vs[i]?) = some uu := hu
            rw [this] at hg
            exact hg
      | [], _, ea2, _ => cases ea2
      | [_], _, ea2, _ => cases ea2
      | [_, _], [], ea2, _ => cases ea2
      | [_, _], [_], ea2, _ => cases ea2
      | [_, _], _ :: _ :: _ :: _, ea2, _ => cases ea2
      | _ :: _ :: _ :: _, _, ea2, _ => cases ea2
    · obtain ⟨_, _, z, _⟩ := pkLM_some q2; cases z
  · left
    exact g F H σ τ env ts fp _ _ hs ht R q1 (fun vs H1 => r2 (rIx T.K) vs H1 Q) (fun a ea => by cases ea) (fun c' ns' xs' eo F1 H1 fp1 d ws p x1 x2 => by cases eo; exact k2 _ _ _ rfl F1 H1 fp1 d ws p x1 x2)
end
end RL
set_option Elab.async false
set_option linter.all false
set_option maxRecDepth 100000
set_option maxHeartbeats 4000000
/-! RL, more of expressions: items, fields, slices, ways, displays. -/
namespace RL
open PySem L2
section
variable {T : Tb} {X : Cx} {W : WX} {P : Pr} {Φ : Hd'} {F H F1 H1 : Hp} {σ τ pv : List (Option V)} {env env1 ts pd : Env'} {fp fp1 : Nat → List Addr} {t1 t2 : List Nat}
theorem PE.or {e : Expr} {t t' : TE} (h : PE X e t) (h' : PE X e t') : PE X e (fun σ H Q => t σ H Q ∨ t' σ H Q) := ⟨fun pins s σ H Q I k => by
  rcases k with k | k
  · exact h.run pins s σ H Q I k
  · exact h'.run pins s σ H Q I k⟩
theorem gx_ix (O : XOk T X W P) {a b : Ex'} {ea eb : Expr} {pos : Pos} (h : GX T X W P Φ a ea) (k : GX T X W P Φ b eb) (hb : PlainIx eb) : GX T X W P Φ (.ix a b) (.Subscript ea eb pos) := by
  obtain ⟨t, h1, h2⟩ := h.val
  obtain ⟨u, k1, k2⟩ := k.val
  refine gx_of O (PE.or (pe_ix (ix_seq (X := X)) h1 k1 hb) (pe_dget (by have := O.hu; omega) h1 k1 hb)) ?_ (fun _ => rfl) rfl
  rw [O.hK]
  exact good_ix (good_two h2 k2)

/-! fields -/
theorem lookup_zip {f : Str} : ∀ {ns : List Str} {vs : List V} {n : Nat}, pos f ns = some n → (ns.zip vs).lookup f = vs[n]?
  | [], vs, n, h => by cases h
  | m :: ns, [], n, h => by simp
  | m :: ns, v :: vs, n, h => by
    unfold pos at h
    rw [List.zip_cons_cons, List.lookup_cons]
    by_cases e : m = f
    · rw [if_pos e] at h
      obtain rfl := Option.some.inj h
      have : (f == m) = true := by simp [e]
      rw [this]; rfl
    · rw [if_neg e] at h
      cases h2 : pos f ns with
      | none => rw [h2] at h; cases h
      | some j =>
        rw [h2] at h
        obtain rfl := Option.some.inj h
        have : (f == m) = false := by
          have : f ≠ m := fun z => e z.symm
          simpa using this
        rw [this]
        simpa using lookup_zip h2
theorem good_fld {A : M Rf} {tch tv tr : List Nat} {t : TE} {f : Str} (cl : ∀ c f, (P.flds c).contains f = true → Cls T.K (T.cA c) ∧ NoAttr T.K (T.cA c) f) (g : GoodR T W A tch tv tr t) : GoodR T W (fldM P A f) tch [] tr (tFld T.K t f) := fun F H σ τ env ts fp o env2 hs ht R e Q k1 k2 => by
  rcases bind_cases e with ⟨x, e1, q1, ea1⟩ | ⟨c, ns, xs, q1, rfl⟩
  · rcases bind_cases ea1 with ⟨d, e2, q2, ea2⟩ | ⟨c, ns, xs, q2, rfl⟩
    · obtain ⟨d', q3, h1, rfl⟩ := pkM_some q2
      cases h1
      cases d with
      | nd o' kd xs =>
        cases kd with
        | ins k ns =>
          rcases bind_cases ea2 with ⟨_, e3, q4, ea3⟩ | ⟨c, ns', xs', q4, rfl⟩
          · obtain ⟨hc, _, rfl⟩ := guard_some q4
            rcases bind_cases ea3 with ⟨n, e4, q5, ea4⟩ | ⟨c, ns', xs', q5, rfl⟩
            · obtain ⟨n', hp, h2, rfl⟩ := lift_some q5
              cases h2
              obtain ⟨c, hcx, rfl, rfl⟩ := childM_some ea4
              refine g F H σ τ env ts fp _ _ hs ht R q1 _ (fun a ea F1 H1 fp1 v pv pd j p => ?_) (fun c ns xs eo => by cases eo)
              cases ea
              obtain ⟨rfl, rfl, j1, j2⟩ := j
              obtain ⟨a, vs, u, rfl, hat, hu, hl, hQ⟩ := child_ok (e := env2) (e' := env2) (out := .ok x) (pv := []) (pd := []) p hs ht j1 j2 q3 hcx (Q := Q) fun F2 H2 fp2 u pp rj ri _ _ _ => k1 _ rfl F2 H2 fp2 u _ _ ⟨rfl, rfl, rj, ri⟩ pp
              obtain ⟨c1, c2⟩ := cl k f hc
              have hH : ∃ dx, H1 a = some (.ins (T.cA k) dx (ns.zip vs)) := by
                rcases hat with ⟨_, z⟩ | ⟨_, z⟩
                · exact z.2
                · obtain ⟨dx, z⟩ := z.2; exact ⟨dx, p.rel.sub _ _ z⟩
              obtain ⟨dx, hH⟩ := hH
              exact ⟨a, T.cA k, dx, ns.zip vs, u, rfl, hH, c1, c2, by rw [lookup_zip hp, hu], hQ⟩
            · obtain ⟨_, _, z, _⟩ := lift_some q5; cases z
          · obtain ⟨_, z, _⟩ := guard_some q4; cases z
        | _ => cases ea2
      | _ => cases ea2
    · obtain ⟨_, _, z, _⟩ := pkM_some q2; cases z
  · exact g F H σ τ env ts fp _ _ hs ht R q1 _ (fun a ea => by cases ea) (fun c' ns' xs' eo F1 H1 fp1 d ws p x1 x2 => by cases eo; exact k2 _ _ _ rfl F1 H1 fp1 d ws p x1 x2)
theorem gx_fld (O : XOk T X W P) {a : Ex'} {ea : Expr} {f : Str} {pos : Pos} (h : GX T X W P Φ a ea) (hb : attributeBase ea f X.env (eval ea X.env) = eval ea X.env) : GX T X W P Φ (.fld a f) (.Attribute ea f pos) := by
  obtain ⟨t, h1, h2⟩ := h.val
  refine gx_of O (pe_fld h1 hb) ?_ (fun _ => rfl) rfl
  rw [O.hK]
  exact good_fld O.cl h2

/-! ways -/
theorem good_if {α β : Type} {C : M Bool} {A B : M α} {tc ta tb : List Nat} {t : TT} {u w : L2.St → Hp → (β → Hp → Prop) → Prop} {J} (g : GoodB T W C tc t) (ga : GoodG T W A ta u J) (gb : GoodG T W B tb w J) :
    GoodG T W (ifM C A B) (tc ++ (ta ++ tb)) (fun σ H Q => t σ H fun c H1 => if c = true then u σ H1 Q else w σ H1 Q) J := fun F H σ τ env ts fp o env2 hs ht R e Q k1 k2 => by
  rcases bind_cases e with ⟨z, e1, q1, ea1⟩ | ⟨c, ns, xs, q1, rfl⟩
  · refine g F H σ τ env ts fp _ _ hs ht R q1 _ (fun a ea F1 H1 fp1 v pv pd j p => ?_) (fun c ns xs eo => by cases eo)
    cases ea
    obtain ⟨rfl, rfl, rfl⟩ := j
    have R1 := p.rel
    simp only [List.append_nil] at R1
    cases z with
    | true =>
      show u σ H1 Q
      refine ga F1 H1 σ τ e1 ts fp1 _ _ (by rw [p.len]; exact hs) ht R1 ea1 _ (fun a ea F2 H2 fp2 v pv pd j p2 => ?_) (fun c ns xs eo F2 H2 fp2 d ws p2 x1 x2 => ?_)
      · refine k1 a ea F2 H2 fp2 v pv pd j ?_
        have := Post.trans (pv1 := []) (pd1 := []) p (by simpa using p2)
        exact (show Post T F H σ τ env ts fp (tc ++ ta) F2 H2 env2 fp2 pv pd by simpa using this).weak fun i z => by simp at z ⊢; rcases z with z | z <;> simp [z]
      · refine k2 c ns xs eo F2 H2 fp2 d ws ?_ x1 x2
        have := Post.trans (pv1 := []) (pd1 := []) p (by simpa using p2)
        exact (show Post T F H σ τ env ts fp (tc ++ ta) F2 H2 env2 fp2 [] [] by simpa using this).weak fun i z => by simp at z ⊢; rcases z with z | z <;> simp [z]
    | false =>
      show w σ H1 Q
      refine gb F1 H1 σ τ e1 ts fp1 _ _ (by rw [p.len]; exact hs) ht R1 ea1 _ (fun a ea F2 H2 fp2 v pv pd j p2 => ?_) (fun c ns xs eo F2 H2 fp2 d ws p2 x1 x2 => ?_)
      · refine k1 a ea F2 H2 fp2 v pv pd j ?_
        have := Post.trans (pv1 := []) (pd1 := []) p (by simpa using p2)
        exact (show Post T F H σ τ env ts fp (tc ++ tb) F2 H2 env2 fp2 pv pd by simpa using this).weak fun i z => by simp at z ⊢; rcases z with z | z <;> simp [z]
      · refine k2 c ns xs eo F2 H2 fp2 d ws ?_ x1 x2
        have := Post.trans (pv1 := []) (pd1 := []) p (by simpa using p2)
        exact (show Post T F H σ τ env ts fp (tc ++ tb) F2 H2 env2 fp2 [] [] by simpa using this).weak fun i z => by simp at z ⊢; rcases z with z | z <;> simp [z]
  · exact g F H σ τ env ts fp _ _ hs ht R q1 _ (fun a ea => by cases ea) (fun c' ns' xs' eo F1 H1 fp1 d ws p x1 x2 => by cases eo; exact k2 _ _ _ rfl F1 H1 fp1 d ws (p.weak fun i z => List.mem_append_left _ z) x1 x2)
theorem gx_ife (O : XOk T X W P) {c a b : Ex'} {ec ea eb : Expr} {pos : Pos} (hc : GX T X W P Φ c ec) (h : GX T X W P Φ a ea) (k : GX T X W P Φ b eb) : GX T X W P Φ (.ife c a b) (.IfExp ec ea eb pos) := by
  obtain ⟨t, h1, h2⟩ := h.val
  obtain ⟨u, k1, k2⟩ := k.val
  obtain ⟨w, c1, c2⟩ := hc.tst
  exact ⟨⟨_, pe_ifExp c1 h1 k1, good_tmp _ _ (good_if c2 (good_take h2) (good_take k2))⟩, ⟨fun _ _ _ => False, ⟨fun _ _ _ _ _ _ z => z.elim⟩, fun F H σ τ env ts fp o env2 hs ht R e => by cases e⟩⟩

/-! frozen -/
theorem fzD_own {d : D} {v : V} (h : Own T F H d v []) : Own T F H (fz d) v [] := by rw [h.frozen]; exact h
/-- a temporary frozen -/
theorem Post.frz {pv' : List (Option V)} {d : D} {v : V} (p : Post T F H σ τ env ts fp t1 F1 H1 env1 fp1 [some v] [some d]) (hs : σ.length = env.length) (ht : τ.length = ts.length) : ∃ F2 fp2, Post T F H σ τ env ts fp t1 F2 H1 env1 fp2 [some v] [some (fz d)] := by
  have ho := Post.last (pv := []) (pd := []) p hs ht rfl
  let g := fp1 (env.length + ts.length)
  have hg : ∀ a, a ∈ g → ∃ o, H1 a = some o := fun a m => p.rel.dom _ a m
  refine ⟨fun a => if a ∈ g then H1 a else F1 a, _, p.fin hs ht (g := []) (fun a u h => ?_) (fun a u h => ?_) (fun i hi a m => ?_) (fun a u h => ?_) (fun a u h _ => h) (Own.freeze ?_ d v g (fun a m => ?_) ho) List.nodup_nil (by simp)⟩
  · show (if a ∈ g then H1 a else F1 a) = some u
    by_cases e : a ∈ g
    · rw [if_pos e]; exact p.rel.sub a u h
    · rw [if_neg e]; exact h
  · have h' : (if a ∈ g then H1 a else F1 a) = some u := h
    by_cases e : a ∈ g
    · rw [if_pos e] at h'; exact h'
    · rw [if_neg e] at h'; exact p.rel.sub a u h'
  · refine ⟨rfl, ?_⟩
    have e : a ∉ g := fun m2 => by
      have := p.rel.dj i _ a m m2
      omega
    show (if a ∈ g then H1 a else F1 a) = none
    rw [if_neg e]
    exact p.rel.out i a m
  · have h' : (if a ∈ g then H1 a else F1 a) = some u := h
    by_cases e : a ∈ g
    · exact .inr (.inl ⟨_, Nat.le_refl _, e⟩)
    · rw [if_neg e] at h'; exact .inl ⟨u, h'⟩
  · intro a u h
    show (if a ∈ g then H1 a else F1 a) = some u
    by_cases e : a ∈ g
    · rw [if_pos e]; exact p.rel.sub a u h
    · rw [if_neg e]; exact h
  · show (if a ∈ g then H1 a else F1 a) = H1 a
    rw [if_pos m]
theorem good_frz {A : M D} {tch : List Nat} {t : TE} (g : GoodD T W A tch t) : GoodD T W (M.bind A fun d => .ret (fz d)) tch t := fun F H σ τ env ts fp o env2 hs ht R e Q k1 k2 => by
  rcases bind_cases e with ⟨d, e1, q1, ea1⟩ | ⟨c, ns, xs, q1, rfl⟩
  · obtain ⟨rfl, rfl⟩ := ret_some ea1
    refine g F H σ τ env ts fp _ _ hs ht R q1 _ (fun a ea F1 H1 fp1 v pv pd j p => ?_) (fun c ns xs eo => by cases eo)
    cases ea
    obtain ⟨rfl, rfl⟩ := j
    obtain ⟨F2, fp2, p2⟩ := Post.frz (pv' := []) p hs ht
    exact k1 _ rfl F2 H1 fp2 v _ _ ⟨rfl, rfl⟩ p2
  · exact g F H σ τ env ts fp _ _ hs ht R q1 _ (fun a ea => by cases ea) (fun c' ns' xs' eo F1 H1 fp1 d ws p x1 x2 => by cases eo; exact k2 _ _ _ rfl F1 H1 fp1 d ws p x1 x2)
theorem gx_frz {a : Ex'} {ea : Expr} (h : GX T X W P Φ a ea) : GX T X W P Φ (.frz a) ea := by
  obtain ⟨t, h1, h2⟩ := h.val
  exact ⟨⟨_, h1, good_tmp _ _ (good_frz (good_take h2))⟩, ⟨fun _ _ _ => False, ⟨fun _ _ _ _ _ _ z => z.elim⟩, fun F H σ τ env ts fp o env2 hs ht R e => by cases e⟩⟩
end
end RL
set_option Elab.async false
set_option linter.all false
set_option maxRecDepth 100000
set_option maxHeartbeats 4000000
/-! RL, displays; chains; slices. -/
namespace RL
open PySem L2
section
variable {T : Tb} {X : Cx} {W : WX} {P : Pr} {Φ : Hd'} {F H F1 H1 : Hp} {σ τ pv : List (Option V)} {env env1 ts pd : Env'} {fp fp1 : Nat → List Addr} {t1 t2 : List Nat}
/-- things that go out of their slots -/
def AllT (tv : List Nat) (σ : L2.St) : List Rf → List V → Prop
  | [], vs => vs = []
  | r :: rs, vs => ∃ v ws, vs = v :: ws ∧ (∀ i, r = .at_ i [] → σ[i]? = some (some v) ∧ i ∈ tv) ∧ AllT tv σ rs ws
theorem AllR.t {tv tr : List Nat} : ∀ {rs : List Rf} {vs : List V}, AllR tv tr H σ env rs vs → AllT tv σ rs vs
  | [], _, h => h
  | r :: rs, vs, h => by
    obtain ⟨v, ws, rfl, h1, h2, h3⟩ := h
    refine ⟨v, ws, rfl, fun i e => ?_, AllR.t h3⟩
    subst e
    obtain ⟨vr, q1, _, q3⟩ := h1
    obtain rfl : vr = v := Option.some.inj q3
    exact ⟨q1, h2.1 rfl⟩
theorem take_list {tv : List Nat} (hs : σ.length = env.length) (ht : τ.length = ts.length) : ∀ {rs : List Rf} {vs : List V} {pv pd env1 fp1 t1} {o : Out (List D)} {env2 : Env'}, pv.length = pd.length → Post T F H σ τ env ts fp t1 F1 H1 env1 fp1 (pv ++ vs.map some) (pd ++ rs.map slotD) → AllT tv σ rs vs → takeL rs env1 = some (o, env2) →
    ∃ ds fp2, o = .ok ds ∧ ds.length = vs.length ∧ Post T F H σ τ env ts fp (t1 ++ tv) F1 H1 env2 fp2 (pv ++ vs.map some) (pd ++ ds.map some)
  | [], vs, pv, pd, env1, fp1, t1, o, env2, hp, p, h, e => by
    obtain ⟨rfl, rfl⟩ := ret_some (show M.ret [] env1 = _ from e)
    have : vs = [] := h
    subst this
    exact ⟨[], fp1, rfl, rfl, p.weak fun i z => List.mem_append_left _ z⟩
  | r :: rs, vs, pv, pd, env1, fp1, t1, o, env2, hp, p, h, e => by
    obtain ⟨v, ws, rfl, h1, h2⟩ := h
    rcases bind_cases (show M.bind (takeR r) _ env1 = _ from e) with ⟨d, e1, q1, ea1⟩ | ⟨c, ns, xs, q1, rfl⟩
    · have step : ∃ fp2, Post T F H σ τ env ts fp (t1 ++ tv) F1 H1 e1 fp2 ((pv ++ [some v]) ++ ws.map some) ((pd ++ [some d]) ++ rs.map slotD) := by
        rcases takeR_some q1 with ⟨d0, rfl, ho, rfl⟩ | ⟨i, d0, rfl, hsl, ho, rfl⟩
        · cases ho
          exact ⟨fp1, by have := p.weak (t2 := t1 ++ tv) fun i z => List.mem_append_left _ z; simpa [slotD] using this⟩
        · cases ho
          obtain ⟨a1, a2⟩ := h1 i rfl
          obtain ⟨fp2, p2⟩ := Post.move (pv := pv) (pd := pd) (pv' := ws.map some) (pd' := rs.map slotD) (r := i) (d := d) (v := v) (by simpa [slotD] using p) hs ht hp a1 hsl
          have hw := p2.weak (t2 := t1 ++ tv) fun j z => (by
            rcases List.mem_append.mp z with z | z
            · exact List.mem_append_left _ z
            · have : j = i := by simpa using z
              subst this
              exact List.mem_append_right _ a2)
          exact ⟨fp2, by simpa using hw⟩
      obtain ⟨fp2, p2⟩ := step
      rcases bind_cases ea1 with ⟨ds, e2, q2, ea2⟩ | ⟨c, ns, xs, q2, rfl⟩
      · obtain ⟨rfl, rfl⟩ := ret_some ea2
        obtain ⟨ds', fp3, h3, h4, p3⟩ := take_list hs ht (by simp [hp]) p2 h2 q2
        cases h3
        exact ⟨d :: ds, fp3, rfl, by simp [h4], by have := p3.weak (t2 := t1 ++ tv) fun i z => (by simp at z ⊢; exact z); simpa using this⟩
      · obtain ⟨ds', fp3, h3, _⟩ := take_list hs ht (by simp [hp]) p2 h2 q2
        cases h3
    · rcases takeR_some q1 with ⟨d0, _, ho, _⟩ | ⟨i, d0, _, _, ho, _⟩ <;> cases ho
theorem ownL_temps : ∀ {ds : List D} {vs : List V} {S S' : List (Option V)} {E E' : Env'}, Rel T F H (S ++ vs.map some ++ S') (E ++ ds.map some ++ E') fp → S.length = E.length → ds.length = vs.length →
    ∃ g, OwnL T F H ds vs g ∧ g.Nodup ∧ ∀ a ∈ g, ∃ i, E.length ≤ i ∧ i < E.length + ds.length ∧ a ∈ fp i
  | [], vs, S, S', E, E', R, hl, hd => by
    have : vs = [] := List.eq_nil_of_length_eq_zero (by simpa using hd.symm)
    subst this
    exact ⟨[], OwnL.nil_, List.nodup_nil, by simp⟩
  | d :: ds, [], S, S', E, E', R, hl, hd => by simp at hd
  | d :: ds, v :: vs, S, S', E, E', R, hl, hd => by
    have R' : Rel T F H ((S ++ [some v]) ++ vs.map some ++ S') ((E ++ [some d]) ++ ds.map some ++ E') fp := by simpa [List.append_assoc] using R
    obtain ⟨g, h1, h2, h3⟩ := ownL_temps R' (by simp [hl]) (by simpa using hd)
    obtain ⟨w, q1, q2⟩ := R.at_ E.length d (by simp)
    have : v = w := by
      have : (S ++ (v :: vs).map some ++ S')[E.length]? = some (some v) := by rw [← hl]; simp
      rw [this] at q1; simpa using q1
    subst this
    refine ⟨fp E.length ++ g, OwnL.cons_ q2 h1, List.nodup_append.mpr ⟨R.nd _, h2, fun a m b m2 e => ?_⟩, fun a m => ?_⟩
    · subst e
      obtain ⟨i, i1, i2, i3⟩ := h3 a m2
      have := R.dj _ _ a m i3
      simp at i1; omega
    · rcases List.mem_append.mp m with m | m
      · exact ⟨_, Nat.le_refl _, by simp, m⟩
      · obtain ⟨i, i1, i2, i3⟩ := h3 a m
        simp at i1 i2
        exact ⟨i, by omega, by simp; omega, i3⟩
/-- temporaries gathered in a new list of the own -/
theorem Post.mkLst {ds : List D} {vs : List V} {a : Addr} (p : Post T F H σ τ env ts fp t1 F1 H1 env1 fp1 (vs.map some) (ds.map some)) (hs : σ.length = env.length) (ht : τ.length = ts.length) (hd : ds.length = vs.length) (ha : H1 a = none) :
    ∃ fp2, Post T F H σ τ env ts fp t1 F1 (upd H1 a (.lst vs)) env1 fp2 [some (.ref a)] [some (.olst ds)] := by
  have e1 : (env1 ++ ts).length = env.length + ts.length := by simp [p.len]
  obtain ⟨g, h1, h2, h3⟩ := ownL_temps (S := σ ++ τ) (S' := []) (E := env1 ++ ts) (E' := []) (by simpa using p.rel) (by simp [p.len, hs, ht]) hd
  have nfp : ∀ i, a ∉ fp1 i := fun i m => by
    obtain ⟨u, hu⟩ := p.rel.dom i a m
    rw [hu] at ha; cases ha
  have ne : ∀ {b}, (∃ i, b ∈ fp1 i) → b ≠ a := fun {b} ⟨i, m⟩ z => nfp i (z ▸ m)
  have fa : F1 a = none := by
    cases h : F1 a with
    | none => rfl
    | some u => rw [p.rel.sub a u h] at ha; cases ha
  refine ⟨_, p.fin hs ht (F2 := F1) (H2 := upd H1 a (.lst vs)) (g := a :: g) (Ex.refl _) (p.rel.sub.trans (Ex.new ha)) (fun i hi b m => ⟨upd_ne (ne ⟨i, m⟩), p.rel.out i b m⟩) (fun b u h => .inl ⟨u, h⟩) (fun b u h _ => by rw [upd_ne (ne_of_none h ha)]; exact h) ?_ ?_ fun b m => ?_⟩
  · unfold Own
    refine .inr ⟨rfl, a, vs, g, rfl, rfl, upd_same, OwnL.mono (Ex.refl _) ds vs g (fun b m => upd_ne ?_) h1⟩
    obtain ⟨i, _, _, i3⟩ := h3 b m
    exact ne ⟨i, i3⟩
  · refine List.nodup_cons.mpr ⟨fun m => ?_, h2⟩
    obtain ⟨i, _, _, i3⟩ := h3 a m
    exact nfp i i3
  · rcases List.mem_cons.mp m with rfl | m
    · exact ⟨fa, fun i _ => nfp i, .inr ha⟩
    · obtain ⟨i, i1, _, i3⟩ := h3 b m
      rw [e1] at i1
      exact ⟨p.rel.out i b i3, fun j hj m2 => by have := p.rel.dj j i b m2 i3; omega, .inl ⟨i, i1, i3⟩⟩
/-- temporaries gathered in a new tuple -/
theorem Post.mkTup {ds : List D} {vs : List V} {a : Addr} (p : Post T F H σ τ env ts fp t1 F1 H1 env1 fp1 (vs.map some) (ds.map some)) (hs : σ.length = env.length) (ht : τ.length = ts.length) (hd : ds.length = vs.length) (ha : H1 a = none) :
    ∃ F2 fp2, Post T F H σ τ env ts fp t1 F2 (upd H1 a (.tup vs)) env1 fp2 [some (.ref a)] [some (.tup (fzL ds))] := by
  have e1 : (env1 ++ ts).length = env.length + ts.length := by simp [p.len]
  obtain ⟨g, h1, h2, h3⟩ := ownL_temps (S := σ ++ τ) (S' := []) (E := env1 ++ ts) (E' := []) (by simpa using p.rel) (by simp [p.len, hs, ht]) hd
  have nfp : ∀ i, a ∉ fp1 i := fun i m => by
    obtain ⟨u, hu⟩ := p.rel.dom i a m
    rw [hu] at ha; cases ha
  have ne : ∀ {b}, (∃ i, b ∈ fp1 i) → b ≠ a := fun {b} ⟨i, m⟩ z => nfp i (z ▸ m)
  have fa : F1 a = none := by
    cases h : F1 a with
    | none => rfl
    | some u => rw [p.rel.sub a u h] at ha; cases ha
  let F2 : Hp := fun b => if b = a then some (.tup vs) else if b ∈ g then H1 b else F1 b
  have f2a : F2 a = some (.tup vs) := if_pos rfl
  have f2g : ∀ b, b ≠ a → b ∈ g → F2 b = H1 b := fun b h m => by show (if b = a then _ else _) = _; rw [if_neg h, if_pos m]
  have f2n : ∀ b, b ≠ a → b ∉ g → F2 b = F1 b := fun b h m => by show (if b = a then _ else _) = _; rw [if_neg h, if_neg m]
  have gne : ∀ b ∈ g, b ≠ a := fun b m => by
    obtain ⟨i, _, _, i3⟩ := h3 b m
    exact ne ⟨i, i3⟩
  have x1 : Ex F1 F2 := fun b u h => by
    have hb : b ≠ a := fun z => by subst z; rw [fa] at h; cases h
    by_cases e : b ∈ g
    · rw [f2g b hb e]; exact p.rel.sub b u h
    · rw [f2n b hb e]; exact h
  refine ⟨F2, _, p.fin hs ht (F2 := F2) (H2 := upd H1 a (.tup vs)) (g := []) x1 (fun b u h => ?_) (fun i hi b m => ?_) (fun b u h => ?_) (fun b u h _ => by rw [upd_ne (ne_of_none h ha)]; exact h) ?_ List.nodup_nil (by simp)⟩
  · by_cases hb : b = a
    · subst hb; rw [f2a] at h; rw [upd_same]; exact h
    · rw [upd_ne hb]
      by_cases e : b ∈ g
      · rw [f2g b hb e] at h; exact h
      · rw [f2n b hb e] at h; exact p.rel.sub b u h
  · have hb := ne ⟨i, m⟩
    refine ⟨upd_ne hb, ?_⟩
    have e : b ∉ g := fun m2 => by
      obtain ⟨j, j1, _, j3⟩ := h3 b m2
      have := p.rel.dj i j b m j3
      rw [e1] at j1; omega
    rw [f2n b hb e]
    exact p.rel.out i b m
  · by_cases hb : b = a
    · subst hb; exact .inr (.inr ha)
    · by_cases e : b ∈ g
      · obtain ⟨j, j1, _, j3⟩ := h3 b e
        rw [e1] at j1
        exact .inr (.inl ⟨j, j1, j3⟩)
      · rw [f2n b hb e] at h; exact .inl ⟨u, h⟩
  · unfold Own
    exact .inl ⟨rfl, rfl, a, vs, rfl, f2a, OwnL.freeze x1 ds vs g (fun b m => f2g b (gne b m) m) h1⟩

theorem good_takeL {A : M (List Rf)} {tch tv tr : List Nat} {t : TA} (g : GoodA T W A tch tv tr t) : GoodG T W (M.bind A takeL) (tch ++ tv) t (fun ds vs pv pd _ _ _ => pv = vs.map some ∧ pd = ds.map some ∧ ds.length = vs.length) := fun F H σ τ env ts fp o env2 hs ht R e Q k1 k2 => by
  rcases bind_cases e with ⟨rs, e1, q1, ea1⟩ | ⟨c, ns, xs, q1, rfl⟩
  · refine g F H σ τ env ts fp _ _ hs ht R q1 _ (fun a ea F1 H1 fp1 vs pv pd j p => ?_) (fun c ns xs eo => by cases eo)
    cases ea
    obtain ⟨rfl, rfl, j1⟩ := j
    obtain ⟨ds, fp2, rfl, hd, p2⟩ := take_list (pv := []) (pd := []) hs ht rfl (by simpa using p) j1.t ea1
    exact k1 ds rfl F1 H1 fp2 vs _ _ ⟨rfl, rfl, hd⟩ (by simpa using p2)
  · exact g F H σ τ env ts fp _ _ hs ht R q1 _ (fun a ea => by cases ea) (fun c' ns' xs' eo F1 H1 fp1 d ws p x1 x2 => by cases eo; exact k2 _ _ _ rfl F1 H1 fp1 d ws (p.weak fun i z => List.mem_append_left _ z) x1 x2)
theorem disp_cases {A : M (List Rf)} {f : List D → D} {e e2 : Env'} {o : Out Rf} (h : dispM A f e = some (o, e2)) : (∃ ds, M.bind A takeL e = some (.ok ds, e2) ∧ ds.length ≤ lim ∧ o = .ok (.tmp (f ds))) ∨ ∃ c ns xs, M.bind A takeL e = some (.ex c ns xs, e2) ∧ o = .ex c ns xs := by
  rcases bind_cases h with ⟨ds, e1, q1, ea1⟩ | ⟨c, ns, xs, q1, rfl⟩
  · rcases bind_cases ea1 with ⟨_, e3, q2, ea2⟩ | ⟨c, ns, xs, q2, rfl⟩
    · obtain ⟨hl, _, rfl⟩ := guard_some q2
      obtain ⟨rfl, rfl⟩ := ret_some ea2
      exact .inl ⟨ds, q1, of_decide_eq_true hl, rfl⟩
    · obtain ⟨_, z, _⟩ := guard_some q2; cases z
  · exact .inr ⟨c, ns, xs, q1, rfl⟩
theorem gx_lst (O : XOk T X W P) {ils : List Ex'} {es : List Expr} {pos : Pos} (h : GA T X W P Φ ils es) : GX T X W P Φ (.lst ils) (.List es pos) := by
  obtain ⟨t, h1, h2⟩ := h.val
  refine gx_of O (pe_lst h1) ?_ (fun _ => rfl) rfl
  intro F H σ τ env ts fp o env2 hs ht R e Q k1 k2
  rcases disp_cases (show dispM (evXs P Φ ils) .olst env = some (o, env2) from e) with ⟨ds, q1, hl, rfl⟩ | ⟨c, ns, xs, q1, rfl⟩
  · refine good_takeL h2 F H σ τ env ts fp _ _ hs ht R q1 _ (fun a ea F1 H1 fp1 vs pv pd j p => ?_) (fun c ns xs eo => by cases eo)
    cases ea
    obtain ⟨rfl, rfl, hd⟩ := j
    refine ⟨by rw [← hd]; exact lim_le hl, fun a ha => ?_⟩
    obtain ⟨fp2, p2⟩ := p.mkLst hs ht hd ha
    exact k1 _ rfl F1 _ fp2 _ _ _ ⟨rfl, rfl, trivial, trivial⟩ p2
  · exact good_takeL h2 F H σ τ env ts fp _ _ hs ht R q1 _ (fun a ea => by cases ea) (fun c' ns' xs' eo F1 H1 fp1 d ws p x1 x2 => by cases eo; exact k2 _ _ _ rfl F1 H1 fp1 d ws p x1 x2)
theorem gx_tup (O : XOk T X W P) {ils : List Ex'} {es : List Expr} {n : Nat} {pos : Pos} (h : GA T X W P Φ ils es) : GX T X W P Φ (.tup ils) (.Tuple es n pos) := by
  obtain ⟨t, h1, h2⟩ := h.val
  refine gx_of O (pe_tup h1) ?_ (fun _ => rfl) rfl
  intro F H σ τ env ts fp o env2 hs ht R e Q k1 k2
  rcases disp_cases (show dispM (evXs P Φ ils) (fun ds => .tup (fzL ds)) env = some (o, env2) from e) with ⟨ds, q1, hl, rfl⟩ | ⟨c, ns, xs, q1, rfl⟩
  · refine good_takeL h2 F H σ τ env ts fp _ _ hs ht R q1 _ (fun a ea F1 H1 fp1 vs pv pd j p => ?_) (fun c ns xs eo => by cases eo)
    cases ea
    obtain ⟨rfl, rfl, hd⟩ := j
    refine ⟨by rw [← hd]; exact lim_le hl, fun a ha => ?_⟩
    obtain ⟨F2, fp2, p2⟩ := p.mkTup hs ht hd ha
    exact k1 _ rfl F2 _ fp2 _ _ _ ⟨rfl, rfl, trivial, trivial⟩ p2
  · exact good_takeL h2 F H σ τ env ts fp _ _ hs ht R q1 _ (fun a ea => by cases ea) (fun c' ns' xs' eo F1 H1 fp1 d ws p x1 x2 => by cases eo; exact k2 _ _ _ rfl F1 H1 fp1 d ws p x1 x2)
theorem gx_dic0 (O : XOk T X W P) {b : Bool} {pos : Pos} : GX T X W P Φ (.dic0 b) (.Dict [] [] pos) := by
  cases b with
  | true =>
    refine gx_of O pe_dnewT ?_ (fun _ => rfl) rfl
    intro F H σ τ env ts fp o env2 hs ht R e Q k1 k2
    obtain ⟨rfl, rfl⟩ := ret_some (show M.ret _ env = _ from e)
    intro a ha
    exact k1 _ rfl F _ _ _ _ _ ⟨rfl, rfl, trivial, trivial⟩ (((Post.refl R).weak (by simp)).new (k := .dT []) (ds := []) (vs := []) ha ⟨⟨rfl, List.nodup_nil⟩, upd_same⟩ OwnL.nil_)
  | false =>
    refine gx_of O pe_dnewK ?_ (fun _ => rfl) rfl
    intro F H σ τ env ts fp o env2 hs ht R e Q k1 k2
    obtain ⟨rfl, rfl⟩ := ret_some (show M.ret _ env = _ from e)
    intro a ha
    exact k1 _ rfl F _ _ _ _ _ ⟨rfl, rfl, trivial, trivial⟩ (((Post.refl R).weak (by simp)).new (k := .dK []) (ds := []) (vs := []) ha ⟨⟨rfl, List.nodup_nil⟩, upd_same⟩ OwnL.nil_)
end
end RL
set_option Elab.async false
set_option linter.all false
set_option maxRecDepth 100000
set_option maxHeartbeats 4000000
/-! RL, chains, slices, what is built in. -/
namespace RL
open PySem L2
section
variable {T : Tb} {X : Cx} {W : WX} {P : Pr} {Φ : Hd'} {F H F1 H1 : Hp} {σ τ pv : List (Option V)} {env env1 ts pd : Env'} {fp fp1 : Nat → List Addr} {t1 t2 : List Nat}
theorem asBl_some {x : Option D} {b : Bool} (h : x.bind asBl = some b) : x = some (.bl b) := by
  cases x with
  | none => cases h
  | some d => cases d with
    | bl c => obtain rfl := Option.some.inj (show some c = some b from h); rfl
    | _ => cases h
theorem good_chain {o o' : CmpOp} {A : M (List Rf)} {C : M Rf} {ta tv tr tc vc rc : List Nat} {t u w : TE} (g : GoodA T W A ta tv tr (tCons t (tCons u tNil))) (gc : GoodR T W C tc vc rc w) :
    GoodR T W (chainM o o' A C) (ta ++ tc) [] [] (tChain (rCmp T.K o) (rCmp T.K o') t u w) := fun F H σ τ env ts fp out env2 hs ht R e Q k1 k2 => by
  rcases bind_cases e with ⟨rs, e1, q1, ea1⟩ | ⟨c, ns, xs, q1, rfl⟩
  · rcases bind_cases ea1 with ⟨ds, e2, q2, ea2⟩ | ⟨c, ns, xs, q2, rfl⟩
    · obtain ⟨ds', q3, h1, rfl⟩ := pkLM_some q2
      cases h1
      match rs, ds, ea2, q3 with
      | [x, .tmp q'], [p, q], ea2, q3 =>
        have hq : q' = q := by
          have h : (pk x e2).bind (fun d => ((some q' : Option D).bind fun d' => some [d']).map (d :: ·)) = some [p, q] := q3
          cases hx : pk x e2 with
          | none => rw [hx] at h; cases h
          | some d => rw [hx] at h; have := Option.some.inj h; simp at this; exact this.2
        subst hq
        rcases bind_cases ea2 with ⟨z, e3, q4, ea3⟩ | ⟨c, ns, xs, q4, rfl⟩
        · obtain ⟨z', hz, h2, rfl⟩ := lift_some q4
          cases h2
          have hcmp := asBl_some hz
          refine g F H σ τ env ts fp _ _ hs ht R q1 (fun vs H1 => r2 (fun x y H2 Q' => rCmp T.K o x y H2 fun z H3 => ∃ k, z = .bl k ∧ (if k = true then w σ H3 fun w' H4 => rCmp T.K o' y w' H4 Q' else Q' (.bl false) H3)) vs H1 Q) (fun a ea F1 H1 fp1 vs pv pd j p1 => ?_) (fun c ns xs eo => by cases eo)
          cases ea
          obtain ⟨rfl, rfl, j1⟩ := j
          have ar := p1.args hs ht j1 q3
          obtain ⟨v, y, g1, g2, rfl, o1, o2⟩ := args2 ar
          refine spec_cmps o F1 H1 [p, q'] [v, y] (.bl z) _ p1.rel.sub ar hcmp fun v' F' H' hr => ?_
          rcases hr with ⟨rfl, rfl, hv⟩ | ⟨_, _, _, _, _, _, _, _, _, hd, _⟩ | ⟨_, _, _, _, _, _, _, hd, _⟩
          case inr.inl => cases hd
          case inr.inr => cases hd
          refine ⟨z, hv.1, ?_⟩
          cases z with
          | false =>
            obtain ⟨rfl, rfl⟩ := ret_some (show M.ret (Rf.tmp (.bl false)) e3 = _ from ea3)
            show Q (.bl false) H1
            exact k1 _ rfl F1 H1 _ _ _ _ ⟨rfl, rfl, trivial, trivial⟩ ((((p1.drop hs ht).push0 (d := .bl false) (v := .bl false) ⟨rfl, rfl⟩)).weak fun i z => List.mem_append_left _ z)
          | true =>
            show w σ H1 _
            have R1 : Rel T F1 H1 (σ ++ (τ ++ [some v, some y])) (e3 ++ (ts ++ [slotD x, some q'])) fp1 := by simpa [slotD, List.append_assoc] using p1.rel
            rcases bind_cases (show M.bind C _ e3 = _ from ea3) with ⟨uu, e4, q5, ea4⟩ | ⟨c, ns, xs, q5, rfl⟩
            · rcases bind_cases ea4 with ⟨dw, e5, q6, ea5⟩ | ⟨c, ns, xs, q6, rfl⟩
              · obtain ⟨dw', q7, h5, rfl⟩ := pkM_some q6
                cases h5
                obtain ⟨rf, q8, rfl, rfl⟩ := lift_some ea5
                cases hfin : cmp2s o' [q', dw] with
                | none => rw [hfin] at q8; cases q8
                | some d =>
                  rw [hfin] at q8
                  obtain rfl : rf = .tmp d := (Option.some.inj q8).symm
                  refine gc F1 H1 σ (τ ++ [some v, some y]) e3 (ts ++ [slotD x, some q']) fp1 _ _ (by rw [p1.len]; exact hs) (by simp [ht]) R1 q5 _ (fun a ea F2 H2 fp2 v2 pv2 pd2 j2 p2 => ?_) (fun c ns xs eo => by cases eo)
                  cases ea
                  obtain ⟨rfl, rfl, j3, _⟩ := j2
                  obtain ⟨gw, hw⟩ := rf_own p2 (by rw [p1.len]; exact hs) (by simp [ht]) j3 q7
                  have oy : ∃ gy, Own T F2 H2 q' y gy := by
                    have b1 : (env2 ++ (ts ++ [slotD x, some q']) ++ [slotD uu])[env.length + ts.length + 1]? = some (some q') := by
                      have : env2 ++ (ts ++ [slotD x, some q']) ++ [slotD uu] = (env2 ++ ts ++ [slotD x]) ++ (some q' :: [slotD uu]) := by simp [List.append_assoc]
                      have el : (env2 ++ ts ++ [slotD x]).length = env.length + ts.length + 1 := by simp [p2.len, p1.len, Nat.add_assoc]
                      rw [this, ← el, List.getElem?_append_right (Nat.le_refl _)]
                      simp
                    obtain ⟨w2, a1, a2⟩ := p2.rel.at_ _ q' b1
                    have b2 : (σ ++ (τ ++ [some v, some y]) ++ [some v2])[env.length + ts.length + 1]? = some (some y) := by
                      have : σ ++ (τ ++ [some v, some y]) ++ [some v2] = (σ ++ τ ++ [some v]) ++ (some y :: [some v2]) := by simp [List.append_assoc]
                      have el : (σ ++ τ ++ [some v]).length = env.length + ts.length + 1 := by simp [hs, ht, Nat.add_assoc]
                      rw [this, ← el, List.getElem?_append_right (Nat.le_refl _)]
                      simp
                    rw [b2] at a1
                    obtain rfl : y = w2 := by simpa using a1
                    exact ⟨_, a2⟩
                  have p3 := (Post.trans p1 (by simpa [slotD] using p2)).drop hs ht
                  refine spec_cmps o' F2 H2 [q', dw] [y, v2] d _ p2.rel.sub ⟨y, [v2], rfl, oy, v2, [], rfl, ⟨gw, hw⟩, rfl⟩ hfin fun v3 F3 H3 hr => ?_
                  obtain ⟨fp4, p4⟩ := p3.res hs ht hr
                  exact k1 _ rfl F3 H3 fp4 v3 _ _ ⟨rfl, rfl, trivial, trivial⟩ p4
              · obtain ⟨_, _, z, _⟩ := pkM_some q6; cases z
            · refine gc F1 H1 σ (τ ++ [some v, some y]) e3 (ts ++ [slotD x, some q']) fp1 _ _ (by rw [p1.len]; exact hs) (by simp [ht]) R1 q5 _ (fun a ea => by cases ea) (fun c' ns' xs' eo F2 H2 fp2 d ws p2 x1 x2 => ?_)
              cases eo
              exact k2 _ _ _ rfl F2 H2 _ d ws ((Post.trans p1 (by simpa [slotD] using p2)).drop hs ht) x1 x2
        · obtain ⟨_, _, z, _⟩ := lift_some q4; cases z
      | [], _, ea2, _ => cases ea2
      | [_], _, ea2, _ => cases ea2
      | [_, .at_ _ _], _, ea2, _ => cases ea2
      | [_, .tmp _], [], ea2, _ => cases ea2
      | [_, .tmp _], [_], ea2, _ => cases ea2
      | [_, .tmp _], _ :: _ :: _ :: _, ea2, _ => cases ea2
      | _ :: .tmp _ :: _ :: _, _, ea2, _ => cases ea2
      | _ :: .at_ _ _ :: _ :: _, _, ea2, _ => cases ea2
    · obtain ⟨_, _, z, _⟩ := pkLM_some q2; cases z
  · exact g F H σ τ env ts fp _ _ hs ht R q1 (fun vs H1 => r2 (fun x y H2 Q' => rCmp T.K o x y H2 fun z H3 => ∃ k, z = .bl k ∧ (if k = true then w σ H3 fun w' H4 => rCmp T.K o' y w' H4 Q' else Q' (.bl false) H3)) vs H1 Q) (fun a ea => by cases ea) (fun c' ns' xs' eo F1 H1 fp1 d ws p x1 x2 => by cases eo; exact k2 _ _ _ rfl F1 H1 fp1 d ws (p.weak fun i z => List.mem_append_left _ z) x1 x2)
theorem cmp2s_map {o : CmpOp} {ds : List D} {r : Rf} (h : (cmp2s o ds).map Rf.tmp = some r) : ∃ b, r = .tmp (.bl b) := by
  cases hfin : cmp2s o ds with
  | none => rw [hfin] at h; cases h
  | some d =>
    rw [hfin] at h
    obtain ⟨_, _, b, _, _, _, rfl⟩ := cmp2s_some hfin
    exact ⟨b, (Option.some.inj h).symm⟩
theorem chain_bl {o o' : CmpOp} {A : M (List Rf)} {C : M Rf} (e : Env') (rf : Rf) (e' : Env') (h : chainM o o' A C e = some (.ok rf, e')) : ∃ b, rf = .tmp (.bl b) := by
  rcases bind_cases h with ⟨rs, e1, q1, ea1⟩ | ⟨c, ns, xs, q1, z⟩
  · rcases bind_cases ea1 with ⟨ds, e2, q2, ea2⟩ | ⟨c, ns, xs, q2, z⟩
    · split at ea2
      · rcases bind_cases ea2 with ⟨z, e3, q4, ea3⟩ | ⟨c, ns, xs, q4, z⟩
        · cases z with
          | false =>
            obtain ⟨h1, _⟩ := ret_some (show M.ret (Rf.tmp (.bl false)) e3 = _ from ea3)
            cases h1
            exact ⟨_, rfl⟩
          | true =>
            rcases bind_cases (show M.bind C _ e3 = _ from ea3) with ⟨uu, e4, q5, ea4⟩ | ⟨c, ns, xs, q5, z⟩
            · rcases bind_cases ea4 with ⟨dw, e5, q6, ea5⟩ | ⟨c, ns, xs, q6, z⟩
              · obtain ⟨r, q8, h5, _⟩ := lift_some ea5
                cases h5
                exact cmp2s_map q8
              · cases z
            · cases z
        · cases z
      · cases ea2
    · cases z
  · cases z
theorem gx_chain (O : XOk T X W P) {o o' : CmpOp} {a b c : Ex'} {ea eb ec : Expr} {pos : Pos} (h : GX T X W P Φ a ea) (k : GX T X W P Φ b eb) (hc : GX T X W P Φ c ec) (hm : lastMarks [o, o'] [eb, ec] = false) : GX T X W P Φ (.chain o o' a b c) (.Compare ea [o, o'] [eb, ec] pos) := by
  obtain ⟨t, h1, h2⟩ := h.val
  obtain ⟨u, k1, k2⟩ := k.val
  obtain ⟨w, c1, c2⟩ := hc.val
  have g : GoodR T W (evX P Φ (.chain o o' a b c)).1 (touchR (.chain o o' a b c)) (varsV (.chain o o' a b c)) (rootV (.chain o o' a b c)) (tChain (rCmp X.K o) (rCmp X.K o') t u w) := by
    rw [O.hK]
    exact (good_chain (good_two h2 k2) c2).weak fun i z => by simpa [touchR] using z
  refine ⟨⟨_, pe_chain (op_cmp O.hu o) (op_cmp O.hu o') h1 k1 c1 hm, g⟩, ⟨_, pt_chain (op_cmp O.hu o) (op_cmp O.hu o') h1 k1 c1 hm, good_tB (fun e rf e' q => chain_bl e rf e' q) g⟩⟩

/-! slices -/
theorem OwnL.drop : ∀ {ds : List D} {vs : List V} (n : Nat), OwnL T F H ds vs [] → OwnL T F H (ds.drop n) (vs.drop n) []
  | ds, vs, 0, h => by simpa using h
  | [], vs, n + 1, h => by rw [h.1]; exact ⟨rfl, rfl⟩
  | d :: ds, vs, n + 1, h => by
    unfold OwnL at h
    obtain ⟨v, ws, p, q, rfl, e, h3, h4⟩ := h
    have := e.symm
    rw [List.append_eq_nil_iff] at this
    obtain ⟨rfl, rfl⟩ := this
    simpa using OwnL.drop n h4
theorem OwnL.take : ∀ {ds : List D} {vs : List V} (n : Nat), OwnL T F H ds vs [] → OwnL T F H (ds.take n) (vs.take n) []
  | ds, vs, 0, h => by simpa using OwnL.nil_
  | [], vs, n + 1, h => by rw [h.1]; exact ⟨rfl, rfl⟩
  | d :: ds, vs, n + 1, h => by
    unfold OwnL at h
    obtain ⟨v, ws, p, q, rfl, e, h3, h4⟩ := h
    have := e.symm
    rw [List.append_eq_nil_iff] at this
    obtain ⟨rfl, rfl⟩ := this
    rw [List.take_succ_cons, List.take_succ_cons]
    exact OwnL.cons_ (f := []) (g := []) h3 (OwnL.take n h4)
theorem OwnL.cut {ds : List D} {vs : List V} (lo hi : Option Int) (h : OwnL T F H ds vs []) : OwnL T F H (cutL ds lo hi) (cutV vs lo hi) [] := by
  unfold cutL cutV
  rw [h.length]
  exact OwnL.take _ (OwnL.drop _ h)
def rSl (K : PySem.W.Frag) : V → Option Int → Option Int → Hp → VK → Prop := fun x lo hi H Q => rSlL K x lo hi H Q ∨ (rSlA K x lo hi H Q ∨ rSlS x lo hi H Q)
theorem sl_any : SlR X (rSl X.K) := SlR.or sl_list (SlR.or sl_tupA sl_str)
theorem spec_sl (s : Ex F H) {p d : D} {v : V} {g : List Addr} {i j : Option Int} {Q : VK} (h : Own T F H p v g) (e : sliceD p i j = some d) (k : ∀ v F' H', ResOk T F H d v F' H' → Q v H') : rSl T.K v i j H Q := by
  unfold sliceD at e
  split at e
  · rename_i o xs
    split at e
    · rename_i hp
      obtain rfl := Option.some.inj e
      obtain ⟨a, vs, rfl, ha, _, hl, _⟩ := own_lst h s
      exact .inl ⟨a, vs, rfl, SqL.of ha, fun p hp' => k _ F (upd H p (.lst (cutV vs i j))) (.inr (.inl ⟨p, _, .lst, cutL xs i j, cutV vs i j, hp', rfl, rfl, rfl, rfl, upd_same, OwnL.cut i j (plain_own hl hp)⟩))⟩
    · cases e
  · rename_i o xs
    obtain rfl := Option.some.inj e
    obtain ⟨rfl, rfl, a, vs, rfl, _, ha, hl⟩ := own_tup h s
    refine .inr (.inl ⟨a, vs, rfl, SqT.of ha, fun hw => k _ F H (.inl ⟨rfl, rfl, ?_⟩), fun hw p hp' => k _ (upd F p (.tup (cutV vs i j))) (upd H p (.tup (cutV vs i j))) (.inr (.inr ⟨p, cutL xs i j, cutV vs i j, hp', rfl, rfl, rfl, rfl, OwnL.cut i j hl⟩))⟩)
    have : cutL xs i j = xs := by
      unfold cutL
      rw [hl.length, hw.1, hw.2]
      simp [← hl.length]
    rw [this]
    exact h
  · rename_i z
    split at e
    · rename_i hz
      obtain rfl := Option.some.inj e
      exact .inr (.inr ⟨z, h.1, lim_le (of_decide_eq_true hz), k _ F H res_str⟩)
    · cases e
  · cases e
def JO : Option Int → Option Int → List (Option V) → Env' → L2.St → Env' → Hp → Prop := fun a b pv pd _ _ _ => pv = [] ∧ pd = [] ∧ a = b
theorem good_part {L : M Rf} {tch tv tr : List Nat} {t : TE} (g : GoodR T W L tch tv tr t) : GoodG T W (partM L) tch (tPart t) JO := fun F H σ τ env ts fp o env2 hs ht R e Q k1 k2 => by
  rcases bind_cases e with ⟨rf, e1, q1, ea1⟩ | ⟨c, ns, xs, q1, rfl⟩
  · rcases bind_cases ea1 with ⟨d, e2, q2, ea2⟩ | ⟨c, ns, xs, q2, rfl⟩
    · obtain ⟨d', q3, h1, rfl⟩ := pkM_some q2
      cases h1
      obtain ⟨b, q4, rfl, rfl⟩ := lift_some ea2
      cases d with
      | int i =>
        obtain rfl := Option.some.inj q4
        refine g F H σ τ env ts fp _ _ hs ht R q1 _ (fun a ea F1 H1 fp1 v pv pd j p => ?_) (fun c ns xs eo => by cases eo)
        cases ea
        obtain ⟨rfl, rfl, j1, _⟩ := j
        obtain ⟨gg, hg⟩ := rf_own p hs ht j1 q3
        exact ⟨i, hg.1, k1 _ rfl F1 H1 _ _ [] [] ⟨rfl, rfl, rfl⟩ (p.drop hs ht)⟩
      | _ => cases q4
    · obtain ⟨_, _, z, _⟩ := pkM_some q2; cases z
  · exact g F H σ τ env ts fp _ _ hs ht R q1 _ (fun a ea => by cases ea) (fun c' ns' xs' eo F1 H1 fp1 d ws p x1 x2 => by cases eo; exact k2 _ _ _ rfl F1 H1 fp1 d ws p x1 x2)
theorem good_nopart (tch : List Nat) : GoodG T W (M.ret none) tch tNoPart JO := fun F H σ τ env ts fp o env2 hs ht R e Q k1 k2 => by
  obtain ⟨rfl, rfl⟩ := ret_some e
  exact k1 _ rfl F H fp none [] [] ⟨rfl, rfl, rfl⟩ ((Post.refl R).weak (by simp))
theorem good_slice {A : M Rf} {L U : M (Option Int)} {ta tv tr tl tu : List Nat} {t : TE} {l u : TO} (g : GoodR T W A ta tv tr t) (gl : GoodG T W L tl l JO) (gu : GoodG T W U tu u JO) : GoodR T W (sliceM A (tl ++ tu) L U) (ta ++ (tl ++ tu)) [] [] (tSl (rSl T.K) t l u) := fun F H σ τ env ts fp o env2 hs ht R e Q k1 k2 => by
  rcases bind_cases e with ⟨x, e1, q1, ea1⟩ | ⟨c, ns, xs, q1, rfl⟩
  · refine g F H σ τ env ts fp _ _ hs ht R q1 _ (fun a ea F1 H1 fp1 v pv pd j p => ?_) (fun c ns xs eo => by cases eo)
    cases ea
    obtain ⟨rfl, rfl, j1, j2⟩ := j
    have R1 : Rel T F1 H1 (σ ++ (τ ++ [some v])) (e1 ++ (ts ++ [slotD x])) fp1 := by simpa [List.append_assoc] using p.rel
    rcases bind_cases ea1 with ⟨_, e1', q2, ea2⟩ | ⟨c, ns, xs, q2, rfl⟩
    · obtain ⟨hg, _, rfl⟩ := guard_some q2
      rcases bind_cases ea2 with ⟨i, e3, q3, ea3⟩ | ⟨c, ns, xs, q3, rfl⟩
      · refine gl F1 H1 σ (τ ++ [some v]) e1' (ts ++ [slotD x]) fp1 _ _ (by rw [p.len]; exact hs) (by simp [ht]) R1 q3 _ (fun a ea F2 H2 fp2 i' pv2 pd2 j3 p2 => ?_) (fun c ns xs eo => by cases eo)
        cases ea
        obtain ⟨rfl, rfl, rfl⟩ := j3
        have p12 := p.trans p2
        have R2 : Rel T F2 H2 (σ ++ (τ ++ [some v])) (e3 ++ (ts ++ [slotD x])) fp2 := by simpa [List.append_assoc] using p2.rel
        rcases bind_cases ea3 with ⟨jj, e4, q4, ea4⟩ | ⟨c, ns, xs, q4, rfl⟩
        · refine gu F2 H2 σ (τ ++ [some v]) e3 (ts ++ [slotD x]) fp2 _ _ (by rw [p12.len]; exact hs) (by simp [ht]) R2 q4 _ (fun a ea F3 H3 fp3 j' pv3 pd3 j4 p3 => ?_) (fun c ns xs eo => by cases eo)
          cases ea
          obtain ⟨rfl, rfl, rfl⟩ := j4
          rcases bind_cases ea4 with ⟨d, e5, q5, ea5⟩ | ⟨c, ns, xs, q5, rfl⟩
          · obtain ⟨d', q6, h6, rfl⟩ := pkM_some q5
            cases h6
            obtain ⟨rf, q7, rfl, rfl⟩ := lift_some ea5
            cases q8 : sliceD d i jj with
            | none => rw [q8] at q7; cases q7
            | some r =>
              rw [q8] at q7
              obtain rfl : rf = .tmp r := (Option.some.inj q7).symm
              have p23 := p2.trans (by simpa using p3)
              have jk := j1.keep R1 (by rw [p.len]; exact hs) p23 hg
              have pp : Post T F H σ τ env ts fp (ta ++ (tl ++ tu)) F3 H3 env2 fp3 [some v] [slotD x] := by simpa using p.trans p23
              obtain ⟨gg, hgg⟩ := rf_own pp hs ht jk q6
              refine spec_sl pp.rel.sub hgg q8 fun v' F4 H4 hr => ?_
              obtain ⟨fp4, p4⟩ := pp.res hs ht hr
              exact k1 _ rfl F4 H4 fp4 v' _ _ ⟨rfl, rfl, trivial, trivial⟩ p4
          · obtain ⟨_, _, z, _⟩ := pkM_some q5; cases z
        · refine gu F2 H2 σ (τ ++ [some v]) e3 (ts ++ [slotD x]) fp2 _ _ (by rw [p12.len]; exact hs) (by simp [ht]) R2 q4 _ (fun a ea => by cases ea) (fun c' ns' xs' eo F3 H3 fp3 d ws p3 x1 x2 => ?_)
          cases eo
          have p23 := p2.trans (by simpa using p3)
          exact k2 _ _ _ rfl F3 H3 _ d ws ((p.trans p23).drop hs ht) x1 x2
      · refine gl F1 H1 σ (τ ++ [some v]) e1' (ts ++ [slotD x]) fp1 _ _ (by rw [p.len]; exact hs) (by simp [ht]) R1 q3 _ (fun a ea => by cases ea) (fun c' ns' xs' eo F2 H2 fp2 d ws p2 x1 x2 => ?_)
        cases eo
        exact k2 _ _ _ rfl F2 H2 _ d ws (((p.trans p2).drop hs ht).weak fun i z => by simp at z ⊢; rcases z with z | z <;> simp [z]) x1 x2
    · obtain ⟨_, z, _⟩ := guard_some q2; cases z
  · exact g F H σ τ env ts fp _ _ hs ht R q1 _ (fun a ea => by cases ea) (fun c' ns' xs' eo F1 H1 fp1 d ws p x1 x2 => by cases eo; exact k2 _ _ _ rfl F1 H1 fp1 d ws (p.weak fun i z => List.mem_append_left _ z) x1 x2)
/-- a part of a slice -/
structure GO (T : Tb) (X : Cx) (W : WX) (P : Pr) (Φ : Hd') (b : Bool) (il : Ex') (e : Option Expr) : Prop where
  val : ∃ t, PO X e t ∧ GoodG T W (optM b (evX P Φ il).1) (touchR il) t JO
theorem go_none {il : Ex'} : GO T X W P Φ false il none := ⟨⟨_, po_none, good_nopart _⟩⟩
theorem go_some {il : Ex'} {e : Expr} (h : GX T X W P Φ il e) : GO T X W P Φ true il (some e) := by
  obtain ⟨t, h1, h2⟩ := h.val
  exact ⟨⟨_, po_some h1, good_part h2⟩⟩
theorem gx_sl (O : XOk T X W P) {bl bh : Bool} {a l h : Ex'} {ea : Expr} {el eh : Option Expr} {p2 pos : Pos} (ha : GX T X W P Φ a ea) (hl : GO T X W P Φ bl l el) (hh : GO T X W P Φ bh h eh) : GX T X W P Φ (.sl bl bh a l h) (.Subscript ea (.Slice el eh none p2) pos) := by
  obtain ⟨t, h1, h2⟩ := ha.val
  obtain ⟨u, k1, k2⟩ := hl.val
  obtain ⟨w, c1, c2⟩ := hh.val
  refine gx_of O (pe_slice sl_any h1 k1 c1) ?_ (fun _ => rfl) rfl
  rw [O.hK]
  exact good_slice h2 k2 c2
end
end RL
set_option Elab.async false
set_option linter.all false
set_option maxRecDepth 100000
set_option maxHeartbeats 4000000
/-! RL, what is built in. -/
namespace RL
open PySem L2 PyProof.Rows
def noStar : Expr → Bool
  | .Starred _ _ => false
  | _ => true
theorem star_cons {e : Expr} {es : List Expr} {env : Env} (h : noStar e = true) : starEach (e :: es) env = (false, eval e env) :: starEach es env := by
  cases e <;> first | rfl | cases h
theorem star_any {pos : Pos} {env : Env} : ∀ {es : List Expr}, es.all noStar = true → (backTo pos (starEach es env)).any (·.1) = false
  | [], _ => rfl
  | e :: es, h => by
    simp only [List.all_cons, Bool.and_eq_true] at h
    rw [star_cons h.1]
    have ih := star_any (pos := pos) (env := env) h.2
    unfold backTo at ih ⊢
    simpa using ih
theorem CallR.or {X : Cx} {f : Value} {r r' : List V → Hp → VK → Prop} (h : CallR X f r) (h' : CallR X f r') : CallR X f (fun xs H Q => r xs H Q ∨ r' xs H Q) := fun pins s σ H xs us Q I rv k => by
  rcases k with k | k
  · exact h pins s σ H xs us Q I rv k
  · exact h' pins s σ H xs us Q I rv k
section
variable {T : Tb} {X : Cx} {W : WX} {P : Pr} {Φ : Hd'} {F H F1 H1 : Hp}
theorem gx_callB (O : XOk T X W P) {b : Blt} {x : Str} {id : String} {r : List V → Hp → VK → Prop} {ils : List Ex'} {e : Expr} {es : List Expr} {p pos : Pos} (hc : CallR X (.builtin id) r) (sp : OpSpec T (bltD b) r) (h : GA T X W P Φ ils (e :: es)) (hg : Gl X x) (hm : X.mg x = none) (hv : bootBuiltins x = some (.builtin id))
    (hs : (e :: es).all noStar = true) (hn : x ≠ "__name__") (hd : (x == ("__debug__" : Str)) = false) : GX T X W P Φ (.blt b ils) (.Call (.Name x p) (e :: es) [] pos) := by
  obtain ⟨t, h1, h2⟩ := h.val
  have hs' : noStar e = true ∧ es.all noStar = true := by simpa using hs
  exact gx_of O (pe_callB hc hg hm hv h1 hn hd (star_cons hs'.1) (star_any hs'.2)) (good_pure _ _ h2 sp) (fun _ => rfl) rfl
theorem gx_callTy (O : XOk T X W P) {b : Blt} {x : Str} {id : String} {r : List V → Hp → VK → Prop} {ils : List Ex'} {e : Expr} {es : List Expr} {p pos : Pos} (hc : CallR X (.type id) r) (sp : OpSpec T (bltD b) r) (h : GA T X W P Φ ils (e :: es)) (hg : Gl X x) (hm : X.mg x = none) (hv : bootBuiltins x = some (.type id))
    (hs : (e :: es).all noStar = true) (hn : x ≠ "__name__") (hd : (x == ("__debug__" : Str)) = false) : GX T X W P Φ (.blt b ils) (.Call (.Name x p) (e :: es) [] pos) := by
  obtain ⟨t, h1, h2⟩ := h.val
  have hs' : noStar e = true ∧ es.all noStar = true := by simpa using hs
  exact gx_of O (pe_callTy hc hg hm hv h1 hn hd (star_cons hs'.1) (star_any hs'.2)) (good_pure _ _ h2 sp) (fun _ => rfl) rfl

/-! len -/
def rLenA (K : PySem.W.Frag) : List V → Hp → VK → Prop := fun xs H Q => (∃ x n, xs = [x] ∧ LenV K x H n ∧ Q (.int n) H) ∨ ((∃ a kvs, xs = [V.ref a] ∧ H a = some (.dK kvs) ∧ Q (.int kvs.length) H) ∨ rLenT xs H Q)
theorem call_lenA : CallR X (.builtin "len") (rLenA X.K) := CallR.or call_len (CallR.or call_lenD call_len_dT)
theorem spec_len : OpSpec T lenD (rLenA T.K) := by
  intro F H ds vs d Q s ha e k
  unfold lenD at e
  split at e
  · rename_i o kd xs
    obtain ⟨v, g, rfl, h1⟩ := args1 ha
    obtain ⟨a, us, rfl, hat, _, hl, _⟩ := own_nd h1 s
    cases kd with
    | tup =>
      obtain rfl := Option.some.inj (show some (.int xs.length) = some d from e)
      refine .inl ⟨_, us.length, rfl, .inr ⟨us, SqT.of ?_, rfl⟩, by rw [← hl.length]; exact k _ F H res_int⟩
      rcases hat with ⟨_, z⟩ | ⟨_, z⟩
      · exact z.elim
      · exact s _ _ z
    | ktup =>
      obtain rfl := Option.some.inj (show some (.int xs.length) = some d from e)
      refine .inl ⟨_, us.length, rfl, .inr ⟨us, ?_, rfl⟩, by rw [← hl.length]; exact k _ F H res_int⟩
      rcases hat with ⟨_, z⟩ | ⟨_, z⟩
      · exact z.elim
      · exact ex_t s z
    | lst =>
      obtain rfl := Option.some.inj (show some (.int xs.length) = some d from e)
      refine .inl ⟨_, us.length, rfl, .inl ⟨us, SqL.of ?_, rfl⟩, by rw [← hl.length]; exact k _ F H res_int⟩
      rcases hat with ⟨_, z⟩ | ⟨_, z⟩
      · exact z
      · exact s _ _ z
    | fr => cases e
    | ins _ _ => cases e
    | dK ks =>
      obtain rfl := Option.some.inj (show some (.int xs.length) = some d from e)
      have hH : (ks.length = us.length ∧ ks.Nodup) ∧ H a = some (.dK (ks.zip us)) := by
        rcases hat with ⟨_, q⟩ | ⟨_, q⟩
        · exact q
        · exact ⟨q.1, s _ _ q.2⟩
      refine .inr (.inl ⟨a, _, rfl, hH.2, ?_⟩)
      have : (ks.zip us).length = xs.length := by simp [hH.1.1, hl.length]
      rw [this]
      exact k _ F H res_int
    | dT ks =>
      obtain rfl := Option.some.inj (show some (.int xs.length) = some d from e)
      have hH : (ks.length = us.length ∧ ks.Nodup) ∧ H a = some (.dT (ks.zip us)) := by
        rcases hat with ⟨_, q⟩ | ⟨_, q⟩
        · exact q
        · exact ⟨q.1, s _ _ q.2⟩
      refine .inr (.inr ⟨a, _, rfl, hH.2, ?_⟩)
      have : (ks.zip us).length = xs.length := by simp [hH.1.1, hl.length]
      rw [this]
      exact k _ F H res_int
  · rename_i z
    obtain ⟨v, g, rfl, h1⟩ := args1 ha
    split at e
    · rename_i hz
      obtain rfl := Option.some.inj e
      refine .inl ⟨v, z.length, rfl, ?_, k _ F H res_int⟩
      rw [h1.1]
      exact ⟨lim_le (of_decide_eq_true hz), rfl⟩
    · cases e
  · cases e
/-! list, tuple -/
theorem spec_list : OpSpec T listD (fun xs H Q => ∃ p ys, xs = [.ref p] ∧ (SqL T.K H p ys ∨ SqT T.K H p ys) ∧ ∀ l, H l = none → Q (.ref l) (upd H l (.lst ys))) := by
  intro F H ds vs d Q s ha e k
  unfold listD at e
  split at e
  · rename_i o kd xs
    obtain ⟨v, g, rfl, h1⟩ := args1 ha
    obtain ⟨a, us, rfl, hat, _, hl, _⟩ := own_nd h1 s
    split at e
    · rename_i hp
      obtain rfl := Option.some.inj e
      obtain ⟨hq, hpl⟩ := Bool.and_eq_true_iff.mp hp
      refine ⟨a, us, rfl, ?_, fun l hl' => k _ F (upd H l (.lst us)) (.inr (.inl ⟨l, _, .lst, xs, us, hl', rfl, rfl, rfl, rfl, upd_same, plain_own hl hpl⟩))⟩
      cases kd with
      | tup =>
        rcases hat with ⟨_, z⟩ | ⟨_, z⟩
        · exact z.elim
        · exact .inr (SqT.of (s _ _ z))
      | ktup =>
        rcases hat with ⟨_, z⟩ | ⟨_, z⟩
        · exact z.elim
        · exact .inr (ex_t s z)
      | lst =>
        rcases hat with ⟨_, z⟩ | ⟨_, z⟩
        · exact .inl (SqL.of z)
        · exact .inl (SqL.of (s _ _ z))
      | fr =>
        rcases hat with ⟨_, z⟩ | ⟨_, z⟩
        · exact z.elim
        · exact .inl (ex_l s z)
      | _ => cases hq
    · cases e
  · cases e
theorem spec_tuple : OpSpec T tupleD (fun xs H Q => ∃ p ys, xs = [.ref p] ∧ ((SqL T.K H p ys ∧ ∀ l, H l = none → Q (.ref l) (upd H l (.tup ys))) ∨ (SqT T.K H p ys ∧ Q (.ref p) H))) := by
  intro F H ds vs d Q s ha e k
  unfold tupleD at e
  split at e
  · rename_i o xs
    obtain ⟨v, g, rfl, h1⟩ := args1 ha
    obtain ⟨a, us, rfl, hra, _, hl, _⟩ := own_lst h1 s
    split at e
    · rename_i hp
      obtain rfl := Option.some.inj e
      exact ⟨a, us, rfl, .inl ⟨SqL.of hra, fun l hl' => k _ (upd F l (.tup us)) (upd H l (.tup us)) (.inr (.inr ⟨l, xs, us, hl', rfl, rfl, rfl, rfl, plain_own hl hp⟩))⟩⟩
    · cases e
  · obtain ⟨v, g, rfl, h1⟩ := args1 ha
    obtain rfl := Option.some.inj e
    have h0 := h1
    obtain ⟨_, rfl, a, us, rfl, _, hra, hl⟩ := own_tup h1 s
    exact ⟨a, us, rfl, .inr ⟨SqT.of hra, k _ F H (.inl ⟨rfl, rfl, h0⟩)⟩⟩
  · cases e
/-! ints -/
theorem spec_abs : OpSpec T absD (fun xs H Q => ∃ i, xs = [.int i] ∧ Q (.int (if i < 0 then -i else i)) H) := by
  intro F H ds vs d Q s ha e k
  unfold absD at e
  split at e
  · obtain ⟨v, g, rfl, h1⟩ := args1 ha
    obtain rfl := Option.some.inj e
    exact ⟨_, by rw [h1.1], k _ F H res_int⟩
  · cases e
theorem spec_int : OpSpec T intD (fun xs H Q => (∃ i, xs = [.int i] ∧ Q (.int i) H) ∨ ∃ k, xs = [.bl k] ∧ Q (.int (if k then 1 else 0)) H) := by
  intro F H ds vs d Q s ha e k
  unfold intD at e
  split at e
  · obtain ⟨v, g, rfl, h1⟩ := args1 ha
    obtain rfl := Option.some.inj e
    exact .inl ⟨_, by rw [h1.1], k _ F H res_int⟩
  · cases e
theorem maxI_ok : ∀ (r : List Int) (m : Int), maxI m r ∈ m :: r ∧ ∀ y ∈ m :: r, y ≤ maxI m r
  | [], m => ⟨by simp [maxI], by simp [maxI]⟩
  | x :: r, m => by
    obtain ⟨h1, h2⟩ := maxI_ok r (if x > m then x else m)
    unfold maxI
    refine ⟨?_, fun y hy => ?_⟩
    · rcases List.mem_cons.mp h1 with h | h
      · rw [h]; split <;> simp
      · simp [h]
    · have hm := h2 _ List.mem_cons_self
      rcases List.mem_cons.mp hy with rfl | hy
      · split at hm <;> split <;> omega
      · rcases List.mem_cons.mp hy with rfl | hy
        · split at hm <;> split <;> omega
        · exact h2 y (List.mem_cons_of_mem _ hy)
theorem minI_ok : ∀ (r : List Int) (m : Int), minI m r ∈ m :: r ∧ ∀ y ∈ m :: r, minI m r ≤ y
  | [], m => ⟨by simp [minI], by simp [minI]⟩
  | x :: r, m => by
    obtain ⟨h1, h2⟩ := minI_ok r (if x < m then x else m)
    unfold minI
    refine ⟨?_, fun y hy => ?_⟩
    · rcases List.mem_cons.mp h1 with h | h
      · rw [h]; split <;> simp
      · simp [h]
    · have hm := h2 _ List.mem_cons_self
      rcases List.mem_cons.mp hy with rfl | hy
      · split at hm <;> split <;> omega
      · rcases List.mem_cons.mp hy with rfl | hy
        · split at hm <;> split <;> omega
        · exact h2 y (List.mem_cons_of_mem _ hy)
def rMaxA (K : PySem.W.Frag) : List V → Hp → VK → Prop := fun xs H Q => (∃ i j, xs = [.int i, .int j] ∧ Q (.int (if j > i then j else i)) H) ∨ rMax K xs H Q
def rMinA (K : PySem.W.Frag) : List V → Hp → VK → Prop := fun xs H Q => (∃ i j, xs = [.int i, .int j] ∧ Q (.int (if j < i then j else i)) H) ∨ rMin K xs H Q
theorem one_int {xs : List D} {f : Int → List Int → Int} {d : D} (e : (asInts xs).bind (oneI f) = some d) : ∃ m r, asInts xs = some (m :: r) ∧ d = .int (f m r) := by
  cases h : asInts xs with
  | none => rw [h] at e; cases e
  | some is =>
    rw [h] at e
    cases is with
    | nil => cases e
    | cons m r => exact ⟨m, r, rfl, (Option.some.inj e).symm⟩
theorem spec_max : OpSpec T maxD' (rMaxA T.K) := by
  intro F H ds vs d Q s ha e k
  unfold maxD' at e
  split at e
  · obtain ⟨v, w, _, _, rfl, h1, h2⟩ := args2 ha
    obtain rfl := Option.some.inj e
    exact .inl ⟨_, _, by rw [h1.1, h2.1], k _ F H res_int⟩
  · obtain ⟨v, g, rfl, h1⟩ := args1 ha
    obtain ⟨a, us, rfl, hra, _, hl, _⟩ := own_lst h1 s
    obtain ⟨m, r, hi, rfl⟩ := one_int e
    have hu := ownL_ints hl hi
    subst hu
    refine .inr ⟨a, m :: r, rfl, SqL.of hra, by simp, fun m' hm hle => ?_⟩
    obtain ⟨q1, q2⟩ := maxI_ok r m
    have : m' = maxI m r := Int.le_antisymm (q2 _ hm) (hle _ q1)
    rw [this]
    exact k _ F H res_int
  · cases e
theorem spec_min : OpSpec T minD' (rMinA T.K) := by
  intro F H ds vs d Q s ha e k
  unfold minD' at e
  split at e
  · obtain ⟨v, w, _, _, rfl, h1, h2⟩ := args2 ha
    obtain rfl := Option.some.inj e
    exact .inl ⟨_, _, by rw [h1.1, h2.1], k _ F H res_int⟩
  · obtain ⟨v, g, rfl, h1⟩ := args1 ha
    obtain ⟨a, us, rfl, hra, _, hl, _⟩ := own_lst h1 s
    obtain ⟨m, r, hi, rfl⟩ := one_int e
    have hu := ownL_ints hl hi
    subst hu
    refine .inr ⟨a, m :: r, rfl, SqL.of hra, by simp, fun m' hm hle => ?_⟩
    obtain ⟨q1, q2⟩ := minI_ok r m
    have : m' = minI m r := Int.le_antisymm (hle _ q1) (q2 _ hm)
    rw [this]
    exact k _ F H res_int
  · cases e
theorem spec_all : OpSpec T allD (rAll T.K) := by
  intro F H ds vs d Q s ha e k
  unfold allD at e
  split at e
  · rename_i o xs
    obtain ⟨v, g, rfl, h1⟩ := args1 ha
    obtain ⟨a, us, rfl, hra, _, hl, _⟩ := own_lst h1 s
    cases hb : asBools xs with
    | none => rw [hb] at e; cases e
    | some bs =>
      rw [hb] at e
      obtain rfl := Option.some.inj e
      have hu := ownL_bools hl hb
      subst hu
      exact ⟨a, bs, rfl, SqL.of hra, k _ F H res_bl⟩
  · cases e
theorem spec_any : OpSpec T anyD (rAny T.K) := by
  intro F H ds vs d Q s ha e k
  unfold anyD at e
  split at e
  · rename_i o xs
    obtain ⟨v, g, rfl, h1⟩ := args1 ha
    obtain ⟨a, us, rfl, hra, _, hl, _⟩ := own_lst h1 s
    cases hb : asBools xs with
    | none => rw [hb] at e; cases e
    | some bs =>
      rw [hb] at e
      obtain rfl := Option.some.inj e
      have hu := ownL_bools hl hb
      subst hu
      exact ⟨a, bs, rfl, SqL.of hra, k _ F H res_bl⟩
  · cases e
/-! isinstance -/
def tyN : Blt → Option String
  | .isint => some "int"
  | .isbool => some "bool"
  | .isstr => some "str"
  | .islist => some "list"
  | .istuple => some "tuple"
  | .isdict => some "dict"
  | _ => none
def ty0N : Ty0 → String
  | .non => "NoneType"
  | .bool => "bool"
  | .int => "int"
  | .str => "str"
  | .tuple => "tuple"
  | .list => "list"
  | .dict => "dict"
theorem tab_ok {b : Blt} {n : String} (h : tyN b = some n) (t : Ty0) : kitB (ty0N t) n = some (isTab b t) := by
  cases b <;> first | (cases h; done) | (obtain rfl := Option.some.inj h; cases t <;> decide +kernel)
def rIs1 (K : PySem.W.Frag) (n : String) : List V → Hp → VK → Prop := fun vs H Q => match vs with
  | [x] => rIsi K [x, .ty n] H Q
  | _ => False
theorem tyD_ok (s : Ex F H) {d : D} {v : V} {g : List Addr} {t : Ty0} (h : Own T F H d v g) (e : tyD d = some t) : TyX T.K H v (.type (ty0N t)) := by
  cases d with
  | non => obtain rfl := Option.some.inj e; rw [h.1]; exact .base .non
  | bl b => obtain rfl := Option.some.inj e; rw [h.1]; exact .base (.bl b)
  | int i => obtain rfl := Option.some.inj e; rw [h.1]; exact .base (.int i)
  | str x => obtain rfl := Option.some.inj e; rw [h.1]; exact .base (.str x)
  | fn f => cases e
  | nd o kd ds =>
    obtain ⟨a, us, rfl, hat, _, hl, _⟩ := own_nd h s
    cases kd with
    | tup =>
      obtain rfl := Option.some.inj e
      rcases hat with ⟨_, z⟩ | ⟨_, z⟩
      · exact z.elim
      · exact .base (.tup (s _ _ z))
    | ktup =>
      obtain rfl := Option.some.inj e
      rcases hat with ⟨_, z⟩ | ⟨_, z⟩
      · exact z.elim
      · rcases ex_t s z with (z | ⟨o, z⟩) | ⟨o, its, n, z1, z2, _⟩
        · exact .base (.tup z)
        · exact .fTuple z
        · exact .kTuple z1 z2
    | lst =>
      obtain rfl := Option.some.inj e
      rcases hat with ⟨_, z⟩ | ⟨_, z⟩
      · exact .base (.lst z)
      · exact .base (.lst (s _ _ z))
    | dK ks =>
      obtain rfl := Option.some.inj e
      rcases hat with ⟨_, z⟩ | ⟨_, z⟩
      · exact .base (.dK z.2)
      · exact .base (.dK (s _ _ z.2))
    | dT ks =>
      obtain rfl := Option.some.inj e
      rcases hat with ⟨_, z⟩ | ⟨_, z⟩
      · exact .base (.dT z.2)
      · exact .base (.dT (s _ _ z.2))
    | _ => cases e
theorem spec_is {b : Blt} {n : String} (hn : tyN b = some n) : OpSpec T (isD' b) (rIs1 T.K n) := by
  intro F H ds vs d Q s ha e k
  unfold isD' at e
  split at e
  · rename_i x
    obtain ⟨v, g, rfl, h1⟩ := args1 ha
    cases h2 : tyD x with
    | none => rw [h2] at e; cases e
    | some t =>
      rw [h2] at e
      obtain rfl := Option.some.inj e
      exact ⟨v, .ty n, .type (ty0N t), .type n, _, rfl, .ty _, tyD_ok s h1 h2, kit_ty (tab_ok hn t), k _ F H res_bl⟩
  · cases e
theorem gx_isi (O : XOk T X W P) {b : Blt} {n : String} {il : Ex'} {e : Expr} {p p2 pos : Pos} {y : Str} (hn : tyN b = some n) (hb : bltD b = isD' b) (h : GX T X W P Φ il e) (hg : Gl X "isinstance") (hm : X.mg "isinstance" = none) (hgy : Gl X y) (hmy : X.mg y = none) (hvy : bootBuiltins y = some (.type n))
    (hs : noStar e = true) (hny : y ≠ "__name__") (hdy : (y == ("__debug__" : Str)) = false) : GX T X W P Φ (.blt b [il]) (.Call (.Name "isinstance" p) [e, .Name y p2] [] pos) := by
  obtain ⟨t, h1, h2⟩ := h.val
  have pa : PA X [e, .Name y p2] (tCons t (tCons (tC (.ty n)) tNil)) := pa_cons h1 (pa_cons (pe_bltn (v := .ty n) hgy hmy hvy rfl hny hdy) pa_nil rfl) (star_cons hs)
  refine gx_of O (t := fun σ H Q => tCons t tNil σ H fun vs H1 => rIs1 X.K n vs H1 Q) (pe_callB call_isi hg hm boot_isinstance pa (by decide) (by decide) (star_cons hs) rfl) ?_ (fun _ => rfl) rfl
  rw [O.hK]
  have e1 : (evX P Φ (.blt b [il])).1 = pureOp (evXs P Φ [il]) (isD' b) := by rw [← hb]; rfl
  rw [e1]
  exact good_pure _ _ (good_cons h2 good_nil) (spec_is hn)
end
end RL
set_option Elab.async false
set_option linter.all false
set_option maxRecDepth 100000
set_option maxHeartbeats 4000000
/-! RL, calls of the text's own defs. -/
namespace RL
open PySem L2
/-- what a def promises: the evaluator's answer -/
def spOf (T : Tb) (φ : List D → Option (Out D × List (Option D))) : Sp := fun vs H Q E => ∃ (F : Hp) (ds : List D) (fp : Nat → List Addr) (o : Out D) (ds' : List (Option D)), Rel T F H (vs.map some) (ds.map some) fp ∧ φ ds = some (o, ds') ∧
  (∀ r, o = .ok r → ∀ (F' H' : Hp) (v : V) (fp' : Nat → List Addr), Rel T F' H' (vs.map some ++ [some v]) (ds' ++ [some r]) fp' → Tr F H fp F' H' fp' → Q v H') ∧
  ∀ c ns xs, o = .ex c ns xs → ∀ (F' H' : Hp) (fp' : Nat → List Addr) (d : Option Addr) (ws : List V), Rel T F' H' (vs.map some) ds' fp' → Tr F H fp F' H' fp' → XdAt H' d ns ws → OwnL T F' H' xs ws [] → E (.ref (T.cA c)) d H'
section
variable {T : Tb} {X : Cx} {W : WX} {P : Pr} {Φ : Hd'} {F H F1 H1 F2 H2 : Hp} {σ τ pv : List (Option V)} {env env1 ts pd : Env'} {fp fp1 fp2 : Nat → List Addr} {t1 t2 : List Nat}
theorem Rel.tail {S A : List (Option V)} {E B : Env'} (R : Rel T F H (S ++ A) (E ++ B) fp) (hl : S.length = E.length) : Rel T F H A B (fun k => fp (E.length + k)) := by
  have hlen : B.length = A.length := by have := R.len; simp [hl] at this; exact this
  refine ⟨R.sub, hlen, fun i d h => ?_, fun i => R.nd _, fun i j a hi hj => by have := R.dj _ _ a hi hj; omega, fun i a h => R.out _ a h, fun i a h => R.dom _ a h, fun i h => R.off _ (by simp; omega)⟩
  obtain ⟨v, h1, h2⟩ := R.at_ (E.length + i) d (by rw [List.getElem?_append_right (by omega)]; simpa using h)
  rw [← hl, List.getElem?_append_right (by omega)] at h1
  exact ⟨v, by simpa using h1, h2⟩
def joinF (n : Nat) (f g : Nat → List Addr) : Nat → List Addr := fun i => if i < n then f i else g (i - n)
theorem Rel.join {S A : List (Option V)} {E B : Env'} {g : Nat → List Addr} (R : Rel T F H S E fp) (R' : Rel T F H A B g) (dj : ∀ i j a, i < E.length → a ∈ fp i → a ∉ g j) : Rel T F H (S ++ A) (E ++ B) (joinF E.length fp g) := by
  have mem : ∀ {i a}, a ∈ joinF E.length fp g i → (i < E.length ∧ a ∈ fp i) ∨ (E.length ≤ i ∧ a ∈ g (i - E.length)) := fun {i a} h => by
    unfold joinF at h
    split at h
    · exact .inl ⟨by assumption, h⟩
    · exact .inr ⟨by omega, h⟩
  refine ⟨R.sub, by simp [R.len, R'.len], fun i d h => ?_, fun i => ?_, fun i j a hi hj => ?_, fun i a h => ?_, fun i a h => ?_, fun i h => ?_⟩
  · by_cases e : i < E.length
    · rw [List.getElem?_append_left e] at h
      obtain ⟨v, h1, h2⟩ := R.at_ i d h
      refine ⟨v, by rw [List.getElem?_append_left (by rw [← R.len]; exact e)]; exact h1, ?_⟩
      unfold joinF; rw [if_pos e]; exact h2
    · rw [List.getElem?_append_right (by omega)] at h
      obtain ⟨v, h1, h2⟩ := R'.at_ _ d h
      refine ⟨v, by rw [List.getElem?_append_right (by rw [← R.len]; omega), ← R.len]; exact h1, ?_⟩
      unfold joinF; rw [if_neg e]; exact h2
  · unfold joinF; split
    · exact R.nd i
    · exact R'.nd _
  · rcases mem hi with ⟨a1, a2⟩ | ⟨a1, a2⟩ <;> rcases mem hj with ⟨b1, b2⟩ | ⟨b1, b2⟩
    · exact R.dj i j a a2 b2
    · exact absurd b2 (dj i _ a a1 a2)
    · exact absurd a2 (dj j _ a b1 b2)
    · have := R'.dj _ _ a a2 b2; omega
  · rcases mem h with ⟨a1, a2⟩ | ⟨a1, a2⟩
    · exact R.out i a a2
    · exact R'.out _ a a2
  · rcases mem h with ⟨a1, a2⟩ | ⟨a1, a2⟩
    · exact R.dom i a a2
    · exact R'.dom _ a a2
  · have h' : E.length + B.length ≤ i := by simpa using h
    unfold joinF; rw [if_neg (by omega)]
    exact R'.off _ (by omega)
/-- the temporaries were handed on, and others come back -/
theorem Post.swap {A B : List (Option V)} {pa pb : Env'} {g : Nat → List Addr} (p : Post T F H σ τ env ts fp t1 F1 H1 env1 fp1 A pa) (hs : σ.length = env.length) (ht : τ.length = ts.length) (R' : Rel T F2 H2 B pb g)
    (tr : Tr F1 H1 (fun k => fp1 (env.length + ts.length + k)) F2 H2 g) : Post T F H σ τ env ts fp t1 F2 H2 env1 (joinF (env.length + ts.length) fp1 g) B pb := by
  have e1 : (env1 ++ ts).length = env.length + ts.length := by simp [p.len]
  have p0 := p.drop hs ht
  have R0 := p0.rel
  simp only [List.append_nil] at R0
  have nk : ∀ {i a}, i < env.length + ts.length → a ∈ fp1 i → ∀ k, a ∉ fp1 (env.length + ts.length + k) := fun {i a} hi m k m2 => by
    have := p.rel.dj _ _ a m m2; omega
  have keep : ∀ {i a}, i < env.length + ts.length → a ∈ fp1 i → H2 a = H1 a ∧ F2 a = none := fun {i a} hi m => by
    obtain ⟨o, ho⟩ := p.rel.dom i a m
    refine ⟨by rw [tr.keep a o ho (nk hi m), ho], ?_⟩
    cases hf : F2 a with
    | none => rfl
    | some u =>
      rcases tr.newF a u hf with ⟨q, hq⟩ | ⟨k, hk⟩ | hn
      · rw [p.rel.out i a m] at hq; cases hq
      · exact absurd hk (nk hi m k)
      · rw [ho] at hn; cases hn
  have R1 := R0.heap (F' := F2) (H' := H2) tr.fro R'.sub fun i a m => keep (mem_cutF m).1 (mem_cutF m).2
  have cutEq : joinF (env.length + ts.length) (cutF (env.length + ts.length) fp1) g = joinF (env.length + ts.length) fp1 g := by
    funext i
    unfold joinF cutF
    split
    · rfl
    · rfl
  have dj : ∀ i j a, i < (env1 ++ ts).length → a ∈ cutF (env.length + ts.length) fp1 i → a ∉ g j := fun i j a hi m m2 => by
    obtain ⟨h1, h2⟩ := mem_cutF m
    rcases tr.newf j a m2 with ⟨k, hk⟩ | hn
    · exact nk h1 h2 k hk
    · obtain ⟨o, ho⟩ := p.rel.dom i a h2
      rw [ho] at hn; cases hn
  have R2 := Rel.join R1 R' dj
  rw [e1, cutEq] at R2
  have tr2 : Tr F1 H1 fp1 F2 H2 (joinF (env.length + ts.length) fp1 g) := by
    refine ⟨tr.fro, fun a o h hn => tr.keep a o h fun k => hn _, fun a u h => ?_, fun i a h => ?_⟩
    · rcases tr.newF a u h with h | ⟨k, hk⟩ | h
      · exact .inl h
      · exact .inr (.inl ⟨_, hk⟩)
      · exact .inr (.inr h)
    · unfold joinF at h
      split at h
      · exact .inl ⟨i, h⟩
      · rcases tr.newf _ a h with ⟨k, hk⟩ | h
        · exact .inl ⟨_, hk⟩
        · exact .inr h
  refine ⟨p.len, R2, p.tr.trans tr2, fun i hi hl => ?_⟩
  obtain ⟨s1, s2, s3⟩ := p.same i hi hl
  refine ⟨s1, ?_, fun a m => ?_⟩
  · unfold joinF; rw [if_pos hl]; exact s2
  · rw [(keep hl (by rw [s2]; exact m)).1]
    exact s3 a m
/-- a temporary goes back to its slot -/
theorem Post.back {pv' : List (Option V)} {pd' : Env'} {r : Nat} {d : Option D} {v : V} (p : Post T F H σ τ env ts fp t1 F1 H1 env1 fp1 (pv ++ some v :: pv') (pd ++ d :: pd')) (hs : σ.length = env.length) (ht : τ.length = ts.length) (hp : pv.length = pd.length) (hv : σ[r]? = some (some v)) (h0 : r < env1.length) (hn : env1[r]? = some none) :
    ∃ fp2, Post T F H σ τ env ts fp (t1 ++ [r]) F1 H1 (env1.set r d) fp2 (pv ++ some v :: pv') (pd ++ none :: pd') := by
  have hl1 := p.len
  cases d with
  | none =>
    refine ⟨fp1, by simpa using hl1, ?_, p.tr, fun i hi hl => ?_⟩
    · have := p.rel.kill r
      have q : (env1 ++ ts ++ (pd ++ none :: pd')).set r none = env1.set r none ++ ts ++ (pd ++ none :: pd') := by
        rw [List.append_assoc, List.set_append_left _ _ h0, ← List.append_assoc]
      rw [q] at this
      exact this
    · obtain ⟨s1, s2, s3⟩ := p.same i (hi.imp (fun z y => z (List.mem_append_left _ y)) id) hl
      refine ⟨?_, s2, s3⟩
      rw [← s1]
      have : env1.set r none = env1 := List.ext_getElem? fun j => by
        by_cases e : r = j
        · subst e; rw [List.getElem?_set_self h0, hn]
        · rw [List.getElem?_set_ne e]
      rw [this]
  | some d =>
    have e1 : (env1 ++ ts ++ pd).length = env.length + ts.length + pd.length := by simp [hl1, Nat.add_assoc]
    have e2 : (σ ++ τ ++ pv).length = env.length + ts.length + pd.length := by simp [hs, ht, hp, Nat.add_assoc]
    have a1 : (env1 ++ ts ++ (pd ++ some d :: pd'))[env.length + ts.length + pd.length]? = some (some d) := by
      rw [← List.append_assoc, ← e1, List.getElem?_append_right (Nat.le_refl _)]; simp
    have a2 : (σ ++ τ ++ (pv ++ some v :: pv'))[env.length + ts.length + pd.length]? = some (some v) := by
      rw [← List.append_assoc, ← e2, List.getElem?_append_right (Nat.le_refl _)]; simp
    have a3 : (env1 ++ ts ++ (pd ++ some d :: pd'))[r]? = some none := by
      rw [List.append_assoc, List.getElem?_append_left h0]; exact hn
    have a4 : (σ ++ τ ++ (pv ++ some v :: pv'))[r]? = some (some v) := by
      rw [List.append_assoc, List.getElem?_append_left (by omega)]; exact hv
    have R := Rel.move p.rel a1 a2 a3 a4
    have e3 : ((env1 ++ ts ++ (pd ++ some d :: pd')).set (env.length + ts.length + pd.length) none).set r (some d) = env1.set r (some d) ++ ts ++ (pd ++ none :: pd') := by
      have q1 : (env1 ++ ts ++ (pd ++ some d :: pd')).set (env.length + ts.length + pd.length) none = env1 ++ ts ++ (pd ++ none :: pd') := by
        rw [← List.append_assoc, ← e1, List.set_append_right _ _ (Nat.le_refl _)]
        simp [List.append_assoc]
      rw [q1, List.append_assoc, List.set_append_left _ _ h0, ← List.append_assoc]
    rw [e3] at R
    refine ⟨_, by simpa using hl1, R, ?_, fun i hi hl => ?_⟩
    · refine p.tr.less fun i a m => ?_
      unfold setFp at m
      split at m
      · exact ⟨_, m⟩
      · split at m
        · cases m
        · exact ⟨i, m⟩
    · have hir : i ≠ r := by
        rcases hi with hi | hi
        · intro z; subst z; exact hi (List.mem_append_right _ (by simp))
        · omega
      obtain ⟨s1, s2, s3⟩ := p.same i (hi.imp (fun z y => z (List.mem_append_left _ y)) id) hl
      refine ⟨?_, ?_, s3⟩
      · rw [← s1]
        by_cases hil : i < env1.length
        · rw [List.getElem?_append_left (by simpa using hil), List.getElem?_append_left hil, List.getElem?_set_ne (Ne.symm hir)]
        · rw [List.getElem?_append_right (by simp; omega), List.getElem?_append_right (by omega)]
          simp
      · rw [setFp_ne hir, setFp_ne (by omega), s2]
/-- the slots that things went out of -/
theorem take_none {tv : List Nat} : ∀ {rs : List Rf} {e e2 : Env'} {ds : List D}, takeL rs e = some (.ok ds, e2) → e2.length = e.length ∧ (∀ r, Rf.at_ r [] ∈ rs → e2[r]? = some none) ∧ ∀ i : Nat, e[i]? = some none → e2[i]? = some none
  | [], e, e2, ds, h => by
    obtain ⟨_, rfl⟩ := ret_some (show M.ret [] e = _ from h)
    exact ⟨rfl, by simp, fun _ h => h⟩
  | r :: rs, e, e2, ds, h => by
    rcases bind_cases (show M.bind (takeR r) _ e = _ from h) with ⟨d, e1, q1, ea1⟩ | ⟨c, ns, xs, q1, z⟩
    · rcases bind_cases ea1 with ⟨ds', e3, q2, ea2⟩ | ⟨c, ns, xs, q2, z⟩
      · obtain ⟨_, rfl⟩ := ret_some ea2
        obtain ⟨l1, l2, l3⟩ := take_none (tv := tv) q2
        rcases takeR_some q1 with ⟨d0, rfl, _, rfl⟩ | ⟨i, d0, rfl, hsl, _, rfl⟩
        · refine ⟨l1, fun r hr => ?_, l3⟩
          rcases List.mem_cons.mp hr with h | h
          · cases h
          · exact l2 r h
        · have hi := slotAt_lt hsl
          refine ⟨by simpa using l1, fun r hr => ?_, fun j hj => l3 j ?_⟩
          · rcases List.mem_cons.mp hr with h | h
            · cases h
              exact l3 _ (List.getElem?_set_self hi)
            · exact l2 r h
          · by_cases e : i = j
            · subst e; exact List.getElem?_set_self hi
            · rw [List.getElem?_set_ne e]; exact hj
      · cases z
    · cases z
/-- a slot that a thing went out of is not gone out of again -/
theorem take_once : ∀ {rs : List Rf} {e e2 : Env'} {ds : List D} {i : Nat}, takeL rs e = some (.ok ds, e2) → e[i]? = some none → Rf.at_ i [] ∉ rs
  | [], e, e2, ds, i, h, hn => by simp
  | r :: rs, e, e2, ds, i, h, hn => by
    rcases bind_cases (show M.bind (takeR r) _ e = _ from h) with ⟨d, e1, q1, ea1⟩ | ⟨c, ns, xs, q1, z⟩
    · rcases bind_cases ea1 with ⟨ds', e3, q2, ea2⟩ | ⟨c, ns, xs, q2, z⟩
      · intro hm
        rcases takeR_some q1 with ⟨d0, rfl, _, rfl⟩ | ⟨j, d0, rfl, hsl, _, rfl⟩
        · rcases List.mem_cons.mp hm with h | h
          · cases h
          · exact take_once q2 hn h
        · rcases List.mem_cons.mp hm with h | h
          · cases h
            rw [slotAt_some hsl] at hn; cases hn
          · refine take_once q2 ?_ h
            by_cases e : j = i
            · subst e; rw [slotAt_some hsl] at hn; cases hn
            · rw [List.getElem?_set_ne e]; exact hn
      · cases z
    · cases z
theorem come_back {tv : List Nat} (hs : σ.length = env.length) (ht : τ.length = ts.length) : ∀ {rs : List Rf} {vs : List V} {ds : List D} {ds' : List (Option D)} {e0 e2 : Env'} {pv pd env1 fp1 t1} {pvz : List (Option V)} {pdz : Env'}, pv.length = pd.length → Post T F H σ τ env ts fp t1 F1 H1 env1 fp1 (pv ++ vs.map some ++ pvz) (pd ++ ds' ++ pdz) → AllT tv σ rs vs → takeL rs e0 = some (.ok ds, e2) → ds'.length = vs.length → (∀ r, Rf.at_ r [] ∈ rs → env1[r]? = some none) →
    ∃ fp2 pd2, pd2.length = vs.length ∧ Post T F H σ τ env ts fp (t1 ++ tv) F1 H1 (comeBack rs ds' env1) fp2 (pv ++ vs.map some ++ pvz) (pd ++ pd2 ++ pdz)
  | [], vs, ds, ds', e0, e2, pv, pd, env1, fp1, t1, pvz, pdz, hp, p, h, e, hd, hn => by
    have : vs = [] := h
    subst this
    have : ds' = [] := List.eq_nil_of_length_eq_zero (by simpa using hd)
    subst this
    exact ⟨fp1, [], rfl, p.weak fun i z => List.mem_append_left _ z⟩
  | r :: rs, vs, ds, [], e0, e2, pv, pd, env1, fp1, t1, pvz, pdz, hp, p, h, e, hd, hn => by
    obtain ⟨v, ws, rfl, _⟩ := h
    simp at hd
  | r :: rs, vs, ds, d :: ds', e0, e2, pv, pd, env1, fp1, t1, pvz, pdz, hp, p, h, e, hd, hn => by
    obtain ⟨v, ws, rfl, h1, h2⟩ := h
    rcases bind_cases (show M.bind (takeR r) _ e0 = _ from e) with ⟨x, e1, q1, ea1⟩ | ⟨c, ns, xs, q1, z⟩
    · rcases bind_cases ea1 with ⟨xs, e3, q2, ea2⟩ | ⟨c, ns, xs, q2, z⟩
      · rcases takeR_some q1 with ⟨d0, rfl, ho, rfl⟩ | ⟨i, d0, rfl, hsl, ho, rfl⟩
        · have step : Post T F H σ τ env ts fp t1 F1 H1 env1 fp1 ((pv ++ [some v]) ++ ws.map some ++ pvz) ((pd ++ [d]) ++ ds' ++ pdz) := by simpa using p
          obtain ⟨fp2, pd2, l2, p2⟩ := come_back hs ht (by simp [hp]) step h2 q2 (by simpa using hd) (fun r hr => hn r (List.mem_cons_of_mem _ hr))
          exact ⟨fp2, d :: pd2, by simp [l2], by simpa [comeBack] using p2⟩
        · obtain ⟨a1, a2⟩ := h1 i rfl
          have hni := hn i List.mem_cons_self
          have hi : i < env1.length := (List.getElem?_eq_some_iff.mp hni).1
          obtain ⟨fp2, p2⟩ := Post.back (pv := pv) (pd := pd) (pv' := ws.map some ++ pvz) (pd' := ds' ++ pdz) (r := i) (d := d) (v := v) (by simpa using p) hs ht hp a1 hi hni
          have step : Post T F H σ τ env ts fp (t1 ++ [i]) F1 H1 (env1.set i d) fp2 ((pv ++ [some v]) ++ ws.map some ++ pvz) ((pd ++ [none]) ++ ds' ++ pdz) := by simpa using p2
          have once : Rf.at_ i [] ∉ rs := take_once q2 (List.getElem?_set_self (slotAt_lt hsl))
          obtain ⟨fp3, pd3, l3, p3⟩ := come_back hs ht (by simp [hp]) step h2 q2 (by simpa using hd) (fun r hr => by
            have hne : i ≠ r := fun z => once (z ▸ hr)
            rw [List.getElem?_set_ne hne]
            exact hn r (List.mem_cons_of_mem _ hr))
          have hw := p3.weak (t2 := t1 ++ tv) fun j z => (by
            rcases List.mem_append.mp z with z | z
            · rcases List.mem_append.mp z with z | z
              · exact List.mem_append_left _ z
              · have : j = i := by simpa using z
                subst this
                exact List.mem_append_right _ a2
            · exact List.mem_append_right _ z)
          exact ⟨fp3, none :: pd3, by simp [l3], by simpa [comeBack] using hw⟩
      · cases z
    · cases z
end
end RL
set_option Elab.async false
set_option linter.all false
set_option maxRecDepth 100000
set_option maxHeartbeats 4000000
/-! RL, calls of the text's own defs, by expression. -/
namespace RL
open PySem L2
section
variable {T : Tb} {X : Cx} {W : WX} {P : Pr} {Φ : Hd'} {F H F1 H1 F2 H2 : Hp} {σ τ pv : List (Option V)} {env env1 ts pd : Env'} {fp fp1 fp2 : Nat → List Addr} {t1 t2 : List Nat}
/-- the last of some temporaries alone -/
theorem Post.lastOnly {d : D} {v : V} (p : Post T F H σ τ env ts fp t1 F1 H1 env1 fp1 (pv ++ [some v]) (pd ++ [some d])) (hs : σ.length = env.length) (ht : τ.length = ts.length) (hp : pv.length = pd.length) : ∃ fp2, Post T F H σ τ env ts fp t1 F1 H1 env1 fp2 [some v] [some d] := by
  have ho := p.last hs ht hp
  exact ⟨_, p.fin hs ht (g := fp1 (env.length + ts.length + pd.length)) (Ex.refl _) p.rel.sub (fun i _ a m => ⟨rfl, p.rel.out i a m⟩) (fun a u h => .inl ⟨u, h⟩) (fun a o h _ => h) ho (p.rel.nd _)
    (fun a m => ⟨p.rel.out _ a m, fun i hi m2 => by have := p.rel.dj _ _ a m2 m; omega, .inl ⟨_, by omega, m⟩⟩)⟩
theorem callM_cases {f : Nat} {rs : List Rf} {e e2 : Env'} {o : Out D} (h : callM Φ f rs e = some (o, e2)) : ∃ ds e1 o' ds', takeL rs e = some (.ok ds, e1) ∧ Φ f ds = some (o', ds') ∧ o' = o ∧ e2 = comeBack rs ds' e1 := by
  unfold callM at h
  split at h
  · rename_i ds e1 q
    split at h
    · rename_i d ds' q2
      obtain ⟨rfl, rfl⟩ := Prod.mk.inj (Option.some.inj h)
      exact ⟨ds, e1, _, ds', q, q2, rfl, rfl⟩
    · rename_i c ns xs ds' q2
      obtain ⟨rfl, rfl⟩ := Prod.mk.inj (Option.some.inj h)
      exact ⟨ds, e1, _, ds', q, q2, rfl, rfl⟩
    · cases h
  · cases h
theorem takeL_err {rs : List Rf} {e e2 : Env'} {o : Out (List D)} (h : takeL rs e = some (o, e2)) : ∃ ds, o = .ok ds := by
  induction rs generalizing e o with
  | nil => obtain ⟨rfl, _⟩ := ret_some (show M.ret [] e = _ from h); exact ⟨[], rfl⟩
  | cons r rs ih =>
    rcases bind_cases (show M.bind (takeR r) _ e = _ from h) with ⟨d, e1, q1, ea1⟩ | ⟨c, ns, xs, q1, rfl⟩
    · rcases bind_cases ea1 with ⟨ds', e3, q2, ea2⟩ | ⟨c, ns, xs, q2, rfl⟩
      · obtain ⟨rfl, _⟩ := ret_some ea2; exact ⟨_, rfl⟩
      · obtain ⟨ds, z⟩ := ih q2; cases z
    · rcases takeR_some q1 with ⟨_, _, ho, _⟩ | ⟨_, _, _, _, ho, _⟩ <;> cases ho
theorem good_call {A : M (List Rf)} {tch tv tr : List Nat} {t : TA} {f : Nat} (g : GoodA T W A tch tv tr t) : GoodD T W (M.bind A fun rs => callM Φ f rs) (tch ++ tv) (tCallS (spOf T (Φ f)) (WE W) t) := fun F H σ τ env ts fp o env2 hs ht R e Q k1 k2 => by
  rcases bind_cases e with ⟨rs, e1, q1, ea1⟩ | ⟨c, ns, xs, q1, rfl⟩
  · obtain ⟨ds, e2, o', ds', q2, q3, rfl, rfl⟩ := callM_cases ea1
    refine g F H σ τ env ts fp _ _ hs ht R q1 _ (fun a ea F1 H1 fp1 vs pv pd j p => ?_) (fun c ns xs eo => by cases eo)
    cases ea
    obtain ⟨rfl, rfl, j1⟩ := j
    have hT := j1.t
    obtain ⟨ds0, fp2, h3, hlen, p2⟩ := take_list (pv := []) (pd := []) hs ht rfl (by simpa using p) hT q2
    cases h3
    have p2' : Post T F H σ τ env ts fp (tch ++ tv) F1 H1 e2 fp2 (vs.map some) (ds.map some) := by simpa using p2
    have e0 : (e2 ++ ts).length = env.length + ts.length := by simp [p2'.len]
    have RA := Rel.tail (S := σ ++ τ) (E := e2 ++ ts) p2'.rel (by simp [hs, ht, p2'.len])
    rw [e0] at RA
    obtain ⟨_, hnone, _⟩ := take_none (tv := []) q2
    refine ⟨F1, ds, _, o', ds', RA, q3, fun r eo F' H' v fp' R' tr' => ?_, fun c ns xs eo F' H' fp' d ws R' tr' x1 x2 => ?_⟩
    · subst eo
      have p3 := p2'.swap hs ht R' tr'
      have hl' : ds'.length = vs.length := by have := R'.len; simpa using this
      obtain ⟨fp3, pd3, l3, p4⟩ := come_back (pv := []) (pd := []) (pvz := [some v]) (pdz := [some r]) hs ht rfl (by simpa using p3) hT q2 hl' hnone
      obtain ⟨fp5, p5⟩ := Post.lastOnly (pv := vs.map some) (pd := pd3) (by simpa using p4) hs ht (by simp [l3])
      exact k1 r rfl F' H' fp5 v _ _ ⟨rfl, rfl⟩ (p5.weak fun i z => by simp at z ⊢; rcases z with z | z <;> simp [z])
    · subst eo
      have p3 := p2'.swap hs ht R' tr'
      have hl' : ds'.length = vs.length := by have := R'.len; simpa using this
      obtain ⟨fp3, pd3, l3, p4⟩ := come_back (pv := []) (pd := []) (pvz := []) (pdz := []) hs ht rfl (by simpa using p3) hT q2 hl' hnone
      exact k2 _ _ _ rfl F' H' _ d ws ((p4.drop hs ht).weak fun i z => by simp at z ⊢; rcases z with z | z <;> simp [z]) x1 x2
  · exact g F H σ τ env ts fp _ _ hs ht R q1 _ (fun a ea => by cases ea) (fun c' ns' xs' eo F1 H1 fp1 d ws p x1 x2 => by cases eo; exact k2 _ _ _ rfl F1 H1 fp1 d ws (p.weak fun i z => List.mem_append_left _ z) x1 x2)
/-- a def of the text that keeps what the evaluator says of it -/
structure FOk (T : Tb) (X : Cx) (Φ : Hd') (k f : Nat) (x : Str) (ps : List Str) : Prop where
  fn : ∃ fd, X.mg x = some (.ref (T.fA f)) ∧ PySem.W.keepIn X.K (.ref (T.fA f)) = true ∧ Binds X.K fd ps [] ∧ FnOk X.prog X.w X.K X.mg X.base (L2.CX X.prog X.w) k (T.fA f) fd ps (spOf T (Φ f))
theorem gx_call (O : XOk T X W P) (tk : Takes X W) {k f : Nat} {x : Str} {ps : List Str} {ils : List Ex'} {e : Expr} {es : List Expr} {p pos : Pos} (hr : Room k X.A) (hf : FOk T X Φ k f x ps) (h : GA T X W P Φ ils (e :: es)) (hg : Gl X x)
    (hs : (e :: es).all noStar = true) (hd : (x == ("__debug__" : Str)) = false) : GX T X W P Φ (.call f ils) (.Call (.Name x p) (e :: es) [] pos) := by
  obtain ⟨t, h1, h2⟩ := h.val
  obtain ⟨fd, f1, f2, f3, f4⟩ := hf.fn
  have hs' : noStar e = true ∧ es.all noStar = true := by simpa using hs
  exact gx_of O (pe_callS f4 hr hg f1 f2 f3 (fun σ => passAt tk σ) h1 hd (star_cons hs'.1) (star_any hs'.2)) (good_tmp _ _ (good_call h2)) (fun _ => rfl) rfl
end
end RL
set_option Elab.async false
set_option linter.all false
set_option maxRecDepth 100000
set_option maxHeartbeats 4000000
/-! RL, changes at a place; stores. -/
namespace RL
open PySem L2
section
variable {T : Tb} {X : Cx} {W : WX} {P : Pr} {Φ : Hd'} {F H F1 H1 F2 H2 : Hp} {σ τ pv : List (Option V)} {env env1 ts pd : Env'} {fp fp1 fp2 : Nat → List Addr} {t1 t2 : List Nat}
/-- a change of one own object: the rest as it was; b0: what the object held, b1: what it holds now, out of it and of the temporaries -/
theorem Rel.mut {S A : List (Option V)} {E B : Env'} {r : Nat} {p : List Nat} {dr d d' : D} {vr : V} {a : Addr} {o' : HO} (R : Rel T F H (S ++ A) (E ++ B) fp) (hl : S.length = E.length) (hr : E[r]? = some (some dr)) (hv : S[r]? = some (some vr))
    (hp : getP p dr = some d) (hf : follow H p vr = some (.ref a)) (hd : d.own = true)
    (new : ∀ b, Own T F H d (.ref a) (a :: b) → (a :: b).Nodup → (∀ z ∈ b, z ≠ a → upd H a o' z = H z) → (∀ z ∈ a :: b, z ∈ fp r) → ∃ b', Own T F (upd H a o') d' (.ref a) (a :: b') ∧ (a :: b').Nodup ∧ ∀ z ∈ b', z ∈ b ∨ ∃ j, E.length ≤ j ∧ z ∈ fp j) :
    ∃ fp', Rel T F (upd H a o') S (E.set r (some (setP d' p dr))) fp' ∧ (∀ i, i ≠ r → i < E.length → fp' i = fp i ∧ ∀ z ∈ fp i, upd H a o' z = H z) ∧ (∀ i z, z ∈ fp' i → ∃ j, z ∈ fp j) ∧ a ∈ fp r := by
  have hrl : r < E.length := (List.getElem?_eq_some_iff.mp hr).1
  have hr' : (E ++ B)[r]? = some (some dr) := by rw [List.getElem?_append_left hrl]; exact hr
  obtain ⟨w, hw, ho⟩ := R.at_ r dr hr'
  rw [List.getElem?_append_left (by omega), hv] at hw
  obtain rfl : vr = w := by simpa using hw
  obtain ⟨v', x, b0, y, e0, hfo, hd0, hh⟩ := Own.focus ho hp
  obtain rfl : v' = .ref a := Option.some.inj (hfo.symm.trans hf)
  have hb0 : ∃ b, b0 = a :: b := by
    cases d with
    | nd o k ds =>
      have : o = true := hd
      subst this
      unfold Own at hd0
      rcases hd0 with ⟨z, _⟩ | ⟨_, a', vs, g, e1, e2, _⟩
      · cases z
      · cases e1; exact ⟨g, e2⟩
    | _ => cases hd
  obtain ⟨b, rfl⟩ := hb0
  have ndr := R.nd r
  rw [e0] at ndr
  have nd1 := List.nodup_append.mp ndr
  have nd2 := List.nodup_append.mp nd1.1
  have mem_r : ∀ z, z ∈ x ++ (a :: b) ++ y → z ∈ fp r := fun z m => by rw [e0]; exact m
  have ar : a ∈ fp r := mem_r a (by simp)
  have hne : ∀ z ∈ b, z ≠ a := fun z m e => by
    have := nd2.2.1
    rw [List.nodup_cons] at this
    exact this.1 (e ▸ m)
  obtain ⟨b', n1, n2, n3⟩ := new b hd0 nd2.2.1 (fun z _ e => upd_ne e) (fun z m => mem_r z (List.mem_append_left _ (List.mem_append_right _ m)))
  have xy : ∀ z ∈ x ++ y, z ≠ a := fun z m e => by
    subst e
    rcases List.mem_append.mp m with m | m
    · exact nd2.2.2 z m z (by simp) rfl
    · exact nd1.2.2 z (by simp) z m rfl
  obtain ⟨h1, _⟩ := hh F (upd H a o') d' (a :: b') (Ex.refl F) (fun z m => upd_ne (xy z m)) n1
  have b'r : ∀ z ∈ b', z ∈ fp r ∨ ∃ j, E.length ≤ j ∧ z ∈ fp j := fun z m => (n3 z m).imp (fun m => mem_r z (by simp [m])) id
  let fp' : Nat → List Addr := fun i => if i = r then x ++ (a :: b') ++ y else if i < E.length then fp i else []
  have f1 : fp' r = x ++ (a :: b') ++ y := if_pos rfl
  have f2 : ∀ i, i ≠ r → i < E.length → fp' i = fp i := fun i h h2 => by show (if i = r then _ else _) = _; rw [if_neg h, if_pos h2]
  have f3 : ∀ i, i ≠ r → ¬ i < E.length → fp' i = [] := fun i h h2 => by show (if i = r then _ else _) = _; rw [if_neg h, if_neg h2]
  have mem : ∀ {i z}, z ∈ fp' i → (i = r ∧ z ∈ x ++ (a :: b') ++ y) ∨ (i ≠ r ∧ i < E.length ∧ z ∈ fp i) := fun {i z} m => by
    by_cases e : i = r
    · subst e; rw [f1] at m; exact .inl ⟨rfl, m⟩
    · by_cases e2 : i < E.length
      · rw [f2 i e e2] at m; exact .inr ⟨e, e2, m⟩
      · rw [f3 i e e2] at m; cases m
  have memr : ∀ {z}, z ∈ x ++ (a :: b') ++ y → z ∈ fp r ∨ ∃ j, E.length ≤ j ∧ z ∈ fp j := fun {z} m => by
    simp only [List.mem_append, List.mem_cons] at m
    rcases m with (m | rfl | m) | m
    · exact .inl (mem_r z (by simp [m]))
    · exact .inl ar
    · exact b'r z m
    · exact .inl (mem_r z (by simp [m]))
  have other : ∀ i, i ≠ r → ∀ z ∈ fp i, upd H a o' z = H z := fun i hi z m => upd_ne fun e => hi (R.dj i r z m (e ▸ ar))
  refine ⟨fp', ⟨?_, by simp [hl], fun i d1 h => ?_, fun i => ?_, fun i j z hi hj => ?_, fun i z h => ?_, fun i z h => ?_, fun i h => ?_⟩, fun i h h2 => ⟨f2 i h h2, other i h⟩, fun i z h => ?_, ar⟩
  · exact fun z u h => by
      rw [upd_ne (fun e => by subst e; rw [R.out r z ar] at h; cases h)]
      exact R.sub z u h
  · by_cases e : r = i
    · subst e
      rw [List.getElem?_set_self hrl] at h
      obtain rfl : setP d' p dr = d1 := by simpa using h
      exact ⟨vr, hv, by rw [f1]; exact h1⟩
    · rw [List.getElem?_set_ne e] at h
      have hi : i < E.length := (List.getElem?_eq_some_iff.mp h).1
      obtain ⟨v, q1, q2⟩ := R.at_ i d1 (by rw [List.getElem?_append_left hi]; exact h)
      rw [List.getElem?_append_left (by omega)] at q1
      exact ⟨v, q1, by rw [f2 i (Ne.symm e) hi]; exact Own.mono (Ex.refl F) d1 v _ (fun z m => other i (Ne.symm e) z m) q2⟩
  · by_cases e : i = r
    · subst e
      rw [f1]
      have db : ∀ z ∈ b', z ∉ x ∧ z ∉ y := fun z m => by
        rcases n3 z m with q | ⟨j, j1, j2⟩
        · exact ⟨fun m2 => nd2.2.2 z m2 z (by simp [q]) rfl, fun m2 => nd1.2.2 z (by simp [q]) z m2 rfl⟩
        · refine ⟨fun m2 => ?_, fun m2 => ?_⟩
          · have := R.dj _ _ z (mem_r z (by simp [m2])) j2; omega
          · have := R.dj _ _ z (mem_r z (by simp [m2])) j2; omega
      refine List.nodup_append.mpr ⟨List.nodup_append.mpr ⟨nd2.1, n2, fun z m z2 m2 e => ?_⟩, nd1.2.1, fun z m z2 m2 e => ?_⟩
      · subst e
        rcases List.mem_cons.mp m2 with rfl | m2
        · exact nd2.2.2 z m z (by simp) rfl
        · exact (db z m2).1 m
      · subst e
        simp only [List.mem_append, List.mem_cons] at m
        rcases m with m | rfl | m
        · exact nd1.2.2 z (by simp [m]) z m2 rfl
        · exact nd1.2.2 z (by simp) z m2 rfl
        · exact (db z m).2 m2
    · by_cases e2 : i < E.length
      · rw [f2 i e e2]; exact R.nd i
      · rw [f3 i e e2]; exact List.nodup_nil
  · rcases mem hi with ⟨rfl, m1⟩ | ⟨n1', n2', m1⟩ <;> rcases mem hj with ⟨rfl, m2⟩ | ⟨n3', n4', m2⟩
    · rfl
    · rcases memr m1 with q | ⟨k, k1, k2⟩
      · exact absurd (R.dj _ _ z q m2).symm n3'
      · have := R.dj _ _ z k2 m2; omega
    · rcases memr m2 with q | ⟨k, k1, k2⟩
      · exact absurd (R.dj _ _ z m1 q) n1'
      · have := R.dj _ _ z m1 k2; omega
    · exact R.dj i j z m1 m2
  · rcases mem h with ⟨rfl, m1⟩ | ⟨_, _, m1⟩
    · rcases memr m1 with q | ⟨k, k1, k2⟩
      · exact R.out _ z q
      · exact R.out _ z k2
    · exact R.out i z m1
  · have : ∃ j, z ∈ fp j := by
      rcases mem h with ⟨rfl, m1⟩ | ⟨_, _, m1⟩
      · rcases memr m1 with q | ⟨k, k1, k2⟩
        · exact ⟨_, q⟩
        · exact ⟨_, k2⟩
      · exact ⟨i, m1⟩
    obtain ⟨j, hj⟩ := this
    by_cases e : z = a
    · subst e; exact ⟨_, upd_same⟩
    · rw [upd_ne e]; exact R.dom j z hj
  · have h' : E.length ≤ i := by simpa using h
    exact f3 i (by omega) (by omega)
  · rcases mem h with ⟨rfl, m1⟩ | ⟨_, _, m1⟩
    · rcases memr m1 with q | ⟨k, k1, k2⟩
      · exact ⟨_, q⟩
      · exact ⟨_, k2⟩
    · exact ⟨i, m1⟩
/-- the same behind an evaluation, the temporaries used up -/
theorem Post.mut {r : Nat} {p : List Nat} {dr d d' : D} {vr : V} {a : Addr} {o' : HO} (q : Post T F H σ τ env ts fp t1 F1 H1 env1 fp1 pv pd) (hs : σ.length = env.length) (ht : τ.length = ts.length) (hr : slotAt env1 r = some dr) (hv : σ[r]? = some (some vr))
    (hp : getP p dr = some d) (hf : follow H1 p vr = some (.ref a)) (hd : d.own = true)
    (new : ∀ b, Own T F1 H1 d (.ref a) (a :: b) → (a :: b).Nodup → (∀ z ∈ b, z ≠ a → upd H1 a o' z = H1 z) → (∀ z ∈ a :: b, z ∈ fp1 r) → ∃ b', Own T F1 (upd H1 a o') d' (.ref a) (a :: b') ∧ (a :: b').Nodup ∧ ∀ z ∈ b', z ∈ b ∨ ∃ j, env.length + ts.length ≤ j ∧ z ∈ fp1 j) :
    ∃ fp2, Post T F H σ τ env ts fp (t1 ++ [r]) F1 (upd H1 a o') (env1.set r (some (setP d' p dr))) fp2 [] [] := by
  have hlt := slotAt_lt hr
  have e0 : (env1 ++ ts).length = env.length + ts.length := by simp [q.len]
  obtain ⟨fp', R', hoth, hsub, ar⟩ := Rel.mut (S := σ ++ τ) (E := env1 ++ ts) (A := pv) (B := pd) q.rel (by simp [hs, ht, q.len]) (slot_app hr) (by rw [List.getElem?_append_left (by rw [hs, ← q.len]; exact hlt)]; exact hv) hp hf hd (by rw [e0]; exact new)
  rw [List.set_append_left _ _ hlt] at R'
  have tr2 : Tr F1 H1 fp1 F1 (upd H1 a o') fp' := ⟨Ex.refl _, fun z o h hn => by rw [upd_ne (fun e => hn r (by rw [e]; exact ar))]; exact h, fun z u h => .inl ⟨u, h⟩, fun i z h => .inl (hsub i z h)⟩
  refine ⟨fp', by simpa using q.len, by simpa using R', q.tr.trans tr2, fun i hi hl => ?_⟩
  have hir : i ≠ r := by
    rcases hi with hi | hi
    · intro z; subst z; exact hi (List.mem_append_right _ (by simp))
    · rw [← q.len] at hi; omega
  obtain ⟨s1, s2, s3⟩ := q.same i (hi.imp (fun z y => z (List.mem_append_left _ y)) id) hl
  obtain ⟨h1, h2⟩ := hoth i hir (by rw [e0]; exact hl)
  refine ⟨?_, by rw [h1, s2], fun z m => ?_⟩
  · rw [← s1]
    by_cases hil : i < env1.length
    · rw [List.getElem?_append_left (by simpa using hil), List.getElem?_append_left hil, List.getElem?_set_ne (Ne.symm hir)]
    · rw [List.getElem?_append_right (by simp; omega), List.getElem?_append_right (by omega)]
      simp
  · rw [h2 z (by rw [s2]; exact m)]
    exact s3 z m
end
end RL
set_option Elab.async false
set_option linter.all false
set_option maxRecDepth 100000
set_option maxHeartbeats 4000000
/-! RL, statements: the frame and the simple ones. -/
namespace RL
open PySem PySem.Spec PyProof.Rows L2
mutual
/-- which slots a statement may store to -/
def asgS : St' → List Nat
  | .asg i _ => [i]
  | .asgT is _ => is
  | .par i j _ _ => [i, j]
  | .aug i _ _ => [i]
  | .ife _ a b => asgSs a ++ asgSs b
  | .whl _ b => asgSs b
  | .for_ tg _ _ b => tgL tg ++ asgSs b
  | .tryE b i => i :: asgSs b
  | _ => []
def asgSs : List St' → List Nat
  | [] => []
  | s :: ss => asgS s ++ asgSs ss
end
structure PostS (T : Tb) (F H : Hp) (σ : List (Option V)) (env : Env') (fp : Nat → List Addr) (tch asg : List Nat) (F' H' : Hp) (σ' : List (Option V)) (env' : Env') (fp' : Nat → List Addr) (pv : List (Option V)) (pd : Env') : Prop where
  len : env'.length = env.length
  sl : σ'.length = σ.length
  rel : Rel T F' H' (σ' ++ pv) (env' ++ pd) fp'
  tr : Tr F H fp F' H' fp'
  same : ∀ i, i ∉ tch → i < env.length → env'[i]? = env[i]? ∧ σ'[i]? = σ[i]? ∧ fp' i = fp i ∧ ∀ a ∈ fp i, H' a = H a
  st : ∀ i, i ∉ asg → σ'[i]? = σ[i]?
section
variable {T : Tb} {F H F1 H1 F2 H2 : Hp} {σ σ1 σ2 τ pv pv1 pv2 : List (Option V)} {env env1 env2 ts pd pd1 pd2 : Env'} {fp fp1 fp2 : Nat → List Addr} {t1 t2 a1 a2 : List Nat}
theorem PostS.refl (R : Rel T F H σ env fp) : PostS T F H σ env fp [] [] F H σ env fp [] [] :=
  ⟨rfl, rfl, by simpa using R, Tr.refl F H fp, fun _ _ _ => ⟨rfl, rfl, rfl, fun _ _ => rfl⟩, fun _ _ => rfl⟩
theorem Post.toS (p : Post T F H σ [] env [] fp t1 F1 H1 env1 fp1 pv pd) : PostS T F H σ env fp t1 [] F1 H1 σ env1 fp1 pv pd := by
  refine ⟨p.len, rfl, by simpa using p.rel, p.tr, fun i hi hl => ?_, fun _ _ => rfl⟩
  obtain ⟨s1, s2, s3⟩ := p.same i (.inl hi) (by simpa using hl)
  exact ⟨by simpa using s1, rfl, s2, s3⟩
theorem PostS.weak (p : PostS T F H σ env fp t1 a1 F1 H1 σ1 env1 fp1 pv pd) (h : ∀ i ∈ t1, i ∈ t2) (h2 : ∀ i ∈ a1, i ∈ a2) : PostS T F H σ env fp t2 a2 F1 H1 σ1 env1 fp1 pv pd :=
  ⟨p.len, p.sl, p.rel, p.tr, fun i hi => p.same i fun z => hi (h i z), fun i hi => p.st i fun z => hi (h2 i z)⟩
theorem PostS.trans (p : PostS T F H σ env fp t1 a1 F1 H1 σ1 env1 fp1 [] []) (q : PostS T F1 H1 σ1 env1 fp1 t2 a2 F2 H2 σ2 env2 fp2 pv pd) : PostS T F H σ env fp (t1 ++ t2) (a1 ++ a2) F2 H2 σ2 env2 fp2 pv pd := by
  refine ⟨q.len.trans p.len, q.sl.trans p.sl, q.rel, p.tr.trans q.tr, fun i hi hl => ?_, fun i hi => ?_⟩
  · simp only [List.mem_append, not_or] at hi
    obtain ⟨s1, s2, s3, s4⟩ := p.same i hi.1 hl
    obtain ⟨u1, u2, u3, u4⟩ := q.same i hi.2 (by rw [p.len]; exact hl)
    exact ⟨u1.trans s1, u2.trans s2, u3.trans s3, fun a m => (u4 a (by rw [s3]; exact m)).trans (s4 a m)⟩
  · simp only [List.mem_append, not_or] at hi
    exact (q.st i hi.2).trans (p.st i hi.1)
/-- the pending ones dropped -/
theorem PostS.drop (p : PostS T F H σ env fp t1 a1 F1 H1 σ1 env1 fp1 pv pd) (hs : σ.length = env.length) : PostS T F H σ env fp t1 a1 F1 H1 σ1 env1 (cutF env.length fp1) [] [] := by
  refine ⟨p.len, p.sl, ?_, p.tr.less fun i a m => ⟨i, (mem_cutF m).2⟩, fun i hi hl => ?_, p.st⟩
  · have := Rel.cut p.rel (by rw [p.len, p.sl, hs])
    rw [p.len] at this
    simpa using this
  · rw [cutF_lt hl]; exact p.same i hi hl
/-- the one pending is stored -/
theorem PostS.store {d : D} {v : V} (p : PostS T F H σ env fp t1 a1 F1 H1 σ1 env1 fp1 [some v] [some d]) (hs : σ.length = env.length) {i : Nat} (hi : i < env.length) :
    ∃ fp2, PostS T F H σ env fp (t1 ++ [i]) (a1 ++ [i]) F1 H1 (σ1.set i (some v)) (env1.set i (some d)) fp2 [] [] := by
  have e0 : env1.length = σ1.length := by rw [p.len, p.sl, hs]
  obtain ⟨v', hv, ho⟩ := p.rel.at_ env1.length d (by simp)
  obtain rfl : v' = v := by
    rw [e0] at hv
    simpa using hv.symm
  have R1 := Rel.cut p.rel e0
  have q := R1.set (i := i) (by rw [p.len]; exact hi) ho (p.rel.nd _) fun a m => ⟨fun j hj m2 => by
    have := p.rel.dj _ _ a m (mem_cutF m2).2
    have h2 := (mem_cutF m2).1
    omega, p.rel.out _ a m⟩
  refine ⟨_, by simpa using p.len, by simpa using p.sl, by simpa using q, p.tr.less fun j a m => ?_, fun j hj hl => ?_, fun j hj => ?_⟩
  · unfold setFp at m; split at m
    · exact ⟨_, m⟩
    · exact ⟨j, (mem_cutF m).2⟩
  · simp only [List.mem_append, List.mem_singleton, not_or] at hj
    obtain ⟨s1, s2, s3, s4⟩ := p.same j hj.1 hl
    rw [setFp_ne hj.2, cutF_lt (by rw [p.len]; exact hl), List.getElem?_set_ne (Ne.symm hj.2), List.getElem?_set_ne (Ne.symm hj.2)]
    exact ⟨s1, s2, s3, s4⟩
  · simp only [List.mem_append, List.mem_singleton, not_or] at hj
    rw [List.getElem?_set_ne (Ne.symm hj.2)]
    exact p.st j hj.1
/-- what is not own is stored -/
theorem PostS.put0 {d : D} {v : V} (p : PostS T F H σ env fp t1 a1 F1 H1 σ1 env1 fp1 [] []) (hs : σ.length = env.length) (h : Own T F1 H1 d v []) {i : Nat} (hi : i < env.length) :
    PostS T F H σ env fp (t1 ++ [i]) (a1 ++ [i]) F1 H1 (σ1.set i (some v)) (env1.set i (some d)) (setFp i [] fp1) [] [] := by
  have q := (show Rel T F1 H1 σ1 env1 fp1 by simpa using p.rel).set (i := i) (by rw [p.len]; exact hi) h List.nodup_nil (by simp)
  refine ⟨by simpa using p.len, by simpa using p.sl, by simpa using q, p.tr.less fun j a m => ?_, fun j hj hl => ?_, fun j hj => ?_⟩
  · unfold setFp at m; split at m
    · cases m
    · exact ⟨j, m⟩
  · simp only [List.mem_append, List.mem_singleton, not_or] at hj
    obtain ⟨s1, s2, s3, s4⟩ := p.same j hj.1 hl
    rw [setFp_ne hj.2, List.getElem?_set_ne (Ne.symm hj.2), List.getElem?_set_ne (Ne.symm hj.2)]
    exact ⟨s1, s2, s3, s4⟩
  · simp only [List.mem_append, List.mem_singleton, not_or] at hj
    rw [List.getElem?_set_ne (Ne.symm hj.2)]
    exact p.st j hj.1
/-- forgotten -/
theorem PostS.kill (p : PostS T F H σ env fp t1 a1 F1 H1 σ1 env1 fp1 [] []) (i : Nat) : PostS T F H σ env fp (t1 ++ [i]) a1 F1 H1 σ1 (env1.set i none) fp1 [] [] := by
  refine ⟨by simpa using p.len, p.sl, by have := Rel.kill (show Rel T F1 H1 σ1 env1 fp1 by simpa using p.rel) i; simpa using this, p.tr, fun j hj hl => ?_, p.st⟩
  simp only [List.mem_append, List.mem_singleton, not_or] at hj
  obtain ⟨s1, s2, s3, s4⟩ := p.same j hj.1 hl
  rw [List.getElem?_set_ne (Ne.symm hj.2)]
  exact ⟨s1, s2, s3, s4⟩
theorem PostS.killL : ∀ is : List Nat, ∀ {t1 env1}, PostS T F H σ env fp t1 a1 F1 H1 σ1 env1 fp1 [] [] → PostS T F H σ env fp (t1 ++ is) a1 F1 H1 σ1 (killL is env1) fp1 [] []
  | [], t1, env1, p => by simpa [RL.killL] using p
  | i :: is, t1, env1, p => by
    have := PostS.killL is (p.kill i)
    simpa [RL.killL] using this
end

def GoodS (T : Tb) (W : WX) (m : SM) (tch asg : List Nat) (t : TS) : Prop :=
  ∀ (F H : Hp) (σ : L2.St) (env : Env') (fp : Nat → List Addr) (o : Fl) (env2 : Env'), σ.length = env.length → Rel T F H σ env fp → m env = some (o, env2) → ∀ D : Ends,
    (o = .nx → ∀ F' H' σ' fp', PostS T F H σ env fp tch asg F' H' σ' env2 fp' [] [] → D.nx σ' H') →
    (o = .bk → ∀ F' H' σ' fp', PostS T F H σ env fp tch asg F' H' σ' env2 fp' [] [] → D.bk σ' H') →
    (o = .ct → ∀ F' H' σ' fp', PostS T F H σ env fp tch asg F' H' σ' env2 fp' [] [] → D.ct σ' H') →
    (∀ d, o = .rt d → ∀ F' H' σ' fp' v, PostS T F H σ env fp tch asg F' H' σ' env2 fp' [some v] [some d] → D.rt v H') →
    (∀ c ns xs, o = .ex c ns xs → ∀ F' H' σ' fp' d ws, PostS T F H σ env fp tch asg F' H' σ' env2 fp' [] [] → XdAt H' d ns ws → OwnL T F' H' xs ws [] → W (.ref (T.cA c)) d σ' H') → t D σ H
structure SX (T : Tb) (X : Cx) (W : WX) (P : Pr) (Φ : Hd') (il : St') (st : Stmt) : Prop where
  ok : ∃ t, PS X st t ∧ GoodS T W (exS P Φ il) (touchS il) (asgS il) t
structure SA (T : Tb) (X : Cx) (W : WX) (P : Pr) (Φ : Hd') (ils : List St') (sts : List Stmt) : Prop where
  ok : ∃ t, PSs X sts t ∧ GoodS T W (exSs P Φ ils) (touchSs ils) (asgSs ils) t
section
variable {T : Tb} {X : Cx} {W : WX} {P : Pr} {Φ : Hd'} {F H F1 H1 F2 H2 : Hp} {σ τ pv : List (Option V)} {env env1 ts pd : Env'} {fp fp1 fp2 : Nat → List Addr} {t1 t2 a1 a2 : List Nat}
theorem GoodS.weak {m : SM} {t : TS} (g : GoodS T W m t1 a1 t) (h : ∀ i ∈ t1, i ∈ t2) (h2 : ∀ i ∈ a1, i ∈ a2) : GoodS T W m t2 a2 t :=
  fun F H σ env fp o env2 hs R e D kn kb kc kr kx => g F H σ env fp o env2 hs R e D (fun eo F' H' σ' fp' p => kn eo F' H' σ' fp' (p.weak h h2)) (fun eo F' H' σ' fp' p => kb eo F' H' σ' fp' (p.weak h h2)) (fun eo F' H' σ' fp' p => kc eo F' H' σ' fp' (p.weak h h2))
    (fun d eo F' H' σ' fp' v p => kr d eo F' H' σ' fp' v (p.weak h h2)) (fun c ns xs eo F' H' σ' fp' d ws p => kx c ns xs eo F' H' σ' fp' d ws (p.weak h h2))
/-! runs taken apart -/
theorem of_cases {α : Type} {x : M α} {k : α → SM} {e e2 : Env'} {o : Fl} (h : SM.of x k e = some (o, e2)) : (∃ a e1, x e = some (.ok a, e1) ∧ k a e1 = some (o, e2)) ∨ ∃ c ns xs, x e = some (.ex c ns xs, e2) ∧ o = .ex c ns xs := by
  unfold SM.of at h
  split at h
  · rename_i a e1 q; exact .inl ⟨a, e1, q, h⟩
  · rename_i c ns xs e1 q
    obtain ⟨rfl, rfl⟩ := Prod.mk.inj (Option.some.inj h)
    exact .inr ⟨c, ns, xs, q, rfl⟩
  · cases h
theorem good_nx : GoodS T W SM.nx [] [] tNext := fun F H σ env fp o env2 hs R e D kn kb kc kr kx => by
  obtain ⟨rfl, rfl⟩ := Prod.mk.inj (Option.some.inj (show some (Fl.nx, env) = _ from e))
  exact kn rfl F H σ fp (PostS.refl R)
/-- one behind the other -/
theorem good_seq {m m' : SM} {t u : TS} (g : GoodS T W m t1 a1 t) (g' : GoodS T W m' t2 a2 u) : GoodS T W (fun e => match m e with | some (.nx, e') => m' e' | r => r) (t1 ++ t2) (a1 ++ a2) (tSeq t u) := fun F H σ env fp o env2 hs R e D kn kb kc kr kx => by
  have w : ∀ i ∈ t1, i ∈ t1 ++ t2 := fun i z => List.mem_append_left _ z
  have w' : ∀ i ∈ a1, i ∈ a1 ++ a2 := fun i z => List.mem_append_left _ z
  cases h : m env with
  | none => simp only [h] at e; cases e
  | some r =>
    obtain ⟨o1, e1⟩ := r
    simp only [h] at e
    by_cases hn : o1 = .nx
    · subst hn
      refine g F H σ env fp _ _ hs R h _ (fun _ F1 H1 σ1 fp1 p => ?_) (fun z => by cases z) (fun z => by cases z) (fun d z => by cases z) (fun c ns xs z => by cases z)
      exact g' F1 H1 σ1 e1 fp1 o env2 (by rw [p.sl, p.len, hs]) (by simpa using p.rel) e D (fun eo F2 H2 σ2 fp2 p2 => kn eo F2 H2 σ2 fp2 (p.trans p2)) (fun eo F2 H2 σ2 fp2 p2 => kb eo F2 H2 σ2 fp2 (p.trans p2)) (fun eo F2 H2 σ2 fp2 p2 => kc eo F2 H2 σ2 fp2 (p.trans p2))
        (fun d eo F2 H2 σ2 fp2 v p2 => kr d eo F2 H2 σ2 fp2 v (p.trans p2)) (fun c ns xs eo F2 H2 σ2 fp2 d ws p2 => kx c ns xs eo F2 H2 σ2 fp2 d ws (p.trans p2))
    · have : o1 = o ∧ e1 = env2 := by
        cases o1 with
        | nx => exact absurd rfl hn
        | _ => exact Prod.mk.inj (Option.some.inj e)
      obtain ⟨rfl, rfl⟩ := this
      exact g F H σ env fp _ _ hs R h _ (fun z => absurd z hn) (fun eo F2 H2 σ2 fp2 p2 => kb eo F2 H2 σ2 fp2 (p2.weak w w')) (fun eo F2 H2 σ2 fp2 p2 => kc eo F2 H2 σ2 fp2 (p2.weak w w'))
        (fun d eo F2 H2 σ2 fp2 v p2 => kr d eo F2 H2 σ2 fp2 v (p2.weak w w')) (fun c ns xs eo F2 H2 σ2 fp2 d ws p2 => kx c ns xs eo F2 H2 σ2 fp2 d ws (p2.weak w w'))
theorem sa_nil : SA T X W P Φ [] [] := ⟨⟨_, pss_nil, good_nx⟩⟩
theorem sa_cons {il : St'} {ils : List St'} {st : Stmt} {sts : List Stmt} (h : SX T X W P Φ il st) (k : SA T X W P Φ ils sts) : SA T X W P Φ (il :: ils) (st :: sts) := by
  obtain ⟨t, h1, h2⟩ := h.ok
  obtain ⟨u, k1, k2⟩ := k.ok
  exact ⟨⟨_, pss_cons h1 k1, good_seq h2 k2⟩⟩
/-- behind a statement that does not come to its end the rest is not read -/
theorem sx_pass {pos : Pos} : SX T X W P Φ .pass (.Pass pos) := ⟨⟨_, ps_pass, good_nx⟩⟩
theorem good_never (a b : List Nat) : GoodS T W SM.fail a b tNever := fun F H σ env fp o env2 hs R e => by cases e
theorem sx_never {st : Stmt} : SX T X W P Φ .never st := ⟨⟨_, ps_never, good_never _ _⟩⟩
theorem sx_brk {pos : Pos} : SX T X W P Φ .brk (.Break pos) := ⟨⟨_, ps_break, fun F H σ env fp o env2 hs R e D kn kb kc kr kx => by
  obtain ⟨rfl, rfl⟩ := Prod.mk.inj (Option.some.inj (show some (Fl.bk, env) = _ from e))
  exact kb rfl F H σ fp (PostS.refl R)⟩⟩
theorem sx_cnt {pos : Pos} : SX T X W P Φ .cnt (.Continue pos) := ⟨⟨_, ps_continue, fun F H σ env fp o env2 hs R e D kn kb kc kr kx => by
  obtain ⟨rfl, rfl⟩ := Prod.mk.inj (Option.some.inj (show some (Fl.ct, env) = _ from e))
  exact kc rfl F H σ fp (PostS.refl R)⟩⟩
theorem sx_retN {pos : Pos} : SX T X W P Φ .retN (.Return none pos) := ⟨⟨_, ps_retN, fun F H σ env fp o env2 hs R e D kn kb kc kr kx => by
  obtain ⟨rfl, rfl⟩ := Prod.mk.inj (Option.some.inj (show some (Fl.rt .non, env) = _ from e))
  exact kr _ rfl F H σ _ .non ((Post.refl (τ := []) (ts := []) (by simpa using R)).push0 (d := .non) ⟨rfl, rfl⟩).toS⟩⟩
theorem ev_take {il : Ex'} : ev P Φ il = M.bind (evX P Φ il).1 takeR := rfl
theorem good_ev {il : Ex'} {t : TE} (g : GoodR T W (evX P Φ il).1 (touchR il) (varsV il) (rootV il) t) : GoodD T W (ev P Φ il) (touch il) t := good_take g
theorem sx_exp {il : Ex'} {e : Expr} {pos : Pos} (h : GX T X W P Φ il e) (hs : swapsWith e none pos.line X.env = pure false) : SX T X W P Φ (.exp il) (.Expr e pos) := by
  obtain ⟨t, h1, h2⟩ := h.val
  refine ⟨⟨_, ps_expr h1 hs, fun F H σ env fp o env2 hs R e D kn kb kc kr kx => ?_⟩⟩
  rcases of_cases e with ⟨d, e1, q1, ea1⟩ | ⟨c, ns, xs, q1, rfl⟩
  · obtain ⟨rfl, rfl⟩ := Prod.mk.inj (Option.some.inj (show some (Fl.nx, e1) = _ from ea1))
    refine good_ev h2 F H σ [] env [] fp _ _ hs rfl (by simpa using R) q1 _ (fun a ea F1 H1 fp1 v pv pd j p => ?_) (fun c ns xs eo => by cases eo)
    exact kn rfl F1 H1 σ _ (p.toS.drop hs)
  · exact good_ev h2 F H σ [] env [] fp _ _ hs rfl (by simpa using R) q1 _ (fun a ea => by cases ea) (fun c' ns' xs' eo F1 H1 fp1 d ws p x1 x2 => by
      cases eo
      exact kx _ _ _ rfl F1 H1 σ fp1 d ws p.toS x1 x2)
theorem sx_asg {il : Ex'} {e : Expr} {i : Nat} {x : Str} {pos pos' : Pos} (O : XOk T X W P) (hi : X.N[i]? = some x) (hx : Loc X.env.scope x) (h : GX T X W P Φ il e) (hs : swapsWith e (some (.Name x pos')) pos.line X.env = pure false) (hf : X.fn x = true ∨ X.env.scope.names.lookup x = some .local) :
    SX T X W P Φ (.asg i il) (.Assign [.Name x pos'] e pos) := by
  obtain ⟨t, h1, h2⟩ := h.val
  refine ⟨⟨_, ps_set O.nd hi hx h1 hs hf, fun F H σ env fp o env2 hs R e D kn kb kc kr kx => ?_⟩⟩
  have w : ∀ j ∈ touch il, j ∈ i :: touch il := fun j z => List.mem_cons_of_mem _ z
  rcases of_cases e with ⟨d, e1, q1, ea1⟩ | ⟨c, ns, xs, q1, rfl⟩
  · by_cases hl : i < e1.length
    · obtain ⟨rfl, rfl⟩ := Prod.mk.inj (Option.some.inj (show some (Fl.nx, e1.set i (some d)) = _ by rw [← ea1]; simp [hl]))
      refine good_ev h2 F H σ [] env [] fp _ _ hs rfl (by simpa using R) q1 _ (fun a ea F1 H1 fp1 v pv pd j p => ?_) (fun c ns xs eo => by cases eo)
      cases ea
      obtain ⟨rfl, rfl⟩ := j
      obtain ⟨fp2, p2⟩ := p.toS.store hs (i := i) (by rw [← p.len]; exact hl)
      exact kn rfl F1 H1 _ fp2 (p2.weak (fun j z => by simp [touchS] at z ⊢; exact z.symm) (fun j z => by simpa [asgS] using z))
    · simp [hl] at ea1
  · exact good_ev h2 F H σ [] env [] fp _ _ hs rfl (by simpa using R) q1 _ (fun a ea => by cases ea) (fun c' ns' xs' eo F1 H1 fp1 d ws p x1 x2 => by
      cases eo
      exact kx _ _ _ rfl F1 H1 σ fp1 d ws (p.toS.weak w (by simp)) x1 x2)
theorem sx_ret {il : Ex'} {e : Expr} {pos : Pos} (h : GX T X W P Φ il e) : SX T X W P Φ (.ret il) (.Return (some e) pos) := by
  obtain ⟨t, h1, h2⟩ := h.val
  refine ⟨⟨_, ps_ret h1, fun F H σ env fp o env2 hs R e D kn kb kc kr kx => ?_⟩⟩
  have e' : (match ev P Φ il env with
    | some (.ok d, e') => some (Fl.rt d, e')
    | some (.ex c ns xs, e') => some (.ex c ns xs, e')
    | none => none) = some (o, env2) := e
  split at e'
  · rename_i d e1 q1
    obtain ⟨rfl, rfl⟩ := Prod.mk.inj (Option.some.inj e')
    refine good_ev h2 F H σ [] env [] fp _ _ hs rfl (by simpa using R) q1 _ (fun a ea F1 H1 fp1 v pv pd j p => ?_) (fun c ns xs eo => by cases eo)
    cases ea
    obtain ⟨rfl, rfl⟩ := j
    exact kr _ rfl F1 H1 σ fp1 v p.toS
  · rename_i c ns xs e1 q1
    obtain ⟨rfl, rfl⟩ := Prod.mk.inj (Option.some.inj e')
    exact good_ev h2 F H σ [] env [] fp _ _ hs rfl (by simpa using R) q1 _ (fun a ea => by cases ea) (fun c' ns' xs' eo F1 H1 fp1 d ws p x1 x2 => by
      cases eo
      exact kx _ _ _ rfl F1 H1 σ fp1 d ws p.toS x1 x2)
  · cases e'
theorem sx_ife {c : Ex'} {a b : List St'} {ce : Expr} {ae be : List Stmt} {pos : Pos} (h : GX T X W P Φ c ce) (ha : SA T X W P Φ a ae) (hb : SA T X W P Φ b be) : SX T X W P Φ (.ife c a b) (.If ce ae be pos) := by
  obtain ⟨t, h1, h2⟩ := h.tst
  obtain ⟨ta, i1, i2⟩ := ha.ok
  obtain ⟨tb, k1, k2⟩ := hb.ok
  refine ⟨⟨_, ps_if h1 i1 k1, fun F H σ env fp o env2 hs R e D kn kb kc kr kx => ?_⟩⟩
  have w0 : ∀ i ∈ touchR c, i ∈ touchS (.ife c a b) := fun i z => by simp [touchS, touch, z]
  rcases of_cases e with ⟨z, e1, q1, ea1⟩ | ⟨c, ns, xs, q1, rfl⟩
  · refine h2 F H σ [] env [] fp _ _ hs rfl (by simpa using R) q1 _ (fun a ea F1 H1 fp1 v pv pd j p => ?_) (fun c ns xs eo => by cases eo)
    cases ea
    obtain ⟨rfl, rfl, rfl⟩ := j
    have q := p.toS
    have hs1 : σ.length = e1.length := by rw [p.len]; exact hs
    cases z with
    | true =>
      show ta D σ H1
      have wt : ∀ i ∈ touchR c ++ touchSs a, i ∈ touchS (.ife c a b) := fun i z => by simp only [touchS, touch, List.mem_append] at z ⊢; grind
      have wa : ∀ i ∈ [] ++ asgSs a, i ∈ asgS (.ife c a b) := fun i z => by simp [asgS] at z ⊢; simp [z]
      exact i2 F1 H1 σ e1 fp1 o env2 hs1 (by simpa using q.rel) ea1 D (fun eo F2 H2 σ2 fp2 p2 => kn eo F2 H2 σ2 fp2 ((q.trans p2).weak wt wa)) (fun eo F2 H2 σ2 fp2 p2 => kb eo F2 H2 σ2 fp2 ((q.trans p2).weak wt wa)) (fun eo F2 H2 σ2 fp2 p2 => kc eo F2 H2 σ2 fp2 ((q.trans p2).weak wt wa))
        (fun d eo F2 H2 σ2 fp2 v p2 => kr d eo F2 H2 σ2 fp2 v ((q.trans p2).weak wt wa)) (fun c ns xs eo F2 H2 σ2 fp2 d ws p2 => kx c ns xs eo F2 H2 σ2 fp2 d ws ((q.trans p2).weak wt wa))
    | false =>
      show tb D σ H1
      have wt : ∀ i ∈ touchR c ++ touchSs b, i ∈ touchS (.ife c a b) := fun i z => by simp only [touchS, touch, List.mem_append] at z ⊢; grind
      have wa : ∀ i ∈ [] ++ asgSs b, i ∈ asgS (.ife c a b) := fun i z => by simp [asgS] at z ⊢; simp [z]
      exact k2 F1 H1 σ e1 fp1 o env2 hs1 (by simpa using q.rel) ea1 D (fun eo F2 H2 σ2 fp2 p2 => kn eo F2 H2 σ2 fp2 ((q.trans p2).weak wt wa)) (fun eo F2 H2 σ2 fp2 p2 => kb eo F2 H2 σ2 fp2 ((q.trans p2).weak wt wa)) (fun eo F2 H2 σ2 fp2 p2 => kc eo F2 H2 σ2 fp2 ((q.trans p2).weak wt wa))
        (fun d eo F2 H2 σ2 fp2 v p2 => kr d eo F2 H2 σ2 fp2 v ((q.trans p2).weak wt wa)) (fun c ns xs eo F2 H2 σ2 fp2 d ws p2 => kx c ns xs eo F2 H2 σ2 fp2 d ws ((q.trans p2).weak wt wa))
  · exact h2 F H σ [] env [] fp _ _ hs rfl (by simpa using R) q1 _ (fun a ea => by cases ea) (fun c' ns' xs' eo F1 H1 fp1 d ws p x1 x2 => by
      cases eo
      exact kx _ _ _ rfl F1 H1 σ fp1 d ws (p.toS.weak w0 (by simp)) x1 x2)
theorem sx_whl {c : Ex'} {b : List St'} {ce : Expr} {be : List Stmt} {pos : Pos} (hp : PassesOwn (model X.prog X.w) X.A X.env X.xe) (h : GX T X W P Φ c ce) (hb : SA T X W P Φ b be) : SX T X W P Φ (.whl c b) (.While ce be [] pos) := by
  obtain ⟨t, h1, h2⟩ := h.tst
  obtain ⟨tb, k1, k2⟩ := hb.ok
  refine ⟨⟨_, ps_while hp h1 k1, fun F H σ env fp o env2 hs R e D kn kb kc kr kx => ?_⟩⟩
  refine ⟨fun m σ' H' => ∃ F' env' fp', PostS T F H σ env fp (touchS (.whl c b)) (asgS (.whl c b)) F' H' σ' env' fp' [] [] ∧ whileL (evT P Φ c) (exSs P Φ b) m env' = some (o, env2), ⟨wlim, F, env, fp, (PostS.refl R).weak (by simp) (by simp), e⟩, ?_⟩
  rintro m σ0 H0 ⟨F0, e0, fp0, p0, q0⟩
  have hs0 : σ0.length = e0.length := by rw [p0.sl, p0.len, hs]
  have wc : ∀ i ∈ touchS (.whl c b) ++ touchR c, i ∈ touchS (.whl c b) := fun i z => by simp only [touchS, touch, List.mem_append] at z ⊢; grind
  have wc' : ∀ i ∈ asgS (.whl c b) ++ [], i ∈ asgS (.whl c b) := fun i z => by simpa using z
  have wb : ∀ i ∈ touchS (.whl c b) ++ touchSs b, i ∈ touchS (.whl c b) := fun i z => by simp only [touchS, touch, List.mem_append] at z ⊢; grind
  have wb' : ∀ i ∈ asgS (.whl c b) ++ asgSs b, i ∈ asgS (.whl c b) := fun i z => by simpa [asgS] using z
  cases m with
  | zero => cases q0
  | succ n =>
    unfold whileL at q0
    split at q0
    · rename_i e1 q1
      obtain ⟨rfl, rfl⟩ := Prod.mk.inj (Option.some.inj q0)
      refine h2 F0 H0 σ0 [] e0 [] fp0 _ _ hs0 rfl (by simpa using p0.rel) q1 _ (fun a ea F1 H1 fp1 v pv pd j p => ?_) (fun c ns xs eo => by cases eo)
      cases ea
      obtain ⟨rfl, rfl, rfl⟩ := j
      exact kn rfl F1 H1 _ fp1 ((p0.trans p.toS).weak wc wc')
    · rename_i e1 q1
      refine h2 F0 H0 σ0 [] e0 [] fp0 _ _ hs0 rfl (by simpa using p0.rel) q1 _ (fun a ea F1 H1 fp1 v pv pd j p => ?_) (fun c ns xs eo => by cases eo)
      cases ea
      obtain ⟨rfl, rfl, rfl⟩ := j
      have p1 := (p0.trans p.toS).weak wc wc'
      have hs1 : σ0.length = e1.length := by rw [p.len]; exact hs0
      have R1 : Rel T F1 H1 σ0 e1 fp1 := by simpa using p1.rel
      show ∃ N : L2.St → Hp → Prop, _
      refine ⟨fun σ' H' => ∃ F' env' fp', PostS T F H σ env fp (touchS (.whl c b)) (asgS (.whl c b)) F' H' σ' env' fp' [] [] ∧ whileL (evT P Φ c) (exSs P Φ b) n env' = some (o, env2), fun σ' H' ⟨F', env', fp', u, w⟩ => ⟨n, by omega, F', env', fp', u, w⟩, ?_⟩
      split at q0
      · rename_i e2 q2
        exact k2 F1 H1 σ0 e1 fp1 _ _ hs1 R1 q2 _ (fun _ F2 H2 σ2 fp2 p2 => ⟨F2, e2, fp2, (p1.trans p2).weak wb wb', q0⟩) (fun z => by cases z) (fun z => by cases z) (fun d z => by cases z) (fun c ns xs z => by cases z)
      · rename_i e2 q2
        exact k2 F1 H1 σ0 e1 fp1 _ _ hs1 R1 q2 _ (fun z => by cases z) (fun z => by cases z) (fun _ F2 H2 σ2 fp2 p2 => ⟨F2, e2, fp2, (p1.trans p2).weak wb wb', q0⟩) (fun d z => by cases z) (fun c ns xs z => by cases z)
      · rename_i e2 q2
        obtain ⟨rfl, rfl⟩ := Prod.mk.inj (Option.some.inj q0)
        exact k2 F1 H1 σ0 e1 fp1 _ _ hs1 R1 q2 _ (fun z => by cases z) (fun _ F2 H2 σ2 fp2 p2 => kn rfl F2 H2 σ2 fp2 ((p1.trans p2).weak wb wb')) (fun z => by cases z) (fun d z => by cases z) (fun c ns xs z => by cases z)
      · rename_i d e2 q2
        obtain ⟨rfl, rfl⟩ := Prod.mk.inj (Option.some.inj q0)
        exact k2 F1 H1 σ0 e1 fp1 _ _ hs1 R1 q2 _ (fun z => by cases z) (fun z => by cases z) (fun z => by cases z) (fun d eo F2 H2 σ2 fp2 v p2 => kr d eo F2 H2 σ2 fp2 v ((p1.trans p2).weak wb wb')) (fun c ns xs z => by cases z)
      · rename_i c' ns ys e2 q2
        obtain ⟨rfl, rfl⟩ := Prod.mk.inj (Option.some.inj q0)
        exact k2 F1 H1 σ0 e1 fp1 _ _ hs1 R1 q2 _ (fun z => by cases z) (fun z => by cases z) (fun z => by cases z) (fun d z => by cases z) (fun c ns xs eo F2 H2 σ2 fp2 d ws p2 => kx c ns xs eo F2 H2 σ2 fp2 d ws ((p1.trans p2).weak wb wb'))
      · cases q0
    · rename_i c' ns ys e1 q1
      obtain ⟨rfl, rfl⟩ := Prod.mk.inj (Option.some.inj q0)
      exact h2 F0 H0 σ0 [] e0 [] fp0 _ _ hs0 rfl (by simpa using p0.rel) q1 _ (fun a ea => by cases ea) (fun c' ns' xs' eo F1 H1 fp1 d ws p x1 x2 => by
        cases eo
        exact kx _ _ _ rfl F1 H1 σ0 fp1 d ws ((p0.trans p.toS).weak wc wc') x1 x2)
    · cases q0
end
end RL
set_option Elab.async false
set_option linter.all false
set_option maxRecDepth 100000
set_option maxHeartbeats 1000000
/-! RL, what is walked. -/
namespace RL
open PySem PySem.Spec PyProof.Rows L2
/-- the addresses that stay as they are while the roots are left alone -/
def Keep (fp : Nat → List Addr) (rs : List Nat) (a : Addr) : Prop := (∀ i, a ∉ fp i) ∨ ∃ r ∈ rs, a ∈ fp r
def CK (F1 H1 : Hp) (k : Addr → Prop) (F H : Hp) : Prop := Ex F1 F ∧ Ex F H ∧ ∀ a o, k a → H1 a = some o → H a = some o
def ArgsK (T : Tb) (F H : Hp) (k : Addr → Prop) : List D → List V → Prop
  | [], vs => vs = []
  | d :: ds, vs => ∃ v ws g, vs = v :: ws ∧ Own T F H d v g ∧ (∀ a ∈ g, k a) ∧ ArgsK T F H k ds ws
def WkOk (T : Tb) (F1 H1 : Hp) (k : Addr → Prop) (J : It) (xs : List D) : Prop :=
  ∃ (G : Hp → Prop) (Y : Nat → Hp → V → Hp → Prop), Walk J xs.length G Y ∧ (∀ F H, CK F1 H1 k F H → G H) ∧
    ∀ (i : Nat) d, xs[i]? = some d → ∀ F H x H', CK F1 H1 k F H → Y i H x H' → ∃ F', ResOk T F H d x F' H' ∧ Own T F' H' d x []
def IterSpec (T : Tb) (ik : ItK) (C : List D → Prop) (w : List V → Hp → (It → Hp → Prop) → Prop) : Prop :=
  ∀ (F1 H1 : Hp) (k : Addr → Prop) (ds : List D) (vs : List V) (xs : List D) (R : It → Hp → Prop), C ds → Ex F1 H1 → ArgsK T F1 H1 k ds vs → itD ik ds = some xs → (∀ J, WkOk T F1 H1 k J xs → R J H1) → w vs H1 R
section
variable {T : Tb} {X : Cx} {W : WX} {P : Pr} {Φ : Hd'} {F H F1 H1 F2 H2 : Hp} {σ τ pv : List (Option V)} {env env1 ts pd : Env'} {fp fp1 fp2 : Nat → List Addr} {t1 t2 : List Nat}
theorem argsK_of {n : Nat} : ∀ {rs : List Rf} {vs : List V} {tv tr : List Nat} {S : List (Option V)} {E : Env'} {ds : List D} {q : List Nat}, (∀ r ∈ rfRoots rs, r ∈ q) → Rel T F H (σ ++ τ) (env ++ ts) (cutF n fp) → σ.length = env.length → Rel T F H (S ++ vs.map some) (E ++ rs.map slotD) fp → S.length = E.length → n ≤ E.length → AllR tv tr H σ env rs vs → pkL rs env = some ds → ArgsK T F H (Keep (cutF n fp) q) ds vs
  | [], vs, tv, tr, S, E, ds, q, hq, R0, hs, R, hl, hn, h, e => by
    have : ds = [] := (Option.some.inj (show some [] = some ds from e)).symm
    rw [this]; exact h
  | r :: rs, vs, tv, tr, S, E, ds, q, hq, R0, hs, R, hl, hn, h, e => by
    obtain ⟨v, ws, rfl, h1, _, h3⟩ := h
    unfold pkL at e
    cases e1 : pk r env with
    | none => rw [e1] at e; cases e
    | some d =>
      rw [e1] at e
      cases e2 : pkL rs env with
      | none => rw [e2] at e; cases e
      | some ds' =>
        rw [e2] at e
        have : ds = d :: ds' := (Option.some.inj e).symm
        subst this
        have R' : Rel T F H ((S ++ [some v]) ++ ws.map some) ((E ++ [slotD r]) ++ rs.map slotD) fp := by simpa [List.append_assoc] using R
        have hq' : ∀ r' ∈ rfRoots rs, r' ∈ q := fun r' m => hq r' (by cases r <;> simp [rfRoots, m])
        have ih := argsK_of hq' R0 hs R' (by simp [hl]) (by simp; omega) h3 e2
        cases r with
        | tmp d0 =>
          have : d0 = d := Option.some.inj e1
          subst this
          obtain ⟨w, q1, q2⟩ := R.at_ E.length d0 (by rw [List.getElem?_append_right (Nat.le_refl _)]; simp [slotD])
          rw [← hl, List.getElem?_append_right (Nat.le_refl _)] at q1
          have : v = w := by simpa using q1
          subst this
          refine ⟨v, ws, _, rfl, q2, fun a m => .inl fun i m2 => ?_, ih⟩
          obtain ⟨l, m2⟩ := mem_cutF m2
          have := R.dj i _ a m2 m
          omega
        | at_ r p =>
          obtain ⟨g, hg, hin⟩ := at_own h1 R0 hs e1
          exact ⟨v, ws, g, rfl, hg, fun a m => .inr ⟨r, hq r (by simp [rfRoots]), hin a m⟩, ih⟩
theorem Post.argsK {rs : List Rf} {vs : List V} {tv tr : List Nat} {ds : List D} (p : Post T F H σ τ env ts fp t1 F1 H1 env1 fp1 (vs.map some) (rs.map slotD)) (hs : σ.length = env.length) (ht : τ.length = ts.length) (h : AllR tv tr H1 σ env1 rs vs) (e : pkL rs env1 = some ds) : ArgsK T F1 H1 (Keep (cutF (env.length + ts.length) fp1) (rfRoots rs)) ds vs := by
  have R0 := (p.drop hs ht).rel
  simp only [List.append_nil] at R0
  exact argsK_of (fun _ m => m) R0 (by rw [p.len]; exact hs) p.rel (by simp [hs, ht, p.len]) (by simp [p.len]) h e
theorem pkL_len : ∀ {rs : List Rf} {e : Env'} {ds : List D}, pkL rs e = some ds → ds.length = rs.length
  | [], e, ds, h => by
    have : [] = ds := Option.some.inj (show some [] = some ds from h)
    subst this; rfl
  | r :: rs, e, ds, h => by
    unfold pkL at h
    cases e1 : pk r e with
    | none => rw [e1] at h; cases h
    | some d =>
      rw [e1] at h
      cases e2 : pkL rs e with
      | none => rw [e2] at h; cases h
      | some ds' =>
        rw [e2] at h
        have : d :: ds' = ds := Option.some.inj h
        subst this
        simp [pkL_len e2]
/-- the rule of an iterable by values -/
theorem good_it {A : M (List Rf)} {tch tv tr t : List Nat} {ta : TA} {k : ItK} {w : List V → Hp → (It → Hp → Prop) → Prop} (g : GoodA T W A tch tv tr ta) {C : List D → Prop} (sp : IterSpec T k C w) (hn : ∀ rs e1 ds, A env = some (.ok rs, e1) → pkL rs e1 = some ds → C ds) {o : Out (List Rf × List D)} {env2 : Env'}
    (hs : σ.length = env.length) (ht : τ.length = ts.length) (R : Rel T F H (σ ++ τ) (env ++ ts) fp) (e : itM k A t env = some (o, env2)) {Q : It → Hp → Prop}
    (k1 : ∀ rs xs, o = .ok (rs, xs) → ∀ F1 H1 fp1 J, Post T F H σ τ env ts fp tch F1 H1 env2 fp1 [] [] → apart rs t = true → WkOk T F1 H1 (Keep fp1 (rfRoots rs)) J xs → Q J H1)
    (k2 : ∀ c ns xs, o = .ex c ns xs → ∀ F' H' fp' d ws, Post T F H σ τ env ts fp tch F' H' env2 fp' [] [] → XdAt H' d ns ws → OwnL T F' H' xs ws [] → W (.ref (T.cA c)) d σ H') : ta σ H fun vs H1 => w vs H1 Q := by
  rcases bind_cases e with ⟨rs, e1, q1, ea1⟩ | ⟨c, ns, xs, q1, rfl⟩
  · rcases bind_cases ea1 with ⟨_, e1', q2, ea2⟩ | ⟨c, ns, xs, q2, rfl⟩
    · obtain ⟨hg, _, rfl⟩ := guard_some q2
      rcases bind_cases ea2 with ⟨ds, e3, q3, ea3⟩ | ⟨c, ns, xs, q3, rfl⟩
      · obtain ⟨ds', q3, h3, rfl⟩ := pkLM_some q3
        cases h3
        rcases bind_cases ea3 with ⟨xs, e4, q4, ea4⟩ | ⟨c, ns, xs, q4, rfl⟩
        · obtain ⟨xs', q5, h4, rfl⟩ := lift_some q4
          cases h4
          obtain ⟨rfl, rfl⟩ := ret_some ea4
          refine g F H σ τ env ts fp _ _ hs ht R q1 _ (fun a ea F1 H1 fp1 vs pv pd j p => ?_) (fun c ns xs eo => by cases eo)
          cases ea
          obtain ⟨rfl, rfl, j1⟩ := j
          exact sp F1 H1 _ ds vs xs Q (hn _ _ _ q1 q3) p.rel.sub (p.argsK hs ht j1 q3) q5 fun J hJ => k1 _ _ rfl F1 H1 _ J (p.drop hs ht) hg hJ
        · obtain ⟨_, _, z, _⟩ := lift_some q4; cases z
      · obtain ⟨_, _, z, _⟩ := pkLM_some q3; cases z
    · obtain ⟨_, z, _⟩ := guard_some q2; cases z
  · exact g F H σ τ env ts fp _ _ hs ht R q1 _ (fun a ea => by cases ea) (fun c' ns' xs' eo F1 H1 fp1 d ws p x1 x2 => by cases eo; exact k2 _ _ _ rfl F1 H1 fp1 d ws p x1 x2)

/-! by kind -/
theorem argsK1 {k : Addr → Prop} {d : D} {vs : List V} (h : ArgsK T F H k [d] vs) : ∃ v g, vs = [v] ∧ Own T F H d v g ∧ ∀ a ∈ g, k a := by
  obtain ⟨v, ws, g, rfl, h1, h2, rfl⟩ := h
  exact ⟨v, g, rfl, h1, h2⟩
theorem argsK2 {k : Addr → Prop} {d d2 : D} {vs : List V} (h : ArgsK T F H k [d, d2] vs) : ∃ v v2 g g2, vs = [v, v2] ∧ Own T F H d v g ∧ (∀ a ∈ g, k a) ∧ Own T F H d2 v2 g2 ∧ ∀ a ∈ g2, k a := by
  obtain ⟨v, ws, g, rfl, h1, h2, v2, ws2, g2, rfl, h3, h4, rfl⟩ := h
  exact ⟨v, v2, g, g2, rfl, h1, h2, h3, h4⟩
theorem argsK3 {k : Addr → Prop} {d d2 d3 : D} {vs : List V} (h : ArgsK T F H k [d, d2, d3] vs) : ∃ v v2 v3 g g2 g3, vs = [v, v2, v3] ∧ Own T F H d v g ∧ Own T F H d2 v2 g2 ∧ Own T F H d3 v3 g3 := by
  obtain ⟨v, ws, g, rfl, h1, h2, v2, ws2, g2, rfl, h3, h4, v3, ws3, g3, rfl, h5, h6, rfl⟩ := h
  exact ⟨v, v2, v3, g, g2, g3, rfl, h1, h3, h5⟩
theorem CK.own {k : Addr → Prop} {d : D} {v : V} (c : CK F1 H1 k F H) (h : Own T F1 H1 d v []) : Own T F H d v [] := Own.mono c.1 d v [] (by simp) h
theorem CK.ownL {k : Addr → Prop} {d : List D} {v : List V} (c : CK F1 H1 k F H) (h : OwnL T F1 H1 d v []) : OwnL T F H d v [] := OwnL.mono c.1 d v [] (by simp) h
theorem res_at {d : D} {v : V} (h : Own T F H d v []) : ∃ F', ResOk T F H d v F' H ∧ Own T F' H d v [] := ⟨F, .inl ⟨rfl, rfl, h⟩, h⟩
theorem res_tup {a : Addr} {ds : List D} {vs : List V} (s : Ex F H) (ha : H a = none) (h : OwnL T F H ds vs []) : ∃ F', ResOk T F H (.tup ds) (.ref a) F' (upd H a (.tup vs)) ∧ Own T F' (upd H a (.tup vs)) (.tup ds) (.ref a) [] := by
  have fa : F a = none := by
    cases h : F a with
    | none => rfl
    | some u => rw [s a u h] at ha; cases ha
  refine ⟨upd F a (.tup vs), .inr (.inr ⟨a, ds, vs, ha, rfl, rfl, rfl, rfl, h⟩), ?_⟩
  unfold Own
  exact .inl ⟨rfl, rfl, a, vs, rfl, upd_same, OwnL.mono (Ex.new fa) ds vs [] (by simp) h⟩
/-- a list's walk, its object kept -/
theorem lst_keep {k : Addr → Prop} {o : Bool} {xs : List D} {v : V} {g : List Addr} (s : Ex F1 H1) (h : Own T F1 H1 (.nd o .lst xs) v g) (hk : ∀ a ∈ g, k a) (hp : plain xs = true) : ∃ a vs, v = .ref a ∧ OwnL T F1 H1 xs vs [] ∧ SqL T.K H1 a vs ∧ ∀ F H, CK F1 H1 k F H → SqL T.K H a vs := by
  unfold Own at h
  rcases h with ⟨h0, h1, a, vs, h2, h3, h4⟩ | ⟨h0, a, vs, g', h2, rfl, h3, h4⟩
  · exact ⟨a, vs, h2, h4, .inl (.inl (s _ _ h3)), fun F H c => .inl (.inl (c.2.1 _ _ (c.1 _ _ h3)))⟩
  · exact ⟨a, vs, h2, plain_own h4 hp, .inl (.inl h3), fun F H c => .inl (.inl (c.2.2 a _ (hk a (by simp)) h3))⟩
def wList (K : PySem.W.Frag) : List V → Hp → (It → Hp → Prop) → Prop := fun vs H1 R => match vs with
  | [x] => ∃ a, x = .ref a ∧ (∃ xs, SqL K H1 a xs) ∧ R (Itl K a) H1
  | _ => False
def wTup (K : PySem.W.Frag) : List V → Hp → (It → Hp → Prop) → Prop := fun vs H1 R => match vs with
  | [x] => ∃ a, x = .ref a ∧ (∃ xs, SqT K H1 a xs) ∧ R (Itt K a) H1
  | _ => False
theorem OwnL.len {ds : List D} {vs : List V} {g : List Addr} (h : OwnL T F H ds vs g) : vs.length = ds.length := (OwnL.length h).symm
theorem wk_list {k : Addr → Prop} {a : Addr} {xs : List D} {vs : List V} (h : OwnL T F1 H1 xs vs []) (hq : ∀ F H, CK F1 H1 k F H → SqL T.K H a vs) : WkOk T F1 H1 k (Itl T.K a) xs := by
  refine ⟨fun H => SqL T.K H a vs, YAt vs, by rw [← h.len]; exact walk_list, hq, fun i d e F H x H' c y => ?_⟩
  obtain ⟨rfl, y2⟩ := y
  obtain ⟨v, e1, e2⟩ := OwnL.get (c.ownL h) e
  rw [y2] at e1
  cases e1
  exact res_at e2
theorem wk_tup {k : Addr → Prop} {a : Addr} {xs : List D} {vs : List V} (h : OwnL T F1 H1 xs vs []) (hq : ∀ F H, CK F1 H1 k F H → SqT T.K H a vs) : WkOk T F1 H1 k (Itt T.K a) xs := by
  refine ⟨fun H => SqT T.K H a vs, YAt vs, by rw [← h.len]; exact walk_tup, hq, fun i d e F H x H' c y => ?_⟩
  obtain ⟨rfl, y2⟩ := y
  obtain ⟨v, e1, e2⟩ := OwnL.get (c.ownL h) e
  rw [y2] at e1
  cases e1
  exact res_at e2
def isL1 : List D → Bool
  | [.nd _ .lst _] => true
  | _ => false
theorem spec_lst : IterSpec T .seq (fun ds => isL1 ds = true) (wList T.K) := by
  intro F1 H1 k ds vs xs R hl s ha e kk
  unfold itD at e
  split at e
  all_goals first | (rename_i z; cases z; done) | skip
  · rename_i o xs' _
    split at e
    · rename_i hp
      obtain rfl := Option.some.inj e
      obtain ⟨v, g, rfl, h1, h2⟩ := argsK1 ha
      obtain ⟨a, us, rfl, h3, h4, h5⟩ := lst_keep s h1 h2 hp
      exact ⟨a, rfl, ⟨_, h4⟩, kk _ (wk_list h3 h5)⟩
    · cases e
  · cases hl
  · cases hl
  all_goals cases e
theorem spec_tup : IterSpec T .seq (fun ds => isL1 ds = false) (wTup T.K) := by
  intro F1 H1 k ds vs xs R hl s ha e kk
  unfold itD at e
  split at e
  all_goals first | (rename_i z; cases z; done) | skip
  · cases hl
  · obtain rfl := Option.some.inj e
    obtain ⟨v, g, rfl, h1, h2⟩ := argsK1 ha
    obtain ⟨_, _, a, us, rfl, h3, h4, h5⟩ := own_tup h1 s
    exact ⟨a, rfl, ⟨us, .inl (.inl h4)⟩, kk _ (wk_tup h5 fun F H c => .inl (.inl (c.2.1 _ _ (c.1 _ _ h3))))⟩
  · obtain rfl := Option.some.inj e
    obtain ⟨v, g, rfl, h1, h2⟩ := argsK1 ha
    unfold Own at h1
    rcases h1 with ⟨_, _, a, us, rfl, h6, h5⟩ | ⟨_, a', vs', g', _, _, q, _⟩
    · have h6 : SqT T.K F1 a us := h6
      exact ⟨a, rfl, ⟨us, ex_t s h6⟩, kk _ (wk_tup h5 fun F H c => ex_t c.2.1 (ex_t c.1 h6))⟩
    · exact q.elim
  all_goals cases e
theorem rangeL_get : ∀ {n : Nat} {lo : Int} {i : Nat} {d : D}, (rangeL lo n)[i]? = some d → i < n ∧ d = .int (lo + i)
  | 0, lo, i, d, h => by simp [rangeL] at h
  | n + 1, lo, 0, d, h => by
    have : D.int lo = d := by simpa [rangeL] using h
    subst this
    exact ⟨by omega, by simp⟩
  | n + 1, lo, i + 1, d, h => by
    obtain ⟨h1, rfl⟩ := rangeL_get (n := n) (lo := lo + 1) (i := i) (d := d) (by simpa [rangeL] using h)
    refine ⟨by omega, ?_⟩
    congr 1
    omega
theorem rangeDown_get : ∀ {n : Nat} {lo : Int} {i : Nat} {d : D}, (rangeDown lo n)[i]? = some d → i < n ∧ d = .int (lo + (i : Nat) * (-1))
  | 0, lo, i, d, h => by simp [rangeDown] at h
  | n + 1, lo, 0, d, h => by
    have : D.int lo = d := by simpa [rangeDown] using h
    subst this
    exact ⟨by omega, by simp⟩
  | n + 1, lo, i + 1, d, h => by
    obtain ⟨h1, rfl⟩ := rangeDown_get (n := n) (lo := lo - 1) (i := i) (d := d) (by simpa [rangeDown] using h)
    refine ⟨by omega, ?_⟩
    congr 1
    omega
theorem rangeL_len : ∀ (n : Nat) (lo : Int), (rangeL lo n).length = n
  | 0, _ => rfl
  | n + 1, lo => by simp [rangeL, rangeL_len n]
theorem rangeDown_len : ∀ (n : Nat) (lo : Int), (rangeDown lo n).length = n
  | 0, _ => rfl
  | n + 1, lo => by simp [rangeDown, rangeDown_len n]
theorem wk_range {k : Addr → Prop} {lo : Int} {n : Nat} : WkOk T F1 H1 k (Itr lo n) (rangeL lo n) := by
  refine ⟨fun _ => True, YFn fun i => .int (lo + i), by rw [rangeL_len]; exact walk_range, fun _ _ _ => trivial, fun i d e F H x H' c y => ?_⟩
  obtain ⟨rfl, rfl⟩ := y
  obtain ⟨_, rfl⟩ := rangeL_get e
  exact res_at ⟨rfl, rfl⟩
theorem wk_down {k : Addr → Prop} {lo : Int} {n : Nat} : WkOk T F1 H1 k (Itc lo (-1) n) (rangeDown lo n) := by
  refine ⟨fun _ => True, YFn fun i => .int (lo + (i : Nat) * (-1)), by rw [rangeDown_len]; exact walk_rangeC, fun _ _ _ => trivial, fun i d e F H x H' c y => ?_⟩
  obtain ⟨rfl, rfl⟩ := y
  obtain ⟨_, rfl⟩ := rangeDown_get e
  exact res_at ⟨rfl, rfl⟩
def wRng1 : List V → Hp → (It → Hp → Prop) → Prop := fun vs H1 R => ∃ j : Int, vs = [.int j] ∧ -(2 ^ 62) ≤ j ∧ j < 2 ^ 62 ∧ R (Itr 0 j.toNat) H1
def wRng2 : List V → Hp → (It → Hp → Prop) → Prop := fun vs H1 R => ∃ i j : Int, vs = [.int i, .int j] ∧ (-(2 ^ 62) ≤ i ∧ i < 2 ^ 62 ∧ -(2 ^ 62) ≤ j ∧ j < 2 ^ 62) ∧ R (Itr i (j - i).toNat) H1
def wRng3 : List V → Hp → (It → Hp → Prop) → Prop := fun vs H1 R => ∃ (i j c : Int) (n : Nat), vs = [.int i, .int j, .int c] ∧ RgC i j c n ∧ R (Itc i c n) H1
theorem small_iff {i : Int} (h : smallI i = true) : -1000000 ≤ i ∧ i ≤ 1000000 := by
  unfold smallI at h
  simpa using h
theorem spec_rng1 : IterSpec T .range (fun ds => ds.length = 1) wRng1 := by
  intro F1 H1 k ds vs xs R hl s ha e kk
  match ds, hl with
  | [d], _ =>
    cases d with
    | int n =>
      obtain ⟨v, g, rfl, h1, h2⟩ := argsK1 ha
      obtain ⟨rfl, _⟩ : v = .int n ∧ g = [] := h1
      have e : (match smallI n with | true => some (rangeL 0 n.toNat) | false => none) = some xs := e
      cases hs : smallI n with
      | false => rw [hs] at e; cases e
      | true =>
        rw [hs] at e
        obtain rfl := Option.some.inj e
        obtain ⟨a1, a2⟩ := small_iff hs
        exact ⟨n, rfl, by omega, by omega, kk _ wk_range⟩
    | _ => cases e
theorem spec_rng2 : IterSpec T .range (fun ds => ds.length = 2) wRng2 := by
  intro F1 H1 k ds vs xs R hl s ha e kk
  match ds, hl with
  | [d, d2], _ =>
    obtain ⟨v, v2, g, g2, rfl, h1, _, h2, _⟩ := argsK2 ha
    cases d with
    | int n =>
      cases d2 with
      | int m =>
        obtain ⟨rfl, _⟩ : v = .int n ∧ g = [] := h1
        obtain ⟨rfl, _⟩ : v2 = .int m ∧ g2 = [] := h2
        have e : (match smallI n && smallI m with | true => some (rangeL n (m - n).toNat) | false => none) = some xs := e
        cases hs : smallI n && smallI m with
        | false => rw [hs] at e; cases e
        | true =>
          rw [hs] at e
          obtain rfl := Option.some.inj e
          obtain ⟨q1, q2⟩ := Bool.and_eq_true_iff.mp hs
          obtain ⟨a1, a2⟩ := small_iff q1
          obtain ⟨a3, a4⟩ := small_iff q2
          exact ⟨n, m, rfl, ⟨by omega, by omega, by omega, by omega⟩, kk _ wk_range⟩
      | _ => cases e
    | _ => cases d2 <;> cases e
theorem spec_rng3 : IterSpec T .range (fun ds => ds.length = 3) wRng3 := by
  intro F1 H1 k ds vs xs R hl s ha e kk
  match ds, hl with
  | [d, d2, d3], _ =>
    obtain ⟨v, v2, v3, g, g2, g3, rfl, h1, h2, h3⟩ := argsK3 ha
    cases d with
    | int n =>
      cases d2 with
      | int m =>
        cases d3 with
        | int c =>
          obtain ⟨rfl, _⟩ : v = .int n ∧ g = [] := h1
          obtain ⟨rfl, _⟩ : v2 = .int m ∧ g2 = [] := h2
          obtain ⟨rfl, _⟩ : v3 = .int c ∧ g3 = [] := h3
          have e : (match smallI n && smallI m && decide (c = -1) with | true => some (rangeDown n (n - m).toNat) | false => none) = some xs := e
          cases hs : smallI n && smallI m && decide (c = -1) with
          | false => rw [hs] at e; cases e
          | true =>
            rw [hs] at e
            obtain rfl := Option.some.inj e
            obtain ⟨q0, q3⟩ := Bool.and_eq_true_iff.mp hs
            obtain ⟨q1, q2⟩ := Bool.and_eq_true_iff.mp q0
            obtain ⟨a1, a2⟩ := small_iff q1
            obtain ⟨a3, a4⟩ := small_iff q2
            obtain rfl : c = -1 := by simpa using q3
            exact ⟨n, m, -1, _, rfl, RgC.neg (by omega) (by omega) (by omega) (by omega), kk _ wk_down⟩
        | _ => cases e
      | _ => cases d3 <;> cases e
    | _ => cases d2 <;> cases d3 <;> cases e
theorem enumL_get : ∀ {xs : List D} {j : Int} {i : Nat} {d : D}, (enumL j xs)[i]? = some d → ∃ x, xs[i]? = some x ∧ d = .tup [.int (j + i), x]
  | [], j, i, d, h => by simp [enumL] at h
  | x :: xs, j, 0, d, h => by
    have : D.tup [.int j, x] = d := by simpa [enumL] using h
    subst this
    exact ⟨x, rfl, by simp⟩
  | x :: xs, j, i + 1, d, h => by
    obtain ⟨y, h1, rfl⟩ := enumL_get (xs := xs) (j := j + 1) (i := i) (d := d) (by simpa [enumL] using h)
    refine ⟨y, by simpa using h1, ?_⟩
    have : j + 1 + (i : Int) = j + ((i + 1 : Nat) : Int) := by omega
    rw [this]
theorem enumL_len : ∀ (xs : List D) (j : Int), (enumL j xs).length = xs.length
  | [], _ => rfl
  | _ :: xs, j => by simp [enumL, enumL_len xs]
theorem CK.sub {k : Addr → Prop} (c : CK F1 H1 k F H) : Ex F H := c.2.1
theorem wk_enum {k : Addr → Prop} {a : Addr} {xs : List D} {vs : List V} (h : OwnL T F1 H1 xs vs []) (hq : ∀ F H, CK F1 H1 k F H → SqL T.K H a vs) : WkOk T F1 H1 k (Ite T.K a) (enumL 0 xs) := by
  refine ⟨fun H => SqL T.K H a vs, _, by rw [enumL_len, ← h.len]; exact walk_enum, hq, fun i d e F H x H' c y => ?_⟩
  obtain ⟨t, u, w, rfl, y2, rfl, y4, y5⟩ := y
  obtain ⟨x, e1, rfl⟩ := enumL_get e
  obtain rfl := Option.some.inj y4
  obtain ⟨v, e2, e3⟩ := OwnL.get (c.ownL h) e1
  rw [show vs[i]? = some w from y5] at e2
  cases e2
  refine res_tup c.sub y2 ?_
  have o1 : Own T F H (.int (0 + (i : Nat))) (.int (i : Nat)) [] := ⟨by simp, rfl⟩
  have := OwnL.cons_ o1 (OwnL.cons_ e3 OwnL.nil_)
  simpa using this
def wEnum (K : PySem.W.Frag) : List V → Hp → (It → Hp → Prop) → Prop := fun vs H1 R => ∃ a xs, vs = [.ref a] ∧ SqL K H1 a xs ∧ R (Ite K a) H1
theorem spec_enum : IterSpec T .enum (fun ds => ds.length = 1) (wEnum T.K) := by
  intro F1 H1 k ds vs xs R hl s ha e kk
  unfold itD at e
  split at e
  all_goals first | (rename_i z; cases z; done) | skip
  · rename_i o ys _
    split at e
    · rename_i hp
      obtain rfl := Option.some.inj e
      obtain ⟨v, g, rfl, h1, h2⟩ := argsK1 ha
      obtain ⟨a, us, rfl, h3, h4, h5⟩ := lst_keep s h1 h2 hp
      exact ⟨a, us, rfl, h4, kk _ (wk_enum h3 h5)⟩
    · cases e
  all_goals cases e
end
end RL
set_option Elab.async false
set_option linter.all false
set_option maxRecDepth 100000
set_option maxHeartbeats 1000000
/-! RL, targets and for. -/
namespace RL
open PySem PySem.Spec PyProof.Rows L2
structure SetOk (T : Tb) (F H : Hp) (σ τ : List (Option V)) (env ts : Env') (fp : Nat → List Addr) (is : List Nat) (σ' : List (Option V)) (env' : Env') (fp' : Nat → List Addr) : Prop where
  len : env'.length = env.length
  sl : σ'.length = σ.length
  rel : Rel T F H (σ' ++ τ) (env' ++ ts) fp'
  same : ∀ i, i ∉ is → env'[i]? = env[i]? ∧ σ'[i]? = σ[i]? ∧ fp' i = fp i
  sub : ∀ i a, a ∈ fp' i → a ∈ fp i
  bd : ∀ i ∈ is, i < env.length
section
variable {T : Tb} {X : Cx} {W : WX} {P : Pr} {Φ : Hd'} {F H F1 H1 F2 H2 : Hp} {σ σ1 σ2 τ pv : List (Option V)} {env env1 env2 ts pd : Env'} {fp fp1 fp2 : Nat → List Addr} {t1 t2 i1 i2 : List Nat}
theorem SetOk.refl (R : Rel T F H (σ ++ τ) (env ++ ts) fp) : SetOk T F H σ τ env ts fp [] σ env fp := ⟨rfl, rfl, R, fun _ _ => ⟨rfl, rfl, rfl⟩, fun _ _ m => m, by simp⟩
theorem SetOk.one (R : Rel T F H (σ ++ τ) (env ++ ts) fp) (hs : σ.length = env.length) {d : D} {v : V} (h : Own T F H d v []) {i : Nat} (hi : i < env.length) : SetOk T F H σ τ env ts fp [i] (σ.set i (some v)) (env.set i (some d)) (setFp i [] fp) := by
  have q := R.set (i := i) (by simp; omega) h List.nodup_nil (by simp)
  rw [List.set_append_left _ _ (by omega), List.set_append_left _ _ hi] at q
  refine ⟨by simp, by simp, q, fun j hj => ?_, fun j a m => ?_, by simpa using hi⟩
  · simp only [List.mem_singleton] at hj
    rw [setFp_ne hj, List.getElem?_set_ne (Ne.symm hj), List.getElem?_set_ne (Ne.symm hj)]
    exact ⟨rfl, rfl, rfl⟩
  · unfold setFp at m; split at m
    · cases m
    · exact m
theorem SetOk.trans (p : SetOk T F H σ τ env ts fp i1 σ1 env1 fp1) (q : SetOk T F H σ1 τ env1 ts fp1 i2 σ2 env2 fp2) : SetOk T F H σ τ env ts fp (i1 ++ i2) σ2 env2 fp2 := by
  refine ⟨q.len.trans p.len, q.sl.trans p.sl, q.rel, fun i hi => ?_, fun i a m => p.sub i a (q.sub i a m), fun i hi => (List.mem_append.mp hi).elim (p.bd i) fun z => by rw [← p.len]; exact q.bd i z⟩
  simp only [List.mem_append, not_or] at hi
  obtain ⟨a1, a2, a3⟩ := p.same i hi.1
  obtain ⟨b1, b2, b3⟩ := q.same i hi.2
  exact ⟨b1.trans a1, b2.trans a2, b3.trans a3⟩
theorem SetOk.toS (p : SetOk T F H σ [] env [] fp i1 σ1 env1 fp1) : PostS T F H σ env fp i1 i1 F H σ1 env1 fp1 [] [] :=
  ⟨p.len, p.sl, by simpa using p.rel, (Tr.refl F H fp).less fun i a m => ⟨i, p.sub i a m⟩, fun i hi _ => ⟨(p.same i hi).1, (p.same i hi).2.1, (p.same i hi).2.2, fun _ _ => rfl⟩, fun i hi => (p.same i hi).2.1⟩
/-- a target and how it is stored to -/
def GoodT (T : Tb) (tg : Tg) (g : TG) : Prop := ∀ (F H : Hp) (σ τ : List (Option V)) (env ts : Env') (fp : Nat → List Addr) (d : D) (v : V) (env2 : Env') (Q : L2.St → Hp → Prop), σ.length = env.length → Rel T F H (σ ++ τ) (env ++ ts) fp → Own T F H d v [] → setTg tg d env = some env2 →
  (∀ σ' fp', SetOk T F H σ τ env ts fp (tgL tg) σ' env2 fp' → Q σ' H) → g v σ H Q
theorem good_nm (i : Nat) : GoodT T (.nm i) (gName i) := by
  intro F H σ τ env ts fp d v env2 Q hs R h e k
  have e : (match decide (i < env.length) && !d.own with
    | true => some (env.set i (some d))
    | false => none) = some env2 := e
  by_cases hc : (decide (i < env.length) && !d.own) = true
  · rw [hc] at e
    obtain rfl := Option.some.inj e
    simp only [Bool.and_eq_true, decide_eq_true_eq] at hc
    exact k _ _ (SetOk.one R hs h hc.1)
  · have : (decide (i < env.length) && !d.own) = false := by simpa using hc
    rw [this] at e
    cases e
def gNames : List Nat → TGs
  | [] => gNil
  | i :: is => gCons (gName i) (gNames is)
theorem good_names : ∀ (is : List Nat) (F H : Hp) (σ τ : List (Option V)) (env ts : Env') (fp : Nat → List Addr) (ds : List D) (vs : List V) (Q : L2.St → Hp → Prop), σ.length = env.length → Rel T F H (σ ++ τ) (env ++ ts) fp → OwnL T F H ds vs [] → is.length = ds.length → (∀ i ∈ is, i < env.length) →
    (∀ σ' fp', SetOk T F H σ τ env ts fp is σ' (setL is ds env) fp' → Q σ' H) → gNames is vs σ H Q
  | [], F, H, σ, τ, env, ts, fp, ds, vs, Q, hs, R, h, hl, hb, k => by
    cases ds with
    | nil =>
      exact ⟨h.1, k _ _ (SetOk.refl R)⟩
    | cons d ds => simp at hl
  | i :: is, F, H, σ, τ, env, ts, fp, ds, vs, Q, hs, R, h, hl, hb, k => by
    cases ds with
    | nil => simp at hl
    | cons d ds =>
      unfold OwnL at h
      obtain ⟨v, ws, g, f2, rfl, h2, h3, h4⟩ := h
      have h2' := h2.symm
      rw [List.append_eq_nil_iff] at h2'
      obtain ⟨rfl, rfl⟩ := h2'
      have s1 := SetOk.one R hs h3 (hb i (by simp))
      refine ⟨v, ws, rfl, good_names is F H _ τ (env.set i (some d)) ts _ ds ws Q (by simpa using hs) s1.rel h4 (by simpa using hl) (fun j m => by simpa using hb j (by simp [m])) fun σ' fp' s2 => k σ' fp' (s1.trans s2)⟩
theorem good_tp (is : List Nat) : GoodT T (.tp is) (gTup T.K is.length (gNames is)) := by
  intro F H σ τ env ts fp d v env2 Q hs R h e k
  cases d with
  | nd o kd xs =>
    have e' : (match isTupK kd && decide (is.length = xs.length) && is.all fun i => decide (i < env.length) with
      | true => some (setL is xs env)
      | false => none) = some env2 := e
    cases hc : isTupK kd && decide (is.length = xs.length) && is.all fun i => decide (i < env.length) with
    | false => rw [hc] at e'; cases e'
    | true =>
      rw [hc] at e'
      obtain rfl := Option.some.inj e'
      simp only [Bool.and_eq_true, decide_eq_true_eq, List.all_eq_true] at hc
      obtain ⟨⟨c1, c2⟩, c3⟩ := hc
      have s : Ex F H := R.sub
      cases kd with
      | tup =>
        obtain ⟨_, _, a, vs, rfl, h3, h4, h5⟩ := own_tup h s
        exact ⟨a, vs, rfl, .inl (.inl h4), by rw [h5.len, c2], good_names is F H σ τ env ts fp xs vs Q hs R h5 c2 c3 k⟩
      | ktup =>
        obtain ⟨_, _, a, vs, rfl, h4, h5⟩ := own_ktup h s
        exact ⟨a, vs, rfl, h4, by rw [h5.len, c2], good_names is F H σ τ env ts fp xs vs Q hs R h5 c2 c3 k⟩
      | _ => cases c1
  | _ => cases e
structure GT (T : Tb) (X : Cx) (tg : Tg) (e : Expr) : Prop where
  ok : ∃ g, PG X e g ∧ GoodT T tg g
theorem gt_nm {i : Nat} {x : Str} {pos : Pos} (hN : X.N.Nodup) (hi : X.N[i]? = some x) (hx : Loc X.env.scope x) (hf : X.fn x = true ∨ X.env.scope.names.lookup x = some .local) : GT T X (.nm i) (.Name x pos) := ⟨⟨_, pg_name hN hi hx hf, good_nm i⟩⟩
structure GTs (X : Cx) (is : List Nat) (es : List Expr) : Prop where
  ok : PGs X es (gNames is)
  n : (assignEach es X.env).length = is.length
  st : (assignEach es X.env).findIdx? (·.1) = none
theorem gts_nil : GTs X [] [] := ⟨pgs_nil, rfl, rfl⟩
theorem gts_cons {i : Nat} {x : Str} {pos : Pos} {is : List Nat} {es : List Expr} (hN : X.N.Nodup) (hi : X.N[i]? = some x) (hx : Loc X.env.scope x) (hf : X.fn x = true ∨ X.env.scope.names.lookup x = some .local) (h : GTs X is es) : GTs X (i :: is) (.Name x pos :: es) := by
  have e : assignEach (.Name x pos :: es) X.env = (false, assign (.Name x pos) X.env) :: assignEach es X.env := rfl
  refine ⟨pgs_cons (pg_name hN hi hx hf) h.ok (by rw [e]; rfl), by rw [e]; simp [h.n], ?_⟩
  rw [e, List.findIdx?_cons]
  simp [h.st]
theorem gt_tp (O : XOk T X W P) {is : List Nat} {es : List Expr} {k : Nat} {pos : Pos} (h : GTs X is es) : GT T X (.tp is) (.Tuple es k pos) := by
  refine ⟨⟨_, pg_tup O.calm h.ok h.n h.st, ?_⟩⟩
  rw [O.hK]
  exact good_tp is

/-! the iterables -/
/-- what is walked comes as the reading of the iterable asks -/
def GoodIt (T : Tb) (W : WX) (m : M (List Rf × List D)) (tch t : List Nat) (wi : TI) : Prop :=
  ∀ (F H : Hp) (σ τ : L2.St) (env ts : Env') (fp : Nat → List Addr) (o : Out (List Rf × List D)) (env2 : Env'), σ.length = env.length → τ.length = ts.length → Rel T F H (σ ++ τ) (env ++ ts) fp → m env = some (o, env2) → ∀ Q : It → Hp → Prop,
    (∀ rs xs, o = .ok (rs, xs) → ∀ F1 H1 fp1 J, Post T F H σ τ env ts fp tch F1 H1 env2 fp1 [] [] → apart rs t = true → WkOk T F1 H1 (Keep fp1 (rfRoots rs)) J xs → Q J H1) →
    (∀ c ns xs, o = .ex c ns xs → ∀ F' H' fp' d ws, Post T F H σ τ env ts fp tch F' H' env2 fp' [] [] → XdAt H' d ns ws → OwnL T F' H' xs ws [] → W (.ref (T.cA c)) d σ H') → wi σ H Q
structure GI (T : Tb) (X : Cx) (W : WX) (P : Pr) (Φ : Hd') (tg : Expr) (k : ItK) (ils : List Ex') (e : Expr) : Prop where
  ok : ∃ wi, PI X tg e wi ∧ ∀ t, GoodIt T W (itM k (evXs P Φ ils) t) (touchL ils) t wi
  fs : ∀ x, foldedSetIterable e X.env x = pure x
theorem evXs_len : ∀ (ils : List Ex') (e : Env') (rs : List Rf) (e' : Env'), evXs P Φ ils e = some (.ok rs, e') → rs.length = ils.length
  | [], e, rs, e', h => by
    obtain ⟨h1, _⟩ := ret_some (show M.ret [] e = _ from h)
    cases h1; rfl
  | il :: ils, e, rs, e', h => by
    rcases bind_cases (show M.bind (evX P Φ il).1 _ e = _ from h) with ⟨r, e1, q1, ea1⟩ | ⟨c, ns, xs, q1, z⟩
    · rcases bind_cases ea1 with ⟨_, e2, q2, ea2⟩ | ⟨c, ns, xs, q2, z⟩
      · rcases bind_cases ea2 with ⟨rs', e3, q3, ea3⟩ | ⟨c, ns, xs, q3, z⟩
        · obtain ⟨h1, _⟩ := ret_some ea3
          cases h1
          simp [evXs_len ils _ _ _ q3]
        · cases z
      · cases z
    · cases z
theorem PI.or {tg l : Expr} {w w' : TI} (h : PI X tg l w) (h' : PI X tg l w') : PI X tg l (fun σ H R => w σ H R ∨ w' σ H R) := ⟨fun pins s σ H R I k => by
  rcases k with k | k
  · exact h.run pins s σ H R I k
  · exact h'.run pins s σ H R I k⟩
theorem PI.mono {tg l : Expr} {w w' : TI} (h : PI X tg l w) (k : ∀ σ H R, w' σ H R → w σ H R) : PI X tg l w' := ⟨fun pins s σ H R I q => h.run pins s σ H R I (k _ _ _ q)⟩
theorem good_itN {ils : List Ex'} {ta : TA} {k : ItK} {w : List V → Hp → (It → Hp → Prop) → Prop} {n : Nat} (g : GoodA T W (evXs P Φ ils) (touchL ils) (varsL ils) (rootL ils) ta) (hl : ils.length = n) (sp : IterSpec T k (fun ds => ds.length = n) w) (t : List Nat) :
    GoodIt T W (itM k (evXs P Φ ils) t) (touchL ils) t (fun σ H R => ta σ H fun vs H1 => w vs H1 R) := fun F H σ τ env ts fp o env2 hs ht R e Q k1 k2 =>
  good_it g sp (fun rs e1 ds q1 q2 => by rw [pkL_len q2, evXs_len _ _ _ _ q1, hl]) hs ht R e k1 k2
theorem gi_seq (O : XOk T X W P) {tg : Expr} {il : Ex'} {e : Expr} (h : GX T X W P Φ il e) (hf : ∀ x, foldedSetIterable e X.env x = pure x) : GI T X W P Φ tg .seq [il] e := by
  obtain ⟨t, h1, h2⟩ := h.val
  have g : GoodA T W (evXs P Φ [il]) (touchL [il]) (varsL [il]) (rootL [il]) (tCons t tNil) := good_cons h2 good_nil
  refine ⟨⟨_, PI.or (pi_list h1) (pi_tup h1), fun tt F H σ τ env ts fp o env2 hs ht R e Q k1 k2 => ?_⟩, hf⟩
  have hL (hn : ∀ rs e1 ds, evXs P Φ [il] env = some (.ok rs, e1) → pkL rs e1 = some ds → isL1 ds = true) : iList X.K t σ H Q := by
    have := good_it g spec_lst hn hs ht R e k1 k2
    rw [O.hK]
    exact this
  have hT (hn : ∀ rs e1 ds, evXs P Φ [il] env = some (.ok rs, e1) → pkL rs e1 = some ds → isL1 ds = false) : iTup X.K t σ H Q := by
    have := good_it g spec_tup hn hs ht R e k1 k2
    rw [O.hK]
    exact this
  cases hA : evXs P Φ [il] env with
  | none => exact .inl (hL fun rs e1 ds q => by rw [hA] at q; cases q)
  | some r =>
    obtain ⟨o', e1⟩ := r
    cases o' with
    | ex c ns xs => exact .inl (hL fun rs e1 ds q => by rw [hA] at q; cases q)
    | ok rs =>
      cases hp : pkL rs e1 with
      | none => exact .inl (hL fun rs e1 ds q q2 => by rw [hA] at q; cases q; rw [hp] at q2; cases q2)
      | some ds =>
        cases hi : isL1 ds with
        | true => exact .inl (hL fun rs e1 ds q q2 => by rw [hA] at q; cases q; rw [hp] at q2; cases q2; exact hi)
        | false => exact .inr (hT fun rs e1 ds q q2 => by rw [hA] at q; cases q; rw [hp] at q2; cases q2; exact hi)
theorem gi_rng1 (O : XOk T X W P) {tg : Expr} {ils : List Ex'} {a : Expr} {p pos : Pos} (hl : ils.length = 1) (h : GA T X W P Φ ils [a]) (hg : Gl X "range") (hm : X.mg "range" = none) (hs : noStar a = true) : GI T X W P Φ tg .range ils (.Call (.Name "range" p) [a] [] pos) := by
  obtain ⟨t, h1, h2⟩ := h.val
  exact ⟨⟨_, pi_range1 hg hm h1 (star_cons hs), good_itN h2 hl spec_rng1⟩, fun _ => rfl⟩
theorem gi_rng2 (O : XOk T X W P) {tg : Expr} {ils : List Ex'} {a b : Expr} {p pos : Pos} (hl : ils.length = 2) (h : GA T X W P Φ ils [a, b]) (hg : Gl X "range") (hm : X.mg "range" = none) (hs : noStar a = true) (hs2 : noStar b = true) : GI T X W P Φ tg .range ils (.Call (.Name "range" p) [a, b] [] pos) := by
  obtain ⟨t, h1, h2⟩ := h.val
  exact ⟨⟨_, pi_range2 hg hm h1 (by rw [star_cons hs, star_cons hs2]; rfl) (by rw [star_cons hs2]; rfl), good_itN h2 hl spec_rng2⟩, fun _ => rfl⟩
theorem gi_rng3 (O : XOk T X W P) {tg : Expr} {ils : List Ex'} {a b c : Expr} {p pos : Pos} (hl : ils.length = 3) (h : GA T X W P Φ ils [a, b, c]) (hg : Gl X "range") (hm : X.mg "range" = none) (hs : [a, b, c].all noStar = true) : GI T X W P Φ tg .range ils (.Call (.Name "range" p) [a, b, c] [] pos) := by
  obtain ⟨t, h1, h2⟩ := h.val
  have hs' : noStar a = true ∧ [b, c].all noStar = true := by simpa using hs
  exact ⟨⟨_, pi_range3 hg hm h1 (star_cons hs'.1) (star_any hs'.2), good_itN h2 hl spec_rng3⟩, fun _ => rfl⟩
theorem gi_enum (O : XOk T X W P) {elts : List Expr} {kk : Nat} {tpos : Pos} {ils : List Ex'} {a : Expr} {p pos : Pos} (hl : ils.length = 1) (h : GA T X W P Φ ils [a]) (hg : Gl X "enumerate") (hm : X.mg "enumerate" = none) (hs : noStar a = true) : GI T X W P Φ (.Tuple elts kk tpos) .enum ils (.Call (.Name "enumerate" p) [a] [] pos) := by
  obtain ⟨t, h1, h2⟩ := h.val
  refine ⟨⟨_, pi_enum hg hm h1 (star_cons hs), good_itN h2 hl ?_⟩, fun _ => rfl⟩
  rw [O.hK]
  exact spec_enum

/-! for -/
theorem res_frame {S : List (Option V)} {E : Env'} {d : D} {v : V} (R1 : Rel T F1 H1 S E fp1) (h : ResOk T F1 H1 d v F2 H2) (ho : Own T F2 H2 d v []) : Rel T F2 H2 S E fp1 ∧ Tr F1 H1 fp1 F2 H2 fp1 ∧ ∀ i, ∀ a ∈ fp1 i, H2 a = H1 a := by
  rcases h with ⟨rfl, rfl, _⟩ | ⟨a, o, k, ds, vs, _, _, _, rfl, rfl, _⟩ | ⟨a, ds, vs, ha, rfl, rfl, rfl, rfl, hk⟩
  · exact ⟨R1, Tr.refl _ _ _, fun _ _ _ => rfl⟩
  · unfold Own at ho
    rcases ho with ⟨z, _⟩ | ⟨_, _, _, _, _, z, _⟩
    · cases z
    · cases z
  · have nfp : ∀ i, a ∉ fp1 i := fun i m => by
      obtain ⟨u, hu⟩ := R1.dom i a m
      rw [hu] at ha; cases ha
    have fnone : F1 a = none := by
      cases h : F1 a with
      | none => rfl
      | some u => rw [R1.sub a u h] at ha; cases ha
    have ex2 : Ex (upd F1 a (.tup vs)) (upd H1 a (.tup vs)) := fun b u h => by
      by_cases e : b = a
      · subst e; rw [upd_same] at h ⊢; exact h
      · rw [upd_ne e] at h ⊢; exact R1.sub b u h
    have kp : ∀ i, ∀ b ∈ fp1 i, upd H1 a (.tup vs) b = H1 b ∧ upd F1 a (.tup vs) b = none := fun i b m => by
      have nb : b ≠ a := fun z => nfp i (z ▸ m)
      rw [upd_ne nb, upd_ne nb]
      exact ⟨rfl, R1.out i b m⟩
    have R2 := R1.heap (Ex.new fnone) ex2 kp
    have tr2 : Tr F1 H1 fp1 (upd F1 a (.tup vs)) (upd H1 a (.tup vs)) fp1 := by
      refine ⟨Ex.new fnone, fun b u h _ => by rw [upd_ne (ne_of_none h ha)]; exact h, fun b u h => ?_, fun i b m => .inl ⟨i, m⟩⟩
      by_cases e : b = a
      · subst e; exact .inr (.inr ha)
      · rw [upd_ne e] at h; exact .inl ⟨u, h⟩
    exact ⟨R2, tr2, fun i b m => (kp i b m).1⟩
theorem PostS.res0 {t1 a1 : List Nat} {d : D} {v : V} (p : PostS T F H σ env fp t1 a1 F1 H1 σ1 env1 fp1 [] []) (h : ResOk T F1 H1 d v F2 H2) (ho : Own T F2 H2 d v []) : PostS T F H σ env fp t1 a1 F2 H2 σ1 env1 fp1 [] [] := by
  have R1 : Rel T F1 H1 σ1 env1 fp1 := by simpa using p.rel
  obtain ⟨R2, tr2, kp⟩ := res_frame R1 h ho
  refine ⟨p.len, p.sl, by simpa using R2, p.tr.trans tr2, fun i hi hl => ?_, p.st⟩
  obtain ⟨s1, s2, s3, s4⟩ := p.same i hi hl
  exact ⟨s1, s2, s3, fun b m => by rw [kp i b (by rw [s3]; exact m)]; exact s4 b m⟩
theorem PostS.ck {t1 a1 : List Nat} {rs : List Rf} {t : List Nat} (p : PostS T F1 H1 σ env fp t1 a1 F2 H2 σ2 env2 fp2 [] []) (R : Rel T F1 H1 σ env fp) (ha : apart rs t = true) (hw : ∀ i ∈ t1, i ∈ t) : CK F1 H1 (Keep fp (rfRoots rs)) F2 H2 := by
  refine ⟨p.tr.fro, p.rel.sub, fun a o k h => ?_⟩
  rcases k with k | ⟨r, k1, k2⟩
  · exact p.tr.keep a o h k
  · have hr : r ∉ t1 := fun z => by
      have := List.all_eq_true.mp ha r k1
      rw [List.contains_iff_mem.mpr (hw r z)] at this
      cases this
    have hl : r < env.length := by
      cases Nat.lt_or_ge r env.length with
      | inl h => exact h
      | inr h => rw [R.off r h] at k2; cases k2
    obtain ⟨_, _, _, s4⟩ := p.same r hr hl
    rw [s4 a k2]; exact h
theorem sx_for (O : XOk T X W P) {tg : Tg} {k : ItK} {ils : List Ex'} {b : List St'} {te ie : Expr} {be : List Stmt} {pos : Pos} (hp : PassesOwn (model X.prog X.w) X.A X.env X.xe) (hg : GT T X tg te) (hi : GI T X W P Φ te k ils ie) (hb : SA T X W P Φ b be) : SX T X W P Φ (.for_ tg k ils b) (.For te ie be [] pos) := by
  obtain ⟨g, g1, g2⟩ := hg.ok
  obtain ⟨wi, i1, i2⟩ := hi.ok
  obtain ⟨tb, k1, k2⟩ := hb.ok
  refine ⟨⟨_, ps_for hp O.calm i1 g1 k1 hi.fs, fun F H σ env fp o env2 hs R e D kn kb kc kr kx => ?_⟩⟩
  have wi0 : ∀ i ∈ touchL ils, i ∈ touchS (.for_ tg k ils b) := fun i z => by simp only [touchS, List.mem_append]; grind
  show wi σ H _
  rcases of_cases e with ⟨q, e1, q1, ea1⟩ | ⟨c, ns, xs, q1, rfl⟩
  · obtain ⟨rs, xs⟩ := q
    refine i2 (tgL tg ++ touchSs b) F H σ [] env [] fp _ _ hs rfl (by simpa using R) q1 _ (fun rs' xs' eo F1 H1 fp1 J p hap hw => ?_) (fun c ns xs eo => by cases eo)
    cases eo
    obtain ⟨G, Y, w1, w2, w3⟩ := hw
    have R1 : Rel T F1 H1 σ e1 fp1 := by simpa using p.rel
    have hs1 : σ.length = e1.length := by rw [p.len]; exact hs
    let tc := tgL tg ++ touchSs b
    let ac := tgL tg ++ asgSs b
    let Pv : Nat → L2.St → Hp → Prop := fun i σ' H' => ∃ F' env' fp', PostS T F1 H1 σ e1 fp1 tc ac F' H' σ' env' fp' [] [] ∧ forL (setTg tg) (exSs P Φ b) (xs.drop i) env' = some (o, env2)
    have wt : ∀ i ∈ touchL ils ++ tc, i ∈ touchS (.for_ tg k ils b) := fun i z => by simp only [touchS, List.mem_append, tc] at z ⊢; grind
    have wa : ∀ i ∈ [] ++ ac, i ∈ asgS (.for_ tg k ils b) := fun i z => by simp only [asgS, List.mem_append, ac, List.not_mem_nil, false_or] at z ⊢; exact z
    refine for_it w1 Pv ⟨F1, e1, fp1, (PostS.refl R1).weak (by simp) (by simp), ea1⟩ (fun i σ' H' _ ⟨F', env', fp', p', _⟩ => w2 F' H' (p'.ck R1 hap fun i m => m)) ?_ ?_
    · rintro i x σ' H' H2 hlt ⟨F', env', fp', p', q'⟩ y
      have hlt' : i < xs.length := hlt
      rw [List.drop_eq_getElem_cons hlt'] at q'
      unfold forL at q'
      split at q'
      · rename_i e3 q3
        obtain ⟨F2, h1, h2⟩ := w3 i xs[i] (by simp [hlt']) F' H' x H2 (p'.ck R1 hap fun i m => m) y
        have p2 := p'.res0 h1 h2
        have hs2 : σ'.length = env'.length := by rw [p2.sl, p2.len]; exact hs1
        refine g2 F2 H2 σ' [] env' [] fp' xs[i] x e3 _ hs2 (by simpa using p2.rel) h2 q3 fun σ3 fp3 so => ?_
        have p3 := p2.trans so.toS
        have hs3 : σ3.length = e3.length := by rw [p3.sl, p3.len]; exact hs1
        have R3 : Rel T F2 H2 σ3 e3 fp3 := by simpa using p3.rel
        have wb : ∀ i ∈ (tc ++ tgL tg) ++ touchSs b, i ∈ tc := fun i z => by simp only [List.mem_append, tc] at z ⊢; grind
        have wb' : ∀ i ∈ (ac ++ tgL tg) ++ asgSs b, i ∈ ac := fun i z => by simp only [List.mem_append, ac] at z ⊢; grind
        split at q'
        · rename_i e4 q4
          exact k2 F2 H2 σ3 e3 fp3 _ _ hs3 R3 q4 _ (fun _ F4 H4 σ4 fp4 p4 => ⟨F4, e4, fp4, (p3.trans p4).weak wb wb', q'⟩) (fun z => by cases z) (fun z => by cases z) (fun d z => by cases z) (fun c ns xs z => by cases z)
        · rename_i e4 q4
          exact k2 F2 H2 σ3 e3 fp3 _ _ hs3 R3 q4 _ (fun z => by cases z) (fun z => by cases z) (fun _ F4 H4 σ4 fp4 p4 => ⟨F4, e4, fp4, (p3.trans p4).weak wb wb', q'⟩) (fun d z => by cases z) (fun c ns xs z => by cases z)
        · rename_i e4 q4
          obtain ⟨rfl, rfl⟩ := Prod.mk.inj (Option.some.inj q')
          exact k2 F2 H2 σ3 e3 fp3 _ _ hs3 R3 q4 _ (fun z => by cases z) (fun _ F4 H4 σ4 fp4 p4 => kn rfl F4 H4 σ4 fp4 ((p.toS.trans ((p3.trans p4).weak wb wb')).weak wt wa)) (fun z => by cases z) (fun d z => by cases z) (fun c ns xs z => by cases z)
        · rename_i d e4 q4
          obtain ⟨rfl, rfl⟩ := Prod.mk.inj (Option.some.inj q')
          exact k2 F2 H2 σ3 e3 fp3 _ _ hs3 R3 q4 _ (fun z => by cases z) (fun z => by cases z) (fun z => by cases z) (fun d eo F4 H4 σ4 fp4 v p4 => kr d eo F4 H4 σ4 fp4 v ((p.toS.trans ((p3.trans p4).weak wb wb')).weak wt wa)) (fun c ns xs z => by cases z)
        · rename_i c' ns' ys e4 q4
          obtain ⟨rfl, rfl⟩ := Prod.mk.inj (Option.some.inj q')
          exact k2 F2 H2 σ3 e3 fp3 _ _ hs3 R3 q4 _ (fun z => by cases z) (fun z => by cases z) (fun z => by cases z) (fun d z => by cases z) (fun c ns xs eo F4 H4 σ4 fp4 d ws p4 => kx c ns xs eo F4 H4 σ4 fp4 d ws ((p.toS.trans ((p3.trans p4).weak wb wb')).weak wt wa))
        · cases q'
      · cases q'
    · rintro σ' H' ⟨F', env', fp', p', q'⟩
      rw [List.drop_eq_nil_of_le (Nat.le_refl _)] at q'
      obtain ⟨rfl, rfl⟩ := Prod.mk.inj (Option.some.inj (show some (Fl.nx, env') = _ from q'))
      exact kn rfl F' H' σ' fp' ((p.toS.trans p').weak wt wa)
  · exact i2 _ F H σ [] env [] fp _ _ hs rfl (by simpa using R) q1 _ (fun rs xs eo => by cases eo) (fun c' ns' xs' eo F1 H1 fp1 d ws p x1 x2 => by
      cases eo
      exact kx _ _ _ rfl F1 H1 σ fp1 d ws (p.toS.weak wi0 (by simp)) x1 x2)
end
end RL
set_option Elab.async false
set_option linter.all false
set_option maxRecDepth 100000
set_option maxHeartbeats 1000000
/-! RL, comprehensions. -/
namespace RL
open PySem PySem.Spec PyProof.Rows L2
section
variable {T : Tb} {X : Cx} {W : WX} {P : Pr} {Φ : Hd'} {F H F1 H1 F2 H2 F3 H3 : Hp} {σ σ1 σ2 σ3 τ pv : List (Option V)} {env env1 env2 env3 ts pd : Env'} {fp fp1 fp2 fp3 : Nat → List Addr} {t1 t2 is own : List Nat}
theorem killL_len : ∀ (is : List Nat) (e : Env'), (killL is e).length = e.length
  | [], e => rfl
  | i :: is, e => by show (killL is (e.set i none)).length = _; rw [killL_len is]; simp
theorem killL_out : ∀ (is : List Nat) (e : Env') (j : Nat), j ∉ is → (killL is e)[j]? = e[j]?
  | [], e, j, h => rfl
  | i :: is, e, j, h => by
    simp only [List.mem_cons, not_or] at h
    show (killL is (e.set i none))[j]? = _
    rw [killL_out is _ j h.2, List.getElem?_set_ne (Ne.symm h.1)]
theorem killL_some : ∀ (is : List Nat) (e : Env') (j : Nat) (d : D), (killL is e)[j]? = some (some d) → j ∉ is ∧ e[j]? = some (some d)
  | [], e, j, d, h => ⟨by simp, h⟩
  | i :: is, e, j, d, h => by
    obtain ⟨h1, h2⟩ := killL_some is (e.set i none) j d h
    obtain ⟨h3, h4⟩ := get_set_none h2
    exact ⟨by simp only [List.mem_cons, not_or]; exact ⟨fun z => h3 z.symm, h1⟩, h4⟩
theorem backL_len : ∀ (is : List Nat) (e0 e : Env'), (backL is e0 e).length = e.length
  | [], e0, e => rfl
  | i :: is, e0, e => by show (backL is e0 (e.set i (backD e0[i]?))).length = _; rw [backL_len is]; simp
theorem backL_out : ∀ (is : List Nat) (e0 e : Env') (j : Nat), j ∉ is → (backL is e0 e)[j]? = e[j]?
  | [], e0, e, j, h => rfl
  | i :: is, e0, e, j, h => by
    simp only [List.mem_cons, not_or] at h
    show (backL is e0 (e.set i (backD e0[i]?)))[j]? = _
    rw [backL_out is _ _ j h.2, List.getElem?_set_ne (Ne.symm h.1)]
theorem backL_in : ∀ (is : List Nat) (e0 e : Env') (j : Nat), j ∈ is → j < e.length → (backL is e0 e)[j]? = some (backD e0[j]?)
  | [], e0, e, j, h, hl => by cases h
  | i :: is, e0, e, j, h, hl => by
    show (backL is e0 (e.set i (backD e0[i]?)))[j]? = _
    by_cases hj : j ∈ is
    · exact backL_in is e0 _ j hj (by simpa using hl)
    · rw [backL_out is _ _ j hj]
      rcases List.mem_cons.mp h with rfl | h
      · rw [List.getElem?_set_self hl]
      · exact absurd h hj
theorem wipe_out : ∀ (vs : List Nat) (σ : L2.St) (i : Nat), i ∉ vs → (wipe σ vs)[i]? = σ[i]?
  | [], σ, i, h => rfl
  | v :: vs, σ, i, h => by
    simp only [List.mem_cons, not_or] at h
    unfold wipe
    rw [List.getElem?_set_ne (Ne.symm h.1), wipe_out vs σ i h.2]
theorem wipe_in : ∀ (vs : List Nat) (σ : L2.St) (i : Nat), i ∈ vs → i < σ.length → (wipe σ vs)[i]? = some none
  | [], σ, i, h, hl => by cases h
  | v :: vs, σ, i, h, hl => by
    unfold wipe
    by_cases e : v = i
    · subst e
      rw [List.getElem?_set_self (by rw [wipe_length]; exact hl)]
    · rw [List.getElem?_set_ne e]
      rcases List.mem_cons.mp h with rfl | h
      · exact absurd rfl e
      · exact wipe_in vs σ i h hl
theorem wipe_eq {vs : List Nat} {σ σ' : L2.St} (hl : σ'.length = σ.length) (h : ∀ i, i ∉ vs → σ'[i]? = σ[i]?) : wipe σ' vs = wipe σ vs := by
  refine List.ext_getElem? fun i => ?_
  by_cases hi : i ∈ vs
  · by_cases hlt : i < σ.length
    · rw [wipe_in vs σ i hi hlt, wipe_in vs σ' i hi (by omega)]
    · rw [List.getElem?_eq_none (by rw [wipe_length]; omega), List.getElem?_eq_none (by rw [wipe_length]; omega)]
  · rw [wipe_out vs _ i hi, wipe_out vs _ i hi, h i hi]
/-- other values at slots that are forgotten -/
theorem Rel.slots {S S' A : List (Option V)} {E B : Env'} (R : Rel T F H (S ++ A) (E ++ B) fp) (hl : S.length = E.length) (hl' : S'.length = S.length) (hs : ∀ i, i ∉ own → S'[i]? = S[i]?) : Rel T F H (S' ++ A) (killL own E ++ B) fp := by
  have kl := killL_len own E
  refine ⟨R.sub, by have := R.len; simp at this ⊢; omega, fun i d h => ?_, R.nd, R.dj, R.out, R.dom, fun i hi => R.off i (by simp at hi ⊢; omega)⟩
  by_cases hi : i < E.length
  · rw [List.getElem?_append_left (by omega)] at h
    obtain ⟨h1, h2⟩ := killL_some own E i d h
    obtain ⟨v, e1, e2⟩ := R.at_ i d (by rw [List.getElem?_append_left hi]; exact h2)
    rw [List.getElem?_append_left (by omega)] at e1
    exact ⟨v, by rw [List.getElem?_append_left (by omega), hs i h1]; exact e1, e2⟩
  · rw [List.getElem?_append_right (by omega), kl] at h
    obtain ⟨v, e1, e2⟩ := R.at_ i d (by rw [List.getElem?_append_right (by omega)]; exact h)
    rw [List.getElem?_append_right (by omega), hl] at e1
    exact ⟨v, by rw [List.getElem?_append_right (by omega), hl', hl]; exact e1, e2⟩
/-- one turn, in the frame that holds between the turns -/
theorem Post.turn (R : Rel T F H (σ ++ τ) (env ++ ts) fp) (hs : σ.length = env.length) (tr1 : Tr F H fp F1 H1 fp) (k1 : ∀ i, ∀ a ∈ fp i, H1 a = H a) (so : SetOk T F1 H1 σ τ env ts fp is σ3 env3 fp3) (his : ∀ i ∈ is, i ∈ own)
    (q : Post T F1 H1 σ3 τ env3 ts fp3 t2 F2 H2 env2 fp2 pv pd) : Post T F H σ τ env ts fp (own ++ t2) F2 H2 (killL own env2) fp2 pv pd := by
  have l3 : env3.length = env.length := so.len
  have l2 : env2.length = env.length := q.len.trans l3
  refine ⟨by rw [killL_len]; exact l2, ?_, (tr1.trans ((Tr.refl F1 H1 fp).less fun i a m => ⟨i, so.sub i a m⟩)).trans q.tr, fun i hi hl => ?_⟩
  · have := q.rel
    rw [List.append_assoc, List.append_assoc] at this ⊢
    exact Rel.slots this (by rw [so.sl, l2, hs]) so.sl.symm (fun i hi => ((so.same i fun z => hi (his i z)).2.1).symm)
  · by_cases hlt : i < env.length
    · have hi' : i ∉ own ++ t2 := by
        rcases hi with hi | hi
        · exact hi
        · omega
      simp only [List.mem_append, not_or] at hi'
      obtain ⟨a1, a2, a3⟩ := so.same i fun z => hi'.1 (his i z)
      obtain ⟨b1, b2, b3⟩ := q.same i (.inl hi'.2) (by omega)
      rw [List.getElem?_append_left (by omega), List.getElem?_append_left (by omega)] at b1
      rw [List.getElem?_append_left (by rw [killL_len]; omega), List.getElem?_append_left hlt, killL_out _ _ _ hi'.1]
      exact ⟨b1.trans a1, b2.trans a3, fun a m => (b3 a (by rw [a3]; exact m)).trans (k1 i a m)⟩
    · obtain ⟨b1, b2, b3⟩ := q.same i (.inr (by omega)) (by omega)
      rw [List.getElem?_append_right (by omega), List.getElem?_append_right (by omega), l2, l3] at b1
      obtain ⟨_, _, a3⟩ := so.same i fun z => hlt (so.bd i z)
      rw [List.getElem?_append_right (by rw [killL_len]; omega), List.getElem?_append_right (by omega), killL_len, l2]
      exact ⟨b1, b2.trans a3, fun a m => (b3 a (by rw [a3]; exact m)).trans (k1 i a m)⟩
theorem Rel.join1 {S : List (Option V)} {E : Env'} {a : Addr} {v : V} {ds : List D} {d : D} (R : Rel T F H ((S ++ [some (.ref a)]) ++ [some v]) ((E ++ [some (.olst ds)]) ++ [some d]) fp) (hl : S.length = E.length) :
    ∃ vs fp2, H a = some (.lst vs) ∧ vs.length = ds.length ∧ Rel T F (upd H a (.lst (vs ++ [v]))) (S ++ [some (.ref a)]) (E ++ [some (.olst (ds ++ [d]))]) fp2 ∧ (∀ i, i < E.length → fp2 i = fp i ∧ ∀ z ∈ fp i, upd H a (.lst (vs ++ [v])) z = H z) ∧ (∀ i z, z ∈ fp2 i → ∃ j, z ∈ fp j) ∧ a ∈ fp E.length := by
  have hr : (E ++ [some (D.olst ds)])[E.length]? = some (some (.olst ds)) := by simp
  have hv : (S ++ [some (V.ref a)])[E.length]? = some (some (.ref a)) := by rw [← hl]; simp
  obtain ⟨w, q1, q2⟩ := R.at_ E.length (.olst ds) (by rw [List.getElem?_append_left (by simp)]; exact hr)
  rw [List.getElem?_append_left (by simp; omega), hv] at q1
  obtain rfl : V.ref a = w := by simpa using q1
  obtain ⟨a', vs, ea, ha, g', hg, _⟩ := own_lst q2 R.sub
  cases ea
  obtain ⟨w2, q3, q4⟩ := R.at_ (E.length + 1) d (by rw [List.getElem?_append_right (by simp)]; simp)
  rw [List.getElem?_append_right (by simp; omega)] at q3
  obtain rfl : v = w2 := by
    have : E.length + 1 - (S ++ [some (V.ref a)]).length = 0 := by simp; omega
    rw [this] at q3
    simpa using q3
  obtain ⟨fp', R', hoth, hsub, ar⟩ := Rel.mut (S := S ++ [some (.ref a)]) (A := [some v]) (E := E ++ [some (.olst ds)]) (B := [some d]) (o' := .lst (vs ++ [v])) (d := .olst ds) (d' := .olst (ds ++ [d])) (p := []) R (by simp [hl]) hr hv rfl rfl rfl (by
    intro b hb hnd hk hin
    unfold Own at hb
    rcases hb with ⟨z, _⟩ | ⟨_, a2, us, g, ea, eb, h3, h4⟩
    · cases z
    · cases ea
      cases eb
      have h3 : H a = some (.lst us) := h3
      rw [ha] at h3
      cases h3
      have ane : ∀ z ∈ fp (E.length + 1), z ≠ a := fun z m e => by
        subst e
        have : z ∈ fp E.length := by
          unfold Own at q2
          rcases q2 with ⟨z', _⟩ | ⟨_, a2, _, g2, ea, eb, _⟩
          · cases z'
          · cases ea; rw [eb]; simp
        have := R.dj _ _ z m this
        omega
      refine ⟨b ++ fp (E.length + 1), ?_, ?_, fun z m => ?_⟩
      · unfold Own
        refine .inr ⟨rfl, a, vs ++ [v], _, rfl, rfl, upd_same, ?_⟩
        have hb2 : OwnL T F (upd H a (.lst (vs ++ [v]))) ds vs b := OwnL.mono (Ex.refl _) ds vs b (fun z m => hk z m fun e => by subst e; exact (List.nodup_cons.mp hnd).1 m) h4
        have hv2 : Own T F (upd H a (.lst (vs ++ [v]))) d v (fp (E.length + 1)) := Own.mono (Ex.refl _) d v _ (fun z m => upd_ne (ane z m)) q4
        have := OwnL.append hb2 (OwnL.cons_ hv2 OwnL.nil_)
        simpa using this
      · rw [← List.cons_append]
        refine List.nodup_append.mpr ⟨hnd, R.nd _, fun x hx y hy e => ?_⟩
        subst e
        rcases List.mem_cons.mp hx with rfl | hx
        · exact ane _ hy rfl
        · have := R.dj _ _ x (hin x (List.mem_cons_of_mem _ hx)) hy
          omega
      · rcases List.mem_append.mp m with m | m
        · exact .inl m
        · exact .inr ⟨_, by simp, m⟩)
  refine ⟨vs, fp', ha, hg.len, ?_, fun i hi => hoth i (by omega) (by simp; omega), hsub, ar⟩
  have e2 : (E ++ [some (D.olst ds)]).set E.length (some (setP (.olst (ds ++ [d])) [] (.olst ds))) = E ++ [some (.olst (ds ++ [d]))] := by
    rw [List.set_append_right _ _ (Nat.le_refl _)]
    simp [setP]
  rw [e2] at R'
  exact R'
/-- a temporary joined to a temporary list -/
theorem Post.join {a : Addr} {v : V} {ds : List D} {d : D} (p : Post T F H σ τ env ts fp t1 F1 H1 env1 fp1 [some (.ref a), some v] [some (.olst ds), some d]) (hs : σ.length = env.length) (ht : τ.length = ts.length) :
    ∃ vs fp2, H1 a = some (.lst vs) ∧ vs.length = ds.length ∧ Post T F H σ τ env ts fp t1 F1 (upd H1 a (.lst (vs ++ [v]))) env1 fp2 [some (.ref a)] [some (.olst (ds ++ [d]))] := by
  obtain ⟨vs, fp2, h1, h2, h3, h4, h5, h6⟩ := Rel.join1 (S := σ ++ τ) (E := env1 ++ ts) (by simpa [List.append_assoc] using p.rel) (by simp [hs, ht, p.len])
  have e0 : (env1 ++ ts).length = env.length + ts.length := by simp [p.len]
  have tr2 : Tr F1 H1 fp1 F1 (upd H1 a (.lst (vs ++ [v]))) fp2 := ⟨Ex.refl _, fun z o h hn => by rw [upd_ne (fun e => hn _ (by rw [e]; exact h6))]; exact h, fun z u h => .inl ⟨u, h⟩, fun i z h => .inl (h5 i z h)⟩
  refine ⟨vs, fp2, h1, h2, p.len, h3, p.tr.trans tr2, fun i hi hl => ?_⟩
  obtain ⟨s1, s2, s3⟩ := p.same i hi hl
  obtain ⟨k1, k2⟩ := h4 i (by omega)
  exact ⟨s1, k1.trans s2, fun z m => (k2 z (by rw [s2]; exact m)).trans (s3 z m)⟩
/-- a slot's own names come back -/
theorem Rel.back {S S0 A : List (Option V)} {E E0 B B0 : Env'} {A0 : List (Option V)} (R : Rel T F1 H1 (S ++ A) (E ++ B) fp1) (R0 : Rel T F H (S0 ++ A0) (E0 ++ B0) fp) (e : Ex F F1) (hl : S.length = E.length) (hl0 : S0.length = S.length) (hE : E0.length = E.length) (hs : ∀ i, i ∉ own → S0[i]? = S[i]?) :
    Rel T F1 H1 (S0 ++ A) (backL own E0 E ++ B) (fun i => if i ∈ own ∧ i < E.length then [] else fp1 i) := by
  have kl := backL_len own E0 E
  have mem : ∀ {i a}, a ∈ (fun i => if i ∈ own ∧ i < E.length then [] else fp1 i) i → a ∈ fp1 i ∧ ¬ (i ∈ own ∧ i < E.length) := fun {i a} m => by
    have m : a ∈ (if i ∈ own ∧ i < E.length then [] else fp1 i) := m
    split at m
    · cases m
    · rename_i h; exact ⟨m, h⟩
  refine ⟨R.sub, by have := R.len; simp at this ⊢; omega, fun i d h => ?_, fun i => ?_, fun i j a m1 m2 => R.dj i j a (mem m1).1 (mem m2).1, fun i a m => R.out i a (mem m).1, fun i a m => R.dom i a (mem m).1, fun i hi => ?_⟩
  · by_cases hi : i < E.length
    · rw [List.getElem?_append_left (by omega)] at h
      rw [List.getElem?_append_left (by omega)]
      by_cases ho : i ∈ own
      · rw [backL_in own E0 E i ho hi] at h
        have h' : backD E0[i]? = some d := Option.some.inj h
        unfold backD at h'
        split at h'
        · rename_i d0 h0
          split at h'
          · cases h'
          · rename_i hd
            obtain rfl : d0 = d := Option.some.inj h'
            obtain ⟨v, e1, e2⟩ := R0.at_ i d0 (by rw [List.getElem?_append_left (by omega)]; exact h0)
            rw [List.getElem?_append_left (by omega)] at e1
            have e3 := e2.top hd
            rw [e3] at e2
            refine ⟨v, e1, ?_⟩
            show Own T F1 H1 d0 v (if i ∈ own ∧ i < E.length then [] else fp1 i)
            rw [if_pos ⟨ho, hi⟩]
            exact Own.mono e d0 v [] (by simp) e2
        · cases h'
      · rw [backL_out own E0 E i ho] at h
        obtain ⟨v, e1, e2⟩ := R.at_ i d (by rw [List.getElem?_append_left hi]; exact h)
        rw [List.getElem?_append_left (by omega)] at e1
        refine ⟨v, by rw [hs i ho]; exact e1, ?_⟩
        show Own T F1 H1 d v (if i ∈ own ∧ i < E.length then [] else fp1 i)
        rw [if_neg fun z => ho z.1]
        exact e2
    · rw [List.getElem?_append_right (by omega), kl] at h
      obtain ⟨v, e1, e2⟩ := R.at_ i d (by rw [List.getElem?_append_right (by omega)]; exact h)
      rw [List.getElem?_append_right (by omega), hl] at e1
      refine ⟨v, by rw [List.getElem?_append_right (by omega), hl0, hl]; exact e1, ?_⟩
      show Own T F1 H1 d v (if i ∈ own ∧ i < E.length then [] else fp1 i)
      rw [if_neg fun z => hi z.2]
      exact e2
  · show (if i ∈ own ∧ i < E.length then [] else fp1 i).Nodup
    split
    · exact List.nodup_nil
    · exact R.nd i
  · show (if i ∈ own ∧ i < E.length then [] else fp1 i) = []
    split
    · rfl
    · exact R.off i (by simp at hi ⊢; omega)
theorem Post.back2 (p : Post T F H (wipe σ own) τ (killL own env) ts fp t1 F1 H1 env1 fp1 pv pd) (R : Rel T F H (σ ++ τ) (env ++ ts) fp) (hs : σ.length = env.length) : ∃ fp2, Post T F H σ τ env ts fp (own ++ t1) F1 H1 (backL own env env1) fp2 pv pd := by
  have l1 : env1.length = env.length := by rw [p.len, killL_len]
  have R1 : Rel T F1 H1 (wipe σ own ++ (τ ++ pv)) (env1 ++ (ts ++ pd)) fp1 := by simpa [List.append_assoc] using p.rel
  have R2 := Rel.back (S0 := σ) R1 R p.tr.fro (by rw [wipe_length, l1, hs]) (by rw [wipe_length]) l1.symm (fun i hi => (wipe_out own σ i hi).symm)
  refine ⟨_, by rw [backL_len]; exact l1, by simpa [List.append_assoc] using R2, p.tr.less fun i a m => ?_, fun i hi hl => ?_⟩
  · have m : a ∈ (if i ∈ own ∧ i < env1.length then [] else fp1 i) := m
    split at m
    · cases m
    · exact ⟨i, m⟩
  · have q := p.same i (by
      rcases hi with hi | hi
      · exact .inl fun z => hi (List.mem_append_right _ z)
      · exact .inr (by rw [killL_len]; exact hi)) (by rw [killL_len]; exact hl)
    obtain ⟨s1, s2, s3⟩ := q
    by_cases hlt : i < env.length
    · have ho : i ∉ own := by
        rcases hi with hi | hi
        · exact fun z => hi (List.mem_append_left _ z)
        · omega
      rw [List.getElem?_append_left (by omega), List.getElem?_append_left (by rw [killL_len]; omega), killL_out _ _ _ ho] at s1
      refine ⟨by rw [List.getElem?_append_left (by rw [backL_len]; omega), List.getElem?_append_left hlt, backL_out _ _ _ _ ho]; exact s1, ?_, s3⟩
      show (if i ∈ own ∧ i < env1.length then [] else fp1 i) = _
      rw [if_neg fun z => ho z.1]
      exact s2
    · rw [List.getElem?_append_right (by omega), List.getElem?_append_right (by rw [killL_len]; omega), killL_len, l1] at s1
      refine ⟨by rw [List.getElem?_append_right (by rw [backL_len]; omega), List.getElem?_append_right (by omega), backL_len, l1], ?_, s3⟩
      show (if i ∈ own ∧ i < env1.length then [] else fp1 i) = _
      rw [if_neg fun z => by omega]
      exact s2
theorem Post.ck {t : List Nat} {rs : List Rf} (p : Post T F1 H1 σ τ env ts fp1 t1 F2 H2 env2 fp2 pv pd) (R : Rel T F1 H1 (σ ++ τ) (env ++ ts) fp1) (ha : apart rs t = true) (hw : ∀ i ∈ t1, i ∈ t) : CK F1 H1 (Keep fp1 (rfRoots rs)) F2 H2 := by
  refine ⟨p.tr.fro, p.rel.sub, fun a o k h => ?_⟩
  rcases k with k | ⟨r, k1, k2⟩
  · exact p.tr.keep a o h k
  · have hr : r ∉ t1 := fun z => by
      have := List.all_eq_true.mp ha r k1
      rw [List.contains_iff_mem.mpr (hw r z)] at this
      cases this
    have hl : r < env.length + ts.length := by
      cases Nat.lt_or_ge r (env.length + ts.length) with
      | inl h => exact h
      | inr h => rw [R.off r (by simpa using h)] at k2; cases k2
    obtain ⟨_, _, s4⟩ := p.same r (.inl hr) hl
    rw [s4 a k2]; exact h
def NoW : WX := fun _ _ _ _ => False
theorem good_comp {m : M (List Rf × List D)} {tl tcd tel : List Nat} {tg : Tg} {cd : M Bool} {elt : M D} {wi : TI} {g : TG} {tt : TT} {te : TE} (hi : GoodIt T W m tl (tgL tg ++ (own ++ (tcd ++ tel))) wi) (hg : GoodT T tg g) (ht : GoodB T NoW cd tcd tt) (he : GoodD T NoW elt tel te) (hin : ∀ i ∈ tgL tg, i ∈ own) :
    GoodR T W (M.bind m fun q => compM own tg cd elt q.2) (tl ++ (tgL tg ++ (own ++ (tcd ++ tel)))) [] [] (tLc wi g tt te own) := fun F H σ τ env ts fp o env2 hs hτ R e Q kq kx => by
  rcases bind_cases e with ⟨q, e1, q1, ea1⟩ | ⟨c, ns, xs, q1, rfl⟩
  · obtain ⟨rs, xs⟩ := q
    refine hi F H σ τ env ts fp _ _ hs hτ R q1 _ (fun rs' xs' eo F1 H1 fp1 J p hap hw => ?_) (fun c ns xs eo => by cases eo)
    cases eo
    intro Dd hD
    obtain ⟨G, Y, w1, w2, w3⟩ := hw
    have R1 : Rel T F1 H1 (σ ++ τ) (e1 ++ ts) fp1 := by simpa using p.rel
    have hs1 : σ.length = e1.length := by rw [p.len]; exact hs
    have ea2 : (match decide (xs.length ≤ lim), compL own (setTg tg) cd elt xs (killL own e1) with
      | true, some (ys, e1') => some (Out.ok (Rf.tmp (.olst ys)), backL own e1 e1')
      | _, _ => none) = some (o, env2) := ea1
    split at ea2
    · rename_i ys e3 hlim hcl
      obtain ⟨rfl, rfl⟩ := Prod.mk.inj (Option.some.inj ea2)
      have hlim : xs.length ≤ lim := by simpa using hlim
      let σw := wipe σ own
      let ek := killL own e1
      have hsw : σw.length = ek.length := by show (wipe σ own).length = (killL own e1).length; rw [wipe_length, killL_len, hs1]
      have Rw : Rel T F1 H1 (σw ++ τ) (ek ++ ts) fp1 := Rel.slots R1 hs1 (wipe_length σ own) (fun i hi => wipe_out own σ i hi)
      let tcc := tgL tg ++ (own ++ (tcd ++ tel))
      let Pv : Nat → Hp → Prop := fun i H' => ∃ F' env' fp' ad, Post T F1 H1 σw τ ek ts fp1 tcc F' H' env' fp' [some (.ref Dd)] [some (.olst ad)] ∧ ad.length ≤ i ∧ ∃ ys', compL own (setTg tg) cd elt (xs.drop i) env' = some (ys', e3) ∧ ad ++ ys' = ys
      have ckOf : ∀ {F' H' env' fp' pv pd}, Post T F1 H1 σw τ ek ts fp1 tcc F' H' env' fp' pv pd → CK F1 H1 (Keep fp1 (rfRoots rs)) F' H' := fun {F' H' env' fp' pv pd} p' => by
        exact p'.ck Rw hap fun i m => m
      have p0 : Post T F1 H1 σw τ ek ts fp1 tcc F1 (upd H1 Dd (.lst [])) ek _ [some (.ref Dd)] [some (.olst [])] := (Post.new (Post.refl Rw) (k := .lst) (ds := []) (vs := []) hD (show upd H1 Dd (.lst []) Dd = _ from upd_same) OwnL.nil_).weak (by simp)
      have hd : ∀ H', Pv xs.length H' → Q (.ref Dd) H' := by
        rintro H' ⟨F', env', fp', ad, p', _, ys', q1, q2⟩
        rw [List.drop_eq_nil_of_le (Nat.le_refl _)] at q1
        obtain ⟨rfl, rfl⟩ := Prod.mk.inj (Option.some.inj (show some ([], env') = _ from q1))
        rw [List.append_nil] at q2
        subst q2
        obtain ⟨fp4, p4⟩ := Post.back2 p' R1 hs1
        have p5 := p.trans (pv1 := []) (pd1 := []) (by simpa using p4)
        exact kq _ rfl F' H' fp4 (.ref Dd) _ _ ⟨rfl, rfl, trivial, trivial⟩ ((by simpa using p5 : Post T F H σ τ env ts fp (tl ++ (own ++ tcc)) F' H' _ fp4 [some (.ref Dd)] [some (.olst ad)]).weak fun i z => by simp only [List.mem_append, tcc] at z ⊢; grind)
      refine lc_it w1 Pv ⟨F1, ek, _, [], p0, by simp, ys, by simpa using hcl, rfl⟩ (fun i H' _ ⟨F', env', fp', ad, p', _⟩ => w2 F' H' (ckOf p')) ?_ hd
      rintro i x H' H2 hlt ⟨F', env', fp', ad, p', hlen, ys', q2, q3⟩ y
      have hlt' : i < xs.length := hlt
      rw [List.drop_eq_getElem_cons hlt'] at q2
      unfold compL at q2
      split at q2
      · rename_i e4 q4
        have R' : Rel T F' H' (σw ++ (τ ++ [some (.ref Dd)])) (env' ++ (ts ++ [some (.olst ad)])) fp' := by simpa [List.append_assoc] using p'.rel
        have hs' : σw.length = env'.length := by rw [p'.len]; exact hsw
        obtain ⟨F2, h1, h2⟩ := w3 i xs[i] (by simp [hlt']) F' H' x H2 (ckOf p') y
        obtain ⟨R2, tr2, kp2⟩ := res_frame R' h1 h2
        refine hg F2 H2 σw (τ ++ [some (.ref Dd)]) env' (ts ++ [some (.olst ad)]) fp' xs[i] x e4 _ hs' R2 h2 q4 fun σ3 fp3 so => ?_
        refine ⟨?_, ?_⟩
        · rw [wipe_eq (σ := σw) so.sl fun j hj => (so.same j fun z => hj (hin j z)).2.1]
          exact wipe_eq (wipe_length σ own) fun j hj => wipe_out own σ j hj
        · have hs3 : σ3.length = e4.length := by rw [so.sl, so.len]; exact hs'
          have hτ3 : (τ ++ [some (V.ref Dd)]).length = (ts ++ [some (D.olst ad)]).length := by simp [hτ]
          have wt : ∀ j ∈ tcc ++ (own ++ (tcd ++ tel)), j ∈ tcc := fun j z => by simp only [List.mem_append, tcc] at z ⊢; grind
          split at q2
          · rename_i e5 q5
            refine ht F2 H2 σ3 _ e4 _ fp3 _ _ hs3 hτ3 so.rel q5 _ (fun a ea F3 H3 fp4 b pv pd j pt => ?_) (fun c ns xs eo => by cases eo)
            cases ea
            obtain ⟨rfl, rfl, rfl⟩ := j
            rw [if_pos rfl]
            split at q2
            · rename_i yd e6 q6
              have R3 : Rel T F3 H3 (σ3 ++ (τ ++ [some (.ref Dd)])) (e5 ++ (ts ++ [some (.olst ad)])) fp4 := by simpa using pt.rel
              have hs5 : σ3.length = e5.length := by rw [pt.len]; exact hs3
              refine he F3 H3 σ3 _ e5 _ fp4 _ _ hs5 hτ3 R3 q6 _ (fun a ea F4 H4 fp5 v pv pd j pe => ?_) (fun c ns xs eo => by cases eo)
              cases ea
              obtain ⟨rfl, rfl⟩ := j
              have pte := pt.trans (pv1 := []) (pd1 := []) (by simpa using pe)
              have pT := Post.turn R' hs' tr2 kp2 so hin (by simpa using pte)
              have pA := (p'.trans pT).weak wt
              obtain ⟨vs, fp6, k1, k2, k3⟩ := Post.join (by simpa using pA) hsw hτ
              cases hc : compL own (setTg tg) cd elt (List.drop (i + 1) xs) (killL own e6) with
              | none => rw [hc] at q2; cases q2
              | some r =>
                rw [hc] at q2
                obtain ⟨ys2, e7⟩ := r
                obtain ⟨rfl, rfl⟩ := Prod.mk.inj (Option.some.inj (show some (yd :: ys2, e7) = _ from q2))
                refine ⟨vs, k1, ?_, F4, killL own e6, fp6, ad ++ [yd], k3, by simp; omega, ys2, hc, by rw [← q3]; simp⟩
                have : lim < sizeLine := by decide
                omega
            · cases q2
          · rename_i e5 q5
            refine ht F2 H2 σ3 _ e4 _ fp3 _ _ hs3 hτ3 so.rel q5 _ (fun a ea F3 H3 fp4 b pv pd j pt => ?_) (fun c ns xs eo => by cases eo)
            cases ea
            obtain ⟨rfl, rfl, rfl⟩ := j
            rw [if_neg (by simp)]
            have pT := Post.turn R' hs' tr2 kp2 so hin pt
            have pA := (p'.trans pT).weak (t2 := tcc) fun j z => by simp only [List.mem_append, tcc] at z ⊢; grind
            exact ⟨F3, killL own e5, fp4, ad, by simpa using pA, by omega, ys', q2, q3⟩
          · cases q2
      · cases q2
    · cases ea2
  · exact hi F H σ τ env ts fp _ _ hs hτ R q1 _ (fun rs xs eo => by cases eo) (fun c' ns' xs' eo F1 H1 fp1 d ws p x1 x2 => by
      cases eo
      exact kx _ _ _ rfl F1 H1 fp1 d ws (p.weak fun i z => List.mem_append_left _ z) x1 x2)

/-! a reading for all the contexts that a block may run in -/
theorem gx_uni {ι : Type} {XX : ι → Cx} {W : WX} {il : Ex'} {e : Expr} (i0 : ι) (h : ∀ i, GX T (XX i) W P Φ il e) : ∃ t, (∀ i, PE (XX i) e t) ∧ GoodR T W (evX P Φ il).1 (touchR il) (varsV il) (rootV il) t := by
  refine ⟨fun σ H Q => ∀ i pins s, Inv (XX i) pins σ H s → wpAny (model (XX i).prog (XX i).w) (XX i).A (eval e (XX i).env) (EP (XX i) pins σ Q) (XX i).xe s, fun i => ⟨fun pins s σ H Q I h => h i pins s I⟩, ?_⟩
  intro F H σ τ env ts fp o env2 hs ht R e' Q k1 k2 i pins s I
  obtain ⟨t, h1, h2⟩ := (h i).val
  exact h1.run pins s σ H Q I (h2 F H σ τ env ts fp o env2 hs ht R e' Q k1 k2)
theorem gt_uni {ι : Type} {XX : ι → Cx} {W : WX} {il : Ex'} {e : Expr} (h : ∀ i, GX T (XX i) W P Φ il e) : ∃ t, (∀ i, PT (XX i) e t) ∧ GoodB T W (evX P Φ il).2 (touchR il) t := by
  refine ⟨fun σ H Q => ∀ i pins s, Inv (XX i) pins σ H s → wpAny (model (XX i).prog (XX i).w) (XX i).A (isTrue e (XX i).env (eval e (XX i).env)) (TP (XX i) pins σ Q) (XX i).xe s, fun i => ⟨fun pins s σ H Q I h => h i pins s I⟩, ?_⟩
  intro F H σ τ env ts fp o env2 hs ht R e' Q k1 k2 i pins s I
  obtain ⟨t, h1, h2⟩ := (h i).tst
  exact h1.run pins s σ H Q I (h2 F H σ τ env ts fp o env2 hs ht R e' Q k1 k2)
/-- where a block stands -/
structure Blk where
  s : Shared
  H : Hp
  C : Addr
  cl : List (Str × Addr)
  fp : List Addr
abbrev Blk.cx (X : Cx) (scope : Scope) (b : Blk) : Cx := X.blk b.s b.H scope (compEnvC scope b.cl b.C X.env) b.fp
/-- the tests of a comprehension -/
structure GC (T : Tb) (X : Cx) (scope : Scope) (P : Pr) (Φ : Hd') (ils : List Ex') (es : List Expr) : Prop where
  ok : ∃ tt, (∀ b : Blk, PTs (b.cx X scope) es tt) ∧ GoodB T NoW (evXc P Φ ils) (touchL ils) tt
theorem gc_nil {scope : Scope} : GC T X scope P Φ [] [] := ⟨⟨tYes, fun _ => pts_nil, fun F H σ τ env ts fp o env2 hs ht R e Q k1 k2 => by
  obtain ⟨rfl, rfl⟩ := ret_some (show M.ret true env = _ from e)
  exact k1 _ rfl F H fp true [] [] ⟨rfl, rfl, rfl⟩ (Post.refl R)⟩⟩
theorem gc_one {scope : Scope} {il : Ex'} {e : Expr} (h : ∀ b : Blk, GX T (b.cx X scope) NoW P Φ il e) : GC T X scope P Φ [il] [e] := by
  obtain ⟨t, h1, h2⟩ := gt_uni h
  exact ⟨⟨t, fun b => pts_one (h1 b), h2.weak fun i z => by simp only [touchL, List.append_nil]; exact z⟩⟩
/-- a comprehension's parts -/
structure GCo (T : Tb) (X : Cx) (W : WX) (P : Pr) (Φ : Hd') (own : List Nat) (tg : Tg) (k : ItK) (ils cd : List Ex') (elt : Ex') (scope : Scope) (names : List (Str × Nat)) (te ie : Expr) (ces : List Expr) (ee : Expr) : Prop where
  blk : BlkOk X.N X.env.scope scope names
  hown : own = names.map (·.2)
  htg : ∃ g, (∀ b : Blk, PG (b.cx X scope) te g) ∧ GoodT T tg g
  hin : ∀ i ∈ tgL tg, i ∈ own
  it : GI T X W P Φ te k ils ie
  cd : GC T X scope P Φ cd ces
  elt : ∀ b : Blk, GX T (b.cx X scope) NoW P Φ elt ee
theorem GCo.parts {own : List Nat} {tg : Tg} {k : ItK} {ils cd : List Ex'} {elt : Ex'} {scope : Scope} {names : List (Str × Nat)} {te ie : Expr} {ces : List Expr} {ee : Expr} (h : GCo T X W P Φ own tg k ils cd elt scope names te ie ces ee) :
    ∃ wi g tt tx, PI X te ie wi ∧ (∀ b : Blk, PG (b.cx X scope) te g) ∧ (∀ b : Blk, PTs (b.cx X scope) ces tt) ∧ (∀ b : Blk, PE (b.cx X scope) ee tx) ∧ GoodR T W (evX P Φ (.comp own tg k ils cd elt)).1 (touchR (.comp own tg k ils cd elt)) [] [] (tLc wi g tt tx (names.map (·.2))) := by
  obtain ⟨wi, i1, i2⟩ := h.it.ok
  obtain ⟨g, g1, g2⟩ := h.htg
  obtain ⟨tt, c1, c2⟩ := h.cd.ok
  obtain ⟨tx, e1, e2⟩ := gx_uni (XX := fun b : Blk => b.cx X scope) ⟨X.s_0, X.H_0, 0, [], []⟩ h.elt
  refine ⟨wi, g, tt, tx, i1, g1, c1, e1, ?_⟩
  rw [← h.hown]
  exact good_comp (i2 _) g2 c2 (good_take e2) h.hin
theorem gx_comp (O : XOk T X W P) {own : List Nat} {tg : Tg} {k : ItK} {ils cd : List Ex'} {elt : Ex'} {scope : Scope} {names : List (Str × Nat)} {te ie : Expr} {ces : List Expr} {ee : Expr} {pos : Pos} (h : GCo T X W P Φ own tg k ils cd elt scope names te ie ces ee) :
    GX T X W P Φ (.comp own tg k ils cd elt) (.ListComp ee [⟨te, ie, ces, 0⟩] scope pos) := by
  obtain ⟨wi, g, tt, tx, h1, h2, h3, h4, h5⟩ := h.parts
  exact gx_of O (pe_lc O.calm O.nd h1 h.blk (fun s H C cl fp => h2 ⟨s, H, C, cl, fp⟩) (fun s H C cl fp => h3 ⟨s, H, C, cl, fp⟩) (fun s H C cl fp => h4 ⟨s, H, C, cl, fp⟩) h.it.fs) h5 (fun _ => rfl) rfl
end
end RL
set_option Elab.async false
set_option linter.all false
set_option maxRecDepth 100000
set_option maxHeartbeats 1000000
/-! RL, more statements. -/
namespace RL
open PySem PySem.Spec PyProof.Rows L2
section
variable {T : Tb} {X : Cx} {W : WX} {P : Pr} {Φ : Hd'} {F H F1 H1 F2 H2 : Hp} {σ σ1 σ2 τ pv : List (Option V)} {env env1 env2 ts pd : Env'} {fp fp1 fp2 : Nat → List Addr} {t1 t2 a1 : List Nat}
/-- name = [..], the name another line's or a block's own aside -/
theorem sx_asgLc (O : XOk T X W P) {i : Nat} {x : Str} {own : List Nat} {tg : Tg} {k : ItK} {ils cd : List Ex'} {elt : Ex'} {scope : Scope} {names : List (Str × Nat)} {te ie : Expr} {ces : List Expr} {ee : Expr} {pos py spos : Pos} (h : GCo T X W P Φ own tg k ils cd elt scope names te ie ces ee)
    (hi : X.N[i]? = some x) (hl : X.env.scope.names.lookup x = some .local) (hsw : swapsWith (.ListComp ee [⟨te, ie, ces, 0⟩] scope pos) (some (.Name x py)) spos.line X.env = pure true) :
    SX T X W P Φ (.asg i (.comp own tg k ils cd elt)) (.Assign [.Name x py] (.ListComp ee [⟨te, ie, ces, 0⟩] scope pos) spos) := by
  obtain ⟨wi, g, tt, tx, h1, h2, h3, h4, h5⟩ := h.parts
  refine ⟨⟨_, ps_setLc O.calm O.nd hi hl hsw h1 h.blk (fun s H C cl fp => h2 ⟨s, H, C, cl, fp⟩) (fun s H C cl fp => h3 ⟨s, H, C, cl, fp⟩) (fun s H C cl fp => h4 ⟨s, H, C, cl, fp⟩) h.it.fs, fun F H σ env fp o env2 hs R e D kn kb kc kr kx => ?_⟩⟩
  have w : ∀ j ∈ touch (.comp own tg k ils cd elt), j ∈ i :: touch (.comp own tg k ils cd elt) := fun j z => List.mem_cons_of_mem _ z
  rcases of_cases e with ⟨d, e1, q1, ea1⟩ | ⟨c, ns, xs, q1, rfl⟩
  · by_cases hl : i < e1.length
    · obtain ⟨rfl, rfl⟩ := Prod.mk.inj (Option.some.inj (show some (Fl.nx, e1.set i (some d)) = _ by rw [← ea1]; simp [hl]))
      refine good_ev h5 F H σ [] env [] fp _ _ hs rfl (by simpa using R) q1 _ (fun a ea F1 H1 fp1 v pv pd j p => ?_) (fun c ns xs eo => by cases eo)
      cases ea
      obtain ⟨rfl, rfl⟩ := j
      obtain ⟨fp2, p2⟩ := p.toS.store hs (i := i) (by rw [← p.len]; exact hl)
      exact kn rfl F1 H1 _ fp2 (p2.weak (fun j z => by simp [touchS] at z ⊢; exact z.symm) (fun j z => by simpa [asgS] using z))
    · simp [hl] at ea1
  · exact good_ev h5 F H σ [] env [] fp _ _ hs rfl (by simpa using R) q1 _ (fun a ea => by cases ea) (fun c' ns' xs' eo F1 H1 fp1 d ws p x1 x2 => by
      cases eo
      exact kx _ _ _ rfl F1 H1 σ fp1 d ws (p.toS.weak w (by simp)) x1 x2)
def ipOf : Operator → TIp
  | .Add => ipI fun i j => i + j
  | .Sub => ipI fun i j => i - j
  | _ => fun _ _ _ _ => False
theorem ip_of (o : Operator) : PIp X o (ipOf o) := by
  cases o with
  | Add => exact ip_add
  | Sub => exact ip_sub
  | _ => intro pins s σ H x y v u Q I r1 r2 h; exact h.elim
theorem sx_aug (O : XOk T X W P) {i : Nat} {x : Str} {o : Operator} {il : Ex'} {e : Expr} {pos pos' : Pos} (hi : X.N[i]? = some x) (hx : Loc X.env.scope x) (h : GX T X W P Φ il e) (hf : X.fn x = true ∨ X.env.scope.names.lookup x = some .local) :
    SX T X W P Φ (.aug i o il) (.AugAssign (.Name x pos') o e pos) := by
  obtain ⟨t, h1, h2⟩ := h.val
  refine ⟨⟨_, ps_aug O.nd hi hx h1 (ip_of o) hf, fun F H σ env fp o' env2 hs R e D kn kb kc kr kx => ?_⟩⟩
  have w : ∀ j ∈ touchR il, j ∈ i :: touch il := fun j z => by simp [touch, z]
  rcases of_cases e with ⟨xr, e1, q1, ea1⟩ | ⟨c, ns, xs, q1, rfl⟩
  · unfold varM at q1
    cases hd : slotAt env i with
    | none => rw [hd] at q1; cases q1
    | some d0 =>
      rw [hd] at q1
      obtain ⟨ha, rfl⟩ := Prod.mk.inj (Option.some.inj q1)
      have ha := Out.ok.inj ha
      obtain ⟨v, hv, ho⟩ := R.slot hd
      refine ⟨v, hv, ?_⟩
      rcases of_cases ea1 with ⟨yr, e2, q2, ea2⟩ | ⟨c, ns, xs, q2, rfl⟩
      · refine h2 F H σ [] env [] fp _ _ hs rfl (by simpa using R) q2 _ (fun a ea F1 H1 fp1 vy pv pd j p => ?_) (fun c ns xs eo => by cases eo)
        cases ea
        obtain ⟨rfl, rfl, j1, j2⟩ := j
        rcases of_cases ea2 with ⟨dy, e3, q3, ea3⟩ | ⟨c, ns, xs, q3, rfl⟩
        · obtain ⟨dy', q3, h3, rfl⟩ := pkM_some q3
          cases h3
          unfold augM at ea3
          cases hx2 : asTI xr with
          | none => rw [hx2] at ea3; cases ea3
          | some pI =>
            cases hy2 : asInt dy with
            | none => rw [hx2, hy2] at ea3; cases ea3
            | some qI =>
              rw [hx2, hy2] at ea3
              have hdx : d0 = .int pI := by
                subst ha
                cases hz : d0.own with
                | true => rw [hz] at hx2; cases hx2
                | false =>
                  rw [hz] at hx2
                  cases d0 with
                  | int k => exact congrArg RL.D.int (Option.some.inj (show some k = some pI from hx2))
                  | _ => cases hx2
              have hdy : dy = .int qI := by
                cases dy with
                | int k => exact congrArg RL.D.int (Option.some.inj (show some k = some qI from hy2))
                | _ => cases hy2
              subst hdx hdy
              obtain ⟨g, hg⟩ := rf_own p hs rfl j1 q3
              obtain ⟨rfl, _⟩ : v = .int pI ∧ fp i = [] := ho
              obtain ⟨rfl, _⟩ : vy = .int qI ∧ g = [] := hg
              have ea3 : (match augD o pI qI with
                | some z => some (Fl.nx, e3.set i (some z))
                | none => none) = some (o', env2) := ea3
              have hlt : i < env.length := slotAt_lt hd
              have fin : ∀ z : Int, augD o pI qI = some (.int z) → D.nx (σ.set i (some (.int z))) H1 := fun z hz => by
                rw [hz] at ea3
                obtain ⟨rfl, rfl⟩ := Prod.mk.inj (Option.some.inj ea3)
                have p2 := (p.toS.drop hs).put0 hs (d := .int z) (v := .int z) ⟨rfl, rfl⟩ (i := i) hlt
                exact kn rfl F1 H1 _ _ (p2.weak (fun j z => by simp [touchS, touch] at z ⊢; grind) (fun j z => by simpa [asgS] using z))
              cases o with
              | Add => exact ⟨pI, qI, rfl, rfl, fin _ rfl⟩
              | Sub => exact ⟨pI, qI, rfl, rfl, fin _ rfl⟩
              | _ => cases ea3
        · obtain ⟨_, _, z, _⟩ := pkM_some q3; cases z
      · exact h2 F H σ [] env [] fp _ _ hs rfl (by simpa using R) q2 _ (fun a ea => by cases ea) (fun c' ns' xs' eo F1 H1 fp1 d ws p x1 x2 => by
          cases eo
          exact kx _ _ _ rfl F1 H1 σ fp1 d ws (p.toS.weak w (by simp)) x1 x2)
  · unfold varM at q1
    cases hd : slotAt env i with
    | none => rw [hd] at q1; cases q1
    | some d0 => rw [hd] at q1; cases q1
end
end RL
set_option Elab.async false
set_option linter.all false
set_option maxRecDepth 100000
set_option maxHeartbeats 1000000
/-! RL, list methods; stores to places. -/
namespace RL
open PySem PySem.Spec PyProof.Rows L2
/-- a list method by values: what it turns the list into, and its result -/
def BmOk (T : Tb) (m : Bm) (r : V → List V → Hp → VK → Prop) : Prop :=
  ∀ (F H : Hp) (a : Addr) (xs : List D) (ds : List D) (ws : List V) (res d' : D) (Q : VK) (b g : List Addr), Ex F H → Own T F H (.olst xs) (.ref a) (a :: b) → OwnL T F H ds ws g → bmD m (.olst xs) ds = some (res, d') →
    (∀ v o', Own T F (upd H a o') res v [] → (∀ b g, Own T F H (.olst xs) (.ref a) (a :: b) → OwnL T F H ds ws g → (a :: b ++ g).Nodup → ∃ b', Own T F (upd H a o') d' (.ref a) (a :: b') ∧ (a :: b').Nodup ∧ ∀ z ∈ b', z ∈ b ∨ z ∈ g) → Q v (upd H a o')) → r (.ref a) ws H Q
section
variable {T : Tb} {X : Cx} {W : WX} {P : Pr} {Φ : Hd'} {F H F1 H1 F2 H2 : Hp} {σ σ1 σ2 τ pv : List (Option V)} {env env1 env2 ts pd : Env'} {fp fp1 fp2 : Nat → List Addr} {t1 t2 a1 : List Nat}
theorem own_olst {xs : List D} {a : Addr} {b : List Addr} (h : Own T F H (.olst xs) (.ref a) (a :: b)) : ∃ vs, H a = some (.lst vs) ∧ OwnL T F H xs vs b := by
  unfold Own at h
  rcases h with ⟨z, _⟩ | ⟨_, a', vs, g, e1, e2, h3, h4⟩
  · cases z
  · cases e1; cases e2
    exact ⟨vs, h3, h4⟩
theorem olst_own {xs : List D} {vs : List V} {a : Addr} {b : List Addr} (h : H a = some (.lst vs)) (k : OwnL T F H xs vs b) : Own T F H (.olst xs) (.ref a) (a :: b) := by
  unfold Own
  exact .inr ⟨rfl, a, vs, b, rfl, rfl, h, k⟩
theorem bm_append : BmOk T .append rAppend := by
  intro F H a xs ds ws res d' Q b g s h hd e k
  obtain ⟨vs, h1, h2⟩ := own_olst h
  match ds, e with
  | [x], e =>
    have e : (match decide (xs.length < lim) with
      | true => some (D.non, D.olst (xs ++ [x]))
      | false => none) = some (res, d') := e
    split at e
    · rename_i hl
      obtain ⟨rfl, rfl⟩ := Prod.mk.inj (Option.some.inj e)
      unfold OwnL at hd
      obtain ⟨v, ws', p, q, rfl, rfl, h3, h4⟩ := hd
      obtain ⟨rfl, rfl⟩ := h4
      refine ⟨a, vs, v, rfl, rfl, h1, ?_, k .non (.lst (vs ++ [v])) ⟨rfl, rfl⟩ fun b2 g2 o2 d2 nd => ?_⟩
      · have : xs.length < lim := by simpa using hl
        have h5 : lim < sizeLine := by decide
        have := h2.len
        omega
      · obtain ⟨vs2, k1, k2⟩ := own_olst o2
        rw [h1] at k1
        cases k1
        unfold OwnL at d2
        obtain ⟨v2, ws2, p2, q2, e1, rfl, k3, k4⟩ := d2
        obtain ⟨rfl, rfl⟩ := k4
        cases e1
        simp only [List.append_nil] at nd ⊢
        refine ⟨b2 ++ p2, olst_own upd_same ?_, nd, fun z m => by simpa using m⟩
        have n1 : ∀ z ∈ b2 ++ p2, z ≠ a := fun z m e => by subst e; exact (List.nodup_cons.mp nd).1 m
        have := OwnL.append (OwnL.mono (H' := upd H a (.lst (vs ++ [v]))) (Ex.refl F) xs vs b2 (fun z m => upd_ne (n1 z (by simp [m]))) k2) (OwnL.cons_ (Own.mono (H' := upd H a (.lst (vs ++ [v]))) (Ex.refl F) x v p2 (fun z m => upd_ne (n1 z (by simp [m]))) k3) OwnL.nil_)
        simpa using this
    · cases e
theorem OwnL.erase : ∀ {xs : List D} {vs : List V} {f : List Addr} {k : Nat}, OwnL T F H xs vs f → ∃ g, OwnL T F H (xs.eraseIdx k) (vs.eraseIdx k) g ∧ List.Sublist g f
  | [], vs, f, k, h => by
    obtain ⟨rfl, rfl⟩ := h
    exact ⟨[], OwnL.nil_, List.Sublist.refl _⟩
  | d :: ds, vs, f, 0, h => by
    unfold OwnL at h
    obtain ⟨v, ws, p, q, rfl, rfl, h3, h4⟩ := h
    exact ⟨q, h4, List.sublist_append_right _ _⟩
  | d :: ds, vs, f, k + 1, h => by
    unfold OwnL at h
    obtain ⟨v, ws, p, q, rfl, rfl, h3, h4⟩ := h
    obtain ⟨g, h5, h6⟩ := OwnL.erase (k := k) h4
    exact ⟨p ++ g, OwnL.cons_ h3 h5, List.Sublist.append_left h6 _⟩
theorem OwnL.at_ {xs : List D} {vs : List V} {f : List Addr} {k : Nat} {d : D} (h : OwnL T F H xs vs f) (e : xs[k]? = some d) (ho : d.own = false) : ∃ v, vs[k]? = some v ∧ Own T F H d v [] := by
  obtain ⟨v, p, q, r, h1, h2, h3, _⟩ := OwnL.focus h e
  have := h3.top ho
  subst this
  exact ⟨v, h1, h3⟩
theorem dropLast_erase {α : Type} (xs : List α) : xs.dropLast = xs.eraseIdx (xs.length - 1) := by
  induction xs with
  | nil => rfl
  | cons x xs ih =>
    cases xs with
    | nil => rfl
    | cons y ys =>
      show x :: (y :: ys).dropLast = _
      rw [ih]
      rfl
theorem erase_new {a : Addr} {xs : List D} {vs : List V} {k : Nat} {b2 : List Addr} (k1 : H a = some (.lst vs)) (o2 : Own T F H (.olst xs) (.ref a) (a :: b2)) (nd : (a :: b2).Nodup) : ∃ b', Own T F (upd H a (.lst (vs.eraseIdx k))) (.olst (xs.eraseIdx k)) (.ref a) (a :: b') ∧ (a :: b').Nodup ∧ ∀ z ∈ b', z ∈ b2 := by
  obtain ⟨vs2, h1, h2⟩ := own_olst o2
  rw [k1] at h1
  cases h1
  obtain ⟨g, h3, h4⟩ := OwnL.erase (k := k) h2
  have n2 := List.nodup_cons.mp nd
  refine ⟨g, olst_own upd_same (OwnL.mono (Ex.refl F) _ _ g (fun z m => upd_ne fun e => ?_) h3), List.nodup_cons.mpr ⟨fun m => n2.1 (h4.subset m), n2.2.sublist h4⟩, fun z m => h4.subset m⟩
  subst e
  exact n2.1 (h4.subset m)
theorem bm_pop : BmOk T .pop rPop := by
  intro F H a xs ds ws res d' Q b g s h hd e k
  obtain ⟨vs, h1, h2⟩ := own_olst h
  match ds, e with
  | [], e =>
    have e : ((xs[xs.length - 1]?).bind fun x => (match x.own with
      | false => some (x, D.olst xs.dropLast)
      | true => none)) = some (res, d') := e
    cases hx : xs[xs.length - 1]? with
    | none => rw [hx] at e; cases e
    | some x =>
      rw [hx] at e
      have e : (match x.own with
        | false => some (x, D.olst xs.dropLast)
        | true => none) = some (res, d') := e
      split at e
      · rename_i ho
        obtain ⟨rfl, rfl⟩ := Prod.mk.inj (Option.some.inj e)
        obtain ⟨rfl, rfl⟩ := hd
        obtain ⟨v, h3, h4⟩ := OwnL.at_ h2 hx ho
        refine ⟨a, vs, v, rfl, rfl, h1, by rw [h2.len]; exact h3, k v _ (Own.mono (Ex.refl F) x v [] (by simp) h4) fun b2 g2 o2 d2 nd => ?_⟩
        obtain ⟨_, rfl⟩ := d2
        rw [dropLast_erase, dropLast_erase, h2.len]
        obtain ⟨b', q1, q2, q3⟩ := erase_new (k := xs.length - 1) h1 o2 (by simpa using nd)
        exact ⟨b', q1, q2, fun z m => .inl (q3 z m)⟩
      · cases e
theorem bm_popAt : BmOk T .popAt rPopAt := by
  intro F H a xs ds ws res d' Q b g s h hd e k
  obtain ⟨vs, h1, h2⟩ := own_olst h
  match ds, e with
  | [.int i], e =>
    have e : (match smallI i with
      | true => (L2.ixN xs.length i).bind fun k => (xs[k]?).bind fun x => (match x.own with
        | false => some (x, D.olst (xs.eraseIdx k))
        | true => none)
      | false => none) = some (res, d') := e
    split at e
    · rename_i hsm
      obtain ⟨s1, s2⟩ := small_iff hsm
      cases hk : L2.ixN xs.length i with
      | none => rw [hk] at e; cases e
      | some kk =>
        rw [hk] at e
        have e : ((xs[kk]?).bind fun x => (match x.own with
          | false => some (x, D.olst (xs.eraseIdx kk))
          | true => none)) = some (res, d') := e
        cases hx : xs[kk]? with
        | none => rw [hx] at e; cases e
        | some x =>
          rw [hx] at e
          have e : (match x.own with
            | false => some (x, D.olst (xs.eraseIdx kk))
            | true => none) = some (res, d') := e
          split at e
          · rename_i ho
            obtain ⟨rfl, rfl⟩ := Prod.mk.inj (Option.some.inj e)
            unfold OwnL at hd
            obtain ⟨v0, ws', p, q, rfl, rfl, ⟨rfl, rfl⟩, h4⟩ := hd
            obtain ⟨rfl, rfl⟩ := h4
            obtain ⟨v, h3, h4⟩ := OwnL.at_ h2 hx ho
            obtain ⟨q1, q2⟩ := ixN_seq hk
            refine ⟨a, vs, i, kk, v, rfl, rfl, h1, by omega, by omega, by rw [h2.len]; exact q1, h3, k v _ (Own.mono (Ex.refl F) x v [] (by simp) h4) fun b2 g2 o2 d2 nd => ?_⟩
            unfold OwnL at d2
            obtain ⟨v2, ws2, p2, q2, e1, rfl, ⟨_, rfl⟩, k4⟩ := d2
            obtain ⟨_, rfl⟩ := k4
            obtain ⟨b', q1, q2, q3⟩ := erase_new (k := kk) h1 o2 (by simpa using nd)
            exact ⟨b', q1, q2, fun z m => .inl (q3 z m)⟩
          · cases e
    · cases e
theorem isLst_of {d : D} (h : isLst d = true) : ∃ xs, d = .olst xs := by
  cases d with
  | nd o k xs =>
    cases o with
    | true =>
      cases k with
      | lst => exact ⟨xs, rfl⟩
      | _ => cases h
    | false => cases h
  | _ => cases h
theorem bmM_cases {m : Bm} {ro : Rf} {rs : List Rf} {e e2 : Env'} {o : Out D} (h : bmM m ro rs e = some (o, e2)) : ∃ r p ds e1 d res d', ro = .at_ r p ∧ takeL rs e = some (.ok ds, e1) ∧ pk ro e1 = some d ∧ bmD m d ds = some (res, d') ∧ o = .ok res ∧ putAt r p d' e1 = some e2 := by
  cases ro with
  | tmp d => cases h
  | at_ r p =>
    rcases bind_cases (show M.bind (takeL rs) _ e = _ from h) with ⟨ds, e1, q1, ea1⟩ | ⟨c, ns, xs, q1, rfl⟩
    · rcases bind_cases ea1 with ⟨d, e3, q2, ea2⟩ | ⟨c, ns, xs, q2, rfl⟩
      · obtain ⟨d', q2, h3, rfl⟩ := pkM_some q2
        cases h3
        rcases bind_cases ea2 with ⟨q, e4, q3, ea3⟩ | ⟨c, ns, xs, q3, rfl⟩
        · obtain ⟨q', q3, h3, rfl⟩ := lift_some q3
          cases h3
          cases hp : putAt r p q.2 e4 with
          | none => rw [hp] at ea3; cases ea3
          | some e5 =>
            rw [hp] at ea3
            obtain ⟨rfl, rfl⟩ := Prod.mk.inj (Option.some.inj ea3)
            exact ⟨r, p, ds, e4, d, q.1, q.2, rfl, q1, q2, q3, rfl, hp⟩
        · obtain ⟨_, _, z, _⟩ := lift_some q3; cases z
      · obtain ⟨_, _, z, _⟩ := pkM_some q2; cases z
    · obtain ⟨ds, z⟩ := takeL_err q1; cases z
theorem putAt_some {r : Nat} {p : List Nat} {d : D} {e e2 : Env'} (h : putAt r p d e = some e2) : ∃ dr, slotAt e r = some dr ∧ e2 = e.set r (some (setP d p dr)) := by
  unfold putAt at h
  cases h1 : slotAt e r with
  | none => rw [h1] at h; cases h
  | some dr => rw [h1] at h; exact ⟨dr, rfl, (Option.some.inj h).symm⟩
/-- a place's list changed by temporaries that are used up -/
theorem Post.place {r : Nat} {p : List Nat} {v : V} {d d' : D} {ds : List D} {ws : List V} {pv0 pv1 : List (Option V)} {pd0 pd1 : Env'} {o' : HO} (q : Post T F H σ τ env ts fp t1 F1 H1 env1 fp1 (pv0 ++ ws.map some ++ pv1) (pd0 ++ ds.map some ++ pd1)) (hl0 : pv0.length = pd0.length) (hs : σ.length = env.length) (ht : τ.length = ts.length) (hdl : ds.length = ws.length) (j : RfOk H1 σ env1 (.at_ r p) v) (hd : pk (.at_ r p) env1 = some d) (ho : d.own = true)
    {a : Addr} (hv : v = .ref a)
    (new : ∀ b g, Own T F1 H1 d (.ref a) (a :: b) → OwnL T F1 H1 ds ws g → (a :: b ++ g).Nodup → ∃ b', Own T F1 (upd H1 a o') d' (.ref a) (a :: b') ∧ (a :: b').Nodup ∧ ∀ z ∈ b', z ∈ b ∨ z ∈ g)
    {e2 : Env'} (hp : putAt r p d' env1 = some e2) : ∃ fp2, Post T F H σ τ env ts fp (t1 ++ [r]) F1 (upd H1 a o') e2 fp2 [] [] := by
  subst hv
  obtain ⟨dr, h1, rfl⟩ := putAt_some hp
  obtain ⟨vr, h2, _, h3⟩ := j
  have h4 : (slotAt env1 r).bind (getP p) = some d := hd
  rw [h1] at h4
  have e0 : (env1 ++ ts).length = env.length + ts.length := by simp [q.len]
  obtain ⟨g, g1, g2, g3⟩ := ownL_temps (S := σ ++ τ ++ pv0) (S' := pv1) (E := env1 ++ ts ++ pd0) (E' := pd1) (by simpa [List.append_assoc] using q.rel) (by simp [hs, ht, q.len, hl0]) hdl
  refine Post.mut q hs ht h1 h2 h4 h3 ho fun b k1 k2 k3 k4 => ?_
  have gt : ∀ z ∈ g, ∃ i, env.length + ts.length ≤ i ∧ z ∈ fp1 i := fun z m => by
    obtain ⟨i, i1, _, i3⟩ := g3 z m
    exact ⟨i, by simp [q.len] at i1; omega, i3⟩
  have hlt : r < env.length + ts.length := by have := slotAt_lt h1; rw [q.len] at this; omega
  obtain ⟨b', m1, m2, m3⟩ := new b g k1 g1 (by
    refine List.nodup_append.mpr ⟨k2, g2, fun x hx y hy e => ?_⟩
    subst e
    obtain ⟨i, i1, i2⟩ := gt x hy
    have := q.rel.dj _ _ x (k4 x hx) i2
    omega)
  exact ⟨b', m1, m2, fun z m => (m3 z m).imp id fun m => gt z m⟩
theorem own_ref {xs : List D} {v : V} {g : List Addr} (h : Own T F H (.olst xs) v g) : ∃ a b, v = .ref a ∧ g = a :: b := by
  unfold Own at h
  rcases h with ⟨z, _⟩ | ⟨_, a, vs, g', e1, e2, _⟩
  · cases z
  · exact ⟨a, g', e1, e2⟩
theorem bmD_lst {m : Bm} {d : D} {ds : List D} {q : D × D} (h : bmD m d ds = some q) : ∃ xs, d = .olst xs := by
  unfold bmD at h
  split at h
  · exact ⟨_, rfl⟩
  · exact ⟨_, rfl⟩
  · exact ⟨_, rfl⟩
  · cases h
theorem good_bm {A : M Rf} {B : M (List Rf)} {ta tva tra tb tvb trb : List Nat} {t : TE} {u : TA} {m : Bm} {r : V → List V → Hp → VK → Prop} (sp : BmOk T m r) (ga : GoodR T W A ta tva tra t) (gb : GoodA T W B tb tvb trb u) :
    GoodD T W (M.bind A fun x => M.bind (pkM x) fun d0 => M.bind (M.guard (isLst d0 && okPend x (tb ++ tvb))) fun _ => M.bind B fun rs => bmM m x rs) (ta ++ (tra ++ (tb ++ tvb))) (tBM T.K "list" r t u) := fun F H σ τ env ts fp o env2 hs ht R e Q k1 k2 => by
  rcases bind_cases e with ⟨x, e1, q1, ea1⟩ | ⟨c, ns, xs, q1, rfl⟩
  · refine ga F H σ τ env ts fp _ _ hs ht R q1 _ (fun a ea F1 H1 fp1 v pv pd j p => ?_) (fun c ns xs eo => by cases eo)
    cases ea
    obtain ⟨rfl, rfl, j1, j2⟩ := j
    rcases bind_cases ea1 with ⟨d0, e1', q2, ea2⟩ | ⟨c, ns, xs, q2, rfl⟩
    · obtain ⟨d', q2', h2, rfl⟩ := pkM_some q2
      cases h2
      rcases bind_cases ea2 with ⟨_, e1'', q3, ea3⟩ | ⟨c, ns, xs, q3, rfl⟩
      · obtain ⟨hg, _, rfl⟩ := guard_some q3
        obtain ⟨hg1, hg2⟩ := Bool.and_eq_true_iff.mp hg
        obtain ⟨xs0, rfl⟩ := isLst_of hg1
        obtain ⟨g0, hg0⟩ := rf_own p hs ht j1 q2'
        obtain ⟨a0, vs0, rfl, h3, _⟩ := own_lst hg0 p.rel.sub
        refine ⟨.inl ⟨rfl, vs0, .inl (.inl h3)⟩, ?_⟩
        have R1 : Rel T F1 H1 (σ ++ (τ ++ [some (.ref a0)])) (e1'' ++ (ts ++ [slotD x])) fp1 := by simpa [List.append_assoc] using p.rel
        have hs1 : σ.length = e1''.length := by rw [p.len]; exact hs
        have hτ1 : (τ ++ [some (V.ref a0)]).length = (ts ++ [slotD x]).length := by simp [ht]
        rcases bind_cases ea3 with ⟨rs, e3, q4, ea4⟩ | ⟨c, ns, xs, q4, rfl⟩
        · refine gb F1 H1 σ _ e1'' _ fp1 _ _ hs1 hτ1 R1 q4 _ (fun a ea F2 H2 fp2 ws pv pd j p2 => ?_) (fun c ns xs eo => by cases eo)
          cases ea
          obtain ⟨rfl, rfl, j3⟩ := j
          obtain ⟨r0, pth, ds, e4, d, res, d', rfl, k3, k4, k5, rfl, k6⟩ := bmM_cases ea4
          obtain ⟨ds', fp3, z3, hlen, p3⟩ := take_list (pv := []) (pd := []) hs1 hτ1 rfl (by simpa using p2) j3.t k3
          cases z3
          have p3' : Post T F1 H1 σ (τ ++ [some (.ref a0)]) e1'' (ts ++ [slotD (.at_ r0 pth)]) fp1 (tb ++ tvb) F2 H2 e4 fp3 (ws.map some) (ds.map some) := by simpa using p3
          have jk := j1.keep R1 hs1 p3' hg2
          have pT : Post T F H σ τ env ts fp (ta ++ (tb ++ tvb)) F2 H2 e4 fp3 ([some (.ref a0)] ++ ws.map some) ([slotD (.at_ r0 pth)] ++ ds.map some) := p.trans p3'
          have R0 := (pT.drop hs ht).rel
          simp only [List.append_nil] at R0
          obtain ⟨g, hgo, _⟩ := at_own jk R0 (by rw [pT.len]; exact hs) k4
          obtain ⟨xs, rfl⟩ := bmD_lst k5
          obtain ⟨a1, b1, ea, rfl⟩ := own_ref hgo
          cases ea
          obtain ⟨gd, gd1, _, _⟩ := ownL_temps (S := σ ++ τ ++ [some (.ref a0)]) (S' := []) (E := e4 ++ ts ++ [slotD (.at_ r0 pth)]) (E' := []) (by simpa [List.append_assoc] using pT.rel) (by simp [hs, ht, pT.len]) hlen
          refine sp F2 H2 a0 xs ds ws res d' Q b1 gd pT.rel.sub hgo gd1 k5 fun v o' hres new => ?_
          obtain ⟨fp4, p4⟩ := Post.place (pv0 := [some (.ref a0)]) (pd0 := [slotD (.at_ r0 pth)]) (pv1 := []) (pd1 := []) (by simpa using pT) rfl hs ht hlen jk k4 rfl rfl new k6
          exact k1 _ rfl F2 _ _ v _ _ ⟨rfl, rfl⟩ ((p4.weak fun i z => by
            have hr0 : r0 ∈ tra := j2.2
            simp only [List.mem_append, List.mem_singleton] at z ⊢
            rcases z with (z | z | z) | z
            · exact .inl z
            · exact .inr (.inr (.inl z))
            · exact .inr (.inr (.inr z))
            · exact .inr (.inl (z ▸ hr0))).push0 hres)
        · refine gb F1 H1 σ _ e1'' _ fp1 _ _ hs1 hτ1 R1 q4 _ (fun a ea => by cases ea) (fun c' ns' xs' eo F2 H2 fp2 d ws p2 x1 x2 => ?_)
          cases eo
          exact k2 _ _ _ rfl F2 H2 _ d ws (((p.trans p2).drop hs ht).weak fun i z => by simp only [List.mem_append] at z ⊢; grind) x1 x2
      · obtain ⟨_, z, _⟩ := guard_some q3; cases z
    · obtain ⟨_, _, z, _⟩ := pkM_some q2; cases z
  · exact ga F H σ τ env ts fp _ _ hs ht R q1 _ (fun a ea => by cases ea) (fun c' ns' xs' eo F1 H1 fp1 d ws p x1 x2 => by cases eo; exact k2 _ _ _ rfl F1 H1 fp1 d ws (p.weak fun i z => List.mem_append_left _ z) x1 x2)
/-- a base that is not super() -/
def plainBase : Expr → Bool
  | .Call (.Name id _) [] [] _ => id != "super"
  | _ => true
theorem base_ok {o : Expr} {attr : Str} {ev : Env} {whole : Sem Value} (h : plainBase o = true) : attributeBase o attr ev whole = whole := by
  unfold attributeBase
  split
  · rename_i id p pos
    have h : (id != "super") = true := h
    rw [h]
    simp
  · rfl
theorem few1 {e : Expr} {ev : Env} {cpos : Pos} (h : noStar e = true) : ((backTo cpos (starEach [e] ev)).all (fun x => !x.1) && (backToKw cpos (keywordEach [] ev)).all (fun x => x.1.isSome) && decide ([e].length + ([] : List Keyword).length + (if ([] : List Keyword).isEmpty then 0 else 1) < 30)) = true := by
  rw [star_cons h]
  rfl
theorem gx_bm1 (O : XOk T X W P) {m : Bm} {name : Str} {id : String} {r : V → List V → Hp → VK → Prop} {o : Ex'} {ils : List Ex'} {oe e : Expr} {apos cpos : Pos} (slot : Slot "list" name id) (hty : typeOf (.builtin id) = pure (.type "method_descriptor")) (hm : MtR X id r) (sp : BmOk T m r) (ho : GX T X W P Φ o oe) (h : GA T X W P Φ ils [e])
    (hb : plainBase oe = true) (hl : (apos.endLine == cpos.line) = true) (hs : noStar e = true) : GX T X W P Φ (.bm m o ils) (.Call (.Attribute oe name apos) [e] [] cpos) := by
  obtain ⟨t, h1, h2⟩ := ho.val
  obtain ⟨u, k1, k2⟩ := h.val
  have g := good_tmp (W := W) [] [] (good_bm sp h2 k2)
  rw [← O.hK] at g
  exact gx_of O (pe_bm PySem.F.plainAttrs_list slot hty hm h1 k1 (base_ok hb) (few1 hs) hl (star_cons hs) rfl) g (fun _ => rfl) rfl
theorem gx_append (O : XOk T X W P) {o : Ex'} {ils : List Ex'} {oe e : Expr} {apos cpos : Pos} (ho : GX T X W P Φ o oe) (h : GA T X W P Φ ils [e]) (hb : plainBase oe = true) (hl : (apos.endLine == cpos.line) = true) (hs : noStar e = true) : GX T X W P Φ (.bm .append o ils) (.Call (.Attribute oe "append" apos) [e] [] cpos) :=
  gx_bm1 O PySem.F.slot_list_append PySem.F.type_list_append mt_append bm_append ho h hb hl hs
theorem gx_popAt (O : XOk T X W P) {o : Ex'} {ils : List Ex'} {oe e : Expr} {apos cpos : Pos} (ho : GX T X W P Φ o oe) (h : GA T X W P Φ ils [e]) (hb : plainBase oe = true) (hl : (apos.endLine == cpos.line) = true) (hs : noStar e = true) : GX T X W P Φ (.bm .popAt o ils) (.Call (.Attribute oe "pop" apos) [e] [] cpos) :=
  gx_bm1 O PySem.F.slot_list_pop PySem.F.type_list_pop mt_popAt bm_popAt ho h hb hl hs
theorem gx_pop (O : XOk T X W P) {o : Ex'} {oe : Expr} {apos cpos : Pos} (ho : GX T X W P Φ o oe) (hb : plainBase oe = true) (hl : (apos.endLine == cpos.line) = true) : GX T X W P Φ (.bm .pop o []) (.Call (.Attribute oe "pop" apos) [] [] cpos) := by
  obtain ⟨t, h1, h2⟩ := ho.val
  have g := good_tmp (W := W) [] [] (good_bm bm_pop h2 good_nil)
  rw [← O.hK] at g
  exact gx_of O (pe_bm0 PySem.F.plainAttrs_list PySem.F.slot_list_pop PySem.F.type_list_pop mt_pop h1 (base_ok hb) hl) g (fun _ => rfl) rfl

/-! o[k] = e -/
/-- a store by values -/
def PutOk (T : Tb) (f : D → D → D → Option D) (r : V → V → V → Hp → (Hp → Prop) → Prop) : Prop :=
  ∀ (F H : Hp) (a : Addr) (d kd x d' : D) (vk vx : V) (b gk : List Addr) (Q : Hp → Prop), Ex F H → Own T F H d (.ref a) (a :: b) → Own T F H kd vk gk → f d kd x = some d' →
    (∀ o', (∀ b g, Own T F H d (.ref a) (a :: b) → OwnL T F H [x] [vx] g → (a :: b ++ g).Nodup → ∃ b', Own T F (upd H a o') d' (.ref a) (a :: b') ∧ (a :: b').Nodup ∧ ∀ z ∈ b', z ∈ b ∨ z ∈ g) → Q (upd H a o')) → r (.ref a) vk vx H Q
theorem OwnL.set {xs : List D} {vs : List V} {f g : List Addr} {j : Nat} {x : D} {w : V} (h : OwnL T F H xs vs f) (hj : j < xs.length) (hx : Own T F H x w g) : ∃ p q r, f = p ++ q ++ r ∧ OwnL T F H (xs.set j x) (vs.set j w) (p ++ g ++ r) := by
  obtain ⟨v, p, q, r, h1, h2, h3, h4⟩ := OwnL.focus h (k := j) (d := xs[j]) (by simp [hj])
  exact ⟨p, q, r, h2, h4 F H x w g (Ex.refl F) (fun _ _ => rfl) hx⟩
theorem set_new {p q r b2 g : List Addr} {a : Addr} (h : b2 = p ++ q ++ r) (nd : (a :: b2 ++ g).Nodup) : (a :: (p ++ g ++ r)).Nodup ∧ (∀ z ∈ p ++ g ++ r, z ≠ a) ∧ ∀ z ∈ p ++ g ++ r, z ∈ b2 ∨ z ∈ g := by
  subst h
  have n1 : (a :: (p ++ g ++ r)).Nodup := by
    simp only [List.cons_append, List.nodup_cons, List.mem_append, List.nodup_append, not_or] at nd ⊢
    grind
  refine ⟨n1, fun z m e => by subst e; exact (List.nodup_cons.mp n1).1 m, fun z m => ?_⟩
  simp only [List.mem_append] at m ⊢
  grind
theorem put_list : PutOk T setL1 rSetL := by
  intro F H a d kd x d' vk vx b gk Q s hd hk e k
  unfold setL1 at e
  split at e
  · rename_i xs
    split at e
    · rename_i i
      obtain ⟨vs, h1, h2⟩ := own_olst hd
      obtain ⟨rfl, _⟩ : vk = .int i ∧ gk = [] := hk
      cases hj : L2.ixN xs.length i with
      | none => rw [hj] at e; cases e
      | some j =>
        rw [hj] at e
        obtain rfl := Option.some.inj e
        refine ⟨a, vs, i, j, rfl, rfl, h1, by rw [h2.len]; exact hj, k (.lst (vs.set j vx)) fun b2 g2 o2 d2 nd => ?_⟩
        obtain ⟨vs2, k1, k2⟩ := own_olst o2
        rw [h1] at k1
        cases k1
        unfold OwnL at d2
        obtain ⟨v2, ws2, p2, q2, e1, rfl, k3, k4⟩ := d2
        cases e1
        obtain ⟨_, rfl⟩ := k4
        obtain ⟨p, q, r, e2, e3⟩ := OwnL.set k2 (ixN_lt hj) k3
        simp only [List.append_nil] at nd
        obtain ⟨n1, n2, n3⟩ := set_new e2 nd
        exact ⟨p ++ p2 ++ r, olst_own upd_same (OwnL.mono (Ex.refl F) _ _ _ (fun z m => upd_ne (n2 z m)) e3), n1, fun z m => by simpa using n3 z m⟩
    · cases e
  · cases e
theorem RfOk.set_none {r r0 : Nat} {p : List Nat} {v : V} (h : RfOk H σ env (.at_ r p) v) (hr : p ≠ [] → r ≠ r0) : RfOk H σ (env.set r0 none) (.at_ r p) v := by
  obtain ⟨vr, h1, h2, h3⟩ := h
  refine ⟨vr, h1, fun hp => ?_, h3⟩
  obtain ⟨dr, d, k1, k2, k3⟩ := h2 hp
  refine ⟨dr, d, ?_, k2, k3⟩
  have := slotAt_some k1
  exact slotAt_of (by rw [List.getElem?_set_ne (Ne.symm (hr hp))]; exact this)
theorem putM_some {ro : Rf} {f : D → Option D} {e e2 : Env'} {o : Fl} (h : putM ro f e = some (o, e2)) : ∃ r p d d', ro = .at_ r p ∧ pk ro e = some d ∧ f d = some d' ∧ o = .nx ∧ putAt r p d' e = some e2 := by
  cases ro with
  | tmp d => cases h
  | at_ r p =>
    have h : (match (pk (.at_ r p) e).bind f with
      | some d => (putAt r p d e).map fun e' => (Fl.nx, e')
      | none => none) = some (o, e2) := h
    cases hp : pk (.at_ r p) e with
    | none => rw [hp] at h; cases h
    | some d =>
      rw [hp] at h
      have h : (match f d with
        | some d => (putAt r p d e).map fun e' => (Fl.nx, e')
        | none => none) = some (o, e2) := h
      cases hf : f d with
      | none => rw [hf] at h; cases h
      | some d' =>
        rw [hf] at h
        have h : (putAt r p d' e).map (fun e' => (Fl.nx, e')) = some (o, e2) := h
        cases hq : putAt r p d' e with
        | none => rw [hq] at h; cases h
        | some e3 =>
          rw [hq] at h
          obtain ⟨rfl, rfl⟩ := Prod.mk.inj (Option.some.inj h)
          exact ⟨r, p, d, d', rfl, rfl, hf, rfl, hq⟩
theorem own_addr {d : D} {v : V} {g : List Addr} (h : Own T F H d v g) (ho : d.own = true) : ∃ a b, v = .ref a ∧ g = a :: b := by
  cases d with
  | nd o k xs =>
    unfold Own at h
    rcases h with ⟨z, _⟩ | ⟨_, a, vs, g', e1, e2, _⟩
    · subst z; cases ho
    · exact ⟨a, g', e1, e2⟩
  | _ => cases ho
def tPut (te to tk : TE) (r : V → V → V → Hp → (Hp → Prop) → Prop) : TS := fun D σ H => te σ H fun v H1 => to σ H1 fun o H2 => tk σ H2 fun i H3 => r o i v H3 fun H4 => D.nx σ H4
theorem good_put {A B C : M Rf} {ta va ra tb vb rb tc vc rc : List Nat} {te to tk : TE} {f : D → D → D → Option D} {r : V → V → V → Hp → (Hp → Prop) → Prop} (sp : PutOk T f r) (hf : ∀ d k x d', f d k x = some d' → d.own = true) (ga : GoodR T W A ta va ra te) (gb : GoodR T W B tb vb rb to) (gc : GoodR T W C tc vc rc tk) :
    GoodS T W (.of A fun rx => .of (M.guard (okPend rx (tb ++ tc))) fun _ => .of B fun ro => .of (M.guard (okPend ro (tc ++ va))) fun _ => .of C fun rk => .of (takeR rx) fun x => .of (tmpOf rk) fun kd => putM ro fun d => f d kd x) ((ta ++ va) ++ (tb ++ (tc ++ rb))) [] (tPut te to tk r) := fun F H σ env fp o env2 hs R e D kn kb kc kr kx => by
  have R0 : Rel T F H (σ ++ []) (env ++ []) fp := by simpa using R
  rcases of_cases e with ⟨rx, e1, q1, ea1⟩ | ⟨c, ns, xs, q1, rfl⟩
  · refine ga F H σ [] env [] fp _ _ hs rfl R0 q1 _ (fun a ea F1 H1 fp1 v pv pd j p => ?_) (fun c ns xs eo => by cases eo)
    cases ea
    obtain ⟨rfl, rfl, jx1, jx2⟩ := j
    rcases of_cases ea1 with ⟨_, e1', q2, ea2⟩ | ⟨c, ns, xs, q2, rfl⟩
    · obtain ⟨hg1, _, rfl⟩ := guard_some q2
      have R1 : Rel T F1 H1 (σ ++ ([] ++ [some v])) (e1' ++ ([] ++ [slotD rx])) fp1 := by simpa using p.rel
      have hs1 : σ.length = e1'.length := by rw [p.len]; exact hs
      rcases of_cases ea2 with ⟨ro, e2, q3, ea3⟩ | ⟨c, ns, xs, q3, rfl⟩
      · refine gb F1 H1 σ _ e1' _ fp1 _ _ hs1 rfl R1 q3 _ (fun a ea F2 H2 fp2 vo pv pd j p2 => ?_) (fun c ns xs eo => by cases eo)
        cases ea
        obtain ⟨rfl, rfl, jo1, jo2⟩ := j
        rcases of_cases ea3 with ⟨_, e2', q4, ea4⟩ | ⟨c, ns, xs, q4, rfl⟩
        · obtain ⟨hg2, _, rfl⟩ := guard_some q4
          have R2 : Rel T F2 H2 (σ ++ ([some v] ++ [some vo])) (e2' ++ ([slotD rx] ++ [slotD ro])) fp2 := by simpa using p2.rel
          have hs2 : σ.length = e2'.length := by rw [p2.len]; exact hs1
          rcases of_cases ea4 with ⟨rk, e3, q5, ea5⟩ | ⟨c, ns, xs, q5, rfl⟩
          · refine gc F2 H2 σ _ e2' _ fp2 _ _ hs2 rfl R2 q5 _ (fun a ea F3 H3 fp3 vk pv pd j p3 => ?_) (fun c ns xs eo => by cases eo)
            cases ea
            obtain ⟨rfl, rfl, jk1, jk2⟩ := j
            rcases of_cases ea5 with ⟨x, e4, q6, ea6⟩ | ⟨c, ns, xs, q6, rfl⟩
            · rcases of_cases ea6 with ⟨kd, e5, q7, ea7⟩ | ⟨c, ns, xs, q7, rfl⟩
              · obtain ⟨rr, pth, d, d', rfl, k4, k5, rfl, k6⟩ := putM_some ea7
                cases rk with
                | at_ r3 p3' => cases q7
                | tmp kd0 =>
                  obtain ⟨h7, rfl⟩ := ret_some (show M.ret kd0 e4 = _ from q7)
                  cases h7
                  have p23 := p2.trans (pv1 := [some vo]) (pd1 := [slotD (.at_ rr pth)]) (by simpa using p3)
                  have p123 := p.trans (pv1 := [some v]) (pd1 := [slotD rx]) (by simpa using p23)
                  have pT : Post T F H σ [] env [] fp (ta ++ (tb ++ tc)) F3 H3 e3 fp3 [some v, some vo, some vk] [slotD rx, none, some kd] := by simpa [slotD] using p123
                  have hgs := hg2
                  have jo : RfOk H3 σ e3 (.at_ rr pth) vo := jo1.keep R2 hs2 (by simpa using p3) (by
                    cases pth with
                    | nil => rfl
                    | cons n pth =>
                      have hgs : (!(tc ++ va).contains rr) = true := hgs
                      show (!tc.contains rr) = true
                      simp only [Bool.not_eq_true', List.contains_eq_mem, decide_eq_false_iff_not, List.mem_append, not_or] at hgs ⊢
                      exact hgs.1)
                  -- what is stored is taken
                  have mv : ∃ fp4, Post T F H σ [] env [] fp ((ta ++ va) ++ (tb ++ tc)) F3 H3 e5 fp4 [some v, some vo, some vk] [some x, none, some kd] ∧ RfOk H3 σ e5 (.at_ rr pth) vo := by
                    rcases takeR_some q6 with ⟨dd, rfl, ho, rfl⟩ | ⟨r0, dd, rfl, hsl, ho, rfl⟩
                    · cases ho
                      exact ⟨fp3, pT.weak fun i z => by simp only [List.mem_append] at z ⊢; grind, jo⟩
                    · cases ho
                      obtain ⟨vr, hv1, _, hv3⟩ := jx1
                      obtain rfl : vr = v := Option.some.inj hv3
                      obtain ⟨fp4, p4⟩ := Post.move (pv := []) (pd := []) (pv' := [some vo, some vk]) (pd' := [none, some kd]) (by simpa [slotD] using pT) hs rfl rfl hv1 hsl
                      have hr0 : r0 ∈ va := jx2.1 rfl
                      refine ⟨fp4, (by simpa using p4 : Post T F H σ [] env [] fp _ F3 H3 _ fp4 [some vr, some vo, some vk] [some x, none, some kd]).weak fun i z => by simp only [List.mem_append, List.mem_singleton] at z ⊢; grind, jo.set_none fun hp => ?_⟩
                      cases pth with
                      | nil => exact absurd rfl hp
                      | cons n pth =>
                        have hgs : (!(tc ++ va).contains rr) = true := hgs
                        simp only [Bool.not_eq_true', List.contains_eq_mem, decide_eq_false_iff_not, List.mem_append, not_or] at hgs
                        intro z; subst z; exact hgs.2 hr0
                  obtain ⟨fp4, p4, jo4⟩ := mv
                  have Rd := (p4.drop hs rfl).rel
                  simp only [List.append_nil] at Rd
                  obtain ⟨g, hgo, _⟩ := at_own (τ := []) (ts := []) jo4 (by simpa using Rd) (by rw [p4.len]; exact hs) k4
                  have hown := hf _ _ _ _ k5
                  obtain ⟨a1, b1, rfl, rfl⟩ := own_addr hgo hown
                  have hok := Post.last (pv := [some v, some (.ref a1)]) (pd := [some x, none]) (by simpa using p4) hs rfl rfl
                  refine sp F3 H3 a1 d kd x d' vk v b1 _ _ p4.rel.sub hgo hok k5 fun o' new => ?_
                  obtain ⟨fp5, p5⟩ := Post.place (pv0 := []) (pd0 := []) (ws := [v]) (ds := [x]) (pv1 := [some (.ref a1), some vk]) (pd1 := [none, some kd]) (by simpa using p4) rfl hs rfl rfl jo4 k4 hown rfl new k6
                  exact kn rfl F3 _ σ fp5 (p5.toS.weak (fun i z => by
                    have h0 : rr ∈ rb := jo2.2
                    simp only [List.mem_append, List.mem_singleton] at z ⊢
                    grind) (by simp))
              · cases rk with
                | tmp dd => obtain ⟨z, _⟩ := ret_some (show M.ret dd e4 = _ from q7); cases z
                | at_ r3 p3' => cases q7
            · rcases takeR_some q6 with ⟨_, _, ho, _⟩ | ⟨_, _, _, _, ho, _⟩ <;> cases ho
          · refine gc F2 H2 σ _ e2' _ fp2 _ _ hs2 rfl R2 q5 _ (fun a ea => by cases ea) (fun c' ns' xs' eo F3 H3 fp3 d ws p3 x1 x2 => ?_)
            cases eo
            have p23 := p2.trans (pv1 := [some vo]) (pd1 := [slotD ro]) (by simpa using p3)
            have p123 := p.trans (pv1 := [some v]) (pd1 := [slotD rx]) (by simpa using p23)
            exact kx _ _ _ rfl F3 H3 σ _ d ws (((p123.drop hs rfl).toS).weak (fun i z => by simp only [List.mem_append] at z ⊢; grind) (by simp)) x1 x2
        · obtain ⟨_, z, _⟩ := guard_some q4; cases z
      · refine gb F1 H1 σ _ e1' _ fp1 _ _ hs1 rfl R1 q3 _ (fun a ea => by cases ea) (fun c' ns' xs' eo F2 H2 fp2 d ws p2 x1 x2 => ?_)
        cases eo
        have p12 := p.trans (pv1 := [some v]) (pd1 := [slotD rx]) (by simpa using p2)
        exact kx _ _ _ rfl F2 H2 σ _ d ws (((p12.drop hs rfl).toS).weak (fun i z => by simp only [List.mem_append] at z ⊢; grind) (by simp)) x1 x2
    · obtain ⟨_, z, _⟩ := guard_some q2; cases z
  · exact ga F H σ [] env [] fp _ _ hs rfl R0 q1 _ (fun a ea => by cases ea) (fun c' ns' xs' eo F1 H1 fp1 d ws p x1 x2 => by
      cases eo
      exact kx _ _ _ rfl F1 H1 σ fp1 d ws (p.toS.weak (fun i z => by simp only [List.mem_append] at z ⊢; grind) (by simp)) x1 x2)
theorem setL1_own {d k x d' : D} (h : setL1 d k x = some d') : d.own = true := by
  unfold setL1 at h
  split at h
  · rfl
  · cases h
theorem swaps_sub {e o k : Expr} {p : Pos} {l : Nat} {ev : Env} : swapsWith e (some (.Subscript o k p)) l ev = pure false := by
  unfold swapsWith
  split <;> rfl
def noSlice : Expr → Bool
  | .Slice .. => false
  | _ => true
theorem asg_sub {oe ke : Expr} {p : Pos} {ev : Env} (h : noSlice ke = true) (v : Value) : assign (.Subscript oe ke p) ev v = (do
      let ov ← holding [v] (eval oe ev)
      let iv ← holding [v, ov] (eval ke ev)
      standAt p
      holding [v, ov, iv] (setItem ov iv v)
      release [v, ov, iv] []) := by
  cases ke <;> first | rfl | cases h
theorem plainIx_of {b : Expr} (h : noSlice b = true) : PlainIx b := by
  intro o i
  cases b <;> first | rfl | cases h
theorem sx_subL (O : XOk T X W P) {o k e : Ex'} {oe ke ee : Expr} {p pos : Pos} (hn : noSlice ke = true) (he : GX T X W P Φ e ee) (ho : GX T X W P Φ o oe) (hk : GX T X W P Φ k ke) : SX T X W P Φ (.sub false o k e) (.Assign [.Subscript oe ke p] ee pos) := by
  obtain ⟨te, a1, a2⟩ := he.val
  obtain ⟨to, b1, b2⟩ := ho.val
  obtain ⟨tk, c1, c2⟩ := hk.val
  exact ⟨⟨_, ps_asg a1 (pg_sub b1 c1 set_list (asg_sub hn)) (swaps_sub (e := ee) (o := oe) (k := ke) (p := p) (l := pos.line) (ev := X.env)) rfl, good_put put_list (fun _ _ _ _ h => setL1_own h) a2 b2 c2⟩⟩

/-! a, b = x, y -/
theorem par_swaps {ev : Env} {x y : Str} {a b : Expr} {px py pt pt2 : Pos} {kt k2 : Nat} (hk : ev.blockKind = .function) (hx : ev.kindOf x = some .local) (hy : ev.kindOf y = some .local) (hl : px.line = py.line) (hxy : x ≠ y) (ha : noStar a = true) (hb : noStar b = true)
    (hf : [a, b].all (foldedForSure 8) = false) (hc : [a, b].all (constantsAlone 8) = false) : swappedStores [.Tuple [.Name x px, .Name y py] kt pt] (.Tuple [a, b] k2 pt2) ev = pure (some [x, y]) := by
  have h1 : ([a, b].any fun | .Starred .. => true | _ => false) = false := by
    cases a <;> first | (cases ha; done) | (cases b <;> first | (cases hb; done) | rfl)
  have h2 : (List.filterMap (fun e => match e with
      | .Name id pos => if (ev.kindOf id == some .local && pos.line == px.line) = true then some id else none
      | _ => none) [Expr.Name x px, Expr.Name y py]) = [x, y] := by
    simp [hx, hy, hl]
  have h3 : [x, y].eraseDups.length = 2 := by
    have h : (y == x) = false := by simpa using Ne.symm hxy
    simp [List.eraseDups, List.eraseDupsBy, List.eraseDupsBy.loop, h]
  unfold swappedStores
  simp only [List.length_cons, List.length_nil, hk, h1, hf, hc, List.head?_cons, Option.map_some, Option.getD_some]
  have h4 : (Expr.Name x px).pos.line = px.line := rfl
  simp only [h4]
  simp only [hx, hy, hl, List.filterMap_cons, List.filterMap_nil, beq_self_eq_true, Bool.and_self, if_true, h3, List.length_cons, List.length_nil]
  rw [if_neg (by decide)]
  refine Eq.trans (if_neg fun h => Bool.noConfusion (h1.symm.trans h)) ?_
  rw [if_neg (by decide), if_neg (by decide), if_neg (by decide)]
/-- two pending ones are stored -/
theorem PostS.store2 {d d2 : D} {v v2 : V} (p : PostS T F H σ env fp t1 a1 F1 H1 σ1 env1 fp1 [some v, some v2] [some d, some d2]) (hs : σ.length = env.length) {i j : Nat} (hi : i < env.length) (hj : j < env.length) (hij : i ≠ j) :
    ∃ fp2, PostS T F H σ env fp (t1 ++ [i, j]) (a1 ++ [i, j]) F1 H1 ((σ1.set i (some v)).set j (some v2)) ((env1.set i (some d)).set j (some d2)) fp2 [] [] := by
  have e0 : env1.length = σ1.length := by rw [p.len, p.sl, hs]
  obtain ⟨v', hv, ho⟩ := p.rel.at_ env1.length d (by simp)
  obtain rfl : v' = v := by
    rw [e0] at hv
    simpa using hv.symm
  obtain ⟨w', hw, ho2⟩ := p.rel.at_ (env1.length + 1) d2 (by simp)
  obtain rfl : w' = v2 := by
    rw [e0] at hw
    simpa using hw.symm
  have R1 := Rel.cut (pv := [some v', some w']) (pd := [some d, some d2]) p.rel e0
  have q := R1.set (i := i) (by rw [p.len]; exact hi) ho (p.rel.nd _) fun a m => ⟨fun k hk m2 => by
    have := p.rel.dj _ _ a m (mem_cutF m2).2
    have h2 := (mem_cutF m2).1
    omega, p.rel.out _ a m⟩
  have q2 := q.set (i := j) (by simp [p.len]; exact hj) ho2 (p.rel.nd _) fun a m => ⟨fun k hk m2 => by
    unfold setFp at m2
    split at m2
    · have := p.rel.dj _ _ a m m2
      omega
    · have := p.rel.dj _ _ a m (mem_cutF m2).2
      have h2 := (mem_cutF m2).1
      omega, p.rel.out _ a m⟩
  refine ⟨_, by simpa using p.len, by simpa using p.sl, by simpa using q2, p.tr.less fun k a m => ?_, fun k hk hl => ?_, fun k hk => ?_⟩
  · unfold setFp at m; split at m
    · exact ⟨_, m⟩
    · split at m
      · exact ⟨_, m⟩
      · exact ⟨k, (mem_cutF m).2⟩
  · simp only [List.mem_append, List.mem_cons, List.not_mem_nil, or_false, not_or] at hk
    obtain ⟨s1, s2, s3, s4⟩ := p.same k hk.1 hl
    rw [setFp_ne hk.2.2, setFp_ne hk.2.1, cutF_lt (by rw [p.len]; exact hl), List.getElem?_set_ne (Ne.symm hk.2.2), List.getElem?_set_ne (Ne.symm hk.2.1), List.getElem?_set_ne (Ne.symm hk.2.2), List.getElem?_set_ne (Ne.symm hk.2.1)]
    exact ⟨s1, s2, s3, s4⟩
  · simp only [List.mem_append, List.mem_cons, List.not_mem_nil, or_false, not_or] at hk
    rw [List.getElem?_set_ne (Ne.symm hk.2.2), List.getElem?_set_ne (Ne.symm hk.2.1)]
    exact p.st k hk.1
theorem sx_par (O : XOk T X W P) {i j : Nat} {x y : Str} {a b : Ex'} {ea eb : Expr} {px py pt pt2 pos : Pos} {kt k2 : Nat} (hi : X.N[i]? = some x) (hj : X.N[j]? = some y) (hij : i ≠ j) (hx : X.env.scope.names.lookup x = some .local) (hy : X.env.scope.names.lookup y = some .local) (h : GA T X W P Φ [a, b] [ea, eb])
    (hk : X.env.blockKind = .function) (hl : px.line = py.line) (hxy : x ≠ y) (ha : noStar ea = true) (hb : noStar eb = true) (hf : [ea, eb].all (foldedForSure 8) = false) (hc : [ea, eb].all (constantsAlone 8) = false) :
    SX T X W P Φ (.par i j a b) (.Assign [.Tuple [.Name x px, .Name y py] kt pt] (.Tuple [ea, eb] k2 pt2) pos) := by
  obtain ⟨t, h1, h2⟩ := h.val
  refine ⟨⟨_, ps_par O.calm O.nd hi hj hij hx hy h1 (par_swaps hk hx hy hl hxy ha hb hf hc), fun F H σ env fp o env2 hs R e D kn kb kc kr kx => ?_⟩⟩
  have w : ∀ q ∈ touchL [a, b] ++ varsL [a, b], q ∈ touchS (.par i j a b) := fun q z => by simp only [touchS, touch, touchL, varsL, List.mem_append, List.mem_cons] at z ⊢; grind
  rcases of_cases e with ⟨ds, e1, q1, ea1⟩ | ⟨c, ns, xs, q1, rfl⟩
  · refine good_takeL h2 F H σ [] env [] fp _ _ hs rfl (by simpa using R) q1 _ (fun a' ea' F1 H1 fp1 vs pv pd jj p => ?_) (fun c ns xs eo => by cases eo)
    cases ea'
    obtain ⟨rfl, rfl, hlen⟩ := jj
    match ds, ea1 with
    | [d1, d2], ea1 =>
      match vs, hlen with
      | [v1, v2], _ =>
        refine ⟨v1, v2, rfl, ?_⟩
        by_cases hc2 : (decide (i < e1.length) && decide (j < e1.length)) = true
        · have ea1 : (match decide (i < e1.length) && decide (j < e1.length) with
            | true => some (Fl.nx, (e1.set i (some d1)).set j (some d2))
            | _ => none) = some (o, env2) := by
            rw [← ea1]
            cases (decide (i < e1.length) && decide (j < e1.length)) <;> rfl
          rw [hc2] at ea1
          obtain ⟨rfl, rfl⟩ := Prod.mk.inj (Option.some.inj ea1)
          simp only [Bool.and_eq_true, decide_eq_true_eq] at hc2
          obtain ⟨fp2, p2⟩ := PostS.store2 (by simpa using p.toS) hs (i := i) (j := j) (by rw [← p.len]; exact hc2.1) (by rw [← p.len]; exact hc2.2) hij
          exact kn rfl F1 H1 _ fp2 (p2.weak (fun q z => by
            rcases List.mem_append.mp z with z | z
            · exact w q z
            · simp only [touchS, List.mem_cons, List.not_mem_nil, or_false] at z ⊢; grind) (fun q z => by simpa [asgS] using z))
        · have hc3 : (decide (i < e1.length) && decide (j < e1.length)) = false := by simpa using hc2
          have ea1 : (match decide (i < e1.length) && decide (j < e1.length) with
            | true => some (Fl.nx, (e1.set i (some d1)).set j (some d2))
            | _ => none) = some (o, env2) := by
            rw [← ea1]
            cases (decide (i < e1.length) && decide (j < e1.length)) <;> rfl
          rw [hc3] at ea1
          cases ea1
  · exact good_takeL h2 F H σ [] env [] fp _ _ hs rfl (by simpa using R) q1 _ (fun a ea => by cases ea) (fun c' ns' xs' eo F1 H1 fp1 d ws p x1 x2 => by
      cases eo
      exact kx _ _ _ rfl F1 H1 σ fp1 d ws (p.toS.weak w (by simp)) x1 x2)
end
end RL
set_option Elab.async false
set_option linter.all false
set_option maxRecDepth 100000
set_option maxHeartbeats 1000000
/-! RL, marks of our own; a tuple taken apart; name = e for targets. -/
namespace RL
open PySem PySem.Spec PyProof.Rows L2
section
variable {T : Tb} {X : Cx} {W : WX} {P : Pr} {Φ : Hd'} {F H F1 H1 F2 H2 : Hp} {σ σ1 σ2 τ pv : List (Option V)} {env env1 env2 ts pd : Env'} {fp fp1 fp2 : Nat → List Addr} {t1 t2 a1 : List Nat}
/-- slots forgotten: a mark, nothing in the text -/
theorem sa_kill {is : List Nat} {ils : List St'} {sts : List Stmt} (h : SA T X W P Φ ils sts) : SA T X W P Φ (.kill is :: ils) sts := by
  obtain ⟨t, h1, h2⟩ := h.ok
  refine ⟨⟨t, h1, fun F H σ env fp o env2 hs R e D kn kb kc kr kx => ?_⟩⟩
  have e' : exSs P Φ ils (killL is env) = some (o, env2) := e
  have p : PostS T F H σ env fp is [] F H σ (killL is env) fp [] [] := by
    have := PostS.killL is (PostS.refl R)
    simpa using this
  have w : ∀ i ∈ is ++ touchSs ils, i ∈ touchSs (.kill is :: ils) := fun i z => by simpa [touchSs, touchS] using z
  have w' : ∀ i ∈ [] ++ asgSs ils, i ∈ asgSs (.kill is :: ils) := fun i z => by simpa [asgSs, asgS] using z
  exact h2 F H σ (killL is env) fp o env2 (by rw [p.len]; exact hs) (by simpa using p.rel) e' D (fun eo F2 H2 σ2 fp2 p2 => kn eo F2 H2 σ2 fp2 ((p.trans p2).weak w w')) (fun eo F2 H2 σ2 fp2 p2 => kb eo F2 H2 σ2 fp2 ((p.trans p2).weak w w')) (fun eo F2 H2 σ2 fp2 p2 => kc eo F2 H2 σ2 fp2 ((p.trans p2).weak w w'))
    (fun d eo F2 H2 σ2 fp2 v p2 => kr d eo F2 H2 σ2 fp2 v ((p.trans p2).weak w w')) (fun c ns xs eo F2 H2 σ2 fp2 d ws p2 => kx c ns xs eo F2 H2 σ2 fp2 d ws ((p.trans p2).weak w w'))
/-- (a, b, ..) = e -/
theorem sx_asgT (O : XOk T X W P) {is : List Nat} {il : Ex'} {te e : Expr} {pos : Pos} (hg : GT T X (.tp is) te) (h : GX T X W P Φ il e) (hs : swapsWithSole [te] e pos.line X.env = pure false) (hw : swappedStores [te] e X.env = pure none) (h1 : (assignEach [te] X.env).map (·.2) = [assign te X.env]) :
    SX T X W P Φ (.asgT is il) (.Assign [te] e pos) := by
  obtain ⟨g, g1, g2⟩ := hg.ok
  obtain ⟨t, k1, k2⟩ := h.val
  refine ⟨⟨_, ps_asg k1 g1 hs hw h1, fun F H σ env fp o env2 hs R e D kn kb kc kr kx => ?_⟩⟩
  have w : ∀ j ∈ touch il, j ∈ is ++ touch il := fun j z => List.mem_append_right _ z
  rcases of_cases e with ⟨d, e1, q1, ea1⟩ | ⟨c, ns, xs, q1, rfl⟩
  · refine good_ev k2 F H σ [] env [] fp _ _ hs rfl (by simpa using R) q1 _ (fun a ea F1 H1 fp1 v pv pd j p => ?_) (fun c ns xs eo => by cases eo)
    cases ea
    obtain ⟨rfl, rfl⟩ := j
    cases hst : setTg (.tp is) d e1 with
    | none => rw [hst] at ea1; cases ea1
    | some e2 =>
      rw [hst] at ea1
      obtain ⟨rfl, rfl⟩ := Prod.mk.inj (Option.some.inj ea1)
      have hl := Post.last (pv := []) (pd := []) p hs rfl rfl
      have ho : d.own = false := by
        cases d with
        | nd o k xs =>
          have e' : (match isTupK k && decide (is.length = xs.length) && is.all fun i => decide (i < e1.length) with
            | true => some (setL is xs e1)
            | false => none) = some e2 := hst
          cases hc : isTupK k && decide (is.length = xs.length) && is.all fun i => decide (i < e1.length) with
          | false => rw [hc] at e'; cases e'
          | true =>
            simp only [Bool.and_eq_true] at hc
            cases k with
            | tup => exact (own_tup hl p.rel.sub).1
            | ktup => exact (own_ktup hl p.rel.sub).1
            | _ => cases hc.1.1
        | _ => rfl
      have hl0 := hl
      rw [hl.top ho] at hl0
      have pd1 := p.toS.drop hs
      refine g2 F1 H1 σ [] e1 [] _ d v e2 _ (by rw [p.len]; exact hs) (by simpa using pd1.rel) hl0 hst fun σ' fp' so => ?_
      exact kn rfl F1 H1 σ' fp' ((pd1.trans so.toS).weak (fun j z => by simp only [touchS, tgL, List.mem_append] at z ⊢; exact z.symm) (fun j z => by simpa [asgS, tgL] using z))
  · exact good_ev k2 F H σ [] env [] fp _ _ hs rfl (by simpa using R) q1 _ (fun a ea => by cases ea) (fun c' ns' xs' eo F1 H1 fp1 d ws p x1 x2 => by
      cases eo
      exact kx _ _ _ rfl F1 H1 σ fp1 d ws (p.toS.weak w (by simp)) x1 x2)
end
end RL
set_option Elab.async false
set_option linter.all false
set_option maxRecDepth 100000
set_option maxHeartbeats 1000000
/-! RL, the text's defs: what is run, and that each def keeps it. -/
namespace RL
open PySem PySem.Spec PyProof.Rows L2
/-- a def: its parameters, its slots, its body -/
structure Fd' where
  np : Nat
  ns : Nat
  body : List St'
/-- the arguments behind the run: what was not stored to -/
def backA (asg : List Nat) (e : Env') : Nat → Nat → List (Option D)
  | _, 0 => []
  | i, n + 1 => (match asg.contains i with
    | true => none
    | false => slotAt e i) :: backA asg e (i + 1) n
def initE (d : Fd') (ds : List D) : Env' := ds.map some ++ List.replicate (d.ns - ds.length) none
def run1 (P : Pr) (Φ : Hd') (d : Fd') (ds : List D) : Option (Out D × List (Option D)) := match decide (ds.length = d.np) && decide (d.np ≤ d.ns), exSs P Φ d.body (initE d ds) with
  | true, some (.nx, e) => some (.ok .non, backA (asgSs d.body) e 0 d.np)
  | true, some (.rt r, e) => some (.ok r, backA (asgSs d.body) e 0 d.np)
  | true, some (.ex c ns xs, e) => some (.ex c ns xs, backA (asgSs d.body) e 0 d.np)
  | _, _ => none
def run (P : Pr) (fd : Nat → Option Fd') : Nat → Hd'
  | 0 => fun _ _ => none
  | k + 1 => fun f ds => match fd f with
    | some d => run1 P (run P fd k) d ds
    | none => none
section
variable {T : Tb} {P : Pr} {Φ : Hd'} {F H F1 H1 : Hp} {σ σ1 pv : List (Option V)} {env env1 pd : Env'} {fp fp1 : Nat → List Addr} {tch asg : List Nat}
theorem backA_get {asg : List Nat} {e : Env'} : ∀ (n i j : Nat) (d : D), (backA asg e i n)[j]? = some (some d) → j < n ∧ i + j ∉ asg ∧ e[i + j]? = some (some d)
  | 0, i, j, d, h => by simp [backA] at h
  | n + 1, i, 0, d, h => by
    have h : (match asg.contains i with
      | true => none
      | false => slotAt e i) = some d := by simpa [backA] using h
    cases hc : asg.contains i with
    | true => rw [hc] at h; cases h
    | false =>
      rw [hc] at h
      exact ⟨by omega, (fun z => by rw [List.contains_iff_mem.mpr (by simpa using z)] at hc; cases hc), slotAt_some h⟩
  | n + 1, i, j + 1, d, h => by
    obtain ⟨h1, h2, h3⟩ := backA_get n (i + 1) j d (by simpa [backA] using h)
    have e1 : i + 1 + j = i + (j + 1) := by omega
    rw [e1] at h2 h3
    exact ⟨by omega, h2, h3⟩
theorem backA_len {asg : List Nat} {e : Env'} : ∀ (n i : Nat), (backA asg e i n).length = n
  | 0, _ => rfl
  | n + 1, i => by simp [backA, backA_len n]
/-- the frame at the end, seen by the caller -/
theorem PostS.args {vs : List V} {n : Nat} (p : PostS T F H (vs.map some ++ List.replicate n none) env fp tch asg F1 H1 σ1 env1 fp1 pv pd) (hpv : pv.length = pd.length) (hl : vs.length + n = env.length) :
    ∃ fp2, Rel T F1 H1 (vs.map some ++ pv) (backA asg env1 0 vs.length ++ pd) fp2 ∧ Tr F H fp F1 H1 fp2 := by
  have l1 : env1.length = vs.length + n := by rw [p.len, hl]
  have l2 : σ1.length = vs.length + n := by rw [p.sl]; simp
  let k := vs.length
  let fp2 : Nat → List Addr := fun i => if i < k then fp1 i else fp1 (n + i)
  have mem : ∀ {i a}, a ∈ fp2 i → (i < k ∧ a ∈ fp1 i) ∨ (k ≤ i ∧ a ∈ fp1 (n + i)) := fun {i a} m => by
    have m : a ∈ (if i < k then fp1 i else fp1 (n + i)) := m
    split at m
    · exact .inl ⟨by assumption, m⟩
    · exact .inr ⟨by omega, m⟩
  have R := p.rel
  refine ⟨fp2, ⟨R.sub, by simp [backA_len, hpv], fun i d h => ?_, fun i => ?_, fun i j a m1 m2 => ?_, fun i a m => ?_, fun i a m => ?_, fun i hi => ?_⟩, p.tr.less fun i a m => ?_⟩
  · by_cases hi : i < k
    · rw [List.getElem?_append_left (by rw [backA_len]; exact hi)] at h
      obtain ⟨_, h2, h3⟩ := backA_get _ _ _ _ h
      rw [Nat.zero_add] at h2 h3
      obtain ⟨v, e1, e2⟩ := R.at_ i d (by rw [List.getElem?_append_left (by omega)]; exact h3)
      rw [List.getElem?_append_left (by omega), p.st i h2, List.getElem?_append_left (by simpa using hi)] at e1
      refine ⟨v, by rw [List.getElem?_append_left (by simpa using hi)]; exact e1, ?_⟩
      show Own T F1 H1 d v (if i < k then fp1 i else fp1 (n + i))
      rw [if_pos hi]; exact e2
    · rw [List.getElem?_append_right (by rw [backA_len]; omega), backA_len] at h
      obtain ⟨v, e1, e2⟩ := R.at_ (n + i) d (by rw [List.getElem?_append_right (by omega)]; rw [show n + i - env1.length = i - vs.length by omega]; exact h)
      rw [List.getElem?_append_right (by omega), show n + i - σ1.length = i - vs.length by omega] at e1
      refine ⟨v, by rw [List.getElem?_append_right (by simpa using Nat.le_of_not_lt hi)]; simpa using e1, ?_⟩
      show Own T F1 H1 d v (if i < k then fp1 i else fp1 (n + i))
      rw [if_neg hi]; exact e2
  · show (if i < k then fp1 i else fp1 (n + i)).Nodup
    split <;> exact R.nd _
  · rcases mem m1 with ⟨a1, a2⟩ | ⟨a1, a2⟩ <;> rcases mem m2 with ⟨b1, b2⟩ | ⟨b1, b2⟩ <;> (have := R.dj _ _ a a2 b2; omega)
  · rcases mem m with ⟨_, m⟩ | ⟨_, m⟩ <;> exact R.out _ a m
  · rcases mem m with ⟨_, m⟩ | ⟨_, m⟩ <;> exact R.dom _ a m
  · show (if i < k then fp1 i else fp1 (n + i)) = []
    simp [backA_len] at hi
    rw [if_neg (by omega)]
    exact R.off _ (by simp; omega)
  · rcases mem m with ⟨_, m⟩ | ⟨_, m⟩ <;> exact ⟨_, m⟩
theorem Rel.pad {S : List (Option V)} {E : Env'} (R : Rel T F H S E fp) (n : Nat) : Rel T F H (S ++ List.replicate n none) (E ++ List.replicate n none) fp := by
  refine ⟨R.sub, by simp [R.len], fun i d h => ?_, R.nd, R.dj, R.out, R.dom, fun i hi => R.off i (by simp at hi; omega)⟩
  by_cases hi : i < E.length
  · rw [List.getElem?_append_left hi] at h
    obtain ⟨v, e1, e2⟩ := R.at_ i d h
    exact ⟨v, by rw [List.getElem?_append_left (by rw [← R.len]; exact hi)]; exact e1, e2⟩
  · rw [List.getElem?_append_right (by omega), List.getElem?_replicate] at h
    split at h <;> cases h
theorem fn_body {X : Cx} {d : Fd'} {E : XK} {sts : List Stmt} {vs : List V} {Q : VK} {N : List Str} (hsp : spOf T (fun ds => run1 P Φ d ds) vs H Q E) (hN : N.length = d.ns) (h : SA T X (fun cls x _ H => E cls x H) P Φ d.body sts) :
    ∃ t, PSs X sts t ∧ t { nx := fun _ H' => Q .non H', rt := Q } (start N vs) H := by
  obtain ⟨t, h1, h2⟩ := h.ok
  refine ⟨t, h1, ?_⟩
  obtain ⟨F, ds, fp, o, ds', R, hr, k1, k2⟩ := hsp
  have hlen : ds.length = vs.length := by have := R.len; simpa using this
  have hr : run1 P Φ d ds = some (o, ds') := hr
  unfold run1 at hr
  have hpad := Rel.pad R (N.length - vs.length)
  have st : start N vs = vs.map some ++ List.replicate (N.length - vs.length) none := rfl
  have en : initE d ds = ds.map some ++ List.replicate (N.length - vs.length) none := by unfold initE; rw [hN, hlen]
  rw [← en, ← st] at hpad
  have hs : (start N vs).length = (initE d ds).length := by rw [st, en]; simp [hlen]
  cases hb : decide (ds.length = d.np) && decide (d.np ≤ d.ns) with
  | false => rw [hb] at hr; cases hr
  | true =>
    rw [hb] at hr
    simp only [Bool.and_eq_true, decide_eq_true_eq] at hb
    have hl : vs.length + (N.length - vs.length) = (initE d ds).length := by rw [en]; simp [hlen]
    have np : d.np = vs.length := by omega
    cases hx : exSs P Φ d.body (initE d ds) with
    | none => rw [hx] at hr; cases hr
    | some r =>
      obtain ⟨fl, e⟩ := r
      rw [hx] at hr
      rw [st]
      rw [st] at hpad hs
      refine h2 F H _ (initE d ds) fp fl e hs hpad hx _ (fun eo F1 H1 σ1 fp1 p => ?_) (fun eo => by subst eo; cases hr) (fun eo => by subst eo; cases hr) (fun r eo F1 H1 σ1 fp1 v p => ?_) (fun c ns xs eo F1 H1 σ1 fp1 x ws p x1 x2 => ?_)
      · subst eo
        obtain ⟨rfl, rfl⟩ := Prod.mk.inj (Option.some.inj hr)
        obtain ⟨fp2, q1, q2⟩ := p.args rfl hl
        rw [← np] at q1
        simp only [List.append_nil] at q1
        have q3 := q1.push0 (d := .non) (v := .non) ⟨rfl, rfl⟩
        refine k1 .non rfl F1 H1 .non _ q3 (q2.less fun i a m => ?_)
        unfold setFp at m; split at m
        · cases m
        · exact ⟨i, m⟩
      · subst eo
        obtain ⟨rfl, rfl⟩ := Prod.mk.inj (Option.some.inj hr)
        obtain ⟨fp2, q1, q2⟩ := p.args rfl hl
        rw [← np] at q1
        exact k1 r rfl F1 H1 v fp2 q1 q2
      · subst eo
        obtain ⟨rfl, rfl⟩ := Prod.mk.inj (Option.some.inj hr)
        obtain ⟨fp2, q1, q2⟩ := p.args rfl hl
        rw [← np] at q1
        simp only [List.append_nil] at q1
        exact k2 c ns xs rfl F1 H1 fp2 x ws q1 q2 x1 x2
end
end RL
set_option Elab.async false
set_option linter.all false
set_option maxRecDepth 100000
set_option maxHeartbeats 1000000
/-! RL, calls that are lent their arguments: all that stands is frozen for the call's time; what comes back is no object. -/
namespace RL
open PySem PySem.Spec PyProof.Rows L2
section
variable {T : Tb} {X : Cx} {W : WX} {P : Pr} {Φ : Hd'} {F H F1 H1 F2 H2 : Hp} {σ τ pv : List (Option V)} {env env1 ts pd : Env'} {fp fp1 fp2 : Nat → List Addr} {t1 t2 : List Nat}
theorem flat_own {d : D} {v : V} {g : List Addr} (hf : flatD d = true) (h : Own T F H d v g) : Own T F1 H1 d v [] := by
  cases d with
  | nd o k xs => cases hf
  | fn g => cases hf
  | non => exact ⟨h.1, rfl⟩
  | bl b => exact ⟨h.1, rfl⟩
  | int i => exact ⟨h.1, rfl⟩
  | str x => exact ⟨h.1, rfl⟩
theorem viewD_some {f : Nat} {ds : List D} {d : D} (h : viewD Φ f ds = some d) : ∃ ds', Φ f (fzL ds) = some (.ok d, ds') ∧ flatD d = true := by
  unfold viewD at h
  split at h
  · rename_i d' ds' q
    split at h
    · rename_i q2
      cases h
      exact ⟨ds', q, q2⟩
    · cases h
  · cases h
theorem args_fz (s : Ex F H) : ∀ {ds : List D} {vs : List V}, Args T F H ds vs → ∀ (i : Nat) (d : D), ((fzL ds).map some)[i]? = some (some d) → ∃ v, (vs.map some)[i]? = some (some v) ∧ Own T H H d v []
  | [], vs, h, i, d, e => by simp [fzL] at e
  | x :: xs, vs, h, i, d, e => by
    obtain ⟨v, ws, rfl, ⟨g, h1⟩, h2⟩ := h
    cases i with
    | zero =>
      have : fz x = d := by simpa [fzL] using e
      subst this
      exact ⟨v, rfl, Own.freeze s x v g (fun a _ => rfl) h1⟩
    | succ i =>
      have e' : ((fzL xs).map some)[i]? = some (some d) := by simpa [fzL] using e
      obtain ⟨w, k1, k2⟩ := args_fz s h2 i d e'
      exact ⟨w, by simpa using k1, k2⟩
theorem args_len : ∀ {ds : List D} {vs : List V}, Args T F H ds vs → (fzL ds).length = vs.length
  | [], vs, h => by
    have : vs = [] := h
    subst this; rfl
  | x :: xs, vs, h => by
    obtain ⟨v, ws, rfl, ⟨g, h1⟩, h2⟩ := h
    simp [fzL, args_len h2]
theorem good_view {A : M (List Rf)} {tch tv tr : List Nat} {t : TA} {f : Nat} (tv' tr' : List Nat) (g : GoodA T W A tch tv tr t) : GoodR T W (pureOp A (viewD Φ f)) tch tv' tr' (tCallS (spOf T (Φ f)) (WE W) t) := fun F H σ τ env ts fp o env2 hs ht R e Q k1 k2 => by
  rcases bind_cases e with ⟨rs, e1, q1, ea1⟩ | ⟨c, ns, xs, q1, rfl⟩
  · rcases bind_cases ea1 with ⟨ds, e2, q2, ea2⟩ | ⟨c, ns, xs, q2, rfl⟩
    · obtain ⟨ds', q3, h1, rfl⟩ := pkLM_some q2
      cases h1
      obtain ⟨rf, q4, rfl, rfl⟩ := lift_some ea2
      cases q5 : viewD Φ f ds with
      | none => rw [q5] at q4; cases q4
      | some d =>
        rw [q5] at q4
        have : rf = .tmp d := (Option.some.inj q4).symm
        subst this
        refine g F H σ τ env ts fp _ _ hs ht R q1 _ (fun a ea F1 H1 fp1 vs pv pd j p => ?_) (fun c ns xs eo => by cases eo)
        cases ea
        obtain ⟨rfl, rfl, j1⟩ := j
        obtain ⟨ds', q6, hf⟩ := viewD_some q5
        have ar := p.args hs ht j1 q3
        have RA : Rel T H1 H1 (vs.map some) ((fzL ds).map some) (fun _ => []) := ⟨Ex.refl _, by simp [args_len ar], args_fz p.rel.sub ar, fun _ => List.nodup_nil, fun i j a m => by simp at m, fun i a m => by simp at m, fun i a m => by simp at m, fun _ _ => rfl⟩
        refine ⟨H1, fzL ds, _, _, ds', RA, q6, fun r eo F' H' v fp' R' tr' => ?_, fun c ns xs eo => by cases eo⟩
        cases eo
        have kp : ∀ a o, H1 a = some o → H' a = some o := fun a o h => tr'.keep a o h fun i m => by simp at m
        have hl' : ds'.length = vs.length := by have := R'.len; simpa using this
        obtain ⟨v', hv, ho⟩ := R'.at_ ds'.length d (by simp)
        obtain rfl : v' = v := by
          rw [hl'] at hv
          simpa using hv.symm
        refine k1 _ rfl F1 H' _ v' _ _ ⟨rfl, rfl, trivial, trivial⟩ (p.fin hs ht (g := []) (F2 := F1) (H2 := H') (Ex.refl _) (fun a o h => kp a o (p.rel.sub a o h)) (fun i _ a m => ?_) (fun a u h => .inl ⟨u, h⟩) (fun a o h _ => kp a o h) (flat_own hf ho) List.nodup_nil (by simp))
        obtain ⟨o, ho⟩ := p.rel.dom i a m
        exact ⟨by rw [kp a o ho, ho], p.rel.out i a m⟩
    · obtain ⟨_, _, z, _⟩ := pkLM_some q2; cases z
  · refine g F H σ τ env ts fp _ _ hs ht R q1 _ (fun a ea => by cases ea) (fun c' ns' xs' eo F1 H1 fp1 d ws p x1 x2 => ?_)
    cases eo
    exact k2 _ _ _ rfl F1 H1 fp1 d ws p x1 x2
theorem gx_view (O : XOk T X W P) (tk : Takes X W) {k f : Nat} {x : Str} {ps : List Str} {ils : List Ex'} {e : Expr} {es : List Expr} {p pos : Pos} (hr : Room k X.A) (hf : FOk T X Φ k f x ps) (h : GA T X W P Φ ils (e :: es)) (hg : Gl X x)
    (hs : (e :: es).all noStar = true) (hd : (x == ("__debug__" : Str)) = false) : GX T X W P Φ (.view f ils) (.Call (.Name x p) (e :: es) [] pos) := by
  obtain ⟨t, h1, h2⟩ := h.val
  obtain ⟨fd, f1, f2, f3, f4⟩ := hf.fn
  have hs' : noStar e = true ∧ es.all noStar = true := by simpa using hs
  exact gx_of O (pe_callS f4 hr hg f1 f2 f3 (fun σ => passAt tk σ) h1 hd (star_cons hs'.1) (star_any hs'.2)) (good_view _ _ h2) (fun _ => rfl) rfl
end
end RL
set_option Elab.async false
set_option linter.all false
set_option maxRecDepth 100000
set_option maxHeartbeats 1000000
/-! RL, exceptions of the text's own classes: made and raised. -/
namespace RL
open PySem PySem.Spec PyProof.Rows L2
/-- what the __init__ of an exception class promises: it stores its parameters, in their sequence -/
def spEx (C : Addr) (fs : List Str) : Sp := fun vs H Q _ => ∃ (a : Addr) (ys : List V), vs = .ref a :: ys ∧ ys.length = fs.length ∧ H a = some (exo a C none) ∧ ∀ dx, H dx = none → dx ≠ a → Q .non (upd (upd H dx (exd dx (fs.reverse.zip ys.reverse))) a (exo a C (some dx)))
section
variable {T : Tb} {X : Cx} {W : WX} {P : Pr} {Φ : Hd'} {F H F1 H1 F2 H2 : Hp} {σ τ pv : List (Option V)} {env env1 ts pd : Env'} {fp fp1 fp2 : Nat → List Addr} {t1 t2 : List Nat}
theorem fzL_app : ∀ (xs ys : List D), fzL (xs ++ ys) = fzL xs ++ fzL ys
  | [], ys => rfl
  | x :: xs, ys => by simp [fzL, fzL_app xs ys]
theorem OwnL.rev : ∀ {ds : List D} {vs : List V}, OwnL T F H ds vs [] → OwnL T F H ds.reverse vs.reverse []
  | [], vs, h => by
    have h' : vs = [] ∧ _ := h
    rw [h'.1]; exact OwnL.nil_
  | d :: ds, vs, h => by
    unfold OwnL at h
    obtain ⟨v, ws, g, g2, rfl, e, h1, h2⟩ := h
    obtain ⟨rfl, rfl⟩ : g = [] ∧ g2 = [] := by simpa using e.symm
    simp only [List.reverse_cons]
    exact OwnL.append (OwnL.rev h2) (OwnL.cons_ h1 OwnL.nil_)
/-- all temporaries frozen and dropped, next to a new thing -/
theorem Post.frzAll {ds : List D} {vs : List V} {a : Addr} {o : HO} (p : Post T F H σ τ env ts fp t1 F1 H1 env1 fp1 (vs.map some) (ds.map some)) (hs : σ.length = env.length) (ht : τ.length = ts.length) (hd : ds.length = vs.length) (ha : H1 a = none) :
    ∃ F2 fp2, Post T F H σ τ env ts fp t1 F2 (upd H1 a o) env1 fp2 [] [] ∧ OwnL T F2 (upd H1 a o) (fzL ds) vs [] := by
  have e1 : (env1 ++ ts).length = env.length + ts.length := by simp [p.len]
  obtain ⟨g, h1, h2, h3⟩ := ownL_temps (S := σ ++ τ) (S' := []) (E := env1 ++ ts) (E' := []) (by simpa using p.rel) (by simp [p.len, hs, ht]) hd
  have nfp : ∀ i, a ∉ fp1 i := fun i m => by
    obtain ⟨u, hu⟩ := p.rel.dom i a m
    rw [hu] at ha; cases ha
  have ne : ∀ {b}, (∃ i, b ∈ fp1 i) → b ≠ a := fun {b} ⟨i, m⟩ z => nfp i (z ▸ m)
  have fa : F1 a = none := by
    cases h : F1 a with
    | none => rfl
    | some u => rw [p.rel.sub a u h] at ha; cases ha
  let F2 : Hp := fun b => if b ∈ g then H1 b else F1 b
  have f2g : ∀ b, b ∈ g → F2 b = H1 b := fun b m => by show (if b ∈ g then _ else _) = _; rw [if_pos m]
  have f2n : ∀ b, b ∉ g → F2 b = F1 b := fun b m => by show (if b ∈ g then _ else _) = _; rw [if_neg m]
  have x1 : Ex F1 F2 := fun b u h => by
    by_cases e : b ∈ g
    · rw [f2g b e]; exact p.rel.sub b u h
    · rw [f2n b e]; exact h
  have gne : ∀ b ∈ g, b ≠ a := fun b m => by
    obtain ⟨i, _, _, i3⟩ := h3 b m
    exact ne ⟨i, i3⟩
  have q := p.fin hs ht (F2 := F2) (H2 := upd H1 a o) (d := .non) (v := .non) (g := []) x1 (fun b u h => ?_) (fun i hi b m => ?_) (fun b u h => ?_) (fun b u h _ => by rw [upd_ne (ne_of_none h ha)]; exact h) ⟨rfl, rfl⟩ List.nodup_nil (by simp)
  · exact ⟨F2, _, q.drop hs ht, OwnL.freeze x1 ds vs g (fun b m => f2g b m) h1⟩
  · by_cases e : b ∈ g
    · rw [f2g b e] at h; rw [upd_ne (gne b e)]; exact h
    · rw [f2n b e] at h
      have hb : b ≠ a := fun z => by subst z; rw [fa] at h; cases h
      rw [upd_ne hb]; exact p.rel.sub b u h
  · refine ⟨upd_ne (ne ⟨i, m⟩), ?_⟩
    have e : b ∉ g := fun m2 => by
      obtain ⟨j, j1, _, j3⟩ := h3 b m2
      have := p.rel.dj i j b m j3
      rw [e1] at j1; omega
    rw [f2n b e]
    exact p.rel.out i b m
  · by_cases e : b ∈ g
    · obtain ⟨j, j1, _, j3⟩ := h3 b e
      rw [e1] at j1
      exact .inr (.inl ⟨j, j1, j3⟩)
    · rw [f2n b e] at h; exact .inl ⟨u, h⟩
/-- an exception class of the text that keeps spEx -/
structure EOk (T : Tb) (X : Cx) (k c : Nat) (x : Str) (ns : List Str) : Prop where
  g : X.mg x = some (.ref (T.cA c))
  o : OexC X.K (T.cA c)
  ini : ∃ fI fd ps, PySem.W.findIn X.K (.ref (T.cA c)) "__init__" = some (some (.ref fI)) ∧ PySem.W.typeIn X.K (.ref fI) = some (.type "function") ∧ Binds X.K fd ps [] ∧ FnOk X.prog X.w X.K X.mg X.base (L2.CX X.prog X.w) k fI fd ps (spEx (T.cA c) ns)
theorem of_raise {c : Nat} {A : M (List D)} {e e2 : Env'} {o : Fl} (h : SM.of A (fun ds e => match P.exf c with
    | some ns => (match decide (ns.length = ds.length) with
      | true => some (.ex c ns.reverse (fzL ds).reverse, e)
      | false => none)
    | none => none) e = some (o, e2)) : (∃ ds ns, A e = some (.ok ds, e2) ∧ P.exf c = some ns ∧ ns.length = ds.length ∧ o = .ex c ns.reverse (fzL ds).reverse) ∨ ∃ c' ns xs, A e = some (.ex c' ns xs, e2) ∧ o = .ex c' ns xs := by
  rcases of_cases h with ⟨ds, e1, q1, q2⟩ | h
  · left
    split at q2
    · rename_i ns q3
      split at q2
      · rename_i q4
        obtain ⟨rfl, rfl⟩ := Prod.mk.inj (Option.some.inj q2)
        exact ⟨ds, ns, q1, q3, of_decide_eq_true q4, rfl⟩
      · cases q2
    · cases q2
  · exact .inr h
theorem fzL_len : ∀ ds : List D, (fzL ds).length = ds.length
  | [] => rfl
  | d :: ds => by simp [fzL, fzL_len ds]
theorem sx_raise (O : XOk T X W P) (tk : Takes X W) {k c : Nat} {x : Str} {ns : List Str} {ils : List Ex'} {e : Expr} {es : List Expr} {p cpos pos : Pos} (hr : Room (k + 1) X.A) (E : EOk T X k c x ns) (hns : P.exf c = some ns) (hl : ns.length ≤ 900) (h : GA T X W P Φ ils (e :: es)) (hg : Gl X x)
    (hs : (e :: es).all noStar = true) (hd : (x == ("__debug__" : Str)) = false) : SX T X W P Φ (.raise c ils) (.Raise (some (.Call (.Name x p) (e :: es) [] cpos)) none pos) := by
  obtain ⟨t, h1, h2⟩ := h.val
  obtain ⟨fI, fd, ps, i1, i2, i3, i4⟩ := E.ini
  have hs' : noStar e = true ∧ es.all noStar = true := by simpa using hs
  refine ⟨⟨_, ps_raise O.calm tk (pmk_oex (dvs := []) E.o i1 i2 i4 hr i3 .nil passL hg E.g h1 hd (star_cons hs'.1) (star_any hs'.2)), fun F H σ env fp o env2 hs R e D kn kb kc kr kx => ?_⟩⟩
  have w : ∀ i ∈ touchL ils ++ varsL ils, i ∈ touchS (.raise c ils) := fun i z => by simpa [touchS] using z
  rcases of_raise e with ⟨ds, ns', q1, q2, q3, rfl⟩ | ⟨c', ns', xs, q1, rfl⟩
  · rw [hns] at q2
    cases q2
    refine good_takeL h2 F H σ [] env [] fp _ _ hs rfl (by simpa using R) q1 _ (fun a ea F1 H1 fp1 vs pv pd j p => ?_) (fun c ns xs eo => by cases eo)
    cases ea
    obtain ⟨rfl, rfl, hlen⟩ := j
    have hv : vs.length = ns.length := by omega
    refine ⟨by omega, fun a ha => ⟨a, vs, by simp, hv, upd_same, fun dx hdx hne => ⟨rfl, dx, ns.reverse.zip vs.reverse, upd_same, ?_, ?_, ?_⟩⟩⟩
    · rw [upd_ne hne, upd_same]
    · rw [upd_ne hne] at hdx; exact hdx
    · have hdx' : H1 dx = none := by rw [upd_ne hne] at hdx; exact hdx
      have eH : upd (del (upd (upd (upd H1 a (exo a (T.cA c) none)) dx (exd dx (ns.reverse.zip vs.reverse))) a (exo a (T.cA c) (some dx))) a) dx (.xd (ns.reverse.zip vs.reverse)) = upd H1 dx (.xd (ns.reverse.zip vs.reverse)) := by
        funext b
        by_cases hb : b = dx
        · subst hb; rw [upd_same, upd_same]
        · rw [upd_ne hb, upd_ne hb]
          by_cases hba : b = a
          · subst hba; rw [del_same, ha]
          · rw [del_ne hba, upd_ne hba, upd_ne hb, upd_ne hba]
      rw [eH]
      obtain ⟨F2, fp2, p2, ho⟩ := Post.frzAll (o := .xd (ns.reverse.zip vs.reverse)) p hs rfl hlen hdx'
      exact kx _ _ _ rfl F2 _ σ fp2 (some dx) vs.reverse (p2.toS.weak w (by simp)) (.inr ⟨dx, rfl, upd_same, by simp [hv]⟩) ho.rev
  · exact good_takeL h2 F H σ [] env [] fp _ _ hs rfl (by simpa using R) q1 _ (fun a ea => by cases ea) (fun c' ns' xs' eo F1 H1 fp1 d ws p x1 x2 => by
      cases eo
      exact kx _ _ _ rfl F1 H1 σ fp1 d ws (p.toS.weak w (by simp)) x1 x2)
end
/-! ### the __init__ of such a class -/
section
variable {P : Program} {w : World} {K : PySem.W.Frag} {mg : Str → Option Value} {base : Heap}
theorem exo_ne_exd {e C x : Addr} {d : Option Addr} : True := trivial
theorem ex_fn1 {qual f1 : Str} {st : Stmt} {f C : Addr} {fd : FuncData} {N ps : List Str} {p1 p2 p3 p4 : Pos} {self par : Str} (Fn : Fun K "__init__" qual st f fd) (S : FnScope N ps (defScope st)) (hb : defBody st = [.Assign [.Attribute (.Name self p1) f1 p2] (.Name par p3) p4])
    (hps : ps.length = 2) (h0 : N[0]? = some self) (h1 : N[1]? = some par) (v0 : (defScope st).names.lookup self = some .local) (v1 : (defScope st).names.lookup par = some .local) (n0 : (self == ("__debug__" : Str)) = false ∧ (self == ("__classdict__" : Str)) = false) (n1 : (par == ("__debug__" : Str)) = false ∧ (par == ("__classdict__" : Str)) = false)
    (hC : OexC K C) (hno : PySem.W.findIn K (.ref C) f1 = some none) : FnOk P w K mg base (L2.CX P w) 1 f fd ps (spEx C [f1]) := by
  refine Fn.okX S (fun vs H Q E h => ?_) (fun cdv A outer s H vs Q E hr h => ?_)
  · obtain ⟨a, ys, rfl, hl, _⟩ := h
    simp at hl
    simp [hps, hl]
  · rw [hb]
    refine ⟨_, pss_one (ps_ost (pe_var h0 (.inl v0) n0.1 n0.2) (pe_var h1 (.inl v1) n1.1 n1.2)), ?_⟩
    obtain ⟨a, ys, rfl, hl, ha, k⟩ := h
    match ys, hl with
    | [y], _ =>
      refine ⟨y, by simp [L2.start], .ref a, by simp [L2.start], a, C, rfl, hC, hno, .inl ⟨ha, fun dx hdx hne => ?_⟩⟩
      exact k dx hdx hne
theorem ex_fn2 {qual f1 f2 : Str} {st : Stmt} {f C : Addr} {fd : FuncData} {N ps : List Str} {p1 p2 p3 p4 q1 q2 q3 q4 : Pos} {self par par2 : Str} (Fn : Fun K "__init__" qual st f fd) (S : FnScope N ps (defScope st))
    (hb : defBody st = [.Assign [.Attribute (.Name self p1) f1 p2] (.Name par p3) p4, .Assign [.Attribute (.Name self q1) f2 q2] (.Name par2 q3) q4])
    (hps : ps.length = 3) (h0 : N[0]? = some self) (h1 : N[1]? = some par) (h2 : N[2]? = some par2) (v0 : (defScope st).names.lookup self = some .local) (v1 : (defScope st).names.lookup par = some .local) (v2 : (defScope st).names.lookup par2 = some .local)
    (n0 : (self == ("__debug__" : Str)) = false ∧ (self == ("__classdict__" : Str)) = false) (n1 : (par == ("__debug__" : Str)) = false ∧ (par == ("__classdict__" : Str)) = false) (n2 : (par2 == ("__debug__" : Str)) = false ∧ (par2 == ("__classdict__" : Str)) = false)
    (hC : OexC K C) (hno : PySem.W.findIn K (.ref C) f1 = some none) (hno2 : PySem.W.findIn K (.ref C) f2 = some none) : FnOk P w K mg base (L2.CX P w) 1 f fd ps (spEx C [f1, f2]) := by
  refine Fn.okX S (fun vs H Q E h => ?_) (fun cdv A outer s H vs Q E hr h => ?_)
  · obtain ⟨a, ys, rfl, hl, _⟩ := h
    simp at hl
    simp [hps, hl]
  · rw [hb]
    refine ⟨_, pss_cons (ps_ost (pe_var h0 (.inl v0) n0.1 n0.2) (pe_var h1 (.inl v1) n1.1 n1.2)) (pss_one (ps_ost (pe_var h0 (.inl v0) n0.1 n0.2) (pe_var h2 (.inl v2) n2.1 n2.2))), ?_⟩
    obtain ⟨a, ys, rfl, hl, ha, k⟩ := h
    match ys, hl with
    | [y, z], _ =>
      refine ⟨y, by simp [L2.start], .ref a, by simp [L2.start], a, C, rfl, hC, hno, .inl ⟨ha, fun dx hdx hne => ?_⟩⟩
      refine ⟨z, by simp [L2.start], .ref a, by simp [L2.start], a, C, rfl, hC, hno2, .inr ⟨dx, [(f1, y)], upd_same, by rw [upd_ne hne, upd_same], by simp, ?_⟩⟩
      have e : upd (upd (upd H dx (exd dx [(f1, y)])) a (exo a C (some dx))) dx (exd dx ((f2, z) :: [(f1, y)])) = upd (upd H dx (exd dx ([f1, f2].reverse.zip [y, z].reverse))) a (exo a C (some dx)) := by
        funext b
        by_cases hb : b = dx
        · subst hb; rw [upd_same, upd_ne hne, upd_same]; rfl
        · rw [upd_ne hb]
          by_cases hba : b = a
          · subst hba; rw [upd_same, upd_same]
          · rw [upd_ne hba, upd_ne hb, upd_ne hba, upd_ne hb]
      show Q .non _
      rw [e]
      exact k dx hdx hne
end
end RL
set_option Elab.async false
set_option linter.all false
set_option maxRecDepth 100000
set_option maxHeartbeats 1000000
/-! RL, defs that are called within an except suite and are told the exception. -/
namespace RL
open PySem PySem.Spec PyProof.Rows L2 L2H
/-! ### what such a def promises: it may know the handled exception -/
structure FnP (P : Program) (w : World) (K : PySem.W.Frag) (mg : Str → Option Value) (base : Heap) (k : Nat) (f : Addr) (fd : FuncData) (ps : List Str) (sp : (Addr × Obj) → Sp) : Prop where
  len : ∀ p vs H Q E, sp p vs H Q E → vs.length = ps.length
  run : ∀ (A : Around) (outer : List Env) (s : Shared) (H : Hp) (ar : PySem.Args) (us : List Value) (vs : List V) (Q : VK) (E : XK) (p : Addr × Obj), RoomH k A → PinOk outer H s p → Env0 P w K mg base A outer s H → BindsTo s fd ar (ps.zip us) → Vals vs us → sp p vs H Q E →
    codeAny (model P w) A (.call (.ref f) ar) (CR (L2.CX P w) outer P w H s Q E) s
section
variable {P : Program} {w : World} {K : PySem.W.Frag} {mg : Str → Option Value} {base : Heap}
theorem fnP_of {x qual : Str} {st : Stmt} {f : Addr} {fd : FuncData} {N ps : List Str} {k : Nat} {sp : (Addr × Obj) → Sp} (F : Fun K x qual st f fd) (S : FnScope N ps (defScope st)) (len : ∀ p vs H Q E, sp p vs H Q E → vs.length = ps.length)
    (hb0 : ∀ (cdv : Value) (A : Around) (outer : List Env) (s : Shared) (H : Hp) (vs : List V) (Q : VK) (E : XK) (p : Addr × Obj), RoomH k (A.deeper (envOfC qual (defScope st) s.heap.objs.size f cdv)) → sp p vs H Q E →
      ∃ t, PSs (cxH (L2.CX P w) P w K mg base N qual (defScope st) f cdv A outer s H E p) (defBody st) t ∧ t { nx := fun _ H' => Q .non H', rt := Q } (L2.start N vs) H) : FnP P w K mg base (k + 1) f fd ps sp := by
  obtain ⟨oc, od, kV, doc, pm, an, cdv, ct, osl, rfl, lk, hcd⟩ := F.ex
  refine ⟨len, fun A outer s H ar us vs Q E p room pin env bnd rel hsp => ?_⟩
  have inK : K.In s.heap := env.mod.kin.keeps fun a o q => (env.bs a o q).1
  have nolim : s.heap.NoLimit := env.mod.nolimit.keeps fun a o q => (env.bs a o q).1
  refine codeAny_call_function room.depth (inK _ _ lk) rfl S.co S.gen rfl (PySem.W.codeRec_of inK hcd) (bnd _ _ _ _ ?_)
  refine wpAny_newFunctionEnv_cells S.kind (fun y hy => ?_) fun env1 he s1 x => ?_
  · obtain ⟨n, v⟩ := y
    rcases S.par n (List.of_mem_zip hy).1 with z | z
    · exact Or.inl z
    · exact Or.inr ⟨z, PySem.W.cellsFrom_some _ _ _ (Or.inl z)⟩
  subst he
  refine ⟨nolim.keeps x.toInCall.keep, codeAny_func ?_⟩
  obtain ⟨t, d1, d2⟩ := hb0 cdv A outer s H vs Q E p (room.deeper _) hsp
  have I := inv_startH (CX := L2.CX P w) (qual := qual) (f := f) (E := E) S pin env (len _ _ _ _ _ hsp) rel x
  refine wpAny_mono (d1.run [] s1 (L2.start N vs) H _ I d2) (fun fl s' z => ?_) fun e s' z => z
  cases fl with
  | ret u =>
    obtain ⟨v, σ', H', J, rv, q⟩ := z
    exact ⟨v, H', J.os, J.bare, J.base, J.hok, rv, q⟩
  | next =>
    obtain ⟨σ', H', J, q⟩ := z
    exact ⟨V.non, H', J.os, J.bare, J.base, J.hok, rfl, q⟩
  | brk =>
    obtain ⟨_, _, _, q⟩ := z
    exact q.elim
  | cont =>
    obtain ⟨_, _, _, q⟩ := z
    exact q.elim
end
section
variable {X : Cx} {k : Nat} {f : Addr} {fd : FuncData} {ps : List Str} {sp : (Addr × Obj) → Sp} {x : Str} {q pos : Pos} {e : Expr} {es : List Expr} {t : TA} {p : Addr × Obj}
theorem pe_callP (F : FnP X.prog X.w X.K X.mg X.base k f fd ps sp) (hr : RoomH k X.A) (hp : p ∈ X.pn) (hg : Gl X x) (hm : X.mg x = some (.ref f)) (hk : PySem.W.keepIn X.K (.ref f) = true) (hb : Binds X.K fd ps [])
    (ha : PA X (e :: es) t) (hdb : (x == ("__debug__" : Str)) = false := by decide) (he : starEach (e :: es) X.env = (false, eval e X.env) :: starEach es X.env := by rfl) (hpl : (backTo pos (starEach es X.env)).any (·.1) = false := by rfl) :
    PE X (.Call (.Name x q) (e :: es) [] pos) (tCallS (sp p) (fun _ => E0) t) := by
  refine ⟨fun pins s σ H Q I h => wpAny_Call_Name_kw (ld_glob I hg hm ?_ hdb)⟩
  refine PySem.W.callWith_K (h₀ := X.base) I.ok.mod.kin hk (thn (ha.run pos pins s σ H _ I h) fun us s1 z => ?_) he hpl
  obtain ⟨vs, H1, J, r, h2⟩ := z
  refine ⟨J.kIn, ?_⟩
  have lu : us.length = ps.length := by rw [← r.length]; exact F.len _ _ _ _ _ h2
  have b := hb s1 us J.kIn (by rw [List.append_nil]; exact lu)
  rw [List.append_nil] at b
  have P1 := J.pin p (List.mem_append_left _ hp)
  have pinned : PinOk X.stack H1 s1 p := by
    refine ⟨P1.1, P1.2.1, fun hm => ?_, P1.2.2.2.2⟩
    rcases List.mem_cons.mp (J.stkSub p.1 hm) with z | z
    · exact P1.2.2.1 z
    · exact P1.2.2.2.1 z
  refine wpAny_call (codeAny_mono (F.run X.A X.stack s1 H1 ⟨us, []⟩ us vs Q E0 p hr pinned J.env0 b r h2) fun r s' w => ?_)
  match r, w with
  | .ok (.ret u), w => exact J.after w
  | .ok .next, w => exact w.elim
  | .ok .brk, w => exact w.elim
  | .ok .cont, w => exact w.elim
  | .error er, w => exact (passL (X := X) pins σ H1 s1 er s' J w)
end
/-! ### list.count of flat things -/
def rCntF (K : PySem.W.Frag) : V → List V → Hp → VK → Prop := fun x xs H Q => ∃ (p : Addr) (ys : List V) (y : V), x = .ref p ∧ xs = [y] ∧ SqL K H p ys ∧ flatV y = true ∧ ys.all flatV = true ∧ Q (.int ((ys.countP fun z => eqV z y : Nat) : Int)) H
theorem countP_eqU {x : V} : ∀ {xs : List V} {us : List Value}, Vals xs us → xs.all flatV = true → us.countP (eqU x) = xs.countP fun y => eqV y x
  | _, _, .nil, _ => rfl
  | _, _, .cons (a := y) r k, h => by
    have h' : flatV y = true ∧ List.all _ flatV = true := (Bool.and_eq_true _ _).mp h
    rw [List.countP_cons, List.countP_cons, countP_eqU k h'.2, eqU_of r h'.1]
theorem mt_countF {X : Cx} : MtR X "list.count" (rCntF X.K) := by
  intro pins s σ H x xs v us Q I rx rxs h
  obtain ⟨p, ys, y, rfl, rfl, hs, fy, fys, q⟩ := h
  cases rx
  obtain ⟨u, rfl, ru⟩ := rxs.one
  obtain ⟨its, rv, ⟨⟨cls, dd, data, sl⟩, n, ho, hc, hdn, hd⟩, hlen⟩ := I.list hs
  dsimp only at hc hd
  subst hc hd
  refine call_meets PySem.F.slot_list_count ⟨_, ho, rfl⟩ PySem.F.entry_list_count (PySem.F.args_list_count_2 _ _) (SeqAt.list_countAt p its.toArray n dd sl u (eqU y)) ⟨ho, fun z hz => mem_eqAt ru fy rv fys z (by simpa using hz), ?_⟩
  refine ⟨.int ((ys.countP fun z => eqV z y : Nat) : Int), H, I.tok _, ⟨s.toks, ?_⟩, q⟩
  show Value.int ((its.toArray.toList.countP (eqU y) : Nat) : Int) s.toks = _
  rw [← countP_eqU rv fys]
/-! ### the handled exception: isinstance, an attribute -/
/-- what the written part says of an exception's class -/
structure EClass (K : PySem.W.Frag) (C : Addr) : Prop where
  x : ExcC K C
  c : (PySem.W.clsIn K C).isSome = true
/-- p is an exception of the class C whose dict holds fs -/
def IsExc (H : Hp) (C : Addr) (fs : List (Str × V)) (p : Addr × Obj) : Prop := ∃ dd, Zc (.ref C) (some dd) p.2 ∧ (∃ vs, p.2.data = .fields vs) ∧ H dd = some (.xd fs)
theorem IsExc.ex {H H' : Hp} {C : Addr} {fs : List (Str × V)} {p : Addr × Obj} (e : Ex H H') (h : IsExc H C fs p) : IsExc H' C fs p := by
  obtain ⟨dd, h1, h2, h3⟩ := h
  exact ⟨dd, h1, h2, e _ _ h3⟩
theorem inst_exc {X : Cx} {pins : List (Addr × Obj)} {σ : L2.St} {H : Hp} {s : Shared} {C : Addr} {fs : List (Str × V)} {p : Addr × Obj} (I : Inv X pins σ H s) (hp : p ∈ X.pn) (h : IsExc H C fs p) : ∃ (od : Obj) (mA : Str → Option Value), PySem.W.InstAt s.heap p.1 p.2 C (some od) ∧ (∀ name, PySem.W.lookIn name od = some (mA name)) ∧ ∀ f, RelO (fs.lookup f) (mA f) := by
  obtain ⟨dd, hz, ⟨vs, hv⟩, hd⟩ := h
  obtain ⟨mA, hns, hr⟩ := (show ObjOk X.prog X.w H s.heap dd (.xd fs) from I.hok dd _ hd)
  obtain ⟨od, ho, hl⟩ := lookIn_ns hns
  obtain ⟨hget, _⟩ := I.pin p (List.mem_append_left _ hp)
  exact ⟨od, mA, ⟨hget, hz.1, by unfold PySem.W.notCls; rw [hv] <;> rfl, by rw [hz.2]; exact ho⟩, hl, hr⟩
def rIsP (K : PySem.W.Frag) (C : Addr) (fs : List (Str × V)) (p : Addr × Obj) : List V → Hp → VK → Prop := fun xs H Q => ∃ (c : V) (cv : Value) (b : Bool), xs = [.ref p.1, c] ∧ (∀ u, RelV c u → u = cv) ∧ IsExc H C fs p ∧ PySem.W.kitOne K (.ref C) cv = some b ∧ Q (.bl b) H
theorem call_isP {X : Cx} {C : Addr} {fs : List (Str × V)} {p : Addr × Obj} (E : EClass X.K C) (hp : p ∈ X.pn) : CallR X (.builtin "isinstance") (rIsP X.K C fs p) := by
  intro pins s σ H xs us Q I r h
  obtain ⟨c, cv, b, rfl, hcv, ie, e, q⟩ := h
  obtain ⟨u1, u2, rfl, r1, r2⟩ := vals2 r
  cases (show u1 = Value.ref p.1 from r1)
  have e2 := hcv _ r2
  subst e2
  obtain ⟨od, mA, J, _⟩ := inst_exc I hp ie
  exact PySem.W.kia_one (PySem.W.kitx_exc E.c E.x.hg E.x.hk E.x.hs E.x.ha E.x.hn E.x.ht E.x.hm) I.kIn J e (fun z => nomatch z) fun tk => ⟨.bl b, H, I.tok tk, rfl, q⟩
/-- e.f of it -/
def tByP (C : Addr) (fs : List (Str × V)) (f : Str) (p : Addr × Obj) (te : TE) : TE := fun σ H Q => te σ H fun x H1 => x = .ref p.1 ∧ IsExc H1 C fs p ∧ ∃ v, fs.lookup f = some v ∧ Q v H1
theorem pe_byP {X : Cx} {C : Addr} {fs : List (Str × V)} {f : Str} {p : Addr × Obj} {e : Expr} {te : TE} {pos : Pos} (E : EClass X.K C) (hp : p ∈ X.pn) (hno : PySem.W.findIn X.K (.ref C) f = some none) (he : PE X e te) (hb : attributeBase e f X.env (eval e X.env) = eval e X.env := by rfl) :
    PE X (.Attribute e f pos) (tByP C fs f p te) := by
  refine ⟨fun pins s σ H Q I h => attr_of hb (thn (he.run pins s σ H _ I h) fun u s1 z => ?_)⟩
  obtain ⟨x, H1, J1, rx, ex, ie, v, hv, q⟩ := z
  subst ex
  obtain rfl : u = Value.ref p.1 := rx
  obtain ⟨od, mA, J, hl, hr⟩ := inst_exc J1 hp ie
  obtain ⟨u, hu, ru⟩ := RelO.some_of (v := v) (o := mA f) (by rw [← hv]; exact hr f)
  exact HandSPX.exc_get J1.kIn J E.x.hg E.x.hk E.x.hs (PySem.W.findObj_own E.x.hd hno rfl (by rw [hl, hu])) (handed_of ru) ⟨v, H1, J1.tok _, ru, q⟩
end RL
set_option Elab.async false
set_option linter.all false
set_option maxRecDepth 100000
set_option maxHeartbeats 1000000
/-! RL, the laws' three defs that tell an error: what they are read as. -/
namespace RL
open PySem PySem.Spec PyProof.Rows L2 L2H
def errNames : List Str := ["BadEdit", "BadHistory", "BadText", "BadValue", "NotShown", "Ring", "Sealed", "TooOld", "NothingToUndo", "NothingToRedo", "BadVersion", "TwoFaces"]
def errLine : Str := "BadEdit BadHistory BadText BadValue NotShown Ring Sealed TooOld NothingToUndo NothingToRedo BadVersion TwoFaces"
/-- what the top says of the error classes -/
structure EFacts (K : PySem.W.Frag) (mg : Str → Option Value) (cA : Nat → Addr) (A0 : Addr) : Prop where
  g : ∀ i nm, errNames[i]? = some nm → mg nm = some (.ref (cA i))
  gA : mg "ApartError" = some (.ref A0)
  gV : mg "ValueError" = none
  gI : mg "isinstance" = none
/-- .. of a class that is raised -/
structure ERaise (K : PySem.W.Frag) (cA : Nat → Addr) (A0 : Addr) (r : Nat) : Prop where
  e : EClass K (cA r)
  kit : ∀ j, j < 12 → PySem.W.kitOne K (.ref (cA r)) (.ref (cA j)) = some (decide (r = j))
  kitA : PySem.W.kitOne K (.ref (cA r)) (.ref A0) = some true
  kitV : PySem.W.kitOne K (.ref (cA r)) (.type "ValueError") = some true
def spNamed (K : PySem.W.Frag) (cA : Nat → Addr) (A0 : Addr) : (Addr × Obj) → Sp := fun p vs H Q _ => ∃ (r : Nat) (fs : List (Str × V)) (nm : Str), r < 12 ∧ ERaise K cA A0 r ∧ vs = [.ref p.1] ∧ IsExc H (cA r) fs p ∧ errNames[r]? = some nm ∧ ∀ H', Ex H H' → Q (.str nm) H'
section
variable {K : PySem.W.Frag} {cA : Nat → Addr} {A0 C : Addr} {fs : List (Str × V)} {p : Addr × Obj}
abbrev tIs (K : PySem.W.Frag) (C : Addr) (fs : List (Str × V)) (p : Addr × Obj) (c : V) : TE := tCB (rIsP K C fs p) (tCons (tVar 0) (tCons (tC c) tNil))
def tNamed (K : PySem.W.Frag) (cA : Nat → Addr) (A0 C : Addr) (fs : List (Str × V)) (p : Addr × Obj) : TS :=
  tSeq (tAsg (tC (.str errLine)) (gName 1))
  (tSeq (tAsg (tLst (tCons (tIs K C fs p (.ref (cA 0))) (tCons (tIs K C fs p (.ref (cA 1))) (tCons (tIs K C fs p (.ref (cA 2))) (tCons (tIs K C fs p (.ref (cA 3))) tNil))))) (gName 2))
  (tSeq (tAsg (tOp rCat (tVar 2) (tLst (tCons (tIs K C fs p (.ref (cA 4))) (tCons (tIs K C fs p (.ref (cA 5))) (tCons (tIs K C fs p (.ref (cA 6))) (tCons (tIs K C fs p (.ref (cA 7))) tNil)))))) (gName 2))
  (tSeq (tAsg (tOp rCat (tVar 2) (tLst (tCons (tIs K C fs p (.ref (cA 8))) (tCons (tIs K C fs p (.ref (cA 9))) tNil)))) (gName 2))
  (tSeq (tAsg (tOp rCat (tVar 2) (tLst (tCons (tIs K C fs p (.ref (cA 10))) (tCons (tIs K C fs p (.ref (cA 11))) tNil)))) (gName 2))
  (tSeq (tIfS (tOr (tTest (tOp rNe (tBM K "list" (rCntF K) (tVar 2) (tCons (tC (.bl true)) tNil)) (tC (.int 1)))) (tOr (tNot (tB (tIs K C fs p (.ref A0)))) (tNot (tB (tIs K C fs p (.ty "ValueError")))))) (tRet (tC (.str "other"))) tNext)
  (tRet (tOp (rIxL K) (tM1 (fun x xs H Q => ∃ a b, x = V.str a ∧ xs = [V.str b] ∧ (b.length == 0) = false ∧ a.length + 2 ≤ sizeLine ∧ rNewStrs (Txt.split a b) H Q) (tVar 1) (tC (.str " "))) (tBM K "list" (rIndex K) (tVar 2) (tCons (tC (.bl true)) tNil)))))))))
theorem is_step {c : V} {cv : Value} {b : Bool} {σ : L2.St} {H : Hp} {Q : VK} (h0 : σ[0]? = some (some (.ref p.1))) (hc : ∀ u, RelV c u → u = cv) (ie : IsExc H C fs p) (k : PySem.W.kitOne K (.ref C) cv = some b) (q : Q (.bl b) H) : tIs K C fs p c σ H Q :=
  ⟨.ref p.1, h0, c, cv, b, rfl, hc, ie, k, q⟩
theorem fits_count : ∀ r, r < 12 → (([V.bl (decide (r = 0)), V.bl (decide (r = 1)), V.bl (decide (r = 2)), V.bl (decide (r = 3))] ++ [V.bl (decide (r = 4)), V.bl (decide (r = 5)), V.bl (decide (r = 6)), V.bl (decide (r = 7))] ++ [V.bl (decide (r = 8)), V.bl (decide (r = 9))] ++ [V.bl (decide (r = 10)), V.bl (decide (r = 11))]).countP fun z => eqV z (.bl true)) = 1 := by decide +kernel
theorem fits_at : ∀ r, r < 12 → ([V.bl (decide (r = 0)), V.bl (decide (r = 1)), V.bl (decide (r = 2)), V.bl (decide (r = 3))] ++ [V.bl (decide (r = 4)), V.bl (decide (r = 5)), V.bl (decide (r = 6)), V.bl (decide (r = 7))] ++ [V.bl (decide (r = 8)), V.bl (decide (r = 9))] ++ [V.bl (decide (r = 10)), V.bl (decide (r = 11))])[r]? = some (.bl true) := by
  intro r hr
  match r, hr with
  | 0, _ | 1, _ | 2, _ | 3, _ | 4, _ | 5, _ | 6, _ | 7, _ | 8, _ | 9, _ | 10, _ | 11, _ => rfl
theorem fits_first : ∀ r, r < 12 → ∀ (m : Nat) (z : V), m < r → ([V.bl (decide (r = 0)), V.bl (decide (r = 1)), V.bl (decide (r = 2)), V.bl (decide (r = 3))] ++ [V.bl (decide (r = 4)), V.bl (decide (r = 5)), V.bl (decide (r = 6)), V.bl (decide (r = 7))] ++ [V.bl (decide (r = 8)), V.bl (decide (r = 9))] ++ [V.bl (decide (r = 10)), V.bl (decide (r = 11))])[m]? = some z → eqV z (.bl true) = false := by
  intro r hr m z hm h
  have hz : z = .bl (decide (r = m)) := by
    match m, hm with
    | 0, _ | 1, _ | 2, _ | 3, _ | 4, _ | 5, _ | 6, _ | 7, _ | 8, _ | 9, _ | 10, _ | 11, _ => exact (Option.some.inj h).symm
    | m + 12, _ => omega
  have : decide (r = m) = false := decide_eq_false (by omega)
  rw [hz, this]
  rfl
theorem errs_split : Txt.split errLine " " = errNames := by decide +kernel
/-- the row of answers grown by a display -/
theorem cat_step {σ : L2.St} {H : Hp} {Q : VK} {a : Addr} {xs ys : List V} {t : TA} (h2 : σ[2]? = some (some (.ref a))) (hl : xs.length + ys.length ≤ 1000) (ha : H a = some (.lst xs))
    (ht : ∀ Q', Q' ys H → t σ H Q') (q : ∀ H' b, Ex H H' → H' b = some (.lst (xs ++ ys)) → Q (.ref b) H') : tOp rCat (tVar 2) (tLst t) σ H Q := by
  have big : (1000 : Nat) ≤ sizeLine := by rw [sizeLine_eq]; decide
  refine ⟨.ref a, h2, ht _ ⟨by omega, fun b hb => ⟨a, b, xs, ys, rfl, rfl, ?_, upd_same, by omega, fun c hc => q _ c ?_ upd_same⟩⟩⟩
  · rw [upd_ne (ne_of_none ha hb)]; exact ha
  · exact (Ex.new hb).trans (Ex.new hc)
theorem pure_named {r : Nat} {nm : Str} {H : Hp} {Q : VK} (hr : r < 12) (R : ERaise K cA A0 r) (ie : IsExc H (cA r) fs p) (hnm : errNames[r]? = some nm) (hq : ∀ H', Ex H H' → Q (.str nm) H') :
    tNamed K cA A0 (cA r) fs p { nx := fun _ H' => Q .non H', rt := Q } (L2.start ["error", "names", "fits"] [.ref p.1]) H := by
  have re : ∀ {a : Addr}, ∀ u, RelV (.ref a) u → u = .ref a := fun u h => h
  have one : (4 : Nat) ≤ sizeLine := by rw [sizeLine_eq]; decide
  refine is_step (σ := _) rfl re ie (R.kit 0 (by decide)) (is_step rfl re ie (R.kit 1 (by decide)) (is_step rfl re ie (R.kit 2 (by decide)) (is_step rfl re ie (R.kit 3 (by decide)) ⟨one, fun a ha => ?_⟩)))
  refine cat_step (ys := [.bl (decide (r = 4)), .bl (decide (r = 5)), .bl (decide (r = 6)), .bl (decide (r = 7))]) rfl (by simp) upd_same (fun Q' q' => ?_) fun H1 b e1 hb => ?_
  · have i1 := ie.ex (Ex.new (o := .lst [.bl (decide (r = 0)), .bl (decide (r = 1)), .bl (decide (r = 2)), .bl (decide (r = 3))]) ha)
    exact is_step rfl re i1 (R.kit 4 (by decide)) (is_step rfl re i1 (R.kit 5 (by decide)) (is_step rfl re i1 (R.kit 6 (by decide)) (is_step rfl re i1 (R.kit 7 (by decide)) q')))
  have e1 := (Ex.new ha).trans e1
  refine cat_step (ys := [.bl (decide (r = 8)), .bl (decide (r = 9))]) rfl (by simp) hb (fun Q' q' => ?_) fun H2 c e2 hc => ?_
  · have i1 := ie.ex e1
    exact is_step rfl re i1 (R.kit 8 (by decide)) (is_step rfl re i1 (R.kit 9 (by decide)) q')
  have e2 := e1.trans e2
  refine cat_step (ys := [.bl (decide (r = 10)), .bl (decide (r = 11))]) rfl (by simp) hc (fun Q' q' => ?_) fun H3 d e3 hd => ?_
  · have i1 := ie.ex e2
    exact is_step rfl re i1 (R.kit 10 (by decide)) (is_step rfl re i1 (R.kit 11 (by decide)) q')
  have e3 := e2.trans e3
  have i3 := ie.ex e3
  have flat : ∀ r, ([V.bl (decide (r = 0)), V.bl (decide (r = 1)), V.bl (decide (r = 2)), V.bl (decide (r = 3))] ++ [V.bl (decide (r = 4)), V.bl (decide (r = 5)), V.bl (decide (r = 6)), V.bl (decide (r = 7))] ++ [V.bl (decide (r = 8)), V.bl (decide (r = 9))] ++ [V.bl (decide (r = 10)), V.bl (decide (r = 11))]).all flatV = true := fun r => rfl
  refine ⟨.ref d, rfl, .inl ⟨rfl, _, .inl (.inl hd)⟩, d, _, _, rfl, rfl, .inl (.inl hd), rfl, flat r, ?_⟩
  rw [fits_count r hr]
  refine ⟨rfl, false, rfl, ?_⟩
  refine iteF ?_
  refine is_step rfl re i3 R.kitA ⟨true, rfl, ?_⟩
  refine iteF ?_
  refine is_step rfl (fun u h => h) i3 R.kitV ⟨true, rfl, ?_⟩
  refine iteF ?_
  refine ⟨_, rfl, ⟨_, rfl⟩, _, _, rfl, rfl, rfl, by decide +kernel, fun t ht => ?_⟩
  have hdt := (upd_ne (o := .lst ((Txt.split errLine " ").map V.str)) (ne_of_none hd ht)).trans hd
  refine ⟨.ref d, rfl, .inl ⟨rfl, _, .inl (.inl hdt)⟩, d, _, _, r, _, rfl, rfl, .inl (.inl hdt), rfl, flat r, fits_at r hr, rfl, fits_first r hr, ?_⟩
  refine ⟨t, _, _, .str nm, rfl, rfl, .inl (.inl upd_same), ?_, hq _ (e3.trans (Ex.new ht))⟩
  rw [errs_split]
  exact atI_nat (by rw [List.getElem?_map, hnm]; rfl)
/-! the attributes -/
def attrNames : List Str := ["word", "index", "line", "column", "name", "slot", "nodes", "id", "version", "hand"]
def attrsOf : Nat → List Str
  | 1 => ["index", "word"]
  | 3 => ["name"]
  | 10 => ["hand"]
  | _ => []
def errSome (r : Nat) : Bool := r == 1 || r == 3 || r == 10
def spAttr (K : PySem.W.Frag) (cA : Nat → Addr) (A0 : Addr) : (Addr × Obj) → Sp := fun p vs H Q _ => ∃ (r : Nat) (ys : List V) (nm : Str), errSome r = true ∧ ERaise K cA A0 r ∧ (∀ f ∈ attrNames, PySem.W.findIn K (.ref (cA r)) f = some none) ∧ vs = [.ref p.1, .str nm] ∧ errNames[r]? = some nm ∧ ys.length = (attrsOf r).length ∧
  IsExc H (cA r) ((attrsOf r).reverse.zip ys.reverse) p ∧ ∀ H' t, Ex H H' → H' t = none → Q (.ref t) (upd H' t (.tup ys))
abbrev tIfN (x : Str) (t : TS) : TS := tIfS (tTest (tOp rEq (tVar 1) (tC (.str x)))) t tNext
def tAttr (K : PySem.W.Frag) (C : Addr) (fs : List (Str × V)) (p : Addr × Obj) : TS :=
  tSeq (tIfN "BadEdit" (tRet (tTup (tCons (tByP C fs "word" p (tVar 0)) tNil))))
  (tSeq (tIfN "BadHistory" (tRet (tTup (tCons (tByP C fs "index" p (tVar 0)) (tCons (tByP C fs "word" p (tVar 0)) tNil)))))
  (tSeq (tIfN "BadText" (tRet (tTup (tCons (tByP C fs "line" p (tVar 0)) (tCons (tByP C fs "column" p (tVar 0)) tNil)))))
  (tSeq (tIfN "BadValue" (tRet (tTup (tCons (tByP C fs "name" p (tVar 0)) tNil))))
  (tSeq (tIfN "NotShown" (tRet (tTup (tCons (tByP C fs "slot" p (tVar 0)) tNil))))
  (tSeq (tIfN "Ring" (tRet (tTup (tCons (tByP C fs "nodes" p (tVar 0)) tNil))))
  (tSeq (tIfS (tTest (tOp (rIn K false) (tVar 1) (tTup (tCons (tC (.str "Sealed")) (tCons (tC (.str "TwoFaces")) tNil))))) (tRet (tTup (tCons (tByP C fs "id" p (tVar 0)) tNil))) tNext)
  (tSeq (tIfN "TooOld" (tRet (tTup (tCons (tByP C fs "version" p (tVar 0)) tNil))))
  (tSeq (tIfN "BadVersion" (tRet (tTup (tCons (tByP C fs "hand" p (tVar 0)) tNil))))
  (tRet (tTup tNil))))))))))
theorem if_no {σ : L2.St} {H : Hp} {D : Ends} {x nm : Str} {t : TS} (h1 : σ[1]? = some (some (.str nm))) (h : (decide (V.str nm = V.str x)) = false) (q : D.nx σ H) : tIfN x t D σ H := by
  refine ⟨_, h1, rfl, _, rfl, ?_⟩
  rw [h]
  exact iteF q
theorem if_yes {σ : L2.St} {H : Hp} {D : Ends} {x nm : Str} {t : TS} (h1 : σ[1]? = some (some (.str nm))) (h : (decide (V.str nm = V.str x)) = true) (q : t D σ H) : tIfN x t D σ H := by
  refine ⟨_, h1, rfl, _, rfl, ?_⟩
  rw [h]
  exact iteT q
theorem pure_attr {r : Nat} {ys : List V} {nm : Str} {H : Hp} {Q : VK} (hr : errSome r = true) (hnm : errNames[r]? = some nm) (hl : ys.length = (attrsOf r).length) (ie : IsExc H (cA r) ((attrsOf r).reverse.zip ys.reverse) p) (hq : ∀ H' t, Ex H H' → H' t = none → Q (.ref t) (upd H' t (.tup ys))) :
    tAttr K (cA r) ((attrsOf r).reverse.zip ys.reverse) p { nx := fun _ H' => Q .non H', rt := Q } (L2.start ["e", "name"] [.ref p.1, .str nm]) H := by
  have one : (1 : Nat) ≤ sizeLine := by rw [sizeLine_eq]; decide
  have two : (2 : Nat) ≤ sizeLine := by rw [sizeLine_eq]; decide
  have hr' : r = 1 ∨ r = 3 ∨ r = 10 := by
    simp only [errSome, Bool.or_eq_true, beq_iff_eq] at hr
    rcases hr with (h | h) | h <;> simp [h]
  rcases hr' with rfl | rfl | rfl
  · cases hnm
    match ys, hl with
    | [a, b], _ =>
      refine if_no rfl rfl (if_yes rfl rfl ?_)
      exact ⟨_, rfl, rfl, ie, a, rfl, _, rfl, rfl, ie, b, rfl, two, fun t ht => hq H t (Ex.refl _) ht⟩
  · cases hnm
    match ys, hl with
    | [a], _ =>
      refine if_no rfl rfl (if_no rfl rfl (if_no rfl rfl (if_yes rfl rfl ?_)))
      exact ⟨_, rfl, rfl, ie, a, rfl, one, fun t ht => hq H t (Ex.refl _) ht⟩
  · cases hnm
    match ys, hl with
    | [a], _ =>
      refine if_no rfl rfl (if_no rfl rfl (if_no rfl rfl (if_no rfl rfl (if_no rfl rfl (if_no rfl rfl ?_)))))
      refine ⟨_, rfl, two, fun t ht => ⟨t, _, rfl, .inr (.inl (.inl upd_same)), rfl, rfl, false, rfl, iteF ?_⟩⟩
      refine if_no rfl rfl (if_yes rfl rfl ?_)
      exact ⟨_, rfl, rfl, ie.ex (Ex.new ht), a, rfl, one, fun t' ht' => hq _ t' (Ex.new ht) ht'⟩
/-! the row that tells an error -/
def spErr (K : PySem.W.Frag) (cA : Nat → Addr) (A0 : Addr) : (Addr × Obj) → Sp := fun p vs H Q _ => ∃ (r : Nat) (ys : List V) (nm : Str), errSome r = true ∧ ERaise K cA A0 r ∧ (∀ f ∈ attrNames, PySem.W.findIn K (.ref (cA r)) f = some none) ∧ vs = [.ref p.1] ∧ errNames[r]? = some nm ∧ ys.length = (attrsOf r).length ∧
  IsExc H (cA r) ((attrsOf r).reverse.zip ys.reverse) p ∧ ∀ H' t l, Ex H H' → H' t = none → l ≠ t → H' l = none → Q (.ref l) (upd (upd H' t (.tup ys)) l (.lst [.str "raised", .str nm, .ref t]))
def tErr (K : PySem.W.Frag) (cA : Nat → Addr) (A0 : Addr) (p : Addr × Obj) : TS :=
  tSeq (tAsg (tCallS (spNamed K cA A0 p) (fun _ => E0) (tCons (tVar 0) tNil)) (gName 1)) (tRet (tLst (tCons (tC (.str "raised")) (tCons (tVar 1) (tCons (tCallS (spAttr K cA A0 p) (fun _ => E0) (tCons (tVar 0) (tCons (tVar 1) tNil))) tNil)))))
theorem pure_err {H : Hp} {Q : VK} {vs : List V} {E : XK} (h : spErr K cA A0 p vs H Q E) : tErr K cA A0 p { nx := fun _ H' => Q .non H', rt := Q } (L2.start ["error", "name"] vs) H := by
  obtain ⟨r, ys, nm, h1, h2, h3, rfl, h4, h5, h6, q⟩ := h
  have r12 : r < 12 := by
    have := (List.getElem?_eq_some_iff.mp h4).1
    simpa [errNames] using this
  have three : (3 : Nat) ≤ sizeLine := by rw [sizeLine_eq]; decide
  refine ⟨_, rfl, r, _, nm, r12, h2, rfl, h6, h4, fun H1 e1 => ?_⟩
  refine ⟨_, rfl, _, rfl, _, rfl, r, ys, nm, h1, h2, h3, rfl, h4, h5, h6.ex e1, fun H2 t e2 ht => ⟨three, fun l hl => ?_⟩⟩
  have hlt : l ≠ t := fun z => by rw [z, upd_same] at hl; cases hl
  rw [upd_ne hlt] at hl
  exact q H2 t l (e1.trans e2) ht hlt hl
end
/-! ### try .. except ApartError as e: return _law_error(e) -/
section
variable {T : Tb} {X : Cx} {W : WX} {P : Pr} {Φ : Hd'} {F H F1 H1 F2 H2 : Hp} {σ σ1 : List (Option V)} {env env1 : Env'} {fp fp1 : Nat → List Addr} {t1 a1 : List Nat}
/-- behind the suite: the new row -/
theorem PostS.told {i : Nat} {t l : Addr} {ys : List V} {xs : List D} {nm : Str} {H' : Hp} (p : PostS T F H σ env fp t1 a1 F1 H1 σ1 env1 fp1 [] []) (hs : σ.length = env.length) (e : Ex H1 H') (ht : H' t = none) (hlt : l ≠ t) (hl : H' l = none) (ho : OwnL T F1 H1 xs ys []) :
    ∃ F2 fp2, PostS T F H σ env fp (i :: t1) (i :: a1) F2 (upd (upd H' t (.tup ys)) l (.lst [.str "raised", .str nm, .ref t])) σ1 (env1.set i none) fp2 [some (.ref l)] [some (.olst [.str "raised", .str nm, .tup xs])] := by
  have q := p.kill i
  have R0 : Rel T F1 H1 σ1 (env1.set i none) fp1 := by simpa using q.rel
  have ft : F1 t = none := by
    cases z : F1 t with
    | none => rfl
    | some u => rw [e _ _ (p.rel.sub _ _ z)] at ht; cases ht
  have nt : ∀ {b : Addr} {o : HO}, H1 b = some o → b ≠ t ∧ b ≠ l := fun {b o} z => ⟨ne_of_none (e _ _ z) ht, ne_of_none (e _ _ z) hl⟩
  let H3 := upd (upd H' t (.tup ys)) l (.lst [.str "raised", .str nm, .ref t])
  have at_ : ∀ {b : Addr} {o : HO}, H1 b = some o → H3 b = some o := fun {b o} z => by
    show upd (upd H' t _) l _ b = _
    rw [upd_ne (nt z).2, upd_ne (nt z).1]; exact e _ _ z
  have sub3 : Ex (upd F1 t (.tup ys)) H3 := fun b u z => by
    by_cases hb : b = t
    · subst hb
      rw [upd_same] at z
      show upd (upd H' b _) l _ b = _
      rw [upd_ne (Ne.symm hlt), upd_same]; exact z
    · rw [upd_ne hb] at z
      exact at_ (p.rel.sub _ _ z)
  have R1 := R0.heap (F' := upd F1 t (.tup ys)) (H' := H3) (Ex.new ft) sub3 fun j a m => by
    obtain ⟨o, z⟩ := R0.dom j a m
    refine ⟨by rw [at_ z, z], ?_⟩
    rw [upd_ne (nt z).1]; exact R0.out j a m
  have nl : ∀ j, l ∉ fp1 j := fun j m => by
    obtain ⟨o, z⟩ := R0.dom j l m
    exact (nt z).2 rfl
  have fl : upd F1 t (.tup ys) l = none := by
    rw [upd_ne hlt]
    cases z : F1 l with
    | none => rfl
    | some u => rw [e _ _ (p.rel.sub _ _ z)] at hl; cases hl
  have own : Own T (upd F1 t (.tup ys)) H3 (.olst [.str "raised", .str nm, .tup xs]) (.ref l) [l] := by
    unfold Own
    refine .inr ⟨rfl, l, [.str "raised", .str nm, .ref t], [], rfl, rfl, upd_same, ?_⟩
    have hx : OwnL T (upd F1 t (.tup ys)) H3 xs ys [] := OwnL.mono (Ex.new ft) xs ys [] (by simp) ho
    have htup : Own T (upd F1 t (.tup ys)) H3 (.tup xs) (.ref t) [] := by
      unfold Own
      exact .inl ⟨rfl, rfl, t, ys, rfl, upd_same, hx⟩
    exact OwnL.cons_ (f := []) (g := []) ⟨rfl, rfl⟩ (OwnL.cons_ (f := []) (g := []) ⟨rfl, rfl⟩ (OwnL.cons_ (f := []) (g := []) htup OwnL.nil_))
  have R2 := R1.push own (by simp) fun a m => by
    have : a = l := by simpa using m
    subst this
    exact ⟨nl, fl⟩
  have hlen : (env1.set i none).length = env.length := by simp [p.len]
  rw [hlen] at R2
  refine ⟨_, _, hlen, p.sl, R2, ?_, fun j hj hl' => ?_, fun j hj => p.st j fun z => hj (List.mem_cons_of_mem _ z)⟩
  · refine p.tr.trans ⟨Ex.new ft, fun a o z _ => at_ z, fun a u z => ?_, fun j a m => ?_⟩
    · by_cases ha : a = t
      · subst ha
        refine .inr (.inr ?_)
        cases z2 : H1 a with
        | none => rfl
        | some o => rw [e _ _ z2] at ht; cases ht
      · rw [upd_ne ha] at z; exact .inl ⟨u, z⟩
    · unfold setFp at m
      split at m
      · have : a = l := by simpa using m
        subst this
        refine .inr ?_
        cases z2 : H1 a with
        | none => rfl
        | some o => rw [e _ _ z2] at hl; cases hl
      · exact .inl ⟨j, m⟩
  · have hj' : j ≠ i ∧ j ∉ t1 := ⟨fun z => hj (z ▸ List.mem_cons_self), fun z => hj (List.mem_cons_of_mem _ z)⟩
    obtain ⟨s1, s2, s3, s4⟩ := p.same j hj'.2 hl'
    rw [setFp_ne (by omega), List.getElem?_set_ne (Ne.symm hj'.1)]
    refine ⟨s1, s2, s3, fun a m => ?_⟩
    obtain ⟨o, z⟩ := R0.dom j a (by rw [s3]; exact m)
    show H3 a = _
    rw [at_ z, ← s4 a m, z]
/-- what the top says of the def that tells an error -/
structure ErrOk (T : Tb) (X : Cx) (P : Pr) (k : Nat) (y : Str) (cA : Nat → Addr) (A0 : Addr) : Prop where
  fn : ∃ fE fd, X.mg y = some (.ref fE) ∧ PySem.W.keepIn X.K (.ref fE) = true ∧ Binds X.K fd ["error"] [] ∧ FnP X.prog X.w X.K X.mg X.base k fE fd ["error"] (spErr X.K cA A0)
  err : ∀ c ns xs d, P.err c ns xs = some d → ∃ r nm, T.cA c = cA r ∧ errSome r = true ∧ ERaise X.K cA A0 r ∧ (∀ f ∈ attrNames, PySem.W.findIn X.K (.ref (cA r)) f = some none) ∧ errNames[r]? = some nm ∧ ns = (attrsOf r).reverse ∧ d = .olst [.str "raised", .str nm, .tup xs.reverse] ∧ PySem.W.exmOne X.K (.ref (cA r)) (.ref A0) = some true
theorem ownL_len : ∀ {ds : List D} {vs : List V} {g : List Addr}, OwnL T F H ds vs g → ds.length = vs.length
  | [], vs, g, h => by
    have h' : vs = [] ∧ _ := h
    rw [h'.1]; rfl
  | d :: ds, vs, g, h => by
    unfold OwnL at h
    obtain ⟨v, ws, f, g2, rfl, _, _, h2⟩ := h
    simp [ownL_len h2]
theorem sx_try (O : XOk T X W P) (tk : Takes X W) {k i : Nat} {n x y : Str} {cA : Nat → Addr} {A0 : Addr} {ils : List St'} {body : List Stmt} {np p1 p2 p3 p4 pos' pos : Pos} (hr : Room k X.A) (hs0 : X.stack = X.env :: X.outer) (hf0 : X.env.frame = some X.env.locals) (hi : X.N[i]? = some n) (hln : X.env.kindOf n = some .local)
    (hc : Names X x (.ref A0)) (E : ErrOk T X P k y cA A0) (hgy : Gl X y) (hdy : (y == ("__debug__" : Str)) = false) (hdn : (n == ("__debug__" : Str)) = false) (hdc : (n == ("__classdict__" : Str)) = false)
    (hb : ∀ (W' : WX) (pn : List (Addr × Obj)) (xe : Value → Shared → Prop), Takes (X.tr pn xe) W' → PassesOwn (model X.prog X.w) X.A X.env xe → SA T (X.tr pn xe) W' P Φ ils body) :
    SX T X W P Φ (.tryE ils i) (.Try body [.ExceptHandler (some (.Name x np)) (some n) [.Return (some (.Call (.Name y p1) [.Name n p2] [] p3)) p4] pos'] [] [] pos) := by
  obtain ⟨fE, fd, g1, g2, g3, g4⟩ := E.fn
  let tb : WX → TS := fun W' D σ H => ∀ (pn : List (Addr × Obj)) (xe : Value → Shared → Prop), Takes (X.tr pn xe) W' → PassesOwn (model X.prog X.w) X.A X.env xe → ∀ pins s, Inv (X.tr pn xe) pins σ H s → wpAny (model X.prog X.w) X.A (execs body X.env) (SP (X.tr pn xe) pins D) xe s
  have tbok : ∀ W', GoodS T W' (exSs P Φ ils) (touchSs ils) (asgSs ils) (tb W') := fun W' F H σ env fp o env2 hs R e D kn kb kc kr kx pn xe tk' po pins s I => by
    obtain ⟨t, h1, h2⟩ := (hb W' pn xe tk' po).ok
    exact h1.run pins s σ H D I (h2 F H σ env fp o env2 hs R e D kn kb kc kr kx)
  let ts : Addr → Value → Option Addr → TS := fun a cls d D σ H => ∀ oe, Zc cls d oe → (∃ vs, oe.data = .fields vs) → (tRet (tCallS (spErr X.K cA A0 (a, oe)) (fun _ => E0) (tCons (tVar i) tNil))) D σ H
  refine ⟨⟨_, ps_try_as (tb := tb) (ts := ts) hs0 hf0 O.nd hi hln hc tk (fun W' pn xe tk' po => ⟨fun pins s σ H D I h => h pn xe tk' po pins s I⟩) (fun a oe cls d pn hz hd => ⟨fun pins s σ H D I h => ?_⟩), fun F H σ env fp o env2 hs R e D kn kb kc kr kx => ?_⟩⟩
  · have hn : Vis (X.suite a ((a, oe) :: pn)).env.scope n := .inl hln
    have q : PSs (X.suite a ((a, oe) :: pn)) [.Return (some (.Call (.Name y p1) [.Name n p2] [] p3)) p4] _ := pss_one (ps_ret (pe_callP (X := X.suite a ((a, oe) :: pn)) (p := (a, oe)) g4 ⟨hr.dp, hr.un⟩ List.mem_cons_self hgy g1 g2 g3 (pa_cons (pe_var hi hn hdn hdc) pa_nil) hdy))
    exact q.run pins s σ H D I (h oe hz hd)
  · have w : ∀ j ∈ touchSs ils, j ∈ touchS (.tryE ils i) := fun j z => by simp [touchS, z]
    have w' : ∀ j ∈ asgSs ils, j ∈ asgS (.tryE ils i) := fun j z => by simp [asgS, z]
    have e' : (match exSs P Φ ils env with
      | some (.ex c ns xs, e') => (match decide (i < e'.length) with
        | true => (P.err c ns xs).map fun d => (.rt d, e'.set i none)
        | false => none)
      | r => r) = some (o, env2) := e
    cases hx : exSs P Φ ils env with
    | none => rw [hx] at e'; cases e'
    | some r =>
      obtain ⟨o1, e1⟩ := r
      rw [hx] at e'
      refine tbok (wAs X.K (.ref A0) i ts W D) F H σ env fp _ _ hs R hx D (fun eo F2 H2 σ2 fp2 p => ?_) (fun eo F2 H2 σ2 fp2 p => ?_) (fun eo F2 H2 σ2 fp2 p => ?_) (fun d eo F2 H2 σ2 fp2 v p => ?_) (fun c ns xs eo F2 H2 σ2 fp2 d ws p x1 x2 => ?_)
      · subst eo
        obtain ⟨rfl, rfl⟩ := Prod.mk.inj (Option.some.inj e')
        exact kn rfl F2 H2 σ2 fp2 (p.weak w w')
      · subst eo
        obtain ⟨rfl, rfl⟩ := Prod.mk.inj (Option.some.inj e')
        exact kb rfl F2 H2 σ2 fp2 (p.weak w w')
      · subst eo
        obtain ⟨rfl, rfl⟩ := Prod.mk.inj (Option.some.inj e')
        exact kc rfl F2 H2 σ2 fp2 (p.weak w w')
      · subst eo
        obtain ⟨rfl, rfl⟩ := Prod.mk.inj (Option.some.inj e')
        exact kr d rfl F2 H2 σ2 fp2 v (p.weak w w')
      · subst eo
        cases hd : P.err c ns xs with
        | none => (simp only [hd] at e'; split at e' <;> cases e')
        | some dd =>
          have hlt : i < e1.length := by
            cases z : decide (i < e1.length) with
            | true => exact of_decide_eq_true z
            | false => simp only [z] at e'; cases e'
          simp only [hd, hlt, decide_true, Option.map_some] at e'
          obtain ⟨rfl, rfl⟩ := Prod.mk.inj (Option.some.inj e')
          obtain ⟨r, nm, hcA, k1, k2, k3, k4, rfl, rfl, k5⟩ := E.err c ns xs dd hd
          rw [hcA]
          refine ⟨true, k5, fun _ a ha oe hz hfd => ?_, fun z => by cases z⟩
          have hil : i < σ2.length := by rw [p.sl, hs, ← p.len]; exact hlt
          have hlw : ws.length = (attrsOf r).length := by
            rcases x1 with ⟨_, z1, z2⟩ | ⟨_, _, _, z⟩
            · rw [z2]; have := congrArg List.length z1; simpa using this.symm
            · simpa using z.symm
          have ie : IsExc H2 (cA r) ((attrsOf r).reverse.zip ws.reverse.reverse) (a, oe) := by
            rw [List.reverse_reverse]
            rcases x1 with ⟨_, z1, z2⟩ | ⟨dd, rfl, z1, _⟩
            · exfalso
              have := congrArg List.length z1
              simp at this
              have hr' : r = 1 ∨ r = 3 ∨ r = 10 := by
                simp only [errSome, Bool.or_eq_true, beq_iff_eq] at k1
                rcases k1 with (h | h) | h <;> simp [h]
              rcases hr' with rfl | rfl | rfl <;> simp [attrsOf] at this
            · exact ⟨dd, hz, hfd, z1⟩
          refine ⟨.ref a, List.getElem?_set_self hil, r, ws.reverse, nm, k1, k2, k3, rfl, k4, by simpa using hlw, ie, fun H' t l e3 ht hlt hl => ?_⟩
          obtain ⟨F3, fp3, p3⟩ := PostS.told (i := i) (nm := nm) p hs e3 ht hlt hl x2.rev
          exact kr _ rfl F3 _ σ2 fp3 (.ref l) (p3.weak (fun j z => by simpa [touchS] using z) (fun j z => by simpa [asgS] using z))
end
end RL
set_option Elab.async false
set_option linter.all false
set_option maxRecDepth 100000
set_option maxHeartbeats 4000000
/-! RL, dict comprehensions whose values are not own. -/
namespace RL
open PySem PySem.Spec PyProof.Rows L2
section
variable {κ : Type} [DecidableEq κ]
theorem map_skip {q : κ} {w : V} : ∀ {ks : List κ} {vs : List V}, q ∉ ks → (ks.zip vs).map (fun kv => if kv.1 = q then (kv.1, w) else kv) = ks.zip vs
  | [], vs, _ => by simp
  | k :: ks, [], _ => by simp
  | k :: ks, v :: vs, h => by
    simp only [List.mem_cons, not_or] at h
    simp only [List.zip_cons_cons, List.map_cons, map_skip h.2, if_neg (Ne.symm h.1)]
theorem map_set {q : κ} {w : V} : ∀ {ks : List κ} {vs : List V} {j : Nat}, ks.length = vs.length → ks.Nodup → pos q ks = some j → (ks.zip vs).map (fun kv => if kv.1 = q then (kv.1, w) else kv) = ks.zip (vs.set j w)
  | [], vs, j, _, _, h => by simp [pos] at h
  | k :: ks, [], j, h, _, _ => by simp at h
  | k :: ks, v :: vs, j, hl, hn, h => by
    have hn' := List.nodup_cons.mp hn
    unfold pos at h
    by_cases e : k = q
    · rw [if_pos e] at h
      obtain rfl := (Option.some.inj h).symm
      subst e
      simp [map_skip hn'.1]
    · rw [if_neg e] at h
      cases hp : pos q ks with
      | none => rw [hp] at h; cases h
      | some j' =>
        rw [hp] at h
        obtain rfl := (Option.some.inj h).symm
        simp [map_set (by simpa using hl) hn'.2 hp, if_neg e]
theorem putK_zip {ks : List κ} {vs : List V} {q : κ} {w : V} (hl : ks.length = vs.length) (hn : ks.Nodup) : putK (ks.zip vs) q w = (match pos q ks with
    | some j => ks.zip (vs.set j w)
    | none => (ks ++ [q]).zip (vs ++ [w])) := by
  have hv := valV_zip q hl
  unfold putK
  rw [valV_any, hv]
  cases hp : pos q ks with
  | none => simp [List.zip_append hl]
  | some j =>
    have hjl := (List.getElem?_eq_some_iff.mp (pos_some hp)).1
    have hvj : vs[j]? = some vs[j] := List.getElem?_eq_getElem (by omega)
    simp only [Option.bind_some, hvj, Option.isSome_some, if_true]
    exact map_set hl hn hp
end
section
variable {T : Tb} {X : Cx} {W : WX} {P : Pr} {Φ : Hd'} {F H F1 H1 F2 H2 : Hp} {σ τ pv : List (Option V)} {env env1 ts pd : Env'} {fp fp1 fp2 : Nat → List Addr} {t1 t2 own : List Nat}
theorem putE_spec {ks : List Key} {ds : List D} {vs : List V} {g : List Addr} {q : Key} {x : D} {w : V} (h : OwnL T F H ds vs g) (hl : ks.length = vs.length) (hn : ks.Nodup) (hx : Own T F H x w []) :
    ∃ us g2, putK (ks.zip vs) q w = (putE ks ds q x).1.zip us ∧ (putE ks ds q x).1.length = us.length ∧ (putE ks ds q x).1.Nodup ∧ OwnL T F H (putE ks ds q x).2 us g2 ∧ List.Sublist g2 g := by
  have hd := ownL_len h
  rw [putK_zip hl hn]
  unfold putE
  cases hp : pos q ks with
  | none =>
    refine ⟨vs ++ [w], g, rfl, by simp [hl], ?_, ?_, List.Sublist.refl _⟩
    · refine List.nodup_append.mpr ⟨hn, by simp, fun a ha b hb e => ?_⟩
      have : b = q := by simpa using hb
      subst this
      subst e
      exact pos_none hp ha
    · have := OwnL.append h (OwnL.cons_ hx OwnL.nil_)
      simpa using this
  | some j =>
    have hj : j < ds.length := by have := pos_lt hp; omega
    obtain ⟨p, q', r, e1, e2⟩ := OwnL.set h hj hx
    refine ⟨vs.set j w, p ++ [] ++ r, rfl, by simp [hl], hn, e2, ?_⟩
    rw [e1]
    simp only [List.append_nil]
    exact List.Sublist.append (List.sublist_append_left _ _) (List.Sublist.refl _)
/-- a temporary put into a temporary dict -/
theorem Rel.put1 {S : List (Option V)} {E : Env'} {a : Addr} {v : V} {ks : List Key} {ds : List D} {d : D} {q : Key} (R : Rel T F H ((S ++ [some (.ref a)]) ++ [some v]) ((E ++ [some (.nd true (.dK ks) ds)]) ++ [some d]) fp) (hl : S.length = E.length) (hf : d.own = false) :
    ∃ vs fp2, H a = some (.dK (ks.zip vs)) ∧ ks.length = vs.length ∧ Rel T F (upd H a (.dK (putK (ks.zip vs) q v))) (S ++ [some (.ref a)]) (E ++ [some (.nd true (.dK (putE ks ds q d).1) (putE ks ds q d).2)]) fp2 ∧
      (∀ i, i < E.length → fp2 i = fp i ∧ ∀ z ∈ fp i, upd H a (.dK (putK (ks.zip vs) q v)) z = H z) ∧ (∀ i z, z ∈ fp2 i → ∃ j, z ∈ fp j) ∧ a ∈ fp E.length := by
  have hr : (E ++ [some (D.nd true (.dK ks) ds)])[E.length]? = some (some (.nd true (.dK ks) ds)) := by simp
  have hv : (S ++ [some (V.ref a)])[E.length]? = some (some (.ref a)) := by rw [← hl]; simp
  obtain ⟨w, q1, q2⟩ := R.at_ E.length (.nd true (.dK ks) ds) (by rw [List.getElem?_append_left (by simp)]; exact hr)
  rw [List.getElem?_append_left (by simp; omega), hv] at q1
  obtain rfl : V.ref a = w := by simpa using q1
  obtain ⟨w2, q3, q4⟩ := R.at_ (E.length + 1) d (by rw [List.getElem?_append_right (by simp)]; simp)
  rw [List.getElem?_append_right (by simp; omega)] at q3
  obtain rfl : v = w2 := by
    have : E.length + 1 - (S ++ [some (V.ref a)]).length = 0 := by simp; omega
    rw [this] at q3
    simpa using q3
  have q4' : Own T F H d v [] := by rw [← q4.top hf]; exact q4
  have q2' := q2
  unfold Own at q2'
  rcases q2' with ⟨z, _⟩ | ⟨_, a2, vs, g, ea, eb, ⟨⟨h3, h3n⟩, h3H⟩, h4⟩
  · cases z
  cases ea
  obtain ⟨fp', R', hoth, hsub, ar⟩ := Rel.mut (S := S ++ [some (.ref a)]) (A := [some v]) (E := E ++ [some (.nd true (.dK ks) ds)]) (B := [some d]) (o' := .dK (putK (ks.zip vs) q v)) (d := .nd true (.dK ks) ds) (d' := .nd true (.dK (putE ks ds q d).1) (putE ks ds q d).2) (p := []) R (by simp [hl]) hr hv rfl rfl rfl (by
    intro b hb hnd hk hin
    unfold Own at hb
    rcases hb with ⟨z, _⟩ | ⟨_, a2, us, g, ea, eb, ⟨⟨k3, k3n⟩, k3H⟩, k4⟩
    · cases z
    · cases ea
      cases eb
      have e0 : ks.zip us = ks.zip vs := by
        rw [h3H] at k3H
        injection (Option.some.inj k3H) with e
        exact e.symm
      have e1 : us = vs := by
        have := congrArg (List.map Prod.snd) e0
        rwa [List.map_snd_zip (by omega), List.map_snd_zip (by omega)] at this
      subst e1
      obtain ⟨us2, g2, p1, p2, p3, p4, p5⟩ := putE_spec (q := q) k4 k3 k3n q4'
      have an : a ∉ b := (List.nodup_cons.mp hnd).1
      refine ⟨g2, ?_, List.nodup_cons.mpr ⟨fun m => an (p5.subset m), (List.nodup_cons.mp hnd).2.sublist p5⟩, fun z m => .inl (p5.subset m)⟩
      unfold Own
      refine .inr ⟨rfl, a, us2, g2, rfl, rfl, ⟨⟨p2, p3⟩, by rw [upd_same, p1]⟩, OwnL.mono (Ex.refl _) _ _ _ (fun z m => upd_ne fun e => by subst e; exact an (p5.subset m)) p4⟩)
  refine ⟨vs, fp', h3H, h3, ?_, fun i hi => hoth i (by omega) (by simp; omega), hsub, ar⟩
  have e2 : (E ++ [some (D.nd true (.dK ks) ds)]).set E.length (some (setP (.nd true (.dK (putE ks ds q d).1) (putE ks ds q d).2) [] (.nd true (.dK ks) ds))) = E ++ [some (.nd true (.dK (putE ks ds q d).1) (putE ks ds q d).2)] := by
    rw [List.set_append_right _ _ (Nat.le_refl _)]
    simp [setP]
  rw [e2] at R'
  exact R'
theorem Post.dput {a : Addr} {v : V} {ks : List Key} {ds : List D} {d : D} {q : Key} (p : Post T F H σ τ env ts fp t1 F1 H1 env1 fp1 [some (.ref a), some v] [some (.nd true (.dK ks) ds), some d]) (hs : σ.length = env.length) (ht : τ.length = ts.length) (hf : d.own = false) :
    ∃ vs fp2, H1 a = some (.dK (ks.zip vs)) ∧ ks.length = vs.length ∧ Post T F H σ τ env ts fp t1 F1 (upd H1 a (.dK (putK (ks.zip vs) q v))) env1 fp2 [some (.ref a)] [some (.nd true (.dK (putE ks ds q d).1) (putE ks ds q d).2)] := by
  obtain ⟨vs, fp2, h1, h2, h3, h4, h5, h6⟩ := Rel.put1 (q := q) (S := σ ++ τ) (E := env1 ++ ts) (by simpa [List.append_assoc] using p.rel) (by simp [hs, ht, p.len]) hf
  have e0 : (env1 ++ ts).length = env.length + ts.length := by simp [p.len]
  have tr2 : Tr F1 H1 fp1 F1 (upd H1 a (.dK (putK (ks.zip vs) q v))) fp2 := ⟨Ex.refl _, fun z o h hn => by rw [upd_ne (fun e => hn _ (by rw [e]; exact h6))]; exact h, fun z u h => .inl ⟨u, h⟩, fun i z h => .inl (h5 i z h)⟩
  refine ⟨vs, fp2, h1, h2, p.len, h3, p.tr.trans tr2, fun i hi hl => ?_⟩
  obtain ⟨s1, s2, s3⟩ := p.same i hi hl
  obtain ⟨k1, k2⟩ := h4 i (by omega)
  exact ⟨s1, k1.trans s2, fun z m => (k2 z (by rw [s2]; exact m)).trans (s3 z m)⟩
/-- a dict comprehension over it: Pv by the turn and the heap (the new dict at D within) -/
theorem dc_it {J : It} {n : Nat} {G : Hp → Prop} {Y : Nat → Hp → V → Hp → Prop} (w : Walk J n G Y) {g : TG} {tt : TT} {tk tv : TE} {vs : List Nat} {σ : L2.St} {H1 : Hp} {D : Addr} {Qd : Hp → Prop} (Pv : Nat → Hp → Prop) (h0 : Pv 0 (upd H1 D (.dK []))) (hG : ∀ i H, i ≤ n → Pv i H → G H)
    (hs : ∀ i x H H', i < n → Pv i H → Y i H x H' → g x (wipe σ vs) H' fun σ2 H2 => wipe σ2 vs = wipe σ vs ∧ tt σ2 H2 fun b H3 =>
      if b = true then tk σ2 H3 fun y H4 => tv σ2 H4 fun z H5 => ∃ kvs k, y = kV k ∧ H5 D = some (.dK kvs) ∧ kvs.length < sizeLine ∧ Pv (i + 1) (upd H5 D (.dK (putK kvs k z))) else Pv (i + 1) H3) (hd : ∀ H, Pv n H → Qd H) :
    ∃ W : Nat → Nat → Hp → Prop, (∃ m, W 0 m (upd H1 D (.dK []))) ∧ ∀ i m H, W i m H →
      (J.stop i H ∧ Qd H) ∨ (J.go i H ∧ ∃ Nx : Hp → Prop, (∀ H', Nx H' → ∃ m', m' < m ∧ W (i + 1) m' H') ∧ ∀ x H', J.yld i H x H' → g x (wipe σ vs) H' fun σ2 H2 => wipe σ2 vs = wipe σ vs ∧ tt σ2 H2 fun b H3 =>
        if b = true then tk σ2 H3 fun y H4 => tv σ2 H4 fun z H5 => ∃ kvs k, y = kV k ∧ H5 D = some (.dK kvs) ∧ kvs.length < sizeLine ∧ Nx (upd H5 D (.dK (putK kvs k z))) else Nx H3) := by
  refine ⟨fun i m H => i ≤ n ∧ m = n - i ∧ Pv i H, ⟨n, Nat.zero_le _, rfl, h0⟩, fun i m H hw => ?_⟩
  obtain ⟨hi, rfl, p⟩ := hw
  rcases Nat.lt_or_eq_of_le hi with hlt | rfl
  · exact .inr ⟨w.goes i H hlt (hG i H hi p), Pv (i + 1), fun H' p' => ⟨n - (i + 1), by omega, hlt, rfl, p'⟩, fun x H' y => hs i x H H' hlt p (w.yields i H x H' hlt (hG i H hi p) y)⟩
  · exact .inl ⟨w.stops H (hG _ H hi p), hd H p⟩
theorem dcompL_cons {own : List Nat} {set : D → Env' → Option Env'} {cd : M Bool} {ke ve : M D} {x : D} {xs : List D} {ks : List Key} {vs : List D} {e : Env'} {r : (List Key × List D) × Env'} (h : dcompL own set cd ke ve (x :: xs) ks vs e = some r) :
    ∃ e1, set x e = some e1 ∧ ((∃ e2 k e3 q y e4, cd e1 = some (.ok true, e2) ∧ ke e2 = some (.ok k, e3) ∧ asKey k = some q ∧ ve e3 = some (.ok y, e4) ∧ y.own = false ∧ dcompL own set cd ke ve xs (putE ks vs q y).1 (putE ks vs q y).2 (killL own e4) = some r) ∨
      ∃ e2, cd e1 = some (.ok false, e2) ∧ dcompL own set cd ke ve xs ks vs (killL own e2) = some r) := by
  unfold dcompL at h
  split at h
  · rename_i e1 q1
    refine ⟨e1, q1, ?_⟩
    split at h
    · rename_i e2 q2
      split at h
      · rename_i k e3 q3
        split at h
        · rename_i q y e4 q4 q5
          split at h
          · rename_i q6
            exact .inl ⟨e2, k, e3, q, y, e4, q2, q3, q4, q5, q6, h⟩
          · cases h
        · cases h
      · cases h
    · rename_i e2 q2
      exact .inr ⟨e2, q2, h⟩
    · cases h
  · cases h
theorem putE_len {ks : List Key} {ds : List D} {q : Key} {x : D} : (putE ks ds q x).1.length ≤ ks.length + 1 := by
  unfold putE
  split <;> simp
theorem good_dcomp {m : M (List Rf × List D)} {tl tcd tke tve : List Nat} {tg : Tg} {cd : M Bool} {ke ve : M D} {wi : TI} {g : TG} {tt : TT} {te1 te2 : TE} (hi : GoodIt T W m tl (tgL tg ++ (own ++ (tcd ++ (tke ++ tve)))) wi) (hg : GoodT T tg g) (ht : GoodB T NoW cd tcd tt) (hk : GoodD T NoW ke tke te1) (he : GoodD T NoW ve tve te2) (hin : ∀ i ∈ tgL tg, i ∈ own) :
    GoodR T W (M.bind m fun q => dcompM own tg cd ke ve q.2) (tl ++ (tgL tg ++ (own ++ (tcd ++ (tke ++ tve))))) [] [] (tDc wi g tt te1 te2 own) := fun F H σ τ env ts fp o env2 hs hτ R e Q kq kx => by
  rcases bind_cases e with ⟨q, e1, q1, ea1⟩ | ⟨c, ns, xs, q1, rfl⟩
  · obtain ⟨rs, xs⟩ := q
    refine hi F H σ τ env ts fp _ _ hs hτ R q1 _ (fun rs' xs' eo F1 H1 fp1 J p hap hw => ?_) (fun c ns xs eo => by cases eo)
    cases eo
    intro Dd hD
    obtain ⟨G, Y, w1, w2, w3⟩ := hw
    have R1 : Rel T F1 H1 (σ ++ τ) (e1 ++ ts) fp1 := by simpa using p.rel
    have hs1 : σ.length = e1.length := by rw [p.len]; exact hs
    have ea2 : (match decide (xs.length ≤ lim), dcompL own (setTg tg) cd ke ve xs [] [] (killL own e1) with
      | true, some ((ks, vs), e1') => some (Out.ok (Rf.tmp (.nd true (.dK ks) vs)), backL own e1 e1')
      | _, _ => none) = some (o, env2) := ea1
    split at ea2
    · rename_i kz vz e3 hlim hcl
      obtain ⟨rfl, rfl⟩ := Prod.mk.inj (Option.some.inj ea2)
      have hlim : xs.length ≤ lim := by simpa using hlim
      let σw := wipe σ own
      let ek := killL own e1
      have hsw : σw.length = ek.length := by show (wipe σ own).length = (killL own e1).length; rw [wipe_length, killL_len, hs1]
      have Rw : Rel T F1 H1 (σw ++ τ) (ek ++ ts) fp1 := Rel.slots R1 hs1 (wipe_length σ own) (fun i hi => wipe_out own σ i hi)
      let tcc := tgL tg ++ (own ++ (tcd ++ (tke ++ tve)))
      let Pv : Nat → Hp → Prop := fun i H' => ∃ F' env' fp' ks ds, Post T F1 H1 σw τ ek ts fp1 tcc F' H' env' fp' [some (.ref Dd)] [some (.nd true (.dK ks) ds)] ∧ ks.length ≤ i ∧ dcompL own (setTg tg) cd ke ve (xs.drop i) ks ds env' = some ((kz, vz), e3)
      have ckOf : ∀ {F' H' env' fp' pv pd}, Post T F1 H1 σw τ ek ts fp1 tcc F' H' env' fp' pv pd → CK F1 H1 (Keep fp1 (rfRoots rs)) F' H' := fun {F' H' env' fp' pv pd} p' => p'.ck Rw hap fun i m => m
      have p0 : Post T F1 H1 σw τ ek ts fp1 tcc F1 (upd H1 Dd (.dK [])) ek _ [some (.ref Dd)] [some (.nd true (.dK []) [])] := (Post.new (Post.refl Rw) (k := .dK []) (ds := []) (vs := []) hD ⟨⟨rfl, List.nodup_nil⟩, show upd H1 Dd (.dK []) Dd = _ from upd_same⟩ OwnL.nil_).weak (by simp)
      have hd : ∀ H', Pv xs.length H' → Q (.ref Dd) H' := by
        rintro H' ⟨F', env', fp', ks, ds, p', _, q1⟩
        rw [List.drop_eq_nil_of_le (Nat.le_refl _)] at q1
        obtain ⟨h1, rfl⟩ := Prod.mk.inj (Option.some.inj (show some ((ks, ds), env') = _ from q1))
        obtain ⟨rfl, rfl⟩ := Prod.mk.inj h1
        obtain ⟨fp4, p4⟩ := Post.back2 p' R1 hs1
        have p5 := p.trans (pv1 := []) (pd1 := []) (by simpa using p4)
        exact kq _ rfl F' H' fp4 (.ref Dd) _ _ ⟨rfl, rfl, trivial, trivial⟩ ((by simpa using p5 : Post T F H σ τ env ts fp (tl ++ (own ++ tcc)) F' H' _ fp4 [some (.ref Dd)] [some (.nd true (.dK ks) ds)]).weak fun i z => by simp only [List.mem_append, tcc] at z ⊢; grind)
      refine dc_it w1 Pv ⟨F1, ek, _, [], [], p0, by simp, by simpa using hcl⟩ (fun i H' _ ⟨F', env', fp', ks, ds, p', _⟩ => w2 F' H' (ckOf p')) ?_ hd
      rintro i x H' H2 hlt ⟨F', env', fp', ks, ds, p', hlen, q2⟩ y
      have hlt' : i < xs.length := hlt
      rw [List.drop_eq_getElem_cons hlt'] at q2
      obtain ⟨e4, q4, q2⟩ := dcompL_cons q2
      have R' : Rel T F' H' (σw ++ (τ ++ [some (.ref Dd)])) (env' ++ (ts ++ [some (.nd true (.dK ks) ds)])) fp' := by simpa [List.append_assoc] using p'.rel
      have hs' : σw.length = env'.length := by rw [p'.len]; exact hsw
      obtain ⟨F2, h1, h2⟩ := w3 i xs[i] (by simp [hlt']) F' H' x H2 (ckOf p') y
      obtain ⟨R2, tr2, kp2⟩ := res_frame R' h1 h2
      refine hg F2 H2 σw (τ ++ [some (.ref Dd)]) env' (ts ++ [some (.nd true (.dK ks) ds)]) fp' xs[i] x e4 _ hs' R2 h2 q4 fun σ3 fp3 so => ⟨?_, ?_⟩
      · rw [wipe_eq (σ := σw) so.sl fun j hj => (so.same j fun z => hj (hin j z)).2.1]
        exact wipe_eq (wipe_length σ own) fun j hj => wipe_out own σ j hj
      · have hs3 : σ3.length = e4.length := by rw [so.sl, so.len]; exact hs'
        have hτ3 : (τ ++ [some (V.ref Dd)]).length = (ts ++ [some (D.nd true (.dK ks) ds)]).length := by simp [hτ]
        have wt : ∀ j ∈ tcc ++ (own ++ (tcd ++ (tke ++ tve))), j ∈ tcc := fun j z => by simp only [List.mem_append, tcc] at z ⊢; grind
        rcases q2 with ⟨e5, kd, e6, qk, yd, e7, q5, q6, q7, q8, q9, q10⟩ | ⟨e5, q5, q6⟩
        · refine ht F2 H2 σ3 _ e4 _ fp3 _ _ hs3 hτ3 so.rel q5 _ (fun a ea F3 H3 fp4 b pv pd j pt => ?_) (fun c ns xs eo => by cases eo)
          cases ea
          obtain ⟨rfl, rfl, rfl⟩ := j
          rw [if_pos rfl]
          have R3 : Rel T F3 H3 (σ3 ++ (τ ++ [some (.ref Dd)])) (e5 ++ (ts ++ [some (.nd true (.dK ks) ds)])) fp4 := by simpa using pt.rel
          have hs5 : σ3.length = e5.length := by rw [pt.len]; exact hs3
          refine hk F3 H3 σ3 _ e5 _ fp4 _ _ hs5 hτ3 R3 q6 _ (fun a ea F4 H4 fp5 vk pv pd j pk => ?_) (fun c ns xs eo => by cases eo)
          cases ea
          obtain ⟨rfl, rfl⟩ := j
          have hlast := Post.last (pv := []) (pd := []) pk hs5 hτ3 rfl
          have evk := asKey_own hlast q7
          have pk0 := pk.drop hs5 hτ3
          have R4 := pk0.rel
          simp only [List.append_nil] at R4
          have hs6 : σ3.length = e6.length := by rw [pk.len]; exact hs5
          refine he F4 H4 σ3 _ e6 _ _ _ _ hs6 hτ3 R4 q8 _ (fun a ea F5 H5 fp6 v pv pd j pe => ?_) (fun c ns xs eo => by cases eo)
          cases ea
          obtain ⟨rfl, rfl⟩ := j
          have ptk := pt.trans (pv1 := []) (pd1 := []) (by simpa using pk0)
          have pte := Post.trans (pv1 := []) (pd1 := []) (by simpa using ptk) (by simpa using pe)
          have pT := Post.turn R' hs' tr2 kp2 so hin (by simpa using pte)
          have pA := (p'.trans pT).weak (t2 := tcc) fun j z => by simp only [List.mem_append, tcc] at z ⊢; grind
          obtain ⟨vs, fp7, k1, k2, k3⟩ := Post.dput (q := qk) (by simpa using pA) hsw hτ q9
          refine ⟨_, qk, evk, k1, ?_, F5, killL own e7, fp7, _, _, k3, Nat.le_trans putE_len (by omega), q10⟩
          have : lim < sizeLine := by decide
          simp
          omega
        · refine ht F2 H2 σ3 _ e4 _ fp3 _ _ hs3 hτ3 so.rel q5 _ (fun a ea F3 H3 fp4 b pv pd j pt => ?_) (fun c ns xs eo => by cases eo)
          cases ea
          obtain ⟨rfl, rfl, rfl⟩ := j
          rw [if_neg (by simp)]
          have pT := Post.turn R' hs' tr2 kp2 so hin pt
          have pA := (p'.trans pT).weak (t2 := tcc) fun j z => by simp only [List.mem_append, tcc] at z ⊢; grind
          exact ⟨F3, killL own e5, fp4, ks, ds, by simpa using pA, by omega, q6⟩
    · cases ea2
  · exact hi F H σ τ env ts fp _ _ hs hτ R q1 _ (fun rs xs eo => by cases eo) (fun c' ns' xs' eo F1 H1 fp1 d ws p x1 x2 => by
      cases eo
      exact kx _ _ _ rfl F1 H1 fp1 d ws (p.weak fun i z => List.mem_append_left _ z) x1 x2)
/-- a dict comprehension's parts -/
structure GDc (T : Tb) (X : Cx) (W : WX) (P : Pr) (Φ : Hd') (own : List Nat) (tg : Tg) (k : ItK) (ils cd : List Ex') (ke ve : Ex') (scope : Scope) (names : List (Str × Nat)) (te ie : Expr) (ces : List Expr) (ek ev : Expr) : Prop where
  blk : BlkOk X.N X.env.scope scope names
  hown : own = names.map (·.2)
  htg : ∃ g, (∀ b : Blk, PG (b.cx X scope) te g) ∧ GoodT T tg g
  hin : ∀ i ∈ tgL tg, i ∈ own
  it : GI T X W P Φ te k ils ie
  cd : GC T X scope P Φ cd ces
  key : ∀ b : Blk, GX T (b.cx X scope) NoW P Φ ke ek
  val : ∀ b : Blk, GX T (b.cx X scope) NoW P Φ ve ev
theorem gx_dcomp (O : XOk T X W P) {own : List Nat} {tg : Tg} {k : ItK} {ils cd : List Ex'} {ke ve : Ex'} {scope : Scope} {names : List (Str × Nat)} {te ie : Expr} {ces : List Expr} {ek ev : Expr} {pos : Pos} (h : GDc T X W P Φ own tg k ils cd ke ve scope names te ie ces ek ev) :
    GX T X W P Φ (.dcomp own tg k ils cd ke ve) (.DictComp ek ev [⟨te, ie, ces, 0⟩] scope pos) := by
  obtain ⟨wi, i1, i2⟩ := h.it.ok
  obtain ⟨g, g1, g2⟩ := h.htg
  obtain ⟨tt, c1, c2⟩ := h.cd.ok
  obtain ⟨tx, e1, e2⟩ := gx_uni (XX := fun b : Blk => b.cx X scope) ⟨X.s_0, X.H_0, 0, [], []⟩ h.key
  obtain ⟨ty, f1, f2⟩ := gx_uni (XX := fun b : Blk => b.cx X scope) ⟨X.s_0, X.H_0, 0, [], []⟩ h.val
  have good : GoodR T W (evX P Φ (.dcomp own tg k ils cd ke ve)).1 (touchR (.dcomp own tg k ils cd ke ve)) [] [] (tDc wi g tt tx ty (names.map (·.2))) := by
    rw [← h.hown]
    exact good_dcomp (i2 _) g2 c2 (good_take e2) (good_take f2) h.hin
  exact gx_of O (pe_dc O.calm O.nd i1 h.blk (fun s H C cl fp => g1 ⟨s, H, C, cl, fp⟩) (fun s H C cl fp => c1 ⟨s, H, C, cl, fp⟩) (fun s H C cl fp => e1 ⟨s, H, C, cl, fp⟩) (fun s H C cl fp => f1 ⟨s, H, C, cl, fp⟩) h.it.fs) good (fun _ => rfl) rfl
end
end RL
set_option Elab.async false
set_option linter.all false
set_option maxRecDepth 100000
set_option maxHeartbeats 2000000
/-! RL, sorted, max with a default, list(range(..)). -/
namespace RL
open PySem PySem.Spec PyProof.Rows L2
section
variable {T : Tb} {X : Cx} {W : WX} {P : Pr} {Φ : Hd'} {F H : Hp}
def leP {α : Type} : (α × PyData) → (α × PyData) → Bool := PySem.W.dataLe false fun b => b.2
def rSortD (K : PySem.W.Frag) : List V → Hp → VK → Prop := fun xs H Q => ∃ (a : Addr) (vs : List V) (ps : List PyData), xs = [.ref a] ∧ SqL K H a vs ∧ DpAll K H vs ps ∧ sortOk ps = true ∧ vs.length ≤ lim ∧ ∀ p, H p = none → Q (.ref p) (upd H p (.lst (((vs.zip ps).mergeSort leP).map (·.1))))
theorem dpAll_len {K : PySem.W.Frag} : ∀ {vs : List V} {ps : List PyData}, DpAll K H vs ps → vs.length = ps.length
  | _, _, .nil => rfl
  | _, _, .cons _ h => by simp [dpAll_len h]
theorem each_zip {h : Heap} : ∀ {us : List Value} {vs : List V} {ps : List PyData} {as : List Addr}, Vals vs us → ReadsAll h us ps as → PySem.W.EachIs (fun u (b : V × PyData) => RelV b.1 u) us (vs.zip ps) ∧ PySem.W.EachIs (fun u (b : V × PyData) => ∃ as, Reads h u b.2 as) us (vs.zip ps)
  | _, _, _, _, .nil, .nil => ⟨.nil, .nil⟩
  | _, _, _, _, .cons r k, .cons q z => ⟨.cons r (each_zip k z).1, .cons ⟨_, q⟩ (each_zip k z).2⟩
theorem vals_each : ∀ {us : List Value} {bs : List (V × PyData)}, PySem.W.EachIs (fun u (b : V × PyData) => RelV b.1 u) us bs → Vals (bs.map (·.1)) us
  | _, _, .nil => .nil
  | _, _, .cons r k => .cons r (vals_each k)
theorem cr_sortD (hu : X.A.units + 65 < cLine) : CallR X (.builtin "sorted") (rSortD X.K) := by
  intro pins s σ H xs us Q I r h
  obtain ⟨a, vs, ps, rfl, hs, hd, ok, hl, q⟩ := h
  obtain ⟨its, rv, pl, _⟩ := I.list hs
  rw [Vals.ref1 r]
  obtain ⟨as, rd⟩ := Dp.readsAll I ps vs its hd rv
  obtain ⟨e1, e2⟩ := each_zip rv rd
  simp only [sortOk, Bool.and_eq_true, Bool.or_eq_true] at ok
  obtain ⟨⟨o1, o2⟩, o3⟩ := ok
  have em : (vs.zip ps).map (fun b => b.2) = ps := by
    have := List.map_snd_zip (l₁ := vs) (l₂ := ps) (by rw [dpAll_len hd]; exact Nat.le_refl _)
    exact this
  have hlim : lim ≤ sizeLine := by decide
  have zl : (vs.zip ps).length = vs.length := by simp [dpAll_len hd]
  refine PySem.W.sorted_data (bs := vs.zip ps) (enc := fun b => b.2) pl.isList e1 e2 ?_ ?_ (by omega) ?_ fun out ho hout => ?_
  · rw [em]
    intro d hd' d' hd2
    exact List.all_eq_true.mp (List.all_eq_true.mp o1 d hd') d' hd2
  · rw [em]
    rcases o2 with o2 | o2
    · refine .inl fun d hd' => ?_
      have := List.all_eq_true.mp o2 d hd'
      match d, this with
      | .tuple (x :: r), _ => exact ⟨x, r, rfl⟩
    · refine .inr fun d hd' => ?_
      have := List.all_eq_true.mp o2 d hd'
      constructor
      · intro z; subst z; cases this
      · intro xs z; subst z; cases this
  · intro b hb
    have : b.2 ∈ ps := by rw [← em]; exact List.mem_map_of_mem hb
    have := List.all_eq_true.mp o3 _ this
    have := of_decide_eq_true this
    omega
  · obtain ⟨ep, he'⟩ := PyProof.Rows.sortedAll_at s.heap its out.toArray
    have hlen : (((vs.zip ps).mergeSort leP).map (·.1)).length ≤ sizeLine := by rw [List.length_map, List.length_mergeSort, zl]; omega
    exact ⟨.ref _, upd H (s.heap.objs.size + 1) (.lst (((vs.zip ps).mergeSort leP).map (·.1))), I.laid (t' := s.toks) (fun _ _ => PyProof.Rows.sortedAll_old) (Nat.le_succ _) ⟨hlen, out, ep, vals_each hout, he'⟩, rfl, q _ (I.hok.fresh (Nat.le_succ _))⟩
theorem ownL_all : ∀ (S : List (D × (V × PyData))), (∀ t ∈ S, Own T F H t.1 t.2.1 []) → OwnL T F H (S.map (·.1)) (S.map (·.2.1)) []
  | [], _ => OwnL.nil_
  | t :: S, h => OwnL.cons_ (f := []) (g := []) (h t List.mem_cons_self) (ownL_all S fun u m => h u (List.mem_cons_of_mem _ m))
theorem own_zip : ∀ {ds : List D} {vs : List V} {ps : List PyData}, OwnL T F H ds vs [] → ∀ t ∈ ds.zip (vs.zip ps), Own T F H t.1 t.2.1 []
  | [], _, _, _, t, m => by simp at m
  | d :: ds, vs, [], h, t, m => by simp at m
  | d :: ds, vs, p :: ps, h, t, m => by
    unfold OwnL at h
    obtain ⟨v, ws, f, g, rfl, e, h1, h2⟩ := h
    obtain ⟨rfl, rfl⟩ : f = [] ∧ g = [] := by simpa using e.symm
    rcases List.mem_cons.mp (show t ∈ (d, (v, p)) :: ds.zip (ws.zip ps) from m) with rfl | m
    · exact h1
    · exact own_zip h2 t m
theorem zip3_a : ∀ {ds : List D} {vs : List V} {ps : List PyData}, ds.length = vs.length → vs.length = ps.length → (ds.zip (vs.zip ps)).map (fun t => (t.1, t.2.2)) = ds.zip ps ∧ (ds.zip (vs.zip ps)).map (·.2) = vs.zip ps
  | [], [], [], _, _ => ⟨rfl, rfl⟩
  | d :: ds, v :: vs, p :: ps, h1, h2 => by
    obtain ⟨a, b⟩ := zip3_a (ds := ds) (vs := vs) (ps := ps) (by simpa using h1) (by simpa using h2)
    exact ⟨by simp [a], by simp [b]⟩
  | [], v :: vs, _, h, _ => by simp at h
  | d :: ds, [], _, h, _ => by simp at h
  | _, [], p :: ps, _, h => by simp at h
  | _, v :: vs, [], _, h => by simp at h
theorem spec_sorted : OpSpec T sortedD (rSortD T.K) := by
  intro F H ds vs d Q s ha e k
  unfold sortedD at e
  split at e
  · rename_i o xs
    obtain ⟨v, g, rfl, h1⟩ := args1 ha
    obtain ⟨a, us, rfl, hra, g', hl, _⟩ := own_lst h1 s
    split at e
    · rename_i ps q1 q2
      split at e
      · rename_i q3
        obtain rfl := Option.some.inj e
        simp only [Bool.and_eq_true] at q1
        have hp := plain_own hl q1.1
        have hlim : xs.length ≤ lim := of_decide_eq_true q1.2
        have dp := ownL_py s xs us g' ps hl q2
        have l1 := ownL_len hl
        have l2 := dpAll_len dp
        refine ⟨a, us, ps, rfl, SqL.of hra, dp, q3, by omega, fun p hnew => k (.ref p) F _ (.inr (.inl ⟨p, _, .lst, _, _, hnew, rfl, rfl, rfl, rfl, upd_same, ?_⟩))⟩
        obtain ⟨z1, z2⟩ := zip3_a (ds := xs) (vs := us) (ps := ps) l1 l2
        let S := (xs.zip (us.zip ps)).mergeSort fun a b => leP a.2 b.2
        have e1 : (xs.zip ps).mergeSort leP = S.map fun t => (t.1, t.2.2) := by
          rw [← z1]
          exact (PySem.W.sort_maps (r := fun a b => leP a.2 b.2) (s := leP) (fun t : D × (V × PyData) => (t.1, t.2.2)) fun a _ b _ => rfl).symm
        have e2 : (us.zip ps).mergeSort leP = S.map (·.2) := by
          rw [← z2]
          exact (PySem.W.sort_maps (r := fun a b => leP a.2 b.2) (s := leP) (fun t : D × (V × PyData) => t.2) fun a _ b _ => rfl).symm
        have := ownL_all (T := T) (F := F) (H := H) S fun t m => own_zip hp t ((List.mergeSort_perm _ _).mem_iff.mp m)
        have f1 : ((xs.zip ps).mergeSort (PySem.W.dataLe false fun b => b.2)).map (·.1) = S.map (·.1) := by
          show ((xs.zip ps).mergeSort leP).map (·.1) = _
          rw [e1, List.map_map]; rfl
        have f2 : ((us.zip ps).mergeSort leP).map (·.1) = S.map (·.2.1) := by rw [e2, List.map_map]; rfl
        rw [f1, f2]
        exact this
      · cases e
    · cases e
  · cases e
/-! max(xs, default=z) -/
def rMaxDf (K : PySem.W.Frag) : List V → List V → Hp → VK → Prop := fun xs zs H Q => ∃ (a : Addr) (ns : List Int) (z : Int), xs = [.ref a] ∧ zs = [.int z] ∧ SqL K H a (ns.map V.int) ∧ Q (.int (maxDflt z ns)) H
theorem maxI_fold : ∀ (ns : List Int) (m : Int), maxI m ns = ns.foldl max m
  | [], m => rfl
  | n :: ns, m => by
    show maxI (if n > m then n else m) ns = ns.foldl max (max m n)
    rw [maxI_fold ns]
    congr 1
    omega
theorem alike_all_ints (ns : List Int) : PySem.W.AlikeAll (ns.map PyData.int) := by
  refine ⟨fun x hx y hy => ?_, fun x hx => ?_⟩
  · obtain ⟨a, _, rfl⟩ := List.mem_map.mp hx
    obtain ⟨b, _, rfl⟩ := List.mem_map.mp hy
    rfl
  · obtain ⟨a, _, rfl⟩ := List.mem_map.mp hx
    exact fun z => by cases z
theorem dp_ints {K : PySem.W.Frag} : ∀ ns : List Int, DpAll K H (ns.map V.int) (ns.map PyData.int)
  | [] => .nil
  | n :: ns => .cons (.int n) (dp_ints ns)
theorem cr_maxDf (hc : X.calm = true) (hu : X.A.units + 65 < cLine) : CallRK X (.builtin "max") ["default"] (rMaxDf X.K) := by
  intro pins s σ H xs zs us ws Q I r r2 h
  obtain ⟨a, ns, z, rfl, rfl, hs, q⟩ := h
  obtain ⟨its, rv, pl, _⟩ := I.list hs
  rw [Vals.ref1 r]
  obtain ⟨u, rfl, ru⟩ := r2.one
  obtain ⟨t, rfl⟩ := ru
  obtain ⟨as, rd⟩ := Dp.readsAll I (ns.map PyData.int) (ns.map V.int) its (dp_ints ns) rv
  refine PySem.W.max_list_default (xs := ns.map PyData.int) (I.ok.hd hc) pl.isList rd (alike_all_ints ns) ?_ (fun e h' tk hk => ?_) (fun y ys i v h' tk bs e _ hv hk => ?_)
  · rw [PySem.W.depth_ints]; omega
  · have e' : ns = [] := by simpa using e
    subst e'
    exact ⟨.int z, H, I.kept hk, ⟨_, rfl⟩, q⟩
  · match ns, e with
    | m :: r, e =>
      obtain ⟨rfl, rfl⟩ : PyData.int m = y ∧ r.map PyData.int = ys := by simpa using e
      rw [PySem.W.maxD_ints, ← maxI_fold] at hv
      cases hv
      exact ⟨.int (maxI m r), H, I.kept hk, ⟨_, rfl⟩, q⟩
theorem asInts_own {ds : List D} {vs : List V} {g : List Addr} {is : List Int} (h : OwnL T F H ds vs g) (e : asInts ds = some is) : vs = is.map V.int := ownL_ints h e
end
end RL
set_option Elab.async false
set_option linter.all false
set_option maxRecDepth 100000
set_option maxHeartbeats 2000000
/-! RL, sorted, max with a default, list(range(..)): by expressions. -/
namespace RL
open PySem PySem.Spec PyProof.Rows L2
section
variable {T : Tb} {X : Cx} {W : WX} {P : Pr} {Φ : Hd'} {F H : Hp}
theorem gx_sorted (O : XOk T X W P) {ils : List Ex'} {e : Expr} {es : List Expr} {p pos : Pos} (h : GA T X W P Φ ils (e :: es)) (hg : Gl X "sorted") (hm : X.mg "sorted" = none) (hs : (e :: es).all noStar = true) : GX T X W P Φ (.blt .sorted ils) (.Call (.Name "sorted" p) (e :: es) [] pos) :=
  gx_callB O (cr_sortD O.hu) (by rw [O.hK]; exact spec_sorted) h hg hm boot_sorted hs (by decide) (by decide)
def rMaxD2 (K : PySem.W.Frag) : List V → Hp → VK → Prop := fun vs H Q => match vs with
  | [x, z] => rMaxDf K [x] [z] H Q
  | _ => False
theorem spec_maxDf : OpSpec T maxDD (rMaxD2 T.K) := by
  intro F H ds vs d Q s ha e k
  unfold maxDD at e
  split at e
  · rename_i o xs z
    obtain ⟨v, w, _, _, rfl, h1, h2⟩ := args2 ha
    obtain ⟨a, us, rfl, hra, g', hl, _⟩ := own_lst h1 s
    cases hi : asInts xs with
    | none => rw [hi] at e; cases e
    | some is =>
      rw [hi] at e
      obtain rfl := Option.some.inj e
      have hu := ownL_ints hl hi
      subst hu
      obtain ⟨rfl, _⟩ : w = .int z ∧ _ := h2
      exact ⟨a, is, z, rfl, rfl, SqL.of hra, k _ F H res_int⟩
  · cases e
/-- max(xs, default=z) -/
theorem gx_maxD (O : XOk T X W P) (hc : X.calm = true) {a b : Ex'} {e z : Expr} {p pos kp : Pos} (h : GX T X W P Φ a e) (k : GX T X W P Φ b z) (hg : Gl X "max") (hm : X.mg "max" = none) (hs : noStar e = true) :
    GX T X W P Φ (.blt .maxD [a, b]) (.Call (.Name "max" p) [e] [⟨some "default", z, kp⟩] pos) := by
  obtain ⟨t, h1, h2⟩ := h.val
  obtain ⟨u, k1, k2⟩ := k.val
  have pa : PA X [e] (tCons t tNil) := pa_cons h1 pa_nil (star_cons hs)
  have pk : PK X [⟨some "default", z, kp⟩] (tCons u tNil) := pk_cons k1 pk_nil
  have hp := pe_callBK (p := p) (pos := pos) (r := rMaxDf X.K) (cr_maxDf hc O.hu) hg hm boot_max pa pk (by decide) (by decide) (by rw [star_cons hs]; rfl) (by rw [star_cons hs]; rfl) rfl rfl rfl
  have g2 : GoodA T W (evXs P Φ [a, b]) (touchL [a, b]) (varsL [a, b]) (rootL [a, b]) (tCons t (tCons u tNil)) := good_cons h2 (good_cons k2 good_nil)
  have gp := good_pure (f := maxDD) [] [] g2 (show OpSpec T maxDD (rMaxD2 X.K) by rw [O.hK]; exact spec_maxDf)
  exact gx_of O (t := tCKw (rMaxDf X.K) (tCons t tNil) (tCons u tNil)) hp gp (fun _ => rfl) rfl
def rLR : List V → Hp → VK → Prop := fun vs H Q => match vs with
  | [x] => ∃ n, x = .int n ∧ (RgOk 0 n ∧ ∀ q, H q = none → Q (.ref q) (upd H q (.lst (rgV 0 n))))
  | [x, y] => ∃ i j, x = .int i ∧ y = .int j ∧ (RgOk i j ∧ ∀ q, H q = none → Q (.ref q) (upd H q (.lst (rgV i j))))
  | _ => False
theorem rangeL_own : ∀ (n : Nat) (a : Int), OwnL T F H (rangeL a n) ((List.range n).map fun i => V.int (a + (i : Nat))) []
  | 0, a => OwnL.nil_
  | n + 1, a => by
    have ih := rangeL_own n (a + 1)
    have e : ((List.range (n + 1)).map fun i => V.int (a + (i : Nat))) = .int a :: ((List.range n).map fun i => V.int (a + 1 + (i : Nat))) := by
      rw [List.range_succ_eq_map]
      simp only [List.map_cons, List.map_map]
      refine List.cons_eq_cons.mpr ⟨by simp, List.map_congr_left fun i _ => ?_⟩
      show V.int (a + ((i + 1 : Nat) : Int)) = V.int (a + 1 + (i : Nat))
      congr 1
      omega
    rw [e]
    exact OwnL.cons_ (f := []) (g := []) ⟨rfl, rfl⟩ ih
theorem spec_lrange : OpSpec T lrangeD rLR := by
  intro F H ds vs d Q s ha e k
  unfold lrangeD at e
  split at e
  · rename_i n
    obtain ⟨v, g, rfl, h1⟩ := args1 ha
    obtain ⟨rfl, _⟩ : v = .int n ∧ _ := h1
    have e' : ((match smallI n with
      | true => some (rangeL 0 n.toNat)
      | false => none).map D.olst) = some d := e
    cases hs : smallI n with
    | false => rw [hs] at e'; cases e'
    | true =>
      rw [hs] at e'
      obtain rfl := Option.some.inj e'
      simp only [smallI, Bool.and_eq_true, decide_eq_true_eq] at hs
      refine ⟨n, rfl, ⟨by omega, by omega, by omega, by omega, by omega⟩, fun q hq => k (.ref q) F _ (.inr (.inl ⟨q, _, .lst, _, _, hq, rfl, rfl, rfl, rfl, upd_same, ?_⟩))⟩
      have := rangeL_own (T := T) (F := F) (H := H) n.toNat 0
      unfold rgV
      simpa using this
  · rename_i a n
    obtain ⟨v, w, _, _, rfl, h1, h2⟩ := args2 ha
    obtain ⟨rfl, _⟩ : v = .int a ∧ _ := h1
    obtain ⟨rfl, _⟩ : w = .int n ∧ _ := h2
    have e' : ((match smallI a && smallI n with
      | true => some (rangeL a (n - a).toNat)
      | false => none).map D.olst) = some d := e
    cases hs : smallI a && smallI n with
    | false => rw [hs] at e'; cases e'
    | true =>
      rw [hs] at e'
      obtain rfl := Option.some.inj e'
      simp only [smallI, Bool.and_eq_true, decide_eq_true_eq] at hs
      refine ⟨a, n, rfl, rfl, ⟨by omega, by omega, by omega, by omega, by omega⟩, fun q hq => k (.ref q) F _ (.inr (.inl ⟨q, _, .lst, _, _, hq, rfl, rfl, rfl, rfl, upd_same, ?_⟩))⟩
      exact rangeL_own (T := T) (F := F) (H := H) _ a
  · cases e
theorem gx_lr1 (O : XOk T X W P) (hc : X.calm = true) {a : Ex'} {e : Expr} {p p2 pos pos2 : Pos} (h : GX T X W P Φ a e) (hg : Gl X "list") (hm : X.mg "list" = none) (hg2 : Gl X "range") (hm2 : X.mg "range" = none) (hs : noStar e = true) :
    GX T X W P Φ (.blt .lrange [a]) (.Call (.Name "list" p) [.Call (.Name "range" p2) [e] [] pos2] [] pos) := by
  obtain ⟨t, h1, h2⟩ := h.val
  exact gx_of O (t := tLstRg (tRg1 t)) (pe_listRg hc hg hm (prg_1 hg2 hm2 h1 (star_cons hs)) rfl) (good_pure _ _ (good_cons h2 good_nil) spec_lrange) (fun _ => rfl) rfl
theorem gx_lr2 (O : XOk T X W P) (hc : X.calm = true) {a b : Ex'} {e e2 : Expr} {p p2 pos pos2 : Pos} (h : GX T X W P Φ a e) (k : GX T X W P Φ b e2) (hg : Gl X "list") (hm : X.mg "list" = none) (hg2 : Gl X "range") (hm2 : X.mg "range" = none) (hs : noStar e = true) (hs2 : noStar e2 = true) :
    GX T X W P Φ (.blt .lrange [a, b]) (.Call (.Name "list" p) [.Call (.Name "range" p2) [e, e2] [] pos2] [] pos) := by
  obtain ⟨t, h1, h2⟩ := h.val
  obtain ⟨u, k1, k2⟩ := k.val
  exact gx_of O (t := tLstRg (tRg2 t u)) (pe_listRg hc hg hm (prg_2 hg2 hm2 h1 k1 (star_cons hs) (star_cons hs2) (star_any (es := [e2]) (by simp [hs2]))) rfl) (good_pure _ _ (good_cons h2 (good_cons k2 good_nil)) spec_lrange) (fun _ => rfl) rfl
end
end RL
set_option Elab.async false
set_option linter.all false
set_option maxRecDepth 100000
set_option maxHeartbeats 1000000
/-! RL, a check that a term is what the text says; from the check to the promise. -/
namespace RL
open PySem PySem.Spec PyProof.Rows L2
section
variable {T : Tb} {X : Cx} {W : WX} {P : Pr} {Φ : Hd'}
/-- the library's functions by name -/
def bltN : Blt → Option Str
  | .len => some "len"
  | .list => some "list"
  | .tuple => some "tuple"
  | .abs => some "abs"
  | .int => some "int"
  | .max => some "max"
  | .min => some "min"
  | .all => some "all"
  | .any => some "any"
  | _ => none
theorem gx_blt (O : XOk T X W P) (hc : X.calm = true) {b : Blt} {x : Str} {ils : List Ex'} {e : Expr} {es : List Expr} {p pos : Pos} (hb : bltN b = some x) (h : GA T X W P Φ ils (e :: es)) (hg : Gl X x) (hm : X.mg x = none) (hs : (e :: es).all noStar = true) : GX T X W P Φ (.blt b ils) (.Call (.Name x p) (e :: es) [] pos) := by
  cases b <;> first | (cases hb; done) | skip
  · obtain rfl := Option.some.inj hb
    exact gx_callB O call_lenA (by rw [O.hK]; exact spec_len) h hg hm boot_len hs (by decide) (by decide)
  · obtain rfl := Option.some.inj hb
    exact gx_callTy O call_list_of (by rw [O.hK]; exact spec_list) h hg hm boot_list hs (by decide) (by decide)
  · obtain rfl := Option.some.inj hb
    exact gx_callTy O call_tuple_of (by rw [O.hK]; exact spec_tuple) h hg hm boot_tuple hs (by decide) (by decide)
  · obtain rfl := Option.some.inj hb
    exact gx_callB O call_abs spec_abs h hg hm boot_abs hs (by decide) (by decide)
  · obtain rfl := Option.some.inj hb
    exact gx_callTy O call_int1 spec_int h hg hm boot_int hs (by decide) (by decide)
  · obtain rfl := Option.some.inj hb
    exact gx_callB O (r := rMaxA X.K) (CallR.or (call_max2 hc) (cr_max hc)) (by rw [O.hK]; exact spec_max) h hg hm boot_max hs (by decide) (by decide)
  · obtain rfl := Option.some.inj hb
    exact gx_callB O (r := rMinA X.K) (CallR.or (call_min2 hc) (cr_min hc)) (by rw [O.hK]; exact spec_min) h hg hm boot_min hs (by decide) (by decide)
  · obtain rfl := Option.some.inj hb
    exact gx_callB O (cr_all hc) (by rw [O.hK]; exact spec_all) h hg hm boot_all hs (by decide) (by decide)
  · obtain rfl := Option.some.inj hb
    exact gx_callB O (cr_any hc) (by rw [O.hK]; exact spec_any) h hg hm boot_any hs (by decide) (by decide)
end
/-! ### the check -/
structure Sg where
  N : List Str
  sc : Scope
  fnc : Str → Bool
  fns : List (Str × Nat)
  exs : List (Str × Nat × List Str)
  gs : List (Str × D)
  isB : Str → Bool
  err : Bool
def visB (sg : Sg) (x : Str) : Bool := match sg.sc.names.lookup x with
  | some .local => true
  | some .cell => true
  | some .free => true
  | _ => false
def locB (sg : Sg) (x : Str) : Bool := match sg.sc.names.lookup x with
  | some .local => true
  | some .cell => sg.fnc x
  | _ => false
def glB (sg : Sg) (x : Str) : Bool := decide (sg.sc.names.lookup x = some .globalImplicit) && !(x == ("__debug__" : Str))
def slotB (sg : Sg) (i : Nat) (x : Str) : Bool := decide (sg.N[i]? = some x)
def bB (sg : Sg) (x : Str) : Bool := glB sg x && sg.isB x
/-- what a def's surroundings bear out for whatever is checked -/
structure SgOk (T : Tb) (X : Cx) (W : WX) (P : Pr) (Φ : Hd') (k : Nat) (sg : Sg) : Prop where
  O : XOk T X W P
  tk : Takes X W
  room : Room k X.A
  two : 2 ≤ k
  hN : X.N = sg.N
  hsc : X.env.scope = sg.sc
  fnc : ∀ x, sg.fnc x = true → X.fn x = true
  fns : ∀ x f, sg.fns.lookup x = some f → ∃ ps, FOk T X Φ k f x ps
  exs : ∀ x c ns, sg.exs.lookup x = some (c, ns) → EOk T X 1 c x ns ∧ P.exf c = some ns ∧ ns.length ≤ 900
  gs : ∀ x d, sg.gs.lookup x = some d → ∃ v u, X.mg x = some u ∧ RelV v u ∧ ∀ F H, Own T F H d v []
  isB : ∀ x, sg.isB x = true → X.mg x = none
def all2 {α β : Type} (f : α → β → Bool) : List α → List β → Bool
  | [], [] => true
  | a :: as, b :: bs => f a b && all2 f as bs
  | _, _ => false
def okC : D → Const → Bool
  | .int i, .int j => decide (i = j)
  | .bl b, .bool c => b == c
  | .non, .none => true
  | .str x, .str y => decide (x = y)
  | _, _ => false
def notSet : Expr → Bool
  | .Set .. => false
  | _ => true
/-- a test of isinstance by its type's name -/
def isN : Blt → Option Str
  | .isint => some "int"
  | .isbool => some "bool"
  | .isstr => some "str"
  | .islist => some "list"
  | .istuple => some "tuple"
  | .isdict => some "dict"
  | _ => none
def okNm (sg : Sg) (i : Nat) (e : Expr) : Bool := match e with
  | .Name x _ => slotB sg i x && locB sg x
  | _ => false
def okTg (sg : Sg) (tg : Tg) (e : Expr) : Bool := match tg with
  | .nm i => okNm sg i e
  | .tp is => (match e with
    | .Tuple es _ _ => all2 (okNm sg) is es
    | _ => false)
/-- a block's own surroundings -/
def blkSg (sg : Sg) (scope : Scope) : Sg := { sg with sc := relS scope sg.sc, fnc := fun x => scope.names.lookup x == some .cell }
def namesOf (sg : Sg) (own : List Nat) : List (Str × Nat) := own.map fun i => ((sg.N[i]?).getD "", i)
/-- the name that is called, the arguments -/
def callOf (e : Expr) : Option (Str × List Expr) := match e with
  | .Call (.Name x _) es [] _ => some (x, es)
  | _ => none
def okIt (f : Ex' → Expr → Bool) (sg : Sg) (k : ItK) (ils : List Ex') (te ie : Expr) : Bool := match k with
  | .seq => (match ils with
    | [il] => notSet ie && f il ie
    | _ => false)
  | .range => (match callOf ie with
    | some (x, es) => decide (x = "range") && bB sg "range" && es.all noStar && all2 f ils es && decide (1 ≤ es.length) && decide (es.length ≤ 3)
    | none => false)
  | .enum => (match te, callOf ie with
    | .Tuple _ _ _, some (x, [e]) => decide (x = "enumerate") && bB sg "enumerate" && noStar e && all2 f ils [e]
    | _, _ => false)
  | _ => false
def okV (sg : Sg) (i : Nat) (e : Expr) : Bool := match e with
  | .Name x _ => slotB sg i x && visB sg x && !(x == ("__debug__" : Str)) && !(x == ("__classdict__" : Str))
  | _ => false
def okG (sg : Sg) (x : Str) (d : D) (e : Expr) : Bool := match e with
  | .Name y _ => decide (x = y) && glB sg x && (match sg.gs.lookup x with
    | some d' => eqv d d'
    | none => false)
  | _ => false
where eqv : D → D → Bool
  | .int i, .int j => decide (i = j)
  | .str x, .str y => decide (x = y)
  | _, _ => false
def okBlt (f : Ex' → Expr → Bool) (sg : Sg) (b : Blt) (ils : List Ex') (e : Expr) : Bool := match b with
  | .maxD => (match ils, e with
    | [a, c], .Call (.Name x _) [e1] [⟨some y, z, _⟩] _ => decide (x = "max") && decide (y = "default") && bB sg "max" && noStar e1 && f a e1 && f c z
    | _, _ => false)
  | .lrange => (match callOf e with
    | some (x, [e1]) => (match ils, callOf e1 with
      | [a], some (y, [e2]) => decide (x = "list") && decide (y = "range") && bB sg "list" && bB sg "range" && noStar e2 && f a e2
      | [a, c], some (y, [e2, e3]) => decide (x = "list") && decide (y = "range") && bB sg "list" && bB sg "range" && noStar e2 && noStar e3 && f a e2 && f c e3
      | _, _ => false)
    | _ => false)
  | .sorted => (match callOf e with
    | some (x, es) => decide (x = "sorted") && bB sg "sorted" && es.all noStar && decide (1 ≤ es.length) && all2 f ils es
    | none => false)
  | b => (match callOf e with
    | some (x, es) => (match isN b with
      | some y => (match ils, es with
        | [il], [e1, .Name z _] => decide (x = "isinstance") && bB sg "isinstance" && decide (z = y) && bB sg y && noStar e1 && f il e1
        | _, _ => false)
      | none => decide (bltN b = some x) && bB sg x && es.all noStar && decide (1 ≤ es.length) && all2 f ils es)
    | none => false)
def okBm (f : Ex' → Expr → Bool) (m : Bm) (o : Ex') (ils : List Ex') (e : Expr) : Bool := match e with
  | .Call (.Attribute oe nm apos) es [] cpos => plainBase oe && (apos.endLine == cpos.line) && f o oe && (match m with
    | .append => (match es with
      | [e1] => decide (nm = "append") && noStar e1 && all2 f ils [e1]
      | _ => false)
    | .popAt => (match es with
      | [e1] => decide (nm = "pop") && noStar e1 && all2 f ils [e1]
      | _ => false)
    | .pop => (match es, ils with
      | [], [] => decide (nm = "pop")
      | _, _ => false)
    | _ => false)
  | _ => false
def okCall (f : Ex' → Expr → Bool) (sg : Sg) (g : Nat) (ils : List Ex') (e : Expr) : Bool := match callOf e with
  | some (x, es) => glB sg x && es.all noStar && decide (1 ≤ es.length) && (match sg.fns.lookup x with
    | some h => h == g
    | none => false) && all2 f ils es
  | none => false
def okOpt (f : Ex' → Expr → Bool) (b : Bool) (il : Ex') (e : Option Expr) : Bool := match b, e with
  | true, some e => f il e
  | false, none => true
  | _, _ => false
def okCd (f : Ex' → Expr → Bool) (cd : List Ex') (ces : List Expr) : Bool := match cd, ces with
  | [], [] => true
  | [c], [ce] => f c ce
  | _, _ => false
/-- what both kinds of comprehension ask -/
def okGen (f fb : Ex' → Expr → Bool) (sg : Sg) (scope : Scope) (own : List Nat) (tg : Tg) (k : ItK) (ils cd : List Ex') (te ie : Expr) (ces : List Expr) : Bool :=
  blkC sg.N sg.sc scope (namesOf sg own) && okTg (blkSg sg scope) tg te && (tgL tg).all own.contains && okIt f sg k ils te ie && okCd fb cd ces
mutual
def okE : Nat → Sg → Ex' → Expr → Bool
  | 0, _, _, _ => false
  | n + 1, sg, il, e => match il with
    | .c d => (match e with
      | .Constant c _ _ => okC d c
      | _ => false)
    | .v i => okV sg i e
    | .g x d => okG sg x d e
    | .bin o a b => (match e with
      | .BinOp ea o' eb _ => decide (o = o') && okE n sg a ea && okE n sg b eb
      | _ => false)
    | .neg a => (match e with
      | .UnaryOp .USub ea _ => okE n sg a ea
      | _ => false)
    | .not a => (match e with
      | .UnaryOp .Not ea _ => okE n sg a ea
      | _ => false)
    | .cmp o a b => (match e with
      | .Compare ea [o'] [eb] _ => decide (o = o') && !behindInMarks o eb && okE n sg a ea && okE n sg b eb
      | _ => false)
    | .chain o o2 a b c => (match e with
      | .Compare ea [o', o2'] [eb, ec] _ => decide (o = o') && decide (o2 = o2') && !lastMarks [o, o2] [eb, ec] && okE n sg a ea && okE n sg b eb && okE n sg c ec
      | _ => false)
    | .ife c a b => (match e with
      | .IfExp ec ea eb _ => okE n sg c ec && okE n sg a ea && okE n sg b eb
      | _ => false)
    | .ix a b => (match e with
      | .Subscript ea eb _ => noSlice eb && okE n sg a ea && okE n sg b eb
      | _ => false)
    | .sl lo hi a l h => (match e with
      | .Subscript ea (.Slice el eh none _) _ => okE n sg a ea && okOpt (okE n sg) lo l el && okOpt (okE n sg) hi h eh
      | _ => false)
    | .fld a f => (match e with
      | .Attribute ea f' _ => decide (f = f') && plainBase ea && okE n sg a ea
      | _ => false)
    | .tup ils => (match e with
      | .Tuple es _ _ => es.all noStar && all2 (okE n sg) ils es
      | _ => false)
    | .lst ils => (match e with
      | .List es _ => es.all noStar && all2 (okE n sg) ils es
      | _ => false)
    | .dic0 _ => (match e with
      | .Dict [] [] _ => true
      | _ => false)
    | .call f ils => okCall (okE n sg) sg f ils e
    | .view f ils => okCall (okE n sg) sg f ils e
    | .meth _ _ _ => false
    | .make _ _ => false
    | .blt b ils => okBlt (okE n sg) sg b ils e
    | .bm m o ils => okBm (okE n sg) m o ils e
    | .frz a => okE n sg a e
    | .and a b => (match e with
      | .BoolOp .And (e1 :: e2 :: es) _ => okE n sg a e1 && okB n sg .And b (e2 :: es)
      | _ => false)
    | .or a b => (match e with
      | .BoolOp .Or (e1 :: e2 :: es) _ => okE n sg a e1 && okB n sg .Or b (e2 :: es)
      | _ => false)
    | .comp own tg k ils cd elt => (match e with
      | .ListComp ee [⟨te, ie, ces, 0⟩] scope _ => okGen (okE n sg) (okE n (blkSg sg scope)) sg scope own tg k ils cd te ie ces && okE n (blkSg sg scope) elt ee
      | _ => false)
    | .dcomp own tg k ils cd ke ve => (match e with
      | .DictComp e1 e2 [⟨te, ie, ces, 0⟩] scope _ => okGen (okE n sg) (okE n (blkSg sg scope)) sg scope own tg k ils cd te ie ces && okE n (blkSg sg scope) ke e1 && okE n (blkSg sg scope) ve e2
      | _ => false)
def okB : Nat → Sg → BoolOp → Ex' → List Expr → Bool
  | 0, _, _, _, _ => false
  | n + 1, sg, op, il, es => match es with
    | [] => false
    | [e] => okE n sg il e
    | e :: e' :: es => (match op, il with
      | .And, .and a b => okE n sg a e && okB n sg .And b (e' :: es)
      | .Or, .or a b => okE n sg a e && okB n sg .Or b (e' :: es)
      | _, _ => false)
end
section
variable {T : Tb} {X : Cx} {W : WX} {P : Pr} {Φ : Hd'} {k : Nat} {sg : Sg}
theorem SgOk.vis (S : SgOk T X W P Φ k sg) {x : Str} (h : visB sg x = true) : Vis X.env.scope x := by
  rw [S.hsc]
  unfold visB at h
  split at h
  · rename_i e; exact .inl e
  · rename_i e; exact .inr (.inl e)
  · rename_i e; exact .inr (.inr e)
  · cases h
theorem SgOk.loc (S : SgOk T X W P Φ k sg) {x : Str} (h : locB sg x = true) : L2.Loc X.env.scope x ∧ (X.fn x = true ∨ X.env.scope.names.lookup x = some .local) := by
  rw [S.hsc]
  unfold locB at h
  split at h
  · rename_i e; exact ⟨.inl e, .inr e⟩
  · rename_i e; exact ⟨.inr e, .inl (S.fnc x h)⟩
  · cases h
theorem SgOk.gl (S : SgOk T X W P Φ k sg) {x : Str} (h : glB sg x = true) : Gl X x ∧ (x == ("__debug__" : Str)) = false := by
  unfold glB at h
  simp only [Bool.and_eq_true, decide_eq_true_eq] at h
  refine ⟨?_, by simpa using h.2⟩
  show X.env.scope.names.lookup x = _
  rw [S.hsc]; exact h.1
theorem SgOk.b (S : SgOk T X W P Φ k sg) {x : Str} (h : bB sg x = true) : Gl X x ∧ X.mg x = none := by
  unfold bB at h
  simp only [Bool.and_eq_true] at h
  exact ⟨(S.gl h.1).1, S.isB x h.2⟩
theorem SgOk.slot (S : SgOk T X W P Φ k sg) {i : Nat} {x : Str} (h : slotB sg i x = true) : X.N[i]? = some x := by
  rw [S.hN]; exact of_decide_eq_true h
theorem SgOk.blk (S : SgOk T X W P Φ k sg) (scope : Scope) (b : Blk) : SgOk T (b.cx X scope) NoW P Φ k (blkSg sg scope) :=
  ⟨⟨S.O.hK, S.O.hu, S.O.nd, S.O.calm, S.O.cl⟩, takes0, S.room, S.two, S.hN, by show relS scope X.env.scope = _; rw [S.hsc]; rfl, fun x h => h, fun x f h => (S.fns x f h).elim fun ps q => ⟨ps, ⟨q.fn⟩⟩,
    fun x c ns h => ⟨⟨(S.exs x c ns h).1.g, (S.exs x c ns h).1.o, (S.exs x c ns h).1.ini⟩, (S.exs x c ns h).2⟩, S.gs, S.isB⟩
theorem and2 {a b : Bool} (h : (a && b) = true) : a = true ∧ b = true := (Bool.and_eq_true _ _).mp h
theorem ga_of {f : Ex' → Expr → Bool} (h : ∀ il e, f il e = true → GX T X W P Φ il e) : ∀ {ils : List Ex'} {es : List Expr}, all2 f ils es = true → es.all noStar = true → GA T X W P Φ ils es
  | [], [], _, _ => ga_nil
  | il :: ils, e :: es, h1, h2 => by
    have h1' := and2 (show (f il e && all2 f ils es) = true from h1)
    have h2' := and2 (show (noStar e && es.all noStar) = true from h2)
    exact ga_cons (h il e h1'.1) (ga_of h h1'.2 h2'.2) (star_cons h2'.1)
  | [], _ :: _, h1, _ => by cases h1
  | _ :: _, [], h1, _ => by cases h1
theorem all2_len {α β : Type} {f : α → β → Bool} : ∀ {as : List α} {bs : List β}, all2 f as bs = true → as.length = bs.length
  | [], [], _ => rfl
  | a :: as, b :: bs, h => by
    have h' := and2 (show (f a b && all2 f as bs) = true from h)
    simp [all2_len h'.2]
  | [], _ :: _, h => by cases h
  | _ :: _, [], h => by cases h
theorem notSet_fs {e : Expr} (h : notSet e = true) (ev : Env) : ∀ x, foldedSetIterable e ev x = pure x := by
  intro x
  cases e <;> first | rfl | cases h
theorem okNm_some {i : Nat} {e : Expr} (h : okNm sg i e = true) : ∃ x p, e = .Name x p ∧ slotB sg i x = true ∧ locB sg x = true := by
  unfold okNm at h
  split at h
  · exact ⟨_, _, rfl, and2 h⟩
  · cases h
theorem gts_of (S : SgOk T X W P Φ k sg) : ∀ {is : List Nat} {es : List Expr}, all2 (okNm sg) is es = true → GTs X is es
  | [], [], _ => gts_nil
  | i :: is, e :: es, h => by
    have h' := and2 (show (okNm sg i e && all2 (okNm sg) is es) = true from h)
    obtain ⟨x, p, rfl, h1, h2⟩ := okNm_some h'.1
    exact gts_cons S.O.nd (S.slot h1) (S.loc h2).1 (S.loc h2).2 (gts_of S h'.2)
  | [], _ :: _, h => by cases h
  | _ :: _, [], h => by cases h
theorem gt_of (S : SgOk T X W P Φ k sg) {tg : Tg} {e : Expr} (h : okTg sg tg e = true) : GT T X tg e := by
  unfold okTg at h
  split at h
  · obtain ⟨x, p, rfl, h1, h2⟩ := okNm_some h
    exact gt_nm S.O.nd (S.slot h1) (S.loc h2).1 (S.loc h2).2
  · split at h
    · exact gt_tp S.O (gts_of S h)
    · cases h
theorem callOf_some {e : Expr} {x : Str} {es : List Expr} (h : callOf e = some (x, es)) : ∃ p pos, e = .Call (.Name x p) es [] pos := by
  unfold callOf at h
  split at h
  · cases h; exact ⟨_, _, rfl⟩
  · cases h
theorem gi_of (S : SgOk T X W P Φ k sg) {f : Ex' → Expr → Bool} (hf : ∀ il e, f il e = true → GX T X W P Φ il e) {kk : ItK} {ils : List Ex'} {te ie : Expr} (h : okIt f sg kk ils te ie = true) : GI T X W P Φ te kk ils ie := by
  unfold okIt at h
  split at h
  · split at h
    · have h' := and2 h
      exact gi_seq S.O (hf _ _ h'.2) (notSet_fs h'.1 _)
    · cases h
  · split at h
    · rename_i x es hc
      obtain ⟨p, pos, rfl⟩ := callOf_some hc
      obtain ⟨h, h6⟩ := and2 h
      obtain ⟨h, h5⟩ := and2 h
      obtain ⟨h, h4⟩ := and2 h
      obtain ⟨h, h3⟩ := and2 h
      obtain ⟨h1, h2⟩ := and2 h
      obtain rfl := of_decide_eq_true h1
      have ga := ga_of hf h4 h3
      have hl := all2_len h4
      obtain ⟨g1, g2⟩ := S.b h2
      match es, h3, h5, h6, ga, hl with
      | [a], h3, _, _, ga, hl => exact gi_rng1 S.O (by simpa using hl) ga g1 g2 (by simpa using h3)
      | [a, b], h3, _, _, ga, hl =>
        have h3' : noStar a = true ∧ noStar b = true := by simpa using h3
        exact gi_rng2 S.O (by simpa using hl) ga g1 g2 h3'.1 h3'.2
      | [a, b, c], h3, _, _, ga, hl => exact gi_rng3 S.O (by simpa using hl) ga g1 g2 h3
      | [], _, h5, _, _, _ => simp at h5
      | _ :: _ :: _ :: _ :: _, _, _, h6, _, _ => simp at h6
    · cases h
  · split at h
    · rename_i x e hc
      obtain ⟨p, pos, rfl⟩ := callOf_some hc
      obtain ⟨h, h4⟩ := and2 h
      obtain ⟨h, h3⟩ := and2 h
      obtain ⟨h1, h2⟩ := and2 h
      obtain rfl := of_decide_eq_true h1
      obtain ⟨g1, g2⟩ := S.b h2
      exact gi_enum S.O (by simpa using all2_len h4) (ga_of hf h4 (by simp [h3])) g1 g2 h3
    · cases h
  · cases h
end
end RL
set_option Elab.async false
set_option linter.all false
set_option maxRecDepth 100000
set_option maxHeartbeats 1000000
/-! RL, what is checked holds: expressions. -/
namespace RL
open PySem PySem.Spec PyProof.Rows L2
section
variable {T : Tb} {X : Cx} {W : WX} {P : Pr} {Φ : Hd'} {k : Nat} {sg : Sg}
theorem isN_tyN {b : Blt} {y : Str} (h : isN b = some y) : ∃ n, tyN b = some n ∧ y = Str.ofString n ∧ bltD b = isD' b ∧ bootBuiltins y = some (.type n) ∧ y ≠ "__name__" ∧ (y == ("__debug__" : Str)) = false := by
  cases b <;> first | (cases h; done) | skip
  all_goals (obtain rfl := Option.some.inj h; exact ⟨_, rfl, rfl, rfl, by decide +kernel, by decide, by decide⟩)
theorem ok_const (S : SgOk T X W P Φ k sg) {d : D} {c : Const} {j : Nat} {pos : Pos} (h : okC d c = true) : GX T X W P Φ (.c d) (.Constant c j pos) := by
  unfold okC at h
  split at h
  · obtain rfl := of_decide_eq_true h; exact gx_int S.O
  · rename_i b c
    have : b = c := by simpa using h
    subst this; exact gx_bl S.O
  · exact gx_non S.O
  · obtain rfl := of_decide_eq_true h; exact gx_str S.O
  · cases h
theorem ok_var (S : SgOk T X W P Φ k sg) {i : Nat} {e : Expr} (h : okV sg i e = true) : GX T X W P Φ (.v i) e := by
  unfold okV at h
  split at h
  · obtain ⟨h, h4⟩ := and2 h
    obtain ⟨h, h3⟩ := and2 h
    obtain ⟨h1, h2⟩ := and2 h
    exact gx_var S.O (S.slot h1) (S.vis h2) (by simpa using h3) (by simpa using h4)
  · cases h
theorem ok_glob (S : SgOk T X W P Φ k sg) {x : Str} {d : D} {e : Expr} (h : okG sg x d e = true) : GX T X W P Φ (.g x d) e := by
  unfold okG at h
  split at h
  · obtain ⟨h, h3⟩ := and2 h
    obtain ⟨h1, h2⟩ := and2 h
    obtain rfl := of_decide_eq_true h1
    split at h3
    · rename_i d' hl
      have : d = d' := by
        unfold okG.eqv at h3
        split at h3
        · rw [of_decide_eq_true h3]
        · rw [of_decide_eq_true h3]
        · cases h3
      subst this
      obtain ⟨v, u, g1, g2, g3⟩ := S.gs _ _ hl
      exact gx_glob S.O (S.gl h2).1 g1 g2 g3 (S.gl h2).2
    · cases h3
  · cases h
variable {f : Ex' → Expr → Bool}
theorem ok_blt (S : SgOk T X W P Φ k sg) (hf : ∀ il e, f il e = true → GX T X W P Φ il e) {b : Blt} {ils : List Ex'} {e : Expr} (h : okBlt f sg b ils e = true) : GX T X W P Φ (.blt b ils) e := by
  unfold okBlt at h
  split at h
  · split at h
    · obtain ⟨h, h6⟩ := and2 h
      obtain ⟨h, h5⟩ := and2 h
      obtain ⟨h, h4⟩ := and2 h
      obtain ⟨h, h3⟩ := and2 h
      obtain ⟨h1, h2⟩ := and2 h
      obtain rfl := of_decide_eq_true h1
      obtain rfl := of_decide_eq_true h2
      obtain ⟨g1, g2⟩ := S.b h3
      exact gx_maxD S.O S.O.calm (hf _ _ h5) (hf _ _ h6) g1 g2 h4
    · cases h
  · split at h
    · rename_i x e1 hc
      obtain ⟨p, pos, rfl⟩ := callOf_some hc
      split at h
      · rename_i a y e2 hc2
        obtain ⟨p2, pos2, rfl⟩ := callOf_some hc2
        obtain ⟨h, h6⟩ := and2 h
        obtain ⟨h, h5⟩ := and2 h
        obtain ⟨h, h4⟩ := and2 h
        obtain ⟨h, h3⟩ := and2 h
        obtain ⟨h1, h2⟩ := and2 h
        obtain rfl := of_decide_eq_true h1
        obtain rfl := of_decide_eq_true h2
        exact gx_lr1 S.O S.O.calm (hf _ _ h6) (S.b h3).1 (S.b h3).2 (S.b h4).1 (S.b h4).2 h5
      · rename_i a c y e2 e3 hc2
        obtain ⟨p2, pos2, rfl⟩ := callOf_some hc2
        obtain ⟨h, h8⟩ := and2 h
        obtain ⟨h, h7⟩ := and2 h
        obtain ⟨h, h6⟩ := and2 h
        obtain ⟨h, h5⟩ := and2 h
        obtain ⟨h, h4⟩ := and2 h
        obtain ⟨h, h3⟩ := and2 h
        obtain ⟨h1, h2⟩ := and2 h
        obtain rfl := of_decide_eq_true h1
        obtain rfl := of_decide_eq_true h2
        exact gx_lr2 S.O S.O.calm (hf _ _ h7) (hf _ _ h8) (S.b h3).1 (S.b h3).2 (S.b h4).1 (S.b h4).2 h5 h6
      · cases h
    · cases h
  · split at h
    · rename_i x es hc
      obtain ⟨p, pos, rfl⟩ := callOf_some hc
      obtain ⟨h, h5⟩ := and2 h
      obtain ⟨h, h4⟩ := and2 h
      obtain ⟨h, h3⟩ := and2 h
      obtain ⟨h1, h2⟩ := and2 h
      obtain rfl := of_decide_eq_true h1
      match es, h3, h4, h5 with
      | [], _, h4, _ => simp at h4
      | e :: es, h3, _, h5 => exact gx_sorted S.O (ga_of hf h5 h3) (S.b h2).1 (S.b h2).2 h3
    · cases h
  · split at h
    · rename_i x es hc
      obtain ⟨p, pos, rfl⟩ := callOf_some hc
      split at h
      · rename_i y hy
        split at h
        · obtain ⟨h, h6⟩ := and2 h
          obtain ⟨h, h5⟩ := and2 h
          obtain ⟨h, h4⟩ := and2 h
          obtain ⟨h, h3⟩ := and2 h
          obtain ⟨h1, h2⟩ := and2 h
          obtain rfl := of_decide_eq_true h1
          obtain rfl := of_decide_eq_true h3
          obtain ⟨n, n1, n2, n3, n4, n5, n6⟩ := isN_tyN hy
          exact gx_isi S.O n1 n3 (hf _ _ h6) (S.b h2).1 (S.b h2).2 (S.b h4).1 (S.b h4).2 n4 h5 n5 n6
        · cases h
      · obtain ⟨h, h5⟩ := and2 h
        obtain ⟨h, h4⟩ := and2 h
        obtain ⟨h, h3⟩ := and2 h
        obtain ⟨h1, h2⟩ := and2 h
        match es, h3, h4, h5 with
        | [], _, h4, _ => simp at h4
        | e :: es, h3, _, h5 => exact gx_blt S.O S.O.calm (of_decide_eq_true h1) (ga_of hf h5 h3) (S.b h2).1 (S.b h2).2 h3
    · cases h
theorem ok_bm (S : SgOk T X W P Φ k sg) (hf : ∀ il e, f il e = true → GX T X W P Φ il e) {m : Bm} {o : Ex'} {ils : List Ex'} {e : Expr} (h : okBm f m o ils e = true) : GX T X W P Φ (.bm m o ils) e := by
  unfold okBm at h
  split at h
  · obtain ⟨h, h4⟩ := and2 h
    obtain ⟨h, h3⟩ := and2 h
    obtain ⟨h1, h2⟩ := and2 h
    split at h4
    · split at h4
      · obtain ⟨h4, h7⟩ := and2 h4
        obtain ⟨h5, h6⟩ := and2 h4
        obtain rfl := of_decide_eq_true h5
        exact gx_append S.O (hf _ _ h3) (ga_of hf h7 (by simp [h6])) h1 h2 h6
      · cases h4
    · split at h4
      · obtain ⟨h4, h7⟩ := and2 h4
        obtain ⟨h5, h6⟩ := and2 h4
        obtain rfl := of_decide_eq_true h5
        exact gx_popAt S.O (hf _ _ h3) (ga_of hf h7 (by simp [h6])) h1 h2 h6
      · cases h4
    · split at h4
      · obtain rfl := of_decide_eq_true h4
        exact gx_pop S.O (hf _ _ h3) h1 h2
      · cases h4
    · cases h4
  · cases h
theorem ok_call (S : SgOk T X W P Φ k sg) (hf : ∀ il e, f il e = true → GX T X W P Φ il e) {g : Nat} {ils : List Ex'} {e : Expr} (h : okCall f sg g ils e = true) : GX T X W P Φ (.call g ils) e ∧ GX T X W P Φ (.view g ils) e := by
  unfold okCall at h
  split at h
  · rename_i x es hc
    obtain ⟨p, pos, rfl⟩ := callOf_some hc
    obtain ⟨h, h5⟩ := and2 h
    obtain ⟨h, h4⟩ := and2 h
    obtain ⟨h, h3⟩ := and2 h
    obtain ⟨h1, h2⟩ := and2 h
    split at h4
    · rename_i q hq
      have : q = g := by simpa using h4
      subst this
      obtain ⟨ps, F⟩ := S.fns _ _ hq
      match es, h2, h3, h5 with
      | [], _, h3, _ => simp at h3
      | e :: es, h2, _, h5 => exact ⟨gx_call S.O S.tk S.room F (ga_of hf h5 h2) (S.gl h1).1 h2 (S.gl h1).2, gx_view S.O S.tk S.room F (ga_of hf h5 h2) (S.gl h1).1 h2 (S.gl h1).2⟩
    · cases h4
  · cases h
theorem ok_opt {b : Bool} {il : Ex'} {e : Option Expr} (hf : ∀ il e, f il e = true → GX T X W P Φ il e) (h : okOpt f b il e = true) : GO T X W P Φ b il e := by
  unfold okOpt at h
  split at h
  · exact go_some (hf _ _ h)
  · exact go_none
  · cases h
theorem names_snd {sg : Sg} {own : List Nat} : own = (namesOf sg own).map (·.2) := by
  unfold namesOf
  rw [List.map_map]
  exact (List.map_id own).symm
theorem ok_cd {scope : Scope} {cd : List Ex'} {ces : List Expr} (hf : ∀ (b : Blk) il e, f il e = true → GX T (b.cx X scope) NoW P Φ il e) (h : okCd f cd ces = true) : GC T X scope P Φ cd ces := by
  unfold okCd at h
  split at h
  · exact gc_nil
  · exact gc_one fun b => hf b _ _ h
  · cases h
theorem okTg_tp {is : List Nat} {te : Expr} (h : okTg sg (.tp is) te = true) : ∃ es kk pos, te = .Tuple es kk pos ∧ all2 (okNm sg) is es = true := by
  cases te <;> first | (exact ⟨_, _, _, rfl, h⟩) | cases h
theorem ok_gen (S : SgOk T X W P Φ k sg) {fb : Ex' → Expr → Bool} {scope : Scope} {own : List Nat} {tg : Tg} {kk : ItK} {ils cd : List Ex'} {te ie : Expr} {ces : List Expr} (hf : ∀ il e, f il e = true → GX T X W P Φ il e) (hfb : ∀ (b : Blk) il e, fb il e = true → GX T (b.cx X scope) NoW P Φ il e)
    (h : okGen f fb sg scope own tg kk ils cd te ie ces = true) : BlkOk X.N X.env.scope scope (namesOf sg own) ∧ (∃ g, (∀ b : Blk, PG (b.cx X scope) te g) ∧ GoodT T tg g) ∧ (∀ i ∈ tgL tg, i ∈ own) ∧ GI T X W P Φ te kk ils ie ∧ GC T X scope P Φ cd ces := by
  unfold okGen at h
  obtain ⟨h, h5⟩ := and2 h
  obtain ⟨h, h4⟩ := and2 h
  obtain ⟨h, h3⟩ := and2 h
  obtain ⟨h1, h2⟩ := and2 h
  refine ⟨by rw [S.hN, S.hsc]; exact blkOk_by h1, ?_, fun i hi => ?_, gi_of S hf h4, ok_cd hfb h5⟩
  · clear h3 h
    cases tg with
    | nm i =>
      obtain ⟨x, p, rfl, n1, n2⟩ := okNm_some (show okNm (blkSg sg scope) i te = true from h2)
      exact ⟨gName i, fun b => pg_name (S.blk scope b).O.nd ((S.blk scope b).slot n1) ((S.blk scope b).loc n2).1 ((S.blk scope b).loc n2).2, good_nm i⟩
    | tp is =>
      obtain ⟨es, kk, pos, rfl, h2'⟩ := okTg_tp h2
      refine ⟨gTup T.K is.length (gNames is), fun b => ?_, good_tp is⟩
      have G := gts_of (S.blk scope b) h2'
      rw [← (S.blk scope b).O.hK]
      exact pg_tup (S.blk scope b).O.calm G.ok G.n G.st
  · have := List.all_eq_true.mp h3 i hi
    simpa using this
/-- what is checked holds -/
theorem ok_all : ∀ n : Nat, (∀ {X : Cx} {W : WX} {sg : Sg}, SgOk T X W P Φ k sg → ∀ (il : Ex') (e : Expr), okE n sg il e = true → GX T X W P Φ il e) ∧
    (∀ {X : Cx} {W : WX} {sg : Sg}, SgOk T X W P Φ k sg → ∀ (op : BoolOp) (il : Ex') (es : List Expr), okB n sg op il es = true → GB T X W P Φ op il es)
  | 0 => ⟨fun _ il e h => by simp [okE] at h, fun _ op il es h => by simp [okB] at h⟩
  | n + 1 => by
    obtain ⟨ih, ihb⟩ := ok_all n
    refine ⟨fun {X W sg} S il e h => ?_, fun {X W sg} S op il es h => ?_⟩
    · have hf := fun il e => ih S il e
      cases il with
      | c d =>
        simp only [okE] at h
        split at h
        · exact ok_const S h
        · cases h
      | v i => simp only [okE] at h; exact ok_var S h
      | g x d => simp only [okE] at h; exact ok_glob S h
      | bin o a b =>
        simp only [okE] at h
        split at h
        · obtain ⟨h, h3⟩ := and2 h
          obtain ⟨h1, h2⟩ := and2 h
          obtain rfl := of_decide_eq_true h1
          exact gx_bin S.O (hf _ _ h2) (hf _ _ h3)
        · cases h
      | neg a =>
        simp only [okE] at h
        split at h
        · exact gx_neg S.O (hf _ _ h)
        · cases h
      | not a =>
        simp only [okE] at h
        split at h
        · exact gx_not (hf _ _ h)
        · cases h
      | cmp o a b =>
        simp only [okE] at h
        split at h
        · obtain ⟨h, h4⟩ := and2 h
          obtain ⟨h, h3⟩ := and2 h
          obtain ⟨h1, h2⟩ := and2 h
          obtain rfl := of_decide_eq_true h1
          exact gx_cmp S.O (hf _ _ h3) (hf _ _ h4) (by simpa using h2)
        · cases h
      | chain o o2 a b c =>
        simp only [okE] at h
        split at h
        · obtain ⟨h, h6⟩ := and2 h
          obtain ⟨h, h5⟩ := and2 h
          obtain ⟨h, h4⟩ := and2 h
          obtain ⟨h, h3⟩ := and2 h
          obtain ⟨h1, h2⟩ := and2 h
          obtain rfl := of_decide_eq_true h1
          obtain rfl := of_decide_eq_true h2
          exact gx_chain S.O (hf _ _ h4) (hf _ _ h5) (hf _ _ h6) (by simpa using h3)
        · cases h
      | ife c a b =>
        simp only [okE] at h
        split at h
        · obtain ⟨h, h3⟩ := and2 h
          obtain ⟨h1, h2⟩ := and2 h
          exact gx_ife S.O (hf _ _ h1) (hf _ _ h2) (hf _ _ h3)
        · cases h
      | ix a b =>
        simp only [okE] at h
        split at h
        · obtain ⟨h, h3⟩ := and2 h
          obtain ⟨h1, h2⟩ := and2 h
          exact gx_ix S.O (hf _ _ h2) (hf _ _ h3) (plainIx_of h1)
        · cases h
      | sl lo hi a l hh =>
        simp only [okE] at h
        split at h
        · obtain ⟨h, h3⟩ := and2 h
          obtain ⟨h1, h2⟩ := and2 h
          exact gx_sl S.O (hf _ _ h1) (ok_opt hf h2) (ok_opt hf h3)
        · cases h
      | fld a f =>
        simp only [okE] at h
        split at h
        · obtain ⟨h, h3⟩ := and2 h
          obtain ⟨h1, h2⟩ := and2 h
          obtain rfl := of_decide_eq_true h1
          exact gx_fld S.O (hf _ _ h3) (base_ok h2)
        · cases h
      | tup ils =>
        simp only [okE] at h
        split at h
        · obtain ⟨h1, h2⟩ := and2 h
          exact gx_tup S.O (ga_of hf h2 h1)
        · cases h
      | lst ils =>
        simp only [okE] at h
        split at h
        · obtain ⟨h1, h2⟩ := and2 h
          exact gx_lst S.O (ga_of hf h2 h1)
        · cases h
      | dic0 b =>
        simp only [okE] at h
        split at h
        · exact gx_dic0 S.O
        · cases h
      | call f ils => simp only [okE] at h; exact (ok_call S hf h).1
      | view f ils => simp only [okE] at h; exact (ok_call S hf h).2
      | meth _ _ _ => simp [okE] at h
      | make _ _ => simp [okE] at h
      | blt b ils => simp only [okE] at h; exact ok_blt S hf h
      | bm m o ils => simp only [okE] at h; exact ok_bm S hf h
      | frz a => simp only [okE] at h; exact gx_frz (hf _ _ h)
      | and a b =>
        simp only [okE] at h
        split at h
        · obtain ⟨h1, h2⟩ := and2 h
          exact GB.gx (gb_and (hf _ _ h1) (ihb S _ _ _ h2))
        · cases h
      | or a b =>
        simp only [okE] at h
        split at h
        · obtain ⟨h1, h2⟩ := and2 h
          exact GB.gx (gb_or (hf _ _ h1) (ihb S _ _ _ h2))
        · cases h
      | comp own tg kk ils cd elt =>
        simp only [okE] at h
        split at h
        · rename_i ee te ie ces scope pos
          obtain ⟨h1, h2⟩ := and2 h
          obtain ⟨c1, c2, c3, c4, c5⟩ := ok_gen S hf (fun b il e h => ih (S.blk scope b) il e h) h1
          exact gx_comp S.O ⟨c1, names_snd, c2, c3, c4, c5, fun b => ih (S.blk scope b) _ _ h2⟩
        · cases h
      | dcomp own tg kk ils cd ke ve =>
        simp only [okE] at h
        split at h
        · rename_i e1 e2 te ie ces scope pos
          obtain ⟨h, h3⟩ := and2 h
          obtain ⟨h1, h2⟩ := and2 h
          obtain ⟨c1, c2, c3, c4, c5⟩ := ok_gen S hf (fun b il e h => ih (S.blk scope b) il e h) h1
          exact gx_dcomp S.O ⟨c1, names_snd, c2, c3, c4, c5, fun b => ih (S.blk scope b) _ _ h2, fun b => ih (S.blk scope b) _ _ h3⟩
        · cases h
    · have hf := fun il e => ih S il e
      simp only [okB] at h
      split at h
      · cases h
      · cases op with
        | And => exact gb_and1 (hf _ _ h)
        | Or => exact gb_or1 (hf _ _ h)
      · split at h
        · obtain ⟨h1, h2⟩ := and2 h
          exact gb_and (hf _ _ h1) (ihb S _ _ _ h2)
        · obtain ⟨h1, h2⟩ := and2 h
          exact gb_or (hf _ _ h1) (ihb S _ _ _ h2)
        · cases h
end
end RL
set_option Elab.async false
set_option linter.all false
set_option maxRecDepth 100000
set_option maxHeartbeats 1000000
/-! RL, what is checked holds: statements. -/
namespace RL
open PySem PySem.Spec PyProof.Rows L2 L2H
def noComp : Expr → Bool
  | .ListComp .. => false
  | .SetComp .. => false
  | .DictComp .. => false
  | _ => true
def notTup : Expr → Bool
  | .Tuple .. => false
  | _ => true
/-- name = [..], the name aside from the block's own: the store goes within -/
def swapB (sg : Sg) (x : Str) (px : Pos) (scope : Scope) (lpos : Pos) : Bool := decide (sg.sc.names.lookup x = some .local) && (px.line == lpos.line) && !(scope.names.any fun (n, k) => n == x && (k == .local || k == .cell))
def okAsg (n : Nat) (sg : Sg) (i : Nat) (e : Ex') (x : Str) (px : Pos) (ee : Expr) : Bool := slotB sg i x && locB sg x && (match noComp ee with
  | true => okE n sg e ee
  | false => (match e with
    | .comp own tg k ils cd elt => (match ee with
      | .ListComp e2 [⟨te, ie, ces, 0⟩] scope lpos => swapB sg x px scope lpos && okGen (okE n sg) (okE n (blkSg sg scope)) sg scope own tg k ils cd te ie ces && okE n (blkSg sg scope) elt e2
      | _ => false)
    | _ => false))
def okPar (n : Nat) (sg : Sg) (i j : Nat) (a b : Ex') (te ve : Expr) : Bool := match te, ve with
  | .Tuple [.Name x px, .Name y py] _ _, .Tuple [ea, eb] _ _ => slotB sg i x && slotB sg j y && decide (i ≠ j) && decide (sg.sc.names.lookup x = some .local) && decide (sg.sc.names.lookup y = some .local) && decide (px.line = py.line) && decide (x ≠ y) && noStar ea && noStar eb && !([ea, eb].all (foldedForSure 8)) && !([ea, eb].all (constantsAlone 8)) && okE n sg a ea && okE n sg b eb
  | _, _ => false
def okRaise (n : Nat) (sg : Sg) (c : Nat) (ils : List Ex') (e : Expr) : Bool := match callOf e with
  | some (x, es) => glB sg x && es.all noStar && decide (1 ≤ es.length) && (match sg.exs.lookup x with
    | some (c', _) => c' == c
    | none => false) && all2 (okE n sg) ils es
  | none => false
/-- the one kind of suite -/
def okSuite (sg : Sg) (i : Nat) (hs : List ExceptHandler) : Bool := match hs with
  | [.ExceptHandler (some (.Name x _)) (some nm) [.Return (some (.Call (.Name y _) [.Name n2 _] [] _)) _] _] => sg.err && decide (x = "ApartError") && decide (y = "_law_error") && decide (n2 = nm) && slotB sg i nm && decide (sg.sc.names.lookup nm = some .local) && glB sg "ApartError" && glB sg "_law_error" && !(nm == ("__debug__" : Str)) && !(nm == ("__classdict__" : Str))
  | _ => false
mutual
def okS : Nat → Sg → St' → Stmt → Bool
  | 0, _, _, _ => false
  | n + 1, sg, il, st => match il with
    | .pass => (match st with
      | .Pass _ => true
      | _ => false)
    | .exp e => (match st with
      | .Expr ee _ => noComp ee && okE n sg e ee
      | _ => false)
    | .asg i e => (match st with
      | .Assign [.Name x px] ee _ => okAsg n sg i e x px ee
      | _ => false)
    | .asgT is e => (match st with
      | .Assign [te] ee _ => okTg sg (.tp is) te && noComp ee && notTup ee && okE n sg e ee
      | _ => false)
    | .par i j a b => (match st with
      | .Assign [te] ve _ => okPar n sg i j a b te ve
      | _ => false)
    | .sub d o k e => (match st with
      | .Assign [.Subscript oe ke _] ee _ => !d && noSlice ke && okE n sg o oe && okE n sg k ke && okE n sg e ee
      | _ => false)
    | .fld _ _ _ => false
    | .aug i o e => (match st with
      | .AugAssign te o' ee _ => okNm sg i te && decide (o = o') && okE n sg e ee
      | _ => false)
    | .augS _ _ _ _ => false
    | .augF _ _ _ _ => false
    | .ret e => (match st with
      | .Return (some ee) _ => okE n sg e ee
      | _ => false)
    | .retN => (match st with
      | .Return none _ => true
      | _ => false)
    | .ife c a b => (match st with
      | .If ce ae be _ => okE n sg c ce && okSs n sg a ae && okSs n sg b be
      | _ => false)
    | .whl c b => (match st with
      | .While ce be [] _ => okE n sg c ce && okSs n sg b be
      | _ => false)
    | .for_ tg k es b => (match st with
      | .For te ie be [] _ => okTg sg tg te && okIt (okE n sg) sg k es te ie && okSs n sg b be
      | _ => false)
    | .brk => (match st with
      | .Break _ => true
      | _ => false)
    | .cnt => (match st with
      | .Continue _ => true
      | _ => false)
    | .raise c es => (match st with
      | .Raise (some e) none _ => okRaise n sg c es e
      | _ => false)
    | .tryE b i => (match st with
      | .Try be hs [] [] _ => okSuite sg i hs && okSs n { sg with err := false } b be
      | _ => false)
    | .kill _ => false
    | .frzS _ => false
    | .never => true
def okSs : Nat → Sg → List St' → List Stmt → Bool
  | 0, _, _, _ => false
  | n + 1, sg, ils, sts => match ils with
    | [] => sts.isEmpty
    | il :: ils => (match il with
      | .kill _ => okSs n sg ils sts
      | il => (match sts with
        | [] => false
        | st :: sts => okS n sg il st && okSs n sg ils sts))
end
/-- a def's surroundings for its statements -/
structure SgS (T : Tb) (X : Cx) (W : WX) (P : Pr) (Φ : Hd') (k : Nat) (sg : Sg) : Prop where
  S : SgOk T X W P Φ k sg
  po : PassesOwn (model X.prog X.w) X.A X.env X.xe
  st : X.stack = X.env :: X.outer
  fr : X.env.frame = some X.env.locals
  kind : X.env.scope.kind = .function
  err : sg.err = true → ∃ cA A0, X.mg "ApartError" = some (.ref A0) ∧ ErrOk T X P k "_law_error" cA A0
section
variable {T : Tb} {X : Cx} {W : WX} {P : Pr} {Φ : Hd'} {k : Nat} {sg : Sg}
theorem swaps_no {e : Expr} {t : Option Expr} {l : Nat} {ev : Env} (h : noComp e = true) : swapsWith e t l ev = pure false := by
  cases e <;> first | rfl | cases h
theorem swaps_sole {t e : Expr} {l : Nat} {ev : Env} (h : noComp e = true) : swapsWithSole [t] e l ev = pure false := swaps_no h
theorem swapped_no {es : List Expr} {kk : Nat} {p : Pos} {e : Expr} {ev : Env} (h : notTup e = true) : swappedStores [.Tuple es kk p] e ev = pure none := by
  cases e <;> first | rfl | cases h
theorem SgS.tr (S : SgS T X W P Φ k sg) (hg : glB sg "ApartError" = true) {W' : WX} {pn : List (Addr × Obj)} {xe : Value → Shared → Prop} (tk : Takes (X.tr pn xe) W') (po : PassesOwn (model X.prog X.w) X.A X.env xe) : SgS T (X.tr pn xe) W' P Φ k { sg with err := false } :=
  ⟨⟨⟨S.S.O.hK, S.S.O.hu, S.S.O.nd, S.S.O.calm, S.S.O.cl⟩, tk, S.S.room, S.S.two, S.S.hN, S.S.hsc, S.S.fnc, fun x f h => (S.S.fns x f h).elim fun ps q => ⟨ps, ⟨q.fn⟩⟩,
    fun x c ns h => ⟨⟨(S.S.exs x c ns h).1.g, (S.S.exs x c ns h).1.o, (S.S.exs x c ns h).1.ini⟩, (S.S.exs x c ns h).2⟩, S.S.gs, S.S.isB⟩, po, S.st, S.fr, S.kind, fun z => by cases z⟩
theorem ok_asg (S : SgOk T X W P Φ k sg) (hk : X.env.scope.kind = .function) {n i : Nat} {e : Ex'} {x : Str} {px pos : Pos} {ee : Expr} (h : okAsg n sg i e x px ee = true) : SX T X W P Φ (.asg i e) (.Assign [.Name x px] ee pos) := by
  unfold okAsg at h
  obtain ⟨h, h3⟩ := and2 h
  obtain ⟨h1, h2⟩ := and2 h
  split at h3
  · rename_i hn
    exact sx_asg S.O (S.slot h1) (S.loc h2).1 ((ok_all n).1 S _ _ h3) (swaps_no hn) (S.loc h2).2
  · split at h3
    · split at h3
      · rename_i e2 te ie ces scope lpos _
        obtain ⟨h3, h6⟩ := and2 h3
        obtain ⟨h4, h5⟩ := and2 h3
        obtain ⟨c1, c2, c3, c4, c5⟩ := ok_gen S (fun il e => (ok_all n).1 S il e) (fun b il e h => (ok_all n).1 (S.blk scope b) il e h) h5
        unfold swapB at h4
        obtain ⟨h4, h9⟩ := and2 h4
        obtain ⟨h7, h8⟩ := and2 h4
        have hl : X.env.scope.names.lookup x = some .local := by rw [S.hsc]; exact of_decide_eq_true h7
        exact sx_asgLc S.O ⟨c1, names_snd, c2, c3, c4, c5, fun b => (ok_all n).1 (S.blk scope b) _ _ h6⟩ (S.slot h1) hl (sw_true hk hl h8 (by simpa using h9))
      · cases h3
    · cases h3
theorem ok_par (S : SgOk T X W P Φ k sg) (hk : X.env.scope.kind = .function) {n i j : Nat} {a b : Ex'} {te ve : Expr} {pos : Pos} (h : okPar n sg i j a b te ve = true) : SX T X W P Φ (.par i j a b) (.Assign [te] ve pos) := by
  unfold okPar at h
  split at h
  · obtain ⟨h, h13⟩ := and2 h
    obtain ⟨h, h12⟩ := and2 h
    obtain ⟨h, h11⟩ := and2 h
    obtain ⟨h, h10⟩ := and2 h
    obtain ⟨h, h9⟩ := and2 h
    obtain ⟨h, h8⟩ := and2 h
    obtain ⟨h, h7⟩ := and2 h
    obtain ⟨h, h6⟩ := and2 h
    obtain ⟨h, h5⟩ := and2 h
    obtain ⟨h, h4⟩ := and2 h
    obtain ⟨h, h3⟩ := and2 h
    obtain ⟨h1, h2⟩ := and2 h
    have hb : X.env.blockKind = .function := by unfold Env.blockKind; rw [hk]; rfl
    have q := fun il e => (ok_all n).1 S il e
    exact sx_par S.O (S.slot h1) (S.slot h2) (of_decide_eq_true h3) (by rw [S.hsc]; exact of_decide_eq_true h4) (by rw [S.hsc]; exact of_decide_eq_true h5) (ga_cons (q _ _ h12) (ga_cons (q _ _ h13) ga_nil (star_cons h9)) (star_cons h8)) hb (of_decide_eq_true h6) (of_decide_eq_true h7) h8 h9 ((Bool.not_eq_true' _).mp h10) ((Bool.not_eq_true' _).mp h11)
  · cases h
theorem ok_raise (S : SgOk T X W P Φ k sg) {n c : Nat} {ils : List Ex'} {e : Expr} {pos : Pos} (h : okRaise n sg c ils e = true) : SX T X W P Φ (.raise c ils) (.Raise (some e) none pos) := by
  unfold okRaise at h
  split at h
  · rename_i x es hc
    obtain ⟨p, cpos, rfl⟩ := callOf_some hc
    obtain ⟨h, h5⟩ := and2 h
    obtain ⟨h, h4⟩ := and2 h
    obtain ⟨h, h3⟩ := and2 h
    obtain ⟨h1, h2⟩ := and2 h
    split at h4
    · rename_i c' ns hq
      have : c' = c := by simpa using h4
      subst this
      obtain ⟨E, e1, e2⟩ := S.exs _ _ _ hq
      match es, h2, h3, h5 with
      | [], _, h3, _ => simp at h3
      | e :: es, h2, _, h5 => exact sx_raise S.O S.tk (S.room.mono S.two) E e1 e2 (ga_of (fun il e => (ok_all n).1 S il e) h5 h2) (S.gl h1).1 h2 (S.gl h1).2
    · cases h4
  · cases h
theorem ok_stmts : ∀ n : Nat, (∀ {X : Cx} {W : WX} {sg : Sg}, SgS T X W P Φ k sg → ∀ (il : St') (st : Stmt), okS n sg il st = true → SX T X W P Φ il st) ∧
    (∀ {X : Cx} {W : WX} {sg : Sg}, SgS T X W P Φ k sg → ∀ (ils : List St') (sts : List Stmt), okSs n sg ils sts = true → SA T X W P Φ ils sts)
  | 0 => ⟨fun _ il st h => by simp [okS] at h, fun _ ils sts h => by simp [okSs] at h⟩
  | n + 1 => by
    obtain ⟨ih, ihs⟩ := ok_stmts n
    refine ⟨fun {X W sg} G il st h => ?_, fun {X W sg} G ils sts h => ?_⟩
    · have S := G.S
      have hf := fun il e => (ok_all n).1 S il e
      cases il with
      | pass =>
        simp only [okS] at h
        split at h
        · exact sx_pass
        · cases h
      | exp e =>
        simp only [okS] at h
        split at h
        · obtain ⟨h1, h2⟩ := and2 h
          exact sx_exp (hf _ _ h2) (swaps_no h1)
        · cases h
      | asg i e =>
        simp only [okS] at h
        split at h
        · exact ok_asg S G.kind h
        · cases h
      | asgT is e =>
        simp only [okS] at h
        split at h
        · obtain ⟨h, h4⟩ := and2 h
          obtain ⟨h, h3⟩ := and2 h
          obtain ⟨h1, h2⟩ := and2 h
          obtain ⟨es, kk, pos, rfl, _⟩ := okTg_tp h1
          exact sx_asgT S.O (gt_of S h1) (hf _ _ h4) (swaps_sole h2) (swapped_no h3) rfl
        · cases h
      | par i j a b =>
        simp only [okS] at h
        split at h
        · exact ok_par S G.kind h
        · cases h
      | sub d o kk e =>
        simp only [okS] at h
        split at h
        · obtain ⟨h, h5⟩ := and2 h
          obtain ⟨h, h4⟩ := and2 h
          obtain ⟨h, h3⟩ := and2 h
          obtain ⟨h1, h2⟩ := and2 h
          obtain rfl : d = false := by simpa using h1
          exact sx_subL S.O h2 (hf _ _ h5) (hf _ _ h3) (hf _ _ h4)
        · cases h
      | fld _ _ _ => simp [okS] at h
      | aug i o e =>
        simp only [okS] at h
        split at h
        · obtain ⟨h, h3⟩ := and2 h
          obtain ⟨h1, h2⟩ := and2 h
          obtain ⟨x, p, rfl, n1, n2⟩ := okNm_some h1
          obtain rfl := of_decide_eq_true h2
          exact sx_aug S.O (S.slot n1) (S.loc n2).1 (hf _ _ h3) (S.loc n2).2
        · cases h
      | augS _ _ _ _ => simp [okS] at h
      | augF _ _ _ _ => simp [okS] at h
      | ret e =>
        simp only [okS] at h
        split at h
        · exact sx_ret (hf _ _ h)
        · cases h
      | retN =>
        simp only [okS] at h
        split at h
        · exact sx_retN
        · cases h
      | ife c a b =>
        simp only [okS] at h
        split at h
        · obtain ⟨h, h3⟩ := and2 h
          obtain ⟨h1, h2⟩ := and2 h
          exact sx_ife (hf _ _ h1) (ihs G _ _ h2) (ihs G _ _ h3)
        · cases h
      | whl c b =>
        simp only [okS] at h
        split at h
        · obtain ⟨h1, h2⟩ := and2 h
          exact sx_whl G.po (hf _ _ h1) (ihs G _ _ h2)
        · cases h
      | for_ tg kk es b =>
        simp only [okS] at h
        split at h
        · obtain ⟨h, h3⟩ := and2 h
          obtain ⟨h1, h2⟩ := and2 h
          exact sx_for S.O G.po (gt_of S h1) (gi_of S hf h2) (ihs G _ _ h3)
        · cases h
      | brk =>
        simp only [okS] at h
        split at h
        · exact sx_brk
        · cases h
      | cnt =>
        simp only [okS] at h
        split at h
        · exact sx_cnt
        · cases h
      | raise c es =>
        simp only [okS] at h
        split at h
        · exact ok_raise S h
        · cases h
      | tryE b i =>
        simp only [okS] at h
        split at h
        · obtain ⟨h1, h2⟩ := and2 h
          unfold okSuite at h1
          split at h1
          · obtain ⟨h1, g10⟩ := and2 h1
            obtain ⟨h1, g9⟩ := and2 h1
            obtain ⟨h1, g8⟩ := and2 h1
            obtain ⟨h1, g7⟩ := and2 h1
            obtain ⟨h1, g6⟩ := and2 h1
            obtain ⟨h1, g5⟩ := and2 h1
            obtain ⟨h1, g4⟩ := and2 h1
            obtain ⟨h1, g3⟩ := and2 h1
            obtain ⟨g1, g2⟩ := and2 h1
            obtain rfl := of_decide_eq_true g2
            obtain rfl := of_decide_eq_true g3
            obtain rfl := of_decide_eq_true g4
            obtain ⟨cA, A0, hnm, hE⟩ := G.err g1
            refine sx_try S.O S.tk S.room G.st G.fr (S.slot g5) (by show X.env.scope.names.lookup _ = _; rw [S.hsc]; exact of_decide_eq_true g6) ⟨(S.gl g7).1, (S.gl g7).2, .inl hnm⟩ hE (S.gl g8).1 (by decide) (by simpa using g9) (by simpa using g10) fun W' pn xe tk' po' => ?_
            exact ihs (sg := { sg with err := false }) (G.tr g7 tk' po') _ _ h2
          · cases h1
        · cases h
      | kill _ => simp [okS] at h
      | frzS _ => simp [okS] at h
      | never => exact sx_never
    · simp only [okSs] at h
      split at h
      · have : sts = [] := by simpa using h
        subst this
        exact sa_nil
      · split at h
        · exact sa_kill (ihs G _ _ h)
        · split at h
          · cases h
          · obtain ⟨h1, h2⟩ := and2 h
            exact sa_cons (ih G _ _ h1) (ihs G _ _ h2)
end
end RL
set_option Elab.async false
set_option linter.all false
set_option maxRecDepth 100000
set_option maxHeartbeats 1000000
/-! RL, the whole text: each def keeps what the evaluator says. -/
namespace RL
open PySem PySem.Spec PyProof.Rows L2 L2H
/-- a def of the text, its term -/
structure Df where
  x : Str
  f : Nat
  il : Fd'
  st : Stmt
  N : List Str
  ps : List Str
/-- what all defs know -/
structure Gs where
  fns : List (Str × Nat)
  exs : List (Str × Nat × List Str)
  gs : List (Str × D)
  isB : List Str
def sgOf (G : Gs) (d : Df) : Sg := { N := d.N, sc := defScope d.st, fnc := fun _ => true, fns := G.fns, exs := G.exs, gs := G.gs, isB := fun x => G.isB.contains x, err := true }
def okDf (n : Nat) (G : Gs) (d : Df) : Bool := decide (d.il.np = d.ps.length) && decide (d.il.ns = d.N.length) && okSs n (sgOf G d) d.il.body (defBody d.st)
theorem FnP.mono {P : Program} {w : World} {K : PySem.W.Frag} {mg : Str → Option Value} {base : Heap} {j k : Nat} {f : Addr} {fd : FuncData} {ps : List Str} {sp : (Addr × Obj) → Sp} (F : FnP P w K mg base j f fd ps sp) (h : j ≤ k) : FnP P w K mg base k f fd ps sp :=
  ⟨F.len, fun A outer s H ar us vs Q E p hr => F.run A outer s H ar us vs Q E p (hr.mono h)⟩
section
variable {T : Tb} {P : Pr} {P' : Program} {w : World} {mg : Str → Option Value} {base : Heap}
/-- what the head tells of the text -/
structure Tabs (T : Tb) (P : Pr) (P' : Program) (w : World) (mg : Str → Option Value) (base : Heap) (fd : Nat → Option Fd') (defs : List Df) (G : Gs) (n : Nat) : Prop where
  fn : ∀ d ∈ defs, ∃ fdat, Fun T.K d.x d.x d.st (T.fA d.f) fdat ∧ Binds T.K fdat d.ps []
  g : ∀ d ∈ defs, mg d.x = some (.ref (T.fA d.f))
  sc : ∀ d ∈ defs, FnScope d.N d.ps (defScope d.st)
  fd : ∀ d ∈ defs, fd d.f = some d.il
  ok : ∀ d ∈ defs, okDf n G d = true
  fns : ∀ x f, G.fns.lookup x = some f → ∃ d ∈ defs, d.x = x ∧ d.f = f
  exs : ∀ x c ns, G.exs.lookup x = some (c, ns) → (mg x = some (.ref (T.cA c)) ∧ OexC T.K (T.cA c) ∧ ∃ fI fdI ps, PySem.W.findIn T.K (.ref (T.cA c)) "__init__" = some (some (.ref fI)) ∧ PySem.W.typeIn T.K (.ref fI) = some (.type "function") ∧ Binds T.K fdI ps [] ∧ FnOk P' w T.K mg base (L2.CX P' w) 1 fI fdI ps (spEx (T.cA c) ns)) ∧ P.exf c = some ns ∧ ns.length ≤ 900
  gs : ∀ x d, G.gs.lookup x = some d → ∃ v u, mg x = some u ∧ RelV v u ∧ ∀ F H, Own T F H d v []
  isB : ∀ x ∈ G.isB, mg x = none
  cl : ∀ c f, (P.flds c).contains f = true → Cls T.K (T.cA c) ∧ NoAttr T.K (T.cA c) f
  err : ∃ cA A0, mg "ApartError" = some (.ref A0) ∧ (∃ fE fdE, mg "_law_error" = some (.ref fE) ∧ PySem.W.keepIn T.K (.ref fE) = true ∧ Binds T.K fdE ["error"] [] ∧ FnP P' w T.K mg base 2 fE fdE ["error"] (spErr T.K cA A0)) ∧
    ∀ c ns xs d, P.err c ns xs = some d → ∃ r nm, T.cA c = cA r ∧ errSome r = true ∧ ERaise T.K cA A0 r ∧ (∀ f ∈ attrNames, PySem.W.findIn T.K (.ref (cA r)) f = some none) ∧ errNames[r]? = some nm ∧ ns = (attrsOf r).reverse ∧ d = .olst [.str "raised", .str nm, .tup xs.reverse] ∧ PySem.W.exmOne T.K (.ref (cA r)) (.ref A0) = some true
theorem all_ok {fd : Nat → Option Fd'} {defs : List Df} {G : Gs} {n : Nat} (B : Tabs T P P' w mg base fd defs G n) : ∀ k, ∀ d ∈ defs, ∀ fdat, Fun T.K d.x d.x d.st (T.fA d.f) fdat → FnOk P' w T.K mg base (L2.CX P' w) (k + 2) (T.fA d.f) fdat d.ps (spOf T (run P fd k d.f))
  | 0, d, hd, fdat, F => by
    have no : ∀ vs H Q E, ¬ spOf T (run P fd 0 d.f) vs H Q E := fun vs H Q E h => by
      obtain ⟨_, _, _, _, _, _, hr, _⟩ := h
      cases hr
    exact ⟨fun vs H Q E h => absurd h (no _ _ _ _), fun A outer s H args us vs Q E _ _ _ _ h => absurd h (no _ _ _ _)⟩
  | k + 1, d, hd, fdat, F => by
    have S := B.sc d hd
    obtain ⟨hk1, hk2⟩ := and2 (B.ok d hd)
    obtain ⟨hk0, hk1⟩ := and2 hk1
    have np := of_decide_eq_true hk0
    have ns := of_decide_eq_true hk1
    have er : run P fd (k + 1) d.f = fun ds => run1 P (run P fd k) d.il ds := by
      funext ds
      show (match fd d.f with
        | some d => run1 P (run P fd k) d ds
        | none => none) = _
      rw [B.fd d hd]
    refine F.okX S (fun vs H Q E h => ?_) (fun cdv A outer s H vs Q E hr h => ?_)
    · obtain ⟨F1, ds, fp, o, ds', R, hr, _⟩ := h
      rw [er] at hr
      have hl : ds.length = vs.length := by have := R.len; simpa using this
      have hr' : run1 P (run P fd k) d.il ds = some (o, ds') := hr
      unfold run1 at hr'
      cases hc : decide (ds.length = d.il.np) && decide (d.il.np ≤ d.il.ns) with
      | false => rw [hc] at hr'; cases hr'
      | true =>
        have := of_decide_eq_true (and2 hc).1
        omega
    · rw [er] at h
      let X : Cx := cxOf (L2.CX P' w) P' w T.K mg base d.N d.x (defScope d.st) (T.fA d.f) cdv A outer s H E
      have room : Room (k + 2) X.A := hr
      have G0 : SgS T X (fun cls x _ H => E cls x H) P (run P fd k) (k + 2) (sgOf G d) := by
        refine ⟨⟨⟨rfl, ?_, S.nd, rfl, B.cl⟩, takes_of rfl rfl rfl rfl, room, by omega, rfl, rfl, fun _ _ => rfl, fun x f hx => ?_, fun x c ns hx => ?_, B.gs, fun x hx => B.isB x (by simpa [sgOf] using hx)⟩, passes_of rfl, rfl, rfl, S.kind, fun _ => ?_⟩
        · have := room.un
          omega
        · obtain ⟨d2, hd2, rfl, rfl⟩ := B.fns x f hx
          obtain ⟨fdat2, F2, b2⟩ := B.fn d2 hd2
          exact ⟨d2.ps, ⟨⟨fdat2, B.g d2 hd2, F2.kp, b2, all_ok B k d2 hd2 fdat2 F2⟩⟩⟩
        · obtain ⟨⟨e1, e2, e3⟩, e4⟩ := B.exs x c ns hx
          exact ⟨⟨e1, e2, e3⟩, e4⟩
        · obtain ⟨cA, A0, e1, ⟨fE, fdE, e2, e3, e4, e5⟩, e6⟩ := B.err
          exact ⟨cA, A0, e1, ⟨⟨fE, fdE, e2, e3, e4, e5.mono (by omega)⟩, e6⟩⟩
      exact fn_body (X := X) h ns.symm ((ok_stmts n).2 G0 _ _ hk2)
/-- the law's own call -/
theorem law_sp {k f : Nat} {fd : Nat → Option Fd'} {ns : List Int} {a : Addr} {H : Hp} {ds' : List (Option D)} (hs : SqL T.K H a (ns.map V.int)) (hr : run P fd k f [.nd false .fr (ns.map D.int)] = some (.ok (.bl true), ds')) :
    spOf T (run P fd k f) [.ref a] H (fun v _ => v = .bl true) (fun _ _ _ => False) := by
  have own0 : ∀ ns : List Int, OwnL T H H (ns.map D.int) (ns.map V.int) [] := fun ns => by
    induction ns with
    | nil => exact OwnL.nil_
    | cons n ns ih => exact OwnL.cons_ (f := []) (g := []) ⟨rfl, rfl⟩ ih
  refine ⟨H, [.nd false .fr (ns.map D.int)], fun _ => [], _, ds', ⟨Ex.refl _, rfl, fun i d h => ?_, fun _ => List.nodup_nil, fun i j a m => by simp at m, fun i a m => by simp at m, fun i a m => by simp at m, fun _ _ => rfl⟩, hr, fun r eo F' H' v fp' R' _ => ?_, fun c ns xs eo => by cases eo⟩
  · match i, h with
    | 0, h =>
      have : D.nd false .fr (ns.map D.int) = d := by simpa using h
      subst this
      exact ⟨.ref a, rfl, .inl ⟨rfl, rfl, a, _, rfl, hs, own0 ns⟩⟩
    | i + 1, h => simp at h
  · cases eo
    have hl : ds'.length = 1 := by have := R'.len; simpa using this
    obtain ⟨v', hv, ho⟩ := R'.at_ ds'.length (.bl true) (by simp)
    obtain rfl : v' = v := by
      rw [hl] at hv
      simpa using hv.symm
    exact ho.1
end
end RL
set_option Elab.async false
set_option linter.all false
set_option maxRecDepth 100000
set_option maxHeartbeats 1000000
/-! RL, the head: what is read of the state behind the top. -/
namespace RL
open PySem PySem.Spec PyProof.Rows L2 L2H
/-- facts by names, defs, and a Bool on the frame -/
def hookR (n : Nat) (fa : List He.Fa) (fn : List He.DefD) (ex : PySem.W.Frag → Bool) : PySem.W.Hook where
  α := He.AlD × Bool
  obs := fun s => (He.obsDG n fa fn s.heap.get?, ex (He.frG s.heap.get? (He.asD s.heap.get? n)))
  val := fun _ => (He.valD fn, true)
  says := fun _ h => ∃ K : PySem.W.Frag, K.In h ∧ He.SaysD fa fn K ∧ ex K = true
  of := fun _ _ e => ⟨_, He.frG_in, (Prod.mk.inj e).1, (Prod.mk.inj e).2⟩
  keeps := fun _ _ _ ⟨K, hK, c⟩ k => ⟨K, PySem.W.Frag.In.keeps hK k, c⟩
def obR (n : Nat) (fa : List He.Fa) (fn : List He.DefD) (ex : PySem.W.Frag → Bool) (s : PySem.W.SharedT) : He.AlD × Bool := (He.obsDG n fa fn (HandSHeadRun.getT s), ex (He.frG (HandSHeadRun.getT s) (He.asD (HandSHeadRun.getT s) n)))
theorem obR_eq {n : Nat} {fa : List He.Fa} {fn : List He.DefD} {ex : PySem.W.Frag → Bool} (s : PySem.W.SharedT) : obR n fa fn ex s = (hookR n fa fn ex).obs s.abs := by
  have e : HandSHeadRun.getT s = s.abs.heap.get? := funext (HandSHeadRun.getT_eq s)
  unfold obR
  rw [e] <;> rfl
theorem says_fact {fa : List He.Fa} {fn : List He.DefD} {K : PySem.W.Frag} (c : He.SaysD fa fn K) {f : He.Fa} (h : f ∈ fa) : f.ok K = true := by
  obtain ⟨i, hi, e⟩ := List.mem_iff_getElem.mp h
  exact c.fact i (f := f) (by rw [List.getElem?_eq_getElem hi, e])
theorem says_def {fa : List He.Fa} {fn : List He.DefD} {K : PySem.W.Frag} (c : He.SaysD fa fn K) {d : He.DefD} (h : d ∈ fn) : ∃ fd, FunD K d.name d.qual d.params d.body d.scope (d.dvs K) (d.kws K) (He.fAd K d.at_) fd := by
  obtain ⟨i, hi, e⟩ := List.mem_iff_getElem.mp h
  exact c.def_ i (d := d) (by rw [List.getElem?_eq_getElem hi, e])
theorem fun_ofD {K : PySem.W.Frag} {x qual : Str} {st : Stmt} {f : Addr} {fd : FuncData} (F : FunD K x qual (defArgs st) (defBody st) (defScope st) [] [] f fd) : Fun K x qual st f fd := by
  obtain ⟨oc, od, dV, kV, doc, pm, an, cdv, ct, osl, e, lk, hcd, hD, hK⟩ := F.ex
  rcases hD with ⟨_, rfl⟩ | ⟨z, _⟩
  · exact ⟨⟨oc, od, kV, doc, pm, an, cdv, ct, osl, e, lk, hcd⟩, F.kp⟩
  · exact absurd rfl z
theorem lookup_mem {β : Type} {x : Str} {v : β} : ∀ {l : List (Str × β)}, l.lookup x = some v → (x, v) ∈ l
  | [], h => by cases h
  | (y, g) :: l, h => by
    by_cases e : x = y
    · subst e
      simp [List.lookup] at h
      simp [h]
    · have e2 : (x == y) = false := by simpa using e
      simp only [List.lookup, e2] at h
      exact List.mem_cons_of_mem _ (lookup_mem h)
/-- a module's def, a class's __init__ -/
def dfD (x : Str) (st : Stmt) : He.DefD := ⟨(x, none), x, x, defArgs st, defBody st, defScope st, [], []⟩
def iniD (c q : Str) (st : Stmt) : He.DefD := ⟨(c, some "__init__"), "__init__", q, defArgs st, defBody st, defScope st, [], []⟩
/-! ### the error classes -/
def exClsB (K : PySem.W.Frag) (C : Addr) : Bool := match K.lookup C with
  | some ⟨.type "type", _, .cls cd, sl⟩ => (match cd.mro, sl.toList with
    | .ref C' :: bm, [_, _, _, _, some (.builtin n), _] => decide (C' = C) && decide (n = "ValueError.__new__") && !cd.hasDel && cd.hasDict && PySem.HandSPX.refsVE bm
    | _, _ => false)
  | _ => false
theorem exClsB_ok {K : PySem.W.Frag} {C : Addr} (h : exClsB K C = true) : ∃ nm q N bs bm sn sub ab col dd k0 k1 k2 k3 k5, K.lookup C = some (excClassObj nm q C N bs bm true sn sub ab col dd k0 k1 k2 k3 k5 "ValueError.__new__") ∧ PySem.HandSPX.refsVE bm = true := by
  unfold exClsB at h
  split at h
  · rename_i dd cd sl ho
    split at h
    · rename_i C' bm k0 k1 k2 k3 n k5 hm hs
      obtain ⟨h, h5⟩ := and2 h
      obtain ⟨h, h4⟩ := and2 h
      obtain ⟨h, h3⟩ := and2 h
      obtain ⟨h1, h2⟩ := and2 h
      obtain rfl := of_decide_eq_true h1
      obtain rfl := of_decide_eq_true h2
      obtain ⟨nm, bs, mro, ns, qn, hd, sn, sub, ab, col, del⟩ := cd
      have hdel : del = false := by simpa using h3
      dsimp only at hm h4
      subst hm hdel h4
      have hsl : sl = #[k0, k1, k2, k3, some (.builtin "ValueError.__new__"), k5] := by
        obtain ⟨l⟩ := sl
        dsimp only at hs
        rw [hs]
      subst hsl
      exact ⟨nm, qn, ns, bs, bm, sn, sub, ab, col, dd, k0, k1, k2, k3, k5, ho, h5⟩
    · cases h
  · cases h
def eqF (a b : Option (Option Value)) : Bool := decide (a = b)
def errA (K : PySem.W.Frag) (i : Nat) : Addr := He.ga K ((errNames[i]?).getD "")
def apA (K : PySem.W.Frag) : Addr := He.ga K "ApartError"
/-- what is to be seen of the class that is raised -/
def exB (K : PySem.W.Frag) (r : Nat) : Bool :=
  exClsB K (errA K r) && eqF (PySem.W.findIn K (.ref (errA K r)) "__setattr__") (some (some (.builtin "object.__setattr__"))) && decide (PySem.W.subIn K (.ref (errA K r)) (.type "BaseException") = some true) && decide (PySem.W.typeIn K (.ref (errA K r)) = some (.type "type")) && PySem.W.keepIn K (.ref (errA K r)) &&
  (eqF (PySem.W.findIn K (.ref (errA K r)) "__init__") (some (some (.ref (He.ma K (errA K r) "__init__")))) && decide (PySem.W.typeIn K (.ref (He.ma K (errA K r) "__init__")) = some (.type "function"))) &&
  (eqF (PySem.W.findIn K (.ref (errA K r)) "__getattribute__") (some (some (.builtin "BaseException.__getattribute__"))) && eqF (PySem.W.findIn K (.ref (errA K r)) "__getattr__") (some none) && PySem.W.hasDictIn K (errA K r) && eqF (PySem.W.findIn K (.ref (errA K r)) "__class__") (some (some (.builtin "object.__class__"))) &&
    eqF (PySem.W.specialIn K (.builtin "object.__class__") "__get__") (some (some (.builtin "getset_descriptor.__get__"))) && decide (PySem.W.takesIn K (.builtin "object.__class__") = some true) && decide (PySem.W.mroIn K (errA K r) (.type "object") = some true) && (PySem.W.clsIn K (errA K r)).isSome) &&
  ((List.range 12).all fun j => decide (PySem.W.kitOne K (.ref (errA K r)) (.ref (errA K j)) = some (decide (r = j)))) && decide (PySem.W.kitOne K (.ref (errA K r)) (.ref (apA K)) = some true) && decide (PySem.W.kitOne K (.ref (errA K r)) (.type "ValueError") = some true) &&
  (attrNames.all fun f => eqF (PySem.W.findIn K (.ref (errA K r)) f) (some none)) && decide (PySem.W.exmOne K (.ref (errA K r)) (.ref (apA K)) = some true)
structure ExSeen (K : PySem.W.Frag) (r : Nat) : Prop where
  o : OexC K (errA K r)
  ini : PySem.W.findIn K (.ref (errA K r)) "__init__" = some (some (.ref (He.ma K (errA K r) "__init__")))
  fn : PySem.W.typeIn K (.ref (He.ma K (errA K r) "__init__")) = some (.type "function")
  e : ERaise K (errA K) (apA K) r
  no : ∀ f ∈ attrNames, PySem.W.findIn K (.ref (errA K r)) f = some none
  m : PySem.W.exmOne K (.ref (errA K r)) (.ref (apA K)) = some true
theorem exB_ok {K : PySem.W.Frag} {r : Nat} (h : exB K r = true) : ExSeen K r := by
  unfold exB at h
  obtain ⟨h, x12⟩ := and2 h
  obtain ⟨h, x11⟩ := and2 h
  obtain ⟨h, x10⟩ := and2 h
  obtain ⟨h, x9⟩ := and2 h
  obtain ⟨h, x8⟩ := and2 h
  obtain ⟨h, x7⟩ := and2 h
  obtain ⟨h, x6⟩ := and2 h
  obtain ⟨h, x5⟩ := and2 h
  obtain ⟨h, x4⟩ := and2 h
  obtain ⟨h, x3⟩ := and2 h
  obtain ⟨x1, x2⟩ := and2 h
  obtain ⟨i1, i2⟩ := and2 x6
  obtain ⟨x7, c8⟩ := and2 x7
  obtain ⟨x7, c7⟩ := and2 x7
  obtain ⟨x7, c6⟩ := and2 x7
  obtain ⟨x7, c5⟩ := and2 x7
  obtain ⟨x7, c4⟩ := and2 x7
  obtain ⟨x7, c3⟩ := and2 x7
  obtain ⟨c1, c2⟩ := and2 x7
  have d3 := of_decide_eq_true x3
  refine ⟨⟨exClsB_ok x1, of_decide_eq_true x2, d3, of_decide_eq_true x4, x5⟩, of_decide_eq_true i1, of_decide_eq_true i2,
    ⟨⟨⟨of_decide_eq_true c1, of_decide_eq_true c2, d3, c3, of_decide_eq_true c4, of_decide_eq_true c5, of_decide_eq_true c6, of_decide_eq_true c7⟩, c8⟩, fun j hj => ?_, of_decide_eq_true x9, of_decide_eq_true x10⟩, fun f hf => ?_, of_decide_eq_true x12⟩
  · exact of_decide_eq_true (List.all_eq_true.mp x8 j (List.mem_range.mpr hj))
  · exact of_decide_eq_true (List.all_eq_true.mp x11 f hf)
/-- what is asked of the head by a text -/
def faR (defs : List Df) (blt : List Str) : List He.Fa := (defs.map fun d => .glo d.x) ++ (blt.map .free) ++ (errNames.map .glo) ++ [.glo "ApartError", .glo "_law_named", .glo "_law_attributes", .glo "_law_error", .free "ValueError", .free "isinstance"]
section
variable {K : PySem.W.Frag} {h : Heap} {mg : Str → Option Value} {defs : List Df} {blt : List Str} {fn : List He.DefD}
theorem efacts (X : K.In h) (G : h.Ns mainGlobals mg) (c : He.SaysD (faR defs blt) fn K) : EFacts K mg (errA K) (apA K) := by
  refine ⟨fun i nm e => ?_, He.glo_ok X G (says_fact c (f := .glo "ApartError") (by simp [faR])), He.free_ok X G (says_fact c (f := .free "ValueError") (by simp [faR])), He.free_ok X G (says_fact c (f := .free "isinstance") (by simp [faR]))⟩
  have m : nm ∈ errNames := List.mem_of_getElem? e
  have q := He.glo_ok X G (says_fact c (f := .glo nm) (by simp only [faR, List.mem_append, List.mem_map]; exact .inl (.inr ⟨nm, m, rfl⟩)))
  unfold errA
  rw [e]
  exact q
theorem glo_def (X : K.In h) (G : h.Ns mainGlobals mg) (c : He.SaysD (faR defs blt) fn K) {d : Df} (hd : d ∈ defs) : mg d.x = some (.ref (He.ga K d.x)) :=
  He.glo_ok X G (says_fact c (f := .glo d.x) (by simp only [faR, List.mem_append, List.mem_map]; exact .inl (.inl (.inl ⟨d, hd, rfl⟩))))
theorem free_def (X : K.In h) (G : h.Ns mainGlobals mg) (c : He.SaysD (faR defs blt) fn K) {x : Str} (hx : x ∈ blt) : mg x = none :=
  He.free_ok X G (says_fact c (f := .free x) (by simp only [faR, List.mem_append, List.mem_map]; exact .inl (.inl (.inr ⟨x, hx, rfl⟩))))
end
/-- a def that lets nothing out where nothing is wished -/
theorem FnOk.toCX0 {P : Program} {w : World} {K : PySem.W.Frag} {mg : Str → Option Value} {base : Heap} {k : Nat} {f : Addr} {fd : FuncData} {ps : List Str} {sp : Sp} (F : FnOk P w K mg base (L2.CX P w) k f fd ps sp) :
    FnOk P w K mg base CX0 k f fd ps (fun vs H Q _ => sp vs H Q fun _ _ _ => False) := by
  refine ⟨fun vs H Q E h => F.len vs H Q _ h, fun A outer s H args us vs Q E hr e0 b r h => ?_⟩
  refine codeAny_mono (F.run A outer s H args us vs Q _ hr e0 b r h) fun r s' z => ?_
  match r, z with
  | .ok (.ret u), z => exact z
  | .ok .next, z => exact (show False from z).elim
  | .ok .brk, z => exact (show False from z).elim
  | .ok .cont, z => exact (show False from z).elim
  | .error er, z =>
    obtain ⟨_, _, _, _, _, _, _, _, _, _, _, _, q⟩ := z
    exact q.elim
end RL
set_option linter.all false
namespace K65
def okL (last : Option Int) (x : Int) : Bool := match last with
  | none => true
  | some l => decide (l < x)
def best : Option Int → List Int → Nat
  | _, [] => 0
  | last, x :: xs => max (if okL last x then best (some x) xs + 1 else 0) (best last xs)
def lis : List Int → List Nat
  | [] => []
  | x :: xs => (best (some x) xs + 1) :: lis xs
def greedy : Int → Nat → Option Int → List (Int × Nat) → List Int
  | _, _, _, [] => []
  | k, left, last, (x, l) :: r => if l = left ∧ 0 < left ∧ okL last x = true then k :: greedy (k+1) (left-1) (some x) r else greedy (k+1) left last r
inductive IsRow : Int → Option Int → List Int → List Int → Prop
  | nil {k : Int} {last : Option Int} : IsRow k last [] []
  | skip {k : Int} {last : Option Int} {x : Int} {xs row : List Int} : IsRow (k+1) last xs row → IsRow k last (x :: xs) row
  | take {k : Int} {last : Option Int} {x : Int} {xs row : List Int} : okL last x = true → IsRow (k+1) (some x) xs row → IsRow k last (x :: xs) (k :: row)
theorem IsRow.le {k : Int} {last : Option Int} {xs row : List Int} (h : IsRow k last xs row) : row.length ≤ best last xs := by
  induction h with
  | nil => simp [best]
  | skip _ ih => simp only [best]; omega
  | take e _ ih => simp only [best, e, if_true, List.length_cons]; omega
theorem IsRow.ge {k : Int} {last : Option Int} {xs row : List Int} (h : IsRow k last xs row) : ∀ a ∈ row, k ≤ a := by
  induction h with
  | nil => simp
  | skip _ ih => intro a m; have := ih a m; omega
  | take e _ ih =>
    intro a m
    rcases List.mem_cons.mp m with rfl | m
    · omega
    · have := ih a m; omega
/-- the greedy row is the least of the longest ones -/
theorem greedy_row : ∀ (xs : List Int) (k : Int) (last : Option Int) (left : Nat), left = best last xs →
    IsRow k last xs (greedy k left last (xs.zip (lis xs))) ∧ (greedy k left last (xs.zip (lis xs))).length = left ∧ ∀ row, IsRow k last xs row → row.length = left → greedy k left last (xs.zip (lis xs)) ≤ row
  | [], k, last, left, h => by
    simp only [best] at h
    subst h
    refine ⟨.nil, rfl, fun row hr _ => ?_⟩
    cases hr
    exact List.le_refl _
  | x :: xs, k, last, left, h => by
    simp only [best] at h
    simp only [lis, List.zip_cons_cons, greedy]
    by_cases c : best (some x) xs + 1 = left ∧ 0 < left ∧ okL last x = true
    · rw [if_pos c]
      obtain ⟨i1, i2, i3⟩ := greedy_row xs (k + 1) (some x) (left - 1) (by omega)
      refine ⟨.take c.2.2 i1, by simp only [List.length_cons, i2]; omega, fun row hr hl => ?_⟩
      cases hr with
      | skip hr =>
        cases row with
        | nil => simp at hl; omega
        | cons a r =>
          have := hr.ge a (by simp)
          exact List.le_of_lt (List.cons_lt_cons_iff.mpr (.inl (by omega)))
      | take e hr =>
        exact List.cons_le_cons_iff.mpr (.inr ⟨rfl, i3 _ hr (by simp at hl; omega)⟩)
    · rw [if_neg c]
      have hb : left = best last xs := by
        by_cases e : okL last x = true
        · simp only [e, if_true] at h
          by_cases z : best (some x) xs + 1 = left
          · exact absurd ⟨z, by omega, e⟩ c
          · omega
        · rw [if_neg e] at h; omega
      obtain ⟨i1, i2, i3⟩ := greedy_row xs (k + 1) last left hb
      refine ⟨.skip i1, i2, fun row hr hl => ?_⟩
      cases hr with
      | skip hr => exact i3 _ hr hl
      | take e hr =>
        exfalso
        have := hr.le
        rw [if_pos e] at h
        simp at hl
        exact c ⟨by omega, by omega, e⟩
/-! ### patience -/
def place (t : List Int) (x : Int) : Nat := t.findIdx fun v => decide (v ≤ x)
def pat : List Int → List Int × List Nat
  | [] => ([], [])
  | x :: xs => ((if place (pat xs).1 x = (pat xs).1.length then (pat xs).1 ++ [x] else (pat xs).1.set (place (pat xs).1 x) x), (place (pat xs).1 x + 1) :: (pat xs).2)
def Inv (t : List Int) (xs : List Int) : Prop := ∀ (x : Int) (j : Nat), (∃ v, t[j]? = some v ∧ x < v) ↔ j < best (some x) xs
theorem place_of {t : List Int} {x : Int} {n : Nat} (h : ∀ j, (∃ v, t[j]? = some v ∧ x < v) ↔ j < n) : place t x = n := by
  have hn : n ≤ t.length := by
    cases n with
    | zero => omega
    | succ n =>
      obtain ⟨v, e, _⟩ := (h n).mpr (by omega)
      have := (List.getElem?_eq_some_iff.mp e).1
      omega
  have h1 : ¬ place t x < n := fun z => by
    obtain ⟨v, e, hv⟩ := (h _).mpr z
    obtain ⟨hl, ev⟩ := List.getElem?_eq_some_iff.mp e
    have := List.findIdx_getElem (xs := t) (p := fun v => decide (v ≤ x)) (w := hl)
    have this2 : t[place t x] ≤ x := of_decide_eq_true this
    omega
  have h2 : ¬ n < place t x := fun z => by
    have hl : place t x ≤ t.length := List.findIdx_le_length
    have h3 : n < t.length := by omega
    have := List.not_of_lt_findIdx (xs := t) (p := fun v => decide (v ≤ x)) z
    have h4 := (h n).mp ⟨t[n], List.getElem?_eq_getElem h3, by simpa using this⟩
    omega
  omega
theorem okL_iff {z x : Int} : okL (some z) x = true ↔ z < x := by simp [okL]
theorem inv_cons {t xs : List Int} {x : Int} (h : Inv t xs) : Inv (if place t x = t.length then t ++ [x] else t.set (place t x) x) (x :: xs) := by
  have hp : place t x = best (some x) xs := place_of (h x)
  have hn : place t x ≤ t.length := List.findIdx_le_length
  have get : ∀ j, (if place t x = t.length then t ++ [x] else t.set (place t x) x)[j]? = if j = place t x then some x else t[j]? := fun j => by
    split
    · rename_i e
      by_cases hj : j = place t x
      · rw [if_pos hj, hj, e]; simp
      · rw [if_neg hj, List.getElem?_append]
        by_cases hl : j < t.length
        · rw [if_pos hl]
        · rw [if_neg hl, List.getElem?_eq_none (by simp; omega), List.getElem?_eq_none (by omega)]
    · rename_i e
      by_cases hj : j = place t x
      · rw [if_pos hj, hj, List.getElem?_set_self (by omega)]
      · rw [if_neg hj, List.getElem?_set_ne (Ne.symm hj)]
  intro z j
  rw [get]
  simp only [best]
  by_cases hj : j = place t x
  · rw [if_pos hj]
    constructor
    · rintro ⟨v, e, hv⟩
      cases e
      rw [if_pos (okL_iff.mpr hv)]; omega
    · intro hlt
      refine ⟨x, rfl, ?_⟩
      by_cases hz : z < x
      · exact hz
      · rw [if_neg (fun q => hz (okL_iff.mp q))] at hlt
        obtain ⟨v, e, hv⟩ := (h z j).mpr (by omega)
        have : ¬ j < best (some x) xs := by omega
        have h2 : ¬ x < v := fun q => this ((h x j).mp ⟨v, e, q⟩)
        omega
  · rw [if_neg hj, h z j]
    constructor
    · intro q; omega
    · intro q
      by_cases hz : z < x
      · rw [if_pos (okL_iff.mpr hz)] at q
        by_cases hq : j < best (some z) xs
        · exact hq
        · obtain ⟨v, e, hv⟩ := (h x j).mpr (by omega)
          exact (h z j).mp ⟨v, e, by omega⟩
      · rw [if_neg (fun q => hz (okL_iff.mp q))] at q; omega
theorem pat_lis : ∀ xs : List Int, (pat xs).2 = lis xs ∧ Inv (pat xs).1 xs
  | [] => ⟨rfl, fun x j => by simp [pat, best]⟩
  | x :: xs => by
    obtain ⟨h1, h2⟩ := pat_lis xs
    refine ⟨?_, inv_cons h2⟩
    simp only [pat, lis, h1, place_of (h2 x)]
/-! ### the law's own lengths -/
theorem fold_best (x : Int) : ∀ (ys : List Int) (m : Nat), 1 ≤ m → (ys.zip (lis ys)).foldl (fun m p => if x < p.1 then max m (p.2 + 1) else m) m = max m (best (some x) ys + 1)
  | [], m, h => by simp [lis, best]; omega
  | y :: ys, m, h => by
    simp only [lis, List.zip_cons_cons, List.foldl_cons, best]
    by_cases hx : x < y
    · rw [if_pos hx, fold_best x ys _ (by omega), if_pos (okL_iff.mpr hx)]; omega
    · rw [if_neg hx, fold_best x ys _ h, if_neg (fun q => hx (okL_iff.mp q))]; omega
theorem fold_max : ∀ (ys : List Int) (m : Nat), (lis ys).foldl max m = max m (best none ys)
  | [], m => by simp [lis, best]
  | y :: ys, m => by
    simp only [lis, List.foldl_cons, best]
    rw [fold_max ys]
    simp only [okL, if_true]
    omega
theorem lis_len : ∀ xs : List Int, (lis xs).length = xs.length
  | [] => rfl
  | x :: xs => by simp [lis, lis_len xs]
/-! ### all rising rows -/
inductive IsRowE : Int → Option Int → List Int → List Int → Option Int → Prop
  | nil {k : Int} {last : Option Int} : IsRowE k last [] [] last
  | skip {k : Int} {last : Option Int} {x : Int} {xs row : List Int} {e : Option Int} : IsRowE (k+1) last xs row e → IsRowE k last (x :: xs) row e
  | take {k : Int} {last : Option Int} {x : Int} {xs row : List Int} {e : Option Int} : okL last x = true → IsRowE (k+1) (some x) xs row e → IsRowE k last (x :: xs) (k :: row) e
theorem IsRowE.row {k : Int} {last e : Option Int} {xs row : List Int} (h : IsRowE k last xs row e) : IsRow k last xs row := by
  induction h with
  | nil => exact .nil
  | skip _ ih => exact .skip ih
  | take c _ ih => exact .take c ih
theorem IsRow.end_ {k : Int} {last : Option Int} {xs row : List Int} (h : IsRow k last xs row) : ∃ e, IsRowE k last xs row e := by
  induction h with
  | nil => exact ⟨_, .nil⟩
  | skip _ ih => exact ⟨_, .skip ih.choose_spec⟩
  | take c _ ih => exact ⟨_, .take c ih.choose_spec⟩
theorem IsRowE.val {k : Int} {last e : Option Int} {xs row : List Int} (h : IsRowE k last xs row e) : (row = [] ∧ e = last) ∨ ∃ i v, row.getLast? = some i ∧ k ≤ i ∧ e = some v ∧ xs[(i - k).toNat]? = some v := by
  induction h with
  | nil => exact .inl ⟨rfl, rfl⟩
  | @skip k last x xs row e _ ih =>
    rcases ih with ih | ⟨i, v, h1, h2, h3, h4⟩
    · exact .inl ih
    · refine .inr ⟨i, v, h1, by omega, h3, ?_⟩
      have : (i - k).toNat = (i - (k + 1)).toNat + 1 := by omega
      rw [this]; simpa using h4
  | @take k last x xs row e c _ ih =>
    right
    rcases ih with ⟨h1, h2⟩ | ⟨i, v, h1, h2, h3, h4⟩
    · subst h1
      exact ⟨k, x, rfl, by omega, h2, by simp⟩
    · refine ⟨i, v, ?_, by omega, h3, ?_⟩
      · rw [List.getLast?_cons, h1]; rfl
      · have : (i - k).toNat = (i - (k + 1)).toNat + 1 := by omega
        rw [this]; simpa using h4
theorem row_snoc (x : Int) : ∀ (xs : List Int) (k : Int) (last : Option Int) (row : List Int), IsRow k last (xs ++ [x]) row ↔ IsRow k last xs row ∨ ∃ r e, row = r ++ [k + xs.length] ∧ IsRowE k last xs r e ∧ okL e x = true
  | [], k, last, row => by
    constructor
    · intro h
      cases h with
      | skip h => cases h; exact .inl .nil
      | take c h =>
        cases h
        exact .inr ⟨[], last, by simp, .nil, c⟩
    · rintro (h | ⟨r, e, h1, h2, h3⟩)
      · cases h; exact .skip .nil
      · cases h2
        subst h1
        have : ([] : List Int) ++ [k + (([] : List Int).length : Int)] = [k] := by simp
        rw [this]
        exact .take h3 .nil
  | y :: ys, k, last, row => by
    have e0 : k + ((y :: ys).length : Int) = k + 1 + ys.length := by simp only [List.length_cons]; omega
    rw [e0]
    constructor
    · intro h
      cases h with
      | skip h =>
        rcases (row_snoc x ys _ _ _).mp h with h | ⟨r, e, h1, h2, h3⟩
        · exact .inl (.skip h)
        · exact .inr ⟨r, e, h1, .skip h2, h3⟩
      | take c h =>
        rcases (row_snoc x ys _ _ _).mp h with h | ⟨r, e, h1, h2, h3⟩
        · exact .inl (.take c h)
        · exact .inr ⟨k :: r, e, by rw [h1]; rfl, .take c h2, h3⟩
    · rintro (h | ⟨r, e, h1, h2, h3⟩)
      · cases h with
        | skip h => exact .skip ((row_snoc x ys _ _ _).mpr (.inl h))
        | take c h => exact .take c ((row_snoc x ys _ _ _).mpr (.inl h))
      · cases h2 with
        | skip h2 => exact .skip ((row_snoc x ys _ _ _).mpr (.inr ⟨_, _, h1, h2, h3⟩))
        | take c h2 =>
          subst h1
          exact .take c ((row_snoc x ys _ _ _).mpr (.inr ⟨_, _, rfl, h2, h3⟩))
/-- may the place n follow the row? -/
def okRow (ns : List Int) (n : Nat) (row : List Int) : Bool := match row.getLast? with
  | none => true
  | some i => decide (ns.getD i.toNat 0 < ns.getD n 0)
def allR (ns : List Int) : Nat → List (List Int)
  | 0 => [[]]
  | n + 1 => allR ns n ++ ((allR ns n).filter (okRow ns n)).map (· ++ [(n : Int)])
theorem okRow_of {ns : List Int} {n : Nat} {row : List Int} {e : Option Int} {x : Int} (h : IsRowE 0 none (ns.take n) row e) (hx : ns[n]? = some x) : okRow ns n row = okL e x := by
  unfold okRow
  rcases h.val with ⟨h1, h2⟩ | ⟨i, v, h1, h2, h3, h4⟩
  · subst h1 h2; rfl
  · subst h3
    rw [h1]
    have h5 : i.toNat < n := by
      have := (List.getElem?_eq_some_iff.mp h4).1
      simp at this; omega
    have h6 : ns[i.toNat]? = some v := by
      rw [List.getElem?_take_of_lt (by omega)] at h4
      simpa using h4
    simp [okL, List.getD, h6, hx]
theorem mem_allR {ns : List Int} : ∀ (n : Nat), n ≤ ns.length → ∀ row, row ∈ allR ns n ↔ IsRow 0 none (ns.take n) row
  | 0, _, row => by
    simp only [allR, List.mem_singleton, List.take_zero]
    constructor
    · rintro rfl; exact .nil
    · intro h; cases h; rfl
  | n + 1, hn, row => by
    have hx : ns[n]? = some ns[n] := List.getElem?_eq_getElem (by omega)
    have e : ns.take (n + 1) = ns.take n ++ [ns[n]] := by rw [List.take_succ, hx]; rfl
    rw [e, row_snoc]
    have ih := fun row => mem_allR (ns := ns) n (by omega) row
    simp only [allR, List.mem_append, ih, List.mem_map, List.mem_filter]
    constructor
    · rintro (h | ⟨r, ⟨h1, h2⟩, rfl⟩)
      · exact .inl h
      · obtain ⟨e', h3⟩ := h1.end_
        refine .inr ⟨r, e', by simp; omega, h3, ?_⟩
        rw [← okRow_of h3 hx]; exact h2
    · rintro (h | ⟨r, e', h1, h2, h3⟩)
      · exact .inl h
      · refine .inr ⟨r, ⟨h2.row, ?_⟩, by rw [h1]; simp; omega⟩
        rw [okRow_of h2 hx]; exact h3
/-! ### the least of the longest -/
def greatest : List Nat → Nat := List.foldl max 0
theorem foldl_max_le {b : Nat} : ∀ {l : List Nat} {a : Nat}, a ≤ b → (∀ x ∈ l, x ≤ b) → l.foldl max a ≤ b
  | [], a, h, _ => h
  | x :: l, a, h, k => foldl_max_le (l := l) (by have := k x (by simp); omega) fun y m => k y (by simp [m])
theorem le_foldl_max : ∀ {l : List Nat} {a x : Nat}, x = a ∨ x ∈ l → x ≤ l.foldl max a
  | [], a, x, h => by
    rcases h with h | h
    · exact Nat.le_of_eq h
    · cases h
  | y :: l, a, x, h => by
    show x ≤ l.foldl max (max a y)
    rcases h with h | h
    · exact Nat.le_trans (by omega : x ≤ max a y) (le_foldl_max (.inl rfl))
    · rcases List.mem_cons.mp h with h | h
      · exact Nat.le_trans (by omega : x ≤ max a y) (le_foldl_max (.inl rfl))
      · exact le_foldl_max (.inr h)
def leB (a b : List Int) : Bool := decide (a ≤ b)
theorem sorted_head {l : List (List Int)} {g : List Int} (hg : g ∈ l) (hm : ∀ r ∈ l, g ≤ r) : (l.mergeSort leB)[0]? = some g := by
  have hp := List.mergeSort_perm l leB
  have hs := List.pairwise_mergeSort (le := leB) (fun a b c h1 h2 => by
    simp only [leB, decide_eq_true_eq] at h1 h2 ⊢
    exact List.le_trans h1 h2) (fun a b => by
    simp only [leB, Bool.or_eq_true, decide_eq_true_eq]
    exact List.le_total a b) l
  cases h : l.mergeSort leB with
  | nil => rw [h] at hp; have := hp.symm.mem_iff.mp hg; cases this
  | cons a r =>
    rw [h] at hp hs
    have ha : a ∈ l := hp.mem_iff.mp (by simp)
    have h1 := hm a ha
    have h2 : a ≤ g := by
      rcases List.mem_cons.mp (hp.symm.mem_iff.mp hg) with e | m
      · exact e ▸ List.le_refl _
      · have := (List.pairwise_cons.mp hs).1 g m
        simpa [leB] using this
    exact congrArg some (List.le_antisymm h2 h1)
def rising (ns : List Int) : List Int := greedy 0 (best none ns) none (ns.zip (lis ns))
theorem due_small (ns : List Int) : (((allR ns ns.length).filter fun row => decide (row.length = greatest ((allR ns ns.length).map List.length))).mergeSort leB)[0]? = some (rising ns) := by
  obtain ⟨g1, g2, g3⟩ := greedy_row ns 0 none _ rfl
  have mem : ∀ row, row ∈ allR ns ns.length ↔ IsRow 0 none ns row := fun row => by
    have := mem_allR (ns := ns) ns.length (Nat.le_refl _) row
    rwa [List.take_length] at this
  have hm : greatest ((allR ns ns.length).map List.length) = best none ns := by
    apply Nat.le_antisymm
    · refine foldl_max_le (Nat.zero_le _) fun x hx => ?_
      obtain ⟨r, hr, rfl⟩ := List.mem_map.mp hx
      exact ((mem r).mp hr).le
    · refine le_foldl_max (.inr (List.mem_map.mpr ⟨rising ns, (mem _).mpr g1, g2⟩))
  rw [hm]
  refine sorted_head (List.mem_filter.mpr ⟨(mem _).mpr g1, decide_eq_true g2⟩) fun r hr => ?_
  obtain ⟨h1, h2⟩ := List.mem_filter.mp hr
  exact g3 r ((mem r).mp h1) (by simpa using h2)
end K65
set_option Elab.async false
set_option linter.all false
set_option maxRecDepth 100000
set_option maxHeartbeats 1000000
/-! K65: the text's defs as terms (written by tr.py). -/
namespace K65
open PySem RL
def top (i : Nat) : Stmt := PySem.Challenge.pw_togetherapart_k65_the_kept_row.main.body.getD i (.Pass ⟨0, 0, 0, 0⟩)
abbrev f_is_integer : Nat := 0
abbrev f_first_not_greater : Nat := 1
abbrev f_lengths_from : Nat := 2
abbrev f_rising_places : Nat := 3
abbrev f_kept_row : Nat := 4
abbrev f__law_stream : Nat := 5
abbrev f__law_next : Nat := 6
abbrev f__law_pick : Nat := 7
abbrev f__law_from : Nat := 8
abbrev f__law_shuffled : Nat := 9
abbrev f__law_is_row : Nat := 10
abbrev f__law_same : Nat := 11
abbrev f__law_rising : Nat := 12
abbrev f__law_all_rising : Nat := 13
abbrev f__law_due_row : Nat := 14
abbrev f__law_mixed : Nat := 15
abbrev f__law_numbers : Nat := 16
abbrev f__law_ask : Nat := 17
abbrev f__law_wrong : Nat := 18
abbrev f_law : Nat := 19
def b_is_integer : List St' := [.ret (.and (.blt .isint [(.v 0)]) (.not (.blt .isbool [(.v 0)])))]
def t_is_integer : Fd' := ⟨1, 1, b_is_integer⟩
def d_is_integer : Df := ⟨"is_integer", f_is_integer, t_is_integer, top 15, ["value"], ["value"]⟩
def b_first_not_greater : List St' := [.par 2 3 (.c (.int 0)) (.blt .len [(.v 0)]),
  .whl (.cmp .Lt (.v 2) (.v 3)) [.asg 4 (.bin .FloorDiv (.bin .Add (.v 2) (.v 3)) (.c (.int 2))), .ife (.cmp .Gt (.ix (.v 0) (.v 4)) (.v 1)) [.asg 2 (.bin .Add (.v 4) (.c (.int 1)))] [.asg 3 (.v 4)]],
  .ret (.v 2)]
def t_first_not_greater : Fd' := ⟨2, 5, b_first_not_greater⟩
def d_first_not_greater : Df := ⟨"first_not_greater", f_first_not_greater, t_first_not_greater, top 17, ["tails", "number", "low", "high", "middle"], ["tails", "number"]⟩
def b_lengths_from : List St' := [.asg 1 (.bin .Mult (.lst [(.c (.int 0))]) (.blt .len [(.v 0)])),
  .asg 2 (.lst []),
  .for_ (.nm 3) .range [(.bin .Sub (.blt .len [(.v 0)]) (.c (.int 1))), (.neg (.c (.int 1))), (.neg (.c (.int 1)))] [.asg 4 (.view f_first_not_greater [(.v 2), (.ix (.v 0) (.v 3))]), .ife (.cmp .Eq (.v 4) (.blt .len [(.v 2)])) [.exp (.bm .append (.v 2) [(.ix (.v 0) (.v 3))])] [.sub false (.v 2) (.v 4) (.ix (.v 0) (.v 3))], .sub false (.v 1) (.v 3) (.bin .Add (.v 4) (.c (.int 1)))],
  .ret (.v 1)]
def t_lengths_from : Fd' := ⟨1, 5, b_lengths_from⟩
def d_lengths_from : Df := ⟨"lengths_from", f_lengths_from, t_lengths_from, top 18, ["numbers", "found", "tails", "at", "place"], ["numbers"]⟩
def b_rising_places : List St' := [.asg 1 (.call f_lengths_from [(.v 0)]),
  .asg 2 (.blt .maxD [(.v 1), (.c (.int 0))]),
  .asg 3 (.lst []),
  .for_ (.tp [4, 5]) .enum [(.v 0)] [.ife (.and (.cmp .Eq (.ix (.v 1) (.v 4)) (.v 2)) (.and (.cmp .Gt (.v 2) (.c (.int 0))) (.or (.cmp .Eq (.blt .len [(.v 3)]) (.c (.int 0))) (.cmp .Lt (.ix (.v 0) (.ix (.v 3) (.neg (.c (.int 1))))) (.v 5))))) [.exp (.bm .append (.v 3) [(.v 4)]), .aug 2 .Sub (.c (.int 1))] []],
  .ret (.v 3)]
def t_rising_places : Fd' := ⟨1, 6, b_rising_places⟩
def d_rising_places : Df := ⟨"rising_places", f_rising_places, t_rising_places, top 19, ["numbers", "lengths", "left", "found", "at", "number"], ["numbers"]⟩
def b_kept_row : List St' := [.ife (.or (.not (.blt .islist [(.v 0)])) (.not (.blt .all [(.comp [1] (.nm 1) .seq [(.v 0)] [] (.view f_is_integer [(.v 1)]))]))) [.raise 3 [(.c (.str "numbers"))]] [],
  .ife (.cmp .Lt (.blt .len [(.dcomp [1] (.nm 1) .seq [(.v 0)] [] (.v 1) (.c (.bl true)))]) (.blt .len [(.v 0)])) [.raise 3 [(.c (.str "numbers"))]] [],
  .ret (.call f_rising_places [(.v 0)])]
def t_kept_row : Fd' := ⟨1, 2, b_kept_row⟩
def d_kept_row : Df := ⟨"kept_row", f_kept_row, t_kept_row, top 20, ["numbers", "one"], ["numbers"]⟩
def b__law_stream : List St' := [.ret (.lst [(.blt .list [(.v 0)]), (.c (.int 0)), (.c (.int 0))])]
def t__law_stream : Fd' := ⟨1, 1, b__law_stream⟩
def d__law_stream : Df := ⟨"_law_stream", f__law_stream, t__law_stream, top 22, ["script"], ["script"]⟩
def b__law_next : List St' := [.ife (.cmp .Eq (.ix (.v 0) (.c (.int 1))) (.c (.int 0))) [.asg 2 (.ix (.v 0) (.c (.int 2))), .asg 3 (.bin .Add (.c (.int 7)) (.v 2)), .ife (.cmp .Lt (.v 2) (.blt .len [(.ix (.v 0) (.c (.int 0)))])) [.asg 3 (.bin .Mod (.blt .int [(.blt .abs [(.ix (.ix (.v 0) (.c (.int 0))) (.v 2))])]) (.bin .Mult (.bin .Mult (.bin .Pow (.c (.int 10)) (.c (.int 64))) (.bin .Pow (.c (.int 10)) (.c (.int 64)))) (.bin .Pow (.c (.int 10)) (.c (.int 64)))))] [], .ife (.cmp .Lt (.v 3) (.bin .Pow (.c (.int 10)) (.c (.int 18)))) [.asg 3 (.bin .Mod (.blt .int [(.bin .Add (.bin .Add (.bin .Mult (.v 3) (.c (.int 48271))) (.bin .Mult (.v 2) (.c (.int 69621)))) (.c (.int 11)))]) (.c (.int 2147483647))), .asg 3 (.bin .Add (.bin .Mult (.bin .Mod (.blt .int [(.bin .Add (.bin .Mult (.v 3) (.c (.int 16807))) (.c (.int 13)))]) (.c (.int 2147483647))) (.c (.int 65537))) (.v 3))] [], .sub false (.v 0) (.c (.int 1)) (.v 3), .sub false (.v 0) (.c (.int 2)) (.bin .Add (.v 2) (.c (.int 1)))] [],
  .asg 4 (.bin .Mod (.blt .int [(.ix (.v 0) (.c (.int 1)))]) (.v 1)),
  .sub false (.v 0) (.c (.int 1)) (.bin .FloorDiv (.ix (.v 0) (.c (.int 1))) (.v 1)),
  .ret (.v 4)]
def t__law_next : Fd' := ⟨2, 5, b__law_next⟩
def d__law_next : Df := ⟨"_law_next", f__law_next, t__law_next, top 23, ["stream", "many", "k", "cell", "digit"], ["stream", "many"]⟩
def b__law_pick : List St' := [.ret (.ix (.v 1) (.call f__law_next [(.v 0), (.blt .len [(.v 1)])]))]
def t__law_pick : Fd' := ⟨2, 2, b__law_pick⟩
def d__law_pick : Df := ⟨"_law_pick", f__law_pick, t__law_pick, top 24, ["stream", "rows"], ["stream", "rows"]⟩
def b__law_from : List St' := [.ret (.bin .Add (.v 1) (.call f__law_next [(.v 0), (.bin .Add (.bin .Sub (.v 2) (.v 1)) (.c (.int 1)))]))]
def t__law_from : Fd' := ⟨3, 3, b__law_from⟩
def d__law_from : Df := ⟨"_law_from", f__law_from, t__law_from, top 25, ["stream", "low", "high"], ["stream", "low", "high"]⟩
def b__law_shuffled : List St' := [.asg 2 (.blt .list [(.v 1)]),
  .asg 3 (.lst []),
  .for_ (.nm 4) .range [(.blt .len [(.v 1)])] [.exp (.bm .append (.v 3) [(.bm .popAt (.v 2) [(.call f__law_next [(.v 0), (.blt .len [(.v 2)])])])])],
  .ret (.v 3)]
def t__law_shuffled : Fd' := ⟨2, 5, b__law_shuffled⟩
def d__law_shuffled : Df := ⟨"_law_shuffled", f__law_shuffled, t__law_shuffled, top 26, ["stream", "rows", "left", "found", "turn"], ["stream", "rows"]⟩
def b__law_is_row : List St' := [.ife (.and (.cmp .Eq (.v 1) (.c (.str "L"))) (.not (.blt .islist [(.v 0)]))) [.ret (.c (.bl false))] [],
  .ife (.and (.cmp .Eq (.v 1) (.c (.str "T"))) (.not (.blt .istuple [(.v 0)]))) [.ret (.c (.bl false))] [],
  .ret (.or (.cmp .Is (.v 2) (.c .non)) (.cmp .Eq (.blt .len [(.v 0)]) (.v 2)))]
def t__law_is_row : Fd' := ⟨3, 3, b__law_is_row⟩
def d__law_is_row : Df := ⟨"_law_is_row", f__law_is_row, t__law_is_row, top 27, ["value", "kind", "many"], ["value", "kind", "many"]⟩
def b__law_same : List St' := [.ife (.or (.blt .istuple [(.v 1)]) (.blt .islist [(.v 1)])) [.ife (.not (.view f__law_is_row [(.v 0), (.ife (.blt .istuple [(.v 1)]) (.c (.str "T")) (.c (.str "L"))), (.blt .len [(.v 1)])])) [.ret (.c (.bl false))] [], .for_ (.nm 2) .range [(.blt .len [(.v 1)])] [.ife (.not (.view f__law_same [(.ix (.v 0) (.v 2)), (.ix (.v 1) (.v 2))])) [.ret (.c (.bl false))] []], .ret (.c (.bl true))] [],
  .ife (.blt .isdict [(.v 1)]) [.never, .never, .never] [],
  .ife (.blt .isbool [(.v 1)]) [.ret (.and (.blt .isbool [(.v 0)]) (.cmp .Eq (.v 0) (.v 1)))] [],
  .ife (.blt .isstr [(.v 1)]) [.ret (.and (.blt .isstr [(.v 0)]) (.cmp .Eq (.v 0) (.v 1)))] [],
  .ife (.blt .isint [(.v 1)]) [.ret (.and (.blt .isint [(.v 0)]) (.and (.not (.blt .isbool [(.v 0)])) (.cmp .Eq (.v 0) (.v 1))))] [],
  .ret (.cmp .Is (.v 0) (.c .non))]
def t__law_same : Fd' := ⟨2, 4, b__law_same⟩
def d__law_same : Df := ⟨"_law_same", f__law_same, t__law_same, top 28, ["actual", "due", "at", "key"], ["actual", "due"]⟩
def b__law_rising : List St' := [.asg 1 (.bin .Mult (.lst [(.c (.int 1))]) (.blt .len [(.v 0)])),
  .for_ (.nm 2) .range [(.blt .len [(.v 0)])] [.asg 3 (.bin .Sub (.bin .Sub (.blt .len [(.v 0)]) (.c (.int 1))) (.v 2)), .for_ (.nm 4) .range [(.bin .Add (.v 3) (.c (.int 1))), (.blt .len [(.v 0)])] [.ife (.cmp .Gt (.ix (.v 0) (.v 4)) (.ix (.v 0) (.v 3))) [.sub false (.v 1) (.v 3) (.blt .max [(.ix (.v 1) (.v 3)), (.bin .Add (.ix (.v 1) (.v 4)) (.c (.int 1)))])] []]],
  .asg 5 (.lst []),
  .asg 6 (.ife (.cmp .Gt (.blt .len [(.v 1)]) (.c (.int 0))) (.blt .max [(.v 1)]) (.c (.int 0))),
  .for_ (.nm 3) .range [(.blt .len [(.v 0)])] [.ife (.and (.cmp .Gt (.v 6) (.c (.int 0))) (.and (.cmp .Eq (.ix (.v 1) (.v 3)) (.v 6)) (.or (.cmp .Eq (.blt .len [(.v 5)]) (.c (.int 0))) (.cmp .Gt (.ix (.v 0) (.v 3)) (.ix (.v 0) (.ix (.v 5) (.neg (.c (.int 1))))))))) [.exp (.bm .append (.v 5) [(.v 3)]), .asg 6 (.bin .Sub (.v 6) (.c (.int 1)))] []],
  .ret (.v 5)]
def t__law_rising : Fd' := ⟨1, 7, b__law_rising⟩
def d__law_rising : Df := ⟨"_law_rising", f__law_rising, t__law_rising, top 32, ["numbers", "longest", "turn", "at", "later", "found", "left"], ["numbers"]⟩
def b__law_all_rising : List St' := [.asg 1 (.lst [(.frz (.lst []))]),
  .for_ (.nm 2) .range [(.blt .len [(.v 0)])] [.asg 1 (.bin .Add (.v 1) (.comp [3] (.nm 3) .seq [(.v 1)] [(.or (.cmp .Eq (.blt .len [(.v 3)]) (.c (.int 0))) (.cmp .Lt (.ix (.v 0) (.ix (.v 3) (.neg (.c (.int 1))))) (.ix (.v 0) (.v 2))))] (.frz (.bin .Add (.v 3) (.lst [(.v 2)])))))],
  .ret (.v 1)]
def t__law_all_rising : Fd' := ⟨1, 4, b__law_all_rising⟩
def d__law_all_rising : Df := ⟨"_law_all_rising", f__law_all_rising, t__law_all_rising, top 33, ["numbers", "rows", "at", "row"], ["numbers"]⟩
def b__law_due_row : List St' := [.ife (.cmp .Gt (.blt .len [(.v 0)]) (.c (.int 9))) [.ret (.call f__law_rising [(.v 0)])] [],
  .asg 1 (.call f__law_all_rising [(.v 0)]),
  .asg 2 (.blt .max [(.comp [3] (.nm 3) .seq [(.v 1)] [] (.blt .len [(.v 3)]))]),
  .ret (.ix (.blt .sorted [(.comp [3] (.nm 3) .seq [(.v 1)] [(.cmp .Eq (.blt .len [(.v 3)]) (.v 2))] (.v 3))]) (.c (.int 0)))]
def t__law_due_row : Fd' := ⟨1, 4, b__law_due_row⟩
def d__law_due_row : Df := ⟨"_law_due_row", f__law_due_row, t__law_due_row, top 34, ["numbers", "rows", "most", "row"], ["numbers"]⟩
def b__law_mixed : List St' := [.ife (.and (.cmp .Lt (.v 1) (.c (.int 10))) (.cmp .Eq (.call f__law_next [(.v 0), (.c (.int 2))]) (.c (.int 0)))) [.ret (.call f__law_shuffled [(.v 0), (.blt .lrange [(.v 1)])])] [],
  .asg 2 (.lst []),
  .asg 3 (.c (.int 0)),
  .for_ (.nm 4) .range [(.v 1)] [.ife (.cmp .Lt (.v 3) (.v 1)) [.asg 5 (.blt .min [(.bin .Sub (.v 1) (.v 3)), (.call f__law_from [(.v 0), (.c (.int 1)), (.ife (.cmp .Lt (.v 1) (.c (.int 10))) (.c (.int 4)) (.c (.int 12)))])]), .asg 6 (.blt .lrange [(.v 3), (.bin .Add (.v 3) (.v 5))]), .exp (.bm .append (.v 2) [(.frz (.ife (.cmp .Gt (.call f__law_next [(.v 0), (.c (.int 3))]) (.c (.int 0))) (.v 6) (.comp [8] (.nm 8) .range [(.v 5)] [] (.ix (.v 6) (.bin .Sub (.bin .Sub (.v 5) (.c (.int 1))) (.v 8))))))]), .asg 3 (.bin .Add (.v 3) (.v 5))] []],
  .asg 7 (.lst []),
  .for_ (.nm 6) .seq [(.call f__law_shuffled [(.v 0), (.v 2)])] [.asg 7 (.bin .Add (.v 7) (.v 6))],
  .ret (.v 7)]
def t__law_mixed : Fd' := ⟨2, 9, b__law_mixed⟩
def d__law_mixed : Df := ⟨"_law_mixed", f__law_mixed, t__law_mixed, top 35, ["stream", "many", "parts", "at", "turn", "size", "part", "found", "k"], ["stream", "many"]⟩
def b__law_numbers : List St' := [.asg 2 (.call f__law_pick [(.v 0), (.tup [(.c (.int 1)), (.c (.int 1)), (.c (.int 3)), (.neg (.c (.int 1))), (.bin .Pow (.c (.int 10)) (.c (.int 40)))])]),
  .asg 3 (.call f__law_next [(.v 0), (.c (.int 12))]),
  .ret (.comp [4] (.nm 4) .seq [(.call f__law_mixed [(.v 0), (.v 1)])] [] (.bin .Mult (.bin .Sub (.v 4) (.v 3)) (.v 2)))]
def t__law_numbers : Fd' := ⟨2, 5, b__law_numbers⟩
def d__law_numbers : Df := ⟨"_law_numbers", f__law_numbers, t__law_numbers, top 36, ["stream", "many", "factor", "shift", "one"], ["stream", "many"]⟩
def b__law_ask : List St' := [.tryE [.ret (.lst [(.c (.str "told")), (.call f_kept_row [(.v 0)])])] 1]
def t__law_ask : Fd' := ⟨1, 2, b__law_ask⟩
def d__law_ask : Df := ⟨"_law_ask", f__law_ask, t__law_ask, top 37, ["numbers", "e"], ["numbers"]⟩
def b__law_wrong : List St' := [.asg 2 (.call f__law_next [(.v 0), (.c (.int 6))]),
  .asg 3 (.call f__law_next [(.v 0), (.bin .Add (.blt .len [(.v 1)]) (.c (.int 1)))]),
  .ife (.and (.cmp .Eq (.v 2) (.c (.int 0))) (.cmp .Gt (.blt .len [(.v 1)]) (.c (.int 0)))) [.ret (.bin .Add (.bin .Add (.sl false true (.v 1) (.c .non) (.v 3)) (.lst [(.call f__law_pick [(.v 0), (.v 1)])])) (.sl true false (.v 1) (.v 3) (.c .non)))] [],
  .ife (.cmp .Eq (.v 2) (.c (.int 1))) [.ret (.blt .tuple [(.v 1)])] [],
  .ife (.cmp .Lt (.v 2) (.c (.int 5))) [.ret (.bin .Add (.bin .Add (.sl false true (.v 1) (.c .non) (.v 3)) (.lst [(.call f__law_pick [(.v 0), (.tup [(.c (.bl true)), (.c (.bl false)), (.c .non), (.c (.str "1")), (.tup [(.c (.int 1))]), (.lst [(.c (.int 2))])])])])) (.sl true false (.v 1) (.v 3) (.c .non)))] [],
  .ret (.call f__law_pick [(.v 0), (.tup [(.c .non), (.c (.str "12")), (.dic0 false), (.c (.int 7)), (.c (.bl true))])])]
def t__law_wrong : Fd' := ⟨2, 4, b__law_wrong⟩
def d__law_wrong : Df := ⟨"_law_wrong", f__law_wrong, t__law_wrong, top 38, ["stream", "numbers", "kind", "at"], ["stream", "numbers"]⟩
def b_law : List St' := [.asg 1 (.call f__law_stream [(.v 0)]),
  .asg 2 (.cmp .Eq (.call f__law_next [(.v 1), (.c (.int 30))]) (.c (.int 0))),
  .for_ (.nm 3) .range [(.c (.int 3))] [.asg 4 (.call f__law_numbers [(.v 1), (.ife (.and (.v 2) (.cmp .Eq (.v 3) (.c (.int 0)))) (.call f__law_from [(.v 1), (.c (.int 280)), (.c (.int 320))]) (.call f__law_next [(.v 1), (.c (.int 10))]))]), .asg 5 (.frz (.call f__law_due_row [(.v 4)])), .asg 6 (.blt .list [(.v 4)]), .asg 7 (.call f__law_ask [(.v 6)]), .ife (.or (.not (.view f__law_same [(.v 7), (.lst [(.c (.str "told")), (.v 5)])])) (.not (.view f__law_same [(.v 6), (.v 4)]))) [.ret (.c (.bl false))] [], .exp (.bm .append (.ix (.v 7) (.c (.int 1))) [(.c (.int 0))]), .ife (.not (.view f__law_same [(.call f__law_ask [(.v 6)]), (.lst [(.c (.str "told")), (.v 5)])])) [.ret (.c (.bl false))] [], .asg 8 (.call f__law_wrong [(.v 1), (.sl false true (.v 4) (.c .non) (.c (.int 9)))]), .ife (.not (.view f__law_same [(.call f__law_ask [(.v 8)]), (.lst [(.c (.str "raised")), (.c (.str "BadValue")), (.tup [(.c (.str "numbers"))])])])) [.ret (.c (.bl false))] []],
  .ret (.c (.bl true))]
def t_law : Fd' := ⟨1, 9, b_law⟩
def d_law : Df := ⟨"law", f_law, t_law, top 39, ["script", "stream", "great", "turn", "numbers", "due", "passed", "told", "wrong"], ["script"]⟩
def defs : List Df := [d_is_integer, d_first_not_greater, d_lengths_from, d_rising_places, d_kept_row, d__law_stream, d__law_next, d__law_pick, d__law_from, d__law_shuffled, d__law_is_row, d__law_same, d__law_rising, d__law_all_rising, d__law_due_row, d__law_mixed, d__law_numbers, d__law_ask, d__law_wrong, d_law]
def fd : Nat → Option Fd'
  | 0 => some t_is_integer
  | 1 => some t_first_not_greater
  | 2 => some t_lengths_from
  | 3 => some t_rising_places
  | 4 => some t_kept_row
  | 5 => some t__law_stream
  | 6 => some t__law_next
  | 7 => some t__law_pick
  | 8 => some t__law_from
  | 9 => some t__law_shuffled
  | 10 => some t__law_is_row
  | 11 => some t__law_same
  | 12 => some t__law_rising
  | 13 => some t__law_all_rising
  | 14 => some t__law_due_row
  | 15 => some t__law_mixed
  | 16 => some t__law_numbers
  | 17 => some t__law_ask
  | 18 => some t__law_wrong
  | 19 => some t_law
  | _ => none
def fnsL : List (Str × Nat) := [("is_integer", f_is_integer), ("first_not_greater", f_first_not_greater), ("lengths_from", f_lengths_from), ("rising_places", f_rising_places), ("kept_row", f_kept_row), ("_law_stream", f__law_stream), ("_law_next", f__law_next), ("_law_pick", f__law_pick), ("_law_from", f__law_from), ("_law_shuffled", f__law_shuffled), ("_law_is_row", f__law_is_row), ("_law_same", f__law_same), ("_law_rising", f__law_rising), ("_law_all_rising", f__law_all_rising), ("_law_due_row", f__law_due_row), ("_law_mixed", f__law_mixed), ("_law_numbers", f__law_numbers), ("_law_ask", f__law_ask), ("_law_wrong", f__law_wrong), ("law", f_law)]
def bltL : List Str := ["abs", "all", "bool", "dict", "enumerate", "int", "isinstance", "len", "list", "max", "min", "range", "sorted", "str", "tuple"]
end K65
set_option Elab.async false
set_option linter.all false
set_option maxRecDepth 100000
set_option maxHeartbeats 1000000
/-! k65: the defs that tell an error. -/
namespace K65
open PySem PySem.Spec PyProof.Rows L2 L2H RL
abbrev sNamed : Stmt := top 29
abbrev sAttr : Stmt := top 30
abbrev sErr : Stmt := top 31
section
variable {P : Program} {w : World} {K : PySem.W.Frag} {mg : Str → Option Value} {base : Heap} {cA : Nat → Addr} {A0 : Addr}
theorem scNamed : FnScope ["error", "names", "fits"] ["error"] (defScope sNamed) := ⟨rfl, rfl, rfl, by decide +kernel, rfl, by decide +kernel, by decide +kernel⟩
theorem named_ok {f : Addr} {fd : FuncData} (T : EFacts K mg cA A0) (F : Fun K "_law_named" "_law_named" sNamed f fd) : FnP P w K mg base 1 f fd ["error"] (spNamed K cA A0) := by
  refine fnP_of F scNamed (fun p vs H Q E h => ?_) (fun cdv A outer s H vs Q E p hr h => ?_)
  · obtain ⟨r, fs, nm, _, _, rfl, _⟩ := h
    rfl
  obtain ⟨r, fs, nm, hr12, R, rfl, ie, hnm, hq⟩ := h
  have hp : p ∈ (cxH (L2.CX P w) P w K mg base ["error", "names", "fits"] "_law_named" (defScope sNamed) f cdv A outer s H E p).pn := List.mem_singleton.mpr rfl
  refine ⟨tNamed K cA A0 (cA r) fs p, pss_cons (ps_set (i := 1) scNamed.nd rfl (Or.inl rfl) pe_str)
    (pss_cons (ps_set (i := 2) scNamed.nd rfl (Or.inl rfl) (pe_lst (pa_cons (pe_callB (call_isP (fs := fs) R.e hp) rfl T.gI boot_isinstance (pa_cons (pv 0) (pa_cons (pe_glob (v := .ref (cA 0)) rfl (T.g 0 _ rfl) rfl) pa_nil)))
      (pa_cons (pe_callB (call_isP (fs := fs) R.e hp) rfl T.gI boot_isinstance (pa_cons (pv 0) (pa_cons (pe_glob (v := .ref (cA 1)) rfl (T.g 1 _ rfl) rfl) pa_nil)))
      (pa_cons (pe_callB (call_isP (fs := fs) R.e hp) rfl T.gI boot_isinstance (pa_cons (pv 0) (pa_cons (pe_glob (v := .ref (cA 2)) rfl (T.g 2 _ rfl) rfl) pa_nil)))
      (pa_cons (pe_callB (call_isP (fs := fs) R.e hp) rfl T.gI boot_isinstance (pa_cons (pv 0) (pa_cons (pe_glob (v := .ref (cA 3)) rfl (T.g 3 _ rfl) rfl) pa_nil))) pa_nil))))))
    (pss_cons (ps_set (i := 2) scNamed.nd rfl (Or.inl rfl) (pe_op op_cat (pv 2) (pe_lst (pa_cons (pe_callB (call_isP (fs := fs) R.e hp) rfl T.gI boot_isinstance (pa_cons (pv 0) (pa_cons (pe_glob (v := .ref (cA 4)) rfl (T.g 4 _ rfl) rfl) pa_nil)))
      (pa_cons (pe_callB (call_isP (fs := fs) R.e hp) rfl T.gI boot_isinstance (pa_cons (pv 0) (pa_cons (pe_glob (v := .ref (cA 5)) rfl (T.g 5 _ rfl) rfl) pa_nil)))
      (pa_cons (pe_callB (call_isP (fs := fs) R.e hp) rfl T.gI boot_isinstance (pa_cons (pv 0) (pa_cons (pe_glob (v := .ref (cA 6)) rfl (T.g 6 _ rfl) rfl) pa_nil)))
      (pa_cons (pe_callB (call_isP (fs := fs) R.e hp) rfl T.gI boot_isinstance (pa_cons (pv 0) (pa_cons (pe_glob (v := .ref (cA 7)) rfl (T.g 7 _ rfl) rfl) pa_nil))) pa_nil)))))))
    (pss_cons (ps_set (i := 2) scNamed.nd rfl (Or.inl rfl) (pe_op op_cat (pv 2) (pe_lst (pa_cons (pe_callB (call_isP (fs := fs) R.e hp) rfl T.gI boot_isinstance (pa_cons (pv 0) (pa_cons (pe_glob (v := .ref (cA 8)) rfl (T.g 8 _ rfl) rfl) pa_nil)))
      (pa_cons (pe_callB (call_isP (fs := fs) R.e hp) rfl T.gI boot_isinstance (pa_cons (pv 0) (pa_cons (pe_glob (v := .ref (cA 9)) rfl (T.g 9 _ rfl) rfl) pa_nil))) pa_nil)))))
    (pss_cons (ps_set (i := 2) scNamed.nd rfl (Or.inl rfl) (pe_op op_cat (pv 2) (pe_lst (pa_cons (pe_callB (call_isP (fs := fs) R.e hp) rfl T.gI boot_isinstance (pa_cons (pv 0) (pa_cons (pe_glob (v := .ref (cA 10)) rfl (T.g 10 _ rfl) rfl) pa_nil)))
      (pa_cons (pe_callB (call_isP (fs := fs) R.e hp) rfl T.gI boot_isinstance (pa_cons (pv 0) (pa_cons (pe_glob (v := .ref (cA 11)) rfl (T.g 11 _ rfl) rfl) pa_nil))) pa_nil)))))
    (pss_cons (ps_if (PW.pt (pw_or (pt_cmpR op_ne (pe_bm PySem.F.plainAttrs_list PySem.F.slot_list_count PySem.F.type_list_count mt_countF (pv 2) (pa_cons pe_bl pa_nil)) pe_int (nomark _))
        (pw_or (pt_not (pt_val (pe_callB (call_isP (fs := fs) R.e hp) rfl T.gI boot_isinstance (pa_cons (pv 0) (pa_cons (pe_glob (v := .ref A0) rfl T.gA rfl) pa_nil)))))
        (pw_or1 (pt_not (pt_val (pe_callB (call_isP (fs := fs) R.e hp) rfl T.gI boot_isinstance (pa_cons (pv 0) (pa_cons (pe_bltn (v := .ty "ValueError") (u := .type "ValueError") rfl T.gV (by decide +kernel) rfl) pa_nil)))))))))
      (pss_one (ps_ret pe_str)) pss_nil)
    (pss_one (ps_ret (pe_ix ix_list (pe_split (pv 1) pe_str) (pe_bm PySem.F.plainAttrs_list PySem.F.slot_list_index PySem.F.type_list_index mt_index (pv 2) (pa_cons pe_bl pa_nil)) (fun _ _ => rfl))))))))), pure_named hr12 R ie hnm hq⟩
theorem scAttr : FnScope ["e", "name"] ["e", "name"] (defScope sAttr) := ⟨rfl, rfl, rfl, by decide +kernel, rfl, by decide +kernel, by decide +kernel⟩
theorem attr_ok {f : Addr} {fd : FuncData} (T : EFacts K mg cA A0) (F : Fun K "_law_attributes" "_law_attributes" sAttr f fd) : FnP P w K mg base 1 f fd ["e", "name"] (spAttr K cA A0) := by
  refine fnP_of F scAttr (fun p vs H Q E h => ?_) (fun cdv A outer s H vs Q E p hr h => ?_)
  · obtain ⟨r, ys, nm, _, _, _, rfl, _⟩ := h
    rfl
  obtain ⟨r, ys, nm, hr1, R, hno, rfl, hnm, hl, ie, hq⟩ := h
  let fs := (attrsOf r).reverse.zip ys.reverse
  have hp : p ∈ (cxH (L2.CX P w) P w K mg base ["e", "name"] "_law_attributes" (defScope sAttr) f cdv A outer s H E p).pn := List.mem_singleton.mpr rfl
  refine ⟨tAttr K (cA r) fs p, pss_cons (ps_if (pt_cmpR op_eq (pv 1) pe_str (nomark _)) (pss_one (ps_ret (pe_tup (pa_cons (pe_byP (fs := fs) R.e hp (hno _ (by decide)) (pv 0)) pa_nil)))) pss_nil)
    (pss_cons (ps_if (pt_cmpR op_eq (pv 1) pe_str (nomark _)) (pss_one (ps_ret (pe_tup (pa_cons (pe_byP (fs := fs) R.e hp (hno _ (by decide)) (pv 0)) (pa_cons (pe_byP (fs := fs) R.e hp (hno _ (by decide)) (pv 0)) pa_nil))))) pss_nil)
    (pss_cons (ps_if (pt_cmpR op_eq (pv 1) pe_str (nomark _)) (pss_one (ps_ret (pe_tup (pa_cons (pe_byP (fs := fs) R.e hp (hno _ (by decide)) (pv 0)) (pa_cons (pe_byP (fs := fs) R.e hp (hno _ (by decide)) (pv 0)) pa_nil))))) pss_nil)
    (pss_cons (ps_if (pt_cmpR op_eq (pv 1) pe_str (nomark _)) (pss_one (ps_ret (pe_tup (pa_cons (pe_byP (fs := fs) R.e hp (hno _ (by decide)) (pv 0)) pa_nil)))) pss_nil)
    (pss_cons (ps_if (pt_cmpR op_eq (pv 1) pe_str (nomark _)) (pss_one (ps_ret (pe_tup (pa_cons (pe_byP (fs := fs) R.e hp (hno _ (by decide)) (pv 0)) pa_nil)))) pss_nil)
    (pss_cons (ps_if (pt_cmpR op_eq (pv 1) pe_str (nomark _)) (pss_one (ps_ret (pe_tup (pa_cons (pe_byP (fs := fs) R.e hp (hno _ (by decide)) (pv 0)) pa_nil)))) pss_nil)
    (pss_cons (ps_if (pt_cmpR op_in_seq (pv 1) (pe_tup (pa_cons pe_str (pa_cons pe_str pa_nil))) (by rfl)) (pss_one (ps_ret (pe_tup (pa_cons (pe_byP (fs := fs) R.e hp (hno _ (by decide)) (pv 0)) pa_nil)))) pss_nil)
    (pss_cons (ps_if (pt_cmpR op_eq (pv 1) pe_str (nomark _)) (pss_one (ps_ret (pe_tup (pa_cons (pe_byP (fs := fs) R.e hp (hno _ (by decide)) (pv 0)) pa_nil)))) pss_nil)
    (pss_cons (ps_if (pt_cmpR op_eq (pv 1) pe_str (nomark _)) (pss_one (ps_ret (pe_tup (pa_cons (pe_byP (fs := fs) R.e hp (hno _ (by decide)) (pv 0)) pa_nil)))) pss_nil)
    (pss_one (ps_ret (pe_tup pa_nil))))))))))), pure_attr hr1 hnm hl ie hq⟩
theorem scErr : FnScope ["error", "name"] ["error"] (defScope sErr) := ⟨rfl, rfl, rfl, by decide +kernel, rfl, by decide +kernel, by decide +kernel⟩
theorem err_ok {f f1 f2 : Addr} {fd fd1 fd2 : FuncData} (T : EFacts K mg cA A0) (F : Fun K "_law_error" "_law_error" sErr f fd) (F1 : Fun K "_law_named" "_law_named" sNamed f1 fd1) (F2 : Fun K "_law_attributes" "_law_attributes" sAttr f2 fd2)
    (g1 : mg "_law_named" = some (.ref f1)) (g2 : mg "_law_attributes" = some (.ref f2)) : FnP P w K mg base 2 f fd ["error"] (spErr K cA A0) := by
  have b1 : Binds K fd1 ["error"] [] := F1.binds fun _ _ _ _ _ _ us hl => match us, hl with | [_], _ => rfl
  have b2 : Binds K fd2 ["e", "name"] [] := F2.binds fun _ _ _ _ _ _ us hl => match us, hl with | [_, _], _ => rfl
  refine fnP_of F scErr (fun p vs H Q E h => ?_) (fun cdv A outer s H vs Q E p hr h => ?_)
  · obtain ⟨r, ys, nm, _, _, _, rfl, _⟩ := h
    rfl
  have hp : p ∈ (cxH (L2.CX P w) P w K mg base ["error", "name"] "_law_error" (defScope sErr) f cdv A outer s H E p).pn := List.mem_singleton.mpr rfl
  refine ⟨tErr K cA A0 p, pss_cons (ps_set (i := 1) scErr.nd rfl (Or.inl rfl) (pe_callP (named_ok T F1) hr hp rfl g1 F1.kp b1 (pa_cons (pv 0) pa_nil)))
    (pss_one (ps_ret (pe_lst (pa_cons pe_str (pa_cons (pv 1) (pa_cons (pe_callP (attr_ok T F2) hr hp rfl g2 F2.kp b2 (pa_cons (pv 0) (pa_cons (pv 1) pa_nil))) pa_nil)))))), pure_err h⟩
end
end K65
set_option Elab.async false
set_option linter.all false
set_option maxRecDepth 100000
set_option maxHeartbeats 0
/-! K65: the head, the tables (written by top.py). -/
namespace K65
open PySem PySem.Spec PyProof.Rows L2 L2H RL
def exsL : List (Str × Nat × List Str) := [("BadValue", 3, ([Str.ofString "name"] : List Str))]
def G : Gs := ⟨fnsL, exsL, [], bltL⟩
def exfP (c : Nat) : Option (List Str) := if c = 3 then some ([Str.ofString "name"] : List Str) else none
def errP (c : Nat) (ns : List Str) (xs : List D) : Option D := if c = 3 ∧ ns = ([Str.ofString "name"] : List Str) then some (.olst [.str "raised", .str "BadValue", .tup xs.reverse]) else none
def P : Pr := { flds := fun _ => [], meth := fun _ _ => none, init := fun _ => none, exf := exfP, err := errP }
def nmF : Nat → Str
  | 0 => "is_integer"
  | 1 => "first_not_greater"
  | 2 => "lengths_from"
  | 3 => "rising_places"
  | 4 => "kept_row"
  | 5 => "_law_stream"
  | 6 => "_law_next"
  | 7 => "_law_pick"
  | 8 => "_law_from"
  | 9 => "_law_shuffled"
  | 10 => "_law_is_row"
  | 11 => "_law_same"
  | 12 => "_law_rising"
  | 13 => "_law_all_rising"
  | 14 => "_law_due_row"
  | 15 => "_law_mixed"
  | 16 => "_law_numbers"
  | 17 => "_law_ask"
  | 18 => "_law_wrong"
  | 19 => "law"
  | _ => ""
def TB (K : PySem.W.Frag) : Tb := ⟨K, errA K, fun f => He.ga K (nmF f)⟩
theorem bd_is_integer {K : PySem.W.Frag} {f : Addr} {fdat : FuncData} (F : Fun K d_is_integer.x d_is_integer.x d_is_integer.st f fdat) : Binds K fdat d_is_integer.ps [] := F.binds fun _ _ _ _ _ _ us hl => match us, hl with | [_], _ => rfl
theorem sc_is_integer : FnScope d_is_integer.N d_is_integer.ps (defScope d_is_integer.st) := ⟨rfl, rfl, rfl, by decide +kernel, rfl, by decide +kernel, by decide +kernel⟩
theorem bd_first_not_greater {K : PySem.W.Frag} {f : Addr} {fdat : FuncData} (F : Fun K d_first_not_greater.x d_first_not_greater.x d_first_not_greater.st f fdat) : Binds K fdat d_first_not_greater.ps [] := F.binds fun _ _ _ _ _ _ us hl => match us, hl with | [_, _], _ => rfl
theorem sc_first_not_greater : FnScope d_first_not_greater.N d_first_not_greater.ps (defScope d_first_not_greater.st) := ⟨rfl, rfl, rfl, by decide +kernel, rfl, by decide +kernel, by decide +kernel⟩
theorem bd_lengths_from {K : PySem.W.Frag} {f : Addr} {fdat : FuncData} (F : Fun K d_lengths_from.x d_lengths_from.x d_lengths_from.st f fdat) : Binds K fdat d_lengths_from.ps [] := F.binds fun _ _ _ _ _ _ us hl => match us, hl with | [_], _ => rfl
theorem sc_lengths_from : FnScope d_lengths_from.N d_lengths_from.ps (defScope d_lengths_from.st) := ⟨rfl, rfl, rfl, by decide +kernel, rfl, by decide +kernel, by decide +kernel⟩
theorem bd_rising_places {K : PySem.W.Frag} {f : Addr} {fdat : FuncData} (F : Fun K d_rising_places.x d_rising_places.x d_rising_places.st f fdat) : Binds K fdat d_rising_places.ps [] := F.binds fun _ _ _ _ _ _ us hl => match us, hl with | [_], _ => rfl
theorem sc_rising_places : FnScope d_rising_places.N d_rising_places.ps (defScope d_rising_places.st) := ⟨rfl, rfl, rfl, by decide +kernel, rfl, by decide +kernel, by decide +kernel⟩
theorem bd_kept_row {K : PySem.W.Frag} {f : Addr} {fdat : FuncData} (F : Fun K d_kept_row.x d_kept_row.x d_kept_row.st f fdat) : Binds K fdat d_kept_row.ps [] := F.binds fun _ _ _ _ _ _ us hl => match us, hl with | [_], _ => rfl
theorem sc_kept_row : FnScope d_kept_row.N d_kept_row.ps (defScope d_kept_row.st) := ⟨rfl, rfl, rfl, by decide +kernel, rfl, by decide +kernel, by decide +kernel⟩
theorem bd__law_stream {K : PySem.W.Frag} {f : Addr} {fdat : FuncData} (F : Fun K d__law_stream.x d__law_stream.x d__law_stream.st f fdat) : Binds K fdat d__law_stream.ps [] := F.binds fun _ _ _ _ _ _ us hl => match us, hl with | [_], _ => rfl
theorem sc__law_stream : FnScope d__law_stream.N d__law_stream.ps (defScope d__law_stream.st) := ⟨rfl, rfl, rfl, by decide +kernel, rfl, by decide +kernel, by decide +kernel⟩
theorem bd__law_next {K : PySem.W.Frag} {f : Addr} {fdat : FuncData} (F : Fun K d__law_next.x d__law_next.x d__law_next.st f fdat) : Binds K fdat d__law_next.ps [] := F.binds fun _ _ _ _ _ _ us hl => match us, hl with | [_, _], _ => rfl
theorem sc__law_next : FnScope d__law_next.N d__law_next.ps (defScope d__law_next.st) := ⟨rfl, rfl, rfl, by decide +kernel, rfl, by decide +kernel, by decide +kernel⟩
theorem bd__law_pick {K : PySem.W.Frag} {f : Addr} {fdat : FuncData} (F : Fun K d__law_pick.x d__law_pick.x d__law_pick.st f fdat) : Binds K fdat d__law_pick.ps [] := F.binds fun _ _ _ _ _ _ us hl => match us, hl with | [_, _], _ => rfl
theorem sc__law_pick : FnScope d__law_pick.N d__law_pick.ps (defScope d__law_pick.st) := ⟨rfl, rfl, rfl, by decide +kernel, rfl, by decide +kernel, by decide +kernel⟩
theorem bd__law_from {K : PySem.W.Frag} {f : Addr} {fdat : FuncData} (F : Fun K d__law_from.x d__law_from.x d__law_from.st f fdat) : Binds K fdat d__law_from.ps [] := F.binds fun _ _ _ _ _ _ us hl => match us, hl with | [_, _, _], _ => rfl
theorem sc__law_from : FnScope d__law_from.N d__law_from.ps (defScope d__law_from.st) := ⟨rfl, rfl, rfl, by decide +kernel, rfl, by decide +kernel, by decide +kernel⟩
theorem bd__law_shuffled {K : PySem.W.Frag} {f : Addr} {fdat : FuncData} (F : Fun K d__law_shuffled.x d__law_shuffled.x d__law_shuffled.st f fdat) : Binds K fdat d__law_shuffled.ps [] := F.binds fun _ _ _ _ _ _ us hl => match us, hl with | [_, _], _ => rfl
theorem sc__law_shuffled : FnScope d__law_shuffled.N d__law_shuffled.ps (defScope d__law_shuffled.st) := ⟨rfl, rfl, rfl, by decide +kernel, rfl, by decide +kernel, by decide +kernel⟩
theorem bd__law_is_row {K : PySem.W.Frag} {f : Addr} {fdat : FuncData} (F : Fun K d__law_is_row.x d__law_is_row.x d__law_is_row.st f fdat) : Binds K fdat d__law_is_row.ps [] := F.binds fun _ _ _ _ _ _ us hl => match us, hl with | [_, _, _], _ => rfl
theorem sc__law_is_row : FnScope d__law_is_row.N d__law_is_row.ps (defScope d__law_is_row.st) := ⟨rfl, rfl, rfl, by decide +kernel, rfl, by decide +kernel, by decide +kernel⟩
theorem bd__law_same {K : PySem.W.Frag} {f : Addr} {fdat : FuncData} (F : Fun K d__law_same.x d__law_same.x d__law_same.st f fdat) : Binds K fdat d__law_same.ps [] := F.binds fun _ _ _ _ _ _ us hl => match us, hl with | [_, _], _ => rfl
theorem sc__law_same : FnScope d__law_same.N d__law_same.ps (defScope d__law_same.st) := ⟨rfl, rfl, rfl, by decide +kernel, rfl, by decide +kernel, by decide +kernel⟩
theorem bd__law_rising {K : PySem.W.Frag} {f : Addr} {fdat : FuncData} (F : Fun K d__law_rising.x d__law_rising.x d__law_rising.st f fdat) : Binds K fdat d__law_rising.ps [] := F.binds fun _ _ _ _ _ _ us hl => match us, hl with | [_], _ => rfl
theorem sc__law_rising : FnScope d__law_rising.N d__law_rising.ps (defScope d__law_rising.st) := ⟨rfl, rfl, rfl, by decide +kernel, rfl, by decide +kernel, by decide +kernel⟩
theorem bd__law_all_rising {K : PySem.W.Frag} {f : Addr} {fdat : FuncData} (F : Fun K d__law_all_rising.x d__law_all_rising.x d__law_all_rising.st f fdat) : Binds K fdat d__law_all_rising.ps [] := F.binds fun _ _ _ _ _ _ us hl => match us, hl with | [_], _ => rfl
theorem sc__law_all_rising : FnScope d__law_all_rising.N d__law_all_rising.ps (defScope d__law_all_rising.st) := ⟨rfl, rfl, rfl, by decide +kernel, rfl, by decide +kernel, by decide +kernel⟩
theorem bd__law_due_row {K : PySem.W.Frag} {f : Addr} {fdat : FuncData} (F : Fun K d__law_due_row.x d__law_due_row.x d__law_due_row.st f fdat) : Binds K fdat d__law_due_row.ps [] := F.binds fun _ _ _ _ _ _ us hl => match us, hl with | [_], _ => rfl
theorem sc__law_due_row : FnScope d__law_due_row.N d__law_due_row.ps (defScope d__law_due_row.st) := ⟨rfl, rfl, rfl, by decide +kernel, rfl, by decide +kernel, by decide +kernel⟩
theorem bd__law_mixed {K : PySem.W.Frag} {f : Addr} {fdat : FuncData} (F : Fun K d__law_mixed.x d__law_mixed.x d__law_mixed.st f fdat) : Binds K fdat d__law_mixed.ps [] := F.binds fun _ _ _ _ _ _ us hl => match us, hl with | [_, _], _ => rfl
theorem sc__law_mixed : FnScope d__law_mixed.N d__law_mixed.ps (defScope d__law_mixed.st) := ⟨rfl, rfl, rfl, by decide +kernel, rfl, by decide +kernel, by decide +kernel⟩
theorem bd__law_numbers {K : PySem.W.Frag} {f : Addr} {fdat : FuncData} (F : Fun K d__law_numbers.x d__law_numbers.x d__law_numbers.st f fdat) : Binds K fdat d__law_numbers.ps [] := F.binds fun _ _ _ _ _ _ us hl => match us, hl with | [_, _], _ => rfl
theorem sc__law_numbers : FnScope d__law_numbers.N d__law_numbers.ps (defScope d__law_numbers.st) := ⟨rfl, rfl, rfl, by decide +kernel, rfl, by decide +kernel, by decide +kernel⟩
theorem bd__law_ask {K : PySem.W.Frag} {f : Addr} {fdat : FuncData} (F : Fun K d__law_ask.x d__law_ask.x d__law_ask.st f fdat) : Binds K fdat d__law_ask.ps [] := F.binds fun _ _ _ _ _ _ us hl => match us, hl with | [_], _ => rfl
theorem sc__law_ask : FnScope d__law_ask.N d__law_ask.ps (defScope d__law_ask.st) := ⟨rfl, rfl, rfl, by decide +kernel, rfl, by decide +kernel, by decide +kernel⟩
theorem bd__law_wrong {K : PySem.W.Frag} {f : Addr} {fdat : FuncData} (F : Fun K d__law_wrong.x d__law_wrong.x d__law_wrong.st f fdat) : Binds K fdat d__law_wrong.ps [] := F.binds fun _ _ _ _ _ _ us hl => match us, hl with | [_, _], _ => rfl
theorem sc__law_wrong : FnScope d__law_wrong.N d__law_wrong.ps (defScope d__law_wrong.st) := ⟨rfl, rfl, rfl, by decide +kernel, rfl, by decide +kernel, by decide +kernel⟩
theorem bd_law {K : PySem.W.Frag} {f : Addr} {fdat : FuncData} (F : Fun K d_law.x d_law.x d_law.st f fdat) : Binds K fdat d_law.ps [] := F.binds fun _ _ _ _ _ _ us hl => match us, hl with | [_], _ => rfl
theorem sc_law : FnScope d_law.N d_law.ps (defScope d_law.st) := ⟨rfl, rfl, rfl, by decide +kernel, rfl, by decide +kernel, by decide +kernel⟩
theorem bd_all {K : PySem.W.Frag} {f : Addr} {fdat : FuncData} : ∀ d ∈ defs, Fun K d.x d.x d.st f fdat → Binds K fdat d.ps [] := by
  intro d hd
  simp only [defs, List.mem_cons, List.not_mem_nil, or_false] at hd
  rcases hd with rfl | rfl | rfl | rfl | rfl | rfl | rfl | rfl | rfl | rfl | rfl | rfl | rfl | rfl | rfl | rfl | rfl | rfl | rfl | rfl
  · exact bd_is_integer
  · exact bd_first_not_greater
  · exact bd_lengths_from
  · exact bd_rising_places
  · exact bd_kept_row
  · exact bd__law_stream
  · exact bd__law_next
  · exact bd__law_pick
  · exact bd__law_from
  · exact bd__law_shuffled
  · exact bd__law_is_row
  · exact bd__law_same
  · exact bd__law_rising
  · exact bd__law_all_rising
  · exact bd__law_due_row
  · exact bd__law_mixed
  · exact bd__law_numbers
  · exact bd__law_ask
  · exact bd__law_wrong
  · exact bd_law
theorem sc_all : ∀ d ∈ defs, FnScope d.N d.ps (defScope d.st) := by
  intro d hd
  simp only [defs, List.mem_cons, List.not_mem_nil, or_false] at hd
  rcases hd with rfl | rfl | rfl | rfl | rfl | rfl | rfl | rfl | rfl | rfl | rfl | rfl | rfl | rfl | rfl | rfl | rfl | rfl | rfl | rfl
  · exact sc_is_integer
  · exact sc_first_not_greater
  · exact sc_lengths_from
  · exact sc_rising_places
  · exact sc_kept_row
  · exact sc__law_stream
  · exact sc__law_next
  · exact sc__law_pick
  · exact sc__law_from
  · exact sc__law_shuffled
  · exact sc__law_is_row
  · exact sc__law_same
  · exact sc__law_rising
  · exact sc__law_all_rising
  · exact sc__law_due_row
  · exact sc__law_mixed
  · exact sc__law_numbers
  · exact sc__law_ask
  · exact sc__law_wrong
  · exact sc_law
theorem fd_all : ∀ d ∈ defs, fd d.f = some d.il := by
  intro d hd
  simp only [defs, List.mem_cons, List.not_mem_nil, or_false] at hd
  rcases hd with rfl | rfl | rfl | rfl | rfl | rfl | rfl | rfl | rfl | rfl | rfl | rfl | rfl | rfl | rfl | rfl | rfl | rfl | rfl | rfl
  · exact rfl
  · exact rfl
  · exact rfl
  · exact rfl
  · exact rfl
  · exact rfl
  · exact rfl
  · exact rfl
  · exact rfl
  · exact rfl
  · exact rfl
  · exact rfl
  · exact rfl
  · exact rfl
  · exact rfl
  · exact rfl
  · exact rfl
  · exact rfl
  · exact rfl
  · exact rfl
theorem nm_all : ∀ d ∈ defs, nmF d.f = d.x := by
  intro d hd
  simp only [defs, List.mem_cons, List.not_mem_nil, or_false] at hd
  rcases hd with rfl | rfl | rfl | rfl | rfl | rfl | rfl | rfl | rfl | rfl | rfl | rfl | rfl | rfl | rfl | rfl | rfl | rfl | rfl | rfl
  · exact rfl
  · exact rfl
  · exact rfl
  · exact rfl
  · exact rfl
  · exact rfl
  · exact rfl
  · exact rfl
  · exact rfl
  · exact rfl
  · exact rfl
  · exact rfl
  · exact rfl
  · exact rfl
  · exact rfl
  · exact rfl
  · exact rfl
  · exact rfl
  · exact rfl
  · exact rfl
theorem ok_defs : (defs.all (okDf 80 G)) = true := by decide +kernel
theorem fns_defs : ∀ x f, fnsL.lookup x = some f → ∃ d ∈ defs, d.x = x ∧ d.f = f := by
  intro x f h
  have h := lookup_mem h
  have z : fnsL = defs.map fun d => (d.x, d.f) := rfl
  rw [z] at h
  obtain ⟨d, hd, e⟩ := List.mem_map.mp h
  exact ⟨d, hd, (Prod.mk.inj e).1, (Prod.mk.inj e).2⟩
abbrev sIni3 : Stmt := inClass (top 5) 0
abbrev fn : List He.DefD := (defs.map fun d => dfD d.x d.st) ++ [dfD "_law_named" sNamed, dfD "_law_attributes" sAttr, dfD "_law_error" sErr, iniD "BadValue" "BadValue.__init__" sIni3]
abbrev fa : List He.Fa := faR defs bltL
def ex (K : PySem.W.Frag) : Bool := exB K 3
theorem scIni3 : FnScope ([Str.ofString "self", Str.ofString "name"] : List Str) ([Str.ofString "self", Str.ofString "name"] : List Str) (defScope sIni3) := ⟨rfl, rfl, rfl, by decide +kernel, rfl, by decide +kernel, by decide +kernel⟩
theorem ini3 {P0 : Program} {w : World} {K : PySem.W.Frag} {mg : Str → Option Value} {base : Heap} {fdat : FuncData} (S : ExSeen K 3) (F : Fun K "__init__" "BadValue.__init__" sIni3 (He.ma K (errA K 3) "__init__") fdat) : FnOk P0 w K mg base (L2.CX P0 w) 1 (He.ma K (errA K 3) "__init__") fdat ([Str.ofString "self", Str.ofString "name"] : List Str) (spEx (errA K 3) ([Str.ofString "name"] : List Str)) :=
  ex_fn1 F scIni3 rfl rfl rfl rfl rfl rfl ⟨by decide, by decide⟩ ⟨by decide, by decide⟩ S.o (S.no "name" (by decide))
section
variable {w : World} {K : PySem.W.Frag} {h base : Heap} {mg : Str → Option Value}
abbrev PP : Program := (PySem.Challenge.rw_togetherapart_k65_the_kept_row).prog
theorem tabs (X : K.In h) (Gm : h.Ns mainGlobals mg) (c : He.SaysD fa fn K) (hx : ex K = true) : Tabs (TB K) P PP w mg base fd defs G 80 := by
  have E := efacts X Gm c
  have hxs := hx
  unfold ex at hxs
  have S3 : ExSeen K 3 := exB_ok hxs
  have fnD : ∀ d ∈ defs, ∃ fdat, Fun K d.x d.x d.st (He.ga K d.x) fdat := fun d hd => by
    obtain ⟨fdat, F⟩ := says_def c (d := dfD d.x d.st) (List.mem_append_left _ (List.mem_map_of_mem hd))
    exact ⟨fdat, fun_ofD F⟩
  obtain ⟨fd1, F1⟩ := says_def c (d := dfD "_law_named" sNamed) (List.mem_append_right _ (by simp))
  obtain ⟨fd2, F2⟩ := says_def c (d := dfD "_law_attributes" sAttr) (List.mem_append_right _ (by simp))
  obtain ⟨fd3, F3⟩ := says_def c (d := dfD "_law_error" sErr) (List.mem_append_right _ (by simp))
  have F1 : Fun K "_law_named" "_law_named" sNamed (He.ga K "_law_named") fd1 := fun_ofD F1
  have F2 : Fun K "_law_attributes" "_law_attributes" sAttr (He.ga K "_law_attributes") fd2 := fun_ofD F2
  have F3 : Fun K "_law_error" "_law_error" sErr (He.ga K "_law_error") fd3 := fun_ofD F3
  have g1 := He.glo_ok X Gm (says_fact c (f := .glo "_law_named") (by simp [faR]))
  have g2 := He.glo_ok X Gm (says_fact c (f := .glo "_law_attributes") (by simp [faR]))
  have g3 := He.glo_ok X Gm (says_fact c (f := .glo "_law_error") (by simp [faR]))
  have nm := fun d hd => nm_all d hd
  refine ⟨fun d hd => ?_, fun d hd => ?_, sc_all, fd_all, fun d hd => List.all_eq_true.mp ok_defs d hd, fns_defs, fun x cc ns hl => ?_, fun x d hl => (by cases hl), fun x hx => free_def X Gm c hx, fun c f hc => (by cases (show false = true from hc)), ?_⟩
  · obtain ⟨fdat, F⟩ := fnD d hd
    have e : (TB K).fA d.f = He.ga K d.x := congrArg (He.ga K) (nm d hd)
    rw [e]
    exact ⟨fdat, F, bd_all d hd F⟩
  · have e : (TB K).fA d.f = He.ga K d.x := congrArg (He.ga K) (nm d hd)
    rw [e]
    exact glo_def X Gm c hd
  · have m : (x, (cc, ns)) ∈ exsL := lookup_mem hl
    simp only [exsL, List.mem_cons, List.not_mem_nil, or_false, Prod.mk.injEq] at m
    obtain ⟨rfl, rfl, rfl⟩ := m
    obtain ⟨fI, FI⟩ := says_def c (d := iniD "BadValue" "BadValue.__init__" sIni3) (List.mem_append_right _ (by simp))
    have FI : Fun K "__init__" "BadValue.__init__" sIni3 (He.ma K (errA K 3) "__init__") fI := fun_ofD FI
    have bI : Binds K fI ([Str.ofString "self", Str.ofString "name"] : List Str) [] := FI.binds fun _ _ _ _ _ _ us hl => match us, hl with | [_, _], _ => rfl
    exact ⟨⟨E.g 3 _ rfl, S3.o, _, fI, _, S3.ini, S3.fn, bI, ini3 S3 FI⟩, rfl, by decide⟩
  · have bE : Binds K fd3 ["error"] [] := F3.binds fun _ _ _ _ _ _ us hl => match us, hl with | [_], _ => rfl
    refine ⟨errA K, apA K, E.gA, ⟨_, fd3, g3, F3.kp, bE, err_ok E F3 F1 F2 g1 g2⟩, fun c ns xs d he => ?_⟩
    have he : errP c ns xs = some d := he
    unfold errP at he
    split at he
    · rename_i q
      obtain ⟨rfl, rfl⟩ := q
      obtain rfl := Option.some.inj he
      exact ⟨3, _, rfl, rfl, S3.e, S3.no, rfl, rfl, rfl, S3.m⟩
    · cases he
end
abbrev RR : PySem.W.OpenRow := PySem.W.OpenLaw.row PySem.Challenge.rw_togetherapart_k65_the_kept_row
abbrev hk : PySem.W.Hook := hookR 5 fa fn ex
abbrev qv : Program := PySem.W.view RR.prog [39]
def names : List Str := ([Str.ofString "ApartError", Str.ofString "BadEdit", Str.ofString "BadHistory", Str.ofString "BadText", Str.ofString "BadValue", Str.ofString "NotShown", Str.ofString "Ring", Str.ofString "Sealed", Str.ofString "TooOld", Str.ofString "NothingToUndo", Str.ofString "NothingToRedo", Str.ofString "BadVersion", Str.ofString "TwoFaces", Str.ofString "is_integer", Str.ofString "first_not_greater", Str.ofString "lengths_from", Str.ofString "rising_places", Str.ofString "kept_row", Str.ofString "_law_stream", Str.ofString "_law_next", Str.ofString "_law_pick", Str.ofString "_law_from", Str.ofString "_law_shuffled", Str.ofString "_law_is_row", Str.ofString "_law_same", Str.ofString "_law_named", Str.ofString "_law_attributes", Str.ofString "_law_error", Str.ofString "_law_rising", Str.ofString "_law_all_rising", Str.ofString "_law_due_row", Str.ofString "_law_mixed", Str.ofString "_law_numbers", Str.ofString "_law_ask", Str.ofString "_law_wrong"] : List Str)
end K65
set_option Elab.async false
set_option linter.all false
set_option maxRecDepth 100000
set_option maxHeartbeats 0
/-! K65: the run of the top. -/
namespace K65
open PySem PySem.Spec PyProof.Rows L2 L2H RL
theorem run_head (w : World) : HandSHeadRun.RunEq RR qv hk (obR 5 fa fn ex) 6000 names w := by
  intro os
  kernel_rfl
end K65
set_option Elab.async false
set_option linter.all false
set_option maxRecDepth 100000
set_option maxHeartbeats 1000000
set_option exponentiation.threshold 2000
/-! k65, the plain law: the stream. -/
namespace K65
open PySem RL
theorem run_succ (k f : Nat) (ds : List D) : RL.run P fd (k + 1) f ds = match fd f with
    | some d => run1 P (RL.run P fd k) d ds
    | none => none := rfl
theorem plain_ints (xs : List Int) : RL.plain (xs.map D.int) = true := by
  induction xs with
  | nil => rfl
  | cons x xs ih => exact ih
theorem eqD_int (a b : Int) : eqD (.int a) (.int b) = some (decide (a = b)) := by
  have : eqD (.int a) (.int b) = some (a == b) := rfl
  rw [this]
  congr 1
theorem eqD_str (a b : Str) (ha : PyData.strOk a = true) (hb : PyData.strOk b = true) : eqD (.str a) (.str b) = some (decide (a = b)) := by
  simp [eqD, toPy, SeqAt.shaped, PyData.eqv, PyData.canLay0, PyData.depth, ha, hb]
  by_cases h : a = b <;> simp [h]
theorem eqD_bl (a b : Bool) : eqD (.bl a) (.bl b) = some (a == b) := rfl
theorem eqD_non : eqD .non .non = some true := rfl
theorem ixD_lst (o : Bool) (xs : List D) (i : Int) : ixD (.nd o .lst xs) (.int i) = (L2.ixN xs.length i).map .inl := rfl
theorem ixD_tup (o : Bool) (xs : List D) (i : Int) : ixD (.nd o .tup xs) (.int i) = (L2.ixN xs.length i).map .inl := rfl
theorem ixN0 (n : Nat) : L2.ixN (n + 1) 0 = some 0 := by unfold L2.ixN; rw [if_pos (by omega), if_pos (by omega)]; rfl
theorem ixN1 (n : Nat) : L2.ixN (n + 2) 1 = some 1 := by unfold L2.ixN; rw [if_pos (by omega), if_pos (by omega)]; rfl
theorem ixN2 (n : Nat) : L2.ixN (n + 3) 2 = some 2 := by unfold L2.ixN; rw [if_pos (by omega), if_pos (by omega)]; rfl
def stD (ys : List D) (c k : Int) : D := .olst [.olst ys, .int c, .int k]
/-- a stream -/
def st (xs : List Int) (c k : Int) : D := .olst [.olst (xs.map D.int), .int c, .int k]
def IsSt (s : D) : Prop := ∃ xs c k, s = st xs c k ∧ 0 ≤ c ∧ 0 ≤ k
theorem stream_ok (xs : List Int) (j : Nat) : RL.run P fd (j + 1) f__law_stream [.nd false .fr (xs.map D.int)] = some (.ok (st xs 0 0), [some (.nd false .fr (xs.map D.int))]) := by
  simp [st, t__law_stream, b__law_stream, run_succ, fd, run1, initE, exSs, exS, ev, evR, evT, evX, evXs, evXc, dispM, M.bind, M.ret, M.guard, M.lift, M.fail, takeL, takeR, varM, RL.slotAt, D.own, okPend, touch, touchL, touchR, rootV, varsV, varsL, pureOp, pkLM, pkL, pk, pkM, getP, backA, asgSs, asgS, two, one, ixM, ixEnd, ixD_lst, ixD_tup, childM, childR, SM.of, SM.nx, SM.fail, truthM, truthD, tmpM, ifM, RL.andM, RL.orM, RL.andV, RL.orV, boolM, asBl, cmp2, cmpD, bin2, binD, mulOk, neg1, not1, putM, RL.putAt, RL.setP, setD, setL1, tmpOf, bltD, lenD, absD, intD, ltD, leD, gtD, isD, isNone, tyD, isTab, isD', callM, comeBack, tgL, eqD_int, eqD_str, eqD_bl, eqD_non, plain_ints, listD, isSeq, lim]
theorem next_ok0 (xs : List Int) (c k m : Int) (j : Nat) (h1 : c ≠ 0) (hm : 0 < m) (hm2 : m < 1073741824) : RL.run P fd (j + 1) f__law_next [st xs c k, .int m] = some (.ok (.int (c % m)), [some (st xs (c / m) k), some (.int m)]) := by
  simp [st, t__law_next, b__law_next, run_succ, fd, run1, initE, exSs, exS, ev, evR, evT, evX, evXs, evXc, dispM, M.bind, M.ret, M.guard, M.lift, M.fail, takeL, takeR, varM, RL.slotAt, D.own, okPend, touch, touchL, touchR, rootV, varsV, varsL, pureOp, pkLM, pkL, pk, pkM, getP, backA, asgSs, asgS, two, one, ixM, ixEnd, ixD_lst, ixD_tup, childM, childR, SM.of, SM.nx, SM.fail, truthM, truthD, tmpM, ifM, RL.andM, RL.orM, RL.andV, RL.orV, boolM, asBl, cmp2, cmpD, bin2, binD, mulOk, neg1, not1, putM, RL.putAt, RL.setP, setD, setL1, tmpOf, bltD, lenD, absD, intD, ltD, leD, gtD, isD, isNone, tyD, isTab, isD', callM, comeBack, tgL, eqD_int, eqD_str, eqD_bl, eqD_non, L2.ixN, intD, h1, hm, hm2]
def mixC (c k : Int) : Int := ((c * 48271 + k * 69621 + 11) % 2147483647 * 16807 + 13) % 2147483647 * 65537 + (c * 48271 + k * 69621 + 11) % 2147483647
theorem next_a (ys : List D) (k m x : Int) (j : Nat) (hk : 0 ≤ k) (hm : 0 < m) (hm2 : m < 1073741824) (hlt : k < ys.length) (e2 : ys[k.toNat]? = some (.int x)) (h2 : (if x < 0 then -x else x) % (10 ^ 64 * 10 ^ 64 * 10 ^ 64) < 10 ^ 18) :
    RL.run P fd (j + 1) f__law_next [stD ys 0 k, .int m] = some (.ok (.int (mixC ((if x < 0 then -x else x) % (10 ^ 64 * 10 ^ 64 * 10 ^ 64)) k % m)), [some (stD ys (mixC ((if x < 0 then -x else x) % (10 ^ 64 * 10 ^ 64 * 10 ^ 64)) k / m) (k + 1)), some (.int m)]) := by
  have e1 : L2.ixN ys.length k = some k.toNat := by unfold L2.ixN; rw [if_pos hk, if_pos hlt]
  have e3 : ∀ h : k.toNat < ys.length, ys[k.toNat]'h = .int x := fun h => by rw [List.getElem?_eq_getElem h] at e2; exact Option.some.inj e2
  simp at h2
  simp [stD, t__law_next, b__law_next, run_succ, fd, run1, initE, exSs, exS, ev, evR, evT, evX, evXs, evXc, dispM, M.bind, M.ret, M.guard, M.lift, M.fail, takeL, takeR, varM, RL.slotAt, D.own, okPend, touch, touchL, touchR, rootV, varsV, varsL, pureOp, pkLM, pkL, pk, pkM, getP, backA, asgSs, asgS, two, one, ixM, ixEnd, ixD_lst, ixD_tup, childM, childR, SM.of, SM.nx, SM.fail, truthM, truthD, tmpM, ifM, RL.andM, RL.orM, RL.andV, RL.orV, boolM, asBl, cmp2, cmpD, bin2, binD, mulOk, neg1, not1, putM, RL.putAt, RL.setP, setD, setL1, tmpOf, bltD, lenD, absD, intD, ltD, leD, gtD, isD, isNone, tyD, isTab, isD', callM, comeBack, tgL, eqD_int, eqD_str, eqD_bl, eqD_non, ixN0, ixN1, ixN2, intD, hk, hlt, hm, hm2, e1, e2, e3, h2, mixC]
theorem next_b (ys : List D) (k m x : Int) (j : Nat) (hk : 0 ≤ k) (hm : 0 < m) (hm2 : m < 1073741824) (hlt : k < ys.length) (e2 : ys[k.toNat]? = some (.int x)) (h2 : ¬ (if x < 0 then -x else x) % (10 ^ 64 * 10 ^ 64 * 10 ^ 64) < 10 ^ 18) :
    RL.run P fd (j + 1) f__law_next [stD ys 0 k, .int m] = some (.ok (.int ((if x < 0 then -x else x) % (10 ^ 64 * 10 ^ 64 * 10 ^ 64) % m)), [some (stD ys ((if x < 0 then -x else x) % (10 ^ 64 * 10 ^ 64 * 10 ^ 64) / m) (k + 1)), some (.int m)]) := by
  have e1 : L2.ixN ys.length k = some k.toNat := by unfold L2.ixN; rw [if_pos hk, if_pos hlt]
  have e3 : ∀ h : k.toNat < ys.length, ys[k.toNat]'h = .int x := fun h => by rw [List.getElem?_eq_getElem h] at e2; exact Option.some.inj e2
  simp at h2
  have h3 := Int.not_lt.mpr h2
  simp [stD, t__law_next, b__law_next, run_succ, fd, run1, initE, exSs, exS, ev, evR, evT, evX, evXs, evXc, dispM, M.bind, M.ret, M.guard, M.lift, M.fail, takeL, takeR, varM, RL.slotAt, D.own, okPend, touch, touchL, touchR, rootV, varsV, varsL, pureOp, pkLM, pkL, pk, pkM, getP, backA, asgSs, asgS, two, one, ixM, ixEnd, ixD_lst, ixD_tup, childM, childR, SM.of, SM.nx, SM.fail, truthM, truthD, tmpM, ifM, RL.andM, RL.orM, RL.andV, RL.orV, boolM, asBl, cmp2, cmpD, bin2, binD, mulOk, neg1, not1, putM, RL.putAt, RL.setP, setD, setL1, tmpOf, bltD, lenD, absD, intD, ltD, leD, gtD, isD, isNone, tyD, isTab, isD', callM, comeBack, tgL, eqD_int, eqD_str, eqD_bl, eqD_non, ixN0, ixN1, ixN2, intD, hk, hlt, hm, hm2, e1, e2, e3, h2, h3]
theorem next_c (xs : List Int) (k m : Int) (j : Nat) (hk : 0 ≤ k) (hm : 0 < m) (hm2 : m < 1073741824) (hlt : ¬ k < xs.length) (h2 : 7 + k < 10 ^ 18) :
    RL.run P fd (j + 1) f__law_next [st xs 0 k, .int m] = some (.ok (.int (mixC (7 + k) k % m)), [some (st xs (mixC (7 + k) k / m) (k + 1)), some (.int m)]) := by
  simp at h2
  simp [st, t__law_next, b__law_next, run_succ, fd, run1, initE, exSs, exS, ev, evR, evT, evX, evXs, evXc, dispM, M.bind, M.ret, M.guard, M.lift, M.fail, takeL, takeR, varM, RL.slotAt, D.own, okPend, touch, touchL, touchR, rootV, varsV, varsL, pureOp, pkLM, pkL, pk, pkM, getP, backA, asgSs, asgS, two, one, ixM, ixEnd, ixD_lst, ixD_tup, childM, childR, SM.of, SM.nx, SM.fail, truthM, truthD, tmpM, ifM, RL.andM, RL.orM, RL.andV, RL.orV, boolM, asBl, cmp2, cmpD, bin2, binD, mulOk, neg1, not1, putM, RL.putAt, RL.setP, setD, setL1, tmpOf, bltD, lenD, absD, intD, ltD, leD, gtD, isD, isNone, tyD, isTab, isD', callM, comeBack, tgL, eqD_int, eqD_str, eqD_bl, eqD_non, ixN0, ixN1, ixN2, intD, hk, hlt, hm, hm2, h2, mixC]
theorem next_d (xs : List Int) (k m : Int) (j : Nat) (hk : 0 ≤ k) (hm : 0 < m) (hm2 : m < 1073741824) (hlt : ¬ k < xs.length) (h2 : ¬ 7 + k < 10 ^ 18) :
    RL.run P fd (j + 1) f__law_next [st xs 0 k, .int m] = some (.ok (.int ((7 + k) % m)), [some (st xs ((7 + k) / m) (k + 1)), some (.int m)]) := by
  simp at h2
  have h3 := Int.not_lt.mpr h2
  simp [st, t__law_next, b__law_next, run_succ, fd, run1, initE, exSs, exS, ev, evR, evT, evX, evXs, evXc, dispM, M.bind, M.ret, M.guard, M.lift, M.fail, takeL, takeR, varM, RL.slotAt, D.own, okPend, touch, touchL, touchR, rootV, varsV, varsL, pureOp, pkLM, pkL, pk, pkM, getP, backA, asgSs, asgS, two, one, ixM, ixEnd, ixD_lst, ixD_tup, childM, childR, SM.of, SM.nx, SM.fail, truthM, truthD, tmpM, ifM, RL.andM, RL.orM, RL.andV, RL.orV, boolM, asBl, cmp2, cmpD, bin2, binD, mulOk, neg1, not1, putM, RL.putAt, RL.setP, setD, setL1, tmpOf, bltD, lenD, absD, intD, ltD, leD, gtD, isD, isNone, tyD, isTab, isD', callM, comeBack, tgL, eqD_int, eqD_str, eqD_bl, eqD_non, ixN0, ixN1, ixN2, intD, hk, hlt, hm, hm2, h2, h3]
theorem next_ok {s : D} (hs : IsSt s) (m : Int) (j : Nat) (hm : 0 < m) (hm2 : m < 1073741824) : ∃ d s', RL.run P fd (j + 1) f__law_next [s, .int m] = some (.ok (.int d), [some s', some (.int m)]) ∧ 0 ≤ d ∧ d < m ∧ IsSt s' := by
  obtain ⟨xs, c, k, rfl, hc, hk⟩ := hs
  have fin : ∀ c' k', 0 ≤ c' → 0 ≤ k' → 0 ≤ c' % m ∧ c' % m < m ∧ IsSt (st xs (c' / m) k') := fun c' k' h1 h2 => ⟨Int.emod_nonneg _ (by omega), Int.emod_lt_of_pos _ hm, xs, c' / m, k', rfl, Int.ediv_nonneg h1 (by omega), h2⟩
  have mix : ∀ c, 0 ≤ mixC c k := fun c => by
    unfold mixC
    have a1 := Int.emod_nonneg (c * 48271 + k * 69621 + 11) (b := 2147483647) (by omega)
    have a2 := Int.emod_nonneg ((c * 48271 + k * 69621 + 11) % 2147483647 * 16807 + 13) (b := 2147483647) (by omega)
    omega
  by_cases h0 : c = 0
  · subst h0
    by_cases hlt : k < xs.length
    · have e2 : (xs.map D.int)[k.toNat]? = some (.int (xs[k.toNat]'(by omega))) := by rw [List.getElem?_map, List.getElem?_eq_getElem (by omega)]; rfl
      by_cases h2 : (if xs[k.toNat]'(by omega) < 0 then -(xs[k.toNat]'(by omega)) else xs[k.toNat]'(by omega)) % (10 ^ 64 * 10 ^ 64 * 10 ^ 64) < 10 ^ 18
      · exact ⟨_, _, next_a (xs.map D.int) k m _ j hk hm hm2 (by simpa using hlt) e2 h2, fin _ _ (mix _) (by omega)⟩
      · exact ⟨_, _, next_b (xs.map D.int) k m _ j hk hm hm2 (by simpa using hlt) e2 h2, fin _ _ (by omega) (by omega)⟩
    · by_cases h2 : 7 + k < 10 ^ 18
      · exact ⟨_, _, next_c xs k m j hk hm hm2 hlt h2, fin _ _ (mix _) (by omega)⟩
      · exact ⟨_, _, next_d xs k m j hk hm hm2 hlt h2, fin _ _ (by omega) (by omega)⟩
  · exact ⟨_, _, next_ok0 xs c k m j h0 hm hm2, fin _ _ hc hk⟩
end K65
set_option Elab.async false
set_option linter.all false
set_option maxRecDepth 100000
set_option maxHeartbeats 1000000
set_option exponentiation.threshold 2000
/-! k65, the plain law: draws. -/
namespace K65
open PySem RL
theorem own_nd (o : Bool) (k : Kd) (xs : List D) : D.own (.nd o k xs) = o := rfl
theorem own_int (i : Int) : D.own (.int i) = false := rfl
theorem own_str (x : Str) : D.own (.str x) = false := rfl
theorem own_bl (b : Bool) : D.own (.bl b) = false := rfl
theorem own_non : D.own .non = false := rfl
theorem IsSt.own {s : D} (h : IsSt s) : s.own = true := by
  obtain ⟨_, _, _, rfl, _⟩ := h; rfl
/-- a row that is drawn from -/
def IsRow0 (k : Kd) : Prop := k = .lst ∨ k = .tup
theorem pick_ok {s : D} (hs : IsSt s) (o : Bool) (k : Kd) (hk : IsRow0 k) (xs : List D) (hx : RL.plain xs = true) (j : Nat) (h0 : 0 < xs.length) (h1 : xs.length < 1073741824) :
    ∃ x s', RL.run P fd (j + 2) f__law_pick [s, .nd o k xs] = some (.ok x, [some s', some (.nd o k xs)]) ∧ x ∈ xs ∧ IsSt s' := by
  obtain ⟨d, s', h, h2, h3, h4⟩ := next_ok hs (xs.length : Int) j (by omega) (by omega)
  have e1 : L2.ixN xs.length d = some d.toNat := by unfold L2.ixN; rw [if_pos h2, if_pos h3]
  have hl : d.toNat < xs.length := by omega
  have e2 : xs[d.toNat]? = some xs[d.toNat] := List.getElem?_eq_getElem hl
  have e3 : (xs[d.toNat]).own = false := by
    have := List.all_eq_true.mp hx _ (List.getElem_mem hl)
    simpa using this
  have hso := hs.own
  have hso' := h4.own
  refine ⟨xs[d.toNat], s', ?_, List.getElem_mem hl, h4⟩
  rw [run_succ]
  rcases hk with rfl | rfl
  · cases o <;> simp [t__law_pick, b__law_pick, fd, run1, initE, exSs, exS, ev, evR, evT, evX, evXs, evXc, dispM, M.bind, M.ret, M.guard, M.lift, M.fail, takeL, takeR, varM, RL.slotAt, own_nd, own_int, own_str, own_bl, own_non, okPend, touch, touchL, touchR, rootV, varsV, varsL, pureOp, pkLM, pkL, pk, pkM, getP, backA, asgSs, asgS, two, one, ixM, ixEnd, ixD_lst, ixD_tup, childM, childR, SM.of, SM.nx, SM.fail, truthM, truthD, tmpM, ifM, RL.andM, RL.orM, RL.andV, RL.orV, boolM, asBl, cmp2, cmpD, bin2, binD, mulOk, neg1, not1, putM, RL.putAt, RL.setP, setD, setL1, tmpOf, bltD, lenD, absD, intD, ltD, leD, gtD, isD, isNone, tyD, isTab, isD', callM, comeBack, tgL, eqD_int, eqD_str, eqD_bl, eqD_non, h, hso, hso', e1, e2, e3, hl]
  · cases o <;> simp [t__law_pick, b__law_pick, fd, run1, initE, exSs, exS, ev, evR, evT, evX, evXs, evXc, dispM, M.bind, M.ret, M.guard, M.lift, M.fail, takeL, takeR, varM, RL.slotAt, own_nd, own_int, own_str, own_bl, own_non, okPend, touch, touchL, touchR, rootV, varsV, varsL, pureOp, pkLM, pkL, pk, pkM, getP, backA, asgSs, asgS, two, one, ixM, ixEnd, ixD_lst, ixD_tup, childM, childR, SM.of, SM.nx, SM.fail, truthM, truthD, tmpM, ifM, RL.andM, RL.orM, RL.andV, RL.orV, boolM, asBl, cmp2, cmpD, bin2, binD, mulOk, neg1, not1, putM, RL.putAt, RL.setP, setD, setL1, tmpOf, bltD, lenD, absD, intD, ltD, leD, gtD, isD, isNone, tyD, isTab, isD', callM, comeBack, tgL, eqD_int, eqD_str, eqD_bl, eqD_non, h, hso, hso', e1, e2, e3, hl]
theorem from_ok {s : D} (hs : IsSt s) (lo hi : Int) (j : Nat) (h0 : lo ≤ hi) (h1 : hi - lo < 1000000) :
    ∃ v s', RL.run P fd (j + 2) f__law_from [s, .int lo, .int hi] = some (.ok (.int v), [some s', some (.int lo), some (.int hi)]) ∧ lo ≤ v ∧ v ≤ hi ∧ IsSt s' := by
  obtain ⟨d, s', h, h2, h3, h4⟩ := next_ok hs (hi - lo + 1) j (by omega) (by omega)
  have hso := hs.own
  have hso' := h4.own
  refine ⟨lo + d, s', ?_, by omega, by omega, h4⟩
  rw [run_succ]
  simp [t__law_from, b__law_from, fd, run1, initE, exSs, exS, ev, evR, evT, evX, evXs, evXc, dispM, M.bind, M.ret, M.guard, M.lift, M.fail, takeL, takeR, varM, RL.slotAt, own_nd, own_int, own_str, own_bl, own_non, okPend, touch, touchL, touchR, rootV, varsV, varsL, pureOp, pkLM, pkL, pk, pkM, getP, backA, asgSs, asgS, two, one, ixM, ixEnd, ixD_lst, ixD_tup, childM, childR, SM.of, SM.nx, SM.fail, truthM, truthD, tmpM, ifM, RL.andM, RL.orM, RL.andV, RL.orV, boolM, asBl, cmp2, cmpD, bin2, binD, mulOk, neg1, not1, putM, RL.putAt, RL.setP, setD, setL1, tmpOf, bltD, lenD, absD, intD, ltD, leD, gtD, isD, isNone, tyD, isTab, isD', callM, comeBack, tgL, eqD_int, eqD_str, eqD_bl, eqD_non, h, hso, hso']
end K65
set_option Elab.async false
set_option linter.all false
set_option maxRecDepth 100000
set_option maxHeartbeats 1000000
set_option exponentiation.threshold 2000
/-! k65, the plain law: statements by steps; shuffled rows. -/
namespace K65
open PySem RL
section
variable {Φ : Hd'} {s : St'} {ss : List St'} {e e' : Env'} {o : Fl × Env'}
theorem st_nx (h : exS P Φ s e = some (.nx, e')) (k : exSs P Φ ss e' = some o) : exSs P Φ (s :: ss) e = some o := by
  simp only [exSs, h]; exact k
theorem st_rt {d : D} (h : exS P Φ s e = some (.rt d, e')) : exSs P Φ (s :: ss) e = some (.rt d, e') := by
  simp only [exSs, h]
theorem st_nil : exSs P Φ [] e = some (.nx, e) := by simp only [exSs, SM.nx]
theorem ex_for {tg : Tg} {k : ItK} {es : List Ex'} {b : List St'} {rs : List Rf} {xs : List D} (h : itM k (evXs P Φ es) (tgL tg ++ touchSs b) e = some (.ok (rs, xs), e')) (q : forL (setTg tg) (exSs P Φ b) xs e' = some o) : exS P Φ (.for_ tg k es b) e = some o := by
  simp only [exS, SM.of, h]; exact q
theorem forL_inv {set : D → Env' → Option Env'} {body : Env' → Option (Fl × Env')} (I : Nat → Env' → Prop) : ∀ (xs : List D) (e : Env') (i0 : Nat), I i0 e →
    (∀ i x e, xs[i]? = some x → I (i0 + i) e → ∃ e1 e2, set x e = some e1 ∧ body e1 = some (.nx, e2) ∧ I (i0 + i + 1) e2) → ∃ e', forL set body xs e = some (.nx, e') ∧ I (i0 + xs.length) e'
  | [], e, i0, h0, _ => ⟨e, rfl, h0⟩
  | x :: xs, e, i0, h0, hs => by
    obtain ⟨e1, e2, h1, h2, h3⟩ := hs 0 x e rfl h0
    obtain ⟨e3, h4, h5⟩ := forL_inv I xs e2 (i0 + 1) h3 fun i y e hy hi => by
      have := hs (i + 1) y e (by simpa using hy) (by rw [show i0 + (i + 1) = i0 + 1 + i by omega]; exact hi)
      rw [show i0 + 1 + i + 1 = i0 + (i + 1) + 1 by omega]
      exact this
    refine ⟨e3, ?_, by rw [show i0 + (x :: xs).length = i0 + 1 + xs.length by simp; omega]; exact h5⟩
    simp only [forL, h1, h2]
    exact h4
theorem run_rt {f : Nat} {d : Fd'} {j : Nat} {ds : List D} {r : D} {e : Env'} (hf : fd f = some d) (h1 : ds.length = d.np) (h2 : d.np ≤ d.ns) (h : exSs P (RL.run P fd j) d.body (initE d ds) = some (.rt r, e)) : RL.run P fd (j + 1) f ds = some (.ok r, backA (asgSs d.body) e 0 d.np) := by
  rw [run_succ, hf]
  simp only [run1, h1, h2, h, decide_true, Bool.and_self]
theorem run_ex {f : Nat} {d : Fd'} {j : Nat} {ds : List D} {c : Nat} {ns : List Str} {xs : List D} {e : Env'} (hf : fd f = some d) (h1 : ds.length = d.np) (h2 : d.np ≤ d.ns) (h : exSs P (RL.run P fd j) d.body (initE d ds) = some (.ex c ns xs, e)) : RL.run P fd (j + 1) f ds = some (.ex c ns xs, backA (asgSs d.body) e 0 d.np) := by
  rw [run_succ, hf]
  simp only [run1, h1, h2, h, decide_true, Bool.and_self]
end
theorem rangeL_len : ∀ (n : Nat) (a : Int), (rangeL a n).length = n
  | 0, _ => rfl
  | n + 1, a => by simp [rangeL, rangeL_len n]
theorem rangeL_at : ∀ (n : Nat) (a : Int) (i : Nat) (x : D), (rangeL a n)[i]? = some x → i < n ∧ x = .int (a + i)
  | 0, a, i, x, h => by simp [rangeL] at h
  | n + 1, a, 0, x, h => by
    have : D.int a = x := by simpa [rangeL] using h
    subst this; simp
  | n + 1, a, i + 1, x, h => by
    obtain ⟨h1, h2⟩ := rangeL_at n (a + 1) i x (by simpa [rangeL] using h)
    refine ⟨by omega, ?_⟩
    rw [h2]
    congr 1
    omega
theorem erase_perm {α : Type} : ∀ (l : List α) (i : Nat) (h : i < l.length), (l[i] :: l.eraseIdx i).Perm l
  | [], i, h => by simp at h
  | x :: l, 0, h => by simp
  | x :: l, i + 1, h => by
    have ih := erase_perm l i (by simpa using h)
    simp only [List.getElem_cons_succ, List.eraseIdx_cons_succ]
    exact List.Perm.trans (List.Perm.swap _ _ _) (List.Perm.cons _ ih)
theorem it_range1 {n : Int} (h : -1000000 ≤ n ∧ n ≤ 1000000) : itD .range [.int n] = some (rangeL 0 n.toNat) := by
  simp [itD, smallI, h.1, h.2]
theorem shuffled_ok {s : D} (hs : IsSt s) (o : Bool) (xs : List D) (hx : RL.plain xs = true) (j : Nat) (h1 : xs.length ≤ 1000) :
    ∃ ys s', RL.run P fd (j + 2) f__law_shuffled [s, .nd o .lst xs] = some (.ok (.olst ys), [some s', some (.nd o .lst xs)]) ∧ ys.Perm xs ∧ IsSt s' := by
  have pl : ∀ x ∈ xs, x.own = false := fun x m => by simpa using List.all_eq_true.mp hx x m
  let I : Nat → Env' → Prop := fun i e => ∃ s left found x, e = [some s, some (.nd o .lst xs), some (.olst left), some (.olst found), x] ∧ IsSt s ∧ (left ++ found).Perm xs ∧ left.length + i = xs.length
  obtain ⟨e', f1, s', left, found, x, rfl, f2, f3, f4⟩ := forL_inv (set := setTg (.nm 4)) (body := exSs P (RL.run P fd (j + 1)) [.exp (.bm .append (.v 3) [(.bm .popAt (.v 2) [(.call f__law_next [(.v 0), (.blt .len [(.v 2)])])])])]) I (rangeL 0 xs.length) [some s, some (.nd o .lst xs), some (.olst xs), some (.olst []), none] 0
    ⟨s, xs, [], none, rfl, hs, by simp, rfl⟩ (fun i x e hi hI => by
      obtain ⟨s, left, found, x0, rfl, i1, i2, i3⟩ := hI
      obtain ⟨hi, rfl⟩ := rangeL_at _ _ _ _ hi
      have hn : left.length ≠ 0 := by omega
      obtain ⟨d, s', h, h2, h3, h4⟩ := next_ok i1 (left.length : Int) j (by omega) (by omega)
      have e1 : L2.ixN left.length d = some d.toNat := by unfold L2.ixN; rw [if_pos h2, if_pos h3]
      have hl : d.toNat < left.length := by omega
      have e3 : (left[d.toNat]).own = false := pl _ (i2.mem_iff.mp (List.mem_append_left _ (List.getElem_mem hl)))
      have hso := i1.own
      have hso' := h4.own
      have hf : found.length < lim := by
        have := i2.length_eq
        simp at this
        simp [lim]; omega
      have b1 : -1000000 ≤ d := by omega
      have b2 : d ≤ 1000000 := by omega
      refine ⟨_, [some s', some (.nd o .lst xs), some (.olst (left.eraseIdx d.toNat)), some (.olst (found ++ [left[d.toNat]])), some (.int (0 + (i : Nat)))], rfl, ?_, ?_⟩
      · refine st_nx (e' := [some s', some (.nd o .lst xs), some (.olst (left.eraseIdx d.toNat)), some (.olst (found ++ [left[d.toNat]])), some (.int (0 + (i : Nat)))]) ?_ st_nil
        simp [fd, run1, initE, exSs, exS, ev, evR, evT, evX, evXs, evXc, dispM, M.bind, M.ret, M.guard, M.lift, M.fail, takeL, takeR, varM, RL.slotAt, own_nd, own_int, own_str, own_bl, own_non, okPend, touch, touchL, touchR, rootV, varsV, varsL, pureOp, pkLM, pkL, pk, pkM, getP, backA, asgSs, asgS, two, one, ixM, ixEnd, ixD_lst, ixD_tup, childM, childR, SM.of, SM.nx, SM.fail, truthM, truthD, tmpM, ifM, RL.andM, RL.orM, RL.andV, RL.orV, boolM, asBl, cmp2, cmpD, bin2, binD, mulOk, neg1, not1, putM, RL.putAt, RL.setP, setD, setL1, tmpOf, bltD, lenD, bmM, bmD, isLst, smallI, setTg, absD, intD, ltD, leD, gtD, isD, isNone, tyD, isTab, isD', callM, comeBack, tgL, eqD_int, eqD_str, eqD_bl, eqD_non, h, hso, hso', e1, e3, hl, hf, b1, b2]
      · refine ⟨s', left.eraseIdx d.toNat, found ++ [left[d.toNat]], _, rfl, h4, ?_, ?_⟩
        · refine List.Perm.trans ?_ i2
          have := erase_perm left d.toNat hl
          rw [← List.append_assoc]
          refine List.Perm.trans (List.perm_append_singleton _ _) ?_
          rw [← List.cons_append]
          exact List.Perm.append_right _ this
        · rw [List.length_eraseIdx_of_lt hl]; omega)
  have hso := hs.own
  have hleft : left = [] := by
    apply List.eq_nil_of_length_eq_zero
    rw [rangeL_len] at f4; omega
  subst hleft
  have l1 : xs.length ≤ lim := by simp [lim]; omega
  have b1 : (-1000000 : Int) ≤ xs.length := by omega
  have b2 : (xs.length : Int) ≤ 1000000 := by omega
  refine ⟨found, s', ?_, by simpa using f3, f2⟩
  refine run_rt (d := t__law_shuffled) (e := [some s', some (.nd o .lst xs), some (.olst []), none, x]) rfl rfl (by decide) ?_
  show exSs P (RL.run P fd (j + 1)) b__law_shuffled _ = _
  refine st_nx (e' := [some s, some (.nd o .lst xs), some (.olst xs), none, none]) (by cases o <;> simp [fd, run1, initE, exSs, exS, ev, evR, evT, evX, evXs, evXc, dispM, M.bind, M.ret, M.guard, M.lift, M.fail, takeL, takeR, varM, RL.slotAt, own_nd, own_int, own_str, own_bl, own_non, okPend, touch, touchL, touchR, rootV, varsV, varsL, pureOp, pkLM, pkL, pk, pkM, getP, backA, asgSs, asgS, two, one, ixM, ixEnd, ixD_lst, ixD_tup, childM, childR, SM.of, SM.nx, SM.fail, truthM, truthD, tmpM, ifM, RL.andM, RL.orM, RL.andV, RL.orV, boolM, asBl, cmp2, cmpD, bin2, binD, mulOk, neg1, not1, putM, RL.putAt, RL.setP, setD, setL1, tmpOf, bltD, lenD, bmM, bmD, isLst, smallI, setTg, absD, intD, ltD, leD, gtD, isD, isNone, tyD, isTab, isD', callM, comeBack, tgL, eqD_int, eqD_str, eqD_bl, eqD_non, t__law_shuffled, listD, isSeq, hx]) ?_
  refine st_nx (e' := [some s, some (.nd o .lst xs), some (.olst xs), some (.olst []), none]) (by simp [fd, run1, initE, exSs, exS, ev, evR, evT, evX, evXs, evXc, dispM, M.bind, M.ret, M.guard, M.lift, M.fail, takeL, takeR, varM, RL.slotAt, own_nd, own_int, own_str, own_bl, own_non, okPend, touch, touchL, touchR, rootV, varsV, varsL, pureOp, pkLM, pkL, pk, pkM, getP, backA, asgSs, asgS, two, one, ixM, ixEnd, ixD_lst, ixD_tup, childM, childR, SM.of, SM.nx, SM.fail, truthM, truthD, tmpM, ifM, RL.andM, RL.orM, RL.andV, RL.orV, boolM, asBl, cmp2, cmpD, bin2, binD, mulOk, neg1, not1, putM, RL.putAt, RL.setP, setD, setL1, tmpOf, bltD, lenD, bmM, bmD, isLst, smallI, setTg, absD, intD, ltD, leD, gtD, isD, isNone, tyD, isTab, isD', callM, comeBack, tgL, eqD_int, eqD_str, eqD_bl, eqD_non]) ?_
  refine st_nx (ex_for (rs := [.tmp (.int xs.length)]) (xs := rangeL 0 xs.length) (e' := [some s, some (.nd o .lst xs), some (.olst xs), some (.olst []), none]) ?_ f1) ?_
  · cases o <;> simp [fd, run1, initE, exSs, exS, ev, evR, evT, evX, evXs, evXc, dispM, M.bind, M.ret, M.guard, M.lift, M.fail, takeL, takeR, varM, RL.slotAt, own_nd, own_int, own_str, own_bl, own_non, okPend, touch, touchL, touchR, rootV, varsV, varsL, pureOp, pkLM, pkL, pk, pkM, getP, backA, asgSs, asgS, two, one, ixM, ixEnd, ixD_lst, ixD_tup, childM, childR, SM.of, SM.nx, SM.fail, truthM, truthD, tmpM, ifM, RL.andM, RL.orM, RL.andV, RL.orV, boolM, asBl, cmp2, cmpD, bin2, binD, mulOk, neg1, not1, putM, RL.putAt, RL.setP, setD, setL1, tmpOf, bltD, lenD, bmM, bmD, isLst, smallI, setTg, absD, intD, ltD, leD, gtD, isD, isNone, tyD, isTab, isD', callM, comeBack, tgL, eqD_int, eqD_str, eqD_bl, eqD_non, itM, apart, rfRoots, it_range1, b1, b2]
  · refine st_rt ?_
    simp [fd, run1, initE, exSs, exS, ev, evR, evT, evX, evXs, evXc, dispM, M.bind, M.ret, M.guard, M.lift, M.fail, takeL, takeR, varM, RL.slotAt, own_nd, own_int, own_str, own_bl, own_non, okPend, touch, touchL, touchR, rootV, varsV, varsL, pureOp, pkLM, pkL, pk, pkM, getP, backA, asgSs, asgS, two, one, ixM, ixEnd, ixD_lst, ixD_tup, childM, childR, SM.of, SM.nx, SM.fail, truthM, truthD, tmpM, ifM, RL.andM, RL.orM, RL.andV, RL.orV, boolM, asBl, cmp2, cmpD, bin2, binD, mulOk, neg1, not1, putM, RL.putAt, RL.setP, setD, setL1, tmpOf, bltD, lenD, bmM, bmD, isLst, smallI, setTg, absD, intD, ltD, leD, gtD, isD, isNone, tyD, isTab, isD', callM, comeBack, tgL, eqD_int, eqD_str, eqD_bl, eqD_non]
end K65
set_option Elab.async false
set_option linter.all false
set_option maxRecDepth 100000
set_option maxHeartbeats 1000000
set_option exponentiation.threshold 2000
/-! k65, the plain law: an expression's value by its kind; comprehensions. -/
namespace K65
open PySem RL
section
variable {Φ : Hd'}
theorem e1_c (d : D) : (evX P Φ (.c d)).1 = .ret (.tmp d) := by simp only [evX]
theorem e2_c (d : D) : (evX P Φ (.c d)).2 = truthM (evX P Φ (.c d)).1 := by simp only [evX]
theorem e1_g (x : Str) (d : D) : (evX P Φ (.g x d)).1 = .ret (.tmp d) := by simp only [evX]
theorem e2_g (x : Str) (d : D) : (evX P Φ (.g x d)).2 = truthM (evX P Φ (.g x d)).1 := by simp only [evX]
theorem e1_v (i : Nat) : (evX P Φ (.v i)).1 = varM i := by simp only [evX]
theorem e2_v (i : Nat) : (evX P Φ (.v i)).2 = truthM (evX P Φ (.v i)).1 := by simp only [evX]
theorem e1_bin (o : Operator) (a b : Ex') : (evX P Φ (.bin o a b)).1 = pureOp (two (evX P Φ a).1 (evX P Φ b).1 (touchR b)) (bin2 o) := by simp only [evX]
theorem e2_bin (o : Operator) (a b : Ex') : (evX P Φ (.bin o a b)).2 = truthM (evX P Φ (.bin o a b)).1 := by simp only [evX]
theorem e1_neg (a : Ex') : (evX P Φ (.neg a)).1 = pureOp (RL.one (evX P Φ a).1) neg1 := by simp only [evX]
theorem e2_neg (a : Ex') : (evX P Φ (.neg a)).2 = truthM (evX P Φ (.neg a)).1 := by simp only [evX]
theorem e1_cmp (o : CmpOp) (a b : Ex') : (evX P Φ (.cmp o a b)).1 = pureOp (two (evX P Φ a).1 (evX P Φ b).1 (touchR b)) (cmp2 o) := by simp only [evX]
theorem e2_cmp (o : CmpOp) (a b : Ex') : (evX P Φ (.cmp o a b)).2 = truthM (evX P Φ (.cmp o a b)).1 := by simp only [evX]
theorem e1_chain (o o' : CmpOp) (a b c : Ex') : (evX P Φ (.chain o o' a b c)).1 = chainM o o' (two (evX P Φ a).1 (evX P Φ b).1 (touchR b)) (evX P Φ c).1 := by simp only [evX]
theorem e2_chain (o o' : CmpOp) (a b c : Ex') : (evX P Φ (.chain o o' a b c)).2 = truthM (evX P Φ (.chain o o' a b c)).1 := by simp only [evX]
theorem e1_and (a b : Ex') : (evX P Φ (.and a b)).1 = andV (evX P Φ a).1 (evX P Φ b).1 := by simp only [evX]
theorem e2_and (a b : Ex') : (evX P Φ (.and a b)).2 = RL.andM (evX P Φ a).2 (evX P Φ b).2 := by simp only [evX]
theorem e1_or (a b : Ex') : (evX P Φ (.or a b)).1 = orV (evX P Φ a).1 (evX P Φ b).1 := by simp only [evX]
theorem e2_or (a b : Ex') : (evX P Φ (.or a b)).2 = RL.orM (evX P Φ a).2 (evX P Φ b).2 := by simp only [evX]
theorem e1_not (a : Ex') : (evX P Φ (.not a)).1 = pureOp (RL.one (evX P Φ a).1) not1 := by simp only [evX]
theorem e2_not (a : Ex') : (evX P Φ (.not a)).2 = M.bind (evX P Φ a).2 fun z => .ret (!z) := by simp only [evX]
theorem e1_ife (c a b : Ex') : (evX P Φ (.ife c a b)).1 = tmpM (ifM (evX P Φ c).2 (M.bind (evX P Φ a).1 takeR) (M.bind (evX P Φ b).1 takeR)) := by simp only [evX]
theorem e2_ife (c a b : Ex') : (evX P Φ (.ife c a b)).2 = M.fail := by simp only [evX]
theorem e1_ix (a b : Ex') : (evX P Φ (.ix a b)).1 = ixM (two (evX P Φ a).1 (evX P Φ b).1 (touchR b)) := by simp only [evX]
theorem e2_ix (a b : Ex') : (evX P Φ (.ix a b)).2 = truthM (evX P Φ (.ix a b)).1 := by simp only [evX]
theorem e1_sl (lo hi : Bool) (a l h : Ex') : (evX P Φ (.sl lo hi a l h)).1 = sliceM (evX P Φ a).1 (touchR l ++ touchR h) (optM lo (evX P Φ l).1) (optM hi (evX P Φ h).1) := by simp only [evX]
theorem e2_sl (lo hi : Bool) (a l h : Ex') : (evX P Φ (.sl lo hi a l h)).2 = truthM (evX P Φ (.sl lo hi a l h)).1 := by simp only [evX]
theorem e1_tup (es : List Ex') : (evX P Φ (.tup es)).1 = dispM (evXs P Φ es) fun ds => .tup (fzL ds) := by simp only [evX]
theorem e2_tup (es : List Ex') : (evX P Φ (.tup es)).2 = truthM (evX P Φ (.tup es)).1 := by simp only [evX]
theorem e1_lst (es : List Ex') : (evX P Φ (.lst es)).1 = dispM (evXs P Φ es) .olst := by simp only [evX]
theorem e2_lst (es : List Ex') : (evX P Φ (.lst es)).2 = truthM (evX P Φ (.lst es)).1 := by simp only [evX]
theorem e1_dic0 (t : Bool) : (evX P Φ (.dic0 t)).1 = .ret (.tmp (.nd true (match t with | true => .dT [] | false => .dK []) [])) := by cases t <;> simp only [evX] <;> rfl
theorem e2_dic0 (t : Bool) : (evX P Φ (.dic0 t)).2 = truthM (evX P Φ (.dic0 t)).1 := by simp only [evX]
theorem e1_call (f : Nat) (es : List Ex') : (evX P Φ (.call f es)).1 = tmpM (M.bind (evXs P Φ es) fun rs => callM Φ f rs) := by simp only [evX]
theorem e2_call (f : Nat) (es : List Ex') : (evX P Φ (.call f es)).2 = truthM (evX P Φ (.call f es)).1 := by simp only [evX]
theorem e1_blt (b : Blt) (es : List Ex') : (evX P Φ (.blt b es)).1 = pureOp (evXs P Φ es) (bltD b) := by simp only [evX]
theorem e2_blt (b : Blt) (es : List Ex') : (evX P Φ (.blt b es)).2 = truthM (evX P Φ (.blt b es)).1 := by simp only [evX]
theorem e1_bm (m : Bm) (o : Ex') (es : List Ex') : (evX P Φ (.bm m o es)).1 = tmpM (M.bind (evX P Φ o).1 fun x => M.bind (pkM x) fun d0 => M.bind (M.guard (isLst d0 && okPend x (touchL es ++ varsL es))) fun _ => M.bind (evXs P Φ es) fun rs => bmM m x rs) := by simp only [evX]
theorem e2_bm (m : Bm) (o : Ex') (es : List Ex') : (evX P Φ (.bm m o es)).2 = truthM (evX P Φ (.bm m o es)).1 := by simp only [evX]
theorem e1_frz (a : Ex') : (evX P Φ (.frz a)).1 = tmpM (M.bind (M.bind (evX P Φ a).1 takeR) fun d => .ret (fz d)) := by simp only [evX]
theorem e2_frz (a : Ex') : (evX P Φ (.frz a)).2 = M.fail := by simp only [evX]
theorem e1_view (f : Nat) (es : List Ex') : (evX P Φ (.view f es)).1 = pureOp (evXs P Φ es) (viewD Φ f) := by simp only [evX]
theorem e2_view (f : Nat) (es : List Ex') : (evX P Φ (.view f es)).2 = truthM (evX P Φ (.view f es)).1 := by simp only [evX]
theorem compL_pure (i : Nat) {cd : M Bool} {elt : M D} (p : D → Bool) (g : D → D) (e0 : Env') (h0 : e0[i]? = some none) : ∀ (xs : List D), (∀ x ∈ xs, x.own = false) → (∀ x ∈ xs, cd (e0.set i (some x)) = some (.ok (p x), e0.set i (some x))) →
    (∀ x ∈ xs, p x = true → elt (e0.set i (some x)) = some (.ok (g x), e0.set i (some x))) → compL [i] (setTg (.nm i)) cd elt xs e0 = some ((xs.filter p).map g, e0)
  | [], _, _, _ => rfl
  | x :: xs, hx, hc, he => by
    have hi : i < e0.length := (List.getElem?_eq_some_iff.mp h0).1
    have back : killL [i] (e0.set i (some x)) = e0 := by
      simp only [killL, List.foldl]
      rw [List.set_set]
      refine List.ext_getElem? fun j => ?_
      by_cases hj : i = j
      · subst hj; rw [List.getElem?_set_self hi, h0]
      · rw [List.getElem?_set_ne hj]
    have ih := compL_pure i p g e0 h0 xs (fun y m => hx y (List.mem_cons_of_mem _ m)) (fun y m => hc y (List.mem_cons_of_mem _ m)) (fun y m => he y (List.mem_cons_of_mem _ m))
    have h1 := hc x List.mem_cons_self
    have hs : setTg (.nm i) x e0 = some (e0.set i (some x)) := by simp [setTg, hi, hx x List.mem_cons_self]
    unfold compL
    rw [hs]
    dsimp only
    rw [h1]
    cases hp : p x with
    | true =>
      dsimp only
      rw [he x List.mem_cons_self hp]
      dsimp only
      rw [back, ih]
      simp [hp]
    | false =>
      dsimp only
      rw [back, ih]
      simp [hp]
theorem ev_comp {i : Nat} {k : ItK} {es cd : List Ex'} {elt : Ex'} {e e1 : Env'} {rs : List Rf} {xs : List D} (p : D → Bool) (g : D → D)
    (h : itM k (evXs P Φ es) (tgL (.nm i) ++ ([i] ++ (touchL cd ++ (touchR elt ++ varsV elt)))) e = some (.ok (rs, xs), e1)) (hl : xs.length ≤ lim) (hi : i < e1.length) (hx : ∀ x ∈ xs, x.own = false)
    (hc : ∀ x ∈ xs, evXc P Φ cd ((e1.set i none).set i (some x)) = some (.ok (p x), (e1.set i none).set i (some x))) (he : ∀ x ∈ xs, p x = true → ev P Φ elt ((e1.set i none).set i (some x)) = some (.ok (g x), (e1.set i none).set i (some x))) :
    (evX P Φ (.comp [i] (.nm i) k es cd elt)).1 e = some (.ok (.tmp (.olst ((xs.filter p).map g))), (e1.set i none).set i (backD e1[i]?)) := by
  have q := compL_pure i p g (e1.set i none) (List.getElem?_set_self hi) xs hx hc he
  simp only [evX, M.bind, h, compM, hl, decide_true]
  have kl : killL [i] e1 = e1.set i none := rfl
  rw [kl]
  have q' : compL [i] (setTg (.nm i)) (evXc P Φ cd) (M.bind (evX P Φ elt).1 takeR) xs (e1.set i none) = some ((xs.filter p).map g, e1.set i none) := q
  rw [q']
  rfl
end
end K65
set_option Elab.async false
set_option linter.all false
set_option maxRecDepth 100000
set_option maxHeartbeats 1000000
set_option exponentiation.threshold 2000
/-! k65, the plain law: mixed numbers. -/
namespace K65
open PySem RL
theorem rangeL_get : ∀ (n : Nat) (a : Int) (i : Nat), i < n → (rangeL a n)[i]? = some (.int (a + i))
  | 0, _, _, h => by omega
  | n + 1, a, 0, h => by simp [rangeL]
  | n + 1, a, i + 1, h => by
    have := rangeL_get n (a + 1) i (by omega)
    simp only [rangeL, List.getElem?_cons_succ, this]
    congr 2; omega
theorem rangeL_mem {n : Nat} {a : Int} {x : D} (h : x ∈ rangeL a n) : ∃ i : Nat, i < n ∧ x = .int (a + i) := by
  obtain ⟨i, hi⟩ := List.getElem?_of_mem h
  exact ⟨i, rangeL_at _ _ _ _ hi⟩
theorem rangeL_plain (n : Nat) (a : Int) : RL.plain (rangeL a n) = true := by
  refine List.all_eq_true.mpr fun x hx => ?_
  obtain ⟨i, _, rfl⟩ := rangeL_mem hx
  rfl
theorem fzL_eq : ∀ (xs : List D), (∀ x ∈ xs, fz x = x) → fzL xs = xs
  | [], _ => rfl
  | x :: xs, h => by rw [fzL, h x List.mem_cons_self, fzL_eq xs fun y m => h y (List.mem_cons_of_mem _ m)]
theorem rangeL_fz (n : Nat) (a : Int) : fzL (rangeL a n) = rangeL a n := fzL_eq _ fun x hx => by
  obtain ⟨i, _, rfl⟩ := rangeL_mem hx
  rfl
theorem rangeL_snoc : ∀ (n : Nat) (a : Int), rangeL a (n + 1) = rangeL a n ++ [.int (a + n)]
  | 0, a => by simp [rangeL]
  | n + 1, a => by
    rw [rangeL, rangeL_snoc n (a + 1), rangeL]
    simp only [List.cons_append]
    congr 4; omega
theorem rangeL_app (n : Nat) (a : Int) : ∀ (k : Nat), rangeL a n ++ rangeL (a + n) k = rangeL a (n + k)
  | 0 => by simp [rangeL]
  | k + 1 => by
    rw [rangeL_snoc k, ← List.append_assoc, rangeL_app n a k, ← Nat.add_assoc, rangeL_snoc]
    congr 3; omega
/-- an int's mirror image -/
def mir (c : Int) : D → D
  | .int k => .int (c - k)
  | d => d
theorem rangeL_mir (c : Int) : ∀ (n : Nat), (rangeL 0 n).map (mir c) = (rangeL (c - n + 1) n).reverse
  | 0 => rfl
  | n + 1 => by
    rw [rangeL_snoc, List.map_append, rangeL_mir c n, rangeL, List.reverse_cons]
    congr 2
    · congr 2; omega
    · simp only [List.map, mir]; congr 2; omega
def un : D → List D
  | .nd _ _ xs => xs
  | _ => []
def mixB : List St' := [.ife (.cmp .Lt (.v 3) (.v 1)) [.asg 5 (.blt .min [(.bin .Sub (.v 1) (.v 3)), (.call f__law_from [(.v 0), (.c (.int 1)), (.ife (.cmp .Lt (.v 1) (.c (.int 10))) (.c (.int 4)) (.c (.int 12)))])]), .asg 6 (.blt .lrange [(.v 3), (.bin .Add (.v 3) (.v 5))]), .exp (.bm .append (.v 2) [(.frz (.ife (.cmp .Gt (.call f__law_next [(.v 0), (.c (.int 3))]) (.c (.int 0))) (.v 6) (.comp [8] (.nm 8) .range [(.v 5)] [] (.ix (.v 6) (.bin .Sub (.bin .Sub (.v 5) (.c (.int 1))) (.v 8))))))]), .asg 3 (.bin .Add (.v 3) (.v 5))] []]
def MixI (m : Int) (i : Nat) (e : Env') : Prop := ∃ s parts a x4 x5 x6, e = [some s, some (.int m), some (.olst parts), some (.int a), x4, x5, x6, none, none] ∧ IsSt s ∧ (∀ d ∈ parts, ∃ l, d = .lst l ∧ RL.plain l = true) ∧ (parts.map un).flatten.Perm (rangeL 0 a.toNat) ∧ 0 ≤ a ∧ a ≤ m ∧ (i ≤ a ∨ a = m) ∧ parts.length ≤ i
theorem mix_part {Φ : Hd'} {s s' : D} {m a z : Int} {parts : List D} {x4 : Option D} {d : Int} (hs : IsSt s) (hs' : IsSt s') (h : Φ f__law_next [s, .int 3] = some (.ok (.int d), [some s', some (.int 3)])) (hz : 0 < z) (hz2 : z ≤ 1000) (ha : 0 ≤ a) (ha2 : a ≤ 1000) (hl : parts.length ≤ 1000) :
    ∃ l x6, exS P Φ (.exp (.bm .append (.v 2) [(.frz (.ife (.cmp .Gt (.call f__law_next [(.v 0), (.c (.int 3))]) (.c (.int 0))) (.v 6) (.comp [8] (.nm 8) .range [(.v 5)] [] (.ix (.v 6) (.bin .Sub (.bin .Sub (.v 5) (.c (.int 1))) (.v 8))))))])) [some s, some (.int m), some (.olst parts), some (.int a), x4, some (.int z), some (.olst (rangeL a z.toNat)), none, none] =
      some (.nx, [some s', some (.int m), some (.olst (parts ++ [.lst l])), some (.int a), x4, some (.int z), x6, none, none]) ∧ l.Perm (rangeL a z.toNat) := by
  have hso := hs.own
  have hso' := hs'.own
  have hf : parts.length < lim := by simp [lim]; omega
  by_cases hd : 0 < d
  · refine ⟨_, none, ?_, List.Perm.refl _⟩
    simp [fd, run1, initE, exSs, exS, ev, evR, evT, evX, evXs, evXc, dispM, M.bind, M.ret, M.guard, M.lift, M.fail, takeL, takeR, varM, RL.slotAt, own_nd, own_int, own_str, own_bl, own_non, okPend, touch, touchL, touchR, rootV, varsV, varsL, pureOp, pkLM, pkL, pk, pkM, getP, backA, asgSs, asgS, two, one, ixM, ixEnd, ixD_lst, ixD_tup, childM, childR, SM.of, SM.nx, SM.fail, truthM, truthD, tmpM, ifM, RL.andM, RL.orM, RL.andV, RL.orV, boolM, asBl, cmp2, cmpD, bin2, binD, mulOk, neg1, not1, putM, RL.putAt, RL.setP, setD, setL1, tmpOf, bltD, lenD, bmM, bmD, isLst, smallI, setTg, absD, intD, ltD, leD, gtD, isD, isNone, tyD, isTab, isD', callM, comeBack, tgL, eqD_int, eqD_str, eqD_bl, eqD_non, h, hso, hso', hd, hf, fz, rangeL_fz]
  · have q := ev_comp (Φ := Φ) (i := 8) (k := .range) (es := [(.v 5)]) (cd := []) (elt := .ix (.v 6) (.bin .Sub (.bin .Sub (.v 5) (.c (.int 1))) (.v 8))) (e := [some s', some (.int m), some (.olst parts), some (.int a), x4, some (.int z), some (.olst (rangeL a z.toNat)), none, none]) (e1 := [some s', some (.int m), some (.olst parts), some (.int a), x4, some (.int z), some (.olst (rangeL a z.toNat)), none, none]) (rs := [.tmp (.int z)]) (xs := rangeL 0 z.toNat) (fun _ => true) (mir (a + z - 1))
      (by
        have b1 : -1000000 ≤ z := by omega
        have b2 : z ≤ 1000000 := by omega
        simp [fd, run1, initE, exSs, exS, ev, evR, evT, evX, evXs, evXc, dispM, M.bind, M.ret, M.guard, M.lift, M.fail, takeL, takeR, varM, RL.slotAt, own_nd, own_int, own_str, own_bl, own_non, okPend, touch, touchL, touchR, rootV, varsV, varsL, pureOp, pkLM, pkL, pk, pkM, getP, backA, asgSs, asgS, two, one, ixM, ixEnd, ixD_lst, ixD_tup, childM, childR, SM.of, SM.nx, SM.fail, truthM, truthD, tmpM, ifM, RL.andM, RL.orM, RL.andV, RL.orV, boolM, asBl, cmp2, cmpD, bin2, binD, mulOk, neg1, not1, putM, RL.putAt, RL.setP, setD, setL1, tmpOf, bltD, lenD, bmM, bmD, isLst, smallI, setTg, absD, intD, ltD, leD, gtD, isD, isNone, tyD, isTab, isD', callM, comeBack, tgL, eqD_int, eqD_str, eqD_bl, eqD_non, itM, apart, rfRoots, it_range1, b1, b2]) (by rw [rangeL_len]; simp [lim]; omega) (by simp) (fun x hx => by
        obtain ⟨i, _, rfl⟩ := rangeL_mem hx
        rfl) (fun x hx => by simp [fd, run1, initE, exSs, exS, ev, evR, evT, evX, evXs, evXc, dispM, M.bind, M.ret, M.guard, M.lift, M.fail, takeL, takeR, varM, RL.slotAt, own_nd, own_int, own_str, own_bl, own_non, okPend, touch, touchL, touchR, rootV, varsV, varsL, pureOp, pkLM, pkL, pk, pkM, getP, backA, asgSs, asgS, two, one, ixM, ixEnd, ixD_lst, ixD_tup, childM, childR, SM.of, SM.nx, SM.fail, truthM, truthD, tmpM, ifM, RL.andM, RL.orM, RL.andV, RL.orV, boolM, asBl, cmp2, cmpD, bin2, binD, mulOk, neg1, not1, putM, RL.putAt, RL.setP, setD, setL1, tmpOf, bltD, lenD, bmM, bmD, isLst, smallI, setTg, absD, intD, ltD, leD, gtD, isD, isNone, tyD, isTab, isD', callM, comeBack, tgL, eqD_int, eqD_str, eqD_bl, eqD_non]) (fun x hx _ => by
        obtain ⟨i, hi, rfl⟩ := rangeL_mem hx
        have c1 : 0 ≤ z - 1 - i := by omega
        have c2 : z - 1 - i < (rangeL a z.toNat).length := by rw [rangeL_len]; omega
        have e1 : L2.ixN (rangeL a z.toNat).length (z - 1 - i) = some (z - 1 - i).toNat := by unfold L2.ixN; rw [if_pos c1, if_pos c2]
        have e2 := rangeL_get z.toNat a (z - 1 - i).toNat (by omega)
        have e3 : (rangeL a z.toNat)[z.toNat - 1 - i]? = some (.int (a + z - 1 - i)) := by
          rw [rangeL_get _ _ _ (by omega)]; congr 2; omega
        simp [fd, run1, initE, exSs, exS, ev, evR, evT, evX, evXs, evXc, dispM, M.bind, M.ret, M.guard, M.lift, M.fail, takeL, takeR, varM, RL.slotAt, own_nd, own_int, own_str, own_bl, own_non, okPend, touch, touchL, touchR, rootV, varsV, varsL, pureOp, pkLM, pkL, pk, pkM, getP, backA, asgSs, asgS, two, one, ixM, ixEnd, ixD_lst, ixD_tup, childM, childR, SM.of, SM.nx, SM.fail, truthM, truthD, tmpM, ifM, RL.andM, RL.orM, RL.andV, RL.orV, boolM, asBl, cmp2, cmpD, bin2, binD, mulOk, neg1, not1, putM, RL.putAt, RL.setP, setD, setL1, tmpOf, bltD, lenD, bmM, bmD, isLst, smallI, setTg, absD, intD, ltD, leD, gtD, isD, isNone, tyD, isTab, isD', callM, comeBack, tgL, eqD_int, eqD_str, eqD_bl, eqD_non, e1, e3, mir])
    rw [show (List.filter (fun _ => true) (rangeL 0 z.toNat)) = rangeL 0 z.toNat by simp, rangeL_mir, show a + z - 1 - (z.toNat : Int) + 1 = a by omega] at q
    refine ⟨_, some (.olst (rangeL a z.toNat)), ?_, List.reverse_perm _⟩
    have q1 : fzL (rangeL a z.toNat).reverse = (rangeL a z.toNat).reverse := fzL_eq _ fun x hx => by
      obtain ⟨i, _, rfl⟩ := rangeL_mem (List.mem_reverse.mp hx)
      rfl
    simp [backD] at q
    simp [fd, run1, initE, exSs, exS, ev, evR, evT, e1_c, e2_c, e1_g, e2_g, e1_v, e2_v, e1_bin, e2_bin, e1_neg, e2_neg, e1_cmp, e2_cmp, e1_chain, e2_chain, e1_and, e2_and, e1_or, e2_or, e1_not, e2_not, e1_ife, e2_ife, e1_ix, e2_ix, e1_sl, e2_sl, e1_tup, e2_tup, e1_lst, e2_lst, e1_dic0, e2_dic0, e1_call, e2_call, e1_blt, e2_blt, e1_bm, e2_bm, e1_frz, e2_frz, e1_view, e2_view, evXs, evXc, dispM, M.bind, M.ret, M.guard, M.lift, M.fail, takeL, takeR, varM, RL.slotAt, own_nd, own_int, own_str, own_bl, own_non, okPend, touch, touchL, touchR, rootV, varsV, varsL, pureOp, pkLM, pkL, pk, pkM, getP, backA, asgSs, asgS, two, one, ixM, ixEnd, ixD_lst, ixD_tup, childM, childR, SM.of, SM.nx, SM.fail, truthM, truthD, tmpM, ifM, RL.andM, RL.orM, RL.andV, RL.orV, boolM, asBl, cmp2, cmpD, bin2, binD, mulOk, neg1, not1, putM, RL.putAt, RL.setP, setD, setL1, tmpOf, bltD, lenD, bmM, bmD, isLst, smallI, setTg, absD, intD, ltD, leD, gtD, isD, isNone, tyD, isTab, isD', callM, comeBack, tgL, eqD_int, eqD_str, eqD_bl, eqD_non, h, hso, hso', hd, hf, fz, q, q1]
end K65
set_option Elab.async false
set_option linter.all false
set_option maxRecDepth 100000
set_option maxHeartbeats 1000000
set_option exponentiation.threshold 2000
/-! k65, the plain law: mixed numbers, the loops. -/
namespace K65
open PySem RL
theorem mix_step (m : Int) (hm : m ≤ 1000) (j i : Nat) (x : D) (e : Env') (hi : (rangeL 0 m.toNat)[i]? = some x) (hI : MixI m i e) : ∃ e1 e2, setTg (.nm 4) x e = some e1 ∧ exSs P (RL.run P fd (j + 2)) mixB e1 = some (.nx, e2) ∧ MixI m (i + 1) e2 := by
  obtain ⟨s, parts, a, x4, x5, x6, rfl, i1, i2, i3, i4, i5, i6, i7⟩ := hI
  obtain ⟨hi, rfl⟩ := rangeL_at _ _ _ _ hi
  refine ⟨[some s, some (.int m), some (.olst parts), some (.int a), some (.int (0 + i)), x5, x6, none, none], ?_⟩
  by_cases ham : a < m
  · obtain ⟨hi2, h1, h2⟩ : ∃ hi2 : Int, (if m < 10 then (4 : Int) else 12) = hi2 ∧ 1 ≤ hi2 ∧ hi2 ≤ 12 := by
      refine ⟨_, rfl, ?_, ?_⟩ <;> split <;> omega
    obtain ⟨v, s1, f1, f2, f3, f4⟩ := from_ok i1 1 hi2 j (by omega) (by omega)
    obtain ⟨d, s2, n1, n2, n3, n4⟩ := next_ok f4 3 (j + 1) (by omega) (by omega)
    have hso := i1.own
    have hso1 := f4.own
    obtain ⟨z, hz⟩ : ∃ z : Int, (if v < m - a then v else m - a) = z := ⟨_, rfl⟩
    have z1 : 0 < z := by rw [← hz]; split <;> omega
    have z2 : z ≤ 12 := by rw [← hz]; split <;> omega
    have z3 : z ≤ m - a := by rw [← hz]; split <;> omega
    obtain ⟨l, y6, g1, g2⟩ := mix_part (Φ := RL.run P fd (j + 2)) (m := m) (a := a) (z := z) (parts := parts) (x4 := some (.int (0 + i))) f4 n4 n1 z1 (by omega) i4 (by omega) (by omega)
    refine ⟨_, rfl, ?_, s2, parts ++ [.lst l], a + z, some (.int (0 + i)), some (.int z), y6, rfl, n4, ?_, ?_, by omega, by omega, by omega, by simp; omega⟩
    · refine st_nx ?_ st_nil
      unfold exS
      have ht : evT P (RL.run P fd (j + 2)) (.cmp .Lt (.v 3) (.v 1)) [some s, some (.int m), some (.olst parts), some (.int a), some (.int (0 + i)), x5, x6, none, none] = some (.ok true, [some s, some (.int m), some (.olst parts), some (.int a), some (.int (0 + i)), x5, x6, none, none]) := by
        simp [fd, run1, initE, exSs, exS, ev, evR, evT, evX, evXs, evXc, dispM, M.bind, M.ret, M.guard, M.lift, M.fail, takeL, takeR, varM, RL.slotAt, own_nd, own_int, own_str, own_bl, own_non, okPend, touch, touchL, touchR, rootV, varsV, varsL, pureOp, pkLM, pkL, pk, pkM, getP, backA, asgSs, asgS, two, one, ixM, ixEnd, ixD_lst, ixD_tup, childM, childR, SM.of, SM.nx, SM.fail, truthM, truthD, tmpM, ifM, RL.andM, RL.orM, RL.andV, RL.orV, boolM, asBl, cmp2, cmpD, bin2, binD, mulOk, neg1, not1, putM, RL.putAt, RL.setP, setD, setL1, tmpOf, bltD, lenD, bmM, bmD, isLst, smallI, setTg, absD, intD, ltD, leD, gtD, isD, isNone, tyD, isTab, isD', callM, comeBack, tgL, eqD_int, eqD_str, eqD_bl, eqD_non, ham]
      simp only [SM.of, ht]
      refine st_nx (e' := [some s1, some (.int m), some (.olst parts), some (.int a), some (.int (0 + i)), some (.int z), x6, none, none]) ?_ ?_
      · by_cases h10 : m < 10
        · rw [if_pos h10] at h1; subst h1
          simp [fd, run1, initE, exSs, exS, ev, evR, evT, evX, evXs, evXc, dispM, M.bind, M.ret, M.guard, M.lift, M.fail, takeL, takeR, varM, RL.slotAt, own_nd, own_int, own_str, own_bl, own_non, okPend, touch, touchL, touchR, rootV, varsV, varsL, pureOp, pkLM, pkL, pk, pkM, getP, backA, asgSs, asgS, two, one, ixM, ixEnd, ixD_lst, ixD_tup, childM, childR, SM.of, SM.nx, SM.fail, truthM, truthD, tmpM, ifM, RL.andM, RL.orM, RL.andV, RL.orV, boolM, asBl, cmp2, cmpD, bin2, binD, mulOk, neg1, not1, putM, RL.putAt, RL.setP, setD, setL1, tmpOf, bltD, lenD, bmM, bmD, isLst, smallI, setTg, absD, intD, ltD, leD, gtD, isD, isNone, tyD, isTab, isD', callM, comeBack, tgL, eqD_int, eqD_str, eqD_bl, eqD_non, h10, f1, hso, hso1, minD', hz]
        · rw [if_neg h10] at h1; subst h1
          simp [fd, run1, initE, exSs, exS, ev, evR, evT, evX, evXs, evXc, dispM, M.bind, M.ret, M.guard, M.lift, M.fail, takeL, takeR, varM, RL.slotAt, own_nd, own_int, own_str, own_bl, own_non, okPend, touch, touchL, touchR, rootV, varsV, varsL, pureOp, pkLM, pkL, pk, pkM, getP, backA, asgSs, asgS, two, one, ixM, ixEnd, ixD_lst, ixD_tup, childM, childR, SM.of, SM.nx, SM.fail, truthM, truthD, tmpM, ifM, RL.andM, RL.orM, RL.andV, RL.orV, boolM, asBl, cmp2, cmpD, bin2, binD, mulOk, neg1, not1, putM, RL.putAt, RL.setP, setD, setL1, tmpOf, bltD, lenD, bmM, bmD, isLst, smallI, setTg, absD, intD, ltD, leD, gtD, isD, isNone, tyD, isTab, isD', callM, comeBack, tgL, eqD_int, eqD_str, eqD_bl, eqD_non, h10, f1, hso, hso1, minD', hz]
      · refine st_nx (e' := [some s1, some (.int m), some (.olst parts), some (.int a), some (.int (0 + i)), some (.int z), some (.olst (rangeL a z.toNat)), none, none]) ?_ ?_
        · have b1 : -1000000 ≤ a := by omega
          have b2 : a ≤ 1000000 := by omega
          have b3 : -1000000 ≤ a + z := by omega
          have b4 : a + z ≤ 1000000 := by omega
          have b5 : (a + z - a).toNat = z.toNat := by congr 1; omega
          simp [fd, run1, initE, exSs, exS, ev, evR, evT, evX, evXs, evXc, dispM, M.bind, M.ret, M.guard, M.lift, M.fail, takeL, takeR, varM, RL.slotAt, own_nd, own_int, own_str, own_bl, own_non, okPend, touch, touchL, touchR, rootV, varsV, varsL, pureOp, pkLM, pkL, pk, pkM, getP, backA, asgSs, asgS, two, one, ixM, ixEnd, ixD_lst, ixD_tup, childM, childR, SM.of, SM.nx, SM.fail, truthM, truthD, tmpM, ifM, RL.andM, RL.orM, RL.andV, RL.orV, boolM, asBl, cmp2, cmpD, bin2, binD, mulOk, neg1, not1, putM, RL.putAt, RL.setP, setD, setL1, tmpOf, bltD, lenD, bmM, bmD, isLst, smallI, setTg, absD, intD, ltD, leD, gtD, isD, isNone, tyD, isTab, isD', callM, comeBack, tgL, eqD_int, eqD_str, eqD_bl, eqD_non, lrangeD, itD, b1, b2, b3, b4, b5]
        · refine st_nx g1 ?_
          refine st_nx (e' := [some s2, some (.int m), some (.olst (parts ++ [.lst l])), some (.int (a + z)), some (.int (0 + i)), some (.int z), y6, none, none]) ?_ st_nil
          simp [fd, run1, initE, exSs, exS, ev, evR, evT, evX, evXs, evXc, dispM, M.bind, M.ret, M.guard, M.lift, M.fail, takeL, takeR, varM, RL.slotAt, own_nd, own_int, own_str, own_bl, own_non, okPend, touch, touchL, touchR, rootV, varsV, varsL, pureOp, pkLM, pkL, pk, pkM, getP, backA, asgSs, asgS, two, one, ixM, ixEnd, ixD_lst, ixD_tup, childM, childR, SM.of, SM.nx, SM.fail, truthM, truthD, tmpM, ifM, RL.andM, RL.orM, RL.andV, RL.orV, boolM, asBl, cmp2, cmpD, bin2, binD, mulOk, neg1, not1, putM, RL.putAt, RL.setP, setD, setL1, tmpOf, bltD, lenD, bmM, bmD, isLst, smallI, setTg, absD, intD, ltD, leD, gtD, isD, isNone, tyD, isTab, isD', callM, comeBack, tgL, eqD_int, eqD_str, eqD_bl, eqD_non]
    · intro d hd
      rcases List.mem_append.mp hd with hd | hd
      · exact i2 d hd
      · refine ⟨l, by simpa using hd, List.all_eq_true.mpr fun x hx => ?_⟩
        obtain ⟨k, _, rfl⟩ := rangeL_mem (g2.mem_iff.mp hx)
        rfl
    · rw [List.map_append, List.flatten_append]
      have e1 : (List.map un [D.lst l]).flatten = l := by simp [un]
      rw [e1, show (a + z).toNat = a.toNat + z.toNat by omega, ← rangeL_app, show (0 : Int) + a.toNat = a by omega]
      exact List.Perm.append i3 g2
  · refine ⟨_, rfl, ?_, s, parts, a, some (.int (0 + i)), x5, x6, rfl, i1, i2, i3, i4, i5, by omega, by omega⟩
    refine st_nx ?_ st_nil
    simp [fd, run1, initE, exSs, exS, ev, evR, evT, evX, evXs, evXc, dispM, M.bind, M.ret, M.guard, M.lift, M.fail, takeL, takeR, varM, RL.slotAt, own_nd, own_int, own_str, own_bl, own_non, okPend, touch, touchL, touchR, rootV, varsV, varsL, pureOp, pkLM, pkL, pk, pkM, getP, backA, asgSs, asgS, two, one, ixM, ixEnd, ixD_lst, ixD_tup, childM, childR, SM.of, SM.nx, SM.fail, truthM, truthD, tmpM, ifM, RL.andM, RL.orM, RL.andV, RL.orV, boolM, asBl, cmp2, cmpD, bin2, binD, mulOk, neg1, not1, putM, RL.putAt, RL.setP, setD, setL1, tmpOf, bltD, lenD, bmM, bmD, isLst, smallI, setTg, absD, intD, ltD, leD, gtD, isD, isNone, tyD, isTab, isD', callM, comeBack, tgL, eqD_int, eqD_str, eqD_bl, eqD_non, ham]
theorem flat_le {y : D} {ys : List D} (h : y ∈ ys) : (un y).length ≤ ((ys.map un).flatten).length := by
  have : un y ∈ ys.map un := List.mem_map_of_mem h
  exact (List.sublist_flatten_of_mem this).length_le
theorem mixed_ok {s : D} (hs : IsSt s) (m : Int) (hm0 : 0 ≤ m) (hm : m ≤ 1000) (j : Nat) : ∃ ys s', RL.run P fd (j + 3) f__law_mixed [s, .int m] = some (.ok (.olst ys), [some s', some (.int m)]) ∧ ys.Perm (rangeL 0 m.toNat) ∧ IsSt s' := by
  have b1 : -1000000 ≤ m := by omega
  have b2 : m ≤ 1000000 := by omega
  have hso := hs.own
  have main : ∀ s, IsSt s → ∃ ys s' x2 x3 x4 x5 x6, exSs P (RL.run P fd (j + 2)) (b__law_mixed.drop 1) [some s, some (.int m), none, none, none, none, none, none, none] = some (.rt (.olst ys), [some s', some (.int m), x2, x3, x4, x5, x6, none, none]) ∧ ys.Perm (rangeL 0 m.toNat) ∧ IsSt s' := by
    intro s hs
    have hso := hs.own
    show ∃ ys s' x2 x3 x4 x5 x6, exSs P (RL.run P fd (j + 2)) [.asg 2 (.lst []), .asg 3 (.c (.int 0)), .for_ (.nm 4) .range [(.v 1)] mixB, .asg 7 (.lst []), .for_ (.nm 6) .seq [(.call f__law_shuffled [(.v 0), (.v 2)])] [.asg 7 (.bin .Add (.v 7) (.v 6))], .ret (.v 7)] _ = _ ∧ _
    obtain ⟨e1, g1, s1, parts, a, x4, x5, x6, rfl, i1, i2, i3, i4, i5, i6, i7⟩ := forL_inv (set := setTg (.nm 4)) (body := exSs P (RL.run P fd (j + 2)) mixB) (MixI m) (rangeL 0 m.toNat) [some s, some (.int m), some (.olst []), some (.int 0), none, none, none, none, none] 0
      ⟨s, [], 0, none, none, none, rfl, hs, by simp, List.Perm.refl _, by omega, by omega, by omega, by simp⟩ (fun i x e hx hI => by
        rw [Nat.zero_add] at hI ⊢
        exact mix_step m hm j i x e hx hI)
    rw [rangeL_len] at i6 i7
    have am : a = m := by omega
    subst am
    have pp : RL.plain parts = true := List.all_eq_true.mpr fun d hd => by
      obtain ⟨l, rfl, _⟩ := i2 d hd
      rfl
    obtain ⟨ys, s2, f1, f2, f3⟩ := shuffled_ok i1 true parts pp j (by omega)
    have hso1 := i1.own
    have hso2 := f3.own
    have py : RL.plain ys = true := List.all_eq_true.mpr fun d hd => List.all_eq_true.mp pp d (f2.mem_iff.mp hd)
    have total : (ys.map un).flatten.Perm (rangeL 0 a.toNat) := List.Perm.trans (List.Perm.flatten (f2.map un)) i3
    have tl : (ys.map un).flatten.length ≤ 1000 := by rw [total.length_eq, rangeL_len]; omega
    let I : Nat → Env' → Prop := fun i e => ∃ found y6, e = [some s2, some (.int a), some (.olst parts), some (.int a), x4, x5, y6, some (.olst found), none] ∧ found ++ ((ys.drop i).map un).flatten = (ys.map un).flatten ∧ RL.plain found = true
    obtain ⟨e2, g2, found, y6, rfl, k1, k2⟩ := forL_inv (set := setTg (.nm 6)) (body := exSs P (RL.run P fd (j + 2)) [.asg 7 (.bin .Add (.v 7) (.v 6))]) I ys [some s2, some (.int a), some (.olst parts), some (.int a), x4, x5, x6, some (.olst []), none] 0
      ⟨[], x6, rfl, rfl, rfl⟩ (fun i x e hx hI => by
        obtain ⟨found, y6, rfl, k1, k2⟩ := hI
        rw [Nat.zero_add] at k1
        have hil := (List.getElem?_eq_some_iff.mp hx).1
        have hix := (List.getElem?_eq_some_iff.mp hx).2
        obtain ⟨l, rfl, hl⟩ := i2 x (f2.mem_iff.mp (List.mem_of_getElem? hx))
        rw [List.drop_eq_getElem_cons hil, hix, List.map_cons, List.flatten_cons, ← List.append_assoc] at k1
        have k3 : found.length + l.length ≤ 1000 := by
          have := congrArg List.length k1
          simp only [List.length_append, un] at this
          omega
        have k4 : found.length + l.length ≤ lim := by simp [lim]; omega
        refine ⟨_, [some s2, some (.int a), some (.olst parts), some (.int a), x4, x5, some (.lst l), some (.olst (found ++ l)), none], rfl, ?_, found ++ l, _, rfl, ?_, ?_⟩
        · refine st_nx ?_ st_nil
          simp [fd, run1, initE, exSs, exS, ev, evR, evT, evX, evXs, evXc, dispM, M.bind, M.ret, M.guard, M.lift, M.fail, takeL, takeR, varM, RL.slotAt, own_nd, own_int, own_str, own_bl, own_non, okPend, touch, touchL, touchR, rootV, varsV, varsL, pureOp, pkLM, pkL, pk, pkM, getP, backA, asgSs, asgS, two, one, ixM, ixEnd, ixD_lst, ixD_tup, childM, childR, SM.of, SM.nx, SM.fail, truthM, truthD, tmpM, ifM, RL.andM, RL.orM, RL.andV, RL.orV, boolM, asBl, cmp2, cmpD, bin2, binD, mulOk, neg1, not1, putM, RL.putAt, RL.setP, setD, setL1, tmpOf, bltD, lenD, bmM, bmD, isLst, smallI, setTg, absD, intD, ltD, leD, gtD, isD, isNone, tyD, isTab, isD', callM, comeBack, tgL, eqD_int, eqD_str, eqD_bl, eqD_non, k2, hl, k4]
        · rw [Nat.zero_add]; exact k1
        · simp only [RL.plain, List.all_append] at k2 hl ⊢
          rw [k2, hl]; rfl)
    rw [Nat.zero_add, List.drop_length] at k1
    have k3 : found = (ys.map un).flatten := by simpa using k1
    refine ⟨found, s2, some (.olst parts), some (.int a), x4, x5, y6, ?_, k3 ▸ total, f3⟩
    refine st_nx (e' := [some s, some (.int a), some (.olst []), none, none, none, none, none, none]) (by simp [fd, run1, initE, exSs, exS, ev, evR, evT, evX, evXs, evXc, dispM, M.bind, M.ret, M.guard, M.lift, M.fail, takeL, takeR, varM, RL.slotAt, own_nd, own_int, own_str, own_bl, own_non, okPend, touch, touchL, touchR, rootV, varsV, varsL, pureOp, pkLM, pkL, pk, pkM, getP, backA, asgSs, asgS, two, one, ixM, ixEnd, ixD_lst, ixD_tup, childM, childR, SM.of, SM.nx, SM.fail, truthM, truthD, tmpM, ifM, RL.andM, RL.orM, RL.andV, RL.orV, boolM, asBl, cmp2, cmpD, bin2, binD, mulOk, neg1, not1, putM, RL.putAt, RL.setP, setD, setL1, tmpOf, bltD, lenD, bmM, bmD, isLst, smallI, setTg, absD, intD, ltD, leD, gtD, isD, isNone, tyD, isTab, isD', callM, comeBack, tgL, eqD_int, eqD_str, eqD_bl, eqD_non]) ?_
    refine st_nx (e' := [some s, some (.int a), some (.olst []), some (.int 0), none, none, none, none, none]) (by simp [fd, run1, initE, exSs, exS, ev, evR, evT, evX, evXs, evXc, dispM, M.bind, M.ret, M.guard, M.lift, M.fail, takeL, takeR, varM, RL.slotAt, own_nd, own_int, own_str, own_bl, own_non, okPend, touch, touchL, touchR, rootV, varsV, varsL, pureOp, pkLM, pkL, pk, pkM, getP, backA, asgSs, asgS, two, one, ixM, ixEnd, ixD_lst, ixD_tup, childM, childR, SM.of, SM.nx, SM.fail, truthM, truthD, tmpM, ifM, RL.andM, RL.orM, RL.andV, RL.orV, boolM, asBl, cmp2, cmpD, bin2, binD, mulOk, neg1, not1, putM, RL.putAt, RL.setP, setD, setL1, tmpOf, bltD, lenD, bmM, bmD, isLst, smallI, setTg, absD, intD, ltD, leD, gtD, isD, isNone, tyD, isTab, isD', callM, comeBack, tgL, eqD_int, eqD_str, eqD_bl, eqD_non]) ?_
    refine st_nx (ex_for (rs := [.tmp (.int a)]) (xs := rangeL 0 a.toNat) (e' := [some s, some (.int a), some (.olst []), some (.int 0), none, none, none, none, none]) ?_ g1) ?_
    · simp [fd, run1, initE, exSs, exS, ev, evR, evT, evX, evXs, evXc, dispM, M.bind, M.ret, M.guard, M.lift, M.fail, takeL, takeR, varM, RL.slotAt, own_nd, own_int, own_str, own_bl, own_non, okPend, touch, touchL, touchR, rootV, varsV, varsL, pureOp, pkLM, pkL, pk, pkM, getP, backA, asgSs, asgS, two, one, ixM, ixEnd, ixD_lst, ixD_tup, childM, childR, SM.of, SM.nx, SM.fail, truthM, truthD, tmpM, ifM, RL.andM, RL.orM, RL.andV, RL.orV, boolM, asBl, cmp2, cmpD, bin2, binD, mulOk, neg1, not1, putM, RL.putAt, RL.setP, setD, setL1, tmpOf, bltD, lenD, bmM, bmD, isLst, smallI, setTg, absD, intD, ltD, leD, gtD, isD, isNone, tyD, isTab, isD', callM, comeBack, tgL, eqD_int, eqD_str, eqD_bl, eqD_non, itM, apart, rfRoots, it_range1, b1, b2]
    refine st_nx (e' := [some s1, some (.int a), some (.olst parts), some (.int a), x4, x5, x6, some (.olst []), none]) (by simp [fd, run1, initE, exSs, exS, ev, evR, evT, evX, evXs, evXc, dispM, M.bind, M.ret, M.guard, M.lift, M.fail, takeL, takeR, varM, RL.slotAt, own_nd, own_int, own_str, own_bl, own_non, okPend, touch, touchL, touchR, rootV, varsV, varsL, pureOp, pkLM, pkL, pk, pkM, getP, backA, asgSs, asgS, two, one, ixM, ixEnd, ixD_lst, ixD_tup, childM, childR, SM.of, SM.nx, SM.fail, truthM, truthD, tmpM, ifM, RL.andM, RL.orM, RL.andV, RL.orV, boolM, asBl, cmp2, cmpD, bin2, binD, mulOk, neg1, not1, putM, RL.putAt, RL.setP, setD, setL1, tmpOf, bltD, lenD, bmM, bmD, isLst, smallI, setTg, absD, intD, ltD, leD, gtD, isD, isNone, tyD, isTab, isD', callM, comeBack, tgL, eqD_int, eqD_str, eqD_bl, eqD_non]) ?_
    refine st_nx (ex_for (rs := [.tmp (.olst ys)]) (xs := ys) (e' := [some s2, some (.int a), some (.olst parts), some (.int a), x4, x5, x6, some (.olst []), none]) ?_ g2) ?_
    · simp [fd, run1, initE, exSs, exS, ev, evR, evT, evX, evXs, evXc, dispM, M.bind, M.ret, M.guard, M.lift, M.fail, takeL, takeR, varM, RL.slotAt, own_nd, own_int, own_str, own_bl, own_non, okPend, touch, touchL, touchR, rootV, varsV, varsL, pureOp, pkLM, pkL, pk, pkM, getP, backA, asgSs, asgS, two, one, ixM, ixEnd, ixD_lst, ixD_tup, childM, childR, SM.of, SM.nx, SM.fail, truthM, truthD, tmpM, ifM, RL.andM, RL.orM, RL.andV, RL.orV, boolM, asBl, cmp2, cmpD, bin2, binD, mulOk, neg1, not1, putM, RL.putAt, RL.setP, setD, setL1, tmpOf, bltD, lenD, bmM, bmD, isLst, smallI, setTg, absD, intD, ltD, leD, gtD, isD, isNone, tyD, isTab, isD', callM, comeBack, tgL, eqD_int, eqD_str, eqD_bl, eqD_non, itM, apart, rfRoots, itD, f1, hso1, hso2, py]
    refine st_rt ?_
    simp [fd, run1, initE, exSs, exS, ev, evR, evT, evX, evXs, evXc, dispM, M.bind, M.ret, M.guard, M.lift, M.fail, takeL, takeR, varM, RL.slotAt, own_nd, own_int, own_str, own_bl, own_non, okPend, touch, touchL, touchR, rootV, varsV, varsL, pureOp, pkLM, pkL, pk, pkM, getP, backA, asgSs, asgS, two, one, ixM, ixEnd, ixD_lst, ixD_tup, childM, childR, SM.of, SM.nx, SM.fail, truthM, truthD, tmpM, ifM, RL.andM, RL.orM, RL.andV, RL.orV, boolM, asBl, cmp2, cmpD, bin2, binD, mulOk, neg1, not1, putM, RL.putAt, RL.setP, setD, setL1, tmpOf, bltD, lenD, bmM, bmD, isLst, smallI, setTg, absD, intD, ltD, leD, gtD, isD, isNone, tyD, isTab, isD', callM, comeBack, tgL, eqD_int, eqD_str, eqD_bl, eqD_non]
  by_cases h10 : m < 10
  · obtain ⟨d, s1, n1, n2, n3, n4⟩ := next_ok hs 2 (j + 1) (by omega) (by omega)
    have hso1 := n4.own
    by_cases hd : d = 0
    · subst hd
      obtain ⟨ys, s2, f1, f2, f3⟩ := shuffled_ok n4 true (rangeL 0 m.toNat) (rangeL_plain _ _) j (by rw [rangeL_len]; omega)
      have hso2 := f3.own
      refine ⟨ys, s2, ?_, f2, f3⟩
      refine run_rt (d := t__law_mixed) (e := [some s2, some (.int m), none, none, none, none, none, none, none]) rfl rfl (by decide) ?_
      show exSs P (RL.run P fd (j + 2)) b__law_mixed _ = _
      refine st_rt ?_
      simp [fd, run1, initE, exSs, exS, ev, evR, evT, evX, evXs, evXc, dispM, M.bind, M.ret, M.guard, M.lift, M.fail, takeL, takeR, varM, RL.slotAt, own_nd, own_int, own_str, own_bl, own_non, okPend, touch, touchL, touchR, rootV, varsV, varsL, pureOp, pkLM, pkL, pk, pkM, getP, backA, asgSs, asgS, two, one, ixM, ixEnd, ixD_lst, ixD_tup, childM, childR, SM.of, SM.nx, SM.fail, truthM, truthD, tmpM, ifM, RL.andM, RL.orM, RL.andV, RL.orV, boolM, asBl, cmp2, cmpD, bin2, binD, mulOk, neg1, not1, putM, RL.putAt, RL.setP, setD, setL1, tmpOf, bltD, lenD, bmM, bmD, isLst, smallI, setTg, absD, intD, ltD, leD, gtD, isD, isNone, tyD, isTab, isD', callM, comeBack, tgL, eqD_int, eqD_str, eqD_bl, eqD_non, t__law_mixed, n1, h10, hso, hso1, hso2, lrangeD, it_range1, b1, b2, f1]
    · obtain ⟨ys, s2, x2, x3, x4, x5, x6, f1, f2, f3⟩ := main s1 n4
      refine ⟨ys, s2, ?_, f2, f3⟩
      refine run_rt (d := t__law_mixed) (ds := [s, .int m]) (e := [some s2, some (.int m), x2, x3, x4, x5, x6, none, none]) rfl rfl (by decide) ?_
      show exSs P (RL.run P fd (j + 2)) b__law_mixed _ = _
      refine st_nx ?_ f1
      simp [fd, run1, initE, exSs, exS, ev, evR, evT, evX, evXs, evXc, dispM, M.bind, M.ret, M.guard, M.lift, M.fail, takeL, takeR, varM, RL.slotAt, own_nd, own_int, own_str, own_bl, own_non, okPend, touch, touchL, touchR, rootV, varsV, varsL, pureOp, pkLM, pkL, pk, pkM, getP, backA, asgSs, asgS, two, one, ixM, ixEnd, ixD_lst, ixD_tup, childM, childR, SM.of, SM.nx, SM.fail, truthM, truthD, tmpM, ifM, RL.andM, RL.orM, RL.andV, RL.orV, boolM, asBl, cmp2, cmpD, bin2, binD, mulOk, neg1, not1, putM, RL.putAt, RL.setP, setD, setL1, tmpOf, bltD, lenD, bmM, bmD, isLst, smallI, setTg, absD, intD, ltD, leD, gtD, isD, isNone, tyD, isTab, isD', callM, comeBack, tgL, eqD_int, eqD_str, eqD_bl, eqD_non, t__law_mixed, n1, h10, hso, hso1, hd]
  · obtain ⟨ys, s2, x2, x3, x4, x5, x6, f1, f2, f3⟩ := main s hs
    refine ⟨ys, s2, ?_, f2, f3⟩
    refine run_rt (d := t__law_mixed) (ds := [s, .int m]) (e := [some s2, some (.int m), x2, x3, x4, x5, x6, none, none]) rfl rfl (by decide) ?_
    show exSs P (RL.run P fd (j + 2)) b__law_mixed _ = _
    refine st_nx ?_ f1
    simp [fd, run1, initE, exSs, exS, ev, evR, evT, evX, evXs, evXc, dispM, M.bind, M.ret, M.guard, M.lift, M.fail, takeL, takeR, varM, RL.slotAt, own_nd, own_int, own_str, own_bl, own_non, okPend, touch, touchL, touchR, rootV, varsV, varsL, pureOp, pkLM, pkL, pk, pkM, getP, backA, asgSs, asgS, two, one, ixM, ixEnd, ixD_lst, ixD_tup, childM, childR, SM.of, SM.nx, SM.fail, truthM, truthD, tmpM, ifM, RL.andM, RL.orM, RL.andV, RL.orV, boolM, asBl, cmp2, cmpD, bin2, binD, mulOk, neg1, not1, putM, RL.putAt, RL.setP, setD, setL1, tmpOf, bltD, lenD, bmM, bmD, isLst, smallI, setTg, absD, intD, ltD, leD, gtD, isD, isNone, tyD, isTab, isD', callM, comeBack, tgL, eqD_int, eqD_str, eqD_bl, eqD_non, t__law_mixed, h10]
end K65
set_option Elab.async false
set_option linter.all false
set_option maxRecDepth 100000
set_option maxHeartbeats 1000000
set_option exponentiation.threshold 2000
/-! k65, the plain law: the numbers; the lengths. -/
namespace K65
open PySem RL
abbrev iL (ns : List Int) : List D := ns.map D.int
theorem iL_fz (ns : List Int) : fzL (iL ns) = iL ns := fzL_eq _ fun x hx => by
  obtain ⟨i, _, rfl⟩ := List.mem_map.mp hx
  rfl
theorem rangeL_iL : ∀ (n : Nat) (a : Int), rangeL a n = iL ((List.range n).map fun (i : Nat) => a + (i : Int))
  | n, a => by
    refine List.ext_getElem? fun i => ?_
    by_cases h : i < n
    · rw [rangeL_get _ _ _ h]; simp [h]
    · rw [List.getElem?_eq_none (by rw [rangeL_len]; omega), List.getElem?_eq_none (by simp; omega)]
def scl (f s : Int) : D → D
  | .int k => .int ((k - s) * f)
  | d => d
def unI : D → Int
  | .int k => k
  | _ => 0
theorem numbers_ok {s : D} (hs : IsSt s) (m : Int) (hm0 : 0 ≤ m) (hm : m ≤ 1000) (j : Nat) : ∃ ns s', RL.run P fd (j + 4) f__law_numbers [s, .int m] = some (.ok (.olst (iL ns)), [some s', some (.int m)]) ∧ ns.Nodup ∧ ns.length = m.toNat ∧ IsSt s' := by
  obtain ⟨x, s1, f1, f2, f3⟩ := pick_ok hs false .tup (.inr rfl) [.int 1, .int 1, .int 3, .int (-1), .int (10 ^ 40)] rfl (j + 1) (by simp) (by simp)
  obtain ⟨f, rfl, hf⟩ : ∃ f : Int, x = .int f ∧ f ≠ 0 := by
    simp at f2
    rcases f2 with rfl | rfl | rfl | rfl <;> exact ⟨_, rfl, by decide⟩
  obtain ⟨d, s2, n1, n2, n3, n4⟩ := next_ok f3 12 (j + 2) (by omega) (by omega)
  obtain ⟨ys, s3, y1, y2, y3⟩ := mixed_ok n4 m hm0 hm j
  have hso := hs.own
  have hso1 := f3.own
  have hso2 := n4.own
  have hso3 := y3.own
  have ymem : ∀ y ∈ ys, ∃ i : Nat, i < m.toNat ∧ y = .int (0 + i) := fun y hy => rangeL_mem (y2.mem_iff.mp hy)
  have py : RL.plain ys = true := List.all_eq_true.mpr fun y hy => by
    obtain ⟨i, _, rfl⟩ := ymem y hy
    rfl
  have q := ev_comp (Φ := RL.run P fd (j + 3)) (i := 4) (k := .seq) (es := [(.call f__law_mixed [(.v 0), (.v 1)])]) (cd := []) (elt := .bin .Mult (.bin .Sub (.v 4) (.v 3)) (.v 2)) (e := [some s2, some (.int m), some (.int f), some (.int d), none]) (e1 := [some s3, some (.int m), some (.int f), some (.int d), none]) (rs := [.tmp (.olst ys)]) (xs := ys) (fun _ => true) (scl f d)
    (by simp [fd, run1, initE, exSs, exS, ev, evR, evT, evX, evXs, evXc, dispM, M.bind, M.ret, M.guard, M.lift, M.fail, takeL, takeR, varM, RL.slotAt, own_nd, own_int, own_str, own_bl, own_non, okPend, touch, touchL, touchR, rootV, varsV, varsL, pureOp, pkLM, pkL, pk, pkM, getP, backA, asgSs, asgS, two, one, ixM, ixEnd, ixD_lst, ixD_tup, childM, childR, SM.of, SM.nx, SM.fail, truthM, truthD, tmpM, ifM, RL.andM, RL.orM, RL.andV, RL.orV, boolM, asBl, cmp2, cmpD, bin2, binD, mulOk, neg1, not1, putM, RL.putAt, RL.setP, setD, setL1, tmpOf, bltD, lenD, bmM, bmD, isLst, smallI, setTg, absD, intD, ltD, leD, gtD, isD, isNone, tyD, isTab, isD', callM, comeBack, tgL, eqD_int, eqD_str, eqD_bl, eqD_non, itM, apart, rfRoots, itD, y1, hso2, hso3, py]) (by rw [y2.length_eq, rangeL_len]; simp [lim]; omega) (by simp) (fun y hy => by
      obtain ⟨i, _, rfl⟩ := ymem y hy
      rfl) (fun y hy => by simp [fd, run1, initE, exSs, exS, ev, evR, evT, evX, evXs, evXc, dispM, M.bind, M.ret, M.guard, M.lift, M.fail, takeL, takeR, varM, RL.slotAt, own_nd, own_int, own_str, own_bl, own_non, okPend, touch, touchL, touchR, rootV, varsV, varsL, pureOp, pkLM, pkL, pk, pkM, getP, backA, asgSs, asgS, two, one, ixM, ixEnd, ixD_lst, ixD_tup, childM, childR, SM.of, SM.nx, SM.fail, truthM, truthD, tmpM, ifM, RL.andM, RL.orM, RL.andV, RL.orV, boolM, asBl, cmp2, cmpD, bin2, binD, mulOk, neg1, not1, putM, RL.putAt, RL.setP, setD, setL1, tmpOf, bltD, lenD, bmM, bmD, isLst, smallI, setTg, absD, intD, ltD, leD, gtD, isD, isNone, tyD, isTab, isD', callM, comeBack, tgL, eqD_int, eqD_str, eqD_bl, eqD_non]) (fun y hy _ => by
      obtain ⟨i, hi, rfl⟩ := ymem y hy
      have c1 : (-18446744073709551616 : Int) < i - d := by omega
      have c2 : (i : Int) - d < 18446744073709551616 := by omega
      simp [fd, run1, initE, exSs, exS, ev, evR, evT, evX, evXs, evXc, dispM, M.bind, M.ret, M.guard, M.lift, M.fail, takeL, takeR, varM, RL.slotAt, own_nd, own_int, own_str, own_bl, own_non, okPend, touch, touchL, touchR, rootV, varsV, varsL, pureOp, pkLM, pkL, pk, pkM, getP, backA, asgSs, asgS, two, one, ixM, ixEnd, ixD_lst, ixD_tup, childM, childR, SM.of, SM.nx, SM.fail, truthM, truthD, tmpM, ifM, RL.andM, RL.orM, RL.andV, RL.orV, boolM, asBl, cmp2, cmpD, bin2, binD, mulOk, neg1, not1, putM, RL.putAt, RL.setP, setD, setL1, tmpOf, bltD, lenD, bmM, bmD, isLst, smallI, setTg, absD, intD, ltD, leD, gtD, isD, isNone, tyD, isTab, isD', callM, comeBack, tgL, eqD_int, eqD_str, eqD_bl, eqD_non, scl, c1, c2])
  rw [show (List.filter (fun _ => true) ys) = ys by simp] at q
  have e1 : ys.map (scl f d) = iL (ys.map fun y => (unI y - d) * f) := by
    rw [iL, List.map_map]
    refine List.map_congr_left fun y hy => ?_
    obtain ⟨i, _, rfl⟩ := ymem y hy
    rfl
  rw [e1] at q
  refine ⟨ys.map fun y => (unI y - d) * f, s3, ?_, ?_, ?_, y3⟩
  · refine run_rt (d := t__law_numbers) (ds := [s, .int m]) (e := [some s3, some (.int m), some (.int f), some (.int d), none]) rfl rfl (by decide) ?_
    show exSs P (RL.run P fd (j + 3)) b__law_numbers _ = _
    refine st_nx (e' := [some s1, some (.int m), some (.int f), none, none]) ?_ ?_
    · simp at f1
      have l5 : 5 ≤ lim := by decide
      simp [fd, run1, initE, exSs, exS, ev, evR, evT, evX, evXs, evXc, dispM, M.bind, M.ret, M.guard, M.lift, M.fail, takeL, takeR, varM, RL.slotAt, own_nd, own_int, own_str, own_bl, own_non, okPend, touch, touchL, touchR, rootV, varsV, varsL, pureOp, pkLM, pkL, pk, pkM, getP, backA, asgSs, asgS, two, one, ixM, ixEnd, ixD_lst, ixD_tup, childM, childR, SM.of, SM.nx, SM.fail, truthM, truthD, tmpM, ifM, RL.andM, RL.orM, RL.andV, RL.orV, boolM, asBl, cmp2, cmpD, bin2, binD, mulOk, neg1, not1, putM, RL.putAt, RL.setP, setD, setL1, tmpOf, bltD, lenD, bmM, bmD, isLst, smallI, setTg, absD, intD, ltD, leD, gtD, isD, isNone, tyD, isTab, isD', callM, comeBack, tgL, eqD_int, eqD_str, eqD_bl, eqD_non, t__law_numbers, f1, hso, hso1, fzL, fz, l5]
    refine st_nx (e' := [some s2, some (.int m), some (.int f), some (.int d), none]) (by simp [fd, run1, initE, exSs, exS, ev, evR, evT, evX, evXs, evXc, dispM, M.bind, M.ret, M.guard, M.lift, M.fail, takeL, takeR, varM, RL.slotAt, own_nd, own_int, own_str, own_bl, own_non, okPend, touch, touchL, touchR, rootV, varsV, varsL, pureOp, pkLM, pkL, pk, pkM, getP, backA, asgSs, asgS, two, one, ixM, ixEnd, ixD_lst, ixD_tup, childM, childR, SM.of, SM.nx, SM.fail, truthM, truthD, tmpM, ifM, RL.andM, RL.orM, RL.andV, RL.orV, boolM, asBl, cmp2, cmpD, bin2, binD, mulOk, neg1, not1, putM, RL.putAt, RL.setP, setD, setL1, tmpOf, bltD, lenD, bmM, bmD, isLst, smallI, setTg, absD, intD, ltD, leD, gtD, isD, isNone, tyD, isTab, isD', callM, comeBack, tgL, eqD_int, eqD_str, eqD_bl, eqD_non, n1, hso1, hso2]) ?_
    refine st_rt ?_
    simp [backD] at q
    simp [fd, run1, initE, exSs, exS, ev, evR, evT, e1_c, e2_c, e1_g, e2_g, e1_v, e2_v, e1_bin, e2_bin, e1_neg, e2_neg, e1_cmp, e2_cmp, e1_chain, e2_chain, e1_and, e2_and, e1_or, e2_or, e1_not, e2_not, e1_ife, e2_ife, e1_ix, e2_ix, e1_sl, e2_sl, e1_tup, e2_tup, e1_lst, e2_lst, e1_dic0, e2_dic0, e1_call, e2_call, e1_blt, e2_blt, e1_bm, e2_bm, e1_frz, e2_frz, e1_view, e2_view, evXs, evXc, dispM, M.bind, M.ret, M.guard, M.lift, M.fail, takeL, takeR, varM, RL.slotAt, own_nd, own_int, own_str, own_bl, own_non, okPend, touch, touchL, touchR, rootV, varsV, varsL, pureOp, pkLM, pkL, pk, pkM, getP, backA, asgSs, asgS, two, one, ixM, ixEnd, ixD_lst, ixD_tup, childM, childR, SM.of, SM.nx, SM.fail, truthM, truthD, tmpM, ifM, RL.andM, RL.orM, RL.andV, RL.orV, boolM, asBl, cmp2, cmpD, bin2, binD, mulOk, neg1, not1, putM, RL.putAt, RL.setP, setD, setL1, tmpOf, bltD, lenD, bmM, bmD, isLst, smallI, setTg, absD, intD, ltD, leD, gtD, isD, isNone, tyD, isTab, isD', callM, comeBack, tgL, eqD_int, eqD_str, eqD_bl, eqD_non, q]
  · have h1 : (ys.map fun y => (unI y - d) * f).Perm ((rangeL 0 m.toNat).map fun y => (unI y - d) * f) := y2.map _
    rw [h1.nodup_iff, rangeL_iL, List.map_map, List.map_map]
    refine List.Pairwise.map _ (fun a b hab => ?_) List.nodup_range
    intro hab2
    simp only [Function.comp, unI] at hab2
    have := Int.eq_of_mul_eq_mul_right hf hab2
    omega
  · rw [List.length_map, y2.length_eq, rangeL_len]
/-! ### the lengths -/
theorem first_loop {Φ : Hd'} (ts : List Int) (x : Int) (n : Nat) (hn : n ≤ ts.length) (hi : ts.length ≤ 100000) (h : ∀ j, (∃ v, ts[j]? = some v ∧ x < v) ↔ j < n) : ∀ (N : Nat) (lo hi : Nat) (x4 : Option D), hi - lo < N → lo ≤ n → n ≤ hi → hi ≤ ts.length →
    ∃ x4', whileL (evT P Φ (.cmp .Lt (.v 2) (.v 3))) (exSs P Φ [.asg 4 (.bin .FloorDiv (.bin .Add (.v 2) (.v 3)) (.c (.int 2))), .ife (.cmp .Gt (.ix (.v 0) (.v 4)) (.v 1)) [.asg 2 (.bin .Add (.v 4) (.c (.int 1)))] [.asg 3 (.v 4)]]) N [some (.lst (iL ts)), some (.int x), some (.int lo), some (.int hi), x4] = some (.nx, [some (.lst (iL ts)), some (.int x), some (.int n), some (.int n), x4'])
  | 0, lo, hi, x4, h1, _, _, _ => by omega
  | N + 1, lo, hi, x4, h1, h2, h3, h4 => by
    unfold whileL
    by_cases hl : lo < hi
    · have c : evT P Φ (.cmp .Lt (.v 2) (.v 3)) [some (.lst (iL ts)), some (.int x), some (.int lo), some (.int hi), x4] = some (.ok true, [some (.lst (iL ts)), some (.int x), some (.int lo), some (.int hi), x4]) := by simp [fd, run1, initE, exSs, exS, ev, evR, evT, evX, evXs, evXc, dispM, M.bind, M.ret, M.guard, M.lift, M.fail, takeL, takeR, varM, RL.slotAt, own_nd, own_int, own_str, own_bl, own_non, okPend, touch, touchL, touchR, rootV, varsV, varsL, pureOp, pkLM, pkL, pk, pkM, getP, backA, asgSs, asgS, two, one, ixM, ixEnd, ixD_lst, ixD_tup, childM, childR, SM.of, SM.nx, SM.fail, truthM, truthD, tmpM, ifM, RL.andM, RL.orM, RL.andV, RL.orV, boolM, asBl, cmp2, cmpD, bin2, binD, mulOk, neg1, not1, putM, RL.putAt, RL.setP, setD, setL1, tmpOf, bltD, lenD, bmM, bmD, isLst, smallI, setTg, absD, intD, ltD, leD, gtD, isD, isNone, tyD, isTab, isD', callM, comeBack, tgL, eqD_int, eqD_str, eqD_bl, eqD_non, hl]
      rw [c]
      dsimp only
      obtain ⟨md, hmd, hm1, hm2⟩ : ∃ md : Nat, ((lo : Int) + hi) / 2 = md ∧ lo ≤ md ∧ md < hi := ⟨(lo + hi) / 2, by omega, by omega, by omega⟩
      have e1 : L2.ixN ts.length (md : Int) = some md := by unfold L2.ixN; rw [if_pos (by omega), if_pos (by omega)]; rfl
      have hml : md < ts.length := by omega
      have e2 : ts[md]? = some ts[md] := List.getElem?_eq_getElem hml
      by_cases hx : x < ts[md]
      · have b : exSs P Φ [.asg 4 (.bin .FloorDiv (.bin .Add (.v 2) (.v 3)) (.c (.int 2))), .ife (.cmp .Gt (.ix (.v 0) (.v 4)) (.v 1)) [.asg 2 (.bin .Add (.v 4) (.c (.int 1)))] [.asg 3 (.v 4)]] [some (.lst (iL ts)), some (.int x), some (.int lo), some (.int hi), x4] = some (.nx, [some (.lst (iL ts)), some (.int x), some (.int (md + 1 : Nat)), some (.int hi), some (.int md)]) := by
          simp [fd, run1, initE, exSs, exS, ev, evR, evT, evX, evXs, evXc, dispM, M.bind, M.ret, M.guard, M.lift, M.fail, takeL, takeR, varM, RL.slotAt, own_nd, own_int, own_str, own_bl, own_non, okPend, touch, touchL, touchR, rootV, varsV, varsL, pureOp, pkLM, pkL, pk, pkM, getP, backA, asgSs, asgS, two, one, ixM, ixEnd, ixD_lst, ixD_tup, childM, childR, SM.of, SM.nx, SM.fail, truthM, truthD, tmpM, ifM, RL.andM, RL.orM, RL.andV, RL.orV, boolM, asBl, cmp2, cmpD, bin2, binD, mulOk, neg1, not1, putM, RL.putAt, RL.setP, setD, setL1, tmpOf, bltD, lenD, bmM, bmD, isLst, smallI, setTg, absD, intD, ltD, leD, gtD, isD, isNone, tyD, isTab, isD', callM, comeBack, tgL, eqD_int, eqD_str, eqD_bl, eqD_non, hmd, e1, hml, hx]
        rw [b]
        have := (h md).mp ⟨_, e2, hx⟩
        exact first_loop ts x n hn ‹_› h N (md + 1) hi _ (by omega) (by omega) h3 h4
      · have b : exSs P Φ [.asg 4 (.bin .FloorDiv (.bin .Add (.v 2) (.v 3)) (.c (.int 2))), .ife (.cmp .Gt (.ix (.v 0) (.v 4)) (.v 1)) [.asg 2 (.bin .Add (.v 4) (.c (.int 1)))] [.asg 3 (.v 4)]] [some (.lst (iL ts)), some (.int x), some (.int lo), some (.int hi), x4] = some (.nx, [some (.lst (iL ts)), some (.int x), some (.int lo), some (.int md), some (.int md)]) := by
          simp [fd, run1, initE, exSs, exS, ev, evR, evT, evX, evXs, evXc, dispM, M.bind, M.ret, M.guard, M.lift, M.fail, takeL, takeR, varM, RL.slotAt, own_nd, own_int, own_str, own_bl, own_non, okPend, touch, touchL, touchR, rootV, varsV, varsL, pureOp, pkLM, pkL, pk, pkM, getP, backA, asgSs, asgS, two, one, ixM, ixEnd, ixD_lst, ixD_tup, childM, childR, SM.of, SM.nx, SM.fail, truthM, truthD, tmpM, ifM, RL.andM, RL.orM, RL.andV, RL.orV, boolM, asBl, cmp2, cmpD, bin2, binD, mulOk, neg1, not1, putM, RL.putAt, RL.setP, setD, setL1, tmpOf, bltD, lenD, bmM, bmD, isLst, smallI, setTg, absD, intD, ltD, leD, gtD, isD, isNone, tyD, isTab, isD', callM, comeBack, tgL, eqD_int, eqD_str, eqD_bl, eqD_non, hmd, e1, hml, hx]
        rw [b]
        have : ¬ md < n := fun z => by
          obtain ⟨v, ev, hv⟩ := (h md).mpr z
          rw [e2] at ev
          cases ev
          exact hx hv
        exact first_loop ts x n hn ‹_› h N lo md _ (by omega) h2 (by omega) (by omega)
    · have c : evT P Φ (.cmp .Lt (.v 2) (.v 3)) [some (.lst (iL ts)), some (.int x), some (.int lo), some (.int hi), x4] = some (.ok false, [some (.lst (iL ts)), some (.int x), some (.int lo), some (.int hi), x4]) := by simp [fd, run1, initE, exSs, exS, ev, evR, evT, evX, evXs, evXc, dispM, M.bind, M.ret, M.guard, M.lift, M.fail, takeL, takeR, varM, RL.slotAt, own_nd, own_int, own_str, own_bl, own_non, okPend, touch, touchL, touchR, rootV, varsV, varsL, pureOp, pkLM, pkL, pk, pkM, getP, backA, asgSs, asgS, two, one, ixM, ixEnd, ixD_lst, ixD_tup, childM, childR, SM.of, SM.nx, SM.fail, truthM, truthD, tmpM, ifM, RL.andM, RL.orM, RL.andV, RL.orV, boolM, asBl, cmp2, cmpD, bin2, binD, mulOk, neg1, not1, putM, RL.putAt, RL.setP, setD, setL1, tmpOf, bltD, lenD, bmM, bmD, isLst, smallI, setTg, absD, intD, ltD, leD, gtD, isD, isNone, tyD, isTab, isD', callM, comeBack, tgL, eqD_int, eqD_str, eqD_bl, eqD_non, hl]
      rw [c]
      have e1 : lo = n := by omega
      have e2 : hi = n := by omega
      subst e1; subst e2
      exact ⟨x4, rfl⟩
theorem first_ok (ts : List Int) (x : Int) (n : Nat) (hi : ts.length ≤ 100000) (h : ∀ j, (∃ v, ts[j]? = some v ∧ x < v) ↔ j < n) (j : Nat) : ∃ e, RL.run P fd (j + 1) f_first_not_greater [.lst (iL ts), .int x] = some (.ok (.int n), e) := by
  have hn : n ≤ ts.length := by
    cases n with
    | zero => omega
    | succ n =>
      obtain ⟨v, e, _⟩ := (h n).mpr (by omega)
      have := (List.getElem?_eq_some_iff.mp e).1
      omega
  obtain ⟨x4, q⟩ := first_loop (Φ := RL.run P fd j) ts x n hn hi h wlim 0 ts.length none (by simp [wlim]; omega) (by omega) hn (by omega)
  refine ⟨_, run_rt (d := t_first_not_greater) (ds := [.lst (iL ts), .int x]) (e := [some (.lst (iL ts)), some (.int x), some (.int n), some (.int n), x4]) rfl rfl (by decide) ?_⟩
  show exSs P (RL.run P fd j) b_first_not_greater _ = _
  refine st_nx (e' := [some (.lst (iL ts)), some (.int x), some (.int (0 : Nat)), some (.int ts.length), none]) (by simp [fd, run1, initE, exSs, exS, ev, evR, evT, evX, evXs, evXc, dispM, M.bind, M.ret, M.guard, M.lift, M.fail, takeL, takeR, varM, RL.slotAt, own_nd, own_int, own_str, own_bl, own_non, okPend, touch, touchL, touchR, rootV, varsV, varsL, pureOp, pkLM, pkL, pk, pkM, getP, backA, asgSs, asgS, two, one, ixM, ixEnd, ixD_lst, ixD_tup, childM, childR, SM.of, SM.nx, SM.fail, truthM, truthD, tmpM, ifM, RL.andM, RL.orM, RL.andV, RL.orV, boolM, asBl, cmp2, cmpD, bin2, binD, mulOk, neg1, not1, putM, RL.putAt, RL.setP, setD, setL1, tmpOf, bltD, lenD, bmM, bmD, isLst, smallI, setTg, absD, intD, ltD, leD, gtD, isD, isNone, tyD, isTab, isD', callM, comeBack, tgL, eqD_int, eqD_str, eqD_bl, eqD_non, t_first_not_greater]) ?_
  refine st_nx (e' := [some (.lst (iL ts)), some (.int x), some (.int n), some (.int n), x4]) ?_ ?_
  · unfold exS
    exact q
  · refine st_rt ?_
    simp [fd, run1, initE, exSs, exS, ev, evR, evT, evX, evXs, evXc, dispM, M.bind, M.ret, M.guard, M.lift, M.fail, takeL, takeR, varM, RL.slotAt, own_nd, own_int, own_str, own_bl, own_non, okPend, touch, touchL, touchR, rootV, varsV, varsL, pureOp, pkLM, pkL, pk, pkM, getP, backA, asgSs, asgS, two, one, ixM, ixEnd, ixD_lst, ixD_tup, childM, childR, SM.of, SM.nx, SM.fail, truthM, truthD, tmpM, ifM, RL.andM, RL.orM, RL.andV, RL.orV, boolM, asBl, cmp2, cmpD, bin2, binD, mulOk, neg1, not1, putM, RL.putAt, RL.setP, setD, setL1, tmpOf, bltD, lenD, bmM, bmD, isLst, smallI, setTg, absD, intD, ltD, leD, gtD, isD, isNone, tyD, isTab, isD', callM, comeBack, tgL, eqD_int, eqD_str, eqD_bl, eqD_non]
end K65
set_option Elab.async false
set_option linter.all false
set_option maxRecDepth 100000
set_option maxHeartbeats 1000000
set_option exponentiation.threshold 2000
/-! k65, the plain law: the text's own row. -/
namespace K65
open PySem RL
theorem rangeDown_at : ∀ (n : Nat) (a : Int) (i : Nat) (x : D), (rangeDown a n)[i]? = some x → i < n ∧ x = .int (a - i)
  | 0, a, i, x, h => by simp [rangeDown] at h
  | n + 1, a, 0, x, h => by
    have : D.int a = x := by simpa [rangeDown] using h
    subst this; simp
  | n + 1, a, i + 1, x, h => by
    obtain ⟨h1, h2⟩ := rangeDown_at n (a - 1) i x (by simpa [rangeDown] using h)
    refine ⟨by omega, ?_⟩
    rw [h2]
    congr 1
    omega
theorem rangeDown_len : ∀ (n : Nat) (a : Int), (rangeDown a n).length = n
  | 0, _ => rfl
  | n + 1, a => by simp [rangeDown, rangeDown_len n]
abbrev nL (ns : List Nat) : List D := ns.map fun (n : Nat) => D.int n
theorem pat_len (xs : List Int) : (pat xs).1.length ≤ xs.length := by
  induction xs with
  | nil => simp [pat]
  | cons x xs ih =>
    simp only [pat]
    split <;> simp <;> omega
def lenB : List St' := [.asg 4 (.view f_first_not_greater [(.v 2), (.ix (.v 0) (.v 3))]), .ife (.cmp .Eq (.v 4) (.blt .len [(.v 2)])) [.exp (.bm .append (.v 2) [(.ix (.v 0) (.v 3))])] [.sub false (.v 2) (.v 4) (.ix (.v 0) (.v 3))], .sub false (.v 1) (.v 3) (.bin .Add (.v 4) (.c (.int 1)))]
theorem lengths_ok (ns : List Int) (hn : ns.length ≤ 1000) (j : Nat) : RL.run P fd (j + 2) f_lengths_from [.olst (iL ns)] = some (.ok (.olst (nL (lis ns))), [some (.olst (iL ns))]) := by
  let I : Nat → Env' → Prop := fun i e => ∃ x3 x4, e = [some (.olst (iL ns)), some (.olst (nL (List.replicate (ns.length - i) 0 ++ lis (ns.drop (ns.length - i))))), some (.olst (iL (pat (ns.drop (ns.length - i))).1)), x3, x4]
  obtain ⟨e', f1, x3, x4, rfl⟩ := forL_inv (set := setTg (.nm 3)) (body := exSs P (RL.run P fd (j + 1)) lenB) I (rangeDown (ns.length - 1) ns.length) [some (.olst (iL ns)), some (.olst (nL (List.replicate ns.length 0))), some (.olst []), none, none] 0
    ⟨none, none, by simp [lis, pat]⟩ (fun i x e hx hI => by
      obtain ⟨x3, x4, rfl⟩ := hI
      obtain ⟨hi, rfl⟩ := rangeDown_at _ _ _ _ hx
      obtain ⟨a, ha, ha2⟩ : ∃ a : Nat, ns.length - (0 + i) = a + 1 ∧ ns.length - (0 + i + 1) = a := ⟨ns.length - 1 - i, by omega, by omega⟩
      have han : a < ns.length := by omega
      rw [show ((ns.length : Int) - 1 - i) = (a : Int) by omega, ha]
      have ed : ns.drop a = ns[a] :: ns.drop (a + 1) := List.drop_eq_getElem_cons han
      obtain ⟨p1, p2⟩ := pat_lis (ns.drop (a + 1))
      have hp : place (pat (ns.drop (a + 1))).1 ns[a] = best (some ns[a]) (ns.drop (a + 1)) := place_of (p2 ns[a])
      obtain ⟨e1, q1⟩ := first_ok (pat (ns.drop (a + 1))).1 ns[a] (place (pat (ns.drop (a + 1))).1 ns[a]) (by have := pat_len (ns.drop (a + 1)); simp at this; omega) (fun j => by rw [hp]; exact p2 ns[a] j) j
      have hle : place (pat (ns.drop (a + 1))).1 ns[a] ≤ (pat (ns.drop (a + 1))).1.length := List.findIdx_le_length
      have hpl : (pat (ns.drop (a + 1))).1.length ≤ 1000 := by have := pat_len (ns.drop (a + 1)); simp at this; omega
      have hlis : lis (ns.drop a) = (place (pat (ns.drop (a + 1))).1 ns[a] + 1) :: lis (ns.drop (a + 1)) := by rw [ed, lis, hp]
      have hpat : (pat (ns.drop a)).1 = if place (pat (ns.drop (a + 1))).1 ns[a] = (pat (ns.drop (a + 1))).1.length then (pat (ns.drop (a + 1))).1 ++ [ns[a]] else (pat (ns.drop (a + 1))).1.set (place (pat (ns.drop (a + 1))).1 ns[a]) ns[a] := by rw [ed, pat]
      have hll : (lis (ns.drop (a + 1))).length = ns.length - (a + 1) := by rw [lis_len, List.length_drop]
      generalize pat (ns.drop (a + 1)) = pt at *
      generalize hpp : place pt.1 ns[a] = pl at *
      have ix1 : L2.ixN ns.length (a : Int) = some a := by unfold L2.ixN; rw [if_pos (by omega), if_pos (by omega)]; rfl
      have ix2 : L2.ixN (a + 1 + (ns.length - (a + 1))) (a : Int) = some a := by unfold L2.ixN; rw [if_pos (by omega), if_pos (by omega)]; rfl
      have gl : ns[a]? = some ns[a] := List.getElem?_eq_getElem han
      have hset : (nL (List.replicate (a + 1) 0 ++ lis (ns.drop (a + 1)))).set a (.int ((pl : Int) + 1)) = nL (List.replicate a 0 ++ lis (ns.drop a)) := by
        have : (D.int ((pl : Int) + 1)) = D.int ((pl + 1 : Nat) : Int) := by simp
        rw [this, nL, ← List.map_set, List.replicate_succ', List.append_assoc, List.set_append_right _ _ (by simp), hlis]
        simp
      have h1 : pl < 1000000 := by omega
      have h2 : pt.1.length < lim := by simp [lim]; omega
      have fzp : fzL (pt.1.map D.int) = pt.1.map D.int := iL_fz pt.1
      refine ⟨_, [some (.olst (iL ns)), some (.olst (nL (List.replicate a 0 ++ lis (ns.drop a)))), some (.olst (iL (pat (ns.drop a)).1)), some (.int a), some (.int pl)], rfl, ?_, some (.int a), some (.int pl), by rw [ha2]⟩
      refine st_nx (e' := [some (.olst (iL ns)), some (.olst (nL (List.replicate (a + 1) 0 ++ lis (ns.drop (a + 1))))), some (.olst (iL pt.1)), some (.int a), some (.int pl)]) ?_ ?_
      · simp [fd, run1, initE, exSs, exS, ev, evR, evT, evX, evXs, evXc, dispM, M.bind, M.ret, M.guard, M.lift, M.fail, takeL, takeR, varM, RL.slotAt, own_nd, own_int, own_str, own_bl, own_non, okPend, touch, touchL, touchR, rootV, varsV, varsL, pureOp, pkLM, pkL, pk, pkM, getP, backA, asgSs, asgS, two, one, ixM, ixEnd, ixD_lst, ixD_tup, childM, childR, SM.of, SM.nx, SM.fail, truthM, truthD, tmpM, ifM, RL.andM, RL.orM, RL.andV, RL.orV, boolM, asBl, cmp2, cmpD, bin2, binD, mulOk, neg1, not1, putM, RL.putAt, RL.setP, setD, setL1, tmpOf, bltD, lenD, bmM, bmD, isLst, smallI, setTg, absD, intD, ltD, leD, gtD, isD, isNone, tyD, isTab, isD', callM, comeBack, tgL, eqD_int, eqD_str, eqD_bl, eqD_non, viewD, flatD, fzL, fz, fzp, ix1, gl, q1]
      refine st_nx (e' := [some (.olst (iL ns)), some (.olst (nL (List.replicate (a + 1) 0 ++ lis (ns.drop (a + 1))))), some (.olst (iL (pat (ns.drop a)).1)), some (.int a), some (.int pl)]) ?_ ?_
      · rw [hpat]
        by_cases hc : pl = pt.1.length
        · simp [fd, run1, initE, exSs, exS, ev, evR, evT, evX, evXs, evXc, dispM, M.bind, M.ret, M.guard, M.lift, M.fail, takeL, takeR, varM, RL.slotAt, own_nd, own_int, own_str, own_bl, own_non, okPend, touch, touchL, touchR, rootV, varsV, varsL, pureOp, pkLM, pkL, pk, pkM, getP, backA, asgSs, asgS, two, one, ixM, ixEnd, ixD_lst, ixD_tup, childM, childR, SM.of, SM.nx, SM.fail, truthM, truthD, tmpM, ifM, RL.andM, RL.orM, RL.andV, RL.orV, boolM, asBl, cmp2, cmpD, bin2, binD, mulOk, neg1, not1, putM, RL.putAt, RL.setP, setD, setL1, tmpOf, bltD, lenD, bmM, bmD, isLst, smallI, setTg, absD, intD, ltD, leD, gtD, isD, isNone, tyD, isTab, isD', callM, comeBack, tgL, eqD_int, eqD_str, eqD_bl, eqD_non, hc, ix1, gl, h2]
        · have ix3 : L2.ixN pt.1.length (pl : Int) = some pl := by unfold L2.ixN; rw [if_pos (by omega), if_pos (by omega)]; rfl
          have hc2 : ¬ (pl : Int) = pt.1.length := by omega
          simp [fd, run1, initE, exSs, exS, ev, evR, evT, evX, evXs, evXc, dispM, M.bind, M.ret, M.guard, M.lift, M.fail, takeL, takeR, varM, RL.slotAt, own_nd, own_int, own_str, own_bl, own_non, okPend, touch, touchL, touchR, rootV, varsV, varsL, pureOp, pkLM, pkL, pk, pkM, getP, backA, asgSs, asgS, two, one, ixM, ixEnd, ixD_lst, ixD_tup, childM, childR, SM.of, SM.nx, SM.fail, truthM, truthD, tmpM, ifM, RL.andM, RL.orM, RL.andV, RL.orV, boolM, asBl, cmp2, cmpD, bin2, binD, mulOk, neg1, not1, putM, RL.putAt, RL.setP, setD, setL1, tmpOf, bltD, lenD, bmM, bmD, isLst, smallI, setTg, absD, intD, ltD, leD, gtD, isD, isNone, tyD, isTab, isD', callM, comeBack, tgL, eqD_int, eqD_str, eqD_bl, eqD_non, hc, hc2, ix1, gl, ix3]
      refine st_nx ?_ st_nil
      rw [← hset]
      simp [fd, run1, initE, exSs, exS, ev, evR, evT, evX, evXs, evXc, dispM, M.bind, M.ret, M.guard, M.lift, M.fail, takeL, takeR, varM, RL.slotAt, own_nd, own_int, own_str, own_bl, own_non, okPend, touch, touchL, touchR, rootV, varsV, varsL, pureOp, pkLM, pkL, pk, pkM, getP, backA, asgSs, asgS, two, one, ixM, ixEnd, ixD_lst, ixD_tup, childM, childR, SM.of, SM.nx, SM.fail, truthM, truthD, tmpM, ifM, RL.andM, RL.orM, RL.andV, RL.orV, boolM, asBl, cmp2, cmpD, bin2, binD, mulOk, neg1, not1, putM, RL.putAt, RL.setP, setD, setL1, tmpOf, bltD, lenD, bmM, bmD, isLst, smallI, setTg, absD, intD, ltD, leD, gtD, isD, isNone, tyD, isTab, isD', callM, comeBack, tgL, eqD_int, eqD_str, eqD_bl, eqD_non, hll, ix2])
  have b1 : -1000000 ≤ (ns.length : Int) - 1 := by omega
  have b2 : (ns.length : Int) - 1 ≤ 1000000 := by omega
  have l1 : ns.length ≤ lim := by simp [lim]; omega
  rw [Nat.zero_add, rangeDown_len, Nat.sub_self] at f1
  refine run_rt (d := t_lengths_from) (ds := [.olst (iL ns)]) (e := [some (.olst (iL ns)), none, some (.olst (iL (pat ns).1)), x3, x4]) rfl rfl (by decide) ?_
  show exSs P (RL.run P fd (j + 1)) b_lengths_from _ = _
  refine st_nx (e' := [some (.olst (iL ns)), some (.olst (nL (List.replicate ns.length 0))), none, none, none]) ?_ ?_
  · have l2 : (1 : Nat) ≤ lim := by decide
    have b3 : (ns.length : Int) ≤ 1000000 := by omega
    have b4 : -1000000 ≤ (ns.length : Int) := by omega
    simp [fd, run1, initE, exSs, exS, ev, evR, evT, evX, evXs, evXc, dispM, M.bind, M.ret, M.guard, M.lift, M.fail, takeL, takeR, varM, RL.slotAt, own_nd, own_int, own_str, own_bl, own_non, okPend, touch, touchL, touchR, rootV, varsV, varsL, pureOp, pkLM, pkL, pk, pkM, getP, backA, asgSs, asgS, two, one, ixM, ixEnd, ixD_lst, ixD_tup, childM, childR, SM.of, SM.nx, SM.fail, truthM, truthD, tmpM, ifM, RL.andM, RL.orM, RL.andV, RL.orV, boolM, asBl, cmp2, cmpD, bin2, binD, mulOk, neg1, not1, putM, RL.putAt, RL.setP, setD, setL1, tmpOf, bltD, lenD, bmM, bmD, isLst, smallI, setTg, absD, intD, ltD, leD, gtD, isD, isNone, tyD, isTab, isD', callM, comeBack, tgL, eqD_int, eqD_str, eqD_bl, eqD_non, t_lengths_from, RL.plain, l1, l2, b3, b4]
  refine st_nx (e' := [some (.olst (iL ns)), some (.olst (nL (List.replicate ns.length 0))), some (.olst []), none, none]) (by simp [fd, run1, initE, exSs, exS, ev, evR, evT, evX, evXs, evXc, dispM, M.bind, M.ret, M.guard, M.lift, M.fail, takeL, takeR, varM, RL.slotAt, own_nd, own_int, own_str, own_bl, own_non, okPend, touch, touchL, touchR, rootV, varsV, varsL, pureOp, pkLM, pkL, pk, pkM, getP, backA, asgSs, asgS, two, one, ixM, ixEnd, ixD_lst, ixD_tup, childM, childR, SM.of, SM.nx, SM.fail, truthM, truthD, tmpM, ifM, RL.andM, RL.orM, RL.andV, RL.orV, boolM, asBl, cmp2, cmpD, bin2, binD, mulOk, neg1, not1, putM, RL.putAt, RL.setP, setD, setL1, tmpOf, bltD, lenD, bmM, bmD, isLst, smallI, setTg, absD, intD, ltD, leD, gtD, isD, isNone, tyD, isTab, isD', callM, comeBack, tgL, eqD_int, eqD_str, eqD_bl, eqD_non]) ?_
  refine st_nx (ex_for (rs := [.tmp (.int (ns.length - 1)), .tmp (.int (-1)), .tmp (.int (-1))]) (xs := rangeDown (ns.length - 1) ns.length) (e' := [some (.olst (iL ns)), some (.olst (nL (List.replicate ns.length 0))), some (.olst []), none, none]) ?_ f1) ?_
  · have b5 : ((ns.length : Int) - 1 - -1).toNat = ns.length := by omega
    simp [fd, run1, initE, exSs, exS, ev, evR, evT, evX, evXs, evXc, dispM, M.bind, M.ret, M.guard, M.lift, M.fail, takeL, takeR, varM, RL.slotAt, own_nd, own_int, own_str, own_bl, own_non, okPend, touch, touchL, touchR, rootV, varsV, varsL, pureOp, pkLM, pkL, pk, pkM, getP, backA, asgSs, asgS, two, one, ixM, ixEnd, ixD_lst, ixD_tup, childM, childR, SM.of, SM.nx, SM.fail, truthM, truthD, tmpM, ifM, RL.andM, RL.orM, RL.andV, RL.orV, boolM, asBl, cmp2, cmpD, bin2, binD, mulOk, neg1, not1, putM, RL.putAt, RL.setP, setD, setL1, tmpOf, bltD, lenD, bmM, bmD, isLst, smallI, setTg, absD, intD, ltD, leD, gtD, isD, isNone, tyD, isTab, isD', callM, comeBack, tgL, eqD_int, eqD_str, eqD_bl, eqD_non, itM, apart, rfRoots, itD, b1, b2, b5]
  refine st_rt ?_
  simp [fd, run1, initE, exSs, exS, ev, evR, evT, evX, evXs, evXc, dispM, M.bind, M.ret, M.guard, M.lift, M.fail, takeL, takeR, varM, RL.slotAt, own_nd, own_int, own_str, own_bl, own_non, okPend, touch, touchL, touchR, rootV, varsV, varsL, pureOp, pkLM, pkL, pk, pkM, getP, backA, asgSs, asgS, two, one, ixM, ixEnd, ixD_lst, ixD_tup, childM, childR, SM.of, SM.nx, SM.fail, truthM, truthD, tmpM, ifM, RL.andM, RL.orM, RL.andV, RL.orV, boolM, asBl, cmp2, cmpD, bin2, binD, mulOk, neg1, not1, putM, RL.putAt, RL.setP, setD, setL1, tmpOf, bltD, lenD, bmM, bmD, isLst, smallI, setTg, absD, intD, ltD, leD, gtD, isD, isNone, tyD, isTab, isD', callM, comeBack, tgL, eqD_int, eqD_str, eqD_bl, eqD_non]
end K65
set_option Elab.async false
set_option linter.all false
set_option maxRecDepth 100000
set_option maxHeartbeats 1000000
set_option exponentiation.threshold 2000
/-! k65, the plain law: the greedy walk. -/
namespace K65
open PySem RL
/-- the walk's state before place i -/
def GI (ns : List Int) (i : Nat) (left : Nat) (F : List Int) : Prop := (∀ k ∈ F, 0 ≤ k ∧ k < ns.length) ∧ F.length ≤ i ∧ left ≤ 1000 ∧ F ++ greedy i left (F.getLast?.bind fun k => ns[k.toNat]?) ((ns.zip (lis ns)).drop i) = rising ns
theorem best_le : ∀ (xs : List Int) (l : Option Int), best l xs ≤ xs.length
  | [], _ => Nat.le_refl _
  | x :: xs, l => by
    have h1 := best_le xs (some x)
    have h2 := best_le xs l
    simp only [best, List.length_cons]
    split <;> omega
theorem GI.start (ns : List Int) (hn : ns.length ≤ 1000) : GI ns 0 (best none ns) [] := ⟨by simp, by simp, by have := best_le ns none; omega, rfl⟩
theorem GI.fin {ns : List Int} {left : Nat} {F : List Int} (h : GI ns ns.length left F) : F = rising ns := by
  obtain ⟨_, _, _, h⟩ := h
  rw [List.drop_eq_nil_of_le (by simp [lis_len])] at h
  simpa [greedy] using h
theorem GI.take {ns : List Int} {i left : Nat} {F : List Int} (h : GI ns i left F) (hi : i < ns.length) (hl : (lis ns)[i]'(by rw [lis_len]; exact hi) = left) (h0 : 0 < left) (ho : okL (F.getLast?.bind fun k => ns[k.toNat]?) ns[i] = true) : GI ns (i + 1) (left - 1) (F ++ [(i : Int)]) := by
  obtain ⟨h1, h2, h3, h4⟩ := h
  have hz : i < (ns.zip (lis ns)).length := by simp [lis_len, hi]
  rw [List.drop_eq_getElem_cons hz, List.getElem_zip, hl, greedy, if_pos ⟨rfl, h0, ho⟩] at h4
  refine ⟨fun k hk => ?_, by simp; omega, by omega, ?_⟩
  · rcases List.mem_append.mp hk with hk | hk
    · exact h1 k hk
    · have : k = i := by simpa using hk
      omega
  · have e : ((F ++ [(i : Int)]).getLast?.bind fun k => ns[k.toNat]?) = some ns[i] := by simp [hi]
    rw [e, List.append_assoc]
    exact h4
theorem GI.skip {ns : List Int} {i left : Nat} {F : List Int} (h : GI ns i left F) (hi : i < ns.length) (hc : ¬((lis ns)[i]'(by rw [lis_len]; exact hi) = left ∧ 0 < left ∧ okL (F.getLast?.bind fun k => ns[k.toNat]?) ns[i] = true)) : GI ns (i + 1) left F := by
  obtain ⟨h1, h2, h3, h4⟩ := h
  have hz : i < (ns.zip (lis ns)).length := by simp [lis_len, hi]
  rw [List.drop_eq_getElem_cons hz, List.getElem_zip, greedy, if_neg hc] at h4
  exact ⟨h1, by omega, h3, h4⟩
theorem asInts_nL : ∀ (l : List Nat), asInts (nL l) = some (l.map fun (n : Nat) => (n : Int))
  | [] => rfl
  | n :: l => by
    show (asInt (.int n)).bind (fun k => (asInts (nL l)).map (k :: ·)) = _
    rw [asInts_nL l]; rfl
theorem maxI_nL : ∀ (l : List Nat) (m : Nat), maxI (m : Int) (l.map fun (n : Nat) => (n : Int)) = ((l.foldl max m : Nat) : Int)
  | [], m => rfl
  | n :: l, m => by
    simp only [List.map_cons, maxI, List.foldl_cons]
    rw [← maxI_nL l]
    congr 1
    split <;> omega
theorem maxDflt_nL (l : List Nat) : maxDflt 0 (l.map fun (n : Nat) => (n : Int)) = ((l.foldl max 0 : Nat) : Int) := by
  cases l with
  | nil => rfl
  | cons n l =>
    show maxI (n : Int) _ = _
    rw [maxI_nL]
    simp
theorem max_lis (ns : List Int) : maxDflt 0 ((lis ns).map fun (n : Nat) => (n : Int)) = (best none ns : Int) := by
  rw [maxDflt_nL, fold_max]; simp
theorem enumL_at : ∀ (xs : List D) (a : Int) (i : Nat) (x : D), (enumL a xs)[i]? = some x → ∃ y, xs[i]? = some y ∧ x = .tup [.int (a + i), y]
  | [], a, i, x, h => by simp [enumL] at h
  | d :: xs, a, 0, x, h => by
    simp only [enumL, List.getElem?_cons_zero] at h
    cases h
    exact ⟨d, rfl, by simp⟩
  | d :: xs, a, i + 1, x, h => by
    obtain ⟨y, h1, h2⟩ := enumL_at xs (a + 1) i x (by simpa [enumL] using h)
    refine ⟨y, by simpa using h1, ?_⟩
    rw [h2]
    congr 3; omega
theorem enumL_len : ∀ (xs : List D) (a : Int), (enumL a xs).length = xs.length
  | [], _ => rfl
  | d :: xs, a => by simp [enumL, enumL_len xs]
/-- the last found, as the walk reads it -/
theorem last_of {F ns : List Int} (h : ∀ k ∈ F, 0 ≤ k ∧ k < ns.length) : F = [] ∨ ∃ (k : Nat) (v : Int), L2.ixN F.length (-1) = some (F.length - 1) ∧ F[F.length - 1]? = some (k : Int) ∧ L2.ixN ns.length (k : Int) = some k ∧ ns[k]? = some v ∧ (F.getLast?.bind fun k => ns[k.toNat]?) = some v ∧ F ≠ [] := by
  by_cases hF : F = []
  · exact .inl hF
  · right
    have hp : 0 < F.length := List.length_pos_iff.mpr hF
    obtain ⟨b, hb⟩ : ∃ b, F[F.length - 1]? = some b := ⟨_, List.getElem?_eq_getElem (by omega)⟩
    obtain ⟨h1, h2⟩ := h b (List.mem_of_getElem? hb)
    have hk : b.toNat < ns.length := by omega
    refine ⟨b.toNat, ns[b.toNat], ?_, ?_, ?_, List.getElem?_eq_getElem hk, ?_, hF⟩
    · unfold L2.ixN
      rw [if_neg (by omega), if_pos (by omega)]
      congr 1; omega
    · rw [hb]; congr 1; omega
    · unfold L2.ixN; rw [if_pos (by omega), if_pos (by omega)]; congr 1
    · rw [List.getLast?_eq_getElem?, hb]
      simp [hk]
def risB : List St' := [.ife (.and (.cmp .Eq (.ix (.v 1) (.v 4)) (.v 2)) (.and (.cmp .Gt (.v 2) (.c (.int 0))) (.or (.cmp .Eq (.blt .len [(.v 3)]) (.c (.int 0))) (.cmp .Lt (.ix (.v 0) (.ix (.v 3) (.neg (.c (.int 1))))) (.v 5))))) [.exp (.bm .append (.v 3) [(.v 4)]), .aug 2 .Sub (.c (.int 1))] []]
theorem ris_step {Φ : Hd'} (ns : List Int) (hn : ns.length ≤ 1000) (i left : Nat) (F : List Int) (hi : i < ns.length) (h : GI ns i left F) : ∃ left' F', exSs P Φ risB [some (.olst (iL ns)), some (.olst (nL (lis ns))), some (.int left), some (.olst (iL F)), some (.int i), some (.int ns[i])] = some (.nx, [some (.olst (iL ns)), some (.olst (nL (lis ns))), some (.int (left' : Nat)), some (.olst (iL F')), some (.int i), some (.int ns[i])]) ∧ GI ns (i + 1) left' F' := by
  have ix1 : L2.ixN ns.length (i : Int) = some i := by unfold L2.ixN; rw [if_pos (by omega), if_pos (by omega)]; rfl
  have hil : i < (lis ns).length := by rw [lis_len]; exact hi
  have g1 : (lis ns)[i]? = some (lis ns)[i] := List.getElem?_eq_getElem hil
  have hlen : (lis ns).length = ns.length := lis_len ns
  have hf : F.length < lim := by have := h.2.1; simp [lim]; omega
  by_cases c1 : (lis ns)[i] = left
  · by_cases c2 : 0 < left
    · rcases last_of h.1 with hF | ⟨k, v, f1, f2, f3, f4, f5, f6⟩
      · refine ⟨left - 1, F ++ [(i : Int)], ?_, h.take hi c1 c2 (by rw [hF]; rfl)⟩
        have c2' : (0 : Int) < left := by omega
        have e : ((left - 1 : Nat) : Int) = (left : Int) - 1 := by omega
        have fl : (0 : Nat) < lim := by decide
        rw [e]
        simp [risB, fd, run1, initE, exSs, exS, ev, evR, evT, evX, evXs, evXc, dispM, M.bind, M.ret, M.guard, M.lift, M.fail, takeL, takeR, varM, RL.slotAt, own_nd, own_int, own_str, own_bl, own_non, okPend, touch, touchL, touchR, rootV, varsV, varsL, pureOp, pkLM, pkL, pk, pkM, getP, backA, asgSs, asgS, two, one, ixM, ixEnd, ixD_lst, ixD_tup, childM, childR, SM.of, SM.nx, SM.fail, truthM, truthD, tmpM, ifM, RL.andM, RL.orM, RL.andV, RL.orV, boolM, asBl, cmp2, cmpD, bin2, binD, mulOk, neg1, not1, putM, RL.putAt, RL.setP, setD, setL1, tmpOf, bltD, lenD, bmM, bmD, isLst, smallI, setTg, absD, intD, ltD, leD, gtD, isD, isNone, tyD, isTab, isD', callM, comeBack, tgL, eqD_int, eqD_str, eqD_bl, eqD_non, hlen, ix1, g1, c1, c2, hF, fl, asTI, asInt, augD, augM]
      · by_cases c3 : v < ns[i]
        · refine ⟨left - 1, F ++ [(i : Int)], ?_, h.take hi c1 c2 (by rw [f5]; simpa [okL] using c3)⟩
          have e : ((left - 1 : Nat) : Int) = (left : Int) - 1 := by omega
          rw [e]
          simp [risB, fd, run1, initE, exSs, exS, ev, evR, evT, evX, evXs, evXc, dispM, M.bind, M.ret, M.guard, M.lift, M.fail, takeL, takeR, varM, RL.slotAt, own_nd, own_int, own_str, own_bl, own_non, okPend, touch, touchL, touchR, rootV, varsV, varsL, pureOp, pkLM, pkL, pk, pkM, getP, backA, asgSs, asgS, two, one, ixM, ixEnd, ixD_lst, ixD_tup, childM, childR, SM.of, SM.nx, SM.fail, truthM, truthD, tmpM, ifM, RL.andM, RL.orM, RL.andV, RL.orV, boolM, asBl, cmp2, cmpD, bin2, binD, mulOk, neg1, not1, putM, RL.putAt, RL.setP, setD, setL1, tmpOf, bltD, lenD, bmM, bmD, isLst, smallI, setTg, absD, intD, ltD, leD, gtD, isD, isNone, tyD, isTab, isD', callM, comeBack, tgL, eqD_int, eqD_str, eqD_bl, eqD_non, hlen, ix1, g1, c1, c2, f1, f2, f3, f4, f6, c3, hf, asTI, asInt, augD, augM]
        · refine ⟨left, F, ?_, h.skip hi (by rw [f5]; simpa [okL] using fun _ _ => Int.not_lt.mp c3)⟩
          simp [risB, fd, run1, initE, exSs, exS, ev, evR, evT, evX, evXs, evXc, dispM, M.bind, M.ret, M.guard, M.lift, M.fail, takeL, takeR, varM, RL.slotAt, own_nd, own_int, own_str, own_bl, own_non, okPend, touch, touchL, touchR, rootV, varsV, varsL, pureOp, pkLM, pkL, pk, pkM, getP, backA, asgSs, asgS, two, one, ixM, ixEnd, ixD_lst, ixD_tup, childM, childR, SM.of, SM.nx, SM.fail, truthM, truthD, tmpM, ifM, RL.andM, RL.orM, RL.andV, RL.orV, boolM, asBl, cmp2, cmpD, bin2, binD, mulOk, neg1, not1, putM, RL.putAt, RL.setP, setD, setL1, tmpOf, bltD, lenD, bmM, bmD, isLst, smallI, setTg, absD, intD, ltD, leD, gtD, isD, isNone, tyD, isTab, isD', callM, comeBack, tgL, eqD_int, eqD_str, eqD_bl, eqD_non, hlen, ix1, g1, c1, c2, f1, f2, f3, f4, f6, c3]
    · refine ⟨left, F, ?_, h.skip hi fun z => c2 z.2.1⟩
      simp [risB, fd, run1, initE, exSs, exS, ev, evR, evT, evX, evXs, evXc, dispM, M.bind, M.ret, M.guard, M.lift, M.fail, takeL, takeR, varM, RL.slotAt, own_nd, own_int, own_str, own_bl, own_non, okPend, touch, touchL, touchR, rootV, varsV, varsL, pureOp, pkLM, pkL, pk, pkM, getP, backA, asgSs, asgS, two, one, ixM, ixEnd, ixD_lst, ixD_tup, childM, childR, SM.of, SM.nx, SM.fail, truthM, truthD, tmpM, ifM, RL.andM, RL.orM, RL.andV, RL.orV, boolM, asBl, cmp2, cmpD, bin2, binD, mulOk, neg1, not1, putM, RL.putAt, RL.setP, setD, setL1, tmpOf, bltD, lenD, bmM, bmD, isLst, smallI, setTg, absD, intD, ltD, leD, gtD, isD, isNone, tyD, isTab, isD', callM, comeBack, tgL, eqD_int, eqD_str, eqD_bl, eqD_non, hlen, ix1, g1, c1, c2]
  · refine ⟨left, F, ?_, h.skip hi fun z => c1 z.1⟩
    have c1' : ¬ ((lis ns)[i] : Int) = left := by omega
    simp [risB, fd, run1, initE, exSs, exS, ev, evR, evT, evX, evXs, evXc, dispM, M.bind, M.ret, M.guard, M.lift, M.fail, takeL, takeR, varM, RL.slotAt, own_nd, own_int, own_str, own_bl, own_non, okPend, touch, touchL, touchR, rootV, varsV, varsL, pureOp, pkLM, pkL, pk, pkM, getP, backA, asgSs, asgS, two, one, ixM, ixEnd, ixD_lst, ixD_tup, childM, childR, SM.of, SM.nx, SM.fail, truthM, truthD, tmpM, ifM, RL.andM, RL.orM, RL.andV, RL.orV, boolM, asBl, cmp2, cmpD, bin2, binD, mulOk, neg1, not1, putM, RL.putAt, RL.setP, setD, setL1, tmpOf, bltD, lenD, bmM, bmD, isLst, smallI, setTg, absD, intD, ltD, leD, gtD, isD, isNone, tyD, isTab, isD', callM, comeBack, tgL, eqD_int, eqD_str, eqD_bl, eqD_non, hlen, ix1, g1, c1, c1']
theorem rising_ok (ns : List Int) (hn : ns.length ≤ 1000) (j : Nat) : RL.run P fd (j + 3) f_rising_places [.olst (iL ns)] = some (.ok (.olst (iL (rising ns))), [some (.olst (iL ns))]) := by
  let I : Nat → Env' → Prop := fun i e => ∃ left F x4 x5, e = [some (.olst (iL ns)), some (.olst (nL (lis ns))), some (.int (left : Nat)), some (.olst (iL F)), x4, x5] ∧ GI ns i left F
  obtain ⟨e', f1, left, F, x4, x5, rfl, f2⟩ := forL_inv (set := setTg (.tp [4, 5])) (body := exSs P (RL.run P fd (j + 2)) risB) I (enumL 0 (iL ns)) [some (.olst (iL ns)), some (.olst (nL (lis ns))), some (.int (best none ns : Nat)), some (.olst []), none, none] 0
    ⟨_, [], none, none, rfl, .start ns hn⟩ (fun i x e hx hI => by
      obtain ⟨left, F, x4, x5, rfl, h⟩ := hI
      obtain ⟨y, hy, rfl⟩ := enumL_at _ _ _ _ hx
      rw [Nat.zero_add] at h ⊢
      rw [List.getElem?_map] at hy
      obtain ⟨v, hv, rfl⟩ := Option.map_eq_some_iff.mp hy
      have hi := (List.getElem?_eq_some_iff.mp hv).1
      have hv2 := (List.getElem?_eq_some_iff.mp hv).2
      obtain ⟨left', F', g1, g2⟩ := ris_step (Φ := RL.run P fd (j + 2)) ns hn i left F hi h
      refine ⟨_, _, ?_, g1, left', F', _, _, rfl, g2⟩
      rw [hv2, show (0 : Int) + i = i by omega]
      rfl)
  rw [Nat.zero_add, enumL_len, List.length_map] at f2
  have hF := f2.fin
  subst hF
  refine run_rt (d := t_rising_places) (ds := [.olst (iL ns)]) (e := [some (.olst (iL ns)), some (.olst (nL (lis ns))), some (.int left), none, x4, x5]) rfl rfl (by decide) ?_
  show exSs P (RL.run P fd (j + 2)) b_rising_places _ = _
  refine st_nx (e' := [some (.olst (iL ns)), some (.olst (nL (lis ns))), none, none, none, none]) (by simp [fd, run1, initE, exSs, exS, ev, evR, evT, evX, evXs, evXc, dispM, M.bind, M.ret, M.guard, M.lift, M.fail, takeL, takeR, varM, RL.slotAt, own_nd, own_int, own_str, own_bl, own_non, okPend, touch, touchL, touchR, rootV, varsV, varsL, pureOp, pkLM, pkL, pk, pkM, getP, backA, asgSs, asgS, two, one, ixM, ixEnd, ixD_lst, ixD_tup, childM, childR, SM.of, SM.nx, SM.fail, truthM, truthD, tmpM, ifM, RL.andM, RL.orM, RL.andV, RL.orV, boolM, asBl, cmp2, cmpD, bin2, binD, mulOk, neg1, not1, putM, RL.putAt, RL.setP, setD, setL1, tmpOf, bltD, lenD, bmM, bmD, isLst, smallI, setTg, absD, intD, ltD, leD, gtD, isD, isNone, tyD, isTab, isD', callM, comeBack, tgL, eqD_int, eqD_str, eqD_bl, eqD_non, t_rising_places, lengths_ok ns hn j]) ?_
  refine st_nx (e' := [some (.olst (iL ns)), some (.olst (nL (lis ns))), some (.int (best none ns : Nat)), none, none, none]) (by simp [fd, run1, initE, exSs, exS, ev, evR, evT, evX, evXs, evXc, dispM, M.bind, M.ret, M.guard, M.lift, M.fail, takeL, takeR, varM, RL.slotAt, own_nd, own_int, own_str, own_bl, own_non, okPend, touch, touchL, touchR, rootV, varsV, varsL, pureOp, pkLM, pkL, pk, pkM, getP, backA, asgSs, asgS, two, one, ixM, ixEnd, ixD_lst, ixD_tup, childM, childR, SM.of, SM.nx, SM.fail, truthM, truthD, tmpM, ifM, RL.andM, RL.orM, RL.andV, RL.orV, boolM, asBl, cmp2, cmpD, bin2, binD, mulOk, neg1, not1, putM, RL.putAt, RL.setP, setD, setL1, tmpOf, bltD, lenD, bmM, bmD, isLst, smallI, setTg, absD, intD, ltD, leD, gtD, isD, isNone, tyD, isTab, isD', callM, comeBack, tgL, eqD_int, eqD_str, eqD_bl, eqD_non, maxDD, asInts_nL, max_lis]) ?_
  refine st_nx (e' := [some (.olst (iL ns)), some (.olst (nL (lis ns))), some (.int (best none ns : Nat)), some (.olst []), none, none]) (by simp [fd, run1, initE, exSs, exS, ev, evR, evT, evX, evXs, evXc, dispM, M.bind, M.ret, M.guard, M.lift, M.fail, takeL, takeR, varM, RL.slotAt, own_nd, own_int, own_str, own_bl, own_non, okPend, touch, touchL, touchR, rootV, varsV, varsL, pureOp, pkLM, pkL, pk, pkM, getP, backA, asgSs, asgS, two, one, ixM, ixEnd, ixD_lst, ixD_tup, childM, childR, SM.of, SM.nx, SM.fail, truthM, truthD, tmpM, ifM, RL.andM, RL.orM, RL.andV, RL.orV, boolM, asBl, cmp2, cmpD, bin2, binD, mulOk, neg1, not1, putM, RL.putAt, RL.setP, setD, setL1, tmpOf, bltD, lenD, bmM, bmD, isLst, smallI, setTg, absD, intD, ltD, leD, gtD, isD, isNone, tyD, isTab, isD', callM, comeBack, tgL, eqD_int, eqD_str, eqD_bl, eqD_non]) ?_
  refine st_nx (ex_for (rs := [.at_ 0 []]) (xs := enumL 0 (iL ns)) (e' := [some (.olst (iL ns)), some (.olst (nL (lis ns))), some (.int (best none ns : Nat)), some (.olst []), none, none]) ?_ f1) ?_
  · simp [fd, run1, initE, exSs, exS, ev, evR, evT, evX, evXs, evXc, dispM, M.bind, M.ret, M.guard, M.lift, M.fail, takeL, takeR, varM, RL.slotAt, own_nd, own_int, own_str, own_bl, own_non, okPend, touch, touchL, touchR, rootV, varsV, varsL, pureOp, pkLM, pkL, pk, pkM, getP, backA, asgSs, asgS, two, one, ixM, ixEnd, ixD_lst, ixD_tup, childM, childR, SM.of, SM.nx, SM.fail, truthM, truthD, tmpM, ifM, RL.andM, RL.orM, RL.andV, RL.orV, boolM, asBl, cmp2, cmpD, bin2, binD, mulOk, neg1, not1, putM, RL.putAt, RL.setP, setD, setL1, tmpOf, bltD, lenD, bmM, bmD, isLst, smallI, setTg, absD, intD, ltD, leD, gtD, isD, isNone, tyD, isTab, isD', callM, comeBack, tgL, eqD_int, eqD_str, eqD_bl, eqD_non, itM, apart, rfRoots, itD, plain_ints, touchSs, touchS, risB]
  refine st_rt ?_
  simp [fd, run1, initE, exSs, exS, ev, evR, evT, evX, evXs, evXc, dispM, M.bind, M.ret, M.guard, M.lift, M.fail, takeL, takeR, varM, RL.slotAt, own_nd, own_int, own_str, own_bl, own_non, okPend, touch, touchL, touchR, rootV, varsV, varsL, pureOp, pkLM, pkL, pk, pkM, getP, backA, asgSs, asgS, two, one, ixM, ixEnd, ixD_lst, ixD_tup, childM, childR, SM.of, SM.nx, SM.fail, truthM, truthD, tmpM, ifM, RL.andM, RL.orM, RL.andV, RL.orV, boolM, asBl, cmp2, cmpD, bin2, binD, mulOk, neg1, not1, putM, RL.putAt, RL.setP, setD, setL1, tmpOf, bltD, lenD, bmM, bmD, isLst, smallI, setTg, absD, intD, ltD, leD, gtD, isD, isNone, tyD, isTab, isD', callM, comeBack, tgL, eqD_int, eqD_str, eqD_bl, eqD_non]
end K65
set_option Elab.async false
set_option linter.all false
set_option maxRecDepth 100000
set_option maxHeartbeats 1000000
set_option exponentiation.threshold 2000
/-! k65, the plain law: the law's own row, long. -/
namespace K65
open PySem RL
def lriB : List St' := [.ife (.and (.cmp .Gt (.v 6) (.c (.int 0))) (.and (.cmp .Eq (.ix (.v 1) (.v 3)) (.v 6)) (.or (.cmp .Eq (.blt .len [(.v 5)]) (.c (.int 0))) (.cmp .Gt (.ix (.v 0) (.v 3)) (.ix (.v 0) (.ix (.v 5) (.neg (.c (.int 1))))))))) [.exp (.bm .append (.v 5) [(.v 3)]), .asg 6 (.bin .Sub (.v 6) (.c (.int 1)))] []]
theorem lri_step {Φ : Hd'} (ns : List Int) (hn : ns.length ≤ 1000) (i left : Nat) (F : List Int) (x2 x4 : Option D) (hi : i < ns.length) (h : GI ns i left F) : ∃ left' F', exSs P Φ lriB [some (.olst (iL ns)), some (.olst (nL (lis ns))), x2, some (.int i), x4, some (.olst (iL F)), some (.int left)] = some (.nx, [some (.olst (iL ns)), some (.olst (nL (lis ns))), x2, some (.int i), x4, some (.olst (iL F')), some (.int (left' : Nat))]) ∧ GI ns (i + 1) left' F' := by
  have ix1 : L2.ixN ns.length (i : Int) = some i := by unfold L2.ixN; rw [if_pos (by omega), if_pos (by omega)]; rfl
  have hil : i < (lis ns).length := by rw [lis_len]; exact hi
  have g1 : (lis ns)[i]? = some (lis ns)[i] := List.getElem?_eq_getElem hil
  have g2 : ns[i]? = some ns[i] := List.getElem?_eq_getElem hi
  have hlen : (lis ns).length = ns.length := lis_len ns
  have hf : F.length < lim := by have := h.2.1; simp [lim]; omega
  by_cases c2 : 0 < left
  · by_cases c1 : (lis ns)[i] = left
    · rcases last_of h.1 with hF | ⟨k, v, f1, f2, f3, f4, f5, f6⟩
      · refine ⟨left - 1, F ++ [(i : Int)], ?_, h.take hi c1 c2 (by rw [hF]; rfl)⟩
        have e : ((left - 1 : Nat) : Int) = (left : Int) - 1 := by omega
        have fl : (0 : Nat) < lim := by decide
        rw [e]
        simp [lriB, fd, run1, initE, exSs, exS, ev, evR, evT, evX, evXs, evXc, dispM, M.bind, M.ret, M.guard, M.lift, M.fail, takeL, takeR, varM, RL.slotAt, own_nd, own_int, own_str, own_bl, own_non, okPend, touch, touchL, touchR, rootV, varsV, varsL, pureOp, pkLM, pkL, pk, pkM, getP, backA, asgSs, asgS, two, one, ixM, ixEnd, ixD_lst, ixD_tup, childM, childR, SM.of, SM.nx, SM.fail, truthM, truthD, tmpM, ifM, RL.andM, RL.orM, RL.andV, RL.orV, boolM, asBl, cmp2, cmpD, bin2, binD, mulOk, neg1, not1, putM, RL.putAt, RL.setP, setD, setL1, tmpOf, bltD, lenD, bmM, bmD, isLst, smallI, setTg, absD, intD, ltD, leD, gtD, isD, isNone, tyD, isTab, isD', callM, comeBack, tgL, eqD_int, eqD_str, eqD_bl, eqD_non, hlen, ix1, g1, c1, c2, hF, fl]
      · by_cases c3 : v < ns[i]
        · refine ⟨left - 1, F ++ [(i : Int)], ?_, h.take hi c1 c2 (by rw [f5]; simpa [okL] using c3)⟩
          have e : ((left - 1 : Nat) : Int) = (left : Int) - 1 := by omega
          rw [e]
          simp [lriB, fd, run1, initE, exSs, exS, ev, evR, evT, evX, evXs, evXc, dispM, M.bind, M.ret, M.guard, M.lift, M.fail, takeL, takeR, varM, RL.slotAt, own_nd, own_int, own_str, own_bl, own_non, okPend, touch, touchL, touchR, rootV, varsV, varsL, pureOp, pkLM, pkL, pk, pkM, getP, backA, asgSs, asgS, two, one, ixM, ixEnd, ixD_lst, ixD_tup, childM, childR, SM.of, SM.nx, SM.fail, truthM, truthD, tmpM, ifM, RL.andM, RL.orM, RL.andV, RL.orV, boolM, asBl, cmp2, cmpD, bin2, binD, mulOk, neg1, not1, putM, RL.putAt, RL.setP, setD, setL1, tmpOf, bltD, lenD, bmM, bmD, isLst, smallI, setTg, absD, intD, ltD, leD, gtD, isD, isNone, tyD, isTab, isD', callM, comeBack, tgL, eqD_int, eqD_str, eqD_bl, eqD_non, hlen, ix1, g1, g2, c1, c2, f1, f2, f3, f4, f6, c3, hf]
        · refine ⟨left, F, ?_, h.skip hi (by rw [f5]; simpa [okL] using fun _ _ => Int.not_lt.mp c3)⟩
          simp [lriB, fd, run1, initE, exSs, exS, ev, evR, evT, evX, evXs, evXc, dispM, M.bind, M.ret, M.guard, M.lift, M.fail, takeL, takeR, varM, RL.slotAt, own_nd, own_int, own_str, own_bl, own_non, okPend, touch, touchL, touchR, rootV, varsV, varsL, pureOp, pkLM, pkL, pk, pkM, getP, backA, asgSs, asgS, two, one, ixM, ixEnd, ixD_lst, ixD_tup, childM, childR, SM.of, SM.nx, SM.fail, truthM, truthD, tmpM, ifM, RL.andM, RL.orM, RL.andV, RL.orV, boolM, asBl, cmp2, cmpD, bin2, binD, mulOk, neg1, not1, putM, RL.putAt, RL.setP, setD, setL1, tmpOf, bltD, lenD, bmM, bmD, isLst, smallI, setTg, absD, intD, ltD, leD, gtD, isD, isNone, tyD, isTab, isD', callM, comeBack, tgL, eqD_int, eqD_str, eqD_bl, eqD_non, hlen, ix1, g1, g2, c1, c2, f1, f2, f3, f4, f6, c3]
    · refine ⟨left, F, ?_, h.skip hi fun z => c1 z.1⟩
      have c1' : ¬ ((lis ns)[i] : Int) = left := by omega
      simp [lriB, fd, run1, initE, exSs, exS, ev, evR, evT, evX, evXs, evXc, dispM, M.bind, M.ret, M.guard, M.lift, M.fail, takeL, takeR, varM, RL.slotAt, own_nd, own_int, own_str, own_bl, own_non, okPend, touch, touchL, touchR, rootV, varsV, varsL, pureOp, pkLM, pkL, pk, pkM, getP, backA, asgSs, asgS, two, one, ixM, ixEnd, ixD_lst, ixD_tup, childM, childR, SM.of, SM.nx, SM.fail, truthM, truthD, tmpM, ifM, RL.andM, RL.orM, RL.andV, RL.orV, boolM, asBl, cmp2, cmpD, bin2, binD, mulOk, neg1, not1, putM, RL.putAt, RL.setP, setD, setL1, tmpOf, bltD, lenD, bmM, bmD, isLst, smallI, setTg, absD, intD, ltD, leD, gtD, isD, isNone, tyD, isTab, isD', callM, comeBack, tgL, eqD_int, eqD_str, eqD_bl, eqD_non, hlen, ix1, g1, c1, c1', c2]
  · refine ⟨left, F, ?_, h.skip hi fun z => c2 z.2.1⟩
    simp [lriB, fd, run1, initE, exSs, exS, ev, evR, evT, evX, evXs, evXc, dispM, M.bind, M.ret, M.guard, M.lift, M.fail, takeL, takeR, varM, RL.slotAt, own_nd, own_int, own_str, own_bl, own_non, okPend, touch, touchL, touchR, rootV, varsV, varsL, pureOp, pkLM, pkL, pk, pkM, getP, backA, asgSs, asgS, two, one, ixM, ixEnd, ixD_lst, ixD_tup, childM, childR, SM.of, SM.nx, SM.fail, truthM, truthD, tmpM, ifM, RL.andM, RL.orM, RL.andV, RL.orV, boolM, asBl, cmp2, cmpD, bin2, binD, mulOk, neg1, not1, putM, RL.putAt, RL.setP, setD, setL1, tmpOf, bltD, lenD, bmM, bmD, isLst, smallI, setTg, absD, intD, ltD, leD, gtD, isD, isNone, tyD, isTab, isD', callM, comeBack, tgL, eqD_int, eqD_str, eqD_bl, eqD_non, hlen, ix1, g1, c2]
def linB : List St' := [.ife (.cmp .Gt (.ix (.v 0) (.v 4)) (.ix (.v 0) (.v 3))) [.sub false (.v 1) (.v 3) (.blt .max [(.ix (.v 1) (.v 3)), (.bin .Add (.ix (.v 1) (.v 4)) (.c (.int 1)))])] []]
def loutB : List St' := [.asg 3 (.bin .Sub (.bin .Sub (.blt .len [(.v 0)]) (.c (.int 1))) (.v 2)), .for_ (.nm 4) .range [(.bin .Add (.v 3) (.c (.int 1))), (.blt .len [(.v 0)])] linB]
/-- the lengths as they are found -/
def lenS (ns : List Int) (a : Nat) (m : Nat) : List Nat := List.replicate a 1 ++ m :: lis (ns.drop (a + 1))
theorem lin_step {Φ : Hd'} (ns : List Int) (a t m : Nat) (x2 x5 x6 : Option D) (ht : a + 1 + t < ns.length) :
    exSs P Φ linB [some (.olst (iL ns)), some (.olst (nL (lenS ns a m))), x2, some (.int a), some (.int ((a + 1 + t : Nat) : Int)), x5, x6] = some (.nx, [some (.olst (iL ns)), some (.olst (nL (lenS ns a (if ns[a]'(by omega) < ns[a + 1 + t] then max m ((lis (ns.drop (a + 1)))[t]'(by rw [lis_len, List.length_drop]; omega) + 1) else m)))), x2, some (.int a), some (.int ((a + 1 + t : Nat) : Int)), x5, x6]) := by
  have ha : a < ns.length := by omega
  have ix1 : L2.ixN ns.length (a : Int) = some a := by unfold L2.ixN; rw [if_pos (by omega), if_pos (by omega)]; rfl
  have ix2 : L2.ixN ns.length ((a + 1 + t : Nat) : Int) = some (a + 1 + t) := by unfold L2.ixN; rw [if_pos (by omega), if_pos (by omega)]; rfl
  have g1 : ns[a]? = some ns[a] := List.getElem?_eq_getElem ha
  have g2 : ns[a + 1 + t]? = some ns[a + 1 + t] := List.getElem?_eq_getElem ht
  have hl : (lenS ns a m).length = ns.length := by simp [lenS, lis_len]; omega
  have htl : t < (lis (ns.drop (a + 1))).length := by rw [lis_len, List.length_drop]; omega
  have g3 : (lenS ns a m)[a]? = some m := by simp [lenS]
  have g4 : (lenS ns a m)[a + 1 + t]? = some ((lis (ns.drop (a + 1)))[t]) := by
    rw [lenS, List.getElem?_append_right (by simp; omega), show a + 1 + t - (List.replicate a 1).length = t + 1 by simp; omega, List.getElem?_cons_succ, List.getElem?_eq_getElem htl]
  have hs : ∀ v, (lenS ns a m).set a v = lenS ns a v := fun v => by simp [lenS]
  generalize (lis (ns.drop (a + 1)))[t] = q at *
  have hm : (if (q : Int) + 1 > m then (q : Int) + 1 else m) = ((max m (q + 1) : Nat) : Int) := by split <;> omega
  have hs2 : ((lenS ns a m).map fun (n : Nat) => D.int n).set a (.int ((max m (q + 1) : Nat) : Int)) = nL (lenS ns a (max m (q + 1))) := by
    rw [nL, ← hs (max m (q + 1)), List.map_set]
  push_cast at ix2
  by_cases c : ns[a] < ns[a + 1 + t]
  · rw [if_pos c]
    rw [← hs2, ← hm]
    simp [linB, fd, run1, initE, exSs, exS, ev, evR, evT, evX, evXs, evXc, dispM, M.bind, M.ret, M.guard, M.lift, M.fail, takeL, takeR, varM, RL.slotAt, own_nd, own_int, own_str, own_bl, own_non, okPend, touch, touchL, touchR, rootV, varsV, varsL, pureOp, pkLM, pkL, pk, pkM, getP, backA, asgSs, asgS, two, one, ixM, ixEnd, ixD_lst, ixD_tup, childM, childR, SM.of, SM.nx, SM.fail, truthM, truthD, tmpM, ifM, RL.andM, RL.orM, RL.andV, RL.orV, boolM, asBl, cmp2, cmpD, bin2, binD, mulOk, neg1, not1, putM, RL.putAt, RL.setP, setD, setL1, tmpOf, bltD, lenD, bmM, bmD, isLst, smallI, setTg, absD, intD, ltD, leD, gtD, isD, isNone, tyD, isTab, isD', callM, comeBack, tgL, eqD_int, eqD_str, eqD_bl, eqD_non, ix1, ix2, g1, g2, g3, g4, hl, c, maxD']
  · rw [if_neg c]
    simp [linB, fd, run1, initE, exSs, exS, ev, evR, evT, evX, evXs, evXc, dispM, M.bind, M.ret, M.guard, M.lift, M.fail, takeL, takeR, varM, RL.slotAt, own_nd, own_int, own_str, own_bl, own_non, okPend, touch, touchL, touchR, rootV, varsV, varsL, pureOp, pkLM, pkL, pk, pkM, getP, backA, asgSs, asgS, two, one, ixM, ixEnd, ixD_lst, ixD_tup, childM, childR, SM.of, SM.nx, SM.fail, truthM, truthD, tmpM, ifM, RL.andM, RL.orM, RL.andV, RL.orV, boolM, asBl, cmp2, cmpD, bin2, binD, mulOk, neg1, not1, putM, RL.putAt, RL.setP, setD, setL1, tmpOf, bltD, lenD, bmM, bmD, isLst, smallI, setTg, absD, intD, ltD, leD, gtD, isD, isNone, tyD, isTab, isD', callM, comeBack, tgL, eqD_int, eqD_str, eqD_bl, eqD_non, ix1, ix2, g1, g2, g3, g4, hl, c]
def mx (x : Int) (m : Nat) (p : Int × Nat) : Nat := if x < p.1 then max m (p.2 + 1) else m
theorem it_range2 {a n : Int} (h1 : -1000000 ≤ a ∧ a ≤ 1000000) (h2 : -1000000 ≤ n ∧ n ≤ 1000000) : itD .range [.int a, .int n] = some (rangeL a (n - a).toNat) := by
  simp [itD, smallI, h1.1, h1.2, h2.1, h2.2]
theorem lin_it {Φ : Hd'} {ns : List Int} {A : Int} {xs : List D} {f x2 x4 : Option D} (h : itD .range [.int (A + 1), .int ns.length] = some xs) :
    itM .range (evXs P Φ [(.bin .Add (.v 3) (.c (.int 1))), (.blt .len [(.v 0)])]) (tgL (.nm 4) ++ touchSs linB) [some (.olst (iL ns)), f, x2, some (.int A), x4, none, none] = some (.ok ([.tmp (.int (A + 1)), .tmp (.int ns.length)], xs), [some (.olst (iL ns)), f, x2, some (.int A), x4, none, none]) := by
  simp [fd, run1, initE, exSs, exS, ev, evR, evT, evX, evXs, evXc, dispM, M.bind, M.ret, M.guard, M.lift, M.fail, takeL, takeR, varM, RL.slotAt, own_nd, own_int, own_str, own_bl, own_non, okPend, touch, touchL, touchR, rootV, varsV, varsL, pureOp, pkLM, pkL, pk, pkM, getP, backA, asgSs, asgS, two, one, ixM, ixEnd, ixD_lst, ixD_tup, childM, childR, SM.of, SM.nx, SM.fail, truthM, truthD, tmpM, ifM, RL.andM, RL.orM, RL.andV, RL.orV, boolM, asBl, cmp2, cmpD, bin2, binD, mulOk, neg1, not1, putM, RL.putAt, RL.setP, setD, setL1, tmpOf, bltD, lenD, bmM, bmD, isLst, smallI, setTg, absD, intD, ltD, leD, gtD, isD, isNone, tyD, isTab, isD', callM, comeBack, tgL, eqD_int, eqD_str, eqD_bl, eqD_non, itM, apart, rfRoots, h]
theorem lout_step (ns : List Int) (hn : ns.length ≤ 1000) {Φ : Hd'} (i : Nat) (hi : i < ns.length) (x3 x4 : Option D) :
    ∃ x4', exSs P Φ loutB [some (.olst (iL ns)), some (.olst (nL (List.replicate (ns.length - i) 1 ++ lis (ns.drop (ns.length - i))))), some (.int i), x3, x4, none, none] = some (.nx, [some (.olst (iL ns)), some (.olst (nL (List.replicate (ns.length - (i + 1)) 1 ++ lis (ns.drop (ns.length - (i + 1)))))), some (.int i), some (.int ((ns.length : Int) - 1 - i)), x4', none, none]) := by
  obtain ⟨a, ha, ha2⟩ : ∃ a : Nat, ns.length - i = a + 1 ∧ ns.length - (i + 1) = a := ⟨ns.length - 1 - i, by omega, by omega⟩
  have han : a < ns.length := by omega
  have ea : ((ns.length : Int) - 1 - i) = (a : Int) := by omega
  rw [ha, ha2]
  have e1 : List.replicate (a + 1) 1 ++ lis (ns.drop (a + 1)) = lenS ns a 1 := by
    rw [lenS, List.replicate_succ', List.append_assoc]; rfl
  have ed : ns.drop a = ns[a] :: ns.drop (a + 1) := List.drop_eq_getElem_cons han
  have e2 : List.replicate a 1 ++ lis (ns.drop a) = lenS ns a (best (some ns[a]) (ns.drop (a + 1)) + 1) := by
    rw [lenS, ed, lis]
  rw [e1, e2, ea]
  let zs := (ns.drop (a + 1)).zip (lis (ns.drop (a + 1)))
  have zl : zs.length = ns.length - (a + 1) := by simp [zs, lis_len]
  let I : Nat → Env' → Prop := fun t e => ∃ x4, e = [some (.olst (iL ns)), some (.olst (nL (lenS ns a ((zs.take t).foldl (mx ns[a]) 1)))), some (.int i), some (.int a), x4, none, none]
  obtain ⟨e', f1, x4', rfl⟩ := forL_inv (set := setTg (.nm 4)) (body := exSs P Φ linB) I (rangeL (a + 1) (ns.length - (a + 1))) [some (.olst (iL ns)), some (.olst (nL (lenS ns a 1))), some (.int i), some (.int a), x4, none, none] 0
    ⟨x4, rfl⟩ (fun t x e hx hI => by
      obtain ⟨x4, rfl⟩ := hI
      obtain ⟨ht, rfl⟩ := rangeL_at _ _ _ _ hx
      rw [Nat.zero_add]
      have hz : t < zs.length := by omega
      have q := lin_step (Φ := Φ) ns a t ((zs.take t).foldl (mx ns[a]) 1) (some (.int i)) none none (by omega)
      refine ⟨_, _, ?_, q, some (.int ((a + 1 + t : Nat) : Int)), ?_⟩
      · rw [show ((a : Int) + 1 + t) = ((a + 1 + t : Nat) : Int) by omega]; rfl
      · have e3 : zs.take (t + 1) = zs.take t ++ [zs[t]] := by rw [List.take_succ, List.getElem?_eq_getElem hz]; rfl
        rw [e3, List.foldl_append, List.foldl_cons, List.foldl_nil]
        have e4 : zs[t] = (ns[a + 1 + t]'(by omega), (lis (ns.drop (a + 1)))[t]'(by rw [lis_len, List.length_drop]; omega)) := by
          simp only [zs, List.getElem_zip, List.getElem_drop]
        rw [e4, mx])
  rw [Nat.zero_add, rangeL_len, List.take_of_length_le (by omega)] at f1
  have e5 : zs.foldl (mx ns[a]) 1 = best (some ns[a]) (ns.drop (a + 1)) + 1 := by
    have := fold_best ns[a] (ns.drop (a + 1)) 1 (Nat.le_refl _)
    have h2 : zs.foldl (mx ns[a]) 1 = _ := this
    rw [h2]; omega
  rw [e5] at f1
  refine ⟨x4', ?_⟩
  refine st_nx (e' := [some (.olst (iL ns)), some (.olst (nL (lenS ns a 1))), some (.int i), some (.int a), x4, none, none]) (by simp [fd, run1, initE, exSs, exS, ev, evR, evT, evX, evXs, evXc, dispM, M.bind, M.ret, M.guard, M.lift, M.fail, takeL, takeR, varM, RL.slotAt, own_nd, own_int, own_str, own_bl, own_non, okPend, touch, touchL, touchR, rootV, varsV, varsL, pureOp, pkLM, pkL, pk, pkM, getP, backA, asgSs, asgS, two, one, ixM, ixEnd, ixD_lst, ixD_tup, childM, childR, SM.of, SM.nx, SM.fail, truthM, truthD, tmpM, ifM, RL.andM, RL.orM, RL.andV, RL.orV, boolM, asBl, cmp2, cmpD, bin2, binD, mulOk, neg1, not1, putM, RL.putAt, RL.setP, setD, setL1, tmpOf, bltD, lenD, bmM, bmD, isLst, smallI, setTg, absD, intD, ltD, leD, gtD, isD, isNone, tyD, isTab, isD', callM, comeBack, tgL, eqD_int, eqD_str, eqD_bl, eqD_non, ea]) ?_
  refine st_nx (ex_for (rs := [.tmp (.int (a + 1)), .tmp (.int ns.length)]) (xs := rangeL (a + 1) (ns.length - (a + 1))) (e' := [some (.olst (iL ns)), some (.olst (nL (lenS ns a 1))), some (.int i), some (.int a), x4, none, none]) ?_ f1) st_nil
  have b5 : itD .range [.int ((a : Int) + 1), .int ns.length] = some (rangeL ((a : Int) + 1) (ns.length - (a + 1))) := by
    rw [it_range2 (by omega) (by omega)]; congr 2; omega
  exact lin_it b5
theorem maxD_lis {ns : List Int} (h : ns ≠ []) : maxD' [.nd true .lst (nL (lis ns))] = some (.int (best none ns : Nat)) := by
  cases hl : lis ns with
  | nil =>
    have := congrArg List.length hl
    rw [lis_len] at this
    exact absurd (List.eq_nil_of_length_eq_zero this) h
  | cons m r =>
    have hm := max_lis ns
    rw [hl] at hm
    have : maxD' [.nd true .lst (nL (m :: r))] = (asInts (nL (m :: r))).bind (oneI maxI) := rfl
    rw [this, asInts_nL]
    show some (D.int (maxI _ _)) = _
    rw [← hm]
    rfl
theorem lrising_ok (ns : List Int) (hn : ns.length ≤ 1000) (j : Nat) : RL.run P fd (j + 1) f__law_rising [.olst (iL ns)] = some (.ok (.olst (iL (rising ns))), [some (.olst (iL ns))]) := by
  have l1 : ns.length ≤ lim := by simp [lim]; omega
  have l2 : (1 : Nat) ≤ lim := by decide
  have b3 : (ns.length : Int) ≤ 1000000 := by omega
  have b4 : -1000000 ≤ (ns.length : Int) := by omega
  let I : Nat → Env' → Prop := fun i e => ∃ x2 x3 x4, e = [some (.olst (iL ns)), some (.olst (nL (List.replicate (ns.length - i) 1 ++ lis (ns.drop (ns.length - i))))), x2, x3, x4, none, none]
  obtain ⟨e1, f1, x2, x3, x4, rfl⟩ := forL_inv (set := setTg (.nm 2)) (body := exSs P (RL.run P fd j) loutB) I (rangeL 0 ns.length) [some (.olst (iL ns)), some (.olst (nL (List.replicate ns.length 1))), none, none, none, none, none] 0
    ⟨none, none, none, by simp [lis]⟩ (fun i x e hx hI => by
      obtain ⟨x2, x3, x4, rfl⟩ := hI
      obtain ⟨hi, rfl⟩ := rangeL_at _ _ _ _ hx
      rw [Nat.zero_add]
      obtain ⟨x4', q⟩ := lout_step ns hn (Φ := RL.run P fd j) i hi x3 x4
      refine ⟨_, _, ?_, q, some (.int i), _, _, rfl⟩
      rw [show (0 : Int) + i = i by omega]; rfl)
  rw [Nat.zero_add, rangeL_len, Nat.sub_self] at f1
  let J : Nat → Env' → Prop := fun i e => ∃ left F x3, e = [some (.olst (iL ns)), some (.olst (nL (lis ns))), x2, x3, x4, some (.olst (iL F)), some (.int (left : Nat))] ∧ GI ns i left F
  obtain ⟨e2, g1, left, F, y3, rfl, g2⟩ := forL_inv (set := setTg (.nm 3)) (body := exSs P (RL.run P fd j) lriB) J (rangeL 0 ns.length) [some (.olst (iL ns)), some (.olst (nL (lis ns))), x2, x3, x4, some (.olst []), some (.int (best none ns : Nat))] 0
    ⟨_, [], x3, rfl, .start ns hn⟩ (fun i x e hx hI => by
      obtain ⟨left, F, x3, rfl, h⟩ := hI
      obtain ⟨hi, rfl⟩ := rangeL_at _ _ _ _ hx
      rw [Nat.zero_add] at h ⊢
      obtain ⟨left', F', q1, q2⟩ := lri_step (Φ := RL.run P fd j) ns hn i left F x2 x4 hi h
      refine ⟨_, _, ?_, q1, left', F', _, rfl, q2⟩
      rw [show (0 : Int) + i = i by omega]; rfl)
  rw [Nat.zero_add, rangeL_len] at g2
  have hF := g2.fin
  subst hF
  refine run_rt (d := t__law_rising) (ds := [.olst (iL ns)]) (e := [some (.olst (iL ns)), some (.olst (nL (lis ns))), x2, y3, x4, none, some (.int left)]) rfl rfl (by decide) ?_
  show exSs P (RL.run P fd j) b__law_rising _ = _
  refine st_nx (e' := [some (.olst (iL ns)), some (.olst (nL (List.replicate ns.length 1))), none, none, none, none, none]) ?_ ?_
  · simp [fd, run1, initE, exSs, exS, ev, evR, evT, evX, evXs, evXc, dispM, M.bind, M.ret, M.guard, M.lift, M.fail, takeL, takeR, varM, RL.slotAt, own_nd, own_int, own_str, own_bl, own_non, okPend, touch, touchL, touchR, rootV, varsV, varsL, pureOp, pkLM, pkL, pk, pkM, getP, backA, asgSs, asgS, two, one, ixM, ixEnd, ixD_lst, ixD_tup, childM, childR, SM.of, SM.nx, SM.fail, truthM, truthD, tmpM, ifM, RL.andM, RL.orM, RL.andV, RL.orV, boolM, asBl, cmp2, cmpD, bin2, binD, mulOk, neg1, not1, putM, RL.putAt, RL.setP, setD, setL1, tmpOf, bltD, lenD, bmM, bmD, isLst, smallI, setTg, absD, intD, ltD, leD, gtD, isD, isNone, tyD, isTab, isD', callM, comeBack, tgL, eqD_int, eqD_str, eqD_bl, eqD_non, t__law_rising, RL.plain, l1, l2, b3, b4]
  refine st_nx (ex_for (rs := [.tmp (.int ns.length)]) (xs := rangeL 0 ns.length) (e' := [some (.olst (iL ns)), some (.olst (nL (List.replicate ns.length 1))), none, none, none, none, none]) ?_ f1) ?_
  · simp [fd, run1, initE, exSs, exS, ev, evR, evT, evX, evXs, evXc, dispM, M.bind, M.ret, M.guard, M.lift, M.fail, takeL, takeR, varM, RL.slotAt, own_nd, own_int, own_str, own_bl, own_non, okPend, touch, touchL, touchR, rootV, varsV, varsL, pureOp, pkLM, pkL, pk, pkM, getP, backA, asgSs, asgS, two, one, ixM, ixEnd, ixD_lst, ixD_tup, childM, childR, SM.of, SM.nx, SM.fail, truthM, truthD, tmpM, ifM, RL.andM, RL.orM, RL.andV, RL.orV, boolM, asBl, cmp2, cmpD, bin2, binD, mulOk, neg1, not1, putM, RL.putAt, RL.setP, setD, setL1, tmpOf, bltD, lenD, bmM, bmD, isLst, smallI, setTg, absD, intD, ltD, leD, gtD, isD, isNone, tyD, isTab, isD', callM, comeBack, tgL, eqD_int, eqD_str, eqD_bl, eqD_non, itM, apart, rfRoots, it_range1, b3, b4]
  refine st_nx (e' := [some (.olst (iL ns)), some (.olst (nL (lis ns))), x2, x3, x4, some (.olst []), none]) (by simp [fd, run1, initE, exSs, exS, ev, evR, evT, evX, evXs, evXc, dispM, M.bind, M.ret, M.guard, M.lift, M.fail, takeL, takeR, varM, RL.slotAt, own_nd, own_int, own_str, own_bl, own_non, okPend, touch, touchL, touchR, rootV, varsV, varsL, pureOp, pkLM, pkL, pk, pkM, getP, backA, asgSs, asgS, two, one, ixM, ixEnd, ixD_lst, ixD_tup, childM, childR, SM.of, SM.nx, SM.fail, truthM, truthD, tmpM, ifM, RL.andM, RL.orM, RL.andV, RL.orV, boolM, asBl, cmp2, cmpD, bin2, binD, mulOk, neg1, not1, putM, RL.putAt, RL.setP, setD, setL1, tmpOf, bltD, lenD, bmM, bmD, isLst, smallI, setTg, absD, intD, ltD, leD, gtD, isD, isNone, tyD, isTab, isD', callM, comeBack, tgL, eqD_int, eqD_str, eqD_bl, eqD_non]) ?_
  refine st_nx (e' := [some (.olst (iL ns)), some (.olst (nL (lis ns))), x2, x3, x4, some (.olst []), some (.int (best none ns : Nat))]) ?_ ?_
  · have hl : (lis ns).length = ns.length := lis_len ns
    by_cases h0 : ns = []
    · subst h0
      simp [fd, run1, initE, exSs, exS, ev, evR, evT, evX, evXs, evXc, dispM, M.bind, M.ret, M.guard, M.lift, M.fail, takeL, takeR, varM, RL.slotAt, own_nd, own_int, own_str, own_bl, own_non, okPend, touch, touchL, touchR, rootV, varsV, varsL, pureOp, pkLM, pkL, pk, pkM, getP, backA, asgSs, asgS, two, one, ixM, ixEnd, ixD_lst, ixD_tup, childM, childR, SM.of, SM.nx, SM.fail, truthM, truthD, tmpM, ifM, RL.andM, RL.orM, RL.andV, RL.orV, boolM, asBl, cmp2, cmpD, bin2, binD, mulOk, neg1, not1, putM, RL.putAt, RL.setP, setD, setL1, tmpOf, bltD, lenD, bmM, bmD, isLst, smallI, setTg, absD, intD, ltD, leD, gtD, isD, isNone, tyD, isTab, isD', callM, comeBack, tgL, eqD_int, eqD_str, eqD_bl, eqD_non, lis, best]
    · have hp : 0 < ns.length := List.length_pos_iff.mpr h0
      have hm := maxD_lis h0
      simp [fd, run1, initE, exSs, exS, ev, evR, evT, evX, evXs, evXc, dispM, M.bind, M.ret, M.guard, M.lift, M.fail, takeL, takeR, varM, RL.slotAt, own_nd, own_int, own_str, own_bl, own_non, okPend, touch, touchL, touchR, rootV, varsV, varsL, pureOp, pkLM, pkL, pk, pkM, getP, backA, asgSs, asgS, two, one, ixM, ixEnd, ixD_lst, ixD_tup, childM, childR, SM.of, SM.nx, SM.fail, truthM, truthD, tmpM, ifM, RL.andM, RL.orM, RL.andV, RL.orV, boolM, asBl, cmp2, cmpD, bin2, binD, mulOk, neg1, not1, putM, RL.putAt, RL.setP, setD, setL1, tmpOf, bltD, lenD, bmM, bmD, isLst, smallI, setTg, absD, intD, ltD, leD, gtD, isD, isNone, tyD, isTab, isD', callM, comeBack, tgL, eqD_int, eqD_str, eqD_bl, eqD_non, hl, hp, hm]
  refine st_nx (ex_for (rs := [.tmp (.int ns.length)]) (xs := rangeL 0 ns.length) (e' := [some (.olst (iL ns)), some (.olst (nL (lis ns))), x2, x3, x4, some (.olst []), some (.int (best none ns : Nat))]) ?_ g1) ?_
  · simp [fd, run1, initE, exSs, exS, ev, evR, evT, evX, evXs, evXc, dispM, M.bind, M.ret, M.guard, M.lift, M.fail, takeL, takeR, varM, RL.slotAt, own_nd, own_int, own_str, own_bl, own_non, okPend, touch, touchL, touchR, rootV, varsV, varsL, pureOp, pkLM, pkL, pk, pkM, getP, backA, asgSs, asgS, two, one, ixM, ixEnd, ixD_lst, ixD_tup, childM, childR, SM.of, SM.nx, SM.fail, truthM, truthD, tmpM, ifM, RL.andM, RL.orM, RL.andV, RL.orV, boolM, asBl, cmp2, cmpD, bin2, binD, mulOk, neg1, not1, putM, RL.putAt, RL.setP, setD, setL1, tmpOf, bltD, lenD, bmM, bmD, isLst, smallI, setTg, absD, intD, ltD, leD, gtD, isD, isNone, tyD, isTab, isD', callM, comeBack, tgL, eqD_int, eqD_str, eqD_bl, eqD_non, itM, apart, rfRoots, it_range1, b3, b4]
  refine st_rt ?_
  simp [fd, run1, initE, exSs, exS, ev, evR, evT, evX, evXs, evXc, dispM, M.bind, M.ret, M.guard, M.lift, M.fail, takeL, takeR, varM, RL.slotAt, own_nd, own_int, own_str, own_bl, own_non, okPend, touch, touchL, touchR, rootV, varsV, varsL, pureOp, pkLM, pkL, pk, pkM, getP, backA, asgSs, asgS, two, one, ixM, ixEnd, ixD_lst, ixD_tup, childM, childR, SM.of, SM.nx, SM.fail, truthM, truthD, tmpM, ifM, RL.andM, RL.orM, RL.andV, RL.orV, boolM, asBl, cmp2, cmpD, bin2, binD, mulOk, neg1, not1, putM, RL.putAt, RL.setP, setD, setL1, tmpOf, bltD, lenD, bmM, bmD, isLst, smallI, setTg, absD, intD, ltD, leD, gtD, isD, isNone, tyD, isTab, isD', callM, comeBack, tgL, eqD_int, eqD_str, eqD_bl, eqD_non]
end K65
set_option Elab.async false
set_option linter.all false
set_option maxRecDepth 100000
set_option maxHeartbeats 1000000
set_option exponentiation.threshold 2000
/-! k65, the plain law: the law's own row, short. -/
namespace K65
open PySem RL
abbrev pyL (r : List Int) : List PyData := r.map PyData.int
theorem lexLt_iL : ∀ (as bs : List Int), PyProof.Rows.lexLt PyProof.Rows.itemOrd (PySem.W.keyToksAll (pyL as)) (PySem.W.keyToksAll (pyL bs)) = decide (as < bs)
  | [], [] => by
    rw [decide_eq_false (by simp)]; rfl
  | [], b :: bs => by
    rw [decide_eq_true (by simp)]; rfl
  | a :: as, [] => by
    rw [decide_eq_false (by simp)]; rfl
  | a :: as, b :: bs => by
    have ih := lexLt_iL as bs
    have e : ∀ (c : Int) (cs : List Int), PySem.W.keyToksAll (pyL (c :: cs)) = .inl 1 :: .inl c :: PySem.W.keyToksAll (pyL cs) := fun c cs => rfl
    rw [e, e]
    refine (PyProof.Rows.lex_self (O := PyProof.Rows.itemOrd) _ _ _).trans ?_
    refine (PyProof.Rows.lex_cons (O := PyProof.Rows.itemOrd) _ _ _ _).trans ?_
    have e1 : ∀ x y : Int, PyProof.Rows.itemOrd.blt (.inl x) (.inl y) = decide (x < y) := fun _ _ => rfl
    rw [e1, e1, ih]
    by_cases h1 : a < b
    · rw [decide_eq_true h1, decide_eq_true (List.cons_lt_cons_iff.mpr (.inl h1))]; rfl
    · by_cases h2 : b < a
      · have h4 : ¬ ((a :: as) < (b :: bs)) := fun z => by
          rcases List.cons_lt_cons_iff.mp z with z | z
          · exact h1 z
          · omega
        rw [decide_eq_false h1, decide_eq_true h2, decide_eq_false h4]
        rfl
      · have : a = b := by omega
        subst this
        rw [decide_eq_false h1]
        have h3 : ((a :: as) < (a :: bs)) ↔ as < bs := by
          rw [List.cons_lt_cons_iff]; simp
        simp [h3]
theorem dataLe_iL (as bs : List Int) : PySem.W.dataLe false (fun (b : D × PyData) => b.2) (.lst (iL as), .list (pyL as)) (.lst (iL bs), .list (pyL bs)) = leB as bs := by
  show (!PyProof.Rows.lexLt PyProof.Rows.itemOrd (PySem.W.keyToksAll (pyL bs)) (PySem.W.keyToksAll (pyL as))) = _
  rw [lexLt_iL]
  unfold leB
  by_cases h : bs < as
  · rw [decide_eq_true h, decide_eq_false (fun z => List.not_lt.mpr z h)]; rfl
  · rw [decide_eq_false h, decide_eq_true (List.not_lt.mp h)]; rfl
abbrev rL (rows : List (List Int)) : List D := rows.map fun r => .lst (iL r)
theorem toPy_iL : ∀ r : List Int, toPyL (iL r) = some (pyL r)
  | [] => rfl
  | x :: r => by
    show ((toPy (.int x)).bind fun p => (toPyL (iL r)).map (p :: ·)) = _
    rw [toPy_iL r]; rfl
theorem toPy_rL : ∀ rows : List (List Int), toPyL (rL rows) = some (rows.map fun r => .list (pyL r))
  | [] => rfl
  | r :: rows => by
    show ((toPy (.lst (iL r))).bind fun p => (toPyL (rL rows)).map (p :: ·)) = _
    have : toPy (.lst (iL r)) = some (.list (pyL r)) := by
      show (toPyL (iL r)).map PyData.list = _
      rw [toPy_iL]; rfl
    rw [toPy_rL rows, this]; rfl
theorem alike_iL : ∀ as bs : List Int, PySem.W.alikeAll (pyL as) (pyL bs) = true
  | [], bs => by cases bs <;> simp [pyL, PySem.W.alikeAll]
  | a :: as, [] => by simp [pyL, PySem.W.alikeAll]
  | a :: as, b :: bs => by
    have := alike_iL as bs
    simp only [pyL, List.map_cons, PySem.W.alikeAll, PySem.W.alike, Bool.true_and]
    exact this
theorem depth_iL (r : List Int) : PyData.depth (.list (pyL r)) ≤ 8 := by
  have : ∀ r : List Int, PyData.depthAll (pyL r) ≤ 1 := fun r => by
    induction r with
    | nil => simp [pyL, PyData.depthAll]
    | cons x r ih => simp only [pyL, List.map_cons, PyData.depthAll, PyData.depth] at ih ⊢; omega
  have := this r
  simp only [PyData.depth]; omega
theorem sorted_rL (rows : List (List Int)) (h : rows.length ≤ 1000) : sortedD [.nd true .lst (rL rows)] = some (.olst (rL (rows.mergeSort leB))) := by
  have pl : RL.plain (rL rows) = true := List.all_eq_true.mpr fun x hx => by
    obtain ⟨r, _, rfl⟩ := List.mem_map.mp hx
    rfl
  have l1 : (rL rows).length ≤ lim := by simp [lim]; omega
  have ok : sortOk (rows.map fun r => PyData.list (pyL r)) = true := by
    simp only [sortOk, Bool.and_eq_true, Bool.or_eq_true]
    refine ⟨⟨?_, .inr ?_⟩, ?_⟩
    · refine List.all_eq_true.mpr fun x hx => List.all_eq_true.mpr fun y hy => ?_
      obtain ⟨r, _, rfl⟩ := List.mem_map.mp hx
      obtain ⟨q, _, rfl⟩ := List.mem_map.mp hy
      simp only [PySem.W.alike]
      exact alike_iL _ _
    · refine List.all_eq_true.mpr fun x hx => ?_
      obtain ⟨r, _, rfl⟩ := List.mem_map.mp hx
      rfl
    · refine List.all_eq_true.mpr fun x hx => ?_
      obtain ⟨r, _, rfl⟩ := List.mem_map.mp hx
      exact decide_eq_true (depth_iL r)
  have hz : (rL rows).zip (rows.map fun r => PyData.list (pyL r)) = rows.map fun r => (D.lst (iL r), PyData.list (pyL r)) := by
    rw [rL, List.zip_map', ]
  simp only [sortedD, pl, decide_eq_true l1, Bool.and_self, toPy_rL, ok, hz]
  rw [← List.map_mergeSort (r := leB) (s := PySem.W.dataLe false fun (b : D × PyData) => b.2) (f := fun r => (D.lst (iL r), PyData.list (pyL r))) (fun a _ b _ => (dataLe_iL a b).symm), List.map_map]
  rfl
end K65
set_option Elab.async false
set_option linter.all false
set_option maxRecDepth 100000
set_option maxHeartbeats 1000000
set_option exponentiation.threshold 2000
/-! k65, the plain law: the due row. -/
namespace K65
open PySem RL
theorem allR_facts (ns : List Int) : ∀ (n : Nat), (allR ns n).length ≤ 2 ^ n ∧ ∀ r ∈ allR ns n, r.length ≤ n ∧ ∀ k ∈ r, 0 ≤ k ∧ k < n
  | 0 => ⟨by simp [allR], by simp [allR]⟩
  | n + 1 => by
    obtain ⟨h1, h2⟩ := allR_facts ns n
    refine ⟨?_, fun r hr => ?_⟩
    · have := List.length_filter_le (okRow ns n) (allR ns n)
      simp only [allR, List.length_append, List.length_map]
      omega
    · rcases List.mem_append.mp hr with hr | hr
      · obtain ⟨q1, q2⟩ := h2 r hr
        exact ⟨by omega, fun k hk => by have := q2 k hk; omega⟩
      · obtain ⟨q, hq, rfl⟩ := List.mem_map.mp hr
        obtain ⟨q1, q2⟩ := h2 q (List.mem_filter.mp hq).1
        refine ⟨by simp; omega, fun k hk => ?_⟩
        rcases List.mem_append.mp hk with hk | hk
        · have := q2 k hk; omega
        · have : k = n := by simpa using hk
          omega
def unL (d : D) : List Int := (un d).map unI
theorem unL_lst (r : List Int) : unL (.lst (iL r)) = r := by
  simp [unL, un, Function.comp_def, unI]
theorem rL_mem {rows : List (List Int)} {x : D} (h : x ∈ rL rows) : ∃ r ∈ rows, x = .lst (iL r) := by
  obtain ⟨r, h1, rfl⟩ := List.mem_map.mp h
  exact ⟨r, h1, rfl⟩
theorem rL_filter (rows : List (List Int)) (p : List Int → Bool) : (rL rows).filter (fun d => p (unL d)) = rL (rows.filter p) := by
  rw [rL, List.filter_map]
  congr 2
  funext r
  simp [Function.comp, unL_lst]
theorem rL_plain (rows : List (List Int)) : RL.plain (rL rows) = true := List.all_eq_true.mpr fun x hx => by
  obtain ⟨r, _, rfl⟩ := rL_mem hx
  rfl
def allB : List St' := [.asg 1 (.bin .Add (.v 1) (.comp [3] (.nm 3) .seq [(.v 1)] [(.or (.cmp .Eq (.blt .len [(.v 3)]) (.c (.int 0))) (.cmp .Lt (.ix (.v 0) (.ix (.v 3) (.neg (.c (.int 1))))) (.ix (.v 0) (.v 2))))] (.frz (.bin .Add (.v 3) (.lst [(.v 2)])))))]
theorem all_step {Φ : Hd'} (ns : List Int) (hn : ns.length ≤ 9) (i : Nat) (hi : i < ns.length) : exSs P Φ allB [some (.olst (iL ns)), some (.olst (rL (allR ns i))), some (.int i), none] = some (.nx, [some (.olst (iL ns)), some (.olst (rL (allR ns (i + 1)))), some (.int i), none]) := by
  obtain ⟨hr1, hr2⟩ := allR_facts ns i
  have h2 : 2 ^ i ≤ 512 := Nat.le_trans (Nat.pow_le_pow_right (by omega) (by omega : i ≤ 9)) (by decide)
  have ix1 : L2.ixN ns.length (i : Int) = some i := by unfold L2.ixN; rw [if_pos (by omega), if_pos (by omega)]; rfl
  have gi : ns[i]? = some ns[i] := List.getElem?_eq_getElem hi
  have pl := rL_plain (allR ns i)
  have q := ev_comp (Φ := Φ) (i := 3) (k := .seq) (es := [(.v 1)]) (cd := [(.or (.cmp .Eq (.blt .len [(.v 3)]) (.c (.int 0))) (.cmp .Lt (.ix (.v 0) (.ix (.v 3) (.neg (.c (.int 1))))) (.ix (.v 0) (.v 2))))]) (elt := .frz (.bin .Add (.v 3) (.lst [(.v 2)]))) (e := [some (.olst (iL ns)), some (.olst (rL (allR ns i))), some (.int i), none]) (e1 := [some (.olst (iL ns)), some (.olst (rL (allR ns i))), some (.int i), none]) (rs := [.at_ 1 []]) (xs := rL (allR ns i)) (fun d => okRow ns i (unL d)) (fun d => .lst (iL (unL d ++ [(i : Int)])))
    (by simp [fd, run1, initE, exSs, exS, ev, evR, evT, evX, evXs, evXc, dispM, M.bind, M.ret, M.guard, M.lift, M.fail, takeL, takeR, varM, RL.slotAt, own_nd, own_int, own_str, own_bl, own_non, okPend, touch, touchL, touchR, rootV, varsV, varsL, pureOp, pkLM, pkL, pk, pkM, getP, backA, asgSs, asgS, two, one, ixM, ixEnd, ixD_lst, ixD_tup, childM, childR, SM.of, SM.nx, SM.fail, truthM, truthD, tmpM, ifM, RL.andM, RL.orM, RL.andV, RL.orV, boolM, asBl, cmp2, cmpD, bin2, binD, mulOk, neg1, not1, putM, RL.putAt, RL.setP, setD, setL1, tmpOf, bltD, lenD, bmM, bmD, isLst, smallI, setTg, absD, intD, ltD, leD, gtD, isD, isNone, tyD, isTab, isD', callM, comeBack, tgL, eqD_int, eqD_str, eqD_bl, eqD_non, itM, apart, rfRoots, itD, pl]) (by simp [lim]; omega) (by simp) (fun x hx => by
      obtain ⟨r, _, rfl⟩ := rL_mem hx
      rfl) (fun x hx => by
      obtain ⟨r, hr, rfl⟩ := rL_mem hx
      obtain ⟨g1, g2⟩ := hr2 r hr
      rw [unL_lst]
      rcases last_of (F := r) (ns := ns) (fun k hk => by have := g2 k hk; omega) with hF | ⟨k, v, f1, f2, f3, f4, f5, f6⟩
      · subst hF
        simp [fd, run1, initE, exSs, exS, ev, evR, evT, evX, evXs, evXc, dispM, M.bind, M.ret, M.guard, M.lift, M.fail, takeL, takeR, varM, RL.slotAt, own_nd, own_int, own_str, own_bl, own_non, okPend, touch, touchL, touchR, rootV, varsV, varsL, pureOp, pkLM, pkL, pk, pkM, getP, backA, asgSs, asgS, two, one, ixM, ixEnd, ixD_lst, ixD_tup, childM, childR, SM.of, SM.nx, SM.fail, truthM, truthD, tmpM, ifM, RL.andM, RL.orM, RL.andV, RL.orV, boolM, asBl, cmp2, cmpD, bin2, binD, mulOk, neg1, not1, putM, RL.putAt, RL.setP, setD, setL1, tmpOf, bltD, lenD, bmM, bmD, isLst, smallI, setTg, absD, intD, ltD, leD, gtD, isD, isNone, tyD, isTab, isD', callM, comeBack, tgL, eqD_int, eqD_str, eqD_bl, eqD_non, okRow]
      · have e5 : okRow ns i r = decide (v < ns[i]) := by
          unfold okRow
          rw [List.getLast?_eq_getElem?, f2]
          simp [List.getD, f4, gi]
        rw [e5]
        by_cases c : v < ns[i]
        · simp [fd, run1, initE, exSs, exS, ev, evR, evT, evX, evXs, evXc, dispM, M.bind, M.ret, M.guard, M.lift, M.fail, takeL, takeR, varM, RL.slotAt, own_nd, own_int, own_str, own_bl, own_non, okPend, touch, touchL, touchR, rootV, varsV, varsL, pureOp, pkLM, pkL, pk, pkM, getP, backA, asgSs, asgS, two, one, ixM, ixEnd, ixD_lst, ixD_tup, childM, childR, SM.of, SM.nx, SM.fail, truthM, truthD, tmpM, ifM, RL.andM, RL.orM, RL.andV, RL.orV, boolM, asBl, cmp2, cmpD, bin2, binD, mulOk, neg1, not1, putM, RL.putAt, RL.setP, setD, setL1, tmpOf, bltD, lenD, bmM, bmD, isLst, smallI, setTg, absD, intD, ltD, leD, gtD, isD, isNone, tyD, isTab, isD', callM, comeBack, tgL, eqD_int, eqD_str, eqD_bl, eqD_non, f1, f2, f3, f4, f6, ix1, gi, c]
        · simp [fd, run1, initE, exSs, exS, ev, evR, evT, evX, evXs, evXc, dispM, M.bind, M.ret, M.guard, M.lift, M.fail, takeL, takeR, varM, RL.slotAt, own_nd, own_int, own_str, own_bl, own_non, okPend, touch, touchL, touchR, rootV, varsV, varsL, pureOp, pkLM, pkL, pk, pkM, getP, backA, asgSs, asgS, two, one, ixM, ixEnd, ixD_lst, ixD_tup, childM, childR, SM.of, SM.nx, SM.fail, truthM, truthD, tmpM, ifM, RL.andM, RL.orM, RL.andV, RL.orV, boolM, asBl, cmp2, cmpD, bin2, binD, mulOk, neg1, not1, putM, RL.putAt, RL.setP, setD, setL1, tmpOf, bltD, lenD, bmM, bmD, isLst, smallI, setTg, absD, intD, ltD, leD, gtD, isD, isNone, tyD, isTab, isD', callM, comeBack, tgL, eqD_int, eqD_str, eqD_bl, eqD_non, f1, f2, f3, f4, f6, ix1, gi, c]) (fun x hx _ => by
      obtain ⟨r, hr, rfl⟩ := rL_mem hx
      obtain ⟨g1, g2⟩ := hr2 r hr
      rw [unL_lst]
      have pr : RL.plain (iL r) = true := plain_ints r
      have l1 : r.length + 1 ≤ lim := by simp [lim]; omega
      have l2 : 1 ≤ lim := by decide
      have fzr : fzL (r.map D.int ++ [D.int i]) = r.map D.int ++ [D.int i] := by
        have := iL_fz (r ++ [(i : Int)])
        simpa using this
      have p1 : RL.plain [D.int i] = true := rfl
      simp [fd, run1, initE, exSs, exS, ev, evR, evT, evX, evXs, evXc, dispM, M.bind, M.ret, M.guard, M.lift, M.fail, takeL, takeR, varM, RL.slotAt, own_nd, own_int, own_str, own_bl, own_non, okPend, touch, touchL, touchR, rootV, varsV, varsL, pureOp, pkLM, pkL, pk, pkM, getP, backA, asgSs, asgS, two, one, ixM, ixEnd, ixD_lst, ixD_tup, childM, childR, SM.of, SM.nx, SM.fail, truthM, truthD, tmpM, ifM, RL.andM, RL.orM, RL.andV, RL.orV, boolM, asBl, cmp2, cmpD, bin2, binD, mulOk, neg1, not1, putM, RL.putAt, RL.setP, setD, setL1, tmpOf, bltD, lenD, bmM, bmD, isLst, smallI, setTg, absD, intD, ltD, leD, gtD, isD, isNone, tyD, isTab, isD', callM, comeBack, tgL, eqD_int, eqD_str, eqD_bl, eqD_non, pr, p1, l1, l2, fz, fzr])
  rw [rL_filter, show (rL ((allR ns i).filter (okRow ns i))).map (fun d => D.lst (iL (unL d ++ [(i : Int)]))) = rL (((allR ns i).filter (okRow ns i)).map (· ++ [(i : Int)])) by
    rw [rL, rL, List.map_map, List.map_map]
    refine List.map_congr_left fun r _ => ?_
    simp [unL_lst]] at q
  have pl2 := rL_plain (((allR ns i).filter (okRow ns i)).map (· ++ [(i : Int)]))
  have l3 : (allR ns i).length + ((allR ns i).filter (okRow ns i)).length ≤ lim := by
    have := List.length_filter_le (okRow ns i) (allR ns i)
    simp [lim]; omega
  refine st_nx ?_ st_nil
  have e6 : rL (allR ns (i + 1)) = rL (allR ns i) ++ rL (((allR ns i).filter (okRow ns i)).map (· ++ [(i : Int)])) := by
    rw [allR, rL, List.map_append]
  rw [e6]
  generalize hY : rL (((allR ns i).filter (okRow ns i)).map (· ++ [(i : Int)])) = Y at *
  have l4 : (allR ns i).length + Y.length ≤ lim := by rw [← hY]; simpa using l3
  generalize hX : rL (allR ns i) = X at *
  have l5 : X.length + Y.length ≤ lim := by rw [← hX]; simpa using l4
  simp [backD] at q
  simp [fd, run1, initE, exSs, exS, ev, evR, evT, e1_c, e2_c, e1_g, e2_g, e1_v, e2_v, e1_bin, e2_bin, e1_neg, e2_neg, e1_cmp, e2_cmp, e1_chain, e2_chain, e1_and, e2_and, e1_or, e2_or, e1_not, e2_not, e1_ife, e2_ife, e1_ix, e2_ix, e1_sl, e2_sl, e1_tup, e2_tup, e1_lst, e2_lst, e1_dic0, e2_dic0, e1_call, e2_call, e1_blt, e2_blt, e1_bm, e2_bm, e1_frz, e2_frz, e1_view, e2_view, evXs, evXc, dispM, M.bind, M.ret, M.guard, M.lift, M.fail, takeL, takeR, varM, RL.slotAt, own_nd, own_int, own_str, own_bl, own_non, okPend, touch, touchL, touchR, rootV, varsV, varsL, pureOp, pkLM, pkL, pk, pkM, getP, backA, asgSs, asgS, two, one, ixM, ixEnd, ixD_lst, ixD_tup, childM, childR, SM.of, SM.nx, SM.fail, truthM, truthD, tmpM, ifM, RL.andM, RL.orM, RL.andV, RL.orV, boolM, asBl, cmp2, cmpD, bin2, binD, mulOk, neg1, not1, putM, RL.putAt, RL.setP, setD, setL1, tmpOf, bltD, lenD, bmM, bmD, isLst, smallI, setTg, absD, intD, ltD, leD, gtD, isD, isNone, tyD, isTab, isD', callM, comeBack, tgL, eqD_int, eqD_str, eqD_bl, eqD_non, q, pl, pl2, l5]
theorem all_ok (ns : List Int) (hn : ns.length ≤ 9) (j : Nat) : RL.run P fd (j + 1) f__law_all_rising [.olst (iL ns)] = some (.ok (.olst (rL (allR ns ns.length))), [some (.olst (iL ns))]) := by
  let I : Nat → Env' → Prop := fun i e => ∃ x2, e = [some (.olst (iL ns)), some (.olst (rL (allR ns i))), x2, none]
  obtain ⟨e1, f1, x2, rfl⟩ := forL_inv (set := setTg (.nm 2)) (body := exSs P (RL.run P fd j) allB) I (rangeL 0 ns.length) [some (.olst (iL ns)), some (.olst (rL (allR ns 0))), none, none] 0
    ⟨none, rfl⟩ (fun i x e hx hI => by
      obtain ⟨x2, rfl⟩ := hI
      obtain ⟨hi, rfl⟩ := rangeL_at _ _ _ _ hx
      rw [Nat.zero_add]
      refine ⟨_, _, ?_, all_step ns hn i hi, some (.int i), rfl⟩
      rw [show (0 : Int) + i = i by omega]; rfl)
  rw [Nat.zero_add, rangeL_len] at f1
  have b3 : (ns.length : Int) ≤ 1000000 := by omega
  have b4 : -1000000 ≤ (ns.length : Int) := by omega
  refine run_rt (d := t__law_all_rising) (ds := [.olst (iL ns)]) (e := [some (.olst (iL ns)), none, x2, none]) rfl rfl (by decide) ?_
  show exSs P (RL.run P fd j) b__law_all_rising _ = _
  refine st_nx (e' := [some (.olst (iL ns)), some (.olst (rL (allR ns 0))), none, none]) ?_ ?_
  · have l0 : (0 : Nat) ≤ lim := by decide
    have l1 : (1 : Nat) ≤ lim := by decide
    simp [fd, run1, initE, exSs, exS, ev, evR, evT, evX, evXs, evXc, dispM, M.bind, M.ret, M.guard, M.lift, M.fail, takeL, takeR, varM, RL.slotAt, own_nd, own_int, own_str, own_bl, own_non, okPend, touch, touchL, touchR, rootV, varsV, varsL, pureOp, pkLM, pkL, pk, pkM, getP, backA, asgSs, asgS, two, one, ixM, ixEnd, ixD_lst, ixD_tup, childM, childR, SM.of, SM.nx, SM.fail, truthM, truthD, tmpM, ifM, RL.andM, RL.orM, RL.andV, RL.orV, boolM, asBl, cmp2, cmpD, bin2, binD, mulOk, neg1, not1, putM, RL.putAt, RL.setP, setD, setL1, tmpOf, bltD, lenD, bmM, bmD, isLst, smallI, setTg, absD, intD, ltD, leD, gtD, isD, isNone, tyD, isTab, isD', callM, comeBack, tgL, eqD_int, eqD_str, eqD_bl, eqD_non, t__law_all_rising, allR, l0, l1, fz, fzL]
  refine st_nx (ex_for (rs := [.tmp (.int ns.length)]) (xs := rangeL 0 ns.length) (e' := [some (.olst (iL ns)), some (.olst (rL (allR ns 0))), none, none]) ?_ f1) ?_
  · simp [fd, run1, initE, exSs, exS, ev, evR, evT, evX, evXs, evXc, dispM, M.bind, M.ret, M.guard, M.lift, M.fail, takeL, takeR, varM, RL.slotAt, own_nd, own_int, own_str, own_bl, own_non, okPend, touch, touchL, touchR, rootV, varsV, varsL, pureOp, pkLM, pkL, pk, pkM, getP, backA, asgSs, asgS, two, one, ixM, ixEnd, ixD_lst, ixD_tup, childM, childR, SM.of, SM.nx, SM.fail, truthM, truthD, tmpM, ifM, RL.andM, RL.orM, RL.andV, RL.orV, boolM, asBl, cmp2, cmpD, bin2, binD, mulOk, neg1, not1, putM, RL.putAt, RL.setP, setD, setL1, tmpOf, bltD, lenD, bmM, bmD, isLst, smallI, setTg, absD, intD, ltD, leD, gtD, isD, isNone, tyD, isTab, isD', callM, comeBack, tgL, eqD_int, eqD_str, eqD_bl, eqD_non, itM, apart, rfRoots, it_range1, b3, b4]
  refine st_rt ?_
  simp [fd, run1, initE, exSs, exS, ev, evR, evT, evX, evXs, evXc, dispM, M.bind, M.ret, M.guard, M.lift, M.fail, takeL, takeR, varM, RL.slotAt, own_nd, own_int, own_str, own_bl, own_non, okPend, touch, touchL, touchR, rootV, varsV, varsL, pureOp, pkLM, pkL, pk, pkM, getP, backA, asgSs, asgS, two, one, ixM, ixEnd, ixD_lst, ixD_tup, childM, childR, SM.of, SM.nx, SM.fail, truthM, truthD, tmpM, ifM, RL.andM, RL.orM, RL.andV, RL.orV, boolM, asBl, cmp2, cmpD, bin2, binD, mulOk, neg1, not1, putM, RL.putAt, RL.setP, setD, setL1, tmpOf, bltD, lenD, bmM, bmD, isLst, smallI, setTg, absD, intD, ltD, leD, gtD, isD, isNone, tyD, isTab, isD', callM, comeBack, tgL, eqD_int, eqD_str, eqD_bl, eqD_non]
theorem maxD_nL : ∀ {l : List Nat}, l ≠ [] → maxD' [.nd true .lst (nL l)] = some (.int (greatest l : Nat)) := fun {l} h => by
  cases l with
  | nil => exact absurd rfl h
  | cons m r =>
    have : maxD' [.nd true .lst (nL (m :: r))] = (asInts (nL (m :: r))).bind (oneI maxI) := rfl
    rw [this, asInts_nL]
    show some (D.int (maxI _ _)) = _
    rw [maxI_nL]
    simp [greatest]
theorem due_ok (ns : List Int) (hn : ns.length ≤ 1000) (j : Nat) : RL.run P fd (j + 2) f__law_due_row [.olst (iL ns)] = some (.ok (.olst (iL (rising ns))), [some (.olst (iL ns))]) ∨ RL.run P fd (j + 2) f__law_due_row [.olst (iL ns)] = some (.ok (.lst (iL (rising ns))), [some (.olst (iL ns))]) := by
  by_cases h9 : 9 < ns.length
  · left
    refine run_rt (d := t__law_due_row) (ds := [.olst (iL ns)]) (e := [some (.olst (iL ns)), none, none, none]) rfl rfl (by decide) ?_
    show exSs P (RL.run P fd (j + 1)) b__law_due_row _ = _
    have := lrising_ok ns hn j
    have h9i : (9 : Int) < ns.length := by omega
    refine st_rt ?_
    simp [fd, run1, initE, exSs, exS, ev, evR, evT, evX, evXs, evXc, dispM, M.bind, M.ret, M.guard, M.lift, M.fail, takeL, takeR, varM, RL.slotAt, own_nd, own_int, own_str, own_bl, own_non, okPend, touch, touchL, touchR, rootV, varsV, varsL, pureOp, pkLM, pkL, pk, pkM, getP, backA, asgSs, asgS, two, one, ixM, ixEnd, ixD_lst, ixD_tup, childM, childR, SM.of, SM.nx, SM.fail, truthM, truthD, tmpM, ifM, RL.andM, RL.orM, RL.andV, RL.orV, boolM, asBl, cmp2, cmpD, bin2, binD, mulOk, neg1, not1, putM, RL.putAt, RL.setP, setD, setL1, tmpOf, bltD, lenD, bmM, bmD, isLst, smallI, setTg, absD, intD, ltD, leD, gtD, isD, isNone, tyD, isTab, isD', callM, comeBack, tgL, eqD_int, eqD_str, eqD_bl, eqD_non, t__law_due_row, this, h9, h9i]
  · right
    obtain ⟨hr1, hr2⟩ := allR_facts ns ns.length
    have h2 : 2 ^ ns.length ≤ 512 := Nat.le_trans (Nat.pow_le_pow_right (by omega) (by omega : ns.length ≤ 9)) (by decide)
    have A := all_ok ns (by omega) j
    have due := due_small ns
    generalize hR : allR ns ns.length = R at *
    have Rne : R.map List.length ≠ [] := by
      intro z
      have : R = [] := by simpa using z
      rw [this] at due
      simp at due
    have pl := rL_plain R
    have e0 : (rL R).length ≤ lim := by simp [lim]; omega
    have q1 := ev_comp (Φ := RL.run P fd (j + 1)) (i := 3) (k := .seq) (es := [(.v 1)]) (cd := []) (elt := .blt .len [(.v 3)]) (e := [some (.olst (iL ns)), some (.olst (rL R)), none, none]) (e1 := [some (.olst (iL ns)), some (.olst (rL R)), none, none]) (rs := [.at_ 1 []]) (xs := rL R) (fun _ => true) (fun d => .int ((unL d).length : Nat))
      (by simp [fd, run1, initE, exSs, exS, ev, evR, evT, evX, evXs, evXc, dispM, M.bind, M.ret, M.guard, M.lift, M.fail, takeL, takeR, varM, RL.slotAt, own_nd, own_int, own_str, own_bl, own_non, okPend, touch, touchL, touchR, rootV, varsV, varsL, pureOp, pkLM, pkL, pk, pkM, getP, backA, asgSs, asgS, two, one, ixM, ixEnd, ixD_lst, ixD_tup, childM, childR, SM.of, SM.nx, SM.fail, truthM, truthD, tmpM, ifM, RL.andM, RL.orM, RL.andV, RL.orV, boolM, asBl, cmp2, cmpD, bin2, binD, mulOk, neg1, not1, putM, RL.putAt, RL.setP, setD, setL1, tmpOf, bltD, lenD, bmM, bmD, isLst, smallI, setTg, absD, intD, ltD, leD, gtD, isD, isNone, tyD, isTab, isD', callM, comeBack, tgL, eqD_int, eqD_str, eqD_bl, eqD_non, itM, apart, rfRoots, itD, pl]) e0 (by simp) (fun x hx => by
        obtain ⟨r, _, rfl⟩ := rL_mem hx
        rfl) (fun x hx => by simp [fd, run1, initE, exSs, exS, ev, evR, evT, evX, evXs, evXc, dispM, M.bind, M.ret, M.guard, M.lift, M.fail, takeL, takeR, varM, RL.slotAt, own_nd, own_int, own_str, own_bl, own_non, okPend, touch, touchL, touchR, rootV, varsV, varsL, pureOp, pkLM, pkL, pk, pkM, getP, backA, asgSs, asgS, two, one, ixM, ixEnd, ixD_lst, ixD_tup, childM, childR, SM.of, SM.nx, SM.fail, truthM, truthD, tmpM, ifM, RL.andM, RL.orM, RL.andV, RL.orV, boolM, asBl, cmp2, cmpD, bin2, binD, mulOk, neg1, not1, putM, RL.putAt, RL.setP, setD, setL1, tmpOf, bltD, lenD, bmM, bmD, isLst, smallI, setTg, absD, intD, ltD, leD, gtD, isD, isNone, tyD, isTab, isD', callM, comeBack, tgL, eqD_int, eqD_str, eqD_bl, eqD_non]) (fun x hx _ => by
        obtain ⟨r, _, rfl⟩ := rL_mem hx
        rw [unL_lst]
        simp [fd, run1, initE, exSs, exS, ev, evR, evT, evX, evXs, evXc, dispM, M.bind, M.ret, M.guard, M.lift, M.fail, takeL, takeR, varM, RL.slotAt, own_nd, own_int, own_str, own_bl, own_non, okPend, touch, touchL, touchR, rootV, varsV, varsL, pureOp, pkLM, pkL, pk, pkM, getP, backA, asgSs, asgS, two, one, ixM, ixEnd, ixD_lst, ixD_tup, childM, childR, SM.of, SM.nx, SM.fail, truthM, truthD, tmpM, ifM, RL.andM, RL.orM, RL.andV, RL.orV, boolM, asBl, cmp2, cmpD, bin2, binD, mulOk, neg1, not1, putM, RL.putAt, RL.setP, setD, setL1, tmpOf, bltD, lenD, bmM, bmD, isLst, smallI, setTg, absD, intD, ltD, leD, gtD, isD, isNone, tyD, isTab, isD', callM, comeBack, tgL, eqD_int, eqD_str, eqD_bl, eqD_non])
    rw [show (rL R).filter (fun _ => true) = rL R by simp, show (rL R).map (fun d => D.int ((unL d).length : Nat)) = nL (R.map List.length) by
      rw [rL, nL, List.map_map, List.map_map]
      refine List.map_congr_left fun r _ => ?_
      simp [unL_lst]] at q1
    have mx := maxD_nL Rne
    generalize hG : greatest (R.map List.length) = G at *
    have q2 := ev_comp (Φ := RL.run P fd (j + 1)) (i := 3) (k := .seq) (es := [(.v 1)]) (cd := [(.cmp .Eq (.blt .len [(.v 3)]) (.v 2))]) (elt := .v 3) (e := [some (.olst (iL ns)), some (.olst (rL R)), some (.int (G : Nat)), none]) (e1 := [some (.olst (iL ns)), some (.olst (rL R)), some (.int (G : Nat)), none]) (rs := [.at_ 1 []]) (xs := rL R) (fun d => decide ((unL d).length = G)) (fun d => d)
      (by simp [fd, run1, initE, exSs, exS, ev, evR, evT, evX, evXs, evXc, dispM, M.bind, M.ret, M.guard, M.lift, M.fail, takeL, takeR, varM, RL.slotAt, own_nd, own_int, own_str, own_bl, own_non, okPend, touch, touchL, touchR, rootV, varsV, varsL, pureOp, pkLM, pkL, pk, pkM, getP, backA, asgSs, asgS, two, one, ixM, ixEnd, ixD_lst, ixD_tup, childM, childR, SM.of, SM.nx, SM.fail, truthM, truthD, tmpM, ifM, RL.andM, RL.orM, RL.andV, RL.orV, boolM, asBl, cmp2, cmpD, bin2, binD, mulOk, neg1, not1, putM, RL.putAt, RL.setP, setD, setL1, tmpOf, bltD, lenD, bmM, bmD, isLst, smallI, setTg, absD, intD, ltD, leD, gtD, isD, isNone, tyD, isTab, isD', callM, comeBack, tgL, eqD_int, eqD_str, eqD_bl, eqD_non, itM, apart, rfRoots, itD, pl]) e0 (by simp) (fun x hx => by
        obtain ⟨r, _, rfl⟩ := rL_mem hx
        rfl) (fun x hx => by
        obtain ⟨r, _, rfl⟩ := rL_mem hx
        rw [unL_lst]
        by_cases c : r.length = G
        · simp [fd, run1, initE, exSs, exS, ev, evR, evT, evX, evXs, evXc, dispM, M.bind, M.ret, M.guard, M.lift, M.fail, takeL, takeR, varM, RL.slotAt, own_nd, own_int, own_str, own_bl, own_non, okPend, touch, touchL, touchR, rootV, varsV, varsL, pureOp, pkLM, pkL, pk, pkM, getP, backA, asgSs, asgS, two, one, ixM, ixEnd, ixD_lst, ixD_tup, childM, childR, SM.of, SM.nx, SM.fail, truthM, truthD, tmpM, ifM, RL.andM, RL.orM, RL.andV, RL.orV, boolM, asBl, cmp2, cmpD, bin2, binD, mulOk, neg1, not1, putM, RL.putAt, RL.setP, setD, setL1, tmpOf, bltD, lenD, bmM, bmD, isLst, smallI, setTg, absD, intD, ltD, leD, gtD, isD, isNone, tyD, isTab, isD', callM, comeBack, tgL, eqD_int, eqD_str, eqD_bl, eqD_non, c]
        · have c' : ¬ (r.length : Int) = G := by omega
          simp [fd, run1, initE, exSs, exS, ev, evR, evT, evX, evXs, evXc, dispM, M.bind, M.ret, M.guard, M.lift, M.fail, takeL, takeR, varM, RL.slotAt, own_nd, own_int, own_str, own_bl, own_non, okPend, touch, touchL, touchR, rootV, varsV, varsL, pureOp, pkLM, pkL, pk, pkM, getP, backA, asgSs, asgS, two, one, ixM, ixEnd, ixD_lst, ixD_tup, childM, childR, SM.of, SM.nx, SM.fail, truthM, truthD, tmpM, ifM, RL.andM, RL.orM, RL.andV, RL.orV, boolM, asBl, cmp2, cmpD, bin2, binD, mulOk, neg1, not1, putM, RL.putAt, RL.setP, setD, setL1, tmpOf, bltD, lenD, bmM, bmD, isLst, smallI, setTg, absD, intD, ltD, leD, gtD, isD, isNone, tyD, isTab, isD', callM, comeBack, tgL, eqD_int, eqD_str, eqD_bl, eqD_non, c, c']) (fun x hx _ => by
        obtain ⟨r, _, rfl⟩ := rL_mem hx
        simp [fd, run1, initE, exSs, exS, ev, evR, evT, evX, evXs, evXc, dispM, M.bind, M.ret, M.guard, M.lift, M.fail, takeL, takeR, varM, RL.slotAt, own_nd, own_int, own_str, own_bl, own_non, okPend, touch, touchL, touchR, rootV, varsV, varsL, pureOp, pkLM, pkL, pk, pkM, getP, backA, asgSs, asgS, two, one, ixM, ixEnd, ixD_lst, ixD_tup, childM, childR, SM.of, SM.nx, SM.fail, truthM, truthD, tmpM, ifM, RL.andM, RL.orM, RL.andV, RL.orV, boolM, asBl, cmp2, cmpD, bin2, binD, mulOk, neg1, not1, putM, RL.putAt, RL.setP, setD, setL1, tmpOf, bltD, lenD, bmM, bmD, isLst, smallI, setTg, absD, intD, ltD, leD, gtD, isD, isNone, tyD, isTab, isD', callM, comeBack, tgL, eqD_int, eqD_str, eqD_bl, eqD_non])
    rw [show (rL R).filter (fun d => decide ((unL d).length = G)) = rL (R.filter fun r => decide (r.length = G)) from rL_filter R fun r => decide (r.length = G), List.map_id'] at q2
    have so := sorted_rL (R.filter fun r => decide (r.length = G)) (by have := List.length_filter_le (fun r => decide (r.length = G)) R; omega)
    generalize hS : (R.filter fun r => decide (r.length = G)).mergeSort leB = S at *
    generalize hT : rL (R.filter fun r => decide (r.length = G)) = T at *
    have g0 : (rL S)[0]? = some (.lst (iL (rising ns))) := by rw [List.getElem?_map, due]; rfl
    have ix0 : L2.ixN S.length 0 = some 0 := by
      have := (List.getElem?_eq_some_iff.mp due).1
      unfold L2.ixN; rw [if_pos (by omega), if_pos (by omega)]; rfl
    refine run_rt (d := t__law_due_row) (ds := [.olst (iL ns)]) (e := [some (.olst (iL ns)), some (.olst (rL R)), some (.int (G : Nat)), none]) rfl rfl (by decide) ?_
    show exSs P (RL.run P fd (j + 1)) b__law_due_row _ = _
    refine st_nx (e' := [some (.olst (iL ns)), none, none, none]) (by
      have h9i : ¬ (9 : Int) < ns.length := by omega
      simp [fd, run1, initE, exSs, exS, ev, evR, evT, evX, evXs, evXc, dispM, M.bind, M.ret, M.guard, M.lift, M.fail, takeL, takeR, varM, RL.slotAt, own_nd, own_int, own_str, own_bl, own_non, okPend, touch, touchL, touchR, rootV, varsV, varsL, pureOp, pkLM, pkL, pk, pkM, getP, backA, asgSs, asgS, two, one, ixM, ixEnd, ixD_lst, ixD_tup, childM, childR, SM.of, SM.nx, SM.fail, truthM, truthD, tmpM, ifM, RL.andM, RL.orM, RL.andV, RL.orV, boolM, asBl, cmp2, cmpD, bin2, binD, mulOk, neg1, not1, putM, RL.putAt, RL.setP, setD, setL1, tmpOf, bltD, lenD, bmM, bmD, isLst, smallI, setTg, absD, intD, ltD, leD, gtD, isD, isNone, tyD, isTab, isD', callM, comeBack, tgL, eqD_int, eqD_str, eqD_bl, eqD_non, t__law_due_row, h9, h9i]) ?_
    refine st_nx (e' := [some (.olst (iL ns)), some (.olst (rL R)), none, none]) (by simp [fd, run1, initE, exSs, exS, ev, evR, evT, evX, evXs, evXc, dispM, M.bind, M.ret, M.guard, M.lift, M.fail, takeL, takeR, varM, RL.slotAt, own_nd, own_int, own_str, own_bl, own_non, okPend, touch, touchL, touchR, rootV, varsV, varsL, pureOp, pkLM, pkL, pk, pkM, getP, backA, asgSs, asgS, two, one, ixM, ixEnd, ixD_lst, ixD_tup, childM, childR, SM.of, SM.nx, SM.fail, truthM, truthD, tmpM, ifM, RL.andM, RL.orM, RL.andV, RL.orV, boolM, asBl, cmp2, cmpD, bin2, binD, mulOk, neg1, not1, putM, RL.putAt, RL.setP, setD, setL1, tmpOf, bltD, lenD, bmM, bmD, isLst, smallI, setTg, absD, intD, ltD, leD, gtD, isD, isNone, tyD, isTab, isD', callM, comeBack, tgL, eqD_int, eqD_str, eqD_bl, eqD_non, A]) ?_
    replace q1 : _ = some (Out.ok (Rf.tmp (.olst (nL (R.map List.length)))), [some (D.olst (iL ns)), some (D.olst (rL R)), none, none]) := q1
    replace q2 : _ = some (Out.ok (Rf.tmp (.olst T)), [some (D.olst (iL ns)), some (D.olst (rL R)), some (D.int (G : Nat)), none]) := q2
    refine st_nx (e' := [some (D.olst (iL ns)), some (D.olst (rL R)), some (D.int (G : Nat)), none]) (by
      generalize nL (R.map List.length) = Z at q1 mx
      generalize rL R = Y at q1
      simp [fd, run1, initE, exSs, exS, ev, evR, evT, e1_c, e2_c, e1_g, e2_g, e1_v, e2_v, e1_bin, e2_bin, e1_neg, e2_neg, e1_cmp, e2_cmp, e1_chain, e2_chain, e1_and, e2_and, e1_or, e2_or, e1_not, e2_not, e1_ife, e2_ife, e1_ix, e2_ix, e1_sl, e2_sl, e1_tup, e2_tup, e1_lst, e2_lst, e1_dic0, e2_dic0, e1_call, e2_call, e1_blt, e2_blt, e1_bm, e2_bm, e1_frz, e2_frz, e1_view, e2_view, evXs, evXc, dispM, M.bind, M.ret, M.guard, M.lift, M.fail, takeL, takeR, varM, RL.slotAt, own_nd, own_int, own_str, own_bl, own_non, okPend, touch, touchL, touchR, rootV, varsV, varsL, pureOp, pkLM, pkL, pk, pkM, getP, backA, asgSs, asgS, two, one, ixM, ixEnd, ixD_lst, ixD_tup, childM, childR, SM.of, SM.nx, SM.fail, truthM, truthD, tmpM, ifM, RL.andM, RL.orM, RL.andV, RL.orV, boolM, asBl, cmp2, cmpD, bin2, binD, mulOk, neg1, not1, putM, RL.putAt, RL.setP, setD, setL1, tmpOf, bltD, lenD, bmM, bmD, isLst, smallI, setTg, absD, intD, ltD, leD, gtD, isD, isNone, tyD, isTab, isD', callM, comeBack, tgL, eqD_int, eqD_str, eqD_bl, eqD_non, q1, mx]) ?_
    refine st_rt ?_
    generalize hU : rL S = U at *
    have ul : U.length = S.length := by rw [← hU]; simp
    have ix0' : L2.ixN U.length 0 = some 0 := by rw [ul]; exact ix0
    generalize rL R = Y at q2
    simp [fd, run1, initE, exSs, exS, ev, evR, evT, e1_c, e2_c, e1_g, e2_g, e1_v, e2_v, e1_bin, e2_bin, e1_neg, e2_neg, e1_cmp, e2_cmp, e1_chain, e2_chain, e1_and, e2_and, e1_or, e2_or, e1_not, e2_not, e1_ife, e2_ife, e1_ix, e2_ix, e1_sl, e2_sl, e1_tup, e2_tup, e1_lst, e2_lst, e1_dic0, e2_dic0, e1_call, e2_call, e1_blt, e2_blt, e1_bm, e2_bm, e1_frz, e2_frz, e1_view, e2_view, evXs, evXc, dispM, M.bind, M.ret, M.guard, M.lift, M.fail, takeL, takeR, varM, RL.slotAt, own_nd, own_int, own_str, own_bl, own_non, okPend, touch, touchL, touchR, rootV, varsV, varsL, pureOp, pkLM, pkL, pk, pkM, getP, backA, asgSs, asgS, two, one, ixM, ixEnd, ixD_lst, ixD_tup, childM, childR, SM.of, SM.nx, SM.fail, truthM, truthD, tmpM, ifM, RL.andM, RL.orM, RL.andV, RL.orV, boolM, asBl, cmp2, cmpD, bin2, binD, mulOk, neg1, not1, putM, RL.putAt, RL.setP, setD, setL1, tmpOf, bltD, lenD, bmM, bmD, isLst, smallI, setTg, absD, intD, ltD, leD, gtD, isD, isNone, tyD, isTab, isD', callM, comeBack, tgL, eqD_int, eqD_str, eqD_bl, eqD_non, q2, so, ix0', g0]
end K65
set_option Elab.async false
set_option linter.all false
set_option maxRecDepth 100000
set_option maxHeartbeats 1000000
set_option exponentiation.threshold 2000
/-! k65, the plain law: the text's own answers. -/
namespace K65
open PySem RL
/-- what a row may hold -/
def Gd (x : D) : Prop := x.own = false ∧ fz x = x ∧ ∃ t, tyD x = some t
def isI : D → Bool
  | .int _ => true
  | _ => false
theorem gd_int (i : Int) : Gd (.int i) := ⟨rfl, rfl, _, rfl⟩
theorem is_int_ok {x : D} (h : Gd x) (j : Nat) : ∃ e, RL.run P fd (j + 1) f_is_integer [x] = some (.ok (.bl (isI x)), e) := by
  obtain ⟨h1, h2, t, h3⟩ := h
  refine ⟨[some x], ?_⟩
  rw [run_succ]
  cases x with
  | nd o k xs =>
    have ho : o = false := h1
    subst ho
    clear h1 h2
    cases k <;> first | (simp [tyD] at h3; done) | (clear h3; simp [t_is_integer, b_is_integer, fd, run1, initE, exSs, exS, ev, evR, evT, evX, evXs, evXc, dispM, M.bind, M.ret, M.guard, M.lift, M.fail, takeL, takeR, varM, RL.slotAt, own_nd, own_int, own_str, own_bl, own_non, okPend, touch, touchL, touchR, rootV, varsV, varsL, pureOp, pkLM, pkL, pk, pkM, getP, backA, asgSs, asgS, two, one, ixM, ixEnd, ixD_lst, ixD_tup, childM, childR, SM.of, SM.nx, SM.fail, truthM, truthD, tmpM, ifM, RL.andM, RL.orM, RL.andV, RL.orV, boolM, asBl, cmp2, cmpD, bin2, binD, mulOk, neg1, not1, putM, RL.putAt, RL.setP, setD, setL1, tmpOf, bltD, lenD, bmM, bmD, isLst, smallI, setTg, absD, intD, ltD, leD, gtD, isD, isNone, tyD, isTab, isD', callM, comeBack, tgL, eqD_int, eqD_str, eqD_bl, eqD_non, isI])
  | fn g => simp [tyD] at h3
  | _ => clear h1 h2 h3; simp [t_is_integer, b_is_integer, fd, run1, initE, exSs, exS, ev, evR, evT, evX, evXs, evXc, dispM, M.bind, M.ret, M.guard, M.lift, M.fail, takeL, takeR, varM, RL.slotAt, own_nd, own_int, own_str, own_bl, own_non, okPend, touch, touchL, touchR, rootV, varsV, varsL, pureOp, pkLM, pkL, pk, pkM, getP, backA, asgSs, asgS, two, one, ixM, ixEnd, ixD_lst, ixD_tup, childM, childR, SM.of, SM.nx, SM.fail, truthM, truthD, tmpM, ifM, RL.andM, RL.orM, RL.andV, RL.orV, boolM, asBl, cmp2, cmpD, bin2, binD, mulOk, neg1, not1, putM, RL.putAt, RL.setP, setD, setL1, tmpOf, bltD, lenD, bmM, bmD, isLst, smallI, setTg, absD, intD, ltD, leD, gtD, isD, isNone, tyD, isTab, isD', callM, comeBack, tgL, eqD_int, eqD_str, eqD_bl, eqD_non, isI]
theorem bools_all (xs : List D) : asBools (xs.map fun x => D.bl (isI x)) = some (xs.map isI) := by
  induction xs with
  | nil => rfl
  | cons x xs ih => simp only [List.map_cons, asBools, ih]; rfl
theorem all_int (xs : List D) (hx : ∀ x ∈ xs, Gd x) (hl : xs.length ≤ 1000) (j : Nat) : (evX P (RL.run P fd (j + 1)) (.comp [1] (.nm 1) .seq [(.v 0)] [] (.view f_is_integer [(.v 1)]))).1 [some (.olst xs), none] = some (.ok (.tmp (.olst (xs.map fun x => D.bl (isI x)))), [some (.olst xs), none]) := by
  have pl : RL.plain xs = true := List.all_eq_true.mpr fun x m => by simp [(hx x m).1]
  have q := ev_comp (Φ := RL.run P fd (j + 1)) (i := 1) (k := .seq) (es := [(.v 0)]) (cd := []) (elt := .view f_is_integer [(.v 1)]) (e := [some (.olst xs), none]) (e1 := [some (.olst xs), none]) (rs := [.at_ 0 []]) (xs := xs) (fun _ => true) (fun x => .bl (isI x))
    (by simp [fd, run1, initE, exSs, exS, ev, evR, evT, evX, evXs, evXc, dispM, M.bind, M.ret, M.guard, M.lift, M.fail, takeL, takeR, varM, RL.slotAt, own_nd, own_int, own_str, own_bl, own_non, okPend, touch, touchL, touchR, rootV, varsV, varsL, pureOp, pkLM, pkL, pk, pkM, getP, backA, asgSs, asgS, two, one, ixM, ixEnd, ixD_lst, ixD_tup, childM, childR, SM.of, SM.nx, SM.fail, truthM, truthD, tmpM, ifM, RL.andM, RL.orM, RL.andV, RL.orV, boolM, asBl, cmp2, cmpD, bin2, binD, mulOk, neg1, not1, putM, RL.putAt, RL.setP, setD, setL1, tmpOf, bltD, lenD, bmM, bmD, isLst, smallI, setTg, absD, intD, ltD, leD, gtD, isD, isNone, tyD, isTab, isD', callM, comeBack, tgL, eqD_int, eqD_str, eqD_bl, eqD_non, itM, apart, rfRoots, itD, pl]) (by simp [lim]; omega) (by simp) (fun x m => (hx x m).1) (fun x m => by simp [fd, run1, initE, exSs, exS, ev, evR, evT, evX, evXs, evXc, dispM, M.bind, M.ret, M.guard, M.lift, M.fail, takeL, takeR, varM, RL.slotAt, own_nd, own_int, own_str, own_bl, own_non, okPend, touch, touchL, touchR, rootV, varsV, varsL, pureOp, pkLM, pkL, pk, pkM, getP, backA, asgSs, asgS, two, one, ixM, ixEnd, ixD_lst, ixD_tup, childM, childR, SM.of, SM.nx, SM.fail, truthM, truthD, tmpM, ifM, RL.andM, RL.orM, RL.andV, RL.orV, boolM, asBl, cmp2, cmpD, bin2, binD, mulOk, neg1, not1, putM, RL.putAt, RL.setP, setD, setL1, tmpOf, bltD, lenD, bmM, bmD, isLst, smallI, setTg, absD, intD, ltD, leD, gtD, isD, isNone, tyD, isTab, isD', callM, comeBack, tgL, eqD_int, eqD_str, eqD_bl, eqD_non]) (fun x m _ => by
      obtain ⟨e, h⟩ := is_int_ok (hx x m) j
      have h1 := (hx x m).1
      have h2 := (hx x m).2.1
      simp [fd, run1, initE, exSs, exS, ev, evR, evT, evX, evXs, evXc, dispM, M.bind, M.ret, M.guard, M.lift, M.fail, takeL, takeR, varM, RL.slotAt, own_nd, own_int, own_str, own_bl, own_non, okPend, touch, touchL, touchR, rootV, varsV, varsL, pureOp, pkLM, pkL, pk, pkM, getP, backA, asgSs, asgS, two, one, ixM, ixEnd, ixD_lst, ixD_tup, childM, childR, SM.of, SM.nx, SM.fail, truthM, truthD, tmpM, ifM, RL.andM, RL.orM, RL.andV, RL.orV, boolM, asBl, cmp2, cmpD, bin2, binD, mulOk, neg1, not1, putM, RL.putAt, RL.setP, setD, setL1, tmpOf, bltD, lenD, bmM, bmD, isLst, smallI, setTg, absD, intD, ltD, leD, gtD, isD, isNone, tyD, isTab, isD', callM, comeBack, tgL, eqD_int, eqD_str, eqD_bl, eqD_non, viewD, flatD, fzL, h1, h2, h])
  rw [show (xs.filter fun _ => true) = xs by simp] at q
  exact q
theorem cond_list (xs : List D) (hx : ∀ x ∈ xs, Gd x) (hl : xs.length ≤ 1000) (j : Nat) : evT P (RL.run P fd (j + 1)) (.or (.not (.blt .islist [(.v 0)])) (.not (.blt .all [(.comp [1] (.nm 1) .seq [(.v 0)] [] (.view f_is_integer [(.v 1)]))]))) [some (.olst xs), none] = some (.ok (!xs.all isI), [some (.olst xs), none]) := by
  have q := all_int xs hx hl j
  have b := bools_all xs
  generalize (xs.map fun x => D.bl (isI x)) = Z at *
  have e1 : (xs.map isI).all id = xs.all isI := by rw [List.all_map]; rfl
  simp only [List.all_map] at e1
  simp [fd, run1, initE, exSs, exS, ev, evR, evT, e1_c, e2_c, e1_g, e2_g, e1_v, e2_v, e1_bin, e2_bin, e1_neg, e2_neg, e1_cmp, e2_cmp, e1_chain, e2_chain, e1_and, e2_and, e1_or, e2_or, e1_not, e2_not, e1_ife, e2_ife, e1_ix, e2_ix, e1_sl, e2_sl, e1_tup, e2_tup, e1_lst, e2_lst, e1_dic0, e2_dic0, e1_call, e2_call, e1_blt, e2_blt, e1_bm, e2_bm, e1_frz, e2_frz, e1_view, e2_view, evXs, evXc, dispM, M.bind, M.ret, M.guard, M.lift, M.fail, takeL, takeR, varM, RL.slotAt, own_nd, own_int, own_str, own_bl, own_non, okPend, touch, touchL, touchR, rootV, varsV, varsL, pureOp, pkLM, pkL, pk, pkM, getP, backA, asgSs, asgS, two, one, ixM, ixEnd, ixD_lst, ixD_tup, childM, childR, SM.of, SM.nx, SM.fail, truthM, truthD, tmpM, ifM, RL.andM, RL.orM, RL.andV, RL.orV, boolM, asBl, cmp2, cmpD, bin2, binD, mulOk, neg1, not1, putM, RL.putAt, RL.setP, setD, setL1, tmpOf, bltD, lenD, bmM, bmD, isLst, smallI, setTg, absD, intD, ltD, leD, gtD, isD, isNone, tyD, isTab, isD', callM, comeBack, tgL, eqD_int, eqD_str, eqD_bl, eqD_non, q, allD, b]
/-! ### a dict of the numbers -/
theorem pos_none {κ : Type} [DecidableEq κ] (q : κ) : ∀ ks : List κ, pos q ks = none ↔ q ∉ ks
  | [] => by simp [pos]
  | k :: ks => by
    simp only [pos]
    by_cases h : k = q
    · simp [h]
    · rw [if_neg h, Option.map_eq_none_iff, pos_none q ks]
      simp [Ne.symm h]
def ksA : List L2.Key → List Int → List L2.Key
  | ks, [] => ks
  | ks, x :: xs => ksA (match pos (Sum.inl x) ks with | some _ => ks | none => ks ++ [.inl x]) xs
theorem dcompL_iL {cd : M Bool} {ke ve : M D} {y : D} (L : D) (hc : ∀ x, cd [some L, some (.int x)] = some (.ok true, [some L, some (.int x)])) (hk : ∀ x, ke [some L, some (.int x)] = some (.ok (.int x), [some L, some (.int x)])) (hv : ∀ x, ve [some L, some (.int x)] = some (.ok y, [some L, some (.int x)])) (hy : y.own = false) :
    ∀ (xs : List Int) (ks : List L2.Key) (vs : List D), ks.length = vs.length → ∃ vs', dcompL [1] (setTg (.nm 1)) cd ke ve (iL xs) ks vs [some L, none] = some ((ksA ks xs, vs'), [some L, none]) ∧ vs'.length = (ksA ks xs).length
  | [], ks, vs, h => ⟨vs, rfl, h.symm⟩
  | x :: xs, ks, vs, h => by
    have hs : setTg (.nm 1) (.int x) [some L, none] = some [some L, some (.int x)] := rfl
    have hq : asKey (.int x) = some (.inl x) := rfl
    have hb : killL [1] [some L, some (.int x)] = [some L, none] := rfl
    obtain ⟨vs', q1, q2⟩ := dcompL_iL L hc hk hv hy xs (putE ks vs (.inl x) y).1 (putE ks vs (.inl x) y).2 (by
      unfold putE
      cases pos (Sum.inl x : L2.Key) ks <;> simp [h])
    have e : (putE ks vs (.inl x) y).1 = (match pos (Sum.inl x : L2.Key) ks with | some _ => ks | none => ks ++ [.inl x]) := by
      unfold putE
      cases pos (Sum.inl x : L2.Key) ks <;> rfl
    rw [e] at q1 q2
    refine ⟨vs', ?_, q2⟩
    simp only [iL, List.map_cons, dcompL, hs, hc, hk, hv, hq, hy, hb]
    rw [e]
    exact q1
theorem ksA_len : ∀ (xs : List Int) (ks : List L2.Key), (ksA ks xs).length ≤ ks.length + xs.length ∧ (xs.Nodup → (∀ x ∈ xs, (Sum.inl x : L2.Key) ∉ ks) → (ksA ks xs).length = ks.length + xs.length) ∧ (¬ xs.Nodup ∨ (∃ x ∈ xs, (Sum.inl x : L2.Key) ∈ ks) → (ksA ks xs).length < ks.length + xs.length)
  | [], ks => ⟨by simp [ksA], by simp [ksA], by simp⟩
  | x :: xs, ks => by
    simp only [ksA, List.length_cons]
    cases hp : pos (Sum.inl x : L2.Key) ks with
    | some n =>
      obtain ⟨h1, h2, h3⟩ := ksA_len xs ks
      have hm : (Sum.inl x : L2.Key) ∈ ks := Classical.byContradiction fun z => by
        rw [(pos_none _ _).mpr z] at hp; cases hp
      refine ⟨by dsimp only; omega, fun _ h => absurd hm (h x (by simp)), fun _ => by dsimp only; omega⟩
    | none =>
      obtain ⟨h1, h2, h3⟩ := ksA_len xs (ks ++ [.inl x])
      have hm := (pos_none _ _).mp hp
      simp only [List.length_append, List.length_cons, List.length_nil] at h1 h2 h3
      refine ⟨by dsimp only; omega, fun hn h => ?_, fun h => ?_⟩
      · have hn' := List.nodup_cons.mp hn
        have := h2 hn'.2 (fun y hy hk => by
          rcases List.mem_append.mp hk with hk | hk
          · exact h y (by simp [hy]) hk
          · have : y = x := by simpa using hk
            subst this
            exact hn'.1 hy)
        dsimp only; omega
      · have := h3 (by
          by_cases hx : x ∈ xs
          · exact .inr ⟨x, hx, by simp⟩
          · by_cases hn : xs.Nodup
            · right
              rcases h with h | ⟨y, hy, hk⟩
              · exact absurd (List.nodup_cons.mpr ⟨hx, hn⟩) h
              · rcases List.mem_cons.mp hy with rfl | hy
                · exact absurd hk hm
                · exact ⟨y, hy, by simp [hk]⟩
            · exact .inl hn)
        dsimp only; omega
theorem ev_dic (xs : List Int) (hl : xs.length ≤ 1000) {Φ : Hd'} : ∃ ks vs, (evX P Φ (.dcomp [1] (.nm 1) .seq [(.v 0)] [] (.v 1) (.c (.bl true)))).1 [some (.olst (iL xs)), none] = some (.ok (.tmp (.nd true (.dK ks) vs)), [some (.olst (iL xs)), none]) ∧ (xs.Nodup → vs.length = xs.length) ∧ (¬ xs.Nodup → vs.length < xs.length) := by
  have pl := plain_ints xs
  have hl' : xs.length ≤ lim := by simp [lim]; omega
  obtain ⟨vs, q1, q2⟩ := dcompL_iL (cd := evXc P Φ []) (ke := M.bind (evX P Φ (.v 1)).1 takeR) (ve := M.bind (evX P Φ (.c (.bl true))).1 takeR) (y := .bl true) (.olst (iL xs)) (fun x => by simp [fd, run1, initE, exSs, exS, ev, evR, evT, evX, evXs, evXc, dispM, M.bind, M.ret, M.guard, M.lift, M.fail, takeL, takeR, varM, RL.slotAt, own_nd, own_int, own_str, own_bl, own_non, okPend, touch, touchL, touchR, rootV, varsV, varsL, pureOp, pkLM, pkL, pk, pkM, getP, backA, asgSs, asgS, two, one, ixM, ixEnd, ixD_lst, ixD_tup, childM, childR, SM.of, SM.nx, SM.fail, truthM, truthD, tmpM, ifM, RL.andM, RL.orM, RL.andV, RL.orV, boolM, asBl, cmp2, cmpD, bin2, binD, mulOk, neg1, not1, putM, RL.putAt, RL.setP, setD, setL1, tmpOf, bltD, lenD, bmM, bmD, isLst, smallI, setTg, absD, intD, ltD, leD, gtD, isD, isNone, tyD, isTab, isD', callM, comeBack, tgL, eqD_int, eqD_str, eqD_bl, eqD_non]) (fun x => by simp [fd, run1, initE, exSs, exS, ev, evR, evT, evX, evXs, evXc, dispM, M.bind, M.ret, M.guard, M.lift, M.fail, takeL, takeR, varM, RL.slotAt, own_nd, own_int, own_str, own_bl, own_non, okPend, touch, touchL, touchR, rootV, varsV, varsL, pureOp, pkLM, pkL, pk, pkM, getP, backA, asgSs, asgS, two, one, ixM, ixEnd, ixD_lst, ixD_tup, childM, childR, SM.of, SM.nx, SM.fail, truthM, truthD, tmpM, ifM, RL.andM, RL.orM, RL.andV, RL.orV, boolM, asBl, cmp2, cmpD, bin2, binD, mulOk, neg1, not1, putM, RL.putAt, RL.setP, setD, setL1, tmpOf, bltD, lenD, bmM, bmD, isLst, smallI, setTg, absD, intD, ltD, leD, gtD, isD, isNone, tyD, isTab, isD', callM, comeBack, tgL, eqD_int, eqD_str, eqD_bl, eqD_non]) (fun x => by simp [fd, run1, initE, exSs, exS, ev, evR, evT, evX, evXs, evXc, dispM, M.bind, M.ret, M.guard, M.lift, M.fail, takeL, takeR, varM, RL.slotAt, own_nd, own_int, own_str, own_bl, own_non, okPend, touch, touchL, touchR, rootV, varsV, varsL, pureOp, pkLM, pkL, pk, pkM, getP, backA, asgSs, asgS, two, one, ixM, ixEnd, ixD_lst, ixD_tup, childM, childR, SM.of, SM.nx, SM.fail, truthM, truthD, tmpM, ifM, RL.andM, RL.orM, RL.andV, RL.orV, boolM, asBl, cmp2, cmpD, bin2, binD, mulOk, neg1, not1, putM, RL.putAt, RL.setP, setD, setL1, tmpOf, bltD, lenD, bmM, bmD, isLst, smallI, setTg, absD, intD, ltD, leD, gtD, isD, isNone, tyD, isTab, isD', callM, comeBack, tgL, eqD_int, eqD_str, eqD_bl, eqD_non]) rfl xs [] [] rfl
  obtain ⟨k1, k2, k3⟩ := ksA_len xs []
  refine ⟨ksA [] xs, vs, ?_, fun hn => by have := k2 hn (by simp); simp at this; omega, fun hn => by have := k3 (.inl hn); simp at this; omega⟩
  have hit : itM .seq (evXs P Φ [(.v 0)]) (tgL (.nm 1) ++ ([1] ++ (touchL [] ++ ((touchR (.v 1) ++ varsV (.v 1)) ++ (touchR (.c (.bl true)) ++ varsV (.c (.bl true))))))) [some (.olst (iL xs)), none] = some (.ok ([.at_ 0 []], iL xs), [some (.olst (iL xs)), none]) := by
    simp [fd, run1, initE, exSs, exS, ev, evR, evT, evX, evXs, evXc, dispM, M.bind, M.ret, M.guard, M.lift, M.fail, takeL, takeR, varM, RL.slotAt, own_nd, own_int, own_str, own_bl, own_non, okPend, touch, touchL, touchR, rootV, varsV, varsL, pureOp, pkLM, pkL, pk, pkM, getP, backA, asgSs, asgS, two, one, ixM, ixEnd, ixD_lst, ixD_tup, childM, childR, SM.of, SM.nx, SM.fail, truthM, truthD, tmpM, ifM, RL.andM, RL.orM, RL.andV, RL.orV, boolM, asBl, cmp2, cmpD, bin2, binD, mulOk, neg1, not1, putM, RL.putAt, RL.setP, setD, setL1, tmpOf, bltD, lenD, bmM, bmD, isLst, smallI, setTg, absD, intD, ltD, leD, gtD, isD, isNone, tyD, isTab, isD', callM, comeBack, tgL, eqD_int, eqD_str, eqD_bl, eqD_non, itM, apart, rfRoots, itD, pl]
  have kl : killL [1] [some (D.olst (iL xs)), none] = [some (D.olst (iL xs)), none] := rfl
  have ll : (iL xs).length ≤ lim := by simpa using hl'
  unfold evX
  simp only [M.bind, hit, dcompM, ll, decide_true, kl]
  rw [q1]
  rfl
end K65
set_option Elab.async false
set_option linter.all false
set_option maxRecDepth 100000
set_option maxHeartbeats 1000000
set_option exponentiation.threshold 2000
/-! k65, the plain law: told and raised. -/
namespace K65
open PySem RL
theorem exfP3 : P.exf 3 = some [Str.ofString "name"] := rfl
theorem errP3 (xs : List D) : P.err 3 [Str.ofString "name"] xs = some (.olst [.str "raised", .str "BadValue", .tup xs.reverse]) := by
  show errP 3 [Str.ofString "name"] xs = _
  rw [errP, if_pos ⟨rfl, rfl⟩]
theorem cond_dic (xs : List Int) (hl : xs.length ≤ 1000) {Φ : Hd'} (b : Bool) (hb : b = true ↔ ¬ xs.Nodup) : evT P Φ (.cmp .Lt (.blt .len [(.dcomp [1] (.nm 1) .seq [(.v 0)] [] (.v 1) (.c (.bl true)))]) (.blt .len [(.v 0)])) [some (.olst (iL xs)), none] = some (.ok b, [some (.olst (iL xs)), none]) := by
  obtain ⟨ks, vs, h1, h2, h3⟩ := ev_dic xs hl (Φ := Φ)
  by_cases hn : xs.Nodup
  · have := h2 hn
    have hb' : b = false := by
      cases b with
      | true => exact absurd hn (hb.mp rfl)
      | false => rfl
    subst hb'
    simp [fd, run1, initE, exSs, exS, ev, evR, evT, e1_c, e2_c, e1_g, e2_g, e1_v, e2_v, e1_bin, e2_bin, e1_neg, e2_neg, e1_cmp, e2_cmp, e1_chain, e2_chain, e1_and, e2_and, e1_or, e2_or, e1_not, e2_not, e1_ife, e2_ife, e1_ix, e2_ix, e1_sl, e2_sl, e1_tup, e2_tup, e1_lst, e2_lst, e1_dic0, e2_dic0, e1_call, e2_call, e1_blt, e2_blt, e1_bm, e2_bm, e1_frz, e2_frz, e1_view, e2_view, evXs, evXc, dispM, M.bind, M.ret, M.guard, M.lift, M.fail, takeL, takeR, varM, RL.slotAt, own_nd, own_int, own_str, own_bl, own_non, okPend, touch, touchL, touchR, rootV, varsV, varsL, pureOp, pkLM, pkL, pk, pkM, getP, backA, asgSs, asgS, two, one, ixM, ixEnd, ixD_lst, ixD_tup, childM, childR, SM.of, SM.nx, SM.fail, truthM, truthD, tmpM, ifM, RL.andM, RL.orM, RL.andV, RL.orV, boolM, asBl, cmp2, cmpD, bin2, binD, mulOk, neg1, not1, putM, RL.putAt, RL.setP, setD, setL1, tmpOf, bltD, lenD, bmM, bmD, isLst, smallI, setTg, absD, intD, ltD, leD, gtD, isD, isNone, tyD, isTab, isD', callM, comeBack, tgL, eqD_int, eqD_str, eqD_bl, eqD_non, h1, this]
  · have := h3 hn
    have hb' : b = true := hb.mpr hn
    subst hb'
    have c : (vs.length : Int) < xs.length := by omega
    simp [fd, run1, initE, exSs, exS, ev, evR, evT, e1_c, e2_c, e1_g, e2_g, e1_v, e2_v, e1_bin, e2_bin, e1_neg, e2_neg, e1_cmp, e2_cmp, e1_chain, e2_chain, e1_and, e2_and, e1_or, e2_or, e1_not, e2_not, e1_ife, e2_ife, e1_ix, e2_ix, e1_sl, e2_sl, e1_tup, e2_tup, e1_lst, e2_lst, e1_dic0, e2_dic0, e1_call, e2_call, e1_blt, e2_blt, e1_bm, e2_bm, e1_frz, e2_frz, e1_view, e2_view, evXs, evXc, dispM, M.bind, M.ret, M.guard, M.lift, M.fail, takeL, takeR, varM, RL.slotAt, own_nd, own_int, own_str, own_bl, own_non, okPend, touch, touchL, touchR, rootV, varsV, varsL, pureOp, pkLM, pkL, pk, pkM, getP, backA, asgSs, asgS, two, one, ixM, ixEnd, ixD_lst, ixD_tup, childM, childR, SM.of, SM.nx, SM.fail, truthM, truthD, tmpM, ifM, RL.andM, RL.orM, RL.andV, RL.orV, boolM, asBl, cmp2, cmpD, bin2, binD, mulOk, neg1, not1, putM, RL.putAt, RL.setP, setD, setL1, tmpOf, bltD, lenD, bmM, bmD, isLst, smallI, setTg, absD, intD, ltD, leD, gtD, isD, isNone, tyD, isTab, isD', callM, comeBack, tgL, eqD_int, eqD_str, eqD_bl, eqD_non, h1, this, c]
theorem ex_ife {Φ : Hd'} {c : Ex'} {a b : List St'} {e e' : Env'} {z : Bool} (h : evT P Φ c e = some (.ok z, e')) : exS P Φ (.ife c a b) e = exSs P Φ (if z then a else b) e' := by
  simp only [exS, SM.of, h]
  cases z <;> rfl
theorem kept_ok (ns : List Int) (hn : ns.Nodup) (hl : ns.length ≤ 1000) (j : Nat) : RL.run P fd (j + 4) f_kept_row [.olst (iL ns)] = some (.ok (.olst (iL (rising ns))), [some (.olst (iL ns))]) := by
  have c1 := cond_list (iL ns) (fun x m => by
    obtain ⟨i, _, rfl⟩ := List.mem_map.mp m
    exact gd_int i) (by simpa using hl) (j + 2)
  have c2 := cond_dic ns hl (Φ := RL.run P fd (j + 3)) false (by simp [hn])
  have e1 : (iL ns).all isI = true := List.all_eq_true.mpr fun x m => by
    obtain ⟨i, _, rfl⟩ := List.mem_map.mp m
    rfl
  rw [e1] at c1
  have r := rising_ok ns hl j
  refine run_rt (d := t_kept_row) (ds := [.olst (iL ns)]) (e := [some (.olst (iL ns)), none]) rfl rfl (by decide) ?_
  show exSs P (RL.run P fd (j + 3)) b_kept_row _ = _
  refine st_nx (e' := [some (.olst (iL ns)), none]) ((ex_ife c1).trans rfl) ?_
  refine st_nx (e' := [some (.olst (iL ns)), none]) ((ex_ife c2).trans rfl) ?_
  refine st_rt ?_
  simp [fd, run1, initE, exSs, exS, ev, evR, evT, evX, evXs, evXc, dispM, M.bind, M.ret, M.guard, M.lift, M.fail, takeL, takeR, varM, RL.slotAt, own_nd, own_int, own_str, own_bl, own_non, okPend, touch, touchL, touchR, rootV, varsV, varsL, pureOp, pkLM, pkL, pk, pkM, getP, backA, asgSs, asgS, two, one, ixM, ixEnd, ixD_lst, ixD_tup, childM, childR, SM.of, SM.nx, SM.fail, truthM, truthD, tmpM, ifM, RL.andM, RL.orM, RL.andV, RL.orV, boolM, asBl, cmp2, cmpD, bin2, binD, mulOk, neg1, not1, putM, RL.putAt, RL.setP, setD, setL1, tmpOf, bltD, lenD, bmM, bmD, isLst, smallI, setTg, absD, intD, ltD, leD, gtD, isD, isNone, tyD, isTab, isD', callM, comeBack, tgL, eqD_int, eqD_str, eqD_bl, eqD_non, r]
/-- what is refused -/
def Bad (w : D) : Prop := (w.own = false ∧ fz w = w ∧ ∃ t, tyD w = some t ∧ t ≠ .list) ∨ (∃ xs : List D, w = .olst xs ∧ (∀ x ∈ xs, Gd x) ∧ xs.length ≤ 1000 ∧ xs.all isI = false) ∨ ∃ ns : List Int, w = .olst (iL ns) ∧ ns.length ≤ 1000 ∧ ¬ ns.Nodup
theorem raise_ok {Φ : Hd'} (w : Option D) : exSs P Φ [.raise 3 [(.c (.str "numbers"))]] [w, none] = some (.ex 3 [Str.ofString "name"] [.str "numbers"], [w, none]) := by
  simp [fd, run1, initE, exSs, exS, ev, evR, evT, evX, evXs, evXc, dispM, M.bind, M.ret, M.guard, M.lift, M.fail, takeL, takeR, varM, RL.slotAt, own_nd, own_int, own_str, own_bl, own_non, okPend, touch, touchL, touchR, rootV, varsV, varsL, pureOp, pkLM, pkL, pk, pkM, getP, backA, asgSs, asgS, two, one, ixM, ixEnd, ixD_lst, ixD_tup, childM, childR, SM.of, SM.nx, SM.fail, truthM, truthD, tmpM, ifM, RL.andM, RL.orM, RL.andV, RL.orV, boolM, asBl, cmp2, cmpD, bin2, binD, mulOk, neg1, not1, putM, RL.putAt, RL.setP, setD, setL1, tmpOf, bltD, lenD, bmM, bmD, isLst, smallI, setTg, absD, intD, ltD, leD, gtD, isD, isNone, tyD, isTab, isD', callM, comeBack, tgL, eqD_int, eqD_str, eqD_bl, eqD_non, exfP3, fzL, fz]
theorem st_ex {Φ : Hd'} {s : St'} {ss : List St'} {e e' : Env'} {c : Nat} {ns : List Str} {xs : List D} (h : exS P Φ s e = some (.ex c ns xs, e')) : exSs P Φ (s :: ss) e = some (.ex c ns xs, e') := by
  simp only [exSs, h]
theorem kept_bad {w : D} (h : Bad w) (j : Nat) : RL.run P fd (j + 4) f_kept_row [w] = some (.ex 3 [Str.ofString "name"] [.str "numbers"], [some w]) := by
  refine run_ex (d := t_kept_row) (ds := [w]) (e := [some w, none]) rfl rfl (by decide) ?_
  show exSs P (RL.run P fd (j + 3)) b_kept_row [some w, none] = _
  rcases h with ⟨h1, _, t, h2, h3⟩ | ⟨xs, rfl, h1, h2, h3⟩ | ⟨ns, rfl, h1, h2⟩
  · have c : evT P (RL.run P fd (j + 3)) (.or (.not (.blt .islist [(.v 0)])) (.not (.blt .all [(.comp [1] (.nm 1) .seq [(.v 0)] [] (.view f_is_integer [(.v 1)]))]))) [some w, none] = some (.ok true, [some w, none]) := by
      have hb : bltD .islist [w] = some (.bl false) := by
        show isD' .islist [w] = _
        simp only [isD', h2]
        cases t <;> first | rfl | exact absurd rfl h3
      simp [fd, run1, initE, exSs, exS, ev, evR, evT, e1_c, e2_c, e1_g, e2_g, e1_v, e2_v, e1_bin, e2_bin, e1_neg, e2_neg, e1_cmp, e2_cmp, e1_chain, e2_chain, e1_and, e2_and, e1_or, e2_or, e1_not, e2_not, e1_ife, e2_ife, e1_ix, e2_ix, e1_sl, e2_sl, e1_tup, e2_tup, e1_lst, e2_lst, e1_dic0, e2_dic0, e1_call, e2_call, e1_blt, e2_blt, e1_bm, e2_bm, e1_frz, e2_frz, e1_view, e2_view, evXs, evXc, dispM, M.bind, M.ret, M.guard, M.lift, M.fail, takeL, takeR, varM, RL.slotAt, own_nd, own_int, own_str, own_bl, own_non, okPend, touch, touchL, touchR, rootV, varsV, varsL, pureOp, pkLM, pkL, pk, pkM, getP, backA, asgSs, asgS, two, one, ixM, ixEnd, ixD_lst, ixD_tup, childM, childR, SM.of, SM.nx, SM.fail, truthM, truthD, tmpM, ifM, RL.andM, RL.orM, RL.andV, RL.orV, boolM, asBl, cmp2, cmpD, bin2, binD, mulOk, neg1, not1, putM, RL.putAt, RL.setP, setD, setL1, tmpOf, lenD, bmM, bmD, isLst, smallI, setTg, absD, intD, ltD, leD, gtD, isD, isNone, callM, comeBack, tgL, eqD_int, eqD_str, eqD_bl, eqD_non, h1, hb]
    exact st_ex ((ex_ife c).trans (raise_ok _))
  · have c := cond_list xs h1 h2 (j + 2)
    rw [h3] at c
    exact st_ex ((ex_ife c).trans (raise_ok _))
  · have c1 := cond_list (iL ns) (fun x m => by
      obtain ⟨i, _, rfl⟩ := List.mem_map.mp m
      exact gd_int i) (by simpa using h1) (j + 2)
    have c2 := cond_dic ns h1 (Φ := RL.run P fd (j + 3)) true (by simp [h2])
    have e1 : (iL ns).all isI = true := List.all_eq_true.mpr fun x m => by
      obtain ⟨i, _, rfl⟩ := List.mem_map.mp m
      rfl
    rw [e1] at c1
    refine st_nx (e' := [some (.olst (iL ns)), none]) ((ex_ife c1).trans rfl) ?_
    exact st_ex ((ex_ife c2).trans (raise_ok _))
theorem Bad.own {w : D} (h : Bad w) : w.own = true ∨ w.own = false := by cases w.own <;> simp
theorem ask_ok (ns : List Int) (hn : ns.Nodup) (hl : ns.length ≤ 1000) (j : Nat) : RL.run P fd (j + 5) f__law_ask [.olst (iL ns)] = some (.ok (.olst [.str "told", .olst (iL (rising ns))]), [some (.olst (iL ns))]) := by
  have k := kept_ok ns hn hl j
  refine run_rt (d := t__law_ask) (ds := [.olst (iL ns)]) (e := [some (.olst (iL ns)), none]) rfl rfl (by decide) ?_
  show exSs P (RL.run P fd (j + 4)) b__law_ask _ = _
  refine st_rt ?_
  have l2 : 2 ≤ lim := by decide
  simp [fd, run1, initE, exSs, exS, ev, evR, evT, evX, evXs, evXc, dispM, M.bind, M.ret, M.guard, M.lift, M.fail, takeL, takeR, varM, RL.slotAt, own_nd, own_int, own_str, own_bl, own_non, okPend, touch, touchL, touchR, rootV, varsV, varsL, pureOp, pkLM, pkL, pk, pkM, getP, backA, asgSs, asgS, two, one, ixM, ixEnd, ixD_lst, ixD_tup, childM, childR, SM.of, SM.nx, SM.fail, truthM, truthD, tmpM, ifM, RL.andM, RL.orM, RL.andV, RL.orV, boolM, asBl, cmp2, cmpD, bin2, binD, mulOk, neg1, not1, putM, RL.putAt, RL.setP, setD, setL1, tmpOf, bltD, lenD, bmM, bmD, isLst, smallI, setTg, absD, intD, ltD, leD, gtD, isD, isNone, tyD, isTab, isD', callM, comeBack, tgL, eqD_int, eqD_str, eqD_bl, eqD_non, t__law_ask, k, l2]
theorem ask_bad {w : D} (h : Bad w) (j : Nat) : RL.run P fd (j + 5) f__law_ask [w] = some (.ok (.olst [.str "raised", .str "BadValue", .tup [.str "numbers"]]), [some w]) := by
  have k := kept_bad h j
  refine run_rt (d := t__law_ask) (ds := [w]) (e := [some w, none]) rfl rfl (by decide) ?_
  show exSs P (RL.run P fd (j + 4)) b__law_ask [some w, none] = _
  refine st_rt ?_
  have b : exSs P (RL.run P fd (j + 4)) [.ret (.lst [(.c (.str "told")), (.call f_kept_row [(.v 0)])])] [some w, none] = some (.ex 3 [Str.ofString "name"] [.str "numbers"], [some w, none]) := by
    refine st_ex ?_
    cases ho : w.own <;> simp [fd, run1, initE, exSs, exS, ev, evR, evT, evX, evXs, evXc, dispM, M.bind, M.ret, M.guard, M.lift, M.fail, takeL, takeR, varM, RL.slotAt, own_nd, own_int, own_str, own_bl, own_non, okPend, touch, touchL, touchR, rootV, varsV, varsL, pureOp, pkLM, pkL, pk, pkM, getP, backA, asgSs, asgS, two, one, ixM, ixEnd, ixD_lst, ixD_tup, childM, childR, SM.of, SM.nx, SM.fail, truthM, truthD, tmpM, ifM, RL.andM, RL.orM, RL.andV, RL.orV, boolM, asBl, cmp2, cmpD, bin2, binD, mulOk, neg1, not1, putM, RL.putAt, RL.setP, setD, setL1, tmpOf, bltD, lenD, bmM, bmD, isLst, smallI, setTg, absD, intD, ltD, leD, gtD, isD, isNone, tyD, isTab, isD', callM, comeBack, tgL, eqD_int, eqD_str, eqD_bl, eqD_non, k, ho]
  simp only [exS, b, errP3]
  rfl
end K65
set_option Elab.async false
set_option linter.all false
set_option maxRecDepth 100000
set_option maxHeartbeats 1000000
set_option exponentiation.threshold 2000
/-! k65, the plain law: wrong values. -/
namespace K65
open PySem RL
theorem cut_lo (xs : List D) (a : Int) (h0 : 0 ≤ a) (h1 : a ≤ xs.length) : cutL xs none (some a) = xs.take a.toNat := by
  have e : HT.sIx xs.length xs.length (some a) = a.toNat := by
    show (if a < 0 then (a + (xs.length : Int)).toNat else min a.toNat xs.length) = _
    rw [if_neg (by omega)]; omega
  rw [cutL, e]
  simp [HT.sIx]
theorem cut_hi (xs : List D) (a : Int) (h0 : 0 ≤ a) (h1 : a ≤ xs.length) : cutL xs (some a) none = xs.drop a.toNat := by
  have e : HT.sIx xs.length 0 (some a) = a.toNat := by
    show (if a < 0 then (a + (xs.length : Int)).toNat else min a.toNat xs.length) = _
    rw [if_neg (by omega)]; omega
  rw [cutL, e]
  have e2 : HT.sIx xs.length xs.length none = xs.length := rfl
  rw [e2]
  exact List.take_of_length_le (by simp)
theorem bad_ins (xs : List Int) (hx : xs.length ≤ 900) (k : Nat) (x : D) (hg : Gd x) (hn : isI x = false) : Bad (.olst ((iL xs).take k ++ [x] ++ (iL xs).drop k)) := by
  refine .inr (.inl ⟨_, rfl, fun y hy => ?_, ?_, ?_⟩)
  · have : y ∈ iL xs ∨ y = x := by
      simp only [List.mem_append, List.mem_singleton] at hy
      rcases hy with (hy | hy) | hy
      · exact .inl (List.mem_of_mem_take hy)
      · exact .inr hy
      · exact .inl (List.mem_of_mem_drop hy)
    rcases this with h | rfl
    · obtain ⟨i, _, rfl⟩ := List.mem_map.mp h
      exact gd_int i
    · exact hg
  · simp; omega
  · simp [hn]
theorem bad_dup (xs : List Int) (hx : xs.length ≤ 900) (k : Nat) (x : Int) (hm : x ∈ xs) : Bad (.olst ((iL xs).take k ++ [.int x] ++ (iL xs).drop k)) := by
  refine .inr (.inr ⟨xs.take k ++ [x] ++ xs.drop k, by simp, by simp; omega, fun hn => ?_⟩)
  rw [← List.take_append_drop k xs] at hm
  rw [List.append_assoc] at hn
  have h1 := List.nodup_append.mp hn
  rcases List.mem_append.mp hm with h | h
  · exact h1.2.2 x h x (by simp) rfl
  · have h2 := List.nodup_cons.mp (by simpa using h1.2.1)
    exact h2.1 h
theorem wrong_ok {s : D} (hs : IsSt s) (xs : List Int) (hx : xs.length ≤ 900) (j : Nat) : ∃ w s', RL.run P fd (j + 3) f__law_wrong [s, .olst (iL xs)] = some (.ok w, [some s', some (.olst (iL xs))]) ∧ Bad w ∧ IsSt s' := by
  obtain ⟨kd, s1, a1, a2, a3, a4⟩ := next_ok hs 6 (j + 1) (by omega) (by omega)
  obtain ⟨at_, s2, b1, b2, b3, b4⟩ := next_ok a4 (xs.length + 1) (j + 1) (by omega) (by omega)
  have hso := hs.own
  have hso1 := a4.own
  have hso2 := b4.own
  have pl := plain_ints xs
  have xl : (iL xs).length = xs.length := by simp
  have s0 : ∀ o, exSs P (RL.run P fd (j + 2)) (b__law_wrong.drop 2) [some s2, some (.olst (iL xs)), some (.int kd), some (.int at_)] = some o → exSs P (RL.run P fd (j + 2)) b__law_wrong [some s, some (.olst (iL xs)), none, none] = some o := fun o h => by
    refine st_nx (e' := [some s1, some (.olst (iL xs)), some (.int kd), none]) (by simp [fd, run1, initE, exSs, exS, ev, evR, evT, evX, evXs, evXc, dispM, M.bind, M.ret, M.guard, M.lift, M.fail, takeL, takeR, varM, RL.slotAt, own_nd, own_int, own_str, own_bl, own_non, okPend, touch, touchL, touchR, rootV, varsV, varsL, pureOp, pkLM, pkL, pk, pkM, getP, backA, asgSs, asgS, two, one, ixM, ixEnd, ixD_lst, ixD_tup, childM, childR, SM.of, SM.nx, SM.fail, truthM, truthD, tmpM, ifM, RL.andM, RL.orM, RL.andV, RL.orV, boolM, asBl, cmp2, cmpD, bin2, binD, mulOk, neg1, not1, putM, RL.putAt, RL.setP, setD, setL1, tmpOf, bltD, lenD, bmM, bmD, isLst, smallI, setTg, absD, intD, ltD, leD, gtD, isD, isNone, tyD, isTab, isD', callM, comeBack, tgL, eqD_int, eqD_str, eqD_bl, eqD_non, a1, hso, hso1]) ?_
    exact st_nx (e' := [some s2, some (.olst (iL xs)), some (.int kd), some (.int at_)]) (by simp [fd, run1, initE, exSs, exS, ev, evR, evT, evX, evXs, evXc, dispM, M.bind, M.ret, M.guard, M.lift, M.fail, takeL, takeR, varM, RL.slotAt, own_nd, own_int, own_str, own_bl, own_non, okPend, touch, touchL, touchR, rootV, varsV, varsL, pureOp, pkLM, pkL, pk, pkM, getP, backA, asgSs, asgS, two, one, ixM, ixEnd, ixD_lst, ixD_tup, childM, childR, SM.of, SM.nx, SM.fail, truthM, truthD, tmpM, ifM, RL.andM, RL.orM, RL.andV, RL.orV, boolM, asBl, cmp2, cmpD, bin2, binD, mulOk, neg1, not1, putM, RL.putAt, RL.setP, setD, setL1, tmpOf, bltD, lenD, bmM, bmD, isLst, smallI, setTg, absD, intD, ltD, leD, gtD, isD, isNone, tyD, isTab, isD', callM, comeBack, tgL, eqD_int, eqD_str, eqD_bl, eqD_non, b1, hso1, hso2]) h
  have fin : ∀ w s3, IsSt s3 → Bad w → exSs P (RL.run P fd (j + 2)) (b__law_wrong.drop 2) [some s2, some (.olst (iL xs)), some (.int kd), some (.int at_)] = some (.rt w, [some s3, some (.olst (iL xs)), some (.int kd), some (.int at_)]) → ∃ w s', RL.run P fd (j + 3) f__law_wrong [s, .olst (iL xs)] = some (.ok w, [some s', some (.olst (iL xs))]) ∧ Bad w ∧ IsSt s' := fun w s3 h1 h2 h3 =>
    ⟨w, s3, run_rt (d := t__law_wrong) (ds := [s, .olst (iL xs)]) (e := [some s3, some (.olst (iL xs)), some (.int kd), some (.int at_)]) rfl rfl (by decide) (s0 _ h3), h2, h1⟩
  have c1 := cut_lo (iL xs) at_ b2 (by rw [xl]; omega)
  have c2 := cut_hi (iL xs) at_ b2 (by rw [xl]; omega)
  have p1 : RL.plain ((iL xs).take at_.toNat) = true := List.all_eq_true.mpr fun x m => List.all_eq_true.mp pl x (List.mem_of_mem_take m)
  have p2 : RL.plain ((iL xs).drop at_.toNat) = true := List.all_eq_true.mpr fun x m => List.all_eq_true.mp pl x (List.mem_of_mem_drop m)
  have l1 : ((iL xs).take at_.toNat).length ≤ 900 := by simp; omega
  have l2 : ((iL xs).drop at_.toNat).length ≤ 900 := by simp; omega
  have q1 : 1 ≤ lim := by decide
  by_cases k0 : kd = 0 ∧ 0 < xs.length
  · obtain ⟨k0, k1⟩ := k0
    subst k0
    obtain ⟨x, s3, d1, d2, d3⟩ := pick_ok b4 true .lst (.inl rfl) (iL xs) pl j (by simpa using k1) (by simp; omega)
    have hso3 := d3.own
    obtain ⟨v, hv, rfl⟩ := List.mem_map.mp d2
    refine fin _ s3 d3 (bad_dup xs hx at_.toNat v hv) ?_
    generalize hA : (iL xs).take at_.toNat = A at *
    generalize hB : (iL xs).drop at_.toNat = B at *
    have l3 : A.length + 1 ≤ lim := by simp [lim]; omega
    have l4 : A.length + 1 + B.length ≤ lim := by simp [lim]; omega
    have p3 : RL.plain (A ++ [D.int v]) = true := by
      simp only [RL.plain, List.all_append] at p1 ⊢
      rw [p1]; rfl
    have p4 : RL.plain [D.int v] = true := rfl
    refine st_rt ?_
    simp [fd, run1, initE, exSs, exS, ev, evR, evT, evX, evXs, evXc, dispM, M.bind, M.ret, M.guard, M.lift, M.fail, takeL, takeR, varM, RL.slotAt, own_nd, own_int, own_str, own_bl, own_non, okPend, touch, touchL, touchR, rootV, varsV, varsL, pureOp, pkLM, pkL, pk, pkM, getP, backA, asgSs, asgS, two, one, ixM, ixEnd, ixD_lst, ixD_tup, childM, childR, SM.of, SM.nx, SM.fail, truthM, truthD, tmpM, ifM, RL.andM, RL.orM, RL.andV, RL.orV, boolM, asBl, cmp2, cmpD, bin2, binD, mulOk, neg1, not1, putM, RL.putAt, RL.setP, setD, setL1, tmpOf, bltD, lenD, bmM, bmD, isLst, smallI, setTg, absD, intD, ltD, leD, gtD, isD, isNone, tyD, isTab, isD', callM, comeBack, tgL, eqD_int, eqD_str, eqD_bl, eqD_non, sliceM, optM, partM, sliceD, c1, c2, d1, hso2, hso3, k1, q1, p1, p2, p3, p4, l3, l4, pl]
  · have n0 : exS P (RL.run P fd (j + 2)) ((b__law_wrong.drop 2).headD .pass) [some s2, some (.olst (iL xs)), some (.int kd), some (.int at_)] = some (.nx, [some s2, some (.olst (iL xs)), some (.int kd), some (.int at_)]) := by
      by_cases z : kd = 0
      · have z2 : ¬ 0 < xs.length := fun q => k0 ⟨z, q⟩
        have z3 : xs = [] := by simpa using z2
        simp [b__law_wrong, fd, run1, initE, exSs, exS, ev, evR, evT, evX, evXs, evXc, dispM, M.bind, M.ret, M.guard, M.lift, M.fail, takeL, takeR, varM, RL.slotAt, own_nd, own_int, own_str, own_bl, own_non, okPend, touch, touchL, touchR, rootV, varsV, varsL, pureOp, pkLM, pkL, pk, pkM, getP, backA, asgSs, asgS, two, one, ixM, ixEnd, ixD_lst, ixD_tup, childM, childR, SM.of, SM.nx, SM.fail, truthM, truthD, tmpM, ifM, RL.andM, RL.orM, RL.andV, RL.orV, boolM, asBl, cmp2, cmpD, bin2, binD, mulOk, neg1, not1, putM, RL.putAt, RL.setP, setD, setL1, tmpOf, bltD, lenD, bmM, bmD, isLst, smallI, setTg, absD, intD, ltD, leD, gtD, isD, isNone, tyD, isTab, isD', callM, comeBack, tgL, eqD_int, eqD_str, eqD_bl, eqD_non, z, z3]
      · simp [b__law_wrong, fd, run1, initE, exSs, exS, ev, evR, evT, evX, evXs, evXc, dispM, M.bind, M.ret, M.guard, M.lift, M.fail, takeL, takeR, varM, RL.slotAt, own_nd, own_int, own_str, own_bl, own_non, okPend, touch, touchL, touchR, rootV, varsV, varsL, pureOp, pkLM, pkL, pk, pkM, getP, backA, asgSs, asgS, two, one, ixM, ixEnd, ixD_lst, ixD_tup, childM, childR, SM.of, SM.nx, SM.fail, truthM, truthD, tmpM, ifM, RL.andM, RL.orM, RL.andV, RL.orV, boolM, asBl, cmp2, cmpD, bin2, binD, mulOk, neg1, not1, putM, RL.putAt, RL.setP, setD, setL1, tmpOf, bltD, lenD, bmM, bmD, isLst, smallI, setTg, absD, intD, ltD, leD, gtD, isD, isNone, tyD, isTab, isD', callM, comeBack, tgL, eqD_int, eqD_str, eqD_bl, eqD_non, z]
    by_cases k1 : kd = 1
    · subst k1
      refine fin (.tup (iL xs)) s2 b4 (.inl ⟨rfl, by rw [fz, iL_fz], _, rfl, by decide⟩) (st_nx n0 ?_)
      refine st_rt ?_
      simp [fd, run1, initE, exSs, exS, ev, evR, evT, evX, evXs, evXc, dispM, M.bind, M.ret, M.guard, M.lift, M.fail, takeL, takeR, varM, RL.slotAt, own_nd, own_int, own_str, own_bl, own_non, okPend, touch, touchL, touchR, rootV, varsV, varsL, pureOp, pkLM, pkL, pk, pkM, getP, backA, asgSs, asgS, two, one, ixM, ixEnd, ixD_lst, ixD_tup, childM, childR, SM.of, SM.nx, SM.fail, truthM, truthD, tmpM, ifM, RL.andM, RL.orM, RL.andV, RL.orV, boolM, asBl, cmp2, cmpD, bin2, binD, mulOk, neg1, not1, putM, RL.putAt, RL.setP, setD, setL1, tmpOf, bltD, lenD, bmM, bmD, isLst, smallI, setTg, absD, intD, ltD, leD, gtD, isD, isNone, tyD, isTab, isD', callM, comeBack, tgL, eqD_int, eqD_str, eqD_bl, eqD_non, tupleD, pl]
    · have n1 : exS P (RL.run P fd (j + 2)) ((b__law_wrong.drop 3).headD .pass) [some s2, some (.olst (iL xs)), some (.int kd), some (.int at_)] = some (.nx, [some s2, some (.olst (iL xs)), some (.int kd), some (.int at_)]) := by
        simp [b__law_wrong, fd, run1, initE, exSs, exS, ev, evR, evT, evX, evXs, evXc, dispM, M.bind, M.ret, M.guard, M.lift, M.fail, takeL, takeR, varM, RL.slotAt, own_nd, own_int, own_str, own_bl, own_non, okPend, touch, touchL, touchR, rootV, varsV, varsL, pureOp, pkLM, pkL, pk, pkM, getP, backA, asgSs, asgS, two, one, ixM, ixEnd, ixD_lst, ixD_tup, childM, childR, SM.of, SM.nx, SM.fail, truthM, truthD, tmpM, ifM, RL.andM, RL.orM, RL.andV, RL.orV, boolM, asBl, cmp2, cmpD, bin2, binD, mulOk, neg1, not1, putM, RL.putAt, RL.setP, setD, setL1, tmpOf, bltD, lenD, bmM, bmD, isLst, smallI, setTg, absD, intD, ltD, leD, gtD, isD, isNone, tyD, isTab, isD', callM, comeBack, tgL, eqD_int, eqD_str, eqD_bl, eqD_non, k1]
      by_cases k5 : kd < 5
      · obtain ⟨x, s3, d1, d2, d3⟩ := pick_ok b4 false .tup (.inr rfl) [.bl true, .bl false, .non, .str "1", .tup [.int 1], .lst [.int 2]] rfl j (by simp) (by simp)
        have hso3 := d3.own
        have hg : Gd x ∧ isI x = false := by
          simp at d2
          rcases d2 with rfl | rfl | rfl | rfl | rfl | rfl <;> exact ⟨⟨rfl, rfl, _, rfl⟩, rfl⟩
        refine fin _ s3 d3 (bad_ins xs hx at_.toNat x hg.1 hg.2) (st_nx n0 (st_nx n1 ?_))
        have hxo := hg.1.1
        generalize hA : (iL xs).take at_.toNat = A at *
        generalize hB : (iL xs).drop at_.toNat = B at *
        have l3 : A.length + 1 ≤ lim := by simp [lim]; omega
        have l4 : A.length + 1 + B.length ≤ lim := by simp [lim]; omega
        have p4 : RL.plain [x] = true := by simp [RL.plain, hxo]
        have p3 : RL.plain (A ++ [x]) = true := by
          simp only [RL.plain, List.all_append] at p1 p4 ⊢
          rw [p1, p4]; rfl
        have q6 : 6 ≤ lim := by decide
        refine st_rt ?_
        simp [fd, run1, initE, exSs, exS, ev, evR, evT, evX, evXs, evXc, dispM, M.bind, M.ret, M.guard, M.lift, M.fail, takeL, takeR, varM, RL.slotAt, own_nd, own_int, own_str, own_bl, own_non, okPend, touch, touchL, touchR, rootV, varsV, varsL, pureOp, pkLM, pkL, pk, pkM, getP, backA, asgSs, asgS, two, one, ixM, ixEnd, ixD_lst, ixD_tup, childM, childR, SM.of, SM.nx, SM.fail, truthM, truthD, tmpM, ifM, RL.andM, RL.orM, RL.andV, RL.orV, boolM, asBl, cmp2, cmpD, bin2, binD, mulOk, neg1, not1, putM, RL.putAt, RL.setP, setD, setL1, tmpOf, bltD, lenD, bmM, bmD, isLst, smallI, setTg, absD, intD, ltD, leD, gtD, isD, isNone, tyD, isTab, isD', callM, comeBack, tgL, eqD_int, eqD_str, eqD_bl, eqD_non, sliceM, optM, partM, sliceD, c1, c2, d1, hso2, hso3, k5, q1, q6, p1, p2, p3, p4, l3, l4, pl, fzL, fz, hxo]
      · obtain ⟨x, s3, d1, d2, d3⟩ := pick_ok b4 false .tup (.inr rfl) [.non, .str "12", .nd false (.dK []) [], .int 7, .bl true] rfl j (by simp) (by simp)
        have hso3 := d3.own
        have hb : Bad x := by
          simp at d2
          rcases d2 with rfl | rfl | rfl | rfl | rfl <;> exact .inl ⟨rfl, rfl, _, rfl, by decide⟩
        have n2 : exS P (RL.run P fd (j + 2)) ((b__law_wrong.drop 4).headD .pass) [some s2, some (.olst (iL xs)), some (.int kd), some (.int at_)] = some (.nx, [some s2, some (.olst (iL xs)), some (.int kd), some (.int at_)]) := by
          simp [b__law_wrong, fd, run1, initE, exSs, exS, ev, evR, evT, evX, evXs, evXc, dispM, M.bind, M.ret, M.guard, M.lift, M.fail, takeL, takeR, varM, RL.slotAt, own_nd, own_int, own_str, own_bl, own_non, okPend, touch, touchL, touchR, rootV, varsV, varsL, pureOp, pkLM, pkL, pk, pkM, getP, backA, asgSs, asgS, two, one, ixM, ixEnd, ixD_lst, ixD_tup, childM, childR, SM.of, SM.nx, SM.fail, truthM, truthD, tmpM, ifM, RL.andM, RL.orM, RL.andV, RL.orV, boolM, asBl, cmp2, cmpD, bin2, binD, mulOk, neg1, not1, putM, RL.putAt, RL.setP, setD, setL1, tmpOf, bltD, lenD, bmM, bmD, isLst, smallI, setTg, absD, intD, ltD, leD, gtD, isD, isNone, tyD, isTab, isD', callM, comeBack, tgL, eqD_int, eqD_str, eqD_bl, eqD_non, k5]
        have hxo : x.own = false := by
          simp at d2
          rcases d2 with rfl | rfl | rfl | rfl | rfl <;> rfl
        have q6 : 5 ≤ lim := by decide
        refine fin x s3 d3 hb (st_nx n0 (st_nx n1 (st_nx n2 ?_)))
        refine st_rt ?_
        simp [fd, run1, initE, exSs, exS, ev, evR, evT, evX, evXs, evXc, dispM, M.bind, M.ret, M.guard, M.lift, M.fail, takeL, takeR, varM, RL.slotAt, own_nd, own_int, own_str, own_bl, own_non, okPend, touch, touchL, touchR, rootV, varsV, varsL, pureOp, pkLM, pkL, pk, pkM, getP, backA, asgSs, asgS, two, one, ixM, ixEnd, ixD_lst, ixD_tup, childM, childR, SM.of, SM.nx, SM.fail, truthM, truthD, tmpM, ifM, RL.andM, RL.orM, RL.andV, RL.orV, boolM, asBl, cmp2, cmpD, bin2, binD, mulOk, neg1, not1, putM, RL.putAt, RL.setP, setD, setL1, tmpOf, bltD, lenD, bmM, bmD, isLst, smallI, setTg, absD, intD, ltD, leD, gtD, isD, isNone, tyD, isTab, isD', callM, comeBack, tgL, eqD_int, eqD_str, eqD_bl, eqD_non, d1, hso2, hso3, q6, fzL, fz, hxo]
end K65
set_option Elab.async false
set_option linter.all false
set_option maxRecDepth 100000
set_option maxHeartbeats 1000000
set_option exponentiation.threshold 2000
/-! k65, the plain law: the law's own comparison. -/
namespace K65
open PySem RL
def Sd : Nat → D → Prop
  | 0, d => (∃ i, d = .int i) ∨ ∃ s, d = .str s ∧ PyData.strOk s = true
  | n + 1, d => ((∃ i, d = .int i) ∨ ∃ s, d = .str s ∧ PyData.strOk s = true) ∨ ∃ k xs, (k = .lst ∨ k = .tup) ∧ d = .nd false k xs ∧ (∀ x ∈ xs, Sd n x) ∧ xs.length ≤ 1000
theorem Sd.flat : ∀ (n : Nat) {d : D}, Sd n d → d.own = false ∧ fz d = d
  | 0, d, h => by
    rcases h with ⟨i, rfl⟩ | ⟨s, rfl, _⟩ <;> exact ⟨rfl, rfl⟩
  | n + 1, d, h => by
    rcases h with (⟨i, rfl⟩ | ⟨s, rfl, _⟩) | ⟨k, xs, _, rfl, h, _⟩
    · exact ⟨rfl, rfl⟩
    · exact ⟨rfl, rfl⟩
    · refine ⟨rfl, ?_⟩
      rw [fz, fzL_eq xs fun x m => (Sd.flat n (h x m)).2]
theorem row_ok (k : Kd) (xs : List D) (hf : fzL xs = xs) (hk : k = .lst ∨ k = .tup) (j : Nat) : ∃ e, RL.run P fd (j + 1) f__law_is_row [.nd false k xs, .str (if k = .tup then "T" else "L"), .int xs.length] = some (.ok (.bl true), e) := by
  refine ⟨[some (.nd false k xs), some (.str (if k = .tup then "T" else "L")), some (.int xs.length)], ?_⟩
  rw [run_succ]
  have sT : PyData.strOk (Str.ofString "T") = true := by decide +kernel
  have sL : PyData.strOk (Str.ofString "L") = true := by decide +kernel
  have ne1 : decide (Str.ofString "T" = Str.ofString "L") = false := by decide +kernel
  have ne2 : decide (Str.ofString "L" = Str.ofString "T") = false := by decide +kernel
  have t1 : eqD (.str "T") (.str "L") = some false := by rw [eqD_str _ _ sT sL, ne1]
  have t2 : eqD (.str "L") (.str "L") = some true := by rw [eqD_str _ _ sL sL]; simp
  have t3 : eqD (.str "T") (.str "T") = some true := by rw [eqD_str _ _ sT sT]; simp
  have t4 : eqD (.str "L") (.str "T") = some false := by rw [eqD_str _ _ sL sT, ne2]
  rcases hk with rfl | rfl
  · simp [t__law_is_row, b__law_is_row, fd, run1, initE, exSs, exS, ev, evR, evT, evX, evXs, evXc, dispM, M.bind, M.ret, M.guard, M.lift, M.fail, takeL, takeR, varM, RL.slotAt, own_nd, own_int, own_str, own_bl, own_non, okPend, touch, touchL, touchR, rootV, varsV, varsL, pureOp, pkLM, pkL, pk, pkM, getP, backA, asgSs, asgS, two, one, ixM, ixEnd, ixD_lst, ixD_tup, childM, childR, SM.of, SM.nx, SM.fail, truthM, truthD, tmpM, ifM, RL.andM, RL.orM, RL.andV, RL.orV, boolM, asBl, cmp2, cmpD, bin2, binD, mulOk, neg1, not1, putM, RL.putAt, RL.setP, setD, setL1, tmpOf, bltD, lenD, bmM, bmD, isLst, smallI, setTg, absD, intD, ltD, leD, gtD, isD, isNone, tyD, isTab, isD', callM, comeBack, tgL, eqD_int, eqD_str, eqD_bl, eqD_non, t1, t2, t3, t4]
  · simp [t__law_is_row, b__law_is_row, fd, run1, initE, exSs, exS, ev, evR, evT, evX, evXs, evXc, dispM, M.bind, M.ret, M.guard, M.lift, M.fail, takeL, takeR, varM, RL.slotAt, own_nd, own_int, own_str, own_bl, own_non, okPend, touch, touchL, touchR, rootV, varsV, varsL, pureOp, pkLM, pkL, pk, pkM, getP, backA, asgSs, asgS, two, one, ixM, ixEnd, ixD_lst, ixD_tup, childM, childR, SM.of, SM.nx, SM.fail, truthM, truthD, tmpM, ifM, RL.andM, RL.orM, RL.andV, RL.orV, boolM, asBl, cmp2, cmpD, bin2, binD, mulOk, neg1, not1, putM, RL.putAt, RL.setP, setD, setL1, tmpOf, bltD, lenD, bmM, bmD, isLst, smallI, setTg, absD, intD, ltD, leD, gtD, isD, isNone, tyD, isTab, isD', callM, comeBack, tgL, eqD_int, eqD_str, eqD_bl, eqD_non, t1, t2, t3, t4]
def samB : List St' := [.ife (.not (.view f__law_same [(.ix (.v 0) (.v 2)), (.ix (.v 1) (.v 2))])) [.ret (.c (.bl false))] []]
theorem same_ok : ∀ (n : Nat) (d : D), Sd n d → ∀ j, ∃ e, RL.run P fd (j + n + 2) f__law_same [d, d] = some (.ok (.bl true), e) := by
  have atom : ∀ d, ((∃ i, d = .int i) ∨ ∃ s, d = .str s ∧ PyData.strOk s = true) → ∀ j, ∃ e, RL.run P fd (j + 1) f__law_same [d, d] = some (.ok (.bl true), e) := by
    rintro d (⟨i, rfl⟩ | ⟨s, rfl, hs⟩) j
    · refine ⟨[some (.int i), some (.int i)], ?_⟩
      rw [run_succ]
      simp [t__law_same, b__law_same, fd, run1, initE, exSs, exS, ev, evR, evT, evX, evXs, evXc, dispM, M.bind, M.ret, M.guard, M.lift, M.fail, takeL, takeR, varM, RL.slotAt, own_nd, own_int, own_str, own_bl, own_non, okPend, touch, touchL, touchR, rootV, varsV, varsL, pureOp, pkLM, pkL, pk, pkM, getP, backA, asgSs, asgS, two, one, ixM, ixEnd, ixD_lst, ixD_tup, childM, childR, SM.of, SM.nx, SM.fail, truthM, truthD, tmpM, ifM, RL.andM, RL.orM, RL.andV, RL.orV, boolM, asBl, cmp2, cmpD, bin2, binD, mulOk, neg1, not1, putM, RL.putAt, RL.setP, setD, setL1, tmpOf, bltD, lenD, bmM, bmD, isLst, smallI, setTg, absD, intD, ltD, leD, gtD, isD, isNone, tyD, isTab, isD', callM, comeBack, tgL, eqD_int, eqD_str, eqD_bl, eqD_non]
    · have t := eqD_str s s hs hs
      refine ⟨[some (.str s), some (.str s)], ?_⟩
      rw [run_succ]
      simp [t__law_same, b__law_same, fd, run1, initE, exSs, exS, ev, evR, evT, evX, evXs, evXc, dispM, M.bind, M.ret, M.guard, M.lift, M.fail, takeL, takeR, varM, RL.slotAt, own_nd, own_int, own_str, own_bl, own_non, okPend, touch, touchL, touchR, rootV, varsV, varsL, pureOp, pkLM, pkL, pk, pkM, getP, backA, asgSs, asgS, two, one, ixM, ixEnd, ixD_lst, ixD_tup, childM, childR, SM.of, SM.nx, SM.fail, truthM, truthD, tmpM, ifM, RL.andM, RL.orM, RL.andV, RL.orV, boolM, asBl, cmp2, cmpD, bin2, binD, mulOk, neg1, not1, putM, RL.putAt, RL.setP, setD, setL1, tmpOf, bltD, lenD, bmM, bmD, isLst, smallI, setTg, absD, intD, ltD, leD, gtD, isD, isNone, tyD, isTab, isD', callM, comeBack, tgL, eqD_int, eqD_str, eqD_bl, eqD_non, t]
  intro n
  induction n with
  | zero => exact fun d h j => atom d h (j + 1)
  | succ n ih =>
    intro d h j
    rcases h with h | ⟨k, xs, hk, rfl, hx, hl⟩
    · exact atom d h (j + n + 2)
    · have hf : fzL xs = xs := fzL_eq xs fun x m => (Sd.flat n (hx x m)).2
      let d := D.nd false k xs
      let I : Nat → Env' → Prop := fun i e => ∃ x2, e = [some d, some d, x2, none]
      obtain ⟨e1, f1, x2, rfl⟩ := forL_inv (set := setTg (.nm 2)) (body := exSs P (RL.run P fd (j + n + 2)) samB) I (rangeL 0 xs.length) [some d, some d, none, none] 0
        ⟨none, rfl⟩ (fun i x e hx2 hI => by
          obtain ⟨x2, rfl⟩ := hI
          obtain ⟨hi, rfl⟩ := rangeL_at _ _ _ _ hx2
          clear hx2
          have ix1 : L2.ixN xs.length (i : Int) = some i := by unfold L2.ixN; rw [if_pos (by omega), if_pos (by omega)]; rfl
          have gi : xs[i]? = some xs[i] := List.getElem?_eq_getElem hi
          have hm := hx xs[i] (List.getElem_mem hi)
          obtain ⟨o1, o2⟩ := Sd.flat n hm
          obtain ⟨e, q⟩ := ih xs[i] hm j
          generalize xs[i] = y at *
          refine ⟨[some d, some d, some (.int i), none], [some d, some d, some (.int i), none], ?_, ?_, some (.int i), rfl⟩
          · rw [show (0 : Int) + i = i by omega]; rfl
          · refine st_nx ?_ st_nil
            rcases hk with rfl | rfl
            · simp [d, fd, run1, initE, exSs, exS, ev, evR, evT, evX, evXs, evXc, dispM, M.bind, M.ret, M.guard, M.lift, M.fail, takeL, takeR, varM, RL.slotAt, own_nd, own_int, own_str, own_bl, own_non, okPend, touch, touchL, touchR, rootV, varsV, varsL, pureOp, pkLM, pkL, pk, pkM, getP, backA, asgSs, asgS, two, one, ixM, ixEnd, ixD_lst, ixD_tup, childM, childR, SM.of, SM.nx, SM.fail, truthM, truthD, tmpM, ifM, RL.andM, RL.orM, RL.andV, RL.orV, boolM, asBl, cmp2, cmpD, bin2, binD, mulOk, neg1, not1, putM, RL.putAt, RL.setP, setD, setL1, tmpOf, bltD, lenD, bmM, bmD, isLst, smallI, setTg, absD, intD, ltD, leD, gtD, isD, isNone, tyD, isTab, isD', callM, comeBack, tgL, eqD_int, eqD_str, eqD_bl, eqD_non, viewD, flatD, fzL, ix1, gi, o1, o2, q]
            · simp [d, fd, run1, initE, exSs, exS, ev, evR, evT, evX, evXs, evXc, dispM, M.bind, M.ret, M.guard, M.lift, M.fail, takeL, takeR, varM, RL.slotAt, own_nd, own_int, own_str, own_bl, own_non, okPend, touch, touchL, touchR, rootV, varsV, varsL, pureOp, pkLM, pkL, pk, pkM, getP, backA, asgSs, asgS, two, one, ixM, ixEnd, ixD_lst, ixD_tup, childM, childR, SM.of, SM.nx, SM.fail, truthM, truthD, tmpM, ifM, RL.andM, RL.orM, RL.andV, RL.orV, boolM, asBl, cmp2, cmpD, bin2, binD, mulOk, neg1, not1, putM, RL.putAt, RL.setP, setD, setL1, tmpOf, bltD, lenD, bmM, bmD, isLst, smallI, setTg, absD, intD, ltD, leD, gtD, isD, isNone, tyD, isTab, isD', callM, comeBack, tgL, eqD_int, eqD_str, eqD_bl, eqD_non, viewD, flatD, fzL, ix1, gi, o1, o2, q])
      obtain ⟨e3, r⟩ := row_ok k xs hf hk (j + n + 1)
      refine ⟨_, run_rt (d := t__law_same) (ds := [d, d]) (e := [some d, some d, x2, none]) rfl rfl (by decide) ?_⟩
      show exSs P (RL.run P fd (j + n + 2)) b__law_same _ = _
      refine st_rt ?_
      have c : evT P (RL.run P fd (j + n + 2)) (.or (.blt .istuple [(.v 1)]) (.blt .islist [(.v 1)])) [some d, some d, none, none] = some (.ok true, [some d, some d, none, none]) := by
        rcases hk with rfl | rfl <;> simp [d, fd, run1, initE, exSs, exS, ev, evR, evT, evX, evXs, evXc, dispM, M.bind, M.ret, M.guard, M.lift, M.fail, takeL, takeR, varM, RL.slotAt, own_nd, own_int, own_str, own_bl, own_non, okPend, touch, touchL, touchR, rootV, varsV, varsL, pureOp, pkLM, pkL, pk, pkM, getP, backA, asgSs, asgS, two, one, ixM, ixEnd, ixD_lst, ixD_tup, childM, childR, SM.of, SM.nx, SM.fail, truthM, truthD, tmpM, ifM, RL.andM, RL.orM, RL.andV, RL.orV, boolM, asBl, cmp2, cmpD, bin2, binD, mulOk, neg1, not1, putM, RL.putAt, RL.setP, setD, setL1, tmpOf, bltD, lenD, bmM, bmD, isLst, smallI, setTg, absD, intD, ltD, leD, gtD, isD, isNone, tyD, isTab, isD', callM, comeBack, tgL, eqD_int, eqD_str, eqD_bl, eqD_non]
      refine (ex_ife c).trans ?_
      refine st_nx (e' := [some d, some d, none, none]) ?_ ?_
      · rcases hk with rfl | rfl
        · simp at r
          simp [d, fd, run1, initE, exSs, exS, ev, evR, evT, evX, evXs, evXc, dispM, M.bind, M.ret, M.guard, M.lift, M.fail, takeL, takeR, varM, RL.slotAt, own_nd, own_int, own_str, own_bl, own_non, okPend, touch, touchL, touchR, rootV, varsV, varsL, pureOp, pkLM, pkL, pk, pkM, getP, backA, asgSs, asgS, two, one, ixM, ixEnd, ixD_lst, ixD_tup, childM, childR, SM.of, SM.nx, SM.fail, truthM, truthD, tmpM, ifM, RL.andM, RL.orM, RL.andV, RL.orV, boolM, asBl, cmp2, cmpD, bin2, binD, mulOk, neg1, not1, putM, RL.putAt, RL.setP, setD, setL1, tmpOf, bltD, lenD, bmM, bmD, isLst, smallI, setTg, absD, intD, ltD, leD, gtD, isD, isNone, tyD, isTab, isD', callM, comeBack, tgL, eqD_int, eqD_str, eqD_bl, eqD_non, viewD, flatD, fzL, fz, hf, r]
        · simp at r
          simp [d, fd, run1, initE, exSs, exS, ev, evR, evT, evX, evXs, evXc, dispM, M.bind, M.ret, M.guard, M.lift, M.fail, takeL, takeR, varM, RL.slotAt, own_nd, own_int, own_str, own_bl, own_non, okPend, touch, touchL, touchR, rootV, varsV, varsL, pureOp, pkLM, pkL, pk, pkM, getP, backA, asgSs, asgS, two, one, ixM, ixEnd, ixD_lst, ixD_tup, childM, childR, SM.of, SM.nx, SM.fail, truthM, truthD, tmpM, ifM, RL.andM, RL.orM, RL.andV, RL.orV, boolM, asBl, cmp2, cmpD, bin2, binD, mulOk, neg1, not1, putM, RL.putAt, RL.setP, setD, setL1, tmpOf, bltD, lenD, bmM, bmD, isLst, smallI, setTg, absD, intD, ltD, leD, gtD, isD, isNone, tyD, isTab, isD', callM, comeBack, tgL, eqD_int, eqD_str, eqD_bl, eqD_non, viewD, flatD, fzL, fz, hf, r]
      refine st_nx (ex_for (rs := [.tmp (.int xs.length)]) (xs := rangeL 0 xs.length) (e' := [some d, some d, none, none]) ?_ f1) ?_
      · have b3 : (xs.length : Int) ≤ 1000000 := by omega
        have b4 : -1000000 ≤ (xs.length : Int) := by omega
        rcases hk with rfl | rfl <;> simp [d, fd, run1, initE, exSs, exS, ev, evR, evT, evX, evXs, evXc, dispM, M.bind, M.ret, M.guard, M.lift, M.fail, takeL, takeR, varM, RL.slotAt, own_nd, own_int, own_str, own_bl, own_non, okPend, touch, touchL, touchR, rootV, varsV, varsL, pureOp, pkLM, pkL, pk, pkM, getP, backA, asgSs, asgS, two, one, ixM, ixEnd, ixD_lst, ixD_tup, childM, childR, SM.of, SM.nx, SM.fail, truthM, truthD, tmpM, ifM, RL.andM, RL.orM, RL.andV, RL.orV, boolM, asBl, cmp2, cmpD, bin2, binD, mulOk, neg1, not1, putM, RL.putAt, RL.setP, setD, setL1, tmpOf, bltD, lenD, bmM, bmD, isLst, smallI, setTg, absD, intD, ltD, leD, gtD, isD, isNone, tyD, isTab, isD', callM, comeBack, tgL, eqD_int, eqD_str, eqD_bl, eqD_non, itM, apart, rfRoots, it_range1, b3, b4]
      refine st_rt ?_
      simp [fd, run1, initE, exSs, exS, ev, evR, evT, evX, evXs, evXc, dispM, M.bind, M.ret, M.guard, M.lift, M.fail, takeL, takeR, varM, RL.slotAt, own_nd, own_int, own_str, own_bl, own_non, okPend, touch, touchL, touchR, rootV, varsV, varsL, pureOp, pkLM, pkL, pk, pkM, getP, backA, asgSs, asgS, two, one, ixM, ixEnd, ixD_lst, ixD_tup, childM, childR, SM.of, SM.nx, SM.fail, truthM, truthD, tmpM, ifM, RL.andM, RL.orM, RL.andV, RL.orV, boolM, asBl, cmp2, cmpD, bin2, binD, mulOk, neg1, not1, putM, RL.putAt, RL.setP, setD, setL1, tmpOf, bltD, lenD, bmM, bmD, isLst, smallI, setTg, absD, intD, ltD, leD, gtD, isD, isNone, tyD, isTab, isD', callM, comeBack, tgL, eqD_int, eqD_str, eqD_bl, eqD_non]
end K65
set_option Elab.async false
set_option linter.all false
set_option maxRecDepth 100000
set_option maxHeartbeats 1000000
set_option exponentiation.threshold 2000
/-! k65, the plain law: the law. -/
namespace K65
open PySem RL
theorem rising_len (ns : List Int) : (rising ns).length ≤ ns.length := by
  have := (greedy_row ns 0 none _ rfl).2.1
  have h2 := best_le ns none
  have h3 : (rising ns).length = best none ns := this
  omega
theorem sd_iL (ns : List Int) (h : ns.length ≤ 1000) : Sd 1 (.lst (iL ns)) := .inr ⟨.lst, iL ns, .inl rfl, rfl, fun x m => by
  obtain ⟨i, _, rfl⟩ := List.mem_map.mp m
  exact .inl ⟨i, rfl⟩, by simpa using h⟩
theorem sd_told (ns : List Int) (h : ns.length ≤ 1000) : Sd 2 (.lst [.str "told", .lst (iL ns)]) := .inr ⟨.lst, _, .inl rfl, rfl, fun x m => by
  simp at m
  rcases m with rfl | rfl
  · exact .inl (.inr ⟨_, rfl, by decide +kernel⟩)
  · exact sd_iL ns h, by simp⟩
theorem sd_raised : Sd 2 (.lst [.str "raised", .str "BadValue", .tup [.str "numbers"]]) := .inr ⟨.lst, _, .inl rfl, rfl, fun x m => by
  simp at m
  rcases m with rfl | rfl | rfl
  · exact .inl (.inr ⟨_, rfl, by decide +kernel⟩)
  · exact .inl (.inr ⟨_, rfl, by decide +kernel⟩)
  · refine .inr ⟨.tup, _, .inr rfl, rfl, fun x m => ?_, by simp⟩
    simp at m
    subst m
    exact .inr ⟨_, rfl, by decide +kernel⟩, by simp⟩
theorem cut9 (ns : List Int) : cutL (iL ns) none (some 9) = iL (ns.take 9) := by
  have e : HT.sIx (iL ns).length (iL ns).length (some 9) = min 9 (iL ns).length := rfl
  rw [cutL, e, show iL (ns.take 9) = (iL ns).take 9 from List.map_take]
  have e2 : HT.sIx (iL ns).length 0 none = 0 := rfl
  rw [e2, List.drop_zero, Nat.sub_zero]
  by_cases h : 9 ≤ (iL ns).length
  · rw [Nat.min_eq_left h]
  · rw [Nat.min_eq_right (by omega), List.take_of_length_le (Nat.le_refl _), List.take_of_length_le (by omega)]
def lawB : List St' := [.asg 4 (.call f__law_numbers [(.v 1), (.ife (.and (.v 2) (.cmp .Eq (.v 3) (.c (.int 0)))) (.call f__law_from [(.v 1), (.c (.int 280)), (.c (.int 320))]) (.call f__law_next [(.v 1), (.c (.int 10))]))]), .asg 5 (.frz (.call f__law_due_row [(.v 4)])), .asg 6 (.blt .list [(.v 4)]), .asg 7 (.call f__law_ask [(.v 6)]), .ife (.or (.not (.view f__law_same [(.v 7), (.lst [(.c (.str "told")), (.v 5)])])) (.not (.view f__law_same [(.v 6), (.v 4)]))) [.ret (.c (.bl false))] [], .exp (.bm .append (.ix (.v 7) (.c (.int 1))) [(.c (.int 0))]), .ife (.not (.view f__law_same [(.call f__law_ask [(.v 6)]), (.lst [(.c (.str "told")), (.v 5)])])) [.ret (.c (.bl false))] [], .asg 8 (.call f__law_wrong [(.v 1), (.sl false true (.v 4) (.c .non) (.c (.int 9)))]), .ife (.not (.view f__law_same [(.call f__law_ask [(.v 8)]), (.lst [(.c (.str "raised")), (.c (.str "BadValue")), (.tup [(.c (.str "numbers"))])])])) [.ret (.c (.bl false))] []]
theorem law_nums (scr s : D) (b : Bool) (i : Nat) (hs : IsSt s) (hc : scr.own = false) (x4 x5 x6 x7 x8 : Option D) : ∃ ns s', exS P (RL.run P fd 11) (.asg 4 (.call f__law_numbers [(.v 1), (.ife (.and (.v 2) (.cmp .Eq (.v 3) (.c (.int 0)))) (.call f__law_from [(.v 1), (.c (.int 280)), (.c (.int 320))]) (.call f__law_next [(.v 1), (.c (.int 10))]))])) [some scr, some s, some (.bl b), some (.int i), x4, x5, x6, x7, x8] =
    some (.nx, [some scr, some s', some (.bl b), some (.int i), some (.olst (iL ns)), x5, x6, x7, x8]) ∧ ns.Nodup ∧ ns.length ≤ 900 ∧ IsSt s' := by
  have hso := hs.own
  by_cases h : b = true ∧ i = 0
  · obtain ⟨rfl, rfl⟩ := h
    obtain ⟨v, s1, f1, f2, f3, f4⟩ := from_ok hs 280 320 9 (by omega) (by omega)
    obtain ⟨ns, s2, g1, g2, g3, g4⟩ := numbers_ok f4 v (by omega) (by omega) 7
    have hso1 := f4.own
    have hso2 := g4.own
    refine ⟨ns, s2, ?_, g2, by omega, g4⟩
    simp [fd, run1, initE, exSs, exS, ev, evR, evT, evX, evXs, evXc, dispM, M.bind, M.ret, M.guard, M.lift, M.fail, takeL, takeR, varM, RL.slotAt, own_nd, own_int, own_str, own_bl, own_non, okPend, touch, touchL, touchR, rootV, varsV, varsL, pureOp, pkLM, pkL, pk, pkM, getP, backA, asgSs, asgS, two, one, ixM, ixEnd, ixD_lst, ixD_tup, childM, childR, SM.of, SM.nx, SM.fail, truthM, truthD, tmpM, ifM, RL.andM, RL.orM, RL.andV, RL.orV, boolM, asBl, cmp2, cmpD, bin2, binD, mulOk, neg1, not1, putM, RL.putAt, RL.setP, setD, setL1, tmpOf, bltD, lenD, bmM, bmD, isLst, smallI, setTg, absD, intD, ltD, leD, gtD, isD, isNone, tyD, isTab, isD', callM, comeBack, tgL, eqD_int, eqD_str, eqD_bl, eqD_non, f1, g1, hso, hso1, hso2]
  · obtain ⟨v, s1, f1, f2, f3, f4⟩ := next_ok hs 10 10 (by omega) (by omega)
    obtain ⟨ns, s2, g1, g2, g3, g4⟩ := numbers_ok f4 v (by omega) (by omega) 7
    have hso1 := f4.own
    have hso2 := g4.own
    refine ⟨ns, s2, ?_, g2, by omega, g4⟩
    cases b with
    | false => simp [fd, run1, initE, exSs, exS, ev, evR, evT, evX, evXs, evXc, dispM, M.bind, M.ret, M.guard, M.lift, M.fail, takeL, takeR, varM, RL.slotAt, own_nd, own_int, own_str, own_bl, own_non, okPend, touch, touchL, touchR, rootV, varsV, varsL, pureOp, pkLM, pkL, pk, pkM, getP, backA, asgSs, asgS, two, one, ixM, ixEnd, ixD_lst, ixD_tup, childM, childR, SM.of, SM.nx, SM.fail, truthM, truthD, tmpM, ifM, RL.andM, RL.orM, RL.andV, RL.orV, boolM, asBl, cmp2, cmpD, bin2, binD, mulOk, neg1, not1, putM, RL.putAt, RL.setP, setD, setL1, tmpOf, bltD, lenD, bmM, bmD, isLst, smallI, setTg, absD, intD, ltD, leD, gtD, isD, isNone, tyD, isTab, isD', callM, comeBack, tgL, eqD_int, eqD_str, eqD_bl, eqD_non, f1, g1, hso, hso1, hso2]
    | true =>
      have hi : i ≠ 0 := fun z => h ⟨rfl, z⟩
      simp [fd, run1, initE, exSs, exS, ev, evR, evT, evX, evXs, evXc, dispM, M.bind, M.ret, M.guard, M.lift, M.fail, takeL, takeR, varM, RL.slotAt, own_nd, own_int, own_str, own_bl, own_non, okPend, touch, touchL, touchR, rootV, varsV, varsL, pureOp, pkLM, pkL, pk, pkM, getP, backA, asgSs, asgS, two, one, ixM, ixEnd, ixD_lst, ixD_tup, childM, childR, SM.of, SM.nx, SM.fail, truthM, truthD, tmpM, ifM, RL.andM, RL.orM, RL.andV, RL.orV, boolM, asBl, cmp2, cmpD, bin2, binD, mulOk, neg1, not1, putM, RL.putAt, RL.setP, setD, setL1, tmpOf, bltD, lenD, bmM, bmD, isLst, smallI, setTg, absD, intD, ltD, leD, gtD, isD, isNone, tyD, isTab, isD', callM, comeBack, tgL, eqD_int, eqD_str, eqD_bl, eqD_non, f1, g1, hso, hso1, hso2, hi]
theorem law_turn (scr s : D) (b : Bool) (i : Nat) (hs : IsSt s) (hc : scr.own = false) (x4 x5 x6 x7 x8 : Option D) : ∃ s' y4 y5 y6 y7 y8, exSs P (RL.run P fd 11) lawB [some scr, some s, some (.bl b), some (.int i), x4, x5, x6, x7, x8] =
    some (.nx, [some scr, some s', some (.bl b), some (.int i), y4, y5, y6, y7, y8]) ∧ IsSt s' := by
  obtain ⟨ns, s1, n1, n2, n3, n4⟩ := law_nums scr s b i hs hc x4 x5 x6 x7 x8
  have due := due_ok ns (by omega) 9
  have ask := ask_ok ns n2 (by omega) 6
  obtain ⟨w, s2, w1, w2, w3⟩ := wrong_ok n4 (ns.take 9) (by simp; omega) 8
  have askw := ask_bad w2 6
  have rl := rising_len ns
  obtain ⟨e1, q1⟩ := same_ok 2 _ (sd_told (rising ns) (by omega)) 7
  obtain ⟨e2, q2⟩ := same_ok 1 _ (sd_iL ns (by omega)) 8
  obtain ⟨e3, q3⟩ := same_ok 2 _ sd_raised 7
  have pl := plain_ints ns
  have c9 := cut9 ns
  have fzn : fzL (ns.map D.int) = ns.map D.int := iL_fz ns
  generalize rising ns = R at *
  have fzr : fzL (R.map D.int) = R.map D.int := iL_fz R
  have l2 : 2 ≤ lim := by decide
  have l3 : 3 ≤ lim := by decide
  have l1 : 1 ≤ lim := by decide
  have hR : R.length < lim := by simp [lim]; omega
  have hso1 := n4.own
  have hso2 := w3.own
  refine ⟨s2, some (.olst (iL ns)), some (.lst (iL R)), some (.olst (iL ns)), some (.olst [.str "told", .olst (iL (R ++ [0]))]), some w, ?_, w3⟩
  refine st_nx n1 ?_
  refine st_nx (e' := [some scr, some s1, some (.bl b), some (.int i), some (.olst (iL ns)), some (.lst (iL R)), x6, x7, x8]) ?_ ?_
  · rcases due with due | due
    · simp [fd, run1, initE, exSs, exS, ev, evR, evT, evX, evXs, evXc, dispM, M.bind, M.ret, M.guard, M.lift, M.fail, takeL, takeR, varM, RL.slotAt, own_nd, own_int, own_str, own_bl, own_non, okPend, touch, touchL, touchR, rootV, varsV, varsL, pureOp, pkLM, pkL, pk, pkM, getP, backA, asgSs, asgS, two, one, ixM, ixEnd, ixD_lst, ixD_tup, childM, childR, SM.of, SM.nx, SM.fail, truthM, truthD, tmpM, ifM, RL.andM, RL.orM, RL.andV, RL.orV, boolM, asBl, cmp2, cmpD, bin2, binD, mulOk, neg1, not1, putM, RL.putAt, RL.setP, setD, setL1, tmpOf, bltD, lenD, bmM, bmD, isLst, smallI, setTg, absD, intD, ltD, leD, gtD, isD, isNone, tyD, isTab, isD', callM, comeBack, tgL, eqD_int, eqD_str, eqD_bl, eqD_non, due, fz, fzr]
    · simp [fd, run1, initE, exSs, exS, ev, evR, evT, evX, evXs, evXc, dispM, M.bind, M.ret, M.guard, M.lift, M.fail, takeL, takeR, varM, RL.slotAt, own_nd, own_int, own_str, own_bl, own_non, okPend, touch, touchL, touchR, rootV, varsV, varsL, pureOp, pkLM, pkL, pk, pkM, getP, backA, asgSs, asgS, two, one, ixM, ixEnd, ixD_lst, ixD_tup, childM, childR, SM.of, SM.nx, SM.fail, truthM, truthD, tmpM, ifM, RL.andM, RL.orM, RL.andV, RL.orV, boolM, asBl, cmp2, cmpD, bin2, binD, mulOk, neg1, not1, putM, RL.putAt, RL.setP, setD, setL1, tmpOf, bltD, lenD, bmM, bmD, isLst, smallI, setTg, absD, intD, ltD, leD, gtD, isD, isNone, tyD, isTab, isD', callM, comeBack, tgL, eqD_int, eqD_str, eqD_bl, eqD_non, due, fz, fzr]
  refine st_nx (e' := [some scr, some s1, some (.bl b), some (.int i), some (.olst (iL ns)), some (.lst (iL R)), some (.olst (iL ns)), x7, x8]) ?_ ?_
  · simp [fd, run1, initE, exSs, exS, ev, evR, evT, evX, evXs, evXc, dispM, M.bind, M.ret, M.guard, M.lift, M.fail, takeL, takeR, varM, RL.slotAt, own_nd, own_int, own_str, own_bl, own_non, okPend, touch, touchL, touchR, rootV, varsV, varsL, pureOp, pkLM, pkL, pk, pkM, getP, backA, asgSs, asgS, two, one, ixM, ixEnd, ixD_lst, ixD_tup, childM, childR, SM.of, SM.nx, SM.fail, truthM, truthD, tmpM, ifM, RL.andM, RL.orM, RL.andV, RL.orV, boolM, asBl, cmp2, cmpD, bin2, binD, mulOk, neg1, not1, putM, RL.putAt, RL.setP, setD, setL1, tmpOf, bltD, lenD, bmM, bmD, isLst, smallI, setTg, absD, intD, ltD, leD, gtD, isD, isNone, tyD, isTab, isD', callM, comeBack, tgL, eqD_int, eqD_str, eqD_bl, eqD_non, listD, isSeq, pl]
  refine st_nx (e' := [some scr, some s1, some (.bl b), some (.int i), some (.olst (iL ns)), some (.lst (iL R)), some (.olst (iL ns)), some (.olst [.str "told", .olst (iL R)]), x8]) ?_ ?_
  · simp [fd, run1, initE, exSs, exS, ev, evR, evT, evX, evXs, evXc, dispM, M.bind, M.ret, M.guard, M.lift, M.fail, takeL, takeR, varM, RL.slotAt, own_nd, own_int, own_str, own_bl, own_non, okPend, touch, touchL, touchR, rootV, varsV, varsL, pureOp, pkLM, pkL, pk, pkM, getP, backA, asgSs, asgS, two, one, ixM, ixEnd, ixD_lst, ixD_tup, childM, childR, SM.of, SM.nx, SM.fail, truthM, truthD, tmpM, ifM, RL.andM, RL.orM, RL.andV, RL.orV, boolM, asBl, cmp2, cmpD, bin2, binD, mulOk, neg1, not1, putM, RL.putAt, RL.setP, setD, setL1, tmpOf, bltD, lenD, bmM, bmD, isLst, smallI, setTg, absD, intD, ltD, leD, gtD, isD, isNone, tyD, isTab, isD', callM, comeBack, tgL, eqD_int, eqD_str, eqD_bl, eqD_non, ask]
  refine st_nx (e' := [some scr, some s1, some (.bl b), some (.int i), some (.olst (iL ns)), some (.lst (iL R)), some (.olst (iL ns)), some (.olst [.str "told", .olst (iL R)]), x8]) ?_ ?_
  · simp [fd, run1, initE, exSs, exS, ev, evR, evT, evX, evXs, evXc, dispM, M.bind, M.ret, M.guard, M.lift, M.fail, takeL, takeR, varM, RL.slotAt, own_nd, own_int, own_str, own_bl, own_non, okPend, touch, touchL, touchR, rootV, varsV, varsL, pureOp, pkLM, pkL, pk, pkM, getP, backA, asgSs, asgS, two, one, ixM, ixEnd, ixD_lst, ixD_tup, childM, childR, SM.of, SM.nx, SM.fail, truthM, truthD, tmpM, ifM, RL.andM, RL.orM, RL.andV, RL.orV, boolM, asBl, cmp2, cmpD, bin2, binD, mulOk, neg1, not1, putM, RL.putAt, RL.setP, setD, setL1, tmpOf, bltD, lenD, bmM, bmD, isLst, smallI, setTg, absD, intD, ltD, leD, gtD, isD, isNone, tyD, isTab, isD', callM, comeBack, tgL, eqD_int, eqD_str, eqD_bl, eqD_non, viewD, flatD, fzL, fz, fzr, fzn, q1, q2, l2]
  refine st_nx (e' := [some scr, some s1, some (.bl b), some (.int i), some (.olst (iL ns)), some (.lst (iL R)), some (.olst (iL ns)), some (.olst [.str "told", .olst (iL (R ++ [0]))]), x8]) ?_ ?_
  · simp [fd, run1, initE, exSs, exS, ev, evR, evT, evX, evXs, evXc, dispM, M.bind, M.ret, M.guard, M.lift, M.fail, takeL, takeR, varM, RL.slotAt, own_nd, own_int, own_str, own_bl, own_non, okPend, touch, touchL, touchR, rootV, varsV, varsL, pureOp, pkLM, pkL, pk, pkM, getP, backA, asgSs, asgS, two, one, ixM, ixEnd, ixD_lst, ixD_tup, childM, childR, SM.of, SM.nx, SM.fail, truthM, truthD, tmpM, ifM, RL.andM, RL.orM, RL.andV, RL.orV, boolM, asBl, cmp2, cmpD, bin2, binD, mulOk, neg1, not1, putM, RL.putAt, RL.setP, setD, setL1, tmpOf, bltD, lenD, bmM, bmD, isLst, smallI, setTg, absD, intD, ltD, leD, gtD, isD, isNone, tyD, isTab, isD', callM, comeBack, tgL, eqD_int, eqD_str, eqD_bl, eqD_non, hR, ixN1]
  refine st_nx (e' := [some scr, some s1, some (.bl b), some (.int i), some (.olst (iL ns)), some (.lst (iL R)), some (.olst (iL ns)), some (.olst [.str "told", .olst (iL (R ++ [0]))]), x8]) ?_ ?_
  · simp [fd, run1, initE, exSs, exS, ev, evR, evT, evX, evXs, evXc, dispM, M.bind, M.ret, M.guard, M.lift, M.fail, takeL, takeR, varM, RL.slotAt, own_nd, own_int, own_str, own_bl, own_non, okPend, touch, touchL, touchR, rootV, varsV, varsL, pureOp, pkLM, pkL, pk, pkM, getP, backA, asgSs, asgS, two, one, ixM, ixEnd, ixD_lst, ixD_tup, childM, childR, SM.of, SM.nx, SM.fail, truthM, truthD, tmpM, ifM, RL.andM, RL.orM, RL.andV, RL.orV, boolM, asBl, cmp2, cmpD, bin2, binD, mulOk, neg1, not1, putM, RL.putAt, RL.setP, setD, setL1, tmpOf, bltD, lenD, bmM, bmD, isLst, smallI, setTg, absD, intD, ltD, leD, gtD, isD, isNone, tyD, isTab, isD', callM, comeBack, tgL, eqD_int, eqD_str, eqD_bl, eqD_non, viewD, flatD, fzL, fz, fzr, fzn, q1, q2, l2, ask]
  refine st_nx (e' := [some scr, some s2, some (.bl b), some (.int i), some (.olst (iL ns)), some (.lst (iL R)), some (.olst (iL ns)), some (.olst [.str "told", .olst (iL (R ++ [0]))]), some w]) ?_ ?_
  · simp at w1
    simp [fd, run1, initE, exSs, exS, ev, evR, evT, evX, evXs, evXc, dispM, M.bind, M.ret, M.guard, M.lift, M.fail, takeL, takeR, varM, RL.slotAt, own_nd, own_int, own_str, own_bl, own_non, okPend, touch, touchL, touchR, rootV, varsV, varsL, pureOp, pkLM, pkL, pk, pkM, getP, backA, asgSs, asgS, two, one, ixM, ixEnd, ixD_lst, ixD_tup, childM, childR, SM.of, SM.nx, SM.fail, truthM, truthD, tmpM, ifM, RL.andM, RL.orM, RL.andV, RL.orV, boolM, asBl, cmp2, cmpD, bin2, binD, mulOk, neg1, not1, putM, RL.putAt, RL.setP, setD, setL1, tmpOf, bltD, lenD, bmM, bmD, isLst, smallI, setTg, absD, intD, ltD, leD, gtD, isD, isNone, tyD, isTab, isD', callM, comeBack, tgL, eqD_int, eqD_str, eqD_bl, eqD_non, sliceM, optM, partM, sliceD, pl, c9, w1, hso1, hso2]
  refine st_nx ?_ st_nil
  cases ho : w.own with
  | true => simp [fd, run1, initE, exSs, exS, ev, evR, evT, evX, evXs, evXc, dispM, M.bind, M.ret, M.guard, M.lift, M.fail, takeL, takeR, varM, RL.slotAt, own_nd, own_int, own_str, own_bl, own_non, okPend, touch, touchL, touchR, rootV, varsV, varsL, pureOp, pkLM, pkL, pk, pkM, getP, backA, asgSs, asgS, two, one, ixM, ixEnd, ixD_lst, ixD_tup, childM, childR, SM.of, SM.nx, SM.fail, truthM, truthD, tmpM, ifM, RL.andM, RL.orM, RL.andV, RL.orV, boolM, asBl, cmp2, cmpD, bin2, binD, mulOk, neg1, not1, putM, RL.putAt, RL.setP, setD, setL1, tmpOf, bltD, lenD, bmM, bmD, isLst, smallI, setTg, absD, intD, ltD, leD, gtD, isD, isNone, tyD, isTab, isD', callM, comeBack, tgL, eqD_int, eqD_str, eqD_bl, eqD_non, viewD, flatD, fzL, fz, q3, l3, l1, askw, ho]
  | false => simp [fd, run1, initE, exSs, exS, ev, evR, evT, evX, evXs, evXc, dispM, M.bind, M.ret, M.guard, M.lift, M.fail, takeL, takeR, varM, RL.slotAt, own_nd, own_int, own_str, own_bl, own_non, okPend, touch, touchL, touchR, rootV, varsV, varsL, pureOp, pkLM, pkL, pk, pkM, getP, backA, asgSs, asgS, two, one, ixM, ixEnd, ixD_lst, ixD_tup, childM, childR, SM.of, SM.nx, SM.fail, truthM, truthD, tmpM, ifM, RL.andM, RL.orM, RL.andV, RL.orV, boolM, asBl, cmp2, cmpD, bin2, binD, mulOk, neg1, not1, putM, RL.putAt, RL.setP, setD, setL1, tmpOf, bltD, lenD, bmM, bmD, isLst, smallI, setTg, absD, intD, ltD, leD, gtD, isD, isNone, tyD, isTab, isD', callM, comeBack, tgL, eqD_int, eqD_str, eqD_bl, eqD_non, viewD, flatD, fzL, fz, q3, l3, l1, askw, ho]
theorem plain (ns : List Int) (h : ns.length ≤ 63) : ∃ ds', RL.run P fd 12 f_law [.nd false .fr (ns.map D.int)] = some (.ok (.bl true), ds') := by
  have st0 := stream_ok ns 10
  have hs0 : IsSt (st ns 0 0) := ⟨ns, 0, 0, rfl, by omega, by omega⟩
  obtain ⟨d, s1, n1, n2, n3, n4⟩ := next_ok hs0 30 10 (by omega) (by omega)
  have hso0 := hs0.own
  have hso1 := n4.own
  generalize hscr : D.nd false .fr (ns.map D.int) = scr at *
  have hc : scr.own = false := by rw [← hscr]; rfl
  generalize st ns 0 0 = s0 at *
  let I : Nat → Env' → Prop := fun i e => ∃ s x3 x4 x5 x6 x7 x8, e = [some scr, some s, some (.bl (decide (d = 0))), x3, x4, x5, x6, x7, x8] ∧ IsSt s
  obtain ⟨e1, f1, s2, x3, x4, x5, x6, x7, x8, rfl, hs2⟩ := forL_inv (set := setTg (.nm 3)) (body := exSs P (RL.run P fd 11) lawB) I (rangeL 0 3) [some scr, some s1, some (.bl (decide (d = 0))), none, none, none, none, none, none] 0
    ⟨s1, none, none, none, none, none, none, rfl, n4⟩ (fun i x e hx hI => by
      obtain ⟨s, x3, x4, x5, x6, x7, x8, rfl, hs⟩ := hI
      obtain ⟨hi, rfl⟩ := rangeL_at _ _ _ _ hx
      obtain ⟨s', y4, y5, y6, y7, y8, q1, q2⟩ := law_turn scr s (decide (d = 0)) i hs hc x4 x5 x6 x7 x8
      refine ⟨_, _, ?_, q1, s', _, y4, y5, y6, y7, y8, rfl, q2⟩
      rw [show (0 : Int) + i = i by omega]; rfl)
  refine ⟨_, run_rt (d := t_law) (ds := [scr]) (e := [some scr, some s2, some (.bl (decide (d = 0))), x3, x4, x5, x6, x7, x8]) rfl rfl (by decide) ?_⟩
  show exSs P (RL.run P fd 11) b_law _ = _
  refine st_nx (e' := [some scr, some s0, none, none, none, none, none, none, none]) (by simp [fd, run1, initE, exSs, exS, ev, evR, evT, evX, evXs, evXc, dispM, M.bind, M.ret, M.guard, M.lift, M.fail, takeL, takeR, varM, RL.slotAt, own_nd, own_int, own_str, own_bl, own_non, okPend, touch, touchL, touchR, rootV, varsV, varsL, pureOp, pkLM, pkL, pk, pkM, getP, backA, asgSs, asgS, two, one, ixM, ixEnd, ixD_lst, ixD_tup, childM, childR, SM.of, SM.nx, SM.fail, truthM, truthD, tmpM, ifM, RL.andM, RL.orM, RL.andV, RL.orV, boolM, asBl, cmp2, cmpD, bin2, binD, mulOk, neg1, not1, putM, RL.putAt, RL.setP, setD, setL1, tmpOf, bltD, lenD, bmM, bmD, isLst, smallI, setTg, absD, intD, ltD, leD, gtD, isD, isNone, tyD, isTab, isD', callM, comeBack, tgL, eqD_int, eqD_str, eqD_bl, eqD_non, t_law, st0, hc]) ?_
  refine st_nx (e' := [some scr, some s1, some (.bl (decide (d = 0))), none, none, none, none, none, none]) (by simp [fd, run1, initE, exSs, exS, ev, evR, evT, evX, evXs, evXc, dispM, M.bind, M.ret, M.guard, M.lift, M.fail, takeL, takeR, varM, RL.slotAt, own_nd, own_int, own_str, own_bl, own_non, okPend, touch, touchL, touchR, rootV, varsV, varsL, pureOp, pkLM, pkL, pk, pkM, getP, backA, asgSs, asgS, two, one, ixM, ixEnd, ixD_lst, ixD_tup, childM, childR, SM.of, SM.nx, SM.fail, truthM, truthD, tmpM, ifM, RL.andM, RL.orM, RL.andV, RL.orV, boolM, asBl, cmp2, cmpD, bin2, binD, mulOk, neg1, not1, putM, RL.putAt, RL.setP, setD, setL1, tmpOf, bltD, lenD, bmM, bmD, isLst, smallI, setTg, absD, intD, ltD, leD, gtD, isD, isNone, tyD, isTab, isD', callM, comeBack, tgL, eqD_int, eqD_str, eqD_bl, eqD_non, n1, hso0, hso1]) ?_
  refine st_nx (ex_for (rs := [.tmp (.int 3)]) (xs := rangeL 0 3) (e' := [some scr, some s1, some (.bl (decide (d = 0))), none, none, none, none, none, none]) ?_ f1) ?_
  · simp [fd, run1, initE, exSs, exS, ev, evR, evT, evX, evXs, evXc, dispM, M.bind, M.ret, M.guard, M.lift, M.fail, takeL, takeR, varM, RL.slotAt, own_nd, own_int, own_str, own_bl, own_non, okPend, touch, touchL, touchR, rootV, varsV, varsL, pureOp, pkLM, pkL, pk, pkM, getP, backA, asgSs, asgS, two, one, ixM, ixEnd, ixD_lst, ixD_tup, childM, childR, SM.of, SM.nx, SM.fail, truthM, truthD, tmpM, ifM, RL.andM, RL.orM, RL.andV, RL.orV, boolM, asBl, cmp2, cmpD, bin2, binD, mulOk, neg1, not1, putM, RL.putAt, RL.setP, setD, setL1, tmpOf, bltD, lenD, bmM, bmD, isLst, smallI, setTg, absD, intD, ltD, leD, gtD, isD, isNone, tyD, isTab, isD', callM, comeBack, tgL, eqD_int, eqD_str, eqD_bl, eqD_non, itM, apart, rfRoots, itD]
  refine st_rt ?_
  simp [fd, run1, initE, exSs, exS, ev, evR, evT, evX, evXs, evXc, dispM, M.bind, M.ret, M.guard, M.lift, M.fail, takeL, takeR, varM, RL.slotAt, own_nd, own_int, own_str, own_bl, own_non, okPend, touch, touchL, touchR, rootV, varsV, varsL, pureOp, pkLM, pkL, pk, pkM, getP, backA, asgSs, asgS, two, one, ixM, ixEnd, ixD_lst, ixD_tup, childM, childR, SM.of, SM.nx, SM.fail, truthM, truthD, tmpM, ifM, RL.andM, RL.orM, RL.andV, RL.orV, boolM, asBl, cmp2, cmpD, bin2, binD, mulOk, neg1, not1, putM, RL.putAt, RL.setP, setD, setL1, tmpOf, bltD, lenD, bmM, bmD, isLst, smallI, setTg, absD, intD, ltD, leD, gtD, isD, isNone, tyD, isTab, isD', callM, comeBack, tgL, eqD_int, eqD_str, eqD_bl, eqD_non]
end K65
set_option Elab.async false
set_option linter.all false
set_option maxRecDepth 100000
set_option maxHeartbeats 0
open PySem PySem.W PySem.Calls PyProof.Rows
theorem PySem.Challenge.cw_togetherapart_k65_the_kept_row_holds : PySem.Challenge.rw_togetherapart_k65_the_kept_row.Holds := by
  w_on; o_law
  refine HandSHeadRun.head_any (r := OpenLaw.row PySem.Challenge.rw_togetherapart_k65_the_kept_row) (q := K65.qv) (H := K65.hk) (ob := RL.obR 5 K65.fa K65.fn K65.ex) (M := 6000) (loose := K65.names) (d := HandSHeadRun.topDef (OpenLaw.row PySem.Challenge.rw_togetherapart_k65_the_kept_row).prog 39) (kwd := []) RL.obR_eq
    (by kernel_rfl) (fun s => by kernel_rfl) K65.run_head (by kernel_rfl) (by kernel_rfl) (by kernel_rfl) (by rfl) (by first | assumption | decide +kernel) (by decide +kernel) ⟨rfl, rfl, rfl, rfl, rfl, by decide +kernel⟩ ?hw ?hc
  case hw => w_witness2
  case hc =>
    refine L2.walk_ofE (l := PySem.Challenge.rw_togetherapart_k65_the_kept_row) (n := 63) (k := 14) (x := "script") (CX := L2.CX0) rfl (by decide) (by kernel_rfl) ⟨rfl, by decide, by decide⟩ ?F (fun _ _ _ _ z => z)
    intro w mg fa h Y G hmg0
    obtain ⟨K, KX, c, hx⟩ := Y
    have hd : K65.d_law ∈ K65.defs := by simp [K65.defs]
    have B := fun base => K65.tabs (w := w) (base := base) KX G c hx
    have hmg : mg ("law" : PySem.Str) = some (.ref fa) := by
      have e : (HandSHeadRun.topDef (OpenLaw.row PySem.Challenge.rw_togetherapart_k65_the_kept_row).prog 39).name = ("law" : PySem.Str) := by kernel_rfl
      rw [← e]
      exact hmg0
    have e := hmg.symm.trans ((B h).g _ hd)
    cases e
    obtain ⟨fdat, F⟩ := RL.says_def c (d := RL.dfD K65.d_law.x K65.d_law.st) (List.mem_append_left _ (List.mem_map_of_mem hd))
    have b := L2.FunD.bindsA (ps := ["script"]) F fun _ _ _ _ _ _ us hl => match us, hl with | [_], _ => rfl
    refine ⟨K, fdat, (fun vs H Q _ => RL.spOf (K65.TB K) (RL.run K65.P K65.fd 12 K65.f_law) vs H Q fun _ _ _ => False), KX, fun s v => b s [v] rfl, fun H a ns hl _ hS => ?_, fun base _ _ => RL.FnOk.toCX0 (RL.all_ok (B base) 12 _ hd fdat (RL.fun_ofD F))⟩
    obtain ⟨ds', hr⟩ := K65.plain ns hl
    exact RL.law_sp (T := K65.TB K) hS hr
